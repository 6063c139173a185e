import PyProof.Rows.All
import Wide.All
import OpenK.AllK
import Wide.FinOn
import HandS.ForMost
import HandS.Exc
import HandS.ExcOwn
import HandS.TryOnly
import HandS.WordsExc
import HandS.IsInst
import HandS.Wide
import HandS.Gcd
import HandS.Flow
import HandS.Style
import HandS.TupLe
import HandS.TupAny
import HandS.Deep
import HandS.Conv
import HandS.Lambda
import HandS.WideBits
import HandS.SortOrd
import HandS.Sort
import HandS.SortRule
import HandS.RaiseMore
import KE.DataMinMax
import PyProof.ReprRoads
import HandS.SortInts
import HandS.EndBits
import HandS.EndTab
import KE.KExcSuper
import HandS.ExcInit
import HandS.ExcField
import HandS.ExcIs
import HandS.ExcValue
import HandS.SetFor
import KE.KExcIs
import KE.IntBitsLaws
import PySem.Challenge.RW_anyserve_k08_play_refused
set_option Elab.async false
set_option linter.all false
set_option maxRecDepth 100000
set_option maxHeartbeats 2000000
/-! A data layer over the hand layer: what expressions and statements compute, as partial functions of plain data. -/
namespace DL
open PySem PySem.Spec PyProof.Rows L2

/-- plain data; kls: a list that is only read (the script, a module's constant); cel: a list that may change, by its number in the store -/
inductive D where
  | non
  | bl (b : Bool)
  | int (i : Int)
  | str (x : Str)
  | lst (xs : List D)
  | kls (xs : List D)
  | tup (xs : List D)
  | dct (xs : List (D × D))
  | cel (i : Nat)
  | fn (f : Addr)
  | exc (c : Str) (d : D)

/-- a list that may change: open, locked while it is walked, or gone (it is data from then on); or the table of a code object -/
inductive CO where
  | lst (xs : List D)
  | lk (xs : List D)
  | gone
  | tab (P : Addr) (q : Str)
abbrev Sto := List CO
abbrev Env := List (Option D)
def CO.live : CO → Bool
  | .gone => false
  | _ => true

/-- what a run comes to -/
inductive Res (α : Type) where
  | ok (a : α) (S : Sto)
  | err (c : Str) (d : D) (S : Sto)
  | bad
def Res.bind {α β : Type} (x : Res α) (f : α → Sto → Res β) : Res β := match x with
  | .ok a S => f a S
  | .err c d S => .err c d S
  | .bad => .bad
@[simp] theorem Res.bind_ok {α β : Type} (a : α) (S : Sto) (f : α → Sto → Res β) : (Res.ok a S).bind f = f a S := rfl
@[simp] theorem Res.bind_err {α β : Type} (c : Str) (d : D) (S : Sto) (f : α → Sto → Res β) : (Res.err c d S : Res α).bind f = .err c d S := rfl
@[simp] theorem Res.bind_bad {α β : Type} (f : α → Sto → Res β) : (Res.bad : Res α).bind f = .bad := rfl

/-- the heap without the lists that may change -/
def cut (A Z : List Addr) (S : Sto) (H : Hp) : Hp := fun b => if (Z.contains b || (A.zip S).any (fun p => p.2.live && p.1 == b)) = true then none else H b

/-- the class of the name c -/
def caK (K : PySem.W.Frag) (c : Str) : Addr := match PySem.W.nsIn K mainGlobals c with
  | some (some (.ref a)) => a
  | _ => 0
/-- an exception's object -/
def ExV (cls : Value) (d : Option Addr) (a : Addr) : HO := .ext fun h => ∃ (oe : Obj) (vs : Array Value), h.get? a = some oe ∧ Zc cls d oe ∧ oe.data = .fields vs
section
variable (A : List Addr) (G : Hp) (K : PySem.W.Frag)
mutual
inductive DR : V → D → Prop
  | non : DR .non .non
  | bl (b : Bool) : DR (.bl b) (.bl b)
  | int (i : Int) : DR (.int i) (.int i)
  | str (x : Str) : DR (.str x) (.str x)
  | lst {a : Addr} {vs : List V} {ds : List D} : G a = some (.lst vs) → DRs vs ds → DR (.ref a) (.lst ds)
  | kls {a : Addr} {vs : List V} {ds : List D} : SqL K G a vs → DRs vs ds → DR (.ref a) (.kls ds)
  | tup {a : Addr} {vs : List V} {ds : List D} : SqT K G a vs → DRs vs ds → DR (.ref a) (.tup ds)
  | dct0 {a : Addr} : G a = some (.dK []) → DR (.ref a) (.dct [])
  | cel {a : Addr} {i : Nat} : A[i]? = some a → DR (.ref a) (.cel i)
  | fn (f : Addr) : DR (.ref f) (.fn f)
  | exc {a dd : Addr} {c : Str} {v : V} {d : D} : G a = some (ExV (.ref (caK K c)) (some dd) a) → G dd = some (.xd [("value", v)]) → DR v d → DR (.ref a) (.exc c d)
inductive DRs : List V → List D → Prop
  | nil : DRs [] []
  | cons {v : V} {vs : List V} {d : D} {ds : List D} : DR v d → DRs vs ds → DRs (v :: vs) (d :: ds)
end
end
section
variable {A A' : List Addr} {G G' : Hp} {K : PySem.W.Frag}
theorem DRs.length {vs : List V} {ds : List D} (h : DRs A G K vs ds) : vs.length = ds.length := by
  induction ds generalizing vs with
  | nil => cases h; rfl
  | cons d ds ih =>
    cases h with
    | cons h1 h2 => simp [ih h2]
theorem rd_mono {a : Addr} {u : HO} (e : ∀ b o, G b = some o → G' b = some o) (h : Rd G a u) : Rd G' a u := by
  rcases h with h | ⟨o, h⟩
  · exact .inl (e _ _ h)
  · exact .inr ⟨o, e _ _ h⟩
theorem sql_mono {a : Addr} {xs : List V} (e : ∀ b o, G b = some o → G' b = some o) (h : SqL K G a xs) : SqL K G' a xs := by
  rcases h with h | h
  · exact .inl (rd_mono e h)
  · exact .inr h
theorem sqt_mono {a : Addr} {xs : List V} (e : ∀ b o, G b = some o → G' b = some o) (h : SqT K G a xs) : SqT K G' a xs := by
  rcases h with h | h
  · exact .inl (rd_mono e h)
  · exact .inr h
mutual
theorem DR.mono (p : A <+: A') (e : ∀ b o, G b = some o → G' b = some o) : ∀ {v : V} {d : D}, DR A G K v d → DR A' G' K v d
  | _, _, .non => .non
  | _, _, .bl b => .bl b
  | _, _, .int i => .int i
  | _, _, .str x => .str x
  | _, _, .lst h r => .lst (e _ _ h) (DRs.mono p e r)
  | _, _, .kls h r => .kls (sql_mono e h) (DRs.mono p e r)
  | _, _, .tup h r => .tup (sqt_mono e h) (DRs.mono p e r)
  | _, _, .dct0 h => .dct0 (e _ _ h)
  | _, _, .cel h => .cel (by
      obtain ⟨t, rfl⟩ := p
      rw [List.getElem?_append_left]
      · exact h
      · exact (List.getElem?_eq_some_iff.mp h).1)
  | _, _, .fn f => .fn f
  | _, _, .exc h k r => .exc (e _ _ h) (e _ _ k) (DR.mono p e r)
theorem DRs.mono (p : A <+: A') (e : ∀ b o, G b = some o → G' b = some o) : ∀ {vs : List V} {ds : List D}, DRs A G K vs ds → DRs A' G' K vs ds
  | _, _, .nil => .nil
  | _, _, .cons h t => .cons (DR.mono p e h) (DRs.mono p e t)
end
theorem DRs.get {vs : List V} {ds : List D} (h : DRs A G K vs ds) : ∀ {i : Nat} {d : D}, ds[i]? = some d → ∃ v, vs[i]? = some v ∧ DR A G K v d := by
  induction ds generalizing vs with
  | nil => intro i d e; simp at e
  | cons d ds ih =>
    cases h with
    | cons h1 h2 =>
      intro i d' e
      cases i with
      | zero => simp at e; subst e; exact ⟨_, rfl, h1⟩
      | succ i => simpa using ih h2 (i := i) (d := d') (by simpa using e)
theorem DRs.getv {vs : List V} {ds : List D} (h : DRs A G K vs ds) : ∀ {i : Nat} {v : V}, vs[i]? = some v → ∃ d, ds[i]? = some d ∧ DR A G K v d := by
  induction ds generalizing vs with
  | nil => intro i d e; cases h; simp at e
  | cons d ds ih =>
    cases h with
    | cons h1 h2 =>
      intro i d' e
      cases i with
      | zero => simp at e; subst e; exact ⟨_, rfl, h1⟩
      | succ i => simpa using ih h2 (i := i) (v := d') (by simpa using e)
theorem DRs.append {vs ws : List V} {ds es : List D} (h : DRs A G K vs ds) (k : DRs A G K ws es) : DRs A G K (vs ++ ws) (ds ++ es) := by
  induction ds generalizing vs with
  | nil => cases h; exact k
  | cons d ds ih =>
    cases h with
    | cons h1 h2 => exact .cons h1 (ih h2)
theorem DRs.take {vs : List V} {ds : List D} (h : DRs A G K vs ds) : ∀ n : Nat, DRs A G K (vs.take n) (ds.take n) := by
  induction ds generalizing vs with
  | nil => cases h; intro n; simp; exact .nil
  | cons d ds ih =>
    cases h with
    | cons h1 h2 =>
      intro n
      cases n with
      | zero => exact .nil
      | succ n => exact .cons h1 (ih h2 n)
theorem DRs.drop {vs : List V} {ds : List D} (h : DRs A G K vs ds) : ∀ n : Nat, DRs A G K (vs.drop n) (ds.drop n) := by
  induction ds generalizing vs with
  | nil => cases h; intro n; simp; exact .nil
  | cons d ds ih =>
    cases h with
    | cons h1 h2 =>
      intro n
      cases n with
      | zero => exact .cons h1 h2
      | succ n => exact ih h2 n
theorem DRs.set {vs : List V} {ds : List D} {v : V} {d : D} (h : DRs A G K vs ds) (r : DR A G K v d) : ∀ i : Nat, DRs A G K (vs.set i v) (ds.set i d) := by
  induction ds generalizing vs with
  | nil => cases h; intro i; exact .nil
  | cons d ds ih =>
    cases h with
    | cons h1 h2 =>
      intro i
      cases i with
      | zero => exact .cons r h2
      | succ i => exact .cons h1 (ih h2 i)
end

/-- the store holds what it says -/
structure SOk (K : PySem.W.Frag) (A Z : List Addr) (S : Sto) (H : Hp) : Prop where
  len : A.length = S.length
  nd : A.Nodup
  there : ∀ a ∈ A, H a ≠ none
  hid : ∀ b ∈ Z, (H b ≠ none ∧ ∀ q, H b ≠ some (LamX.CodeO b q)) ∧ b ∉ A
  at_ : ∀ (i : Nat) (c : CO) (ds : List D), S[i]? = some c → (c = .lst ds ∨ c = .lk ds) → ∃ a vs, A[i]? = some a ∧ H a = some (.lst vs) ∧ DRs A (cut A Z S H) K vs ds
  tab : ∀ (i : Nat) (P : Addr) (q : Str), S[i]? = some (.tab P q) → A[i]? = some P ∧ LamX.TabS H P q
/-- a table stands while it and the code objects stay -/
theorem tabS_keep {H H' : Hp} {P : Addr} {q : Str} (t : LamX.TabS H P q) (hP : H' P = H P) (hc : ∀ c, H c = some (LamX.CodeO c q) → H' c = some (LamX.CodeO c q)) : LamX.TabS H' P q := by
  obtain ⟨ps, h1, h2, h3⟩ := t
  refine ⟨ps, hP.trans h1, h2, fun pos cv e => ?_⟩
  obtain ⟨c, e1, e2⟩ := h3 pos cv e
  exact ⟨c, e1, hc c e2⟩
/-- what a run leaves -/
structure Grow (K : PySem.W.Frag) (Z : List Addr) (A : List Addr) (S : Sto) (H : Hp) (A' : List Addr) (S' : Sto) (H' : Hp) : Prop where
  pre : A <+: A'
  ok : SOk K A' Z S' H'
  ex : ∀ b o, cut A Z S H b = some o → cut A' Z S' H' b = some o
  hid : ∀ b ∈ Z, H' b = H b
  lk : ∀ (i : Nat) (ds : List D), S[i]? = some (.lk ds) → S'[i]? = some (.lk ds)
/-- the same, without the word of what is locked -/
structure Grow0 (K : PySem.W.Frag) (Z : List Addr) (A : List Addr) (S : Sto) (H : Hp) (A' : List Addr) (S' : Sto) (H' : Hp) : Prop where
  pre : A <+: A'
  ok : SOk K A' Z S' H'
  ex : ∀ b o, cut A Z S H b = some o → cut A' Z S' H' b = some o
  hid : ∀ b ∈ Z, H' b = H b
section
variable {K : PySem.W.Frag} {A A' A'' Z : List Addr} {S S' S'' : Sto} {H H' H'' : Hp}
theorem Grow.refl (h : SOk K A Z S H) : Grow K Z A S H A S H := ⟨List.prefix_refl _, h, fun _ _ h => h, fun _ _ => rfl, fun _ _ h => h⟩
theorem Grow.trans (g : Grow K Z A S H A' S' H') (g' : Grow K Z A' S' H' A'' S'' H'') : Grow K Z A S H A'' S'' H'' :=
  ⟨g.pre.trans g'.pre, g'.ok, fun b o h => g'.ex b o (g.ex b o h), fun b hb => (g'.hid b hb).trans (g.hid b hb), fun i ds h => g'.lk i ds (g.lk i ds h)⟩
theorem Grow.zero (g : Grow K Z A S H A' S' H') : Grow0 K Z A S H A' S' H' := ⟨g.pre, g.ok, g.ex, g.hid⟩
theorem Grow0.refl (h : SOk K A Z S H) : Grow0 K Z A S H A S H := ⟨List.prefix_refl _, h, fun _ _ h => h, fun _ _ => rfl⟩
theorem Grow0.trans (g : Grow0 K Z A S H A' S' H') (g' : Grow0 K Z A' S' H' A'' S'' H'') : Grow0 K Z A S H A'' S'' H'' :=
  ⟨g.pre.trans g'.pre, g'.ok, fun b o h => g'.ex b o (g.ex b o h), fun b hb => (g'.hid b hb).trans (g.hid b hb)⟩
theorem DR.grow0 {v : V} {d : D} (r : DR A (cut A Z S H) K v d) (g : Grow0 K Z A S H A' S' H') : DR A' (cut A' Z S' H') K v d := r.mono g.pre g.ex
theorem DRs.grow0 {vs : List V} {ds : List D} (r : DRs A (cut A Z S H) K vs ds) (g : Grow0 K Z A S H A' S' H') : DRs A' (cut A' Z S' H') K vs ds := r.mono g.pre g.ex
theorem DR.grow {v : V} {d : D} (r : DR A (cut A Z S H) K v d) (g : Grow K Z A S H A' S' H') : DR A' (cut A' Z S' H') K v d := r.mono g.pre g.ex
theorem DRs.grow {vs : List V} {ds : List D} (r : DRs A (cut A Z S H) K vs ds) (g : Grow K Z A S H A' S' H') : DRs A' (cut A' Z S' H') K vs ds := r.mono g.pre g.ex
/-- an address of a list that may change -/
def Live (A : List Addr) (S : Sto) (b : Addr) : Prop := ∃ (i : Nat) (c : CO), A[i]? = some b ∧ S[i]? = some c ∧ c.live = true
theorem zip_any {A : List Addr} {S : Sto} {b : Addr} : (A.zip S).any (fun p => p.2.live && p.1 == b) = true ↔ Live A S b := by
  constructor
  · intro h
    obtain ⟨⟨a, c⟩, hm, hp⟩ := List.any_eq_true.mp h
    obtain ⟨i, hi⟩ := List.mem_iff_getElem?.mp hm
    rw [List.getElem?_zip_eq_some] at hi
    simp only [Bool.and_eq_true, beq_iff_eq] at hp
    exact ⟨i, c, by rw [hi.1, hp.2], hi.2, hp.1⟩
  · rintro ⟨i, c, h1, h2, h3⟩
    refine List.any_eq_true.mpr ⟨(b, c), List.mem_iff_getElem?.mpr ⟨i, List.getElem?_zip_eq_some.mpr ⟨h1, h2⟩⟩, ?_⟩
    simp [h3]
theorem cut_none {b : Addr} (h : b ∈ Z ∨ Live A S b) : cut A Z S H b = none := by
  unfold cut
  rw [if_pos]
  rw [Bool.or_eq_true, zip_any]
  exact h.elim (fun h => .inl (by simpa using h)) .inr
theorem cut_some {b : Addr} {o : HO} : cut A Z S H b = some o ↔ (H b = some o ∧ b ∉ Z ∧ ¬ Live A S b) := by
  unfold cut
  by_cases h : (Z.contains b || (A.zip S).any (fun p => p.2.live && p.1 == b)) = true
  · rw [if_pos h]
    rw [Bool.or_eq_true, zip_any] at h
    constructor
    · intro z; cases z
    · rintro ⟨_, z1, z2⟩
      rcases h with h | h
      · exact absurd (by simpa using h) z1
      · exact absurd h z2
  · rw [if_neg h]
    rw [Bool.or_eq_true, zip_any] at h
    constructor
    · intro z; exact ⟨z, fun q => h (.inl (by simpa using q)), fun q => h (.inr q)⟩
    · intro z; exact z.1
theorem cut_sub {b : Addr} {o : HO} (h : cut A Z S H b = some o) : H b = some o := (cut_some.mp h).1
theorem SOk.fresh (ok : SOk K A Z S H) {p : Addr} (h : H p = none) : p ∉ Z ∧ ¬ Live A S p :=
  ⟨fun q => (ok.hid p q).1.1 h, fun ⟨i, _, h1, _, _⟩ => ok.there p (List.mem_iff_getElem?.mpr ⟨i, h1⟩) h⟩
/-- a new object that is data -/
theorem cut_new {p : Addr} {o : HO} (ok : SOk K A Z S H) (h : H p = none) : cut A Z S (upd H p o) p = some o :=
  cut_some.mpr ⟨upd_same, ok.fresh h⟩
theorem cut_upd {p : Addr} {o : HO} (h : H p = none) : ∀ b u, cut A Z S H b = some u → cut A Z S (upd H p o) b = some u := fun b u e => by
  obtain ⟨e1, e2⟩ := cut_some.mp e
  refine cut_some.mpr ⟨?_, e2⟩
  rw [upd_ne (ne_of_none e1 h)]
  exact e1
theorem upd_some {p b : Addr} {o : HO} (h : H b ≠ none) (hp : H p = none) : upd H p o b = H b := upd_ne (fun e => h (e ▸ hp))
theorem SOk.new {p : Addr} {o : HO} (ok : SOk K A Z S H) (h : H p = none) : SOk K A Z S (upd H p o) := by
  refine ⟨ok.len, ok.nd, fun a ha => ?_, fun b hb => ?_, fun i c ds hc hd => ?_, fun i P q e => ⟨(ok.tab i P q e).1, (ok.tab i P q e).2.ext fun b o e => by rw [upd_ne (ne_of_none e h)]; exact e⟩⟩
  · rw [upd_some (ok.there a ha) h]
    exact ok.there a ha
  · rw [upd_some (ok.hid b hb).1.1 h]
    exact ok.hid b hb
  · obtain ⟨a, vs, h1, h2, h3⟩ := ok.at_ i c ds hc hd
    exact ⟨a, vs, h1, by rw [upd_ne (ne_of_none h2 h)]; exact h2, h3.mono (List.prefix_refl _) (cut_upd h)⟩
theorem Grow.new {p : Addr} {o : HO} (ok : SOk K A Z S H) (h : H p = none) : Grow K Z A S H A S (upd H p o) :=
  ⟨List.prefix_refl _, ok.new h, cut_upd h, fun b hb => upd_some (ok.hid b hb).1.1 h, fun _ _ h => h⟩
/-- a new list that may change -/
theorem snoc_get {α : Type} {l : List α} {x : α} : (l ++ [x])[l.length]? = some x := by simp
theorem cut_snoc {p : Addr} {c : CO} (ok : SOk K A Z S H) (h : H p = none) {o : HO} : ∀ b u, cut A Z S H b = some u → cut (A ++ [p]) Z (S ++ [c]) (upd H p o) b = some u := fun b u e => by
  obtain ⟨e1, e2, e3⟩ := cut_some.mp e
  have nb : b ≠ p := ne_of_none e1 h
  refine cut_some.mpr ⟨by rw [upd_ne nb]; exact e1, e2, ?_⟩
  rintro ⟨i, c', h1, h2, h3⟩
  by_cases hi : i < A.length
  · rw [List.getElem?_append_left hi] at h1
    rw [List.getElem?_append_left (by rw [← ok.len]; exact hi)] at h2
    exact e3 ⟨i, c', h1, h2, h3⟩
  · rw [List.getElem?_append_right (Nat.le_of_not_lt hi)] at h1
    have : i - A.length = 0 := by
      cases q : i - A.length with
      | zero => rfl
      | succ n => rw [q] at h1; simp at h1
    rw [this] at h1
    exact nb (by simpa using h1.symm)
theorem Grow.cell {p : Addr} {vs : List V} {ds : List D} (ok : SOk K A Z S H) (h : H p = none) (r : DRs A (cut A Z S H) K vs ds) :
    Grow K Z A S H (A ++ [p]) (S ++ [.lst ds]) (upd H p (.lst vs)) := by
  have hp : p ∉ A := fun q => ok.there p q h
  refine ⟨List.prefix_append _ _, ⟨by simp [ok.len], ?_, fun a ha => ?_, fun b hb => ?_, fun i c es hc hd => ?_, fun i P q e => ?_⟩, cut_snoc ok h, fun b hb => upd_some (ok.hid b hb).1.1 h, fun i es e => by rw [List.getElem?_append_left (List.getElem?_eq_some_iff.mp e).1]; exact e⟩
  · rw [List.nodup_append]
    refine ⟨ok.nd, by simp, fun a ha b hb => ?_⟩
    simp at hb
    subst hb
    exact fun e => hp (e ▸ ha)
  · rcases List.mem_append.mp ha with ha | ha
    · rw [upd_some (ok.there a ha) h]
      exact ok.there a ha
    · simp at ha
      subst ha
      rw [upd_same]
      simp
  · rw [upd_some (ok.hid b hb).1.1 h]
    refine ⟨(ok.hid b hb).1, fun q => ?_⟩
    rcases List.mem_append.mp q with q | q
    · exact (ok.hid b hb).2 q
    · simp at q
      subst q
      exact (ok.hid _ hb).1.1 h
  · by_cases hi : i < S.length
    · rw [List.getElem?_append_left hi] at hc
      obtain ⟨a, ws, h1, h2, h3⟩ := ok.at_ i c es hc hd
      refine ⟨a, ws, ?_, by rw [upd_ne (ne_of_none h2 h)]; exact h2, h3.mono (List.prefix_append _ _) (cut_snoc ok h)⟩
      rw [List.getElem?_append_left (by rw [ok.len]; exact hi)]
      exact h1
    · rw [List.getElem?_append_right (Nat.le_of_not_lt hi)] at hc
      have q : i - S.length = 0 := by
        cases q : i - S.length with
        | zero => rfl
        | succ n => rw [q] at hc; simp at hc
      rw [q] at hc
      have hc : c = .lst ds := by simpa using hc.symm
      subst hc
      have e : es = ds := by rcases hd with z | z <;> cases z; rfl
      subst e
      refine ⟨p, vs, ?_, upd_same, r.mono (List.prefix_append _ _) (cut_snoc ok h)⟩
      have : i = A.length := by rw [ok.len]; omega
      subst this
      exact snoc_get
  · have hi : i < S.length := by
      by_cases hi : i < S.length
      · exact hi
      · rw [List.getElem?_append_right (Nat.le_of_not_lt hi)] at e
        cases q : i - S.length with
        | zero => rw [q] at e; simp at e
        | succ n => rw [q] at e; simp at e
    rw [List.getElem?_append_left hi] at e
    obtain ⟨t1, t2⟩ := ok.tab i P q e
    exact ⟨by rw [List.getElem?_append_left (by rw [ok.len]; exact hi)]; exact t1, t2.ext fun b o e => by rw [upd_ne (ne_of_none e h)]; exact e⟩
/-- a list that may change is changed -/
theorem set_live {i : Nat} {c c' : CO} (h0 : S[i]? = some c) (hl : c.live = c'.live) {b : Addr} : Live A (S.set i c') b ↔ Live A S b := by
  have hi : i < S.length := (List.getElem?_eq_some_iff.mp h0).1
  constructor
  · rintro ⟨j, d, h1, h2, h3⟩
    by_cases e : i = j
    · subst e
      rw [List.getElem?_set_self hi] at h2
      cases h2
      exact ⟨i, c, h1, h0, by rw [hl]; exact h3⟩
    · rw [List.getElem?_set_ne e] at h2
      exact ⟨j, d, h1, h2, h3⟩
  · rintro ⟨j, d, h1, h2, h3⟩
    by_cases e : i = j
    · subst e
      rw [h0] at h2
      cases h2
      exact ⟨i, c', h1, List.getElem?_set_self hi, by rw [← hl]; exact h3⟩
    · exact ⟨j, d, h1, by rw [List.getElem?_set_ne e]; exact h2, h3⟩
theorem cut_set {i : Nat} {c c' : CO} (h0 : S[i]? = some c) (hl : c.live = c'.live) : cut A Z (S.set i c') H = cut A Z S H := by
  funext b
  unfold cut
  have : ((Z.contains b || (A.zip (S.set i c')).any (fun p => p.2.live && p.1 == b)) = true) = ((Z.contains b || (A.zip S).any (fun p => p.2.live && p.1 == b)) = true) := by
    rw [eq_iff_iff, Bool.or_eq_true, Bool.or_eq_true, zip_any, zip_any, set_live h0 hl]
  simp only [this]
theorem nodup_at {α : Type} : ∀ {l : List α} (h : l.Nodup) {i j : Nat} {x : α} (h1 : l[i]? = some x) (h2 : l[j]? = some x), i = j
  | [], _, i, j, x, h1, _ => by simp at h1
  | y :: l, h, i, j, x, h1, h2 => by
    rw [List.nodup_cons] at h
    cases i with
    | zero =>
      cases j with
      | zero => rfl
      | succ j =>
        simp at h1 h2
        subst h1
        exact absurd (List.mem_iff_getElem?.mpr ⟨j, h2⟩) h.1
    | succ i =>
      cases j with
      | zero =>
        simp at h1 h2
        subst h2
        exact absurd (List.mem_iff_getElem?.mpr ⟨i, h1⟩) h.1
      | succ j => rw [nodup_at h.2 (i := i) (j := j) (x := x) (by simpa using h1) (by simpa using h2)]
/-- the i-th list is written: a its address -/
theorem Grow.store {i : Nat} {a : Addr} {vs : List V} {ds es : List D} (ok : SOk K A Z S H) (h0 : S[i]? = some (.lst ds)) (ha : A[i]? = some a) (r : DRs A (cut A Z S H) K vs es) :
    Grow K Z A S H A (S.set i (.lst es)) (upd H a (.lst vs)) := by
  have hi : i < S.length := (List.getElem?_eq_some_iff.mp h0).1
  have nl : ∀ b o, cut A Z S H b = some o → b ≠ a := fun b o e z => by
    subst z
    rw [cut_none (.inr ⟨i, _, ha, h0, rfl⟩)] at e
    cases e
  have nz : ∀ b ∈ Z, b ≠ a := fun b hb z => (ok.hid b hb).2 (z ▸ List.mem_iff_getElem?.mpr ⟨i, ha⟩)
  have hal : ∃ vs0, H a = some (.lst vs0) := by
    obtain ⟨a', vs0, e1, e2, _⟩ := ok.at_ i _ ds h0 (.inl rfl)
    rw [ha] at e1
    cases e1
    exact ⟨vs0, e2⟩
  have up : ∀ b o, cut A Z S H b = some o → cut A Z (S.set i (.lst es)) (upd H a (.lst vs)) b = some o := fun b o e => by
    obtain ⟨e1, e2, e3⟩ := cut_some.mp e
    exact cut_some.mpr ⟨by rw [upd_ne (nl b o e)]; exact e1, e2, fun q => e3 ((set_live h0 (by rfl)).mp q)⟩
  refine ⟨List.prefix_refl _, ⟨by rw [List.length_set]; exact ok.len, ok.nd, fun b hb => ?_, fun b hb => ?_, fun j c fs hc hd => ?_, fun j P q e => ?_⟩, up, fun b hb => upd_ne (nz b hb), fun j es e => by
    rw [List.getElem?_set_ne (fun z => by subst z; rw [h0] at e; cases e)]
    exact e⟩
  · by_cases z : b = a
    · subst z; rw [upd_same]; simp
    · rw [upd_ne z]; exact ok.there b hb
  · rw [upd_ne (nz b hb)]
    exact ok.hid b hb
  · by_cases e : i = j
    · subst e
      rw [List.getElem?_set_self hi] at hc
      cases hc
      have e2 : fs = es := by rcases hd with z | z <;> cases z; rfl
      subst e2
      exact ⟨a, vs, ha, upd_same, r.mono (List.prefix_refl _) up⟩
    · rw [List.getElem?_set_ne e] at hc
      obtain ⟨b, ws, h1, h2, h3⟩ := ok.at_ j c fs hc hd
      refine ⟨b, ws, h1, ?_, h3.mono (List.prefix_refl _) up⟩
      have : b ≠ a := fun z => e (nodup_at ok.nd ha (z ▸ h1))
      rw [upd_ne this]
      exact h2
  · have hij : i ≠ j := fun z => by
      subst z
      rw [List.getElem?_set_self hi] at e
      cases e
    rw [List.getElem?_set_ne hij] at e
    obtain ⟨t1, t2⟩ := ok.tab j P q e
    obtain ⟨vs0, hal⟩ := hal
    refine ⟨t1, tabS_keep t2 (upd_ne fun z => hij (nodup_at ok.nd ha (z ▸ t1))) fun c hc => ?_⟩
    rw [upd_ne (fun z => by rw [z, hal] at hc; cases hc)]
    exact hc
/-- lock and unlock: nothing happens to the heap -/
theorem Grow.relock {i : Nat} {c c' : CO} {ds : List D} (ok : SOk K A Z S H) (h0 : S[i]? = some c) (hc : c = .lst ds ∨ c = .lk ds) (hc' : c' = .lst ds ∨ c' = .lk ds) : Grow0 K Z A S H A (S.set i c') H := by
  have hi : i < S.length := (List.getElem?_eq_some_iff.mp h0).1
  have hl : c.live = c'.live := by rcases hc with rfl | rfl <;> rcases hc' with rfl | rfl <;> rfl
  have ec : cut A Z (S.set i c') H = cut A Z S H := cut_set h0 hl
  refine ⟨List.prefix_refl _, ⟨by rw [List.length_set]; exact ok.len, ok.nd, ok.there, ok.hid, fun j d fs hd hf => ?_, fun j P q e => by
    have hij : i ≠ j := fun z => by
      subst z
      rw [List.getElem?_set_self hi] at e
      rcases hc' with rfl | rfl <;> cases e
    rw [List.getElem?_set_ne hij] at e
    exact ok.tab j P q e⟩, fun b o e => by rw [ec]; exact e, fun _ _ => rfl⟩
  rw [ec]
  by_cases e : i = j
  · subst e
    rw [List.getElem?_set_self hi] at hd
    cases hd
    have e2 : fs = ds := by rcases hf with rfl | rfl <;> rcases hc' with z | z <;> cases z <;> rfl
    subst e2
    exact ok.at_ i c fs h0 hc
  · rw [List.getElem?_set_ne e] at hd
    exact ok.at_ j d fs hd hf
/-- a list that may change becomes data -/
theorem Grow.freeze {i : Nat} {ds : List D} (ok : SOk K A Z S H) (h0 : S[i]? = some (.lst ds)) : Grow K Z A S H A (S.set i .gone) H ∧ ∃ a vs, A[i]? = some a ∧ cut A Z (S.set i .gone) H a = some (.lst vs) ∧ DRs A (cut A Z (S.set i .gone) H) K vs ds := by
  have hi : i < S.length := (List.getElem?_eq_some_iff.mp h0).1
  have up : ∀ b o, cut A Z S H b = some o → cut A Z (S.set i .gone) H b = some o := fun b o e => by
    obtain ⟨e1, e2, e3⟩ := cut_some.mp e
    refine cut_some.mpr ⟨e1, e2, ?_⟩
    rintro ⟨j, d, h1, h2, h3⟩
    by_cases e : i = j
    · subst e
      rw [List.getElem?_set_self hi] at h2
      cases h2
      cases h3
    · rw [List.getElem?_set_ne e] at h2
      exact e3 ⟨j, d, h1, h2, h3⟩
  obtain ⟨a, vs, h1, h2, h3⟩ := ok.at_ i _ ds h0 (.inl rfl)
  refine ⟨⟨List.prefix_refl _, ⟨by rw [List.length_set]; exact ok.len, ok.nd, ok.there, ok.hid, fun j d fs hd hf => ?_, fun j P q e => by
    have hij : i ≠ j := fun z => by
      subst z
      rw [List.getElem?_set_self hi] at e
      cases e
    rw [List.getElem?_set_ne hij] at e
    exact ok.tab j P q e⟩, up, fun _ _ => rfl, fun j es e => by
    rw [List.getElem?_set_ne (fun z => by subst z; rw [h0] at e; cases e)]
    exact e⟩, a, vs, h1, cut_some.mpr ⟨h2, fun hz => (ok.hid a hz).2 (List.mem_iff_getElem?.mpr ⟨i, h1⟩), ?_⟩, h3.mono (List.prefix_refl _) up⟩
  · by_cases e : i = j
    · subst e
      rw [List.getElem?_set_self hi] at hd
      cases hd
      rcases hf with z | z <;> cases z
    · rw [List.getElem?_set_ne e] at hd
      obtain ⟨b, ws, k1, k2, k3⟩ := ok.at_ j d fs hd hf
      exact ⟨b, ws, k1, k2, k3.mono (List.prefix_refl _) up⟩
  · rintro ⟨j, d, k1, k2, k3⟩
    have : i = j := nodup_at ok.nd h1 k1
    subst this
    rw [List.getElem?_set_self hi] at k2
    cases k2
    cases k3
/-! a list that a comprehension makes is hidden while it grows -/
theorem cut_hide {p : Addr} : ∀ b u, cut A (p :: Z) S H b = some u → cut A Z S H b = some u := fun b u e => by
  obtain ⟨e1, e2, e3⟩ := cut_some.mp e
  exact cut_some.mpr ⟨e1, fun q => e2 (List.mem_cons_of_mem _ q), e3⟩
theorem cut_hidden {p : Addr} {o : HO} (h : H p = none) : ∀ b u, cut A Z S H b = some u → cut A (p :: Z) S (upd H p o) b = some u := fun b u e => by
  obtain ⟨e1, e2, e3⟩ := cut_some.mp e
  have nb := ne_of_none e1 h
  exact cut_some.mpr ⟨by rw [upd_ne nb]; exact e1, fun q => (List.mem_cons.mp q).elim nb e2, e3⟩
theorem SOk.hide {p : Addr} {o : HO} (ok : SOk K A Z S H) (h : H p = none) (ho : ∀ q, o ≠ LamX.CodeO p q) : SOk K A (p :: Z) S (upd H p o) := by
  refine ⟨ok.len, ok.nd, fun a ha => ?_, fun b hb => ?_, fun i c ds hc hd => ?_, fun i P q e => ⟨(ok.tab i P q e).1, (ok.tab i P q e).2.ext fun b o e => by rw [upd_ne (ne_of_none e h)]; exact e⟩⟩
  · rw [upd_some (ok.there a ha) h]
    exact ok.there a ha
  · rcases List.mem_cons.mp hb with rfl | hb
    · exact ⟨⟨by rw [upd_same]; simp, fun q z => by rw [upd_same] at z; exact ho q (Option.some.inj z)⟩, fun q => ok.there _ q h⟩
    · rw [upd_some (ok.hid b hb).1.1 h]
      exact ok.hid b hb
  · obtain ⟨a, vs, h1, h2, h3⟩ := ok.at_ i c ds hc hd
    exact ⟨a, vs, h1, by rw [upd_ne (ne_of_none h2 h)]; exact h2, h3.mono (List.prefix_refl _) (cut_hidden h)⟩
/-- the hidden list is written -/
theorem cut_turn {p : Addr} {o : HO} : cut A (p :: Z) S (upd H p o) = cut A (p :: Z) S H := by
  funext b
  by_cases e : b = p
  · subst e
    rw [cut_none (.inl List.mem_cons_self), cut_none (.inl List.mem_cons_self)]
  · unfold cut
    rw [upd_ne e]
theorem SOk.turn {p : Addr} {o : HO} (ok : SOk K A (p :: Z) S H) (ho : ∀ q, o ≠ LamX.CodeO p q) : SOk K A (p :: Z) S (upd H p o) := by
  refine ⟨ok.len, ok.nd, fun a ha => ?_, fun b hb => ?_, fun i c ds hc hd => ?_, fun i P q e => ?_⟩
  · by_cases e : a = p
    · subst e; rw [upd_same]; simp
    · rw [upd_ne e]; exact ok.there a ha
  · refine ⟨?_, (ok.hid b hb).2⟩
    by_cases e : b = p
    · subst e; rw [upd_same]; exact ⟨by simp, fun q z => ho q (Option.some.inj z)⟩
    · rw [upd_ne e]; exact (ok.hid b hb).1
  · obtain ⟨a, vs, h1, h2, h3⟩ := ok.at_ i c ds hc hd
    have na : a ≠ p := fun e => (ok.hid p List.mem_cons_self).2 (e ▸ List.mem_iff_getElem?.mpr ⟨i, h1⟩)
    exact ⟨a, vs, h1, by rw [upd_ne na]; exact h2, by rw [cut_turn]; exact h3⟩
  · obtain ⟨t1, t2⟩ := ok.tab i P q e
    have hp := ok.hid p List.mem_cons_self
    refine ⟨t1, tabS_keep t2 (upd_ne fun z => hp.2 (z ▸ List.mem_iff_getElem?.mpr ⟨i, t1⟩)) fun c hc => ?_⟩
    rw [upd_ne (fun z => by rw [z] at hc; exact hp.1.2 q hc)]
    exact hc
/-- it is let seen -/
theorem SOk.show_ {p : Addr} (ok : SOk K A (p :: Z) S H) : SOk K A Z S H :=
  ⟨ok.len, ok.nd, ok.there, fun b hb => ok.hid b (List.mem_cons_of_mem _ hb), fun i c ds hc hd => by
    obtain ⟨a, vs, h1, h2, h3⟩ := ok.at_ i c ds hc hd
    exact ⟨a, vs, h1, h2, h3.mono (List.prefix_refl _) cut_hide⟩, ok.tab⟩
theorem cut_shown {p : Addr} {o : HO} (ok : SOk K A (p :: Z) S H) (h : H p = some o) (hz : p ∉ Z) : cut A Z S H p = some o :=
  cut_some.mpr ⟨h, hz, fun ⟨i, _, h1, _, _⟩ => (ok.hid p List.mem_cons_self).2 (List.mem_iff_getElem?.mpr ⟨i, h1⟩)⟩
end
end DL

set_option maxHeartbeats 2000000
namespace DL
open PySem PySem.Spec PyProof.Rows L2
structure Sl (K : PySem.W.Frag) (A : List Addr) (G : Hp) (ρ : Env) (σ : L2.St) : Prop where
  len : ρ.length = σ.length
  at_ : ∀ (i : Nat) (d : D), ρ[i]? = some (some d) → ∃ v, σ[i]? = some (some v) ∧ DR A G K v d
theorem Sl.mono {K : PySem.W.Frag} {A A' : List Addr} {G G' : Hp} {ρ : Env} {σ : L2.St} (p : A <+: A') (e : ∀ b o, G b = some o → G' b = some o) (h : Sl K A G ρ σ) : Sl K A' G' ρ σ :=
  ⟨h.len, fun i d q => let ⟨v, h1, h2⟩ := h.at_ i d q; ⟨v, h1, h2.mono p e⟩⟩
theorem Sl.grow {K : PySem.W.Frag} {A A' Z : List Addr} {S S' : Sto} {H H' : Hp} {ρ : Env} {σ : L2.St} (h : Sl K A (cut A Z S H) ρ σ) (g : Grow K Z A S H A' S' H') : Sl K A' (cut A' Z S' H') ρ σ := h.mono g.pre g.ex
theorem Sl.set {K : PySem.W.Frag} {A : List Addr} {G : Hp} {ρ : Env} {σ : L2.St} (h : Sl K A G ρ σ) {v : V} {d : D} (r : DR A G K v d) (i : Nat) : Sl K A G (ρ.set i (some d)) (σ.set i (some v)) := by
  refine ⟨by rw [List.length_set, List.length_set]; exact h.len, fun j e q => ?_⟩
  by_cases c : i = j
  · subst c
    by_cases hi : i < ρ.length
    · rw [List.getElem?_set_self hi] at q
      cases q
      exact ⟨v, List.getElem?_set_self (by rw [← h.len]; exact hi), r⟩
    · rw [List.getElem?_eq_none (by rw [List.length_set]; omega)] at q
      cases q
  · rw [List.getElem?_set_ne c] at q
    obtain ⟨w, h1, h2⟩ := h.at_ j e q
    exact ⟨w, by rw [List.getElem?_set_ne c]; exact h1, h2⟩
theorem Sl.clear {K : PySem.W.Frag} {A : List Addr} {G : Hp} {ρ : Env} {σ : L2.St} (h : Sl K A G ρ σ) (i : Nat) (x : Option V) : Sl K A G (ρ.set i none) (σ.set i x) := by
  refine ⟨by rw [List.length_set, List.length_set]; exact h.len, fun j e q => ?_⟩
  by_cases c : i = j
  · subst c
    by_cases hi : i < ρ.length
    · rw [List.getElem?_set_self hi] at q
      cases q
    · rw [List.getElem?_eq_none (by rw [List.length_set]; omega)] at q
      cases q
  · rw [List.getElem?_set_ne c] at q
    obtain ⟨w, h1, h2⟩ := h.at_ j e q
    exact ⟨w, by rw [List.getElem?_set_ne c]; exact h1, h2⟩
/-- the slots of a block's own names forgotten -/
def wipeE (ρ : Env) : List Nat → Env
  | [] => ρ
  | v :: vs => (wipeE ρ vs).set v none
theorem Sl.wipe {K : PySem.W.Frag} {A : List Addr} {G : Hp} {ρ : Env} {σ : L2.St} (h : Sl K A G ρ σ) : ∀ vs : List Nat, Sl K A G (wipeE ρ vs) (L2.wipe σ vs)
  | [] => h
  | v :: vs => (Sl.wipe h vs).clear v none

/-- what is wanted behind a run: of its value P, of an error W -/
def Post {α : Type} (K : PySem.W.Frag) (W : WX) (ca : Str → Addr) (A Z : List Addr) (S : Sto) (H : Hp) (σ : L2.St) (r : Res α) (P : List Addr → Sto → Hp → α → Prop) : Prop := match r with
  | .ok a S' => ∀ A' H', Grow K Z A S H A' S' H' → P A' S' H' a
  | .err c d S' => ∀ A' H' dx v σ', Grow K Z A S H A' S' H' → cut A' Z S' H' dx = some (.xd [("value", v)]) → DR A' (cut A' Z S' H') K v d → W (.ref (ca c)) (some dx) σ' H'
  | .bad => False
section
variable {K : PySem.W.Frag} {W : WX} {ca : Str → Addr} {A A' Z : List Addr} {S S' : Sto} {H H' : Hp} {σ : L2.St}
theorem Post.later {α : Type} {r : Res α} {P : List Addr → Sto → Hp → α → Prop} (h : Post K W ca A Z S H σ r P) (g : Grow K Z A S H A' S' H') : Post K W ca A' Z S' H' σ r P := by
  cases r with
  | ok a T => exact fun B I g' => h B I (g.trans g')
  | err c d T => exact fun B I dx v σ' g' => h B I dx v σ' (g.trans g')
  | bad => exact h
theorem Post.imp {α : Type} {r : Res α} {P P' : List Addr → Sto → Hp → α → Prop} (h : Post K W ca A Z S H σ r P) (i : ∀ B T I a, Grow K Z A S H B T I → P B T I a → P' B T I a) : Post K W ca A Z S H σ r P' := by
  cases r with
  | ok a T => exact fun B I g' => i _ _ _ _ g' (h B I g')
  | err c d T => exact h
  | bad => exact h
theorem Post.split {α β : Type} {r : Res α} {f : α → Sto → Res β} {P : List Addr → Sto → Hp → β → Prop} (h : Post K W ca A Z S H σ (r.bind f) P) :
    Post K W ca A Z S H σ r fun B T I a => Post K W ca B Z T I σ (f a T) P := by
  cases r with
  | ok a T => exact fun B I g => Post.later h g
  | err c d T => exact h
  | bad => exact h
theorem Post.sig {α : Type} {r : Res α} {P : List Addr → Sto → Hp → α → Prop} (h : Post K W ca A Z S H σ r P) (σ' : L2.St) : Post K W ca A Z S H σ' r P := by
  cases r <;> exact h
end
/-! ### expressions -/
abbrev FE := Env → Sto → Res D
abbrev FT := Env → Sto → Res Bool
abbrev FA := Env → Sto → Res (List D)
def tE (K : PySem.W.Frag) (W : WX) (ca : Str → Addr) (f : FE) : TE := fun σ H Q => ∃ A Z S ρ, SOk K A Z S H ∧ Sl K A (cut A Z S H) ρ σ ∧ Post K W ca A Z S H σ (f ρ S) fun B T I d => ∀ v, DR B (cut B Z T I) K v d → Q v I
def tT (K : PySem.W.Frag) (W : WX) (ca : Str → Addr) (f : FT) : TT := fun σ H Q => ∃ A Z S ρ, SOk K A Z S H ∧ Sl K A (cut A Z S H) ρ σ ∧ Post K W ca A Z S H σ (f ρ S) fun B T I b => Q b I
def tA (K : PySem.W.Frag) (W : WX) (ca : Str → Addr) (f : FA) : TA := fun σ H Q => ∃ A Z S ρ, SOk K A Z S H ∧ Sl K A (cut A Z S H) ρ σ ∧ Post K W ca A Z S H σ (f ρ S) fun B T I ds => ∀ vs, DRs B (cut B Z T I) K vs ds → Q vs I
structure SE (X : Cx) (W : WX) (ca : Str → Addr) (e : Expr) (f : FE) : Prop where
  pe : PE X e (tE X.K W ca f)
structure ST_ (X : Cx) (W : WX) (ca : Str → Addr) (e : Expr) (f : FT) : Prop where
  pt : PT X e (tT X.K W ca f)
/-- a test whatever its whole is -/
structure SW (X : Cx) (W : WX) (ca : Str → Addr) (e : Expr) (f : FT) : Prop where
  pw : PW X e (tT X.K W ca f)
structure SA (X : Cx) (W : WX) (ca : Str → Addr) (es : List Expr) (f : FA) : Prop where
  pa : PA X es (tA X.K W ca f)
section
variable {X : Cx} {W : WX} {ca : Str → Addr} {e a b : Expr} {es : List Expr} {pos : Pos}
theorem pe_imp {t t' : TE} (h : PE X e t) (i : ∀ σ H Q, t' σ H Q → t σ H Q) : PE X e t' := ⟨fun pins s σ H Q I q => h.run pins s σ H Q I (i _ _ _ q)⟩
theorem pt_imp {t t' : TT} (h : PT X e t) (i : ∀ σ H Q, t' σ H Q → t σ H Q) : PT X e t' := ⟨fun pins s σ H Q I q => h.run pins s σ H Q I (i _ _ _ q)⟩
theorem pw_imp {t t' : TT} (h : PW X e t) (i : ∀ σ H Q, t' σ H Q → t σ H Q) : PW X e t' := ⟨fun whole pins s σ H Q I q => h.run whole pins s σ H Q I (i _ _ _ q)⟩
theorem pa_imp {t t' : TA} (h : PA X es t) (i : ∀ σ H Q, t' σ H Q → t σ H Q) : PA X es t' := ⟨fun pos pins s σ H Q I q => h.run pos pins s σ H Q I (i _ _ _ q)⟩
theorem SW.st {f : FT} (h : SW X W ca e f) : ST_ X W ca e f := ⟨h.pw.pt⟩

/-- constants -/
def fC (d : D) : FE := fun _ S => .ok d S
theorem se_of {f : FE} {t : TE} (h : PE X e t) (i : ∀ σ H Q, tE X.K W ca f σ H Q → t σ H Q) : SE X W ca e f := ⟨pe_imp h i⟩
theorem se_int {i : Int} {j : Nat} : SE X W ca (.Constant (.int i) j pos) (fC (.int i)) := se_of pe_int fun σ H Q ⟨A, Z, S, ρ, ok, sl, p⟩ => p A H (.refl ok) _ (.int i)
theorem se_bl {i : Bool} {j : Nat} : SE X W ca (.Constant (.bool i) j pos) (fC (.bl i)) := se_of pe_bl fun σ H Q ⟨A, Z, S, ρ, ok, sl, p⟩ => p A H (.refl ok) _ (.bl i)
theorem se_non {j : Nat} : SE X W ca (.Constant .none j pos) (fC .non) := se_of pe_non fun σ H Q ⟨A, Z, S, ρ, ok, sl, p⟩ => p A H (.refl ok) _ .non
theorem se_str {x : Str} {j : Nat} : SE X W ca (.Constant (.str x) j pos) (fC (.str x)) := se_of pe_str fun σ H Q ⟨A, Z, S, ρ, ok, sl, p⟩ => p A H (.refl ok) _ (.str x)
/-- a name -/
def fVar (i : Nat) : FE := fun ρ S => match ρ[i]? with
  | some (some d) => .ok d S
  | _ => .bad
theorem se_var (i : Nat) {x : Str} (hN : X.N[i]? = some x := by rfl) (hv : Vis X.env.scope x := by first | exact Or.inl rfl | exact Or.inr (Or.inl rfl) | exact Or.inr (Or.inr rfl)) (hd : (x == ("__debug__" : Str)) = false := by decide)
    (hcd : (x == ("__classdict__" : Str)) = false := by decide) : SE X W ca (.Name x pos) (fVar i) := by
  refine se_of (pe_var (i := i) hN hv hd hcd) fun σ H Q ⟨A, Z, S, ρ, ok, sl, p⟩ => ?_
  unfold fVar at p
  split at p
  · rename_i d hd
    obtain ⟨v, h1, h2⟩ := sl.at_ i d hd
    exact ⟨v, h1, p A H (.refl ok) v h2⟩
  · exact p.elim
/-- a module's constant -/
theorem se_glob {x : Str} {v : V} {d : D} {u : Value} (hg : Gl X x) (hm : X.mg x = some u) (r : RelV v u) (hd : ∀ A G, DR A G X.K v d) (hdb : (x == ("__debug__" : Str)) = false := by decide) : SE X W ca (.Name x pos) (fC d) :=
  se_of (pe_glob hg hm r hdb) fun σ H Q ⟨A, Z, S, ρ, ok, sl, p⟩ => p A H (.refl ok) _ (hd _ _)

/-! two values, an operation -/
abbrev Op2 := D → D → Sto → Option D
def rD (K : PySem.W.Frag) (r : Op2) : R2 := fun x y H Q => ∃ A Z S dx dy d, SOk K A Z S H ∧ DR A (cut A Z S H) K x dx ∧ DR A (cut A Z S H) K y dy ∧ r dx dy S = some d ∧ ∀ B I v, Grow K Z A S H B S I → DR B (cut B Z S I) K v d → Q v I
def okO (o : Option D) (S : Sto) : Res D := match o with
  | some d => .ok d S
  | none => .bad
@[simp] theorem okO_some {d : D} {S : Sto} : okO (some d) S = .ok d S := rfl
@[simp] theorem okO_none {S : Sto} : okO none S = .bad := rfl
def fOp (r : Op2) (fa fb : FE) : FE := fun ρ S => (fa ρ S).bind fun x S1 => (fb ρ S1).bind fun y S2 => okO (r x y S2) S2
theorem tE_bin {K : PySem.W.Frag} {r : Op2} {fa fb : FE} {σ : L2.St} {H : Hp} {Q : VK} (h : tE K W ca (fOp r fa fb) σ H Q) : tOp (rD K r) (tE K W ca fa) (tE K W ca fb) σ H Q := by
  obtain ⟨A, Z, S, ρ, ok, sl, p⟩ := h
  refine ⟨A, Z, S, ρ, ok, sl, (Post.split p).imp fun B T I x g q v rv => ?_⟩
  refine ⟨B, Z, T, ρ, g.ok, sl.grow g, (Post.split q).imp fun C U J y g2 q2 w rw_ => ?_⟩
  cases e : r x y U with
  | none => rw [e] at q2; exact q2.elim
  | some d =>
    rw [e] at q2
    exact ⟨C, Z, U, x, y, d, g2.ok, rv.grow g2, rw_, e, fun B I v g r => q2 B I g v r⟩
theorem se_op {op : Operator} {r : Op2} {fa fb : FE} (ho : OpR X (binaryOp op) (rD X.K r)) (ha : SE X W ca a fa) (hb : SE X W ca b fb) : SE X W ca (.BinOp a op b pos) (fOp r fa fb) :=
  se_of (pe_op ho ha.pe hb.pe) fun _ _ _ h => tE_bin h
theorem se_cmp {op : CmpOp} {r : Op2} {fa fb : FE} (ho : OpR X (compareOp op) (rD X.K r)) (ha : SE X W ca a fa) (hb : SE X W ca b fb) (hm : behindInMarks op b = false) : SE X W ca (.Compare a [op] [b] pos) (fOp r fa fb) :=
  se_of (pe_cmpR ho ha.pe hb.pe hm) fun _ _ _ h => tE_bin h
def asB (x : Res D) : Res Bool := x.bind fun d S => match d with
  | .bl b => .ok b S
  | _ => .bad
@[simp] theorem asB_ok {b : Bool} {S : Sto} : asB (.ok (.bl b) S) = .ok b S := rfl
def fB (f : FE) : FT := fun ρ S => asB (f ρ S)
theorem tT_B {K : PySem.W.Frag} {f : FE} {σ : L2.St} {H : Hp} {Q : Bool → Hp → Prop} (h : tT K W ca (fB f) σ H Q) : tE K W ca f σ H fun x H' => ∃ k, x = .bl k ∧ Q k H' := by
  obtain ⟨A, Z, S, ρ, ok, sl, p⟩ := h
  refine ⟨A, Z, S, ρ, ok, sl, (Post.split p).imp fun B T I d g q v rv => ?_⟩
  cases d with
  | bl b =>
    cases rv
    exact ⟨b, rfl, q B I (.refl g.ok)⟩
  | _ => exact q.elim
theorem st_cmp {op : CmpOp} {r : Op2} {fa fb : FE} (ho : OpR X (compareOp op) (rD X.K r)) (ha : SE X W ca a fa) (hb : SE X W ca b fb) (hm : behindInMarks op b = false) : ST_ X W ca (.Compare a [op] [b] pos) (fB (fOp r fa fb)) :=
  ⟨pt_imp (pt_cmpR ho ha.pe hb.pe hm) fun σ H Q h => tE_bin (Q := fun x H' => ∃ k, x = .bl k ∧ Q k H') (tT_B h)⟩
/-- an expression that gives True or False, as a test -/
theorem st_val {f : FE} (h : SE X W ca e f) (he : ∀ whole, isTrue e X.env whole = (do let v ← whole; standAt e.pos; holding [v] (truthy v)) := by intro _; rfl) : ST_ X W ca e (fB f) :=
  ⟨pt_imp (pt_val h.pe he) fun σ H Q h => tT_B h⟩
/-! and, or, not as tests -/
def fAnd (f g : FT) : FT := fun ρ S => (f ρ S).bind fun c S1 => if c = true then g ρ S1 else .ok false S1
def fOr (f g : FT) : FT := fun ρ S => (f ρ S).bind fun c S1 => if c = true then .ok true S1 else g ρ S1
def fNot (f : FT) : FT := fun ρ S => (f ρ S).bind fun c S1 => .ok (!c) S1
theorem st_not {f : FT} (h : ST_ X W ca a f) : ST_ X W ca (.UnaryOp .Not a pos) (fNot f) :=
  ⟨pt_imp (pt_not h.pt) fun σ H Q ⟨A, Z, S, ρ, ok, sl, p⟩ => ⟨A, Z, S, ρ, ok, sl, (Post.split p).imp fun B T I c g q => q B I (.refl g.ok)⟩⟩
theorem sw_and1 {f : FT} (h : ST_ X W ca a f) : SW X W ca (.BoolOp .And [a] pos) f := ⟨pw_and1 h.pt⟩
theorem sw_or1 {f : FT} (h : ST_ X W ca a f) : SW X W ca (.BoolOp .Or [a] pos) f := ⟨pw_or1 h.pt⟩
theorem tT_and {K : PySem.W.Frag} {f g : FT} {σ : L2.St} {H : Hp} {Q : Bool → Hp → Prop} (h : tT K W ca (fAnd f g) σ H Q) : tAnd (tT K W ca f) (tT K W ca g) σ H Q := by
  obtain ⟨A, Z, S, ρ, ok, sl, p⟩ := h
  refine ⟨A, Z, S, ρ, ok, sl, (Post.split p).imp fun B T I c gr q => ?_⟩
  cases c with
  | true => exact iteT ⟨B, Z, T, ρ, gr.ok, sl.grow gr, q⟩
  | false => exact iteF (q B I (.refl gr.ok))
theorem tT_or {K : PySem.W.Frag} {f g : FT} {σ : L2.St} {H : Hp} {Q : Bool → Hp → Prop} (h : tT K W ca (fOr f g) σ H Q) : tOr (tT K W ca f) (tT K W ca g) σ H Q := by
  obtain ⟨A, Z, S, ρ, ok, sl, p⟩ := h
  refine ⟨A, Z, S, ρ, ok, sl, (Post.split p).imp fun B T I c gr q => ?_⟩
  cases c with
  | true => exact iteT (q B I (.refl gr.ok))
  | false => exact iteF ⟨B, Z, T, ρ, gr.ok, sl.grow gr, q⟩
theorem sw_and {f g : FT} {rest : List Expr} (ha : ST_ X W ca a f) (hb : SW X W ca (.BoolOp .And (b :: rest) pos) g) : SW X W ca (.BoolOp .And (a :: b :: rest) pos) (fAnd f g) :=
  ⟨pw_imp (pw_and ha.pt hb.pw) fun _ _ _ h => tT_and h⟩
theorem sw_or {f g : FT} {rest : List Expr} (ha : ST_ X W ca a f) (hb : SW X W ca (.BoolOp .Or (b :: rest) pos) g) : SW X W ca (.BoolOp .Or (a :: b :: rest) pos) (fOr f g) :=
  ⟨pw_imp (pw_or ha.pt hb.pw) fun _ _ _ h => tT_or h⟩
/-! and, or, not as values (all but the last True or False) -/
def fAndV (f g : FE) : FE := fun ρ S => (asB (f ρ S)).bind fun c S1 => if c = true then g ρ S1 else .ok (.bl false) S1
def fOrV (f g : FE) : FE := fun ρ S => (asB (f ρ S)).bind fun c S1 => if c = true then .ok (.bl true) S1 else g ρ S1
def fNotV (f : FE) : FE := fun ρ S => (asB (f ρ S)).bind fun c S1 => .ok (.bl (!c)) S1
theorem se_one {op : BoolOp} {f : FE} (h : SE X W ca a f) : SE X W ca (.BoolOp op [a] pos) f := ⟨pe_one h.pe⟩
theorem se_and {f g : FE} {rest : List Expr} (ha : SE X W ca a f) (hb : SE X W ca (.BoolOp .And (b :: rest) pos) g) : SE X W ca (.BoolOp .And (a :: b :: rest) pos) (fAndV f g) := by
  refine se_of (pe_and ha.pe hb.pe) fun σ H Q ⟨A, Z, S, ρ, ok, sl, p⟩ => ?_
  refine ⟨A, Z, S, ρ, ok, sl, (Post.split (Post.split p)).imp fun B T I d gr q v rv => ?_⟩
  cases d with
  | bl c =>
    cases rv
    have q := q B I (.refl gr.ok)
    cases c with
    | true => exact ⟨true, rfl, iteT ⟨B, Z, T, ρ, gr.ok, sl.grow gr, q⟩⟩
    | false => exact ⟨false, rfl, iteF (q B I (.refl gr.ok) _ (.bl _))⟩
  | _ => exact q.elim
theorem se_or {f g : FE} {rest : List Expr} (ha : SE X W ca a f) (hb : SE X W ca (.BoolOp .Or (b :: rest) pos) g) : SE X W ca (.BoolOp .Or (a :: b :: rest) pos) (fOrV f g) := by
  refine se_of (pe_or ha.pe hb.pe) fun σ H Q ⟨A, Z, S, ρ, ok, sl, p⟩ => ?_
  refine ⟨A, Z, S, ρ, ok, sl, (Post.split (Post.split p)).imp fun B T I d gr q v rv => ?_⟩
  cases d with
  | bl c =>
    cases rv
    have q := q B I (.refl gr.ok)
    cases c with
    | true => exact ⟨true, rfl, iteT (q B I (.refl gr.ok) _ (.bl _))⟩
    | false => exact ⟨false, rfl, iteF ⟨B, Z, T, ρ, gr.ok, sl.grow gr, q⟩⟩
  | _ => exact q.elim
theorem se_not {f : FE} (ha : SE X W ca a f) : SE X W ca (.UnaryOp .Not a pos) (fNotV f) := by
  refine se_of (pe_not ha.pe) fun σ H Q ⟨A, Z, S, ρ, ok, sl, p⟩ => ?_
  refine ⟨A, Z, S, ρ, ok, sl, (Post.split (Post.split p)).imp fun B T I d gr q v rv => ?_⟩
  cases d with
  | bl c =>
    cases rv
    exact ⟨c, rfl, q B I (.refl gr.ok) B I (.refl gr.ok) _ (.bl _)⟩
  | _ => exact q.elim
/-- a if t else b -/
def fIf (t : FT) (f g : FE) : FE := fun ρ S => (t ρ S).bind fun c S1 => if c = true then f ρ S1 else g ρ S1
theorem se_ifExp {c : Expr} {t : FT} {f g : FE} (hc : ST_ X W ca c t) (ha : SE X W ca a f) (hb : SE X W ca b g) : SE X W ca (.IfExp c a b pos) (fIf t f g) := by
  refine se_of (pe_ifExp hc.pt ha.pe hb.pe) fun σ H Q ⟨A, Z, S, ρ, ok, sl, p⟩ => ?_
  refine ⟨A, Z, S, ρ, ok, sl, (Post.split p).imp fun B T I c gr q => ?_⟩
  cases c with
  | true => exact iteT ⟨B, Z, T, ρ, gr.ok, sl.grow gr, q⟩
  | false => exact iteF ⟨B, Z, T, ρ, gr.ok, sl.grow gr, q⟩
/-! argument lists, displays -/
def fNil : FA := fun _ S => .ok [] S
def fCons (f : FE) (g : FA) : FA := fun ρ S => (f ρ S).bind fun d S1 => (g ρ S1).bind fun ds S2 => .ok (d :: ds) S2
theorem sa_nil : SA X W ca [] fNil := ⟨pa_imp pa_nil fun σ H Q ⟨A, Z, S, ρ, ok, sl, p⟩ => p A H (.refl ok) [] .nil⟩
theorem sa_cons {f : FE} {g : FA} (h : SE X W ca e f) (hr : SA X W ca es g) (hs : starEach (e :: es) X.env = (false, eval e X.env) :: starEach es X.env := by rfl) : SA X W ca (e :: es) (fCons f g) := by
  refine ⟨pa_imp (pa_cons h.pe hr.pa hs) fun σ H Q ⟨A, Z, S, ρ, ok, sl, p⟩ => ?_⟩
  refine ⟨A, Z, S, ρ, ok, sl, (Post.split p).imp fun B T I d gr q v rv => ?_⟩
  refine ⟨B, Z, T, ρ, gr.ok, sl.grow gr, (Post.split q).imp fun C U J ds gr2 q2 vs rvs => ?_⟩
  exact q2 C J (.refl gr2.ok) (v :: vs) (.cons (rv.grow gr2) rvs)
def capN : Nat := 10000000
theorem capN_le {n : Nat} (h : n ≤ capN) : n ≤ sizeLine := Nat.le_trans h (by decide)
theorem capN_lt {n : Nat} (h : n < capN) : n < sizeLine := Nat.lt_of_lt_of_le h (by decide)
def fTup (f : FA) : FE := fun ρ S => (f ρ S).bind fun ds S1 => if ds.length ≤ capN then .ok (.tup ds) S1 else .bad
theorem new_tup {K : PySem.W.Frag} {A Z : List Addr} {S : Sto} {H : Hp} {p : Addr} {vs : List V} {ds : List D} (ok : SOk K A Z S H) (h : H p = none) (r : DRs A (cut A Z S H) K vs ds) :
    DR A (cut A Z S (upd H p (.tup vs))) K (.ref p) (.tup ds) := .tup (SqT.of (cut_new ok h)) (r.mono (List.prefix_refl _) (cut_upd h))
theorem new_lst {K : PySem.W.Frag} {A Z : List Addr} {S : Sto} {H : Hp} {p : Addr} {vs : List V} {ds : List D} (ok : SOk K A Z S H) (h : H p = none) (r : DRs A (cut A Z S H) K vs ds) :
    DR A (cut A Z S (upd H p (.lst vs))) K (.ref p) (.lst ds) := .lst (cut_new ok h) (r.mono (List.prefix_refl _) (cut_upd h))
theorem se_tup {f : FA} {k : Nat} (h : SA X W ca es f) : SE X W ca (.Tuple es k pos) (fTup f) := by
  refine se_of (pe_tup h.pa) fun σ H Q ⟨A, Z, S, ρ, ok, sl, p⟩ => ?_
  refine ⟨A, Z, S, ρ, ok, sl, (Post.split p).imp fun B T I ds gr q vs rv => ?_⟩
  by_cases hc : ds.length ≤ capN
  · rw [if_pos hc] at q
    exact ⟨by rw [rv.length]; exact capN_le hc, fun p hp => q B _ (.new gr.ok hp) _ (new_tup gr.ok hp rv)⟩
  · rw [if_neg hc] at q
    exact q.elim
/-- a list as data -/
def fLst (f : FA) : FE := fun ρ S => (f ρ S).bind fun ds S1 => if ds.length ≤ capN then .ok (.lst ds) S1 else .bad
/-- a list that may change -/
def fLstC (f : FA) : FE := fun ρ S => (f ρ S).bind fun ds S1 => if ds.length ≤ capN then .ok (.cel S1.length) (S1 ++ [.lst ds]) else .bad
theorem se_lst {f : FA} (h : SA X W ca es f) : SE X W ca (.List es pos) (fLst f) := by
  refine se_of (pe_lst h.pa) fun σ H Q ⟨A, Z, S, ρ, ok, sl, p⟩ => ?_
  refine ⟨A, Z, S, ρ, ok, sl, (Post.split p).imp fun B T I ds gr q vs rv => ?_⟩
  by_cases hc : ds.length ≤ capN
  · rw [if_pos hc] at q
    exact ⟨by rw [rv.length]; exact capN_le hc, fun p hp => q B _ (.new gr.ok hp) _ (new_lst gr.ok hp rv)⟩
  · rw [if_neg hc] at q
    exact q.elim
theorem new_cel {K : PySem.W.Frag} {A Z : List Addr} {S : Sto} {H G : Hp} {p : Addr} (ok : SOk K A Z S H) : DR (A ++ [p]) G K (.ref p) (.cel S.length) := .cel (by rw [← ok.len]; exact snoc_get)
theorem se_lstC {f : FA} (h : SA X W ca es f) : SE X W ca (.List es pos) (fLstC f) := by
  refine se_of (pe_lst h.pa) fun σ H Q ⟨A, Z, S, ρ, ok, sl, p⟩ => ?_
  refine ⟨A, Z, S, ρ, ok, sl, (Post.split p).imp fun B T I ds gr q vs rv => ?_⟩
  by_cases hc : ds.length ≤ capN
  · rw [if_pos hc] at q
    exact ⟨by rw [rv.length]; exact capN_le hc, fun p hp => q _ _ (.cell gr.ok hp rv) _ (new_cel gr.ok)⟩
  · rw [if_neg hc] at q
    exact q.elim
end
end DL

set_option maxHeartbeats 2000000
namespace DL
open PySem PySem.Spec PyProof.Rows L2
/-! ### lists and tuples that are read -/
def lstOf (S : Sto) : D → Option (List D)
  | .lst xs => some xs
  | .cel i => match S[i]? with
    | some (.lst xs) => some xs
    | some (.lk xs) => some xs
    | _ => none
  | _ => none
/-- also one that is only read -/
def seqOf (S : Sto) : D → Option (List D)
  | .kls xs => some xs
  | d => lstOf S d
section
variable {K : PySem.W.Frag} {A Z : List Addr} {S : Sto} {H : Hp} {v : V} {d : D} {xs : List D}
theorem lstOf_at (ok : SOk K A Z S H) (r : DR A (cut A Z S H) K v d) (h : lstOf S d = some xs) : ∃ a vs, v = .ref a ∧ H a = some (.lst vs) ∧ DRs A (cut A Z S H) K vs xs := by
  cases r with
  | lst h1 h2 => cases h; exact ⟨_, _, rfl, cut_sub h1, h2⟩
  | @cel a i h1 =>
    unfold lstOf at h
    simp only at h
    split at h
    · rename_i ys e
      cases h
      obtain ⟨a', vs, k1, k2, k3⟩ := ok.at_ i _ xs e (.inl rfl)
      rw [h1] at k1
      cases k1
      exact ⟨a, vs, rfl, k2, k3⟩
    · rename_i ys e
      cases h
      obtain ⟨a', vs, k1, k2, k3⟩ := ok.at_ i _ xs e (.inr rfl)
      rw [h1] at k1
      cases k1
      exact ⟨a, vs, rfl, k2, k3⟩
    · cases h
  | _ => cases h
theorem seqOf_at (ok : SOk K A Z S H) (r : DR A (cut A Z S H) K v d) (h : seqOf S d = some xs) : ∃ a vs, v = .ref a ∧ SqL K H a vs ∧ DRs A (cut A Z S H) K vs xs := by
  cases r with
  | kls h1 h2 => cases h; exact ⟨_, _, rfl, sql_mono (fun _ _ => cut_sub) h1, h2⟩
  | lst h1 h2 => cases h; exact ⟨_, _, rfl, SqL.of (cut_sub h1), h2⟩
  | cel h1 =>
    obtain ⟨a, vs, e, h1, h2⟩ := lstOf_at ok (.cel h1) h
    exact ⟨a, vs, e, SqL.of h1, h2⟩
  | _ => cases h
theorem tup_at (r : DR A (cut A Z S H) K v (.tup xs)) : ∃ a vs, v = .ref a ∧ SqT K H a vs ∧ DRs A (cut A Z S H) K vs xs := by
  cases r with
  | tup h1 h2 => exact ⟨_, _, rfl, sqt_mono (fun _ _ => cut_sub) h1, h2⟩
end
/-! ### data for == and repr -/
mutual
def toP0 : D → Option PyData
  | .non => some .none
  | .bl b => some (.bool b)
  | .int i => some (.int i)
  | .str x => some (.str x)
  | .lst xs => (toP0s xs).map .list
  | .kls xs => (toP0s xs).map .list
  | .tup xs => (toP0s xs).map .tuple
  | .dct _ => none
  | .cel _ => none
  | .fn _ => none
  | .exc _ _ => none
def toP0s : List D → Option (List PyData)
  | [] => some []
  | d :: ds => match toP0 d, toP0s ds with
    | some p, some ps => some (p :: ps)
    | _, _ => none
end
mutual
def toP (S : Sto) : D → Option PyData
  | .non => some .none
  | .bl b => some (.bool b)
  | .int i => some (.int i)
  | .str x => some (.str x)
  | .lst xs => (toPs S xs).map .list
  | .kls xs => (toPs S xs).map .list
  | .tup xs => (toPs S xs).map .tuple
  | .dct _ => none
  | .cel i => match lstOf S (.cel i) with
    | some xs => (toP0s xs).map .list
    | none => none
  | .fn _ => none
  | .exc _ _ => none
def toPs (S : Sto) : List D → Option (List PyData)
  | [] => some []
  | d :: ds => match toP S d, toPs S ds with
    | some p, some ps => some (p :: ps)
    | _, _ => none
end
section
variable {K : PySem.W.Frag} {A Z : List Addr} {S : Sto} {H : Hp}
mutual
theorem toP0_at : ∀ {d : D} {v : V} {p : PyData}, DR A (cut A Z S H) K v d → toP0 d = some p → Dp K H v p
  | .non, _, _, r, h => by cases r; cases h; exact .non
  | .bl b, _, _, r, h => by cases r; cases h; exact .bl b
  | .int i, _, _, r, h => by cases r; cases h; exact .int i
  | .str x, _, _, r, h => by cases r; cases h; exact .str x
  | .lst xs, _, _, r, h => by
    cases r with
    | lst h1 h2 =>
      unfold toP0 at h
      cases e : toP0s xs with
      | none => rw [e] at h; cases h
      | some ps =>
        rw [e] at h
        cases h
        exact .lst (SqL.of (cut_sub h1)) (toP0s_at h2 e)
  | .kls xs, _, _, r, h => by
    cases r with
    | kls h1 h2 =>
      unfold toP0 at h
      cases e : toP0s xs with
      | none => rw [e] at h; cases h
      | some ps =>
        rw [e] at h
        cases h
        exact .lst (sql_mono (fun _ _ => cut_sub) h1) (toP0s_at h2 e)
  | .tup xs, _, _, r, h => by
    cases r with
    | tup h1 h2 =>
      unfold toP0 at h
      cases e : toP0s xs with
      | none => rw [e] at h; cases h
      | some ps =>
        rw [e] at h
        cases h
        exact .tup (sqt_mono (fun _ _ => cut_sub) h1) (toP0s_at h2 e)
  | .dct _, _, _, _, h => by cases h
  | .cel _, _, _, _, h => by cases h
  | .fn _, _, _, _, h => by cases h
  | .exc _ _, _, _, _, h => by cases h
theorem toP0s_at : ∀ {ds : List D} {vs : List V} {ps : List PyData}, DRs A (cut A Z S H) K vs ds → toP0s ds = some ps → DpAll K H vs ps
  | [], _, _, r, h => by cases r; cases h; exact .nil
  | d :: ds, _, _, r, h => by
    cases r with
    | cons h1 h2 =>
      unfold toP0s at h
      cases e1 : toP0 d with
      | none => rw [e1] at h; cases h
      | some p =>
        cases e2 : toP0s ds with
        | none => rw [e1, e2] at h; cases h
        | some ps =>
          rw [e1, e2] at h
          cases h
          exact .cons (toP0_at h1 e1) (toP0s_at h2 e2)
end
mutual
theorem toP_at (ok : SOk K A Z S H) : ∀ {d : D} {v : V} {p : PyData}, DR A (cut A Z S H) K v d → toP S d = some p → Dp K H v p
  | .non, _, _, r, h => by cases r; cases h; exact .non
  | .bl b, _, _, r, h => by cases r; cases h; exact .bl b
  | .int i, _, _, r, h => by cases r; cases h; exact .int i
  | .str x, _, _, r, h => by cases r; cases h; exact .str x
  | .lst xs, _, _, r, h => by
    cases r with
    | lst h1 h2 =>
      unfold toP at h
      cases e : toPs S xs with
      | none => rw [e] at h; cases h
      | some ps =>
        rw [e] at h
        cases h
        exact .lst (SqL.of (cut_sub h1)) (toPs_at ok h2 e)
  | .kls xs, _, _, r, h => by
    cases r with
    | kls h1 h2 =>
      unfold toP at h
      cases e : toPs S xs with
      | none => rw [e] at h; cases h
      | some ps =>
        rw [e] at h
        cases h
        exact .lst (sql_mono (fun _ _ => cut_sub) h1) (toPs_at ok h2 e)
  | .tup xs, _, _, r, h => by
    cases r with
    | tup h1 h2 =>
      unfold toP at h
      cases e : toPs S xs with
      | none => rw [e] at h; cases h
      | some ps =>
        rw [e] at h
        cases h
        exact .tup (sqt_mono (fun _ _ => cut_sub) h1) (toPs_at ok h2 e)
  | .dct _, _, _, _, h => by cases h
  | .cel i, v, p, r, h => by
    unfold toP at h
    cases e : lstOf S (.cel i) with
    | none => rw [e] at h; cases h
    | some xs =>
      rw [e] at h
      simp only at h
      obtain ⟨a, vs, rfl, h1, h2⟩ := lstOf_at ok r e
      cases e2 : toP0s xs with
      | none => rw [e2] at h; cases h
      | some ps =>
        rw [e2] at h
        cases h
        exact .lst (SqL.of h1) (toP0s_at h2 e2)
  | .fn _, _, _, _, h => by cases h
  | .exc _ _, _, _, _, h => by cases h
theorem toPs_at (ok : SOk K A Z S H) : ∀ {ds : List D} {vs : List V} {ps : List PyData}, DRs A (cut A Z S H) K vs ds → toPs S ds = some ps → DpAll K H vs ps
  | [], _, _, r, h => by cases r; cases h; exact .nil
  | d :: ds, _, _, r, h => by
    cases r with
    | cons h1 h2 =>
      unfold toPs at h
      cases e1 : toP S d with
      | none => rw [e1] at h; cases h
      | some p =>
        cases e2 : toPs S ds with
        | none => rw [e1, e2] at h; cases h
        | some ps =>
          rw [e1, e2] at h
          cases h
          exact .cons (toP_at ok h1 e1) (toPs_at ok h2 e2)
end
end
/-! ### the operations, on data -/
/-- bounds, so written that nothing counts up to them -/
def ltN (i : Int) (m : Nat) : Bool := Nat.blt i.natAbs m
theorem ltN_at {i : Int} {m : Nat} (h : ltN i m = true) : i.natAbs < m := by
  unfold ltN at h
  exact Nat.le_of_ble_eq_true h
theorem ltN_of {i : Int} {m : Nat} (h : i.natAbs < m) : ltN i m = true := Nat.ble_eq_true_of_le h
theorem pow_room {b : Nat} {j : Int} (h1 : 0 ≤ j) (h : b * j.natAbs ≤ 134217728) : (b : Int) * j ≤ 134217728 := by
  have e : (b : Int) * j = ((b * j.natAbs : Nat) : Int) := by
    rw [Int.natCast_mul, Int.natAbs_of_nonneg h1]
  rw [e]
  omega
@[irreducible] def mulOk (i j : Int) : Bool := ltN i 18446744073709551616 || ltN j 18446744073709551616 || Nat.blt (i.natAbs.log2 + j.natAbs.log2) 1000000
@[irreducible] def fdivOk (j : Int) : Bool := decide (0 < j) && (ltN j 1073741824 || Nat.blt j.natAbs.log2 9000)
@[irreducible] def powOk (i j : Int) : Bool := decide (0 ≤ j) && ((ltN j 1000001 && ltN i 18446744073709551616) || Nat.ble (Builtin.Int.intBits i * j.natAbs) 134217728)
def addD : Op2 := fun x y S => match x, y with
  | .int i, .int j => some (.int (i + j))
  | .str a, .str b => if a.length + b.length ≤ capN then some (.str (a ++ b)) else none
  | .tup a, .tup b => if a.length + b.length ≤ capN then some (.tup (a ++ b)) else none
  | x, y => match lstOf S x, lstOf S y with
    | some a, some b => if a.length + b.length ≤ capN then some (.lst (a ++ b)) else none
    | _, _ => none
def subD : Op2 := fun x y _ => match x, y with
  | .int i, .int j => some (.int (i - j))
  | _, _ => none
def mulD : Op2 := fun x y S => match x, y with
  | .int i, .int j => if mulOk i j then some (.int (i * j)) else none
  | x, .int k => match lstOf S x with
    | some a => if ltN k 1000000000 && decide (a.length * k.toNat ≤ capN) then some (.lst (List.replicate k.toNat a).flatten) else none
    | none => none
  | _, _ => none
def fdivD : Op2 := fun x y _ => match x, y with
  | .int i, .int j => if fdivOk j then some (.int (i / j)) else none
  | _, _ => none
def modD : Op2 := fun x y _ => match x, y with
  | .int i, .int j => if decide (0 < j) then some (.int (i % j)) else none
  | _, _ => none
def powD : Op2 := fun x y _ => match x, y with
  | .int i, .int j => if powOk i j then some (.int (i ^ j.toNat)) else none
  | _, _ => none
def eqB (S : Sto) (x y : D) : Option Bool := match x, y with
  | .int i, .int j => some (decide (i = j))
  | .str a, .str b => some (decide (a = b))
  | x, y => match toP S x, toP S y with
  | some p, some q => if SeqAt.shaped p && SeqAt.shaped q then some (PyData.eqv p q) else none
  | _, _ => none
def eqD : Op2 := fun x y S => (eqB S x y).map .bl
def neD : Op2 := fun x y S => (eqB S x y).map fun b => .bl (!b)
def ltD : Op2 := fun x y _ => match x, y with
  | .int i, .int j => some (.bl (decide (i < j)))
  | _, _ => none
def leD : Op2 := fun x y _ => match x, y with
  | .int i, .int j => some (.bl (decide (i ≤ j)))
  | _, _ => none
def gtD : Op2 := fun x y _ => match x, y with
  | .int i, .int j => some (.bl (decide (j < i)))
  | _, _ => none
def intsOf : List D → Option (List Int)
  | [] => some []
  | .int i :: ds => (intsOf ds).map (i :: ·)
  | _ => none
def geI (ns ms : List Int) : Bool := Ob.lexAt (fun j => decide (ns.getD j 0 = ms.getD j 0)) (fun j => decide (ms.getD j 0 ≤ ns.getD j 0)) (decide (ns.length ≥ ms.length)) 0 (min ns.length ms.length)
def geD : Op2 := fun x y _ => match x, y with
  | .int i, .int j => some (.bl (decide (j ≤ i)))
  | .tup a, .tup b => match intsOf a, intsOf b with
    | some ns, some ms => some (.bl (geI ns ms))
    | _, _ => none
  | _, _ => none
def isNon : D → Bool
  | .non => true
  | _ => false
def isBlD (b : Bool) : D → Bool
  | .bl a => a == b
  | _ => false
def isD : Op2 := fun x y _ => match y with
  | .non => some (.bl (isNon x))
  | .bl b => some (.bl (isBlD b x))
  | _ => none
def isnotD : Op2 := fun x y _ => match y with
  | .non => some (.bl (!isNon x))
  | .bl b => some (.bl (!isBlD b x))
  | _ => none
def inD : Op2 := fun x y S => match toP S x, toP S y with
  | some p, some (.list qs) => if SeqAt.shaped p && SeqAt.shaped (.list qs) then some (.bl (qs.any fun z => PyData.eqv z p)) else none
  | _, _ => none
def notInD : Op2 := fun x y S => match toP S x, toP S y with
  | some p, some (.list qs) => if SeqAt.shaped p && SeqAt.shaped (.list qs) then some (.bl (!qs.any fun z => PyData.eqv z p)) else none
  | _, _ => none
theorem intsOf_map : ∀ {ds : List D} {ns : List Int}, intsOf ds = some ns → ∀ {A : List Addr} {G : Hp} {K : PySem.W.Frag} {vs : List V}, DRs A G K vs ds → vs = ns.map V.int
  | [], ns, h, _, _, _, _, r => by cases h; cases r; rfl
  | .int i :: ds, ns, h, _, _, _, _, r => by
    unfold intsOf at h
    cases e : intsOf ds with
    | none => rw [e] at h; cases h
    | some ms =>
      rw [e] at h
      cases h
      cases r with
      | cons h1 h2 =>
        cases h1
        rw [intsOf_map e h2]
        rfl
  | .non :: _, _, h, _, _, _, _, _ => by cases h
  | .bl _ :: _, _, h, _, _, _, _, _ => by cases h
  | .str _ :: _, _, h, _, _, _, _, _ => by cases h
  | .lst _ :: _, _, h, _, _, _, _, _ => by cases h
  | .kls _ :: _, _, h, _, _, _, _, _ => by cases h
  | .tup _ :: _, _, h, _, _, _, _, _ => by cases h
  | .dct _ :: _, _, h, _, _, _, _, _ => by cases h
  | .cel _ :: _, _, h, _, _, _, _, _ => by cases h
  | .fn _ :: _, _, h, _, _, _, _, _ => by cases h
section
variable {X : Cx}
theorem opd_add : OpR X (binaryOp .Add) (rD X.K addD) := by
  intro pins s σ H x y v u Q I rx ry ⟨A, Z, S, dx, dy, d, ok, hx, hy, e, q⟩
  have lists : (match lstOf S dx, lstOf S dy with
    | some a, some b => if a.length + b.length ≤ capN then some (D.lst (a ++ b)) else none
    | _, _ => none) = some d → wpAny (model X.prog X.w) X.A (binaryOp .Add v u) (EP X pins σ Q) X.xe s := fun e => by
    cases e1 : lstOf S dx with
    | none => rw [e1] at e; cases e
    | some a =>
      cases e2 : lstOf S dy with
      | none => rw [e1, e2] at e; cases e
      | some b =>
        rw [e1, e2] at e
        simp only at e
        by_cases hc : a.length + b.length ≤ capN
        · rw [if_pos hc] at e
          cases e
          obtain ⟨l, vs, rfl, h1, h2⟩ := lstOf_at ok hx e1
          obtain ⟨m, ws, rfl, k1, k2⟩ := lstOf_at ok hy e2
          exact op_cat pins s σ H _ _ v u Q I rx ry ⟨l, m, vs, ws, rfl, rfl, h1, k1, by rw [h2.length, k2.length]; exact capN_le hc, fun p hp => q A _ _ (.new ok hp) (new_lst ok hp (h2.append k2))⟩
        · rw [if_neg hc] at e
          cases e
  unfold addD at e
  split at e
  · cases hx; cases hy; cases e
    exact op_add pins s σ H _ _ v u Q I rx ry ⟨_, _, rfl, rfl, q A H _ (.refl ok) (.int _)⟩
  · cases hx; cases hy
    rename_i a b
    by_cases hc : a.length + b.length ≤ capN
    · rw [if_pos hc] at e
      cases e
      exact op_add_str pins s σ H _ _ v u Q I rx ry ⟨_, _, rfl, rfl, capN_le hc, q A H _ (.refl ok) (.str _)⟩
    · rw [if_neg hc] at e
      cases e
  · rename_i a b
    by_cases hc : a.length + b.length ≤ capN
    · rw [if_pos hc] at e
      cases e
      obtain ⟨l, vs, rfl, h1, h2⟩ := tup_at hx
      obtain ⟨m, ws, rfl, k1, k2⟩ := tup_at hy
      refine op_catA pins s σ H _ _ v u Q I rx ry ⟨l, m, vs, ws, rfl, rfl, h1, k1, by rw [h2.length, k2.length]; exact capN_le hc, fun z => ?_, fun _ z => ?_, fun _ _ p hp => q A _ _ (.new ok hp) (new_tup ok hp (h2.append k2))⟩
      · subst z
        cases h2
        exact q A H _ (.refl ok) hy
      · subst z
        cases k2
        rw [List.append_nil] at q
        exact q A H _ (.refl ok) hx
    · rw [if_neg hc] at e
      cases e
  · exact lists e
theorem opd_sub : OpR X (binaryOp .Sub) (rD X.K subD) := by
  intro pins s σ H x y v u Q I rx ry ⟨A, Z, S, dx, dy, d, ok, hx, hy, e, q⟩
  unfold subD at e
  split at e
  · cases hx; cases hy; cases e
    exact op_sub pins s σ H _ _ v u Q I rx ry ⟨_, _, rfl, rfl, q A H _ (.refl ok) (.int _)⟩
  · cases e
theorem opd_mul : OpR X (binaryOp .Mult) (rD X.K mulD) := by
  intro pins s σ H x y v u Q I rx ry ⟨A, Z, S, dx, dy, d, ok, hx, hy, e, q⟩
  unfold mulD at e
  split at e
  · cases hx; cases hy
    split at e
    · rename_i hc
      cases e
      unfold mulOk at hc
      simp only [Bool.or_eq_true] at hc
      have p64 : (2 : Int) ^ 64 = 18446744073709551616 := by decide +kernel
      rcases hc with (hc | hc) | hc
      · have := ltN_at hc
        exact op_mul pins s σ H _ _ v u Q I rx ry ⟨_, _, rfl, rfl, .inl (by rw [p64]; omega), q A H _ (.refl ok) (.int _)⟩
      · have := ltN_at hc
        exact op_mul pins s σ H _ _ v u Q I rx ry ⟨_, _, rfl, rfl, .inr (by rw [p64]; omega), q A H _ (.refl ok) (.int _)⟩
      · exact op_mulW pins s σ H _ _ v u Q I rx ry ⟨_, _, rfl, rfl, Nat.le_of_ble_eq_true hc, q A H _ (.refl ok) (.int _)⟩
    · cases e
  · rename_i k _
    split at e
    · rename_i a e1
      split at e
      · rename_i hc
        cases e
        simp only [Bool.and_eq_true, decide_eq_true_eq] at hc
        obtain ⟨l, vs, rfl, h1, h2⟩ := lstOf_at ok hx e1
        cases hy
        have p63 : (2 : Int) ^ 63 = 9223372036854775808 := by decide +kernel
        have hk := ltN_at hc.1
        refine op_rep pins s σ H _ _ v u Q I rx ry ⟨l, k, vs, rfl, rfl, h1, by rw [p63]; omega, by rw [p63]; omega, by rw [h2.length]; exact capN_le hc.2, fun p hp => q A _ _ (.new ok hp) (new_lst ok hp ?_)⟩
        generalize k.toNat = n
        induction n with
        | zero => exact .nil
        | succ n ih => rw [List.replicate_succ, List.replicate_succ, List.flatten_cons, List.flatten_cons]; exact h2.append ih
      · cases e
    · cases e
  · cases e
theorem opd_fdiv : OpR X (binaryOp .FloorDiv) (rD X.K fdivD) := by
  intro pins s σ H x y v u Q I rx ry ⟨A, Z, S, dx, dy, d, ok, hx, hy, e, q⟩
  unfold fdivD at e
  split at e
  · cases hx; cases hy
    split at e
    · rename_i hc
      cases e
      unfold fdivOk at hc
      simp only [Bool.or_eq_true, Bool.and_eq_true, decide_eq_true_eq] at hc
      rcases hc.2 with h2 | h2
      · have := ltN_at h2
        have h1 := hc.1
        exact op_fdiv pins s σ H _ _ v u Q I rx ry ⟨_, _, rfl, rfl, ⟨h1, by omega⟩, q A H _ (.refl ok) (.int _)⟩
      · exact op_fdivW pins s σ H _ _ v u Q I rx ry ⟨_, _, rfl, rfl, ⟨hc.1, Nat.le_of_ble_eq_true h2⟩, q A H _ (.refl ok) (.int _)⟩
    · cases e
  · cases e
theorem opd_mod : OpR X (binaryOp .Mod) (rD X.K modD) := by
  intro pins s σ H x y v u Q I rx ry ⟨A, Z, S, dx, dy, d, ok, hx, hy, e, q⟩
  unfold modD at e
  split at e
  · cases hx; cases hy
    split at e
    · rename_i hc
      cases e
      exact op_mod pins s σ H _ _ v u Q I rx ry ⟨_, _, rfl, rfl, of_decide_eq_true hc, q A H _ (.refl ok) (.int _)⟩
    · cases e
  · cases e
theorem op_powB : OpR X (binaryOp .Pow) (rI (fun i j => 0 ≤ j ∧ (Builtin.Int.intBits i : Int) * j ≤ 2 ^ 27) fun i j => .int (i ^ j.toNat)) := opI fun _ _ _ _ _ _ _ hc q => pow_int hc.1 hc.2 q
theorem opd_pow : OpR X (binaryOp .Pow) (rD X.K powD) := by
  intro pins s σ H x y v u Q I rx ry ⟨A, Z, S, dx, dy, d, ok, hx, hy, e, q⟩
  unfold powD at e
  split at e
  · cases hx; cases hy
    split at e
    · rename_i hc
      cases e
      unfold powOk at hc
      simp only [Bool.or_eq_true, Bool.and_eq_true, decide_eq_true_eq] at hc
      obtain ⟨h1, h2⟩ := hc
      have p64 : 2 ^ 64 = 18446744073709551616 := by decide +kernel
      have p27 : (2 : Int) ^ 27 = 134217728 := by decide +kernel
      rcases h2 with ⟨h2, h3⟩ | h2
      · have k2 := ltN_at h2
        have k3 := ltN_at h3
        exact op_pow pins s σ H _ _ v u Q I rx ry ⟨_, _, rfl, rfl, ⟨h1, by omega, by rw [p64]; exact k3⟩, q A H _ (.refl ok) (.int _)⟩
      · have k2 : Builtin.Int.intBits _ * _ ≤ 134217728 := Nat.le_of_ble_eq_true h2
        refine op_powB pins s σ H _ _ v u Q I rx ry ⟨_, _, rfl, rfl, ⟨h1, ?_⟩, q A H _ (.refl ok) (.int _)⟩
        rw [p27]
        exact pow_room h1 k2
    · cases e
  · cases e
theorem eqB_at {K : PySem.W.Frag} {A Z : List Addr} {S : Sto} {H : Hp} {x y : V} {dx dy : D} {b : Bool} (ok : SOk K A Z S H) (hx : DR A (cut A Z S H) K x dx) (hy : DR A (cut A Z S H) K y dy) (h : eqB S dx dy = some b) :
    (scal x y = true ∧ b = decide (x = y)) ∨ ∃ p q, Dp K H x p ∧ Dp K H y q ∧ SeqAt.shaped p = true ∧ SeqAt.shaped q = true ∧ b = PyData.eqv p q := by
  unfold eqB at h
  split at h
  · cases hx; cases hy; cases h
    exact .inl ⟨rfl, by simp⟩
  · cases hx; cases hy; cases h
    exact .inl ⟨rfl, by simp⟩
  · split at h
    · rename_i p q e1 e2
      split at h
      · rename_i hc
        cases h
        rw [Bool.and_eq_true] at hc
        exact .inr ⟨p, q, toP_at ok hx e1, toP_at ok hy e2, hc.1, hc.2, rfl⟩
      · cases h
    · cases h
theorem opd_eq (hu : X.A.units + 64 < cLine) : OpR X (compareOp .Eq) (rD X.K eqD) := by
  intro pins s σ H x y v u Q I rx ry ⟨A, Z, S, dx, dy, d, ok, hx, hy, e, q⟩
  unfold eqD at e
  cases h : eqB S dx dy with
  | none => rw [h] at e; cases e
  | some b =>
    rw [h] at e
    cases e
    rcases eqB_at ok hx hy h with ⟨h1, rfl⟩ | ⟨p, r, h1, h2, h3, h4, rfl⟩
    · exact op_eq pins s σ H _ _ v u Q I rx ry ⟨h1, q A H _ (.refl ok) (.bl _)⟩
    · exact op_eqD hu pins s σ H _ _ v u Q I rx ry ⟨p, r, h1, h2, h3, h4, q A H _ (.refl ok) (.bl _)⟩
theorem opd_ne (hu : X.A.units + 64 < cLine) : OpR X (compareOp .NotEq) (rD X.K neD) := by
  intro pins s σ H x y v u Q I rx ry ⟨A, Z, S, dx, dy, d, ok, hx, hy, e, q⟩
  unfold neD at e
  cases h : eqB S dx dy with
  | none => rw [h] at e; cases e
  | some b =>
    rw [h] at e
    cases e
    rcases eqB_at ok hx hy h with ⟨h1, rfl⟩ | ⟨p, r, h1, h2, h3, h4, rfl⟩
    · exact op_ne pins s σ H _ _ v u Q I rx ry ⟨h1, q A H _ (.refl ok) (.bl _)⟩
    · exact op_neD hu pins s σ H _ _ v u Q I rx ry ⟨p, r, h1, h2, h3, h4, q A H _ (.refl ok) (.bl _)⟩
theorem opd_lt : OpR X (compareOp .Lt) (rD X.K ltD) := by
  intro pins s σ H x y v u Q I rx ry ⟨A, Z, S, dx, dy, d, ok, hx, hy, e, q⟩
  unfold ltD at e
  split at e
  · cases hx; cases hy; cases e
    exact op_lt pins s σ H _ _ v u Q I rx ry ⟨_, _, rfl, rfl, q A H _ (.refl ok) (.bl _)⟩
  · cases e
theorem opd_le : OpR X (compareOp .LtE) (rD X.K leD) := by
  intro pins s σ H x y v u Q I rx ry ⟨A, Z, S, dx, dy, d, ok, hx, hy, e, q⟩
  unfold leD at e
  split at e
  · cases hx; cases hy; cases e
    exact op_le pins s σ H _ _ v u Q I rx ry ⟨_, _, rfl, rfl, q A H _ (.refl ok) (.bl _)⟩
  · cases e
theorem opd_gt : OpR X (compareOp .Gt) (rD X.K gtD) := by
  intro pins s σ H x y v u Q I rx ry ⟨A, Z, S, dx, dy, d, ok, hx, hy, e, q⟩
  unfold gtD at e
  split at e
  · cases hx; cases hy; cases e
    exact op_gt pins s σ H _ _ v u Q I rx ry ⟨_, _, rfl, rfl, q A H _ (.refl ok) (.bl _)⟩
  · cases e
def rGeT (K : PySem.W.Frag) : R2 := fun x y H Q => ∃ (a b : Addr) (ns ms : List Int), x = .ref a ∧ y = .ref b ∧ SqT K H a (ns.map V.int) ∧ SqT K H b (ms.map V.int) ∧ Q (.bl (geI ns ms)) H
theorem op_geT (hu : X.A.units < cLine) : OpR X (compareOp .GtE) (rGeT X.K) := by
  intro pins s σ H x y v u Q I rx ry h
  obtain ⟨a, b, ns, ms, rfl, rfl, ha, hb, q⟩ := h
  cases rx
  cases ry
  obtain ⟨its, r1, p1, _⟩ := I.tuple ha
  obtain ⟨its2, r2, p2, _⟩ := I.tuple hb
  have i1 : IntsAre its ns := Vals.ints r1
  have i2 : IntsAre its2 ms := Vals.ints r2
  have e1 : its.toArray.size = ns.length := by rw [List.size_toArray]; exact i1.length
  have e2 : its2.toArray.size = ms.length := by rw [List.size_toArray]; exact i2.length
  have at1 : ∀ j (h1 : j < its.toArray.size), ∃ t, its.toArray[j] = .int (ns.getD j 0) t := fun j h1 => PyProof.Rows.IntsAre.int_at i1 _ _ (by simp at h1; simp [h1])
  have at2 : ∀ j (h1 : j < its2.toArray.size), ∃ t, its2.toArray[j] = .int (ms.getD j 0) t := fun j h1 => PyProof.Rows.IntsAre.int_at i2 _ _ (by simp at h1; simp [h1])
  have R := Ob.RcOp.tuples_ge (A := X.A) (s := s) (e := fun j => decide (ns.getD j 0 = ms.getD j 0)) (r := fun j => decide (ms.getD j 0 ≤ ns.getD j 0)) p1 p2 hu (fun j h1 h2 => by
    obtain ⟨t, et⟩ := at1 j h1
    obtain ⟨t', et'⟩ := at2 j h2
    rw [et, et']
    have z : (ns.getD j 0 == ms.getD j 0) = decide (ns.getD j 0 = ms.getD j 0) := by
      by_cases q : ns.getD j 0 = ms.getD j 0
      · rw [decide_eq_true q]; exact beq_iff_eq.mpr q
      · rw [decide_eq_false q]; exact beq_eq_false_iff_ne.mpr q
    rw [← z]
    exact SeqAt.EqAt.int_int _ _ _ _) (fun j h1 h2 _ => by
    obtain ⟨t, et⟩ := at1 j h1
    obtain ⟨t', et'⟩ := at2 j h2
    rw [et, et']
    exact Ob.RcOp.ge_int _ _ _ _)
  rw [e1, e2] at R
  have z : wpAny (model X.prog X.w) X.A (compareOp .GtE (.ref a) (.ref b)) (EP X pins σ Q) X.xe s := R X.prog X.w X.xe (EP X pins σ Q) ⟨.bl _, H, I, rfl, q⟩
  exact z
theorem opd_ge (hu : X.A.units < cLine) : OpR X (compareOp .GtE) (rD X.K geD) := by
  intro pins s σ H x y v u Q I rx ry ⟨A, Z, S, dx, dy, d, ok, hx, hy, e, q⟩
  unfold geD at e
  split at e
  · cases hx; cases hy; cases e
    exact op_ge pins s σ H _ _ v u Q I rx ry ⟨_, _, rfl, rfl, q A H _ (.refl ok) (.bl _)⟩
  · split at e
    · rename_i ns ms e1 e2
      cases e
      obtain ⟨l, vs, rfl, h1, h2⟩ := tup_at hx
      obtain ⟨m, ws, rfl, k1, k2⟩ := tup_at hy
      rw [intsOf_map e1 h2] at h1
      rw [intsOf_map e2 k2] at k1
      exact op_geT hu pins s σ H _ _ v u Q I rx ry ⟨l, m, ns, ms, rfl, rfl, h1, k1, q A H _ (.refl ok) (.bl _)⟩
    · cases e
  · cases e
theorem isNon_at {K : PySem.W.Frag} {A : List Addr} {G : Hp} {x : V} {d : D} (h : DR A G K x d) : decide (x = .non) = isNon d := by
  cases h <;> rfl
theorem isB_at {K : PySem.W.Frag} {A : List Addr} {G : Hp} {x : V} {d : D} {b : Bool} {v : Value} (h : DR A G K x d) (r : RelV x v) : plainIs v (.bool b) = true ∧ (v == Value.bool b) = isBlD b d := by
  cases h with
  | non => cases r; exact ⟨rfl, rfl⟩
  | bl a =>
    cases r
    refine ⟨rfl, ?_⟩
    cases a <;> cases b <;> rfl
  | int i => obtain ⟨t, rfl⟩ := r; exact ⟨rfl, rfl⟩
  | str x => obtain ⟨t, rfl⟩ := r; exact ⟨rfl, rfl⟩
  | lst _ _ => cases r; exact ⟨rfl, rfl⟩
  | kls _ _ => cases r; exact ⟨rfl, rfl⟩
  | tup _ _ => cases r; exact ⟨rfl, rfl⟩
  | dct0 _ => cases r; exact ⟨rfl, rfl⟩
  | cel _ => cases r; exact ⟨rfl, rfl⟩
  | fn _ => cases r; exact ⟨rfl, rfl⟩
  | exc _ _ _ => cases r; exact ⟨rfl, rfl⟩
theorem opd_is : OpR X (compareOp .Is) (rD X.K isD) := by
  intro pins s σ H x y v u Q I rx ry ⟨A, Z, S, dx, dy, d, ok, hx, hy, e, q⟩
  unfold isD at e
  split at e
  · cases hy; cases e
    exact op_isN pins s σ H _ _ v u Q I rx ry ⟨rfl, by rw [isNon_at hx]; exact q A H _ (.refl ok) (.bl _)⟩
  · cases hy; cases e
    rename_i b
    cases (show u = Value.bool b from ry)
    obtain ⟨h1, h2⟩ := isB_at (b := b) hx rx
    exact wpAny_is_plain h1 ⟨.bl _, H, I, rfl, by rw [h2]; exact q A H _ (.refl ok) (.bl _)⟩
  · cases e
theorem opd_isnot : OpR X (compareOp .IsNot) (rD X.K isnotD) := by
  intro pins s σ H x y v u Q I rx ry ⟨A, Z, S, dx, dy, d, ok, hx, hy, e, q⟩
  unfold isnotD at e
  split at e
  · cases hy; cases e
    exact op_notN pins s σ H _ _ v u Q I rx ry ⟨rfl, by rw [isNon_at hx]; exact q A H _ (.refl ok) (.bl _)⟩
  · cases hy; cases e
    rename_i b
    cases (show u = Value.bool b from ry)
    obtain ⟨h1, h2⟩ := isB_at (b := b) hx rx
    exact wpAny_isNot_plain h1 ⟨.bl _, H, I, rfl, by rw [h2]; exact q A H _ (.refl ok) (.bl _)⟩
  · cases e
theorem opd_in (hu : X.A.units + 65 < cLine) : OpR X (compareOp .In) (rD X.K inD) := by
  intro pins s σ H x y v u Q I rx ry ⟨A, Z, S, dx, dy, d, ok, hx, hy, e, q⟩
  unfold inD at e
  split at e
  · rename_i p qs e1 e2
    split at e
    · rename_i hc
      cases e
      rw [Bool.and_eq_true] at hc
      exact op_inD hu pins s σ H _ _ v u Q I rx ry ⟨p, qs, toP_at ok hx e1, toP_at ok hy e2, hc.1, hc.2, q A H _ (.refl ok) (.bl _)⟩
    · cases e
  · cases e
theorem opd_notIn (hu : X.A.units + 65 < cLine) : OpR X (compareOp .NotIn) (rD X.K notInD) := by
  intro pins s σ H x y v u Q I rx ry ⟨A, Z, S, dx, dy, d, ok, hx, hy, e, q⟩
  unfold notInD at e
  split at e
  · rename_i p qs e1 e2
    split at e
    · rename_i hc
      cases e
      rw [Bool.and_eq_true] at hc
      exact op_notInD hu pins s σ H _ _ v u Q I rx ry ⟨p, qs, toP_at ok hx e1, toP_at ok hy e2, hc.1, hc.2, q A H _ (.refl ok) (.bl _)⟩
    · cases e
  · cases e
end
end DL

set_option maxHeartbeats 2000000
namespace DL
open PySem PySem.Spec PyProof.Rows L2
/-! ### items and slices -/
theorem atI_rel {A : List Addr} {G : Hp} {K : PySem.W.Frag} {vs : List V} {ds : List D} {i : Int} {d : D} (r : DRs A G K vs ds) (h : atI ds i = some d) : ∃ v, atI vs i = some v ∧ DR A G K v d := by
  unfold atI at h ⊢
  rw [r.length]
  cases e : ixN ds.length i with
  | none => rw [e] at h; cases h
  | some j =>
    rw [e] at h
    exact r.get h
def ixD : Op2 := fun x y S => match x, y with
  | .tup xs, .int i => atI xs i
  | .str z, .int i => if z.length ≤ capN then (atI z.cps.toList i).map fun c => .str ⟨#[c]⟩ else none
  | x, .int i => (seqOf S x).bind fun xs => atI xs i
  | _, _ => none
def cutD (xs : List D) (lo hi : Option Int) : List D := (xs.drop (HT.sIx xs.length 0 lo)).take (HT.sIx xs.length xs.length hi - HT.sIx xs.length 0 lo)
def slD (x : D) (lo hi : Option Int) (S : Sto) : Option D := match x with
  | .tup xs => some (.tup (cutD xs lo hi))
  | x => (seqOf S x).map fun xs => .lst (cutD xs lo hi)
theorem cut_rel {A : List Addr} {G : Hp} {K : PySem.W.Frag} {vs : List V} {ds : List D} (r : DRs A G K vs ds) (lo hi : Option Int) : DRs A G K (cutV vs lo hi) (cutD ds lo hi) := by
  unfold cutV cutD
  rw [r.length]
  exact (r.drop _).take _
section
variable {X : Cx}
theorem ixd : IxR X (rD X.K ixD) := by
  intro value slice pins s σ H x y v u Q I rx ry ⟨A, Z, S, dx, dy, d, ok, hx, hy, e, q⟩ hs
  have lists : ∀ i, y = .int i → ((seqOf S dx).bind fun xs => atI xs i) = some d → wpAny (model X.prog X.w) X.A (subscriptTail value slice v u) (EP X pins σ Q) X.xe s := fun i ey e => by
    cases e1 : seqOf S dx with
    | none => rw [e1] at e; cases e
    | some xs =>
      rw [e1] at e
      obtain ⟨a, vs, rfl, h1, h2⟩ := seqOf_at ok hx e1
      obtain ⟨w, h3, h4⟩ := atI_rel h2 e
      exact ix_list value slice pins s σ H _ _ v u Q I rx ry ⟨a, vs, i, w, rfl, ey, h1, h3, q A H _ (.refl ok) h4⟩ hs
  unfold ixD at e
  split at e
  · cases hy
    rename_i xs i
    obtain ⟨a, vs, rfl, h1, h2⟩ := tup_at hx
    obtain ⟨w, h3, h4⟩ := atI_rel h2 e
    exact ix_tup value slice pins s σ H _ _ v u Q I rx ry ⟨a, vs, i, w, rfl, rfl, h1, h3, q A H _ (.refl ok) h4⟩ hs
  · cases hx; cases hy
    rename_i z i
    split at e
    · rename_i hc
      cases e1 : atI z.cps.toList i with
      | none => rw [e1] at e; cases e
      | some c =>
        rw [e1] at e
        cases e
        exact ix_str value slice pins s σ H _ _ v u Q I rx ry ⟨z, i, c, rfl, rfl, capN_le hc, e1, q A H _ (.refl ok) (.str _)⟩ hs
    · cases e
  · cases hy
    exact lists _ rfl e
  · cases e
theorem se_ix {W : WX} {ca : Str → Addr} {a b : Expr} {pos : Pos} {fa fb : FE} (ha : SE X W ca a fa) (hb : SE X W ca b fb) (hs : PlainIx b) : SE X W ca (.Subscript a b pos) (fOp ixD fa fb) :=
  se_of (pe_ix ixd ha.pe hb.pe hs) fun _ _ _ h => tE_bin h
abbrev FO := Env → Sto → Res (Option Int)
def fNoPart : FO := fun _ S => .ok none S
def fPart (f : FE) : FO := fun ρ S => (f ρ S).bind fun d S1 => match d with
  | .int i => .ok (some i) S1
  | _ => .bad
def tO (K : PySem.W.Frag) (W : WX) (ca : Str → Addr) (f : FO) : TO := fun σ H Q => ∃ A Z S ρ, SOk K A Z S H ∧ Sl K A (cut A Z S H) ρ σ ∧ Post K W ca A Z S H σ (f ρ S) fun B T I o => Q o I
structure SO (X : Cx) (W : WX) (ca : Str → Addr) (e : Option Expr) (f : FO) : Prop where
  po : PO X e (tO X.K W ca f)
theorem po_imp {e : Option Expr} {t t' : TO} (h : PO X e t) (i : ∀ σ H Q, t' σ H Q → t σ H Q) : PO X e t' := ⟨fun pins s σ H Q I q => h.run pins s σ H Q I (i _ _ _ q)⟩
variable {W : WX} {ca : Str → Addr} {e : Expr} {es : List Expr} {pos : Pos}
theorem so_none : SO X W ca none fNoPart := ⟨po_imp po_none fun σ H Q ⟨A, Z, S, ρ, ok, sl, p⟩ => p A H (.refl ok)⟩
theorem so_some {f : FE} (h : SE X W ca e f) : SO X W ca (some e) (fPart f) := ⟨po_imp (po_some h.pe) fun σ H Q ⟨A, Z, S, ρ, ok, sl, p⟩ => by
  refine ⟨A, Z, S, ρ, ok, sl, (Post.split p).imp fun B T I d g q v rv => ?_⟩
  cases d with
  | int i =>
    cases rv
    exact ⟨i, rfl, q B I (.refl g.ok)⟩
  | _ => exact q.elim⟩
def fSl (f : FE) (lo hi : FO) : FE := fun ρ S => (f ρ S).bind fun d S1 => (lo ρ S1).bind fun l S2 => (hi ρ S2).bind fun h S3 => okO (slD d l h S3) S3
def rSlD (K : PySem.W.Frag) : V → Option Int → Option Int → Hp → VK → Prop := fun x lo hi H Q => ∃ A Z S dx d, SOk K A Z S H ∧ DR A (cut A Z S H) K x dx ∧ slD dx lo hi S = some d ∧ ∀ B I v, Grow K Z A S H B S I → DR B (cut B Z S I) K v d → Q v I
theorem take_all {α : Type} (xs : List α) {a b : Nat} (h : a = 0 ∧ b = xs.length) : (xs.drop a).take (b - a) = xs := by
  obtain ⟨rfl, rfl⟩ := h
  simp
theorem sld : SlR X (rSlD X.K) := by
  intro pins s σ H x v vl vu lo hi sl Q I rx hs pl pu ⟨A, Z, S, dx, d, ok, hx, e, q⟩
  unfold slD at e
  split at e
  · rename_i xs
    cases e
    obtain ⟨a, vs, rfl, h1, h2⟩ := tup_at hx
    refine sl_tupA pins s σ H _ v vl vu lo hi sl Q I rx hs pl pu ⟨a, vs, rfl, h1, fun hw => q A H _ (.refl ok) ?_, fun _ p hp => q A _ _ (.new ok hp) (new_tup ok hp (cut_rel h2 lo hi))⟩
    have : cutD xs lo hi = xs := by
      unfold cutD
      rw [h2.length] at hw
      exact take_all xs hw
    rw [this]
    exact hx
  · cases e1 : seqOf S dx with
    | none => rw [e1] at e; cases e
    | some xs =>
      rw [e1] at e
      cases e
      obtain ⟨a, vs, rfl, h1, h2⟩ := seqOf_at ok hx e1
      exact sl_list pins s σ H _ v vl vu lo hi sl Q I rx hs pl pu ⟨a, vs, rfl, h1, fun p hp => q A _ _ (.new ok hp) (new_lst ok hp (cut_rel h2 lo hi))⟩
theorem se_slice {f : FE} {g h : FO} {lo hi : Option Expr} {p2 : Pos} (he : SE X W ca e f) (hl : SO X W ca lo g) (hu : SO X W ca hi h) : SE X W ca (.Subscript e (.Slice lo hi none p2) pos) (fSl f g h) := by
  refine se_of (pe_slice sld he.pe hl.po hu.po) fun σ H Q ⟨A, Z, S, ρ, ok, sl, p⟩ => ?_
  refine ⟨A, Z, S, ρ, ok, sl, (Post.split p).imp fun B T I d gr q v rv => ?_⟩
  refine ⟨B, Z, T, ρ, gr.ok, sl.grow gr, (Post.split q).imp fun C U J l gr2 q2 => ?_⟩
  refine ⟨C, Z, U, ρ, gr2.ok, (sl.grow gr).grow gr2, (Post.split q2).imp fun C3 U3 J3 m gr3 q3 => ?_⟩
  cases e1 : slD d l m U3 with
  | none => rw [e1] at q3; exact q3.elim
  | some r =>
    rw [e1] at q3
    exact ⟨C3, Z, U3, d, r, gr3.ok, (rv.grow gr2).grow gr3, e1, fun B I v g r => q3 B I g v r⟩
/-! -n, ~n -/
def fNeg (f : FE) : FE := fun ρ S => (f ρ S).bind fun d S1 => match d with
  | .int i => .ok (.int (-i)) S1
  | _ => .bad
theorem se_neg {f : FE} (h : SE X W ca e f) : SE X W ca (.UnaryOp .USub e pos) (fNeg f) := by
  refine se_of (pe_un un_neg h.pe) fun σ H Q ⟨A, Z, S, ρ, ok, sl, p⟩ => ?_
  refine ⟨A, Z, S, ρ, ok, sl, (Post.split p).imp fun B T I d gr q v rv => ?_⟩
  cases d with
  | int i =>
    cases rv
    exact ⟨i, rfl, q B I (.refl gr.ok) _ (.int _)⟩
  | _ => exact q.elim
/-! ### calls of built-ins -/
abbrev OpN := List D → Sto → Option D
def rDs (K : PySem.W.Frag) (g : OpN) : List V → Hp → VK → Prop := fun vs H Q => ∃ A Z S ds d, SOk K A Z S H ∧ DRs A (cut A Z S H) K vs ds ∧ g ds S = some d ∧ ∀ B I v, Grow K Z A S H B S I → DR B (cut B Z S I) K v d → Q v I
def fCB (g : OpN) (f : FA) : FE := fun ρ S => (f ρ S).bind fun ds S1 => okO (g ds S1) S1
theorem tE_cb {K : PySem.W.Frag} {g : OpN} {f : FA} {σ : L2.St} {H : Hp} {Q : VK} (h : tE K W ca (fCB g f) σ H Q) : tCB (rDs K g) (tA K W ca f) σ H Q := by
  obtain ⟨A, Z, S, ρ, ok, sl, p⟩ := h
  refine ⟨A, Z, S, ρ, ok, sl, (Post.split p).imp fun B T I ds gr q vs rv => ?_⟩
  cases e : g ds T with
  | none => rw [e] at q; exact q.elim
  | some d =>
    rw [e] at q
    exact ⟨B, Z, T, ds, d, gr.ok, rv, e, fun B I v g r => q B I g v r⟩
theorem se_callB {id : String} {x : Str} {p : Pos} {g : OpN} {f : FA} (hc : CallR X (.builtin id) (rDs X.K g)) (hg : Gl X x) (hm : X.mg x = none) (hv : bootBuiltins x = some (.builtin id)) (ha : SA X W ca (e :: es) f) (hn : x ≠ "__name__" := by decide) (hdb : (x == ("__debug__" : Str)) = false := by decide)
    (he : starEach (e :: es) X.env = (false, eval e X.env) :: starEach es X.env := by rfl) (hpl : (backTo pos (starEach es X.env)).any (·.1) = false := by rfl) : SE X W ca (.Call (.Name x p) (e :: es) [] pos) (fCB g f) :=
  se_of (pe_callB hc hg hm hv ha.pa hn hdb he hpl) fun _ _ _ h => tE_cb h
theorem se_callTy {T : String} {x : Str} {p : Pos} {g : OpN} {f : FA} (hc : CallR X (.type T) (rDs X.K g)) (hg : Gl X x) (hm : X.mg x = none) (hv : bootBuiltins x = some (.type T)) (ha : SA X W ca (e :: es) f) (hn : x ≠ "__name__" := by decide) (hdb : (x == ("__debug__" : Str)) = false := by decide)
    (he : starEach (e :: es) X.env = (false, eval e X.env) :: starEach es X.env := by rfl) (hpl : (backTo pos (starEach es X.env)).any (·.1) = false := by rfl) : SE X W ca (.Call (.Name x p) (e :: es) [] pos) (fCB g f) :=
  se_of (pe_callTy hc hg hm hv ha.pa hn hdb he hpl) fun _ _ _ h => tE_cb h
theorem se_callBfun {id : String} {x : Str} {p : Pos} {g : OpN} {f : FA} (hc : CallR X (.builtin id) (rDs X.K g)) (hg : Gl X x) (hm : X.mg x = some (.builtin id)) (ha : SA X W ca (e :: es) f) (hdb : (x == ("__debug__" : Str)) = false := by decide)
    (he : starEach (e :: es) X.env = (false, eval e X.env) :: starEach es X.env := by rfl) (hpl : (backTo pos (starEach es X.env)).any (·.1) = false := by rfl) : SE X W ca (.Call (.Name x p) (e :: es) [] pos) (fCB g f) :=
  se_of (L2.pe_callBfun hc hg hm ha.pa hdb he hpl) fun _ _ _ h => tE_cb h
def lenD : OpN := fun ds S => match ds with
  | [.str z] => if z.length ≤ capN then some (.int z.length) else none
  | [.tup xs] => some (.int xs.length)
  | [d] => (seqOf S d).map fun xs => .int xs.length
  | _ => none
theorem cd_len : CallR X (.builtin "len") (rDs X.K lenD) := by
  intro pins s σ H vs us Q I r ⟨A, Z, S, ds, d, ok, h, e, q⟩
  unfold lenD at e
  split at e
  · cases h with
    | cons h1 h2 =>
      cases h1; cases h2
      split at e
      · rename_i z hc
        cases e
        exact call_len_str pins s σ H _ us Q I r ⟨z, rfl, capN_le hc, q A H _ (.refl ok) (.int _)⟩
      · cases e
  · cases e
    cases h with
    | cons h1 h2 =>
      cases h2
      obtain ⟨a, ws, rfl, k1, k2⟩ := tup_at h1
      exact call_len_seq pins s σ H _ us Q I r ⟨a, ws, rfl, .inr k1, by rw [k2.length]; exact q A H _ (.refl ok) (.int _)⟩
  · rename_i d' _ _
    cases e1 : seqOf S d' with
    | none => rw [e1] at e; cases e
    | some xs =>
      rw [e1] at e
      cases e
      cases h with
      | cons h1 h2 =>
        cases h2
        obtain ⟨a, ws, rfl, k1, k2⟩ := seqOf_at ok h1 e1
        exact call_len_seq pins s σ H _ us Q I r ⟨a, ws, rfl, .inl k1, by rw [k2.length]; exact q A H _ (.refl ok) (.int _)⟩
  · cases e
def absD : OpN := fun ds _ => match ds with
  | [.int i] => some (.int (if i < 0 then -i else i))
  | _ => none
theorem cd_abs : CallR X (.builtin "abs") (rDs X.K absD) := by
  intro pins s σ H vs us Q I r ⟨A, Z, S, ds, d, ok, h, e, q⟩
  unfold absD at e
  split at e
  · cases e
    cases h with
    | cons h1 h2 =>
      cases h1; cases h2
      exact call_abs pins s σ H _ us Q I r ⟨_, rfl, q A H _ (.refl ok) (.int _)⟩
  · cases e
def intD : OpN := fun ds _ => match ds with
  | [.int i] => some (.int i)
  | [.bl b] => some (.int (if b then 1 else 0))
  | _ => none
theorem cd_int : CallR X (.type "int") (rDs X.K intD) := by
  intro pins s σ H vs us Q I r ⟨A, Z, S, ds, d, ok, h, e, q⟩
  unfold intD at e
  split at e
  · cases e
    cases h with
    | cons h1 h2 =>
      cases h1; cases h2
      exact call_int1 pins s σ H _ us Q I r (.inl ⟨_, rfl, q A H _ (.refl ok) (.int _)⟩)
  · cases e
    cases h with
    | cons h1 h2 =>
      cases h1; cases h2
      exact call_int1 pins s σ H _ us Q I r (.inr ⟨_, rfl, q A H _ (.refl ok) (.int _)⟩)
  · cases e
def gcdD : OpN := fun ds _ => match ds with
  | [.int i, .int j] => some (.int ((Nat.gcd i.natAbs j.natAbs : Nat) : Int))
  | _ => none
theorem cd_gcd : CallR X (.builtin "math.gcd") (rDs X.K gcdD) := by
  intro pins s σ H vs us Q I r ⟨A, Z, S, ds, d, ok, h, e, q⟩
  unfold gcdD at e
  split at e
  · cases e
    cases h with
    | cons h1 h2 =>
      cases h1
      cases h2 with
      | cons h3 h4 =>
        cases h3; cases h4
        exact cr_gcd pins s σ H _ us Q I r ⟨_, _, rfl, q A H _ (.refl ok) (.int _)⟩
  · cases e
/-- the greatest of a list of ints -/
def maxI : List Int → Int
  | [] => 0
  | [x] => x
  | x :: y :: r => let m := maxI (y :: r); if m > x then m else x
theorem maxI_mem : ∀ {l : List Int}, 0 < l.length → maxI l ∈ l ∧ ∀ y ∈ l, y ≤ maxI l
  | [], h => by simp at h
  | [x], _ => by simp [maxI]
  | x :: y :: r, _ => by
    have ih := maxI_mem (l := y :: r) (by simp)
    show (if maxI (y :: r) > x then maxI (y :: r) else x) ∈ x :: y :: r ∧ ∀ z ∈ x :: y :: r, z ≤ (if maxI (y :: r) > x then maxI (y :: r) else x)
    split
    · refine ⟨List.mem_cons_of_mem _ ih.1, fun z hz => ?_⟩
      rcases List.mem_cons.mp hz with rfl | hz
      · omega
      · exact ih.2 z hz
    · refine ⟨List.mem_cons_self, fun z hz => ?_⟩
      rcases List.mem_cons.mp hz with rfl | hz
      · omega
      · have := ih.2 z hz
        omega
def maxD : OpN := fun ds S => match ds with
  | [.int i, .int j] => some (.int (if j > i then j else i))
  | [.tup xs] => none
  | [d] => match (seqOf S d).bind intsOf with
    | some ns => if 0 < ns.length then some (.int (maxI ns)) else none
    | none => none
  | _ => none
theorem cd_max (hc : X.calm = true) : CallR X (.builtin "max") (rDs X.K maxD) := by
  intro pins s σ H vs us Q I r ⟨A, Z, S, ds, d, ok, h, e, q⟩
  unfold maxD at e
  split at e
  · cases e
    cases h with
    | cons h1 h2 =>
      cases h1
      cases h2 with
      | cons h3 h4 =>
        cases h3; cases h4
        exact call_max2 hc pins s σ H _ us Q I r ⟨_, _, rfl, q A H _ (.refl ok) (.int _)⟩
  · cases e
  · rename_i d' _
    cases e1 : seqOf S d' with
    | none => rw [e1] at e; cases e
    | some xs =>
      rw [e1] at e
      simp only [Option.bind_some] at e
      cases e2 : intsOf xs with
      | none => rw [e2] at e; cases e
      | some ns =>
        rw [e2] at e
        simp only at e
        split at e
        · rename_i hl
          cases e
          cases h with
          | cons h1 h2 =>
            cases h2
            obtain ⟨a, ws, rfl, k1, k2⟩ := seqOf_at ok h1 e1
            rw [intsOf_map e2 k2] at k1
            refine cr_max hc pins s σ H _ us Q I r ⟨a, ns, rfl, k1, hl, fun m h1 h2 => ?_⟩
            have := maxI_mem hl
            have e3 : m = maxI ns := Int.le_antisymm (this.2 m h1) (h2 _ this.1)
            rw [e3]
            exact q A H _ (.refl ok) (.int _)
        · cases e
  · cases e
def sumD : OpN := fun ds S => match ds with
  | [d] => match (seqOf S d).bind intsOf with
    | some ns => some (.int ns.sum)
    | none => none
  | _ => none
theorem cd_sum (hc : X.calm = true) : CallR X (.builtin "sum") (rDs X.K sumD) := by
  intro pins s σ H vs us Q I r ⟨A, Z, S, ds, d, ok, h, e, q⟩
  unfold sumD at e
  split at e
  · rename_i d'
    cases e1 : seqOf S d' with
    | none => rw [e1] at e; cases e
    | some xs =>
      rw [e1] at e
      simp only [Option.bind_some] at e
      cases e2 : intsOf xs with
      | none => rw [e2] at e; cases e
      | some ns =>
        rw [e2] at e
        cases e
        cases h with
        | cons h1 h2 =>
          cases h2
          obtain ⟨a, ws, rfl, k1, k2⟩ := seqOf_at ok h1 e1
          rw [intsOf_map e2 k2] at k1
          exact cr_sum hc pins s σ H _ us Q I r ⟨a, ns, rfl, k1, q A H _ (.refl ok) (.int _)⟩
  · cases e
def tupleD : OpN := fun ds S => match ds with
  | [.tup xs] => some (.tup xs)
  | [d] => (lstOf S d).map .tup
  | _ => none
theorem cd_tuple : CallR X (.type "tuple") (rDs X.K tupleD) := by
  intro pins s σ H vs us Q I r ⟨A, Z, S, ds, d, ok, h, e, q⟩
  unfold tupleD at e
  split at e
  · cases e
    cases h with
    | cons h1 h2 =>
      cases h2
      obtain ⟨a, ws, rfl, k1, k2⟩ := tup_at h1
      exact call_tuple_of pins s σ H _ us Q I r ⟨a, ws, rfl, .inr ⟨k1, q A H _ (.refl ok) h1⟩⟩
  · rename_i d' _
    cases e1 : lstOf S d' with
    | none => rw [e1] at e; cases e
    | some xs =>
      rw [e1] at e
      cases e
      cases h with
      | cons h1 h2 =>
        cases h2
        obtain ⟨a, ws, rfl, k1, k2⟩ := lstOf_at ok h1 e1
        exact call_tuple_of pins s σ H _ us Q I r ⟨a, ws, rfl, .inl ⟨SqL.of k1, fun p hp => q A _ _ (.new ok hp) (new_tup ok hp k2)⟩⟩
  · cases e
/-- list(x): a new list as data -/
def listD : OpN := fun ds S => match ds with
  | [.tup xs] => some (.lst xs)
  | [d] => (seqOf S d).map .lst
  | _ => none
theorem cd_list : CallR X (.type "list") (rDs X.K listD) := by
  intro pins s σ H vs us Q I r ⟨A, Z, S, ds, d, ok, h, e, q⟩
  unfold listD at e
  split at e
  · cases e
    cases h with
    | cons h1 h2 =>
      cases h2
      obtain ⟨a, ws, rfl, k1, k2⟩ := tup_at h1
      exact call_list_of pins s σ H _ us Q I r ⟨a, ws, rfl, .inr k1, fun p hp => q A _ _ (.new ok hp) (new_lst ok hp k2)⟩
  · rename_i d' _
    cases e1 : seqOf S d' with
    | none => rw [e1] at e; cases e
    | some xs =>
      rw [e1] at e
      cases e
      cases h with
      | cons h1 h2 =>
        cases h2
        obtain ⟨a, ws, rfl, k1, k2⟩ := seqOf_at ok h1 e1
        exact call_list_of pins s σ H _ us Q I r ⟨a, ws, rfl, .inl k1, fun p hp => q A _ _ (.new ok hp) (new_lst ok hp k2)⟩
  · cases e
/-! isinstance(x, T), isinstance(x, (T, U)) -/
def tyD (S : Sto) : D → Option String
  | .non => some "NoneType"
  | .bl _ => some "bool"
  | .int _ => some "int"
  | .str _ => some "str"
  | .lst _ => some "list"
  | .kls _ => some "list"
  | .tup _ => some "tuple"
  | .dct _ => some "dict"
  | .cel i => (lstOf S (.cel i)).map fun _ => "list"
  | .fn _ => none
  | .exc _ _ => none
def tyNames : List String := ["NoneType", "bool", "int", "str", "list", "tuple", "dict"]
theorem tyD_mem {S : Sto} {d : D} {t : String} (h : tyD S d = some t) : t ∈ tyNames := by
  cases d with
  | cel i =>
    simp only [tyD] at h
    cases e : lstOf S (.cel i) with
    | none => rw [e] at h; cases h
    | some _ => rw [e] at h; cases h; show "list" ∈ tyNames; decide
  | fn _ => cases h
  | exc _ _ => cases h
  | _ => cases h; decide
theorem tyx_at {K : PySem.W.Frag} {A Z : List Addr} {S : Sto} {H : Hp} {v : V} {d : D} {t : String} (ok : SOk K A Z S H) (r : DR A (cut A Z S H) K v d) (h : tyD S d = some t) : TyX K H v (.type t) := by
  cases r with
  | non => cases h; exact .base .non
  | bl b => cases h; exact .base (.bl b)
  | int i => cases h; exact .base (.int i)
  | str x => cases h; exact .base (.str x)
  | lst h1 _ => cases h; exact .base (.lst (cut_sub h1))
  | kls h1 _ =>
    cases h
    rcases h1 with (h1 | ⟨o, h1⟩) | ⟨o, its, n, h1, h2, _⟩
    · exact .base (.lst (cut_sub h1))
    · exact .base (.frz (cut_sub h1))
    · exact .kList h1 h2
  | tup h1 _ =>
    cases h
    rcases h1 with (h1 | ⟨o, h1⟩) | ⟨o, its, n, h1, h2, _⟩
    · exact .base (.tup (cut_sub h1))
    · exact .fTuple (cut_sub h1)
    · exact .kTuple h1 h2
  | dct0 h1 => cases h; exact .base (.dK (cut_sub h1))
  | @cel a i h1 =>
    simp only [tyD] at h
    cases e : lstOf S (.cel i) with
    | none => rw [e] at h; cases h
    | some xs =>
      rw [e] at h
      cases h
      obtain ⟨a', vs, e2, k1, _⟩ := lstOf_at ok (.cel h1) e
      cases e2
      exact .base (.lst k1)
  | fn _ => cases h
  | exc _ _ _ => cases h
def isiB (t T : String) : Bool := t == T || (t == "bool" && T == "int")
def isiOk (T : String) : Bool := tyNames.all fun t => kitB t T == some (isiB t T)
theorem isiOk_at {t T : String} (h : isiOk T = true) (m : t ∈ tyNames) : kitB t T = some (isiB t T) := by
  have := List.all_eq_true.mp h t m
  simpa using this
def fIsi (T : String) (f : FE) : FE := fun ρ S => (f ρ S).bind fun d S1 => match tyD S1 d with
  | some t => .ok (.bl (isiB t T)) S1
  | none => .bad
theorem se_isi {T : String} {x : Str} {p p1 : Pos} {f : FE} (h : SE X W ca e f) (hT : isiOk T = true) (hx : bootBuiltins x = some (.type T)) (hmx : X.mg x = none) (hgx : Gl X x) (hg : Gl X "isinstance") (hm : X.mg "isinstance" = none)
    (hn : x ≠ "__name__" := by decide) (hd : (x == ("__debug__" : Str)) = false := by decide)
    (hs : starEach [e, .Name x p1] X.env = (false, eval e X.env) :: starEach [.Name x p1] X.env := by rfl) : SE X W ca (.Call (.Name "isinstance" p) [e, .Name x p1] [] pos) (fIsi T f) := by
  refine se_of (pe_callB call_isi hg hm boot_isinstance (pa_cons h.pe (pa_cons (pe_bltn (v := .ty T) hgx hmx hx rfl hn hd) pa_nil) hs) (by decide) (by decide) hs (by rfl)) fun σ H Q ⟨A, Z, S, ρ, ok, sl, p⟩ => ?_
  refine ⟨A, Z, S, ρ, ok, sl, (Post.split p).imp fun B U I d gr q v rv => ?_⟩
  cases e1 : tyD U d with
  | none => rw [e1] at q; exact q.elim
  | some t =>
    rw [e1] at q
    exact ⟨v, .ty T, .type t, .type T, isiB t T, rfl, .ty T, tyx_at gr.ok rv e1, kit_ty (isiOk_at hT (tyD_mem e1)), q B I (.refl gr.ok) _ (.bl _)⟩
def fIsi2 (T U : String) (f : FE) : FE := fun ρ S => (f ρ S).bind fun d S1 => match tyD S1 d with
  | some t => .ok (.bl (isiB t T || isiB t U)) S1
  | none => .bad
theorem se_isi2 {T U : String} {x y : Str} {k : Nat} {p p1 p2 p3 : Pos} {f : FE} (h : SE X W ca e f) (hT : isiOk T = true) (hU : isiOk U = true) (hx : bootBuiltins x = some (.type T)) (hmx : X.mg x = none) (hgx : Gl X x) (hy : bootBuiltins y = some (.type U)) (hmy : X.mg y = none) (hgy : Gl X y)
    (hg : Gl X "isinstance") (hm : X.mg "isinstance" = none)
    (hn : x ≠ "__name__" := by decide) (hd : (x == ("__debug__" : Str)) = false := by decide) (hn2 : y ≠ "__name__" := by decide) (hd2 : (y == ("__debug__" : Str)) = false := by decide)
    (hs : starEach [e, .Tuple [.Name x p1, .Name y p2] k p3] X.env = (false, eval e X.env) :: starEach [.Tuple [.Name x p1, .Name y p2] k p3] X.env := by rfl) : SE X W ca (.Call (.Name "isinstance" p) [e, .Tuple [.Name x p1, .Name y p2] k p3] [] pos) (fIsi2 T U f) := by
  refine se_of (pe_callB call_isiT hg hm boot_isinstance (pa_cons h.pe (pa_cons (pe_tup (pa_cons (pe_bltn (v := .ty T) hgx hmx hx rfl hn hd) (pa_cons (pe_bltn (v := .ty U) hgy hmy hy rfl hn2 hd2) pa_nil))) pa_nil) hs) (by decide) (by decide) hs (by rfl)) fun σ H Q ⟨A, Z, S, ρ, ok, sl, p⟩ => ?_
  refine ⟨A, Z, S, ρ, ok, sl, (Post.split p).imp fun B R I d gr q v rv => ?_⟩
  cases e1 : tyD R d with
  | none => rw [e1] at q; exact q.elim
  | some t =>
    rw [e1] at q
    refine ⟨(by show 2 ≤ sizeLine; decide), fun tp ht => ?_⟩
    refine ⟨v, tp, [.ty T, .ty U], .type t, [.type T, .type U], isiB t T || isiB t U, rfl, upd_same, .cons (.ty T) (.cons (.ty U) .nil), ?_, ?_, q B _ (.new gr.ok ht) _ (.bl _)⟩
    · exact tyx_at (gr.ok.new ht) (rv.mono (List.prefix_refl _) (cut_upd ht)) e1
    · refine kitAny_cons (kit_ty (isiOk_at hT (tyD_mem e1))) (fun e2 => ?_) (fun e2 => by rw [e2]; rfl)
      rw [e2, Bool.false_or]
      exact kitAny_cons (kit_ty (isiOk_at hU (tyD_mem e1))) (fun e3 => by rw [e3]; rfl) (fun e3 => e3)
end
end DL

set_option maxHeartbeats 2000000
namespace DL
open PySem PySem.Spec PyProof.Rows L2
/-! ### statements -/
inductive Fl where
  | nx
  | rt (d : D)
  | bk
  | ct
abbrev FS := Env → Sto → Res (Fl × Env)
def EndF (K : PySem.W.Frag) (Dn : Ends) (Z : List Addr) (B : List Addr) (T : Sto) (I : Hp) (r : Fl × Env) : Prop :=
  match r.1 with
  | .nx => ∀ σ', Sl K B (cut B Z T I) r.2 σ' → Dn.nx σ' I
  | .rt d => ∀ v, DR B (cut B Z T I) K v d → Dn.rt v I
  | .bk => ∀ σ', Sl K B (cut B Z T I) r.2 σ' → Dn.bk σ' I
  | .ct => ∀ σ', Sl K B (cut B Z T I) r.2 σ' → Dn.ct σ' I
def tS (K : PySem.W.Frag) (W : WX) (ca : Str → Addr) (f : FS) : TS := fun Dn σ H => ∃ A Z S ρ, SOk K A Z S H ∧ Sl K A (cut A Z S H) ρ σ ∧ Post K W ca A Z S H σ (f ρ S) (EndF K Dn Z)
structure SS (X : Cx) (W : WX) (ca : Str → Addr) (st : Stmt) (f : FS) : Prop where
  ps : PS X st (tS X.K W ca f)
structure SSs (X : Cx) (W : WX) (ca : Str → Addr) (st : List Stmt) (f : FS) : Prop where
  pss : PSs X st (tS X.K W ca f)
section
variable {X : Cx} {W : WX} {ca : Str → Addr} {e a b : Expr} {es : List Expr} {pos : Pos} {st : Stmt} {rest : List Stmt}
theorem ps_imp {t t' : TS} (h : PS X st t) (i : ∀ D σ H, t' D σ H → t D σ H) : PS X st t' := ⟨fun pins s σ H D I q => h.run pins s σ H D I (i _ _ _ q)⟩
theorem pss_imp {sts : List Stmt} {t t' : TS} (h : PSs X sts t) (i : ∀ D σ H, t' D σ H → t D σ H) : PSs X sts t' := ⟨fun pins s σ H D I q => h.run pins s σ H D I (i _ _ _ q)⟩
theorem ss_of {f : FS} {t : TS} (h : PS X st t) (i : ∀ D σ H, tS X.K W ca f D σ H → t D σ H) : SS X W ca st f := ⟨ps_imp h i⟩
def fNext : FS := fun ρ S => .ok (.nx, ρ) S
def fSeq (f g : FS) : FS := fun ρ S => (f ρ S).bind fun r S1 => match r.1 with
  | .nx => g r.2 S1
  | _ => .ok r S1
theorem sss_nil : SSs X W ca [] fNext := ⟨pss_imp pss_nil fun D σ H ⟨A, Z, S, ρ, ok, sl, p⟩ => p A H (.refl ok) σ sl⟩
theorem tS_seq {K : PySem.W.Frag} {f g : FS} {D : Ends} {σ : L2.St} {H : Hp} (h : tS K W ca (fSeq f g) D σ H) : tSeq (tS K W ca f) (tS K W ca g) D σ H := by
  obtain ⟨A, Z, S, ρ, ok, sl, p⟩ := h
  refine ⟨A, Z, S, ρ, ok, sl, (Post.split p).imp fun B T I r gr q => ?_⟩
  obtain ⟨fl, ρ'⟩ := r
  cases fl with
  | nx => exact fun σ' sl' => ⟨B, Z, T, ρ', gr.ok, sl', q.sig σ'⟩
  | rt d => exact q B I (.refl gr.ok)
  | bk => exact q B I (.refl gr.ok)
  | ct => exact q B I (.refl gr.ok)
theorem sss_cons {f g : FS} (h1 : SS X W ca st f) (h2 : SSs X W ca rest g) : SSs X W ca (st :: rest) (fSeq f g) := ⟨pss_imp (pss_cons h1.ps h2.pss) fun _ _ _ h => tS_seq h⟩
theorem sss_one {f : FS} (h1 : SS X W ca st f) : SSs X W ca [st] f := ⟨pss_one h1.ps⟩
theorem ss_pass : SS X W ca (.Pass pos) fNext := ss_of ps_pass fun D σ H ⟨A, Z, S, ρ, ok, sl, p⟩ => p A H (.refl ok) σ sl
theorem ss_break : SS X W ca (.Break pos) (fun ρ S => .ok (.bk, ρ) S) := ss_of ps_break fun D σ H ⟨A, Z, S, ρ, ok, sl, p⟩ => p A H (.refl ok) σ sl
theorem ss_continue : SS X W ca (.Continue pos) (fun ρ S => .ok (.ct, ρ) S) := ss_of ps_continue fun D σ H ⟨A, Z, S, ρ, ok, sl, p⟩ => p A H (.refl ok) σ sl
theorem ss_doc {x j pos'} : SS X W ca (.Expr (.Constant (.str x) j pos) pos') fNext := ss_of ps_doc fun D σ H ⟨A, Z, S, ρ, ok, sl, p⟩ => p A H (.refl ok) σ sl
/-- a statement that is not reached -/
theorem ss_never : SS X W ca st (fun _ _ => .bad) := ss_of ps_never fun D σ H ⟨_, _, _, _, _, _, p⟩ => p
def fRet (f : FE) : FS := fun ρ S => (f ρ S).bind fun d S1 => .ok (.rt d, ρ) S1
theorem ss_ret {f : FE} (h : SE X W ca e f) : SS X W ca (.Return (some e) pos) (fRet f) := ss_of (ps_ret h.pe) fun D σ H ⟨A, Z, S, ρ, ok, sl, p⟩ =>
  ⟨A, Z, S, ρ, ok, sl, (Post.split p).imp fun B T I d gr q v rv => q B I (.refl gr.ok) v rv⟩
theorem ss_retN : SS X W ca (.Return none pos) (fun ρ S => .ok (.rt .non, ρ) S) := ss_of ps_retN fun D σ H ⟨A, Z, S, ρ, ok, sl, p⟩ => p A H (.refl ok) _ .non
/-- the value handed back is a list that may change: from now on it is data -/
def frzD (S : Sto) (d : D) : Option (D × Sto) := match d with
  | .cel i => match S[i]? with
    | some (.lst xs) => some (.lst xs, S.set i .gone)
    | _ => none
  | _ => none
def fRetF (f : FE) : FS := fun ρ S => (f ρ S).bind fun d S1 => match frzD S1 d with
  | some (d', S2) => .ok (.rt d', ρ) S2
  | none => .bad
theorem frzD_at {K : PySem.W.Frag} {A Z : List Addr} {S S' : Sto} {H : Hp} {v : V} {d d' : D} (ok : SOk K A Z S H) (r : DR A (cut A Z S H) K v d) (h : frzD S d = some (d', S')) : Grow K Z A S H A S' H ∧ DR A (cut A Z S' H) K v d' := by
  unfold frzD at h
  split at h
  · rename_i i
    split at h
    · rename_i xs e
      cases h
      obtain ⟨g, a, vs, h1, h2, h3⟩ := Grow.freeze ok e
      cases r with
      | cel h4 =>
        rw [h1] at h4
        cases h4
        exact ⟨g, .lst h2 h3⟩
    · cases h
  · cases h
theorem ss_retF {f : FE} (h : SE X W ca e f) : SS X W ca (.Return (some e) pos) (fRetF f) := ss_of (ps_ret h.pe) fun D σ H ⟨A, Z, S, ρ, ok, sl, p⟩ => by
  refine ⟨A, Z, S, ρ, ok, sl, (Post.split p).imp fun B T I d gr q v rv => ?_⟩
  cases e1 : frzD T d with
  | none => rw [e1] at q; exact q.elim
  | some r =>
    rw [e1] at q
    obtain ⟨g2, r2⟩ := frzD_at gr.ok rv e1
    exact q B I g2 v r2
/-! targets -/
abbrev FG := D → Env → Sto → Res Env
def tG (K : PySem.W.Frag) (W : WX) (ca : Str → Addr) (f : FG) : TG := fun v σ H Q => ∃ A Z S ρ d, SOk K A Z S H ∧ Sl K A (cut A Z S H) ρ σ ∧ DR A (cut A Z S H) K v d ∧ Post K W ca A Z S H σ (f d ρ S) fun B T I ρ' => ∀ σ', Sl K B (cut B Z T I) ρ' σ' → Q σ' I
structure SG (X : Cx) (W : WX) (ca : Str → Addr) (tg : Expr) (f : FG) : Prop where
  pg : PG X tg (tG X.K W ca f)
theorem pg_imp {tg : Expr} {t t' : TG} (h : PG X tg t) (i : ∀ v σ H Q, t' v σ H Q → t v σ H Q) : PG X tg t' := ⟨fun pins s σ H v u Q I r q => h.run pins s σ H v u Q I r (i _ _ _ _ q)⟩
def fgName (i : Nat) : FG := fun d ρ S => .ok (ρ.set i (some d)) S
theorem sg_name {i : Nat} {x : Str} (hN : X.N.Nodup) (hi : X.N[i]? = some x) (hx : Loc X.env.scope x) (hf : X.fn x = true ∨ X.env.scope.names.lookup x = some .local := by first | exact .inl rfl | exact .inr rfl | assumption) : SG X W ca (.Name x pos) (fgName i) :=
  ⟨pg_imp (pg_name hN hi hx hf) fun v σ H Q ⟨A, Z, S, ρ, d, ok, sl, rv, p⟩ => p A H (.refl ok) _ (sl.set rv i)⟩
abbrev FGs := List D → Env → Sto → Res Env
def tGs (K : PySem.W.Frag) (W : WX) (ca : Str → Addr) (f : FGs) : TGs := fun vs σ H Q => ∃ A Z S ρ ds, SOk K A Z S H ∧ Sl K A (cut A Z S H) ρ σ ∧ DRs A (cut A Z S H) K vs ds ∧ Post K W ca A Z S H σ (f ds ρ S) fun B T I ρ' => ∀ σ', Sl K B (cut B Z T I) ρ' σ' → Q σ' I
structure SGs (X : Cx) (W : WX) (ca : Str → Addr) (tgs : List Expr) (f : FGs) : Prop where
  pgs : PGs X tgs (tGs X.K W ca f)
theorem pgs_imp {tgs : List Expr} {t t' : TGs} (h : PGs X tgs t) (i : ∀ v σ H Q, t' v σ H Q → t v σ H Q) : PGs X tgs t' := ⟨fun pins s σ H v u Q I r q => h.run pins s σ H v u Q I r (i _ _ _ _ q)⟩
def fgNil : FGs := fun ds ρ S => match ds with
  | [] => .ok ρ S
  | _ => .bad
def fgCons (f : FG) (g : FGs) : FGs := fun ds ρ S => match ds with
  | d :: r => (f d ρ S).bind fun ρ1 S1 => g r ρ1 S1
  | _ => .bad
theorem sgs_nil : SGs X W ca [] fgNil := ⟨pgs_imp pgs_nil fun vs σ H Q ⟨A, Z, S, ρ, ds, ok, sl, rv, p⟩ => by
  cases ds with
  | nil => cases rv; exact ⟨rfl, p A H (.refl ok) σ sl⟩
  | cons _ _ => exact p.elim⟩
theorem sgs_cons {es : List Expr} {f : FG} {g : FGs} (h1 : SG X W ca e f) (h2 : SGs X W ca es g)
    (hs : (assignEach (e :: es) X.env).map (·.2) = assign e X.env :: (assignEach es X.env).map (·.2) := by rfl) : SGs X W ca (e :: es) (fgCons f g) := ⟨pgs_imp (pgs_cons h1.pg h2.pgs hs) fun vs σ H Q ⟨A, Z, S, ρ, ds, ok, sl, rv, p⟩ => by
  cases ds with
  | nil => exact p.elim
  | cons d r =>
    cases rv with
    | cons r1 r2 =>
      exact ⟨_, _, rfl, A, Z, S, ρ, d, ok, sl, r1, (Post.split p).imp fun B T I ρ1 gr q σ' sl' => ⟨B, Z, T, ρ1, r, gr.ok, sl', r2.grow gr, q.sig σ'⟩⟩⟩
def fgTup (n : Nat) (f : FGs) : FG := fun d ρ S => match d with
  | .tup xs => if xs.length = n then f xs ρ S else .bad
  | _ => .bad
theorem sg_tup {es : List Expr} {k : Nat} {f : FGs} {n : Nat} (hc : X.calm = true) (h : SGs X W ca es f)
    (hn : (assignEach es X.env).length = n := by rfl) (hst : (assignEach es X.env).findIdx? (·.1) = none := by rfl) : SG X W ca (.Tuple es k pos) (fgTup n f) := ⟨pg_imp (pg_tup hc h.pgs hn hst) fun v σ H Q ⟨A, Z, S, ρ, d, ok, sl, rv, p⟩ => by
  cases d with
  | tup xs =>
    unfold fgTup at p
    simp only at p
    split at p
    · rename_i hl
      obtain ⟨a, vs, rfl, h1, h2⟩ := tup_at rv
      exact ⟨a, vs, rfl, h1, by rw [h2.length]; exact hl, A, Z, S, ρ, xs, ok, sl, h2, p⟩
    · exact p.elim
  | _ => exact p.elim⟩
/-- o[i] = .., o a list that may change -/
def setD (o i d : D) (S : Sto) : Option Sto := match o, i with
  | .cel k, .int j => match S[k]? with
    | some (.lst xs) => (ixN xs.length j).map fun n => S.set k (.lst (xs.set n d))
    | _ => none
  | _, _ => none
def fgSub (fo fi : FE) : FG := fun d ρ S => (fo ρ S).bind fun o S1 => (fi ρ S1).bind fun i S2 => match setD o i d S2 with
  | some S3 => .ok ρ S3
  | none => .bad
theorem sg_sub {o i : Expr} {fo fi : FE} (ho : SE X W ca o fo) (hi : SE X W ca i fi)
    (ha : ∀ v, assign (.Subscript o i pos) X.env v = (do
      let ov ← holding [v] (eval o X.env)
      let iv ← holding [v, ov] (eval i X.env)
      standAt pos
      holding [v, ov, iv] (setItem ov iv v)
      release [v, ov, iv] []) := by intro _; rfl) : SG X W ca (.Subscript o i pos) (fgSub fo fi) := ⟨pg_imp (pg_sub ho.pe hi.pe set_list ha) fun v σ H Q ⟨A, Z, S, ρ, d, ok, sl, rv, p⟩ => by
  refine ⟨A, Z, S, ρ, ok, sl, (Post.split p).imp fun B T I o' gr q w rw_ => ?_⟩
  refine ⟨B, Z, T, ρ, gr.ok, sl.grow gr, (Post.split q).imp fun C U J i' gr2 q2 x rx => ?_⟩
  cases e : setD o' i' d U with
  | none => rw [e] at q2; exact q2.elim
  | some S3 =>
    rw [e] at q2
    unfold setD at e
    split at e
    · rename_i k j
      split at e
      · rename_i xs e1
        cases e2 : ixN xs.length j with
        | none => rw [e2] at e; cases e
        | some n =>
          rw [e2] at e
          cases e
          cases rx
          obtain ⟨a, vs, e3, h1, h2⟩ := lstOf_at gr2.ok (rw_.grow gr2) (show lstOf U (.cel k) = some xs by simp only [lstOf, e1])
          cases rw_ with
          | cel h4 =>
            cases e3
            have h5 : C[k]? = some a := by
              have := (DR.cel (G := cut B Z T I) (K := X.K) h4).grow gr2
              cases this with
              | cel h => exact h
            refine ⟨a, vs, j, n, rfl, rfl, h1, by rw [h2.length]; exact e2, ?_⟩
            have g3 := Grow.store gr2.ok e1 h5 (h2.set ((rv.grow gr).grow gr2) n)
            exact q2 C _ g3 σ (((sl.grow gr).grow gr2).grow g3)
      · cases e
    · cases e⟩
def fAsg (f : FE) (g : FG) : FS := fun ρ S => (f ρ S).bind fun d S1 => (g d ρ S1).bind fun ρ1 S2 => .ok (.nx, ρ1) S2
theorem tS_asg {K : PySem.W.Frag} {f : FE} {g : FG} {D : Ends} {σ : L2.St} {H : Hp} (h : tS K W ca (fAsg f g) D σ H) : tAsg (tE K W ca f) (tG K W ca g) D σ H := by
  obtain ⟨A, Z, S, ρ, ok, sl, p⟩ := h
  refine ⟨A, Z, S, ρ, ok, sl, (Post.split p).imp fun B T I d gr q v rv => ?_⟩
  exact ⟨B, Z, T, ρ, d, gr.ok, sl.grow gr, rv, (Post.split q).imp fun C U J ρ1 gr2 q2 σ' sl' => q2 C J (.refl gr2.ok) σ' sl'⟩
theorem ss_asg {tg : Expr} {f : FE} {g : FG} (he : SE X W ca e f) (hg : SG X W ca tg g) (hs : swapsWithSole [tg] e pos.line X.env = pure false := by rfl) (hw : swappedStores [tg] e X.env = pure none := by rfl)
    (h1 : (assignEach [tg] X.env).map (·.2) = [assign tg X.env] := by rfl) : SS X W ca (.Assign [tg] e pos) (fAsg f g) := ss_of (ps_asg he.pe hg.pg hs hw h1) fun _ _ _ h => tS_asg h
theorem ss_set {i : Nat} {x : Str} {e : Expr} {f : FE} {pos' : Pos} (hN : X.N.Nodup) (hi : X.N[i]? = some x) (hx : Loc X.env.scope x) (he : SE X W ca e f) (hs : swapsWithSole [.Name x pos'] e pos.line X.env = pure false := by rfl) (hw : swappedStores [.Name x pos'] e X.env = pure none := by rfl) (hf : X.fn x = true ∨ X.env.scope.names.lookup x = some .local := by first | exact .inl rfl | exact .inr rfl | assumption) :
    SS X W ca (.Assign [.Name x pos'] e pos) (fAsg f (fgName i)) := ss_asg he (sg_name hN hi hx hf) hs hw (by rfl)
/-- a, b = e1, e2, two local names -/
def fPar (i j : Nat) (f : FA) : FS := fun ρ S => (f ρ S).bind fun ds S1 => match ds with
  | [x, y] => .ok (.nx, (ρ.set i (some x)).set j (some y)) S1
  | _ => .bad
theorem tS_par {K : PySem.W.Frag} {i j : Nat} {f : FA} {D : Ends} {σ : L2.St} {H : Hp} (h : tS K W ca (fPar i j f) D σ H) : tPar i j (tA K W ca f) D σ H := by
  obtain ⟨A, Z, S, ρ, ok, sl, p⟩ := h
  refine ⟨A, Z, S, ρ, ok, sl, (Post.split p).imp fun B T I ds gr q vs rv => ?_⟩
  match ds, q with
  | [x, y], q =>
    cases rv with
    | cons r1 r2 =>
      cases r2 with
      | cons r2 r3 =>
        cases r3
        exact ⟨_, _, rfl, q B I (.refl gr.ok) _ (((sl.grow gr).set r1 i).set r2 j)⟩
  | [], q => exact q.elim
  | [_], q => exact q.elim
  | _ :: _ :: _ :: _, q => exact q.elim
def fPar3 (i j k : Nat) (f : FA) : FS := fun ρ S => (f ρ S).bind fun ds S1 => match ds with
  | [x, y, z] => .ok (.nx, ((ρ.set i (some x)).set j (some y)).set k (some z)) S1
  | _ => .bad
theorem tS_par3 {K : PySem.W.Frag} {i j k : Nat} {f : FA} {D : Ends} {σ : L2.St} {H : Hp} (h : tS K W ca (fPar3 i j k f) D σ H) : tPar3 i j k (tA K W ca f) D σ H := by
  obtain ⟨A, Z, S, ρ, ok, sl, p⟩ := h
  refine ⟨A, Z, S, ρ, ok, sl, (Post.split p).imp fun B T I ds gr q vs rv => ?_⟩
  match ds, q with
  | [x, y, z], q =>
    cases rv with
    | cons r1 r2 =>
      cases r2 with
      | cons r2 r3 =>
        cases r3 with
        | cons r3 r4 =>
          cases r4
          exact ⟨_, _, _, rfl, q B I (.refl gr.ok) _ ((((sl.grow gr).set r1 i).set r2 j).set r3 k)⟩
  | [], q => exact q.elim
  | [_], q => exact q.elim
  | [_, _], q => exact q.elim
  | _ :: _ :: _ :: _ :: _, q => exact q.elim
/-- e as a statement -/
def fDrop (f : FE) : FS := fun ρ S => (f ρ S).bind fun _ S1 => .ok (.nx, ρ) S1
theorem ss_expr {f : FE} (he : SE X W ca e f) (hs : swapsWith e none pos.line X.env = pure false := by rfl) : SS X W ca (.Expr e pos) (fDrop f) := ss_of (ps_expr he.pe hs) fun D σ H ⟨A, Z, S, ρ, ok, sl, p⟩ =>
  ⟨A, Z, S, ρ, ok, sl, (Post.split p).imp fun B T I d gr q v rv => q B I (.refl gr.ok) σ (sl.grow gr)⟩
/-- x.append(e), x a list that may change -/
def appD (o d : D) (S : Sto) : Option Sto := match o with
  | .cel k => match S[k]? with
    | some (.lst xs) => if xs.length < capN then some (S.set k (.lst (xs ++ [d]))) else none
    | _ => none
  | _ => none
def fApp (fo f : FE) : FE := fun ρ S => (fo ρ S).bind fun o S1 => match lstOf S1 o with
  | some _ => (f ρ S1).bind fun d S2 => match appD o d S2 with
    | some S3 => .ok .non S3
    | none => .bad
  | none => .bad
theorem se_app {o : Expr} {fo f : FE} {apos : Pos} (ho : SE X W ca o fo) (he : SE X W ca e f)
    (hx : PE X (.Call (.Attribute o "append" apos) [e] [] pos) (tBM X.K "list" rAppend (tE X.K W ca fo) (tCons (tE X.K W ca f) tNil))) :
    SE X W ca (.Call (.Attribute o "append" apos) [e] [] pos) (fApp fo f) := by
  refine se_of hx fun σ H Q ⟨A, Z, S, ρ, ok, sl, p⟩ => ?_
  refine ⟨A, Z, S, ρ, ok, sl, (Post.split p).imp fun B T I o' gr q w rw_ => ?_⟩
  cases e0 : lstOf T o' with
  | none => rw [e0] at q; exact q.elim
  | some ys =>
    rw [e0] at q
    obtain ⟨a0, vs0, rfl, h1, _⟩ := lstOf_at gr.ok rw_ e0
    refine ⟨.inl ⟨rfl, _, SqL.of h1⟩, B, Z, T, ρ, gr.ok, sl.grow gr, (Post.split q).imp fun C U J d gr2 q2 x rx => ?_⟩
    cases e : appD o' d U with
    | none => rw [e] at q2; exact q2.elim
    | some S3 =>
      rw [e] at q2
      unfold appD at e
      split at e
      · rename_i k
        split at e
        · rename_i xs e1
          split at e
          · rename_i hc
            cases e
            obtain ⟨a, vs, e3, k1, k2⟩ := lstOf_at gr2.ok (rw_.grow gr2) (show lstOf U (.cel k) = some xs by simp only [lstOf, e1])
            cases e3
            have h5 : C[k]? = some a0 := by
              cases rw_.grow gr2 with
              | cel h => exact h
            refine ⟨a0, vs, x, rfl, rfl, k1, by rw [k2.length]; exact capN_lt hc, ?_⟩
            exact q2 C _ (Grow.store gr2.ok e1 h5 (k2.append (.cons rx .nil))) _ .non
          · cases e
        · cases e
      · cases e
/-! ### if, while -/
def fIfS (t : FT) (f g : FS) : FS := fun ρ S => (t ρ S).bind fun c S1 => if c = true then f ρ S1 else g ρ S1
theorem ss_if {c : Expr} {x y : List Stmt} {t : FT} {f g : FS} (hc : ST_ X W ca c t) (ha : SSs X W ca x f) (hb : SSs X W ca y g) : SS X W ca (.If c x y pos) (fIfS t f g) := by
  refine ss_of (ps_if hc.pt ha.pss hb.pss) fun D σ H ⟨A, Z, S, ρ, ok, sl, p⟩ => ?_
  refine ⟨A, Z, S, ρ, ok, sl, (Post.split p).imp fun B T I c gr q => ?_⟩
  cases c with
  | true => exact iteT ⟨B, Z, T, ρ, gr.ok, sl.grow gr, q⟩
  | false => exact iteF ⟨B, Z, T, ρ, gr.ok, sl.grow gr, q⟩
/-- while, at most so many turns -/
def fWhile (t : FT) (f : FS) : Nat → FS
  | 0 => fun _ _ => .bad
  | n + 1 => fun ρ S => (t ρ S).bind fun c S1 => if c = true then (f ρ S1).bind fun r S2 => match r.1 with
      | .nx => fWhile t f n r.2 S2
      | .ct => fWhile t f n r.2 S2
      | .bk => .ok (.nx, r.2) S2
      | .rt d => .ok (.rt d, r.2) S2
    else .ok (.nx, ρ) S1
theorem ss_while {c : Expr} {x : List Stmt} {t : FT} {f : FS} (n : Nat) (hp : PassesOwn (model X.prog X.w) X.A X.env X.xe) (hc : ST_ X W ca c t) (hb : SSs X W ca x f) : SS X W ca (.While c x [] pos) (fWhile t f n) := by
  refine ss_of (ps_while hp hc.pt hb.pss) fun D σ H ⟨A, Z, S, ρ, ok, sl, p⟩ => ?_
  refine ⟨fun m σ H => tS X.K W ca (fWhile t f m) D σ H, ⟨n, A, Z, S, ρ, ok, sl, p⟩, ?_⟩
  rintro m σ H ⟨A, Z, S, ρ, ok, sl, p⟩
  cases m with
  | zero => exact p.elim
  | succ m =>
    refine ⟨A, Z, S, ρ, ok, sl, (Post.split p).imp fun B T I c gr q => ?_⟩
    cases c with
    | false => exact q B I (.refl gr.ok) σ (sl.grow gr)
    | true =>
      refine ⟨fun σ' H' => tS X.K W ca (fWhile t f m) D σ' H', fun σ' H' h => ⟨m, Nat.lt_succ_self m, h⟩, ?_⟩
      refine ⟨B, Z, T, ρ, gr.ok, sl.grow gr, (Post.split q).imp fun C U J r gr2 q2 => ?_⟩
      obtain ⟨fl, ρ'⟩ := r
      cases fl with
      | nx => exact fun σ' sl' => ⟨C, Z, U, ρ', gr2.ok, sl', q2.sig σ'⟩
      | ct => exact fun σ' sl' => ⟨C, Z, U, ρ', gr2.ok, sl', q2.sig σ'⟩
      | bk => exact q2 C J (.refl gr2.ok)
      | rt d => exact q2 C J (.refl gr2.ok)
/-! ### what is walked -/
structure ItD where
  items : List D
  cell : Option Nat
abbrev FI := Env → Sto → Res ItD
/-- the list that is walked stands as it was -/
def ItAt (it : ItD) (S : Sto) : Prop := ∀ j, it.cell = some j → S[j]? = some (.lst it.items) ∨ S[j]? = some (.lk it.items)
/-- a growth in which more may be hidden -/
structure GrowI (K : PySem.W.Frag) (Z A : List Addr) (S : Sto) (H : Hp) (Zx A' : List Addr) (S' : Sto) (H' : Hp) : Prop where
  pre : A <+: A'
  ok : SOk K A' Zx S' H'
  ex : ∀ b o, cut A Z S H b = some o → cut A' Zx S' H' b = some o
theorem Grow0.toI {K : PySem.W.Frag} {Z A A' : List Addr} {S S' : Sto} {H H' : Hp} (g : Grow0 K Z A S H A' S' H') : GrowI K Z A S H Z A' S' H' := ⟨g.pre, g.ok, g.ex⟩
theorem DR.growI {K : PySem.W.Frag} {Z A Zx A' : List Addr} {S S' : Sto} {H H' : Hp} {v : V} {d : D} (r : DR A (cut A Z S H) K v d) (g : GrowI K Z A S H Zx A' S' H') : DR A' (cut A' Zx S' H') K v d := r.mono g.pre g.ex
structure ItOk (K : PySem.W.Frag) (Z : List Addr) (J : It) (it : ItD) (A : List Addr) (S : Sto) (H : Hp) : Prop where
  here : ItAt it S
  go : ∀ Zx A' S' H' i, GrowI K Z A S H Zx A' S' H' → ItAt it S' → i < it.items.length → J.go i H'
  stop : ∀ Zx A' S' H', GrowI K Z A S H Zx A' S' H' → ItAt it S' → J.stop it.items.length H'
  yld : ∀ Zx A' S' H' i x H'', GrowI K Z A S H Zx A' S' H' → ItAt it S' → J.yld i H' x H'' → i < it.items.length → Grow K Zx A' S' H' A' S' H'' ∧ ∃ d, it.items[i]? = some d ∧ DR A' (cut A' Zx S' H'') K x d
def tI (K : PySem.W.Frag) (W : WX) (ca : Str → Addr) (f : FI) : TI := fun σ H R => ∃ A Z S ρ, SOk K A Z S H ∧ Sl K A (cut A Z S H) ρ σ ∧ Post K W ca A Z S H σ (f ρ S) fun B T I it => ∀ J, ItOk K Z J it B T I → R J I
structure SI (X : Cx) (W : WX) (ca : Str → Addr) (tg iter : Expr) (f : FI) : Prop where
  pi : PI X tg iter (tI X.K W ca f)
theorem pi_imp {tg iter : Expr} {t t' : TI} (h : PI X tg iter t) (i : ∀ σ H R, t' σ H R → t σ H R) : PI X tg iter t' := ⟨fun pins s σ H R I q => h.run pins s σ H R I (i _ _ _ q)⟩
/-- lists -/
def iterOf (S : Sto) (d : D) : Option ItD := match d with
  | .lst xs => some ⟨xs, none⟩
  | .kls xs => some ⟨xs, none⟩
  | .cel i => (lstOf S (.cel i)).map fun xs => ⟨xs, some i⟩
  | _ => none
def fiSeq (f : FE) : FI := fun ρ S => (f ρ S).bind fun d S1 => match iterOf S1 d with
  | some it => .ok it S1
  | none => .bad
theorem cel_get {S : Sto} {i : Nat} {xs : List D} (h : lstOf S (.cel i) = some xs) : S[i]? = some (.lst xs) ∨ S[i]? = some (.lk xs) := by
  simp only [lstOf] at h
  split at h
  · rename_i e; cases h; exact .inl e
  · rename_i e; cases h; exact .inr e
  · cases h
theorem get_cel {S : Sto} {i : Nat} {xs : List D} (h : S[i]? = some (.lst xs) ∨ S[i]? = some (.lk xs)) : lstOf S (.cel i) = some xs := by
  simp only [lstOf]
  rcases h with h | h <;> rw [h]
/-- a list's address and items, as they stand later -/
theorem seq_later {K : PySem.W.Frag} {A A' Z Zx : List Addr} {S S' : Sto} {H H' : Hp} {v : V} {d : D} {it : ItD} (r : DR A (cut A Z S H) K v d) (h : iterOf S d = some it) (g : GrowI K Z A S H Zx A' S' H') (ha : ItAt it S') :
    ∃ vs, v = .ref (match v with | .ref a => a | _ => 0) ∧ SqL K H' (match v with | .ref a => a | _ => 0) vs ∧ DRs A' (cut A' Zx S' H') K vs it.items := by
  have r' := r.growI g
  cases d with
  | lst xs =>
    cases h
    cases r' with
    | lst h1 h2 => exact ⟨_, rfl, SqL.of (cut_sub h1), h2⟩
  | kls xs =>
    cases h
    cases r' with
    | kls h1 h2 => exact ⟨_, rfl, sql_mono (fun _ _ => cut_sub) h1, h2⟩
  | cel i =>
    unfold iterOf at h
    simp only at h
    cases e : lstOf S (.cel i) with
    | none => rw [e] at h; cases h
    | some xs =>
      rw [e] at h
      cases h
      obtain ⟨a, vs, rfl, h1, h2⟩ := lstOf_at g.ok r' (get_cel (ha i rfl))
      exact ⟨vs, rfl, SqL.of h1, h2⟩
  | _ => cases h
theorem iter_here {S : Sto} {d : D} {it : ItD} (h : iterOf S d = some it) : ItAt it S := fun j e => by
  cases d with
  | lst xs => cases h; cases e
  | kls xs => cases h; cases e
  | cel i =>
    unfold iterOf at h
    simp only at h
    cases e1 : lstOf S (.cel i) with
    | none => rw [e1] at h; cases h
    | some xs =>
      rw [e1] at h
      cases h
      cases e
      exact cel_get e1
  | _ => cases h
theorem iter_ref {K : PySem.W.Frag} {A : List Addr} {G : Hp} {S : Sto} {v : V} {d : D} {it : ItD} (r : DR A G K v d) (h : iterOf S d = some it) : ∃ a, v = .ref a := by
  cases r with
  | lst _ _ => exact ⟨_, rfl⟩
  | kls _ _ => exact ⟨_, rfl⟩
  | cel _ => exact ⟨_, rfl⟩
  | _ => cases h
theorem itl_ok {K : PySem.W.Frag} {A Z : List Addr} {S : Sto} {H : Hp} {a : Addr} {d : D} {it : ItD} (ok : SOk K A Z S H) (r : DR A (cut A Z S H) K (.ref a) d) (h : iterOf S d = some it) : ItOk K Z (Itl K a) it A S H where
  here := iter_here h
  go := fun Zx A' S' H' i g ha hi => by
    obtain ⟨vs, _, h1, h2⟩ := seq_later r h g ha
    have hl := h2.length
    exact ⟨vs, vs[i]'(by omega), h1, by simp⟩
  stop := fun Zx A' S' H' g ha => by
    obtain ⟨vs, _, h1, h2⟩ := seq_later r h g ha
    exact ⟨vs, h1, by rw [h2.length]; exact Nat.le_refl _⟩
  yld := fun Zx A' S' H' i x H'' g ha hy hi => by
    obtain ⟨vs, _, h1, h2⟩ := seq_later r h g ha
    obtain ⟨rfl, y⟩ := hy
    obtain ⟨d', e1, e2⟩ := h2.getv (y vs h1)
    exact ⟨.refl g.ok, d', e1, e2⟩
theorem si_seq {tg l : Expr} {f : FE} (h : SE X W ca l f) : SI X W ca tg l (fiSeq f) := ⟨pi_imp (pi_list h.pe) fun σ H R ⟨A, Z, S, ρ, ok, sl, p⟩ => by
  refine ⟨A, Z, S, ρ, ok, sl, (Post.split p).imp fun B T I d gr q v rv => ?_⟩
  cases e : iterOf T d with
  | none => rw [e] at q; exact q.elim
  | some it =>
    rw [e] at q
    obtain ⟨a, rfl⟩ := iter_ref rv e
    obtain ⟨vs, _, h1, _⟩ := seq_later rv e (Grow0.refl gr.ok).toI (iter_here e)
    exact ⟨a, rfl, ⟨vs, h1⟩, q B I (.refl gr.ok) _ (itl_ok gr.ok rv e)⟩⟩
/-- a tuple -/
def fiTup (f : FE) : FI := fun ρ S => (f ρ S).bind fun d S1 => match d with
  | .tup xs => .ok ⟨xs, none⟩ S1
  | _ => .bad
theorem itt_ok {K : PySem.W.Frag} {A Z : List Addr} {S : Sto} {H : Hp} {a : Addr} {xs : List D} (r : DR A (cut A Z S H) K (.ref a) (.tup xs)) : ItOk K Z (Itt K a) ⟨xs, none⟩ A S H where
  here := fun j e => by cases e
  go := fun Zx A' S' H' i g ha hi => by
    obtain ⟨b, vs, e, h1, h2⟩ := tup_at (r.growI g)
    cases e
    have hl := h2.length
    exact ⟨vs, vs[i]'(by simp at hi; omega), h1, by simp⟩
  stop := fun Zx A' S' H' g ha => by
    obtain ⟨b, vs, e, h1, h2⟩ := tup_at (r.growI g)
    cases e
    exact ⟨vs, h1, by rw [h2.length]; exact Nat.le_refl _⟩
  yld := fun Zx A' S' H' i x H'' g ha hy hi => by
    obtain ⟨b, vs, e, h1, h2⟩ := tup_at (r.growI g)
    cases e
    obtain ⟨rfl, y⟩ := hy
    obtain ⟨d', e1, e2⟩ := h2.getv (y vs h1)
    exact ⟨.refl g.ok, d', e1, e2⟩
theorem si_tup {tg l : Expr} {f : FE} (h : SE X W ca l f) : SI X W ca tg l (fiTup f) := ⟨pi_imp (pi_tup h.pe) fun σ H R ⟨A, Z, S, ρ, ok, sl, p⟩ => by
  refine ⟨A, Z, S, ρ, ok, sl, (Post.split p).imp fun B T I d gr q v rv => ?_⟩
  cases d with
  | tup xs =>
    obtain ⟨a, vs, rfl, h1, h2⟩ := tup_at rv
    exact ⟨a, rfl, ⟨vs, h1⟩, q B I (.refl gr.ok) _ (itt_ok rv)⟩
  | _ => exact q.elim⟩
/-- range -/
def rangeD (lo : Int) (n : Nat) : List D := (List.range n).map fun i => .int (lo + (i : Nat))
theorem rangeD_len {lo : Int} {n : Nat} : (rangeD lo n).length = n := by simp [rangeD]
theorem rangeD_get {lo : Int} {n i : Nat} (h : i < n) : (rangeD lo n)[i]? = some (.int (lo + (i : Nat))) := by
  unfold rangeD
  rw [List.getElem?_map, List.getElem?_range h]
  rfl
theorem itr_ok {K : PySem.W.Frag} {A Z : List Addr} {S : Sto} {H : Hp} {lo : Int} {n : Nat} : ItOk K Z (Itr lo n) ⟨rangeD lo n, none⟩ A S H where
  here := fun j e => by cases e
  go := fun Zx A' S' H' i g ha hi => by rw [rangeD_len] at hi; exact hi
  stop := fun Zx A' S' H' g ha => by show n ≤ _; rw [rangeD_len]; exact Nat.le_refl _
  yld := fun Zx A' S' H' i x H'' g ha hy hi => by
    obtain ⟨rfl, rfl⟩ := hy
    rw [rangeD_len] at hi
    exact ⟨.refl g.ok, _, rangeD_get hi, .int _⟩
@[irreducible] def smallI (i : Int) : Bool := ltN i 4611686018427387904
theorem smallI_at {i : Int} (h : smallI i = true) : -(2 ^ 62) ≤ i ∧ i < 2 ^ 62 := by
  unfold smallI at h
  have p62 : (2 : Int) ^ 62 = 4611686018427387904 := by decide +kernel
  have := ltN_at h
  rw [p62]
  omega
def fiRng1 (f : FA) : FI := fun ρ S => (f ρ S).bind fun ds S1 => match ds with
  | [.int j] => if smallI j then .ok ⟨rangeD 0 j.toNat, none⟩ S1 else .bad
  | _ => .bad
def fiRng2 (f : FA) : FI := fun ρ S => (f ρ S).bind fun ds S1 => match ds with
  | [.int i, .int j] => if smallI i && smallI j then .ok ⟨rangeD i (j - i).toNat, none⟩ S1 else .bad
  | _ => .bad
theorem si_range1 {tg : Expr} {f : FA} {p : Pos} (hg : Gl X "range") (hm : X.mg "range" = none) (h : SA X W ca [a] f) (hs : starEach [a] X.env = [(false, eval a X.env)] := by rfl) : SI X W ca tg (.Call (.Name "range" p) [a] [] pos) (fiRng1 f) := ⟨pi_imp (pi_range1 hg hm h.pa hs) fun σ H R ⟨A, Z, S, ρ, ok, sl, p⟩ => by
  refine ⟨A, Z, S, ρ, ok, sl, (Post.split p).imp fun B T I ds gr q vs rv => ?_⟩
  split at q
  · cases rv with
    | cons r1 r2 =>
      cases r1; cases r2
      split at q
      · rename_i j hc
        exact ⟨j, rfl, (smallI_at hc).1, (smallI_at hc).2, q B I (.refl gr.ok) _ itr_ok⟩
      · exact q.elim
  · exact q.elim⟩
theorem si_range2 {tg : Expr} {f : FA} {p : Pos} (hg : Gl X "range") (hm : X.mg "range" = none) (h : SA X W ca [a, b] f) (hs : starEach [a, b] X.env = [(false, eval a X.env), (false, eval b X.env)] := by rfl) (hs2 : starEach [b] X.env = [(false, eval b X.env)] := by rfl) : SI X W ca tg (.Call (.Name "range" p) [a, b] [] pos) (fiRng2 f) := ⟨pi_imp (pi_range2 hg hm h.pa hs hs2) fun σ H R ⟨A, Z, S, ρ, ok, sl, p⟩ => by
  refine ⟨A, Z, S, ρ, ok, sl, (Post.split p).imp fun B T I ds gr q vs rv => ?_⟩
  split at q
  · cases rv with
    | cons r1 r2 =>
      cases r2 with
      | cons r2 r3 =>
        cases r1; cases r2; cases r3
        split at q
        · rename_i i j hc
          rw [Bool.and_eq_true] at hc
          exact ⟨i, j, rfl, ⟨(smallI_at hc.1).1, (smallI_at hc.1).2, (smallI_at hc.2).1, (smallI_at hc.2).2⟩, q B I (.refl gr.ok) _ itr_ok⟩
        · exact q.elim
  · exact q.elim⟩
/-- enumerate -/
def enumD (xs : List D) : List D := xs.zipIdx.map fun p => .tup [.int (p.2 : Nat), p.1]
theorem enumD_len {xs : List D} : (enumD xs).length = xs.length := by simp [enumD]
theorem enumD_get {xs : List D} {i : Nat} {d : D} (h : xs[i]? = some d) : (enumD xs)[i]? = some (.tup [.int (i : Nat), d]) := by
  unfold enumD
  rw [List.getElem?_map, List.getElem?_zipIdx, h]
  simp
def fiEnum (f : FE) : FI := fun ρ S => (f ρ S).bind fun d S1 => match iterOf S1 d with
  | some it => if it.cell = none then .ok ⟨enumD it.items, none⟩ S1 else .bad
  | none => .bad
theorem ite_ok {K : PySem.W.Frag} {A Z : List Addr} {S : Sto} {H : Hp} {a : Addr} {d : D} {it : ItD} (r : DR A (cut A Z S H) K (.ref a) d) (h : iterOf S d = some it) (hc : it.cell = none) : ItOk K Z (Ite K a) ⟨enumD it.items, none⟩ A S H where
  here := fun j e => by cases e
  go := fun Zx A' S' H' i g ha hi => by
    obtain ⟨vs, _, h1, h2⟩ := seq_later r h g (fun j e => by rw [hc] at e; cases e)
    have hl := h2.length
    rw [enumD_len] at hi
    exact ⟨vs, vs[i]'(by omega), h1, by simp⟩
  stop := fun Zx A' S' H' g ha => by
    obtain ⟨vs, _, h1, h2⟩ := seq_later r h g (fun j e => by rw [hc] at e; cases e)
    exact ⟨vs, h1, by show vs.length ≤ _; rw [h2.length, enumD_len]; exact Nat.le_refl _⟩
  yld := fun Zx A' S' H' i x H'' g ha hy hi => by
    obtain ⟨vs, _, h1, h2⟩ := seq_later r h g (fun j e => by rw [hc] at e; cases e)
    obtain ⟨T, x', rfl, hT, rfl, y⟩ := hy
    obtain ⟨d', e1, e2⟩ := h2.getv (y vs h1)
    exact ⟨.new g.ok hT, _, enumD_get e1, new_tup g.ok hT (.cons (.int _) (.cons e2 .nil))⟩
theorem si_enum {l : Expr} {p tpos : Pos} {elts : List Expr} {kk : Nat} {f : FE} (hg : Gl X "enumerate") (hm : X.mg "enumerate" = none) (h : SE X W ca l f) (hs : starEach [l] X.env = [(false, eval l X.env)] := by rfl) : SI X W ca (.Tuple elts kk tpos) (.Call (.Name "enumerate" p) [l] [] pos) (fiEnum f) := ⟨pi_imp (pi_enum hg hm (pa_cons h.pe pa_nil hs) hs) fun σ H R ⟨A, Z, S, ρ, ok, sl, p⟩ => by
  refine ⟨A, Z, S, ρ, ok, sl, (Post.split p).imp fun B T I d gr q v rv => ?_⟩
  cases e : iterOf T d with
  | none => rw [e] at q; exact q.elim
  | some it =>
    rw [e] at q
    simp only at q
    split at q
    · rename_i hc
      obtain ⟨a, rfl⟩ := iter_ref rv e
      obtain ⟨vs, _, h1, _⟩ := seq_later rv e (Grow0.refl gr.ok).toI (iter_here e)
      exact ⟨a, vs, rfl, h1, q B I (.refl gr.ok) _ (ite_ok rv e hc)⟩
    · exact q.elim⟩
end
end DL

set_option maxHeartbeats 2000000
namespace DL
open PySem PySem.Spec PyProof.Rows L2
/-! ### for -/
def loopD (g : FG) (f : FS) : List D → FS
  | [] => fun ρ S => .ok (.nx, ρ) S
  | d :: ds => fun ρ S => (g d ρ S).bind fun ρ1 S1 => (f ρ1 S1).bind fun r S2 => match r.1 with
    | .nx => loopD g f ds r.2 S2
    | .ct => loopD g f ds r.2 S2
    | .bk => .ok (.nx, r.2) S2
    | .rt d => .ok (.rt d, r.2) S2
/-- a list that may change is locked while it is walked -/
def withLock {α : Type} (c : Option Nat) (k : Sto → Res α) (S : Sto) : Res α := match c with
  | none => k S
  | some j => match S[j]? with
    | some (.lst xs) => (k (S.set j (.lk xs))).bind fun r S2 => .ok r (S2.set j (.lst xs))
    | some (.lk _) => k S
    | _ => .bad
@[simp] theorem withLock_none {α : Type} (k : Sto → Res α) (S : Sto) : withLock none k S = k S := rfl
theorem Post.lock {α : Type} {K : PySem.W.Frag} {W : WX} {ca : Str → Addr} {A Z : List Addr} {S : Sto} {H : Hp} {σ : L2.St} {it : ItD} {k : Sto → Res α} {P : List Addr → Sto → Hp → α → Prop}
    (ok : SOk K A Z S H) (ha : ItAt it S) (h : Post K W ca A Z S H σ (withLock it.cell k S) P) :
    ∃ (S1 : Sto) (U : Sto → Sto), Grow0 K Z A S H A S1 H ∧ (∀ j, it.cell = some j → S1[j]? = some (.lk it.items)) ∧ Post K W ca A Z S1 H σ (k S1) fun B T I r => Grow0 K Z B T I B (U T) I ∧ P B (U T) I r := by
  obtain ⟨items, cell⟩ := it
  cases cell with
  | none => exact ⟨S, id, .refl ok, fun j e => (by cases e), h.imp fun B T I r g p => ⟨.refl g.ok, p⟩⟩
  | some j =>
    have hj := ha j rfl
    unfold withLock at h
    simp only at h hj
    rcases hj with hj | hj
    · rw [hj] at h
      simp only at h
      have g0 : Grow0 K Z A S H A (S.set j (.lk items)) H := Grow.relock ok hj (.inl rfl) (.inr rfl)
      have hi : j < S.length := (List.getElem?_eq_some_iff.mp hj).1
      have e1 : (S.set j (.lk items))[j]? = some (.lk items) := List.getElem?_set_self hi
      -- from the locked store on
      have back : ∀ {B T I}, Grow K Z A (S.set j (.lk items)) H B T I → Grow K Z A S H B (T.set j (.lst items)) I ∧ Grow0 K Z B T I B (T.set j (.lst items)) I := fun {B T I} g => by
        have e2 : T[j]? = some (.lk items) := g.lk j items e1
        have g1 : Grow0 K Z B T I B (T.set j (.lst items)) I := Grow.relock g.ok e2 (.inr rfl) (.inl rfl)
        have g2 := (g0.trans g.zero).trans g1
        refine ⟨⟨g2.pre, g2.ok, g2.ex, g2.hid, fun i ds e => ?_⟩, g1⟩
        have ne : j ≠ i := fun z => by subst z; rw [hj] at e; cases e
        rw [List.getElem?_set_ne ne]
        exact g.lk i ds (by rw [List.getElem?_set_ne ne]; exact e)
      refine ⟨S.set j (.lk items), fun T => T.set j (.lst items), g0, fun j' e => (by cases e; exact e1), ?_⟩
      cases e3 : k (S.set j (.lk items)) with
      | bad => rw [e3] at h; exact h
      | err c d T =>
        rw [e3] at h
        intro B I dx v σ' g
        have g2 := g0.trans g.zero
        refine h B I dx v σ' ⟨g2.pre, g2.ok, g2.ex, g2.hid, fun i ds e => ?_⟩
        have ne : j ≠ i := fun z => by subst z; rw [hj] at e; cases e
        exact g.lk i ds (by rw [List.getElem?_set_ne ne]; exact e)
      | ok a T =>
        rw [e3] at h
        intro B I g
        exact ⟨(back g).2, h B I (back g).1⟩
    · rw [hj] at h
      simp only at h
      exact ⟨S, id, .refl ok, fun j' e => (by cases e; exact hj), h.imp fun B T I r g p => ⟨.refl g.ok, p⟩⟩
def fFor (fi : FI) (g : FG) (f : FS) : FS := fun ρ S => (fi ρ S).bind fun it S1 => withLock it.cell (loopD g f it.items ρ) S1
theorem drop_at {α : Type} {l : List α} {i : Nat} {d : α} (h : l[i]? = some d) : l.drop i = d :: l.drop (i + 1) := by
  obtain ⟨h1, h2⟩ := List.getElem?_eq_some_iff.mp h
  rw [← h2]
  exact List.drop_eq_getElem_cons h1
section
variable {X : Cx} {W : WX} {ca : Str → Addr} {e a b : Expr} {es : List Expr} {pos : Pos} {st : Stmt} {rest : List Stmt}
theorem ss_for {tg iter : Expr} {body : List Stmt} {fi : FI} {g : FG} {f : FS} (hp : PassesOwn (model X.prog X.w) X.A X.env X.xe) (hc : X.calm = true) (hi : SI X W ca tg iter fi) (hg : SG X W ca tg g) (hb : SSs X W ca body f)
    (hs : ∀ x, foldedSetIterable iter X.env x = pure x := by intro _; rfl) : SS X W ca (.For tg iter body [] pos) (fFor fi g f) := by
  refine ss_of (ps_for hp hc hi.pi hg.pg hb.pss hs) fun D σ H ⟨A, Z, S, ρ, ok, sl, p⟩ => ?_
  refine ⟨A, Z, S, ρ, ok, sl, (Post.split p).imp fun B T I it gr q J hJ => ?_⟩
  obtain ⟨T1, U, g0, hl, q1⟩ := Post.lock gr.ok hJ.here q
  refine ⟨fun i m σ' H' => m = it.items.length - i ∧ i ≤ it.items.length ∧ ∃ A' S' ρ', Grow X.K Z B T1 I A' S' H' ∧ Sl X.K A' (cut A' Z S' H') ρ' σ' ∧
      Post X.K W ca A' Z S' H' σ' (loopD g f (it.items.drop i) ρ' S') fun B T I r => Grow0 X.K Z B T I B (U T) I ∧ EndF X.K D Z B (U T) I r,
    ⟨it.items.length, rfl, Nat.zero_le _, B, T1, ρ, .refl g0.ok, (sl.grow gr).mono g0.pre g0.ex, q1⟩, ?_⟩
  rintro i m σ' H' ⟨rfl, hi, A', S', ρ', g1, sl', q2⟩
  have hat : ItAt it S' := fun j e => .inr (g1.lk j _ (hl j e))
  have g01 : GrowI X.K Z B T I Z A' S' H' := (g0.trans g1.zero).toI
  by_cases hlt : i < it.items.length
  · refine .inr ⟨hJ.go _ _ _ _ i g01 hat hlt, fun σ'' H'' => ∃ A' S' ρ', Grow X.K Z B T1 I A' S' H'' ∧ Sl X.K A' (cut A' Z S' H'') ρ' σ'' ∧
      Post X.K W ca A' Z S' H'' σ'' (loopD g f (it.items.drop (i + 1)) ρ' S') fun B T I r => Grow0 X.K Z B T I B (U T) I ∧ EndF X.K D Z B (U T) I r,
      fun σ'' H'' h => ⟨it.items.length - (i + 1), by omega, rfl, hlt, h⟩, fun x H'' hy => ?_⟩
    obtain ⟨g2, d, ed, rd⟩ := hJ.yld _ _ _ _ i x H'' g01 hat hy hlt
    rw [drop_at ed] at q2
    have q3 := Post.later q2 g2
    refine ⟨A', Z, S', ρ', d, g2.ok, sl'.grow g2, rd, (Post.split q3).imp fun C V L ρ1 g3 q4 σ2 sl2 => ?_⟩
    refine ⟨C, Z, V, ρ1, g3.ok, sl2, (Post.split (q4.sig σ2)).imp fun C2 V2 L2' r g4 q5 => ?_⟩
    have gg := g1.trans (g2.trans (g3.trans g4))
    obtain ⟨fl, ρ2⟩ := r
    cases fl with
    | nx => exact fun σ3 sl3 => ⟨C2, V2, ρ2, gg, sl3, q5.sig σ3⟩
    | ct => exact fun σ3 sl3 => ⟨C2, V2, ρ2, gg, sl3, q5.sig σ3⟩
    | bk =>
      intro σ3 sl3
      obtain ⟨z1, z2⟩ := q5 C2 L2' (.refl g4.ok)
      exact z2 σ3 (sl3.mono z1.pre z1.ex)
    | rt d' =>
      intro v rv
      obtain ⟨z1, z2⟩ := q5 C2 L2' (.refl g4.ok)
      exact z2 v (rv.grow0 z1)
  · have ei : i = it.items.length := by omega
    subst ei
    refine .inl ⟨hJ.stop _ _ _ _ g01 hat, ?_⟩
    rw [List.drop_length] at q2
    obtain ⟨z1, z2⟩ := q2 A' H' (.refl g1.ok)
    exact z2 σ' (sl'.mono z1.pre z1.ex)
/-! ### list comprehensions -/
abbrev W0 : WX := fun _ _ _ _ => False
/-- targets that leave all but the slots vs -/
def tGw (K : PySem.W.Frag) (ca : Str → Addr) (vs : List Nat) (f : FG) : TG := fun v σ H Q => ∃ A Z S ρ d, SOk K A Z S H ∧ Sl K A (cut A Z S H) ρ σ ∧ DR A (cut A Z S H) K v d ∧ Post K W0 ca A Z S H σ (f d ρ S) fun B T I ρ' => ∀ σ', Sl K B (cut B Z T I) ρ' σ' → L2.wipe σ' vs = L2.wipe σ vs → Q σ' I
structure SGw (X : Cx) (ca : Str → Addr) (vs : List Nat) (tg : Expr) (f : FG) : Prop where
  pg : PG X tg (tGw X.K ca vs f)
def tGws (K : PySem.W.Frag) (ca : Str → Addr) (vs : List Nat) (f : FGs) : TGs := fun xs σ H Q => ∃ A Z S ρ ds, SOk K A Z S H ∧ Sl K A (cut A Z S H) ρ σ ∧ DRs A (cut A Z S H) K xs ds ∧ Post K W0 ca A Z S H σ (f ds ρ S) fun B T I ρ' => ∀ σ', Sl K B (cut B Z T I) ρ' σ' → L2.wipe σ' vs = L2.wipe σ vs → Q σ' I
structure SGws (X : Cx) (ca : Str → Addr) (vs : List Nat) (tgs : List Expr) (f : FGs) : Prop where
  pgs : PGs X tgs (tGws X.K ca vs f)
theorem wipe_set {σ : L2.St} {i : Nat} {x : Option V} : ∀ {vs : List Nat}, i ∈ vs → L2.wipe (σ.set i x) vs = L2.wipe σ vs
  | [], h => by cases h
  | v :: vs, h => by
    show (L2.wipe (σ.set i x) vs).set v none = (L2.wipe σ vs).set v none
    by_cases c : i ∈ vs
    · rw [wipe_set c]
    · have e : i = v := by
        rcases List.mem_cons.mp h with h | h
        · exact h
        · exact absurd h c
      subst e
      apply List.ext_getElem?
      intro j
      by_cases ej : i = j
      · subst ej
        by_cases hl : i < σ.length
        · rw [List.getElem?_set_self (by rw [L2.wipe_length, List.length_set]; exact hl), List.getElem?_set_self (by rw [L2.wipe_length]; exact hl)]
        · rw [List.getElem?_eq_none (by rw [List.length_set, L2.wipe_length, List.length_set]; omega), List.getElem?_eq_none (by rw [List.length_set, L2.wipe_length]; omega)]
      · rw [List.getElem?_set_ne ej, List.getElem?_set_ne ej]
        exact wipe_at ej
where
  wipe_at {σ : L2.St} {i j : Nat} {x : Option V} (h : i ≠ j) : ∀ {vs : List Nat}, (L2.wipe (σ.set i x) vs)[j]? = (L2.wipe σ vs)[j]?
    | [] => List.getElem?_set_ne h
    | v :: vs => by
      show ((L2.wipe (σ.set i x) vs).set v none)[j]? = ((L2.wipe σ vs).set v none)[j]?
      by_cases c : v = j
      · subst c
        by_cases hl : v < σ.length
        · rw [List.getElem?_set_self (by rw [L2.wipe_length, List.length_set]; exact hl), List.getElem?_set_self (by rw [L2.wipe_length]; exact hl)]
        · rw [List.getElem?_eq_none (by rw [List.length_set, L2.wipe_length, List.length_set]; omega), List.getElem?_eq_none (by rw [List.length_set, L2.wipe_length]; omega)]
      · rw [List.getElem?_set_ne c, List.getElem?_set_ne c]
        exact wipe_at h
theorem wipe_in {σ : L2.St} {j : Nat} : ∀ {vs : List Nat}, j ∈ vs → (L2.wipe σ vs).set j none = L2.wipe σ vs
  | [], h => by cases h
  | v :: vs, h => by
    show ((L2.wipe σ vs).set v none).set j none = (L2.wipe σ vs).set v none
    by_cases c : j = v
    · subst c
      rw [List.set_set]
    · have hj : j ∈ vs := (List.mem_cons.mp h).resolve_left c
      rw [List.set_comm _ _ (fun z => c z.symm), wipe_in hj]
theorem wipe_wipe {σ : L2.St} : ∀ {vs : List Nat}, L2.wipe (L2.wipe σ vs) vs = L2.wipe σ vs := fun {vs} => by
  have : ∀ {us : List Nat}, (∀ j ∈ us, j ∈ vs) → L2.wipe (L2.wipe σ vs) us = L2.wipe σ vs := fun {us} => by
    induction us with
    | nil => intro _; rfl
    | cons u us ih =>
      intro h
      show (L2.wipe (L2.wipe σ vs) us).set u none = L2.wipe σ vs
      rw [ih fun j hj => h j (List.mem_cons_of_mem _ hj)]
      exact wipe_in (h u List.mem_cons_self)
  exact this fun j h => h
theorem sgw_name {i : Nat} {x : Str} {vs : List Nat} (hv : i ∈ vs) (hN : X.N.Nodup) (hi : X.N[i]? = some x) (hx : Loc X.env.scope x) (hf : X.fn x = true ∨ X.env.scope.names.lookup x = some .local := by first | exact .inl rfl | exact .inr rfl | assumption) : SGw X ca vs (.Name x pos) (fgName i) :=
  ⟨pg_imp (pg_name hN hi hx hf) fun v σ H Q ⟨A, Z, S, ρ, d, ok, sl, rv, p⟩ => p A H (.refl ok) _ (sl.set rv i) (wipe_set hv)⟩
theorem sgws_nil {vs : List Nat} : SGws X ca vs [] fgNil := ⟨pgs_imp pgs_nil fun xs σ H Q ⟨A, Z, S, ρ, ds, ok, sl, rv, p⟩ => by
  cases ds with
  | nil => cases rv; exact ⟨rfl, p A H (.refl ok) σ sl rfl⟩
  | cons _ _ => exact p.elim⟩
theorem sgws_cons {vs : List Nat} {es : List Expr} {f : FG} {g : FGs} (h1 : SGw X ca vs e f) (h2 : SGws X ca vs es g)
    (hs : (assignEach (e :: es) X.env).map (·.2) = assign e X.env :: (assignEach es X.env).map (·.2) := by rfl) : SGws X ca vs (e :: es) (fgCons f g) := ⟨pgs_imp (pgs_cons h1.pg h2.pgs hs) fun xs σ H Q ⟨A, Z, S, ρ, ds, ok, sl, rv, p⟩ => by
  cases ds with
  | nil => exact p.elim
  | cons d r =>
    cases rv with
    | cons r1 r2 =>
      refine ⟨_, _, rfl, A, Z, S, ρ, d, ok, sl, r1, (Post.split p).imp fun B T I ρ1 gr q σ' sl' hw => ⟨B, Z, T, ρ1, r, gr.ok, sl', r2.grow gr, ?_⟩⟩
      exact (q.sig σ').imp fun B T I ρ' _ z σ'' sl'' hw' => z σ'' sl'' (hw'.trans hw)⟩
theorem sgw_tup {vs : List Nat} {es : List Expr} {k : Nat} {f : FGs} {n : Nat} (hc : X.calm = true) (h : SGws X ca vs es f)
    (hn : (assignEach es X.env).length = n := by rfl) (hst : (assignEach es X.env).findIdx? (·.1) = none := by rfl) : SGw X ca vs (.Tuple es k pos) (fgTup n f) := ⟨pg_imp (pg_tup hc h.pgs hn hst) fun v σ H Q ⟨A, Z, S, ρ, d, ok, sl, rv, p⟩ => by
  cases d with
  | tup xs =>
    unfold fgTup at p
    simp only at p
    split at p
    · rename_i hl
      obtain ⟨a, ws, rfl, h1, h2⟩ := tup_at rv
      exact ⟨a, ws, rfl, h1, by rw [h2.length]; exact hl, A, Z, S, ρ, xs, ok, sl, h2, p⟩
    · exact p.elim
  | _ => exact p.elim⟩
def compD (g : FG) (c : FT) (el : FE) : List D → Env → Sto → Res (List D)
  | [] => fun _ S => .ok [] S
  | d :: ds => fun ρ S => (g d ρ S).bind fun ρ1 S1 => (c ρ1 S1).bind fun b S2 => if b = true then (el ρ1 S2).bind fun y S3 => (compD g c el ds ρ S3).bind fun ys S4 => .ok (y :: ys) S4 else compD g c el ds ρ S2
def noErr {α : Type} (r : Res α) : Res α := match r with
  | .ok a S => .ok a S
  | _ => .bad
@[simp] theorem noErr_ok {α : Type} (a : α) (S : Sto) : noErr (.ok a S) = .ok a S := rfl
theorem Post.noErr {α : Type} {K : PySem.W.Frag} {A Z : List Addr} {S : Sto} {H : Hp} {σ : L2.St} {r : Res α} {P : List Addr → Sto → Hp → α → Prop} (h : Post K W ca A Z S H σ (noErr r) P) : Post K W0 ca A Z S H σ r P := by
  cases r with
  | ok a T => exact h
  | err c d T => exact h.elim
  | bad => exact h
/-- the growth of all but the list p that a comprehension makes -/
structure GrowP (K : PySem.W.Frag) (p : Addr) (Z A : List Addr) (S : Sto) (H : Hp) (A' : List Addr) (S' : Sto) (H' : Hp) : Prop where
  pre : A <+: A'
  ok : SOk K A' (p :: Z) S' H'
  ex : ∀ b o, cut A (p :: Z) S H b = some o → cut A' (p :: Z) S' H' b = some o
  hid : ∀ b ∈ Z, H' b = H b
  lk : ∀ (i : Nat) (ds : List D), S[i]? = some (.lk ds) → S'[i]? = some (.lk ds)
section
variable {K : PySem.W.Frag} {p : Addr} {Z A A' A'' : List Addr} {S S' S'' : Sto} {H H' H'' : Hp} {σ : L2.St}
theorem GrowP.of (g : Grow K (p :: Z) A S H A' S' H') : GrowP K p Z A S H A' S' H' := ⟨g.pre, g.ok, g.ex, fun b hb => g.hid b (List.mem_cons_of_mem _ hb), g.lk⟩
theorem GrowP.trans (g : GrowP K p Z A S H A' S' H') (g' : GrowP K p Z A' S' H' A'' S'' H'') : GrowP K p Z A S H A'' S'' H'' :=
  ⟨g.pre.trans g'.pre, g'.ok, fun b o h => g'.ex b o (g.ex b o h), fun b hb => (g'.hid b hb).trans (g.hid b hb), fun i ds h => g'.lk i ds (g.lk i ds h)⟩
theorem GrowP.turn {o : HO} (ok : SOk K A (p :: Z) S H) (hz : p ∉ Z) (ho : ∀ q, o ≠ LamX.CodeO p q := by exact fun q z => by unfold LamX.CodeO at z; cases z) : GrowP K p Z A S H A S (upd H p o) :=
  ⟨List.prefix_refl _, ok.turn ho, fun b u e => by rw [cut_turn]; exact e, fun b hb => upd_ne (fun z => hz (z ▸ hb)), fun _ _ h => h⟩
/-- what is left of a comprehension -/
def Rest (K : PySem.W.Frag) (p : Addr) (Z A : List Addr) (S : Sto) (H : Hp) (acc : List D) (r : Res (List D)) (Qd : Hp → Prop) : Prop := match r with
  | .ok ys V => ∀ C L vs, GrowP K p Z A S H C V L → L p = some (.lst vs) → DRs C (cut C (p :: Z) V L) K vs (acc ++ ys) → Qd L
  | _ => False
theorem Rest.later {acc : List D} {r : Res (List D)} {Qd : Hp → Prop} (h : Rest K p Z A S H acc r Qd) (g : GrowP K p Z A S H A' S' H') : Rest K p Z A' S' H' acc r Qd := by
  cases r with
  | ok ys V => exact fun C L vs g' => h C L vs (g.trans g')
  | _ => exact h
theorem Rest.split {α : Type} {acc : List D} {r : Res α} {f : α → Sto → Res (List D)} {Qd : Hp → Prop} (h : Rest K p Z A S H acc (r.bind f) Qd) : Post K W0 ca A (p :: Z) S H σ r fun B T I a => Rest K p Z B T I acc (f a T) Qd := by
  cases r with
  | ok a T => exact fun B I g => Rest.later h (.of g)
  | err c d T => exact h.elim
  | bad => exact h
end
def fLc (vs : List Nat) (fi : FI) (g : FG) (c : FT) (el : FE) : FE := fun ρ S => (fi ρ S).bind fun it S1 => if it.items.length < capN then (withLock it.cell (fun S => noErr (compD g c el it.items (wipeE ρ vs) S)) S1).bind fun ys S2 => .ok (.lst ys) S2 else .bad
def fYes : FT := fun _ S => .ok true S
structure STs (X : Cx) (W : WX) (ca : Str → Addr) (ifs : List Expr) (f : FT) : Prop where
  pts : PTs X ifs (tT X.K W ca f)
theorem pts_imp {ifs : List Expr} {t t' : TT} (h : PTs X ifs t) (i : ∀ σ H Q, t' σ H Q → t σ H Q) : PTs X ifs t' := ⟨fun pins s σ H Q I q => h.run pins s σ H Q I (i _ _ _ q)⟩
theorem sts_nil : STs X W ca [] fYes := ⟨pts_imp pts_nil fun σ H Q ⟨A, Z, S, ρ, ok, sl, p⟩ => p A H (.refl ok)⟩
theorem sts_one {f : FT} (h : ST_ X W ca a f) : STs X W ca [a] f := ⟨pts_one h.pt⟩
theorem compD_len {g : FG} {c : FT} {el : FE} : ∀ {ds : List D} {ρ : Env} {S V : Sto} {ys : List D}, compD g c el ds ρ S = .ok ys V → ys.length ≤ ds.length
  | [], ρ, S, V, ys, h => by cases h; exact Nat.le_refl _
  | d :: ds, ρ, S, V, ys, h => by
    unfold compD at h
    cases e1 : g d ρ S with
    | ok ρ1 S1 =>
      rw [e1] at h
      simp only [Res.bind_ok] at h
      cases e2 : c ρ1 S1 with
      | ok b S2 =>
        rw [e2] at h
        simp only [Res.bind_ok] at h
        cases b with
        | true =>
          simp only [if_true] at h
          cases e3 : el ρ1 S2 with
          | ok y S3 =>
            rw [e3] at h
            simp only [Res.bind_ok] at h
            cases e4 : compD g c el ds ρ S3 with
            | ok zs S4 =>
              rw [e4] at h
              simp only [Res.bind_ok] at h
              cases h
              simp only [List.length_cons]
              exact Nat.succ_le_succ (compD_len e4)
            | err _ _ _ => rw [e4] at h; cases h
            | bad => rw [e4] at h; cases h
          | err _ _ _ => rw [e3] at h; cases h
          | bad => rw [e3] at h; cases h
        | false =>
          simp only [Bool.false_eq_true, if_false] at h
          simp only [List.length_cons]
          exact Nat.le_succ_of_le (compD_len h)
      | err _ _ _ => rw [e2] at h; cases h
      | bad => rw [e2] at h; cases h
    | err _ _ _ => rw [e1] at h; cases h
    | bad => rw [e1] at h; cases h
theorem se_lc {elt tg iter : Expr} {ifs : List Expr} {scope : Scope} {own : List (Str × Nat)} {fi : FI} {g : FG} {c : FT} {el : FE} (hc : X.calm = true) (hN : X.N.Nodup) (hi : SI X W ca tg iter fi) (ok : BlkOk X.N X.env.scope scope own)
    (hg : ∀ (s : Shared) (H : Hp) (C : Addr) (cl : List (Str × Addr)) (fp : List Addr), SGw (X.blk s H scope (compEnvC scope cl C X.env) fp) ca (own.map (·.2)) tg g)
    (ht : ∀ (s : Shared) (H : Hp) (C : Addr) (cl : List (Str × Addr)) (fp : List Addr), STs (X.blk s H scope (compEnvC scope cl C X.env) fp) W0 ca ifs c)
    (he : ∀ (s : Shared) (H : Hp) (C : Addr) (cl : List (Str × Addr)) (fp : List Addr), SE (X.blk s H scope (compEnvC scope cl C X.env) fp) W0 ca elt el) (hs : ∀ x, foldedSetIterable iter X.env x = pure x := by intro _; rfl) :
    SE X W ca (.ListComp elt [⟨tg, iter, ifs, 0⟩] scope pos) (fLc (own.map (·.2)) fi g c el) :=
  se_of (pe_lc hc hN hi.pi ok (fun s H C cl fp => (hg s H C cl fp).pg) (fun s H C cl fp => (ht s H C cl fp).pts) (fun s H C cl fp => (he s H C cl fp).pe) hs) fun _ _ _ h => lc_read h
where
  lc_read {K : PySem.W.Frag} {vs : List Nat} {fi : FI} {g : FG} {c : FT} {el : FE} {σ : L2.St} {H : Hp} {Q : VK} (h : tE K W ca (fLc vs fi g c el) σ H Q) : tLc (tI K W ca fi) (tGw K ca vs g) (tT K W0 ca c) (tE K W0 ca el) vs σ H Q := by
    obtain ⟨A, Z, S, ρ, ok, sl, p⟩ := h
    refine ⟨A, Z, S, ρ, ok, sl, (Post.split p).imp fun B T I it gr q J hJ p0 hp => ?_⟩
    have hz : p0 ∉ Z := fun z => (gr.ok.hid p0 z).1.1 hp
    by_cases hlen : it.items.length < capN
    case neg => rw [if_neg hlen] at q; exact q.elim
    rw [if_pos hlen] at q
    obtain ⟨T1, U, g0, hl, q1⟩ := Post.lock gr.ok hJ.here (Post.split q)
    have sl1 : Sl K B (cut B Z T1 I) ρ σ := (sl.grow gr).mono g0.pre g0.ex
    -- what is left at the start
    have r0 : Rest K p0 Z B T1 (upd I p0 (.lst [])) [] (compD g c el it.items (wipeE ρ vs) T1) (Q (.ref p0)) := by
      cases e : compD g c el it.items (wipeE ρ vs) T1 with
      | bad => rw [e] at q1; exact q1.elim
      | err _ _ _ => rw [e] at q1; exact q1.elim
      | ok ys V =>
        rw [e] at q1
        intro C L ws gp hL rL
        have gz : Grow K Z B T1 I C V L := by
          refine ⟨gp.pre, gp.ok.show_, fun b o eb => cut_hide b o (gp.ex b o (cut_hidden hp b o eb)), fun b hb => ?_, gp.lk⟩
          rw [gp.hid b hb]
          exact upd_some (g0.ok.hid b hb).1.1 hp
        obtain ⟨z1, z2⟩ := q1 C L gz
        refine z2 C L (.refl z1.ok) _ (.lst (z1.ex _ _ (cut_shown gp.ok hL hz)) ?_)
        exact rL.mono (List.prefix_refl _) fun b o eb => z1.ex _ _ (cut_hide b o eb)
    -- a growth behind the start is one from the walk's beginning
    have back : ∀ {A' S' H'}, GrowP K p0 Z B T1 (upd I p0 (.lst [])) A' S' H' → GrowI K Z B T I (p0 :: Z) A' S' H' := fun {A' S' H'} gp =>
      ⟨gp.pre, gp.ok, fun b o eb => gp.ex b o (cut_hidden hp b o (g0.ex b o eb))⟩
    let Inv_ : Nat → Hp → Prop := fun i H' => ∃ A' S' ws acc, GrowP K p0 Z B T1 (upd I p0 (.lst [])) A' S' H' ∧ H' p0 = some (.lst ws) ∧ DRs A' (cut A' (p0 :: Z) S' H') K ws acc ∧ acc.length ≤ i ∧
      Rest K p0 Z A' S' H' acc (compD g c el (it.items.drop i) (wipeE ρ vs) S') (Q (.ref p0))
    refine ⟨fun i m H' => m = it.items.length - i ∧ i ≤ it.items.length ∧ Inv_ i H', ⟨it.items.length, rfl, Nat.zero_le _, B, T1, [], [], ⟨List.prefix_refl _, g0.ok.hide hp (fun q z => by unfold LamX.CodeO at z; cases z), fun _ _ e => e, fun _ _ => rfl, fun _ _ e => e⟩, upd_same, .nil, Nat.zero_le _, r0⟩, ?_⟩
    rintro i m H' ⟨rfl, hi, A', S', ws, acc, gp, hw, rw_, hacc, rest⟩
    have hat : ItAt it S' := fun j e => .inr (gp.lk j _ (hl j e))
    have g01 := back gp
    by_cases hlt : i < it.items.length
    · refine .inr ⟨hJ.go _ _ _ _ i g01 hat hlt, Inv_ (i + 1), fun H'' h => ⟨it.items.length - (i + 1), by omega, rfl, hlt, h⟩, fun x H'' hy => ?_⟩
      obtain ⟨g2, d, ed, rd⟩ := hJ.yld _ _ _ _ i x H'' g01 hat hy hlt
      rw [drop_at ed] at rest
      have gp2 := gp.trans (.of g2)
      have rest2 := rest.later (.of g2)
      have hw2 : H'' p0 = some (.lst ws) := by rw [g2.hid p0 List.mem_cons_self]; exact hw
      have slw : Sl K A' (cut A' (p0 :: Z) S' H'') (wipeE ρ vs) (L2.wipe σ vs) := (sl1.mono gp2.pre fun b o eb => gp2.ex b o (cut_hidden hp b o eb)).wipe vs
      refine ⟨A', p0 :: Z, S', wipeE ρ vs, d, g2.ok, slw, rd, (rest2.split (σ := L2.wipe σ vs)).imp fun C V L ρ1 g3 r3 σ2 sl2 hw3 => ⟨hw3.trans wipe_wipe, ?_⟩⟩
      refine ⟨C, p0 :: Z, V, ρ1, g3.ok, sl2, (r3.split (σ := σ2)).imp fun C2 V2 M b g4 r4 => ?_⟩
      have g23 := g3.trans g4
      cases b with
      | false =>
        refine iteF ⟨C2, V2, ws, acc, gp2.trans (.of g23), by rw [g23.hid p0 List.mem_cons_self]; exact hw2, (rw_.grow g2).grow g23, Nat.le_succ_of_le hacc, r4⟩
      | true =>
        refine iteT ⟨C2, p0 :: Z, V2, ρ1, g4.ok, sl2.grow g4, (r4.split (σ := σ2)).imp fun C3 V3 N y g5 r5 v rv => ?_⟩
        have g25 := g23.trans g5
        have hw5 : N p0 = some (.lst ws) := by rw [g25.hid p0 List.mem_cons_self]; exact hw2
        have rws := (rw_.grow g2).grow g25
        refine ⟨ws, hw5, by rw [rws.length]; exact capN_lt (by omega), C3, V3, ws ++ [v], acc ++ [y], (gp2.trans (.of g25)).trans (.turn g5.ok hz), upd_same, ?_, ?_, ?_⟩
        · rw [cut_turn]
          exact rws.append (.cons rv .nil)
        · simp only [List.length_append, List.length_cons, List.length_nil]
          omega
        · cases e5 : compD g c el (it.items.drop (i + 1)) (wipeE ρ vs) V3 with
          | ok ys V4 =>
            rw [e5] at r5
            intro C6 L6 ws6 gp6 h6 r6
            refine r5 C6 L6 ws6 ((GrowP.turn g5.ok hz).trans gp6) h6 ?_
            rw [List.append_assoc] at r6
            exact r6
          | err _ _ _ => rw [e5] at r5; exact r5.elim
          | bad => rw [e5] at r5; exact r5.elim
    · have ei : i = it.items.length := by omega
      subst ei
      refine .inl ⟨hJ.stop _ _ _ _ g01 hat, ?_⟩
      rw [List.drop_length] at rest
      exact rest A' H' ws ⟨List.prefix_refl _, gp.ok, fun _ _ e => e, fun _ _ => rfl, fun _ _ e => e⟩ hw (by rw [List.append_nil]; exact rw_)
end
end DL

set_option maxHeartbeats 2000000
namespace DL
open PySem PySem.Spec PyProof.Rows L2
/-! ### defs: called where no repr is under way -/
structure FnG (P : Program) (w : World) (K : PySem.W.Frag) (mg : Str → Option Value) (base : Heap) (k : Nat) (f : Addr) (fd : FuncData) (ps : List Str) (sp : Sp) : Prop where
  len : ∀ vs H Q E, sp vs H Q E → vs.length = ps.length
  run : ∀ (A : Around) (outer : List PySem.Env) (s : Shared) (H : Hp) (args : Args) (us : List Value) (vs : List V) (Q : VK) (E : XK), Room k A → A.guards = some [] → Env0 P w K mg base A outer s H → BindsTo s fd args (ps.zip us) → Vals vs us → sp vs H Q E →
    codeAny (model P w) A (.call (.ref f) args) (CR (L2.CX P w) outer P w H s Q E) s
section
variable {P : Program} {w : World} {K : PySem.W.Frag} {mg : Str → Option Value} {base : Heap}
theorem FnG.mono {j k : Nat} {f : Addr} {fd : FuncData} {ps : List Str} {sp : Sp} (F : FnG P w K mg base j f fd ps sp) (h : j ≤ k) : FnG P w K mg base k f fd ps sp :=
  ⟨F.len, fun A outer s H args us vs Q E hr => F.run A outer s H args us vs Q E (hr.mono h)⟩
theorem FnG.imp {k : Nat} {f : Addr} {fd : FuncData} {ps : List Str} {sp sp' : Sp} (F : FnG P w K mg base k f fd ps sp) (h : ∀ vs H Q E, sp' vs H Q E → sp vs H Q E) : FnG P w K mg base k f fd ps sp' :=
  ⟨fun vs H Q E q => F.len vs H Q E (h _ _ _ _ q), fun A outer s H args us vs Q E hr hg e0 b r q => F.run A outer s H args us vs Q E hr hg e0 b r (h _ _ _ _ q)⟩
/-- a def of the text, by its body -/
theorem fnG_of {x qual : Str} {st : Stmt} {f : Addr} {fd : FuncData} {N ps : List Str} {k : Nat} {sp : Sp} (F : Fun K x qual st f fd) (S : FnScope N ps (defScope st)) (hlen : ∀ vs H Q E, sp vs H Q E → vs.length = ps.length)
    (body : ∀ (cdv : Value) (A : Around) (outer : List PySem.Env) (s : Shared) (H : Hp) (vs : List V) (Q : VK) (E : XK), Room k (A.deeper (envOfC qual (defScope st) s.heap.objs.size f cdv)) → A.guards = some [] → sp vs H Q E →
      ∃ t, PSs (cxOf (L2.CX P w) P w K mg base N qual (defScope st) f cdv A outer s H E) (defBody st) t ∧ t { nx := fun _ H' => Q .non H', rt := Q } (L2.start N vs) H) : FnG P w K mg base (k + 1) f fd ps sp := by
  obtain ⟨oc, od, kV, doc, pm, an, cdv, ct, osl, rfl, hlk, hcode⟩ := F.ex
  constructor
  · exact hlen
  intro A outer s H args us vs Q E room gu at0 bnd rel q
  have n1 := hlen _ _ _ _ q
  have kin : K.In s.heap := at0.mod.kin.keeps (fun b o e => (at0.bs b o e).1)
  have nol : s.heap.NoLimit := at0.mod.nolimit.keeps (fun b o e => (at0.bs b o e).1)
  refine codeAny_call_function room.depth (kin _ _ hlk) rfl S.co S.gen rfl (PySem.W.codeRec_of kin hcode) (bnd _ _ _ _ ?_)
  refine wpAny_newFunctionEnv_cells S.kind ?_ ?_
  · rintro ⟨n, v⟩ hm
    rcases S.par n (List.of_mem_zip hm).1 with z | z
    · exact Or.inl z
    · exact Or.inr ⟨z, PySem.W.cellsFrom_some _ _ _ (Or.inl z)⟩
  · intro env he s1 inc
    subst he
    refine ⟨nol.keeps inc.toInCall.keep, codeAny_func ?_⟩
    obtain ⟨t, ht, hq⟩ := body cdv A outer s H vs Q E (room.deeper _) gu q
    refine wpAny_mono (ht.run [] s1 (L2.start N vs) H _ (inv_start S room.hd at0 n1 rel inc) hq) ?_ (fun _ _ z => z)
    intro fl s' hs
    cases fl with
    | ret u =>
      obtain ⟨v, σ', H', J, rv, z⟩ := hs
      exact ⟨v, H', J.os, J.bare, J.base, J.hok, rv, z⟩
    | next =>
      obtain ⟨σ', H', J, z⟩ := hs
      exact ⟨V.non, H', J.os, J.bare, J.base, J.hok, rfl, z⟩
    | brk => obtain ⟨_, _, _, z⟩ := hs; exact z.elim
    | cont => obtain ⟨_, _, _, z⟩ := hs; exact z.elim
/-- the callee runs -/
theorem run_G {X : Cx} {k : Nat} {f : Addr} {fd : FuncData} {ps : List Str} {sp : Sp} {W : WX} {pins : List (Addr × Obj)} {σ : L2.St} {H : Hp} {s : Shared} {Q : VK} {us : List Value} {vs : List V} (F : FnG X.prog X.w X.K X.mg X.base k f fd ps sp) (hr : Room k X.A) (hgu : X.A.guards = some [])
    (hb : L2.Binds X.K fd ps []) (tk : Takes X W) (I : Inv X pins σ H s) (r : Vals vs us) (h : sp vs H Q (fun c d H' => W c d σ H')) : wpAny (model X.prog X.w) X.A (call (.ref f) us) (EP X pins σ Q) X.xe s := by
  have n1 : us.length = ps.length := r.length.symm.trans (F.len _ _ _ _ h)
  have bd := hb s us I.kIn (by simpa using n1)
  simp only [List.append_nil] at bd
  refine wpAny_call (codeAny_mono (F.run X.A X.stack s H ⟨us, []⟩ us vs Q _ hr hgu I.env0 bd r h) ?_)
  intro fl s' z
  match fl, z with
  | .error e, z => exact tk e s' (XE.of_call I (fun _ _ _ h => h) z)
  | .ok (.ret u), z => exact I.after z
  | .ok .next, z => exact z.elim
  | .ok .brk, z => exact z.elim
  | .ok .cont, z => exact z.elim
end
/-- what a def promises: the data that g gives -/
def spD (K : PySem.W.Frag) (ca : Str → Addr) (n : Nat) (g : List D → Sto → Res D) : Sp := fun vs H Q E => ∃ A Z S ds, SOk K A Z S H ∧ DRs A (cut A Z S H) K vs ds ∧ ds.length = n ∧
  Post K (fun c d _ H' => E c d H') ca A Z S H [] (g ds S) fun B T I d => ∀ v, DR B (cut B Z T I) K v d → Q v I
/-- a def that stands in the module and keeps its promise -/
structure Def (P : Program) (w : World) (K : PySem.W.Frag) (mg : Str → Option Value) (base : Heap) (ca : Str → Addr) (x : Str) (ps : List Str) (k : Nat) (g : List D → Sto → Res D) : Prop where
  ex : ∃ f fd, mg x = some (.ref f) ∧ PySem.W.keepIn K (.ref f) = true ∧ L2.Binds K fd ps [] ∧ FnG P w K mg base k f fd ps (spD K ca ps.length g)
section
variable {P : Program} {w : World} {K : PySem.W.Frag} {mg : Str → Option Value} {base : Heap} {ca : Str → Addr} {x : Str} {ps : List Str}
theorem Def.mono {j k : Nat} {g : List D → Sto → Res D} (d : Def P w K mg base ca x ps j g) (h : j ≤ k) : Def P w K mg base ca x ps k g :=
  let ⟨f, fd, a, b, c, F⟩ := d.ex; ⟨f, fd, a, b, c, F.mono h⟩
/-- g' says the same where it says something -/
theorem Def.imp {k : Nat} {g g' : List D → Sto → Res D} (d : Def P w K mg base ca x ps k g) (h : ∀ ds S, g' ds S ≠ .bad → g ds S = g' ds S) : Def P w K mg base ca x ps k g' :=
  let ⟨f, fd, a, b, c, F⟩ := d.ex
  ⟨f, fd, a, b, c, F.imp fun vs H Q E ⟨A, Z, S, ds, h1, h2, h3, h4⟩ => ⟨A, Z, S, ds, h1, h2, h3, by
    have : g' ds S ≠ .bad := fun e => by rw [e] at h4; exact h4
    rw [h ds S this]
    exact h4⟩⟩
/-- what a body gives back -/
def bodyD (N : List Str) (n : Nat) (f : FS) (ds : List D) (S : Sto) : Res D := (f (ds.map some ++ List.replicate (N.length - n) none) S).bind fun r S1 => match r.1 with
  | .rt d => .ok d S1
  | .nx => .ok .non S1
  | _ => .bad
theorem start_sl {K : PySem.W.Frag} {A : List Addr} {G : Hp} {N : List Str} {vs : List V} {ds : List D} (r : DRs A G K vs ds) : Sl K A G (ds.map some ++ List.replicate (N.length - ds.length) none) (L2.start N vs) := by
  unfold L2.start
  have hl := r.length
  refine ⟨by simp [hl], fun i d e => ?_⟩
  by_cases hi : i < ds.length
  · rw [List.getElem?_append_left (by simpa using hi), List.getElem?_map] at e
    cases q : ds[i]? with
    | none => rw [q] at e; cases e
    | some d' =>
      rw [q] at e
      have : d' = d := by simpa using e
      subst this
      obtain ⟨v, h1, h2⟩ := r.get q
      refine ⟨v, ?_, h2⟩
      rw [List.getElem?_append_left (by simp [hl]; exact hi), List.getElem?_map, h1]
      rfl
  · rw [List.getElem?_append_right (by simpa using Nat.le_of_not_lt hi)] at e
    have := List.mem_of_getElem? e
    rw [List.mem_replicate] at this
    exact absurd this.2 (by simp)
abbrev WD (E : XK) : WX := fun c d _ H' => E c d H'
/-- THE RULE for a def -/
theorem fnG_D {qual : Str} {st : Stmt} {f : Addr} {fd : FuncData} {N : List Str} {k : Nat} {fs : FS} {g : List D → Sto → Res D} (F : Fun K x qual st f fd) (S : FnScope N ps (defScope st))
    (body : ∀ (cdv : Value) (A : Around) (outer : List PySem.Env) (s : Shared) (H : Hp) (E : XK), Room k (A.deeper (envOfC qual (defScope st) s.heap.objs.size f cdv)) → A.guards = some [] →
      Takes (cxOf (L2.CX P w) P w K mg base N qual (defScope st) f cdv A outer s H E) (WD E) →
      PassesOwn (model P w) (A.deeper (envOfC qual (defScope st) s.heap.objs.size f cdv)) (envOfC qual (defScope st) s.heap.objs.size f cdv) (cxOf (L2.CX P w) P w K mg base N qual (defScope st) f cdv A outer s H E).xe →
      SSs (cxOf (L2.CX P w) P w K mg base N qual (defScope st) f cdv A outer s H E) (WD E) ca (defBody st) fs)
    (hg : ∀ ds T, ds.length = ps.length → g ds T ≠ .bad → bodyD N ps.length fs ds T = g ds T) : FnG P w K mg base (k + 1) f fd ps (spD K ca ps.length g) := by
  refine fnG_of F S (fun vs H Q E ⟨A, Z, T, ds, h1, h2, h3, h4⟩ => h2.length.trans h3) ?_
  rintro cdv A outer s H vs Q E hr hgu ⟨B, Z, T, ds, ok, r, hl, po⟩
  refine ⟨_, (body cdv A outer s H E hr hgu (takes_of rfl rfl rfl rfl) (passes_of rfl)).pss, B, Z, T, ds.map some ++ List.replicate (N.length - ps.length) none, ok, by rw [← hl]; exact start_sl r, ?_⟩
  have e1 : g ds T ≠ .bad := fun e => by rw [e] at po; exact po
  rw [← hg ds T hl e1] at po
  unfold bodyD at po
  refine (Post.split (po.sig (L2.start N vs))).imp fun C U J r gr q => ?_
  obtain ⟨fl, ρ'⟩ := r
  cases fl with
  | nx => exact fun σ' sl' => q C J (.refl gr.ok) _ .non
  | rt d => exact fun v rv => q C J (.refl gr.ok) v rv
  | bk => exact q.elim
  | ct => exact q.elim
theorem def_of {qual : Str} {st : Stmt} {f : Addr} {fd : FuncData} {N : List Str} {k : Nat} {fs : FS} {g : List D → Sto → Res D} (hm : mg x = some (.ref f)) (F : Fun K x qual st f fd) (S : FnScope N ps (defScope st)) (hb : L2.Binds K fd ps [])
    (body : ∀ (cdv : Value) (A : Around) (outer : List PySem.Env) (s : Shared) (H : Hp) (E : XK), Room k (A.deeper (envOfC qual (defScope st) s.heap.objs.size f cdv)) → A.guards = some [] →
      Takes (cxOf (L2.CX P w) P w K mg base N qual (defScope st) f cdv A outer s H E) (WD E) →
      PassesOwn (model P w) (A.deeper (envOfC qual (defScope st) s.heap.objs.size f cdv)) (envOfC qual (defScope st) s.heap.objs.size f cdv) (cxOf (L2.CX P w) P w K mg base N qual (defScope st) f cdv A outer s H E).xe →
      SSs (cxOf (L2.CX P w) P w K mg base N qual (defScope st) f cdv A outer s H E) (WD E) ca (defBody st) fs)
    (hg : ∀ ds T, ds.length = ps.length → g ds T ≠ .bad → bodyD N ps.length fs ds T = g ds T) : Def P w K mg base ca x ps (k + 1) g := ⟨f, fd, hm, F.kp, hb, fnG_D F S body hg⟩
end
section
variable {X : Cx} {W : WX} {ca : Str → Addr} {e a b c : Expr} {es : List Expr} {pos : Pos}
def fCall (n : Nat) (g : List D → Sto → Res D) (f : FA) : FE := fun ρ S => (f ρ S).bind fun ds S1 => if ds.length = n then g ds S1 else .bad
theorem se_call {x : Str} {p : Pos} {ps : List Str} {k : Nat} {g : List D → Sto → Res D} {f : FA} (d : Def X.prog X.w X.K X.mg X.base ca x ps k g) (hr : Room k X.A) (hgu : X.A.guards = some []) (tk : Takes X W) (hg : Gl X x) (ha : SA X W ca (e :: es) f)
    (hdb : (x == ("__debug__" : Str)) = false := by decide) (he : starEach (e :: es) X.env = (false, eval e X.env) :: starEach es X.env := by rfl) (hpl : (backTo pos (starEach es X.env)).any (·.1) = false := by rfl) :
    SE X W ca (.Call (.Name x p) (e :: es) [] pos) (fCall ps.length g f) := by
  obtain ⟨fa, fd, hm, hk, hb, F⟩ := d.ex
  refine ⟨⟨fun pins s σ H Q I h => ?_⟩⟩
  obtain ⟨A, Z, S, ρ, ok, sl, po⟩ := h
  refine wpAny_Call_Name_kw (ld_glob I hg hm ?_ hdb)
  refine PySem.W.callWith_K (h₀ := X.base) I.ok.mod.kin hk (thn (ha.pa.run pos pins s σ H (fun vs I => ∃ B Z T ds, SOk X.K B Z T I ∧ DRs B (cut B Z T I) X.K vs ds ∧ ds.length = ps.length ∧ Post X.K W ca B Z T I σ (g ds T) fun C U J d => ∀ v, DR C (cut C Z U J) X.K v d → Q v J) I ?_) fun us s1 ⟨vs, H1, I1, r, q⟩ => ⟨I1.kIn, ?_⟩) he hpl
  · refine ⟨A, Z, S, ρ, ok, sl, (Post.split po).imp fun B T I ds gr q vs rv => ?_⟩
    by_cases hl : ds.length = ps.length
    · rw [if_pos hl] at q
      exact ⟨B, Z, T, ds, gr.ok, rv, hl, q⟩
    · rw [if_neg hl] at q
      exact q.elim
  · obtain ⟨B, Z, T, ds, ok1, r1, hl, q1⟩ := q
    refine run_G F hr hgu hb tk I1 r ⟨B, Z, T, ds, ok1, r1, hl, ?_⟩
    cases e1 : g ds T with
    | ok d U => rw [e1] at q1; exact q1
    | err cl d U =>
      rw [e1] at q1
      exact fun B' I' dx v _ g h1 h2 => q1 B' I' dx v σ g h1 h2
    | bad => rw [e1] at q1; exact q1.elim
def fCall0 (g : List D → Sto → Res D) : FE := fun _ S => g [] S
theorem se_call0 {x : Str} {p : Pos} {k : Nat} {g : List D → Sto → Res D} (d : Def X.prog X.w X.K X.mg X.base ca x [] k g) (hr : Room k X.A) (hgu : X.A.guards = some []) (tk : Takes X W) (hg : Gl X x)
    (hdb : (x == ("__debug__" : Str)) = false := by decide) : SE X W ca (.Call (.Name x p) [] [] pos) (fCall0 g) := by
  obtain ⟨fa, fd, hm, hk, hb, F⟩ := d.ex
  refine ⟨⟨fun pins s σ H Q I h => ?_⟩⟩
  obtain ⟨A, Z, S, ρ, ok, sl, po⟩ := h
  refine wpAny_Call_Name_kw (ld_glob I hg hm ?_ hdb)
  refine PySem.W.callWith_K0 I.kIn hk (run_G (us := []) F hr hgu hb tk I .nil ⟨A, Z, S, [], ok, .nil, rfl, ?_⟩)
  have q1 : Post X.K W ca A Z S H σ (g [] S) _ := po
  cases e1 : g [] S with
  | ok d U => rw [e1] at q1; exact q1
  | err cl d U =>
    rw [e1] at q1
    exact fun B' I' dx v _ g h1 h2 => q1 B' I' dx v σ g h1 h2
  | bad => rw [e1] at q1; exact q1.elim
/-! a < b < c -/
def fChain (r r' : Op2) (fa fb fc : FE) : FE := fun ρ S => (fa ρ S).bind fun x S1 => (fb ρ S1).bind fun y S2 => (asB (okO (r x y S2) S2)).bind fun k S3 => if k = true then (fc ρ S3).bind fun z S4 => okO (r' y z S4) S4 else .ok (.bl false) S3
theorem tE_chain {K : PySem.W.Frag} {r r' : Op2} {fa fb fc : FE} {σ : L2.St} {H : Hp} {Q : VK} (h : tE K W ca (fChain r r' fa fb fc) σ H Q) : tChain (rD K r) (rD K r') (tE K W ca fa) (tE K W ca fb) (tE K W ca fc) σ H Q := by
  obtain ⟨A, Z, S, ρ, ok, sl, p⟩ := h
  refine ⟨A, Z, S, ρ, ok, sl, (Post.split p).imp fun B T I x g q v rv => ?_⟩
  refine ⟨B, Z, T, ρ, g.ok, sl.grow g, (Post.split q).imp fun C U J y g2 q2 w rw_ => ?_⟩
  cases e : r x y U with
  | none => rw [e] at q2; exact q2.elim
  | some d =>
    rw [e] at q2
    simp only [okO_some] at q2
    refine ⟨C, Z, U, x, y, d, g2.ok, rv.grow g2, rw_, e, fun C2 J2 v2 g3 rd => ?_⟩
    cases d with
    | bl k =>
      cases rd
      refine ⟨k, rfl, ?_⟩
      cases k with
      | false => exact iteF (q2 C2 J2 g3 _ (.bl _))
      | true =>
        simp only [asB_ok, Res.bind_ok, if_true] at q2
        have q3 := Post.later q2 g3
        refine iteT ⟨C2, Z, U, ρ, g3.ok, ((sl.grow g).grow g2).grow g3, (Post.split q3).imp fun C3 U3 J3 z g4 q4 v4 r4 => ?_⟩
        cases e2 : r' y z U3 with
        | none => rw [e2] at q4; exact q4.elim
        | some d2 =>
          rw [e2] at q4
          exact ⟨C3, Z, U3, y, z, d2, g4.ok, (rw_.grow g3).grow g4, r4, e2, fun B I v g r => q4 B I g v r⟩
    | _ => exact q2.elim
theorem se_chain {op op' : CmpOp} {r r' : Op2} {fa fb fc : FE} (ho : OpR X (compareOp op) (rD X.K r)) (ho' : OpR X (compareOp op') (rD X.K r')) (ha : SE X W ca a fa) (hb : SE X W ca b fb) (hc : SE X W ca c fc)
    (hm : lastMarks [op, op'] [b, c] = false := by with_unfolding_all rfl) : SE X W ca (.Compare a [op, op'] [b, c] pos) (fChain r r' fa fb fc) := se_of (pe_chain ho ho' ha.pe hb.pe hc.pe hm) fun _ _ _ h => tE_chain h
theorem st_chain {op op' : CmpOp} {r r' : Op2} {fa fb fc : FE} (ho : OpR X (compareOp op) (rD X.K r)) (ho' : OpR X (compareOp op') (rD X.K r')) (ha : SE X W ca a fa) (hb : SE X W ca b fb) (hc : SE X W ca c fc)
    (hm : lastMarks [op, op'] [b, c] = false := by with_unfolding_all rfl) : ST_ X W ca (.Compare a [op, op'] [b, c] pos) (fB (fChain r r' fa fb fc)) :=
  ⟨pt_imp (pt_chain ho ho' ha.pe hb.pe hc.pe hm) fun σ H Q h => tE_chain (Q := fun x H' => ∃ k, x = .bl k ∧ Q k H') (tT_B h)⟩
/-! repr -/
def reprD : OpN := fun ds S => match ds with
  | [d] => match toP S d with
    | some p => if p.showable && decide (p.depth ≤ 64) && decide (p.shown.length ≤ capN) then some (.str p.shown) else none
    | none => none
  | _ => none
end
end DL

set_option maxHeartbeats 2000000
namespace DL
open PySem PySem.Spec PyProof.Rows L2
/-! ### repr -/
theorem cd_repr {X : Cx} (hgu : X.A.guards = some []) (hu : X.A.units + 65 < cLine) : CallR X (.builtin "repr") (rDs X.K reprD) := by
  intro pins s σ H vs us Q I r ⟨A, Z, S, ds, d, ok, h, e, q⟩
  unfold reprD at e
  split at e
  · rename_i d0
    cases e1 : toP S d0 with
    | none => rw [e1] at e; cases e
    | some p =>
      rw [e1] at e
      simp only at e
      split at e
      · rename_i hc
        cases e
        simp only [Bool.and_eq_true, decide_eq_true_eq] at hc
        obtain ⟨⟨c1, c2⟩, c3⟩ := hc
        cases h with
        | cons h1 h2 =>
          cases h2
          obtain ⟨u, rfl, ru⟩ : ∃ u, us = [u] ∧ RelV _ u := by
            cases r with
            | cons r1 r2 => cases r2; exact ⟨_, rfl, r1⟩
          have dp := toP_at ok h1 e1
          have fin : EP X pins σ Q (.str p.shown s.toks) { s with toks := s.toks + 1 } := ⟨.str p.shown, H, I.tok _, ⟨_, rfl⟩, q A H _ (.refl ok) (.str _)⟩
          obtain ⟨as, rd⟩ := Dp.reads I p _ u dp ru
          cases rd with
          | none => exact PySem.P.repr_of_none fin
          | bool b => exact PySem.P.repr_of_bool fin
          | int i t => exact PySem.P.repr_of_int (by simpa [PyData.showable] using c1) fin
          | str x t => exact PySem.P.repr_of_str fin (capN_le c3)
          | @list a _ _ _ _ _ k1 k2 k3 k4 =>
            exact repr_of_reads' (Reads.list k1 k2 k3 k4) c1 (fun hd => by
              have nd : ∀ {p : PyData} {v : V}, Dp X.K H v p → p.hasDict = false := fun {p v} z => dp_nodict z
              rw [nd dp] at hd; cases hd) hgu (by omega) (fun _ _ e => e) (fun h' u tk hk => ⟨.str _, H, I.kept hk, ⟨_, rfl⟩, q A H _ (.refl ok) (.str _)⟩) (capN_le c3)
          | @tuple a _ _ _ _ _ k1 k2 k3 k4 =>
            exact repr_of_reads' (Reads.tuple k1 k2 k3 k4) c1 (fun hd => by
              have nd : ∀ {p : PyData} {v : V}, Dp X.K H v p → p.hasDict = false := fun {p v} z => dp_nodict z
              rw [nd dp] at hd; cases hd) hgu (by omega) (fun _ _ e => e) (fun h' u tk hk => ⟨.str _, H, I.kept hk, ⟨_, rfl⟩, q A H _ (.refl ok) (.str _)⟩) (capN_le c3)
          | dict => cases dp
      · cases e
  · cases e
where
  dp_nodict {K : PySem.W.Frag} {H : Hp} : ∀ {p : PyData} {v : V}, Dp K H v p → p.hasDict = false := by
    intro p
    exact nd1 p
  nd1 {K : PySem.W.Frag} {H : Hp} : ∀ (p : PyData) {v : V}, Dp K H v p → p.hasDict = false
    | .none, _, _ => rfl
    | .bool _, _, _ => rfl
    | .int _, _, _ => rfl
    | .str _, _, _ => rfl
    | .list xs, _, h => by
      cases h with
      | lst _ h2 => simp only [PyData.hasDict]; exact nd2 xs h2
    | .tuple xs, _, h => by
      cases h with
      | tup _ h2 => simp only [PyData.hasDict]; exact nd2 xs h2
    | .dict _, _, h => by cases h
  nd2 {K : PySem.W.Frag} {H : Hp} : ∀ (ps : List PyData) {vs : List V}, DpAll K H vs ps → PyData.hasDictAll ps = false
    | [], _, _ => rfl
    | p :: ps, _, h => by
      cases h with
      | cons h1 h2 => simp only [PyData.hasDictAll, Bool.or_eq_false_iff]; exact ⟨nd1 p h1, nd2 ps h2⟩
section
variable {X : Cx} {W : WX} {ca : Str → Addr} {e a b c : Expr} {es : List Expr} {pos : Pos}
/-! x.bit_length(), str(int) -/
def fBits (f : FE) : FE := fun ρ S => (f ρ S).bind fun d S1 => match d with
  | .int i => .ok (.int (Builtin.Int.intBits i : Nat)) S1
  | _ => .bad
theorem se_bits {o : Expr} {apos : Pos} {f : FE} (ho : SE X W ca o f) (hbase : attributeBase o "bit_length" X.env (eval o X.env) = eval o X.env := by rfl) (hline : (apos.endLine == pos.line) = true := by rfl) : SE X W ca (.Call (.Attribute o "bit_length" apos) [] [] pos) (fBits f) := by
  refine se_of (pe_bits ho.pe hbase hline) fun σ H Q ⟨A, Z, S, ρ, ok, sl, p⟩ => ?_
  refine ⟨A, Z, S, ρ, ok, sl, (Post.split p).imp fun B T I d gr q v rv => ?_⟩
  cases d with
  | int i =>
    cases rv
    exact ⟨i, rfl, q B I (.refl gr.ok) _ (.int _)⟩
  | _ => exact q.elim
def strD : OpN := fun ds _ => match ds with
  | [.int i] => if decide (i.natAbs.log2 < 1920) then some (.str (toString i)) else none
  | _ => none
theorem cd_str : CallR X (.type "str") (rDs X.K strD) := by
  intro pins s σ H vs us Q I r ⟨A, Z, S, ds, d, ok, h, e, q⟩
  unfold strD at e
  split at e
  · split at e
    · rename_i hc
      cases e
      cases h with
      | cons h1 h2 =>
        cases h1; cases h2
        exact call_str_int pins s σ H _ us Q I r ⟨_, rfl, of_decide_eq_true hc, q A H _ (.refl ok) (.str _)⟩
    · cases e
  · cases e
/-! max of a tuple of ints -/
theorem drs_ints {A : List Addr} {G : Hp} {K : PySem.W.Frag} : ∀ (ns : List Int), DRs A G K (ns.map V.int) (ns.map D.int)
  | [] => .nil
  | n :: ns => .cons (.int n) (drs_ints ns)
theorem dpAll_ints {K : PySem.W.Frag} {H : Hp} : ∀ (ns : List Int), DpAll K H (ns.map V.int) (ns.map PyData.int)
  | [] => .nil
  | n :: ns => .cons (.int n) (dpAll_ints ns)
theorem ints_map : ∀ {ds : List D} {ns : List Int}, intsOf ds = some ns → ds = ns.map D.int
  | [], ns, h => by cases h; rfl
  | .int i :: ds, ns, h => by
    unfold intsOf at h
    cases e : intsOf ds with
    | none => rw [e] at h; cases h
    | some ms =>
      rw [e] at h
      cases h
      rw [ints_map e]
      rfl
  | .non :: _, _, h => by cases h
  | .bl _ :: _, _, h => by cases h
  | .str _ :: _, _, h => by cases h
  | .lst _ :: _, _, h => by cases h
  | .kls _ :: _, _, h => by cases h
  | .tup _ :: _, _, h => by cases h
  | .dct _ :: _, _, h => by cases h
  | .cel _ :: _, _, h => by cases h
  | .fn _ :: _, _, h => by cases h
/-- max, also of a tuple -/
def maxT : OpN := fun ds S => match ds with
  | [.tup xs] => match intsOf xs with
    | some (n :: ns) => some (.int (ns.foldl max n))
    | _ => none
  | ds => maxD ds S
theorem depth_ints0 : ∀ ns : List Int, PyData.depthAll (ns.map PyData.int) = 0
  | [] => rfl
  | n :: ns => by
    simp only [List.map_cons, PyData.depthAll, PyData.depth, depth_ints0 ns]
    rfl
theorem reads_ints {h : Heap} : ∀ {us : List Value} {ns : List Int}, Vals (ns.map V.int) us → ∃ as, ReadsAll h us (ns.map PyData.int) as
  | _, [], r => by cases r; exact ⟨_, .nil⟩
  | _, n :: ns, r => by
    cases r with
    | cons r1 r2 =>
      obtain ⟨t, rfl⟩ := r1
      obtain ⟨as, q⟩ := reads_ints r2
      exact ⟨_, .cons (.int n t) q⟩
theorem cd_maxT (hc : X.calm = true) (hu : X.A.units + 1 < cLine) : CallR X (.builtin "max") (rDs X.K maxT) := by
  intro pins s σ H vs us Q I r ⟨A, Z, S, ds, d, ok, h, e, q⟩
  unfold maxT at e
  split at e
  · rename_i xs
    split at e
    · rename_i n ns e1
      cases e
      cases h with
      | cons h1 h2 =>
        cases h2
        obtain ⟨a, ws, rfl, k1, k2⟩ := tup_at h1
        have ew := intsOf_map e1 k2
        subst ew
        rw [Vals.ref1 r]
        obtain ⟨its, rv, ht, _⟩ := I.tuple k1
        obtain ⟨as, ra⟩ := reads_ints (h := s.heap) rv
        refine PySem.W.max_tuple_data (A := X.A) (vs := its.toArray) (x := .int n) (xs := ns.map PyData.int) (I.ok.hd hc) ht (by simpa using ra) ⟨?_, ?_⟩ ?_ ?_
        · intro x hx y hy
          simp only [List.mem_cons, List.mem_map] at hx hy
          obtain ⟨i, rfl⟩ : ∃ i, x = .int i := by rcases hx with rfl | ⟨i, _, rfl⟩ <;> exact ⟨_, rfl⟩
          obtain ⟨j, rfl⟩ : ∃ j, y = .int j := by rcases hy with rfl | ⟨j, _, rfl⟩ <;> exact ⟨_, rfl⟩
          rfl
        · intro x hx e
          subst e
          simp at hx
        · have := depth_ints0 (n :: ns)
          simp only [List.map_cons] at this
          rw [this]
          exact hu
        · intro i v h' tk bs hi hr hk
          rw [PySem.W.maxD_ints] at hr
          cases hr with
          | int _ t => exact ⟨.int _, H, I.kept hk, ⟨_, rfl⟩, q A H _ (.refl ok) (.int _)⟩
    · cases e
  · exact cd_max hc pins s σ H vs us Q I r ⟨A, Z, S, ds, d, ok, h, e, q⟩
/-! sorted: of ints -/
def insI (x : Int) : List Int → List Int
  | [] => [x]
  | y :: r => if x ≤ y then x :: y :: r else y :: insI x r
def sortI : List Int → List Int
  | [] => []
  | x :: r => insI x (sortI r)
theorem insI_perm (x : Int) : ∀ l, (insI x l).Perm (x :: l)
  | [] => .refl _
  | y :: r => by
    unfold insI
    split
    · exact .refl _
    · exact ((insI_perm x r).cons y).trans (.swap _ _ _)
theorem sortI_perm : ∀ l, (sortI l).Perm l
  | [] => .refl _
  | x :: r => (insI_perm x _).trans ((sortI_perm r).cons x)
theorem insI_ord (x : Int) : ∀ {l : List Int}, l.Pairwise (· ≤ ·) → (insI x l).Pairwise (· ≤ ·)
  | [], _ => List.pairwise_singleton _ _
  | y :: r, h => by
    unfold insI
    rw [List.pairwise_cons] at h
    split
    · rename_i c
      refine List.pairwise_cons.mpr ⟨fun z hz => ?_, List.pairwise_cons.mpr h⟩
      rcases List.mem_cons.mp hz with rfl | hz
      · exact c
      · exact Int.le_trans c (h.1 z hz)
    · rename_i c
      refine List.pairwise_cons.mpr ⟨fun z hz => ?_, insI_ord x h.2⟩
      rcases List.mem_cons.mp ((insI_perm x r).mem_iff.mp hz) with rfl | hz
      · omega
      · exact h.1 z hz
theorem sortI_ord : ∀ l, (sortI l).Pairwise (· ≤ ·)
  | [] => List.Pairwise.nil
  | x :: r => insI_ord x (sortI_ord r)
theorem ord_one {l m : List Int} (p : l.Perm m) (h1 : l.Pairwise (· ≤ ·)) (h2 : m.Pairwise (· ≤ ·)) : l = m := p.eq_of_pairwise (fun a b _ _ h1 h2 => Int.le_antisymm h1 h2) h1 h2
end
end DL

set_option maxHeartbeats 2000000
namespace DL
open PySem PySem.Spec PyProof.Rows L2
/-- a pair of a score and something, over a heap -/
def Keyed2 (h : Heap) (v : Value) (k : Int × Int) (p : PyData) : Prop := ∃ (a : Addr) (o : Obj) (b : Addr) (r : Value) (n : Nat) (t u : Tok) (as : List Addr), v = .ref a ∧ h.get? a = some o ∧ o.cls = .type "tuple" ∧ o.data = .seq #[.ref b, r] n ∧
  IsTup h b #[.int k.1 t, .int k.2 u] ∧ Reads h r p as ∧ SeqAt.shaped p = true
theorem Keyed2.keeps {h h' : Heap} {v : Value} {k : Int × Int} {p : PyData} (x : Keyed2 h v k p) (e : ∀ b o, h.get? b = some o → h'.get? b = some o) : Keyed2 h' v k p := by
  obtain ⟨a, o, b, r, n, t, u, as, h1, h2, h3, h4, ⟨ob, k1, k2, k3⟩, h6, h7⟩ := x
  exact ⟨a, o, b, r, n, t, u, as, h1, e _ _ h2, h3, h4, ⟨ob, e _ _ k1, k2, k3⟩, PyProof.Rows.Reads.keeps e h6, h7⟩
section
variable {prog : Program} {w : World} {A : Around} {s : Shared}
theorem eqAt_scores {a b : Addr} {k m : Int × Int} {t u t' u' : Tok} (h1 : IsTup s.heap a #[.int k.1 t, .int k.2 u]) (h2 : IsTup s.heap b #[.int m.1 t', .int m.2 u']) (hu : A.units + 64 < cLine) :
    SeqAt.EqAt A s (.ref a) (.ref b) (decide (k = m)) := by
  obtain ⟨oa, e1, e2, na, e3⟩ := h1
  obtain ⟨ob, f1, f2, nb, f3⟩ := h2
  have r1 : Reads s.heap (.ref a) (.tuple [.int k.1, .int k.2]) _ := .tuple e1 e2 e3 (.cons (.int k.1 t) (.cons (.int k.2 u) .nil))
  have r2 : Reads s.heap (.ref b) (.tuple [.int m.1, .int m.2]) _ := .tuple f1 f2 f3 (.cons (.int m.1 t') (.cons (.int m.2 u') .nil))
  have q := SeqAt.eqAt_reads _ _ A s _ _ _ _ r1 r2 (by rfl) (by rfl) (by
    have d : (PyData.tuple [.int k.1, .int k.2]).depth ≤ 64 := by simp [PyData.depth, PyData.depthAll]
    have := Nat.min_le_left (PyData.tuple [.int k.1, .int k.2]).depth (PyData.tuple [.int m.1, .int m.2]).depth
    omega)
  have z : PyData.eqv (.tuple [.int k.1, .int k.2]) (.tuple [.int m.1, .int m.2]) = decide (k = m) := by
    obtain ⟨x, y⟩ := k
    obtain ⟨x', y'⟩ := m
    simp only [PyData.eqv, PyData.eqvAll, Bool.and_true]
    by_cases e1 : x = x' <;> by_cases e2 : y = y' <;> simp [e1, e2]
  rw [← z]
  exact q
theorem lexLt_two (k m : Int × Int) (h : k ≠ m) : HT.lexLt [k.1, k.2] [m.1, m.2] = SrtO.lexB k m := by
  obtain ⟨x, y⟩ := k
  obtain ⟨x', y'⟩ := m
  unfold SrtO.lexB
  simp only [HT.lexLt]
  by_cases e1 : x = x'
  · subst e1
    have e2 : ¬ y = y' := fun z => h (by rw [z])
    simp [e2]
  · simp [e1]
theorem keyed_cmp {v1 v2 : Value} {k m : Int × Int} {p r : PyData} (h1 : Keyed2 s.heap v1 k p) (h2 : Keyed2 s.heap v2 m r) (hu : A.units + 64 < cLine) (hne : v1 = v2 ∨ k ≠ m) :
    wpAny (model prog w) A (keyLt' (tuples' false) v1 v2) (fun b s' => s' = s ∧ b = (if v1 = v2 then false else SrtO.lexB k m)) (fun _ _ => False) s := by
  obtain ⟨a, o, b, z, n, t, u, as, e1, e2, e3, e4, e5, e6, e7⟩ := h1
  obtain ⟨a', o', b', z', n', t', u', as', f1, f2, f3, f4, f5, f6, f7⟩ := h2
  subst e1 f1
  refine PySem.W.kat_lt e2 e4 f2 f4 ?_
  show PySem.W.KatLex prog w A false (decide (2 < 2)) _ [(.ref b, .ref b'), (z, z')] 0 s
  by_cases hv : (Value.ref a) = .ref a'
  · cases hv
    rw [e2] at f2
    cases f2
    rw [e4] at f4
    cases f4
    refine PySem.W.kat_cons (eqAt_scores e5 f5 hu prog w _ _ ?_)
    have km : k = m := by
      obtain ⟨oa, g1, g2, na, g3⟩ := e5
      obtain ⟨ob, i1, i2, nb, i3⟩ := f5
      rw [g1] at i1
      cases i1
      rw [g3] at i3
      simp only [Data.seq.injEq, List.cons.injEq, Array.mk.injEq, Value.int.injEq, and_true] at i3
      exact Prod.ext i3.1.1.1 i3.1.2.1
    rw [decide_eq_true km]
    refine PySem.W.kat_yes (PySem.W.kat_cons (SeqAt.eqAt_reads _ _ A s _ _ _ _ e6 e6 (SeqAt.canLay_of_shaped e7) (SeqAt.canLay_of_shaped e7) (SeqAt.room_of_shaped e7 hu) prog w _ _ ?_))
    rw [SeqAt.eqv_refl p (SeqAt.canLay_of_shaped e7)]
    refine PySem.W.kat_yes (PySem.W.kat_nil ⟨rfl, ?_⟩)
    rw [if_pos rfl]
    rfl
  · have km : k ≠ m := hne.resolve_left hv
    refine PySem.W.kat_cons (eqAt_scores e5 f5 hu prog w _ _ ?_)
    rw [decide_eq_false km]
    refine PySem.W.kat_no (PySem.W.kat_one _ _ (HT.lt_tupInts (ns := [k.1, k.2]) (ms := [m.1, m.2]) e5 f5 (.cons _ _ (.cons _ _ .nil)) (.cons _ _ (.cons _ _ .nil)) (by omega) ?_))
    rw [lexLt_two k m km, if_neg hv]
    exact ⟨rfl, rfl⟩
theorem keyed_uniq {v : Value} {k m : Int × Int} {p r : PyData} {h : Heap} (h1 : Keyed2 h v k p) (h2 : Keyed2 h v m r) : k = m := by
  obtain ⟨a, o, b, z, n, t, u, as, e1, e2, e3, e4, e5, e6, e7⟩ := h1
  obtain ⟨a', o', b', z', n', t', u', as', f1, f2, f3, f4, f5, f6, f7⟩ := h2
  subst e1
  cases f1
  rw [e2] at f2
  cases f2
  rw [e4] at f4
  cases f4
  obtain ⟨oa, g1, g2, na, g3⟩ := e5
  obtain ⟨ob, i1, i2, nb, i3⟩ := f5
  rw [g1] at i1
  cases i1
  rw [g3] at i3
  simp only [Data.seq.injEq, List.cons.injEq, Array.mk.injEq, Value.int.injEq, and_true] at i3
  exact Prod.ext i3.1.1.1 i3.1.2.1
open Classical in
noncomputable def kfv (h : Heap) (v : Value) : Int × Int := if q : ∃ m p, Keyed2 h v m p then q.choose else (0, 0)
theorem kfv_at {h : Heap} {v : Value} {m : Int × Int} {p : PyData} (q : Keyed2 h v m p) : kfv h v = m := by
  unfold kfv
  rw [dif_pos ⟨m, p, q⟩]
  have e : ∃ m p, Keyed2 h v m p := ⟨m, p, q⟩
  obtain ⟨r, hr⟩ := e.choose_spec
  exact keyed_uniq hr q
theorem firsts_keyed {h : Heap} {k : Value → Int × Int} : ∀ {vs : List Value}, (∀ v ∈ vs, ∃ p, Keyed2 h v (k v) p) → ∃ fs, PySem.W.KatTups h vs fs ∧ fs.length = vs.length ∧ ∀ f ∈ fs, ∃ b o, f = .ref b ∧ h.get? b = some o ∧ o.cls = .type "tuple"
  | [], _ => ⟨[], PySem.W.KatTups.nil, rfl, fun _ m => by cases m⟩
  | v :: vs, q => by
    obtain ⟨fs, h1, h2, h3⟩ := firsts_keyed fun u m => q u (List.mem_cons_of_mem _ m)
    obtain ⟨p, a, o, b, r, n, t, u, as, rfl, e2, e3, e4, ⟨ob, k1, k2, k3⟩, e6, e7⟩ := q v List.mem_cons_self
    refine ⟨.ref b :: fs, PySem.W.KatTups.cons e2 e3 e4 (by rfl) h1, by rw [List.length_cons, List.length_cons, h2], fun f m => ?_⟩
    rcases List.mem_cons.mp m with rfl | m
    · exact ⟨b, ob, rfl, k1, k2⟩
    · exact h3 f m
theorem keyed_sortable {a : Addr} {vs : List Value} {k : Value → Int × Int} {h0 : Heap} (hn : 0 < vs.length) (hp : ∀ v ∈ vs, ∃ p, Keyed2 h0 v (k v) p) (hu : A.units + 64 < cLine) (hd : ∀ v ∈ vs, ∀ u ∈ vs, v = u ∨ k v ≠ k u)
    (kk : ∀ b o, h0.get? b = some o → b ≠ a ∧ s.heap.get? b = some o) : SrtO.SortableO prog w A s a vs fun v u => SrtO.lexB (k v) (k u) := by
  intro h' keep
  have kp : ∀ b o, h0.get? b = some o → h'.get? b = some o := fun b o e => keep b o (kk b o e).1 (kk b o e).2
  have hp' : ∀ v ∈ vs, ∃ p, Keyed2 h' v (k v) p := fun v m => let ⟨p, q⟩ := hp v m; ⟨p, q.keeps kp⟩
  obtain ⟨fs, h1, h2, h3⟩ := firsts_keyed hp'
  refine ⟨tuples' false, fun Q E hq => ?_, ?_⟩
  · refine PySem.W.kat_kind (T := .type "tuple") h1 (by omega) (fun f hm => ?_) (by rfl) ?_
    · obtain ⟨b, o, rfl, e1, e2⟩ := h3 f hm
      exact e2 ▸ (PySem.W.Looks.ld e1).andThen .now
    · have e : (Value.type "tuple" != Value.type "tuple") = false := by first | decide +kernel | rfl | decide
      rw [e]
      exact hq
  · intro p q hm hm'
    obtain ⟨d1, q1⟩ := hp' _ hm
    obtain ⟨d2, q2⟩ := hp' _ hm'
    refine wpAny_mono (keyed_cmp (s := { s with heap := h' }) q1 q2 hu (hd _ hm _ hm')) ?_ fun _ _ e => e
    rintro b s' ⟨rfl, rfl⟩
    refine ⟨rfl, ?_⟩
    show _ = SrtO.lexB (k p.1) (k q.1)
    split
    · rename_i e
      rw [e]
      exact ((swo_lexK k).refl q.1).symm
    · rfl
where
  swo_lexK (k : Value → Int × Int) : SrtO.Swo fun v u => SrtO.lexB (k v) (k u) := SrtO.swo_lex k
end
/-! insertion by keys -/
def insBy {α : Type} (k : α → Int × Int) (x : α) : List α → List α
  | [] => [x]
  | y :: r => if SrtO.lexB (k y) (k x) then y :: insBy k x r else x :: y :: r
def sortBy {α : Type} (k : α → Int × Int) : List α → List α
  | [] => []
  | x :: r => insBy k x (sortBy k r)
theorem insBy_perm {α : Type} (k : α → Int × Int) (x : α) : ∀ l, (insBy k x l).Perm (x :: l)
  | [] => .refl _
  | y :: r => by
    unfold insBy
    split
    · exact ((insBy_perm k x r).cons y).trans (.swap _ _ _)
    · exact .refl _
theorem sortBy_perm {α : Type} (k : α → Int × Int) : ∀ l, (sortBy k l).Perm l
  | [] => .refl _
  | x :: r => (insBy_perm k x _).trans ((sortBy_perm k r).cons x)
theorem insBy_ord {α : Type} (k : α → Int × Int) (x : α) : ∀ {l : List α}, l.Pairwise (fun a b => SrtO.lexB (k b) (k a) = false) → (insBy k x l).Pairwise (fun a b => SrtO.lexB (k b) (k a) = false)
  | [], _ => List.pairwise_singleton _ _
  | y :: r, h => by
    have h' := List.pairwise_cons.mp h
    unfold insBy
    split
    · rename_i c
      refine List.pairwise_cons.mpr ⟨fun z hz => ?_, insBy_ord k x h'.2⟩
      rcases List.mem_cons.mp ((insBy_perm k x r).mem_iff.mp hz) with rfl | hz
      · have a := SrtO.lexB_iff.mp c
        refine SrtO.lexB_no.mpr ?_
        omega
      · exact h'.1 z hz
    · rename_i c
      have c := SrtO.lexB_no.mp (Bool.not_eq_true _ ▸ c)
      refine List.pairwise_cons.mpr ⟨fun z hz => ?_, h⟩
      rcases List.mem_cons.mp hz with rfl | hz
      · exact SrtO.lexB_no.mpr c
      · have b := SrtO.lexB_no.mp (h'.1 z hz)
        refine SrtO.lexB_no.mpr ?_
        omega
theorem sortBy_ord {α : Type} (k : α → Int × Int) : ∀ l : List α, (sortBy k l).Pairwise (fun a b => SrtO.lexB (k b) (k a) = false)
  | [] => List.Pairwise.nil
  | x :: r => insBy_ord k x (sortBy_ord k r)
theorem insBy_map {α β : Type} (f : α → β) (k : β → Int × Int) (x : α) : ∀ l, (insBy (fun a => k (f a)) x l).map f = insBy k (f x) (l.map f)
  | [] => rfl
  | y :: r => by
    unfold insBy
    rw [List.map_cons]
    simp only
    split
    · rw [List.map_cons, insBy_map f k x r]
    · rfl
theorem sortBy_map {α β : Type} (f : α → β) (k : β → Int × Int) : ∀ l, (sortBy (fun a => k (f a)) l).map f = sortBy k (l.map f)
  | [] => rfl
  | x :: r => by
    show (insBy _ x (sortBy _ r)).map f = insBy k (f x) (sortBy k (r.map f))
    rw [insBy_map, sortBy_map f k r]
/-! sorted: ints, or pairs of a score and something, the scores all unlike -/
def keyD : D → Int × Int
  | .tup [.tup [.int a, .int b], _] => (a, b)
  | _ => (0, 0)
def keyedOk (S : Sto) : D → Bool
  | .tup [.tup [.int _, .int _], y] => match toP S y with
    | some p => SeqAt.shaped p
    | none => false
  | _ => false
def sortedD : OpN := fun ds S => match ds with
  | [d] => match seqOf S d with
    | some xs => match intsOf xs with
      | some ns => some (.lst ((sortI ns).map .int))
      | none => if xs.all (keyedOk S) && decide ((xs.map keyD).Nodup) then some (.lst (sortBy keyD xs)) else none
    | none => none
  | _ => none
/-- the three sights of the items -/
def Trip (h : Heap) (A : List Addr) (G : Hp) (K : PySem.W.Frag) (t : Value × V × D) : Prop := RelV t.2.1 t.1 ∧ DR A G K t.2.1 t.2.2 ∧ kfv h t.1 = keyD t.2.2 ∧ ∃ p, Keyed2 h t.1 (kfv h t.1) p
theorem trips {h : Heap} {A : List Addr} {G : Hp} {K : PySem.W.Frag} : ∀ {us : List Value} {vs : List V} {ds : List D}, Vals vs us → DRs A G K vs ds → (∀ v d u, RelV v u → DR A G K v d → d ∈ ds → ∃ p, Keyed2 h u (keyD d) p) →
    ∃ T : List (Value × V × D), T.map (·.1) = us ∧ T.map (·.2.1) = vs ∧ T.map (·.2.2) = ds ∧ ∀ t ∈ T, Trip h A G K t
  | _, _, [], r, q, _ => by
    cases q; cases r
    exact ⟨[], rfl, rfl, rfl, fun _ m => by cases m⟩
  | _, _, d :: ds, r, q, f => by
    cases q with
    | cons q1 q2 =>
      cases r with
      | cons r1 r2 =>
        obtain ⟨T, h1, h2, h3, h4⟩ := trips r2 q2 fun v e u a b m => f v e u a b (List.mem_cons_of_mem _ m)
        obtain ⟨p, kd⟩ := f _ _ _ r1 q1 List.mem_cons_self
        refine ⟨(_, _, d) :: T, by rw [List.map_cons, h1], by rw [List.map_cons, h2], by rw [List.map_cons, h3], fun t m => ?_⟩
        rcases List.mem_cons.mp m with rfl | m
        · have e := kfv_at kd
          exact ⟨r1, q1, e, p, by rw [e]; exact kd⟩
        · exact h4 t m
theorem trip_vals {h : Heap} {A : List Addr} {G : Hp} {K : PySem.W.Frag} : ∀ {T : List (Value × V × D)}, (∀ t ∈ T, Trip h A G K t) → Vals (T.map (·.2.1)) (T.map (·.1)) ∧ DRs A G K (T.map (·.2.1)) (T.map (·.2.2))
  | [], _ => ⟨.nil, .nil⟩
  | t :: T, q => by
    have ⟨a, b⟩ := trip_vals fun u m => q u (List.mem_cons_of_mem _ m)
    have c := q t List.mem_cons_self
    exact ⟨.cons c.1 a, .cons c.2.1 b⟩
theorem nodup_pick {α β : Type} (f : α → β) : ∀ {l : List α}, (l.map f).Nodup → ∀ {a b : α}, a ∈ l → b ∈ l → f a = f b → a = b
  | [], _, a, b, h, _, _ => by cases h
  | x :: l, hn, a, b, ha, hb, e => by
    have hn := List.nodup_cons.mp (List.map_cons ▸ hn)
    rcases List.mem_cons.mp ha with ha | ha <;> rcases List.mem_cons.mp hb with hb | hb
    · rw [ha, hb]
    · exact absurd (List.mem_map.mpr ⟨b, hb, by rw [← e, ha]⟩) hn.1
    · exact absurd (List.mem_map.mpr ⟨a, ha, by rw [e, hb]⟩) hn.1
    · exact nodup_pick f hn.2 ha hb e
theorem cd_sorted {X : Cx} (hu : X.A.units + 66 < cLine) : CallR X (.builtin "sorted") (rDs X.K sortedD) := by
  intro pins s σ H vs us Q I r ⟨A, Z, S, ds, d, ok, h, e, q⟩
  unfold sortedD at e
  split at e
  · rename_i d0
    cases h with
    | cons h1 h2 =>
      cases h2
      split at e
      · rename_i xs e1
        obtain ⟨a, ws, rfl, k1, k2⟩ := seqOf_at ok h1 e1
        split at e
        · rename_i ns e2
          cases e
          have ew := intsOf_map e2 k2
          subst ew
          refine cr_sortedI pins s σ H _ us Q I r ⟨a, ns, rfl, k1, fun ns' p hp ho hn => ?_⟩
          have en : ns' = sortI ns := ord_one (hp.trans (sortI_perm ns).symm) ho (sortI_ord ns)
          subst en
          exact q A _ _ (.new ok hn) (new_lst ok hn (drs_ints _))
        · split at e
          · rename_i c
            cases e
            rw [Bool.and_eq_true, List.all_eq_true, decide_eq_true_eq] at c
            obtain ⟨c1, c2⟩ := c
            obtain ⟨its, rv, hl, hz⟩ := I.list k1
            rw [Vals.ref1 r]
            obtain ⟨T, t1, t2, t3, t4⟩ := trips (h := s.heap) rv k2 fun v x u ru rd m => by
              have c3 := c1 x m
              unfold keyedOk at c3
              split at c3
              · rename_i i j y
                split at c3
                · rename_i p ep
                  obtain ⟨b, ks, rfl, m1, m2⟩ := tup_at rd
                  obtain rfl : u = .ref b := ru
                  cases m2 with
                  | cons m2 m3 =>
                    cases m3 with
                    | cons m3 m4 =>
                      cases m4
                      obtain ⟨b2, ks2, rfl, n1, n2⟩ := tup_at m2
                      cases n2 with
                      | cons n2 n3 =>
                        cases n3 with
                        | cons n3 n4 =>
                          cases n4; cases n2; cases n3
                          obtain ⟨i1, rv1, ⟨o1, p1, p2, np, p3⟩, _⟩ := I.tuple m1
                          obtain ⟨i2, rv2, ⟨o2, p4, p5, nq, p6⟩, _⟩ := I.tuple n1
                          cases rv1 with
                          | cons g1 g2 =>
                            cases g2 with
                            | cons g2 g3 =>
                              cases g3
                              obtain rfl := g1
                              cases rv2 with
                              | cons l1 l2 =>
                                cases l2 with
                                | cons l2 l3 =>
                                  cases l3
                                  obtain ⟨tk1, rfl⟩ := l1
                                  obtain ⟨tk2, rfl⟩ := l2
                                  obtain ⟨as, ra⟩ := Dp.reads I _ _ _ (toP_at ok m3 ep) g2
                                  exact ⟨p, b, o1, b2, _, np, tk1, tk2, as, rfl, p1, p2, p3, ⟨o2, p4, p5, nq, p6⟩, ra, c3⟩
                · cases c3
              · cases c3
            have hk : ∀ v ∈ its, ∃ p, Keyed2 s.heap v (kfv s.heap v) p := fun v m => by
              rw [← t1] at m
              obtain ⟨t, m', rfl⟩ := List.mem_map.mp m
              exact (t4 t m').2.2.2
            have hnd : (T.map fun t => keyD t.2.2).Nodup := by
              have z : (T.map fun t => keyD t.2.2) = (T.map (·.2.2)).map keyD := by rw [List.map_map]; rfl
              rw [z, t3]
              exact c2
            have hdis : ∀ v ∈ its, ∀ u ∈ its, v = u ∨ kfv s.heap v ≠ kfv s.heap u := fun v mv u mu => by
              rw [← t1] at mv mu
              obtain ⟨t, mt, rfl⟩ := List.mem_map.mp mv
              obtain ⟨y, my, rfl⟩ := List.mem_map.mp mu
              by_cases g : kfv s.heap t.1 = kfv s.heap y.1
              · rw [(t4 t mt).2.2.1, (t4 y my).2.2.1] at g
                exact .inl (congrArg Prod.fst (nodup_pick _ hnd mt my g))
              · exact .inr g
            have hzz : its.length ≤ sizeLine := by rw [← rv.length]; exact hz
            refine SrtO.sorted_ord (SrtO.swo_lex (kfv s.heap)) hl.isList hzz (fun h2 h₁ a' ha kk => keyed_sortable (s := { s with heap := h₁ }) (by omega) hk (show X.A.units + 1 + 1 + 64 < cLine by omega) hdis kk) fun out h1 h2 => ?_
            -- out is the list sorted by the keys
            have eo : out = (sortBy (fun t : Value × V × D => keyD t.2.2) T).map (·.1) := by
              refine List.Perm.eq_of_pairwise (le := fun v u => SrtO.lexB (kfv s.heap u) (kfv s.heap v) = false) ?_ h1 ?_ ?_
              · intro v u mv mu l1 l2
                have mv' := h2.perm.mem_iff.mp mv
                have mu' : u ∈ its := by
                  rw [← t1]
                  exact ((sortBy_perm _ T).map _).mem_iff.mp mu
                rcases hdis v mv' u mu' with g | g
                · exact g
                · have a1 := SrtO.lexB_no.mp l1
                  have a2 := SrtO.lexB_no.mp l2
                  exact absurd (Prod.ext (by omega) (by omega)) g
              · refine List.pairwise_map.mpr ((sortBy_ord _ T).imp_of_mem fun {x y} mx my l => ?_)
                have mx' := (sortBy_perm _ T).mem_iff.mp mx
                have my' := (sortBy_perm _ T).mem_iff.mp my
                rw [(t4 x mx').2.2.1, (t4 y my').2.2.1]
                exact l
              · refine h2.perm.trans ?_
                rw [← t1]
                exact ((sortBy_perm _ T).map _).symm
            have t5 : ∀ t ∈ sortBy (fun t : Value × V × D => keyD t.2.2) T, Trip s.heap A (cut A Z S H) X.K t := fun t m => t4 t ((sortBy_perm _ T).mem_iff.mp m)
            obtain ⟨v1, v2⟩ := trip_vals t5
            rw [sortBy_map (fun t : Value × V × D => t.2.2) keyD T, t3] at v2
            rw [← eo] at v1
            obtain ⟨ep, he'⟩ := PyProof.Rows.sortedAll_at s.heap its out.toArray
            refine ⟨.ref _, upd H (s.heap.objs.size + 1) (.lst _), I.laid (t' := s.toks) (fun _ _ => PyProof.Rows.sortedAll_old) (Nat.le_succ _) ⟨?_, out, ep, v1, he'⟩, rfl, q A _ _ (.new ok (I.hok.fresh (Nat.le_succ _))) (new_lst ok (I.hok.fresh (Nat.le_succ _)) v2)⟩
            rw [v1.length, h2.perm.length_eq]
            exact hzz
          · cases e
      · cases e
  · cases e
end DL

set_option maxHeartbeats 2000000
namespace DL
open PySem PySem.Spec PyProof.Rows L2
/-! ### at a def's end the lists that it made for itself are forgotten -/
mutual
def noCel : D → Bool
  | .cel _ => false
  | .lst xs => noCels xs
  | .kls xs => noCels xs
  | .tup xs => noCels xs
  | .dct [] => true
  | .dct _ => false
  | .exc _ d => noCel d
  | _ => true
def noCels : List D → Bool
  | [] => true
  | d :: ds => noCel d && noCels ds
end
def coFree : CO → Bool
  | .lst xs => noCels xs
  | .lk xs => noCels xs
  | .gone => true
  | .tab _ _ => true
section
variable {K : PySem.W.Frag} {A B A' Z : List Addr} {S T S' : Sto} {H I H' : Hp} {G G' : Hp}
mutual
theorem DR.free (e : ∀ b o, G b = some o → G' b = some o) : ∀ {v : V} {d : D}, noCel d = true → DR A G K v d → DR A' G' K v d
  | _, _, _, .non => .non
  | _, _, _, .bl b => .bl b
  | _, _, _, .int i => .int i
  | _, _, _, .str x => .str x
  | _, .lst _, f, .lst h r => .lst (e _ _ h) (DRs.free e (by unfold noCel at f; exact f) r)
  | _, .kls _, f, .kls h r => .kls (sql_mono e h) (DRs.free e (by unfold noCel at f; exact f) r)
  | _, .tup _, f, .tup h r => .tup (sqt_mono e h) (DRs.free e (by unfold noCel at f; exact f) r)
  | _, _, _, .dct0 h => .dct0 (e _ _ h)
  | _, .cel _, f, .cel h => by simp [noCel] at f
  | _, _, _, .fn f => .fn f
  | _, .exc _ _, f, .exc h k r => .exc (e _ _ h) (e _ _ k) (DR.free e (by unfold noCel at f; exact f) r)
theorem DRs.free (e : ∀ b o, G b = some o → G' b = some o) : ∀ {vs : List V} {ds : List D}, noCels ds = true → DRs A G K vs ds → DRs A' G' K vs ds
  | _, _, _, .nil => .nil
  | _, _ :: _, f, .cons h r => by
    simp only [noCels, Bool.and_eq_true] at f
    exact .cons (DR.free e f.1 h) (DRs.free e f.2 r)
end
theorem cut_take {n : Nat} : ∀ b o, cut B Z T I b = some o → cut (B.take n) Z (T.take n) I b = some o := fun b o e => by
  obtain ⟨e1, e2, e3⟩ := cut_some.mp e
  refine cut_some.mpr ⟨e1, e2, fun ⟨i, c, h1, h2, h3⟩ => e3 ⟨i, c, ?_, ?_, h3⟩⟩
  · exact pre_get (List.take_prefix n B) h1
  · exact pre_get (List.take_prefix n T) h2
where
  pre_get {α : Type} {l m : List α} (p : l <+: m) {i : Nat} {x : α} (h : l[i]? = some x) : m[i]? = some x := by
    obtain ⟨t, rfl⟩ := p
    rw [List.getElem?_append_left (List.getElem?_eq_some_iff.mp h).1]
    exact h
theorem Grow.take (ok0 : SOk K A Z S H) (g : Grow K Z A S H B T I) (hf : (T.take S.length).all coFree = true) : Grow K Z A S H (B.take S.length) (T.take S.length) I := by
  have hl : S.length ≤ B.length := by rw [← ok0.len]; exact g.pre.length_le
  refine ⟨?_, ⟨by rw [List.length_take, List.length_take, g.ok.len], g.ok.nd.sublist (List.take_sublist _ _), fun a ha => g.ok.there a (List.mem_of_mem_take ha), fun b hb => ⟨(g.ok.hid b hb).1, fun q => (g.ok.hid b hb).2 (List.mem_of_mem_take q)⟩, fun i c ds hc hd => ?_, fun i P q e => ?_⟩,
    fun b o e => cut_take b o (g.ex b o e), g.hid, fun i ds e => ?_⟩
  · rw [← ok0.len]
    obtain ⟨t, rfl⟩ := g.pre
    rw [List.take_left]
    exact List.prefix_refl _
  · have hi : i < S.length := by
      have := (List.getElem?_eq_some_iff.mp hc).1
      rw [List.length_take] at this
      omega
    have hm : c ∈ T.take S.length := List.mem_of_getElem? hc
    rw [List.getElem?_take_of_lt hi] at hc
    obtain ⟨a, vs, h1, h2, h3⟩ := g.ok.at_ i c ds hc hd
    have f := List.all_eq_true.mp hf c hm
    refine ⟨a, vs, by rw [List.getElem?_take_of_lt hi]; exact h1, h2, DRs.free cut_take ?_ h3⟩
    rcases hd with rfl | rfl <;> exact f
  · have hi : i < S.length := by
      have := (List.getElem?_eq_some_iff.mp e).1
      rw [List.length_take] at this
      omega
    rw [List.getElem?_take_of_lt hi] at e
    obtain ⟨t1, t2⟩ := g.ok.tab i P q e
    exact ⟨by rw [List.getElem?_take_of_lt hi]; exact t1, t2⟩
  · have hi := (List.getElem?_eq_some_iff.mp e).1
    rw [List.getElem?_take_of_lt hi]
    exact g.lk i ds e
def tidy (n : Nat) (r : Res D) : Res D := match r with
  | .ok d T => if noCel d && (T.take n).all coFree then .ok d (T.take n) else .bad
  | .err c d T => if noCel d && (T.take n).all coFree then .err c d (T.take n) else .bad
  | .bad => .bad
def bodyT (N : List Str) (n : Nat) (f : FS) (ds : List D) (S : Sto) : Res D := tidy S.length (bodyD N n f ds S)
theorem Post.tidy {W : WX} {ca : Str → Addr} {σ : L2.St} {r : Res D} {P : V → Hp → Prop} (ok0 : SOk K A Z S H) (h : Post K W ca A Z S H σ (tidy S.length r) fun B T I d => ∀ v, DR B (cut B Z T I) K v d → P v I) :
    Post K W ca A Z S H σ r fun B T I d => ∀ v, DR B (cut B Z T I) K v d → P v I := by
  cases r with
  | bad => exact h
  | ok d T =>
    unfold DL.tidy at h
    simp only at h
    split at h
    · rename_i c
      rw [Bool.and_eq_true] at c
      exact fun B I g v rv => h _ _ (g.take ok0 c.2) v (rv.free cut_take c.1)
    · exact h.elim
  | err cl d T =>
    unfold DL.tidy at h
    simp only at h
    split at h
    · rename_i c
      rw [Bool.and_eq_true] at c
      exact fun B I dx v σ' g hx rv => h _ _ dx v σ' (g.take ok0 c.2) (cut_take dx _ hx) (rv.free cut_take c.1)
    · exact h.elim
end
section
variable {P : Program} {w : World} {K : PySem.W.Frag} {mg : Str → Option Value} {base : Heap} {ca : Str → Addr} {x : Str} {ps : List Str}
/-- a def's lists forgotten at its end -/
theorem Def.tidy {k : Nat} {g : List D → Sto → Res D} (d : Def P w K mg base ca x ps k g) : Def P w K mg base ca x ps k (fun ds S => DL.tidy S.length (g ds S)) :=
  let ⟨f, fd, a, b, c, F⟩ := d.ex
  ⟨f, fd, a, b, c, F.imp fun vs H Q E ⟨A, Z, S, ds, h1, h2, h3, h4⟩ => ⟨A, Z, S, ds, h1, h2, h3, Post.tidy h1 h4⟩⟩
/-- what the top has written of a def -/
structure Std (K : PySem.W.Frag) (mg : Str → Option Value) (x : Str) (st : Stmt) (ps : List Str) : Prop where
  ex : ∃ f fd, mg x = some (.ref f) ∧ Fun K x x st f fd ∧ L2.Binds K fd ps []
abbrev CXof (P : Program) (w : World) (K : PySem.W.Frag) (mg : Str → Option Value) (base : Heap) (N : List Str) (x : Str) (st : Stmt) (f : Addr) (cdv : Value) (A : Around) (outer : List PySem.Env) (s : Shared) (H : Hp) (E : XK) : Cx :=
  cxOf (L2.CX P w) P w K mg base N x (defScope st) f cdv A outer s H E
/-- the rule for a def, as the texts that are printed use it -/
theorem def_D {st : Stmt} {N : List Str} {k : Nat} {fs : FS} (T : Std K mg x st ps) (S : FnScope N ps (defScope st))
    (body : ∀ (f : Addr) (cdv : Value) (A : Around) (outer : List PySem.Env) (s : Shared) (H : Hp) (E : XK), Room k (CXof P w K mg base N x st f cdv A outer s H E).A → (CXof P w K mg base N x st f cdv A outer s H E).A.guards = some [] →
      Takes (CXof P w K mg base N x st f cdv A outer s H E) (WD E) → PassesOwn (model P w) (CXof P w K mg base N x st f cdv A outer s H E).A (CXof P w K mg base N x st f cdv A outer s H E).env (CXof P w K mg base N x st f cdv A outer s H E).xe →
      SSs (CXof P w K mg base N x st f cdv A outer s H E) (WD E) ca (defBody st) fs) : Def P w K mg base ca x ps (k + 1) (bodyD N ps.length fs) := by
  obtain ⟨f, fd, hm, F, hb⟩ := T.ex
  exact def_of hm F S hb (fun cdv A outer s H E hr hgu tk hp => body f cdv A outer s H E hr hgu tk hp) fun _ _ _ _ => rfl
theorem def_T {st : Stmt} {N : List Str} {k : Nat} {fs : FS} (T : Std K mg x st ps) (S : FnScope N ps (defScope st))
    (body : ∀ (f : Addr) (cdv : Value) (A : Around) (outer : List PySem.Env) (s : Shared) (H : Hp) (E : XK), Room k (CXof P w K mg base N x st f cdv A outer s H E).A → (CXof P w K mg base N x st f cdv A outer s H E).A.guards = some [] →
      Takes (CXof P w K mg base N x st f cdv A outer s H E) (WD E) → PassesOwn (model P w) (CXof P w K mg base N x st f cdv A outer s H E).A (CXof P w K mg base N x st f cdv A outer s H E).env (CXof P w K mg base N x st f cdv A outer s H E).xe →
      SSs (CXof P w K mg base N x st f cdv A outer s H E) (WD E) ca (defBody st) fs) : Def P w K mg base ca x ps (k + 1) (bodyT N ps.length fs) := (def_D T S body).tidy
/-- the law's own def -/
theorem law_D {st : Stmt} {N : List Str} {k : Nat} {fs : FS} {f : Addr} {fd : FuncData} (F : Fun K x x st f fd) (S : FnScope N ps (defScope st))
    (body : ∀ (cdv : Value) (A : Around) (outer : List PySem.Env) (s : Shared) (H : Hp) (E : XK), Room k (CXof P w K mg base N x st f cdv A outer s H E).A → (CXof P w K mg base N x st f cdv A outer s H E).A.guards = some [] →
      Takes (CXof P w K mg base N x st f cdv A outer s H E) (WD E) → PassesOwn (model P w) (CXof P w K mg base N x st f cdv A outer s H E).A (CXof P w K mg base N x st f cdv A outer s H E).env (CXof P w K mg base N x st f cdv A outer s H E).xe →
      SSs (CXof P w K mg base N x st f cdv A outer s H E) (WD E) ca (defBody st) fs) : FnG P w K mg base (k + 1) f fd ps (spD K ca ps.length (bodyD N ps.length fs)) :=
  fnG_D F S (fun cdv A outer s H E hr hgu tk hp => body cdv A outer s H E hr hgu tk hp) fun _ _ _ _ => rfl
/-- nothing is asked of a def that is never called -/
theorem Std.never {st : Stmt} {k : Nat} (T : Std K mg x st ps) : Def P w K mg base ca x ps k (fun _ _ => .bad) := by
  obtain ⟨f, fd, hm, F, hb⟩ := T.ex
  have no : ∀ vs H Q E, ¬ spD K ca ps.length (fun _ _ => .bad) vs H Q E := fun vs H Q E ⟨A, Z, S, ds, _, _, _, h⟩ => h
  exact ⟨f, fd, hm, F.kp, hb, fun vs H Q E h => absurd h (no vs H Q E), fun A outer s H args us vs Q E _ _ _ _ _ h => absurd h (no vs H Q E)⟩
end
section
variable {X : Cx} {W : WX} {ca : Str → Addr} {e a b : Expr} {es : List Expr} {pos : Pos}
/-! a new list that may change, by + -/
def addC (x y : D) (S : Sto) : Option (List D) := match addD x y S with
  | some (.lst xs) => some xs
  | _ => none
def fAddC (fa fb : FE) : FE := fun ρ S => (fa ρ S).bind fun x S1 => (fb ρ S1).bind fun y S2 => match addC x y S2 with
  | some xs => .ok (.cel S2.length) (S2 ++ [.lst xs])
  | none => .bad
theorem addC_at {S : Sto} {x y : D} {xs : List D} (h : addC x y S = some xs) : ∃ a b, lstOf S x = some a ∧ lstOf S y = some b ∧ a.length + b.length ≤ capN ∧ xs = a ++ b := by
  unfold addC at h
  split at h
  · rename_i zs e
    cases h
    unfold addD at e
    split at e
    · cases e
    · split at e <;> cases e
    · split at e <;> cases e
    · split at e
      · rename_i a b e1 e2
        split at e
        · rename_i c
          cases e
          exact ⟨a, b, e1, e2, c, rfl⟩
        · cases e
      · cases e
  · cases h
theorem se_addC {fa fb : FE} (ha : SE X W ca a fa) (hb : SE X W ca b fb) : SE X W ca (.BinOp a .Add b pos) (fAddC fa fb) := by
  refine se_of (pe_op op_cat ha.pe hb.pe) fun σ H Q ⟨A, Z, S, ρ, ok, sl, p⟩ => ?_
  refine ⟨A, Z, S, ρ, ok, sl, (Post.split p).imp fun B T I x g q v rv => ?_⟩
  refine ⟨B, Z, T, ρ, g.ok, sl.grow g, (Post.split q).imp fun C U J y g2 q2 w rw_ => ?_⟩
  cases e : addC x y U with
  | none => rw [e] at q2; exact q2.elim
  | some xs =>
    rw [e] at q2
    obtain ⟨m, n, e1, e2, hc, rfl⟩ := addC_at e
    obtain ⟨l, vs, rfl, h1, h2⟩ := lstOf_at g2.ok (rv.grow g2) e1
    obtain ⟨k, ws, rfl, k1, k2⟩ := lstOf_at g2.ok rw_ e2
    exact ⟨l, k, vs, ws, rfl, rfl, h1, k1, by rw [h2.length, k2.length]; exact capN_le hc, fun p hp => q2 _ _ (.cell g2.ok hp (h2.append k2)) _ (new_cel g2.ok)⟩
theorem se_dict0 : SE X W ca (.Dict [] [] pos) (fC (.dct [])) := se_of pe_dnewK fun σ H Q ⟨A, Z, S, ρ, ok, sl, p⟩ => fun r hr => p A _ (.new ok hr) _ (.dct0 (cut_new ok hr))
theorem tk0 {Y : Cx} : Takes Y W0 := fun u s' ⟨a, B, sI, pins, σ, H, cls, d, e, I, nb, up, sky, na, os, ag, h⟩ => h.elim
end
end DL

set_option maxHeartbeats 2000000
namespace DL
open PySem PySem.Spec PyProof.Rows L2
/-- the heap of which only the script is known -/
structure Bare1 (H : Hp) (a : Addr) (o : Obj) (xs : List V) : Prop where
  at_ : H a = some (.frz o (.lst xs))
  non : ∀ b, b ≠ a → H b = none
/-- the law's promise, seen from the script -/
def LawOk (g : List D → Sto → Res D) (n : Nat) : Prop := ∀ ns : List Int, ns.length ≤ n → (∀ z ∈ ns, Builtin.Int.intBits z ≤ 1048576) → ∃ S, g [.kls (ns.map D.int)] [] = .ok (.bl true) S
section
variable {P : Program} {w : World} {K : PySem.W.Frag} {mg mb : Str → Option Value} {ca : Str → Addr} {k : Nat} {fa a : Addr} {fd : FuncData} {x : Str} {g : List D → Sto → Res D} {s1 : Shared} {us : List Value} {ns : List Int}
theorem sok_nil {H : Hp} : SOk K [] [] [] H := ⟨rfl, List.nodup_nil, fun _ h => (nomatch h), fun _ h => (nomatch h), fun i c ds h => (by simp at h), fun i P q h => (by simp at h)⟩
theorem cut_nil {H : Hp} : cut [] [] [] H = H := rfl
theorem drs_script {H : Hp} (h : SqL K H a (ns.map V.int)) : DRs [] (cut [] [] [] H) K [.ref a] [.kls (ns.map D.int)] := .cons (.kls h (drs_ints ns)) .nil
/-- one run of the law, from a heap H that tells nothing or the script alone -/
theorem run_law {H : Hp} (inK : K.In s1.heap) (top : s1.heap.Ns mainGlobals mg) (bn : s1.heap.Ns builtinsNs mb) (bt : ∀ y : Str, y ≠ "__name__" → mb y = bootBuiltins y) (fr : s1.heap.NoLimit) (gn : s1.gens = #[])
    (obj : s1.heap.get? a = some { cls := .type "list", data := .seq us.toArray }) (room : Room k callerA)
    (F : ∀ base : Heap, K.In base → base.Ns mainGlobals mg → FnG P w K mg base k fa fd [x] (spD K ca 1 g)) (bd : ∀ (s : Shared) (u : Value), BindsTo s fd ⟨[u], []⟩ [(x, u)])
    (hg : ∃ S, g [.kls (ns.map D.int)] [] = .ok (.bl true) S) (seen : SqL K H a (ns.map V.int)) (okH : HOk P w H s1.heap) (only : ∀ b, H b ≠ none → b = a ∧ K.lookup b = none) (frz : ∀ b u, H b = some u → ∃ o xs, u = .frz o (.lst xs)) :
    codeAny (model P w) callerA (.call (.ref fa) ⟨[.ref a], []⟩) (fun r s2 => r = .ok (.ret (.bool true)) ∧ OldK s1.heap s2.heap ∧ s2.os = s1.os ∧ AllBare s2.gens) s1 := by
  have dictFree : ∀ {b : Addr} {o : Obj} {es : Array DictEntry} {ep : Nat}, s1.heap.get? b = some o → o.data = .dict es ep → H b = none := fun {b o es ep} e1 e2 => by
    cases eH : H b with
    | none => rfl
    | some u =>
      obtain rfl := (only b (by rw [eH]; exact fun z => nomatch z)).1
      rw [obj] at e1
      cases e1
      exact nomatch e2
  have low : ∀ {b : Addr} {m : Str → Option Value}, s1.heap.Ns b m → (hidT s1.heap H).Ns b m := fun {b m} ⟨o, es, ep, e1, e2, e3⟩ => ⟨o, es, ep, hidT_get e1 (dictFree e1 e2), e2, e3⟩
  have kIn : K.In (hidT s1.heap H) := fun b o e1 => hidT_get (inK b o e1) (by
    cases eH : H b with
    | none => rfl
    | some u =>
      have z := (only b (by rw [eH]; exact fun z => nomatch z)).2
      rw [z] at e1
      cases e1)
  obtain ⟨mc, f1, f2⟩ := fr
  have M : Mod K mg (hidT s1.heap H) := ⟨kIn, low top, ⟨mb, low bn, bt⟩, ⟨mc, low f1, f2⟩⟩
  have E0 : Env0 P w K mg (hidT s1.heap H) callerA [] s1 H := by
    refine ⟨rfl, M, fun b o e1 => of_hidT e1, Nat.le_of_eq (hidT_size _ _), trivial, fun b hb => (nomatch hb), okH, .of_eq gn⟩
  obtain ⟨S, eg⟩ := hg
  have prom : spD K ca 1 g [.ref a] H (fun v _ => v = .bl true) (fun _ _ _ => False) := by
    refine ⟨[], [], [], [.kls (ns.map D.int)], sok_nil, drs_script seen, rfl, ?_⟩
    rw [eg]
    exact fun B I gr v rv => by cases rv; rfl
  have go := (F _ kIn (low top)).run callerA [] s1 H ⟨[.ref a], []⟩ [.ref a] [.ref a] _ _ room rfl E0 (bd s1 (.ref a)) (.cons rfl .nil) prom
  refine codeAny_mono go ?_
  rintro (e | fl) s2 h
  · obtain ⟨_, _, _, _, _, _, _, _, _, _, _, _, _, _, _, _, _, h⟩ := h
  · cases fl with
    | ret u =>
      obtain ⟨v, H2, e1, e2, e3, e4, e5, e6⟩ := h
      subst e6
      obtain rfl : u = Value.bool true := e5
      refine ⟨rfl, OldK.of_keep fun b o e7 => ?_, e1, e2⟩
      cases eH : H b with
      | none => exact e3.keep b o e7 eH (fun z => nomatch z) (fun z => nomatch z)
      | some q =>
        obtain ⟨ob, xs, rfl⟩ := frz b q eH
        have k2 := e3.frzs b ob _ eH
        obtain ⟨g1, _⟩ := okH b _ eH
        obtain ⟨g2, _⟩ := e4 b _ k2
        rw [e7] at g1
        cases g1
        exact g2
    | next => exact False.elim h
    | brk => exact False.elim h
    | cont => exact False.elim h
theorem run_law2 (inK : K.In s1.heap) (top : s1.heap.Ns mainGlobals mg) (bn : s1.heap.Ns builtinsNs mb) (bt : ∀ y : Str, y ≠ "__name__" → mb y = bootBuiltins y) (fr : s1.heap.NoLimit) (gn : s1.gens = #[])
    (obj : s1.heap.get? a = some { cls := .type "list", data := .seq us.toArray }) (areI : IntsAre us ns) (few : ns.length ≤ sizeLine) (room : Room k callerA)
    (F : ∀ base : Heap, K.In base → base.Ns mainGlobals mg → FnG P w K mg base k fa fd [x] (spD K ca 1 g)) (bd : ∀ (s : Shared) (u : Value), BindsTo s fd ⟨[u], []⟩ [(x, u)])
    (hg : ∃ S, g [.kls (ns.map D.int)] [] = .ok (.bl true) S) :
    codeAny (model P w) callerA (.call (.ref fa) ⟨[.ref a], []⟩) (fun r s2 => r = .ok (.ret (.bool true)) ∧ OldK s1.heap s2.heap ∧ s2.os = s1.os ∧ AllBare s2.gens) s1 := by
  have rv := vals_ints areI
  have eqn := areI.length
  cases hk : K.lookup a with
  | some o =>
    have e := inK a o hk
    rw [obj] at e
    cases e
    refine run_law (H := fun _ => none) inK top bn bt fr gn obj room F bd hg ?_ (fun b u z => nomatch z) (fun b z => absurd rfl z) (fun b u z => nomatch z)
    exact .inr ⟨_, us.toArray, _, hk, rfl, rfl, rfl, by rw [List.size_toArray, eqn]; exact few, by simpa using rv⟩
  | none =>
    let H1 : Hp := fun b => if b = a then some (.frz { cls := .type "list", data := .seq us.toArray } (.lst (ns.map V.int))) else none
    have at1 : H1 a = some (.frz { cls := .type "list", data := .seq us.toArray } (.lst (ns.map V.int))) := if_pos rfl
    have off : ∀ b, b ≠ a → H1 b = none := fun b z => if_neg z
    refine run_law (H := H1) inK top bn bt fr gn obj room F bd hg (.inl (.inr ⟨_, at1⟩)) (fun b u z => ?_) (fun b z => ?_) (fun b u z => ?_)
    · by_cases c : b = a
      · subst c
        rw [at1] at z
        cases z
        exact ⟨obj, by rw [List.length_map]; exact few, us, _, rv, obj⟩
      · rw [off b c] at z
        cases z
    · by_cases c : b = a
      · subst c
        exact ⟨rfl, hk⟩
      · exact absurd (off b c) z
    · by_cases c : b = a
      · subst c
        rw [at1] at z
        cases z
        exact ⟨_, _, rfl⟩
      · rw [off b c] at z
        cases z
end
/-- THE END: the goal that k_head leaves, from the def of the law -/
theorem walk_D {l : PySem.W.OpenLaw} {n k : Nat} {q : Program} {loose : List Str} {XP : (Str → Option Value) → Heap → Prop} {YP : World → Heap → Prop} {d : DefRec} {K : Params → PySem.W.Frag} {g : List D → Sto → Res D} {x : Str}
    (hn : l.most = some n) (hn2 : n ≤ sizeLine) (hdf : d.params.defaults = []) (room : Room k callerA) (hY : ∀ (w : World) (h : Heap), YP w h → (K w.params).In h)
    (F : ∀ (w : World) (mg : Str → Option Value) (fa : Addr) (h : Heap), (K w.params).In h → h.Ns mainGlobals mg → mg d.name = some (.ref fa) →
      ∃ (fd : FuncData) (ca : Str → Addr), (∀ (s : Shared) (u : Value), BindsTo s fd ⟨[u], []⟩ [(x, u)]) ∧ ∀ base : Heap, (K w.params).In base → base.Ns mainGlobals mg → FnG l.prog w (K w.params) mg base k fa fd [x] (spD (K w.params) ca 1 g))
    (hg : LawOk g n) : PySem.W.WalkO q loose XP YP l.row.toRowW d [] (fun f vs => PySem.call f vs) := by
  refine Att.attach_callB hn hdf fun w s0 s1 mg mb fa o pm cd doc a us ns G Y h1 h2 h3 h4 h5 h6 h7 h8 h9 => ?_
  have inK := hY w _ Y
  obtain ⟨fd, ca, bd, F2⟩ := F w mg fa _ inK G.T.g h4
  exact run_law2 inK G.T.g G.T.b G.T.builtins G.T.nolimit h9 h5 h6 (Nat.le_trans h7 hn2) room F2 bd (hg ns h7 h8)
end DL

set_option maxHeartbeats 2000000
namespace DL
open PySem PySem.Spec PyProof.Rows L2
section
variable {X : Cx} {W : WX} {ca : Str → Addr} {e a b c : Expr} {es : List Expr} {pos : Pos}
theorem ss_par {i j : Nat} {x y : Str} {f : FA} {px py pt : Pos} {kt k2 pt2} (hc : X.calm = true) (hN : X.N.Nodup) (hi : X.N[i]? = some x) (hj : X.N[j]? = some y) (hij : i ≠ j)
    (ha : SA X W ca [a, b] f) (hx : X.env.scope.names.lookup x = some .local := by rfl) (hy : X.env.scope.names.lookup y = some .local := by rfl)
    (hw : swappedStores [.Tuple [.Name x px, .Name y py] kt pt] (.Tuple [a, b] k2 pt2) X.env = pure (some [x, y]) := by rfl)
    (hs : swapsWithSole [.Tuple [.Name x px, .Name y py] kt pt] (.Tuple [a, b] k2 pt2) pos.line X.env = pure false := by rfl) :
    SS X W ca (.Assign [.Tuple [.Name x px, .Name y py] kt pt] (.Tuple [a, b] k2 pt2) pos) (fPar i j f) := ss_of (ps_par hc hN hi hj hij hx hy ha.pa hw hs) fun _ _ _ h => tS_par h
theorem ss_par3 {i j l : Nat} {x y z : Str} {f : FA} {px py pz pt : Pos} {kt k2 pt2} (hc : X.calm = true) (hN : X.N.Nodup) (hi : X.N[i]? = some x) (hj : X.N[j]? = some y) (hl : X.N[l]? = some z) (hij : i ≠ j) (hil : i ≠ l) (hjl : j ≠ l)
    (ha : SA X W ca [a, b, c] f) (hx : X.env.scope.names.lookup x = some .local := by rfl) (hy : X.env.scope.names.lookup y = some .local := by rfl) (hz : X.env.scope.names.lookup z = some .local := by rfl)
    (hw : swappedStores [.Tuple [.Name x px, .Name y py, .Name z pz] kt pt] (.Tuple [a, b, c] k2 pt2) X.env = pure (some [x, y, z]) := by rfl)
    (hs : swapsWithSole [.Tuple [.Name x px, .Name y py, .Name z pz] kt pt] (.Tuple [a, b, c] k2 pt2) pos.line X.env = pure false := by rfl) :
    SS X W ca (.Assign [.Tuple [.Name x px, .Name y py, .Name z pz] kt pt] (.Tuple [a, b, c] k2 pt2) pos) (fPar3 i j l f) := ss_of (L2.ps_par3 hc hN hi hj hl hij hil hjl hx hy hz ha.pa hw hs) fun _ _ _ h => tS_par3 h
/-- a list or a tuple that is walked -/
def fiAny (f : FE) : FI := fun ρ S => (f ρ S).bind fun d S1 => match d with
  | .tup xs => .ok ⟨xs, none⟩ S1
  | d => match iterOf S1 d with
    | some it => .ok it S1
    | none => .bad
theorem si_any {tg l : Expr} {f : FE} (h : SE X W ca l f) : SI X W ca tg l (fiAny f) := ⟨⟨fun pins s σ H R I ⟨A, Z, S, ρ, ok, sl, p⟩ => by
  cases e : f ρ S with
  | bad =>
    unfold fiAny at p
    rw [e] at p
    exact p.elim
  | err cl d T =>
    refine (si_seq (tg := tg) h).pi.run pins s σ H R I ⟨A, Z, S, ρ, ok, sl, ?_⟩
    unfold fiAny at p
    unfold fiSeq
    rw [e] at p ⊢
    exact p
  | ok d T =>
    unfold fiAny at p
    rw [e] at p
    cases d with
    | tup xs =>
      refine (si_tup (tg := tg) h).pi.run pins s σ H R I ⟨A, Z, S, ρ, ok, sl, ?_⟩
      unfold fiTup
      rw [e]
      exact p
    | _ =>
      refine (si_seq (tg := tg) h).pi.run pins s σ H R I ⟨A, Z, S, ρ, ok, sl, ?_⟩
      unfold fiSeq
      rw [e]
      exact p⟩⟩
/-- a text of a module's constant list -/
theorem dr_strs {A : List Addr} {G : Hp} {K : PySem.W.Frag} : ∀ {us : List Value} {xs : List Str}, Vals (xs.map V.str) us → DRs A G K (xs.map V.str) (xs.map D.str)
  | _, [], _ => .nil
  | _, _ :: _, .cons h r => .cons (.str _) (dr_strs r)
end
end DL

set_option maxHeartbeats 2000000
namespace DL
open PySem PySem.Spec PyProof.Rows L2
section
variable {k : Nat} {A : Around}
theorem hu1 (hr : Room k A) : A.units + 1 < cLine := by have := hr.un; omega
theorem hu65 (hr : Room k A) : A.units + 65 < cLine := by have := hr.un; omega
theorem hu66 (hr : Room k A) : A.units + 66 < cLine := by have := hr.un; omega
end
theorem bb_len : bootBuiltins "len" = some (.builtin "len") := by decide +kernel
theorem bb_abs : bootBuiltins "abs" = some (.builtin "abs") := by decide +kernel
theorem bb_sum : bootBuiltins "sum" = some (.builtin "sum") := by decide +kernel
theorem bb_max : bootBuiltins "max" = some (.builtin "max") := by decide +kernel
theorem bb_min : bootBuiltins "min" = some (.builtin "min") := by decide +kernel
theorem bb_repr : bootBuiltins "repr" = some (.builtin "repr") := by decide +kernel
theorem bb_sorted : bootBuiltins "sorted" = some (.builtin "sorted") := by decide +kernel
theorem bb_int : bootBuiltins "int" = some (.type "int") := by decide +kernel
theorem bb_bool : bootBuiltins "bool" = some (.type "bool") := by decide +kernel
theorem bb_str : bootBuiltins "str" = some (.type "str") := by decide +kernel
theorem bb_list : bootBuiltins "list" = some (.type "list") := by decide +kernel
theorem bb_tuple : bootBuiltins "tuple" = some (.type "tuple") := by decide +kernel
theorem bb_dict : bootBuiltins "dict" = some (.type "dict") := by decide +kernel
/-- a constant of the module -/
def GlobC (K : PySem.W.Frag) (mg : Str → Option Value) (x : Str) (d : D) : Prop := ∃ (u : Value) (v : V), mg x = some u ∧ RelV v u ∧ ∀ A G, DR A G K v d
section
variable {X : Cx} {W : WX} {ca : Str → Addr} {e a b c : Expr} {es : List Expr} {pos : Pos}
theorem se_callN {x : Str} {p : Pos} {ps : List Str} {k n : Nat} {g : List D → Sto → Res D} {f : FA} (d : Def X.prog X.w X.K X.mg X.base ca x ps k g) (hr : Room k X.A) (hgu : X.A.guards = some []) (tk : Takes X W) (hg : Gl X x) (ha : SA X W ca (e :: es) f)
    (hn : ps.length = n := by rfl) (hdb : (x == ("__debug__" : Str)) = false := by decide) (he : starEach (e :: es) X.env = (false, eval e X.env) :: starEach es X.env := by rfl) (hpl : (backTo pos (starEach es X.env)).any (·.1) = false := by rfl) :
    SE X W ca (.Call (.Name x p) (e :: es) [] pos) (fCall n g f) := by
  subst hn
  exact se_call d hr hgu tk hg ha hdb he hpl
theorem se_gc {x : Str} {d : D} (hg : Gl X x) (h : GlobC X.K X.mg x d) (hdb : (x == ("__debug__" : Str)) = false := by decide) : SE X W ca (.Name x pos) (fC d) :=
  let ⟨_, _, h1, h2, h3⟩ := h; se_glob hg h1 h2 h3 hdb
theorem se_app1 {o : Expr} {fo f : FE} {apos : Pos} (ho : SE X W ca o fo) (he : SE X W ca e f)
    (hbase : attributeBase o "append" X.env (eval o X.env) = eval o X.env := by rfl)
    (hfew : ((backTo pos (starEach [e] X.env)).all (fun x => !x.1) && (backToKw pos (keywordEach [] X.env)).all (fun x => x.1.isSome) && decide ([e].length + ([] : List Keyword).length + (if ([] : List Keyword).isEmpty then 0 else 1) < 30)) = true := by rfl)
    (hline : (apos.endLine == pos.line) = true := by rfl) (hs : starEach [e] X.env = (false, eval e X.env) :: starEach [] X.env := by rfl) (hplain : (backTo pos (starEach [] X.env)).any (·.1) = false := by rfl) :
    SE X W ca (.Call (.Attribute o "append" apos) [e] [] pos) (fApp fo f) :=
  se_app ho he (pe_bm PySem.F.plainAttrs_list PySem.F.slot_list_append PySem.F.type_list_append mt_append ho.pe (pa_cons he.pe pa_nil hs) hbase hfew hline hs hplain)
/-- x = [.. for ..] -/
theorem ss_setLc {i : Nat} {y : Str} {py : Pos} {spos : Pos} {elt tg iter : Expr} {ifs : List Expr} {scope : Scope} {own : List (Str × Nat)} {fi : FI} {g : FG} {c : FT} {el : FE} (hc : X.calm = true) (hN : X.N.Nodup) (hy : X.N[i]? = some y) (hyl : X.env.scope.names.lookup y = some .local)
    (hi : SI X W ca tg iter fi) (ok : BlkOk X.N X.env.scope scope own)
    (hg : ∀ (s : Shared) (H : Hp) (C : Addr) (cl : List (Str × Addr)) (fp : List Addr), SGw (X.blk s H scope (compEnvC scope cl C X.env) fp) ca (own.map (·.2)) tg g)
    (ht : ∀ (s : Shared) (H : Hp) (C : Addr) (cl : List (Str × Addr)) (fp : List Addr), STs (X.blk s H scope (compEnvC scope cl C X.env) fp) W0 ca ifs c)
    (he : ∀ (s : Shared) (H : Hp) (C : Addr) (cl : List (Str × Addr)) (fp : List Addr), SE (X.blk s H scope (compEnvC scope cl C X.env) fp) W0 ca elt el)
    (hsw : swapsWith (.ListComp elt [⟨tg, iter, ifs, 0⟩] scope pos) (some (.Name y py)) spos.line X.env = pure true := by rfl) (hs : ∀ x, foldedSetIterable iter X.env x = pure x := by intro _; rfl) :
    SS X W ca (.Assign [.Name y py] (.ListComp elt [⟨tg, iter, ifs, 0⟩] scope pos) spos) (fAsg (fLc (own.map (·.2)) fi g c el) (fgName i)) := by
  refine ss_of (ps_setLc (wi := tI X.K W ca fi) (g := tGw X.K ca (own.map (·.2)) g) (tt := tT X.K W0 ca c) (te := tE X.K W0 ca el) hc hN hy hyl hsw hi.pi ok (fun s H C cl fp => (hg s H C cl fp).pg) (fun s H C cl fp => (ht s H C cl fp).pts) (fun s H C cl fp => (he s H C cl fp).pe) hs) fun D σ H ⟨A, Z, S, ρ, ok, sl, p⟩ => ?_
  refine se_lc.lc_read ⟨A, Z, S, ρ, ok, sl, (Post.split p).imp fun B T I d gr q v rv => ?_⟩
  exact q B I (.refl gr.ok) _ ((sl.grow gr).set rv i)
end
section
variable {K : PySem.W.Frag} {mg : Str → Option Value}
theorem globI {x : Str} {i : Int} {t : Tok} {h : Heap} (X : K.In h) (G : h.Ns mainGlobals mg) (q : PySem.W.nsIn K mainGlobals x = some (some (.int i t))) : GlobC K mg x (.int i) :=
  ⟨_, .int i, PySem.W.mg_of X G q, ⟨t, rfl⟩, fun _ _ => .int i⟩
theorem vals_strs : ∀ (ts : List (Str × Tok)), Vals ((ts.map (·.1)).map V.str) (ts.map fun p => Value.str p.1 p.2)
  | [] => .nil
  | p :: r => .cons ⟨p.2, rfl⟩ (vals_strs r)
theorem globL {x : Str} {o : Addr} {n : Nat} {h : Heap} (ts : List (Str × Tok)) (X : K.In h) (G : h.Ns mainGlobals mg) (q : PySem.W.nsIn K mainGlobals x = some (some (.ref o)))
    (l : K.lookup o = some ⟨.type "list", none, .seq (ts.map fun p => Value.str p.1 p.2).toArray n, #[]⟩) (few : ts.length ≤ 1000 := by exact Nat.le_of_ble_eq_true rfl) : GlobC K mg x (.kls (ts.map fun p => .str p.1)) := by
  have r := vals_strs ts
  have e : (ts.map fun p => D.str p.1) = (ts.map (·.1)).map D.str := by rw [List.map_map]; rfl
  refine ⟨_, .ref o, PySem.W.mg_of X G q, rfl, fun A G => ?_⟩
  rw [e]
  refine .kls (.inr ⟨_, _, n, l, rfl, rfl, rfl, ?_, ?_⟩) (dr_strs r)
  · rw [List.size_toArray, List.length_map]
    exact Nat.le_of_lt (small1000 few)
  · simpa using r
theorem std_mk {x : Str} {st : Stmt} {f : Addr} {oc : Value} {od an : Option Addr} {osl : Array (Option Value)} {kV doc pm cdv ct : Value} {h : Heap} {ps : List Str} (X : K.In h) (G : h.Ns mainGlobals mg) (a : PySem.W.nsIn K mainGlobals x = some (some (.ref f)))
    (l : K.lookup f = some ⟨oc, od, .func (PySem.W.fnOf x x (defArgs st) (defBody st) (defScope st) .none kV doc pm an cdv ct), osl⟩) (c : PySem.W.codeIn K cdv x = true) (k : PySem.W.keepIn K (.ref f) = true)
    (b : ∀ (kV doc pm : Value) (an : Option Addr) (cdv ct : Value) (us : List Value), us.length = ps.length → bindArgs (PySem.W.fnOf x x (defArgs st) (defBody st) (defScope st) .none kV doc pm an cdv ct) ⟨us, []⟩ = pure (ps.zip us)) : Std K mg x st ps :=
  ⟨_, _, PySem.W.mg_of X G a, fun_mk (st := st) l c k, (fun_mk (st := st) l c k).binds b⟩
theorem globF {x : Str} {id : String} {h : Heap} (X : K.In h) (G : h.Ns mainGlobals mg) (q : PySem.W.nsIn K mainGlobals x = some (some (.builtin id))) : mg x = some (.builtin id) := PySem.W.mg_of X G q
end
end DL

set_option maxHeartbeats 2000000
/-! For the plain laws: what the data functions come to. -/
namespace DL
open PySem PySem.Spec PyProof.Rows L2
theorem tidy_ok {d : D} {S : Sto} (hS : S.all coFree = true) (hd : noCel d = true) : tidy S.length (.ok d S) = .ok d S := by
  unfold tidy
  simp only [List.take_length, hS, hd, Bool.and_self, if_true]
theorem bodyT_ok {N : List Str} {n : Nat} {f : FS} {ds : List D} {S : Sto} {d : D} (h : bodyD N n f ds S = .ok d S) (hS : S.all coFree = true) (hd : noCel d = true) : bodyT N n f ds S = .ok d S := by
  unfold bodyT
  rw [h, tidy_ok hS hd]
theorem take_pre {S T : Sto} (h : S.length = T.length) (L : Sto) : (T ++ L).take S.length = T := by rw [h, List.take_left]
/-- the store is written, lists of the def's own stand behind -/
theorem bodyT_to {N : List Str} {n : Nat} {f : FS} {ds : List D} {S T L : Sto} {d : D} (h : bodyD N n f ds S = .ok d (T ++ L)) (hl : S.length = T.length) (hT : T.all coFree = true) (hd : noCel d = true) : bodyT N n f ds S = .ok d T := by
  unfold bodyT tidy
  rw [h]
  simp only [take_pre hl, hT, hd, Bool.and_self, if_true]
mutual
/-- plain data, at most n deep -/
def fit : D → Nat → Bool
  | .non, _ => true
  | .bl _, _ => true
  | .int _, _ => true
  | .str x, _ => PyData.strOk x
  | .lst _, 0 => false
  | .lst xs, n + 1 => fits xs n
  | .tup _, 0 => false
  | .tup xs, n + 1 => fits xs n
  | _, _ => false
def fits : List D → Nat → Bool
  | [], _ => true
  | d :: ds, n => fit d n && fits ds n
end
theorem fits_all : ∀ {ds : List D} {n : Nat}, fits ds n = ds.all fun d => fit d n
  | [], _ => rfl
  | d :: ds, n => by simp only [fits, List.all_cons, fits_all]
theorem fits_mem {ds : List D} {n : Nat} (h : fits ds n = true) {d : D} (m : d ∈ ds) : fit d n = true := by
  rw [fits_all, List.all_eq_true] at h
  exact h d m
mutual
theorem fit_up : ∀ {d : D} {n m : Nat}, n ≤ m → fit d n = true → fit d m = true
  | .non, _, _, _, _ => by simp [fit]
  | .bl _, _, _, _, _ => by simp [fit]
  | .int _, _, _, _, _ => by simp [fit]
  | .str _, _, _, _, h => by simpa [fit] using h
  | .lst xs, n, m, h, f => by
    cases n with
    | zero => simp [fit] at f
    | succ n =>
      cases m with
      | zero => omega
      | succ m =>
        simp only [fit] at f ⊢
        exact fits_up (by omega) f
  | .tup xs, n, m, h, f => by
    cases n with
    | zero => simp [fit] at f
    | succ n =>
      cases m with
      | zero => omega
      | succ m =>
        simp only [fit] at f ⊢
        exact fits_up (by omega) f
  | .kls _, n, _, _, h => by cases n <;> simp [fit] at h
  | .dct _, n, _, _, h => by cases n <;> simp [fit] at h
  | .cel _, n, _, _, h => by cases n <;> simp [fit] at h
  | .fn _, n, _, _, h => by cases n <;> simp [fit] at h
theorem fits_up : ∀ {ds : List D} {n m : Nat}, n ≤ m → fits ds n = true → fits ds m = true
  | [], _, _, _, _ => rfl
  | d :: ds, n, m, h, f => by
    simp only [fits, Bool.and_eq_true] at f ⊢
    exact ⟨fit_up h f.1, fits_up h f.2⟩
end
mutual
theorem fit_nc : ∀ {d : D} {n : Nat}, fit d n = true → noCel d = true
  | .non, _, _ => rfl
  | .bl _, _, _ => rfl
  | .int _, _, _ => rfl
  | .str _, _, _ => rfl
  | .lst xs, n, h => by
    cases n with
    | zero => simp [fit] at h
    | succ n => simp only [fit] at h; simp only [noCel]; exact fits_nc h
  | .tup xs, n, h => by
    cases n with
    | zero => simp [fit] at h
    | succ n => simp only [fit] at h; simp only [noCel]; exact fits_nc h
  | .kls _, n, h => by cases n <;> simp [fit] at h
  | .dct _, n, h => by cases n <;> simp [fit] at h
  | .cel _, n, h => by cases n <;> simp [fit] at h
  | .fn _, n, h => by cases n <;> simp [fit] at h
theorem fits_nc : ∀ {ds : List D} {n : Nat}, fits ds n = true → noCels ds = true
  | [], _, _ => rfl
  | d :: ds, n, h => by
    simp only [fits, Bool.and_eq_true] at h
    simp only [noCels, Bool.and_eq_true]
    exact ⟨fit_nc h.1, fits_nc h.2⟩
end
mutual
theorem fit_to {S : Sto} : ∀ {d : D} {n : Nat}, fit d n = true → ∃ p, toP S d = some p ∧ p.canLay0 = true ∧ p.depth ≤ n
  | .non, _, _ => ⟨_, rfl, rfl, by simp [PyData.depth]⟩
  | .bl _, _, _ => ⟨_, rfl, rfl, by simp [PyData.depth]⟩
  | .int _, _, _ => ⟨_, rfl, rfl, by simp [PyData.depth]⟩
  | .str _, n, h => ⟨_, rfl, by cases n <;> simpa [fit, PyData.canLay0] using h, by simp [PyData.depth]⟩
  | .lst xs, n, h => by
    cases n with
    | zero => simp [fit] at h
    | succ n =>
      simp only [fit] at h
      obtain ⟨ps, h1, h2, h3⟩ := fits_to (S := S) h
      exact ⟨.list ps, by simp [toP, h1], by simpa [PyData.canLay0] using h2, by simp only [PyData.depth]; omega⟩
  | .tup xs, n, h => by
    cases n with
    | zero => simp [fit] at h
    | succ n =>
      simp only [fit] at h
      obtain ⟨ps, h1, h2, h3⟩ := fits_to (S := S) h
      exact ⟨.tuple ps, by simp [toP, h1], by simpa [PyData.canLay0] using h2, by simp only [PyData.depth]; omega⟩
  | .kls _, n, h => by cases n <;> simp [fit] at h
  | .dct _, n, h => by cases n <;> simp [fit] at h
  | .cel _, n, h => by cases n <;> simp [fit] at h
  | .fn _, n, h => by cases n <;> simp [fit] at h
theorem fits_to {S : Sto} : ∀ {ds : List D} {n : Nat}, fits ds n = true → ∃ ps, toPs S ds = some ps ∧ PyData.canLayAll0 ps = true ∧ PyData.depthAll ps ≤ n
  | [], _, _ => ⟨[], rfl, rfl, by simp [PyData.depthAll]⟩
  | d :: ds, n, h => by
    simp only [fits, Bool.and_eq_true] at h
    obtain ⟨p, h1, h2, h3⟩ := fit_to (S := S) h.1
    obtain ⟨ps, k1, k2, k3⟩ := fits_to (S := S) h.2
    exact ⟨p :: ps, by simp [toPs, h1, k1], by simp [PyData.canLayAll0, h2, k2], by simp only [PyData.depthAll]; omega⟩
end
theorem fit_shaped {S : Sto} {d : D} {n : Nat} (h : fit d n = true) (hn : n ≤ 64) : ∃ p, toP S d = some p ∧ SeqAt.shaped p = true := by
  obtain ⟨p, h1, h2, h3⟩ := fit_to (S := S) h
  refine ⟨p, h1, ?_⟩
  unfold SeqAt.shaped
  rw [h2, Bool.true_and, decide_eq_true_eq]
  omega
/-- xs == [] -/
theorem eqB_nil {S : Sto} {xs : List D} {n : Nat} (h : fits xs n = true) (hn : n ≤ 63) : eqB S (.lst xs) (.lst []) = some xs.isEmpty := by
  have h' : fit (.lst xs) (n + 1) = true := by simpa [fit] using h
  obtain ⟨p, h1, h2⟩ := fit_shaped (S := S) h' (by omega)
  obtain ⟨ps, k1, _⟩ := fits_to (S := S) h
  have e : p = .list ps := by
    simp only [toP, k1, Option.map_some, Option.some.injEq] at h1
    exact h1.symm
  subst e
  unfold eqB
  simp only [h1, h2]
  have sn : toP S (.lst []) = some (.list []) := rfl
  rw [sn]
  simp only [show SeqAt.shaped (.list []) = true by decide, Bool.and_self, if_true, Option.some.injEq]
  cases xs with
  | nil =>
    simp only [toPs, Option.some.injEq] at k1
    subst k1
    rfl
  | cons x xs =>
    simp only [toPs] at k1
    split at k1
    · cases k1
      rw [h2]
      rfl
    · cases k1
theorem compD_pure {g : FG} {c : FT} {el : FE} {ρ : Env} {S : Sto} (p : D → Bool) (f : D → D) : ∀ {ds : List D}, (∀ d ∈ ds, ∃ ρ1, g d ρ S = .ok ρ1 S ∧ c ρ1 S = .ok (p d) S ∧ (p d = true → el ρ1 S = .ok (f d) S)) →
    compD g c el ds ρ S = .ok ((ds.filter p).map f) S
  | [], _ => rfl
  | d :: ds, h => by
    obtain ⟨ρ1, h1, h2, h3⟩ := h d List.mem_cons_self
    have ih := compD_pure p f (ds := ds) fun x m => h x (List.mem_cons_of_mem _ m)
    unfold compD
    rw [h1, Res.bind_ok, h2, Res.bind_ok]
    cases e : p d with
    | true => rw [if_pos rfl, h3 e, Res.bind_ok, ih, Res.bind_ok, List.filter_cons_of_pos e, List.map_cons]
    | false => rw [if_neg (by simp), ih, List.filter_cons_of_neg (by simp [e])]
theorem fLc_pure {vs : List Nat} {fi : FI} {g : FG} {c : FT} {el : FE} {ρ : Env} {S : Sto} {xs : List D} (p : D → Bool) (f : D → D) (hi : fi ρ S = .ok ⟨xs, none⟩ S) (hl : xs.length < capN)
    (h : ∀ d ∈ xs, ∃ ρ1, g d (wipeE ρ vs) S = .ok ρ1 S ∧ c ρ1 S = .ok (p d) S ∧ (p d = true → el ρ1 S = .ok (f d) S)) : fLc vs fi g c el ρ S = .ok (.lst ((xs.filter p).map f)) S := by
  unfold fLc
  rw [hi]
  simp only [Res.bind_ok, hl, if_true, withLock_none]
  rw [compD_pure p f h]
  rfl
/-- .. over a list that may change -/
theorem fLc_cell {vs : List Nat} {fi : FI} {g : FG} {c : FT} {el : FE} {ρ : Env} {S : Sto} {xs : List D} {j : Nat} (p : D → Bool) (f : D → D) (hi : fi ρ S = .ok ⟨xs, some j⟩ S) (hl : xs.length < capN) (hj : S[j]? = some (.lst xs))
    (h : ∀ d ∈ xs, ∃ ρ1, g d (wipeE ρ vs) (S.set j (.lk xs)) = .ok ρ1 (S.set j (.lk xs)) ∧ c ρ1 (S.set j (.lk xs)) = .ok (p d) (S.set j (.lk xs)) ∧ (p d = true → el ρ1 (S.set j (.lk xs)) = .ok (f d) (S.set j (.lk xs)))) :
    fLc vs fi g c el ρ S = .ok (.lst ((xs.filter p).map f)) S := by
  unfold fLc
  rw [hi]
  simp only [Res.bind_ok, hl, if_true]
  unfold withLock
  simp only [hj]
  rw [compD_pure p f h]
  simp only [noErr_ok, Res.bind_ok, List.set_set]
  have hlt := (List.getElem?_eq_some_iff.mp hj)
  obtain ⟨h1, h2⟩ := hlt
  rw [← h2, List.set_getElem_self]
theorem fits_filter {xs : List D} {n : Nat} (p : D → Bool) (h : fits xs n = true) : fits (xs.filter p) n = true := by
  rw [fits_all, List.all_eq_true] at h ⊢
  exact fun x m => h x (List.mem_filter.mp m).1
theorem isEmpty_filter {α : Type} (p : α → Bool) : ∀ xs : List α, (xs.filter p).isEmpty = xs.all fun x => !p x
  | [] => rfl
  | x :: xs => by
    cases e : p x with
    | true => simp [e]
    | false => rw [List.filter_cons_of_neg (by simp [e]), isEmpty_filter p xs]; simp [e]
@[simp] theorem atI_0 {α : Type} {x : α} {r : List α} : atI (x :: r) 0 = some x := by
  unfold atI ixN
  have : (0 : Int) < ((x :: r).length : Nat) := by simp only [List.length_cons]; omega
  rw [if_pos (Int.le_refl 0), if_pos this]
  rfl
@[simp] theorem atI_1 {α : Type} {x y : α} {r : List α} : atI (x :: y :: r) 1 = some y := by
  unfold atI ixN
  have : (1 : Int) < ((x :: y :: r).length : Nat) := by simp only [List.length_cons]; omega
  rw [if_pos (by decide), if_pos this]
  rfl
theorem atI_at {α : Type} {xs : List α} {j : Nat} {x : α} (h : xs[j]? = some x) : atI xs (j : Int) = some x := by
  have hl := (List.getElem?_eq_some_iff.mp h).1
  unfold atI ixN
  have : ((j : Nat) : Int) < (xs.length : Nat) := by omega
  rw [if_pos (by omega), if_pos this]
  simpa using h
/-- what the data functions say of list data -/
@[simp] theorem lenD_lst {S : Sto} {xs : List D} : lenD [.lst xs] S = some (.int xs.length) := rfl
@[simp] theorem lenD_tup {S : Sto} {xs : List D} : lenD [.tup xs] S = some (.int xs.length) := rfl
@[simp] theorem ixD_tup {S : Sto} {xs : List D} {i : Int} : ixD (.tup xs) (.int i) S = atI xs i := rfl
@[simp] theorem ixD_lst {S : Sto} {xs : List D} {i : Int} : ixD (.lst xs) (.int i) S = atI xs i := rfl
@[simp] theorem eqD_int {S : Sto} {i j : Int} : eqD (.int i) (.int j) S = some (.bl (decide (i = j))) := rfl
@[simp] theorem eqD_str {S : Sto} {a b : Str} : eqD (.str a) (.str b) S = some (.bl (decide (a = b))) := rfl
@[simp] theorem neD_int {S : Sto} {i j : Int} : neD (.int i) (.int j) S = some (.bl (!decide (i = j))) := rfl
@[simp] theorem neD_str {S : Sto} {a b : Str} : neD (.str a) (.str b) S = some (.bl (!decide (a = b))) := rfl
@[simp] theorem leD_int {S : Sto} {i j : Int} : leD (.int i) (.int j) S = some (.bl (decide (i ≤ j))) := rfl
@[simp] theorem ltD_int {S : Sto} {i j : Int} : ltD (.int i) (.int j) S = some (.bl (decide (i < j))) := rfl
@[simp] theorem gtD_int {S : Sto} {i j : Int} : gtD (.int i) (.int j) S = some (.bl (decide (i > j))) := rfl
@[simp] theorem geD_int {S : Sto} {i j : Int} : geD (.int i) (.int j) S = some (.bl (decide (i ≥ j))) := rfl
@[simp] theorem addD_int {S : Sto} {i j : Int} : addD (.int i) (.int j) S = some (.int (i + j)) := rfl
@[simp] theorem subD_int {S : Sto} {i j : Int} : subD (.int i) (.int j) S = some (.int (i - j)) := rfl
theorem eqD_nil {S : Sto} {xs : List D} {n : Nat} (h : fits xs n = true) (hn : n ≤ 63) : eqD (.lst xs) (.lst []) S = some (.bl xs.isEmpty) := by
  unfold eqD
  rw [eqB_nil h hn]
  rfl
theorem neD_nil {S : Sto} {xs : List D} {n : Nat} (h : fits xs n = true) (hn : n ≤ 63) : neD (.lst xs) (.lst []) S = some (.bl (!xs.isEmpty)) := by
  unfold neD
  rw [eqB_nil h hn]
  rfl
theorem smallI_nat {n : Nat} (h : n ≤ 1000000000) : smallI (n : Int) = true := by
  unfold smallI
  exact ltN_of (by omega)
theorem capN_of {n : Nat} (h : n ≤ 1000000) : n < capN := Nat.lt_of_le_of_lt h (by decide +kernel)
theorem smallI_one : smallI 1 = true := smallI_nat (n := 1) (by decide)
theorem fiRng2_ok {f : FA} {ρ : Env} {S S1 : Sto} {i j : Int} (h : f ρ S = .ok [.int i, .int j] S1) (hi : smallI i = true) (hj : smallI j = true) : fiRng2 f ρ S = .ok ⟨rangeD i (j - i).toNat, none⟩ S1 := by
  unfold fiRng2
  rw [h]
  show (if (smallI i && smallI j) = true then _ else _) = _
  rw [hi, hj]
  rfl
theorem fiRng1_ok {f : FA} {ρ : Env} {S S1 : Sto} {j : Int} (h : f ρ S = .ok [.int j] S1) (hj : smallI j = true) : fiRng1 f ρ S = .ok ⟨rangeD 0 j.toNat, none⟩ S1 := by
  unfold fiRng1
  rw [h]
  show (if smallI j = true then _ else _) = _
  rw [hj]
  rfl
theorem mulOk_l {i j : Int} (h : i.natAbs < 18446744073709551616) : mulOk i j = true := by
  unfold mulOk
  rw [ltN_of h, Bool.true_or, Bool.true_or]
theorem mulOk_r {i j : Int} (h : j.natAbs < 18446744073709551616) : mulOk i j = true := by
  unfold mulOk
  rw [ltN_of h, Bool.or_true, Bool.true_or]
theorem fdivOk_of {j : Int} (h0 : 0 < j) (h : j.natAbs < 1073741824) : fdivOk j = true := by
  unfold fdivOk
  rw [ltN_of h, decide_eq_true h0]
  rfl
theorem mulD_int {S : Sto} {i j : Int} (h : mulOk i j = true) : mulD (.int i) (.int j) S = some (.int (i * j)) := by
  show (if mulOk i j = true then _ else _) = _
  rw [if_pos h]
theorem fdivD_int {S : Sto} {i j : Int} (h : fdivOk j = true) : fdivD (.int i) (.int j) S = some (.int (i / j)) := by
  show (if fdivOk j = true then _ else _) = _
  rw [if_pos h]
theorem modD_int {S : Sto} {i j : Int} (h : 0 < j) : modD (.int i) (.int j) S = some (.int (i % j)) := by
  show (if decide (0 < j) = true then _ else _) = _
  rw [if_pos (decide_eq_true h)]
@[simp] theorem intD_int {S : Sto} {i : Int} : intD [.int i] S = some (.int i) := rfl
/-! the generator of a law's draws: the first list of the store -/
theorem gx0 {L : Sto} {x y z : D} : ixD (.cel 0) (.int 0) (.lst [x, y, z] :: L) = some x := rfl
theorem gx1 {L : Sto} {x y z : D} : ixD (.cel 0) (.int 1) (.lst [x, y, z] :: L) = some y := rfl
theorem gx2 {L : Sto} {x y z : D} : ixD (.cel 0) (.int 2) (.lst [x, y, z] :: L) = some z := rfl
theorem gs0 {L : Sto} {x y z d : D} : setD (.cel 0) (.int 0) d (.lst [x, y, z] :: L) = some (.lst [d, y, z] :: L) := rfl
theorem gs2 {L : Sto} {x y z d : D} : setD (.cel 0) (.int 2) d (.lst [x, y, z] :: L) = some (.lst [x, y, d] :: L) := rfl
def gen (a b c : Int) : CO := .lst [.int a, .int b, .int c]
/-- a generator that was asked at most n times -/
def Gn (n : Nat) (x : CO) : Prop := ∃ a b c : Int, x = gen a b c ∧ 0 ≤ a ∧ 0 ≤ b ∧ b < 2147483647 ∧ 0 ≤ c ∧ c ≤ n
theorem Gn.up {n m : Nat} {x : CO} (h : Gn n x) (l : n ≤ m) : Gn m x := let ⟨a, b, c, e, h1, h2, h3, h4, h5⟩ := h; ⟨a, b, c, e, h1, h2, h3, h4, by omega⟩
theorem Gn.free {n : Nat} {x : CO} (h : Gn n x) : coFree x = true := by
  obtain ⟨a, b, c, rfl, _⟩ := h
  rfl
theorem Gn.all {n : Nat} {x : CO} {L : Sto} (h : Gn n x) (hL : L.all coFree = true) : List.all (x :: L) coFree = true := by rw [List.all_cons, h.free, hL]; rfl
theorem powD_int {S : Sto} {i j : Int} (h : powOk i j = true) : powD (.int i) (.int j) S = some (.int (i ^ j.toNat)) := by
  show (if powOk i j = true then _ else _) = _
  rw [if_pos h]
theorem fiRng1_nat {f : FA} {ρ : Env} {S S1 : Sto} {j : Nat} (h : f ρ S = .ok [.int j] S1) (hj : j ≤ 1000000000) : fiRng1 f ρ S = .ok ⟨rangeD 0 j, none⟩ S1 := by
  have q := fiRng1_ok h (smallI_nat hj)
  rw [Int.toNat_natCast] at q
  exact q
theorem fLc_st {vs : List Nat} {fi : FI} {g : FG} {c : FT} {el : FE} {ρ : Env} {S S1 S2 : Sto} {xs ys : List D} (hi : fi ρ S = .ok ⟨xs, none⟩ S1) (hl : xs.length < capN) (h : compD g c el xs (wipeE ρ vs) S1 = .ok ys S2) : fLc vs fi g c el ρ S = .ok (.lst ys) S2 := by
  unfold fLc
  rw [hi]
  simp only [Res.bind_ok, hl, if_true, withLock_none]
  rw [h]
  rfl
theorem fFor_st {fi : FI} {g : FG} {f : FS} {ρ : Env} {S S1 : Sto} {xs : List D} {r : Res (Fl × Env)} (hi : fi ρ S = .ok ⟨xs, none⟩ S1) (h : loopD g f xs ρ S1 = r) : fFor fi g f ρ S = r := by
  unfold fFor
  rw [hi]
  exact h
theorem fSeq_nx {f g : FS} {ρ ρ1 : Env} {S S1 : Sto} (h : f ρ S = .ok (.nx, ρ1) S1) : fSeq f g ρ S = g ρ1 S1 := by
  unfold fSeq
  rw [h]
  rfl
theorem fSeq_rt {f g : FS} {ρ ρ1 : Env} {S S1 : Sto} {d : D} (h : f ρ S = .ok (.rt d, ρ1) S1) : fSeq f g ρ S = .ok (.rt d, ρ1) S1 := by
  unfold fSeq
  rw [h]
  rfl
theorem bodyD_rt {N : List Str} {n : Nat} {f : FS} {ds : List D} {S S1 : Sto} {ρ1 : Env} {d : D} (h : f (ds.map some ++ List.replicate (N.length - n) none) S = .ok (.rt d, ρ1) S1) : bodyD N n f ds S = .ok d S1 := by
  unfold bodyD
  rw [h]
  rfl
end DL

namespace DL
open PySem PySem.Spec PyProof.Rows L2
theorem fC_ap {d : D} {ρ : Env} {S : Sto} : fC d ρ S = (.ok d S) := rfl
theorem fVar_ap {i : Nat} {ρ : Env} {S : Sto} : fVar i ρ S = (match ρ[i]? with
  | some (some d) => .ok d S
  | _ => .bad) := rfl
theorem fOp_ap {r : Op2} {fa fb : FE} {ρ : Env} {S : Sto} : fOp r fa fb ρ S = ((fa ρ S).bind fun x S1 => (fb ρ S1).bind fun y S2 => okO (r x y S2) S2) := rfl
theorem fB_ap {f : FE} {ρ : Env} {S : Sto} : fB f ρ S = (asB (f ρ S)) := rfl
theorem fAnd_ap {f g : FT} {ρ : Env} {S : Sto} : fAnd f g ρ S = ((f ρ S).bind fun c S1 => if c = true then g ρ S1 else .ok false S1) := rfl
theorem fOr_ap {f g : FT} {ρ : Env} {S : Sto} : fOr f g ρ S = ((f ρ S).bind fun c S1 => if c = true then .ok true S1 else g ρ S1) := rfl
theorem fNot_ap {f : FT} {ρ : Env} {S : Sto} : fNot f ρ S = ((f ρ S).bind fun c S1 => .ok (!c) S1) := rfl
theorem fAndV_ap {f g : FE} {ρ : Env} {S : Sto} : fAndV f g ρ S = ((asB (f ρ S)).bind fun c S1 => if c = true then g ρ S1 else .ok (.bl false) S1) := rfl
theorem fOrV_ap {f g : FE} {ρ : Env} {S : Sto} : fOrV f g ρ S = ((asB (f ρ S)).bind fun c S1 => if c = true then .ok (.bl true) S1 else g ρ S1) := rfl
theorem fNotV_ap {f : FE} {ρ : Env} {S : Sto} : fNotV f ρ S = ((asB (f ρ S)).bind fun c S1 => .ok (.bl (!c)) S1) := rfl
theorem fIf_ap {t : FT} {f g : FE} {ρ : Env} {S : Sto} : fIf t f g ρ S = ((t ρ S).bind fun c S1 => if c = true then f ρ S1 else g ρ S1) := rfl
theorem fNil_ap {ρ : Env} {S : Sto} : fNil  ρ S = (.ok [] S) := rfl
theorem fCons_ap {f : FE} {g : FA} {ρ : Env} {S : Sto} : fCons f g ρ S = ((f ρ S).bind fun d S1 => (g ρ S1).bind fun ds S2 => .ok (d :: ds) S2) := rfl
theorem fTup_ap {f : FA} {ρ : Env} {S : Sto} : fTup f ρ S = ((f ρ S).bind fun ds S1 => if ds.length ≤ capN then .ok (.tup ds) S1 else .bad) := rfl
theorem fLst_ap {f : FA} {ρ : Env} {S : Sto} : fLst f ρ S = ((f ρ S).bind fun ds S1 => if ds.length ≤ capN then .ok (.lst ds) S1 else .bad) := rfl
theorem fLstC_ap {f : FA} {ρ : Env} {S : Sto} : fLstC f ρ S = ((f ρ S).bind fun ds S1 => if ds.length ≤ capN then .ok (.cel S1.length) (S1 ++ [.lst ds]) else .bad) := rfl
theorem fNoPart_ap {ρ : Env} {S : Sto} : fNoPart  ρ S = (.ok none S) := rfl
theorem fPart_ap {f : FE} {ρ : Env} {S : Sto} : fPart f ρ S = ((f ρ S).bind fun d S1 => match d with
  | .int i => .ok (some i) S1
  | _ => .bad) := rfl
theorem fSl_ap {f : FE} {lo hi : FO} {ρ : Env} {S : Sto} : fSl f lo hi ρ S = ((f ρ S).bind fun d S1 => (lo ρ S1).bind fun l S2 => (hi ρ S2).bind fun h S3 => okO (slD d l h S3) S3) := rfl
theorem fNeg_ap {f : FE} {ρ : Env} {S : Sto} : fNeg f ρ S = ((f ρ S).bind fun d S1 => match d with
  | .int i => .ok (.int (-i)) S1
  | _ => .bad) := rfl
theorem fCB_ap {g : OpN} {f : FA} {ρ : Env} {S : Sto} : fCB g f ρ S = ((f ρ S).bind fun ds S1 => okO (g ds S1) S1) := rfl
theorem fIsi_ap {T : String} {f : FE} {ρ : Env} {S : Sto} : fIsi T f ρ S = ((f ρ S).bind fun d S1 => match tyD S1 d with
  | some t => .ok (.bl (isiB t T)) S1
  | none => .bad) := rfl
theorem fIsi2_ap {T U : String} {f : FE} {ρ : Env} {S : Sto} : fIsi2 T U f ρ S = ((f ρ S).bind fun d S1 => match tyD S1 d with
  | some t => .ok (.bl (isiB t T || isiB t U)) S1
  | none => .bad) := rfl
theorem fNext_ap {ρ : Env} {S : Sto} : fNext  ρ S = (.ok (.nx, ρ) S) := rfl
theorem fSeq_ap {f g : FS} {ρ : Env} {S : Sto} : fSeq f g ρ S = ((f ρ S).bind fun r S1 => match r.1 with
  | .nx => g r.2 S1
  | _ => .ok r S1) := rfl
theorem fRet_ap {f : FE} {ρ : Env} {S : Sto} : fRet f ρ S = ((f ρ S).bind fun d S1 => .ok (.rt d, ρ) S1) := rfl
theorem fRetF_ap {f : FE} {ρ : Env} {S : Sto} : fRetF f ρ S = ((f ρ S).bind fun d S1 => match frzD S1 d with
  | some (d', S2) => .ok (.rt d', ρ) S2
  | none => .bad) := rfl
theorem fgName_ap {i : Nat} {d : D} {ρ : Env} {S : Sto} : fgName i d ρ S = (.ok (ρ.set i (some d)) S) := rfl
theorem fgNil_ap {ds : List D} {ρ : Env} {S : Sto} : fgNil  ds ρ S = (match ds with
  | [] => .ok ρ S
  | _ => .bad) := rfl
theorem fgCons_ap {f : FG} {g : FGs} {ds : List D} {ρ : Env} {S : Sto} : fgCons f g ds ρ S = (match ds with
  | d :: r => (f d ρ S).bind fun ρ1 S1 => g r ρ1 S1
  | _ => .bad) := rfl
theorem fgTup_ap {n : Nat} {f : FGs} {d : D} {ρ : Env} {S : Sto} : fgTup n f d ρ S = (match d with
  | .tup xs => if xs.length = n then f xs ρ S else .bad
  | _ => .bad) := rfl
theorem fgSub_ap {fo fi : FE} {d : D} {ρ : Env} {S : Sto} : fgSub fo fi d ρ S = ((fo ρ S).bind fun o S1 => (fi ρ S1).bind fun i S2 => match setD o i d S2 with
  | some S3 => .ok ρ S3
  | none => .bad) := rfl
theorem fAsg_ap {f : FE} {g : FG} {ρ : Env} {S : Sto} : fAsg f g ρ S = ((f ρ S).bind fun d S1 => (g d ρ S1).bind fun ρ1 S2 => .ok (.nx, ρ1) S2) := rfl
theorem fPar_ap {i j : Nat} {f : FA} {ρ : Env} {S : Sto} : fPar i j f ρ S = ((f ρ S).bind fun ds S1 => match ds with
  | [x, y] => .ok (.nx, (ρ.set i (some x)).set j (some y)) S1
  | _ => .bad) := rfl
theorem fPar3_ap {i j k : Nat} {f : FA} {ρ : Env} {S : Sto} : fPar3 i j k f ρ S = ((f ρ S).bind fun ds S1 => match ds with
  | [x, y, z] => .ok (.nx, ((ρ.set i (some x)).set j (some y)).set k (some z)) S1
  | _ => .bad) := rfl
theorem fDrop_ap {f : FE} {ρ : Env} {S : Sto} : fDrop f ρ S = ((f ρ S).bind fun _ S1 => .ok (.nx, ρ) S1) := rfl
theorem fApp_ap {fo f : FE} {ρ : Env} {S : Sto} : fApp fo f ρ S = ((fo ρ S).bind fun o S1 => match lstOf S1 o with
  | some _ => (f ρ S1).bind fun d S2 => match appD o d S2 with
    | some S3 => .ok .non S3
    | none => .bad
  | none => .bad) := rfl
theorem fIfS_ap {t : FT} {f g : FS} {ρ : Env} {S : Sto} : fIfS t f g ρ S = ((t ρ S).bind fun c S1 => if c = true then f ρ S1 else g ρ S1) := rfl
theorem fiSeq_ap {f : FE} {ρ : Env} {S : Sto} : fiSeq f ρ S = ((f ρ S).bind fun d S1 => match iterOf S1 d with
  | some it => .ok it S1
  | none => .bad) := rfl
theorem fiTup_ap {f : FE} {ρ : Env} {S : Sto} : fiTup f ρ S = ((f ρ S).bind fun d S1 => match d with
  | .tup xs => .ok ⟨xs, none⟩ S1
  | _ => .bad) := rfl
theorem fiRng1_ap {f : FA} {ρ : Env} {S : Sto} : fiRng1 f ρ S = ((f ρ S).bind fun ds S1 => match ds with
  | [.int j] => if smallI j then .ok ⟨rangeD 0 j.toNat, none⟩ S1 else .bad
  | _ => .bad) := rfl
theorem fiRng2_ap {f : FA} {ρ : Env} {S : Sto} : fiRng2 f ρ S = ((f ρ S).bind fun ds S1 => match ds with
  | [.int i, .int j] => if smallI i && smallI j then .ok ⟨rangeD i (j - i).toNat, none⟩ S1 else .bad
  | _ => .bad) := rfl
theorem fiEnum_ap {f : FE} {ρ : Env} {S : Sto} : fiEnum f ρ S = ((f ρ S).bind fun d S1 => match iterOf S1 d with
  | some it => if it.cell = none then .ok ⟨enumD it.items, none⟩ S1 else .bad
  | none => .bad) := rfl
theorem fYes_ap {ρ : Env} {S : Sto} : fYes  ρ S = (.ok true S) := rfl
theorem fCall_ap {n : Nat} {g : List D → Sto → Res D} {f : FA} {ρ : Env} {S : Sto} : fCall n g f ρ S = ((f ρ S).bind fun ds S1 => if ds.length = n then g ds S1 else .bad) := rfl
theorem fCall0_ap {g : List D → Sto → Res D} {ρ : Env} {S : Sto} : fCall0 g ρ S = (g [] S) := rfl
theorem fChain_ap {r r' : Op2} {fa fb fc : FE} {ρ : Env} {S : Sto} : fChain r r' fa fb fc ρ S = ((fa ρ S).bind fun x S1 => (fb ρ S1).bind fun y S2 => (asB (okO (r x y S2) S2)).bind fun k S3 => if k = true then (fc ρ S3).bind fun z S4 => okO (r' y z S4) S4 else .ok (.bl false) S3) := rfl
theorem fBits_ap {f : FE} {ρ : Env} {S : Sto} : fBits f ρ S = ((f ρ S).bind fun d S1 => match d with
  | .int i => .ok (.int (Builtin.Int.intBits i : Nat)) S1
  | _ => .bad) := rfl
theorem fAddC_ap {fa fb : FE} {ρ : Env} {S : Sto} : fAddC fa fb ρ S = ((fa ρ S).bind fun x S1 => (fb ρ S1).bind fun y S2 => match addC x y S2 with
  | some xs => .ok (.cel S2.length) (S2 ++ [.lst xs])
  | none => .bad) := rfl
theorem fiAny_ap {f : FE} {ρ : Env} {S : Sto} : fiAny f ρ S = ((f ρ S).bind fun d S1 => match d with
  | .tup xs => .ok ⟨xs, none⟩ S1
  | d => match iterOf S1 d with
    | some it => .ok it S1
    | none => .bad) := rfl
end DL

set_option maxHeartbeats 4000000
/-! an own exception class over a class over ValueError whose __init__ says super().__init__(value) and stores it -/
namespace DL
open PySem PySem.Spec PyProof.Rows L2
/-- what the written part says of such an __init__ -/
structure InitAt (P : Program) (K : PySem.W.Frag) (mg : Str → Option Value) (C fI : Addr) (fd : FuncData) (st : Stmt) : Prop where
  oex : OexC K C
  iC : PySem.W.findIn K (.ref C) "__init__" = some (some (.ref fI))
  tI : PySem.W.typeIn K (.ref fI) = some (.type "function")
  nv : PySem.W.findIn K (.ref C) "value" = some none
  ms : mg "super" = none
  op : PySem.W.nsIn K cStatics "thirdparty.any" = some none
  tops : (P.main.scope.names.lookup ("super" : Str)).isSome = false
  cls : ∃ cd, PySem.W.clsIn K C = some cd
  sub : PySem.W.mroIn K C (.ref C) = some true
  sup : PySem.W.ks_superIn K C C "__init__" = some (some (.builtin "ValueError.__init__"))
  isV : PySem.W.subIn K (.ref C) (.type "ValueError") = some true
  exi : PySem.W.excInitIn K C [.type "ValueError", .type "Exception", .type "BaseException", .type "object"] "ValueError.__new__" = true
  fn : ∃ (qual : Str) (oc ccl cl : Value) (od cdd cld an : Option Addr) (osl ccs csl : Array (Option Value)) (dV kV doc pm ct : Value) (cc cda : Addr) (vs : Array Value) (file : Str) (tf : Tok),
    fd = PySem.W.ksFn "__init__" qual (defArgs st) (defBody st) (defScope st) dV kV doc pm an (.ref cda) ct cc ∧ K.lookup fI = some ⟨oc, od, .func fd, osl⟩ ∧ PySem.W.codeIn K (.ref cda) qual = true ∧ K.lookup cda = some ⟨ccl, cdd, .fields vs, ccs⟩ ∧
      vs[2]? = some (.str file tf) ∧ ((P.main.file : Str) == file) = true ∧ K.lookup cc = some ⟨cl, cld, .cell (some (.ref C)), csl⟩
/-- what the text says of it -/
structure InitT (st : Stmt) : Prop where
  body : ∃ p0 p1 p2 p3 p4 p5 p6 p7 p8 p9, defBody st = [.Expr (.Call (.Attribute (.Call (.Name "super" p0) [] [] p1) "__init__" p2) [.Name "value" p3] [] p4) p5, .Assign [.Attribute (.Name "self" p6) "value" p7] (.Name "value" p8) p9] ∧
    ∀ env, ∃ pl : Sem Bool, eval (.Call (.Attribute (.Call (.Name "super" p0) [] [] p1) "__init__" p2) [.Name "value" p3] [] p4) env = (do
      let ov ← attributeBase (.Call (.Name "super" p0) [] [] p1) "__init__" env (eval (.Call (.Name "super" p0) [] [] p1) env)
      standAt p2.atName
      let (f, first) ← holding [ov] (getMethod ov "__init__" pl)
      callWith p4 f first (backTo p4 (starEach [.Name "value" p3] env)) [])
  names : (defScope st).names.lookup ("super" : Str) = some .globalImplicit ∧ (defScope st).names.lookup ("__class__" : Str) = some .free ∧ (defScope st).names.lookup ("self" : Str) = some .local ∧ (defScope st).names.lookup ("value" : Str) = some .local
  free : ∀ y, (defScope st).names.lookup y = some .free → y = "__class__"
  nocell : ∀ x ∈ (defScope st).names, x.2 ≠ .cell
  co : (defScope st).isCoroutine = false
  gen : (defScope st).isGenerator = false
  kind : (defScope st).kind = .function
  head : ∃ ar, ((defArgs st).posonlyargs ++ (defArgs st).args).head? = some ar ∧ ar.arg = "self"
/-- its frame's context -/
def initCx (P : Program) (w : World) (K : PySem.W.Frag) (mg : Str → Option Value) (base : Heap) (A : Around) (outer : List PySem.Env) (s : Shared) (H : Hp) (env : PySem.Env) : Cx where
  prog := P
  w := w
  K := K
  mg := mg
  base := base
  A := A.deeper env
  N := ["self", "value"]
  s_0 := s
  H_0 := H
  env := env
  outer := outer
  stack := env :: outer
  ex := []
  fn := fun _ => false
  calm := true
  pn := []
  xe := fun _ _ => False
/-- what it promises -/
def spI (K : PySem.W.Frag) (C : Addr) : Sp := fun vs H Q E => ∃ (a : Addr) (v : V), vs = [.ref a, v] ∧ H a = some (exo a C none) ∧ ∀ dx, H dx = none → dx ≠ a → Q .non (upd (upd H dx (exd dx [("value", v)])) a (exo a C (some dx)))
section
variable {P : Program} {w : World} {K : PySem.W.Frag} {mg : Str → Option Value} {base : Heap}
theorem init_fn {CX : CXT} {k : Nat} {C fI : Addr} {fd : FuncData} {st : Stmt} (T : InitAt P K mg C fI fd st) (B : InitT st) : FnOk P w K mg base CX (k + 1) fI fd ["self", "value"] (spI K C) := by
  obtain ⟨qual, oc, ccl, cl, od, cdd, cld, an, osl, ccs, csl, dV, kV, doc, pm, ct, cc, cda, vs, file, tf, rfl, hlk, hcode, hcda, hvs, hfile, hcc⟩ := T.fn
  obtain ⟨p0, p1, p2, p3, p4, p5, p6, p7, p8, p9, hb, hm⟩ := B.body
  obtain ⟨nS, nC, nF, nV⟩ := B.names
  obtain ⟨cdC, hcdC⟩ := T.cls
  obtain ⟨ar, har, harn⟩ := B.head
  refine ⟨fun vs H Q E ⟨a, v, e, _⟩ => by rw [e]; rfl, ?_⟩
  rintro A outer s H args us vs' Q E hr e0 bnd rel ⟨a, v, rfl, ha, hq⟩
  have kin : K.In s.heap := e0.mod.kin.keeps (fun b o e => (e0.bs b o e).1)
  have nol : s.heap.NoLimit := e0.mod.nolimit.keeps (fun b o e => (e0.bs b o e).1)
  cases rel with
  | @cons _ u0 _ ur ra rr =>
  cases rr with
  | @cons _ u1 _ ur2 rv rr2 =>
  cases rr2
  obtain rfl : u0 = Value.ref a := ra
  refine PySem.ks_codeAny_call_defAt (fd := PySem.W.ksFn "__init__" qual (defArgs st) (defBody st) (defScope st) dV kV doc pm an (.ref cda) ct cc) (body := defBody st) hr.depth (kin _ _ hlk) rfl nol (PySem.W.codeRec_of kin hcode) rfl bnd B.nocell
    (fun x hx => ?_) (fun h₀ hns hk => ?_) B.co B.gen B.kind
  · simp only [List.zip_cons_cons, List.zip_nil_right, List.mem_cons, List.not_mem_nil, or_false] at hx
    rcases hx with rfl | rfl
    · exact nF
    · exact nV
  let env : PySem.Env := PySem.W.ksEnv qual (defScope st) s.heap.objs.size fI (.ref cda) cc
  show _root_.PySem.wpAt (model P w) (A.deeper env) (.func (defBody st) env) (execs (defBody st) env) _ _ _
  let X : Cx := initCx P w K mg base A outer s H env
  have hmem : ∀ {y : Str} {c : Addr}, env.cells.lookup y = some c → y = "__class__" ∧ c = cc := fun {y c} e => by
    have e : ([("__class__", cc)] : List (Str × Addr)).lookup y = some c := e
    simp only [List.lookup] at e
    split at e
    · rename_i q
      exact ⟨by simpa using q, by cases e; rfl⟩
    · cases e
  have hKb : ∀ b o, K.lookup b = some o → base.get? b = some o := fun b o e => e0.mod.kin b o e
  have I : Inv X [] [some (.ref a), some v] H { s with heap := h₀, toks := s.toks + (List.zip ["self", "value"] [Value.ref a, u1]).length } := by
    have noA : ∀ b : Addr, b ∉ X.ex := fun b z => absurd (show b ∈ ([] : List Addr) from z) (by simp)
    refine ⟨⟨e0.mod, B.kind, rfl, rfl, Nat.le_refl _, fun y z c e1 e2 => (hmem e1).1.trans (hmem e2).1.symm, fun y hy => ?_, fun y c z _ => ?_, fun _ => hr.hd, Around.frames_deeper e0.frames, .inr ⟨rfl, rfl⟩, fun b z => absurd z (noA b), e0.bs, e0.bsz, fun b _ _ => noA b, fun b z => absurd z (noA b), e0.funs, e0.frf⟩,
      rfl, e0.bare, Un.kept hk, ⟨_, hns, fun i y x e1 e2 e3 => ?_⟩, fun y c e => ?_, e0.hok.fresh (Nat.le_refl _), fun y c e => ?_, fun p hp => absurd (show p ∈ ([] : List (Addr × Obj)) ++ [] from hp) (by simp), e0.hok.kept hk, rfl⟩
    · rcases hy with hy | hy
      · exact absurd rfl (B.nocell _ (PySem.mem_of_lookup hy))
      · refine ⟨cc, ?_⟩
        rw [B.free y hy]
        rfl
    · have z : false = true := z
      cases z
    · have e1 : (["self", "value"] : List Str)[i]? = some y := e1
      match i, e1, e2 with
      | 0, e1, e2 =>
        cases e1; cases e2
        exact ⟨.ref a, rfl, .inl ⟨nF, rfl⟩⟩
      | 1, e1, e2 =>
        cases e1; cases e2
        exact ⟨u1, rv, .inl ⟨nV, rfl⟩⟩
      | i + 2, e1, e2 => cases e1
    · obtain ⟨rfl, rfl⟩ := hmem e
      exact ⟨_, _, hk _ _ (kin _ _ hcc), rfl⟩
    · obtain ⟨rfl, rfl⟩ := hmem e
      exact (e0.bs _ _ (hKb _ _ hcc)).2
  rw [hb]
  obtain ⟨pl, hpl⟩ := hm env
  obtain ⟨t0, ho0⟩ := exo_at I.hok ha
  refine PySem.ks_wpAt_execs_cons (PySem.ks_wpAt_Expr_any (PySem.ks_wpAt_MethodCall ?_ hpl) (by unfold interactive; simp [show env.scope.kind = _ from B.kind]) (by rfl))
  have atr : (("__init__" : Str) == ("__class__" : Str)) = false := by decide
  refine PySem.ks_wpAt_super_base (env := env) (s := _) nS nC atr rfl (I.kIn _ _ hlk) rfl har rfl (I.kIn _ _ hcda) rfl hvs hfile T.tops ?_
  obtain ⟨mb, bl1, bl2⟩ := e0.mod.blt
  have keep0 : ∀ b o, base.get? b = some o → h₀.get? b = some o := fun b o e => hk _ _ (e0.bs b o e).1
  refine PySem.W.ks_loadName_global B.kind nS (Calls.loadGlobal_builtin (env := env) (e0.mod.glob.keeps keep0) T.ms (bl1.keeps keep0) ((bl2 _ (by decide)).trans Boot.«super») ⟨rfl, ?_⟩)
  refine wpAny_loadName_free B.kind nC rfl ⟨_, I.kIn _ _ hcc, rfl⟩ ?_
  rw [harn]
  refine wpAny_loadName_local (v := .ref a) B.kind nF hns rfl ?_
  obtain ⟨oD, hD1, hD2⟩ : ∃ oD, h₀.get? C = some oD ∧ oD.data = .cls cdC := by
    unfold PySem.W.clsIn at hcdC
    split at hcdC
    · rename_i c d cd' sl ho
      cases hcdC
      exact ⟨_, I.kIn _ _ ho, rfl⟩
    · cases hcdC
  have hX : PySem.W.InstAt h₀ a { cls := .ref C, dict := none, data := .fields #[.ref t0, .none, .none, .none, .bool false, .none] } C none := ⟨ho0, rfl, rfl, trivial⟩
  refine PySem.ks_wpAny_isType_cls hD1 hD2 ⟨rfl, ?_⟩
  refine PySem.ks_wpAny_call_super hD1 hD2 hX.at_ hX.cls (fun c e => ?_) (PySem.W.looks_mroIn I.kIn T.sub) (fun h1 e1 k1 => ?_)
  · cases e
  have I1 : Inv X [] [some (.ref a), some v] H { s with heap := h1, toks := s.toks + (List.zip ["self", "value"] [Value.ref a, u1]).length } := I.kept k1
  have hX1 : PySem.W.InstAt h1 a { cls := .ref C, dict := none, data := .fields #[.ref t0, .none, .none, .none, .bool false, .none] } C none := ⟨k1 _ _ ho0, rfl, rfl, trivial⟩
  have hal : PySem.W.alongIn K "__init__" ((cdC.mro.dropWhile (· != .ref C)).drop 1) = some (some (.builtin "ValueError.__init__")) := by
    have z := T.sup
    unfold PySem.W.ks_superIn at z
    rw [hcdC] at z
    exact z
  refine PySem.W.kxs_getMethod PySem.W.kxs_ValueError e1 (PySem.W.looks_opaque I1.kIn T.op) (l₀ := cdC.mro) ?_ rfl I1.kIn hal (hX1.type.andThen (PySem.W.looks_subIn I1.kIn T.isV)) (PySem.W.ks_ne I1.kIn hX1 hcdC) atr ?_
  · exact fun A Q E s kk qq => wpAny_bind ((PySem.W.looks_clsIn I1.kIn hcdC) A _ E s kk (wpAny_pure qq))
  have k2 : ∀ b o, h1.get? b = some o → (h1.push (PySem.W.kxs_mw "ValueError.__init__" a)).get? b = some o := fun b o e => Heap.get?_push_of_some _ e
  have I2 := I1.kept (t' := s.toks + (List.zip ["self", "value"] [Value.ref a, u1]).length + 1) k2
  have hmw : (h1.push (PySem.W.kxs_mw "ValueError.__init__" a)).get? h1.objs.size = some (PySem.W.kxs_mw "ValueError.__init__" a) := Heap.get?_push_at rfl rfl
  obtain ⟨t2, ho2⟩ := exo_at I2.hok ha
  refine PySem.W.kxs_callWith (i := "ValueError.__init__") (x := a) (by rfl) (Calls.evalArgs_plain (Calls.spliced_cons (wpAny_Name (wpAny_loadName_local (v := u1) B.kind nV ((hns.keeps k1).keeps k2) rfl (Calls.spliced_nil ⟨hmw, ?_⟩)) (by decide))))
  obtain ⟨nm, N', qn, bs, bm, hdct, sn, sub, ab, col, dd, c0, c1, c2, c3, c5, hC, hT⟩ := PySem.W.excInit_of I2.kIn T.exi
  refine wpAny_call (codeAny_of_tree (show wpAny (model P w) (A.deeper env).in1 (callAny (.ref h1.objs.size) ⟨[u1], []⟩) _ _ _ from ?_))
  unfold callAny
  refine wpAny_bind (wpAny_load hmw ?_)
  simp only [PySem.W.kxs_mw, show (Value.type "method-wrapper" == Value.type "method" || Value.type "method-wrapper" == Value.type "builtin_function_or_method" || Value.type "method-wrapper" == Value.type "method-wrapper") = true from by decide, if_true]
  refine PySem.W.KFB.if_so (by decide) (wpAny_bind (PySem.W.check_bound_init F.excBase_ValueError.toExcCallFacts hC ho2 rfl (wpAny_bind (wpAny_pure (wpAny_pure ⟨plainId_quiet F.excBase_ValueError.init.plain _, codeAny_builtin F.excBase_ValueError.initEntry ?_⟩)))))
  refine PySem.W.exc_init_tree (cls := .ref C) (t0 := t2) (dv := none) (c2 := .none) (c3 := .none) (b4 := .bool false) ho2 (show 1 ≤ sizeLine by rw [sizeLine_eq]; omega) fun h3 k3 ho3 _ => ?_
  have J := I2.write (t' := s.toks + (List.zip ["self", "value"] [Value.ref a, u1]).length + 1) (x := a) (e := a) (o := exo a C none) (by rw [ha]; exact True.intro) (.inl rfl) k3 ⟨_, ho3⟩ (exo_ok ho3)
  have eu : upd H a (exo a C none) = H := funext fun b => by
    by_cases hb : b = a
    · rw [hb, upd_same, ha]
    · rw [upd_ne hb]
  rw [eu] at J
  have hp := pss_one (ps_ost (X := X) (f := "value") (p' := p7) (pos := p9) (o := .Name "self" p6) (e := .Name "value" p8) (pe_var (pos := p6) (i := 0) rfl (.inl nF)) (pe_var (pos := p8) (i := 1) rfl (.inl nV)))
  refine wpAt_of_wpAny (wpAny_mono (hp.run [] _ [some (.ref a), some v] H { nx := fun _ H' => Q .non H', rt := fun _ _ => False } J ?_) (fun fl s' hs => ?_) fun _ _ z => z.elim)
  · exact ⟨v, rfl, .ref a, rfl, a, C, rfl, T.oex, T.nv, .inl ⟨ha, hq⟩⟩
  · cases fl with
    | next =>
      obtain ⟨σ', H', J', z⟩ := hs
      exact ⟨V.non, H', J'.os, J'.bare, J'.base, J'.hok, rfl, z⟩
    | ret u => obtain ⟨_, _, _, _, _, z⟩ := hs; exact z.elim
    | brk => obtain ⟨_, _, _, z⟩ := hs; exact z.elim
    | cont => obtain ⟨_, _, _, z⟩ := hs; exact z.elim
end
end DL

set_option maxHeartbeats 4000000
/-! own exceptions raised -/
namespace DL
open PySem PySem.Spec PyProof.Rows L2
/-- an own exception class of the name c -/
structure XCls (P : Program) (K : PySem.W.Frag) (mg : Str → Option Value) (ca : Str → Addr) (c : Str) : Prop where
  ex : ∃ (fI : Addr) (fd : FuncData) (st : Stmt), InitAt P K mg (ca c) fI fd st ∧ InitT st ∧ L2.Binds K fd ["self", "value"] [] ∧ mg c = some (.ref (ca c))
def fRaise (c : Str) (f : FE) : FS := fun ρ S => (f ρ S).bind fun d S1 => .err c d S1
section
variable {X : Cx} {W : WX} {ca : Str → Addr} {e a b : Expr} {es : List Expr} {pos pos2 : Pos} {c : Str}
theorem pmk_x (T : XCls X.prog X.K X.mg ca c) {k : Nat} (hr : Room (k + 2) X.A) (tk : Takes X W) (hg : Gl X c) {p : Pos} {f : FE} (he : SE X W ca e f) (hdb : (c == ("__debug__" : Str)) = false := by decide)
    (hs : starEach [e] X.env = (false, eval e X.env) :: starEach [] X.env := by rfl) :
    PMk X (.Call (.Name c p) [e] [] pos) (fun σ H Q => ∃ A Z S ρ, SOk X.K A Z S H ∧ Sl X.K A (cut A Z S H) ρ σ ∧ Post X.K W ca A Z S H σ (f ρ S) fun B U I d => ∀ v, DR B (cut B Z U I) X.K v d → ∀ dx, I dx = none → Q (.ref (ca c)) (some dx) (upd I dx (.xd [("value", v)]))) := by
  obtain ⟨fI, fd, st, T1, T2, T3, T4⟩ := T.ex
  have m := pmk_oex (CX := L2.CX X.prog X.w) (x := c) (p := p) (pos := pos) (e := e) (es := []) (k := k + 1) (dvs := []) (ds := []) T1.oex T1.iC T1.tI (init_fn T1 T2) hr T3 .nil (passes_call tk fun _ _ _ _ h => h.elim) hg T4 (pa_cons he.pe pa_nil hs) hdb hs (by rfl)
  intro pins s σ H Q I ⟨A, Z, S, ρ, ok, sl, po⟩
  refine m pins s σ H Q I ?_
  refine ⟨A, Z, S, ρ, ok, sl, po.imp fun B U J d g q v rv => ?_⟩
  refine ⟨show 1 ≤ 1000 by decide, fun x hx => ⟨x, v, rfl, upd_same, fun dx hdx hne => ⟨rfl, dx, [("value", v)], upd_same, ?_, ?_, ?_⟩⟩⟩
  · rw [upd_ne hne, upd_same]
  · rw [upd_ne hne] at hdx
    exact hdx
  · have hdx2 : J dx = none := by
      rw [upd_ne hne] at hdx
      exact hdx
    have e : upd (del (upd (upd (upd J x (exo x (ca c) none)) dx (exd dx [("value", v)])) x (exo x (ca c) (some dx))) x) dx (.xd [("value", v)]) = upd J dx (.xd [("value", v)]) := by
      funext b
      by_cases h1 : b = dx
      · rw [h1, upd_same, upd_same]
      · rw [upd_ne h1, upd_ne h1]
        by_cases h2 : b = x
        · rw [h2, del_same, hx]
        · rw [del_ne h2, upd_ne h2, upd_ne h1, upd_ne h2]
    rw [e]
    exact q v rv dx hdx2
/-- raise C(e) -/
theorem ss_raise (T : XCls X.prog X.K X.mg ca c) {k : Nat} (hr : Room (k + 2) X.A) (tk : Takes X W) (hc : X.calm = true) (hg : Gl X c) {p : Pos} {f : FE} (he : SE X W ca e f) (hdb : (c == ("__debug__" : Str)) = false := by decide)
    (hs : starEach [e] X.env = (false, eval e X.env) :: starEach [] X.env := by rfl) : SS X W ca (.Raise (some (.Call (.Name c p) [e] [] pos)) none pos2) (fRaise c f) := by
  refine ss_of (ps_raise hc tk (pmk_x T hr tk hg he hdb hs)) fun D σ H ⟨A, Z, S, ρ, ok, sl, po⟩ => ?_
  refine ⟨A, Z, S, ρ, ok, sl, (Post.split po).imp fun B U J d g q v rv dx hdx => ?_⟩
  exact q B (upd J dx (.xd [("value", v)])) dx v σ (.new g.ok hdx) (cut_new g.ok hdx) (rv.mono (List.prefix_refl _) (cut_upd hdx))
end
end DL

set_option maxHeartbeats 4000000
/-! try: .. except X as n: y = n, the exception kept behind it -/
namespace DL
open PySem PySem.Spec PyProof.Rows L2
section
variable {X : Cx} {pins : List (Addr × Obj)} {σ : L2.St} {H : Hp} {s : Shared}
theorem exV_ok {P : Program} {w : World} {I : Hp} {h : Heap} {a : Addr} {cls : Value} {d : Option Addr} {oe : Obj} {vs : Array Value} (e : h.get? a = some oe) (z : Zc cls d oe) (dt : oe.data = .fields vs) : ObjOk P w I h a (ExV cls d a) :=
  ⟨⟨oe, vs, e, z, dt⟩, ⟨oe, e⟩, fun h1 h2 ⟨o, us, q1, q2, q3⟩ k => ⟨o, us, k o q1, q2, q3⟩⟩
/-- an exception that is held by a pin is known from now on -/
theorem inv_track {a : Addr} {oe : Obj} {cls : Value} {d : Option Addr} {vs : Array Value} (I : Inv X ((a, oe) :: pins) σ H s) (z : Zc cls d oe) (dt : oe.data = .fields vs) (n0 : X.s_0.heap.get? a = none) (np : ∀ p ∈ X.pn ++ pins, p.1 ≠ a) : Inv X pins σ (upd H a (ExV cls d a)) s := by
  obtain ⟨e1, e2, e3, e4, e5⟩ := I.pin (a, oe) (List.mem_append_right _ List.mem_cons_self)
  have off : ∀ b u, H b = some u → b ≠ a := fun b u q => ne_of_none q e2
  refine ⟨I.ok, I.os, I.bare, ⟨I.base.keep, I.base.slot, fun b o q n x => ?_, I.base.there, fun b xs q => ?_, fun b o u q => ?_, fun b ps q => ?_⟩, I.loc, I.cell, ?_, fun x c q => ?_, fun p hp => ?_, I.hok.laidN (fun _ _ q => q) e2 (exV_ok e1 z dt), I.len⟩
  · have nb : b ≠ a := fun y => by rw [y, n0] at q; cases q
    rw [upd_ne nb]
    exact I.base.free b o q n x
  · have q2 := I.base.tups b xs q
    rw [upd_ne (off _ _ q2)]
    exact q2
  · have q2 := I.base.frzs b o u q
    rw [upd_ne (off _ _ q2)]
    exact q2
  · obtain ⟨more, q2⟩ := I.base.tbls b ps q
    exact ⟨more, by rw [upd_ne (off _ _ q2)]; exact q2⟩
  · rw [upd_ne (Ne.symm e3)]
    exact I.free
  · have nc : c ≠ a := fun y => by
      obtain ⟨v, o, h1, h2⟩ := I.cell x c q
      rw [y, e1] at h1
      cases h1
      exact e5 v h2
    rw [upd_ne nc]
    exact I.freeC x c q
  · obtain ⟨f1, f2, f3, f4, f5⟩ := I.pin p (by
      rcases List.mem_append.mp hp with m | m
      · exact List.mem_append_left _ m
      · exact List.mem_append_right _ (List.mem_cons_of_mem _ m))
    exact ⟨f1, by rw [upd_ne (np p hp)]; exact f2, f3, f4, f5⟩
end
/-- what is wished of an exception that is caught and kept in slot j -/
def wKeep (K : PySem.W.Frag) (c : Value) (i j : Nat) (D : Ends) : WX := fun cls d σ H =>
  PySem.W.exmOne K cls c = some true ∧ ∀ a, H a = none → D.nx (((σ.set i (some (.ref a))).set j (some (.ref a))).set i none) (upd H a (ExV cls d a))
section
variable {X : Cx} {x n y : Str} {c : Value} {i j : Nat} {body : List Stmt} {np p1 p2 p3 pos pos' : Pos} {tb : WX → TS}
theorem ps_try_keep (hs : X.stack = X.env :: X.outer) (hf : X.env.frame = some X.env.locals) (hx : X.ex = []) (hN : X.N.Nodup) (hi : X.N[i]? = some n) (hln : X.env.kindOf n = some .local) (hj : X.N[j]? = some y) (hly : X.env.scope.names.lookup y = some .local) (hc : Names X x c)
    (hdn : (n == ("__debug__" : Str)) = false) (hdc : (n == ("__classdict__" : Str)) = false) (hsw : swapsWith (.Name n p2) (some (.Name y p1)) p3.line X.env = pure false) (hij : i < X.N.length)
    (hb : ∀ (W : WX) (pn : List (Addr × Obj)) (xe : Value → Shared → Prop), Takes (X.tr pn xe) W → PassesOwn (model X.prog X.w) X.A X.env xe → PSs (X.tr pn xe) body (tb W)) :
    PS X (.Try body [.ExceptHandler (some (.Name x np)) (some n) [.Assign [.Name y p1] (.Name n p2) p3] pos'] [] [] pos) (fun D σ H => tb (wKeep X.K c i j D) D σ H) := by
  refine ⟨fun pins s σ H D I h => ?_⟩
  have ok := I.ok
  have hfr : X.A.frames = some (X.env :: X.outer) := ok.frames.trans (by rw [hs])
  refine wpAny_Try_except (wpAny_mono ((hb (wKeep X.K c i j D) (X.pn ++ pins) (fun e u1 => wpAny (model X.prog X.w) X.A (noteFrame e X.env) (fun _ u2 => wpAny (model X.prog X.w) X.A (setFlight e none)
    (fun _ u3 => wpAny (model X.prog X.w) X.A (handleBy e X.env [.ExceptHandler (some (.Name x np)) (some n) [.Assign [.Name y p1] (.Name n p2) p3] pos']) (SP X pins D) X.xe u3) X.xe u2) X.xe u1)
    (fun u s1 q => ?_) PassesOwn.looking).run [] s σ H D (I.toTry _) h) (fun f s1 q => ?_) (fun _ _ q => q))
  · obtain ⟨a, B, sI, pins1, σ1, H1, cls, d, rfl, J1, nb, up, sky, na, os, ag, em, yes⟩ := q
    have J : Inv X pins σ1 H1 sI := J1.ofTry ok
    show wpAny (model X.prog X.w) X.A (noteFrame (.ref a) X.env) _ _ _
    refine Sky.land Zc.steady hfr hf (hs ▸ sky) fun g1 fl1 w1 => ?_
    have L1 : Inv X pins σ1 H1 { s1 with heap := g1 } := J.landed nb fl1.1 (up.trans w1) os ag
    obtain ⟨o1, us1, at1, z1, dt1⟩ := fl1.there
    have notF : ∀ {h : Heap} {o : Obj} {vs : Array Value}, h.FunFrames B (X.env :: X.outer) → h.get? a = some o → o.data = .fields vs → a ∉ frs (X.env :: X.outer) := fun {h o vs} ff e dd hm =>
      let ⟨_, o', e', hnf⟩ := ff.mem hm
      hnf _ (by rw [e] at e'; cases e'; exact dd)
    have nfr := notF fl1.2.2.1 at1 dt1
    have nL : a ≠ X.env.locals := fun z => nfr (List.mem_filterMap.mpr ⟨X.env, List.mem_cons_self, hf.trans (by rw [z])⟩)
    have nF : a ∉ X.fs := fun hm =>
      let ⟨e, he, q⟩ := List.mem_filterMap.mp hm
      nfr (List.mem_filterMap.mpr ⟨e, List.mem_cons_of_mem _ he, q⟩)
    have Ba : B.get? a = none := fl1.2.1
    have nI : sI.heap.get? a = none := by
      cases e : sI.heap.get? a with
      | none => rfl
      | some o =>
        have z := nb a o e (by rw [hs]; exact nfr)
        rw [Ba] at z
        cases z
    have n0 : X.s_0.heap.get? a = none := by
      cases e : X.s_0.heap.get? a with
      | none => rfl
      | some o =>
        obtain ⟨o2, z⟩ := J.base.there a o e (by rw [hx]; exact fun z => nomatch z)
        rw [nI] at z
        cases z
    have npn : ∀ p ∈ X.pn ++ pins, p.1 ≠ a := fun p hp z => by
      have z1 := (J.pin p hp).1
      rw [z, nI] at z1
      cases z1
    have S1 := L1.suite at1 dt1 na nL nF
    refine wpAny_handleBy_cons (codeAny_handlers_test ?_) (by intro q; cases q)
    have LT : PySem.W.Looks (model X.prog X.w) g1 (typeOf (.ref a)) cls := fun A Q E s k q => wpAny_typeOf_ref (k _ _ at1) (by rw [z1.1]; exact q)
    have LM := PySem.W.exm_one (M := model X.prog X.w) L1.kIn LT em
    have test : ∀ {Q : Value → Shared → Prop} {E : Value → Shared → Prop}, Q c { s1 with heap := g1 } → wpAny (model X.prog X.w) (X.A.mark (some (.ref a))) (eval (.Name x np) X.env) Q E { s1 with heap := g1 } := fun {Q E} q => by
      obtain ⟨hg, hdbg, hm | ⟨hm, hv, hnn⟩⟩ := hc
      · exact ld_glob (X := X.suite a ((a, o1) :: (X.pn ++ pins))) S1 hg hm q hdbg
      · exact ld_blt (X := X.suite a ((a, o1) :: (X.pn ++ pins))) S1 hg hm hv q hnn hdbg
    refine test (LM.here (codeAny_handlers_suite_as (HandSPX.lands_againZ fl1 fun g2 fl2 w2 => ?_)))
    have L2' : Inv X pins σ1 H1 { s1 with heap := g2 } := J.landed nb fl2.1 ((up.trans w1).trans w2) os ag
    obtain ⟨o2, us2, at2, z2, dt2⟩ := fl2.there
    refine store_ok (X := X.suite a ((a, o2) :: (X.pn ++ pins))) (v := .ref a) (L2'.suite at2 dt2 na nL nF) hN hi (.inl hln) rfl (fun s5 S5 => ?_) (.inr hln)
    have su : PSs (X.suite a ((a, o2) :: (X.pn ++ pins))) [.Assign [.Name y p1] (.Name n p2) p3] _ := pss_one (ps_set (i := j) hN hj (.inl hly) (pe_var (pos := p2) (i := i) hi (.inl hln) hdn hdc) hsw (.inr hly))
    have li : i < σ1.length := by rw [J.len]; exact hij
    refine wpAny_mono (su.run [] s5 (σ1.set i (some (.ref a))) H1 { nx := fun σ6 H6 => σ6 = (σ1.set i (some (.ref a))).set j (some (.ref a)) ∧ H6 = H1, rt := fun _ _ => False } S5 ⟨.ref a, List.getElem?_set_self li, rfl, rfl⟩) (fun f s6 q => ?_) (fun _ _ z => False.elim z)
    cases f with
    | next =>
      obtain ⟨σ6, H6, S6, rfl, rfl⟩ := q
      have U : Inv X ((a, o2) :: pins) _ H6 s6 := ⟨ok, S6.os, S6.bare, S6.base, S6.loc, S6.cell, S6.free, S6.freeC, fun p hp => S6.pin p (by
        rw [List.append_nil]
        rcases List.mem_append.mp hp with m | m
        · exact List.mem_cons_of_mem _ (List.mem_append_left _ m)
        · rcases List.mem_cons.mp m with m | m
          · rw [m]; exact List.mem_cons_self
          · exact List.mem_cons_of_mem _ (List.mem_append_right _ m)), S6.hok, S6.len⟩
      exact gone_ok U hN hi hln fun s7 J7 => ⟨_, _, inv_track J7 z2 dt2 n0 npn, yes a na⟩
    | brk => obtain ⟨_, _, _, z⟩ := q; exact z.elim
    | cont => obtain ⟨_, _, _, z⟩ := q; exact z.elim
    | ret u => obtain ⟨_, _, _, _, _, z⟩ := q; exact z.elim
  · cases f with
    | next =>
      obtain ⟨σ2, H2, J2, z⟩ := q
      exact wpAny_execs_nil ⟨σ2, H2, J2.ofTry ok, z⟩
    | ret u =>
      obtain ⟨v, σ2, H2, J2, r, z⟩ := q
      exact ⟨v, σ2, H2, J2.ofTry ok, r, z⟩
    | brk =>
      obtain ⟨σ2, H2, J2, z⟩ := q
      exact ⟨σ2, H2, J2.ofTry ok, z⟩
    | cont =>
      obtain ⟨σ2, H2, J2, z⟩ := q
      exact ⟨σ2, H2, J2.ofTry ok, z⟩
end
end DL

set_option maxHeartbeats 4000000
/-! lambdas without parameters: where they are made, what they do when they are called later -/
namespace DL
open PySem PySem.Spec PyProof.Rows L2
/-- where a lambda was made: the data -/
structure LW where
  H : Hp
  A : List Addr
  Z : List Addr
  S : Sto
structure LatD (ω : LW) (A Z : List Addr) (S : Sto) (H : Hp) : Prop where
  pre : ω.A <+: A
  ex : ∀ b o, cut ω.A ω.Z ω.S ω.H b = some o → cut A Z S H b = some o
section
variable {ω : LW} {X : Cx} {pins : List (Addr × Obj)} {σ : L2.St} {H : Hp} {s : Shared}
theorem LatD.grow {K : PySem.W.Frag} {A A' Z : List Addr} {S S' : Sto} {H' : Hp} (l : LatD ω A Z S H) (g : Grow K Z A S H A' S' H') : LatD ω A' Z S' H' := ⟨l.pre.trans g.pre, fun b o e => g.ex b o (l.ex b o e)⟩
theorem LatD.grow0 {K : PySem.W.Frag} {A A' Z : List Addr} {S S' : Sto} {H' : Hp} (l : LatD ω A Z S H) (g : Grow0 K Z A S H A' S' H') : LatD ω A' Z S' H' := ⟨l.pre.trans g.pre, fun b o e => g.ex b o (l.ex b o e)⟩
/-- what a lambda does when it is called at a later state -/
structure Cal (P : Program) (w : World) (K : PySem.W.Frag) (mg : Str → Option Value) (base : Heap) (ca : Str → Addr) (k : Nat) (ω : LW) (f : Addr) (h : Sto → Res D) : Prop where
  obj : ∀ (s : Shared) (H : Hp) (A Z : List Addr) (S : Sto), HOk P w H s.heap → LatD ω A Z S H → ∃ oc od fd osl, s.heap.get? f = some ⟨oc, od, .func fd, osl⟩
  run : ∀ (A : Around) (outer : List PySem.Env) (s : Shared) (H : Hp) (Q : VK) (E : XK) (B Z : List Addr) (S : Sto), Room k A → A.guards = some [] → Env0 P w K mg base A outer s H → SOk K B Z S H → LatD ω B Z S H →
    Post K (fun c d _ H' => E c d H') ca B Z S H [] (h S) (fun C T I d => ∀ v, DR C (cut C Z T I) K v d → Q v I) → codeAny (model P w) A (.call (.ref f) ⟨[], []⟩) (CR (L2.CX P w) outer P w H s Q E) s
/-- a lambda's object -/
def LamO (q : Str) (params : Arguments) (body : Expr) (scope : Scope) (clo : List (Str × Addr)) (f c' : Addr) : HO :=
  .ext fun h => ∃ pm ctv, h.get? f = some (PySem.W.kla_obj "<lambda>" q params body scope clo pm c' ctv)
theorem lamO_at {P : Program} {w : World} {I : Hp} {h : Heap} {q : Str} {params : Arguments} {body : Expr} {scope : Scope} {clo : List (Str × Addr)} {f c' : Addr} (ok : HOk P w I h) (e : I f = some (LamO q params body scope clo f c')) :
    ∃ pm ctv, h.get? f = some (PySem.W.kla_obj "<lambda>" q params body scope clo pm c' ctv) := by
  have x : ObjOk P w I h f (.ext fun h => ∃ pm ctv, h.get? f = some (PySem.W.kla_obj "<lambda>" q params body scope clo pm c' ctv)) := ok f _ e
  exact x.1
theorem codeO_at {P : Program} {w : World} {I : Hp} {h : Heap} {c : Addr} {q : Str} (ok : HOk P w I h) (e : I c = some (LamX.CodeO c q)) : ∃ (oc : Obj) (vs : Array Value) (t : Tok), h.get? c = some oc ∧ oc.data = .fields vs ∧ vs[1]? = some (.str q t) := by
  have x : ObjOk P w I h c (.ext fun h => ∃ (oc : Obj) (vs : Array Value) (t : Tok), h.get? c = some oc ∧ oc.data = .fields vs ∧ vs[1]? = some (.str q t)) := ok c _ e
  exact x.1
/-- the lambda's body is entered at a later state -/
theorem lam_enter {base : Heap} {A : Around} {outer : List PySem.Env} {E : XK} {scope : Scope} {f c' : Addr} {h₁ : Heap} {tk : Nat} {HZ : Hp} {s1 : Shared} (I : Inv X pins σ H s) (L : LamX.LamS X.env.scope scope) (e0 : Env0 X.prog X.w X.K X.mg base A outer s1 HZ) (hd : A.handled = none)
    (cellK : ∀ y c v, X.env.cells.lookup y = some c → s.heap.IsCell c v → s1.heap.IsCell c v ∧ HZ c = none) (hns : h₁.Ns s1.heap.objs.size fun y => ([] : List (Str × Value)).reverse.lookup y) (kp : ∀ b o, s1.heap.get? b = some o → h₁.get? b = some o) :
    Inv (LamX.lamCx { X with base := base } A outer s1 HZ E scope f c') [] σ HZ { s1 with heap := h₁, toks := tk } := by
  have has := L.has I.ok
  have cel : ∀ {y c}, (cloFrom X.env.cells scope.names []).lookup y = some c → X.env.cells.lookup y = some c := fun {y c} e => by
    rcases cloFrom_mem (PySem.mem_of_lookup e) with hm | ⟨h1, h2⟩
    · cases hm
    · obtain ⟨c1, hc⟩ := has _ h1 rfl
      have hc : X.env.cells.lookup y = some c1 := hc
      rw [hc, show c = c1 from by rw [h2, hc] <;> rfl]
  have fre : ∀ {y}, scope.names.lookup y = some .free → ∃ c, (cloFrom X.env.cells scope.names []).lookup y = some c := fun {y} hl =>
    mem_lookup (cloFrom_has (cells := X.env.cells) (acc := []) (PySem.mem_of_lookup hl))
  have up : ∀ {c : Addr} {v : Option Value}, s1.heap.IsCell c v → h₁.IsCell c v := fun {c v} ⟨o, ho, q⟩ => ⟨o, kp _ _ ho, q⟩
  have nA : ∀ b : Addr, b ∉ (LamX.lamCx { X with base := base } A outer s1 HZ E scope f c').ex := fun b z => nomatch (show b ∈ ([] : List Addr) from z)
  refine ⟨⟨e0.mod, L.kind, rfl, rfl, Nat.le_refl _, fun y z c e1 e2 => I.ok.inj y z c (cel e1) (cel e2), fun y hy => ?_, fun y c z _ => ?_, fun _ => hd, Around.frames_deeper e0.frames, .inr ⟨rfl, rfl⟩, fun b z => absurd z (nA b), e0.bs, e0.bsz, fun b _ _ => nA b,
      fun b z => absurd z (nA b), e0.funs, e0.frf⟩, rfl, e0.bare, Un.kept kp, ⟨_, hns, fun i y v e1 e2 e3 => ?_⟩, fun y c e => ?_, e0.hok.fresh (Nat.le_refl _), fun y c e => ?_, fun q hq => (nomatch (show q ∈ ([] : List (Addr × Obj)) from hq)), e0.hok.kept kp, I.len⟩
  · rcases hy with hy | hy
    · exact absurd rfl (L.own _ (PySem.mem_of_lookup (show scope.names.lookup y = some .cell from hy))).2
    · exact fre hy
  · exact nomatch (show false = true from z)
  · rcases (show Vis scope y from e3) with k | k | k
    · exact absurd rfl (L.own _ (PySem.mem_of_lookup k)).1
    · exact absurd rfl (L.own _ (PySem.mem_of_lookup k)).2
    · obtain ⟨m, hn, hl⟩ := I.loc
      have hk := L.free _ (PySem.mem_of_lookup k) rfl
      obtain ⟨u, r, q⟩ := hl i y v e1 e2 (hk.elim (fun k => .inr (.inl k)) (fun k => .inr (.inr k)))
      obtain ⟨c2, h2⟩ := fre k
      refine ⟨u, r, .inr ⟨.inr k, c2, h2, up ?_⟩⟩
      rcases q with ⟨k', _⟩ | ⟨_, c3, e', z⟩
      · have k' : X.env.scope.names.lookup y = some .local := k'
        rcases hk with k2 | k2 <;> rw [show X.env.scope.names.lookup y = _ from k2] at k' <;> cases k'
      · rw [cel h2] at e'
        cases e'
        exact (cellK y _ _ (cel h2) z).1
  · obtain ⟨u, z⟩ := I.cell y c (cel e)
    exact ⟨u, up (cellK y c u (cel e) z).1⟩
  · obtain ⟨u, z⟩ := I.cell y c (cel e)
    exact (cellK y c u (cel e) z).2
/-- a lambda that stands in the maker's state does later what its body says of the maker's slots -/
theorem cal_of {base : Heap} {ca : Str → Addr} {k : Nat} {f c' : Addr} {params : Arguments} {body : Expr} {scope : Scope} {A Z : List Addr} {S : Sto} {ρ : Env} {fb : FE} (I : Inv X pins σ H s) (L : LamX.LamS X.env.scope scope)
    (ef : cut A Z S H f = some (LamO (X.env.qual ++ "<lambda>") params body scope (cloFrom X.env.cells scope.names []) f c')) (ec : cut A Z S H c' = some (LamX.CodeO c' (X.env.qual ++ "<lambda>"))) (sl : Sl X.K A (cut A Z S H) ρ σ)
    (hbase : ∀ y c, X.env.cells.lookup y = some c → ∀ o, s.heap.get? c = some o → base.get? c = some o) (hbind : ∀ (q : Str) (cl : List (Str × Addr)) (pm cv ctv : Value), bindArgs (PySem.W.kla_fn "<lambda>" q params body scope cl pm cv ctv) ⟨[], []⟩ = pure [])
    (hbody : ∀ (A : Around) (outer : List PySem.Env) (s : Shared) (H : Hp) (E : XK), Room k (LamX.lamCx { X with base := base } A outer s H E scope f c').A → (LamX.lamCx { X with base := base } A outer s H E scope f c').A.guards = some [] → Takes (LamX.lamCx { X with base := base } A outer s H E scope f c') (WD E) →
      PassesOwn (model X.prog X.w) (LamX.lamCx { X with base := base } A outer s H E scope f c').A (LamX.lamCx { X with base := base } A outer s H E scope f c').env (LamX.lamCx { X with base := base } A outer s H E scope f c').xe → SE (LamX.lamCx { X with base := base } A outer s H E scope f c') (WD E) ca body fb) :
    Cal X.prog X.w X.K X.mg base ca (k + 1) ⟨H, A, Z, S⟩ f (fun T => fb ρ T) := by
  refine ⟨fun s1 H1 B Z1 T hok l => ?_, ?_⟩
  · obtain ⟨pm, ctv, e⟩ := lamO_at hok (cut_sub (l.ex _ _ ef))
    exact ⟨_, _, _, _, e⟩
  rintro A1 outer s1 H1 Q E B Z1 T hr hgu e0 ok l po
  have hf1 := cut_sub (l.ex _ _ ef)
  have hc1 := cut_sub (l.ex _ _ ec)
  obtain ⟨pm, ctv, of1⟩ := lamO_at e0.hok hf1
  obtain ⟨oc, vs, t, hoc, hdc, hvc⟩ := codeO_at e0.hok hc1
  refine PySem.W.kla_callFunE hr.depth of1 rfl L.co L.gen rfl ⟨c', oc, vs, t, rfl, hoc, hdc, hvc⟩ ?_
  rw [hbind]
  refine wpAny_pure (wpAny_newFunctionEnv (fun y hy => (L.own y hy).2) (fun y hy => nomatch hy) (fun h₁ hns hsb => ⟨(e0.mod.nolimit.keeps fun b o e => (e0.bs b o e).1).fresh _ hsb, ?_⟩) L.kind)
  show codeAny _ _ (.expr body (LamX.lamEnv { X with base := base } scope s1.heap.objs.size f c')) _ _
  have kp : ∀ b o, s1.heap.get? b = some o → h₁.get? b = some o := fun b o e => hsb.extBut b o (Nat.ne_of_lt (Heap.lt_size e)) (Heap.get?_push_of_some _ e)
  have J : Inv (LamX.lamCx { X with base := base } A1 outer s1 H1 E scope f c') [] σ H1 { s1 with heap := h₁, toks := s1.toks + ([] : List (Str × Value)).length } :=
    lam_enter I L e0 hr.hd (fun y c v hy ⟨o, ho, hd⟩ => let ⟨q1, q2⟩ := e0.bs c o (hbase y c hy o ho); ⟨⟨o, q1, hd⟩, q2⟩) hns kp
  have hse := hbody A1 outer s1 H1 E (hr.deeper _) hgu (takes_of rfl rfl rfl rfl) (passes_of rfl)
  refine PySem.W.kla_codeExpr (wpAny_mono (hse.pe.run [] _ _ H1 Q J ⟨B, Z1, T, ρ, ok, sl.mono l.pre l.ex, po.sig _⟩) (fun v s' q => ?_) fun _ _ q => q)
  obtain ⟨u, H2, J2, r2, q2⟩ := q
  exact ⟨u, H2, J2.os, J2.bare, J2.base, J2.hok, r2, q2⟩
end
end DL

set_option maxHeartbeats 4000000
/-! a lambda is made -/
namespace DL
open PySem PySem.Spec PyProof.Rows L2
/-- the maker's table: as it was, or longer by one code object -/
def TabStep (P : Addr) (q : Str) (c' : Addr) (H H1 : Hp) : Prop := LamX.TabS H1 P q ∧ H1 c' = some (LamX.CodeO c' q) ∧ (H1 = H ∨ ∃ ps more, H P = some (.tbl ps) ∧ H c' = none ∧ H1 = upd (upd H P (.tbl (ps ++ more))) c' (LamX.CodeO c' q))
theorem cut_code {K : PySem.W.Frag} {A Z : List Addr} {S : Sto} {H : Hp} {c : Addr} {q : Str} (ok : SOk K A Z S H) (e : H c = some (LamX.CodeO c q)) : cut A Z S H c = some (LamX.CodeO c q) := by
  refine cut_some.mpr ⟨e, fun z => (ok.hid c z).1.2 q e, fun ⟨i, x, h1, h2, h3⟩ => ?_⟩
  cases x with
  | lst ds =>
    obtain ⟨a, vs, e1, e2, _⟩ := ok.at_ i _ ds h2 (.inl rfl)
    rw [h1] at e1
    cases e1
    rw [e] at e2
    unfold LamX.CodeO at e2
    cases e2
  | lk ds =>
    obtain ⟨a, vs, e1, e2, _⟩ := ok.at_ i _ ds h2 (.inr rfl)
    rw [h1] at e1
    cases e1
    rw [e] at e2
    unfold LamX.CodeO at e2
    cases e2
  | gone => cases h3
  | tab P q2 =>
    obtain ⟨e1, ps, e2, _⟩ := ok.tab i P q2 h2
    rw [h1] at e1
    cases e1
    rw [e] at e2
    unfold LamX.CodeO at e2
    cases e2
theorem TabStep.grow {K : PySem.W.Frag} {A Z : List Addr} {S : Sto} {H H1 : Hp} {P c' : Addr} {q : Str} {i : Nat} (ok : SOk K A Z S H) (hi : S[i]? = some (.tab P q)) (t : TabStep P q c' H H1) : Grow K Z A S H A S H1 := by
  obtain ⟨t1, t2, t3⟩ := t
  rcases t3 with rfl | ⟨ps, more, e1, e2, rfl⟩
  · exact .refl ok
  · obtain ⟨hA, _⟩ := ok.tab i P q hi
    have hPc : P ≠ c' := ne_of_none e1 e2
    have lP : Live A S P := ⟨i, _, hA, hi, rfl⟩
    have off : ∀ b o, H b = some o → b ≠ P → upd (upd H P (.tbl (ps ++ more))) c' (LamX.CodeO c' q) b = some o := fun b o e n => by
      rw [upd_ne (ne_of_none e e2), upd_ne n]
      exact e
    have ex : ∀ b o, cut A Z S H b = some o → cut A Z S (upd (upd H P (.tbl (ps ++ more))) c' (LamX.CodeO c' q)) b = some o := fun b o e => by
      obtain ⟨f1, f2, f3⟩ := cut_some.mp e
      exact cut_some.mpr ⟨off b o f1 (fun z => f3 (z ▸ lP)), f2, f3⟩
    have hz : ∀ b ∈ Z, b ≠ P := fun b hb z => (ok.hid b hb).2 (z ▸ List.mem_iff_getElem?.mpr ⟨i, hA⟩)
    have hidE : ∀ b ∈ Z, upd (upd H P (.tbl (ps ++ more))) c' (LamX.CodeO c' q) b = H b := fun b hb => by
      rw [upd_ne (fun z => (ok.hid b hb).1.1 (by rw [z]; exact e2)), upd_ne (hz b hb)]
    refine ⟨List.prefix_refl _, ⟨ok.len, ok.nd, fun a ha => ?_, fun b hb => ?_, fun j x ds hc hd => ?_, fun j P' q' e => ?_⟩, ex, hidE, fun _ _ e => e⟩
    · by_cases h1 : a = c'
      · rw [h1, upd_same]; simp
      · rw [upd_ne h1]
        by_cases h2 : a = P
        · rw [h2, upd_same]; simp
        · rw [upd_ne h2]
          exact ok.there a ha
    · rw [hidE b hb]
      exact ok.hid b hb
    · obtain ⟨a, vs, k1, k2, k3⟩ := ok.at_ j x ds hc hd
      refine ⟨a, vs, k1, off a _ k2 (fun z => ?_), k3.mono (List.prefix_refl _) ex⟩
      rw [z, e1] at k2
      cases k2
    · by_cases hj : j = i
      · subst hj
        rw [hi] at e
        cases e
        exact ⟨hA, t1⟩
      · obtain ⟨k1, k2⟩ := ok.tab j P' q' e
        have nP : P' ≠ P := fun z => hj (nodup_at ok.nd (z ▸ k1) hA)
        have nc : P' ≠ c' := fun z => by
          obtain ⟨ps', y, _⟩ := k2
          rw [z, e2] at y
          cases y
        refine ⟨k1, tabS_keep k2 (by rw [upd_ne nc, upd_ne nP]) fun c hc => off c _ hc (fun z => ?_)⟩
        rw [z, e1] at hc
        unfold LamX.CodeO at hc
        cases hc
section
variable {X : Cx} {pins : List (Addr × Obj)} {σ : L2.St} {H : Hp} {s : Shared}
/-- an object of the heap that is newer than the entry is noted -/
theorem inv_note {a : Addr} {φ : Heap → Prop} {oe : Obj} (I : Inv X pins σ H s) (e : s.heap.get? a = some oe) (hn : H a = none) (ok : ObjOk X.prog X.w (upd H a (.ext φ)) s.heap a (.ext φ)) (n0 : X.s_0.heap.get? a = none) (np : ∀ p ∈ X.pn ++ pins, p.1 ≠ a) (nl : a ≠ X.env.locals) (nc : ∀ v, oe.data ≠ .cell v) :
    Inv X pins σ (upd H a (.ext φ)) s := by
  have off : ∀ b u, H b = some u → b ≠ a := fun b u q => ne_of_none q hn
  refine ⟨I.ok, I.os, I.bare, ⟨I.base.keep, I.base.slot, fun b o q n x => ?_, I.base.there, fun b xs q => ?_, fun b o u q => ?_, fun b ps q => ?_⟩, I.loc, I.cell, ?_, fun x c q => ?_, fun p hp => ?_, I.hok.laidN (fun _ _ q => q) hn ok, I.len⟩
  · rw [upd_ne (fun y => by rw [y, n0] at q; cases q)]
    exact I.base.free b o q n x
  · have q2 := I.base.tups b xs q
    exact (upd_ne (off _ _ q2)).trans q2
  · have q2 := I.base.frzs b o u q
    exact (upd_ne (off _ _ q2)).trans q2
  · obtain ⟨more, q2⟩ := I.base.tbls b ps q
    exact ⟨more, (upd_ne (off _ _ q2)).trans q2⟩
  · rw [upd_ne (Ne.symm nl)]
    exact I.free
  · rw [upd_ne (fun y => by
      obtain ⟨v, o, h1, h2⟩ := I.cell x c q
      rw [y, e] at h1
      cases h1
      exact nc v h2)]
    exact I.freeC x c q
  · obtain ⟨f1, f2, f3, f4, f5⟩ := I.pin p hp
    exact ⟨f1, by rw [upd_ne (np p hp)]; exact f2, f3, f4, f5⟩
/-- the reading of a lambda -/
def tLamD (q : Str) (P : Addr) (params : Arguments) (body : Expr) (scope : Scope) (clo : List (Str × Addr)) : TE := fun _ H Q => LamX.TabS H P q ∧ ∀ f c' H1, TabStep P q c' H H1 → H1 f = none → Q (.ref f) (upd H1 f (LamO q params body scope clo f c'))
theorem pe_lam {c P : Addr} {params : Arguments} {body : Expr} {scope : Scope} {pos : Pos} (TB : LamX.TabB X.base X.mg c P) (hcode : X.env.code = .ref c) (L : LamX.LamS X.env.scope scope) (hdef : defaultsOf params X.env = ([], [])) :
    PE X (.Lambda params body scope pos) (tLamD (X.env.qual ++ "<lambda>") P params body scope (cloFrom X.env.cells scope.names [])) := by
  refine ⟨fun pins s σ H Q I ⟨hT, h⟩ => ?_⟩
  have hT1 := hT
  obtain ⟨ps, hP, ht, ha⟩ := hT1
  have bP : s.heap.BuiltinsAt X.mg P := TB.bm.keeps I.bk
  have hP' : s.heap.get? P = some { cls := .none, data := .fields ps } := I.hok P _ hP
  have fin : ∀ {f c' : Addr} {pm ctv : Value} {H1 : Hp} {s' : Shared}, Inv X pins σ H1 s' → TabStep P (X.env.qual ++ "<lambda>") c' H H1 → s.heap.objs.size ≤ f → s'.heap.get? f = some (PySem.W.kla_obj "<lambda>" (X.env.qual ++ "<lambda>") params body scope (cloFrom X.env.cells scope.names []) pm c' ctv) → H1 f = none →
      EP X pins σ Q (.ref f) s' := fun {f c' pm ctv H1 s'} J st hs e n => by
    have n0 : X.s_0.heap.get? f = none := by
      cases q : X.s_0.heap.get? f with
      | none => rfl
      | some o =>
        exfalso
        by_cases hx : f ∈ X.ex
        · exact absurd (Nat.lt_of_lt_of_le (Heap.lt_size q) (Nat.le_trans (Nat.le_of_lt (by
            obtain ⟨m, ⟨oL, _, _, hL, _⟩, _⟩ := I.loc
            exact Nat.lt_of_le_of_lt I.ok.above (Heap.lt_size hL))) hs)) (Nat.lt_irrefl _)
        · obtain ⟨o2, q2⟩ := I.base.there f o q hx
          exact absurd (Nat.lt_of_lt_of_le (Heap.lt_size q2) hs) (Nat.lt_irrefl _)
    have nl : f ≠ X.env.locals := fun z => by
      obtain ⟨m, ⟨oL, _, _, hL, _⟩, _⟩ := I.loc
      rw [← z] at hL
      exact absurd (Nat.lt_of_lt_of_le (Heap.lt_size hL) hs) (Nat.lt_irrefl _)
    have np : ∀ p ∈ X.pn ++ pins, p.1 ≠ f := fun p hp z => by
      have q := (I.pin p hp).1
      rw [z] at q
      exact absurd (Nat.lt_of_lt_of_le (Heap.lt_size q) hs) (Nat.lt_irrefl _)
    exact ⟨.ref f, _, inv_note J e n ⟨⟨pm, ctv, e⟩, ⟨_, e⟩, fun h1 h2 ⟨a, b, q⟩ k => ⟨a, b, k _ q⟩⟩ n0 np nl (fun v z => nomatch z), rfl, h f c' H1 st n⟩
  refine PySem.W.kla_eval hdef ?_
  cases hc : codeAmong pos ps.toList with
  | none =>
    refine PySem.W.kla_makeFunction (mg := X.mg) (c := c) (P := P) (ps := ps) (closure_ok (L.has I.ok)) I.ok.glob (I.mod.glob.keeps I.bk) hcode (TB.code.keeps I.bk) hP' ht hc TB.gP bP fun c2 ctv h2 tk hx hge hlt hrec htb => ?_
    obtain ⟨c', oc, vs, t, ec, hoc, hd, hv⟩ := hrec
    cases ec
    have nC : H c2 = none := I.hok.fresh hge
    have hsz : s.heap.objs.size ≤ h2.objs.size := Nat.le_trans hge (Nat.le_of_lt hlt)
    have J := LamX.inv_table (t' := tk) (more := #[rawInt pos.line, rawInt pos.col, .ref c2]) (h' := h2.push (PySem.W.kla_obj "<lambda>" (X.env.qual ++ "<lambda>") params body scope (cloFrom X.env.cells scope.names []) ((X.mg "__name__").getD .none) c2 ctv)) I hP
      (fun b o hb e => Heap.get?_push_of_some _ (hx b o hb e)) (Heap.get?_push_of_some _ htb) hge ⟨oc, vs, t, Heap.get?_push_of_some _ hoc, hd, hv⟩
    have eL : (ps ++ #[rawInt pos.line, rawInt pos.col, .ref c2]).toList = ps.toList ++ [rawInt pos.line, rawInt pos.col, .ref c2] := by simp
    have nPc : P ≠ c2 := ne_of_none hP nC
    refine fin (f := h2.objs.size) (c' := c2) (pm := (X.mg "__name__").getD .none) (ctv := ctv) J ⟨?_, upd_same, .inr ⟨ps, _, hP, nC, rfl⟩⟩ hsz (Heap.get?_push_size _ rfl) ?_
    · refine ⟨_, by rw [upd_ne nPc, upd_same], by rw [eL]; exact PySem.TriplesOk_snoc _ _ _ _ ht, fun p' cv hcv => ?_⟩
      rw [eL] at hcv
      rcases LamX.among_app _ ht hcv with z | z
      · obtain ⟨c0, e1, e2⟩ := ha p' cv z
        exact ⟨c0, e1, by rw [upd_ne (ne_of_none e2 nC), upd_ne (fun y => by rw [y, hP] at e2; unfold LamX.CodeO at e2; cases e2)]; exact e2⟩
      · exact ⟨c2, z, upd_same⟩
    · rw [upd_ne (Nat.ne_of_gt hlt), upd_ne (Nat.ne_of_gt (Nat.lt_of_lt_of_le (Heap.lt_size hP') hsz))]
      exact I.hok.fresh hsz
  | some cv =>
    obtain ⟨c', e, hco⟩ := ha pos cv hc
    subst e
    refine PySem.W.kla_makeFunctionHit (mg := X.mg) (c := c) (P := P) (ps := ps) (closure_ok (L.has I.ok)) I.ok.glob (I.mod.glob.keeps I.bk) hcode (TB.code.keeps I.bk) hP' ht hc bP fun ctv h2 tk hx hsz => ?_
    exact fin (f := h2.objs.size) (c' := c') (pm := (X.mg "__name__").getD .none) (ctv := ctv) (I.kept fun b o e => Heap.get?_push_of_some _ (hx b o e)) ⟨hT, hco, .inl rfl⟩ hsz (Heap.get?_push_size _ rfl) (I.hok.fresh hsz)
end
end DL

set_option maxHeartbeats 4000000
/-! a def that is handed a lambda: called later than the lambda was made -/
namespace DL
open PySem PySem.Spec PyProof.Rows L2
/-- a def that keeps its promise at all states later than ω -/
structure DefL (P : Program) (w : World) (K : PySem.W.Frag) (mg : Str → Option Value) (base : Heap) (ca : Str → Addr) (ω : LW) (x : Str) (ps : List Str) (k : Nat) (g : List D → Sto → Res D) : Prop where
  ex : ∃ (f : Addr) (fd : FuncData), mg x = some (.ref f) ∧ PySem.W.keepIn K (.ref f) = true ∧ L2.Binds K fd ps [] ∧
    ∀ (A : Around) (outer : List PySem.Env) (s : Shared) (H : Hp) (args : Args) (us : List Value) (vs : List V) (Q : VK) (E : XK) (B Z : List Addr) (S : Sto) (ds : List D), Room k A → A.guards = some [] → Env0 P w K mg base A outer s H → BindsTo s fd args (ps.zip us) → Vals vs us →
      SOk K B Z S H → DRs B (cut B Z S H) K vs ds → ds.length = ps.length → LatD ω B Z S H → Post K (fun c d _ H' => E c d H') ca B Z S H [] (g ds S) (fun C T I d => ∀ v, DR C (cut C Z T I) K v d → Q v I) →
      codeAny (model P w) A (.call (.ref f) args) (CR (L2.CX P w) outer P w H s Q E) s
section
variable {P : Program} {w : World} {K : PySem.W.Frag} {mg : Str → Option Value} {base : Heap} {ca : Str → Addr} {x : Str} {ps : List Str} {ω : LW}
theorem DefL.mono {j k : Nat} {g : List D → Sto → Res D} (d : DefL P w K mg base ca ω x ps j g) (h : j ≤ k) : DefL P w K mg base ca ω x ps k g :=
  let ⟨f, fd, a, b, c, F⟩ := d.ex
  ⟨f, fd, a, b, c, fun A outer s H args us vs Q E B Z S ds hr => F A outer s H args us vs Q E B Z S ds (hr.mono h)⟩
theorem DefL.imp {k : Nat} {g g' : List D → Sto → Res D} (d : DefL P w K mg base ca ω x ps k g) (h : ∀ ds S, g' ds S ≠ .bad → g ds S = g' ds S) : DefL P w K mg base ca ω x ps k g' :=
  let ⟨f, fd, a, b, c, F⟩ := d.ex
  ⟨f, fd, a, b, c, fun A outer s H args us vs Q E B Z S ds hr h1 h2 h3 h4 h5 h6 h7 h8 po => F A outer s H args us vs Q E B Z S ds hr h1 h2 h3 h4 h5 h6 h7 h8 (by
    rw [h ds S (fun e => by rw [e] at po; exact po)]
    exact po)⟩
/-- the rule for such a def -/
theorem defL_of {st : Stmt} {N : List Str} {k : Nat} {g : List D → Sto → Res D} (T : Std K mg x st ps) (S : FnScope N ps (defScope st))
    (body : ∀ (f : Addr) (cdv : Value) (A : Around) (outer : List PySem.Env) (s : Shared) (H : Hp) (E : XK) (vs : List V) (Q : VK) (B Z : List Addr) (U : Sto) (ds : List D), Room k (CXof P w K mg base N x st f cdv A outer s H E).A → (CXof P w K mg base N x st f cdv A outer s H E).A.guards = some [] →
      Takes (CXof P w K mg base N x st f cdv A outer s H E) (WD E) → PassesOwn (model P w) (CXof P w K mg base N x st f cdv A outer s H E).A (CXof P w K mg base N x st f cdv A outer s H E).env (CXof P w K mg base N x st f cdv A outer s H E).xe →
      SOk K B Z U H → DRs B (cut B Z U H) K vs ds → ds.length = ps.length → LatD ω B Z U H → Post K (fun c d _ H' => E c d H') ca B Z U H [] (g ds U) (fun C T I d => ∀ v, DR C (cut C Z T I) K v d → Q v I) →
      ∃ t, PSs (CXof P w K mg base N x st f cdv A outer s H E) (defBody st) t ∧ t { nx := fun _ H' => Q .non H', rt := Q } (L2.start N vs) H) : DefL P w K mg base ca ω x ps (k + 1) g := by
  obtain ⟨f, fd, hm, F, hb⟩ := T.ex
  refine ⟨f, fd, hm, F.kp, hb, ?_⟩
  obtain ⟨oc, od, kV, doc, pm, an, cdv, ct, osl, rfl, hlk, hcode⟩ := F.ex
  intro A outer s H args us vs Q E B Z U ds hr hgu e0 bnd rel ok rv hl ld po
  exact LamX.run_ofS (CX := L2.CX P w) hlk hcode S hr e0 bnd rel (rv.length.trans hl) fun hr2 => body f cdv A outer s H E vs Q B Z U ds hr2 hgu (takes_of rfl rfl rfl rfl) (passes_of rfl) ok rv hl ld po
end
section
variable {X : Cx} {W : WX} {ca : Str → Addr} {pos : Pos} {ω : LW}
/-- a lambda that slot i holds is called -/
theorem pe_act {k i : Nat} {f : Addr} {h : Sto → Res D} {a : Str} {p1 p2 : Pos} (C : Cal X.prog X.w X.K X.mg X.base ca k ω f h) (hr : Room k X.A) (hgu : X.A.guards = some []) (tk : Takes X W) (hN : X.N[i]? = some a) (hv : Vis X.env.scope a)
    (hd : (a == ("__debug__" : Str)) = false := by decide) (hcd : (a == ("__classdict__" : Str)) = false := by decide) :
    PE X (.Call (.Name a p1) [] [] p2) (fun σ H Q => σ[i]? = some (some (.ref f)) ∧ ∃ B Z S, SOk X.K B Z S H ∧ LatD ω B Z S H ∧ Post X.K (fun c d _ H' => W c d σ H') ca B Z S H [] (h S) (fun C T I d => ∀ v, DR C (cut C Z T I) X.K v d → Q v I)) := by
  refine ⟨fun pins s σ H Q I ⟨hs, B, Z, S, ok, ld, po⟩ => ?_⟩
  refine wpAny_Call_Name_kw (thn ((pe_var (pos := p1) (i := i) hN hv hd hcd).run pins s σ H (fun v H1 => v = .ref f ∧ H1 = H) I ⟨.ref f, hs, rfl, rfl⟩) fun u s1 ⟨v, H1, I1, r1, e1, e2⟩ => ?_)
  subst e1 e2
  obtain rfl : u = Value.ref f := r1
  obtain ⟨oc, od, fd, osl, e⟩ := C.obj s1 _ B Z S I1.hok ld
  refine PySem.W.callWith_F0 ⟨_, _, _, _, e⟩ (wpAny_call (codeAny_mono (C.run X.A X.stack s1 _ Q (fun c d H' => W c d σ H') B Z S hr hgu I1.env0 ok ld po) fun r s2 z => ?_))
  match r, z with
  | .error e, z => exact tk e s2 (XE.of_call I1 (fun _ _ _ h => h) z)
  | .ok (.ret u), z => exact I1.after z
  | .ok .next, z => exact z.elim
  | .ok .brk, z => exact z.elim
  | .ok .cont, z => exact z.elim
end
end DL

set_option maxHeartbeats 4000000
/-! what a call lets out, caught -/
namespace DL
open PySem PySem.Spec PyProof.Rows L2
/-- a body's end -/
def finD (r : Res (Fl × Env)) : Res D := r.bind fun r S1 => match r.1 with
  | .rt d => .ok d S1
  | .nx => .ok .non S1
  | _ => .bad
/-- caught = None / try: call() / except ScoreError as e: caught = e / the rest; xs: the classes that are known -/
def caughtD (m : Nat) (xs : List Str) (fr : FS) (h : Sto → Res D) (U : Sto) : Res D := tidy U.length (finD (match h U with
  | .ok _ T => fr ((List.replicate m none).set 1 (some .non)) T
  | .err c d T => if xs.contains c then fr ((List.replicate m none).set 1 (some (.exc c d))) T else .bad
  | .bad => .bad))
def lamF (Λ : Addr → Sto → Res D) (fs : List Addr) (g : (Sto → Res D) → Sto → Res D) : List D → Sto → Res D := fun ds U => match ds with
  | [.fn f] => if fs.contains f then g (Λ f) U else .bad
  | _ => .bad
theorem sl_one {K : PySem.W.Frag} {A : List Addr} {G : Hp} {σ : L2.St} {m : Nat} {v : V} {d : D} (hm : m = σ.length) (h1 : σ[1]? = some (some v)) (r : DR A G K v d) : Sl K A G ((List.replicate m none).set 1 (some d)) σ := by
  refine ⟨by rw [List.length_set, List.length_replicate]; exact hm, fun i d' e => ?_⟩
  by_cases c : 1 = i
  · subst c
    have hl : 1 < (List.replicate m (none : Option D)).length := by
      rw [List.length_replicate, hm]
      exact (List.getElem?_eq_some_iff.mp h1).1
    rw [List.getElem?_set_self hl] at e
    cases e
    exact ⟨v, h1, r⟩
  · rw [List.getElem?_set_ne c, List.getElem?_replicate] at e
    split at e <;> cases e
theorem fin_post {K : PySem.W.Frag} {W : WX} {ca : Str → Addr} {A Z : List Addr} {S : Sto} {H : Hp} {σ : L2.St} {r : Res (Fl × Env)} {Q : VK}
    (h : Post K W ca A Z S H σ (finD r) fun B T I d => ∀ v, DR B (cut B Z T I) K v d → Q v I) : Post K W ca A Z S H σ r (EndF K { nx := fun _ H' => Q .non H', rt := Q } Z) := by
  unfold finD at h
  refine (Post.split h).imp fun C U J r gr q => ?_
  obtain ⟨fl, ρ'⟩ := r
  cases fl with
  | nx => exact fun σ' sl' => q C J (.refl gr.ok) _ .non
  | rt d => exact fun v rv => q C J (.refl gr.ok) v rv
  | bk => exact q.elim
  | ct => exact q.elim
section
variable {P : Program} {w : World} {K : PySem.W.Frag} {mg : Str → Option Value} {base : Heap} {x : Str} {ω : LW}
theorem caught_def {st : Stmt} {N : List Str} {k ie j : Nat} {xs : List Str} {rest : List Stmt} {fr : FS} {Λ : Addr → Sto → Res D} {fs : List Addr} {CS : Addr} {q1 q2 q3 q4 q5 q6 q7 q8 q9 q10 q11 q12 : Pos} (T : Std K mg x st ["call"]) (S : FnScope N ["call"] (defScope st))
    (hb : defBody st = .Assign [.Name "caught" q1] (.Constant .none j q2) q3 :: .Try [.Expr (.Call (.Name "call" q4) [] [] q5) q6] [.ExceptHandler (some (.Name "ScoreError" q7)) (some "e") [.Assign [.Name "caught" q8] (.Name "e" q9) q10] q11] [] [] q12 :: rest)
    (n0 : N[0]? = some ("call" : Str)) (n1 : N[1]? = some ("caught" : Str)) (ni : N[ie]? = some ("e" : Str)) (l0 : (defScope st).names.lookup ("call" : Str) = some .local) (l1 : (defScope st).names.lookup ("caught" : Str) = some .local) (li : (defScope st).names.lookup ("e" : Str) = some .local)
    (lS : (defScope st).names.lookup ("ScoreError" : Str) = some .globalImplicit) (mS : mg "ScoreError" = some (.ref CS)) (hx : ∀ c ∈ xs, PySem.W.exmOne K (.ref (caK K c)) (.ref CS) = some true) (hie : 2 ≤ ie)
    (hr : ∀ (f : Addr) (cdv : Value) (A : Around) (outer : List PySem.Env) (s : Shared) (H : Hp) (E : XK), Room k (CXof P w K mg base N x st f cdv A outer s H E).A → (CXof P w K mg base N x st f cdv A outer s H E).A.guards = some [] →
      Takes (CXof P w K mg base N x st f cdv A outer s H E) (WD E) → PassesOwn (model P w) (CXof P w K mg base N x st f cdv A outer s H E).A (CXof P w K mg base N x st f cdv A outer s H E).env (CXof P w K mg base N x st f cdv A outer s H E).xe →
      SSs (CXof P w K mg base N x st f cdv A outer s H E) (WD E) (caK K) rest fr)
    (C : ∀ f ∈ fs, Cal P w K mg base (caK K) k ω f (Λ f)) : DefL P w K mg base (caK K) ω x ["call"] (k + 1) (lamF Λ fs (caughtD N.length xs fr)) := by
  refine defL_of T S fun f cdv A outer s H E vs Q B Z U ds ro hgu tk hp ok rv hl ld po => ?_
  unfold lamF at po
  split at po
  · rename_i f0
    split at po
    · rename_i hf
      cases rv with
      | @cons v0 _ _ _ r0 rr =>
      cases rr
      cases r0
      have hf' : f0 ∈ fs := List.contains_iff_mem.mp hf
      have hN : (CXof P w K mg base N x st f cdv A outer s H E).N = N := rfl
      have lenN : ie < N.length := (List.getElem?_eq_some_iff.mp ni).1
      have p1 := ps_set (X := CXof P w K mg base N x st f cdv A outer s H E) (i := 1) (x := "caught") (pos := q3) (pos' := q1) S.nd n1 (.inl l1) (pe_non (pos := q2) (j := j)) (by rfl) (.inr l1)
      have p2 := ps_try_keep (X := CXof P w K mg base N x st f cdv A outer s H E) (x := "ScoreError") (n := "e") (y := "caught") (c := .ref CS) (i := ie) (j := 1) (np := q7) (p1 := q8) (p2 := q9) (p3 := q10) (pos := q12) (pos' := q11)
        (tb := fun W => tDrop (fun σ H Q => σ[0]? = some (some (V.ref f0)) ∧ ∃ B Z S, SOk K B Z S H ∧ LatD ω B Z S H ∧ Post K (fun c d _ H' => W c d σ H') (caK K) B Z S H [] (Λ f0 S) (fun C T I d => ∀ v, DR C (cut C Z T I) K v d → Q v I))) rfl rfl rfl S.nd ni li n1 l1 ⟨lS, by decide, .inl mS⟩ (by decide) (by decide) (by rfl) lenN
        (fun W pn xe tk' _ => pss_one (ps_expr (e := .Call (.Name "call" q4) [] [] q5) (pos := q6) (pe_act (X := (CXof P w K mg base N x st f cdv A outer s H E).tr pn xe) (i := 0) (a := "call") (p1 := q4) (p2 := q5) (C f0 hf') ro hgu tk' n0 (.inl l0)) (by rfl)))
      have p3 := (hr f cdv A outer s H E ro hgu tk hp).pss
      refine ⟨_, hb ▸ pss_cons p1 (pss_cons p2 p3), ?_⟩
      have sl0 : (L2.start N [V.ref f0]).length = N.length := by
        unfold L2.start
        simp
        omega
      have s0 : (L2.start N [V.ref f0])[0]? = some (some (.ref f0)) := rfl
      have g1 : ((L2.start N [V.ref f0]).set 1 (some V.non))[0]? = some (some (.ref f0)) := by
        rw [List.getElem?_set_ne (by decide)]
        exact s0
      have h1l : 1 < (L2.start N [V.ref f0]).length := by rw [sl0]; omega
      have po := Post.tidy ok po
      refine ⟨g1, B, Z, U, ok, ld, ?_⟩
      cases e : Λ f0 U with
      | ok d T2 =>
        rw [e] at po
        intro A' H' gr v rv
        refine ⟨A', Z, T2, (List.replicate N.length none).set 1 (some .non), gr.ok, sl_one (v := .non) (by rw [List.length_set, sl0]) (List.getElem?_set_self h1l) .non, ?_⟩
        exact fin_post (po.later gr |>.sig _)
      | err c d T2 =>
        rw [e] at po
        dsimp only at po
        by_cases hc : xs.contains c = true
        · rw [if_pos hc] at po
          intro A' H' dx v σ' gr hdx rv
          refine ⟨hx c (List.contains_iff_mem.mp hc), fun a ha => ?_⟩
          have g2 : Grow K Z A' T2 H' A' T2 (upd H' a (ExV (.ref (caK K c)) (some dx) a)) := .new gr.ok ha
          refine ⟨A', Z, T2, (List.replicate N.length none).set 1 (some (.exc c d)), g2.ok, sl_one (v := .ref a) (by simp [sl0]) ?_ (.exc (cut_new gr.ok ha) (cut_upd ha _ _ hdx) (rv.mono (List.prefix_refl _) (cut_upd ha))), ?_⟩
          · rw [List.getElem?_set_ne (by omega), List.getElem?_set_self (by simp [sl0]; omega)]
          · exact fin_post (po.later (gr.trans g2) |>.sig _)
        · rw [if_neg hc] at po
          exact (show False from po).elim
      | bad =>
        rw [e] at po
        exact po.elim
    · exact po.elim
  · exact po.elim
end
end DL

set_option maxHeartbeats 4000000
/-! a def whose first statement hands its lambda on -/
namespace DL
open PySem PySem.Spec PyProof.Rows L2
/-- y = g(call) / the rest: j the slot of y -/
def firstD (m j : Nat) (fr : FS) (g : List D → Sto → Res D) : List D → Sto → Res D := fun ds U => match ds with
  | .fn f :: r => tidy U.length (finD ((g [.fn f] U).bind fun d T => fr ((none :: (r.map some ++ List.replicate (m - (r.length + 1)) none)).set j (some d)) T))
  | _ => .bad
section
variable {X : Cx} {W : WX} {ca : Str → Addr} {pos : Pos} {ω : LW}
/-- x(a), a the slot that holds the lambda -/
theorem pe_callL {x : Str} {p : Pos} {k : Nat} {ps : List Str} {g : List D → Sto → Res D} {es : List Expr} {ta : TA} (d : DefL X.prog X.w X.K X.mg X.base ca ω x ps k g) (hr : Room k X.A) (hgu : X.A.guards = some []) (tk : Takes X W) (hg : Gl X x) {e : Expr}
    (ha : PA X (e :: es) ta) (hdb : (x == ("__debug__" : Str)) = false := by decide) (he : starEach (e :: es) X.env = (false, eval e X.env) :: starEach es X.env := by rfl) (hpl : (backTo pos (starEach es X.env)).any (·.1) = false := by rfl) :
    PE X (.Call (.Name x p) (e :: es) [] pos) (fun σ H Q => ta σ H fun vs H1 => ∃ B Z S ds, SOk X.K B Z S H1 ∧ DRs B (cut B Z S H1) X.K vs ds ∧ ds.length = ps.length ∧ LatD ω B Z S H1 ∧ Post X.K (fun c d _ H' => W c d σ H') ca B Z S H1 [] (g ds S) (fun C T I d => ∀ v, DR C (cut C Z T I) X.K v d → Q v I)) := by
  obtain ⟨f, fd, hm, hk, hb, F⟩ := d.ex
  refine ⟨fun pins s σ H Q I h => ?_⟩
  refine wpAny_Call_Name_kw (ld_glob I hg hm ?_ hdb)
  refine PySem.W.callWith_K (h₀ := X.base) I.ok.mod.kin hk (thn (ha.run pos pins s σ H _ I h) fun us s1 ⟨vs, H1, I1, r1, B, Z, S, ds, ok, rv, hl, ld, po⟩ => ⟨I1.kIn, ?_⟩) he hpl
  have n1 : us.length = ps.length := (r1.length.symm.trans rv.length).trans hl
  have bd := hb s1 us I1.kIn (by simpa using n1)
  simp only [List.append_nil] at bd
  refine wpAny_call (codeAny_mono (F X.A X.stack s1 H1 ⟨us, []⟩ us vs Q (fun c d H' => W c d σ H') B Z S ds hr hgu I1.env0 bd r1 ok rv hl ld po) fun r s2 z => ?_)
  match r, z with
  | .error e, z => exact tk e s2 (XE.of_call I1 (fun _ _ _ h => h) z)
  | .ok (.ret u), z => exact I1.after z
  | .ok .next, z => exact z.elim
  | .ok .brk, z => exact z.elim
  | .ok .cont, z => exact z.elim
end
theorem sl_drop0 {K : PySem.W.Frag} {A : List Addr} {G : Hp} {v0 : V} {vs : List V} {r : List D} {N : List Str} (h : DRs A G K vs r) : Sl K A G (none :: (r.map some ++ List.replicate (N.length - (r.length + 1)) none)) (L2.start N (v0 :: vs)) := by
  have hl := h.length
  have s := start_sl (N := List.replicate (N.length - 1) ("" : Str)) h
  refine ⟨?_, fun i d e => ?_⟩
  · unfold L2.start
    simp [hl]
  · cases i with
    | zero => cases e
    | succ i =>
      rw [List.getElem?_cons_succ] at e
      by_cases hi : i < r.length
      · rw [List.getElem?_append_left (by simpa using hi), List.getElem?_map] at e
        cases q : r[i]? with
        | none => rw [q] at e; cases e
        | some d' =>
          rw [q] at e
          have : d' = d := by simpa using e
          subst this
          obtain ⟨v, h1, h2⟩ := h.get q
          refine ⟨v, ?_, h2⟩
          unfold L2.start
          rw [List.map_cons, List.cons_append, List.getElem?_cons_succ, List.getElem?_append_left (by simp [hl]; exact hi), List.getElem?_map, h1]
          rfl
      · rw [List.getElem?_append_right (by simpa using Nat.le_of_not_lt hi)] at e
        have := List.mem_of_getElem? e
        rw [List.mem_replicate] at this
        exact absurd this.2 (by simp)
section
variable {P : Program} {w : World} {K : PySem.W.Frag} {mg : Str → Option Value} {base : Heap} {x : Str} {ω : LW}
theorem first_def {ca : Str → Addr} {st : Stmt} {N : List Str} {ps : List Str} {k j : Nat} {rest : List Stmt} {fr : FS} {g : List D → Sto → Res D} {y z a : Str} {q1 q2 q3 q4 q5 : Pos} (T : Std K mg x st (a :: ps)) (S : FnScope N (a :: ps) (defScope st))
    (hb : defBody st = .Assign [.Name y q1] (.Call (.Name z q2) [.Name a q3] [] q4) q5 :: rest)
    (nj : N[j]? = some y) (hj : 1 ≤ j) (l0 : Vis (defScope st) a) (lj : (defScope st).names.lookup y = some .local) (lz : (defScope st).names.lookup z = some .globalImplicit) (hd : (a == ("__debug__" : Str)) = false) (hcd : (a == ("__classdict__" : Str)) = false) (hdz : (z == ("__debug__" : Str)) = false)
    (hr : ∀ (f : Addr) (cdv : Value) (A : Around) (outer : List PySem.Env) (s : Shared) (H : Hp) (E : XK), Room k (CXof P w K mg base N x st f cdv A outer s H E).A → (CXof P w K mg base N x st f cdv A outer s H E).A.guards = some [] →
      Takes (CXof P w K mg base N x st f cdv A outer s H E) (WD E) → PassesOwn (model P w) (CXof P w K mg base N x st f cdv A outer s H E).A (CXof P w K mg base N x st f cdv A outer s H E).env (CXof P w K mg base N x st f cdv A outer s H E).xe →
      SSs (CXof P w K mg base N x st f cdv A outer s H E) (WD E) ca rest fr)
    (dz : DefL P w K mg base ca ω z [a] k g) : DefL P w K mg base ca ω x (a :: ps) (k + 1) (firstD N.length j fr g) := by
  refine defL_of T S fun f cdv A outer s H E vs Q B Z U ds ro hgu tk hp ok rv hl ld po => ?_
  unfold firstD at po
  split at po
  · rename_i f0 r
    cases rv with
    | @cons v0 vs1 _ _ r0 rr =>
    cases r0
    have hlN : (a :: ps).length ≤ N.length := by
      have := congrArg List.length S.pre
      rw [List.length_take] at this
      omega
    have n0 : N[0]? = some a := by
      have z : (N.take (a :: ps).length)[0]? = some a := by rw [S.pre]; rfl
      rw [List.getElem?_take_of_lt (by simp)] at z
      exact z
    have s0 : (L2.start N (V.ref f0 :: vs1))[0]? = some (some (.ref f0)) := rfl
    have p1 := ps_set (X := CXof P w K mg base N x st f cdv A outer s H E) (i := j) (x := y) (pos := q5) (pos' := q1) S.nd nj (.inl lj)
      (pe_callL (W := WD E) (X := CXof P w K mg base N x st f cdv A outer s H E) (p := q2) (pos := q4) (es := []) (e := .Name a q3) dz ro hgu tk lz (pa_cons (pe_var (pos := q3) (i := 0) n0 l0 hd hcd) pa_nil (by rfl)) hdz (by rfl) (by rfl)) (by rfl) (.inr lj)
    have p2 := (hr f cdv A outer s H E ro hgu tk hp).pss
    refine ⟨_, hb ▸ pss_cons p1 p2, ?_⟩
    have po := Post.tidy ok po
    refine ⟨.ref f0, s0, B, Z, U, [.fn f0], ok, .cons (.fn f0) .nil, rfl, ld, ?_⟩
    have hjN : j < N.length := (List.getElem?_eq_some_iff.mp nj).1
    have sl0 := sl_drop0 (N := N) (v0 := .ref f0) rr
    cases e : g [.fn f0] U with
    | ok d T2 =>
      rw [e] at po
      dsimp only [Res.bind_ok] at po
      intro A' H' gr v rv
      exact ⟨A', Z, T2, _, gr.ok, (sl0.grow gr).set rv j, fin_post (po.later gr |>.sig _)⟩
    | err c d T2 =>
      rw [e] at po
      exact fun A' H' dx v σ' gr hdx rv => po A' H' dx v σ' gr hdx rv
    | bad =>
      rw [e] at po
      exact (show False from po).elim
  · exact po.elim
end
end DL

set_option maxHeartbeats 4000000
/-! [call for call in calls if not refused(call, ..)] == [] -/
namespace DL
open PySem PySem.Spec PyProof.Rows L2
def tEL (ω : LW) (K : PySem.W.Frag) (W : WX) (ca : Str → Addr) (f : FE) : TE := fun σ H Q => ∃ A Z S ρ, SOk K A Z S H ∧ Sl K A (cut A Z S H) ρ σ ∧ LatD ω A Z S H ∧ Post K W ca A Z S H σ (f ρ S) fun B T I d => ∀ v, DR B (cut B Z T I) K v d → Q v I
def tTL (ω : LW) (K : PySem.W.Frag) (W : WX) (ca : Str → Addr) (f : FT) : TT := fun σ H Q => ∃ A Z S ρ, SOk K A Z S H ∧ Sl K A (cut A Z S H) ρ σ ∧ LatD ω A Z S H ∧ Post K W ca A Z S H σ (f ρ S) fun B T I b => Q b I
section
variable {X : Cx} {W : WX} {ca : Str → Addr}
theorem lc_readL {ω : LW} {K : PySem.W.Frag} {vs : List Nat} {fi : FI} {g : FG} {c : FT} {el : FE} {σ : L2.St} {H : Hp} {Q : VK} (h : tEL ω K W ca (fLc vs fi g c el) σ H Q) : tLc (tI K W ca fi) (tGw K ca vs g) (tTL ω K W0 ca c) (tE K W0 ca el) vs σ H Q := by
  obtain ⟨A, Z, S, ρ, ok, sl, ld, p⟩ := h
  refine ⟨A, Z, S, ρ, ok, sl, (Post.split p).imp fun B T I it gr q J hJ p0 hp => ?_⟩
  have hz : p0 ∉ Z := fun z => (gr.ok.hid p0 z).1.1 hp
  by_cases hlen : it.items.length < capN
  case neg => rw [if_neg hlen] at q; exact q.elim
  rw [if_pos hlen] at q
  obtain ⟨T1, U, g0, hl, q1⟩ := Post.lock gr.ok hJ.here (Post.split q)
  have sl1 : Sl K B (cut B Z T1 I) ρ σ := (sl.grow gr).mono g0.pre g0.ex
  -- what is left at the start
  have r0 : Rest K p0 Z B T1 (upd I p0 (.lst [])) [] (compD g c el it.items (wipeE ρ vs) T1) (Q (.ref p0)) := by
    cases e : compD g c el it.items (wipeE ρ vs) T1 with
    | bad => rw [e] at q1; exact q1.elim
    | err _ _ _ => rw [e] at q1; exact q1.elim
    | ok ys V =>
      rw [e] at q1
      intro C L ws gp hL rL
      have gz : Grow K Z B T1 I C V L := by
        refine ⟨gp.pre, gp.ok.show_, fun b o eb => cut_hide b o (gp.ex b o (cut_hidden hp b o eb)), fun b hb => ?_, gp.lk⟩
        rw [gp.hid b hb]
        exact upd_some (g0.ok.hid b hb).1.1 hp
      obtain ⟨z1, z2⟩ := q1 C L gz
      refine z2 C L (.refl z1.ok) _ (.lst (z1.ex _ _ (cut_shown gp.ok hL hz)) ?_)
      exact rL.mono (List.prefix_refl _) fun b o eb => z1.ex _ _ (cut_hide b o eb)
  -- a growth behind the start is one from the walk's beginning
  have back : ∀ {A' S' H'}, GrowP K p0 Z B T1 (upd I p0 (.lst [])) A' S' H' → GrowI K Z B T I (p0 :: Z) A' S' H' := fun {A' S' H'} gp =>
    ⟨gp.pre, gp.ok, fun b o eb => gp.ex b o (cut_hidden hp b o (g0.ex b o eb))⟩
  let Inv_ : Nat → Hp → Prop := fun i H' => ∃ A' S' ws acc, GrowP K p0 Z B T1 (upd I p0 (.lst [])) A' S' H' ∧ H' p0 = some (.lst ws) ∧ DRs A' (cut A' (p0 :: Z) S' H') K ws acc ∧ acc.length ≤ i ∧
    Rest K p0 Z A' S' H' acc (compD g c el (it.items.drop i) (wipeE ρ vs) S') (Q (.ref p0))
  refine ⟨fun i m H' => m = it.items.length - i ∧ i ≤ it.items.length ∧ Inv_ i H', ⟨it.items.length, rfl, Nat.zero_le _, B, T1, [], [], ⟨List.prefix_refl _, g0.ok.hide hp (fun q z => by unfold LamX.CodeO at z; cases z), fun _ _ e => e, fun _ _ => rfl, fun _ _ e => e⟩, upd_same, .nil, Nat.zero_le _, r0⟩, ?_⟩
  rintro i m H' ⟨rfl, hi, A', S', ws, acc, gp, hw, rw_, hacc, rest⟩
  have hat : ItAt it S' := fun j e => .inr (gp.lk j _ (hl j e))
  have g01 := back gp
  by_cases hlt : i < it.items.length
  · refine .inr ⟨hJ.go _ _ _ _ i g01 hat hlt, Inv_ (i + 1), fun H'' h => ⟨it.items.length - (i + 1), by omega, rfl, hlt, h⟩, fun x H'' hy => ?_⟩
    obtain ⟨g2, d, ed, rd⟩ := hJ.yld _ _ _ _ i x H'' g01 hat hy hlt
    rw [drop_at ed] at rest
    have gp2 := gp.trans (.of g2)
    have rest2 := rest.later (.of g2)
    have hw2 : H'' p0 = some (.lst ws) := by rw [g2.hid p0 List.mem_cons_self]; exact hw
    have slw : Sl K A' (cut A' (p0 :: Z) S' H'') (wipeE ρ vs) (L2.wipe σ vs) := (sl1.mono gp2.pre fun b o eb => gp2.ex b o (cut_hidden hp b o eb)).wipe vs
    refine ⟨A', p0 :: Z, S', wipeE ρ vs, d, g2.ok, slw, rd, (rest2.split (σ := L2.wipe σ vs)).imp fun C V L ρ1 g3 r3 σ2 sl2 hw3 => ⟨hw3.trans wipe_wipe, ?_⟩⟩
    have ld1 : LatD ω A' (p0 :: Z) S' H'' := ⟨((ld.grow gr).pre.trans g0.pre).trans gp2.pre, fun b o e => gp2.ex b o (cut_hidden hp b o (g0.ex b o ((ld.grow gr).ex b o e)))⟩
    refine ⟨C, p0 :: Z, V, ρ1, g3.ok, sl2, ld1.grow g3, (r3.split (σ := σ2)).imp fun C2 V2 M b g4 r4 => ?_⟩
    have g23 := g3.trans g4
    cases b with
    | false =>
      refine iteF ⟨C2, V2, ws, acc, gp2.trans (.of g23), by rw [g23.hid p0 List.mem_cons_self]; exact hw2, (rw_.grow g2).grow g23, Nat.le_succ_of_le hacc, r4⟩
    | true =>
      refine iteT ⟨C2, p0 :: Z, V2, ρ1, g4.ok, sl2.grow g4, (r4.split (σ := σ2)).imp fun C3 V3 N y g5 r5 v rv => ?_⟩
      have g25 := g23.trans g5
      have hw5 : N p0 = some (.lst ws) := by rw [g25.hid p0 List.mem_cons_self]; exact hw2
      have rws := (rw_.grow g2).grow g25
      refine ⟨ws, hw5, by rw [rws.length]; exact capN_lt (by omega), C3, V3, ws ++ [v], acc ++ [y], (gp2.trans (.of g25)).trans (.turn g5.ok hz), upd_same, ?_, ?_, ?_⟩
      · rw [cut_turn]
        exact rws.append (.cons rv .nil)
      · simp only [List.length_append, List.length_cons, List.length_nil]
        omega
      · cases e5 : compD g c el (it.items.drop (i + 1)) (wipeE ρ vs) V3 with
        | ok ys V4 =>
          rw [e5] at r5
          intro C6 L6 ws6 gp6 h6 r6
          refine r5 C6 L6 ws6 ((GrowP.turn g5.ok hz).trans gp6) h6 ?_
          rw [List.append_assoc] at r6
          exact r6
        | err _ _ _ => rw [e5] at r5; exact r5.elim
        | bad => rw [e5] at r5; exact r5.elim
  · have ei : i = it.items.length := by omega
    subst ei
    refine .inl ⟨hJ.stop _ _ _ _ g01 hat, ?_⟩
    rw [List.drop_length] at rest
    exact rest A' H' ws ⟨List.prefix_refl _, gp.ok, fun _ _ e => e, fun _ _ => rfl, fun _ _ e => e⟩ hw (by rw [List.append_nil]; exact rw_)
/-- not x(..) as a test, x handed a lambda -/
theorem pt_notL {ω : LW} {Y : Cx} {x : Str} {p pos pos2 : Pos} {k : Nat} {ps : List Str} {n : Nat} {g : List D → Sto → Res D} {e : Expr} {es : List Expr} {fa : FA} (d : DefL Y.prog Y.w Y.K Y.mg Y.base ca ω x ps k g) (hr : Room k Y.A) (hgu : Y.A.guards = some []) (tk : Takes Y W0) (hg : Gl Y x) (ha : SA Y W0 ca (e :: es) fa) (hn : ps.length = n)
    (hdb : (x == ("__debug__" : Str)) = false) (he : starEach (e :: es) Y.env = (false, eval e Y.env) :: starEach es Y.env) (hpl : (backTo pos (starEach es Y.env)).any (·.1) = false) :
    PT Y (.UnaryOp .Not (.Call (.Name x p) (e :: es) [] pos) pos2) (tTL ω Y.K W0 ca (fNot (fB (fCall n g fa)))) := by
  subst hn
  refine pt_imp (pt_not (pt_val (pe_callL (W := W0) d hr hgu tk hg ha.pa hdb he hpl))) fun σ H Q ⟨A, Z, S, ρ, ok, sl, ld, po⟩ => ?_
  have po1 := Post.split (Post.split (Post.split po))
  refine ⟨A, Z, S, ρ, ok, sl, po1.imp fun B T I ds gr q vs rv => ?_⟩
  by_cases hl : ds.length = ps.length
  · rw [if_pos hl] at q
    refine ⟨B, Z, T, ds, gr.ok, rv, hl, ld.grow gr, Post.imp (q.sig _) fun C U J dd g2 q2 v rv2 => ?_⟩
    cases dd with
    | bl b =>
      cases rv2
      refine ⟨b, rfl, ?_⟩
      exact q2 C J (.refl g2.ok) C J (.refl g2.ok)
    | _ => exact q2.elim
  · rw [if_neg hl] at q
    exact q.elim
end
section
variable {P : Program} {w : World} {K : PySem.W.Frag} {mg : Str → Option Value} {base : Heap} {x : Str} {ω : LW}
theorem all_def {ca : Str → Addr} {st : Stmt} {N ps : List Str} {k n : Nat} {gz : List D → Sto → Res D} {z : Str} {zs : List Str} {elt tg iter e : Expr} {es : List Expr} {scope : Scope} {own : List (Str × Nat)} {fi : FI} {g : FG} {fa : FA} {el : FE} {q1 q2 q3 q4 q5 q6 q7 : Pos} (T : Std K mg x st ps) (S : FnScope N ps (defScope st))
    (hb : defBody st = [.Return (some (.Compare (.ListComp elt [⟨tg, iter, [.UnaryOp .Not (.Call (.Name z q1) (e :: es) [] q2) q3], 0⟩] scope q4) [.Eq] [.List [] q5] q6)) q7])
    (dz : DefL P w K mg base ca ω z zs k gz) (hn : zs.length = n) (okB : BlkOk N (defScope st) scope own) (hdb : (z == ("__debug__" : Str)) = false)
    (hX : ∀ (f : Addr) (cdv : Value) (A : Around) (outer : List PySem.Env) (s : Shared) (H : Hp) (E : XK), Room k (CXof P w K mg base N x st f cdv A outer s H E).A → (CXof P w K mg base N x st f cdv A outer s H E).A.guards = some [] →
      Takes (CXof P w K mg base N x st f cdv A outer s H E) (WD E) → PassesOwn (model P w) (CXof P w K mg base N x st f cdv A outer s H E).A (CXof P w K mg base N x st f cdv A outer s H E).env (CXof P w K mg base N x st f cdv A outer s H E).xe →
      SI (CXof P w K mg base N x st f cdv A outer s H E) (WD E) ca tg iter fi ∧ (∀ u : Value, foldedSetIterable iter (CXof P w K mg base N x st f cdv A outer s H E).env u = pure u) ∧
      ∀ (s1 : Shared) (H1 : Hp) (C : Addr) (cl : List (Str × Addr)) (fp : List Addr), SGw ((CXof P w K mg base N x st f cdv A outer s H E).blk s1 H1 scope (compEnvC scope cl C (CXof P w K mg base N x st f cdv A outer s H E).env) fp) ca (own.map (·.2)) tg g ∧
        SA ((CXof P w K mg base N x st f cdv A outer s H E).blk s1 H1 scope (compEnvC scope cl C (CXof P w K mg base N x st f cdv A outer s H E).env) fp) W0 ca (e :: es) fa ∧ Gl ((CXof P w K mg base N x st f cdv A outer s H E).blk s1 H1 scope (compEnvC scope cl C (CXof P w K mg base N x st f cdv A outer s H E).env) fp) z ∧
        starEach (e :: es) (compEnvC scope cl C (CXof P w K mg base N x st f cdv A outer s H E).env) = (false, eval e (compEnvC scope cl C (CXof P w K mg base N x st f cdv A outer s H E).env)) :: starEach es (compEnvC scope cl C (CXof P w K mg base N x st f cdv A outer s H E).env) ∧
        (backTo q2 (starEach es (compEnvC scope cl C (CXof P w K mg base N x st f cdv A outer s H E).env))).any (·.1) = false ∧
        SE ((CXof P w K mg base N x st f cdv A outer s H E).blk s1 H1 scope (compEnvC scope cl C (CXof P w K mg base N x st f cdv A outer s H E).env) fp) W0 ca elt el) :
    DefL P w K mg base ca ω x ps (k + 1) (bodyT N ps.length (fRet (fOp eqD (fLc (own.map (·.2)) fi g (fNot (fB (fCall n gz fa))) el) (fLst fNil)))) := by
  refine defL_of T S fun f cdv A outer s H E vs Q B Z U ds ro hgu tk hp ok rv hl ld po => ?_
  obtain ⟨x1, x2, x3⟩ := hX f cdv A outer s H E ro hgu tk hp
  have pe := pe_cmpR (pos := q6) (opd_eq (X := CXof P w K mg base N x st f cdv A outer s H E) ro.units)
    (pe_lc (elt := elt) (pos := q4) (own := own) (g := tGw K ca (List.map (fun y : Str × Nat => y.2) own) g) (te := tE K W0 ca el) (tt := tTL ω K W0 ca (fNot (fB (fCall n gz fa)))) rfl S.nd x1.pi okB (fun s1 H1 C cl fp => (x3 s1 H1 C cl fp).1.pg)
      (fun s1 H1 C cl fp => pts_one (pt_notL (p := q1) (pos := q2) (pos2 := q3) dz ro hgu tk0 (x3 s1 H1 C cl fp).2.2.1 (x3 s1 H1 C cl fp).2.1 hn hdb (x3 s1 H1 C cl fp).2.2.2.1 (x3 s1 H1 C cl fp).2.2.2.2.1))
      (fun s1 H1 C cl fp => (x3 s1 H1 C cl fp).2.2.2.2.2.pe) x2)
    (se_lst (pos := q5) (W := WD E) (ca := ca) sa_nil).pe (nomark _)
  refine ⟨_, hb ▸ pss_one (ps_ret (pos := q7) pe), ?_⟩
  have po := Post.split (Post.tidy ok po)
  rw [← hl] at po
  have po := Post.split (Post.split (po.sig (L2.start N vs)))
  unfold tRet tOp
  refine lc_readL ⟨B, Z, U, _, ok, start_sl rv, ld, po.imp fun C T2 I d gr q v r => ?_⟩
  refine ⟨C, Z, T2, _, gr.ok, (start_sl rv).grow gr, (Post.split q).imp fun C2 T3 J d2 g2 q2 v2 r2 => ?_⟩
  cases e1 : eqD d d2 T3 with
  | none => rw [e1] at q2; exact q2.elim
  | some d3 =>
    rw [e1] at q2
    refine ⟨C2, Z, T3, d, d2, d3, g2.ok, r.grow g2, r2, e1, fun B3 I3 v3 g3 r3 => ?_⟩
    exact q2 B3 I3 g3 B3 I3 (.refl g3.ok) B3 I3 (.refl g3.ok) v3 r3
end
end DL

set_option maxHeartbeats 4000000
/-! a lambda handed to a def, from where it is made -/
namespace DL
open PySem PySem.Spec PyProof.Rows L2
/-- f, made here, does later what fb says of the maker's slots -/
def LamV (X : Cx) (ca : Str → Addr) (k : Nat) (fb : FE) (f : Addr) (A Z : List Addr) (S : Sto) (H : Hp) : Prop :=
  ∀ (A' : List Addr) (S' : Sto) (H' : Hp) (pins : List (Addr × Obj)) (σ : L2.St) (ρ : Env) (s : Shared) (G : Heap), (∀ b o, cut A Z S H b = some o → cut A' Z S' H' b = some o) → Inv X pins σ H' s → Sl X.K A' (cut A' Z S' H') ρ σ →
    (∀ y c, X.env.cells.lookup y = some c → ∀ o, s.heap.get? c = some o → G.get? c = some o) → Cal X.prog X.w X.K X.mg G ca k ⟨H', A', Z, S'⟩ f (fun T => fb ρ T)
/-- a lambda's body -/
structure LamB (X : Cx) (ca : Str → Addr) (k : Nat) (params : Arguments) (body : Expr) (scope : Scope) (fb : FE) : Prop where
  L : LamX.LamS X.env.scope scope
  hdef : defaultsOf params X.env = ([], [])
  hbind : ∀ (q : Str) (cl : List (Str × Addr)) (pm cv ctv : Value), bindArgs (PySem.W.kla_fn "<lambda>" q params body scope cl pm cv ctv) ⟨[], []⟩ = pure []
  hbody : ∀ (G : Heap) (A : Around) (outer : List PySem.Env) (s : Shared) (H : Hp) (E : XK) (f c' : Addr), Room k (LamX.lamCx { X with base := G } A outer s H E scope f c').A → (LamX.lamCx { X with base := G } A outer s H E scope f c').A.guards = some [] →
    Takes (LamX.lamCx { X with base := G } A outer s H E scope f c') (WD E) → PassesOwn (model X.prog X.w) (LamX.lamCx { X with base := G } A outer s H E scope f c').A (LamX.lamCx { X with base := G } A outer s H E scope f c').env (LamX.lamCx { X with base := G } A outer s H E scope f c').xe →
      SE (LamX.lamCx { X with base := G } A outer s H E scope f c') (WD E) ca body fb
section
variable {X : Cx} {W : WX} {ca : Str → Addr} {pos : Pos} {k : Nat}
theorem LamV.grow {fb : FE} {f : Addr} {A Z A' : List Addr} {S S' : Sto} {H H' : Hp} (l : LamV X ca k fb f A Z S H) (g : Grow X.K Z A S H A' S' H') : LamV X ca k fb f A' Z S' H' :=
  fun A2 S2 H2 pins σ ρ s G ex => l A2 S2 H2 pins σ ρ s G fun b o e => ex b o (g.ex b o e)
/-- a lambda is made: P the table of the maker's code, which stands in the store at ti -/
def tLV (X : Cx) (ca : Str → Addr) (k ti : Nat) (P : Addr) (q : Str) (fb : FE) : TE := fun _ H Q => ∃ A Z S, SOk X.K A Z S H ∧ S[ti]? = some (.tab P q) ∧ ∀ f H', Grow X.K Z A S H A S H' → LamV X ca k fb f A Z S H' → H f = none → H' f ≠ none → (∀ b, H' b = none → H b = none) → Q (.ref f) H'
theorem pe_lamV {c P : Addr} {ti : Nat} {q : Str} {params : Arguments} {body : Expr} {scope : Scope} {fb : FE} (TB : LamX.TabB X.base X.mg c P) (hcode : X.env.code = .ref c) (hq : q = X.env.qual ++ "<lambda>") (B : LamB X ca k params body scope fb) :
    PE X (.Lambda params body scope pos) (tLV X ca (k + 1) ti P q fb) := by
  subst hq
  have p := pe_lam (pos := pos) (body := body) TB hcode B.L B.hdef
  refine ⟨fun pins s σ H Q I ⟨A, Z, S, ok, ht, h⟩ => p.run pins s σ H Q I ⟨(ok.tab ti P _ ht).2, fun f c' H1 st hn => ?_⟩⟩
  have g1 := st.grow ok ht
  have g2 : Grow X.K Z A S H1 A S (upd H1 f (LamO (X.env.qual ++ "<lambda>") params body scope (cloFrom X.env.cells scope.names []) f c')) := .new g1.ok hn
  have mono : ∀ b, H1 b = none → H b = none := fun b e => by
    rcases st.2.2 with rfl | ⟨ps, more, e1, e2, rfl⟩
    · exact e
    · by_cases h1 : b = c'
      · rw [h1]; exact e2
      · rw [upd_ne h1] at e
        by_cases h2 : b = P
        · rw [h2, upd_same] at e; cases e
        · rw [upd_ne h2] at e; exact e
  refine h f _ (g1.trans g2) (fun A' S' H' pins' σ' ρ s' G ex I' sl hb => ?_) (mono f hn) (by rw [upd_same]; simp) (fun b e => mono b (by
    by_cases h1 : b = f
    · rw [h1]; exact hn
    · rw [upd_ne h1] at e; exact e))
  exact cal_of I' B.L (ex _ _ (cut_new g1.ok hn)) (ex _ _ (cut_upd hn _ _ (cut_code g1.ok st.2.1))) sl hb B.hbind fun A outer s H E hr hgu tk hp => B.hbody G A outer s H E f c' hr hgu tk hp
open Classical in
/-- a base that holds all that is not tracked -/
theorem own_base {pins : List (Addr × Obj)} {σ : L2.St} {H : Hp} {s : Shared} (I : Inv X pins σ H s) (hfn : ∀ y, X.fn y = true) :
    ∃ G : Heap, Env0 X.prog X.w X.K X.mg G X.A X.stack s H ∧ ∀ y c, X.env.cells.lookup y = some c → ∀ o, s.heap.get? c = some o → G.get? c = some o := by
  obtain ⟨l, hl⟩ : ∃ l : List Addr, l = (List.range s.heap.objs.size).filter fun b => decide (H b ≠ none ∨ b ∈ frs X.stack) := ⟨_, rfl⟩
  have mem : ∀ b, b ∈ l ↔ b < s.heap.objs.size ∧ (H b ≠ none ∨ b ∈ frs X.stack) := fun b => by
    rw [hl, List.mem_filter, List.mem_range, decide_eq_true_eq]
  have in_ : ∀ b o, s.heap.get? b = some o → H b = none → b ∉ frs X.stack → (PySem.W.hideAll s.heap l).get? b = some o := fun b o e n nf => PySem.W.hideAll_get l e fun hm => by
    rcases ((mem b).mp hm).2 with z | z
    · exact z n
    · exact nf z
  have out : ∀ b o, (PySem.W.hideAll s.heap l).get? b = some o → s.heap.get? b = some o ∧ H b = none ∧ b ∉ frs X.stack := fun b o e => by
    have e1 := PySem.W.of_hideAll l e
    have nm : b ∉ l := fun hm => by
      rw [PySem.W.hideAll_none l hm] at e
      cases e
    have q : ¬ (H b ≠ none ∨ b ∈ frs X.stack) := fun z => nm ((mem b).mpr ⟨Heap.lt_size e1, z⟩)
    exact ⟨e1, Classical.byContradiction fun z => q (.inl z), fun z => q (.inr z)⟩
  have nst : ∀ b o, X.base.get? b = some o → b ∉ frs X.stack := fun b o e hm => by
    rcases List.mem_cons.mp (I.stkSub b hm) with z | z
    · have h1 := Heap.lt_size (I.ok.bs b o e).1
      rw [z] at h1
      exact absurd (Nat.lt_of_lt_of_le h1 I.ok.above) (Nat.lt_irrefl _)
    · exact I.ok.nofr e z
  have kp : ∀ b o, X.base.get? b = some o → (PySem.W.hideAll s.heap l).get? b = some o := fun b o e => in_ b o (I.bs b o e).1 (I.bs b o e).2 (nst b o e)
  obtain ⟨mb, m1, m2⟩ := I.mod.blt
  refine ⟨PySem.W.hideAll s.heap l, ⟨I.ok.frames, ⟨I.mod.kin.keeps kp, I.mod.glob.keeps kp, ⟨mb, m1.keeps kp, m2⟩, I.mod.nolimit.keeps kp⟩, fun b o e => ⟨(out b o e).1, (out b o e).2.1⟩, Nat.le_of_eq (PySem.W.hideAll_size _ _), ?_, I.stkFree, I.hok, I.bare⟩, fun y c hy o e => in_ c o e (I.freeC y c hy) ?_⟩
  · refine funFrames_none I.stack fun L hL => ?_
    cases e : (PySem.W.hideAll s.heap l).get? L with
    | none => rfl
    | some o => exact absurd hL (out L o e).2.2
  · intro hm
    rcases List.mem_cons.mp (I.stkSub c hm) with z | z
    · exact I.cne y c hy z
    · obtain ⟨_, o2, e2, _⟩ := I.ok.funs.mem z
      exact absurd (Nat.lt_of_lt_of_le (Heap.lt_size e2) (I.ok.cab y c (hfn y) hy)) (Nat.lt_irrefl _)
def oneF (g : (Sto → Res D) → List D → Sto → Res D) (f : Addr) (h : Sto → Res D) : List D → Sto → Res D := fun ds U => match ds with
  | .fn f' :: r => if f' = f then g h r U else .bad
  | _ => .bad
/-- x(lambda: body, es ..) -/
def fLam1 (ti : Nat) (P : Addr) (q : Str) (n : Nat) (g : (Sto → Res D) → List D → Sto → Res D) (fb : FE) (fa : FA) : FE := fun ρ S => match S[ti]? with
  | some (.tab P' q') => if P' = P ∧ q' = q then (fa ρ S).bind fun ds S1 => if ds.length = n then g (fun T => fb ρ T) ds S1 else .bad else .bad
  | _ => .bad
theorem se_lam1 {c P : Addr} {ti n kd : Nat} {q x a0 : Str} {p lpos : Pos} {params : Arguments} {body : Expr} {scope : Scope} {fb : FE} {es : List Expr} {fa : FA} {ps : List Str} {g : (Sto → Res D) → List D → Sto → Res D} (TB : LamX.TabB X.base X.mg c P) (hcode : X.env.code = .ref c) (hq : q = X.env.qual ++ "<lambda>") (B : LamB X ca k params body scope fb)
    (hD : ∀ (G : Heap) (ω : LW) (f : Addr) (h : Sto → Res D), Cal X.prog X.w X.K X.mg G ca (k + 1) ω f h → DefL X.prog X.w X.K X.mg G ca ω x (a0 :: ps) kd (oneF g f h))
    (hn : ps.length = n) (hfn : ∀ y, X.fn y = true) (hr : Room kd X.A) (hgu : X.A.guards = some []) (tk : Takes X W) (hg : Gl X x) (ha : SA X W ca es fa) (hdb : (x == ("__debug__" : Str)) = false)
    (he : starEach (.Lambda params body scope lpos :: es) X.env = (false, eval (.Lambda params body scope lpos) X.env) :: starEach es X.env) (hpl : (backTo pos (starEach es X.env)).any (·.1) = false)
    (hm : ∃ (fx : Addr), X.mg x = some (.ref fx) ∧ PySem.W.keepIn X.K (.ref fx) = true) : SE X W ca (.Call (.Name x p) (.Lambda params body scope lpos :: es) [] pos) (fLam1 ti P q n g fb fa) := by
  subst hn
  obtain ⟨fx, hmx, hkx⟩ := hm
  refine ⟨⟨fun pins s σ H Q I ⟨A, Z, S, ρ, ok, sl, po⟩ => ?_⟩⟩
  unfold fLam1 at po
  split at po
  · rename_i P' q' ht
    split at po
    · rename_i hpq
      obtain ⟨rfl, rfl⟩ := hpq
      refine wpAny_Call_Name_kw (ld_glob I hg hmx ?_ hdb)
      have pa := pa_cons (pe_lamV (pos := lpos) (ti := ti) TB hcode hq B) ha.pa he
      refine PySem.W.callWith_K (h₀ := X.base) I.ok.mod.kin hkx (thn (pa.run pos pins s σ H (fun vs H1 => ∃ f vs1 A1 S1 ds, vs = .ref f :: vs1 ∧ LamV X ca (k + 1) fb f A1 Z S1 H1 ∧ SOk X.K A1 Z S1 H1 ∧ Sl X.K A1 (cut A1 Z S1 H1) ρ σ ∧ DRs A1 (cut A1 Z S1 H1) X.K vs1 ds ∧ ds.length = ps.length ∧
        Post X.K W ca A1 Z S1 H1 σ (g (fun T => fb ρ T) ds S1) fun C T I d => ∀ v, DR C (cut C Z T I) X.K v d → Q v I) I ?_) fun us s1 ⟨vs, H1, I1, r1, f, vs1, A1, S1, ds, ev, lv, ok1, sl1, rv, hl, po1⟩ => ⟨I1.kIn, ?_⟩) he hpl
      · refine ⟨A, Z, S, ok, ht, fun f H1 g1 lv _ _ _ => ?_⟩
        refine ⟨A, Z, S, ρ, g1.ok, sl.grow g1, (Post.split (po.later g1)).imp fun C T J ds g2 q vs1 rv => ?_⟩
        by_cases hl : ds.length = ps.length
        · rw [if_pos hl] at q
          exact ⟨f, vs1, C, T, ds, rfl, lv.grow g2, g2.ok, (sl.grow g1).grow g2, rv, hl, q⟩
        · rw [if_neg hl] at q
          exact q.elim
      · subst ev
        obtain ⟨G, e0, hb⟩ := own_base I1 hfn
        have cal := lv A1 S1 H1 pins σ ρ s1 G (fun _ _ e => e) I1 sl1 hb
        obtain ⟨f2, fd, hm2, hk2, hbd, F⟩ := (hD G ⟨H1, A1, Z, S1⟩ f _ cal).ex
        rw [hmx] at hm2
        cases hm2
        have hlen : (V.ref f :: vs1).length = (a0 :: ps).length := by
          rw [List.length_cons, List.length_cons, rv.length, hl]
        have bd := hbd s1 us I1.kIn (by rw [List.append_nil]; exact r1.length.symm.trans hlen)
        simp only [List.append_nil] at bd
        refine wpAny_call (codeAny_mono (F X.A X.stack s1 H1 ⟨us, []⟩ us _ Q (fun c d H' => W c d σ H') A1 Z S1 (.fn f :: ds) hr hgu e0 bd r1 ok1 (.cons (.fn f) rv) (by rw [List.length_cons, List.length_cons, hl]) ⟨List.prefix_refl _, fun _ _ e => e⟩ ?_) fun r s2 z => ?_)
        · unfold oneF
          dsimp only
          rw [if_pos rfl]
          cases eg : g (fun T => fb ρ T) ds S1 with
          | ok d U => rw [eg] at po1; exact po1
          | err cl d U =>
            rw [eg] at po1
            exact fun B' I' dx v _ g1 h1 h2 => po1 B' I' dx v σ g1 h1 h2
          | bad => rw [eg] at po1; exact po1.elim
        · match r, z with
          | .error e, z => exact tk e s2 (XE.of_call I1 (fun _ _ _ h => h) z)
          | .ok (.ret u), z => exact I1.after z
          | .ok .next, z => exact z.elim
          | .ok .brk, z => exact z.elim
          | .ok .cont, z => exact z.elim
    · exact po.elim
  · exact po.elim
/-! a list of lambdas -/
inductive Fa2 {α β : Type} (R : α → β → Prop) : List α → List β → Prop
  | nil : Fa2 R [] []
  | cons {a : α} {b : β} {as : List α} {bs : List β} : R a b → Fa2 R as bs → Fa2 R (a :: as) (b :: bs)
theorem Fa2.imp {α β : Type} {R R' : α → β → Prop} (h : ∀ a b, R a b → R' a b) : ∀ {as : List α} {bs : List β}, Fa2 R as bs → Fa2 R' as bs
  | _, _, .nil => .nil
  | _, _, .cons r t => .cons (h _ _ r) (Fa2.imp h t)
theorem Fa2.map {α β γ : Type} {R : α → γ → Prop} {f : β → γ} : ∀ {as : List α} {bs : List β}, Fa2 (fun a b => R a (f b)) as bs → Fa2 R as (bs.map f)
  | _, _, .nil => .nil
  | _, _, .cons r t => .cons r (Fa2.map t)
theorem Fa2.length {α β : Type} {R : α → β → Prop} : ∀ {as : List α} {bs : List β}, Fa2 R as bs → as.length = bs.length
  | _, _, .nil => rfl
  | _, _, .cons _ t => congrArg (· + 1) (Fa2.length t)
def tLm (X : Cx) (ca : Str → Addr) (k ti : Nat) (P : Addr) (q : Str) (fbs : List FE) : TA := fun _ H Q => ∃ A Z S, SOk X.K A Z S H ∧ S[ti]? = some (.tab P q) ∧
  ∀ fs H', Grow X.K Z A S H A S H' → Fa2 (fun f fb => LamV X ca k fb f A Z S H') fs fbs → fs.Nodup → (∀ f ∈ fs, H f = none) → (∀ b, H' b = none → H b = none) → Q (fs.map .ref) H'
/-- lambdas one behind the other -/
structure SLm (X : Cx) (ca : Str → Addr) (k ti : Nat) (P : Addr) (q : Str) (es : List Expr) (fbs : List FE) : Prop where
  pa : PA X es (tLm X ca k ti P q fbs)
theorem slm_nil {ti : Nat} {P : Addr} {q : Str} : SLm X ca k ti P q [] [] := ⟨pa_imp pa_nil fun σ H Q ⟨A, Z, S, ok, ht, h⟩ => h [] H (.refl ok) .nil List.nodup_nil (fun _ z => (nomatch z)) fun _ e => e⟩
theorem slm_cons {c P : Addr} {ti : Nat} {q : Str} {params : Arguments} {body : Expr} {scope : Scope} {fb : FE} {es : List Expr} {fbs : List FE} (TB : LamX.TabB X.base X.mg c P) (hcode : X.env.code = .ref c) (hq : q = X.env.qual ++ "<lambda>") (B : LamB X ca k params body scope fb) (r : SLm X ca (k + 1) ti P q es fbs)
    (he : starEach (.Lambda params body scope pos :: es) X.env = (false, eval (.Lambda params body scope pos) X.env) :: starEach es X.env := by rfl) : SLm X ca (k + 1) ti P q (.Lambda params body scope pos :: es) (fb :: fbs) := by
  refine ⟨pa_imp (pa_cons (pe_lamV (pos := pos) (ti := ti) TB hcode hq B) r.pa he) fun σ H Q ⟨A, Z, S, ok, ht, h⟩ => ?_⟩
  refine ⟨A, Z, S, ok, ht, fun f H1 g1 lv n1 s1 m1 => ⟨A, Z, S, g1.ok, ht, fun fs H2 g2 lvs nd n2 m2 => ?_⟩⟩
  refine h (f :: fs) H2 (g1.trans g2) (.cons (lv.grow g2) lvs) (List.nodup_cons.mpr ⟨fun hm => s1 (n2 f hm), nd⟩) (fun b hb => ?_) fun b e => m1 b (m2 b e)
  rcases List.mem_cons.mp hb with rfl | hb
  · exact n1
  · exact m1 b (n2 b hb)
theorem drs_fns {A : List Addr} {G : Hp} {K : PySem.W.Frag} : ∀ fs : List Addr, DRs A G K (fs.map V.ref) (fs.map D.fn)
  | [] => .nil
  | f :: r => .cons (.fn f) (drs_fns r)
def fnsOf : List D → Option (List Addr)
  | [] => some []
  | .fn f :: r => (fnsOf r).map (f :: ·)
  | _ => none
theorem fnsOf_map : ∀ fs : List Addr, fnsOf (fs.map D.fn) = some fs
  | [] => rfl
  | f :: r => by
    show (fnsOf (r.map D.fn)).map (f :: ·) = _
    rw [fnsOf_map r]
    rfl
def allF (g : List (Sto → Res D) → List D → Sto → Res D) (fs : List Addr) (hs : List (Sto → Res D)) : List D → Sto → Res D := fun ds U => match ds with
  | .lst xs :: r => if fnsOf xs = some fs then g hs r U else .bad
  | _ => .bad
/-- x([lambda: .., ..], es ..) -/
def fLamN (ti : Nat) (P : Addr) (q : Str) (n : Nat) (g : List (Sto → Res D) → List D → Sto → Res D) (fbs : List FE) (fa : FA) : FE := fun ρ S => match S[ti]? with
  | some (.tab P' q') => if P' = P ∧ q' = q ∧ fbs.length ≤ capN then (fa ρ S).bind fun ds S1 => if ds.length = n then g (fbs.map fun fb T => fb ρ T) ds S1 else .bad else .bad
  | _ => .bad
theorem se_lamN {P : Addr} {ti n kd : Nat} {q x a0 : Str} {p lpos : Pos} {lams : List Expr} {fbs : List FE} {es : List Expr} {fa : FA} {ps : List Str} {g : List (Sto → Res D) → List D → Sto → Res D} (B : SLm X ca k ti P q lams fbs)
    (hD : ∀ (G : Heap) (ω : LW) (fs : List Addr) (hs : List (Sto → Res D)), fs.Nodup → Fa2 (fun f h => Cal X.prog X.w X.K X.mg G ca k ω f h) fs hs → DefL X.prog X.w X.K X.mg G ca ω x (a0 :: ps) kd (allF g fs hs))
    (hn : ps.length = n) (hfn : ∀ y, X.fn y = true) (hr : Room kd X.A) (hgu : X.A.guards = some []) (tk : Takes X W) (hg : Gl X x) (ha : SA X W ca es fa) (hdb : (x == ("__debug__" : Str)) = false)
    (he : starEach (.List lams lpos :: es) X.env = (false, eval (.List lams lpos) X.env) :: starEach es X.env) (hpl : (backTo pos (starEach es X.env)).any (·.1) = false)
    (hm : ∃ (fx : Addr), X.mg x = some (.ref fx) ∧ PySem.W.keepIn X.K (.ref fx) = true) : SE X W ca (.Call (.Name x p) (.List lams lpos :: es) [] pos) (fLamN ti P q n g fbs fa) := by
  subst hn
  obtain ⟨fx, hmx, hkx⟩ := hm
  refine ⟨⟨fun pins s σ H Q I ⟨A, Z, S, ρ, ok, sl, po⟩ => ?_⟩⟩
  unfold fLamN at po
  split at po
  · rename_i P' q' ht
    split at po
    · rename_i hpq
      obtain ⟨rfl, rfl, hcap⟩ := hpq
      refine wpAny_Call_Name_kw (ld_glob I hg hmx ?_ hdb)
      have pa := pa_cons (pe_lst (pos := lpos) B.pa) ha.pa he
      refine PySem.W.callWith_K (h₀ := X.base) I.ok.mod.kin hkx (thn (pa.run pos pins s σ H (fun vs H1 => ∃ l fs vs1 A1 S1 ds, vs = .ref l :: vs1 ∧ fs.Nodup ∧ Fa2 (fun f fb => LamV X ca k fb f A1 Z S1 H1) fs fbs ∧ SOk X.K A1 Z S1 H1 ∧ Sl X.K A1 (cut A1 Z S1 H1) ρ σ ∧ DR A1 (cut A1 Z S1 H1) X.K (.ref l) (.lst (fs.map .fn)) ∧ DRs A1 (cut A1 Z S1 H1) X.K vs1 ds ∧ ds.length = ps.length ∧
        Post X.K W ca A1 Z S1 H1 σ (g (fbs.map fun fb T => fb ρ T) ds S1) fun C T I d => ∀ v, DR C (cut C Z T I) X.K v d → Q v I) I ?_) fun us s1 ⟨vs, H1, I1, r1, l, fs, vs1, A1, S1, ds, ev, nd, lv, ok1, sl1, rl, rv, hl, po1⟩ => ⟨I1.kIn, ?_⟩) he hpl
      · refine ⟨A, Z, S, ok, ht, fun fs H1 g1 lv nd _ _ => ⟨by rw [List.length_map, lv.length]; exact capN_le hcap, fun l hlf => ?_⟩⟩
        have g0 : Grow X.K Z A S H1 A S (upd H1 l (.lst (fs.map .ref))) := .new g1.ok hlf
        have dl := new_lst (K := X.K) g1.ok hlf (drs_fns fs)
        refine ⟨A, Z, S, ρ, g0.ok, (sl.grow g1).grow g0, (Post.split (po.later (g1.trans g0))).imp fun C T J ds g2 q vs1 rv => ?_⟩
        by_cases hl : ds.length = ps.length
        · rw [if_pos hl] at q
          exact ⟨l, fs, vs1, C, T, ds, rfl, nd, lv.imp fun f fb z => (z.grow g0).grow g2, g2.ok, ((sl.grow g1).grow g0).grow g2, dl.grow g2, rv, hl, q⟩
        · rw [if_neg hl] at q
          exact q.elim
      · subst ev
        obtain ⟨G, e0, hb⟩ := own_base I1 hfn
        have cal := Fa2.map (f := fun (fb : FE) T => fb ρ T) (R := fun f h => Cal X.prog X.w X.K X.mg G ca k ⟨H1, A1, Z, S1⟩ f h) (lv.imp fun f fb z => z A1 S1 H1 pins σ ρ s1 G (fun _ _ e => e) I1 sl1 hb)
        obtain ⟨f2, fd, hm2, hk2, hbd, F⟩ := (hD G ⟨H1, A1, Z, S1⟩ fs _ nd cal).ex
        rw [hmx] at hm2
        cases hm2
        have hlen : (V.ref l :: vs1).length = (a0 :: ps).length := by
          rw [List.length_cons, List.length_cons, rv.length, hl]
        have bd := hbd s1 us I1.kIn (by rw [List.append_nil]; exact r1.length.symm.trans hlen)
        simp only [List.append_nil] at bd
        refine wpAny_call (codeAny_mono (F X.A X.stack s1 H1 ⟨us, []⟩ us _ Q (fun c d H' => W c d σ H') A1 Z S1 (.lst (fs.map .fn) :: ds) hr hgu e0 bd r1 ok1 (.cons rl rv) (by rw [List.length_cons, List.length_cons, hl]) ⟨List.prefix_refl _, fun _ _ e => e⟩ ?_) fun r s2 z => ?_)
        · unfold allF
          dsimp only
          rw [if_pos (fnsOf_map fs)]
          cases eg : g (fbs.map fun fb T => fb ρ T) ds S1 with
          | ok d U => rw [eg] at po1; exact po1
          | err cl d U =>
            rw [eg] at po1
            exact fun B' I' dx v _ g1 h1 h2 => po1 B' I' dx v σ g1 h1 h2
          | bad => rw [eg] at po1; exact po1.elim
        · match r, z with
          | .error e, z => exact tk e s2 (XE.of_call I1 (fun _ _ _ h => h) z)
          | .ok (.ret u), z => exact I1.after z
          | .ok .next, z => exact z.elim
          | .ok .brk, z => exact z.elim
          | .ok .cont, z => exact z.elim
    · exact po.elim
  · exact po.elim
end
end DL

set_option maxHeartbeats 4000000
/-! the end of a law whose defs make lambdas: the tables of their code objects -/
namespace DL
open PySem PySem.Spec PyProof.Rows L2
/-- a table: the code object, its table, the name of what it makes -/
abbrev Tb := Addr × Addr × Str
def tabS (ts : List Tb) : Sto := ts.map fun t => .tab t.2.1 t.2.2
def tabA (ts : List Tb) : List Addr := ts.map fun t => t.2.1
def LawOkT (g : List D → Sto → Res D) (S : Sto) (n : Nat) : Prop := ∀ ns : List Int, ns.length ≤ n → (∀ z ∈ ns, Builtin.Int.intBits z ≤ 1048576) → ∃ S', g [.kls (ns.map D.int)] S = .ok (.bl true) S'
section
variable {P : Program} {w : World} {K : PySem.W.Frag} {mg mb : Str → Option Value} {ca : Str → Addr} {k : Nat} {fa a : Addr} {fd : FuncData} {x : Str} {g : List D → Sto → Res D} {s1 : Shared} {us : List Value} {ns : List Int} {ts : List Tb}
theorem sok_tabs {H : Hp} (nd : (tabA ts).Nodup) (h : ∀ t ∈ ts, H t.2.1 = some (.tbl #[])) : SOk K (tabA ts) [] (tabS ts) H := by
  have at_ : ∀ (i : Nat) (c : CO), (tabS ts)[i]? = some c → ∃ t, ts[i]? = some t ∧ c = .tab t.2.1 t.2.2 := fun i c e => by
    unfold tabS at e
    rw [List.getElem?_map] at e
    cases q : ts[i]? with
    | none => rw [q] at e; cases e
    | some t => rw [q] at e; exact ⟨t, rfl, (Option.some.inj e).symm⟩
  refine ⟨by simp [tabA, tabS], nd, fun b hb => ?_, fun _ h => (nomatch h), fun i c ds hc hd => ?_, fun i Q q e => ?_⟩
  · obtain ⟨t, ht, rfl⟩ := List.mem_map.mp hb
    rw [h t ht]
    simp
  · obtain ⟨t, _, rfl⟩ := at_ i c hc
    rcases hd with z | z <;> cases z
  · obtain ⟨t, ht, e2⟩ := at_ i _ e
    cases e2
    refine ⟨?_, LamX.TabS.nil (h t (List.mem_of_getElem? ht))⟩
    unfold tabA
    rw [List.getElem?_map, ht]
    rfl
theorem cut_tabs {H : Hp} {b : Addr} {o : HO} (e : H b = some o) (hn : b ∉ tabA ts) : cut (tabA ts) [] (tabS ts) H b = some o :=
  cut_some.mpr ⟨e, fun z => (nomatch z), fun ⟨i, _, h1, _, _⟩ => hn (List.mem_of_getElem? h1)⟩
/-- one run, from a heap H that tells of the tables and, perhaps, the script -/
theorem run_lawT {H : Hp} (inK : K.In s1.heap) (top : s1.heap.Ns mainGlobals mg) (bn : s1.heap.Ns builtinsNs mb) (bt : ∀ y : Str, y ≠ "__name__" → mb y = bootBuiltins y) (fr : s1.heap.NoLimit) (gn : s1.gens = #[])
    (bm : ∃ (bm : Addr) (ob : Obj), mg "__builtins__" = some (.ref bm) ∧ bm ≠ builtinsNs ∧ s1.heap.get? bm = some ob ∧ ob.cls = .type "module" ∧ ob.dict = some builtinsNs ∧ ob.data = .plain)
    (obj : s1.heap.get? a = some { cls := .type "list", data := .seq us.toArray }) (room : Room k callerA) (cd : ∀ t ∈ ts, PySem.W.CodeHd s1.heap t.1 t.2.1 ∧ s1.heap.get? t.2.1 = some (PySem.W.tabObj #[]) ∧ K.lookup t.2.1 = none) (nd : (tabA ts).Nodup)
    (F : ∀ base : Heap, K.In base → base.Ns mainGlobals mg → (∀ t ∈ ts, LamX.TabB base mg t.1 t.2.1) → FnG P w K mg base k fa fd [x] (spD K ca 1 g)) (bd : ∀ (s : Shared) (u : Value), BindsTo s fd ⟨[u], []⟩ [(x, u)])
    (hg : ∃ S, g [.kls (ns.map D.int)] (tabS ts) = .ok (.bl true) S) (seen : SqL K H a (ns.map V.int)) (okH : HOk P w H s1.heap) (tb : ∀ t ∈ ts, H t.2.1 = some (.tbl #[])) (only : ∀ b, H b ≠ none → b ∈ tabA ts ∨ (b = a ∧ K.lookup b = none)) (frz : ∀ b u, H b = some u → b ∈ tabA ts ∨ ∃ o xs, u = .frz o (.lst xs)) :
    codeAny (model P w) callerA (.call (.ref fa) ⟨[.ref a], []⟩) (fun r s2 => r = .ok (.ret (.bool true)) ∧ OldK s1.heap s2.heap ∧ s2.os = s1.os ∧ AllBare s2.gens) s1 := by
  have isT : ∀ b ∈ tabA ts, ∃ t ∈ ts, b = t.2.1 := fun b hb => let ⟨t, ht, e⟩ := List.mem_map.mp hb; ⟨t, ht, e.symm⟩
  have kT : ∀ b ∈ tabA ts, K.lookup b = none ∧ s1.heap.get? b = some (PySem.W.tabObj #[]) := fun b hb => by
    obtain ⟨t, ht, rfl⟩ := isT b hb
    exact ⟨(cd t ht).2.2, (cd t ht).2.1⟩
  have aT : a ∉ tabA ts := fun hb => by
    have q := (kT a hb).2
    rw [obj] at q
    cases q
  have noH : ∀ {b : Addr} {o : Obj}, s1.heap.get? b = some o → (∀ vs n, o.data ≠ .seq vs n) → o.data ≠ .fields #[] → H b = none := fun {b o} e n1 n2 => by
    cases eH : H b with
    | none => rfl
    | some u =>
      rcases only b (by rw [eH]; exact fun z => nomatch z) with hb | ⟨rfl, _⟩
      · have q := (kT b hb).2
        rw [e] at q
        cases q
        exact absurd rfl n2
      · rw [obj] at e
        cases e
        exact absurd rfl (n1 _ _)
  have dictFree : ∀ {b : Addr} {o : Obj} {es : Array DictEntry} {ep : Nat}, s1.heap.get? b = some o → o.data = .dict es ep → H b = none := fun {b o es ep} e1 e2 => noH e1 (fun vs n z => by rw [e2] at z; cases z) (fun z => by rw [e2] at z; cases z)
  have low : ∀ {b : Addr} {m : Str → Option Value}, s1.heap.Ns b m → (hidT s1.heap H).Ns b m := fun {b m} ⟨o, es, ep, e1, e2, e3⟩ => ⟨o, es, ep, hidT_get e1 (dictFree e1 e2), e2, e3⟩
  have kIn : K.In (hidT s1.heap H) := fun b o e1 => hidT_get (inK b o e1) (by
    cases eH : H b with
    | none => rfl
    | some u =>
      rcases only b (by rw [eH]; exact fun z => nomatch z) with hb | ⟨_, z⟩
      · rw [(kT b hb).1] at e1; cases e1
      · rw [z] at e1; cases e1)
  obtain ⟨mc, f1, f2⟩ := fr
  have M : Mod K mg (hidT s1.heap H) := ⟨kIn, low top, ⟨mb, low bn, bt⟩, ⟨mc, low f1, f2⟩⟩
  have E0 : Env0 P w K mg (hidT s1.heap H) callerA [] s1 H := ⟨rfl, M, fun b o e1 => of_hidT e1, Nat.le_of_eq (hidT_size _ _), trivial, fun b hb => (nomatch hb), okH, .of_eq gn⟩
  have TB : ∀ t ∈ ts, LamX.TabB (hidT s1.heap H) mg t.1 t.2.1 := fun t ht => by
    obtain ⟨c1, c2, c3⟩ := cd t ht
    obtain ⟨o, vs, file, tf, fl, tg, inF, tx, tt, e1, r1, r2, r3, r4⟩ := c1
    obtain ⟨m1, ob, b1, b2, b3, b4, b5, b6⟩ := bm
    obtain ⟨oG, esG, epG, gG, dG, _⟩ := top
    have nP : t.2.1 ≠ mainGlobals := fun z => by
      rw [z, gG] at c2
      cases c2
      cases dG
    refine ⟨⟨o, vs, file, tf, fl, tg, inF, tx, tt, hidT_get e1 (noH e1 (fun us n z => by rw [r2] at z; cases z) fun z => ?_), r1, r2, r3, r4⟩, ⟨m1, ob, b1, b2, fun z => ?_, fun z => ?_, hidT_get b3 (noH b3 (fun us n z => by rw [b6] at z; cases z) fun z => by rw [b6] at z; cases z), b4, b5, b6⟩, fun z => nP z.symm⟩
    · rw [r2] at z
      cases z
      simp at r3
    · rw [z, gG] at b3
      cases b3
      rw [dG] at b6
      cases b6
    · rw [z, c2] at b3
      cases b3
      cases b6
  obtain ⟨S, eg⟩ := hg
  have prom : spD K ca 1 g [.ref a] H (fun v _ => v = .bl true) (fun _ _ _ => False) := by
    refine ⟨tabA ts, [], tabS ts, [.kls (ns.map D.int)], sok_tabs nd tb, .cons (.kls ?_ (drs_ints ns)) .nil, rfl, ?_⟩
    · rcases seen with (h | ⟨o, h⟩) | h
      · exact .inl (.inl (cut_tabs h aT))
      · exact .inl (.inr ⟨o, cut_tabs h aT⟩)
      · exact .inr h
    · rw [eg]
      exact fun B I gr v rv => by cases rv; rfl
  have go := (F _ kIn (low top) TB).run callerA [] s1 H ⟨[.ref a], []⟩ [.ref a] [.ref a] _ _ room rfl E0 (bd s1 (.ref a)) (.cons rfl .nil) prom
  refine codeAny_mono go ?_
  rintro (e | fl) s2 h
  · obtain ⟨_, _, _, _, _, _, _, _, _, _, _, _, _, _, _, _, _, h⟩ := h
  · cases fl with
    | ret u =>
      obtain ⟨v, H2, e1, e2, e3, e4, e5, e6⟩ := h
      subst e6
      obtain rfl : u = Value.bool true := e5
      have keep : ∀ b o, b ∉ tabA ts → s1.heap.get? b = some o → s2.heap.get? b = some o := fun b o nb e7 => by
        cases eH : H b with
        | none => exact e3.keep b o e7 eH (fun z => nomatch z) (fun z => nomatch z)
        | some q =>
          rcases frz b q eH with hb | ⟨ob, xs, rfl⟩
          · exact absurd hb nb
          · have k2 := e3.frzs b ob _ eH
            obtain ⟨g1, _⟩ := okH b _ eH
            obtain ⟨g2, _⟩ := e4 b _ k2
            rw [e7] at g1
            cases g1
            exact g2
      have long : ∀ t ∈ ts, ∃ more : Array Value, s2.heap.get? t.2.1 = some (PySem.W.tabObj more) := fun t ht => by
        obtain ⟨more, z⟩ := e3.tbls t.2.1 #[] (tb t ht)
        exact ⟨_, e4 t.2.1 _ z⟩
      refine ⟨rfl, ⟨fun b o e7 => ?_, fun b o e7 => ?_⟩, e1, e2⟩
      · by_cases hb : b ∈ tabA ts
        · obtain ⟨t, ht, rfl⟩ := isT b hb
          obtain ⟨more, hm⟩ := long t ht
          have c2 := (cd t ht).2.1
          rw [c2] at e7
          cases e7
          exact .inr (.inl ⟨((cd t ht).1.tab c2).isCodeTable, rfl, #[], more, rfl, by rw [Array.empty_append]; exact hm⟩)
        · exact .inl (keep b o hb e7)
      · by_cases hb : b ∈ tabA ts
        · obtain ⟨t, ht, rfl⟩ := isT b hb
          obtain ⟨more, hm⟩ := long t ht
          exact ⟨_, hm⟩
        · exact ⟨o, keep b o hb e7⟩
    | next => exact False.elim h
    | brk => exact False.elim h
    | cont => exact False.elim h
theorem run_lawT2 (inK : K.In s1.heap) (top : s1.heap.Ns mainGlobals mg) (bn : s1.heap.Ns builtinsNs mb) (bt : ∀ y : Str, y ≠ "__name__" → mb y = bootBuiltins y) (fr : s1.heap.NoLimit) (gn : s1.gens = #[])
    (bm : ∃ (bm : Addr) (ob : Obj), mg "__builtins__" = some (.ref bm) ∧ bm ≠ builtinsNs ∧ s1.heap.get? bm = some ob ∧ ob.cls = .type "module" ∧ ob.dict = some builtinsNs ∧ ob.data = .plain)
    (obj : s1.heap.get? a = some { cls := .type "list", data := .seq us.toArray }) (areI : IntsAre us ns) (few : ns.length ≤ sizeLine) (room : Room k callerA) (cd : ∀ t ∈ ts, PySem.W.CodeHd s1.heap t.1 t.2.1 ∧ s1.heap.get? t.2.1 = some (PySem.W.tabObj #[]) ∧ K.lookup t.2.1 = none) (nd : (tabA ts).Nodup)
    (F : ∀ base : Heap, K.In base → base.Ns mainGlobals mg → (∀ t ∈ ts, LamX.TabB base mg t.1 t.2.1) → FnG P w K mg base k fa fd [x] (spD K ca 1 g)) (bd : ∀ (s : Shared) (u : Value), BindsTo s fd ⟨[u], []⟩ [(x, u)])
    (hg : ∃ S, g [.kls (ns.map D.int)] (tabS ts) = .ok (.bl true) S) :
    codeAny (model P w) callerA (.call (.ref fa) ⟨[.ref a], []⟩) (fun r s2 => r = .ok (.ret (.bool true)) ∧ OldK s1.heap s2.heap ∧ s2.os = s1.os ∧ AllBare s2.gens) s1 := by
  have rv := vals_ints areI
  have eqn := areI.length
  have kT : ∀ b ∈ tabA ts, K.lookup b = none ∧ s1.heap.get? b = some (PySem.W.tabObj #[]) := fun b hb => by
    obtain ⟨t, ht, rfl⟩ := List.mem_map.mp hb
    exact ⟨(cd t ht).2.2, (cd t ht).2.1⟩
  have aT : a ∉ tabA ts := fun hb => by
    have q := (kT a hb).2
    rw [obj] at q
    cases q
  have memT : ∀ t ∈ ts, t.2.1 ∈ tabA ts := fun t ht => List.mem_map.mpr ⟨t, ht, rfl⟩
  cases hk : K.lookup a with
  | some o =>
    have e := inK a o hk
    rw [obj] at e
    cases e
    refine run_lawT (H := fun b => if b ∈ tabA ts then some (.tbl #[]) else none) inK top bn bt fr gn bm obj room cd nd F bd hg ?_ (fun b u z => ?_) (fun t ht => if_pos (memT t ht)) (fun b z => ?_) (fun b u z => ?_)
    · exact .inr ⟨_, us.toArray, _, hk, rfl, rfl, rfl, by rw [List.size_toArray, eqn]; exact few, by simpa using rv⟩
    · by_cases hb : b ∈ tabA ts
      · have z2 := (if_pos hb).symm.trans z
        cases z2
        exact (kT b hb).2
      · exact nomatch (if_neg hb).symm.trans z
    · by_cases hb : b ∈ tabA ts
      · exact .inl hb
      · exact absurd (if_neg hb) z
    · by_cases hb : b ∈ tabA ts
      · exact .inl hb
      · exact nomatch (if_neg hb).symm.trans z
  | none =>
    let H1 : Hp := fun b => if b = a then some (.frz { cls := .type "list", data := .seq us.toArray } (.lst (ns.map V.int))) else if b ∈ tabA ts then some (.tbl #[]) else none
    have at1 : H1 a = some (.frz { cls := .type "list", data := .seq us.toArray } (.lst (ns.map V.int))) := if_pos rfl
    have atT : ∀ b ∈ tabA ts, H1 b = some (.tbl #[]) := fun b hb => (if_neg (fun z : b = a => aT (by rw [← z]; exact hb))).trans (if_pos hb)
    have off : ∀ b, b ≠ a → b ∉ tabA ts → H1 b = none := fun b z y => (if_neg z).trans (if_neg y)
    refine run_lawT (H := H1) inK top bn bt fr gn bm obj room cd nd F bd hg (.inl (.inr ⟨_, at1⟩)) (fun b u z => ?_) (fun t ht => atT _ (memT t ht)) (fun b z => ?_) (fun b u z => ?_)
    · by_cases c : b = a
      · subst c
        rw [at1] at z
        cases z
        exact ⟨obj, by rw [List.length_map]; exact few, us, _, rv, obj⟩
      · by_cases hb : b ∈ tabA ts
        · rw [atT b hb] at z
          cases z
          exact (kT b hb).2
        · rw [off b c hb] at z
          cases z
    · by_cases c : b = a
      · subst c
        exact .inr ⟨rfl, hk⟩
      · by_cases hb : b ∈ tabA ts
        · exact .inl hb
        · exact absurd (off b c hb) z
    · by_cases c : b = a
      · subst c
        rw [at1] at z
        cases z
        exact .inr ⟨_, _, rfl⟩
      · by_cases hb : b ∈ tabA ts
        · exact .inl hb
        · rw [off b c hb] at z
          cases z
end
/-- THE END, with tables -/
theorem walk_DT {l : PySem.W.OpenLaw} {n k : Nat} {q : Program} {loose : List Str} {XP : (Str → Option Value) → Heap → Prop} {YP : World → Heap → Prop} {d : DefRec} {K : Params → PySem.W.Frag} {x : Str}
    (hn : l.most = some n) (hn2 : n ≤ sizeLine) (hdf : d.params.defaults = []) (room : Room k callerA) (hY : ∀ (w : World) (h : Heap), YP w h → (K w.params).In h)
    (F : ∀ (w : World) (mg : Str → Option Value) (fa : Addr) (h : Heap), (K w.params).In h → h.Ns mainGlobals mg → mg d.name = some (.ref fa) →
      ∃ (fd : FuncData) (ca : Str → Addr) (g : List D → Sto → Res D) (ts : List Tb), (∀ (s : Shared) (u : Value), BindsTo s fd ⟨[u], []⟩ [(x, u)]) ∧
        (∀ t ∈ ts, ∃ (y : Str) (e : DefRec), (recsOf q).find? (fun e => e.name == y) = some e ∧ PySem.W.tabIn (K w.params) y = some (t.1, t.2.1) ∧ (K w.params).lookup t.2.1 = none) ∧ (tabA ts).Nodup ∧ LawOkT g (tabS ts) n ∧
        ∀ base : Heap, (K w.params).In base → base.Ns mainGlobals mg → (∀ t ∈ ts, LamX.TabB base mg t.1 t.2.1) → FnG l.prog w (K w.params) mg base k fa fd [x] (spD (K w.params) ca 1 g)) :
    PySem.W.WalkO q loose XP YP l.row.toRowW d [] (fun f vs => PySem.call f vs) := by
  refine Att.attach_callB hn hdf fun w s0 s1 mg mb fa o pm cd doc a us ns G Y h1 h2 h3 h4 h5 h6 h7 h8 h9 => ?_
  have inK := hY w _ Y
  obtain ⟨fd, ca, g, ts, bd, tt, nd, ok, F2⟩ := F w mg fa _ inK G.T.g h4
  refine run_lawT2 inK G.T.g G.T.b G.T.builtins G.T.nolimit h9 G.T.bmain h5 h6 (Nat.le_trans h7 hn2) room (fun t ht => ?_) nd F2 bd (ok ns h7 h8)
  obtain ⟨y, e, e1, e2, e3⟩ := tt t ht
  obtain ⟨c1, c2⟩ := PySem.W.tab_of G.T inK e1 e2
  exact ⟨c1, c2, e3⟩
end DL

set_option maxHeartbeats 4000000
/-! an exception as a value: isinstance, its field; lists of bools: count, index -/
namespace DL
open PySem PySem.Spec PyProof.Rows L2
/-- what the written part says of an exception class whose instances are asked -/
structure XHeld (K : PySem.W.Frag) (C : Addr) : Prop where
  cl : (PySem.W.clsIn K C).isSome = true
  ga : PySem.W.findIn K (.ref C) "__getattribute__" = some (some (.builtin "BaseException.__getattribute__"))
  gg : PySem.W.findIn K (.ref C) "__getattr__" = some none
  exC : PySem.W.subIn K (.ref C) (.type "BaseException") = some true
  hdC : PySem.W.hasDictIn K C = true
  ca : PySem.W.findIn K (.ref C) "__class__" = some (some (.builtin "object.__class__"))
  sp : PySem.W.specialIn K (.builtin "object.__class__") "__get__" = some (some (.builtin "getset_descriptor.__get__"))
  tk : PySem.W.takesIn K (.builtin "object.__class__") = some true
  ob : PySem.W.mroIn K C (.type "object") = some true
  nv : PySem.W.findIn K (.ref C) "value" = some none
section
variable {X : Cx} {W : WX} {ca : Str → Addr} {e a b : Expr} {es : List Expr} {pos : Pos}
theorem exV_at {K : PySem.W.Frag} {pins : List (Addr × Obj)} {σ : L2.St} {H : Hp} {s : Shared} {a dd C : Addr} {fs : List (Str × V)} (I : Inv X pins σ H s) (h1 : H a = some (ExV (.ref C) (some dd) a)) (h2 : H dd = some (.xd fs)) :
    ∃ oe od, PySem.W.InstAt s.heap a oe C (some od) ∧ ∀ f : Str, ∃ u, PySem.W.lookIn f od = some u ∧ RelO (fs.lookup f) u := by
  have x1 : ObjOk X.prog X.w H s.heap a (.ext fun h => ∃ (oe : Obj) (vs : Array Value), h.get? a = some oe ∧ Zc (.ref C) (some dd) oe ∧ oe.data = .fields vs) := I.hok a _ h1
  obtain ⟨⟨oe, vs, e1, z, dt⟩, _⟩ := x1
  obtain ⟨mA, hns, hr⟩ := (show ObjOk X.prog X.w H s.heap dd (.xd fs) from I.hok dd _ h2)
  obtain ⟨od, ho, hl⟩ := lookIn_ns hns
  exact ⟨oe, od, ⟨e1, z.1, by unfold PySem.W.notCls; rw [dt] <;> rfl, by rw [z.2]; exact ho⟩, fun f => ⟨mA f, hl f, hr f⟩⟩
def rIsX (K : PySem.W.Frag) : List V → Hp → VK → Prop := fun xs H Q => ∃ (a dd C c : Addr) (fs : List (Str × V)) (b : Bool), xs = [.ref a, .ref c] ∧ H a = some (ExV (.ref C) (some dd) a) ∧ H dd = some (.xd fs) ∧ XHeld K C ∧ PySem.W.kitOne K (.ref C) (.ref c) = some b ∧ Q (.bl b) H
theorem call_isX : CallR X (.builtin "isinstance") (rIsX X.K) := by
  intro pins s σ H xs us Q I r h
  obtain ⟨a, dd, C, c, fs, b, rfl, h1, h2, T, kb, q⟩ := h
  cases r with
  | cons rx rr =>
    cases rr with
    | cons rt rr =>
      cases rr
      cases rx
      cases rt
      obtain ⟨oe, od, J, _⟩ := exV_at (K := X.K) I h1 h2
      exact PySem.W.kia_one (PySem.W.kitx_exc T.cl T.ga T.gg T.exC T.ca T.sp T.tk T.ob) I.kIn J kb (fun z => nomatch z) fun tk => ⟨.bl b, H, I.kept (t' := tk) fun _ _ z => z, rfl, q⟩
/-- of which classes an exception of the class c is -/
def xsub (c c0 : Str) : Bool := c == c0
def fIsX (xs : List Str) (c0 : Str) (f : FE) : FE := fun ρ S => (f ρ S).bind fun d S1 => match d with
  | .exc c _ => if xs.contains c then .ok (.bl (xsub c c0)) S1 else .bad
  | _ => .bad
theorem se_isX {x : Str} {p p1 : Pos} {f : FE} {xs : List Str} (h : SE X W ca e f) (hx : X.mg x = some (.ref (caK X.K x))) (hgx : Gl X x) (hg : Gl X "isinstance") (hm : X.mg "isinstance" = none) (T : ∀ c ∈ xs, XHeld X.K (caK X.K c) ∧ PySem.W.kitOne X.K (.ref (caK X.K c)) (.ref (caK X.K x)) = some (xsub c x))
    (hd : (x == ("__debug__" : Str)) = false := by decide) (hs : starEach [e, .Name x p1] X.env = (false, eval e X.env) :: starEach [.Name x p1] X.env := by rfl) : SE X W ca (.Call (.Name "isinstance" p) [e, .Name x p1] [] pos) (fIsX xs x f) := by
  refine se_of (pe_callB call_isX hg hm boot_isinstance (pa_cons h.pe (pa_cons (pe_glob (v := .ref (caK X.K x)) hgx hx rfl hd) pa_nil) hs) (by decide) (by decide) hs (by rfl)) fun σ H Q ⟨A, Z, S, ρ, ok, sl, p⟩ => ?_
  refine ⟨A, Z, S, ρ, ok, sl, (Post.split p).imp fun B U I d gr q v rv => ?_⟩
  cases d with
  | exc c d0 =>
    cases rv with
    | @exc a dd _ v0 _ k1 k2 k3 =>
      by_cases hc : xs.contains c = true
      · have q : Post X.K W ca B Z U I σ (if xs.contains c = true then .ok (D.bl (xsub c x)) U else .bad) _ := q
        rw [if_pos hc] at q
        obtain ⟨t1, t2⟩ := T c (List.contains_iff_mem.mp hc)
        exact ⟨a, dd, caK X.K c, caK X.K x, _, xsub c x, rfl, cut_sub k1, cut_sub k2, t1, t2, q B I (.refl gr.ok) _ (.bl _)⟩
      · have q : Post X.K W ca B Z U I σ (if xs.contains c = true then .ok (D.bl (xsub c x)) U else .bad) _ := q
        rw [if_neg hc] at q
        exact q.elim
  | _ => exact q.elim
/-- e.value -/
def fXv (xs : List Str) (f : FE) : FE := fun ρ S => (f ρ S).bind fun d S1 => match d with
  | .exc c d => if xs.contains c then .ok d S1 else .bad
  | _ => .bad
theorem se_xv {f : FE} {xs : List Str} (h : SE X W ca e f) (T : ∀ c ∈ xs, XHeld X.K (caK X.K c)) (hb : attributeBase e "value" X.env (eval e X.env) = eval e X.env := by rfl) : SE X W ca (.Attribute e "value" pos) (fXv xs f) := by
  refine ⟨⟨fun pins s σ H Q I ⟨A, Z, S, ρ, ok, sl, po⟩ => ?_⟩⟩
  refine attr_of hb (thn (h.pe.run pins s σ H (fun x H1 => ∃ a dd c v, x = .ref a ∧ c ∈ xs ∧ H1 a = some (ExV (.ref (caK X.K c)) (some dd) a) ∧ H1 dd = some (.xd [("value", v)]) ∧ Q v H1) I ?_) fun u s1 ⟨x, H1, I1, rx, a, dd, c, v, ex, hc, k1, k2, q⟩ => ?_)
  · refine ⟨A, Z, S, ρ, ok, sl, (Post.split po).imp fun B U J d gr q v rv => ?_⟩
    cases d with
    | exc c d0 =>
      cases rv with
      | @exc a dd _ v0 _ k1 k2 k3 =>
        by_cases hc : xs.contains c = true
        · have q : Post X.K W ca B Z U J σ (if xs.contains c = true then .ok d0 U else .bad) _ := q
          rw [if_pos hc] at q
          exact ⟨a, dd, c, v0, rfl, List.contains_iff_mem.mp hc, cut_sub k1, cut_sub k2, q B J (.refl gr.ok) _ k3⟩
        · have q : Post X.K W ca B Z U J σ (if xs.contains c = true then .ok d0 U else .bad) _ := q
          rw [if_neg hc] at q
          exact q.elim
    | _ => exact q.elim
  · subst ex
    obtain rfl : u = Value.ref a := rx
    obtain ⟨oe, od, J, hl⟩ := exV_at (K := X.K) I1 k1 k2
    obtain ⟨uo, l1, l2⟩ := hl "value"
    have t := T c hc
    have e0 : ([("value", v)] : List (Str × V)).lookup ("value" : Str) = some v := by simp [List.lookup]
    rw [e0] at l2
    cases uo with
    | none => exact l2.elim
    | some u2 => exact HandSPX.exc_get I1.kIn J t.ga t.gg t.exC (PySem.W.findObj_own t.hdC t.nv rfl l1) (handed_of l2) ⟨v, H1, I1.tok _, l2, q⟩
/-! lists of bools -/
def eqbV (b : Bool) (v : Value) : Bool := match v with
  | .bool c => c == b
  | _ => false
theorem bools_of {us : List Value} : ∀ {bs : List Bool}, Vals (bs.map V.bl) us → us = bs.map Value.bool
  | [], r => by cases r; rfl
  | b :: bs, r => by
    cases r with
    | cons h t => rw [List.map_cons, bools_of t, (show _ = Value.bool b from h)]
def rCntB (K : PySem.W.Frag) : V → List V → Hp → VK → Prop := fun x xs H Q => ∃ (p : Addr) (bs : List Bool) (b : Bool), x = .ref p ∧ xs = [.bl b] ∧ SqL K H p (bs.map V.bl) ∧ Q (.int (bs.count b : Nat)) H
theorem mt_bcount : MtR X "list.count" (rCntB X.K) := by
  intro pins s σ H x xs v us Q I rx rxs h
  obtain ⟨p, bs, b, rfl, rfl, hs, q⟩ := h
  cases rx
  obtain ⟨u, rfl, ru⟩ := rxs.one
  obtain rfl : u = Value.bool b := ru
  obtain ⟨its, rv, ⟨⟨cls, dd, data, sl⟩, n, ho, hc, hdn, hd⟩, hlen⟩ := I.list hs
  simp only at hc hd
  subst hc hd
  have hb := bools_of rv
  subst hb
  refine call_meets PySem.F.slot_list_count ⟨_, ho, rfl⟩ PySem.F.entry_list_count (PySem.F.args_list_count_2 _ _) (SeqAt.list_countAt p (bs.map Value.bool).toArray n dd sl (.bool b) (eqbV b)) ⟨ho, fun y hy => ?_, ?_⟩
  · obtain ⟨c, _, rfl⟩ := List.mem_map.mp (List.mem_toArray.mp hy)
    exact eqAt_V (y := .bl c) (x := .bl b) rfl rfl rfl rfl
  · have ec : (bs.map Value.bool).toArray.toList.countP (eqbV b) = bs.count b := by
      show (bs.map Value.bool).countP (eqbV b) = bs.count b
      rw [List.countP_map]
      rfl
    refine ⟨.int (bs.count b : Nat), H, I.tok _, ⟨s.toks, ?_⟩, q⟩
    show Value.int (((bs.map Value.bool).toArray.toList.countP (eqbV b) : Nat) : Int) s.toks = Value.int ((bs.count b : Nat) : Int) s.toks
    rw [ec]
def boolsOf : List D → Option (List Bool)
  | [] => some []
  | .bl b :: r => (boolsOf r).map (b :: ·)
  | _ => none
theorem boolsOf_map : ∀ {xs : List D} {bs : List Bool}, boolsOf xs = some bs → xs = bs.map D.bl
  | [], bs, h => by cases h; rfl
  | d :: r, bs, h => by
    cases d with
    | bl b =>
      simp only [boolsOf] at h
      cases e : boolsOf r with
      | none => rw [e] at h; cases h
      | some cs =>
        rw [e] at h
        cases h
        rw [List.map_cons, ← boolsOf_map e]
    | _ => cases h
theorem drs_bools {K : PySem.W.Frag} {A : List Addr} {G : Hp} : ∀ {bs : List Bool} {vs : List V}, DRs A G K vs (bs.map D.bl) → vs = bs.map V.bl
  | [], _, h => by cases h; rfl
  | b :: bs, _, h => by
    cases h with
    | cons h1 h2 =>
      cases h1
      rw [drs_bools h2]
      rfl
/-- xs.count(b) -/
def fCnt (fo f : FE) : FE := fun ρ S => (fo ρ S).bind fun o S1 => (match lstOf S1 o with | some _ => .ok () S1 | none => .bad : Res Unit).bind fun _ S1 => (f ρ S1).bind fun d S2 => match d with
  | .bl b => match lstOf S2 o with
    | some xs => match boolsOf xs with
      | some bs => .ok (.int (bs.count b : Nat)) S2
      | none => .bad
    | none => .bad
  | _ => .bad
theorem se_cnt {o : Expr} {fo f : FE} {apos : Pos} (ho : SE X W ca o fo) (he : SE X W ca e f) (hbase : attributeBase o "count" X.env (eval o X.env) = eval o X.env := by rfl)
    (hfew : ((backTo pos (starEach [e] X.env)).all (fun x => !x.1) && (backToKw pos (keywordEach [] X.env)).all (fun x => x.1.isSome) && decide ([e].length + ([] : List Keyword).length + (if ([] : List Keyword).isEmpty then 0 else 1) < 30)) = true := by rfl)
    (hline : (apos.endLine == pos.line) = true := by rfl) (hs : starEach [e] X.env = (false, eval e X.env) :: starEach [] X.env := by rfl) (hplain : (backTo pos (starEach [] X.env)).any (·.1) = false := by rfl) :
    SE X W ca (.Call (.Attribute o "count" apos) [e] [] pos) (fCnt fo f) := by
  refine se_of (pe_bm PySem.F.plainAttrs_list PySem.F.slot_list_count PySem.F.type_list_count mt_bcount ho.pe (pa_cons he.pe pa_nil hs) hbase hfew hline hs hplain) fun σ H Q ⟨A, Z, S, ρ, ok, sl, p⟩ => ?_
  refine ⟨A, Z, S, ρ, ok, sl, (Post.split p).imp fun B T I o' gr q w rw_ => ?_⟩
  cases e0 : lstOf T o' with
  | none => rw [e0] at q; exact q.elim
  | some ys =>
    rw [e0] at q
    simp only [Res.bind_ok] at q
    obtain ⟨a0, vs0, rfl, h1, _⟩ := lstOf_at gr.ok rw_ e0
    refine ⟨.inl ⟨rfl, _, SqL.of h1⟩, B, Z, T, ρ, gr.ok, sl.grow gr, (Post.split q).imp fun C U J d gr2 q2 x rx => ?_⟩
    cases d with
    | bl b =>
      cases rx
      dsimp only at q2
      cases e1 : lstOf U o' with
      | none => rw [e1] at q2; exact q2.elim
      | some xs =>
        rw [e1] at q2
        dsimp only at q2
        cases e2 : boolsOf xs with
        | none => rw [e2] at q2; exact q2.elim
        | some bs =>
          rw [e2] at q2
          obtain ⟨a1, vs1, e3, k1, k2⟩ := lstOf_at gr2.ok (rw_.grow gr2) e1
          cases e3
          rw [boolsOf_map e2] at k2
          rw [drs_bools k2] at k1
          exact ⟨a0, bs, b, rfl, rfl, SqL.of k1, q2 C J (.refl gr2.ok) _ (.int _)⟩
    | _ => exact q2.elim
/-- xs.index(b), b in the list -/
def fIdx (fo f : FE) : FE := fun ρ S => (fo ρ S).bind fun o S1 => (match lstOf S1 o with | some _ => .ok () S1 | none => .bad : Res Unit).bind fun _ S1 => (f ρ S1).bind fun d S2 => match d with
  | .bl b => match lstOf S2 o with
    | some xs => match boolsOf xs with
      | some bs => if bs.contains b then .ok (.int (bs.idxOf b : Nat)) S2 else .bad
      | none => .bad
    | none => .bad
  | _ => .bad
theorem se_idx {o : Expr} {fo f : FE} {apos : Pos} (ho : SE X W ca o fo) (he : SE X W ca e f) (hbase : attributeBase o "index" X.env (eval o X.env) = eval o X.env := by rfl)
    (hfew : ((backTo pos (starEach [e] X.env)).all (fun x => !x.1) && (backToKw pos (keywordEach [] X.env)).all (fun x => x.1.isSome) && decide ([e].length + ([] : List Keyword).length + (if ([] : List Keyword).isEmpty then 0 else 1) < 30)) = true := by rfl)
    (hline : (apos.endLine == pos.line) = true := by rfl) (hs : starEach [e] X.env = (false, eval e X.env) :: starEach [] X.env := by rfl) (hplain : (backTo pos (starEach [] X.env)).any (·.1) = false := by rfl) :
    SE X W ca (.Call (.Attribute o "index" apos) [e] [] pos) (fIdx fo f) := by
  refine se_of (pe_bm PySem.F.plainAttrs_list PySem.F.slot_list_index PySem.F.type_list_index mt_index ho.pe (pa_cons he.pe pa_nil hs) hbase hfew hline hs hplain) fun σ H Q ⟨A, Z, S, ρ, ok, sl, p⟩ => ?_
  refine ⟨A, Z, S, ρ, ok, sl, (Post.split p).imp fun B T I o' gr q w rw_ => ?_⟩
  cases e0 : lstOf T o' with
  | none => rw [e0] at q; exact q.elim
  | some ys =>
    rw [e0] at q
    simp only [Res.bind_ok] at q
    obtain ⟨a0, vs0, rfl, h1, _⟩ := lstOf_at gr.ok rw_ e0
    refine ⟨.inl ⟨rfl, _, SqL.of h1⟩, B, Z, T, ρ, gr.ok, sl.grow gr, (Post.split q).imp fun C U J d gr2 q2 x rx => ?_⟩
    cases d with
    | bl b =>
      cases rx
      dsimp only at q2
      cases e1 : lstOf U o' with
      | none => rw [e1] at q2; exact q2.elim
      | some xs =>
        rw [e1] at q2
        dsimp only at q2
        cases e2 : boolsOf xs with
        | none => rw [e2] at q2; exact q2.elim
        | some bs =>
          rw [e2] at q2
          dsimp only at q2
          by_cases hc : bs.contains b = true
          · rw [if_pos hc] at q2
            obtain ⟨a1, vs1, e3, k1, k2⟩ := lstOf_at gr2.ok (rw_.grow gr2) e1
            cases e3
            rw [boolsOf_map e2] at k2
            rw [drs_bools k2] at k1
            have hm : b ∈ bs := List.contains_iff_mem.mp hc
            have hlt : bs.idxOf b < bs.length := List.idxOf_lt_length_iff.mpr hm
            refine ⟨a0, bs.map V.bl, .bl b, bs.idxOf b, .bl b, rfl, rfl, SqL.of k1, rfl, ?_, ?_, by simp [eqV], fun m z' hm' hz => ?_, q2 C J (.refl gr2.ok) _ (.int _)⟩
            · exact List.all_eq_true.mpr fun z hz => by
                obtain ⟨c, _, rfl⟩ := List.mem_map.mp hz
                rfl
            · rw [List.getElem?_map, List.getElem?_eq_getElem hlt, List.getElem_idxOf]
              rfl
            · rw [List.getElem?_map] at hz
              cases e5 : bs[m]? with
              | none => rw [e5] at hz; cases hz
              | some c =>
                rw [e5] at hz
                cases hz
                show (c == b) = false
                obtain ⟨hl2, e6⟩ := List.getElem?_eq_some_iff.mp e5
                have := List.not_of_lt_findIdx hm'
                simpa [e6] using this
          · rw [if_neg hc] at q2
            exact q2.elim
    | _ => exact q2.elim
end
end DL

set_option maxHeartbeats 4000000
/-! what is refused: as data -/
namespace DL
open PySem PySem.Spec PyProof.Rows L2
abbrev Thk := Sto → Res D
def refD (m j : Nat) (fr : FS) (c : Thk → Thk) (h : Thk) (r : List D) (U : Sto) : Res D :=
  tidy U.length (finD ((c h U).bind fun d T => fr ((none :: (r.map some ++ List.replicate (m - (r.length + 1)) none)).set j (some d)) T))
theorem firstD_lam {m j : Nat} {fr : FS} {c : Thk → Thk} {Λ : Addr → Thk} {fs : List Addr} {f : Addr} {r : List D} {U : Sto} (hf : f ∈ fs) : firstD m j fr (lamF Λ fs c) (.fn f :: r) U = refD m j fr c (Λ f) r U := by
  unfold firstD refD lamF
  simp only [List.contains_iff_mem.mpr hf, if_true]
/-- all are refused -/
def allL (R : Thk → List D → Sto → Res D) : List Thk → List D → Sto → Res Unit
  | [], _, U => .ok () U
  | h :: hs, r, U => (R h r U).bind fun d T => match d with
    | .bl true => allL R hs r T
    | _ => .bad
def allD (R : Thk → List D → Sto → Res D) (hs : List Thk) (r : List D) (U : Sto) : Res D := if hs.length < capN ∧ r.length = 2 then (noErr (allL R hs r U)).bind fun _ T => if T.all coFree && decide (T.length ≤ U.length) then .ok (.bl true) T else .bad else .bad
abbrev allT (gz : List D → Sto → Res D) : FT := fNot (fB (fCall 3 gz (fCons (fVar 3) (fCons (fVar 1) (fCons (fVar 2) fNil)))))
abbrev allB (gz : List D → Sto → Res D) : FS := fRet (fOp eqD (fLc [3] (fiAny (fVar 0)) (fgName 3) (allT gz) (fVar 3)) (fLst fNil))
theorem allL_comp {m j : Nat} {fr : FS} {c : Thk → Thk} {Λ : Addr → Thk} {fs : List Addr} {l w v : D} : ∀ (fl : List Addr) {U T : Sto}, (∀ f ∈ fl, f ∈ fs) → allL (refD m j fr c) (fl.map Λ) [w, v] U = .ok () T →
    compD (fgName 3) (allT (firstD m j fr (lamF Λ fs c))) (fVar 3) (fl.map D.fn) [some l, some w, some v, none] U = .ok [] T
  | [], U, T, _, h => by cases h; rfl
  | f :: fl, U, T, hf, h => by
    have hf0 := hf f List.mem_cons_self
    have e0 : allT (firstD m j fr (lamF Λ fs c)) [some l, some w, some v, some (.fn f)] U = (asB (refD m j fr c (Λ f) [w, v] U)).bind fun b T => .ok (!b) T := by
      rw [← firstD_lam (m := m) (j := j) (fr := fr) (c := c) (Λ := Λ) (fs := fs) (r := [w, v]) hf0]
      rfl
    rw [List.map_cons] at h
    unfold allL at h
    cases e1 : refD m j fr c (Λ f) [w, v] U with
    | ok d T1 =>
      rw [e1] at h
      simp only [Res.bind_ok] at h
      split at h
      · have ih := allL_comp (l := l) fl (U := T1) (T := T) (fun g hg => hf g (List.mem_cons_of_mem _ hg)) h
        rw [List.map_cons]
        unfold compD
        have e2 : fgName 3 (D.fn f) [some l, some w, some v, none] U = .ok [some l, some w, some v, some (.fn f)] U := rfl
        rw [e2]
        simp only [Res.bind_ok]
        rw [e0, e1]
        simp only [asB_ok, Res.bind_ok, Bool.not_true, Bool.false_eq_true, if_false]
        exact ih
      · cases h
    | err _ _ _ => rw [e1] at h; cases h
    | bad => rw [e1] at h; cases h
theorem allD_eq {m j : Nat} {fr : FS} {c : Thk → Thk} {Λ : Addr → Thk} {fs : List Addr} {N : List Str} {r : List D} {U : Sto} (hN : N.length = 4) (hb : allD (refD m j fr c) (fs.map Λ) r U ≠ .bad) :
    bodyT N 3 (allB (firstD m j fr (lamF Λ fs c))) (.lst (fs.map .fn) :: r) U = allD (refD m j fr c) (fs.map Λ) r U := by
  unfold allD at hb ⊢
  split at hb
  · rename_i hc
    obtain ⟨hlen, hr⟩ := hc
    rw [if_pos ⟨hlen, hr⟩]
    match r, hr with
    | [w, v], _ =>
      cases e : allL (refD m j fr c) (fs.map Λ) [w, v] U with
      | ok a T =>
        rw [e] at hb
        simp only [noErr_ok, Res.bind_ok] at hb ⊢
        split at hb
        · rename_i hcf
          rw [if_pos hcf]
          have ec := allL_comp (l := .lst (fs.map .fn)) (w := w) (v := v) fs (fun _ h => h) e
          have hl2 : (fs.map D.fn).length < capN := by rw [List.length_map] at hlen ⊢; exact hlen
          have e2 : bodyD N 3 (allB (firstD m j fr (lamF Λ fs c))) [.lst (fs.map .fn), w, v] U = .ok (.bl true) T := by
            unfold bodyD
            rw [hN]
            show ((allB _ [some (.lst (fs.map .fn)), some w, some v, none] U).bind _) = _
            have e3 : fLc [3] (fiAny (fVar 0)) (fgName 3) (allT (firstD m j fr (lamF Λ fs c))) (fVar 3) [some (.lst (fs.map .fn)), some w, some v, none] U = .ok (.lst []) T := by
              show (if (fs.map D.fn).length < capN then (noErr (compD (fgName 3) (allT (firstD m j fr (lamF Λ fs c))) (fVar 3) (fs.map D.fn) [some (.lst (fs.map .fn)), some w, some v, none] U)).bind fun ys S2 => Res.ok (D.lst ys) S2 else Res.bad) = _
              rw [if_pos hl2, ec]
              rfl
            show (((fLc [3] (fiAny (fVar 0)) (fgName 3) (allT (firstD m j fr (lamF Λ fs c))) (fVar 3) [some (.lst (fs.map .fn)), some w, some v, none] U).bind _).bind _).bind _ = _
            rw [e3]
            rfl
          unfold bodyT
          rw [e2]
          rw [Bool.and_eq_true, decide_eq_true_eq] at hcf
          unfold tidy
          simp only [noCel, Bool.true_and]
          rw [List.take_of_length_le hcf.2, if_pos hcf.1]
        · exact absurd rfl hb
      | err _ _ _ => rw [e] at hb; exact absurd rfl hb
      | bad => rw [e] at hb; exact absurd rfl hb
  · exact absurd rfl hb
theorem fnsOf_some : ∀ {xs : List D} {fs : List Addr}, fnsOf xs = some fs → xs = fs.map D.fn
  | [], fs, h => by cases h; rfl
  | d :: r, fs, h => by
    cases d with
    | fn f =>
      simp only [fnsOf] at h
      cases e : fnsOf r with
      | none => rw [e] at h; cases h
      | some gs =>
        rw [e] at h
        cases h
        rw [List.map_cons, ← fnsOf_some e]
    | _ => cases h
def lamOf : List Addr → List Thk → Addr → Thk
  | f :: fs, h :: hs, g => if g = f then h else lamOf fs hs g
  | _, _, _ => fun _ => .bad
theorem lamOf_at {R : Addr → Thk → Prop} : ∀ {fs : List Addr} {hs : List Thk}, fs.Nodup → Fa2 R fs hs → fs.map (lamOf fs hs) = hs ∧ ∀ f ∈ fs, R f (lamOf fs hs f)
  | _, _, _, .nil => ⟨rfl, fun _ h => (nomatch h)⟩
  | f :: fs, h :: hs, nd, .cons r t => by
    obtain ⟨n1, n2⟩ := List.nodup_cons.mp nd
    obtain ⟨i1, i2⟩ := lamOf_at n2 t
    have off : ∀ g ∈ fs, lamOf (f :: fs) (h :: hs) g = lamOf fs hs g := fun g hg => by
      unfold lamOf
      rw [if_neg (fun z => n1 (by rw [← z]; exact hg))]
      cases fs with
      | nil => cases hg
      | cons a b => cases hs <;> rfl
    have at0 : lamOf (f :: fs) (h :: hs) f = h := by
      unfold lamOf
      rw [if_pos rfl]
    refine ⟨?_, fun g hg => ?_⟩
    · rw [List.map_cons, at0]
      exact congrArg (h :: ·) ((List.map_congr_left off).trans i1)
    · rcases List.mem_cons.mp hg with rfl | hg
      · rw [at0]; exact r
      · rw [off g hg]; exact i2 g hg
section
variable {P : Program} {w : World} {K : PySem.W.Frag} {mg : Str → Option Value} {ca : Str → Addr} {x : Str} {ps : List Str} {G : Heap} {ω : LW}
theorem ref_L {m j kc kd : Nat} {fr : FS} {c : Thk → Thk} {f : Addr} {h : Thk} (hC : ∀ (fs : List Addr) (Λ : Addr → Thk), (∀ f ∈ fs, Cal P w K mg G ca kc ω f (Λ f)) → DefL P w K mg G ca ω x ps kd (firstD m j fr (lamF Λ fs c))) (cal : Cal P w K mg G ca kc ω f h) :
    DefL P w K mg G ca ω x ps kd (oneF (refD m j fr c) f h) := by
  refine (hC [f] (fun _ => h) fun g hg => ?_).imp fun ds U hb => ?_
  · obtain rfl := List.mem_singleton.mp hg
    exact cal
  · unfold oneF at hb ⊢
    split at hb
    · split at hb
      · rename_i e
        subst e
        rw [if_pos rfl]
        exact firstD_lam List.mem_cons_self
      · exact absurd rfl hb
    · exact absurd rfl hb
theorem all_L {m j kc kd : Nat} {fr : FS} {c : Thk → Thk} {N : List Str} {fs : List Addr} {hs : List Thk} (hN : N.length = 4) (hC : ∀ (fs : List Addr) (Λ : Addr → Thk), (∀ f ∈ fs, Cal P w K mg G ca kc ω f (Λ f)) → DefL P w K mg G ca ω x ps kd (bodyT N 3 (allB (firstD m j fr (lamF Λ fs c)))))
    (nd : fs.Nodup) (cal : Fa2 (fun f h => Cal P w K mg G ca kc ω f h) fs hs) : DefL P w K mg G ca ω x ps kd (allF (allD (refD m j fr c)) fs hs) := by
  obtain ⟨e1, e2⟩ := lamOf_at nd cal
  refine (hC fs (lamOf fs hs) e2).imp fun ds U hb => ?_
  unfold allF at hb ⊢
  split at hb
  · split at hb
    · rename_i e

      rw [if_pos e, fnsOf_some e]
      rw [← e1] at hb
      rw [allD_eq hN hb, e1]
    · exact absurd rfl hb
  · exact absurd rfl hb
end
end DL

set_option maxHeartbeats 4000000
/-! what the texts that are printed use -/
namespace DL
open PySem PySem.Spec PyProof.Rows L2
theorem room_two {k : Nat} {A : Around} (h : 2 ≤ k) (hr : Room k A) : Room (k - 2 + 2) A := by rw [Nat.sub_add_cancel h]; exact hr
section
variable {P : Program} {w : World} {K : PySem.W.Frag} {mg : Str → Option Value} {base : Heap} {ca : Str → Addr} {x : Str} {ps : List Str}
theorem Std.there {st : Stmt} (T : Std K mg x st ps) : ∃ fx : Addr, mg x = some (.ref fx) ∧ PySem.W.keepIn K (.ref fx) = true := by
  obtain ⟨f, fd, hm, F, _⟩ := T.ex
  exact ⟨f, hm, F.kp⟩
/-- a def whose code object is told -/
structure FunC (K : PySem.W.Frag) (x : Str) (st : Stmt) (f : Addr) (fd : FuncData) (c : Addr) : Prop where
  ex : ∃ (oc : Value) (od an : Option Addr) (osl : Array (Option Value)) (kV doc pm ct : Value), fd = PySem.W.fnOf x x (defArgs st) (defBody st) (defScope st) .none kV doc pm an (.ref c) ct ∧ K.lookup f = some ⟨oc, od, .func fd, osl⟩ ∧ PySem.W.codeIn K (.ref c) x = true
theorem law_DC {st : Stmt} {N : List Str} {k : Nat} {fs : FS} {f c : Addr} {fd : FuncData} (F : FunC K x st f fd c) (S : FnScope N ps (defScope st))
    (body : ∀ (A : Around) (outer : List PySem.Env) (s : Shared) (H : Hp) (E : XK), Room k (CXof P w K mg base N x st f (.ref c) A outer s H E).A → (CXof P w K mg base N x st f (.ref c) A outer s H E).A.guards = some [] →
      Takes (CXof P w K mg base N x st f (.ref c) A outer s H E) (WD E) → PassesOwn (model P w) (CXof P w K mg base N x st f (.ref c) A outer s H E).A (CXof P w K mg base N x st f (.ref c) A outer s H E).env (CXof P w K mg base N x st f (.ref c) A outer s H E).xe →
      SSs (CXof P w K mg base N x st f (.ref c) A outer s H E) (WD E) ca (defBody st) fs) : FnG P w K mg base (k + 1) f fd ps (spD K ca ps.length (bodyD N ps.length fs)) := by
  obtain ⟨oc, od, an, osl, kV, doc, pm, ct, rfl, hlk, hcode⟩ := F.ex
  refine ⟨fun vs H Q E ⟨A, Z, T, ds, h1, h2, h3, h4⟩ => h2.length.trans h3, ?_⟩
  rintro A outer s H args us vs Q E hr hgu e0 bnd rel ⟨B, Z, T, ds, ok, r, hl, po⟩
  refine LamX.run_ofS (CX := L2.CX P w) hlk hcode S hr e0 bnd rel (r.length.trans hl) fun hr2 => ⟨_, (body A outer s H E hr2 hgu (takes_of rfl rfl rfl rfl) (passes_of rfl)).pss, B, Z, T, ds.map some ++ List.replicate (N.length - ps.length) none, ok, by rw [← hl]; exact start_sl r, ?_⟩
  unfold bodyD at po
  exact fin_post (po.sig (L2.start N vs))
theorem caK_of {c : Str} {C : Addr} (h : PySem.W.nsIn K mainGlobals c = some (some (.ref C))) : caK K c = C := by
  unfold caK
  rw [h]
theorem tab_mk {c Q f : Addr} {fd : FuncData} {oc ocl : Value} {od odl : Option Addr} {osl osl2 : Array (Option Value)} {vs : Array Value} (h1 : PySem.W.nsIn K mainGlobals x = some (some (.ref f))) (h2 : K.lookup f = some ⟨oc, od, .func fd, osl⟩) (h3 : fd.code = .ref c)
    (h4 : K.lookup c = some ⟨ocl, odl, .fields vs, osl2⟩) (h5 : (vs[11]? : Option Value) = some (.ref Q)) : PySem.W.tabIn K x = some (c, Q) := by
  unfold PySem.W.tabIn
  rw [h1]
  dsimp only
  rw [h2]
  dsimp only
  rw [h3]
  dsimp only
  rw [h4]
  dsimp only
  rw [h5]
/-- all that is asked of an exception class, by its written part -/
def xclsB (K : PySem.W.Frag) (C fI : Addr) : Bool :=
  decide (PySem.W.findIn K (.ref C) "__setattr__" = some (some (.builtin "object.__setattr__"))) && decide (PySem.W.subIn K (.ref C) (.type "BaseException") = some true) && decide (PySem.W.typeIn K (.ref C) = some (.type "type")) && PySem.W.keepIn K (.ref C) &&
  decide (PySem.W.findIn K (.ref C) "__init__" = some (some (.ref fI))) && decide (PySem.W.typeIn K (.ref fI) = some (.type "function")) && decide (PySem.W.findIn K (.ref C) "value" = some none) && decide (PySem.W.nsIn K cStatics "thirdparty.any" = some none) &&
  (PySem.W.clsIn K C).isSome && decide (PySem.W.mroIn K C (.ref C) = some true) && decide (PySem.W.ks_superIn K C C "__init__" = some (some (.builtin "ValueError.__init__"))) && decide (PySem.W.subIn K (.ref C) (.type "ValueError") = some true) &&
  PySem.W.excInitIn K C [.type "ValueError", .type "Exception", .type "BaseException", .type "object"] "ValueError.__new__"
theorem xcls_mk {c : Str} {C fI cc cda : Addr} {st : Stmt} {nm q q2 : Str} {N : Addr} {bs bm : List Value} {sn : List Str} {sub : List Value} {ab : Bool} {col : Option Bool} {dd : Option Addr} {k0 k1 k2 k3 k5 : Option Value} {oc ccl cl : Value} {od cdd cld an : Option Addr} {osl ccs csl : Array (Option Value)} {kV doc pm ct : Value} {vs : Array Value} {file : Str} {tf : Tok} {h : Heap} {TD : Addr} {tcl : Value} {tdd : Option Addr} {tn : Nat} {tsl : Array (Option Value)}
    (X : K.In h) (G : h.Ns mainGlobals mg) (a1 : PySem.W.nsIn K mainGlobals c = some (some (.ref C))) (a2 : K.lookup C = some (excClassObj nm q C N bs bm true sn sub ab col dd k0 k1 k2 k3 k5 "ValueError.__new__")) (a3 : PySem.HandSPX.refsVE bm = true)
    (a4 : K.lookup fI = some ⟨oc, od, .func (PySem.W.ksFn "__init__" q2 (defArgs st) (defBody st) (defScope st) (.ref TD) kV doc pm an (.ref cda) ct cc), osl⟩) (at_ : K.lookup TD = some ⟨tcl, tdd, .seq #[.none] tn, tsl⟩) (a5 : K.lookup cda = some ⟨ccl, cdd, .fields vs, ccs⟩) (a6 : vs[2]? = some (.str file tf)) (a7 : ((P.main.file : Str) == file) = true)
    (a8 : K.lookup cc = some ⟨cl, cld, .cell (some (.ref C)), csl⟩) (a9 : PySem.W.codeIn K (.ref cda) q2 = true) (b1 : xclsB K C fI = true) (b2 : PySem.W.nsIn K mainGlobals "super" = some none) (b3 : (P.main.scope.names.lookup ("super" : Str)).isSome = false) (B : InitT st)
    (bd : ∀ (q : Str) (TD : Addr) (kV doc pm : Value) (an : Option Addr) (cdv ct : Value) (cc : Addr) (u1 u2 : Value), ∃ kk, bindArgs (PySem.W.ksFn "__init__" q (defArgs st) (defBody st) (defScope st) (.ref TD) kV doc pm an cdv ct cc) ⟨[u1, u2], []⟩ = seqItems? (.ref TD) >>= kk ∧ kk (some #[.none]) = pure [(("self" : Str), u1), (("value" : Str), u2)]) : XCls P K mg (caK K) c := by
  unfold xclsB at b1
  simp only [Bool.and_eq_true, decide_eq_true_eq] at b1
  obtain ⟨⟨⟨⟨⟨⟨⟨⟨⟨⟨⟨⟨f1, f2⟩, f3⟩, f4⟩, f5⟩, f6⟩, f7⟩, f8⟩, f9⟩, f10⟩, f11⟩, f12⟩, f13⟩ := b1
  have e := caK_of a1
  refine ⟨fI, PySem.W.ksFn "__init__" q2 (defArgs st) (defBody st) (defScope st) (.ref TD) kV doc pm an (.ref cda) ct cc, st, ?_, B, fun s us hK hl => ?_, ?_⟩
  · rw [e]
    exact ⟨⟨⟨nm, q, N, bs, bm, sn, sub, ab, col, dd, k0, k1, k2, k3, k5, a2, a3⟩, f1, f2, f3, f4⟩, f5, f6, f7, PySem.W.mg_none_of X G b2, f8, b3, Option.isSome_iff_exists.mp f9, f10, f11, f12, f13,
      ⟨q2, oc, ccl, cl, od, cdd, cld, an, osl, ccs, csl, .ref TD, kV, doc, pm, ct, cc, cda, vs, file, tf, rfl, a4, a9, a5, a6, a7, a8⟩⟩
  · rw [List.append_nil] at hl ⊢
    match us, hl with
    | [u1, u2], _ =>
      obtain ⟨kk, e1, e2⟩ := bd q2 TD kV doc pm an (.ref cda) ct cc u1 u2
      exact PySem.W.binds_K hK rfl at_ rfl e1 e2
  · rw [e]
    exact PySem.W.mg_of X G a1
def xheldB (K : PySem.W.Frag) (C : Addr) : Bool :=
  (PySem.W.clsIn K C).isSome && decide (PySem.W.findIn K (.ref C) "__getattribute__" = some (some (.builtin "BaseException.__getattribute__"))) && decide (PySem.W.findIn K (.ref C) "__getattr__" = some none) && decide (PySem.W.subIn K (.ref C) (.type "BaseException") = some true) && PySem.W.hasDictIn K C &&
  decide (PySem.W.findIn K (.ref C) "__class__" = some (some (.builtin "object.__class__"))) && decide (PySem.W.specialIn K (.builtin "object.__class__") "__get__" = some (some (.builtin "getset_descriptor.__get__"))) && decide (PySem.W.takesIn K (.builtin "object.__class__") = some true) &&
  decide (PySem.W.mroIn K C (.type "object") = some true) && decide (PySem.W.findIn K (.ref C) "value" = some none)
theorem xheld_of {C : Addr} (h : xheldB K C = true) : XHeld K C := by
  unfold xheldB at h
  simp only [Bool.and_eq_true, decide_eq_true_eq] at h
  obtain ⟨⟨⟨⟨⟨⟨⟨⟨⟨f1, f2⟩, f3⟩, f4⟩, f5⟩, f6⟩, f7⟩, f8⟩, f9⟩, f10⟩ := h
  exact ⟨f1, f2, f3, f4, f5, f6, f7, f8, f9, f10⟩
/-- the classes that are known (xs), asked for the classes ys -/
def xallB (K : PySem.W.Frag) (xs ys : List Str) : Bool := xs.all fun c => xheldB K (caK K c) && decide (PySem.W.exmOne K (.ref (caK K c)) (.ref (caK K "ScoreError")) = some true) && ys.all fun y => decide (PySem.W.kitOne K (.ref (caK K c)) (.ref (caK K y)) = some (xsub c y))
theorem xall_held {xs ys : List Str} (h : xallB K xs ys = true) : ∀ c ∈ xs, XHeld K (caK K c) := fun c hc => by
  have q := List.all_eq_true.mp h c hc
  simp only [Bool.and_eq_true] at q
  exact xheld_of q.1.1
theorem xall_exm {xs ys : List Str} (h : xallB K xs ys = true) : ∀ c ∈ xs, PySem.W.exmOne K (.ref (caK K c)) (.ref (caK K "ScoreError")) = some true := fun c hc => by
  have q := List.all_eq_true.mp h c hc
  simp only [Bool.and_eq_true, decide_eq_true_eq] at q
  exact q.1.2
theorem xall_kit {xs ys : List Str} (h : xallB K xs ys = true) {y : Str} (hy : y ∈ ys) : ∀ c ∈ xs, XHeld K (caK K c) ∧ PySem.W.kitOne K (.ref (caK K c)) (.ref (caK K y)) = some (xsub c y) := fun c hc => by
  refine ⟨xall_held h c hc, ?_⟩
  have q := List.all_eq_true.mp h c hc
  simp only [Bool.and_eq_true, decide_eq_true_eq] at q
  have q2 := List.all_eq_true.mp q.2 y hy
  simpa using q2
end
section
variable {X : Cx} {W : WX} {ca : Str → Addr} {pos : Pos}
/-- a def that is called by keywords alone -/
structure DefK (P : Program) (w : World) (K : PySem.W.Frag) (mg : Str → Option Value) (base : Heap) (ca : Str → Addr) (x : Str) (ps ks : List Str) (g2 : {α : Type} → List α → List α) (k : Nat) (g : List D → Sto → Res D) : Prop where
  ex : ∃ f fd, mg x = some (.ref f) ∧ PySem.W.keepIn K (.ref f) = true ∧ (∀ (s : Shared) (ws : List Value), ws.length = ks.length → BindsTo s fd ⟨[], ks.zip ws⟩ (ps.zip (g2 ws))) ∧ FnG P w K mg base k f fd ps (spD K ca ps.length g)
theorem se_callK {x : Str} {p : Pos} {ps ks : List Str} {g2 : {α : Type} → List α → List α} {k : Nat} {g : List D → Sto → Res D} {kws : List Keyword} {fa : FA} (d : DefK X.prog X.w X.K X.mg X.base ca x ps ks g2 k g) (hr : Room k X.A) (hgu : X.A.guards = some []) (tk : Takes X W) (hg : Gl X x)
    (hkw : PK X kws (tA X.K W ca fa)) (hl : ps.length = ks.length) (hg2 : ∀ {A : List Addr} {G : Hp} {vs : List V} {ds : List D}, DRs A G X.K vs ds → ds.length = ks.length → DRs A G X.K (g2 vs) (g2 ds) ∧ (g2 ds).length = ks.length) (hg3 : ∀ {vs : List V} {us : List Value}, Vals vs us → vs.length = ks.length → Vals (g2 vs) (g2 us))
    (hall : (backToKw pos (keywordEach kws X.env)).all (·.1.isSome) = true) (hks : (backToKw pos (keywordEach kws X.env)).filterMap (·.1) = ks) (hpl : ((backTo pos (starEach [] X.env)).any (·.1) || (backToKw pos (keywordEach kws X.env)).any (·.1.isNone)) = false) (hdb : (x == ("__debug__" : Str)) = false) :
    SE X W ca (.Call (.Name x p) [] kws pos) (fCall ks.length (fun ds => g (g2 ds)) fa) := by
  obtain ⟨f, fd, hm, hk, hb, F⟩ := d.ex
  refine ⟨⟨fun pins s σ H Q I ⟨A, Z, S, ρ, ok, sl, po⟩ => ?_⟩⟩
  refine wpAny_Call_Name_kw (ld_glob I hg hm ?_ hdb)
  refine PySem.W.callWith_KW0 (h₀ := X.base) I.ok.mod.kin hk hall (thn (hkw.run pos pins s σ H (fun vs I => ∃ B Z T ds, SOk X.K B Z T I ∧ DRs B (cut B Z T I) X.K vs ds ∧ ds.length = ks.length ∧ Post X.K W ca B Z T I σ (g (g2 ds) T) fun C U J d => ∀ v, DR C (cut C Z U J) X.K v d → Q v J) I ?_) fun us s1 ⟨vs, H1, I1, r, B, Z1, T, ds, ok1, r1, hl1, q1⟩ => ⟨I1.kIn, ?_⟩) hpl
  · refine ⟨A, Z, S, ρ, ok, sl, (Post.split po).imp fun B T I ds gr q vs rv => ?_⟩
    by_cases hl1 : ds.length = ks.length
    · rw [if_pos hl1] at q
      exact ⟨B, Z, T, ds, gr.ok, rv, hl1, q⟩
    · rw [if_neg hl1] at q
      exact q.elim
  · rw [hks]
    obtain ⟨r2, l2⟩ := hg2 r1 hl1
    have lv : vs.length = ks.length := r1.length.trans hl1
    refine wpAny_call (codeAny_mono (F.run X.A X.stack s1 H1 ⟨[], ks.zip us⟩ (g2 us) (g2 vs) Q (fun c d H' => W c d σ H') hr hgu I1.env0 (hb s1 us (r.length.symm.trans lv)) (hg3 r lv) ⟨B, Z1, T, g2 ds, ok1, r2, l2.trans hl.symm, ?_⟩) fun r s2 z => ?_)
    · cases eg : g (g2 ds) T with
      | ok d U => rw [eg] at q1; exact q1
      | err cl d U =>
        rw [eg] at q1
        exact fun B' I' dx v _ g1 h1 h2 => q1 B' I' dx v σ g1 h1 h2
      | bad => rw [eg] at q1; exact q1.elim
    · match r, z with
      | .error e, z => exact tk e s2 (XE.of_call I1 (fun _ _ _ h => h) z)
      | .ok (.ret u), z => exact I1.after z
      | .ok .next, z => exact z.elim
      | .ok .brk, z => exact z.elim
      | .ok .cont, z => exact z.elim
/-- two keywords the other way about -/
def swap2 {α : Type} : List α → List α
  | [a, b] => [b, a]
  | l => l
theorem pk_sa {e : Expr} {es : List Keyword} {nm : Option Str} {kpos : Pos} {f : FE} {t : TA} (h : SE X W ca e f) (r : PK X es t) : PK X (⟨nm, e, kpos⟩ :: es) (tCons (tE X.K W ca f) t) := pk_cons h.pe r
theorem pk_two {e1 e2 : Expr} {n1 n2 : Option Str} {p1 p2 : Pos} {f1 f2 : FE} (h1 : SE X W ca e1 f1) (h2 : SE X W ca e2 f2) : PK X [⟨n1, e1, p1⟩, ⟨n2, e2, p2⟩] (tA X.K W ca (fCons f1 (fCons f2 fNil))) := by
  have p := pk_sa (nm := n1) (kpos := p1) h1 (pk_sa (nm := n2) (kpos := p2) h2 pk_nil)
  refine ⟨fun pos pins s σ H Q I ⟨A, Z, S, ρ, ok, sl, po⟩ => p.run pos pins s σ H Q I ?_⟩
  refine ⟨A, Z, S, ρ, ok, sl, (Post.split po).imp fun B T I d1 g1 q v1 r1 => ?_⟩
  have q := Post.split q
  refine ⟨B, Z, T, ρ, g1.ok, sl.grow g1, ?_⟩
  have q2 := Post.split q
  refine q2.imp fun C U J d2 g2 q3 v2 r2 => ?_
  have z := q3 C J (.refl g2.ok) C J (.refl g2.ok)
  exact z [v1, v2] (.cons (r1.grow g2) (.cons r2 .nil))
theorem swap_drs {A : List Addr} {G : Hp} {K : PySem.W.Frag} {vs : List V} {ds : List D} (r : DRs A G K vs ds) (h : ds.length = 2) : DRs A G K (swap2 vs) (swap2 ds) ∧ (swap2 ds).length = 2 := by
  match ds, h with
  | [a, b], _ =>
    cases r with
    | cons r1 r2 =>
      cases r2 with
      | cons r2 r3 =>
        cases r3
        exact ⟨.cons r2 (.cons r1 .nil), rfl⟩
theorem swap_vals {vs : List V} {us : List Value} (r : Vals vs us) (h : vs.length = 2) : Vals (swap2 vs) (swap2 us) := by
  match vs, h with
  | [a, b], _ =>
    cases r with
    | cons r1 r2 =>
      cases r2 with
      | cons r2 r3 =>
        cases r3
        exact .cons r2 (.cons r1 .nil)
/-- two keywords, the other way about than the parameters -/
theorem se_callK2 {x : Str} {p p1 p2 : Pos} {a b : Str} {k : Nat} {g : List D → Sto → Res D} {e1 e2 : Expr} {f1 f2 : FE} (d : DefK X.prog X.w X.K X.mg X.base ca x [a, b] [b, a] swap2 k g) (hr : Room k X.A) (hgu : X.A.guards = some []) (tk : Takes X W) (hg : Gl X x) (h1 : SE X W ca e1 f1) (h2 : SE X W ca e2 f2)
    (hall : (backToKw pos (keywordEach [⟨some b, e1, p1⟩, ⟨some a, e2, p2⟩] X.env)).all (·.1.isSome) = true) (hks : (backToKw pos (keywordEach [⟨some b, e1, p1⟩, ⟨some a, e2, p2⟩] X.env)).filterMap (·.1) = [b, a])
    (hpl : ((backTo pos (starEach [] X.env)).any (·.1) || (backToKw pos (keywordEach [⟨some b, e1, p1⟩, ⟨some a, e2, p2⟩] X.env)).any (·.1.isNone)) = false) (hdb : (x == ("__debug__" : Str)) = false) :
    SE X W ca (.Call (.Name x p) [] [⟨some b, e1, p1⟩, ⟨some a, e2, p2⟩] pos) (fCall 2 (fun ds => g (swap2 ds)) (fCons f1 (fCons f2 fNil))) :=
  se_callK d hr hgu tk hg (pk_two h1 h2) rfl (fun r h => swap_drs r h) (fun r h => swap_vals r h) hall hks hpl hdb
end
section
variable {P : Program} {w : World} {K : PySem.W.Frag} {mg : Str → Option Value} {base : Heap} {ca : Str → Addr} {x : Str} {ps : List Str}
/-- the same def, called by two keywords -/
structure StdK2 (K : PySem.W.Frag) (mg : Str → Option Value) (x : Str) (st : Stmt) (a b : Str) : Prop where
  ex : ∃ f fd, mg x = some (.ref f) ∧ Fun K x x st f fd ∧ ∀ (s : Shared) (ws : List Value), ws.length = 2 → BindsTo s fd ⟨[], [b, a].zip ws⟩ ([a, b].zip (swap2 ws))
theorem def_K2 {st : Stmt} {N : List Str} {k : Nat} {fs : FS} {a b : Str} (T : StdK2 K mg x st a b) (kp : ∃ fx : Addr, mg x = some (.ref fx) ∧ PySem.W.keepIn K (.ref fx) = true) (S : FnScope N [a, b] (defScope st))
    (body : ∀ (f : Addr) (cdv : Value) (A : Around) (outer : List PySem.Env) (s : Shared) (H : Hp) (E : XK), Room k (CXof P w K mg base N x st f cdv A outer s H E).A → (CXof P w K mg base N x st f cdv A outer s H E).A.guards = some [] →
      Takes (CXof P w K mg base N x st f cdv A outer s H E) (WD E) → PassesOwn (model P w) (CXof P w K mg base N x st f cdv A outer s H E).A (CXof P w K mg base N x st f cdv A outer s H E).env (CXof P w K mg base N x st f cdv A outer s H E).xe →
      SSs (CXof P w K mg base N x st f cdv A outer s H E) (WD E) ca (defBody st) fs) : DefK P w K mg base ca x [a, b] [b, a] swap2 (k + 1) (bodyT N 2 fs) := by
  obtain ⟨f, fd, h1, F, h3⟩ := T.ex
  obtain ⟨fx, k1, k2⟩ := kp
  rw [h1] at k1
  cases k1
  refine ⟨f, fd, h1, k2, h3, ?_⟩
  have q := fnG_D (g := bodyD N 2 fs) F S (fun cdv A outer s H E hr hgu tk hp => body f cdv A outer s H E hr hgu tk hp) fun _ _ _ _ => rfl
  exact q.imp fun vs H Q E ⟨A, Z, S, ds, h1, h2, h3, h4⟩ => ⟨A, Z, S, ds, h1, h2, h3, Post.tidy h1 h4⟩
theorem DefK.mono {j k : Nat} {ks : List Str} {g2 : {α : Type} → List α → List α} {g : List D → Sto → Res D} (d : DefK P w K mg base ca x ps ks g2 j g) (h : j ≤ k) : DefK P w K mg base ca x ps ks g2 k g :=
  let ⟨f, fd, a, b, c, F⟩ := d.ex; ⟨f, fd, a, b, c, F.mono h⟩
end
end DL

set_option maxHeartbeats 4000000
namespace DL
open PySem PySem.Spec PyProof.Rows L2
/-- only __class__ is free -/
theorem free_by {ns : List (Str × NameKind)} (h : (ns.all fun y => !decide (y.2 = .free) || decide (y.1 = ("__class__" : Str))) = true) {y : Str} (e : ns.lookup y = some .free) : y = "__class__" := by
  have q := List.all_eq_true.mp h _ (PySem.mem_of_lookup e)
  simpa using q
/-! the generator behind a table -/
theorem hx0 {L : Sto} {t : CO} {x y z : D} : ixD (.cel 1) (.int 0) (t :: .lst [x, y, z] :: L) = some x := rfl
theorem hx1 {L : Sto} {t : CO} {x y z : D} : ixD (.cel 1) (.int 1) (t :: .lst [x, y, z] :: L) = some y := rfl
theorem hx2 {L : Sto} {t : CO} {x y z : D} : ixD (.cel 1) (.int 2) (t :: .lst [x, y, z] :: L) = some z := rfl
theorem hs0 {L : Sto} {t : CO} {x y z d : D} : setD (.cel 1) (.int 0) d (t :: .lst [x, y, z] :: L) = some (t :: .lst [d, y, z] :: L) := rfl
theorem hs2 {L : Sto} {t : CO} {x y z d : D} : setD (.cel 1) (.int 2) d (t :: .lst [x, y, z] :: L) = some (t :: .lst [x, y, d] :: L) := rfl
end DL

set_option maxHeartbeats 4000000
/-! a def that gives back a list of lambdas, called as another def's first argument -/
namespace DL
open PySem PySem.Spec PyProof.Rows L2
section
variable {P : Program} {w : World} {K : PySem.W.Frag} {mg : Str → Option Value} {base : Heap} {ca : Str → Addr} {x : Str} {ps : List Str}
/-- a body of one return: the frame's end is told too -/
theorem run_one {st : Stmt} {N : List Str} {k : Nat} {f c : Addr} {fd : FuncData} (F : FunC K x st f fd c) (S : FnScope N ps (defScope st)) {e : Expr} {pr : Pos} (hst : defBody st = [.Return (some e) pr])
    {A : Around} {outer : List PySem.Env} {s : Shared} {H : Hp} {args : Args} {us : List Value} {vs : List V} {R : VK} {E : XK} {t : TE} (room : Room (k + 1) A) (en : Env0 P w K mg base A outer s H) (bnd : BindsTo s fd args (ps.zip us)) (rel : Vals vs us) (len : vs.length = ps.length)
    (hb : Room k (CXof P w K mg base N x st f (.ref c) A outer s H E).A → PE (CXof P w K mg base N x st f (.ref c) A outer s H E) e t) (hq : t (L2.start N vs) H R) :
    codeAny (model P w) A (.call (.ref f) args) (fun r s' => match r with
      | .ok (.ret u) => ∃ v H', Inv (CXof P w K mg base N x st f (.ref c) A outer s H E) [] (L2.start N vs) H' s' ∧ RelV v u ∧ R v H'
      | .ok _ => False
      | .error e => L2.CX P w outer H s E e s') s := by
  obtain ⟨oc, od, an, osl, kV, doc, pm, ct, rfl, look, hcode⟩ := F.ex
  have inK : K.In s.heap := en.mod.kin.keeps fun b o q => (en.bs b o q).1
  have nol : s.heap.NoLimit := en.mod.nolimit.keeps fun b o q => (en.bs b o q).1
  have kinds : ∀ y ∈ ps.zip us, (defScope st).names.lookup y.1 = some .local ∨ ((defScope st).names.lookup y.1 = some .cell ∧ ((cellsFrom (s.heap.objs.size + 1) (defScope st).names []).lookup y.1).isSome = true) := fun ⟨n, v⟩ hy => by
    rcases S.par n (List.of_mem_zip hy).1 with z | z
    · exact .inl z
    · exact .inr ⟨z, PySem.W.cellsFrom_some _ _ _ (.inl z)⟩
  refine codeAny_call_function room.depth (inK _ _ look) rfl S.co S.gen rfl (PySem.W.codeRec_of inK hcode) (bnd _ _ _ _ ?_)
  refine wpAny_newFunctionEnv_cells S.kind kinds fun env he s1 ent => ?_
  subst he
  refine ⟨nol.keeps ent.toInCall.keep, codeAny_func ?_⟩
  have J : Inv (CXof P w K mg base N x st f (.ref c) A outer s H E) [] (L2.start N vs) H s1 := inv_start S room.hd en len rel ent
  rw [hst]
  refine wpAny_execs_cons (wpAny_Return_some ?_)
  refine wpAny_mono ((hb (room.deeper _)).run [] s1 (L2.start N vs) H R J hq) (fun u s' z => ?_) fun e s' z => z
  obtain ⟨v, H', J', rv, q⟩ := z
  exact ⟨v, H', J', rv, q⟩
/-- the def y gives back lambdas that do what fbs say of its parameters -/
structure Mk (P : Program) (w : World) (K : PySem.W.Frag) (mg : Str → Option Value) (base : Heap) (ca : Str → Addr) (y : Str) (ps : List Str) (kd ti : Nat) (T : Addr) (q : Str) (M k : Nat) (fbs : List FE) : Prop where
  ex : ∃ (f : Addr) (fd : FuncData), mg y = some (.ref f) ∧ PySem.W.keepIn K (.ref f) = true ∧ L2.Binds K fd ps [] ∧
    ∀ (A : Around) (outer : List PySem.Env) (s : Shared) (H : Hp) (args : Args) (us : List Value) (vs : List V) (B Z : List Addr) (S : Sto) (ds : List D), Room kd A → A.guards = some [] → Env0 P w K mg base A outer s H → BindsTo s fd args (ps.zip us) → Vals vs us →
      SOk K B Z S H → DRs B (cut B Z S H) K vs ds → ds.length = ps.length → S[ti]? = some (.tab T q) → fbs.length ≤ capN →
      codeAny (model P w) A (.call (.ref f) args) (fun r s' => CR (L2.CX P w) outer P w H s (fun v H' => ∃ l fs, v = .ref l ∧ Grow K Z B S H B S H' ∧ DR B (cut B Z S H') K (.ref l) (.lst (fs.map .fn)) ∧ fs.Nodup ∧
        ∀ G : Heap, (∀ c o, s'.heap.get? c = some o → H' c = none → s.heap.objs.size ≤ c → G.get? c = some o) →
          Fa2 (fun f h => Cal P w K mg G ca k ⟨H', B, Z, S⟩ f h) fs (fbs.map fun fb T => fb (ds.map some ++ List.replicate (M - ps.length) none) T)) (fun _ _ _ => False) r s') s
theorem mk_of {st : Stmt} {N : List Str} {kd ti k : Nat} {f c T : Addr} {q : Str} {fd : FuncData} {fbs : List FE} (F : FunC K x st f fd c) (hm : mg x = some (.ref f)) (hk : PySem.W.keepIn K (.ref f) = true) (hbd : L2.Binds K fd ps []) (S : FnScope N ps (defScope st)) {lams : List Expr} {lpos pr : Pos}
    (hst : defBody st = [.Return (some (.List lams lpos)) pr])
    (body : ∀ (A : Around) (outer : List PySem.Env) (s : Shared) (H : Hp) (E : XK), Room kd (CXof P w K mg base N x st f (.ref c) A outer s H E).A → (CXof P w K mg base N x st f (.ref c) A outer s H E).A.guards = some [] → SLm (CXof P w K mg base N x st f (.ref c) A outer s H E) ca k ti T q lams fbs) :
    Mk P w K mg base ca x ps (kd + 1) ti T q N.length k fbs := by
  refine ⟨f, fd, hm, hk, hbd, ?_⟩
  intro A outer s H args us vs B Z U ds room hgu en bnd rel ok rv hl ht hcap
  have r := run_one (N := N) (E := fun _ _ _ => False) (R := fun v H' => ∃ l fs, v = .ref l ∧ Grow K Z B U H B U H' ∧ DR B (cut B Z U H') K (.ref l) (.lst (fs.map .fn)) ∧ fs.Nodup ∧
      Fa2 (fun f' fb => LamV (CXof P w K mg base N x st f (.ref c) A outer s H fun _ _ _ => False) ca k fb f' B Z U H') fs fbs) F S hst room en bnd rel (rv.length.trans hl) (fun hr2 => pe_lst (pos := lpos) (body A outer s H _ hr2 hgu).pa) ⟨B, Z, U, ok, ht, fun fs H1 g1 lv nd _ _ => ⟨by rw [List.length_map, lv.length]; exact capN_le hcap, fun l hlf => ?_⟩⟩
  · refine codeAny_mono r fun rr s' z => ?_
    match rr, z with
    | .error e, z => exact z
    | .ok .next, z => exact z.elim
    | .ok .brk, z => exact z.elim
    | .ok .cont, z => exact z.elim
    | .ok (.ret u), ⟨v, H', J, ru, l, fs, ev, g, dl, nd, lv⟩ =>
      refine ⟨v, H', J.os, J.bare, J.base, J.hok, ru, l, fs, ev, g, dl, nd, fun G hG => ?_⟩
      refine Fa2.map (lv.imp fun f' fb z => z B U H' [] (L2.start N vs) _ s' G (fun _ _ e => e) J ?_ fun y c hy o ho => hG c o ho (J.freeC y c hy) (J.ok.cab y c rfl hy))
      rw [← hl]
      exact start_sl (rv.grow g)
  · have g0 : Grow K Z B U H1 B U (upd H1 l (.lst (fs.map .ref))) := .new g1.ok hlf
    exact ⟨l, fs, rfl, g1.trans g0, new_lst (K := K) g1.ok hlf (drs_fns fs), nd, lv.imp fun f' fb z => z.grow g0⟩
end
/-- arguments that leave the heap as it is -/
structure Stl (X : Cx) (es : List Expr) (fa : Env → Option (List D)) : Prop where
  run : ∀ (pos : Pos) (pins : List (Addr × Obj)) (s : Shared) (σ : L2.St) (H : Hp) (A Z : List Addr) (S : Sto) (ρ : Env) (ds : List D), Inv X pins σ H s → Sl X.K A (cut A Z S H) ρ σ → fa ρ = some ds →
    wpAny (model X.prog X.w) X.A (spliced (backTo pos (starEach es X.env))) (fun us s1 => ∃ (t : Nat) (vs : List V), s1 = { s with toks := t } ∧ Vals vs us ∧ DRs A (cut A Z S H) X.K vs ds) X.xe s
def sNil : Env → Option (List D) := fun _ => some []
def sC (d : D) (f : Env → Option (List D)) : Env → Option (List D) := fun ρ => (f ρ).map (d :: ·)
def sV (i : Nat) (f : Env → Option (List D)) : Env → Option (List D) := fun ρ => match ρ[i]? with
  | some (some d) => (f ρ).map (d :: ·)
  | _ => none
section
variable {X : Cx} {W : WX} {ca : Str → Addr} {pos : Pos} {k : Nat} {es : List Expr} {fa : Env → Option (List D)}
theorem stl_nil : Stl X [] sNil := ⟨fun pos pins s σ H A Z S ρ ds I sl e => by
  cases e
  exact Calls.spliced_nil ⟨s.toks, [], rfl, .nil, .nil⟩⟩
theorem sC_some {d : D} {ρ : Env} {ds : List D} (h : sC d fa ρ = some ds) : ∃ r, fa ρ = some r ∧ ds = d :: r := by
  unfold sC at h
  cases e : fa ρ with
  | none => rw [e] at h; cases h
  | some r => rw [e] at h; cases h; exact ⟨r, rfl, rfl⟩
theorem stl_str {y : Str} {j : Nat} {p : Pos} (h : Stl X es fa) (he : starEach (.Constant (.str y) j p :: es) X.env = (false, eval (.Constant (.str y) j p) X.env) :: starEach es X.env := by rfl) : Stl X (.Constant (.str y) j p :: es) (sC (.str y) fa) := ⟨fun pos pins s σ H A Z S ρ ds I sl e => by
  obtain ⟨r, e1, rfl⟩ := sC_some e
  rw [he]
  refine Calls.spliced_cons (Calls.Constant_str (k := j) (pos := p) (thn (h.run pos pins _ σ H A Z S ρ r (I.tok _) sl e1) ?_))
  rintro us s1 ⟨t, vs, rfl, r1, r2⟩
  exact ⟨t, .str y :: vs, rfl, .cons ⟨_, rfl⟩ r1, .cons (.str y) r2⟩⟩
theorem stl_int {i : Int} {j : Nat} {p : Pos} (h : Stl X es fa) (he : starEach (.Constant (.int i) j p :: es) X.env = (false, eval (.Constant (.int i) j p) X.env) :: starEach es X.env := by rfl) : Stl X (.Constant (.int i) j p :: es) (sC (.int i) fa) := ⟨fun pos pins s σ H A Z S ρ ds I sl e => by
  obtain ⟨r, e1, rfl⟩ := sC_some e
  rw [he]
  refine Calls.spliced_cons (wpAny_Constant_int (k := j) (pos := p) (thn (h.run pos pins _ σ H A Z S ρ r (I.tok _) sl e1) ?_))
  rintro us s1 ⟨t, vs, rfl, r1, r2⟩
  exact ⟨t, .int i :: vs, rfl, .cons ⟨_, rfl⟩ r1, .cons (.int i) r2⟩⟩
theorem stl_var (i : Nat) {y : Str} {p : Pos} (h : Stl X es fa) (hN : X.N[i]? = some y := by rfl) (hv : Vis X.env.scope y := by first | exact Or.inl rfl | exact Or.inr (Or.inl rfl) | exact Or.inr (Or.inr rfl)) (hd : (y == ("__debug__" : Str)) = false := by decide)
    (hcd : (y == ("__classdict__" : Str)) = false := by decide) (he : starEach (.Name y p :: es) X.env = (false, eval (.Name y p) X.env) :: starEach es X.env := by rfl) : Stl X (.Name y p :: es) (sV i fa) := ⟨fun pos pins s σ H A Z S ρ ds I sl e => by
  unfold sV at e
  split at e
  · rename_i d ed
    cases e1 : fa ρ with
    | none => rw [e1] at e; cases e
    | some r =>
      rw [e1] at e
      cases e
      obtain ⟨v, ev, dv⟩ := sl.at_ i d ed
      obtain ⟨m, hn, hl⟩ := I.loc
      obtain ⟨u, ru, l⟩ := hl i y v hN ev hv
      rw [he]
      have fin : wpAny (model X.prog X.w) X.A (spliced (backTo pos (starEach es X.env))) (fun us s1 => ∃ (t : Nat) (vs : List V), s1 = { s with toks := t } ∧ Vals vs (u :: us) ∧ DRs A (cut A Z S H) X.K vs (d :: r)) X.xe s :=
        thn (h.run pos pins s σ H A Z S ρ r I sl e1) fun us s1 ⟨t, vs, e2, r1, r2⟩ => ⟨t, v :: vs, e2, .cons ru r1, .cons dv r2⟩
      refine Calls.spliced_cons ?_
      rcases l with ⟨hk, hm⟩ | ⟨hk, c, hc, hcell⟩
      · exact wpAny_Name (wpAny_loadName_local I.ok.kind hk hn hm fin) hd
      · rcases hk with hk | hk
        · exact wpAny_Name (wpAny_loadName_cell I.ok.kind hk hc hcell fin) hd
        · exact wpAny_Name (wpAny_loadName_free I.ok.kind hk hc hcell fin hcd) hd
  · cases e⟩
theorem frs_lt {pins : List (Addr × Obj)} {σ : L2.St} {H : Hp} {s : Shared} (I : Inv X pins σ H s) {b : Addr} (hb : b ∈ frs X.stack) : b < s.heap.objs.size := by
  rcases List.mem_cons.mp (I.stkSub b hb) with z | z
  · rw [z]; exact I.lt
  · obtain ⟨_, o2, e2, _⟩ := I.ok.funs.mem z
    exact Nat.lt_of_lt_of_le (Heap.lt_size e2) I.sz
open Classical in
/-- a base that holds all that is not tracked and no frame -/
theorem all_base {pins : List (Addr × Obj)} {σ : L2.St} {H : Hp} {s : Shared} (I : Inv X pins σ H s) :
    ∃ G : Heap, Env0 X.prog X.w X.K X.mg G X.A X.stack s H ∧ ∀ c o, s.heap.get? c = some o → H c = none → c ∉ frs X.stack → G.get? c = some o := by
  obtain ⟨l, hl⟩ : ∃ l : List Addr, l = (List.range s.heap.objs.size).filter fun b => decide (H b ≠ none ∨ b ∈ frs X.stack) := ⟨_, rfl⟩
  have mem : ∀ b, b ∈ l ↔ b < s.heap.objs.size ∧ (H b ≠ none ∨ b ∈ frs X.stack) := fun b => by
    rw [hl, List.mem_filter, List.mem_range, decide_eq_true_eq]
  have in_ : ∀ b o, s.heap.get? b = some o → H b = none → b ∉ frs X.stack → (PySem.W.hideAll s.heap l).get? b = some o := fun b o e n nf => PySem.W.hideAll_get l e fun hm => by
    rcases ((mem b).mp hm).2 with z | z
    · exact z n
    · exact nf z
  have out : ∀ b o, (PySem.W.hideAll s.heap l).get? b = some o → s.heap.get? b = some o ∧ H b = none ∧ b ∉ frs X.stack := fun b o e => by
    have e1 := PySem.W.of_hideAll l e
    have nm : b ∉ l := fun hm => by
      rw [PySem.W.hideAll_none l hm] at e
      cases e
    have q : ¬ (H b ≠ none ∨ b ∈ frs X.stack) := fun z => nm ((mem b).mpr ⟨Heap.lt_size e1, z⟩)
    exact ⟨e1, Classical.byContradiction fun z => q (.inl z), fun z => q (.inr z)⟩
  have nst : ∀ b o, X.base.get? b = some o → b ∉ frs X.stack := fun b o e hm => by
    rcases List.mem_cons.mp (I.stkSub b hm) with z | z
    · have h1 := Heap.lt_size (I.ok.bs b o e).1
      rw [z] at h1
      exact absurd (Nat.lt_of_lt_of_le h1 I.ok.above) (Nat.lt_irrefl _)
    · exact I.ok.nofr e z
  have kp : ∀ b o, X.base.get? b = some o → (PySem.W.hideAll s.heap l).get? b = some o := fun b o e => in_ b o (I.bs b o e).1 (I.bs b o e).2 (nst b o e)
  obtain ⟨mb, m1, m2⟩ := I.mod.blt
  refine ⟨PySem.W.hideAll s.heap l, ⟨I.ok.frames, ⟨I.mod.kin.keeps kp, I.mod.glob.keeps kp, ⟨mb, m1.keeps kp, m2⟩, I.mod.nolimit.keeps kp⟩, fun b o e => ⟨(out b o e).1, (out b o e).2.1⟩, Nat.le_of_eq (PySem.W.hideAll_size _ _), ?_, I.stkFree, I.hok, I.bare⟩, in_⟩
  refine funFrames_none I.stack fun L hL => ?_
  cases e : (PySem.W.hideAll s.heap l).get? L with
  | none => rfl
  | some o => exact absurd hL (out L o e).2.2
/-- x(y(ms), es): y gives back lambdas, x tries them -/
def fMk (ti : Nat) (P : Addr) (q : Str) (nm n M : Nat) (g : List Thk → List D → Sto → Res D) (fbs : List FE) (fm : FA) (fa : Env → Option (List D)) : FE := fun ρ S => (fm ρ S).bind fun ds S1 => if ds.length = nm ∧ fbs.length ≤ capN then
  match S1[ti]?, fa ρ with
  | some (.tab P' q'), some es => if P' = P ∧ q' = q ∧ es.length = n then g (fbs.map fun fb T => fb (ds.map some ++ List.replicate (M - nm) none) T) es S1 else .bad
  | _, _ => .bad
  else .bad
theorem se_mk {P : Addr} {ti n nm kd km M : Nat} {q x y a0 : Str} {p p2 pos2 : Pos} {fbs : List FE} {e : Expr} {ms : List Expr} {fm : FA} {pm ps : List Str} {g : List Thk → List D → Sto → Res D} (mk : Mk X.prog X.w X.K X.mg X.base ca y pm km ti P q M k fbs)
    (hD : ∀ (G : Heap) (ω : LW) (fs : List Addr) (hs : List Thk), fs.Nodup → Fa2 (fun f h => Cal X.prog X.w X.K X.mg G ca k ω f h) fs hs → DefL X.prog X.w X.K X.mg G ca ω x (a0 :: ps) kd (allF g fs hs))
    (hn : ps.length = n) (hnm : pm.length = nm) (hrm : Room km X.A) (hr : Room kd X.A) (hgu : X.A.guards = some []) (tk : Takes X W) (hgy : Gl X y) (hg : Gl X x) (hm : SA X W ca (e :: ms) fm) (ha : Stl X es fa)
    (hmx : ∃ (fx : Addr), X.mg x = some (.ref fx) ∧ PySem.W.keepIn X.K (.ref fx) = true)
    (hdb : (x == ("__debug__" : Str)) = false) (hdy : (y == ("__debug__" : Str)) = false)
    (he : starEach (.Call (.Name y p2) (e :: ms) [] pos2 :: es) X.env = (false, eval (.Call (.Name y p2) (e :: ms) [] pos2) X.env) :: starEach es X.env) (hpl : (backTo pos (starEach es X.env)).any (·.1) = false)
    (he2 : starEach (e :: ms) X.env = (false, eval e X.env) :: starEach ms X.env) (hpl2 : (backTo pos2 (starEach ms X.env)).any (·.1) = false) :
    SE X W ca (.Call (.Name x p) (.Call (.Name y p2) (e :: ms) [] pos2 :: es) [] pos) (fMk ti P q nm n M g fbs fm fa) := by
  subst hn
  subst hnm
  obtain ⟨fx, hx1, hx2⟩ := hmx
  obtain ⟨fy, fdy, hy1, hy2, hyb, FY⟩ := mk.ex
  refine ⟨⟨fun pins s σ H Q I ⟨A, Z, S, ρ, ok, sl, po⟩ => ?_⟩⟩
  refine wpAny_Call_Name_kw (ld_glob I hg hx1 ?_ hdb)
  refine PySem.W.callWith_K (h₀ := X.base) I.ok.mod.kin hx2 ?_ he hpl
  rw [he]
  show wpAny _ _ (spliced ((false, eval (.Call (.Name y p2) (e :: ms) [] pos2) X.env) :: backTo pos (starEach es X.env))) _ _ s
  have made : wpAny (model X.prog X.w) X.A (eval (.Call (.Name y p2) (e :: ms) [] pos2) X.env) (fun u s1 => ∃ (l : Addr) (H1 : Hp) (A1 : List Addr) (S1 : Sto) (fs : List Addr) (ds es' : List D), RelV (.ref l) u ∧ Inv X pins σ H1 s1 ∧ SOk X.K A1 Z S1 H1 ∧ Sl X.K A1 (cut A1 Z S1 H1) ρ σ ∧
      DR A1 (cut A1 Z S1 H1) X.K (.ref l) (.lst (fs.map .fn)) ∧ fs.Nodup ∧ fa ρ = some es' ∧ es'.length = ps.length ∧
      (∀ G : Heap, (∀ c o, s1.heap.get? c = some o → H1 c = none → c ∉ frs X.stack → G.get? c = some o) → Fa2 (fun f h => Cal X.prog X.w X.K X.mg G ca k ⟨H1, A1, Z, S1⟩ f h) fs (fbs.map fun fb T => fb (ds.map some ++ List.replicate (M - pm.length) none) T)) ∧
      Post X.K W ca A1 Z S1 H1 σ (g (fbs.map fun fb T => fb (ds.map some ++ List.replicate (M - pm.length) none) T) es' S1) fun C T I d => ∀ v, DR C (cut C Z T I) X.K v d → Q v I) X.xe s := by
    refine wpAny_Call_Name_kw (ld_glob I hgy hy1 ?_ hdy)
    refine PySem.W.callWith_K (h₀ := X.base) I.ok.mod.kin hy2 (thn (hm.pa.run pos2 pins s σ H (fun vs H1 => ∃ A1 S1 ds es', SOk X.K A1 Z S1 H1 ∧ Sl X.K A1 (cut A1 Z S1 H1) ρ σ ∧ DRs A1 (cut A1 Z S1 H1) X.K vs ds ∧ ds.length = pm.length ∧ S1[ti]? = some (.tab P q) ∧ fbs.length ≤ capN ∧ fa ρ = some es' ∧ es'.length = ps.length ∧
        Post X.K W ca A1 Z S1 H1 σ (g (fbs.map fun fb T => fb (ds.map some ++ List.replicate (M - pm.length) none) T) es' S1) fun C T I d => ∀ v, DR C (cut C Z T I) X.K v d → Q v I) I ?_) fun us s1 ⟨vs, H1, I1, r1, A1, S1, ds, es', ok1, sl1, rv, hl, ht, hcap, ees, hes, po1⟩ => ⟨I1.kIn, ?_⟩) he2 hpl2
    · refine ⟨A, Z, S, ρ, ok, sl, (Post.split po).imp fun B T J ds gr z vs rv => ?_⟩
      by_cases hl : ds.length = pm.length ∧ fbs.length ≤ capN
      · rw [if_pos hl] at z
        split at z
        · rename_i P' q' es' e1 e2
          by_cases hp : P' = P ∧ q' = q ∧ es'.length = ps.length
          · rw [if_pos hp] at z
            obtain ⟨rfl, rfl, h3⟩ := hp
            exact ⟨B, T, ds, es', gr.ok, sl.grow gr, rv, hl.1, e1, hl.2, e2, h3, z⟩
          · rw [if_neg hp] at z
            exact z.elim
        · exact z.elim
      · rw [if_neg hl] at z
        exact z.elim
    · have hlen : vs.length = pm.length := rv.length.trans hl
      have bd := hyb s1 us I1.kIn (by rw [List.append_nil]; exact r1.length.symm.trans hlen)
      simp only [List.append_nil] at bd
      refine wpAny_call (codeAny_mono (FY X.A X.stack s1 H1 ⟨us, []⟩ us vs A1 Z S1 ds hrm hgu I1.env0 bd r1 ok1 rv hl ht hcap) fun r s2 z => ?_)
      match r, z with
      | .error e, z => exact tk e s2 (XE.of_call I1 (fun _ _ _ h => h.elim) z)
      | .ok (.ret u), z =>
        obtain ⟨v, H2, I2, rv2, l, fs, rfl, g2, dl, nd, cal⟩ := I1.after z
        exact ⟨l, H2, A1, S1, fs, ds, es', rv2, I2, g2.ok, sl1.grow g2, dl, nd, ees, hes, fun G hG => cal G fun c o h1 h2 h3 => hG c o h1 h2 fun hb => absurd (Nat.lt_of_lt_of_le (frs_lt I1 hb) h3) (Nat.lt_irrefl _), po1.later g2⟩
      | .ok .next, z => exact z.elim
      | .ok .brk, z => exact z.elim
      | .ok .cont, z => exact z.elim
  refine Calls.spliced_cons (thn made fun u s1 ⟨l, H1, A1, S1, fs, ds, es', ru, I1, ok1, sl1, dl, nd, ees, hes, cal, po1⟩ => ?_)
  refine thn (ha.run pos pins s1 σ H1 A1 Z S1 ρ es' I1 sl1 ees) ?_
  rintro us s2 ⟨t, vs1, rfl, r1, rv1⟩
  have I2 := I1.tok t
  refine ⟨I2.kIn, ?_⟩
  obtain ⟨G, e0, hb⟩ := all_base I2
  obtain ⟨f2, fd, hm2, hk2, hbd, F⟩ := (hD G ⟨H1, A1, Z, S1⟩ fs _ nd (cal G hb)).ex
  rw [hx1] at hm2
  cases hm2
  have hlen : (V.ref l :: vs1).length = (a0 :: ps).length := by
    rw [List.length_cons, List.length_cons, rv1.length, hes]
  have rel : Vals (V.ref l :: vs1) (u :: us) := .cons ru r1
  have bd := hbd _ (u :: us) I2.kIn (by rw [List.append_nil]; exact rel.length.symm.trans hlen)
  simp only [List.append_nil] at bd
  refine wpAny_call (codeAny_mono (F X.A X.stack _ H1 ⟨u :: us, []⟩ (u :: us) _ Q (fun c d H' => W c d σ H') A1 Z S1 (.lst (fs.map .fn) :: es') hr hgu e0 bd rel ok1 (.cons dl rv1) (by rw [List.length_cons, List.length_cons, hes]) ⟨List.prefix_refl _, fun _ _ e => e⟩ ?_) fun r s3 z => ?_)
  · unfold allF
    dsimp only
    rw [if_pos (fnsOf_map fs)]
    cases eg : g (fbs.map fun fb T => fb (ds.map some ++ List.replicate (M - pm.length) none) T) es' S1 with
    | ok d U => rw [eg] at po1; exact po1
    | err cl d U =>
      rw [eg] at po1
      exact fun B' I' dx v _ g1 h1 h2 => po1 B' I' dx v σ g1 h1 h2
    | bad => rw [eg] at po1; exact po1.elim
  · match r, z with
    | .error e, z => exact tk e s3 (XE.of_call I2 (fun _ _ _ h => h) z)
    | .ok (.ret u), z => exact I2.after z
    | .ok .next, z => exact z.elim
    | .ok .brk, z => exact z.elim
    | .ok .cont, z => exact z.elim
end
end DL

set_option maxHeartbeats 4000000
/-! defs whose code object is known; code that is never reached -/
namespace DL
open PySem PySem.Spec PyProof.Rows L2
section
variable {P : Program} {w : World} {K : PySem.W.Frag} {mg : Str → Option Value} {base : Heap} {ca : Str → Addr} {x : Str} {ps : List Str}
theorem Mk.mono {j kd ti M k : Nat} {T : Addr} {q : Str} {fbs : List FE} (m : Mk P w K mg base ca x ps j ti T q M k fbs) (h : j ≤ kd) : Mk P w K mg base ca x ps kd ti T q M k fbs :=
  let ⟨f, fd, a, b, c, F⟩ := m.ex
  ⟨f, fd, a, b, c, fun A outer s H args us vs B Z S ds hr => F A outer s H args us vs B Z S ds (hr.mono h)⟩
structure StdC (K : PySem.W.Frag) (mg : Str → Option Value) (x : Str) (st : Stmt) (ps : List Str) (c : Addr) : Prop where
  ex : ∃ f fd, mg x = some (.ref f) ∧ PySem.W.keepIn K (.ref f) = true ∧ FunC K x st f fd c ∧ L2.Binds K fd ps []
theorem stdC_mk {st : Stmt} {f c : Addr} {oc : Value} {od an : Option Addr} {osl : Array (Option Value)} {kV doc pm ct : Value} {h : Heap} (X : K.In h) (G : h.Ns mainGlobals mg) (a : PySem.W.nsIn K mainGlobals x = some (some (.ref f)))
    (l : K.lookup f = some ⟨oc, od, .func (PySem.W.fnOf x x (defArgs st) (defBody st) (defScope st) .none kV doc pm an (.ref c) ct), osl⟩) (hc : PySem.W.codeIn K (.ref c) x = true) (hk : PySem.W.keepIn K (.ref f) = true)
    (b : ∀ (kV doc pm : Value) (an : Option Addr) (cdv ct : Value) (us : List Value), us.length = ps.length → bindArgs (PySem.W.fnOf x x (defArgs st) (defBody st) (defScope st) .none kV doc pm an cdv ct) ⟨us, []⟩ = pure (ps.zip us)) : StdC K mg x st ps c :=
  ⟨_, _, PySem.W.mg_of X G a, hk, ⟨_, _, _, _, _, _, _, _, rfl, l, hc⟩, (fun_mk (st := st) l hc hk).binds b⟩
theorem mk_C {st : Stmt} {N : List Str} {kd ti k : Nat} {c T : Addr} {q : Str} {fbs : List FE} (C : StdC K mg x st ps c) (S : FnScope N ps (defScope st)) {lams : List Expr} {lpos pr : Pos}
    (hst : defBody st = [.Return (some (.List lams lpos)) pr])
    (body : ∀ (f : Addr) (A : Around) (outer : List PySem.Env) (s : Shared) (H : Hp) (E : XK), Room kd (CXof P w K mg base N x st f (.ref c) A outer s H E).A → (CXof P w K mg base N x st f (.ref c) A outer s H E).A.guards = some [] → SLm (CXof P w K mg base N x st f (.ref c) A outer s H E) ca k ti T q lams fbs) :
    Mk P w K mg base ca x ps (kd + 1) ti T q N.length k fbs :=
  let ⟨f, _, hm, hk, F, hb⟩ := C.ex
  mk_of F hm hk hb S hst (body f)
end
/-- what is never reached -/
def fNever : FS := fun _ _ => .bad
section
variable {X : Cx} {W : WX} {ca : Str → Addr}
theorem sss_never {sts : List Stmt} : SSs X W ca sts fNever := ⟨pss_imp pss_never fun D σ H ⟨A, Z, S, ρ, ok, sl, p⟩ => p.elim⟩
end
end DL

/-! the generator of a law's draws behind two tables -/
namespace DL
open PySem PySem.Spec PyProof.Rows L2
theorem jx0 {L : Sto} {t u : CO} {x y z : D} : ixD (.cel 2) (.int 0) (t :: u :: .lst [x, y, z] :: L) = some x := rfl
theorem jx1 {L : Sto} {t u : CO} {x y z : D} : ixD (.cel 2) (.int 1) (t :: u :: .lst [x, y, z] :: L) = some y := rfl
theorem jx2 {L : Sto} {t u : CO} {x y z : D} : ixD (.cel 2) (.int 2) (t :: u :: .lst [x, y, z] :: L) = some z := rfl
theorem js0 {L : Sto} {t u : CO} {x y z d : D} : setD (.cel 2) (.int 0) d (t :: u :: .lst [x, y, z] :: L) = some (t :: u :: .lst [d, y, z] :: L) := rfl
theorem js2 {L : Sto} {t u : CO} {x y z d : D} : setD (.cel 2) (.int 2) d (t :: u :: .lst [x, y, z] :: L) = some (t :: u :: .lst [x, y, d] :: L) := rfl
end DL

set_option maxHeartbeats 4000000
/-! repr, also of an empty dict -/
namespace DL
open PySem PySem.Spec PyProof.Rows L2
def reprT : OpN := fun ds S => match ds with
  | [.dct []] => some (.str (PyData.dict []).shown)
  | ds => reprD ds S
theorem cd_reprT {X : Cx} (hgu : X.A.guards = some []) (hu : X.A.units + 65 < cLine) : CallR X (.builtin "repr") (rDs X.K reprT) := by
  intro pins s σ H vs us Q I r ⟨A, Z, S, ds, d, ok, h, e, q⟩
  unfold reprT at e
  split at e
  · cases e
    cases h with
    | cons h1 h2 =>
      cases h2
      cases h1 with
      | dct0 hd =>
        rename_i a
        obtain ⟨u, rfl, ru⟩ : ∃ u, us = [u] ∧ RelV _ u := by
          cases r with
          | cons r1 r2 => cases r2; exact ⟨_, rfl, r1⟩
        cases ru
        obtain ⟨z1, z2, vs, z3, o, es, ep, k1, k2, k3, k4, k5, k6⟩ := I.hok a _ (cut_sub hd)
        have vn : vs = [] := by
          cases z3
          rfl
        subst vn
        have en : es.toList = [] := by
          cases he : es.toList with
          | nil => rfl
          | cons x r => rw [he] at k5; cases k5
        have rd : Reads s.heap (.ref a) (.dict []) (a :: [] ++ []) := Reads.dict k1 k2.1 k3 (by rw [en]; exact ReadsAll.nil) (by rw [en]; exact ReadsAll.nil)
        refine repr_of_reads' rd (by decide +kernel) (fun _ hm => ?_) hgu ?_ (fun _ _ e => e) (fun h' u tk hk => ⟨.str _, H, I.kept hk, ⟨_, rfl⟩, q A H _ (.refl ok) (.str _)⟩) (by decide +kernel)
        · have : sysModules = a := by simpa using hm
          rw [this] at z2
          simp at z2
        · have : (PyData.dict []).depth ≤ 1 := by decide +kernel
          omega
  · exact cd_repr hgu hu pins s σ H vs us Q I r ⟨A, Z, S, ds, d, ok, h, e, q⟩
end DL

set_option maxHeartbeats 4000000
namespace K08
open PySem PySem.Spec PyProof.Rows L2 DL
abbrev GF := List D → Sto → Res D
abbrev xsL : List Str := ["InvalidRule", "InvalidSide", "InvalidRallies", "Ended"]
abbrev ysL : List Str := ["InvalidRule", "InvalidSide", "InvalidRallies", "InvalidChance", "InvalidStretch", "InvalidLine", "InvalidPolynomial", "Ended", "TooMany"]
abbrev q__law_calls : Str := (("_law_calls" : Str) ++ ".<locals>.") ++ "<lambda>"
def c_ORDERS : D := (.kls [(.str "on"), (.str "turns"), (.str "winner"), (.str "loser")])
def c_DEEPEST : D := (.int 4)
abbrev N_is_whole : List Str := ["value"]
def b_is_whole : FS :=
    (fRet (fAndV (fIsi "int" (fVar 0)) (fNotV (fIsi "bool" (fVar 0)))))
def g_is_whole : GF := bodyT N_is_whole 1 (b_is_whole)
abbrev N_is_count : List Str := ["value"]
def b_is_count (g_is_whole : GF) : FS :=
    (fRet (fAndV (fCall 1 g_is_whole (fCons (fVar 0) fNil)) (fOp geD (fVar 0) (fC (.int 0)))))
def g_is_count : GF := bodyT N_is_count 1 (b_is_count g_is_whole)
abbrev N_is_between : List Str := ["value", "low", "high"]
def b_is_between (g_is_whole : GF) : FS :=
    (fRet (fAndV (fCall 1 g_is_whole (fCons (fVar 0) fNil)) (fChain leD leD (fVar 1) (fVar 0) (fVar 2))))
def g_is_between : GF := bodyT N_is_between 3 (b_is_between g_is_whole)
abbrev N_is_side : List Str := ["value"]
def b_is_side (g_is_between : GF) : FS :=
    (fRet (fCall 3 g_is_between (fCons (fVar 0) (fCons (fC (.int 0)) (fCons (fC (.int 1)) fNil)))))
def g_is_side : GF := bodyT N_is_side 1 (b_is_side g_is_between)
abbrev N_are_rallies : List Str := ["value", "side"]
def b_are_rallies (g_is_side : GF) : FS :=
    (fRet (fAndV (fIsi "list" (fVar 0)) (fOp eqD (fLc [1] (fiAny (fVar 0)) (fgName 1) (fNot (fB (fCall 1 g_is_side (fCons (fVar 1) fNil)))) (fVar 1)) (fLst fNil))))
def g_are_rallies : GF := bodyT N_are_rallies 1 (b_are_rallies g_is_side)
abbrev N_is_word : List Str := ["value", "word"]
def b_is_word : FS :=
    (fRet (fAndV (fIsi "tuple" (fVar 0)) (fAndV (fOp eqD (fCB lenD (fCons (fVar 0) fNil)) (fC (.int 1))) (fAndV (fIsi "str" (fOp ixD (fVar 0) (fC (.int 0)))) (fOp eqD (fOp ixD (fVar 0) (fC (.int 0))) (fVar 1))))))
def g_is_word : GF := bodyT N_is_word 2 (b_is_word)
abbrev N_is_order : List Str := ["value", "word", "mark"]
def b_is_order (g_is_word g_is_side : GF) : FS :=
    (fSeq (fIfS (fB (fOp neD (fLc [1] (fiAny (fC c_ORDERS)) (fgName 1) (fB (fCall 2 g_is_word (fCons (fVar 0) (fCons (fVar 1) fNil)))) (fVar 1)) (fLst fNil))) (fRet (fC (.bl true))) fNext)
    (fSeq (fIfS (fOr (fNot (fB (fIsi "tuple" (fVar 0)))) (fOr (fB (fOp neD (fCB lenD (fCons (fVar 0) fNil)) (fC (.int 2)))) (fOr (fNot (fB (fIsi "str" (fOp ixD (fVar 0) (fC (.int 0)))))) (fB (fOp neD (fOp ixD (fVar 0) (fC (.int 0))) (fC (.str "row"))))))) (fRet (fC (.bl false))) fNext)
    (fSeq (fIfS (fOr (fNot (fB (fIsi "list" (fOp ixD (fVar 0) (fC (.int 1)))))) (fNot (fB (fChain leD leD (fC (.int 1)) (fCB lenD (fCons (fOp ixD (fVar 0) (fC (.int 1))) fNil)) (fC (.int 8)))))) (fRet (fC (.bl false))) fNext)
    (fRet (fOp eqD (fLc [2] (fiAny (fOp ixD (fVar 0) (fC (.int 1)))) (fgName 2) (fNot (fB (fCall 1 g_is_side (fCons (fVar 2) fNil)))) (fVar 2)) (fLst fNil))))))
def g_is_order : GF := bodyT N_is_order 1 (b_is_order g_is_word g_is_side)
abbrev N_are_numbers_of_race : List Str := ["need", "lead", "cap"]
def b_are_numbers_of_race (g_is_between : GF) : FS :=
    (fSeq (fIfS (fOr (fNot (fB (fCall 3 g_is_between (fCons (fVar 0) (fCons (fC (.int 1)) (fCons (fC (.int 30)) fNil)))))) (fNot (fB (fCall 3 g_is_between (fCons (fVar 1) (fCons (fC (.int 1)) (fCons (fC (.int 3)) fNil))))))) (fRet (fC (.bl false))) fNext)
    (fRet (fOrV (fOp isD (fVar 2) (fC .non)) (fCall 3 g_is_between (fCons (fVar 2) (fCons (fVar 0) (fCons (fC (.int 40)) fNil)))))))
def g_are_numbers_of_race : GF := bodyT N_are_numbers_of_race 3 (b_are_numbers_of_race g_is_between)
abbrev N_is_score : List Str := ["value"]
def b_is_score (g_is_count : GF) : FS :=
    (fRet (fAndV (fIsi "tuple" (fVar 0)) (fAndV (fOp eqD (fCB lenD (fCons (fVar 0) fNil)) (fC (.int 2))) (fAndV (fCall 1 g_is_count (fCons (fOp ixD (fVar 0) (fC (.int 0))) fNil)) (fCall 1 g_is_count (fCons (fOp ixD (fVar 0) (fC (.int 1))) fNil))))))
def g_is_score : GF := bodyT N_is_score 1 (b_is_score g_is_count)
abbrev N_is_special : List Str := ["value", "deep"]
def b_is_special (g_is_score g_is_rule_within : GF) : FS :=
    (fSeq (fIfS (fOr (fNot (fB (fIsi "tuple" (fVar 0)))) (fOr (fB (fOp neD (fCB lenD (fCons (fVar 0) fNil)) (fC (.int 2)))) (fOr (fNot (fB (fCall 1 g_is_score (fCons (fOp ixD (fVar 0) (fC (.int 0))) fNil)))) (fB (fOp gtD (fCB maxT (fCons (fOp ixD (fVar 0) (fC (.int 0))) fNil)) (fC (.int 40))))))) (fRet (fC (.bl false))) fNext)
    (fRet (fCall 2 g_is_rule_within (fCons (fOp ixD (fVar 0) (fC (.int 1))) (fCons (fVar 1) fNil)))))
abbrev N_are_specials : List Str := ["value", "deep", "one", "at"]
def b_are_specials (g_is_special : GF) : FS :=
    (fSeq (fIfS (fOr (fNot (fB (fIsi "list" (fVar 0)))) (fOr (fB (fOp gtD (fCB lenD (fCons (fVar 0) fNil)) (fC (.int 8)))) (fB (fOp neD (fLc [2] (fiAny (fVar 0)) (fgName 2) (fNot (fB (fCall 2 g_is_special (fCons (fVar 2) (fCons (fVar 1) fNil))))) (fVar 2)) (fLst fNil))))) (fRet (fC (.bl false))) fNext)
    (fRet (fOp eqD (fLc [3] (fiRng2 (fCons (fC (.int 1)) (fCons (fCB lenD (fCons (fVar 0) fNil)) fNil))) (fgName 3) (fB (fOp geD (fOp ixD (fOp ixD (fVar 0) (fOp subD (fVar 3) (fC (.int 1)))) (fC (.int 0))) (fOp ixD (fOp ixD (fVar 0) (fVar 3)) (fC (.int 0))))) (fVar 3)) (fLst fNil))))
abbrev N_is_rule_within : List Str := ["value", "deep", "word", "need", "lead", "cap", "order", "unit", "specials"]
def b_is_rule_within (g_is_word g_are_numbers_of_race g_is_order g_is_rule_within g_are_specials : GF) : FS :=
    (fSeq (fIfS (fOr (fB (fCall 2 g_is_word (fCons (fVar 0) (fCons (fC (.str "rally")) fNil)))) (fB (fCall 2 g_is_word (fCons (fVar 0) (fCons (fC (.str "hand")) fNil))))) (fRet (fC (.bl true))) fNext)
    (fSeq (fIfS (fOr (fB (fOp eqD (fVar 1) (fC (.int 0)))) (fOr (fNot (fB (fIsi "tuple" (fVar 0)))) (fOr (fB (fOp neD (fCB lenD (fCons (fVar 0) fNil)) (fC (.int 7)))) (fNot (fB (fIsi "str" (fOp ixD (fVar 0) (fC (.int 0))))))))) (fRet (fC (.bl false))) fNext)
    (fSeq (fAsg (fVar 0) (fgTup 7 (fgCons (fgName 2) (fgCons (fgName 3) (fgCons (fgName 4) (fgCons (fgName 5) (fgCons (fgName 6) (fgCons (fgName 7) (fgCons (fgName 8) fgNil)))))))))
    (fSeq (fIfS (fOr (fB (fOp neD (fVar 2) (fC (.str "race")))) (fOr (fNot (fB (fCall 3 g_are_numbers_of_race (fCons (fVar 3) (fCons (fVar 4) (fCons (fVar 5) fNil)))))) (fNot (fB (fCall 1 g_is_order (fCons (fVar 6) fNil)))))) (fRet (fC (.bl false))) fNext)
    (fRet (fAndV (fCall 2 g_is_rule_within (fCons (fVar 7) (fCons (fOp subD (fVar 1) (fC (.int 1))) fNil))) (fCall 2 g_are_specials (fCons (fVar 8) (fCons (fOp subD (fVar 1) (fC (.int 1))) fNil)))))))))
mutual
def g_is_special : Nat → GF
  | 0 => fun _ _ => .bad
  | n + 1 => bodyT N_is_special 2 (b_is_special g_is_score (g_is_rule_within n))
def g_are_specials : Nat → GF
  | 0 => fun _ _ => .bad
  | n + 1 => bodyT N_are_specials 2 (b_are_specials (g_is_special n))
def g_is_rule_within : Nat → GF
  | 0 => fun _ _ => .bad
  | n + 1 => bodyT N_is_rule_within 2 (b_is_rule_within g_is_word g_are_numbers_of_race g_is_order (g_is_rule_within n) (g_are_specials n))
end
abbrev N_is_rule : List Str := ["value"]
def b_is_rule (g_is_rule_within : GF) : FS :=
    (fRet (fCall 2 g_is_rule_within (fCons (fVar 0) (fCons (fC c_DEEPEST) fNil))))
def g_is_rule : GF := bodyT N_is_rule 1 (b_is_rule (g_is_rule_within 16))
abbrev N_check_rule : List Str := ["rule"]
def b_check_rule (g_is_rule : GF) : FS :=
    (fIfS (fNot (fB (fCall 1 g_is_rule (fCons (fVar 0) fNil)))) (fRaise "InvalidRule" (fVar 0)) fNext)
def g_check_rule : GF := bodyT N_check_rule 1 (b_check_rule g_is_rule)
abbrev N_check_side : List Str := ["side"]
def b_check_side (g_is_side : GF) : FS :=
    (fIfS (fNot (fB (fCall 1 g_is_side (fCons (fVar 0) fNil)))) (fRaise "InvalidSide" (fVar 0)) fNext)
def g_check_side : GF := bodyT N_check_side 1 (b_check_side g_is_side)
abbrev N_check_rallies : List Str := ["rallies"]
def b_check_rallies (g_are_rallies : GF) : FS :=
    (fIfS (fNot (fB (fCall 1 g_are_rallies (fCons (fVar 0) fNil)))) (fRaise "InvalidRallies" (fVar 0)) fNext)
def g_check_rallies : GF := bodyT N_check_rallies 1 (b_check_rallies g_are_rallies)
abbrev N_unit_of : List Str := ["rule", "score", "place", "special"]
def b_unit_of : FS :=
    (fSeq (fFor (fiAny (fOp ixD (fVar 0) (fC (.int 6)))) (fgTup 2 (fgCons (fgName 2) (fgCons (fgName 3) fgNil))) (fIfS (fB (fOp eqD (fVar 2) (fVar 1))) (fRet (fVar 3)) fNext))
    (fRet (fOp ixD (fVar 0) (fC (.int 5)))))
def g_unit_of : GF := bodyT N_unit_of 2 (b_unit_of)
abbrev N_begun : List Str := ["rule", "side", "turn"]
def b_begun (g_begun g_unit_of : GF) : FS :=
    (fSeq (fIfS (fB (fOp neD (fOp ixD (fVar 0) (fC (.int 0))) (fC (.str "race")))) (fRet (fTup (fCons (fVar 1) fNil))) fNext)
    (fSeq (fAsg (fVar 1) (fgName 2))
    (fSeq (fIfS (fAnd (fB (fOp eqD (fOp ixD (fOp ixD (fVar 0) (fC (.int 4))) (fC (.int 0))) (fC (.str "row")))) (fB (fOp eqD (fOp ixD (fOp ixD (fOp ixD (fVar 0) (fC (.int 4))) (fC (.int 1))) (fC (.int 0))) (fC (.int 1))))) (fAsg (fOp subD (fC (.int 1)) (fVar 1)) (fgName 2)) fNext)
    (fRet (fTup (fCons (fC (.int 0)) (fCons (fC (.int 0)) (fCons (fVar 1) (fCons (fVar 2) (fCons (fCall 2 g_begun (fCons (fCall 2 g_unit_of (fCons (fVar 0) (fCons (fTup (fCons (fC (.int 0)) (fCons (fC (.int 0)) fNil))) fNil))) (fCons (fVar 2) fNil))) fNil))))))))))
def g_begun : Nat → GF
  | 0 => fun _ _ => .bad
  | n + 1 => bodyT N_begun 2 (b_begun (g_begun n) g_unit_of)
abbrev N_is_won : List Str := ["rule", "score", "need", "lead", "cap"]
def b_is_won : FS :=
    (fSeq (fAsg (fSl (fVar 0) (fPart (fC (.int 1))) (fPart (fC (.int 4)))) (fgTup 3 (fgCons (fgName 2) (fgCons (fgName 3) (fgCons (fgName 4) fgNil)))))
    (fSeq (fIfS (fAnd (fB (fOp isnotD (fVar 4) (fC .non))) (fB (fOp geD (fCB maxT (fCons (fVar 1) fNil)) (fVar 4)))) (fRet (fC (.bl true))) fNext)
    (fRet (fAndV (fOp geD (fCB maxT (fCons (fVar 1) fNil)) (fVar 2)) (fOp geD (fCB absD (fCons (fOp subD (fOp ixD (fVar 1) (fC (.int 0))) (fOp ixD (fVar 1) (fC (.int 1)))) fNil)) (fVar 3))))))
def g_is_won : GF := bodyT N_is_won 2 (b_is_won)
abbrev N_next_turn : List Str := ["rule", "state", "score", "winner", "hands", "word", "marks"]
def b_next_turn : FS :=
    (fSeq (fAsg (fOp ixD (fOp ixD (fVar 0) (fC (.int 4))) (fC (.int 0))) (fgName 5))
    (fSeq (fIfS (fB (fOp eqD (fVar 5) (fC (.str "on")))) (fRet (fVar 4)) fNext)
    (fSeq (fIfS (fB (fOp eqD (fVar 5) (fC (.str "turns")))) (fRet (fOp subD (fC (.int 1)) (fOp ixD (fVar 1) (fC (.int 3))))) fNext)
    (fSeq (fIfS (fB (fOp eqD (fVar 5) (fC (.str "winner")))) (fRet (fVar 3)) fNext)
    (fSeq (fIfS (fB (fOp eqD (fVar 5) (fC (.str "loser")))) (fRet (fOp subD (fC (.int 1)) (fVar 3))) fNext)
    (fSeq (fAsg (fOp ixD (fOp ixD (fVar 0) (fC (.int 4))) (fC (.int 1))) (fgName 6))
    (fRet (fIf (fB (fOp eqD (fOp ixD (fVar 6) (fOp modD (fCB sumD (fCons (fVar 2) fNil)) (fCB lenD (fCons (fVar 6) fNil)))) (fC (.int 0)))) (fOp ixD (fVar 1) (fC (.int 2))) (fOp subD (fC (.int 1)) (fOp ixD (fVar 1) (fC (.int 2))))))))))))
def g_next_turn : GF := bodyT N_next_turn 5 (b_next_turn)
abbrev N_led_race : List Str := ["rule", "state", "side", "score", "inner", "winner", "hands", "turn"]
def b_led_race (g_led g_unit_of g_next_turn g_is_won g_begun : GF) : FS :=
    (fSeq (fAsg (fSl (fVar 1) fNoPart (fPart (fC (.int 2)))) (fgName 3))
    (fSeq (fAsg (fCall 3 g_led (fCons (fCall 2 g_unit_of (fCons (fVar 0) (fCons (fVar 3) fNil))) (fCons (fOp ixD (fVar 1) (fC (.int 4))) (fCons (fVar 2) fNil)))) (fgTup 3 (fgCons (fgName 4) (fgCons (fgName 5) (fgCons (fgName 6) fgNil)))))
    (fSeq (fIfS (fB (fOp isnotD (fVar 4) (fC .non))) (fRet (fTup (fCons (fOp addD (fSl (fVar 1) fNoPart (fPart (fC (.int 4)))) (fTup (fCons (fVar 4) fNil))) (fCons (fC .non) (fCons (fC .non) fNil))))) fNext)
    (fSeq (fAsg (fTup (fCons (fOp subD (fOp addD (fOp ixD (fVar 3) (fC (.int 0))) (fC (.int 1))) (fVar 5)) (fCons (fOp addD (fOp ixD (fVar 3) (fC (.int 1))) (fVar 5)) fNil))) (fgName 3))
    (fSeq (fAsg (fCall 5 g_next_turn (fCons (fVar 0) (fCons (fVar 1) (fCons (fVar 3) (fCons (fVar 5) (fCons (fVar 6) fNil)))))) (fgName 7))
    (fSeq (fIfS (fB (fCall 2 g_is_won (fCons (fVar 0) (fCons (fVar 3) fNil)))) (fRet (fTup (fCons (fC .non) (fCons (fIf (fB (fOp gtD (fOp ixD (fVar 3) (fC (.int 0))) (fOp ixD (fVar 3) (fC (.int 1))))) (fC (.int 0)) (fC (.int 1))) (fCons (fVar 7) fNil))))) fNext)
    (fRet (fTup (fCons (fOp addD (fVar 3) (fTup (fCons (fOp ixD (fVar 1) (fC (.int 2))) (fCons (fVar 7) (fCons (fCall 2 g_begun (fCons (fCall 2 g_unit_of (fCons (fVar 0) (fCons (fVar 3) fNil))) (fCons (fVar 7) fNil))) fNil))))) (fCons (fC .non) (fCons (fC .non) fNil)))))))))))
abbrev N_led : List Str := ["rule", "state", "side"]
def b_led (g_led_race : GF) : FS :=
    (fSeq (fIfS (fB (fOp eqD (fOp ixD (fVar 0) (fC (.int 0))) (fC (.str "race")))) (fRet (fCall 3 g_led_race (fCons (fVar 0) (fCons (fVar 1) (fCons (fVar 2) fNil))))) fNext)
    (fSeq (fIfS (fAnd (fB (fOp eqD (fOp ixD (fVar 0) (fC (.int 0))) (fC (.str "hand")))) (fB (fOp neD (fVar 2) (fOp ixD (fVar 1) (fC (.int 0)))))) (fRet (fTup (fCons (fTup (fCons (fVar 2) fNil)) (fCons (fC .non) (fCons (fC .non) fNil))))) fNext)
    (fRet (fTup (fCons (fC .non) (fCons (fVar 2) (fCons (fOp ixD (fVar 1) (fC (.int 0))) fNil)))))))
mutual
def g_led_race : Nat → GF
  | 0 => fun _ _ => .bad
  | n + 1 => bodyT N_led_race 3 (b_led_race (g_led n) g_unit_of g_next_turn g_is_won (g_begun 16))
def g_led : Nat → GF
  | 0 => fun _ _ => .bad
  | n + 1 => bodyT N_led 3 (b_led (g_led_race n))
end
abbrev N_server_in : List Str := ["state"]
def b_server_in : FS :=
    (fSeq (fWhile (fB (fOp gtD (fCB lenD (fCons (fVar 0) fNil)) (fC (.int 1)))) (fAsg (fOp ixD (fVar 0) (fC (.int 4))) (fgName 0)) 1000000)
    (fRet (fOp ixD (fVar 0) (fC (.int 0)))))
def g_server_in : GF := bodyT N_server_in 1 (b_server_in)
abbrev N_led_by : List Str := ["rule", "first", "rallies", "state", "at", "side", "winner", "hands"]
def b_led_by (g_begun g_led : GF) : FS :=
    (fSeq (fAsg (fCall 2 g_begun (fCons (fVar 0) (fCons (fVar 1) fNil))) (fgName 3))
    (fSeq (fFor (fiEnum (fVar 2)) (fgTup 2 (fgCons (fgName 4) (fgCons (fgName 5) fgNil))) (fSeq (fAsg (fCall 3 g_led (fCons (fVar 0) (fCons (fVar 3) (fCons (fVar 5) fNil)))) (fgTup 3 (fgCons (fgName 3) (fgCons (fgName 6) (fgCons (fgName 7) fgNil)))))
    (fIfS (fB (fOp isD (fVar 3) (fC .non))) (fRet (fTup (fCons (fC .non) (fCons (fVar 6) (fCons (fOp addD (fVar 4) (fC (.int 1))) fNil))))) fNext)))
    (fRet (fTup (fCons (fVar 3) (fCons (fC .non) (fCons (fCB lenD (fCons (fVar 2) fNil)) fNil)))))))
def g_led_by : GF := bodyT N_led_by 3 (b_led_by (g_begun 16) (g_led 16))
abbrev N_check_match : List Str := ["rule", "first", "rallies"]
def b_check_match (g_check_rule g_check_side g_check_rallies : GF) : FS :=
    (fSeq (fDrop (fCall 1 g_check_rule (fCons (fVar 0) fNil)))
    (fSeq (fDrop (fCall 1 g_check_side (fCons (fVar 1) fNil)))
    (fDrop (fCall 1 g_check_rallies (fCons (fVar 2) fNil)))))
def g_check_match : GF := bodyT N_check_match 3 (b_check_match g_check_rule g_check_side g_check_rallies)
abbrev N_behind : List Str := ["rule", "first", "rallies", "state", "winner", "played"]
def b_behind (g_led_by : GF) : FS :=
    (fSeq (fAsg (fCall 3 g_led_by (fCons (fVar 0) (fCons (fVar 1) (fCons (fVar 2) fNil)))) (fgTup 3 (fgCons (fgName 3) (fgCons (fgName 4) (fgCons (fgName 5) fgNil)))))
    (fSeq (fIfS (fB (fOp ltD (fVar 5) (fCB lenD (fCons (fVar 2) fNil)))) (fRaise "Ended" (fVar 5)) fNext)
    (fRet (fTup (fCons (fVar 3) (fCons (fVar 4) fNil))))))
def g_behind : GF := bodyT N_behind 3 (b_behind g_led_by)
abbrev N_going_on : List Str := ["rule", "first", "rallies", "state", "winner"]
def b_going_on (g_behind : GF) : FS :=
    (fSeq (fAsg (fCall 3 g_behind (fCons (fVar 0) (fCons (fVar 1) (fCons (fVar 2) fNil)))) (fgTup 2 (fgCons (fgName 3) (fgCons (fgName 4) fgNil))))
    (fSeq (fIfS (fB (fOp isD (fVar 3) (fC .non))) (fRaise "Ended" (fCB lenD (fCons (fVar 2) fNil))) fNext)
    (fRet (fVar 3))))
def g_going_on : GF := bodyT N_going_on 3 (b_going_on g_behind)
abbrev N_winner_after : List Str := ["rule", "first", "rallies"]
def b_winner_after (g_check_match g_behind : GF) : FS :=
    (fSeq (fDrop (fCall 3 g_check_match (fCons (fVar 0) (fCons (fVar 1) (fCons (fVar 2) fNil)))))
    (fRet (fOp ixD (fCall 3 g_behind (fCons (fVar 0) (fCons (fVar 1) (fCons (fVar 2) fNil)))) (fC (.int 1)))))
def g_winner_after : GF := bodyT N_winner_after 3 (b_winner_after g_check_match g_behind)
abbrev N_server_after : List Str := ["rule", "first", "rallies"]
def b_server_after (g_check_match g_server_in g_going_on : GF) : FS :=
    (fSeq (fDrop (fCall 3 g_check_match (fCons (fVar 0) (fCons (fVar 1) (fCons (fVar 2) fNil)))))
    (fRet (fCall 1 g_server_in (fCons (fCall 3 g_going_on (fCons (fVar 0) (fCons (fVar 1) (fCons (fVar 2) fNil)))) fNil))))
def g_server_after : GF := bodyT N_server_after 3 (b_server_after g_check_match g_server_in g_going_on)
abbrev N_scores_after : List Str := ["rule", "first", "rallies", "state", "winner"]
def b_scores_after (g_check_match g_behind : GF) : FS :=
    (fSeq (fDrop (fCall 3 g_check_match (fCons (fVar 0) (fCons (fVar 1) (fCons (fVar 2) fNil)))))
    (fSeq (fAsg (fCall 3 g_behind (fCons (fVar 0) (fCons (fVar 1) (fCons (fVar 2) fNil)))) (fgTup 2 (fgCons (fgName 3) (fgCons (fgName 4) fgNil))))
    fNever))
def g_scores_after : GF := bodyT N_scores_after 3 (b_scores_after g_check_match g_behind)
abbrev N_servers_of : List Str := ["rule", "first", "rallies", "servers", "state", "side"]
def b_servers_of (g_check_match g_behind : GF) : FS :=
    (fSeq (fDrop (fCall 3 g_check_match (fCons (fVar 0) (fCons (fVar 1) (fCons (fVar 2) fNil)))))
    (fSeq (fDrop (fCall 3 g_behind (fCons (fVar 0) (fCons (fVar 1) (fCons (fVar 2) fNil)))))
    fNever))
def g_servers_of : GF := bodyT N_servers_of 3 (b_servers_of g_check_match g_behind)
abbrev N_won_units : List Str := ["rule", "first", "rallies", "rows", "state", "side"]
def b_won_units (g_check_match g_behind : GF) : FS :=
    (fSeq (fDrop (fCall 3 g_check_match (fCons (fVar 0) (fCons (fVar 1) (fCons (fVar 2) fNil)))))
    (fSeq (fDrop (fCall 3 g_behind (fCons (fVar 0) (fCons (fVar 1) (fCons (fVar 2) fNil)))))
    fNever))
def g_won_units : GF := bodyT N_won_units 3 (b_won_units g_check_match g_behind)
abbrev N_stakes : List Str := ["rule", "first", "rallies", "state"]
def b_stakes (g_check_match g_going_on : GF) : FS :=
    (fSeq (fDrop (fCall 3 g_check_match (fCons (fVar 0) (fCons (fVar 1) (fCons (fVar 2) fNil)))))
    (fSeq (fAsg (fCall 3 g_going_on (fCons (fVar 0) (fCons (fVar 1) (fCons (fVar 2) fNil)))) (fgName 3))
    fNever))
def g_stakes : GF := bodyT N_stakes 3 (b_stakes g_check_match g_going_on)
abbrev N__law_hash : List Str := ["seed", "index", "mixed"]
def b__law_hash : FS :=
    (fSeq (fAsg (fOp modD (fCB intD (fCons (fOp addD (fOp addD (fOp addD (fOp mulD (fVar 0) (fC (.int 1140671))) (fOp mulD (fOp mulD (fC (.int 27644437)) (fVar 1)) (fVar 1))) (fOp mulD (fC (.int 131)) (fVar 1))) (fC (.int 19))) fNil)) (fC (.int 2147483629))) (fgName 2))
    (fSeq (fAsg (fOp modD (fCB intD (fCons (fOp addD (fOp addD (fOp mulD (fVar 2) (fVar 2)) (fOp mulD (fC (.int 62089)) (fVar 1))) (fC (.int 32416187))) fNil)) (fC (.int 2147483587))) (fgName 2))
    (fRet (fOp modD (fCB intD (fCons (fOp mulD (fVar 2) (fC (.int 48271))) fNil)) (fC (.int 2147483647))))))
def g__law_hash : GF := bodyT N__law_hash 2 (b__law_hash)
abbrev N__law_random : List Str := ["generator", "bound", "drawn", "turn"]
def b__law_random (g__law_hash : GF) : FS :=
    (fSeq (fIfS (fB (fOp gtD (fOp ixD (fVar 0) (fC (.int 0))) (fC (.int 0)))) (fSeq (fAsg (fOp modD (fCB intD (fCons (fOp ixD (fVar 0) (fC (.int 0))) fNil)) (fVar 1)) (fgName 2))
    (fSeq (fAsg (fOp fdivD (fOp ixD (fVar 0) (fC (.int 0))) (fVar 1)) (fgSub (fVar 0) (fC (.int 0))))
    (fRet (fVar 2)))) fNext)
    (fSeq (fAsg (fC (.int 0)) (fgName 2))
    (fSeq (fFor (fiRng1 (fCons (fOp addD (fC (.int 1)) (fOp fdivD (fBits (fVar 1)) (fC (.int 30)))) fNil)) (fgName 3) (fSeq (fAsg (fOp addD (fOp ixD (fVar 0) (fC (.int 2))) (fC (.int 1))) (fgSub (fVar 0) (fC (.int 2))))
    (fAsg (fOp addD (fOp mulD (fVar 2) (fC (.int 2147483587))) (fCall 2 g__law_hash (fCons (fOp ixD (fVar 0) (fC (.int 1))) (fCons (fOp ixD (fVar 0) (fC (.int 2))) fNil)))) (fgName 2))))
    (fRet (fOp modD (fCB intD (fCons (fVar 2) fNil)) (fVar 1))))))
def g__law_random : GF := bodyT N__law_random 2 (b__law_random g__law_hash)
abbrev N__law_cell : List Str := ["script", "index"]
def b__law_cell : FS :=
    (fSeq (fIfS (fB (fOp ltD (fVar 1) (fCB lenD (fCons (fVar 0) fNil)))) (fRet (fOp ixD (fVar 0) (fVar 1))) fNext)
    (fRet (fOp modD (fCB sumD (fCons (fSl (fVar 0) fNoPart (fPart (fC (.int 1)))) fNil)) (fC (.int 1000003)))))
def g__law_cell : GF := bodyT N__law_cell 2 (b__law_cell)
abbrev N__law_generator : List Str := ["script", "index", "seed"]
def b__law_generator (g__law_cell : GF) : FS :=
    (fSeq (fAsg (fCall 2 g__law_cell (fCons (fVar 0) (fCons (fVar 1) fNil))) (fgName 2))
    (fRet (fLstC (fCons (fOp modD (fCB intD (fCons (fCB maxT (fCons (fOp subD (fVar 2) (fOp powD (fC (.int 10)) (fC (.int 18)))) (fCons (fC (.int 0)) fNil))) fNil)) (fOp powD (fOp powD (fC (.int 10)) (fC (.int 60))) (fC (.int 10)))) (fCons (fOp modD (fCB intD (fCons (fVar 2) fNil)) (fC (.int 2147483647))) (fCons (fOp mulD (fC (.int 1000)) (fVar 1)) fNil))))))
def g__law_generator : GF := bodyD N__law_generator 2 (b__law_generator g__law_cell)
abbrev N__law_pick : List Str := ["generator", "things"]
def b__law_pick (g__law_random : GF) : FS :=
    (fRet (fOp ixD (fVar 1) (fCall 2 g__law_random (fCons (fVar 0) (fCons (fCB lenD (fCons (fVar 1) fNil)) fNil)))))
def g__law_pick : GF := bodyT N__law_pick 2 (b__law_pick g__law_random)
abbrev N__law_order : List Str := ["generator", "word", "mark"]
def b__law_order (g__law_pick g__law_random : GF) : FS :=
    (fSeq (fAsg (fCall 2 g__law_pick (fCons (fVar 0) (fCons (fLst (fCons (fC (.str "on")) (fCons (fC (.str "turns")) (fCons (fC (.str "turns")) (fCons (fC (.str "winner")) (fCons (fC (.str "loser")) (fCons (fC (.str "row")) fNil))))))) fNil))) (fgName 1))
    (fSeq (fIfS (fB (fOp neD (fVar 1) (fC (.str "row")))) (fRet (fTup (fCons (fVar 1) fNil))) fNext)
    (fRet (fTup (fCons (fC (.str "row")) (fCons (fLc [2] (fiRng1 (fCons (fCall 2 g__law_pick (fCons (fVar 0) (fCons (fLst (fCons (fC (.int 1)) (fCons (fC (.int 2)) (fCons (fC (.int 2)) (fCons (fC (.int 3)) (fCons (fC (.int 4)) (fCons (fC (.int 4)) fNil))))))) fNil))) fNil)) (fgName 2) fYes (fCall 2 g__law_random (fCons (fVar 0) (fCons (fC (.int 2)) fNil)))) fNil))))))
def g__law_order : GF := bodyT N__law_order 1 (b__law_order g__law_pick g__law_random)
abbrev N__law_race : List Str := ["generator", "deep", "most", "need", "lead", "cap", "specials", "unit", "turn", "score", "place", "special"]
def b__law_race (g__law_random g__law_pick g__law_rule g__law_order : GF) : FS :=
    (fSeq (fPar3 3 4 5 (fCons (fOp addD (fC (.int 1)) (fCall 2 g__law_random (fCons (fVar 0) (fCons (fVar 2) fNil)))) (fCons (fCall 2 g__law_pick (fCons (fVar 0) (fCons (fLst (fCons (fC (.int 1)) (fCons (fC (.int 1)) (fCons (fC (.int 1)) (fCons (fC (.int 2)) (fCons (fC (.int 2)) (fCons (fC (.int 3)) fNil))))))) fNil))) (fCons (fC .non) fNil))))
    (fSeq (fIfS (fB (fOp eqD (fCall 2 g__law_random (fCons (fVar 0) (fCons (fC (.int 3)) fNil))) (fC (.int 0)))) (fAsg (fOp addD (fVar 3) (fCall 2 g__law_random (fCons (fVar 0) (fCons (fC (.int 3)) fNil)))) (fgName 5)) fNext)
    (fSeq (fPar 6 7 (fCons (fLstC fNil) (fCons (fCall 3 g__law_rule (fCons (fVar 0) (fCons (fOp subD (fVar 1) (fC (.int 1))) (fCons (fVar 2) fNil)))) fNil)))
    (fSeq (fFor (fiRng1 (fCons (fCall 2 g__law_pick (fCons (fVar 0) (fCons (fLst (fCons (fC (.int 0)) (fCons (fC (.int 0)) (fCons (fC (.int 0)) (fCons (fC (.int 1)) (fCons (fC (.int 2)) fNil)))))) fNil))) fNil)) (fgName 8) (fSeq (fAsg (fTup (fCons (fCall 2 g__law_random (fCons (fVar 0) (fCons (fOp addD (fVar 3) (fC (.int 1))) fNil))) (fCons (fCall 2 g__law_random (fCons (fVar 0) (fCons (fOp addD (fVar 3) (fC (.int 1))) fNil))) fNil))) (fgName 9))
    (fIfS (fB (fOp notInD (fVar 9) (fLc [10, 11] (fiAny (fVar 6)) (fgTup 2 (fgCons (fgName 10) (fgCons (fgName 11) fgNil))) fYes (fVar 10)))) (fDrop (fApp (fVar 6) (fTup (fCons (fVar 9) (fCons (fCall 3 g__law_rule (fCons (fVar 0) (fCons (fOp subD (fVar 1) (fC (.int 1))) (fCons (fVar 2) fNil)))) fNil))))) fNext)))
    (fRet (fTup (fCons (fC (.str "race")) (fCons (fVar 3) (fCons (fVar 4) (fCons (fVar 5) (fCons (fCall 1 g__law_order (fCons (fVar 0) fNil)) (fCons (fVar 7) (fCons (fCB sortedD (fCons (fVar 6) fNil)) fNil)))))))))))))
abbrev N__law_rule : List Str := ["generator", "deep", "most"]
def b__law_rule (g__law_random g__law_pick g__law_race : GF) : FS :=
    (fSeq (fIfS (fOr (fB (fOp eqD (fVar 1) (fC (.int 0)))) (fB (fOp eqD (fCall 2 g__law_random (fCons (fVar 0) (fCons (fC (.int 9)) fNil))) (fC (.int 0))))) (fRet (fCall 2 g__law_pick (fCons (fVar 0) (fCons (fLst (fCons (fTup (fCons (fC (.str "rally")) fNil)) (fCons (fTup (fCons (fC (.str "rally")) fNil)) (fCons (fTup (fCons (fC (.str "rally")) fNil)) (fCons (fTup (fCons (fC (.str "hand")) fNil)) fNil))))) fNil)))) fNext)
    (fRet (fCall 3 g__law_race (fCons (fVar 0) (fCons (fVar 1) (fCons (fVar 2) fNil))))))
mutual
def g__law_race : Nat → GF
  | 0 => fun _ _ => .bad
  | n + 1 => bodyT N__law_race 3 (b__law_race g__law_random g__law_pick (g__law_rule n) g__law_order)
def g__law_rule : Nat → GF
  | 0 => fun _ _ => .bad
  | n + 1 => bodyT N__law_rule 3 (b__law_rule g__law_random g__law_pick (g__law_race n))
end
abbrev N__law_rallies : List Str := ["generator", "many", "lean", "rally"]
def b__law_rallies (g__law_pick g__law_random : GF) : FS :=
    (fSeq (fAsg (fCall 2 g__law_pick (fCons (fVar 0) (fCons (fLst (fCons (fC (.int 1)) (fCons (fC (.int 2)) (fCons (fC (.int 2)) (fCons (fC (.int 3)) (fCons (fC (.int 5)) (fCons (fC (.int 9)) fNil))))))) fNil))) (fgName 2))
    (fRet (fLc [3] (fiRng1 (fCons (fVar 1) fNil)) (fgName 3) fYes (fIf (fB (fOp eqD (fCall 2 g__law_random (fCons (fVar 0) (fCons (fC (.int 2)) fNil))) (fC (.int 0)))) (fCB intD (fCons (fOp eqD (fCall 2 g__law_random (fCons (fVar 0) (fCons (fOp addD (fVar 2) (fC (.int 1))) fNil))) (fC (.int 0))) fNil)) (fCall 2 g__law_random (fCons (fVar 0) (fCons (fC (.int 2)) fNil)))))))
def g__law_rallies : GF := bodyT N__law_rallies 2 (b__law_rallies g__law_pick g__law_random)
abbrev N__law_caught : List Str := ["call", "caught", "e", "kinds"]
def r__law_caught : FS :=
    (fSeq (fIfS (fB (fOp isD (fVar 1) (fC .non))) (fRet (fTup (fCons (fC (.str "let")) (fCons (fC .non) fNil)))) fNext)
    (fSeq (fAsg (fLst (fCons (fIsX xsL "InvalidRule" (fVar 1)) (fCons (fIsX xsL "InvalidSide" (fVar 1)) (fCons (fIsX xsL "InvalidRallies" (fVar 1)) (fCons (fIsX xsL "InvalidChance" (fVar 1)) fNil))))) (fgName 3))
    (fSeq (fAsg (fOp addD (fVar 3) (fLst (fCons (fIsX xsL "InvalidStretch" (fVar 1)) (fCons (fIsX xsL "InvalidLine" (fVar 1)) (fCons (fIsX xsL "InvalidPolynomial" (fVar 1)) (fCons (fIsX xsL "Ended" (fVar 1)) (fCons (fIsX xsL "TooMany" (fVar 1)) fNil))))))) (fgName 3))
    (fSeq (fIfS (fB (fOp neD (fCnt (fVar 3) (fC (.bl true))) (fC (.int 1)))) (fRet (fTup (fCons (fC (.str "odd")) (fCons (fC .non) fNil)))) fNext)
    (fRet (fTup (fCons (fOp ixD (fLst (fCons (fC (.str "rule")) (fCons (fC (.str "side")) (fCons (fC (.str "rallies")) (fCons (fC (.str "chance")) (fCons (fC (.str "stretch")) (fCons (fC (.str "line")) (fCons (fC (.str "polynomial")) (fCons (fC (.str "ended")) (fCons (fC (.str "many")) fNil)))))))))) (fIdx (fVar 3) (fC (.bl true)))) (fCons (fXv xsL (fVar 1)) fNil))))))))
def g__law_caught : Thk → Thk := caughtD N__law_caught.length xsL r__law_caught
abbrev N__law_refused : List Str := ["call", "word", "value", "told"]
def r__law_refused : FS :=
    (fRet (fAndV (fOp eqD (fOp ixD (fVar 3) (fC (.int 0))) (fVar 1)) (fOp eqD (fCB reprT (fCons (fOp ixD (fVar 3) (fC (.int 1))) fNil)) (fCB reprT (fCons (fVar 2) fNil)))))
def g__law_refused : Thk → List D → Sto → Res D := refD N__law_refused.length 3 r__law_refused g__law_caught
abbrev N__law_all_refused : List Str := ["calls", "word", "value", "call"]
def g__law_all_refused : List Thk → List D → Sto → Res D := allD g__law_refused
abbrev N__law_calls : List Str := ["rule", "first", "rallies"]
def l__law_calls : List FE := [(fCall 3 g_winner_after (fCons (fVar 0) (fCons (fVar 1) (fCons (fVar 2) fNil)))), (fCall 3 g_server_after (fCons (fVar 0) (fCons (fVar 1) (fCons (fVar 2) fNil)))), (fCall 3 g_scores_after (fCons (fVar 0) (fCons (fVar 1) (fCons (fVar 2) fNil)))), (fCall 3 g_servers_of (fCons (fVar 0) (fCons (fVar 1) (fCons (fVar 2) fNil)))), (fCall 3 g_won_units (fCons (fVar 0) (fCons (fVar 1) (fCons (fVar 2) fNil)))), (fCall 3 g_stakes (fCons (fVar 0) (fCons (fVar 1) (fCons (fVar 2) fNil))))]
abbrev N_law : List Str := ["script", "generator", "rule", "first", "rallies", "kept", "race", "wrong", "bad"]
def b_law (TP0 : Addr) (g__law_generator g__law_rule g__law_random g__law_rallies : GF) : FS :=
    (fSeq (fAsg (fCall 2 g__law_generator (fCons (fVar 0) (fCons (fC (.int 0)) fNil))) (fgName 1))
    (fSeq (fPar 2 3 (fCons (fCall 3 g__law_rule (fCons (fVar 1) (fCons (fC (.int 2)) (fCons (fC (.int 3)) fNil)))) (fCons (fCall 2 g__law_random (fCons (fVar 1) (fCons (fC (.int 2)) fNil))) fNil)))
    (fSeq (fAsg (fCall 2 g__law_rallies (fCons (fVar 1) (fCons (fC (.int 12)) fNil))) (fgName 4))
    (fSeq (fAsg (fCB reprT (fCons (fLst (fCons (fVar 2) (fCons (fVar 4) fNil))) fNil)) (fgName 5))
    (fSeq (fAsg (fTup (fCons (fC (.str "race")) (fCons (fC (.int 2)) (fCons (fC (.int 1)) (fCons (fC .non) (fCons (fTup (fCons (fC (.str "on")) fNil)) (fCons (fTup (fCons (fC (.str "rally")) fNil)) (fCons (fLst fNil) fNil)))))))) (fgName 6))
    (fSeq (fAsg (fLst (fCons (fC .non) (fCons (fC (.int 7)) (fCons (fC (.str "rally")) (fCons (fTup (fCons (fC (.str "rally")) (fCons (fC (.int 1)) fNil))) (fCons (fCB listD (fCons (fVar 6) fNil)) (fCons (fSl (fVar 6) fNoPart (fPart (fC (.int 6)))) (fCons (fOp addD (fTup (fCons (fC (.str "race")) (fCons (fC (.int 0)) fNil))) (fSl (fVar 6) (fPart (fC (.int 2))) fNoPart)) (fCons (fOp addD (fTup (fCons (fC (.str "race")) (fCons (fC (.int 2)) (fCons (fC (.int 1)) (fCons (fC (.int 1)) fNil))))) (fSl (fVar 6) (fPart (fC (.int 4))) fNoPart)) fNil))))))))) (fgName 7))
    (fSeq (fFor (fiAny (fOp addD (fVar 7) (fLst (fCons (fOp addD (fOp addD (fSl (fVar 6) fNoPart (fPart (fC (.int 4)))) (fTup (fCons (fC (.str "on")) fNil))) (fSl (fVar 6) (fPart (fC (.int 5))) fNoPart)) (fCons (fOp addD (fSl (fVar 6) fNoPart (fPart (fC (.int 5)))) (fTup (fCons (fTup (fCons (fC (.str "r")) fNil)) (fCons (fLst fNil) fNil)))) (fCons (fOp addD (fSl (fVar 6) fNoPart (fPart (fC (.int 6)))) (fTup (fCons (fC .non) fNil))) fNil)))))) (fgName 8) (fIfS (fOr (fNot (fB (fMk 0 TP0 q__law_calls 3 2 N__law_calls.length g__law_all_refused l__law_calls (fCons (fVar 8) (fCons (fC .non) (fCons (fC .non) fNil))) (sC (.str "rule") (sV 8 sNil))))) (fNot (fB (fMk 0 TP0 q__law_calls 3 2 N__law_calls.length g__law_all_refused l__law_calls (fCons (fVar 8) (fCons (fVar 3) (fCons (fVar 4) fNil))) (sC (.str "rule") (sV 8 sNil)))))) (fRet (fC (.bl false))) fNext))
    (fSeq (fFor (fiAny (fLst (fCons (fC .non) (fCons (fC (.int 2)) (fCons (fOp subD (fC (.int 0)) (fC (.int 1))) (fCons (fC (.bl true)) (fCons (fC (.bl false)) (fCons (fC (.str "0")) (fCons (fTup (fCons (fC (.int 0)) fNil)) (fCons (fLst (fCons (fC (.int 1)) fNil)) fNil)))))))))) (fgName 8) (fIfS (fOr (fNot (fB (fMk 0 TP0 q__law_calls 3 2 N__law_calls.length g__law_all_refused l__law_calls (fCons (fVar 2) (fCons (fVar 8) (fCons (fC .non) fNil))) (sC (.str "side") (sV 8 sNil))))) (fNot (fB (fMk 0 TP0 q__law_calls 3 2 N__law_calls.length g__law_all_refused l__law_calls (fCons (fVar 2) (fCons (fVar 8) (fCons (fVar 4) fNil))) (sC (.str "side") (sV 8 sNil)))))) (fRet (fC (.bl false))) fNext))
    (fSeq (fFor (fiAny (fLst (fCons (fC .non) (fCons (fC (.int 7)) (fCons (fCB tupleD (fCons (fVar 4) fNil)) (fCons (fC (.str "01")) (fCons (fOp addD (fVar 4) (fLst (fCons (fC (.int 2)) fNil))) (fCons (fOp addD (fLst (fCons (fC (.bl true)) fNil)) (fVar 4)) (fCons (fOp addD (fOp addD (fSl (fVar 4) fNoPart (fPart (fC (.int 1)))) (fLst (fCons (fC .non) fNil))) (fSl (fVar 4) (fPart (fC (.int 1))) fNoPart)) (fCons (fLst (fCons (fLst (fCons (fC (.int 0)) fNil)) fNil)) (fCons (fC (.dct [])) (fCons (fLst (fCons (fOp subD (fC (.int 0)) (fC (.int 1))) fNil)) fNil)))))))))))) (fgName 8) (fIfS (fNot (fB (fMk 0 TP0 q__law_calls 3 2 N__law_calls.length g__law_all_refused l__law_calls (fCons (fVar 2) (fCons (fVar 3) (fCons (fVar 8) fNil))) (sC (.str "rallies") (sV 8 sNil))))) (fRet (fC (.bl false))) fNext))
    (fSeq (fIfS (fOr (fNot (fB (fMk 0 TP0 q__law_calls 3 2 N__law_calls.length g__law_all_refused l__law_calls (fCons (fTup (fCons (fC (.str "rally")) fNil)) (fCons (fVar 3) (fCons (fLst (fCons (fC (.int 0)) (fCons (fC (.int 1)) (fCons (fC (.int 1)) fNil)))) fNil))) (sC (.str "ended") (sC (.int 1) sNil))))) (fNot (fB (fMk 0 TP0 q__law_calls 3 2 N__law_calls.length g__law_all_refused l__law_calls (fCons (fVar 6) (fCons (fVar 3) (fCons (fOp addD (fLst (fCons (fC (.int 0)) (fCons (fC (.int 0)) fNil))) (fSl (fVar 4) fNoPart (fPart (fC (.int 1))))) fNil))) (sC (.str "ended") (sC (.int 2) sNil)))))) (fRet (fC (.bl false))) fNext)
    (fRet (fOp eqD (fCB reprT (fCons (fLst (fCons (fVar 2) (fCons (fVar 4) fNil))) fNil)) (fVar 5)))))))))))))
def g_law (TP0 : Addr) : GF := bodyD N_law 1 (b_law TP0 g__law_generator (g__law_rule 16) g__law_random g__law_rallies)
end K08

set_option maxHeartbeats 4000000
namespace K08
open PySem PySem.Spec PyProof.Rows L2 DL
def topS (i : Nat) : Stmt := PySem.Challenge.pw_anyserve_k08_play_refused.main.body.getD i (.Pass ⟨0, 0, 0, 0⟩)
def inS : Stmt → Stmt
  | .ClassDef _ _ _ b _ _ _ _ _ _ _ => b.getD 0 (.Pass ⟨0, 0, 0, 0⟩)
  | st => st
abbrev KB : Nat := 37
structure Zc (K : PySem.W.Frag) (mg : Str → Option Value) : Prop where
  b_abs : mg "abs" = none
  b_bool : mg "bool" = none
  b_enumerate : mg "enumerate" = none
  b_int : mg "int" = none
  b_isinstance : mg "isinstance" = none
  b_len : mg "len" = none
  b_list : mg "list" = none
  b_max : mg "max" = none
  b_range : mg "range" = none
  b_repr : mg "repr" = none
  b_sorted : mg "sorted" = none
  b_str : mg "str" = none
  b_sum : mg "sum" = none
  b_tuple : mg "tuple" = none
  c_DEEPEST : GlobC K mg "DEEPEST" c_DEEPEST
  c_ORDERS : GlobC K mg "ORDERS" c_ORDERS
structure Yc (P : Program) (K : PySem.W.Frag) (mg : Str → Option Value) : Prop where
  all : xallB K xsL ysL = true
  m_InvalidRule : mg "InvalidRule" = some (.ref (caK K "InvalidRule"))
  m_InvalidSide : mg "InvalidSide" = some (.ref (caK K "InvalidSide"))
  m_InvalidRallies : mg "InvalidRallies" = some (.ref (caK K "InvalidRallies"))
  m_InvalidChance : mg "InvalidChance" = some (.ref (caK K "InvalidChance"))
  m_InvalidStretch : mg "InvalidStretch" = some (.ref (caK K "InvalidStretch"))
  m_InvalidLine : mg "InvalidLine" = some (.ref (caK K "InvalidLine"))
  m_InvalidPolynomial : mg "InvalidPolynomial" = some (.ref (caK K "InvalidPolynomial"))
  m_Ended : mg "Ended" = some (.ref (caK K "Ended"))
  m_TooMany : mg "TooMany" = some (.ref (caK K "TooMany"))
  m_ScoreError : mg "ScoreError" = some (.ref (caK K "ScoreError"))
  x_InvalidRule : XCls P K mg (caK K) "InvalidRule"
  x_InvalidSide : XCls P K mg (caK K) "InvalidSide"
  x_InvalidRallies : XCls P K mg (caK K) "InvalidRallies"
  x_Ended : XCls P K mg (caK K) "Ended"
section
variable {P : Program} {w : World} {K : PySem.W.Frag} {mg : Str → Option Value} {base : Heap} {k : Nat}
abbrev s_is_whole : Stmt := topS 14
theorem sc_is_whole : FnScope N_is_whole ["value"] (defScope s_is_whole) := ⟨rfl, rfl, rfl, by decide +kernel, rfl, by decide +kernel, by decide +kernel⟩
theorem e_is_whole (z : Zc K mg) (y : Yc P K mg) (T : Std K mg "is_whole" s_is_whole ["value"]) : Def P w K mg base (caK K) "is_whole" ["value"] (k + 1) (bodyT N_is_whole 1 (b_is_whole)) :=
  def_T T sc_is_whole fun f cdv A outer s H E hr hgu tk hp => by
    refine sss_one ?_
    refine ss_ret ?_
    refine se_and ?_ ?_
    · refine se_isi ?_ (by decide) bb_int z.b_int (by rfl) (by rfl) z.b_isinstance
      exact se_var 0
    · refine se_one ?_
      refine se_not ?_
      refine se_isi ?_ (by decide) bb_bool z.b_bool (by rfl) (by rfl) z.b_isinstance
      exact se_var 0

abbrev s_is_count : Stmt := topS 15
theorem sc_is_count : FnScope N_is_count ["value"] (defScope s_is_count) := ⟨rfl, rfl, rfl, by decide +kernel, rfl, by decide +kernel, by decide +kernel⟩
theorem e_is_count {g_is_whole : GF} (z : Zc K mg) (y : Yc P K mg) (T : Std K mg "is_count" s_is_count ["value"]) (D_is_whole : Def P w K mg base (caK K) "is_whole" ["value"] k g_is_whole) : Def P w K mg base (caK K) "is_count" ["value"] (k + 1) (bodyT N_is_count 1 (b_is_count g_is_whole)) :=
  def_T T sc_is_count fun f cdv A outer s H E hr hgu tk hp => by
    refine sss_one ?_
    refine ss_ret ?_
    refine se_and ?_ ?_
    · refine se_callN D_is_whole hr hgu tk (by rfl) ?_
      refine sa_cons ?_ ?_
      · exact se_var 0
      · exact sa_nil
    · refine se_one ?_
      refine se_cmp (opd_ge hr.units0) ?_ ?_ (nomark _)
      · exact se_var 0
      · exact se_int

abbrev s_is_between : Stmt := topS 16
theorem sc_is_between : FnScope N_is_between ["value", "low", "high"] (defScope s_is_between) := ⟨rfl, rfl, rfl, by decide +kernel, rfl, by decide +kernel, by decide +kernel⟩
theorem e_is_between {g_is_whole : GF} (z : Zc K mg) (y : Yc P K mg) (T : Std K mg "is_between" s_is_between ["value", "low", "high"]) (D_is_whole : Def P w K mg base (caK K) "is_whole" ["value"] k g_is_whole) : Def P w K mg base (caK K) "is_between" ["value", "low", "high"] (k + 1) (bodyT N_is_between 3 (b_is_between g_is_whole)) :=
  def_T T sc_is_between fun f cdv A outer s H E hr hgu tk hp => by
    refine sss_one ?_
    refine ss_ret ?_
    refine se_and ?_ ?_
    · refine se_callN D_is_whole hr hgu tk (by rfl) ?_
      refine sa_cons ?_ ?_
      · exact se_var 0
      · exact sa_nil
    · refine se_one ?_
      refine se_chain opd_le opd_le ?_ ?_ ?_
      · exact se_var 1
      · exact se_var 0
      · exact se_var 2

abbrev s_is_side : Stmt := topS 17
theorem sc_is_side : FnScope N_is_side ["value"] (defScope s_is_side) := ⟨rfl, rfl, rfl, by decide +kernel, rfl, by decide +kernel, by decide +kernel⟩
theorem e_is_side {g_is_between : GF} (z : Zc K mg) (y : Yc P K mg) (T : Std K mg "is_side" s_is_side ["value"]) (D_is_between : Def P w K mg base (caK K) "is_between" ["value", "low", "high"] k g_is_between) : Def P w K mg base (caK K) "is_side" ["value"] (k + 1) (bodyT N_is_side 1 (b_is_side g_is_between)) :=
  def_T T sc_is_side fun f cdv A outer s H E hr hgu tk hp => by
    refine sss_one ?_
    refine ss_ret ?_
    refine se_callN D_is_between hr hgu tk (by rfl) ?_
    refine sa_cons ?_ ?_
    · exact se_var 0
    · refine sa_cons ?_ ?_
      · exact se_int
      · refine sa_cons ?_ ?_
        · exact se_int
        · exact sa_nil

abbrev s_are_rallies : Stmt := topS 18
theorem sc_are_rallies : FnScope N_are_rallies ["value"] (defScope s_are_rallies) := ⟨rfl, rfl, rfl, by decide +kernel, rfl, by decide +kernel, by decide +kernel⟩
theorem e_are_rallies {g_is_side : GF} (z : Zc K mg) (y : Yc P K mg) (T : Std K mg "are_rallies" s_are_rallies ["value"]) (D_is_side : Def P w K mg base (caK K) "is_side" ["value"] k g_is_side) : Def P w K mg base (caK K) "are_rallies" ["value"] (k + 1) (bodyT N_are_rallies 1 (b_are_rallies g_is_side)) :=
  def_T T sc_are_rallies fun f cdv A outer s H E hr hgu tk hp => by
    refine sss_one ?_
    refine ss_ret ?_
    refine se_and ?_ ?_
    · refine se_isi ?_ (by decide) bb_list z.b_list (by rfl) (by rfl) z.b_isinstance
      exact se_var 0
    · refine se_one ?_
      refine se_cmp (opd_eq hr.units) ?_ ?_ (nomark _)
      · refine se_lc (own := [("side", 1)]) rfl sc_are_rallies.nd ?_ (blkOk_by (by rfl)) (fun _ _ _ _ _ => ?_) (fun _ _ _ _ _ => ?_) (fun _ _ _ _ _ => ?_)
        · refine si_any ?_
          exact se_var 0
        · exact sgw_name (by decide) sc_are_rallies.nd (i := 1) rfl (by first | exact .inl rfl | exact .inr rfl)
        · refine sts_one ?_
          refine st_not ?_
          refine st_val ?_
          refine se_callN D_is_side ?_ ?_ tk0 (by rfl) ?_
          · exact hr
          · exact hgu
          · refine sa_cons ?_ ?_
            · exact se_var 1
            · exact sa_nil
        · exact se_var 1
      · refine se_lst ?_
        exact sa_nil

abbrev s_is_word : Stmt := topS 19
theorem sc_is_word : FnScope N_is_word ["value", "word"] (defScope s_is_word) := ⟨rfl, rfl, rfl, by decide +kernel, rfl, by decide +kernel, by decide +kernel⟩
theorem e_is_word (z : Zc K mg) (y : Yc P K mg) (T : Std K mg "is_word" s_is_word ["value", "word"]) : Def P w K mg base (caK K) "is_word" ["value", "word"] (k + 1) (bodyT N_is_word 2 (b_is_word)) :=
  def_T T sc_is_word fun f cdv A outer s H E hr hgu tk hp => by
    refine sss_one ?_
    refine ss_ret ?_
    refine se_and ?_ ?_
    · refine se_isi ?_ (by decide) bb_tuple z.b_tuple (by rfl) (by rfl) z.b_isinstance
      exact se_var 0
    · refine se_and ?_ ?_
      · refine se_cmp (opd_eq hr.units) ?_ ?_ (nomark _)
        · refine se_callB cd_len (by rfl) z.b_len bb_len ?_
          refine sa_cons ?_ ?_
          · exact se_var 0
          · exact sa_nil
        · exact se_int
      · refine se_and ?_ ?_
        · refine se_isi ?_ (by decide) bb_str z.b_str (by rfl) (by rfl) z.b_isinstance
          refine se_ix ?_ ?_ (fun _ _ => rfl)
          · exact se_var 0
          · exact se_int
        · refine se_one ?_
          refine se_cmp (opd_eq hr.units) ?_ ?_ (nomark _)
          · refine se_ix ?_ ?_ (fun _ _ => rfl)
            · exact se_var 0
            · exact se_int
          · exact se_var 1

abbrev s_is_order : Stmt := topS 20
theorem sc_is_order : FnScope N_is_order ["value"] (defScope s_is_order) := ⟨rfl, rfl, rfl, by decide +kernel, rfl, by decide +kernel, by decide +kernel⟩
theorem e_is_order {g_is_word g_is_side : GF} (z : Zc K mg) (y : Yc P K mg) (T : Std K mg "is_order" s_is_order ["value"]) (D_is_word : Def P w K mg base (caK K) "is_word" ["value", "word"] k g_is_word) (D_is_side : Def P w K mg base (caK K) "is_side" ["value"] k g_is_side) : Def P w K mg base (caK K) "is_order" ["value"] (k + 1) (bodyT N_is_order 1 (b_is_order g_is_word g_is_side)) :=
  def_T T sc_is_order fun f cdv A outer s H E hr hgu tk hp => by
    refine sss_cons ?_ ?_
    · refine ss_if ?_ ?_ ?_
      · refine st_cmp (opd_ne hr.units) ?_ ?_ (nomark _)
        · refine se_lc (own := [("word", 1)]) rfl sc_is_order.nd ?_ (blkOk_by (by rfl)) (fun _ _ _ _ _ => ?_) (fun _ _ _ _ _ => ?_) (fun _ _ _ _ _ => ?_)
          · refine si_any ?_
            exact se_gc (by rfl) z.c_ORDERS
          · exact sgw_name (by decide) sc_is_order.nd (i := 1) rfl (by first | exact .inl rfl | exact .inr rfl)
          · refine sts_one ?_
            refine st_val ?_
            refine se_callN D_is_word ?_ ?_ tk0 (by rfl) ?_
            · exact hr
            · exact hgu
            · refine sa_cons ?_ ?_
              · exact se_var 0
              · refine sa_cons ?_ ?_
                · exact se_var 1
                · exact sa_nil
          · exact se_var 1
        · refine se_lst ?_
          exact sa_nil
      · refine sss_one ?_
        refine ss_ret ?_
        exact se_bl
      · exact sss_nil
    · refine sss_cons ?_ ?_
      · refine ss_if ?_ ?_ ?_
        · refine SW.st ?_
          refine sw_or ?_ ?_
          · refine st_not ?_
            refine st_val ?_
            refine se_isi ?_ (by decide) bb_tuple z.b_tuple (by rfl) (by rfl) z.b_isinstance
            exact se_var 0
          · refine sw_or ?_ ?_
            · refine st_cmp (opd_ne hr.units) ?_ ?_ (nomark _)
              · refine se_callB cd_len (by rfl) z.b_len bb_len ?_
                refine sa_cons ?_ ?_
                · exact se_var 0
                · exact sa_nil
              · exact se_int
            · refine sw_or ?_ ?_
              · refine st_not ?_
                refine st_val ?_
                refine se_isi ?_ (by decide) bb_str z.b_str (by rfl) (by rfl) z.b_isinstance
                refine se_ix ?_ ?_ (fun _ _ => rfl)
                · exact se_var 0
                · exact se_int
              · refine sw_or1 ?_
                refine st_cmp (opd_ne hr.units) ?_ ?_ (nomark _)
                · refine se_ix ?_ ?_ (fun _ _ => rfl)
                  · exact se_var 0
                  · exact se_int
                · exact se_str
        · refine sss_one ?_
          refine ss_ret ?_
          exact se_bl
        · exact sss_nil
      · refine sss_cons ?_ ?_
        · refine ss_if ?_ ?_ ?_
          · refine SW.st ?_
            refine sw_or ?_ ?_
            · refine st_not ?_
              refine st_val ?_
              refine se_isi ?_ (by decide) bb_list z.b_list (by rfl) (by rfl) z.b_isinstance
              refine se_ix ?_ ?_ (fun _ _ => rfl)
              · exact se_var 0
              · exact se_int
            · refine sw_or1 ?_
              refine st_not ?_
              refine st_chain opd_le opd_le ?_ ?_ ?_
              · exact se_int
              · refine se_callB cd_len (by rfl) z.b_len bb_len ?_
                refine sa_cons ?_ ?_
                · refine se_ix ?_ ?_ (fun _ _ => rfl)
                  · exact se_var 0
                  · exact se_int
                · exact sa_nil
              · exact se_int
          · refine sss_one ?_
            refine ss_ret ?_
            exact se_bl
          · exact sss_nil
        · refine sss_one ?_
          refine ss_ret ?_
          refine se_cmp (opd_eq hr.units) ?_ ?_ (nomark _)
          · refine se_lc (own := [("mark", 2)]) rfl sc_is_order.nd ?_ (blkOk_by (by rfl)) (fun _ _ _ _ _ => ?_) (fun _ _ _ _ _ => ?_) (fun _ _ _ _ _ => ?_)
            · refine si_any ?_
              refine se_ix ?_ ?_ (fun _ _ => rfl)
              · exact se_var 0
              · exact se_int
            · exact sgw_name (by decide) sc_is_order.nd (i := 2) rfl (by first | exact .inl rfl | exact .inr rfl)
            · refine sts_one ?_
              refine st_not ?_
              refine st_val ?_
              refine se_callN D_is_side ?_ ?_ tk0 (by rfl) ?_
              · exact hr
              · exact hgu
              · refine sa_cons ?_ ?_
                · exact se_var 2
                · exact sa_nil
            · exact se_var 2
          · refine se_lst ?_
            exact sa_nil

abbrev s_are_numbers_of_race : Stmt := topS 21
theorem sc_are_numbers_of_race : FnScope N_are_numbers_of_race ["need", "lead", "cap"] (defScope s_are_numbers_of_race) := ⟨rfl, rfl, rfl, by decide +kernel, rfl, by decide +kernel, by decide +kernel⟩
theorem e_are_numbers_of_race {g_is_between : GF} (z : Zc K mg) (y : Yc P K mg) (T : Std K mg "are_numbers_of_race" s_are_numbers_of_race ["need", "lead", "cap"]) (D_is_between : Def P w K mg base (caK K) "is_between" ["value", "low", "high"] k g_is_between) : Def P w K mg base (caK K) "are_numbers_of_race" ["need", "lead", "cap"] (k + 1) (bodyT N_are_numbers_of_race 3 (b_are_numbers_of_race g_is_between)) :=
  def_T T sc_are_numbers_of_race fun f cdv A outer s H E hr hgu tk hp => by
    refine sss_cons ?_ ?_
    · refine ss_if ?_ ?_ ?_
      · refine SW.st ?_
        refine sw_or ?_ ?_
        · refine st_not ?_
          refine st_val ?_
          refine se_callN D_is_between hr hgu tk (by rfl) ?_
          refine sa_cons ?_ ?_
          · exact se_var 0
          · refine sa_cons ?_ ?_
            · exact se_int
            · refine sa_cons ?_ ?_
              · exact se_int
              · exact sa_nil
        · refine sw_or1 ?_
          refine st_not ?_
          refine st_val ?_
          refine se_callN D_is_between hr hgu tk (by rfl) ?_
          refine sa_cons ?_ ?_
          · exact se_var 1
          · refine sa_cons ?_ ?_
            · exact se_int
            · refine sa_cons ?_ ?_
              · exact se_int
              · exact sa_nil
      · refine sss_one ?_
        refine ss_ret ?_
        exact se_bl
      · exact sss_nil
    · refine sss_one ?_
      refine ss_ret ?_
      refine se_or ?_ ?_
      · refine se_cmp opd_is ?_ ?_ (nomark _)
        · exact se_var 2
        · exact se_non
      · refine se_one ?_
        refine se_callN D_is_between hr hgu tk (by rfl) ?_
        refine sa_cons ?_ ?_
        · exact se_var 2
        · refine sa_cons ?_ ?_
          · exact se_var 0
          · refine sa_cons ?_ ?_
            · exact se_int
            · exact sa_nil

abbrev s_is_score : Stmt := topS 22
theorem sc_is_score : FnScope N_is_score ["value"] (defScope s_is_score) := ⟨rfl, rfl, rfl, by decide +kernel, rfl, by decide +kernel, by decide +kernel⟩
theorem e_is_score {g_is_count : GF} (z : Zc K mg) (y : Yc P K mg) (T : Std K mg "is_score" s_is_score ["value"]) (D_is_count : Def P w K mg base (caK K) "is_count" ["value"] k g_is_count) : Def P w K mg base (caK K) "is_score" ["value"] (k + 1) (bodyT N_is_score 1 (b_is_score g_is_count)) :=
  def_T T sc_is_score fun f cdv A outer s H E hr hgu tk hp => by
    refine sss_one ?_
    refine ss_ret ?_
    refine se_and ?_ ?_
    · refine se_isi ?_ (by decide) bb_tuple z.b_tuple (by rfl) (by rfl) z.b_isinstance
      exact se_var 0
    · refine se_and ?_ ?_
      · refine se_cmp (opd_eq hr.units) ?_ ?_ (nomark _)
        · refine se_callB cd_len (by rfl) z.b_len bb_len ?_
          refine sa_cons ?_ ?_
          · exact se_var 0
          · exact sa_nil
        · exact se_int
      · refine se_and ?_ ?_
        · refine se_callN D_is_count hr hgu tk (by rfl) ?_
          refine sa_cons ?_ ?_
          · refine se_ix ?_ ?_ (fun _ _ => rfl)
            · exact se_var 0
            · exact se_int
          · exact sa_nil
        · refine se_one ?_
          refine se_callN D_is_count hr hgu tk (by rfl) ?_
          refine sa_cons ?_ ?_
          · refine se_ix ?_ ?_ (fun _ _ => rfl)
            · exact se_var 0
            · exact se_int
          · exact sa_nil

abbrev s_is_special : Stmt := topS 23
theorem sc_is_special : FnScope N_is_special ["value", "deep"] (defScope s_is_special) := ⟨rfl, rfl, rfl, by decide +kernel, rfl, by decide +kernel, by decide +kernel⟩
theorem e_is_special {g_is_score g_is_rule_within : GF} (z : Zc K mg) (y : Yc P K mg) (T : Std K mg "is_special" s_is_special ["value", "deep"]) (D_is_score : Def P w K mg base (caK K) "is_score" ["value"] k g_is_score) (D_is_rule_within : Def P w K mg base (caK K) "is_rule_within" ["value", "deep"] k g_is_rule_within) : Def P w K mg base (caK K) "is_special" ["value", "deep"] (k + 1) (bodyT N_is_special 2 (b_is_special g_is_score g_is_rule_within)) :=
  def_T T sc_is_special fun f cdv A outer s H E hr hgu tk hp => by
    refine sss_cons ?_ ?_
    · refine ss_if ?_ ?_ ?_
      · refine SW.st ?_
        refine sw_or ?_ ?_
        · refine st_not ?_
          refine st_val ?_
          refine se_isi ?_ (by decide) bb_tuple z.b_tuple (by rfl) (by rfl) z.b_isinstance
          exact se_var 0
        · refine sw_or ?_ ?_
          · refine st_cmp (opd_ne hr.units) ?_ ?_ (nomark _)
            · refine se_callB cd_len (by rfl) z.b_len bb_len ?_
              refine sa_cons ?_ ?_
              · exact se_var 0
              · exact sa_nil
            · exact se_int
          · refine sw_or ?_ ?_
            · refine st_not ?_
              refine st_val ?_
              refine se_callN D_is_score hr hgu tk (by rfl) ?_
              refine sa_cons ?_ ?_
              · refine se_ix ?_ ?_ (fun _ _ => rfl)
                · exact se_var 0
                · exact se_int
              · exact sa_nil
            · refine sw_or1 ?_
              refine st_cmp opd_gt ?_ ?_ (nomark _)
              · refine se_callB (cd_maxT rfl (hu1 hr)) (by rfl) z.b_max bb_max ?_
                refine sa_cons ?_ ?_
                · refine se_ix ?_ ?_ (fun _ _ => rfl)
                  · exact se_var 0
                  · exact se_int
                · exact sa_nil
              · exact se_int
      · refine sss_one ?_
        refine ss_ret ?_
        exact se_bl
      · exact sss_nil
    · refine sss_one ?_
      refine ss_ret ?_
      refine se_callN D_is_rule_within hr hgu tk (by rfl) ?_
      refine sa_cons ?_ ?_
      · refine se_ix ?_ ?_ (fun _ _ => rfl)
        · exact se_var 0
        · exact se_int
      · refine sa_cons ?_ ?_
        · exact se_var 1
        · exact sa_nil

abbrev s_are_specials : Stmt := topS 24
theorem sc_are_specials : FnScope N_are_specials ["value", "deep"] (defScope s_are_specials) := ⟨rfl, rfl, rfl, by decide +kernel, rfl, by decide +kernel, by decide +kernel⟩
theorem e_are_specials {g_is_special : GF} (z : Zc K mg) (y : Yc P K mg) (T : Std K mg "are_specials" s_are_specials ["value", "deep"]) (D_is_special : Def P w K mg base (caK K) "is_special" ["value", "deep"] k g_is_special) : Def P w K mg base (caK K) "are_specials" ["value", "deep"] (k + 1) (bodyT N_are_specials 2 (b_are_specials g_is_special)) :=
  def_T T sc_are_specials fun f cdv A outer s H E hr hgu tk hp => by
    refine sss_cons ?_ ?_
    · refine ss_if ?_ ?_ ?_
      · refine SW.st ?_
        refine sw_or ?_ ?_
        · refine st_not ?_
          refine st_val ?_
          refine se_isi ?_ (by decide) bb_list z.b_list (by rfl) (by rfl) z.b_isinstance
          exact se_var 0
        · refine sw_or ?_ ?_
          · refine st_cmp opd_gt ?_ ?_ (nomark _)
            · refine se_callB cd_len (by rfl) z.b_len bb_len ?_
              refine sa_cons ?_ ?_
              · exact se_var 0
              · exact sa_nil
            · exact se_int
          · refine sw_or1 ?_
            refine st_cmp (opd_ne hr.units) ?_ ?_ (nomark _)
            · refine se_lc (own := [("one", 2)]) rfl sc_are_specials.nd ?_ (blkOk_by (by rfl)) (fun _ _ _ _ _ => ?_) (fun _ _ _ _ _ => ?_) (fun _ _ _ _ _ => ?_)
              · refine si_any ?_
                exact se_var 0
              · exact sgw_name (by decide) sc_are_specials.nd (i := 2) rfl (by first | exact .inl rfl | exact .inr rfl)
              · refine sts_one ?_
                refine st_not ?_
                refine st_val ?_
                refine se_callN D_is_special ?_ ?_ tk0 (by rfl) ?_
                · exact hr
                · exact hgu
                · refine sa_cons ?_ ?_
                  · exact se_var 2
                  · refine sa_cons ?_ ?_
                    · exact se_var 1
                    · exact sa_nil
              · exact se_var 2
            · refine se_lst ?_
              exact sa_nil
      · refine sss_one ?_
        refine ss_ret ?_
        exact se_bl
      · exact sss_nil
    · refine sss_one ?_
      refine ss_ret ?_
      refine se_cmp (opd_eq hr.units) ?_ ?_ (nomark _)
      · refine se_lc (own := [("at", 3)]) rfl sc_are_specials.nd ?_ (blkOk_by (by rfl)) (fun _ _ _ _ _ => ?_) (fun _ _ _ _ _ => ?_) (fun _ _ _ _ _ => ?_)
        · refine si_range2 (by rfl) z.b_range ?_
          refine sa_cons ?_ ?_
          · exact se_int
          · refine sa_cons ?_ ?_
            · refine se_callB cd_len (by rfl) z.b_len bb_len ?_
              refine sa_cons ?_ ?_
              · exact se_var 0
              · exact sa_nil
            · exact sa_nil
        · exact sgw_name (by decide) sc_are_specials.nd (i := 3) rfl (by first | exact .inl rfl | exact .inr rfl)
        · refine sts_one ?_
          refine st_cmp (opd_ge ?_) ?_ ?_ (nomark _)
          · exact hr.units0
          · refine se_ix ?_ ?_ (fun _ _ => rfl)
            · refine se_ix ?_ ?_ (fun _ _ => rfl)
              · exact se_var 0
              · refine se_op opd_sub ?_ ?_
                · exact se_var 3
                · exact se_int
            · exact se_int
          · refine se_ix ?_ ?_ (fun _ _ => rfl)
            · refine se_ix ?_ ?_ (fun _ _ => rfl)
              · exact se_var 0
              · exact se_var 3
            · exact se_int
        · exact se_var 3
      · refine se_lst ?_
        exact sa_nil

abbrev s_is_rule_within : Stmt := topS 25
theorem sc_is_rule_within : FnScope N_is_rule_within ["value", "deep"] (defScope s_is_rule_within) := ⟨rfl, rfl, rfl, by decide +kernel, rfl, by decide +kernel, by decide +kernel⟩
theorem e_is_rule_within {g_is_word g_are_numbers_of_race g_is_order g_is_rule_within g_are_specials : GF} (z : Zc K mg) (y : Yc P K mg) (T : Std K mg "is_rule_within" s_is_rule_within ["value", "deep"]) (D_is_word : Def P w K mg base (caK K) "is_word" ["value", "word"] k g_is_word) (D_are_numbers_of_race : Def P w K mg base (caK K) "are_numbers_of_race" ["need", "lead", "cap"] k g_are_numbers_of_race) (D_is_order : Def P w K mg base (caK K) "is_order" ["value"] k g_is_order) (D_is_rule_within : Def P w K mg base (caK K) "is_rule_within" ["value", "deep"] k g_is_rule_within) (D_are_specials : Def P w K mg base (caK K) "are_specials" ["value", "deep"] k g_are_specials) : Def P w K mg base (caK K) "is_rule_within" ["value", "deep"] (k + 1) (bodyT N_is_rule_within 2 (b_is_rule_within g_is_word g_are_numbers_of_race g_is_order g_is_rule_within g_are_specials)) :=
  def_T T sc_is_rule_within fun f cdv A outer s H E hr hgu tk hp => by
    refine sss_cons ?_ ?_
    · refine ss_if ?_ ?_ ?_
      · refine SW.st ?_
        refine sw_or ?_ ?_
        · refine st_val ?_
          refine se_callN D_is_word hr hgu tk (by rfl) ?_
          refine sa_cons ?_ ?_
          · exact se_var 0
          · refine sa_cons ?_ ?_
            · exact se_str
            · exact sa_nil
        · refine sw_or1 ?_
          refine st_val ?_
          refine se_callN D_is_word hr hgu tk (by rfl) ?_
          refine sa_cons ?_ ?_
          · exact se_var 0
          · refine sa_cons ?_ ?_
            · exact se_str
            · exact sa_nil
      · refine sss_one ?_
        refine ss_ret ?_
        exact se_bl
      · exact sss_nil
    · refine sss_cons ?_ ?_
      · refine ss_if ?_ ?_ ?_
        · refine SW.st ?_
          refine sw_or ?_ ?_
          · refine st_cmp (opd_eq hr.units) ?_ ?_ (nomark _)
            · exact se_var 1
            · exact se_int
          · refine sw_or ?_ ?_
            · refine st_not ?_
              refine st_val ?_
              refine se_isi ?_ (by decide) bb_tuple z.b_tuple (by rfl) (by rfl) z.b_isinstance
              exact se_var 0
            · refine sw_or ?_ ?_
              · refine st_cmp (opd_ne hr.units) ?_ ?_ (nomark _)
                · refine se_callB cd_len (by rfl) z.b_len bb_len ?_
                  refine sa_cons ?_ ?_
                  · exact se_var 0
                  · exact sa_nil
                · exact se_int
              · refine sw_or1 ?_
                refine st_not ?_
                refine st_val ?_
                refine se_isi ?_ (by decide) bb_str z.b_str (by rfl) (by rfl) z.b_isinstance
                refine se_ix ?_ ?_ (fun _ _ => rfl)
                · exact se_var 0
                · exact se_int
        · refine sss_one ?_
          refine ss_ret ?_
          exact se_bl
        · exact sss_nil
      · refine sss_cons ?_ ?_
        · refine ss_asg ?_ ?_
          · exact se_var 0
          · refine sg_tup rfl ?_
            refine sgs_cons ?_ ?_
            · exact sg_name sc_is_rule_within.nd (i := 2) rfl (by first | exact .inl rfl | exact .inr rfl)
            · refine sgs_cons ?_ ?_
              · exact sg_name sc_is_rule_within.nd (i := 3) rfl (by first | exact .inl rfl | exact .inr rfl)
              · refine sgs_cons ?_ ?_
                · exact sg_name sc_is_rule_within.nd (i := 4) rfl (by first | exact .inl rfl | exact .inr rfl)
                · refine sgs_cons ?_ ?_
                  · exact sg_name sc_is_rule_within.nd (i := 5) rfl (by first | exact .inl rfl | exact .inr rfl)
                  · refine sgs_cons ?_ ?_
                    · exact sg_name sc_is_rule_within.nd (i := 6) rfl (by first | exact .inl rfl | exact .inr rfl)
                    · refine sgs_cons ?_ ?_
                      · exact sg_name sc_is_rule_within.nd (i := 7) rfl (by first | exact .inl rfl | exact .inr rfl)
                      · refine sgs_cons ?_ sgs_nil
                        exact sg_name sc_is_rule_within.nd (i := 8) rfl (by first | exact .inl rfl | exact .inr rfl)
        · refine sss_cons ?_ ?_
          · refine ss_if ?_ ?_ ?_
            · refine SW.st ?_
              refine sw_or ?_ ?_
              · refine st_cmp (opd_ne hr.units) ?_ ?_ (nomark _)
                · exact se_var 2
                · exact se_str
              · refine sw_or ?_ ?_
                · refine st_not ?_
                  refine st_val ?_
                  refine se_callN D_are_numbers_of_race hr hgu tk (by rfl) ?_
                  refine sa_cons ?_ ?_
                  · exact se_var 3
                  · refine sa_cons ?_ ?_
                    · exact se_var 4
                    · refine sa_cons ?_ ?_
                      · exact se_var 5
                      · exact sa_nil
                · refine sw_or1 ?_
                  refine st_not ?_
                  refine st_val ?_
                  refine se_callN D_is_order hr hgu tk (by rfl) ?_
                  refine sa_cons ?_ ?_
                  · exact se_var 6
                  · exact sa_nil
            · refine sss_one ?_
              refine ss_ret ?_
              exact se_bl
            · exact sss_nil
          · refine sss_one ?_
            refine ss_ret ?_
            refine se_and ?_ ?_
            · refine se_callN D_is_rule_within hr hgu tk (by rfl) ?_
              refine sa_cons ?_ ?_
              · exact se_var 7
              · refine sa_cons ?_ ?_
                · refine se_op opd_sub ?_ ?_
                  · exact se_var 1
                  · exact se_int
                · exact sa_nil
            · refine se_one ?_
              refine se_callN D_are_specials hr hgu tk (by rfl) ?_
              refine sa_cons ?_ ?_
              · exact se_var 8
              · refine sa_cons ?_ ?_
                · refine se_op opd_sub ?_ ?_
                  · exact se_var 1
                  · exact se_int
                · exact sa_nil

abbrev s_is_rule : Stmt := topS 26
theorem sc_is_rule : FnScope N_is_rule ["value"] (defScope s_is_rule) := ⟨rfl, rfl, rfl, by decide +kernel, rfl, by decide +kernel, by decide +kernel⟩
theorem e_is_rule {g_is_rule_within : GF} (z : Zc K mg) (y : Yc P K mg) (T : Std K mg "is_rule" s_is_rule ["value"]) (D_is_rule_within : Def P w K mg base (caK K) "is_rule_within" ["value", "deep"] k g_is_rule_within) : Def P w K mg base (caK K) "is_rule" ["value"] (k + 1) (bodyT N_is_rule 1 (b_is_rule g_is_rule_within)) :=
  def_T T sc_is_rule fun f cdv A outer s H E hr hgu tk hp => by
    refine sss_one ?_
    refine ss_ret ?_
    refine se_callN D_is_rule_within hr hgu tk (by rfl) ?_
    refine sa_cons ?_ ?_
    · exact se_var 0
    · refine sa_cons ?_ ?_
      · exact se_gc (by rfl) z.c_DEEPEST
      · exact sa_nil

abbrev s_check_rule : Stmt := topS 27
theorem sc_check_rule : FnScope N_check_rule ["rule"] (defScope s_check_rule) := ⟨rfl, rfl, rfl, by decide +kernel, rfl, by decide +kernel, by decide +kernel⟩
theorem e_check_rule {g_is_rule : GF} (z : Zc K mg) (y : Yc P K mg) (T : Std K mg "check_rule" s_check_rule ["rule"]) (hk : 2 ≤ k) (D_is_rule : Def P w K mg base (caK K) "is_rule" ["value"] k g_is_rule) : Def P w K mg base (caK K) "check_rule" ["rule"] (k + 1) (bodyT N_check_rule 1 (b_check_rule g_is_rule)) :=
  def_T T sc_check_rule fun f cdv A outer s H E hr hgu tk hp => by
    refine sss_one ?_
    refine ss_if ?_ ?_ ?_
    · refine st_not ?_
      refine st_val ?_
      refine se_callN D_is_rule hr hgu tk (by rfl) ?_
      refine sa_cons ?_ ?_
      · exact se_var 0
      · exact sa_nil
    · refine sss_one ?_
      refine ss_raise y.x_InvalidRule (room_two hk hr) tk rfl (by rfl) ?_
      exact se_var 0
    · exact sss_nil

abbrev s_check_side : Stmt := topS 28
theorem sc_check_side : FnScope N_check_side ["side"] (defScope s_check_side) := ⟨rfl, rfl, rfl, by decide +kernel, rfl, by decide +kernel, by decide +kernel⟩
theorem e_check_side {g_is_side : GF} (z : Zc K mg) (y : Yc P K mg) (T : Std K mg "check_side" s_check_side ["side"]) (hk : 2 ≤ k) (D_is_side : Def P w K mg base (caK K) "is_side" ["value"] k g_is_side) : Def P w K mg base (caK K) "check_side" ["side"] (k + 1) (bodyT N_check_side 1 (b_check_side g_is_side)) :=
  def_T T sc_check_side fun f cdv A outer s H E hr hgu tk hp => by
    refine sss_one ?_
    refine ss_if ?_ ?_ ?_
    · refine st_not ?_
      refine st_val ?_
      refine se_callN D_is_side hr hgu tk (by rfl) ?_
      refine sa_cons ?_ ?_
      · exact se_var 0
      · exact sa_nil
    · refine sss_one ?_
      refine ss_raise y.x_InvalidSide (room_two hk hr) tk rfl (by rfl) ?_
      exact se_var 0
    · exact sss_nil

abbrev s_check_rallies : Stmt := topS 29
theorem sc_check_rallies : FnScope N_check_rallies ["rallies"] (defScope s_check_rallies) := ⟨rfl, rfl, rfl, by decide +kernel, rfl, by decide +kernel, by decide +kernel⟩
theorem e_check_rallies {g_are_rallies : GF} (z : Zc K mg) (y : Yc P K mg) (T : Std K mg "check_rallies" s_check_rallies ["rallies"]) (hk : 2 ≤ k) (D_are_rallies : Def P w K mg base (caK K) "are_rallies" ["value"] k g_are_rallies) : Def P w K mg base (caK K) "check_rallies" ["rallies"] (k + 1) (bodyT N_check_rallies 1 (b_check_rallies g_are_rallies)) :=
  def_T T sc_check_rallies fun f cdv A outer s H E hr hgu tk hp => by
    refine sss_one ?_
    refine ss_if ?_ ?_ ?_
    · refine st_not ?_
      refine st_val ?_
      refine se_callN D_are_rallies hr hgu tk (by rfl) ?_
      refine sa_cons ?_ ?_
      · exact se_var 0
      · exact sa_nil
    · refine sss_one ?_
      refine ss_raise y.x_InvalidRallies (room_two hk hr) tk rfl (by rfl) ?_
      exact se_var 0
    · exact sss_nil

abbrev s_unit_of : Stmt := topS 31
theorem sc_unit_of : FnScope N_unit_of ["rule", "score"] (defScope s_unit_of) := ⟨rfl, rfl, rfl, by decide +kernel, rfl, by decide +kernel, by decide +kernel⟩
theorem e_unit_of (z : Zc K mg) (y : Yc P K mg) (T : Std K mg "unit_of" s_unit_of ["rule", "score"]) : Def P w K mg base (caK K) "unit_of" ["rule", "score"] (k + 1) (bodyT N_unit_of 2 (b_unit_of)) :=
  def_T T sc_unit_of fun f cdv A outer s H E hr hgu tk hp => by
    refine sss_cons ?_ ?_
    · refine ss_for hp rfl ?_ ?_ ?_
      · refine si_any ?_
        refine se_ix ?_ ?_ (fun _ _ => rfl)
        · exact se_var 0
        · exact se_int
      · refine sg_tup rfl ?_
        refine sgs_cons ?_ ?_
        · exact sg_name sc_unit_of.nd (i := 2) rfl (by first | exact .inl rfl | exact .inr rfl)
        · refine sgs_cons ?_ sgs_nil
          exact sg_name sc_unit_of.nd (i := 3) rfl (by first | exact .inl rfl | exact .inr rfl)
      · refine sss_one ?_
        refine ss_if ?_ ?_ ?_
        · refine st_cmp (opd_eq hr.units) ?_ ?_ (nomark _)
          · exact se_var 2
          · exact se_var 1
        · refine sss_one ?_
          refine ss_ret ?_
          exact se_var 3
        · exact sss_nil
    · refine sss_one ?_
      refine ss_ret ?_
      refine se_ix ?_ ?_ (fun _ _ => rfl)
      · exact se_var 0
      · exact se_int

abbrev s_begun : Stmt := topS 32
theorem sc_begun : FnScope N_begun ["rule", "side"] (defScope s_begun) := ⟨rfl, rfl, rfl, by decide +kernel, rfl, by decide +kernel, by decide +kernel⟩
theorem e_begun {g_begun g_unit_of : GF} (z : Zc K mg) (y : Yc P K mg) (T : Std K mg "begun" s_begun ["rule", "side"]) (D_begun : Def P w K mg base (caK K) "begun" ["rule", "side"] k g_begun) (D_unit_of : Def P w K mg base (caK K) "unit_of" ["rule", "score"] k g_unit_of) : Def P w K mg base (caK K) "begun" ["rule", "side"] (k + 1) (bodyT N_begun 2 (b_begun g_begun g_unit_of)) :=
  def_T T sc_begun fun f cdv A outer s H E hr hgu tk hp => by
    refine sss_cons ?_ ?_
    · refine ss_if ?_ ?_ ?_
      · refine st_cmp (opd_ne hr.units) ?_ ?_ (nomark _)
        · refine se_ix ?_ ?_ (fun _ _ => rfl)
          · exact se_var 0
          · exact se_int
        · exact se_str
      · refine sss_one ?_
        refine ss_ret ?_
        refine se_tup ?_
        refine sa_cons ?_ ?_
        · exact se_var 1
        · exact sa_nil
      · exact sss_nil
    · refine sss_cons ?_ ?_
      · refine ss_set (i := 2) sc_begun.nd rfl (by first | exact .inl rfl | exact .inr rfl) ?_
        exact se_var 1
      · refine sss_cons ?_ ?_
        · refine ss_if ?_ ?_ ?_
          · refine SW.st ?_
            refine sw_and ?_ ?_
            · refine st_cmp (opd_eq hr.units) ?_ ?_ (nomark _)
              · refine se_ix ?_ ?_ (fun _ _ => rfl)
                · refine se_ix ?_ ?_ (fun _ _ => rfl)
                  · exact se_var 0
                  · exact se_int
                · exact se_int
              · exact se_str
            · refine sw_and1 ?_
              refine st_cmp (opd_eq hr.units) ?_ ?_ (nomark _)
              · refine se_ix ?_ ?_ (fun _ _ => rfl)
                · refine se_ix ?_ ?_ (fun _ _ => rfl)
                  · refine se_ix ?_ ?_ (fun _ _ => rfl)
                    · exact se_var 0
                    · exact se_int
                  · exact se_int
                · exact se_int
              · exact se_int
          · refine sss_one ?_
            refine ss_set (i := 2) sc_begun.nd rfl (by first | exact .inl rfl | exact .inr rfl) ?_
            refine se_op opd_sub ?_ ?_
            · exact se_int
            · exact se_var 1
          · exact sss_nil
        · refine sss_one ?_
          refine ss_ret ?_
          refine se_tup ?_
          refine sa_cons ?_ ?_
          · exact se_int
          · refine sa_cons ?_ ?_
            · exact se_int
            · refine sa_cons ?_ ?_
              · exact se_var 1
              · refine sa_cons ?_ ?_
                · exact se_var 2
                · refine sa_cons ?_ ?_
                  · refine se_callN D_begun hr hgu tk (by rfl) ?_
                    refine sa_cons ?_ ?_
                    · refine se_callN D_unit_of hr hgu tk (by rfl) ?_
                      refine sa_cons ?_ ?_
                      · exact se_var 0
                      · refine sa_cons ?_ ?_
                        · refine se_tup ?_
                          refine sa_cons ?_ ?_
                          · exact se_int
                          · refine sa_cons ?_ ?_
                            · exact se_int
                            · exact sa_nil
                        · exact sa_nil
                    · refine sa_cons ?_ ?_
                      · exact se_var 2
                      · exact sa_nil
                  · exact sa_nil

abbrev s_is_won : Stmt := topS 33
theorem sc_is_won : FnScope N_is_won ["rule", "score"] (defScope s_is_won) := ⟨rfl, rfl, rfl, by decide +kernel, rfl, by decide +kernel, by decide +kernel⟩
theorem e_is_won (z : Zc K mg) (y : Yc P K mg) (T : Std K mg "is_won" s_is_won ["rule", "score"]) : Def P w K mg base (caK K) "is_won" ["rule", "score"] (k + 1) (bodyT N_is_won 2 (b_is_won)) :=
  def_T T sc_is_won fun f cdv A outer s H E hr hgu tk hp => by
    refine sss_cons ?_ ?_
    · refine ss_asg ?_ ?_
      · refine se_slice ?_ ?_ ?_
        · exact se_var 0
        · refine so_some ?_
          exact se_int
        · refine so_some ?_
          exact se_int
      · refine sg_tup rfl ?_
        refine sgs_cons ?_ ?_
        · exact sg_name sc_is_won.nd (i := 2) rfl (by first | exact .inl rfl | exact .inr rfl)
        · refine sgs_cons ?_ ?_
          · exact sg_name sc_is_won.nd (i := 3) rfl (by first | exact .inl rfl | exact .inr rfl)
          · refine sgs_cons ?_ sgs_nil
            exact sg_name sc_is_won.nd (i := 4) rfl (by first | exact .inl rfl | exact .inr rfl)
    · refine sss_cons ?_ ?_
      · refine ss_if ?_ ?_ ?_
        · refine SW.st ?_
          refine sw_and ?_ ?_
          · refine st_cmp opd_isnot ?_ ?_ (nomark _)
            · exact se_var 4
            · exact se_non
          · refine sw_and1 ?_
            refine st_cmp (opd_ge hr.units0) ?_ ?_ (nomark _)
            · refine se_callB (cd_maxT rfl (hu1 hr)) (by rfl) z.b_max bb_max ?_
              refine sa_cons ?_ ?_
              · exact se_var 1
              · exact sa_nil
            · exact se_var 4
        · refine sss_one ?_
          refine ss_ret ?_
          exact se_bl
        · exact sss_nil
      · refine sss_one ?_
        refine ss_ret ?_
        refine se_and ?_ ?_
        · refine se_cmp (opd_ge hr.units0) ?_ ?_ (nomark _)
          · refine se_callB (cd_maxT rfl (hu1 hr)) (by rfl) z.b_max bb_max ?_
            refine sa_cons ?_ ?_
            · exact se_var 1
            · exact sa_nil
          · exact se_var 2
        · refine se_one ?_
          refine se_cmp (opd_ge hr.units0) ?_ ?_ (nomark _)
          · refine se_callB cd_abs (by rfl) z.b_abs bb_abs ?_
            refine sa_cons ?_ ?_
            · refine se_op opd_sub ?_ ?_
              · refine se_ix ?_ ?_ (fun _ _ => rfl)
                · exact se_var 1
                · exact se_int
              · refine se_ix ?_ ?_ (fun _ _ => rfl)
                · exact se_var 1
                · exact se_int
            · exact sa_nil
          · exact se_var 3

abbrev s_next_turn : Stmt := topS 34
theorem sc_next_turn : FnScope N_next_turn ["rule", "state", "score", "winner", "hands"] (defScope s_next_turn) := ⟨rfl, rfl, rfl, by decide +kernel, rfl, by decide +kernel, by decide +kernel⟩
theorem e_next_turn (z : Zc K mg) (y : Yc P K mg) (T : Std K mg "next_turn" s_next_turn ["rule", "state", "score", "winner", "hands"]) : Def P w K mg base (caK K) "next_turn" ["rule", "state", "score", "winner", "hands"] (k + 1) (bodyT N_next_turn 5 (b_next_turn)) :=
  def_T T sc_next_turn fun f cdv A outer s H E hr hgu tk hp => by
    refine sss_cons ?_ ?_
    · refine ss_set (i := 5) sc_next_turn.nd rfl (by first | exact .inl rfl | exact .inr rfl) ?_
      refine se_ix ?_ ?_ (fun _ _ => rfl)
      · refine se_ix ?_ ?_ (fun _ _ => rfl)
        · exact se_var 0
        · exact se_int
      · exact se_int
    · refine sss_cons ?_ ?_
      · refine ss_if ?_ ?_ ?_
        · refine st_cmp (opd_eq hr.units) ?_ ?_ (nomark _)
          · exact se_var 5
          · exact se_str
        · refine sss_one ?_
          refine ss_ret ?_
          exact se_var 4
        · exact sss_nil
      · refine sss_cons ?_ ?_
        · refine ss_if ?_ ?_ ?_
          · refine st_cmp (opd_eq hr.units) ?_ ?_ (nomark _)
            · exact se_var 5
            · exact se_str
          · refine sss_one ?_
            refine ss_ret ?_
            refine se_op opd_sub ?_ ?_
            · exact se_int
            · refine se_ix ?_ ?_ (fun _ _ => rfl)
              · exact se_var 1
              · exact se_int
          · exact sss_nil
        · refine sss_cons ?_ ?_
          · refine ss_if ?_ ?_ ?_
            · refine st_cmp (opd_eq hr.units) ?_ ?_ (nomark _)
              · exact se_var 5
              · exact se_str
            · refine sss_one ?_
              refine ss_ret ?_
              exact se_var 3
            · exact sss_nil
          · refine sss_cons ?_ ?_
            · refine ss_if ?_ ?_ ?_
              · refine st_cmp (opd_eq hr.units) ?_ ?_ (nomark _)
                · exact se_var 5
                · exact se_str
              · refine sss_one ?_
                refine ss_ret ?_
                refine se_op opd_sub ?_ ?_
                · exact se_int
                · exact se_var 3
              · exact sss_nil
            · refine sss_cons ?_ ?_
              · refine ss_set (i := 6) sc_next_turn.nd rfl (by first | exact .inl rfl | exact .inr rfl) ?_
                refine se_ix ?_ ?_ (fun _ _ => rfl)
                · refine se_ix ?_ ?_ (fun _ _ => rfl)
                  · exact se_var 0
                  · exact se_int
                · exact se_int
              · refine sss_one ?_
                refine ss_ret ?_
                refine se_ifExp ?_ ?_ ?_
                · refine st_cmp (opd_eq hr.units) ?_ ?_ (nomark _)
                  · refine se_ix ?_ ?_ (fun _ _ => rfl)
                    · exact se_var 6
                    · refine se_op opd_mod ?_ ?_
                      · refine se_callB (cd_sum rfl) (by rfl) z.b_sum bb_sum ?_
                        refine sa_cons ?_ ?_
                        · exact se_var 2
                        · exact sa_nil
                      · refine se_callB cd_len (by rfl) z.b_len bb_len ?_
                        refine sa_cons ?_ ?_
                        · exact se_var 6
                        · exact sa_nil
                  · exact se_int
                · refine se_ix ?_ ?_ (fun _ _ => rfl)
                  · exact se_var 1
                  · exact se_int
                · refine se_op opd_sub ?_ ?_
                  · exact se_int
                  · refine se_ix ?_ ?_ (fun _ _ => rfl)
                    · exact se_var 1
                    · exact se_int

abbrev s_led_race : Stmt := topS 35
theorem sc_led_race : FnScope N_led_race ["rule", "state", "side"] (defScope s_led_race) := ⟨rfl, rfl, rfl, by decide +kernel, rfl, by decide +kernel, by decide +kernel⟩
theorem e_led_race {g_led g_unit_of g_next_turn g_is_won g_begun : GF} (z : Zc K mg) (y : Yc P K mg) (T : Std K mg "led_race" s_led_race ["rule", "state", "side"]) (D_led : Def P w K mg base (caK K) "led" ["rule", "state", "side"] k g_led) (D_unit_of : Def P w K mg base (caK K) "unit_of" ["rule", "score"] k g_unit_of) (D_next_turn : Def P w K mg base (caK K) "next_turn" ["rule", "state", "score", "winner", "hands"] k g_next_turn) (D_is_won : Def P w K mg base (caK K) "is_won" ["rule", "score"] k g_is_won) (D_begun : Def P w K mg base (caK K) "begun" ["rule", "side"] k g_begun) : Def P w K mg base (caK K) "led_race" ["rule", "state", "side"] (k + 1) (bodyT N_led_race 3 (b_led_race g_led g_unit_of g_next_turn g_is_won g_begun)) :=
  def_T T sc_led_race fun f cdv A outer s H E hr hgu tk hp => by
    refine sss_cons ?_ ?_
    · refine ss_set (i := 3) sc_led_race.nd rfl (by first | exact .inl rfl | exact .inr rfl) ?_
      refine se_slice ?_ ?_ ?_
      · exact se_var 1
      · exact so_none
      · refine so_some ?_
        exact se_int
    · refine sss_cons ?_ ?_
      · refine ss_asg ?_ ?_
        · refine se_callN D_led hr hgu tk (by rfl) ?_
          refine sa_cons ?_ ?_
          · refine se_callN D_unit_of hr hgu tk (by rfl) ?_
            refine sa_cons ?_ ?_
            · exact se_var 0
            · refine sa_cons ?_ ?_
              · exact se_var 3
              · exact sa_nil
          · refine sa_cons ?_ ?_
            · refine se_ix ?_ ?_ (fun _ _ => rfl)
              · exact se_var 1
              · exact se_int
            · refine sa_cons ?_ ?_
              · exact se_var 2
              · exact sa_nil
        · refine sg_tup rfl ?_
          refine sgs_cons ?_ ?_
          · exact sg_name sc_led_race.nd (i := 4) rfl (by first | exact .inl rfl | exact .inr rfl)
          · refine sgs_cons ?_ ?_
            · exact sg_name sc_led_race.nd (i := 5) rfl (by first | exact .inl rfl | exact .inr rfl)
            · refine sgs_cons ?_ sgs_nil
              exact sg_name sc_led_race.nd (i := 6) rfl (by first | exact .inl rfl | exact .inr rfl)
      · refine sss_cons ?_ ?_
        · refine ss_if ?_ ?_ ?_
          · refine st_cmp opd_isnot ?_ ?_ (nomark _)
            · exact se_var 4
            · exact se_non
          · refine sss_one ?_
            refine ss_ret ?_
            refine se_tup ?_
            refine sa_cons ?_ ?_
            · refine se_op opd_add ?_ ?_
              · refine se_slice ?_ ?_ ?_
                · exact se_var 1
                · exact so_none
                · refine so_some ?_
                  exact se_int
              · refine se_tup ?_
                refine sa_cons ?_ ?_
                · exact se_var 4
                · exact sa_nil
            · refine sa_cons ?_ ?_
              · exact se_non
              · refine sa_cons ?_ ?_
                · exact se_non
                · exact sa_nil
          · exact sss_nil
        · refine sss_cons ?_ ?_
          · refine ss_set (i := 3) sc_led_race.nd rfl (by first | exact .inl rfl | exact .inr rfl) ?_
            refine se_tup ?_
            refine sa_cons ?_ ?_
            · refine se_op opd_sub ?_ ?_
              · refine se_op opd_add ?_ ?_
                · refine se_ix ?_ ?_ (fun _ _ => rfl)
                  · exact se_var 3
                  · exact se_int
                · exact se_int
              · exact se_var 5
            · refine sa_cons ?_ ?_
              · refine se_op opd_add ?_ ?_
                · refine se_ix ?_ ?_ (fun _ _ => rfl)
                  · exact se_var 3
                  · exact se_int
                · exact se_var 5
              · exact sa_nil
          · refine sss_cons ?_ ?_
            · refine ss_set (i := 7) sc_led_race.nd rfl (by first | exact .inl rfl | exact .inr rfl) ?_
              refine se_callN D_next_turn hr hgu tk (by rfl) ?_
              refine sa_cons ?_ ?_
              · exact se_var 0
              · refine sa_cons ?_ ?_
                · exact se_var 1
                · refine sa_cons ?_ ?_
                  · exact se_var 3
                  · refine sa_cons ?_ ?_
                    · exact se_var 5
                    · refine sa_cons ?_ ?_
                      · exact se_var 6
                      · exact sa_nil
            · refine sss_cons ?_ ?_
              · refine ss_if ?_ ?_ ?_
                · refine st_val ?_
                  refine se_callN D_is_won hr hgu tk (by rfl) ?_
                  refine sa_cons ?_ ?_
                  · exact se_var 0
                  · refine sa_cons ?_ ?_
                    · exact se_var 3
                    · exact sa_nil
                · refine sss_one ?_
                  refine ss_ret ?_
                  refine se_tup ?_
                  refine sa_cons ?_ ?_
                  · exact se_non
                  · refine sa_cons ?_ ?_
                    · refine se_ifExp ?_ ?_ ?_
                      · refine st_cmp opd_gt ?_ ?_ (nomark _)
                        · refine se_ix ?_ ?_ (fun _ _ => rfl)
                          · exact se_var 3
                          · exact se_int
                        · refine se_ix ?_ ?_ (fun _ _ => rfl)
                          · exact se_var 3
                          · exact se_int
                      · exact se_int
                      · exact se_int
                    · refine sa_cons ?_ ?_
                      · exact se_var 7
                      · exact sa_nil
                · exact sss_nil
              · refine sss_one ?_
                refine ss_ret ?_
                refine se_tup ?_
                refine sa_cons ?_ ?_
                · refine se_op opd_add ?_ ?_
                  · exact se_var 3
                  · refine se_tup ?_
                    refine sa_cons ?_ ?_
                    · refine se_ix ?_ ?_ (fun _ _ => rfl)
                      · exact se_var 1
                      · exact se_int
                    · refine sa_cons ?_ ?_
                      · exact se_var 7
                      · refine sa_cons ?_ ?_
                        · refine se_callN D_begun hr hgu tk (by rfl) ?_
                          refine sa_cons ?_ ?_
                          · refine se_callN D_unit_of hr hgu tk (by rfl) ?_
                            refine sa_cons ?_ ?_
                            · exact se_var 0
                            · refine sa_cons ?_ ?_
                              · exact se_var 3
                              · exact sa_nil
                          · refine sa_cons ?_ ?_
                            · exact se_var 7
                            · exact sa_nil
                        · exact sa_nil
                · refine sa_cons ?_ ?_
                  · exact se_non
                  · refine sa_cons ?_ ?_
                    · exact se_non
                    · exact sa_nil

abbrev s_led : Stmt := topS 36
theorem sc_led : FnScope N_led ["rule", "state", "side"] (defScope s_led) := ⟨rfl, rfl, rfl, by decide +kernel, rfl, by decide +kernel, by decide +kernel⟩
theorem e_led {g_led_race : GF} (z : Zc K mg) (y : Yc P K mg) (T : Std K mg "led" s_led ["rule", "state", "side"]) (D_led_race : Def P w K mg base (caK K) "led_race" ["rule", "state", "side"] k g_led_race) : Def P w K mg base (caK K) "led" ["rule", "state", "side"] (k + 1) (bodyT N_led 3 (b_led g_led_race)) :=
  def_T T sc_led fun f cdv A outer s H E hr hgu tk hp => by
    refine sss_cons ?_ ?_
    · refine ss_if ?_ ?_ ?_
      · refine st_cmp (opd_eq hr.units) ?_ ?_ (nomark _)
        · refine se_ix ?_ ?_ (fun _ _ => rfl)
          · exact se_var 0
          · exact se_int
        · exact se_str
      · refine sss_one ?_
        refine ss_ret ?_
        refine se_callN D_led_race hr hgu tk (by rfl) ?_
        refine sa_cons ?_ ?_
        · exact se_var 0
        · refine sa_cons ?_ ?_
          · exact se_var 1
          · refine sa_cons ?_ ?_
            · exact se_var 2
            · exact sa_nil
      · exact sss_nil
    · refine sss_cons ?_ ?_
      · refine ss_if ?_ ?_ ?_
        · refine SW.st ?_
          refine sw_and ?_ ?_
          · refine st_cmp (opd_eq hr.units) ?_ ?_ (nomark _)
            · refine se_ix ?_ ?_ (fun _ _ => rfl)
              · exact se_var 0
              · exact se_int
            · exact se_str
          · refine sw_and1 ?_
            refine st_cmp (opd_ne hr.units) ?_ ?_ (nomark _)
            · exact se_var 2
            · refine se_ix ?_ ?_ (fun _ _ => rfl)
              · exact se_var 1
              · exact se_int
        · refine sss_one ?_
          refine ss_ret ?_
          refine se_tup ?_
          refine sa_cons ?_ ?_
          · refine se_tup ?_
            refine sa_cons ?_ ?_
            · exact se_var 2
            · exact sa_nil
          · refine sa_cons ?_ ?_
            · exact se_non
            · refine sa_cons ?_ ?_
              · exact se_non
              · exact sa_nil
        · exact sss_nil
      · refine sss_one ?_
        refine ss_ret ?_
        refine se_tup ?_
        refine sa_cons ?_ ?_
        · exact se_non
        · refine sa_cons ?_ ?_
          · exact se_var 2
          · refine sa_cons ?_ ?_
            · refine se_ix ?_ ?_ (fun _ _ => rfl)
              · exact se_var 1
              · exact se_int
            · exact sa_nil

abbrev s_server_in : Stmt := topS 37
theorem sc_server_in : FnScope N_server_in ["state"] (defScope s_server_in) := ⟨rfl, rfl, rfl, by decide +kernel, rfl, by decide +kernel, by decide +kernel⟩
theorem e_server_in (z : Zc K mg) (y : Yc P K mg) (T : Std K mg "server_in" s_server_in ["state"]) : Def P w K mg base (caK K) "server_in" ["state"] (k + 1) (bodyT N_server_in 1 (b_server_in)) :=
  def_T T sc_server_in fun f cdv A outer s H E hr hgu tk hp => by
    refine sss_cons ?_ ?_
    · refine ss_while 1000000 hp ?_ ?_
      · refine st_cmp opd_gt ?_ ?_ (nomark _)
        · refine se_callB cd_len (by rfl) z.b_len bb_len ?_
          refine sa_cons ?_ ?_
          · exact se_var 0
          · exact sa_nil
        · exact se_int
      · refine sss_one ?_
        refine ss_set (i := 0) sc_server_in.nd rfl (by first | exact .inl rfl | exact .inr rfl) ?_
        refine se_ix ?_ ?_ (fun _ _ => rfl)
        · exact se_var 0
        · exact se_int
    · refine sss_one ?_
      refine ss_ret ?_
      refine se_ix ?_ ?_ (fun _ _ => rfl)
      · exact se_var 0
      · exact se_int

abbrev s_led_by : Stmt := topS 39
theorem sc_led_by : FnScope N_led_by ["rule", "first", "rallies"] (defScope s_led_by) := ⟨rfl, rfl, rfl, by decide +kernel, rfl, by decide +kernel, by decide +kernel⟩
theorem e_led_by {g_begun g_led : GF} (z : Zc K mg) (y : Yc P K mg) (T : Std K mg "led_by" s_led_by ["rule", "first", "rallies"]) (D_begun : Def P w K mg base (caK K) "begun" ["rule", "side"] k g_begun) (D_led : Def P w K mg base (caK K) "led" ["rule", "state", "side"] k g_led) : Def P w K mg base (caK K) "led_by" ["rule", "first", "rallies"] (k + 1) (bodyT N_led_by 3 (b_led_by g_begun g_led)) :=
  def_T T sc_led_by fun f cdv A outer s H E hr hgu tk hp => by
    refine sss_cons ?_ ?_
    · refine ss_set (i := 3) sc_led_by.nd rfl (by first | exact .inl rfl | exact .inr rfl) ?_
      refine se_callN D_begun hr hgu tk (by rfl) ?_
      refine sa_cons ?_ ?_
      · exact se_var 0
      · refine sa_cons ?_ ?_
        · exact se_var 1
        · exact sa_nil
    · refine sss_cons ?_ ?_
      · refine ss_for hp rfl ?_ ?_ ?_
        · refine si_enum (by rfl) z.b_enumerate ?_
          exact se_var 2
        · refine sg_tup rfl ?_
          refine sgs_cons ?_ ?_
          · exact sg_name sc_led_by.nd (i := 4) rfl (by first | exact .inl rfl | exact .inr rfl)
          · refine sgs_cons ?_ sgs_nil
            exact sg_name sc_led_by.nd (i := 5) rfl (by first | exact .inl rfl | exact .inr rfl)
        · refine sss_cons ?_ ?_
          · refine ss_asg ?_ ?_
            · refine se_callN D_led hr hgu tk (by rfl) ?_
              refine sa_cons ?_ ?_
              · exact se_var 0
              · refine sa_cons ?_ ?_
                · exact se_var 3
                · refine sa_cons ?_ ?_
                  · exact se_var 5
                  · exact sa_nil
            · refine sg_tup rfl ?_
              refine sgs_cons ?_ ?_
              · exact sg_name sc_led_by.nd (i := 3) rfl (by first | exact .inl rfl | exact .inr rfl)
              · refine sgs_cons ?_ ?_
                · exact sg_name sc_led_by.nd (i := 6) rfl (by first | exact .inl rfl | exact .inr rfl)
                · refine sgs_cons ?_ sgs_nil
                  exact sg_name sc_led_by.nd (i := 7) rfl (by first | exact .inl rfl | exact .inr rfl)
          · refine sss_one ?_
            refine ss_if ?_ ?_ ?_
            · refine st_cmp opd_is ?_ ?_ (nomark _)
              · exact se_var 3
              · exact se_non
            · refine sss_one ?_
              refine ss_ret ?_
              refine se_tup ?_
              refine sa_cons ?_ ?_
              · exact se_non
              · refine sa_cons ?_ ?_
                · exact se_var 6
                · refine sa_cons ?_ ?_
                  · refine se_op opd_add ?_ ?_
                    · exact se_var 4
                    · exact se_int
                  · exact sa_nil
            · exact sss_nil
      · refine sss_one ?_
        refine ss_ret ?_
        refine se_tup ?_
        refine sa_cons ?_ ?_
        · exact se_var 3
        · refine sa_cons ?_ ?_
          · exact se_non
          · refine sa_cons ?_ ?_
            · refine se_callB cd_len (by rfl) z.b_len bb_len ?_
              refine sa_cons ?_ ?_
              · exact se_var 2
              · exact sa_nil
            · exact sa_nil

abbrev s_check_match : Stmt := topS 41
theorem sc_check_match : FnScope N_check_match ["rule", "first", "rallies"] (defScope s_check_match) := ⟨rfl, rfl, rfl, by decide +kernel, rfl, by decide +kernel, by decide +kernel⟩
theorem e_check_match {g_check_rule g_check_side g_check_rallies : GF} (z : Zc K mg) (y : Yc P K mg) (T : Std K mg "check_match" s_check_match ["rule", "first", "rallies"]) (D_check_rule : Def P w K mg base (caK K) "check_rule" ["rule"] k g_check_rule) (D_check_side : Def P w K mg base (caK K) "check_side" ["side"] k g_check_side) (D_check_rallies : Def P w K mg base (caK K) "check_rallies" ["rallies"] k g_check_rallies) : Def P w K mg base (caK K) "check_match" ["rule", "first", "rallies"] (k + 1) (bodyT N_check_match 3 (b_check_match g_check_rule g_check_side g_check_rallies)) :=
  def_T T sc_check_match fun f cdv A outer s H E hr hgu tk hp => by
    refine sss_cons ?_ ?_
    · refine ss_expr ?_
      refine se_callN D_check_rule hr hgu tk (by rfl) ?_
      refine sa_cons ?_ ?_
      · exact se_var 0
      · exact sa_nil
    · refine sss_cons ?_ ?_
      · refine ss_expr ?_
        refine se_callN D_check_side hr hgu tk (by rfl) ?_
        refine sa_cons ?_ ?_
        · exact se_var 1
        · exact sa_nil
      · refine sss_one ?_
        refine ss_expr ?_
        refine se_callN D_check_rallies hr hgu tk (by rfl) ?_
        refine sa_cons ?_ ?_
        · exact se_var 2
        · exact sa_nil

abbrev s_behind : Stmt := topS 42
theorem sc_behind : FnScope N_behind ["rule", "first", "rallies"] (defScope s_behind) := ⟨rfl, rfl, rfl, by decide +kernel, rfl, by decide +kernel, by decide +kernel⟩
theorem e_behind {g_led_by : GF} (z : Zc K mg) (y : Yc P K mg) (T : Std K mg "behind" s_behind ["rule", "first", "rallies"]) (hk : 2 ≤ k) (D_led_by : Def P w K mg base (caK K) "led_by" ["rule", "first", "rallies"] k g_led_by) : Def P w K mg base (caK K) "behind" ["rule", "first", "rallies"] (k + 1) (bodyT N_behind 3 (b_behind g_led_by)) :=
  def_T T sc_behind fun f cdv A outer s H E hr hgu tk hp => by
    refine sss_cons ?_ ?_
    · refine ss_asg ?_ ?_
      · refine se_callN D_led_by hr hgu tk (by rfl) ?_
        refine sa_cons ?_ ?_
        · exact se_var 0
        · refine sa_cons ?_ ?_
          · exact se_var 1
          · refine sa_cons ?_ ?_
            · exact se_var 2
            · exact sa_nil
      · refine sg_tup rfl ?_
        refine sgs_cons ?_ ?_
        · exact sg_name sc_behind.nd (i := 3) rfl (by first | exact .inl rfl | exact .inr rfl)
        · refine sgs_cons ?_ ?_
          · exact sg_name sc_behind.nd (i := 4) rfl (by first | exact .inl rfl | exact .inr rfl)
          · refine sgs_cons ?_ sgs_nil
            exact sg_name sc_behind.nd (i := 5) rfl (by first | exact .inl rfl | exact .inr rfl)
    · refine sss_cons ?_ ?_
      · refine ss_if ?_ ?_ ?_
        · refine st_cmp opd_lt ?_ ?_ (nomark _)
          · exact se_var 5
          · refine se_callB cd_len (by rfl) z.b_len bb_len ?_
            refine sa_cons ?_ ?_
            · exact se_var 2
            · exact sa_nil
        · refine sss_one ?_
          refine ss_raise y.x_Ended (room_two hk hr) tk rfl (by rfl) ?_
          exact se_var 5
        · exact sss_nil
      · refine sss_one ?_
        refine ss_ret ?_
        refine se_tup ?_
        refine sa_cons ?_ ?_
        · exact se_var 3
        · refine sa_cons ?_ ?_
          · exact se_var 4
          · exact sa_nil

abbrev s_going_on : Stmt := topS 43
theorem sc_going_on : FnScope N_going_on ["rule", "first", "rallies"] (defScope s_going_on) := ⟨rfl, rfl, rfl, by decide +kernel, rfl, by decide +kernel, by decide +kernel⟩
theorem e_going_on {g_behind : GF} (z : Zc K mg) (y : Yc P K mg) (T : Std K mg "going_on" s_going_on ["rule", "first", "rallies"]) (hk : 2 ≤ k) (D_behind : Def P w K mg base (caK K) "behind" ["rule", "first", "rallies"] k g_behind) : Def P w K mg base (caK K) "going_on" ["rule", "first", "rallies"] (k + 1) (bodyT N_going_on 3 (b_going_on g_behind)) :=
  def_T T sc_going_on fun f cdv A outer s H E hr hgu tk hp => by
    refine sss_cons ?_ ?_
    · refine ss_asg ?_ ?_
      · refine se_callN D_behind hr hgu tk (by rfl) ?_
        refine sa_cons ?_ ?_
        · exact se_var 0
        · refine sa_cons ?_ ?_
          · exact se_var 1
          · refine sa_cons ?_ ?_
            · exact se_var 2
            · exact sa_nil
      · refine sg_tup rfl ?_
        refine sgs_cons ?_ ?_
        · exact sg_name sc_going_on.nd (i := 3) rfl (by first | exact .inl rfl | exact .inr rfl)
        · refine sgs_cons ?_ sgs_nil
          exact sg_name sc_going_on.nd (i := 4) rfl (by first | exact .inl rfl | exact .inr rfl)
    · refine sss_cons ?_ ?_
      · refine ss_if ?_ ?_ ?_
        · refine st_cmp opd_is ?_ ?_ (nomark _)
          · exact se_var 3
          · exact se_non
        · refine sss_one ?_
          refine ss_raise y.x_Ended (room_two hk hr) tk rfl (by rfl) ?_
          refine se_callB cd_len (by rfl) z.b_len bb_len ?_
          refine sa_cons ?_ ?_
          · exact se_var 2
          · exact sa_nil
        · exact sss_nil
      · refine sss_one ?_
        refine ss_ret ?_
        exact se_var 3

abbrev s_winner_after : Stmt := topS 44
theorem sc_winner_after : FnScope N_winner_after ["rule", "first", "rallies"] (defScope s_winner_after) := ⟨rfl, rfl, rfl, by decide +kernel, rfl, by decide +kernel, by decide +kernel⟩
theorem e_winner_after {g_check_match g_behind : GF} (z : Zc K mg) (y : Yc P K mg) (T : Std K mg "winner_after" s_winner_after ["rule", "first", "rallies"]) (D_check_match : Def P w K mg base (caK K) "check_match" ["rule", "first", "rallies"] k g_check_match) (D_behind : Def P w K mg base (caK K) "behind" ["rule", "first", "rallies"] k g_behind) : Def P w K mg base (caK K) "winner_after" ["rule", "first", "rallies"] (k + 1) (bodyT N_winner_after 3 (b_winner_after g_check_match g_behind)) :=
  def_T T sc_winner_after fun f cdv A outer s H E hr hgu tk hp => by
    refine sss_cons ?_ ?_
    · refine ss_expr ?_
      refine se_callN D_check_match hr hgu tk (by rfl) ?_
      refine sa_cons ?_ ?_
      · exact se_var 0
      · refine sa_cons ?_ ?_
        · exact se_var 1
        · refine sa_cons ?_ ?_
          · exact se_var 2
          · exact sa_nil
    · refine sss_one ?_
      refine ss_ret ?_
      refine se_ix ?_ ?_ (fun _ _ => rfl)
      · refine se_callN D_behind hr hgu tk (by rfl) ?_
        refine sa_cons ?_ ?_
        · exact se_var 0
        · refine sa_cons ?_ ?_
          · exact se_var 1
          · refine sa_cons ?_ ?_
            · exact se_var 2
            · exact sa_nil
      · exact se_int

abbrev s_server_after : Stmt := topS 45
theorem sc_server_after : FnScope N_server_after ["rule", "first", "rallies"] (defScope s_server_after) := ⟨rfl, rfl, rfl, by decide +kernel, rfl, by decide +kernel, by decide +kernel⟩
theorem e_server_after {g_check_match g_server_in g_going_on : GF} (z : Zc K mg) (y : Yc P K mg) (T : Std K mg "server_after" s_server_after ["rule", "first", "rallies"]) (D_check_match : Def P w K mg base (caK K) "check_match" ["rule", "first", "rallies"] k g_check_match) (D_server_in : Def P w K mg base (caK K) "server_in" ["state"] k g_server_in) (D_going_on : Def P w K mg base (caK K) "going_on" ["rule", "first", "rallies"] k g_going_on) : Def P w K mg base (caK K) "server_after" ["rule", "first", "rallies"] (k + 1) (bodyT N_server_after 3 (b_server_after g_check_match g_server_in g_going_on)) :=
  def_T T sc_server_after fun f cdv A outer s H E hr hgu tk hp => by
    refine sss_cons ?_ ?_
    · refine ss_expr ?_
      refine se_callN D_check_match hr hgu tk (by rfl) ?_
      refine sa_cons ?_ ?_
      · exact se_var 0
      · refine sa_cons ?_ ?_
        · exact se_var 1
        · refine sa_cons ?_ ?_
          · exact se_var 2
          · exact sa_nil
    · refine sss_one ?_
      refine ss_ret ?_
      refine se_callN D_server_in hr hgu tk (by rfl) ?_
      refine sa_cons ?_ ?_
      · refine se_callN D_going_on hr hgu tk (by rfl) ?_
        refine sa_cons ?_ ?_
        · exact se_var 0
        · refine sa_cons ?_ ?_
          · exact se_var 1
          · refine sa_cons ?_ ?_
            · exact se_var 2
            · exact sa_nil
      · exact sa_nil

abbrev s_scores_after : Stmt := topS 47
theorem sc_scores_after : FnScope N_scores_after ["rule", "first", "rallies"] (defScope s_scores_after) := ⟨rfl, rfl, rfl, by decide +kernel, rfl, by decide +kernel, by decide +kernel⟩
theorem e_scores_after {g_check_match g_behind : GF} (z : Zc K mg) (y : Yc P K mg) (T : Std K mg "scores_after" s_scores_after ["rule", "first", "rallies"]) (D_check_match : Def P w K mg base (caK K) "check_match" ["rule", "first", "rallies"] k g_check_match) (D_behind : Def P w K mg base (caK K) "behind" ["rule", "first", "rallies"] k g_behind) : Def P w K mg base (caK K) "scores_after" ["rule", "first", "rallies"] (k + 1) (bodyT N_scores_after 3 (b_scores_after g_check_match g_behind)) :=
  def_T T sc_scores_after fun f cdv A outer s H E hr hgu tk hp => by
    refine sss_cons ?_ ?_
    · refine ss_expr ?_
      refine se_callN D_check_match hr hgu tk (by rfl) ?_
      refine sa_cons ?_ ?_
      · exact se_var 0
      · refine sa_cons ?_ ?_
        · exact se_var 1
        · refine sa_cons ?_ ?_
          · exact se_var 2
          · exact sa_nil
    · refine sss_cons ?_ ?_
      · refine ss_asg ?_ ?_
        · refine se_callN D_behind hr hgu tk (by rfl) ?_
          refine sa_cons ?_ ?_
          · exact se_var 0
          · refine sa_cons ?_ ?_
            · exact se_var 1
            · refine sa_cons ?_ ?_
              · exact se_var 2
              · exact sa_nil
        · refine sg_tup rfl ?_
          refine sgs_cons ?_ ?_
          · exact sg_name sc_scores_after.nd (i := 3) rfl (by first | exact .inl rfl | exact .inr rfl)
          · refine sgs_cons ?_ sgs_nil
            exact sg_name sc_scores_after.nd (i := 4) rfl (by first | exact .inl rfl | exact .inr rfl)
      · exact sss_never

abbrev s_servers_of : Stmt := topS 48
theorem sc_servers_of : FnScope N_servers_of ["rule", "first", "rallies"] (defScope s_servers_of) := ⟨rfl, rfl, rfl, by decide +kernel, rfl, by decide +kernel, by decide +kernel⟩
theorem e_servers_of {g_check_match g_behind : GF} (z : Zc K mg) (y : Yc P K mg) (T : Std K mg "servers_of" s_servers_of ["rule", "first", "rallies"]) (D_check_match : Def P w K mg base (caK K) "check_match" ["rule", "first", "rallies"] k g_check_match) (D_behind : Def P w K mg base (caK K) "behind" ["rule", "first", "rallies"] k g_behind) : Def P w K mg base (caK K) "servers_of" ["rule", "first", "rallies"] (k + 1) (bodyT N_servers_of 3 (b_servers_of g_check_match g_behind)) :=
  def_T T sc_servers_of fun f cdv A outer s H E hr hgu tk hp => by
    refine sss_cons ?_ ?_
    · refine ss_expr ?_
      refine se_callN D_check_match hr hgu tk (by rfl) ?_
      refine sa_cons ?_ ?_
      · exact se_var 0
      · refine sa_cons ?_ ?_
        · exact se_var 1
        · refine sa_cons ?_ ?_
          · exact se_var 2
          · exact sa_nil
    · refine sss_cons ?_ ?_
      · refine ss_expr ?_
        refine se_callN D_behind hr hgu tk (by rfl) ?_
        refine sa_cons ?_ ?_
        · exact se_var 0
        · refine sa_cons ?_ ?_
          · exact se_var 1
          · refine sa_cons ?_ ?_
            · exact se_var 2
            · exact sa_nil
      · exact sss_never

abbrev s_won_units : Stmt := topS 50
theorem sc_won_units : FnScope N_won_units ["rule", "first", "rallies"] (defScope s_won_units) := ⟨rfl, rfl, rfl, by decide +kernel, rfl, by decide +kernel, by decide +kernel⟩
theorem e_won_units {g_check_match g_behind : GF} (z : Zc K mg) (y : Yc P K mg) (T : Std K mg "won_units" s_won_units ["rule", "first", "rallies"]) (D_check_match : Def P w K mg base (caK K) "check_match" ["rule", "first", "rallies"] k g_check_match) (D_behind : Def P w K mg base (caK K) "behind" ["rule", "first", "rallies"] k g_behind) : Def P w K mg base (caK K) "won_units" ["rule", "first", "rallies"] (k + 1) (bodyT N_won_units 3 (b_won_units g_check_match g_behind)) :=
  def_T T sc_won_units fun f cdv A outer s H E hr hgu tk hp => by
    refine sss_cons ?_ ?_
    · refine ss_expr ?_
      refine se_callN D_check_match hr hgu tk (by rfl) ?_
      refine sa_cons ?_ ?_
      · exact se_var 0
      · refine sa_cons ?_ ?_
        · exact se_var 1
        · refine sa_cons ?_ ?_
          · exact se_var 2
          · exact sa_nil
    · refine sss_cons ?_ ?_
      · refine ss_expr ?_
        refine se_callN D_behind hr hgu tk (by rfl) ?_
        refine sa_cons ?_ ?_
        · exact se_var 0
        · refine sa_cons ?_ ?_
          · exact se_var 1
          · refine sa_cons ?_ ?_
            · exact se_var 2
            · exact sa_nil
      · exact sss_never

abbrev s_stakes : Stmt := topS 52
theorem sc_stakes : FnScope N_stakes ["rule", "first", "rallies"] (defScope s_stakes) := ⟨rfl, rfl, rfl, by decide +kernel, rfl, by decide +kernel, by decide +kernel⟩
theorem e_stakes {g_check_match g_going_on : GF} (z : Zc K mg) (y : Yc P K mg) (T : Std K mg "stakes" s_stakes ["rule", "first", "rallies"]) (D_check_match : Def P w K mg base (caK K) "check_match" ["rule", "first", "rallies"] k g_check_match) (D_going_on : Def P w K mg base (caK K) "going_on" ["rule", "first", "rallies"] k g_going_on) : Def P w K mg base (caK K) "stakes" ["rule", "first", "rallies"] (k + 1) (bodyT N_stakes 3 (b_stakes g_check_match g_going_on)) :=
  def_T T sc_stakes fun f cdv A outer s H E hr hgu tk hp => by
    refine sss_cons ?_ ?_
    · refine ss_expr ?_
      refine se_callN D_check_match hr hgu tk (by rfl) ?_
      refine sa_cons ?_ ?_
      · exact se_var 0
      · refine sa_cons ?_ ?_
        · exact se_var 1
        · refine sa_cons ?_ ?_
          · exact se_var 2
          · exact sa_nil
    · refine sss_cons ?_ ?_
      · refine ss_set (i := 3) sc_stakes.nd rfl (by first | exact .inl rfl | exact .inr rfl) ?_
        refine se_callN D_going_on hr hgu tk (by rfl) ?_
        refine sa_cons ?_ ?_
        · exact se_var 0
        · refine sa_cons ?_ ?_
          · exact se_var 1
          · refine sa_cons ?_ ?_
            · exact se_var 2
            · exact sa_nil
      · exact sss_never

abbrev s__law_hash : Stmt := topS 54
theorem sc__law_hash : FnScope N__law_hash ["seed", "index"] (defScope s__law_hash) := ⟨rfl, rfl, rfl, by decide +kernel, rfl, by decide +kernel, by decide +kernel⟩
theorem e__law_hash (z : Zc K mg) (y : Yc P K mg) (T : Std K mg "_law_hash" s__law_hash ["seed", "index"]) : Def P w K mg base (caK K) "_law_hash" ["seed", "index"] (k + 1) (bodyT N__law_hash 2 (b__law_hash)) :=
  def_T T sc__law_hash fun f cdv A outer s H E hr hgu tk hp => by
    refine sss_cons ?_ ?_
    · refine ss_set (i := 2) sc__law_hash.nd rfl (by first | exact .inl rfl | exact .inr rfl) ?_
      refine se_op opd_mod ?_ ?_
      · refine se_callTy cd_int (by rfl) z.b_int bb_int ?_
        refine sa_cons ?_ ?_
        · refine se_op opd_add ?_ ?_
          · refine se_op opd_add ?_ ?_
            · refine se_op opd_add ?_ ?_
              · refine se_op opd_mul ?_ ?_
                · exact se_var 0
                · exact se_int
              · refine se_op opd_mul ?_ ?_
                · refine se_op opd_mul ?_ ?_
                  · exact se_int
                  · exact se_var 1
                · exact se_var 1
            · refine se_op opd_mul ?_ ?_
              · exact se_int
              · exact se_var 1
          · exact se_int
        · exact sa_nil
      · exact se_int
    · refine sss_cons ?_ ?_
      · refine ss_set (i := 2) sc__law_hash.nd rfl (by first | exact .inl rfl | exact .inr rfl) ?_
        refine se_op opd_mod ?_ ?_
        · refine se_callTy cd_int (by rfl) z.b_int bb_int ?_
          refine sa_cons ?_ ?_
          · refine se_op opd_add ?_ ?_
            · refine se_op opd_add ?_ ?_
              · refine se_op opd_mul ?_ ?_
                · exact se_var 2
                · exact se_var 2
              · refine se_op opd_mul ?_ ?_
                · exact se_int
                · exact se_var 1
            · exact se_int
          · exact sa_nil
        · exact se_int
      · refine sss_one ?_
        refine ss_ret ?_
        refine se_op opd_mod ?_ ?_
        · refine se_callTy cd_int (by rfl) z.b_int bb_int ?_
          refine sa_cons ?_ ?_
          · refine se_op opd_mul ?_ ?_
            · exact se_var 2
            · exact se_int
          · exact sa_nil
        · exact se_int

abbrev s__law_random : Stmt := topS 55
theorem sc__law_random : FnScope N__law_random ["generator", "bound"] (defScope s__law_random) := ⟨rfl, rfl, rfl, by decide +kernel, rfl, by decide +kernel, by decide +kernel⟩
theorem e__law_random {g__law_hash : GF} (z : Zc K mg) (y : Yc P K mg) (T : Std K mg "_law_random" s__law_random ["generator", "bound"]) (D__law_hash : Def P w K mg base (caK K) "_law_hash" ["seed", "index"] k g__law_hash) : Def P w K mg base (caK K) "_law_random" ["generator", "bound"] (k + 1) (bodyT N__law_random 2 (b__law_random g__law_hash)) :=
  def_T T sc__law_random fun f cdv A outer s H E hr hgu tk hp => by
    refine sss_cons ?_ ?_
    · refine ss_if ?_ ?_ ?_
      · refine st_cmp opd_gt ?_ ?_ (nomark _)
        · refine se_ix ?_ ?_ (fun _ _ => rfl)
          · exact se_var 0
          · exact se_int
        · exact se_int
      · refine sss_cons ?_ ?_
        · refine ss_set (i := 2) sc__law_random.nd rfl (by first | exact .inl rfl | exact .inr rfl) ?_
          refine se_op opd_mod ?_ ?_
          · refine se_callTy cd_int (by rfl) z.b_int bb_int ?_
            refine sa_cons ?_ ?_
            · refine se_ix ?_ ?_ (fun _ _ => rfl)
              · exact se_var 0
              · exact se_int
            · exact sa_nil
          · exact se_var 1
        · refine sss_cons ?_ ?_
          · refine ss_asg ?_ ?_
            · refine se_op opd_fdiv ?_ ?_
              · refine se_ix ?_ ?_ (fun _ _ => rfl)
                · exact se_var 0
                · exact se_int
              · exact se_var 1
            · refine sg_sub ?_ ?_ (by intro _; rfl)
              · exact se_var 0
              · exact se_int
          · refine sss_one ?_
            refine ss_ret ?_
            exact se_var 2
      · exact sss_nil
    · refine sss_cons ?_ ?_
      · refine ss_set (i := 2) sc__law_random.nd rfl (by first | exact .inl rfl | exact .inr rfl) ?_
        exact se_int
      · refine sss_cons ?_ ?_
        · refine ss_for hp rfl ?_ ?_ ?_
          · refine si_range1 (by rfl) z.b_range ?_
            refine sa_cons ?_ ?_
            · refine se_op opd_add ?_ ?_
              · exact se_int
              · refine se_op opd_fdiv ?_ ?_
                · refine se_bits ?_
                  exact se_var 1
                · exact se_int
            · exact sa_nil
          · exact sg_name sc__law_random.nd (i := 3) rfl (by first | exact .inl rfl | exact .inr rfl)
          · refine sss_cons ?_ ?_
            · refine ss_asg ?_ ?_
              · refine se_op opd_add ?_ ?_
                · refine se_ix ?_ ?_ (fun _ _ => rfl)
                  · exact se_var 0
                  · exact se_int
                · exact se_int
              · refine sg_sub ?_ ?_ (by intro _; rfl)
                · exact se_var 0
                · exact se_int
            · refine sss_one ?_
              refine ss_set (i := 2) sc__law_random.nd rfl (by first | exact .inl rfl | exact .inr rfl) ?_
              refine se_op opd_add ?_ ?_
              · refine se_op opd_mul ?_ ?_
                · exact se_var 2
                · exact se_int
              · refine se_callN D__law_hash hr hgu tk (by rfl) ?_
                refine sa_cons ?_ ?_
                · refine se_ix ?_ ?_ (fun _ _ => rfl)
                  · exact se_var 0
                  · exact se_int
                · refine sa_cons ?_ ?_
                  · refine se_ix ?_ ?_ (fun _ _ => rfl)
                    · exact se_var 0
                    · exact se_int
                  · exact sa_nil
        · refine sss_one ?_
          refine ss_ret ?_
          refine se_op opd_mod ?_ ?_
          · refine se_callTy cd_int (by rfl) z.b_int bb_int ?_
            refine sa_cons ?_ ?_
            · exact se_var 2
            · exact sa_nil
          · exact se_var 1

abbrev s__law_cell : Stmt := topS 56
theorem sc__law_cell : FnScope N__law_cell ["script", "index"] (defScope s__law_cell) := ⟨rfl, rfl, rfl, by decide +kernel, rfl, by decide +kernel, by decide +kernel⟩
theorem e__law_cell (z : Zc K mg) (y : Yc P K mg) (T : Std K mg "_law_cell" s__law_cell ["script", "index"]) : Def P w K mg base (caK K) "_law_cell" ["script", "index"] (k + 1) (bodyT N__law_cell 2 (b__law_cell)) :=
  def_T T sc__law_cell fun f cdv A outer s H E hr hgu tk hp => by
    refine sss_cons ?_ ?_
    · refine ss_if ?_ ?_ ?_
      · refine st_cmp opd_lt ?_ ?_ (nomark _)
        · exact se_var 1
        · refine se_callB cd_len (by rfl) z.b_len bb_len ?_
          refine sa_cons ?_ ?_
          · exact se_var 0
          · exact sa_nil
      · refine sss_one ?_
        refine ss_ret ?_
        refine se_ix ?_ ?_ (fun _ _ => rfl)
        · exact se_var 0
        · exact se_var 1
      · exact sss_nil
    · refine sss_one ?_
      refine ss_ret ?_
      refine se_op opd_mod ?_ ?_
      · refine se_callB (cd_sum rfl) (by rfl) z.b_sum bb_sum ?_
        refine sa_cons ?_ ?_
        · refine se_slice ?_ ?_ ?_
          · exact se_var 0
          · exact so_none
          · refine so_some ?_
            exact se_int
        · exact sa_nil
      · exact se_int

abbrev s__law_generator : Stmt := topS 57
theorem sc__law_generator : FnScope N__law_generator ["script", "index"] (defScope s__law_generator) := ⟨rfl, rfl, rfl, by decide +kernel, rfl, by decide +kernel, by decide +kernel⟩
theorem e__law_generator {g__law_cell : GF} (z : Zc K mg) (y : Yc P K mg) (T : Std K mg "_law_generator" s__law_generator ["script", "index"]) (D__law_cell : Def P w K mg base (caK K) "_law_cell" ["script", "index"] k g__law_cell) : Def P w K mg base (caK K) "_law_generator" ["script", "index"] (k + 1) (bodyD N__law_generator 2 (b__law_generator g__law_cell)) :=
  def_D T sc__law_generator fun f cdv A outer s H E hr hgu tk hp => by
    refine sss_cons ?_ ?_
    · refine ss_set (i := 2) sc__law_generator.nd rfl (by first | exact .inl rfl | exact .inr rfl) ?_
      refine se_callN D__law_cell hr hgu tk (by rfl) ?_
      refine sa_cons ?_ ?_
      · exact se_var 0
      · refine sa_cons ?_ ?_
        · exact se_var 1
        · exact sa_nil
    · refine sss_one ?_
      refine ss_ret ?_
      refine se_lstC ?_
      refine sa_cons ?_ ?_
      · refine se_op opd_mod ?_ ?_
        · refine se_callTy cd_int (by rfl) z.b_int bb_int ?_
          refine sa_cons ?_ ?_
          · refine se_callB (cd_maxT rfl (hu1 hr)) (by rfl) z.b_max bb_max ?_
            refine sa_cons ?_ ?_
            · refine se_op opd_sub ?_ ?_
              · exact se_var 2
              · refine se_op opd_pow ?_ ?_
                · exact se_int
                · exact se_int
            · refine sa_cons ?_ ?_
              · exact se_int
              · exact sa_nil
          · exact sa_nil
        · refine se_op opd_pow ?_ ?_
          · refine se_op opd_pow ?_ ?_
            · exact se_int
            · exact se_int
          · exact se_int
      · refine sa_cons ?_ ?_
        · refine se_op opd_mod ?_ ?_
          · refine se_callTy cd_int (by rfl) z.b_int bb_int ?_
            refine sa_cons ?_ ?_
            · exact se_var 2
            · exact sa_nil
          · exact se_int
        · refine sa_cons ?_ ?_
          · refine se_op opd_mul ?_ ?_
            · exact se_int
            · exact se_var 1
          · exact sa_nil

abbrev s__law_pick : Stmt := topS 58
theorem sc__law_pick : FnScope N__law_pick ["generator", "things"] (defScope s__law_pick) := ⟨rfl, rfl, rfl, by decide +kernel, rfl, by decide +kernel, by decide +kernel⟩
theorem e__law_pick {g__law_random : GF} (z : Zc K mg) (y : Yc P K mg) (T : Std K mg "_law_pick" s__law_pick ["generator", "things"]) (D__law_random : Def P w K mg base (caK K) "_law_random" ["generator", "bound"] k g__law_random) : Def P w K mg base (caK K) "_law_pick" ["generator", "things"] (k + 1) (bodyT N__law_pick 2 (b__law_pick g__law_random)) :=
  def_T T sc__law_pick fun f cdv A outer s H E hr hgu tk hp => by
    refine sss_one ?_
    refine ss_ret ?_
    refine se_ix ?_ ?_ (fun _ _ => rfl)
    · exact se_var 1
    · refine se_callN D__law_random hr hgu tk (by rfl) ?_
      refine sa_cons ?_ ?_
      · exact se_var 0
      · refine sa_cons ?_ ?_
        · refine se_callB cd_len (by rfl) z.b_len bb_len ?_
          refine sa_cons ?_ ?_
          · exact se_var 1
          · exact sa_nil
        · exact sa_nil

abbrev s__law_order : Stmt := topS 59
theorem sc__law_order : FnScope N__law_order ["generator"] (defScope s__law_order) := ⟨rfl, rfl, rfl, by decide +kernel, rfl, by decide +kernel, by decide +kernel⟩
theorem e__law_order {g__law_pick g__law_random : GF} (z : Zc K mg) (y : Yc P K mg) (T : Std K mg "_law_order" s__law_order ["generator"]) (D__law_pick : Def P w K mg base (caK K) "_law_pick" ["generator", "things"] k g__law_pick) (D__law_random : Def P w K mg base (caK K) "_law_random" ["generator", "bound"] k g__law_random) : Def P w K mg base (caK K) "_law_order" ["generator"] (k + 1) (bodyT N__law_order 1 (b__law_order g__law_pick g__law_random)) :=
  def_T T sc__law_order fun f cdv A outer s H E hr hgu tk hp => by
    refine sss_cons ?_ ?_
    · refine ss_set (i := 1) sc__law_order.nd rfl (by first | exact .inl rfl | exact .inr rfl) ?_
      refine se_callN D__law_pick hr hgu tk (by rfl) ?_
      refine sa_cons ?_ ?_
      · exact se_var 0
      · refine sa_cons ?_ ?_
        · refine se_lst ?_
          refine sa_cons ?_ ?_
          · exact se_str
          · refine sa_cons ?_ ?_
            · exact se_str
            · refine sa_cons ?_ ?_
              · exact se_str
              · refine sa_cons ?_ ?_
                · exact se_str
                · refine sa_cons ?_ ?_
                  · exact se_str
                  · refine sa_cons ?_ ?_
                    · exact se_str
                    · exact sa_nil
        · exact sa_nil
    · refine sss_cons ?_ ?_
      · refine ss_if ?_ ?_ ?_
        · refine st_cmp (opd_ne hr.units) ?_ ?_ (nomark _)
          · exact se_var 1
          · exact se_str
        · refine sss_one ?_
          refine ss_ret ?_
          refine se_tup ?_
          refine sa_cons ?_ ?_
          · exact se_var 1
          · exact sa_nil
        · exact sss_nil
      · refine sss_one ?_
        refine ss_ret ?_
        refine se_tup ?_
        refine sa_cons ?_ ?_
        · exact se_str
        · refine sa_cons ?_ ?_
          · refine se_lc (own := [("mark", 2)]) rfl sc__law_order.nd ?_ (blkOk_by (by rfl)) (fun _ _ _ _ _ => ?_) (fun _ _ _ _ _ => sts_nil) (fun _ _ _ _ _ => ?_)
            · refine si_range1 (by rfl) z.b_range ?_
              refine sa_cons ?_ ?_
              · refine se_callN D__law_pick hr hgu tk (by rfl) ?_
                refine sa_cons ?_ ?_
                · exact se_var 0
                · refine sa_cons ?_ ?_
                  · refine se_lst ?_
                    refine sa_cons ?_ ?_
                    · exact se_int
                    · refine sa_cons ?_ ?_
                      · exact se_int
                      · refine sa_cons ?_ ?_
                        · exact se_int
                        · refine sa_cons ?_ ?_
                          · exact se_int
                          · refine sa_cons ?_ ?_
                            · exact se_int
                            · refine sa_cons ?_ ?_
                              · exact se_int
                              · exact sa_nil
                  · exact sa_nil
              · exact sa_nil
            · exact sgw_name (by decide) sc__law_order.nd (i := 2) rfl (by first | exact .inl rfl | exact .inr rfl)
            · refine se_callN D__law_random ?_ ?_ tk0 (by rfl) ?_
              · exact hr
              · exact hgu
              · refine sa_cons ?_ ?_
                · exact se_var 0
                · refine sa_cons ?_ ?_
                  · exact se_int
                  · exact sa_nil
          · exact sa_nil

abbrev s__law_race : Stmt := topS 60
theorem sc__law_race : FnScope N__law_race ["generator", "deep", "most"] (defScope s__law_race) := ⟨rfl, rfl, rfl, by decide +kernel, rfl, by decide +kernel, by decide +kernel⟩
theorem e__law_race {g__law_random g__law_pick g__law_rule g__law_order : GF} (z : Zc K mg) (y : Yc P K mg) (T : Std K mg "_law_race" s__law_race ["generator", "deep", "most"]) (D__law_random : Def P w K mg base (caK K) "_law_random" ["generator", "bound"] k g__law_random) (D__law_pick : Def P w K mg base (caK K) "_law_pick" ["generator", "things"] k g__law_pick) (D__law_rule : Def P w K mg base (caK K) "_law_rule" ["generator", "deep", "most"] k g__law_rule) (D__law_order : Def P w K mg base (caK K) "_law_order" ["generator"] k g__law_order) : Def P w K mg base (caK K) "_law_race" ["generator", "deep", "most"] (k + 1) (bodyT N__law_race 3 (b__law_race g__law_random g__law_pick g__law_rule g__law_order)) :=
  def_T T sc__law_race fun f cdv A outer s H E hr hgu tk hp => by
    refine sss_cons ?_ ?_
    · refine ss_par3 (i := 3) (j := 4) (l := 5) rfl sc__law_race.nd rfl rfl rfl (by decide) (by decide) (by decide) ?_
      refine sa_cons ?_ ?_
      · refine se_op opd_add ?_ ?_
        · exact se_int
        · refine se_callN D__law_random hr hgu tk (by rfl) ?_
          refine sa_cons ?_ ?_
          · exact se_var 0
          · refine sa_cons ?_ ?_
            · exact se_var 2
            · exact sa_nil
      · refine sa_cons ?_ ?_
        · refine se_callN D__law_pick hr hgu tk (by rfl) ?_
          refine sa_cons ?_ ?_
          · exact se_var 0
          · refine sa_cons ?_ ?_
            · refine se_lst ?_
              refine sa_cons ?_ ?_
              · exact se_int
              · refine sa_cons ?_ ?_
                · exact se_int
                · refine sa_cons ?_ ?_
                  · exact se_int
                  · refine sa_cons ?_ ?_
                    · exact se_int
                    · refine sa_cons ?_ ?_
                      · exact se_int
                      · refine sa_cons ?_ ?_
                        · exact se_int
                        · exact sa_nil
            · exact sa_nil
        · refine sa_cons ?_ sa_nil
          exact se_non
    · refine sss_cons ?_ ?_
      · refine ss_if ?_ ?_ ?_
        · refine st_cmp (opd_eq hr.units) ?_ ?_ (nomark _)
          · refine se_callN D__law_random hr hgu tk (by rfl) ?_
            refine sa_cons ?_ ?_
            · exact se_var 0
            · refine sa_cons ?_ ?_
              · exact se_int
              · exact sa_nil
          · exact se_int
        · refine sss_one ?_
          refine ss_set (i := 5) sc__law_race.nd rfl (by first | exact .inl rfl | exact .inr rfl) ?_
          refine se_op opd_add ?_ ?_
          · exact se_var 3
          · refine se_callN D__law_random hr hgu tk (by rfl) ?_
            refine sa_cons ?_ ?_
            · exact se_var 0
            · refine sa_cons ?_ ?_
              · exact se_int
              · exact sa_nil
        · exact sss_nil
      · refine sss_cons ?_ ?_
        · refine ss_par (i := 6) (j := 7) rfl sc__law_race.nd rfl rfl (by decide) ?_
          refine sa_cons ?_ ?_
          · refine se_lstC ?_
            exact sa_nil
          · refine sa_cons ?_ sa_nil
            refine se_callN D__law_rule hr hgu tk (by rfl) ?_
            refine sa_cons ?_ ?_
            · exact se_var 0
            · refine sa_cons ?_ ?_
              · refine se_op opd_sub ?_ ?_
                · exact se_var 1
                · exact se_int
              · refine sa_cons ?_ ?_
                · exact se_var 2
                · exact sa_nil
        · refine sss_cons ?_ ?_
          · refine ss_for hp rfl ?_ ?_ ?_
            · refine si_range1 (by rfl) z.b_range ?_
              refine sa_cons ?_ ?_
              · refine se_callN D__law_pick hr hgu tk (by rfl) ?_
                refine sa_cons ?_ ?_
                · exact se_var 0
                · refine sa_cons ?_ ?_
                  · refine se_lst ?_
                    refine sa_cons ?_ ?_
                    · exact se_int
                    · refine sa_cons ?_ ?_
                      · exact se_int
                      · refine sa_cons ?_ ?_
                        · exact se_int
                        · refine sa_cons ?_ ?_
                          · exact se_int
                          · refine sa_cons ?_ ?_
                            · exact se_int
                            · exact sa_nil
                  · exact sa_nil
              · exact sa_nil
            · exact sg_name sc__law_race.nd (i := 8) rfl (by first | exact .inl rfl | exact .inr rfl)
            · refine sss_cons ?_ ?_
              · refine ss_set (i := 9) sc__law_race.nd rfl (by first | exact .inl rfl | exact .inr rfl) ?_
                refine se_tup ?_
                refine sa_cons ?_ ?_
                · refine se_callN D__law_random hr hgu tk (by rfl) ?_
                  refine sa_cons ?_ ?_
                  · exact se_var 0
                  · refine sa_cons ?_ ?_
                    · refine se_op opd_add ?_ ?_
                      · exact se_var 3
                      · exact se_int
                    · exact sa_nil
                · refine sa_cons ?_ ?_
                  · refine se_callN D__law_random hr hgu tk (by rfl) ?_
                    refine sa_cons ?_ ?_
                    · exact se_var 0
                    · refine sa_cons ?_ ?_
                      · refine se_op opd_add ?_ ?_
                        · exact se_var 3
                        · exact se_int
                      · exact sa_nil
                  · exact sa_nil
              · refine sss_one ?_
                refine ss_if ?_ ?_ ?_
                · refine st_cmp (opd_notIn (hu65 hr)) ?_ ?_ (by rfl)
                  · exact se_var 9
                  · refine se_lc (own := [("place", 10), ("special", 11)]) rfl sc__law_race.nd ?_ (blkOk_by (by rfl)) (fun _ _ _ _ _ => ?_) (fun _ _ _ _ _ => sts_nil) (fun _ _ _ _ _ => ?_)
                    · refine si_any ?_
                      exact se_var 6
                    · refine sgw_tup rfl ?_
                      refine sgws_cons ?_ ?_
                      · exact sgw_name (by decide) sc__law_race.nd (i := 10) rfl (by first | exact .inl rfl | exact .inr rfl)
                      · refine sgws_cons ?_ sgws_nil
                        exact sgw_name (by decide) sc__law_race.nd (i := 11) rfl (by first | exact .inl rfl | exact .inr rfl)
                    · exact se_var 10
                · refine sss_one ?_
                  refine ss_expr ?_
                  refine se_app1 ?_ ?_
                  · exact se_var 6
                  · refine se_tup ?_
                    refine sa_cons ?_ ?_
                    · exact se_var 9
                    · refine sa_cons ?_ ?_
                      · refine se_callN D__law_rule hr hgu tk (by rfl) ?_
                        refine sa_cons ?_ ?_
                        · exact se_var 0
                        · refine sa_cons ?_ ?_
                          · refine se_op opd_sub ?_ ?_
                            · exact se_var 1
                            · exact se_int
                          · refine sa_cons ?_ ?_
                            · exact se_var 2
                            · exact sa_nil
                      · exact sa_nil
                · exact sss_nil
          · refine sss_one ?_
            refine ss_ret ?_
            refine se_tup ?_
            refine sa_cons ?_ ?_
            · exact se_str
            · refine sa_cons ?_ ?_
              · exact se_var 3
              · refine sa_cons ?_ ?_
                · exact se_var 4
                · refine sa_cons ?_ ?_
                  · exact se_var 5
                  · refine sa_cons ?_ ?_
                    · refine se_callN D__law_order hr hgu tk (by rfl) ?_
                      refine sa_cons ?_ ?_
                      · exact se_var 0
                      · exact sa_nil
                    · refine sa_cons ?_ ?_
                      · exact se_var 7
                      · refine sa_cons ?_ ?_
                        · refine se_callB (cd_sorted (hu66 hr)) (by rfl) z.b_sorted bb_sorted ?_
                          refine sa_cons ?_ ?_
                          · exact se_var 6
                          · exact sa_nil
                        · exact sa_nil

abbrev s__law_rule : Stmt := topS 61
theorem sc__law_rule : FnScope N__law_rule ["generator", "deep", "most"] (defScope s__law_rule) := ⟨rfl, rfl, rfl, by decide +kernel, rfl, by decide +kernel, by decide +kernel⟩
theorem e__law_rule {g__law_random g__law_pick g__law_race : GF} (z : Zc K mg) (y : Yc P K mg) (T : Std K mg "_law_rule" s__law_rule ["generator", "deep", "most"]) (D__law_random : Def P w K mg base (caK K) "_law_random" ["generator", "bound"] k g__law_random) (D__law_pick : Def P w K mg base (caK K) "_law_pick" ["generator", "things"] k g__law_pick) (D__law_race : Def P w K mg base (caK K) "_law_race" ["generator", "deep", "most"] k g__law_race) : Def P w K mg base (caK K) "_law_rule" ["generator", "deep", "most"] (k + 1) (bodyT N__law_rule 3 (b__law_rule g__law_random g__law_pick g__law_race)) :=
  def_T T sc__law_rule fun f cdv A outer s H E hr hgu tk hp => by
    refine sss_cons ?_ ?_
    · refine ss_if ?_ ?_ ?_
      · refine SW.st ?_
        refine sw_or ?_ ?_
        · refine st_cmp (opd_eq hr.units) ?_ ?_ (nomark _)
          · exact se_var 1
          · exact se_int
        · refine sw_or1 ?_
          refine st_cmp (opd_eq hr.units) ?_ ?_ (nomark _)
          · refine se_callN D__law_random hr hgu tk (by rfl) ?_
            refine sa_cons ?_ ?_
            · exact se_var 0
            · refine sa_cons ?_ ?_
              · exact se_int
              · exact sa_nil
          · exact se_int
      · refine sss_one ?_
        refine ss_ret ?_
        refine se_callN D__law_pick hr hgu tk (by rfl) ?_
        refine sa_cons ?_ ?_
        · exact se_var 0
        · refine sa_cons ?_ ?_
          · refine se_lst ?_
            refine sa_cons ?_ ?_
            · refine se_tup ?_
              refine sa_cons ?_ ?_
              · exact se_str
              · exact sa_nil
            · refine sa_cons ?_ ?_
              · refine se_tup ?_
                refine sa_cons ?_ ?_
                · exact se_str
                · exact sa_nil
              · refine sa_cons ?_ ?_
                · refine se_tup ?_
                  refine sa_cons ?_ ?_
                  · exact se_str
                  · exact sa_nil
                · refine sa_cons ?_ ?_
                  · refine se_tup ?_
                    refine sa_cons ?_ ?_
                    · exact se_str
                    · exact sa_nil
                  · exact sa_nil
          · exact sa_nil
      · exact sss_nil
    · refine sss_one ?_
      refine ss_ret ?_
      refine se_callN D__law_race hr hgu tk (by rfl) ?_
      refine sa_cons ?_ ?_
      · exact se_var 0
      · refine sa_cons ?_ ?_
        · exact se_var 1
        · refine sa_cons ?_ ?_
          · exact se_var 2
          · exact sa_nil

abbrev s__law_rallies : Stmt := topS 62
theorem sc__law_rallies : FnScope N__law_rallies ["generator", "many"] (defScope s__law_rallies) := ⟨rfl, rfl, rfl, by decide +kernel, rfl, by decide +kernel, by decide +kernel⟩
theorem e__law_rallies {g__law_pick g__law_random : GF} (z : Zc K mg) (y : Yc P K mg) (T : Std K mg "_law_rallies" s__law_rallies ["generator", "many"]) (D__law_pick : Def P w K mg base (caK K) "_law_pick" ["generator", "things"] k g__law_pick) (D__law_random : Def P w K mg base (caK K) "_law_random" ["generator", "bound"] k g__law_random) : Def P w K mg base (caK K) "_law_rallies" ["generator", "many"] (k + 1) (bodyT N__law_rallies 2 (b__law_rallies g__law_pick g__law_random)) :=
  def_T T sc__law_rallies fun f cdv A outer s H E hr hgu tk hp => by
    refine sss_cons ?_ ?_
    · refine ss_set (i := 2) sc__law_rallies.nd rfl (by first | exact .inl rfl | exact .inr rfl) ?_
      refine se_callN D__law_pick hr hgu tk (by rfl) ?_
      refine sa_cons ?_ ?_
      · exact se_var 0
      · refine sa_cons ?_ ?_
        · refine se_lst ?_
          refine sa_cons ?_ ?_
          · exact se_int
          · refine sa_cons ?_ ?_
            · exact se_int
            · refine sa_cons ?_ ?_
              · exact se_int
              · refine sa_cons ?_ ?_
                · exact se_int
                · refine sa_cons ?_ ?_
                  · exact se_int
                  · refine sa_cons ?_ ?_
                    · exact se_int
                    · exact sa_nil
        · exact sa_nil
    · refine sss_one ?_
      refine ss_ret ?_
      refine se_lc (own := [("rally", 3)]) rfl sc__law_rallies.nd ?_ (blkOk_by (by rfl)) (fun _ _ _ _ _ => ?_) (fun _ _ _ _ _ => sts_nil) (fun _ _ _ _ _ => ?_)
      · refine si_range1 (by rfl) z.b_range ?_
        refine sa_cons ?_ ?_
        · exact se_var 1
        · exact sa_nil
      · exact sgw_name (by decide) sc__law_rallies.nd (i := 3) rfl (by first | exact .inl rfl | exact .inr rfl)
      · refine se_ifExp ?_ ?_ ?_
        · refine st_cmp (opd_eq ?_) ?_ ?_ (nomark _)
          · exact hr.units
          · refine se_callN D__law_random ?_ ?_ tk0 (by rfl) ?_
            · exact hr
            · exact hgu
            · refine sa_cons ?_ ?_
              · exact se_var 0
              · refine sa_cons ?_ ?_
                · exact se_int
                · exact sa_nil
          · exact se_int
        · refine se_callTy cd_int (by rfl) z.b_int bb_int ?_
          refine sa_cons ?_ ?_
          · refine se_cmp (opd_eq ?_) ?_ ?_ (nomark _)
            · exact hr.units
            · refine se_callN D__law_random ?_ ?_ tk0 (by rfl) ?_
              · exact hr
              · exact hgu
              · refine sa_cons ?_ ?_
                · exact se_var 0
                · refine sa_cons ?_ ?_
                  · refine se_op opd_add ?_ ?_
                    · exact se_var 2
                    · exact se_int
                  · exact sa_nil
            · exact se_int
          · exact sa_nil
        · refine se_callN D__law_random ?_ ?_ tk0 (by rfl) ?_
          · exact hr
          · exact hgu
          · refine sa_cons ?_ ?_
            · exact se_var 0
            · refine sa_cons ?_ ?_
              · exact se_int
              · exact sa_nil

abbrev s__law_caught : Stmt := topS 63
theorem sc__law_caught : FnScope N__law_caught ["call"] (defScope s__law_caught) := ⟨rfl, rfl, rfl, by decide +kernel, rfl, by decide +kernel, by decide +kernel⟩
theorem e__law_caught (z : Zc K mg) (y : Yc P K mg) {ω : LW} (T : Std K mg "_law_caught" s__law_caught ["call"]) {Λ : Addr → Thk} {fs : List Addr} (C : ∀ f ∈ fs, Cal P w K mg base (caK K) k ω f (Λ f)) : DefL P w K mg base (caK K) ω "_law_caught" ["call"] (k + 1) (lamF Λ fs g__law_caught) :=
  caught_def (ie := 2) T sc__law_caught rfl rfl rfl rfl rfl rfl rfl rfl y.m_ScoreError (xall_exm y.all) (by decide) (fun f cdv A outer s H E hr hgu tk hp => by
    refine sss_cons ?_ ?_
    · refine ss_if ?_ ?_ ?_
      · refine st_cmp opd_is ?_ ?_ (nomark _)
        · exact se_var 1
        · exact se_non
      · refine sss_one ?_
        refine ss_ret ?_
        refine se_tup ?_
        refine sa_cons ?_ ?_
        · exact se_str
        · refine sa_cons ?_ ?_
          · exact se_non
          · exact sa_nil
      · exact sss_nil
    · refine sss_cons ?_ ?_
      · refine ss_set (i := 3) sc__law_caught.nd rfl (by first | exact .inl rfl | exact .inr rfl) ?_
        refine se_lst ?_
        refine sa_cons ?_ ?_
        · refine se_isX ?_ y.m_InvalidRule (by rfl) (by rfl) z.b_isinstance (xall_kit y.all (by decide))
          exact se_var 1
        · refine sa_cons ?_ ?_
          · refine se_isX ?_ y.m_InvalidSide (by rfl) (by rfl) z.b_isinstance (xall_kit y.all (by decide))
            exact se_var 1
          · refine sa_cons ?_ ?_
            · refine se_isX ?_ y.m_InvalidRallies (by rfl) (by rfl) z.b_isinstance (xall_kit y.all (by decide))
              exact se_var 1
            · refine sa_cons ?_ ?_
              · refine se_isX ?_ y.m_InvalidChance (by rfl) (by rfl) z.b_isinstance (xall_kit y.all (by decide))
                exact se_var 1
              · exact sa_nil
      · refine sss_cons ?_ ?_
        · refine ss_set (i := 3) sc__law_caught.nd rfl (by first | exact .inl rfl | exact .inr rfl) ?_
          refine se_op opd_add ?_ ?_
          · exact se_var 3
          · refine se_lst ?_
            refine sa_cons ?_ ?_
            · refine se_isX ?_ y.m_InvalidStretch (by rfl) (by rfl) z.b_isinstance (xall_kit y.all (by decide))
              exact se_var 1
            · refine sa_cons ?_ ?_
              · refine se_isX ?_ y.m_InvalidLine (by rfl) (by rfl) z.b_isinstance (xall_kit y.all (by decide))
                exact se_var 1
              · refine sa_cons ?_ ?_
                · refine se_isX ?_ y.m_InvalidPolynomial (by rfl) (by rfl) z.b_isinstance (xall_kit y.all (by decide))
                  exact se_var 1
                · refine sa_cons ?_ ?_
                  · refine se_isX ?_ y.m_Ended (by rfl) (by rfl) z.b_isinstance (xall_kit y.all (by decide))
                    exact se_var 1
                  · refine sa_cons ?_ ?_
                    · refine se_isX ?_ y.m_TooMany (by rfl) (by rfl) z.b_isinstance (xall_kit y.all (by decide))
                      exact se_var 1
                    · exact sa_nil
        · refine sss_cons ?_ ?_
          · refine ss_if ?_ ?_ ?_
            · refine st_cmp (opd_ne hr.units) ?_ ?_ (nomark _)
              · refine se_cnt ?_ ?_
                · exact se_var 3
                · exact se_bl
              · exact se_int
            · refine sss_one ?_
              refine ss_ret ?_
              refine se_tup ?_
              refine sa_cons ?_ ?_
              · exact se_str
              · refine sa_cons ?_ ?_
                · exact se_non
                · exact sa_nil
            · exact sss_nil
          · refine sss_one ?_
            refine ss_ret ?_
            refine se_tup ?_
            refine sa_cons ?_ ?_
            · refine se_ix ?_ ?_ (fun _ _ => rfl)
              · refine se_lst ?_
                refine sa_cons ?_ ?_
                · exact se_str
                · refine sa_cons ?_ ?_
                  · exact se_str
                  · refine sa_cons ?_ ?_
                    · exact se_str
                    · refine sa_cons ?_ ?_
                      · exact se_str
                      · refine sa_cons ?_ ?_
                        · exact se_str
                        · refine sa_cons ?_ ?_
                          · exact se_str
                          · refine sa_cons ?_ ?_
                            · exact se_str
                            · refine sa_cons ?_ ?_
                              · exact se_str
                              · refine sa_cons ?_ ?_
                                · exact se_str
                                · exact sa_nil
              · refine se_idx ?_ ?_
                · exact se_var 3
                · exact se_bl
            · refine sa_cons ?_ ?_
              · refine se_xv ?_ (xall_held y.all)
                exact se_var 1
              · exact sa_nil
  ) C
abbrev s__law_refused : Stmt := topS 64
theorem sc__law_refused : FnScope N__law_refused ["call", "word", "value"] (defScope s__law_refused) := ⟨rfl, rfl, rfl, by decide +kernel, rfl, by decide +kernel, by decide +kernel⟩
theorem e__law_refused (z : Zc K mg) (y : Yc P K mg) {ω : LW} (T : Std K mg "_law_refused" s__law_refused ["call", "word", "value"]) {gz : GF} (D_z : DefL P w K mg base (caK K) ω "_law_caught" ["call"] k gz) : DefL P w K mg base (caK K) ω "_law_refused" ["call", "word", "value"] (k + 1) (firstD N__law_refused.length 3 r__law_refused gz) :=
  first_def T sc__law_refused rfl rfl (by decide) (.inl rfl) rfl rfl (by decide) (by decide) (by decide) (fun f cdv A outer s H E hr hgu tk hp => by
    refine sss_one ?_
    refine ss_ret ?_
    refine se_and ?_ ?_
    · refine se_cmp (opd_eq hr.units) ?_ ?_ (nomark _)
      · refine se_ix ?_ ?_ (fun _ _ => rfl)
        · exact se_var 3
        · exact se_int
      · exact se_var 1
    · refine se_one ?_
      refine se_cmp (opd_eq hr.units) ?_ ?_ (nomark _)
      · refine se_callB (cd_reprT hgu (hu65 hr)) (by rfl) z.b_repr bb_repr ?_
        refine sa_cons ?_ ?_
        · refine se_ix ?_ ?_ (fun _ _ => rfl)
          · exact se_var 3
          · exact se_int
        · exact sa_nil
      · refine se_callB (cd_reprT hgu (hu65 hr)) (by rfl) z.b_repr bb_repr ?_
        refine sa_cons ?_ ?_
        · exact se_var 2
        · exact sa_nil
  ) D_z
abbrev s__law_all_refused : Stmt := topS 65
theorem sc__law_all_refused : FnScope N__law_all_refused ["calls", "word", "value"] (defScope s__law_all_refused) := ⟨rfl, rfl, rfl, by decide +kernel, rfl, by decide +kernel, by decide +kernel⟩
theorem e__law_all_refused (z : Zc K mg) (y : Yc P K mg) {ω : LW} (T : Std K mg "_law_all_refused" s__law_all_refused ["calls", "word", "value"]) {gz : GF} (D_z : DefL P w K mg base (caK K) ω "_law_refused" ["call", "word", "value"] k gz) : DefL P w K mg base (caK K) ω "_law_all_refused" ["calls", "word", "value"] (k + 1) (bodyT N__law_all_refused 3 (allB gz)) :=
  all_def (own := [("call", 3)]) T sc__law_all_refused rfl D_z rfl (blkOk_by (by rfl)) (by decide) fun f cdv A outer s H E hr hgu tk hp => by
    refine ⟨?_, fun _ => rfl, fun s1 H1 C cl fp => ⟨?_, ?_, by rfl, rfl, rfl, ?_⟩⟩
    · refine si_any ?_
      exact se_var 0
    · exact sgw_name (by decide) sc__law_all_refused.nd (i := 3) rfl (by first | exact .inl rfl | exact .inr rfl)
    · refine sa_cons ?_ ?_
      · exact se_var 3
      · refine sa_cons ?_ ?_
        · exact se_var 1
        · refine sa_cons ?_ ?_
          · exact se_var 2
          · exact sa_nil
    · exact se_var 3

abbrev s__law_calls : Stmt := topS 66
theorem sc__law_calls : FnScope N__law_calls ["rule", "first", "rallies"] (defScope s__law_calls) := ⟨rfl, rfl, rfl, by decide +kernel, rfl, by decide +kernel, by decide +kernel⟩
theorem e__law_calls (z : Zc K mg) (y : Yc P K mg) {c TP : Addr} (TB : LamX.TabB base mg c TP) (T : StdC K mg "_law_calls" s__law_calls ["rule", "first", "rallies"] c) (B_winner_after : ∀ G : Heap, Def P w K mg G (caK K) "winner_after" ["rule", "first", "rallies"] KB g_winner_after) (B_server_after : ∀ G : Heap, Def P w K mg G (caK K) "server_after" ["rule", "first", "rallies"] KB g_server_after) (B_scores_after : ∀ G : Heap, Def P w K mg G (caK K) "scores_after" ["rule", "first", "rallies"] KB g_scores_after) (B_servers_of : ∀ G : Heap, Def P w K mg G (caK K) "servers_of" ["rule", "first", "rallies"] KB g_servers_of) (B_won_units : ∀ G : Heap, Def P w K mg G (caK K) "won_units" ["rule", "first", "rallies"] KB g_won_units) (B_stakes : ∀ G : Heap, Def P w K mg G (caK K) "stakes" ["rule", "first", "rallies"] KB g_stakes) : Mk P w K mg base (caK K) "_law_calls" ["rule", "first", "rallies"] (k + 1) 0 TP q__law_calls N__law_calls.length (KB + 1) l__law_calls :=
  mk_C T sc__law_calls rfl fun f A outer s H E hr hgu => by
    refine slm_cons (k := KB) TB rfl rfl ⟨LamX.lamS_by (by rfl), rfl, fun _ _ _ _ _ => rfl, fun G A outer s H E f c2 hr hgu tk hp => ?_⟩ ?_
    · refine se_callN (B_winner_after _) hr hgu tk (by rfl) ?_
      refine sa_cons ?_ ?_
      · exact se_var 0
      · refine sa_cons ?_ ?_
        · exact se_var 1
        · refine sa_cons ?_ ?_
          · exact se_var 2
          · exact sa_nil
    · refine slm_cons (k := KB) TB rfl rfl ⟨LamX.lamS_by (by rfl), rfl, fun _ _ _ _ _ => rfl, fun G A outer s H E f c2 hr hgu tk hp => ?_⟩ ?_
      · refine se_callN (B_server_after _) hr hgu tk (by rfl) ?_
        refine sa_cons ?_ ?_
        · exact se_var 0
        · refine sa_cons ?_ ?_
          · exact se_var 1
          · refine sa_cons ?_ ?_
            · exact se_var 2
            · exact sa_nil
      · refine slm_cons (k := KB) TB rfl rfl ⟨LamX.lamS_by (by rfl), rfl, fun _ _ _ _ _ => rfl, fun G A outer s H E f c2 hr hgu tk hp => ?_⟩ ?_
        · refine se_callN (B_scores_after _) hr hgu tk (by rfl) ?_
          refine sa_cons ?_ ?_
          · exact se_var 0
          · refine sa_cons ?_ ?_
            · exact se_var 1
            · refine sa_cons ?_ ?_
              · exact se_var 2
              · exact sa_nil
        · refine slm_cons (k := KB) TB rfl rfl ⟨LamX.lamS_by (by rfl), rfl, fun _ _ _ _ _ => rfl, fun G A outer s H E f c2 hr hgu tk hp => ?_⟩ ?_
          · refine se_callN (B_servers_of _) hr hgu tk (by rfl) ?_
            refine sa_cons ?_ ?_
            · exact se_var 0
            · refine sa_cons ?_ ?_
              · exact se_var 1
              · refine sa_cons ?_ ?_
                · exact se_var 2
                · exact sa_nil
          · refine slm_cons (k := KB) TB rfl rfl ⟨LamX.lamS_by (by rfl), rfl, fun _ _ _ _ _ => rfl, fun G A outer s H E f c2 hr hgu tk hp => ?_⟩ ?_
            · refine se_callN (B_won_units _) hr hgu tk (by rfl) ?_
              refine sa_cons ?_ ?_
              · exact se_var 0
              · refine sa_cons ?_ ?_
                · exact se_var 1
                · refine sa_cons ?_ ?_
                  · exact se_var 2
                  · exact sa_nil
            · refine slm_cons (k := KB) TB rfl rfl ⟨LamX.lamS_by (by rfl), rfl, fun _ _ _ _ _ => rfl, fun G A outer s H E f c2 hr hgu tk hp => ?_⟩ ?_
              · refine se_callN (B_stakes _) hr hgu tk (by rfl) ?_
                refine sa_cons ?_ ?_
                · exact se_var 0
                · refine sa_cons ?_ ?_
                  · exact se_var 1
                  · refine sa_cons ?_ ?_
                    · exact se_var 2
                    · exact sa_nil
              · exact slm_nil (k := KB + 1)

abbrev s_law : Stmt := topS 67
theorem sc_law : FnScope N_law ["script"] (defScope s_law) := ⟨rfl, rfl, rfl, by decide +kernel, rfl, by decide +kernel, by decide +kernel⟩
theorem e_law {g__law_generator g__law_rule g__law_random g__law_rallies : GF} (z : Zc K mg) (y : Yc P K mg) {f : Addr} {fd : FuncData} (F : Fun K "law" "law" s_law f fd) {TP0 : Addr} (D__law_generator : Def P w K mg base (caK K) "_law_generator" ["script", "index"] k g__law_generator) (D__law_rule : Def P w K mg base (caK K) "_law_rule" ["generator", "deep", "most"] k g__law_rule) (D__law_random : Def P w K mg base (caK K) "_law_random" ["generator", "bound"] k g__law_random) (D__law_rallies : Def P w K mg base (caK K) "_law_rallies" ["generator", "many"] k g__law_rallies) (M__law_calls : Mk P w K mg base (caK K) "_law_calls" ["rule", "first", "rallies"] k 0 TP0 q__law_calls N__law_calls.length (KB + 1) l__law_calls) (T__law_all_refused : Std K mg "_law_all_refused" s__law_all_refused ["calls", "word", "value"]) (L__law_all_refused : ∀ (G : Heap) (ω : LW) (fs : List Addr) (hs : List Thk), fs.Nodup → Fa2 (fun f h => Cal P w K mg G (caK K) (KB + 1) ω f h) fs hs → DefL P w K mg G (caK K) ω "_law_all_refused" ["calls", "word", "value"] k (allF g__law_all_refused fs hs)) : FnG P w K mg base (k + 1) f fd ["script"] (spD K (caK K) 1 (bodyD N_law 1 (b_law TP0 g__law_generator g__law_rule g__law_random g__law_rallies))) :=
  law_D F sc_law fun cdv A outer s H E hr hgu tk hp => by
    refine sss_cons ?_ ?_
    · refine ss_set (i := 1) sc_law.nd rfl (by first | exact .inl rfl | exact .inr rfl) ?_
      refine se_callN D__law_generator hr hgu tk (by rfl) ?_
      refine sa_cons ?_ ?_
      · exact se_var 0
      · refine sa_cons ?_ ?_
        · exact se_int
        · exact sa_nil
    · refine sss_cons ?_ ?_
      · refine ss_par (i := 2) (j := 3) rfl sc_law.nd rfl rfl (by decide) ?_
        refine sa_cons ?_ ?_
        · refine se_callN D__law_rule hr hgu tk (by rfl) ?_
          refine sa_cons ?_ ?_
          · exact se_var 1
          · refine sa_cons ?_ ?_
            · exact se_int
            · refine sa_cons ?_ ?_
              · exact se_int
              · exact sa_nil
        · refine sa_cons ?_ sa_nil
          refine se_callN D__law_random hr hgu tk (by rfl) ?_
          refine sa_cons ?_ ?_
          · exact se_var 1
          · refine sa_cons ?_ ?_
            · exact se_int
            · exact sa_nil
      · refine sss_cons ?_ ?_
        · refine ss_set (i := 4) sc_law.nd rfl (by first | exact .inl rfl | exact .inr rfl) ?_
          refine se_callN D__law_rallies hr hgu tk (by rfl) ?_
          refine sa_cons ?_ ?_
          · exact se_var 1
          · refine sa_cons ?_ ?_
            · exact se_int
            · exact sa_nil
        · refine sss_cons ?_ ?_
          · refine ss_set (i := 5) sc_law.nd rfl (by first | exact .inl rfl | exact .inr rfl) ?_
            refine se_callB (cd_reprT hgu (hu65 hr)) (by rfl) z.b_repr bb_repr ?_
            refine sa_cons ?_ ?_
            · refine se_lst ?_
              refine sa_cons ?_ ?_
              · exact se_var 2
              · refine sa_cons ?_ ?_
                · exact se_var 4
                · exact sa_nil
            · exact sa_nil
          · refine sss_cons ?_ ?_
            · refine ss_set (i := 6) sc_law.nd rfl (by first | exact .inl rfl | exact .inr rfl) ?_
              refine se_tup ?_
              refine sa_cons ?_ ?_
              · exact se_str
              · refine sa_cons ?_ ?_
                · exact se_int
                · refine sa_cons ?_ ?_
                  · exact se_int
                  · refine sa_cons ?_ ?_
                    · exact se_non
                    · refine sa_cons ?_ ?_
                      · refine se_tup ?_
                        refine sa_cons ?_ ?_
                        · exact se_str
                        · exact sa_nil
                      · refine sa_cons ?_ ?_
                        · refine se_tup ?_
                          refine sa_cons ?_ ?_
                          · exact se_str
                          · exact sa_nil
                        · refine sa_cons ?_ ?_
                          · refine se_lst ?_
                            exact sa_nil
                          · exact sa_nil
            · refine sss_cons ?_ ?_
              · refine ss_set (i := 7) sc_law.nd rfl (by first | exact .inl rfl | exact .inr rfl) ?_
                refine se_lst ?_
                refine sa_cons ?_ ?_
                · exact se_non
                · refine sa_cons ?_ ?_
                  · exact se_int
                  · refine sa_cons ?_ ?_
                    · exact se_str
                    · refine sa_cons ?_ ?_
                      · refine se_tup ?_
                        refine sa_cons ?_ ?_
                        · exact se_str
                        · refine sa_cons ?_ ?_
                          · exact se_int
                          · exact sa_nil
                      · refine sa_cons ?_ ?_
                        · refine se_callTy cd_list (by rfl) z.b_list bb_list ?_
                          refine sa_cons ?_ ?_
                          · exact se_var 6
                          · exact sa_nil
                        · refine sa_cons ?_ ?_
                          · refine se_slice ?_ ?_ ?_
                            · exact se_var 6
                            · exact so_none
                            · refine so_some ?_
                              exact se_int
                          · refine sa_cons ?_ ?_
                            · refine se_op opd_add ?_ ?_
                              · refine se_tup ?_
                                refine sa_cons ?_ ?_
                                · exact se_str
                                · refine sa_cons ?_ ?_
                                  · exact se_int
                                  · exact sa_nil
                              · refine se_slice ?_ ?_ ?_
                                · exact se_var 6
                                · refine so_some ?_
                                  exact se_int
                                · exact so_none
                            · refine sa_cons ?_ ?_
                              · refine se_op opd_add ?_ ?_
                                · refine se_tup ?_
                                  refine sa_cons ?_ ?_
                                  · exact se_str
                                  · refine sa_cons ?_ ?_
                                    · exact se_int
                                    · refine sa_cons ?_ ?_
                                      · exact se_int
                                      · refine sa_cons ?_ ?_
                                        · exact se_int
                                        · exact sa_nil
                                · refine se_slice ?_ ?_ ?_
                                  · exact se_var 6
                                  · refine so_some ?_
                                    exact se_int
                                  · exact so_none
                              · exact sa_nil
              · refine sss_cons ?_ ?_
                · refine ss_for hp rfl ?_ ?_ ?_
                  · refine si_any ?_
                    refine se_op opd_add ?_ ?_
                    · exact se_var 7
                    · refine se_lst ?_
                      refine sa_cons ?_ ?_
                      · refine se_op opd_add ?_ ?_
                        · refine se_op opd_add ?_ ?_
                          · refine se_slice ?_ ?_ ?_
                            · exact se_var 6
                            · exact so_none
                            · refine so_some ?_
                              exact se_int
                          · refine se_tup ?_
                            refine sa_cons ?_ ?_
                            · exact se_str
                            · exact sa_nil
                        · refine se_slice ?_ ?_ ?_
                          · exact se_var 6
                          · refine so_some ?_
                            exact se_int
                          · exact so_none
                      · refine sa_cons ?_ ?_
                        · refine se_op opd_add ?_ ?_
                          · refine se_slice ?_ ?_ ?_
                            · exact se_var 6
                            · exact so_none
                            · refine so_some ?_
                              exact se_int
                          · refine se_tup ?_
                            refine sa_cons ?_ ?_
                            · refine se_tup ?_
                              refine sa_cons ?_ ?_
                              · exact se_str
                              · exact sa_nil
                            · refine sa_cons ?_ ?_
                              · refine se_lst ?_
                                exact sa_nil
                              · exact sa_nil
                        · refine sa_cons ?_ ?_
                          · refine se_op opd_add ?_ ?_
                            · refine se_slice ?_ ?_ ?_
                              · exact se_var 6
                              · exact so_none
                              · refine so_some ?_
                                exact se_int
                            · refine se_tup ?_
                              refine sa_cons ?_ ?_
                              · exact se_non
                              · exact sa_nil
                          · exact sa_nil
                  · exact sg_name sc_law.nd (i := 8) rfl (by first | exact .inl rfl | exact .inr rfl)
                  · refine sss_one ?_
                    refine ss_if ?_ ?_ ?_
                    · refine SW.st ?_
                      refine sw_or ?_ ?_
                      · refine st_not ?_
                        refine st_val ?_
                        refine se_mk M__law_calls (L__law_all_refused) rfl rfl hr hr hgu tk (by rfl) (by rfl) ?_ (stl_str (stl_var 8 stl_nil)) T__law_all_refused.there (by decide) (by decide) (by rfl) (by rfl) (by rfl) (by rfl)
                        refine sa_cons ?_ ?_
                        · exact se_var 8
                        · refine sa_cons ?_ ?_
                          · exact se_non
                          · refine sa_cons ?_ ?_
                            · exact se_non
                            · exact sa_nil
                      · refine sw_or1 ?_
                        refine st_not ?_
                        refine st_val ?_
                        refine se_mk M__law_calls (L__law_all_refused) rfl rfl hr hr hgu tk (by rfl) (by rfl) ?_ (stl_str (stl_var 8 stl_nil)) T__law_all_refused.there (by decide) (by decide) (by rfl) (by rfl) (by rfl) (by rfl)
                        refine sa_cons ?_ ?_
                        · exact se_var 8
                        · refine sa_cons ?_ ?_
                          · exact se_var 3
                          · refine sa_cons ?_ ?_
                            · exact se_var 4
                            · exact sa_nil
                    · refine sss_one ?_
                      refine ss_ret ?_
                      exact se_bl
                    · exact sss_nil
                · refine sss_cons ?_ ?_
                  · refine ss_for hp rfl ?_ ?_ ?_
                    · refine si_any ?_
                      refine se_lst ?_
                      refine sa_cons ?_ ?_
                      · exact se_non
                      · refine sa_cons ?_ ?_
                        · exact se_int
                        · refine sa_cons ?_ ?_
                          · refine se_op opd_sub ?_ ?_
                            · exact se_int
                            · exact se_int
                          · refine sa_cons ?_ ?_
                            · exact se_bl
                            · refine sa_cons ?_ ?_
                              · exact se_bl
                              · refine sa_cons ?_ ?_
                                · exact se_str
                                · refine sa_cons ?_ ?_
                                  · refine se_tup ?_
                                    refine sa_cons ?_ ?_
                                    · exact se_int
                                    · exact sa_nil
                                  · refine sa_cons ?_ ?_
                                    · refine se_lst ?_
                                      refine sa_cons ?_ ?_
                                      · exact se_int
                                      · exact sa_nil
                                    · exact sa_nil
                    · exact sg_name sc_law.nd (i := 8) rfl (by first | exact .inl rfl | exact .inr rfl)
                    · refine sss_one ?_
                      refine ss_if ?_ ?_ ?_
                      · refine SW.st ?_
                        refine sw_or ?_ ?_
                        · refine st_not ?_
                          refine st_val ?_
                          refine se_mk M__law_calls (L__law_all_refused) rfl rfl hr hr hgu tk (by rfl) (by rfl) ?_ (stl_str (stl_var 8 stl_nil)) T__law_all_refused.there (by decide) (by decide) (by rfl) (by rfl) (by rfl) (by rfl)
                          refine sa_cons ?_ ?_
                          · exact se_var 2
                          · refine sa_cons ?_ ?_
                            · exact se_var 8
                            · refine sa_cons ?_ ?_
                              · exact se_non
                              · exact sa_nil
                        · refine sw_or1 ?_
                          refine st_not ?_
                          refine st_val ?_
                          refine se_mk M__law_calls (L__law_all_refused) rfl rfl hr hr hgu tk (by rfl) (by rfl) ?_ (stl_str (stl_var 8 stl_nil)) T__law_all_refused.there (by decide) (by decide) (by rfl) (by rfl) (by rfl) (by rfl)
                          refine sa_cons ?_ ?_
                          · exact se_var 2
                          · refine sa_cons ?_ ?_
                            · exact se_var 8
                            · refine sa_cons ?_ ?_
                              · exact se_var 4
                              · exact sa_nil
                      · refine sss_one ?_
                        refine ss_ret ?_
                        exact se_bl
                      · exact sss_nil
                  · refine sss_cons ?_ ?_
                    · refine ss_for hp rfl ?_ ?_ ?_
                      · refine si_any ?_
                        refine se_lst ?_
                        refine sa_cons ?_ ?_
                        · exact se_non
                        · refine sa_cons ?_ ?_
                          · exact se_int
                          · refine sa_cons ?_ ?_
                            · refine se_callTy cd_tuple (by rfl) z.b_tuple bb_tuple ?_
                              refine sa_cons ?_ ?_
                              · exact se_var 4
                              · exact sa_nil
                            · refine sa_cons ?_ ?_
                              · exact se_str
                              · refine sa_cons ?_ ?_
                                · refine se_op opd_add ?_ ?_
                                  · exact se_var 4
                                  · refine se_lst ?_
                                    refine sa_cons ?_ ?_
                                    · exact se_int
                                    · exact sa_nil
                                · refine sa_cons ?_ ?_
                                  · refine se_op opd_add ?_ ?_
                                    · refine se_lst ?_
                                      refine sa_cons ?_ ?_
                                      · exact se_bl
                                      · exact sa_nil
                                    · exact se_var 4
                                  · refine sa_cons ?_ ?_
                                    · refine se_op opd_add ?_ ?_
                                      · refine se_op opd_add ?_ ?_
                                        · refine se_slice ?_ ?_ ?_
                                          · exact se_var 4
                                          · exact so_none
                                          · refine so_some ?_
                                            exact se_int
                                        · refine se_lst ?_
                                          refine sa_cons ?_ ?_
                                          · exact se_non
                                          · exact sa_nil
                                      · refine se_slice ?_ ?_ ?_
                                        · exact se_var 4
                                        · refine so_some ?_
                                          exact se_int
                                        · exact so_none
                                    · refine sa_cons ?_ ?_
                                      · refine se_lst ?_
                                        refine sa_cons ?_ ?_
                                        · refine se_lst ?_
                                          refine sa_cons ?_ ?_
                                          · exact se_int
                                          · exact sa_nil
                                        · exact sa_nil
                                      · refine sa_cons ?_ ?_
                                        · exact se_dict0
                                        · refine sa_cons ?_ ?_
                                          · refine se_lst ?_
                                            refine sa_cons ?_ ?_
                                            · refine se_op opd_sub ?_ ?_
                                              · exact se_int
                                              · exact se_int
                                            · exact sa_nil
                                          · exact sa_nil
                      · exact sg_name sc_law.nd (i := 8) rfl (by first | exact .inl rfl | exact .inr rfl)
                      · refine sss_one ?_
                        refine ss_if ?_ ?_ ?_
                        · refine st_not ?_
                          refine st_val ?_
                          refine se_mk M__law_calls (L__law_all_refused) rfl rfl hr hr hgu tk (by rfl) (by rfl) ?_ (stl_str (stl_var 8 stl_nil)) T__law_all_refused.there (by decide) (by decide) (by rfl) (by rfl) (by rfl) (by rfl)
                          refine sa_cons ?_ ?_
                          · exact se_var 2
                          · refine sa_cons ?_ ?_
                            · exact se_var 3
                            · refine sa_cons ?_ ?_
                              · exact se_var 8
                              · exact sa_nil
                        · refine sss_one ?_
                          refine ss_ret ?_
                          exact se_bl
                        · exact sss_nil
                    · refine sss_cons ?_ ?_
                      · refine ss_if ?_ ?_ ?_
                        · refine SW.st ?_
                          refine sw_or ?_ ?_
                          · refine st_not ?_
                            refine st_val ?_
                            refine se_mk M__law_calls (L__law_all_refused) rfl rfl hr hr hgu tk (by rfl) (by rfl) ?_ (stl_str (stl_int stl_nil)) T__law_all_refused.there (by decide) (by decide) (by rfl) (by rfl) (by rfl) (by rfl)
                            refine sa_cons ?_ ?_
                            · refine se_tup ?_
                              refine sa_cons ?_ ?_
                              · exact se_str
                              · exact sa_nil
                            · refine sa_cons ?_ ?_
                              · exact se_var 3
                              · refine sa_cons ?_ ?_
                                · refine se_lst ?_
                                  refine sa_cons ?_ ?_
                                  · exact se_int
                                  · refine sa_cons ?_ ?_
                                    · exact se_int
                                    · refine sa_cons ?_ ?_
                                      · exact se_int
                                      · exact sa_nil
                                · exact sa_nil
                          · refine sw_or1 ?_
                            refine st_not ?_
                            refine st_val ?_
                            refine se_mk M__law_calls (L__law_all_refused) rfl rfl hr hr hgu tk (by rfl) (by rfl) ?_ (stl_str (stl_int stl_nil)) T__law_all_refused.there (by decide) (by decide) (by rfl) (by rfl) (by rfl) (by rfl)
                            refine sa_cons ?_ ?_
                            · exact se_var 6
                            · refine sa_cons ?_ ?_
                              · exact se_var 3
                              · refine sa_cons ?_ ?_
                                · refine se_op opd_add ?_ ?_
                                  · refine se_lst ?_
                                    refine sa_cons ?_ ?_
                                    · exact se_int
                                    · refine sa_cons ?_ ?_
                                      · exact se_int
                                      · exact sa_nil
                                  · refine se_slice ?_ ?_ ?_
                                    · exact se_var 4
                                    · exact so_none
                                    · refine so_some ?_
                                      exact se_int
                                · exact sa_nil
                        · refine sss_one ?_
                          refine ss_ret ?_
                          exact se_bl
                        · exact sss_nil
                      · refine sss_one ?_
                        refine ss_ret ?_
                        refine se_cmp (opd_eq hr.units) ?_ ?_ (nomark _)
                        · refine se_callB (cd_reprT hgu (hu65 hr)) (by rfl) z.b_repr bb_repr ?_
                          refine sa_cons ?_ ?_
                          · refine se_lst ?_
                            refine sa_cons ?_ ?_
                            · exact se_var 2
                            · refine sa_cons ?_ ?_
                              · exact se_var 4
                              · exact sa_nil
                          · exact sa_nil
                        · exact se_var 5

theorem all_defs (z : Zc K mg) (y : Yc P K mg)
    {c0 TP0 : Addr} (TB0 : LamX.TabB base mg c0 TP0) (C__law_calls : StdC K mg "_law_calls" s__law_calls ["rule", "first", "rallies"] c0)
    (T_is_whole : Std K mg "is_whole" s_is_whole ["value"])
    (T_is_count : Std K mg "is_count" s_is_count ["value"])
    (T_is_between : Std K mg "is_between" s_is_between ["value", "low", "high"])
    (T_is_side : Std K mg "is_side" s_is_side ["value"])
    (T_are_rallies : Std K mg "are_rallies" s_are_rallies ["value"])
    (T_is_word : Std K mg "is_word" s_is_word ["value", "word"])
    (T_is_order : Std K mg "is_order" s_is_order ["value"])
    (T_are_numbers_of_race : Std K mg "are_numbers_of_race" s_are_numbers_of_race ["need", "lead", "cap"])
    (T_is_score : Std K mg "is_score" s_is_score ["value"])
    (T_is_special : Std K mg "is_special" s_is_special ["value", "deep"])
    (T_are_specials : Std K mg "are_specials" s_are_specials ["value", "deep"])
    (T_is_rule_within : Std K mg "is_rule_within" s_is_rule_within ["value", "deep"])
    (T_is_rule : Std K mg "is_rule" s_is_rule ["value"])
    (T_check_rule : Std K mg "check_rule" s_check_rule ["rule"])
    (T_check_side : Std K mg "check_side" s_check_side ["side"])
    (T_check_rallies : Std K mg "check_rallies" s_check_rallies ["rallies"])
    (T_unit_of : Std K mg "unit_of" s_unit_of ["rule", "score"])
    (T_begun : Std K mg "begun" s_begun ["rule", "side"])
    (T_is_won : Std K mg "is_won" s_is_won ["rule", "score"])
    (T_next_turn : Std K mg "next_turn" s_next_turn ["rule", "state", "score", "winner", "hands"])
    (T_led_race : Std K mg "led_race" s_led_race ["rule", "state", "side"])
    (T_led : Std K mg "led" s_led ["rule", "state", "side"])
    (T_server_in : Std K mg "server_in" s_server_in ["state"])
    (T_led_by : Std K mg "led_by" s_led_by ["rule", "first", "rallies"])
    (T_check_match : Std K mg "check_match" s_check_match ["rule", "first", "rallies"])
    (T_behind : Std K mg "behind" s_behind ["rule", "first", "rallies"])
    (T_going_on : Std K mg "going_on" s_going_on ["rule", "first", "rallies"])
    (T_winner_after : Std K mg "winner_after" s_winner_after ["rule", "first", "rallies"])
    (T_server_after : Std K mg "server_after" s_server_after ["rule", "first", "rallies"])
    (T_scores_after : Std K mg "scores_after" s_scores_after ["rule", "first", "rallies"])
    (T_servers_of : Std K mg "servers_of" s_servers_of ["rule", "first", "rallies"])
    (T_won_units : Std K mg "won_units" s_won_units ["rule", "first", "rallies"])
    (T_stakes : Std K mg "stakes" s_stakes ["rule", "first", "rallies"])
    (T__law_hash : Std K mg "_law_hash" s__law_hash ["seed", "index"])
    (T__law_random : Std K mg "_law_random" s__law_random ["generator", "bound"])
    (T__law_cell : Std K mg "_law_cell" s__law_cell ["script", "index"])
    (T__law_generator : Std K mg "_law_generator" s__law_generator ["script", "index"])
    (T__law_pick : Std K mg "_law_pick" s__law_pick ["generator", "things"])
    (T__law_order : Std K mg "_law_order" s__law_order ["generator"])
    (T__law_race : Std K mg "_law_race" s__law_race ["generator", "deep", "most"])
    (T__law_rule : Std K mg "_law_rule" s__law_rule ["generator", "deep", "most"])
    (T__law_rallies : Std K mg "_law_rallies" s__law_rallies ["generator", "many"])
    (T__law_caught : Std K mg "_law_caught" s__law_caught ["call"])
    (T__law_refused : Std K mg "_law_refused" s__law_refused ["call", "word", "value"])
    (T__law_all_refused : Std K mg "_law_all_refused" s__law_all_refused ["calls", "word", "value"]) {f : Addr} {fd : FuncData} (F : Fun K "law" "law" s_law f fd) : FnG P w K mg base 44 f fd ["script"] (spD K (caK K) 1 (g_law TP0)) := by
  have d_is_whole : ∀ G : Heap, Def P w K mg G (caK K) "is_whole" ["value"] 1 g_is_whole := fun G => e_is_whole (k := 0) z y T_is_whole
  have d_is_count : ∀ G : Heap, Def P w K mg G (caK K) "is_count" ["value"] 2 g_is_count := fun G => e_is_count (k := 1) z y T_is_count ((d_is_whole G).mono (by first | decide | omega))
  have d_is_between : ∀ G : Heap, Def P w K mg G (caK K) "is_between" ["value", "low", "high"] 2 g_is_between := fun G => e_is_between (k := 1) z y T_is_between ((d_is_whole G).mono (by first | decide | omega))
  have d_is_side : ∀ G : Heap, Def P w K mg G (caK K) "is_side" ["value"] 3 g_is_side := fun G => e_is_side (k := 2) z y T_is_side ((d_is_between G).mono (by first | decide | omega))
  have d_are_rallies : ∀ G : Heap, Def P w K mg G (caK K) "are_rallies" ["value"] 4 g_are_rallies := fun G => e_are_rallies (k := 3) z y T_are_rallies ((d_is_side G).mono (by first | decide | omega))
  have d_is_word : ∀ G : Heap, Def P w K mg G (caK K) "is_word" ["value", "word"] 1 g_is_word := fun G => e_is_word (k := 0) z y T_is_word
  have d_is_order : ∀ G : Heap, Def P w K mg G (caK K) "is_order" ["value"] 4 g_is_order := fun G => e_is_order (k := 3) z y T_is_order ((d_is_word G).mono (by first | decide | omega)) ((d_is_side G).mono (by first | decide | omega))
  have d_are_numbers_of_race : ∀ G : Heap, Def P w K mg G (caK K) "are_numbers_of_race" ["need", "lead", "cap"] 3 g_are_numbers_of_race := fun G => e_are_numbers_of_race (k := 2) z y T_are_numbers_of_race ((d_is_between G).mono (by first | decide | omega))
  have d_is_score : ∀ G : Heap, Def P w K mg G (caK K) "is_score" ["value"] 3 g_is_score := fun G => e_is_score (k := 2) z y T_is_score ((d_is_count G).mono (by first | decide | omega))
  have r_is_special : ∀ G : Heap, ∀ n : Nat, Def P w K mg G (caK K) "is_special" ["value", "deep"] (4 + n) (g_is_special n) ∧ Def P w K mg G (caK K) "are_specials" ["value", "deep"] (4 + n) (g_are_specials n) ∧ Def P w K mg G (caK K) "is_rule_within" ["value", "deep"] (4 + n) (g_is_rule_within n) := by
    intro G n
    induction n with
    | zero => exact ⟨T_is_special.never, T_are_specials.never, T_is_rule_within.never⟩
    | succ n ih => exact ⟨e_is_special (k := 4 + n) z y T_is_special ((d_is_score G).mono (by first | decide | omega)) ih.2.2, e_are_specials (k := 4 + n) z y T_are_specials ih.1, e_is_rule_within (k := 4 + n) z y T_is_rule_within ((d_is_word G).mono (by first | decide | omega)) ((d_are_numbers_of_race G).mono (by first | decide | omega)) ((d_is_order G).mono (by first | decide | omega)) ih.2.2 ih.2.1⟩
  have d_is_special : ∀ G : Heap, Def P w K mg G (caK K) "is_special" ["value", "deep"] 20 (g_is_special 16) := fun G => (r_is_special G 16).1
  have d_are_specials : ∀ G : Heap, Def P w K mg G (caK K) "are_specials" ["value", "deep"] 20 (g_are_specials 16) := fun G => (r_is_special G 16).2.1
  have d_is_rule_within : ∀ G : Heap, Def P w K mg G (caK K) "is_rule_within" ["value", "deep"] 20 (g_is_rule_within 16) := fun G => (r_is_special G 16).2.2
  have d_is_rule : ∀ G : Heap, Def P w K mg G (caK K) "is_rule" ["value"] 21 g_is_rule := fun G => e_is_rule (k := 20) z y T_is_rule ((d_is_rule_within G).mono (by first | decide | omega))
  have d_check_rule : ∀ G : Heap, Def P w K mg G (caK K) "check_rule" ["rule"] 22 g_check_rule := fun G => e_check_rule (k := 21) z y T_check_rule (by decide) ((d_is_rule G).mono (by first | decide | omega))
  have d_check_side : ∀ G : Heap, Def P w K mg G (caK K) "check_side" ["side"] 4 g_check_side := fun G => e_check_side (k := 3) z y T_check_side (by decide) ((d_is_side G).mono (by first | decide | omega))
  have d_check_rallies : ∀ G : Heap, Def P w K mg G (caK K) "check_rallies" ["rallies"] 5 g_check_rallies := fun G => e_check_rallies (k := 4) z y T_check_rallies (by decide) ((d_are_rallies G).mono (by first | decide | omega))
  have d_unit_of : ∀ G : Heap, Def P w K mg G (caK K) "unit_of" ["rule", "score"] 1 g_unit_of := fun G => e_unit_of (k := 0) z y T_unit_of
  have r_begun : ∀ G : Heap, ∀ n : Nat, Def P w K mg G (caK K) "begun" ["rule", "side"] (1 + n) (g_begun n) := by
    intro G n
    induction n with
    | zero => exact T_begun.never
    | succ n ih => exact e_begun (k := 1 + n) z y T_begun ih ((d_unit_of G).mono (by first | decide | omega))
  have d_begun : ∀ G : Heap, Def P w K mg G (caK K) "begun" ["rule", "side"] 17 (g_begun 16) := fun G => (r_begun G 16)
  have d_is_won : ∀ G : Heap, Def P w K mg G (caK K) "is_won" ["rule", "score"] 1 g_is_won := fun G => e_is_won (k := 0) z y T_is_won
  have d_next_turn : ∀ G : Heap, Def P w K mg G (caK K) "next_turn" ["rule", "state", "score", "winner", "hands"] 1 g_next_turn := fun G => e_next_turn (k := 0) z y T_next_turn
  have r_led_race : ∀ G : Heap, ∀ n : Nat, Def P w K mg G (caK K) "led_race" ["rule", "state", "side"] (17 + n) (g_led_race n) ∧ Def P w K mg G (caK K) "led" ["rule", "state", "side"] (17 + n) (g_led n) := by
    intro G n
    induction n with
    | zero => exact ⟨T_led_race.never, T_led.never⟩
    | succ n ih => exact ⟨e_led_race (k := 17 + n) z y T_led_race ih.2 ((d_unit_of G).mono (by first | decide | omega)) ((d_next_turn G).mono (by first | decide | omega)) ((d_is_won G).mono (by first | decide | omega)) ((d_begun G).mono (by first | decide | omega)), e_led (k := 17 + n) z y T_led ih.1⟩
  have d_led_race : ∀ G : Heap, Def P w K mg G (caK K) "led_race" ["rule", "state", "side"] 33 (g_led_race 16) := fun G => (r_led_race G 16).1
  have d_led : ∀ G : Heap, Def P w K mg G (caK K) "led" ["rule", "state", "side"] 33 (g_led 16) := fun G => (r_led_race G 16).2
  have d_server_in : ∀ G : Heap, Def P w K mg G (caK K) "server_in" ["state"] 1 g_server_in := fun G => e_server_in (k := 0) z y T_server_in
  have d_led_by : ∀ G : Heap, Def P w K mg G (caK K) "led_by" ["rule", "first", "rallies"] 34 g_led_by := fun G => e_led_by (k := 33) z y T_led_by ((d_begun G).mono (by first | decide | omega)) ((d_led G).mono (by first | decide | omega))
  have d_check_match : ∀ G : Heap, Def P w K mg G (caK K) "check_match" ["rule", "first", "rallies"] 23 g_check_match := fun G => e_check_match (k := 22) z y T_check_match ((d_check_rule G).mono (by first | decide | omega)) ((d_check_side G).mono (by first | decide | omega)) ((d_check_rallies G).mono (by first | decide | omega))
  have d_behind : ∀ G : Heap, Def P w K mg G (caK K) "behind" ["rule", "first", "rallies"] 35 g_behind := fun G => e_behind (k := 34) z y T_behind (by decide) ((d_led_by G).mono (by first | decide | omega))
  have d_going_on : ∀ G : Heap, Def P w K mg G (caK K) "going_on" ["rule", "first", "rallies"] 36 g_going_on := fun G => e_going_on (k := 35) z y T_going_on (by decide) ((d_behind G).mono (by first | decide | omega))
  have d_winner_after : ∀ G : Heap, Def P w K mg G (caK K) "winner_after" ["rule", "first", "rallies"] 36 g_winner_after := fun G => e_winner_after (k := 35) z y T_winner_after ((d_check_match G).mono (by first | decide | omega)) ((d_behind G).mono (by first | decide | omega))
  have d_server_after : ∀ G : Heap, Def P w K mg G (caK K) "server_after" ["rule", "first", "rallies"] 37 g_server_after := fun G => e_server_after (k := 36) z y T_server_after ((d_check_match G).mono (by first | decide | omega)) ((d_server_in G).mono (by first | decide | omega)) ((d_going_on G).mono (by first | decide | omega))
  have d_scores_after : ∀ G : Heap, Def P w K mg G (caK K) "scores_after" ["rule", "first", "rallies"] 36 g_scores_after := fun G => e_scores_after (k := 35) z y T_scores_after ((d_check_match G).mono (by first | decide | omega)) ((d_behind G).mono (by first | decide | omega))
  have d_servers_of : ∀ G : Heap, Def P w K mg G (caK K) "servers_of" ["rule", "first", "rallies"] 36 g_servers_of := fun G => e_servers_of (k := 35) z y T_servers_of ((d_check_match G).mono (by first | decide | omega)) ((d_behind G).mono (by first | decide | omega))
  have d_won_units : ∀ G : Heap, Def P w K mg G (caK K) "won_units" ["rule", "first", "rallies"] 36 g_won_units := fun G => e_won_units (k := 35) z y T_won_units ((d_check_match G).mono (by first | decide | omega)) ((d_behind G).mono (by first | decide | omega))
  have d_stakes : ∀ G : Heap, Def P w K mg G (caK K) "stakes" ["rule", "first", "rallies"] 37 g_stakes := fun G => e_stakes (k := 36) z y T_stakes ((d_check_match G).mono (by first | decide | omega)) ((d_going_on G).mono (by first | decide | omega))
  have d__law_hash : ∀ G : Heap, Def P w K mg G (caK K) "_law_hash" ["seed", "index"] 1 g__law_hash := fun G => e__law_hash (k := 0) z y T__law_hash
  have d__law_random : ∀ G : Heap, Def P w K mg G (caK K) "_law_random" ["generator", "bound"] 2 g__law_random := fun G => e__law_random (k := 1) z y T__law_random ((d__law_hash G).mono (by first | decide | omega))
  have d__law_cell : ∀ G : Heap, Def P w K mg G (caK K) "_law_cell" ["script", "index"] 1 g__law_cell := fun G => e__law_cell (k := 0) z y T__law_cell
  have d__law_generator : ∀ G : Heap, Def P w K mg G (caK K) "_law_generator" ["script", "index"] 2 g__law_generator := fun G => e__law_generator (k := 1) z y T__law_generator ((d__law_cell G).mono (by first | decide | omega))
  have d__law_pick : ∀ G : Heap, Def P w K mg G (caK K) "_law_pick" ["generator", "things"] 3 g__law_pick := fun G => e__law_pick (k := 2) z y T__law_pick ((d__law_random G).mono (by first | decide | omega))
  have d__law_order : ∀ G : Heap, Def P w K mg G (caK K) "_law_order" ["generator"] 4 g__law_order := fun G => e__law_order (k := 3) z y T__law_order ((d__law_pick G).mono (by first | decide | omega)) ((d__law_random G).mono (by first | decide | omega))
  have r__law_race : ∀ G : Heap, ∀ n : Nat, Def P w K mg G (caK K) "_law_race" ["generator", "deep", "most"] (4 + n) (g__law_race n) ∧ Def P w K mg G (caK K) "_law_rule" ["generator", "deep", "most"] (4 + n) (g__law_rule n) := by
    intro G n
    induction n with
    | zero => exact ⟨T__law_race.never, T__law_rule.never⟩
    | succ n ih => exact ⟨e__law_race (k := 4 + n) z y T__law_race ((d__law_random G).mono (by first | decide | omega)) ((d__law_pick G).mono (by first | decide | omega)) ih.2 ((d__law_order G).mono (by first | decide | omega)), e__law_rule (k := 4 + n) z y T__law_rule ((d__law_random G).mono (by first | decide | omega)) ((d__law_pick G).mono (by first | decide | omega)) ih.1⟩
  have d__law_race : ∀ G : Heap, Def P w K mg G (caK K) "_law_race" ["generator", "deep", "most"] 20 (g__law_race 16) := fun G => (r__law_race G 16).1
  have d__law_rule : ∀ G : Heap, Def P w K mg G (caK K) "_law_rule" ["generator", "deep", "most"] 20 (g__law_rule 16) := fun G => (r__law_race G 16).2
  have d__law_rallies : ∀ G : Heap, Def P w K mg G (caK K) "_law_rallies" ["generator", "many"] 4 g__law_rallies := fun G => e__law_rallies (k := 3) z y T__law_rallies ((d__law_pick G).mono (by first | decide | omega)) ((d__law_random G).mono (by first | decide | omega))
  have l__law_caught : ∀ (G : Heap) (ω : LW) (fs : List Addr) (Λ : Addr → Thk), (∀ f ∈ fs, Cal P w K mg G (caK K) (KB + 1) ω f (Λ f)) → DefL P w K mg G (caK K) ω "_law_caught" ["call"] (KB + 2) (lamF Λ fs g__law_caught) := fun G ω fs Λ C => e__law_caught z y T__law_caught C
  have l__law_refused : ∀ (G : Heap) (ω : LW) (fs : List Addr) (Λ : Addr → Thk), (∀ f ∈ fs, Cal P w K mg G (caK K) (KB + 1) ω f (Λ f)) → DefL P w K mg G (caK K) ω "_law_refused" ["call", "word", "value"] (KB + 3) (firstD N__law_refused.length 3 r__law_refused (lamF Λ fs g__law_caught)) := fun G ω fs Λ C => e__law_refused z y T__law_refused (l__law_caught G ω fs Λ C)
  have l__law_all_refused : ∀ (G : Heap) (ω : LW) (fs : List Addr) (Λ : Addr → Thk), (∀ f ∈ fs, Cal P w K mg G (caK K) (KB + 1) ω f (Λ f)) → DefL P w K mg G (caK K) ω "_law_all_refused" ["calls", "word", "value"] (KB + 4) (bodyT N__law_all_refused 3 (allB (firstD N__law_refused.length 3 r__law_refused (lamF Λ fs g__law_caught)))) := fun G ω fs Λ C => e__law_all_refused z y T__law_all_refused (l__law_refused G ω fs Λ C)
  have m__law_calls : Mk P w K mg base (caK K) "_law_calls" ["rule", "first", "rallies"] (KB + 4) 0 TP0 q__law_calls N__law_calls.length (KB + 1) l__law_calls := e__law_calls (k := KB + 3) z y TB0 C__law_calls (fun G => ((d_winner_after G).mono (by first | decide | omega))) (fun G => ((d_server_after G).mono (by first | decide | omega))) (fun G => ((d_scores_after G).mono (by first | decide | omega))) (fun G => ((d_servers_of G).mono (by first | decide | omega))) (fun G => ((d_won_units G).mono (by first | decide | omega))) (fun G => ((d_stakes G).mono (by first | decide | omega)))
  exact e_law (k := 43) z y F ((d__law_generator base).mono (by first | decide | omega)) ((d__law_rule base).mono (by first | decide | omega)) ((d__law_random base).mono (by first | decide | omega)) ((d__law_rallies base).mono (by first | decide | omega)) (m__law_calls.mono (by decide)) T__law_all_refused (fun G ω fs hs nd C => (all_L rfl (fun fs Λ c => l__law_all_refused G ω fs Λ c) nd C).mono (by decide))
end
abbrev i_InvalidRule : Stmt := inS (topS 2)
theorem it_InvalidRule : InitT i_InvalidRule := ⟨⟨_, _, _, _, _, _, _, _, _, _, rfl, fun _ => ⟨_, rfl⟩⟩, ⟨rfl, rfl, rfl, rfl⟩, fun y h => free_by (by rfl) h, by decide +kernel, rfl, rfl, rfl, ⟨_, rfl, rfl⟩⟩
abbrev i_InvalidSide : Stmt := inS (topS 3)
theorem it_InvalidSide : InitT i_InvalidSide := ⟨⟨_, _, _, _, _, _, _, _, _, _, rfl, fun _ => ⟨_, rfl⟩⟩, ⟨rfl, rfl, rfl, rfl⟩, fun y h => free_by (by rfl) h, by decide +kernel, rfl, rfl, rfl, ⟨_, rfl, rfl⟩⟩
abbrev i_InvalidRallies : Stmt := inS (topS 4)
theorem it_InvalidRallies : InitT i_InvalidRallies := ⟨⟨_, _, _, _, _, _, _, _, _, _, rfl, fun _ => ⟨_, rfl⟩⟩, ⟨rfl, rfl, rfl, rfl⟩, fun y h => free_by (by rfl) h, by decide +kernel, rfl, rfl, rfl, ⟨_, rfl, rfl⟩⟩
abbrev i_Ended : Stmt := inS (topS 9)
theorem it_Ended : InitT i_Ended := ⟨⟨_, _, _, _, _, _, _, _, _, _, rfl, fun _ => ⟨_, rfl⟩⟩, ⟨rfl, rfl, rfl, rfl⟩, fun y h => free_by (by rfl) h, by decide +kernel, rfl, rfl, rfl, ⟨_, rfl, rfl⟩⟩
theorem all_mk {P : Program} {w : World} {K : PySem.W.Frag} {h : Heap} {mg : Str → Option Value} {fa : Addr} (X : K.In h) (G : h.Ns mainGlobals mg) (hfa : mg "law" = some (.ref fa))
    {od1 an1 : Option Addr} {sl1 : Array (Option Value)} {oc1 kV1 dc1 pm1 cd1 ct1 : Value} {f1 : Addr}
    (a1 : PySem.W.nsIn K mainGlobals "is_whole" = some (some (.ref f1))) (l1 : K.lookup f1 = some ⟨oc1, od1, .func (PySem.W.fnOf "is_whole" "is_whole" (defArgs s_is_whole) (defBody s_is_whole) (defScope s_is_whole) .none kV1 dc1 pm1 an1 cd1 ct1), sl1⟩) (c1 : PySem.W.codeIn K cd1 "is_whole" = true) (k1 : PySem.W.keepIn K (.ref f1) = true)
    {od2 an2 : Option Addr} {sl2 : Array (Option Value)} {oc2 kV2 dc2 pm2 cd2 ct2 : Value} {f2 : Addr}
    (a2 : PySem.W.nsIn K mainGlobals "is_count" = some (some (.ref f2))) (l2 : K.lookup f2 = some ⟨oc2, od2, .func (PySem.W.fnOf "is_count" "is_count" (defArgs s_is_count) (defBody s_is_count) (defScope s_is_count) .none kV2 dc2 pm2 an2 cd2 ct2), sl2⟩) (c2 : PySem.W.codeIn K cd2 "is_count" = true) (k2 : PySem.W.keepIn K (.ref f2) = true)
    {od3 an3 : Option Addr} {sl3 : Array (Option Value)} {oc3 kV3 dc3 pm3 cd3 ct3 : Value} {f3 : Addr}
    (a3 : PySem.W.nsIn K mainGlobals "is_between" = some (some (.ref f3))) (l3 : K.lookup f3 = some ⟨oc3, od3, .func (PySem.W.fnOf "is_between" "is_between" (defArgs s_is_between) (defBody s_is_between) (defScope s_is_between) .none kV3 dc3 pm3 an3 cd3 ct3), sl3⟩) (c3 : PySem.W.codeIn K cd3 "is_between" = true) (k3 : PySem.W.keepIn K (.ref f3) = true)
    {od4 an4 : Option Addr} {sl4 : Array (Option Value)} {oc4 kV4 dc4 pm4 cd4 ct4 : Value} {f4 : Addr}
    (a4 : PySem.W.nsIn K mainGlobals "is_side" = some (some (.ref f4))) (l4 : K.lookup f4 = some ⟨oc4, od4, .func (PySem.W.fnOf "is_side" "is_side" (defArgs s_is_side) (defBody s_is_side) (defScope s_is_side) .none kV4 dc4 pm4 an4 cd4 ct4), sl4⟩) (c4 : PySem.W.codeIn K cd4 "is_side" = true) (k4 : PySem.W.keepIn K (.ref f4) = true)
    {od5 an5 : Option Addr} {sl5 : Array (Option Value)} {oc5 kV5 dc5 pm5 cd5 ct5 : Value} {f5 : Addr}
    (a5 : PySem.W.nsIn K mainGlobals "are_rallies" = some (some (.ref f5))) (l5 : K.lookup f5 = some ⟨oc5, od5, .func (PySem.W.fnOf "are_rallies" "are_rallies" (defArgs s_are_rallies) (defBody s_are_rallies) (defScope s_are_rallies) .none kV5 dc5 pm5 an5 cd5 ct5), sl5⟩) (c5 : PySem.W.codeIn K cd5 "are_rallies" = true) (k5 : PySem.W.keepIn K (.ref f5) = true)
    {od6 an6 : Option Addr} {sl6 : Array (Option Value)} {oc6 kV6 dc6 pm6 cd6 ct6 : Value} {f6 : Addr}
    (a6 : PySem.W.nsIn K mainGlobals "is_word" = some (some (.ref f6))) (l6 : K.lookup f6 = some ⟨oc6, od6, .func (PySem.W.fnOf "is_word" "is_word" (defArgs s_is_word) (defBody s_is_word) (defScope s_is_word) .none kV6 dc6 pm6 an6 cd6 ct6), sl6⟩) (c6 : PySem.W.codeIn K cd6 "is_word" = true) (k6 : PySem.W.keepIn K (.ref f6) = true)
    {od7 an7 : Option Addr} {sl7 : Array (Option Value)} {oc7 kV7 dc7 pm7 cd7 ct7 : Value} {f7 : Addr}
    (a7 : PySem.W.nsIn K mainGlobals "is_order" = some (some (.ref f7))) (l7 : K.lookup f7 = some ⟨oc7, od7, .func (PySem.W.fnOf "is_order" "is_order" (defArgs s_is_order) (defBody s_is_order) (defScope s_is_order) .none kV7 dc7 pm7 an7 cd7 ct7), sl7⟩) (c7 : PySem.W.codeIn K cd7 "is_order" = true) (k7 : PySem.W.keepIn K (.ref f7) = true)
    {od8 an8 : Option Addr} {sl8 : Array (Option Value)} {oc8 kV8 dc8 pm8 cd8 ct8 : Value} {f8 : Addr}
    (a8 : PySem.W.nsIn K mainGlobals "are_numbers_of_race" = some (some (.ref f8))) (l8 : K.lookup f8 = some ⟨oc8, od8, .func (PySem.W.fnOf "are_numbers_of_race" "are_numbers_of_race" (defArgs s_are_numbers_of_race) (defBody s_are_numbers_of_race) (defScope s_are_numbers_of_race) .none kV8 dc8 pm8 an8 cd8 ct8), sl8⟩) (c8 : PySem.W.codeIn K cd8 "are_numbers_of_race" = true) (k8 : PySem.W.keepIn K (.ref f8) = true)
    {od9 an9 : Option Addr} {sl9 : Array (Option Value)} {oc9 kV9 dc9 pm9 cd9 ct9 : Value} {f9 : Addr}
    (a9 : PySem.W.nsIn K mainGlobals "is_score" = some (some (.ref f9))) (l9 : K.lookup f9 = some ⟨oc9, od9, .func (PySem.W.fnOf "is_score" "is_score" (defArgs s_is_score) (defBody s_is_score) (defScope s_is_score) .none kV9 dc9 pm9 an9 cd9 ct9), sl9⟩) (c9 : PySem.W.codeIn K cd9 "is_score" = true) (k9 : PySem.W.keepIn K (.ref f9) = true)
    {od10 an10 : Option Addr} {sl10 : Array (Option Value)} {oc10 kV10 dc10 pm10 cd10 ct10 : Value} {f10 : Addr}
    (a10 : PySem.W.nsIn K mainGlobals "is_special" = some (some (.ref f10))) (l10 : K.lookup f10 = some ⟨oc10, od10, .func (PySem.W.fnOf "is_special" "is_special" (defArgs s_is_special) (defBody s_is_special) (defScope s_is_special) .none kV10 dc10 pm10 an10 cd10 ct10), sl10⟩) (c10 : PySem.W.codeIn K cd10 "is_special" = true) (k10 : PySem.W.keepIn K (.ref f10) = true)
    {od11 an11 : Option Addr} {sl11 : Array (Option Value)} {oc11 kV11 dc11 pm11 cd11 ct11 : Value} {f11 : Addr}
    (a11 : PySem.W.nsIn K mainGlobals "are_specials" = some (some (.ref f11))) (l11 : K.lookup f11 = some ⟨oc11, od11, .func (PySem.W.fnOf "are_specials" "are_specials" (defArgs s_are_specials) (defBody s_are_specials) (defScope s_are_specials) .none kV11 dc11 pm11 an11 cd11 ct11), sl11⟩) (c11 : PySem.W.codeIn K cd11 "are_specials" = true) (k11 : PySem.W.keepIn K (.ref f11) = true)
    {od12 an12 : Option Addr} {sl12 : Array (Option Value)} {oc12 kV12 dc12 pm12 cd12 ct12 : Value} {f12 : Addr}
    (a12 : PySem.W.nsIn K mainGlobals "is_rule_within" = some (some (.ref f12))) (l12 : K.lookup f12 = some ⟨oc12, od12, .func (PySem.W.fnOf "is_rule_within" "is_rule_within" (defArgs s_is_rule_within) (defBody s_is_rule_within) (defScope s_is_rule_within) .none kV12 dc12 pm12 an12 cd12 ct12), sl12⟩) (c12 : PySem.W.codeIn K cd12 "is_rule_within" = true) (k12 : PySem.W.keepIn K (.ref f12) = true)
    {od13 an13 : Option Addr} {sl13 : Array (Option Value)} {oc13 kV13 dc13 pm13 cd13 ct13 : Value} {f13 : Addr}
    (a13 : PySem.W.nsIn K mainGlobals "is_rule" = some (some (.ref f13))) (l13 : K.lookup f13 = some ⟨oc13, od13, .func (PySem.W.fnOf "is_rule" "is_rule" (defArgs s_is_rule) (defBody s_is_rule) (defScope s_is_rule) .none kV13 dc13 pm13 an13 cd13 ct13), sl13⟩) (c13 : PySem.W.codeIn K cd13 "is_rule" = true) (k13 : PySem.W.keepIn K (.ref f13) = true)
    {od14 an14 : Option Addr} {sl14 : Array (Option Value)} {oc14 kV14 dc14 pm14 cd14 ct14 : Value} {f14 : Addr}
    (a14 : PySem.W.nsIn K mainGlobals "check_rule" = some (some (.ref f14))) (l14 : K.lookup f14 = some ⟨oc14, od14, .func (PySem.W.fnOf "check_rule" "check_rule" (defArgs s_check_rule) (defBody s_check_rule) (defScope s_check_rule) .none kV14 dc14 pm14 an14 cd14 ct14), sl14⟩) (c14 : PySem.W.codeIn K cd14 "check_rule" = true) (k14 : PySem.W.keepIn K (.ref f14) = true)
    {od15 an15 : Option Addr} {sl15 : Array (Option Value)} {oc15 kV15 dc15 pm15 cd15 ct15 : Value} {f15 : Addr}
    (a15 : PySem.W.nsIn K mainGlobals "check_side" = some (some (.ref f15))) (l15 : K.lookup f15 = some ⟨oc15, od15, .func (PySem.W.fnOf "check_side" "check_side" (defArgs s_check_side) (defBody s_check_side) (defScope s_check_side) .none kV15 dc15 pm15 an15 cd15 ct15), sl15⟩) (c15 : PySem.W.codeIn K cd15 "check_side" = true) (k15 : PySem.W.keepIn K (.ref f15) = true)
    {od16 an16 : Option Addr} {sl16 : Array (Option Value)} {oc16 kV16 dc16 pm16 cd16 ct16 : Value} {f16 : Addr}
    (a16 : PySem.W.nsIn K mainGlobals "check_rallies" = some (some (.ref f16))) (l16 : K.lookup f16 = some ⟨oc16, od16, .func (PySem.W.fnOf "check_rallies" "check_rallies" (defArgs s_check_rallies) (defBody s_check_rallies) (defScope s_check_rallies) .none kV16 dc16 pm16 an16 cd16 ct16), sl16⟩) (c16 : PySem.W.codeIn K cd16 "check_rallies" = true) (k16 : PySem.W.keepIn K (.ref f16) = true)
    {od17 an17 : Option Addr} {sl17 : Array (Option Value)} {oc17 kV17 dc17 pm17 cd17 ct17 : Value} {f17 : Addr}
    (a17 : PySem.W.nsIn K mainGlobals "unit_of" = some (some (.ref f17))) (l17 : K.lookup f17 = some ⟨oc17, od17, .func (PySem.W.fnOf "unit_of" "unit_of" (defArgs s_unit_of) (defBody s_unit_of) (defScope s_unit_of) .none kV17 dc17 pm17 an17 cd17 ct17), sl17⟩) (c17 : PySem.W.codeIn K cd17 "unit_of" = true) (k17 : PySem.W.keepIn K (.ref f17) = true)
    {od18 an18 : Option Addr} {sl18 : Array (Option Value)} {oc18 kV18 dc18 pm18 cd18 ct18 : Value} {f18 : Addr}
    (a18 : PySem.W.nsIn K mainGlobals "begun" = some (some (.ref f18))) (l18 : K.lookup f18 = some ⟨oc18, od18, .func (PySem.W.fnOf "begun" "begun" (defArgs s_begun) (defBody s_begun) (defScope s_begun) .none kV18 dc18 pm18 an18 cd18 ct18), sl18⟩) (c18 : PySem.W.codeIn K cd18 "begun" = true) (k18 : PySem.W.keepIn K (.ref f18) = true)
    {od19 an19 : Option Addr} {sl19 : Array (Option Value)} {oc19 kV19 dc19 pm19 cd19 ct19 : Value} {f19 : Addr}
    (a19 : PySem.W.nsIn K mainGlobals "is_won" = some (some (.ref f19))) (l19 : K.lookup f19 = some ⟨oc19, od19, .func (PySem.W.fnOf "is_won" "is_won" (defArgs s_is_won) (defBody s_is_won) (defScope s_is_won) .none kV19 dc19 pm19 an19 cd19 ct19), sl19⟩) (c19 : PySem.W.codeIn K cd19 "is_won" = true) (k19 : PySem.W.keepIn K (.ref f19) = true)
    {od20 an20 : Option Addr} {sl20 : Array (Option Value)} {oc20 kV20 dc20 pm20 cd20 ct20 : Value} {f20 : Addr}
    (a20 : PySem.W.nsIn K mainGlobals "next_turn" = some (some (.ref f20))) (l20 : K.lookup f20 = some ⟨oc20, od20, .func (PySem.W.fnOf "next_turn" "next_turn" (defArgs s_next_turn) (defBody s_next_turn) (defScope s_next_turn) .none kV20 dc20 pm20 an20 cd20 ct20), sl20⟩) (c20 : PySem.W.codeIn K cd20 "next_turn" = true) (k20 : PySem.W.keepIn K (.ref f20) = true)
    {od21 an21 : Option Addr} {sl21 : Array (Option Value)} {oc21 kV21 dc21 pm21 cd21 ct21 : Value} {f21 : Addr}
    (a21 : PySem.W.nsIn K mainGlobals "led_race" = some (some (.ref f21))) (l21 : K.lookup f21 = some ⟨oc21, od21, .func (PySem.W.fnOf "led_race" "led_race" (defArgs s_led_race) (defBody s_led_race) (defScope s_led_race) .none kV21 dc21 pm21 an21 cd21 ct21), sl21⟩) (c21 : PySem.W.codeIn K cd21 "led_race" = true) (k21 : PySem.W.keepIn K (.ref f21) = true)
    {od22 an22 : Option Addr} {sl22 : Array (Option Value)} {oc22 kV22 dc22 pm22 cd22 ct22 : Value} {f22 : Addr}
    (a22 : PySem.W.nsIn K mainGlobals "led" = some (some (.ref f22))) (l22 : K.lookup f22 = some ⟨oc22, od22, .func (PySem.W.fnOf "led" "led" (defArgs s_led) (defBody s_led) (defScope s_led) .none kV22 dc22 pm22 an22 cd22 ct22), sl22⟩) (c22 : PySem.W.codeIn K cd22 "led" = true) (k22 : PySem.W.keepIn K (.ref f22) = true)
    {od23 an23 : Option Addr} {sl23 : Array (Option Value)} {oc23 kV23 dc23 pm23 cd23 ct23 : Value} {f23 : Addr}
    (a23 : PySem.W.nsIn K mainGlobals "server_in" = some (some (.ref f23))) (l23 : K.lookup f23 = some ⟨oc23, od23, .func (PySem.W.fnOf "server_in" "server_in" (defArgs s_server_in) (defBody s_server_in) (defScope s_server_in) .none kV23 dc23 pm23 an23 cd23 ct23), sl23⟩) (c23 : PySem.W.codeIn K cd23 "server_in" = true) (k23 : PySem.W.keepIn K (.ref f23) = true)
    {od24 an24 : Option Addr} {sl24 : Array (Option Value)} {oc24 kV24 dc24 pm24 cd24 ct24 : Value} {f24 : Addr}
    (a24 : PySem.W.nsIn K mainGlobals "led_by" = some (some (.ref f24))) (l24 : K.lookup f24 = some ⟨oc24, od24, .func (PySem.W.fnOf "led_by" "led_by" (defArgs s_led_by) (defBody s_led_by) (defScope s_led_by) .none kV24 dc24 pm24 an24 cd24 ct24), sl24⟩) (c24 : PySem.W.codeIn K cd24 "led_by" = true) (k24 : PySem.W.keepIn K (.ref f24) = true)
    {od25 an25 : Option Addr} {sl25 : Array (Option Value)} {oc25 kV25 dc25 pm25 cd25 ct25 : Value} {f25 : Addr}
    (a25 : PySem.W.nsIn K mainGlobals "check_match" = some (some (.ref f25))) (l25 : K.lookup f25 = some ⟨oc25, od25, .func (PySem.W.fnOf "check_match" "check_match" (defArgs s_check_match) (defBody s_check_match) (defScope s_check_match) .none kV25 dc25 pm25 an25 cd25 ct25), sl25⟩) (c25 : PySem.W.codeIn K cd25 "check_match" = true) (k25 : PySem.W.keepIn K (.ref f25) = true)
    {od26 an26 : Option Addr} {sl26 : Array (Option Value)} {oc26 kV26 dc26 pm26 cd26 ct26 : Value} {f26 : Addr}
    (a26 : PySem.W.nsIn K mainGlobals "behind" = some (some (.ref f26))) (l26 : K.lookup f26 = some ⟨oc26, od26, .func (PySem.W.fnOf "behind" "behind" (defArgs s_behind) (defBody s_behind) (defScope s_behind) .none kV26 dc26 pm26 an26 cd26 ct26), sl26⟩) (c26 : PySem.W.codeIn K cd26 "behind" = true) (k26 : PySem.W.keepIn K (.ref f26) = true)
    {od27 an27 : Option Addr} {sl27 : Array (Option Value)} {oc27 kV27 dc27 pm27 cd27 ct27 : Value} {f27 : Addr}
    (a27 : PySem.W.nsIn K mainGlobals "going_on" = some (some (.ref f27))) (l27 : K.lookup f27 = some ⟨oc27, od27, .func (PySem.W.fnOf "going_on" "going_on" (defArgs s_going_on) (defBody s_going_on) (defScope s_going_on) .none kV27 dc27 pm27 an27 cd27 ct27), sl27⟩) (c27 : PySem.W.codeIn K cd27 "going_on" = true) (k27 : PySem.W.keepIn K (.ref f27) = true)
    {od28 an28 : Option Addr} {sl28 : Array (Option Value)} {oc28 kV28 dc28 pm28 cd28 ct28 : Value} {f28 : Addr}
    (a28 : PySem.W.nsIn K mainGlobals "winner_after" = some (some (.ref f28))) (l28 : K.lookup f28 = some ⟨oc28, od28, .func (PySem.W.fnOf "winner_after" "winner_after" (defArgs s_winner_after) (defBody s_winner_after) (defScope s_winner_after) .none kV28 dc28 pm28 an28 cd28 ct28), sl28⟩) (c28 : PySem.W.codeIn K cd28 "winner_after" = true) (k28 : PySem.W.keepIn K (.ref f28) = true)
    {od29 an29 : Option Addr} {sl29 : Array (Option Value)} {oc29 kV29 dc29 pm29 cd29 ct29 : Value} {f29 : Addr}
    (a29 : PySem.W.nsIn K mainGlobals "server_after" = some (some (.ref f29))) (l29 : K.lookup f29 = some ⟨oc29, od29, .func (PySem.W.fnOf "server_after" "server_after" (defArgs s_server_after) (defBody s_server_after) (defScope s_server_after) .none kV29 dc29 pm29 an29 cd29 ct29), sl29⟩) (c29 : PySem.W.codeIn K cd29 "server_after" = true) (k29 : PySem.W.keepIn K (.ref f29) = true)
    {od30 an30 : Option Addr} {sl30 : Array (Option Value)} {oc30 kV30 dc30 pm30 cd30 ct30 : Value} {f30 : Addr}
    (a30 : PySem.W.nsIn K mainGlobals "scores_after" = some (some (.ref f30))) (l30 : K.lookup f30 = some ⟨oc30, od30, .func (PySem.W.fnOf "scores_after" "scores_after" (defArgs s_scores_after) (defBody s_scores_after) (defScope s_scores_after) .none kV30 dc30 pm30 an30 cd30 ct30), sl30⟩) (c30 : PySem.W.codeIn K cd30 "scores_after" = true) (k30 : PySem.W.keepIn K (.ref f30) = true)
    {od31 an31 : Option Addr} {sl31 : Array (Option Value)} {oc31 kV31 dc31 pm31 cd31 ct31 : Value} {f31 : Addr}
    (a31 : PySem.W.nsIn K mainGlobals "servers_of" = some (some (.ref f31))) (l31 : K.lookup f31 = some ⟨oc31, od31, .func (PySem.W.fnOf "servers_of" "servers_of" (defArgs s_servers_of) (defBody s_servers_of) (defScope s_servers_of) .none kV31 dc31 pm31 an31 cd31 ct31), sl31⟩) (c31 : PySem.W.codeIn K cd31 "servers_of" = true) (k31 : PySem.W.keepIn K (.ref f31) = true)
    {od32 an32 : Option Addr} {sl32 : Array (Option Value)} {oc32 kV32 dc32 pm32 cd32 ct32 : Value} {f32 : Addr}
    (a32 : PySem.W.nsIn K mainGlobals "won_units" = some (some (.ref f32))) (l32 : K.lookup f32 = some ⟨oc32, od32, .func (PySem.W.fnOf "won_units" "won_units" (defArgs s_won_units) (defBody s_won_units) (defScope s_won_units) .none kV32 dc32 pm32 an32 cd32 ct32), sl32⟩) (c32 : PySem.W.codeIn K cd32 "won_units" = true) (k32 : PySem.W.keepIn K (.ref f32) = true)
    {od33 an33 : Option Addr} {sl33 : Array (Option Value)} {oc33 kV33 dc33 pm33 cd33 ct33 : Value} {f33 : Addr}
    (a33 : PySem.W.nsIn K mainGlobals "stakes" = some (some (.ref f33))) (l33 : K.lookup f33 = some ⟨oc33, od33, .func (PySem.W.fnOf "stakes" "stakes" (defArgs s_stakes) (defBody s_stakes) (defScope s_stakes) .none kV33 dc33 pm33 an33 cd33 ct33), sl33⟩) (c33 : PySem.W.codeIn K cd33 "stakes" = true) (k33 : PySem.W.keepIn K (.ref f33) = true)
    {od34 an34 : Option Addr} {sl34 : Array (Option Value)} {oc34 kV34 dc34 pm34 cd34 ct34 : Value} {f34 : Addr}
    (a34 : PySem.W.nsIn K mainGlobals "_law_hash" = some (some (.ref f34))) (l34 : K.lookup f34 = some ⟨oc34, od34, .func (PySem.W.fnOf "_law_hash" "_law_hash" (defArgs s__law_hash) (defBody s__law_hash) (defScope s__law_hash) .none kV34 dc34 pm34 an34 cd34 ct34), sl34⟩) (c34 : PySem.W.codeIn K cd34 "_law_hash" = true) (k34 : PySem.W.keepIn K (.ref f34) = true)
    {od35 an35 : Option Addr} {sl35 : Array (Option Value)} {oc35 kV35 dc35 pm35 cd35 ct35 : Value} {f35 : Addr}
    (a35 : PySem.W.nsIn K mainGlobals "_law_random" = some (some (.ref f35))) (l35 : K.lookup f35 = some ⟨oc35, od35, .func (PySem.W.fnOf "_law_random" "_law_random" (defArgs s__law_random) (defBody s__law_random) (defScope s__law_random) .none kV35 dc35 pm35 an35 cd35 ct35), sl35⟩) (c35 : PySem.W.codeIn K cd35 "_law_random" = true) (k35 : PySem.W.keepIn K (.ref f35) = true)
    {od36 an36 : Option Addr} {sl36 : Array (Option Value)} {oc36 kV36 dc36 pm36 cd36 ct36 : Value} {f36 : Addr}
    (a36 : PySem.W.nsIn K mainGlobals "_law_cell" = some (some (.ref f36))) (l36 : K.lookup f36 = some ⟨oc36, od36, .func (PySem.W.fnOf "_law_cell" "_law_cell" (defArgs s__law_cell) (defBody s__law_cell) (defScope s__law_cell) .none kV36 dc36 pm36 an36 cd36 ct36), sl36⟩) (c36 : PySem.W.codeIn K cd36 "_law_cell" = true) (k36 : PySem.W.keepIn K (.ref f36) = true)
    {od37 an37 : Option Addr} {sl37 : Array (Option Value)} {oc37 kV37 dc37 pm37 cd37 ct37 : Value} {f37 : Addr}
    (a37 : PySem.W.nsIn K mainGlobals "_law_generator" = some (some (.ref f37))) (l37 : K.lookup f37 = some ⟨oc37, od37, .func (PySem.W.fnOf "_law_generator" "_law_generator" (defArgs s__law_generator) (defBody s__law_generator) (defScope s__law_generator) .none kV37 dc37 pm37 an37 cd37 ct37), sl37⟩) (c37 : PySem.W.codeIn K cd37 "_law_generator" = true) (k37 : PySem.W.keepIn K (.ref f37) = true)
    {od38 an38 : Option Addr} {sl38 : Array (Option Value)} {oc38 kV38 dc38 pm38 cd38 ct38 : Value} {f38 : Addr}
    (a38 : PySem.W.nsIn K mainGlobals "_law_pick" = some (some (.ref f38))) (l38 : K.lookup f38 = some ⟨oc38, od38, .func (PySem.W.fnOf "_law_pick" "_law_pick" (defArgs s__law_pick) (defBody s__law_pick) (defScope s__law_pick) .none kV38 dc38 pm38 an38 cd38 ct38), sl38⟩) (c38 : PySem.W.codeIn K cd38 "_law_pick" = true) (k38 : PySem.W.keepIn K (.ref f38) = true)
    {od39 an39 : Option Addr} {sl39 : Array (Option Value)} {oc39 kV39 dc39 pm39 cd39 ct39 : Value} {f39 : Addr}
    (a39 : PySem.W.nsIn K mainGlobals "_law_order" = some (some (.ref f39))) (l39 : K.lookup f39 = some ⟨oc39, od39, .func (PySem.W.fnOf "_law_order" "_law_order" (defArgs s__law_order) (defBody s__law_order) (defScope s__law_order) .none kV39 dc39 pm39 an39 cd39 ct39), sl39⟩) (c39 : PySem.W.codeIn K cd39 "_law_order" = true) (k39 : PySem.W.keepIn K (.ref f39) = true)
    {od40 an40 : Option Addr} {sl40 : Array (Option Value)} {oc40 kV40 dc40 pm40 cd40 ct40 : Value} {f40 : Addr}
    (a40 : PySem.W.nsIn K mainGlobals "_law_race" = some (some (.ref f40))) (l40 : K.lookup f40 = some ⟨oc40, od40, .func (PySem.W.fnOf "_law_race" "_law_race" (defArgs s__law_race) (defBody s__law_race) (defScope s__law_race) .none kV40 dc40 pm40 an40 cd40 ct40), sl40⟩) (c40 : PySem.W.codeIn K cd40 "_law_race" = true) (k40 : PySem.W.keepIn K (.ref f40) = true)
    {od41 an41 : Option Addr} {sl41 : Array (Option Value)} {oc41 kV41 dc41 pm41 cd41 ct41 : Value} {f41 : Addr}
    (a41 : PySem.W.nsIn K mainGlobals "_law_rule" = some (some (.ref f41))) (l41 : K.lookup f41 = some ⟨oc41, od41, .func (PySem.W.fnOf "_law_rule" "_law_rule" (defArgs s__law_rule) (defBody s__law_rule) (defScope s__law_rule) .none kV41 dc41 pm41 an41 cd41 ct41), sl41⟩) (c41 : PySem.W.codeIn K cd41 "_law_rule" = true) (k41 : PySem.W.keepIn K (.ref f41) = true)
    {od42 an42 : Option Addr} {sl42 : Array (Option Value)} {oc42 kV42 dc42 pm42 cd42 ct42 : Value} {f42 : Addr}
    (a42 : PySem.W.nsIn K mainGlobals "_law_rallies" = some (some (.ref f42))) (l42 : K.lookup f42 = some ⟨oc42, od42, .func (PySem.W.fnOf "_law_rallies" "_law_rallies" (defArgs s__law_rallies) (defBody s__law_rallies) (defScope s__law_rallies) .none kV42 dc42 pm42 an42 cd42 ct42), sl42⟩) (c42 : PySem.W.codeIn K cd42 "_law_rallies" = true) (k42 : PySem.W.keepIn K (.ref f42) = true)
    {od43 an43 : Option Addr} {sl43 : Array (Option Value)} {oc43 kV43 dc43 pm43 cd43 ct43 : Value} {f43 : Addr}
    (a43 : PySem.W.nsIn K mainGlobals "_law_caught" = some (some (.ref f43))) (l43 : K.lookup f43 = some ⟨oc43, od43, .func (PySem.W.fnOf "_law_caught" "_law_caught" (defArgs s__law_caught) (defBody s__law_caught) (defScope s__law_caught) .none kV43 dc43 pm43 an43 cd43 ct43), sl43⟩) (c43 : PySem.W.codeIn K cd43 "_law_caught" = true) (k43 : PySem.W.keepIn K (.ref f43) = true)
    {od44 an44 : Option Addr} {sl44 : Array (Option Value)} {oc44 kV44 dc44 pm44 cd44 ct44 : Value} {f44 : Addr}
    (a44 : PySem.W.nsIn K mainGlobals "_law_refused" = some (some (.ref f44))) (l44 : K.lookup f44 = some ⟨oc44, od44, .func (PySem.W.fnOf "_law_refused" "_law_refused" (defArgs s__law_refused) (defBody s__law_refused) (defScope s__law_refused) .none kV44 dc44 pm44 an44 cd44 ct44), sl44⟩) (c44 : PySem.W.codeIn K cd44 "_law_refused" = true) (k44 : PySem.W.keepIn K (.ref f44) = true)
    {od45 an45 : Option Addr} {sl45 : Array (Option Value)} {oc45 kV45 dc45 pm45 cd45 ct45 : Value} {f45 : Addr}
    (a45 : PySem.W.nsIn K mainGlobals "_law_all_refused" = some (some (.ref f45))) (l45 : K.lookup f45 = some ⟨oc45, od45, .func (PySem.W.fnOf "_law_all_refused" "_law_all_refused" (defArgs s__law_all_refused) (defBody s__law_all_refused) (defScope s__law_all_refused) .none kV45 dc45 pm45 an45 cd45 ct45), sl45⟩) (c45 : PySem.W.codeIn K cd45 "_law_all_refused" = true) (k45 : PySem.W.keepIn K (.ref f45) = true)
    {od46 an46 : Option Addr} {sl46 : Array (Option Value)} {oc46 kV46 dc46 pm46 ct46 : Value} {f46 cT0 TP0 : Addr}
    (a46 : PySem.W.nsIn K mainGlobals "_law_calls" = some (some (.ref f46))) (l46 : K.lookup f46 = some ⟨oc46, od46, .func (PySem.W.fnOf "_law_calls" "_law_calls" (defArgs s__law_calls) (defBody s__law_calls) (defScope s__law_calls) .none kV46 dc46 pm46 an46 (.ref cT0) ct46), sl46⟩) (c46 : PySem.W.codeIn K (.ref cT0) "_law_calls" = true) (k46 : PySem.W.keepIn K (.ref f46) = true)
    {od47 an47 : Option Addr} {sl47 : Array (Option Value)} {oc47 kV47 dc47 pm47 cd47 ct47 : Value} {f47 : Addr}
    (a47 : PySem.W.nsIn K mainGlobals "law" = some (some (.ref f47))) (l47 : K.lookup f47 = some ⟨oc47, od47, .func (PySem.W.fnOf "law" "law" (defArgs s_law) (defBody s_law) (defScope s_law) .none kV47 dc47 pm47 an47 cd47 ct47), sl47⟩) (c47 : PySem.W.codeIn K cd47 "law" = true) (k47 : PySem.W.keepIn K (.ref f47) = true)
    (z1 : PySem.W.nsIn K mainGlobals "abs" = some none)
    (z2 : PySem.W.nsIn K mainGlobals "bool" = some none)
    (z3 : PySem.W.nsIn K mainGlobals "enumerate" = some none)
    (z4 : PySem.W.nsIn K mainGlobals "int" = some none)
    (z5 : PySem.W.nsIn K mainGlobals "isinstance" = some none)
    (z6 : PySem.W.nsIn K mainGlobals "len" = some none)
    (z7 : PySem.W.nsIn K mainGlobals "list" = some none)
    (z8 : PySem.W.nsIn K mainGlobals "max" = some none)
    (z9 : PySem.W.nsIn K mainGlobals "range" = some none)
    (z10 : PySem.W.nsIn K mainGlobals "repr" = some none)
    (z11 : PySem.W.nsIn K mainGlobals "sorted" = some none)
    (z12 : PySem.W.nsIn K mainGlobals "str" = some none)
    (z13 : PySem.W.nsIn K mainGlobals "sum" = some none)
    (z14 : PySem.W.nsIn K mainGlobals "tuple" = some none)
    {t15 : Tok} (z15 : PySem.W.nsIn K mainGlobals "DEEPEST" = some (some (.int 4 t15)))
    {t16_0 t16_1 t16_2 t16_3 : Tok} {o16 : Addr} {n16 : Nat} (z16 : PySem.W.nsIn K mainGlobals "ORDERS" = some (some (.ref o16))) (y16 : K.lookup o16 = some ⟨.type "list", none, .seq #[.str "on" t16_0, .str "turns" t16_1, .str "winner" t16_2, .str "loser" t16_3] n16, #[]⟩)
    {C0 : Addr} (na0 : PySem.W.nsIn K mainGlobals "InvalidRule" = some (some (.ref C0)))
    {fI0 cc0 cda0 Nx0 TD0 : Addr} {nm0 q0 qq0 : Str} {bs0 bm0 : List Value} {sn0 : List Str} {sub0 : List Value} {ab0 : Bool} {col0 : Option Bool} {ddx0 : Option Addr} {w00 w10 w20 w30 w50 : Option Value} {xoc0 xccl0 xcl0 xtcl0 xkV0 xdc0 xpm0 xct0 : Value} {xod0 xcdd0 xcld0 xan0 xtdd0 : Option Addr} {xosl0 xccs0 xcsl0 xtsl0 : Array (Option Value)} {xvs0 : Array Value} {xfile0 : Str} {xtf0 : Tok} {xtn0 : Nat}
    (xa0 : K.lookup C0 = some (excClassObj nm0 q0 C0 Nx0 bs0 bm0 true sn0 sub0 ab0 col0 ddx0 w00 w10 w20 w30 w50 "ValueError.__new__")) (xb0 : PySem.HandSPX.refsVE bm0 = true)
    (xc0 : K.lookup fI0 = some ⟨xoc0, xod0, .func (PySem.W.ksFn "__init__" qq0 (defArgs i_InvalidRule) (defBody i_InvalidRule) (defScope i_InvalidRule) (.ref TD0) xkV0 xdc0 xpm0 xan0 (.ref cda0) xct0 cc0), xosl0⟩)
    (xd0 : K.lookup TD0 = some ⟨xtcl0, xtdd0, .seq #[.none] xtn0, xtsl0⟩) (xe0 : K.lookup cda0 = some ⟨xccl0, xcdd0, .fields xvs0, xccs0⟩) (xf0 : xvs0[2]? = some (.str xfile0 xtf0)) (xg0 : ((P.main.file : Str) == xfile0) = true)
    (xh0 : K.lookup cc0 = some ⟨xcl0, xcld0, .cell (some (.ref C0)), xcsl0⟩) (xi0 : PySem.W.codeIn K (.ref cda0) qq0 = true) (xj0 : xclsB K C0 fI0 = true)
    (xini0 : PySem.W.findIn K (.ref C0) "__init__" = some (some (.ref fI0)))
    {C1 : Addr} (na1 : PySem.W.nsIn K mainGlobals "InvalidSide" = some (some (.ref C1)))
    {fI1 cc1 cda1 Nx1 TD1 : Addr} {nm1 q1 qq1 : Str} {bs1 bm1 : List Value} {sn1 : List Str} {sub1 : List Value} {ab1 : Bool} {col1 : Option Bool} {ddx1 : Option Addr} {w01 w11 w21 w31 w51 : Option Value} {xoc1 xccl1 xcl1 xtcl1 xkV1 xdc1 xpm1 xct1 : Value} {xod1 xcdd1 xcld1 xan1 xtdd1 : Option Addr} {xosl1 xccs1 xcsl1 xtsl1 : Array (Option Value)} {xvs1 : Array Value} {xfile1 : Str} {xtf1 : Tok} {xtn1 : Nat}
    (xa1 : K.lookup C1 = some (excClassObj nm1 q1 C1 Nx1 bs1 bm1 true sn1 sub1 ab1 col1 ddx1 w01 w11 w21 w31 w51 "ValueError.__new__")) (xb1 : PySem.HandSPX.refsVE bm1 = true)
    (xc1 : K.lookup fI1 = some ⟨xoc1, xod1, .func (PySem.W.ksFn "__init__" qq1 (defArgs i_InvalidSide) (defBody i_InvalidSide) (defScope i_InvalidSide) (.ref TD1) xkV1 xdc1 xpm1 xan1 (.ref cda1) xct1 cc1), xosl1⟩)
    (xd1 : K.lookup TD1 = some ⟨xtcl1, xtdd1, .seq #[.none] xtn1, xtsl1⟩) (xe1 : K.lookup cda1 = some ⟨xccl1, xcdd1, .fields xvs1, xccs1⟩) (xf1 : xvs1[2]? = some (.str xfile1 xtf1)) (xg1 : ((P.main.file : Str) == xfile1) = true)
    (xh1 : K.lookup cc1 = some ⟨xcl1, xcld1, .cell (some (.ref C1)), xcsl1⟩) (xi1 : PySem.W.codeIn K (.ref cda1) qq1 = true) (xj1 : xclsB K C1 fI1 = true)
    (xini1 : PySem.W.findIn K (.ref C1) "__init__" = some (some (.ref fI1)))
    {C2 : Addr} (na2 : PySem.W.nsIn K mainGlobals "InvalidRallies" = some (some (.ref C2)))
    {fI2 cc2 cda2 Nx2 TD2 : Addr} {nm2 q2 qq2 : Str} {bs2 bm2 : List Value} {sn2 : List Str} {sub2 : List Value} {ab2 : Bool} {col2 : Option Bool} {ddx2 : Option Addr} {w02 w12 w22 w32 w52 : Option Value} {xoc2 xccl2 xcl2 xtcl2 xkV2 xdc2 xpm2 xct2 : Value} {xod2 xcdd2 xcld2 xan2 xtdd2 : Option Addr} {xosl2 xccs2 xcsl2 xtsl2 : Array (Option Value)} {xvs2 : Array Value} {xfile2 : Str} {xtf2 : Tok} {xtn2 : Nat}
    (xa2 : K.lookup C2 = some (excClassObj nm2 q2 C2 Nx2 bs2 bm2 true sn2 sub2 ab2 col2 ddx2 w02 w12 w22 w32 w52 "ValueError.__new__")) (xb2 : PySem.HandSPX.refsVE bm2 = true)
    (xc2 : K.lookup fI2 = some ⟨xoc2, xod2, .func (PySem.W.ksFn "__init__" qq2 (defArgs i_InvalidRallies) (defBody i_InvalidRallies) (defScope i_InvalidRallies) (.ref TD2) xkV2 xdc2 xpm2 xan2 (.ref cda2) xct2 cc2), xosl2⟩)
    (xd2 : K.lookup TD2 = some ⟨xtcl2, xtdd2, .seq #[.none] xtn2, xtsl2⟩) (xe2 : K.lookup cda2 = some ⟨xccl2, xcdd2, .fields xvs2, xccs2⟩) (xf2 : xvs2[2]? = some (.str xfile2 xtf2)) (xg2 : ((P.main.file : Str) == xfile2) = true)
    (xh2 : K.lookup cc2 = some ⟨xcl2, xcld2, .cell (some (.ref C2)), xcsl2⟩) (xi2 : PySem.W.codeIn K (.ref cda2) qq2 = true) (xj2 : xclsB K C2 fI2 = true)
    (xini2 : PySem.W.findIn K (.ref C2) "__init__" = some (some (.ref fI2)))
    {C3 : Addr} (na3 : PySem.W.nsIn K mainGlobals "InvalidChance" = some (some (.ref C3)))
    {C4 : Addr} (na4 : PySem.W.nsIn K mainGlobals "InvalidStretch" = some (some (.ref C4)))
    {C5 : Addr} (na5 : PySem.W.nsIn K mainGlobals "InvalidLine" = some (some (.ref C5)))
    {C6 : Addr} (na6 : PySem.W.nsIn K mainGlobals "InvalidPolynomial" = some (some (.ref C6)))
    {C7 : Addr} (na7 : PySem.W.nsIn K mainGlobals "Ended" = some (some (.ref C7)))
    {fI7 cc7 cda7 Nx7 TD7 : Addr} {nm7 q7 qq7 : Str} {bs7 bm7 : List Value} {sn7 : List Str} {sub7 : List Value} {ab7 : Bool} {col7 : Option Bool} {ddx7 : Option Addr} {w07 w17 w27 w37 w57 : Option Value} {xoc7 xccl7 xcl7 xtcl7 xkV7 xdc7 xpm7 xct7 : Value} {xod7 xcdd7 xcld7 xan7 xtdd7 : Option Addr} {xosl7 xccs7 xcsl7 xtsl7 : Array (Option Value)} {xvs7 : Array Value} {xfile7 : Str} {xtf7 : Tok} {xtn7 : Nat}
    (xa7 : K.lookup C7 = some (excClassObj nm7 q7 C7 Nx7 bs7 bm7 true sn7 sub7 ab7 col7 ddx7 w07 w17 w27 w37 w57 "ValueError.__new__")) (xb7 : PySem.HandSPX.refsVE bm7 = true)
    (xc7 : K.lookup fI7 = some ⟨xoc7, xod7, .func (PySem.W.ksFn "__init__" qq7 (defArgs i_Ended) (defBody i_Ended) (defScope i_Ended) (.ref TD7) xkV7 xdc7 xpm7 xan7 (.ref cda7) xct7 cc7), xosl7⟩)
    (xd7 : K.lookup TD7 = some ⟨xtcl7, xtdd7, .seq #[.none] xtn7, xtsl7⟩) (xe7 : K.lookup cda7 = some ⟨xccl7, xcdd7, .fields xvs7, xccs7⟩) (xf7 : xvs7[2]? = some (.str xfile7 xtf7)) (xg7 : ((P.main.file : Str) == xfile7) = true)
    (xh7 : K.lookup cc7 = some ⟨xcl7, xcld7, .cell (some (.ref C7)), xcsl7⟩) (xi7 : PySem.W.codeIn K (.ref cda7) qq7 = true) (xj7 : xclsB K C7 fI7 = true)
    (xini7 : PySem.W.findIn K (.ref C7) "__init__" = some (some (.ref fI7)))
    {C8 : Addr} (na8 : PySem.W.nsIn K mainGlobals "TooMany" = some (some (.ref C8)))
    {C9 : Addr} (na9 : PySem.W.nsIn K mainGlobals "ScoreError" = some (some (.ref C9)))
    (yall : xallB K xsL ysL = true)
    (xsup : PySem.W.nsIn K mainGlobals "super" = some none) (xtop : (P.main.scope.names.lookup ("super" : Str)).isSome = false)
    {ocL0 : Value} {odL0 : Option Addr} {slL0 : Array (Option Value)} {vsL0 : Array Value} (tb10 : K.lookup cT0 = some ⟨ocL0, odL0, .fields vsL0, slL0⟩) (tb20 : (vsL0[11]? : Option Value) = some (.ref TP0)) (tb30 : K.lookup TP0 = none)
    (tnd : [TP0].Nodup) {q : Program}
    (rec0 : ((recsOf q).find? (fun e => e.name == ("_law_calls" : Str))).isSome = true) (hok : ∀ TP0 : Addr, LawOkT (g_law TP0) [.tab TP0 q__law_calls] 63) :
    ∃ (fd : FuncData) (ca : Str → Addr) (g : List D → Sto → Res D) (ts : List Tb), (∀ (s : Shared) (u : Value), BindsTo s fd ⟨[u], []⟩ [("script", u)]) ∧ (∀ t ∈ ts, ∃ (y : Str) (e : DefRec), (recsOf q).find? (fun e => e.name == y) = some e ∧ PySem.W.tabIn K y = some (t.1, t.2.1) ∧ K.lookup t.2.1 = none) ∧ (tabA ts).Nodup ∧ LawOkT g (tabS ts) 63 ∧
      ∀ base : Heap, K.In base → base.Ns mainGlobals mg → (∀ t ∈ ts, LamX.TabB base mg t.1 t.2.1) → FnG P w K mg base 44 fa fd ["script"] (spD K ca 1 g) := by
  have e := hfa.symm.trans (PySem.W.mg_of X G a47)
  cases e
  have T_is_whole : Std K mg "is_whole" s_is_whole ["value"] := std_mk X G a1 l1 c1 k1 fun _ _ _ _ _ _ us hl => match us, hl with | [_], _ => rfl
  have T_is_count : Std K mg "is_count" s_is_count ["value"] := std_mk X G a2 l2 c2 k2 fun _ _ _ _ _ _ us hl => match us, hl with | [_], _ => rfl
  have T_is_between : Std K mg "is_between" s_is_between ["value", "low", "high"] := std_mk X G a3 l3 c3 k3 fun _ _ _ _ _ _ us hl => match us, hl with | [_, _, _], _ => rfl
  have T_is_side : Std K mg "is_side" s_is_side ["value"] := std_mk X G a4 l4 c4 k4 fun _ _ _ _ _ _ us hl => match us, hl with | [_], _ => rfl
  have T_are_rallies : Std K mg "are_rallies" s_are_rallies ["value"] := std_mk X G a5 l5 c5 k5 fun _ _ _ _ _ _ us hl => match us, hl with | [_], _ => rfl
  have T_is_word : Std K mg "is_word" s_is_word ["value", "word"] := std_mk X G a6 l6 c6 k6 fun _ _ _ _ _ _ us hl => match us, hl with | [_, _], _ => rfl
  have T_is_order : Std K mg "is_order" s_is_order ["value"] := std_mk X G a7 l7 c7 k7 fun _ _ _ _ _ _ us hl => match us, hl with | [_], _ => rfl
  have T_are_numbers_of_race : Std K mg "are_numbers_of_race" s_are_numbers_of_race ["need", "lead", "cap"] := std_mk X G a8 l8 c8 k8 fun _ _ _ _ _ _ us hl => match us, hl with | [_, _, _], _ => rfl
  have T_is_score : Std K mg "is_score" s_is_score ["value"] := std_mk X G a9 l9 c9 k9 fun _ _ _ _ _ _ us hl => match us, hl with | [_], _ => rfl
  have T_is_special : Std K mg "is_special" s_is_special ["value", "deep"] := std_mk X G a10 l10 c10 k10 fun _ _ _ _ _ _ us hl => match us, hl with | [_, _], _ => rfl
  have T_are_specials : Std K mg "are_specials" s_are_specials ["value", "deep"] := std_mk X G a11 l11 c11 k11 fun _ _ _ _ _ _ us hl => match us, hl with | [_, _], _ => rfl
  have T_is_rule_within : Std K mg "is_rule_within" s_is_rule_within ["value", "deep"] := std_mk X G a12 l12 c12 k12 fun _ _ _ _ _ _ us hl => match us, hl with | [_, _], _ => rfl
  have T_is_rule : Std K mg "is_rule" s_is_rule ["value"] := std_mk X G a13 l13 c13 k13 fun _ _ _ _ _ _ us hl => match us, hl with | [_], _ => rfl
  have T_check_rule : Std K mg "check_rule" s_check_rule ["rule"] := std_mk X G a14 l14 c14 k14 fun _ _ _ _ _ _ us hl => match us, hl with | [_], _ => rfl
  have T_check_side : Std K mg "check_side" s_check_side ["side"] := std_mk X G a15 l15 c15 k15 fun _ _ _ _ _ _ us hl => match us, hl with | [_], _ => rfl
  have T_check_rallies : Std K mg "check_rallies" s_check_rallies ["rallies"] := std_mk X G a16 l16 c16 k16 fun _ _ _ _ _ _ us hl => match us, hl with | [_], _ => rfl
  have T_unit_of : Std K mg "unit_of" s_unit_of ["rule", "score"] := std_mk X G a17 l17 c17 k17 fun _ _ _ _ _ _ us hl => match us, hl with | [_, _], _ => rfl
  have T_begun : Std K mg "begun" s_begun ["rule", "side"] := std_mk X G a18 l18 c18 k18 fun _ _ _ _ _ _ us hl => match us, hl with | [_, _], _ => rfl
  have T_is_won : Std K mg "is_won" s_is_won ["rule", "score"] := std_mk X G a19 l19 c19 k19 fun _ _ _ _ _ _ us hl => match us, hl with | [_, _], _ => rfl
  have T_next_turn : Std K mg "next_turn" s_next_turn ["rule", "state", "score", "winner", "hands"] := std_mk X G a20 l20 c20 k20 fun _ _ _ _ _ _ us hl => match us, hl with | [_, _, _, _, _], _ => rfl
  have T_led_race : Std K mg "led_race" s_led_race ["rule", "state", "side"] := std_mk X G a21 l21 c21 k21 fun _ _ _ _ _ _ us hl => match us, hl with | [_, _, _], _ => rfl
  have T_led : Std K mg "led" s_led ["rule", "state", "side"] := std_mk X G a22 l22 c22 k22 fun _ _ _ _ _ _ us hl => match us, hl with | [_, _, _], _ => rfl
  have T_server_in : Std K mg "server_in" s_server_in ["state"] := std_mk X G a23 l23 c23 k23 fun _ _ _ _ _ _ us hl => match us, hl with | [_], _ => rfl
  have T_led_by : Std K mg "led_by" s_led_by ["rule", "first", "rallies"] := std_mk X G a24 l24 c24 k24 fun _ _ _ _ _ _ us hl => match us, hl with | [_, _, _], _ => rfl
  have T_check_match : Std K mg "check_match" s_check_match ["rule", "first", "rallies"] := std_mk X G a25 l25 c25 k25 fun _ _ _ _ _ _ us hl => match us, hl with | [_, _, _], _ => rfl
  have T_behind : Std K mg "behind" s_behind ["rule", "first", "rallies"] := std_mk X G a26 l26 c26 k26 fun _ _ _ _ _ _ us hl => match us, hl with | [_, _, _], _ => rfl
  have T_going_on : Std K mg "going_on" s_going_on ["rule", "first", "rallies"] := std_mk X G a27 l27 c27 k27 fun _ _ _ _ _ _ us hl => match us, hl with | [_, _, _], _ => rfl
  have T_winner_after : Std K mg "winner_after" s_winner_after ["rule", "first", "rallies"] := std_mk X G a28 l28 c28 k28 fun _ _ _ _ _ _ us hl => match us, hl with | [_, _, _], _ => rfl
  have T_server_after : Std K mg "server_after" s_server_after ["rule", "first", "rallies"] := std_mk X G a29 l29 c29 k29 fun _ _ _ _ _ _ us hl => match us, hl with | [_, _, _], _ => rfl
  have T_scores_after : Std K mg "scores_after" s_scores_after ["rule", "first", "rallies"] := std_mk X G a30 l30 c30 k30 fun _ _ _ _ _ _ us hl => match us, hl with | [_, _, _], _ => rfl
  have T_servers_of : Std K mg "servers_of" s_servers_of ["rule", "first", "rallies"] := std_mk X G a31 l31 c31 k31 fun _ _ _ _ _ _ us hl => match us, hl with | [_, _, _], _ => rfl
  have T_won_units : Std K mg "won_units" s_won_units ["rule", "first", "rallies"] := std_mk X G a32 l32 c32 k32 fun _ _ _ _ _ _ us hl => match us, hl with | [_, _, _], _ => rfl
  have T_stakes : Std K mg "stakes" s_stakes ["rule", "first", "rallies"] := std_mk X G a33 l33 c33 k33 fun _ _ _ _ _ _ us hl => match us, hl with | [_, _, _], _ => rfl
  have T__law_hash : Std K mg "_law_hash" s__law_hash ["seed", "index"] := std_mk X G a34 l34 c34 k34 fun _ _ _ _ _ _ us hl => match us, hl with | [_, _], _ => rfl
  have T__law_random : Std K mg "_law_random" s__law_random ["generator", "bound"] := std_mk X G a35 l35 c35 k35 fun _ _ _ _ _ _ us hl => match us, hl with | [_, _], _ => rfl
  have T__law_cell : Std K mg "_law_cell" s__law_cell ["script", "index"] := std_mk X G a36 l36 c36 k36 fun _ _ _ _ _ _ us hl => match us, hl with | [_, _], _ => rfl
  have T__law_generator : Std K mg "_law_generator" s__law_generator ["script", "index"] := std_mk X G a37 l37 c37 k37 fun _ _ _ _ _ _ us hl => match us, hl with | [_, _], _ => rfl
  have T__law_pick : Std K mg "_law_pick" s__law_pick ["generator", "things"] := std_mk X G a38 l38 c38 k38 fun _ _ _ _ _ _ us hl => match us, hl with | [_, _], _ => rfl
  have T__law_order : Std K mg "_law_order" s__law_order ["generator"] := std_mk X G a39 l39 c39 k39 fun _ _ _ _ _ _ us hl => match us, hl with | [_], _ => rfl
  have T__law_race : Std K mg "_law_race" s__law_race ["generator", "deep", "most"] := std_mk X G a40 l40 c40 k40 fun _ _ _ _ _ _ us hl => match us, hl with | [_, _, _], _ => rfl
  have T__law_rule : Std K mg "_law_rule" s__law_rule ["generator", "deep", "most"] := std_mk X G a41 l41 c41 k41 fun _ _ _ _ _ _ us hl => match us, hl with | [_, _, _], _ => rfl
  have T__law_rallies : Std K mg "_law_rallies" s__law_rallies ["generator", "many"] := std_mk X G a42 l42 c42 k42 fun _ _ _ _ _ _ us hl => match us, hl with | [_, _], _ => rfl
  have T__law_caught : Std K mg "_law_caught" s__law_caught ["call"] := std_mk X G a43 l43 c43 k43 fun _ _ _ _ _ _ us hl => match us, hl with | [_], _ => rfl
  have T__law_refused : Std K mg "_law_refused" s__law_refused ["call", "word", "value"] := std_mk X G a44 l44 c44 k44 fun _ _ _ _ _ _ us hl => match us, hl with | [_, _, _], _ => rfl
  have T__law_all_refused : Std K mg "_law_all_refused" s__law_all_refused ["calls", "word", "value"] := std_mk X G a45 l45 c45 k45 fun _ _ _ _ _ _ us hl => match us, hl with | [_, _, _], _ => rfl
  have C__law_calls : StdC K mg "_law_calls" s__law_calls ["rule", "first", "rallies"] cT0 := stdC_mk X G a46 l46 c46 k46 fun _ _ _ _ _ _ us hl => match us, hl with | [_, _, _], _ => rfl
  have z : Zc K mg := ⟨PySem.W.mg_none_of X G z1, PySem.W.mg_none_of X G z2, PySem.W.mg_none_of X G z3, PySem.W.mg_none_of X G z4, PySem.W.mg_none_of X G z5, PySem.W.mg_none_of X G z6, PySem.W.mg_none_of X G z7, PySem.W.mg_none_of X G z8, PySem.W.mg_none_of X G z9, PySem.W.mg_none_of X G z10, PySem.W.mg_none_of X G z11, PySem.W.mg_none_of X G z12, PySem.W.mg_none_of X G z13, PySem.W.mg_none_of X G z14, globI X G z15, globL [("on", t16_0), ("turns", t16_1), ("winner", t16_2), ("loser", t16_3)] X G z16 y16⟩
  have y : Yc P K mg := ⟨yall, (PySem.W.mg_of X G na0).trans (by rw [caK_of na0]), (PySem.W.mg_of X G na1).trans (by rw [caK_of na1]), (PySem.W.mg_of X G na2).trans (by rw [caK_of na2]), (PySem.W.mg_of X G na3).trans (by rw [caK_of na3]), (PySem.W.mg_of X G na4).trans (by rw [caK_of na4]), (PySem.W.mg_of X G na5).trans (by rw [caK_of na5]), (PySem.W.mg_of X G na6).trans (by rw [caK_of na6]), (PySem.W.mg_of X G na7).trans (by rw [caK_of na7]), (PySem.W.mg_of X G na8).trans (by rw [caK_of na8]), (PySem.W.mg_of X G na9).trans (by rw [caK_of na9]), xcls_mk (st := i_InvalidRule) X G na0 xa0 xb0 xc0 xd0 xe0 xf0 xg0 xh0 xi0 xj0 xsup xtop it_InvalidRule (fun _ _ _ _ _ _ _ _ _ _ _ => ⟨_, rfl, rfl⟩), xcls_mk (st := i_InvalidSide) X G na1 xa1 xb1 xc1 xd1 xe1 xf1 xg1 xh1 xi1 xj1 xsup xtop it_InvalidSide (fun _ _ _ _ _ _ _ _ _ _ _ => ⟨_, rfl, rfl⟩), xcls_mk (st := i_InvalidRallies) X G na2 xa2 xb2 xc2 xd2 xe2 xf2 xg2 xh2 xi2 xj2 xsup xtop it_InvalidRallies (fun _ _ _ _ _ _ _ _ _ _ _ => ⟨_, rfl, rfl⟩), xcls_mk (st := i_Ended) X G na7 xa7 xb7 xc7 xd7 xe7 xf7 xg7 xh7 xi7 xj7 xsup xtop it_Ended (fun _ _ _ _ _ _ _ _ _ _ _ => ⟨_, rfl, rfl⟩)⟩
  refine ⟨_, caK K, g_law TP0, [(cT0, TP0, q__law_calls)], fun s u => .of_eq rfl, fun t ht => ?_, tnd, hok TP0, fun base _ _ tb => all_defs z y (tb (cT0, TP0, q__law_calls) (by simp)) C__law_calls T_is_whole T_is_count T_is_between T_is_side T_are_rallies T_is_word T_is_order T_are_numbers_of_race T_is_score T_is_special T_are_specials T_is_rule_within T_is_rule T_check_rule T_check_side T_check_rallies T_unit_of T_begun T_is_won T_next_turn T_led_race T_led T_server_in T_led_by T_check_match T_behind T_going_on T_winner_after T_server_after T_scores_after T_servers_of T_won_units T_stakes T__law_hash T__law_random T__law_cell T__law_generator T__law_pick T__law_order T__law_race T__law_rule T__law_rallies T__law_caught T__law_refused T__law_all_refused (fun_mk (st := s_law) l47 c47 k47)⟩
  simp only [List.mem_cons, List.not_mem_nil, or_false] at ht
  rcases ht with rfl
  · obtain ⟨e, he⟩ := Option.isSome_iff_exists.mp rec0
    exact ⟨"_law_calls", e, he, tab_mk a46 l46 rfl tb10 tb20, tb30⟩
end K08

set_option maxHeartbeats 2000000
namespace K08
open PySem PySem.Spec PyProof.Rows L2 DL
def isInt : D → Bool
  | .int _ => true
  | _ => false
def isBtw (lo hi : Int) : D → Bool
  | .int i => decide (lo ≤ i) && decide (i ≤ hi)
  | _ => false
def isCount : D → Bool
  | .int i => decide (0 ≤ i)
  | _ => false
def isWord (w : Str) : D → Bool
  | .tup [.str x] => decide (x = w)
  | _ => false
def isScore : D → Bool
  | .tup [a, b] => isCount a && isCount b
  | _ => false
def isRow : D → Bool
  | .tup [.str x, .lst ms] => decide (x = "row") && (decide (1 ≤ ms.length) && decide (ms.length ≤ 8)) && ms.all (isBtw 0 1)
  | _ => false
def isOrder (d : D) : Bool := isWord "on" d || isWord "turns" d || isWord "winner" d || isWord "loser" d || isRow d
def isNums (need lead cap : D) : Bool := isBtw 1 30 need && isBtw 1 3 lead && match cap with
  | .non => true
  | c => match need with
    | .int n => isBtw n 40 c
    | _ => false
def wordIs (d : D) : D → Bool
  | .str x => isWord x d
  | _ => false
section
variable {S : Sto} (hS : S.all coFree = true)
include hS
theorem is_whole_ok {d : D} {n : Nat} (h : fit d n = true) : g_is_whole [d] S = .ok (.bl (isInt d)) S := by
  refine bodyT_ok ?_ hS rfl
  cases d <;> first | (exfalso; cases n <;> simp [fit] at h; done) | rfl
theorem is_between_ok {d : D} {n : Nat} {lo hi : Int} (h : fit d n = true) : g_is_between [d, .int lo, .int hi] S = .ok (.bl (isBtw lo hi d)) S := by
  refine bodyT_ok ?_ hS rfl
  have e := is_whole_ok hS h
  simp only [fC_ap, fVar_ap, fOp_ap, fB_ap, fAnd_ap, fOr_ap, fNot_ap, fAndV_ap, fOrV_ap, fNotV_ap, fIf_ap, fNil_ap, fCons_ap, fTup_ap, fLst_ap, fLstC_ap, fNoPart_ap, fPart_ap, fSl_ap, fNeg_ap, fCB_ap, fIsi_ap, fIsi2_ap, fNext_ap, fSeq_ap, fRet_ap, fRetF_ap, fgName_ap, fgNil_ap, fgCons_ap, fgTup_ap, fgSub_ap, fAsg_ap, fPar_ap, fPar3_ap, fDrop_ap, fApp_ap, fIfS_ap, fiSeq_ap, fiTup_ap, fiEnum_ap, fYes_ap, fCall_ap, fCall0_ap, fChain_ap, fBits_ap, fAddC_ap, fiAny_ap, Res.bind_ok, asB_ok, okO_some, bodyD, asB, iterOf, withLock_none, noErr_ok, wipeE, List.map_cons, List.map_nil, List.length_cons, List.length_nil, List.cons_append, List.nil_append, List.getElem?_cons_zero, List.getElem?_cons_succ, List.set_cons_zero, List.set_cons_succ, if_true, Bool.false_eq_true, if_false, Nat.reduceAdd, Nat.reduceSub, Nat.zero_add, List.replicate, tyD, atI_0, atI_1, lenD_lst, lenD_tup, ixD_tup, ixD_lst, eqD_int, eqD_str, neD_int, neD_str, leD_int, ltD_int, gtD_int, geD_int, addD_int, subD_int, intD_int, gx0, gx1, gx2, gs0, gs2, hx0, hx1, hx2, hs0, hs2, capN, Nat.zero_le, Nat.reduceLeDiff, Nat.reduceEqDiff, Nat.reduceLT, Bool.not_true, Bool.not_false, Bool.true_and, Bool.false_and, b_is_between, e]
  cases d with
  | int i => 
    simp only [isInt, fC_ap, fVar_ap, fOp_ap, fB_ap, fAnd_ap, fOr_ap, fNot_ap, fAndV_ap, fOrV_ap, fNotV_ap, fIf_ap, fNil_ap, fCons_ap, fTup_ap, fLst_ap, fLstC_ap, fNoPart_ap, fPart_ap, fSl_ap, fNeg_ap, fCB_ap, fIsi_ap, fIsi2_ap, fNext_ap, fSeq_ap, fRet_ap, fRetF_ap, fgName_ap, fgNil_ap, fgCons_ap, fgTup_ap, fgSub_ap, fAsg_ap, fPar_ap, fPar3_ap, fDrop_ap, fApp_ap, fIfS_ap, fiSeq_ap, fiTup_ap, fiEnum_ap, fYes_ap, fCall_ap, fCall0_ap, fChain_ap, fBits_ap, fAddC_ap, fiAny_ap, Res.bind_ok, asB_ok, okO_some, bodyD, asB, iterOf, withLock_none, noErr_ok, wipeE, List.map_cons, List.map_nil, List.length_cons, List.length_nil, List.cons_append, List.nil_append, List.getElem?_cons_zero, List.getElem?_cons_succ, List.set_cons_zero, List.set_cons_succ, if_true, Bool.false_eq_true, if_false, Nat.reduceAdd, Nat.reduceSub, Nat.zero_add, List.replicate, tyD, atI_0, atI_1, lenD_lst, lenD_tup, ixD_tup, ixD_lst, eqD_int, eqD_str, neD_int, neD_str, leD_int, ltD_int, gtD_int, geD_int, addD_int, subD_int, intD_int, gx0, gx1, gx2, gs0, gs2, hx0, hx1, hx2, hs0, hs2, capN, Nat.zero_le, Nat.reduceLeDiff, Nat.reduceEqDiff, Nat.reduceLT, Bool.not_true, Bool.not_false, Bool.true_and, Bool.false_and, leD, isBtw]
    by_cases c : lo ≤ i <;> simp [c, fC_ap, fVar_ap, fOp_ap, fB_ap, fAnd_ap, fOr_ap, fNot_ap, fAndV_ap, fOrV_ap, fNotV_ap, fIf_ap, fNil_ap, fCons_ap, fTup_ap, fLst_ap, fLstC_ap, fNoPart_ap, fPart_ap, fSl_ap, fNeg_ap, fCB_ap, fIsi_ap, fIsi2_ap, fNext_ap, fSeq_ap, fRet_ap, fRetF_ap, fgName_ap, fgNil_ap, fgCons_ap, fgTup_ap, fgSub_ap, fAsg_ap, fPar_ap, fPar3_ap, fDrop_ap, fApp_ap, fIfS_ap, fiSeq_ap, fiTup_ap, fiEnum_ap, fYes_ap, fCall_ap, fCall0_ap, fChain_ap, fBits_ap, fAddC_ap, fiAny_ap, Res.bind_ok, asB_ok, okO_some, bodyD, asB, iterOf, withLock_none, noErr_ok, wipeE, List.map_cons, List.map_nil, List.length_cons, List.length_nil, List.cons_append, List.nil_append, List.getElem?_cons_zero, List.getElem?_cons_succ, List.set_cons_zero, List.set_cons_succ, if_true, Bool.false_eq_true, if_false, Nat.reduceAdd, Nat.reduceSub, Nat.zero_add, List.replicate, tyD, atI_0, atI_1, lenD_lst, lenD_tup, ixD_tup, ixD_lst, eqD_int, eqD_str, neD_int, neD_str, leD_int, ltD_int, gtD_int, geD_int, addD_int, subD_int, intD_int, gx0, gx1, gx2, gs0, gs2, hx0, hx1, hx2, hs0, hs2, capN, Nat.zero_le, Nat.reduceLeDiff, Nat.reduceEqDiff, Nat.reduceLT, Bool.not_true, Bool.not_false, Bool.true_and, Bool.false_and]
  | _ => simp only [isInt, fC_ap, fVar_ap, fOp_ap, fB_ap, fAnd_ap, fOr_ap, fNot_ap, fAndV_ap, fOrV_ap, fNotV_ap, fIf_ap, fNil_ap, fCons_ap, fTup_ap, fLst_ap, fLstC_ap, fNoPart_ap, fPart_ap, fSl_ap, fNeg_ap, fCB_ap, fIsi_ap, fIsi2_ap, fNext_ap, fSeq_ap, fRet_ap, fRetF_ap, fgName_ap, fgNil_ap, fgCons_ap, fgTup_ap, fgSub_ap, fAsg_ap, fPar_ap, fPar3_ap, fDrop_ap, fApp_ap, fIfS_ap, fiSeq_ap, fiTup_ap, fiEnum_ap, fYes_ap, fCall_ap, fCall0_ap, fChain_ap, fBits_ap, fAddC_ap, fiAny_ap, Res.bind_ok, asB_ok, okO_some, bodyD, asB, iterOf, withLock_none, noErr_ok, wipeE, List.map_cons, List.map_nil, List.length_cons, List.length_nil, List.cons_append, List.nil_append, List.getElem?_cons_zero, List.getElem?_cons_succ, List.set_cons_zero, List.set_cons_succ, if_true, Bool.false_eq_true, if_false, Nat.reduceAdd, Nat.reduceSub, Nat.zero_add, List.replicate, tyD, atI_0, atI_1, lenD_lst, lenD_tup, ixD_tup, ixD_lst, eqD_int, eqD_str, neD_int, neD_str, leD_int, ltD_int, gtD_int, geD_int, addD_int, subD_int, intD_int, gx0, gx1, gx2, gs0, gs2, hx0, hx1, hx2, hs0, hs2, capN, Nat.zero_le, Nat.reduceLeDiff, Nat.reduceEqDiff, Nat.reduceLT, Bool.not_true, Bool.not_false, Bool.true_and, Bool.false_and, isBtw]
theorem is_side_ok {d : D} {n : Nat} (h : fit d n = true) : g_is_side [d] S = .ok (.bl (isBtw 0 1 d)) S := by
  refine bodyT_ok ?_ hS rfl
  simp only [fC_ap, fVar_ap, fOp_ap, fB_ap, fAnd_ap, fOr_ap, fNot_ap, fAndV_ap, fOrV_ap, fNotV_ap, fIf_ap, fNil_ap, fCons_ap, fTup_ap, fLst_ap, fLstC_ap, fNoPart_ap, fPart_ap, fSl_ap, fNeg_ap, fCB_ap, fIsi_ap, fIsi2_ap, fNext_ap, fSeq_ap, fRet_ap, fRetF_ap, fgName_ap, fgNil_ap, fgCons_ap, fgTup_ap, fgSub_ap, fAsg_ap, fPar_ap, fPar3_ap, fDrop_ap, fApp_ap, fIfS_ap, fiSeq_ap, fiTup_ap, fiEnum_ap, fYes_ap, fCall_ap, fCall0_ap, fChain_ap, fBits_ap, fAddC_ap, fiAny_ap, Res.bind_ok, asB_ok, okO_some, bodyD, asB, iterOf, withLock_none, noErr_ok, wipeE, List.map_cons, List.map_nil, List.length_cons, List.length_nil, List.cons_append, List.nil_append, List.getElem?_cons_zero, List.getElem?_cons_succ, List.set_cons_zero, List.set_cons_succ, if_true, Bool.false_eq_true, if_false, Nat.reduceAdd, Nat.reduceSub, Nat.zero_add, List.replicate, tyD, atI_0, atI_1, lenD_lst, lenD_tup, ixD_tup, ixD_lst, eqD_int, eqD_str, neD_int, neD_str, leD_int, ltD_int, gtD_int, geD_int, addD_int, subD_int, intD_int, gx0, gx1, gx2, gs0, gs2, hx0, hx1, hx2, hs0, hs2, capN, Nat.zero_le, Nat.reduceLeDiff, Nat.reduceEqDiff, Nat.reduceLT, Bool.not_true, Bool.not_false, Bool.true_and, Bool.false_and, b_is_side, is_between_ok hS h]
theorem is_count_ok {d : D} {n : Nat} (h : fit d n = true) : g_is_count [d] S = .ok (.bl (isCount d)) S := by
  refine bodyT_ok ?_ hS rfl
  have e := is_whole_ok hS h
  simp only [fC_ap, fVar_ap, fOp_ap, fB_ap, fAnd_ap, fOr_ap, fNot_ap, fAndV_ap, fOrV_ap, fNotV_ap, fIf_ap, fNil_ap, fCons_ap, fTup_ap, fLst_ap, fLstC_ap, fNoPart_ap, fPart_ap, fSl_ap, fNeg_ap, fCB_ap, fIsi_ap, fIsi2_ap, fNext_ap, fSeq_ap, fRet_ap, fRetF_ap, fgName_ap, fgNil_ap, fgCons_ap, fgTup_ap, fgSub_ap, fAsg_ap, fPar_ap, fPar3_ap, fDrop_ap, fApp_ap, fIfS_ap, fiSeq_ap, fiTup_ap, fiEnum_ap, fYes_ap, fCall_ap, fCall0_ap, fChain_ap, fBits_ap, fAddC_ap, fiAny_ap, Res.bind_ok, asB_ok, okO_some, bodyD, asB, iterOf, withLock_none, noErr_ok, wipeE, List.map_cons, List.map_nil, List.length_cons, List.length_nil, List.cons_append, List.nil_append, List.getElem?_cons_zero, List.getElem?_cons_succ, List.set_cons_zero, List.set_cons_succ, if_true, Bool.false_eq_true, if_false, Nat.reduceAdd, Nat.reduceSub, Nat.zero_add, List.replicate, tyD, atI_0, atI_1, lenD_lst, lenD_tup, ixD_tup, ixD_lst, eqD_int, eqD_str, neD_int, neD_str, leD_int, ltD_int, gtD_int, geD_int, addD_int, subD_int, intD_int, gx0, gx1, gx2, gs0, gs2, hx0, hx1, hx2, hs0, hs2, capN, Nat.zero_le, Nat.reduceLeDiff, Nat.reduceEqDiff, Nat.reduceLT, Bool.not_true, Bool.not_false, Bool.true_and, Bool.false_and, b_is_count, e]
  cases d <;> simp only [isInt, fC_ap, fVar_ap, fOp_ap, fB_ap, fAnd_ap, fOr_ap, fNot_ap, fAndV_ap, fOrV_ap, fNotV_ap, fIf_ap, fNil_ap, fCons_ap, fTup_ap, fLst_ap, fLstC_ap, fNoPart_ap, fPart_ap, fSl_ap, fNeg_ap, fCB_ap, fIsi_ap, fIsi2_ap, fNext_ap, fSeq_ap, fRet_ap, fRetF_ap, fgName_ap, fgNil_ap, fgCons_ap, fgTup_ap, fgSub_ap, fAsg_ap, fPar_ap, fPar3_ap, fDrop_ap, fApp_ap, fIfS_ap, fiSeq_ap, fiTup_ap, fiEnum_ap, fYes_ap, fCall_ap, fCall0_ap, fChain_ap, fBits_ap, fAddC_ap, fiAny_ap, Res.bind_ok, asB_ok, okO_some, bodyD, asB, iterOf, withLock_none, noErr_ok, wipeE, List.map_cons, List.map_nil, List.length_cons, List.length_nil, List.cons_append, List.nil_append, List.getElem?_cons_zero, List.getElem?_cons_succ, List.set_cons_zero, List.set_cons_succ, if_true, Bool.false_eq_true, if_false, Nat.reduceAdd, Nat.reduceSub, Nat.zero_add, List.replicate, tyD, atI_0, atI_1, lenD_lst, lenD_tup, ixD_tup, ixD_lst, eqD_int, eqD_str, neD_int, neD_str, leD_int, ltD_int, gtD_int, geD_int, addD_int, subD_int, intD_int, gx0, gx1, gx2, gs0, gs2, hx0, hx1, hx2, hs0, hs2, capN, Nat.zero_le, Nat.reduceLeDiff, Nat.reduceEqDiff, Nat.reduceLT, Bool.not_true, Bool.not_false, Bool.true_and, Bool.false_and, geD, isCount]
theorem is_word_ok {d : D} {n : Nat} {w : Str} (h : fit d n = true) : g_is_word [d, .str w] S = .ok (.bl (isWord w d)) S := by
  refine bodyT_ok ?_ hS rfl
  simp only [fC_ap, fVar_ap, fOp_ap, fB_ap, fAnd_ap, fOr_ap, fNot_ap, fAndV_ap, fOrV_ap, fNotV_ap, fIf_ap, fNil_ap, fCons_ap, fTup_ap, fLst_ap, fLstC_ap, fNoPart_ap, fPart_ap, fSl_ap, fNeg_ap, fCB_ap, fIsi_ap, fIsi2_ap, fNext_ap, fSeq_ap, fRet_ap, fRetF_ap, fgName_ap, fgNil_ap, fgCons_ap, fgTup_ap, fgSub_ap, fAsg_ap, fPar_ap, fPar3_ap, fDrop_ap, fApp_ap, fIfS_ap, fiSeq_ap, fiTup_ap, fiEnum_ap, fYes_ap, fCall_ap, fCall0_ap, fChain_ap, fBits_ap, fAddC_ap, fiAny_ap, Res.bind_ok, asB_ok, okO_some, bodyD, asB, iterOf, withLock_none, noErr_ok, wipeE, List.map_cons, List.map_nil, List.length_cons, List.length_nil, List.cons_append, List.nil_append, List.getElem?_cons_zero, List.getElem?_cons_succ, List.set_cons_zero, List.set_cons_succ, if_true, Bool.false_eq_true, if_false, Nat.reduceAdd, Nat.reduceSub, Nat.zero_add, List.replicate, tyD, atI_0, atI_1, lenD_lst, lenD_tup, ixD_tup, ixD_lst, eqD_int, eqD_str, neD_int, neD_str, leD_int, ltD_int, gtD_int, geD_int, addD_int, subD_int, intD_int, gx0, gx1, gx2, gs0, gs2, hx0, hx1, hx2, hs0, hs2, capN, Nat.zero_le, Nat.reduceLeDiff, Nat.reduceEqDiff, Nat.reduceLT, Bool.not_true, Bool.not_false, Bool.true_and, Bool.false_and, b_is_word]
  cases d with
  | tup xs =>
    match xs, h with
    | [], _ => rfl
    | [x], h =>
      cases x <;> first | rfl | (exfalso; rcases n with _ | _ | n <;> simp [fit, fits] at h)
    | x :: y :: r, _ =>
      have e : ¬ ((r.length : Int) + 1 + 1 = 1) := by omega
      simp [fC_ap, fVar_ap, fOp_ap, fB_ap, fAnd_ap, fOr_ap, fNot_ap, fAndV_ap, fOrV_ap, fNotV_ap, fIf_ap, fNil_ap, fCons_ap, fTup_ap, fLst_ap, fLstC_ap, fNoPart_ap, fPart_ap, fSl_ap, fNeg_ap, fCB_ap, fIsi_ap, fIsi2_ap, fNext_ap, fSeq_ap, fRet_ap, fRetF_ap, fgName_ap, fgNil_ap, fgCons_ap, fgTup_ap, fgSub_ap, fAsg_ap, fPar_ap, fPar3_ap, fDrop_ap, fApp_ap, fIfS_ap, fiSeq_ap, fiTup_ap, fiEnum_ap, fYes_ap, fCall_ap, fCall0_ap, fChain_ap, fBits_ap, fAddC_ap, fiAny_ap, Res.bind_ok, asB_ok, okO_some, bodyD, asB, iterOf, withLock_none, noErr_ok, wipeE, List.map_cons, List.map_nil, List.length_cons, List.length_nil, List.cons_append, List.nil_append, List.getElem?_cons_zero, List.getElem?_cons_succ, List.set_cons_zero, List.set_cons_succ, if_true, Bool.false_eq_true, if_false, Nat.reduceAdd, Nat.reduceSub, Nat.zero_add, List.replicate, tyD, atI_0, atI_1, lenD_lst, lenD_tup, ixD_tup, ixD_lst, eqD_int, eqD_str, neD_int, neD_str, leD_int, ltD_int, gtD_int, geD_int, addD_int, subD_int, intD_int, gx0, gx1, gx2, gs0, gs2, hx0, hx1, hx2, hs0, hs2, capN, Nat.zero_le, Nat.reduceLeDiff, Nat.reduceEqDiff, Nat.reduceLT, Bool.not_true, Bool.not_false, Bool.true_and, Bool.false_and, lenD, seqOf, eqD, eqB, isWord, e]
  | _ => first | (exfalso; cases n <;> simp [fit] at h; done) | rfl
theorem is_score_ok {d : D} {n : Nat} (h : fit d n = true) : g_is_score [d] S = .ok (.bl (isScore d)) S := by
  refine bodyT_ok ?_ hS rfl
  simp only [fC_ap, fVar_ap, fOp_ap, fB_ap, fAnd_ap, fOr_ap, fNot_ap, fAndV_ap, fOrV_ap, fNotV_ap, fIf_ap, fNil_ap, fCons_ap, fTup_ap, fLst_ap, fLstC_ap, fNoPart_ap, fPart_ap, fSl_ap, fNeg_ap, fCB_ap, fIsi_ap, fIsi2_ap, fNext_ap, fSeq_ap, fRet_ap, fRetF_ap, fgName_ap, fgNil_ap, fgCons_ap, fgTup_ap, fgSub_ap, fAsg_ap, fPar_ap, fPar3_ap, fDrop_ap, fApp_ap, fIfS_ap, fiSeq_ap, fiTup_ap, fiEnum_ap, fYes_ap, fCall_ap, fCall0_ap, fChain_ap, fBits_ap, fAddC_ap, fiAny_ap, Res.bind_ok, asB_ok, okO_some, bodyD, asB, iterOf, withLock_none, noErr_ok, wipeE, List.map_cons, List.map_nil, List.length_cons, List.length_nil, List.cons_append, List.nil_append, List.getElem?_cons_zero, List.getElem?_cons_succ, List.set_cons_zero, List.set_cons_succ, if_true, Bool.false_eq_true, if_false, Nat.reduceAdd, Nat.reduceSub, Nat.zero_add, List.replicate, tyD, atI_0, atI_1, lenD_lst, lenD_tup, ixD_tup, ixD_lst, eqD_int, eqD_str, neD_int, neD_str, leD_int, ltD_int, gtD_int, geD_int, addD_int, subD_int, intD_int, gx0, gx1, gx2, gs0, gs2, hx0, hx1, hx2, hs0, hs2, capN, Nat.zero_le, Nat.reduceLeDiff, Nat.reduceEqDiff, Nat.reduceLT, Bool.not_true, Bool.not_false, Bool.true_and, Bool.false_and, b_is_score]
  cases d with
  | tup xs =>
    cases n with
    | zero => simp [fit] at h
    | succ n =>
      match xs, h with
      | [], _ => rfl
      | [x], _ => rfl
      | [x, y], h =>
        simp only [fit, fits, Bool.and_eq_true] at h
        have e1 := is_count_ok hS h.1
        have e2 := is_count_ok hS h.2.1
        simp only [fC_ap, fVar_ap, fOp_ap, fB_ap, fAnd_ap, fOr_ap, fNot_ap, fAndV_ap, fOrV_ap, fNotV_ap, fIf_ap, fNil_ap, fCons_ap, fTup_ap, fLst_ap, fLstC_ap, fNoPart_ap, fPart_ap, fSl_ap, fNeg_ap, fCB_ap, fIsi_ap, fIsi2_ap, fNext_ap, fSeq_ap, fRet_ap, fRetF_ap, fgName_ap, fgNil_ap, fgCons_ap, fgTup_ap, fgSub_ap, fAsg_ap, fPar_ap, fPar3_ap, fDrop_ap, fApp_ap, fIfS_ap, fiSeq_ap, fiTup_ap, fiEnum_ap, fYes_ap, fCall_ap, fCall0_ap, fChain_ap, fBits_ap, fAddC_ap, fiAny_ap, Res.bind_ok, asB_ok, okO_some, bodyD, asB, iterOf, withLock_none, noErr_ok, wipeE, List.map_cons, List.map_nil, List.length_cons, List.length_nil, List.cons_append, List.nil_append, List.getElem?_cons_zero, List.getElem?_cons_succ, List.set_cons_zero, List.set_cons_succ, if_true, Bool.false_eq_true, if_false, Nat.reduceAdd, Nat.reduceSub, Nat.zero_add, List.replicate, tyD, atI_0, atI_1, lenD_lst, lenD_tup, ixD_tup, ixD_lst, eqD_int, eqD_str, neD_int, neD_str, leD_int, ltD_int, gtD_int, geD_int, addD_int, subD_int, intD_int, gx0, gx1, gx2, gs0, gs2, hx0, hx1, hx2, hs0, hs2, capN, Nat.zero_le, Nat.reduceLeDiff, Nat.reduceEqDiff, Nat.reduceLT, Bool.not_true, Bool.not_false, Bool.true_and, Bool.false_and, isScore, e1, e2, isiB]
        cases isCount x <;> simp [fC_ap, fVar_ap, fOp_ap, fB_ap, fAnd_ap, fOr_ap, fNot_ap, fAndV_ap, fOrV_ap, fNotV_ap, fIf_ap, fNil_ap, fCons_ap, fTup_ap, fLst_ap, fLstC_ap, fNoPart_ap, fPart_ap, fSl_ap, fNeg_ap, fCB_ap, fIsi_ap, fIsi2_ap, fNext_ap, fSeq_ap, fRet_ap, fRetF_ap, fgName_ap, fgNil_ap, fgCons_ap, fgTup_ap, fgSub_ap, fAsg_ap, fPar_ap, fPar3_ap, fDrop_ap, fApp_ap, fIfS_ap, fiSeq_ap, fiTup_ap, fiEnum_ap, fYes_ap, fCall_ap, fCall0_ap, fChain_ap, fBits_ap, fAddC_ap, fiAny_ap, Res.bind_ok, asB_ok, okO_some, bodyD, asB, iterOf, withLock_none, noErr_ok, wipeE, List.map_cons, List.map_nil, List.length_cons, List.length_nil, List.cons_append, List.nil_append, List.getElem?_cons_zero, List.getElem?_cons_succ, List.set_cons_zero, List.set_cons_succ, if_true, Bool.false_eq_true, if_false, Nat.reduceAdd, Nat.reduceSub, Nat.zero_add, List.replicate, tyD, atI_0, atI_1, lenD_lst, lenD_tup, ixD_tup, ixD_lst, eqD_int, eqD_str, neD_int, neD_str, leD_int, ltD_int, gtD_int, geD_int, addD_int, subD_int, intD_int, gx0, gx1, gx2, gs0, gs2, hx0, hx1, hx2, hs0, hs2, capN, Nat.zero_le, Nat.reduceLeDiff, Nat.reduceEqDiff, Nat.reduceLT, Bool.not_true, Bool.not_false, Bool.true_and, Bool.false_and, e2]
      | x :: y :: z :: r, _ =>
        have e : ¬ ((r.length : Int) + 1 + 1 + 1 = 2) := by omega
        simp [fC_ap, fVar_ap, fOp_ap, fB_ap, fAnd_ap, fOr_ap, fNot_ap, fAndV_ap, fOrV_ap, fNotV_ap, fIf_ap, fNil_ap, fCons_ap, fTup_ap, fLst_ap, fLstC_ap, fNoPart_ap, fPart_ap, fSl_ap, fNeg_ap, fCB_ap, fIsi_ap, fIsi2_ap, fNext_ap, fSeq_ap, fRet_ap, fRetF_ap, fgName_ap, fgNil_ap, fgCons_ap, fgTup_ap, fgSub_ap, fAsg_ap, fPar_ap, fPar3_ap, fDrop_ap, fApp_ap, fIfS_ap, fiSeq_ap, fiTup_ap, fiEnum_ap, fYes_ap, fCall_ap, fCall0_ap, fChain_ap, fBits_ap, fAddC_ap, fiAny_ap, Res.bind_ok, asB_ok, okO_some, bodyD, asB, iterOf, withLock_none, noErr_ok, wipeE, List.map_cons, List.map_nil, List.length_cons, List.length_nil, List.cons_append, List.nil_append, List.getElem?_cons_zero, List.getElem?_cons_succ, List.set_cons_zero, List.set_cons_succ, if_true, Bool.false_eq_true, if_false, Nat.reduceAdd, Nat.reduceSub, Nat.zero_add, List.replicate, tyD, atI_0, atI_1, lenD_lst, lenD_tup, ixD_tup, ixD_lst, eqD_int, eqD_str, neD_int, neD_str, leD_int, ltD_int, gtD_int, geD_int, addD_int, subD_int, intD_int, gx0, gx1, gx2, gs0, gs2, hx0, hx1, hx2, hs0, hs2, capN, Nat.zero_le, Nat.reduceLeDiff, Nat.reduceEqDiff, Nat.reduceLT, Bool.not_true, Bool.not_false, Bool.true_and, Bool.false_and, isScore, e, isiB]
  | _ => first | (exfalso; cases n <;> simp [fit] at h; done) | rfl
theorem are_numbers_ok {a b c : D} {n : Nat} (h1 : fit a n = true) (h2 : fit b n = true) (h3 : fit c n = true) : g_are_numbers_of_race [a, b, c] S = .ok (.bl (isNums a b c)) S := by
  refine bodyT_ok ?_ hS rfl
  have e1 := is_between_ok (lo := 1) (hi := 30) hS h1
  have e2 := is_between_ok (lo := 1) (hi := 3) hS h2
  simp only [fC_ap, fVar_ap, fOp_ap, fB_ap, fAnd_ap, fOr_ap, fNot_ap, fAndV_ap, fOrV_ap, fNotV_ap, fIf_ap, fNil_ap, fCons_ap, fTup_ap, fLst_ap, fLstC_ap, fNoPart_ap, fPart_ap, fSl_ap, fNeg_ap, fCB_ap, fIsi_ap, fIsi2_ap, fNext_ap, fSeq_ap, fRet_ap, fRetF_ap, fgName_ap, fgNil_ap, fgCons_ap, fgTup_ap, fgSub_ap, fAsg_ap, fPar_ap, fPar3_ap, fDrop_ap, fApp_ap, fIfS_ap, fiSeq_ap, fiTup_ap, fiEnum_ap, fYes_ap, fCall_ap, fCall0_ap, fChain_ap, fBits_ap, fAddC_ap, fiAny_ap, Res.bind_ok, asB_ok, okO_some, bodyD, asB, iterOf, withLock_none, noErr_ok, wipeE, List.map_cons, List.map_nil, List.length_cons, List.length_nil, List.cons_append, List.nil_append, List.getElem?_cons_zero, List.getElem?_cons_succ, List.set_cons_zero, List.set_cons_succ, if_true, Bool.false_eq_true, if_false, Nat.reduceAdd, Nat.reduceSub, Nat.zero_add, List.replicate, tyD, atI_0, atI_1, lenD_lst, lenD_tup, ixD_tup, ixD_lst, eqD_int, eqD_str, neD_int, neD_str, leD_int, ltD_int, gtD_int, geD_int, addD_int, subD_int, intD_int, gx0, gx1, gx2, gs0, gs2, hx0, hx1, hx2, hs0, hs2, capN, Nat.zero_le, Nat.reduceLeDiff, Nat.reduceEqDiff, Nat.reduceLT, Bool.not_true, Bool.not_false, Bool.true_and, Bool.false_and, b_are_numbers_of_race, e1, e2]
  cases q1 : isBtw 1 30 a with
  | false => simp [fC_ap, fVar_ap, fOp_ap, fB_ap, fAnd_ap, fOr_ap, fNot_ap, fAndV_ap, fOrV_ap, fNotV_ap, fIf_ap, fNil_ap, fCons_ap, fTup_ap, fLst_ap, fLstC_ap, fNoPart_ap, fPart_ap, fSl_ap, fNeg_ap, fCB_ap, fIsi_ap, fIsi2_ap, fNext_ap, fSeq_ap, fRet_ap, fRetF_ap, fgName_ap, fgNil_ap, fgCons_ap, fgTup_ap, fgSub_ap, fAsg_ap, fPar_ap, fPar3_ap, fDrop_ap, fApp_ap, fIfS_ap, fiSeq_ap, fiTup_ap, fiEnum_ap, fYes_ap, fCall_ap, fCall0_ap, fChain_ap, fBits_ap, fAddC_ap, fiAny_ap, Res.bind_ok, asB_ok, okO_some, bodyD, asB, iterOf, withLock_none, noErr_ok, wipeE, List.map_cons, List.map_nil, List.length_cons, List.length_nil, List.cons_append, List.nil_append, List.getElem?_cons_zero, List.getElem?_cons_succ, List.set_cons_zero, List.set_cons_succ, if_true, Bool.false_eq_true, if_false, Nat.reduceAdd, Nat.reduceSub, Nat.zero_add, List.replicate, tyD, atI_0, atI_1, lenD_lst, lenD_tup, ixD_tup, ixD_lst, eqD_int, eqD_str, neD_int, neD_str, leD_int, ltD_int, gtD_int, geD_int, addD_int, subD_int, intD_int, gx0, gx1, gx2, gs0, gs2, hx0, hx1, hx2, hs0, hs2, capN, Nat.zero_le, Nat.reduceLeDiff, Nat.reduceEqDiff, Nat.reduceLT, Bool.not_true, Bool.not_false, Bool.true_and, Bool.false_and, isNums, q1]
  | true =>
    cases q2 : isBtw 1 3 b with
    | false => simp [fC_ap, fVar_ap, fOp_ap, fB_ap, fAnd_ap, fOr_ap, fNot_ap, fAndV_ap, fOrV_ap, fNotV_ap, fIf_ap, fNil_ap, fCons_ap, fTup_ap, fLst_ap, fLstC_ap, fNoPart_ap, fPart_ap, fSl_ap, fNeg_ap, fCB_ap, fIsi_ap, fIsi2_ap, fNext_ap, fSeq_ap, fRet_ap, fRetF_ap, fgName_ap, fgNil_ap, fgCons_ap, fgTup_ap, fgSub_ap, fAsg_ap, fPar_ap, fPar3_ap, fDrop_ap, fApp_ap, fIfS_ap, fiSeq_ap, fiTup_ap, fiEnum_ap, fYes_ap, fCall_ap, fCall0_ap, fChain_ap, fBits_ap, fAddC_ap, fiAny_ap, Res.bind_ok, asB_ok, okO_some, bodyD, asB, iterOf, withLock_none, noErr_ok, wipeE, List.map_cons, List.map_nil, List.length_cons, List.length_nil, List.cons_append, List.nil_append, List.getElem?_cons_zero, List.getElem?_cons_succ, List.set_cons_zero, List.set_cons_succ, if_true, Bool.false_eq_true, if_false, Nat.reduceAdd, Nat.reduceSub, Nat.zero_add, List.replicate, tyD, atI_0, atI_1, lenD_lst, lenD_tup, ixD_tup, ixD_lst, eqD_int, eqD_str, neD_int, neD_str, leD_int, ltD_int, gtD_int, geD_int, addD_int, subD_int, intD_int, gx0, gx1, gx2, gs0, gs2, hx0, hx1, hx2, hs0, hs2, capN, Nat.zero_le, Nat.reduceLeDiff, Nat.reduceEqDiff, Nat.reduceLT, Bool.not_true, Bool.not_false, Bool.true_and, Bool.false_and, isNums, q1, q2, e2]
    | true =>
      obtain ⟨i, rfl⟩ : ∃ i, a = .int i := by
        cases a with
        | int i => exact ⟨i, rfl⟩
        | _ => simp [isBtw] at q1
      have e3 := is_between_ok (lo := i) (hi := 40) hS h3
      cases c <;> simp [fC_ap, fVar_ap, fOp_ap, fB_ap, fAnd_ap, fOr_ap, fNot_ap, fAndV_ap, fOrV_ap, fNotV_ap, fIf_ap, fNil_ap, fCons_ap, fTup_ap, fLst_ap, fLstC_ap, fNoPart_ap, fPart_ap, fSl_ap, fNeg_ap, fCB_ap, fIsi_ap, fIsi2_ap, fNext_ap, fSeq_ap, fRet_ap, fRetF_ap, fgName_ap, fgNil_ap, fgCons_ap, fgTup_ap, fgSub_ap, fAsg_ap, fPar_ap, fPar3_ap, fDrop_ap, fApp_ap, fIfS_ap, fiSeq_ap, fiTup_ap, fiEnum_ap, fYes_ap, fCall_ap, fCall0_ap, fChain_ap, fBits_ap, fAddC_ap, fiAny_ap, Res.bind_ok, asB_ok, okO_some, bodyD, asB, iterOf, withLock_none, noErr_ok, wipeE, List.map_cons, List.map_nil, List.length_cons, List.length_nil, List.cons_append, List.nil_append, List.getElem?_cons_zero, List.getElem?_cons_succ, List.set_cons_zero, List.set_cons_succ, if_true, Bool.false_eq_true, if_false, Nat.reduceAdd, Nat.reduceSub, Nat.zero_add, List.replicate, tyD, atI_0, atI_1, lenD_lst, lenD_tup, ixD_tup, ixD_lst, eqD_int, eqD_str, neD_int, neD_str, leD_int, ltD_int, gtD_int, geD_int, addD_int, subD_int, intD_int, gx0, gx1, gx2, gs0, gs2, hx0, hx1, hx2, hs0, hs2, capN, Nat.zero_le, Nat.reduceLeDiff, Nat.reduceEqDiff, Nat.reduceLT, Bool.not_true, Bool.not_false, Bool.true_and, Bool.false_and, isNums, q1, q2, e2, e3, isD, DL.isNon]
theorem is_order_ok {d : D} {n : Nat} (h : fit d n = true) (hn : n ≤ 60) : g_is_order [d] S = .ok (.bl (isOrder d)) S := by
  refine bodyT_ok ?_ hS rfl
  have l1 := fLc_pure (vs := [1]) (fi := fiAny (fC c_ORDERS)) (g := fgName 1) (c := fB (fCall 2 g_is_word (fCons (fVar 0) (fCons (fVar 1) fNil)))) (el := fVar 1) (ρ := [some d, none, none]) (S := S) (xs := [.str "on", .str "turns", .str "winner", .str "loser"])
      (wordIs d) id rfl (by decide) (fun w m => by
          refine ⟨[some d, some w, none], rfl, ?_, fun _ => rfl⟩
          obtain ⟨x, rfl⟩ : ∃ x, w = .str x := by
            simp only [List.mem_cons, List.not_mem_nil, or_false] at m
            rcases m with rfl | rfl | rfl | rfl <;> exact ⟨_, rfl⟩
          simp only [fC_ap, fVar_ap, fOp_ap, fB_ap, fAnd_ap, fOr_ap, fNot_ap, fAndV_ap, fOrV_ap, fNotV_ap, fIf_ap, fNil_ap, fCons_ap, fTup_ap, fLst_ap, fLstC_ap, fNoPart_ap, fPart_ap, fSl_ap, fNeg_ap, fCB_ap, fIsi_ap, fIsi2_ap, fNext_ap, fSeq_ap, fRet_ap, fRetF_ap, fgName_ap, fgNil_ap, fgCons_ap, fgTup_ap, fgSub_ap, fAsg_ap, fPar_ap, fPar3_ap, fDrop_ap, fApp_ap, fIfS_ap, fiSeq_ap, fiTup_ap, fiEnum_ap, fYes_ap, fCall_ap, fCall0_ap, fChain_ap, fBits_ap, fAddC_ap, fiAny_ap, Res.bind_ok, asB_ok, okO_some, bodyD, asB, iterOf, withLock_none, noErr_ok, wipeE, List.map_cons, List.map_nil, List.length_cons, List.length_nil, List.cons_append, List.nil_append, List.getElem?_cons_zero, List.getElem?_cons_succ, List.set_cons_zero, List.set_cons_succ, if_true, Bool.false_eq_true, if_false, Nat.reduceAdd, Nat.reduceSub, Nat.zero_add, List.replicate, tyD, atI_0, atI_1, lenD_lst, lenD_tup, ixD_tup, ixD_lst, eqD_int, eqD_str, neD_int, neD_str, leD_int, ltD_int, gtD_int, geD_int, addD_int, subD_int, intD_int, gx0, gx1, gx2, gs0, gs2, hx0, hx1, hx2, hs0, hs2, capN, Nat.zero_le, Nat.reduceLeDiff, Nat.reduceEqDiff, Nat.reduceLT, Bool.not_true, Bool.not_false, Bool.true_and, Bool.false_and, is_word_ok hS h, wordIs])
  rw [List.map_id] at l1
  have l2 : neD (.lst (([.str "on", .str "turns", .str "winner", .str "loser"] : List D).filter (wordIs d))) (.lst []) S = some (.bl (isWord "on" d || isWord "turns" d || isWord "winner" d || isWord "loser" d)) := by
    rw [neD_nil (n := 0) (fits_filter _ (by decide +kernel)) (by decide), isEmpty_filter]
    simp only [List.all_cons, List.all_nil, wordIs]
    cases isWord "on" d <;> cases isWord "turns" d <;> cases isWord "winner" d <;> cases isWord "loser" d <;> rfl
  simp only [fC_ap, fVar_ap, fOp_ap, fB_ap, fAnd_ap, fOr_ap, fNot_ap, fAndV_ap, fOrV_ap, fNotV_ap, fIf_ap, fNil_ap, fCons_ap, fTup_ap, fLst_ap, fLstC_ap, fNoPart_ap, fPart_ap, fSl_ap, fNeg_ap, fCB_ap, fIsi_ap, fIsi2_ap, fNext_ap, fSeq_ap, fRet_ap, fRetF_ap, fgName_ap, fgNil_ap, fgCons_ap, fgTup_ap, fgSub_ap, fAsg_ap, fPar_ap, fPar3_ap, fDrop_ap, fApp_ap, fIfS_ap, fiSeq_ap, fiTup_ap, fiEnum_ap, fYes_ap, fCall_ap, fCall0_ap, fChain_ap, fBits_ap, fAddC_ap, fiAny_ap, Res.bind_ok, asB_ok, okO_some, bodyD, asB, iterOf, withLock_none, noErr_ok, wipeE, List.map_cons, List.map_nil, List.length_cons, List.length_nil, List.cons_append, List.nil_append, List.getElem?_cons_zero, List.getElem?_cons_succ, List.set_cons_zero, List.set_cons_succ, if_true, Bool.false_eq_true, if_false, Nat.reduceAdd, Nat.reduceSub, Nat.zero_add, List.replicate, tyD, atI_0, atI_1, lenD_lst, lenD_tup, ixD_tup, ixD_lst, eqD_int, eqD_str, neD_int, neD_str, leD_int, ltD_int, gtD_int, geD_int, addD_int, subD_int, intD_int, gx0, gx1, gx2, gs0, gs2, hx0, hx1, hx2, hs0, hs2, capN, Nat.zero_le, Nat.reduceLeDiff, Nat.reduceEqDiff, Nat.reduceLT, Bool.not_true, Bool.not_false, Bool.true_and, Bool.false_and, b_is_order, l1, l2]
  cases q : (isWord "on" d || isWord "turns" d || isWord "winner" d || isWord "loser" d) with
  | true => simp [fC_ap, fVar_ap, fOp_ap, fB_ap, fAnd_ap, fOr_ap, fNot_ap, fAndV_ap, fOrV_ap, fNotV_ap, fIf_ap, fNil_ap, fCons_ap, fTup_ap, fLst_ap, fLstC_ap, fNoPart_ap, fPart_ap, fSl_ap, fNeg_ap, fCB_ap, fIsi_ap, fIsi2_ap, fNext_ap, fSeq_ap, fRet_ap, fRetF_ap, fgName_ap, fgNil_ap, fgCons_ap, fgTup_ap, fgSub_ap, fAsg_ap, fPar_ap, fPar3_ap, fDrop_ap, fApp_ap, fIfS_ap, fiSeq_ap, fiTup_ap, fiEnum_ap, fYes_ap, fCall_ap, fCall0_ap, fChain_ap, fBits_ap, fAddC_ap, fiAny_ap, Res.bind_ok, asB_ok, okO_some, bodyD, asB, iterOf, withLock_none, noErr_ok, wipeE, List.map_cons, List.map_nil, List.length_cons, List.length_nil, List.cons_append, List.nil_append, List.getElem?_cons_zero, List.getElem?_cons_succ, List.set_cons_zero, List.set_cons_succ, if_true, Bool.false_eq_true, if_false, Nat.reduceAdd, Nat.reduceSub, Nat.zero_add, List.replicate, tyD, atI_0, atI_1, lenD_lst, lenD_tup, ixD_tup, ixD_lst, eqD_int, eqD_str, neD_int, neD_str, leD_int, ltD_int, gtD_int, geD_int, addD_int, subD_int, intD_int, gx0, gx1, gx2, gs0, gs2, hx0, hx1, hx2, hs0, hs2, capN, Nat.zero_le, Nat.reduceLeDiff, Nat.reduceEqDiff, Nat.reduceLT, Bool.not_true, Bool.not_false, Bool.true_and, Bool.false_and, isOrder, q]
  | false =>
    have ei : isOrder d = isRow d := by simp only [isOrder, q, Bool.false_or]
    rw [ei]
    clear ei l1 l2 q
    simp only [fC_ap, fVar_ap, fOp_ap, fB_ap, fAnd_ap, fOr_ap, fNot_ap, fAndV_ap, fOrV_ap, fNotV_ap, fIf_ap, fNil_ap, fCons_ap, fTup_ap, fLst_ap, fLstC_ap, fNoPart_ap, fPart_ap, fSl_ap, fNeg_ap, fCB_ap, fIsi_ap, fIsi2_ap, fNext_ap, fSeq_ap, fRet_ap, fRetF_ap, fgName_ap, fgNil_ap, fgCons_ap, fgTup_ap, fgSub_ap, fAsg_ap, fPar_ap, fPar3_ap, fDrop_ap, fApp_ap, fIfS_ap, fiSeq_ap, fiTup_ap, fiEnum_ap, fYes_ap, fCall_ap, fCall0_ap, fChain_ap, fBits_ap, fAddC_ap, fiAny_ap, Res.bind_ok, asB_ok, okO_some, bodyD, asB, iterOf, withLock_none, noErr_ok, wipeE, List.map_cons, List.map_nil, List.length_cons, List.length_nil, List.cons_append, List.nil_append, List.getElem?_cons_zero, List.getElem?_cons_succ, List.set_cons_zero, List.set_cons_succ, if_true, Bool.false_eq_true, if_false, Nat.reduceAdd, Nat.reduceSub, Nat.zero_add, List.replicate, tyD, atI_0, atI_1, lenD_lst, lenD_tup, ixD_tup, ixD_lst, eqD_int, eqD_str, neD_int, neD_str, leD_int, ltD_int, gtD_int, geD_int, addD_int, subD_int, intD_int, gx0, gx1, gx2, gs0, gs2, hx0, hx1, hx2, hs0, hs2, capN, Nat.zero_le, Nat.reduceLeDiff, Nat.reduceEqDiff, Nat.reduceLT, Bool.not_true, Bool.not_false, Bool.true_and, Bool.false_and]
    cases d with
    | tup xs =>
      cases n with
      | zero => simp [fit] at h
      | succ n =>
        match xs, h with
        | [], _ => rfl
        | [x], _ => cases x <;> rfl
        | [x, y], h =>
          simp only [fit, fits, Bool.and_eq_true] at h
          obtain ⟨h1, h2, -⟩ := h
          cases x with
          | str w =>
            by_cases ew : w = "row"
            · subst ew
              cases y with
              | lst ms =>
                cases n with
                | zero => simp [fit] at h2
                | succ n =>
                  simp only [fit] at h2
                  by_cases c1 : 1 ≤ ms.length
                  · by_cases c2 : ms.length ≤ 8
                    · have l3 := fLc_pure (vs := [2]) (fi := fiAny (fOp ixD (fVar 0) (fC (.int 1)))) (g := fgName 2) (c := fNot (fB (fCall 1 g_is_side (fCons (fVar 2) fNil)))) (el := fVar 2) (ρ := [some (.tup [.str "row", .lst ms]), none, none]) (S := S) (xs := ms)
                        (fun m => !isBtw 0 1 m) id (by simp only [fC_ap, fVar_ap, fOp_ap, fB_ap, fAnd_ap, fOr_ap, fNot_ap, fAndV_ap, fOrV_ap, fNotV_ap, fIf_ap, fNil_ap, fCons_ap, fTup_ap, fLst_ap, fLstC_ap, fNoPart_ap, fPart_ap, fSl_ap, fNeg_ap, fCB_ap, fIsi_ap, fIsi2_ap, fNext_ap, fSeq_ap, fRet_ap, fRetF_ap, fgName_ap, fgNil_ap, fgCons_ap, fgTup_ap, fgSub_ap, fAsg_ap, fPar_ap, fPar3_ap, fDrop_ap, fApp_ap, fIfS_ap, fiSeq_ap, fiTup_ap, fiEnum_ap, fYes_ap, fCall_ap, fCall0_ap, fChain_ap, fBits_ap, fAddC_ap, fiAny_ap, Res.bind_ok, asB_ok, okO_some, bodyD, asB, iterOf, withLock_none, noErr_ok, wipeE, List.map_cons, List.map_nil, List.length_cons, List.length_nil, List.cons_append, List.nil_append, List.getElem?_cons_zero, List.getElem?_cons_succ, List.set_cons_zero, List.set_cons_succ, if_true, Bool.false_eq_true, if_false, Nat.reduceAdd, Nat.reduceSub, Nat.zero_add, List.replicate, tyD, atI_0, atI_1, lenD_lst, lenD_tup, ixD_tup, ixD_lst, eqD_int, eqD_str, neD_int, neD_str, leD_int, ltD_int, gtD_int, geD_int, addD_int, subD_int, intD_int, gx0, gx1, gx2, gs0, gs2, hx0, hx1, hx2, hs0, hs2, capN, Nat.zero_le, Nat.reduceLeDiff, Nat.reduceEqDiff, Nat.reduceLT, Bool.not_true, Bool.not_false, Bool.true_and, Bool.false_and]) (by show ms.length < 10000000; omega) (fun m hm => by
                          refine ⟨[some (.tup [.str "row", .lst ms]), none, some m], rfl, ?_, fun _ => rfl⟩
                          simp only [fC_ap, fVar_ap, fOp_ap, fB_ap, fAnd_ap, fOr_ap, fNot_ap, fAndV_ap, fOrV_ap, fNotV_ap, fIf_ap, fNil_ap, fCons_ap, fTup_ap, fLst_ap, fLstC_ap, fNoPart_ap, fPart_ap, fSl_ap, fNeg_ap, fCB_ap, fIsi_ap, fIsi2_ap, fNext_ap, fSeq_ap, fRet_ap, fRetF_ap, fgName_ap, fgNil_ap, fgCons_ap, fgTup_ap, fgSub_ap, fAsg_ap, fPar_ap, fPar3_ap, fDrop_ap, fApp_ap, fIfS_ap, fiSeq_ap, fiTup_ap, fiEnum_ap, fYes_ap, fCall_ap, fCall0_ap, fChain_ap, fBits_ap, fAddC_ap, fiAny_ap, Res.bind_ok, asB_ok, okO_some, bodyD, asB, iterOf, withLock_none, noErr_ok, wipeE, List.map_cons, List.map_nil, List.length_cons, List.length_nil, List.cons_append, List.nil_append, List.getElem?_cons_zero, List.getElem?_cons_succ, List.set_cons_zero, List.set_cons_succ, if_true, Bool.false_eq_true, if_false, Nat.reduceAdd, Nat.reduceSub, Nat.zero_add, List.replicate, tyD, atI_0, atI_1, lenD_lst, lenD_tup, ixD_tup, ixD_lst, eqD_int, eqD_str, neD_int, neD_str, leD_int, ltD_int, gtD_int, geD_int, addD_int, subD_int, intD_int, gx0, gx1, gx2, gs0, gs2, hx0, hx1, hx2, hs0, hs2, capN, Nat.zero_le, Nat.reduceLeDiff, Nat.reduceEqDiff, Nat.reduceLT, Bool.not_true, Bool.not_false, Bool.true_and, Bool.false_and, is_side_ok hS (fits_mem h2 hm)])
                      rw [List.map_id] at l3
                      have l4 := eqD_nil (S := S) (fits_filter (fun m => !isBtw 0 1 m) h2) (by omega)
                      rw [isEmpty_filter] at l4
                      have c1' : (1 : Int) ≤ ms.length := by omega
                      have c2' : (ms.length : Int) ≤ 8 := by omega
                      simp [fC_ap, fVar_ap, fOp_ap, fB_ap, fAnd_ap, fOr_ap, fNot_ap, fAndV_ap, fOrV_ap, fNotV_ap, fIf_ap, fNil_ap, fCons_ap, fTup_ap, fLst_ap, fLstC_ap, fNoPart_ap, fPart_ap, fSl_ap, fNeg_ap, fCB_ap, fIsi_ap, fIsi2_ap, fNext_ap, fSeq_ap, fRet_ap, fRetF_ap, fgName_ap, fgNil_ap, fgCons_ap, fgTup_ap, fgSub_ap, fAsg_ap, fPar_ap, fPar3_ap, fDrop_ap, fApp_ap, fIfS_ap, fiSeq_ap, fiTup_ap, fiEnum_ap, fYes_ap, fCall_ap, fCall0_ap, fChain_ap, fBits_ap, fAddC_ap, fiAny_ap, Res.bind_ok, asB_ok, okO_some, bodyD, asB, iterOf, withLock_none, noErr_ok, wipeE, List.map_cons, List.map_nil, List.length_cons, List.length_nil, List.cons_append, List.nil_append, List.getElem?_cons_zero, List.getElem?_cons_succ, List.set_cons_zero, List.set_cons_succ, if_true, Bool.false_eq_true, if_false, Nat.reduceAdd, Nat.reduceSub, Nat.zero_add, List.replicate, tyD, atI_0, atI_1, lenD_lst, lenD_tup, ixD_tup, ixD_lst, eqD_int, eqD_str, neD_int, neD_str, leD_int, ltD_int, gtD_int, geD_int, addD_int, subD_int, intD_int, gx0, gx1, gx2, gs0, gs2, hx0, hx1, hx2, hs0, hs2, capN, Nat.zero_le, Nat.reduceLeDiff, Nat.reduceEqDiff, Nat.reduceLT, Bool.not_true, Bool.not_false, Bool.true_and, Bool.false_and, isiB, isRow, c1, c2, c1', c2', l3, l4]
                    · have c1' : (1 : Int) ≤ ms.length := by omega
                      have c2' : ¬ (ms.length : Int) ≤ 8 := by omega
                      simp [fC_ap, fVar_ap, fOp_ap, fB_ap, fAnd_ap, fOr_ap, fNot_ap, fAndV_ap, fOrV_ap, fNotV_ap, fIf_ap, fNil_ap, fCons_ap, fTup_ap, fLst_ap, fLstC_ap, fNoPart_ap, fPart_ap, fSl_ap, fNeg_ap, fCB_ap, fIsi_ap, fIsi2_ap, fNext_ap, fSeq_ap, fRet_ap, fRetF_ap, fgName_ap, fgNil_ap, fgCons_ap, fgTup_ap, fgSub_ap, fAsg_ap, fPar_ap, fPar3_ap, fDrop_ap, fApp_ap, fIfS_ap, fiSeq_ap, fiTup_ap, fiEnum_ap, fYes_ap, fCall_ap, fCall0_ap, fChain_ap, fBits_ap, fAddC_ap, fiAny_ap, Res.bind_ok, asB_ok, okO_some, bodyD, asB, iterOf, withLock_none, noErr_ok, wipeE, List.map_cons, List.map_nil, List.length_cons, List.length_nil, List.cons_append, List.nil_append, List.getElem?_cons_zero, List.getElem?_cons_succ, List.set_cons_zero, List.set_cons_succ, if_true, Bool.false_eq_true, if_false, Nat.reduceAdd, Nat.reduceSub, Nat.zero_add, List.replicate, tyD, atI_0, atI_1, lenD_lst, lenD_tup, ixD_tup, ixD_lst, eqD_int, eqD_str, neD_int, neD_str, leD_int, ltD_int, gtD_int, geD_int, addD_int, subD_int, intD_int, gx0, gx1, gx2, gs0, gs2, hx0, hx1, hx2, hs0, hs2, capN, Nat.zero_le, Nat.reduceLeDiff, Nat.reduceEqDiff, Nat.reduceLT, Bool.not_true, Bool.not_false, Bool.true_and, Bool.false_and, isiB, isRow, c1, c2, c1', c2']
                  · have c1' : ¬ (1 : Int) ≤ ms.length := by omega
                    simp [fC_ap, fVar_ap, fOp_ap, fB_ap, fAnd_ap, fOr_ap, fNot_ap, fAndV_ap, fOrV_ap, fNotV_ap, fIf_ap, fNil_ap, fCons_ap, fTup_ap, fLst_ap, fLstC_ap, fNoPart_ap, fPart_ap, fSl_ap, fNeg_ap, fCB_ap, fIsi_ap, fIsi2_ap, fNext_ap, fSeq_ap, fRet_ap, fRetF_ap, fgName_ap, fgNil_ap, fgCons_ap, fgTup_ap, fgSub_ap, fAsg_ap, fPar_ap, fPar3_ap, fDrop_ap, fApp_ap, fIfS_ap, fiSeq_ap, fiTup_ap, fiEnum_ap, fYes_ap, fCall_ap, fCall0_ap, fChain_ap, fBits_ap, fAddC_ap, fiAny_ap, Res.bind_ok, asB_ok, okO_some, bodyD, asB, iterOf, withLock_none, noErr_ok, wipeE, List.map_cons, List.map_nil, List.length_cons, List.length_nil, List.cons_append, List.nil_append, List.getElem?_cons_zero, List.getElem?_cons_succ, List.set_cons_zero, List.set_cons_succ, if_true, Bool.false_eq_true, if_false, Nat.reduceAdd, Nat.reduceSub, Nat.zero_add, List.replicate, tyD, atI_0, atI_1, lenD_lst, lenD_tup, ixD_tup, ixD_lst, eqD_int, eqD_str, neD_int, neD_str, leD_int, ltD_int, gtD_int, geD_int, addD_int, subD_int, intD_int, gx0, gx1, gx2, gs0, gs2, hx0, hx1, hx2, hs0, hs2, capN, Nat.zero_le, Nat.reduceLeDiff, Nat.reduceEqDiff, Nat.reduceLT, Bool.not_true, Bool.not_false, Bool.true_and, Bool.false_and, isiB, isRow, c1, c1']
              | _ => first | rfl | (exfalso; cases n <;> simp [fit] at h2)
            · cases y <;> simp [fC_ap, fVar_ap, fOp_ap, fB_ap, fAnd_ap, fOr_ap, fNot_ap, fAndV_ap, fOrV_ap, fNotV_ap, fIf_ap, fNil_ap, fCons_ap, fTup_ap, fLst_ap, fLstC_ap, fNoPart_ap, fPart_ap, fSl_ap, fNeg_ap, fCB_ap, fIsi_ap, fIsi2_ap, fNext_ap, fSeq_ap, fRet_ap, fRetF_ap, fgName_ap, fgNil_ap, fgCons_ap, fgTup_ap, fgSub_ap, fAsg_ap, fPar_ap, fPar3_ap, fDrop_ap, fApp_ap, fIfS_ap, fiSeq_ap, fiTup_ap, fiEnum_ap, fYes_ap, fCall_ap, fCall0_ap, fChain_ap, fBits_ap, fAddC_ap, fiAny_ap, Res.bind_ok, asB_ok, okO_some, bodyD, asB, iterOf, withLock_none, noErr_ok, wipeE, List.map_cons, List.map_nil, List.length_cons, List.length_nil, List.cons_append, List.nil_append, List.getElem?_cons_zero, List.getElem?_cons_succ, List.set_cons_zero, List.set_cons_succ, if_true, Bool.false_eq_true, if_false, Nat.reduceAdd, Nat.reduceSub, Nat.zero_add, List.replicate, tyD, atI_0, atI_1, lenD_lst, lenD_tup, ixD_tup, ixD_lst, eqD_int, eqD_str, neD_int, neD_str, leD_int, ltD_int, gtD_int, geD_int, addD_int, subD_int, intD_int, gx0, gx1, gx2, gs0, gs2, hx0, hx1, hx2, hs0, hs2, capN, Nat.zero_le, Nat.reduceLeDiff, Nat.reduceEqDiff, Nat.reduceLT, Bool.not_true, Bool.not_false, Bool.true_and, Bool.false_and, isRow, ew, isiB]
          | _ => first | rfl | (exfalso; cases n <;> simp [fit] at h1)
        | x :: y :: z :: r, _ =>
          have e : ¬ ((r.length : Int) + 1 + 1 + 1 = 2) := by omega
          simp [fC_ap, fVar_ap, fOp_ap, fB_ap, fAnd_ap, fOr_ap, fNot_ap, fAndV_ap, fOrV_ap, fNotV_ap, fIf_ap, fNil_ap, fCons_ap, fTup_ap, fLst_ap, fLstC_ap, fNoPart_ap, fPart_ap, fSl_ap, fNeg_ap, fCB_ap, fIsi_ap, fIsi2_ap, fNext_ap, fSeq_ap, fRet_ap, fRetF_ap, fgName_ap, fgNil_ap, fgCons_ap, fgTup_ap, fgSub_ap, fAsg_ap, fPar_ap, fPar3_ap, fDrop_ap, fApp_ap, fIfS_ap, fiSeq_ap, fiTup_ap, fiEnum_ap, fYes_ap, fCall_ap, fCall0_ap, fChain_ap, fBits_ap, fAddC_ap, fiAny_ap, Res.bind_ok, asB_ok, okO_some, bodyD, asB, iterOf, withLock_none, noErr_ok, wipeE, List.map_cons, List.map_nil, List.length_cons, List.length_nil, List.cons_append, List.nil_append, List.getElem?_cons_zero, List.getElem?_cons_succ, List.set_cons_zero, List.set_cons_succ, if_true, Bool.false_eq_true, if_false, Nat.reduceAdd, Nat.reduceSub, Nat.zero_add, List.replicate, tyD, atI_0, atI_1, lenD_lst, lenD_tup, ixD_tup, ixD_lst, eqD_int, eqD_str, neD_int, neD_str, leD_int, ltD_int, gtD_int, geD_int, addD_int, subD_int, intD_int, gx0, gx1, gx2, gs0, gs2, hx0, hx1, hx2, hs0, hs2, capN, Nat.zero_le, Nat.reduceLeDiff, Nat.reduceEqDiff, Nat.reduceLT, Bool.not_true, Bool.not_false, Bool.true_and, Bool.false_and, isRow, e, isiB]
    | _ => first | (exfalso; cases n <;> simp [fit] at h; done) | rfl
end
end K08

set_option maxHeartbeats 2000000
namespace K08
open PySem PySem.Spec PyProof.Rows L2 DL
def lowS : D → Bool
  | .tup [.int a, .int b] => decide (max a b ≤ 40)
  | _ => false
def isSpec (r : D → Bool) : D → Bool
  | .tup [sc, u] => isScore sc && lowS sc && r u
  | _ => false
def key1 : D → List Int
  | .tup [.tup [.int a, .int b], _] => [a, b]
  | _ => []
def rising (xs : List D) : Bool := (List.range (xs.length - 1)).all fun j => !geI (key1 (xs.getD j .non)) (key1 (xs.getD (j + 1) .non))
def fallsAt (xs : List D) : D → Bool
  | .int i => geI (key1 (xs.getD (i - 1).toNat .non)) (key1 (xs.getD i.toNat .non))
  | _ => false
def isSpecs (r : D → Bool) : D → Bool
  | .lst xs => decide (xs.length ≤ 8) && xs.all (isSpec r) && rising xs
  | _ => false
def isRace (r : D → Bool) : D → Bool
  | .tup [.str w, a, b, c, o, u, s] => decide (w = "race") && isNums a b c && isOrder o && (r u && isSpecs r s)
  | _ => false
def isRuleN : Nat → D → Bool
  | 0 => fun d => isWord "rally" d || isWord "hand" d
  | k + 1 => fun d => isWord "rally" d || isWord "hand" d || isRace (isRuleN k) d
section
variable {S : Sto} (hS : S.all coFree = true)
include hS
theorem score_cases {d : D} (h : isScore d = true) : ∃ a b : Int, d = .tup [.int a, .int b] := by
  unfold isScore at h
  split at h
  · rename_i x y
    rw [Bool.and_eq_true] at h
    cases x <;> simp [isCount] at h
    cases y <;> simp [isCount] at h
    exact ⟨_, _, rfl⟩
  · cases h
theorem special_ok {r : D → Bool} {f k : Nat} (H : ∀ {d : D} {n : Nat}, fit d n = true → n ≤ 60 → g_is_rule_within f [d, .int k] S = .ok (.bl (r d)) S) {d : D} {n : Nat} (h : fit d n = true) (hn : n ≤ 60) :
    g_is_special (f + 1) [d, .int k] S = .ok (.bl (isSpec r d)) S := by
  refine bodyT_ok ?_ hS rfl
  simp only [fC_ap, fVar_ap, fOp_ap, fB_ap, fAnd_ap, fOr_ap, fNot_ap, fAndV_ap, fOrV_ap, fNotV_ap, fIf_ap, fNil_ap, fCons_ap, fTup_ap, fLst_ap, fLstC_ap, fNoPart_ap, fPart_ap, fSl_ap, fNeg_ap, fCB_ap, fIsi_ap, fIsi2_ap, fNext_ap, fSeq_ap, fRet_ap, fRetF_ap, fgName_ap, fgNil_ap, fgCons_ap, fgTup_ap, fgSub_ap, fAsg_ap, fPar_ap, fPar3_ap, fDrop_ap, fApp_ap, fIfS_ap, fiSeq_ap, fiTup_ap, fiEnum_ap, fYes_ap, fCall_ap, fCall0_ap, fChain_ap, fBits_ap, fAddC_ap, fiAny_ap, Res.bind_ok, asB_ok, okO_some, bodyD, asB, iterOf, withLock_none, noErr_ok, wipeE, List.map_cons, List.map_nil, List.length_cons, List.length_nil, List.cons_append, List.nil_append, List.getElem?_cons_zero, List.getElem?_cons_succ, List.set_cons_zero, List.set_cons_succ, if_true, Bool.false_eq_true, if_false, Nat.reduceAdd, Nat.reduceSub, Nat.zero_add, List.replicate, tyD, atI_0, atI_1, lenD_lst, lenD_tup, ixD_tup, ixD_lst, eqD_int, eqD_str, neD_int, neD_str, leD_int, ltD_int, gtD_int, geD_int, addD_int, subD_int, intD_int, gx0, gx1, gx2, gs0, gs2, hx0, hx1, hx2, hs0, hs2, capN, Nat.zero_le, Nat.reduceLeDiff, Nat.reduceEqDiff, Nat.reduceLT, Bool.not_true, Bool.not_false, Bool.true_and, Bool.false_and, b_is_special]
  cases d with
  | tup xs =>
    cases n with
    | zero => simp [fit] at h
    | succ n =>
      match xs, h with
      | [], _ => rfl
      | [x], _ => cases x <;> rfl
      | [x, y], h =>
        simp only [fit, fits, Bool.and_eq_true] at h
        obtain ⟨h1, h2, -⟩ := h
        have e1 := is_score_ok hS h1
        have e2 := H h2 (by omega)
        cases q : isScore x with
        | false => simp [fC_ap, fVar_ap, fOp_ap, fB_ap, fAnd_ap, fOr_ap, fNot_ap, fAndV_ap, fOrV_ap, fNotV_ap, fIf_ap, fNil_ap, fCons_ap, fTup_ap, fLst_ap, fLstC_ap, fNoPart_ap, fPart_ap, fSl_ap, fNeg_ap, fCB_ap, fIsi_ap, fIsi2_ap, fNext_ap, fSeq_ap, fRet_ap, fRetF_ap, fgName_ap, fgNil_ap, fgCons_ap, fgTup_ap, fgSub_ap, fAsg_ap, fPar_ap, fPar3_ap, fDrop_ap, fApp_ap, fIfS_ap, fiSeq_ap, fiTup_ap, fiEnum_ap, fYes_ap, fCall_ap, fCall0_ap, fChain_ap, fBits_ap, fAddC_ap, fiAny_ap, Res.bind_ok, asB_ok, okO_some, bodyD, asB, iterOf, withLock_none, noErr_ok, wipeE, List.map_cons, List.map_nil, List.length_cons, List.length_nil, List.cons_append, List.nil_append, List.getElem?_cons_zero, List.getElem?_cons_succ, List.set_cons_zero, List.set_cons_succ, if_true, Bool.false_eq_true, if_false, Nat.reduceAdd, Nat.reduceSub, Nat.zero_add, List.replicate, tyD, atI_0, atI_1, lenD_lst, lenD_tup, ixD_tup, ixD_lst, eqD_int, eqD_str, neD_int, neD_str, leD_int, ltD_int, gtD_int, geD_int, addD_int, subD_int, intD_int, gx0, gx1, gx2, gs0, gs2, hx0, hx1, hx2, hs0, hs2, capN, Nat.zero_le, Nat.reduceLeDiff, Nat.reduceEqDiff, Nat.reduceLT, Bool.not_true, Bool.not_false, Bool.true_and, Bool.false_and, isiB, e1, q, isSpec]
        | true =>
          obtain ⟨a, b, rfl⟩ := score_cases hS q
          have e3 : maxT [.tup [.int a, .int b]] S = some (.int (max a b)) := rfl
          by_cases c : max a b ≤ 40
          · have c' : ¬ max a b > 40 := by omega
            simp [fC_ap, fVar_ap, fOp_ap, fB_ap, fAnd_ap, fOr_ap, fNot_ap, fAndV_ap, fOrV_ap, fNotV_ap, fIf_ap, fNil_ap, fCons_ap, fTup_ap, fLst_ap, fLstC_ap, fNoPart_ap, fPart_ap, fSl_ap, fNeg_ap, fCB_ap, fIsi_ap, fIsi2_ap, fNext_ap, fSeq_ap, fRet_ap, fRetF_ap, fgName_ap, fgNil_ap, fgCons_ap, fgTup_ap, fgSub_ap, fAsg_ap, fPar_ap, fPar3_ap, fDrop_ap, fApp_ap, fIfS_ap, fiSeq_ap, fiTup_ap, fiEnum_ap, fYes_ap, fCall_ap, fCall0_ap, fChain_ap, fBits_ap, fAddC_ap, fiAny_ap, Res.bind_ok, asB_ok, okO_some, bodyD, asB, iterOf, withLock_none, noErr_ok, wipeE, List.map_cons, List.map_nil, List.length_cons, List.length_nil, List.cons_append, List.nil_append, List.getElem?_cons_zero, List.getElem?_cons_succ, List.set_cons_zero, List.set_cons_succ, if_true, Bool.false_eq_true, if_false, Nat.reduceAdd, Nat.reduceSub, Nat.zero_add, List.replicate, tyD, atI_0, atI_1, lenD_lst, lenD_tup, ixD_tup, ixD_lst, eqD_int, eqD_str, neD_int, neD_str, leD_int, ltD_int, gtD_int, geD_int, addD_int, subD_int, intD_int, gx0, gx1, gx2, gs0, gs2, hx0, hx1, hx2, hs0, hs2, capN, Nat.zero_le, Nat.reduceLeDiff, Nat.reduceEqDiff, Nat.reduceLT, Bool.not_true, Bool.not_false, Bool.true_and, Bool.false_and, isiB, e1, q, isSpec, lowS, e3, c, c', e2]
          · have c' : max a b > 40 := by omega
            simp [fC_ap, fVar_ap, fOp_ap, fB_ap, fAnd_ap, fOr_ap, fNot_ap, fAndV_ap, fOrV_ap, fNotV_ap, fIf_ap, fNil_ap, fCons_ap, fTup_ap, fLst_ap, fLstC_ap, fNoPart_ap, fPart_ap, fSl_ap, fNeg_ap, fCB_ap, fIsi_ap, fIsi2_ap, fNext_ap, fSeq_ap, fRet_ap, fRetF_ap, fgName_ap, fgNil_ap, fgCons_ap, fgTup_ap, fgSub_ap, fAsg_ap, fPar_ap, fPar3_ap, fDrop_ap, fApp_ap, fIfS_ap, fiSeq_ap, fiTup_ap, fiEnum_ap, fYes_ap, fCall_ap, fCall0_ap, fChain_ap, fBits_ap, fAddC_ap, fiAny_ap, Res.bind_ok, asB_ok, okO_some, bodyD, asB, iterOf, withLock_none, noErr_ok, wipeE, List.map_cons, List.map_nil, List.length_cons, List.length_nil, List.cons_append, List.nil_append, List.getElem?_cons_zero, List.getElem?_cons_succ, List.set_cons_zero, List.set_cons_succ, if_true, Bool.false_eq_true, if_false, Nat.reduceAdd, Nat.reduceSub, Nat.zero_add, List.replicate, tyD, atI_0, atI_1, lenD_lst, lenD_tup, ixD_tup, ixD_lst, eqD_int, eqD_str, neD_int, neD_str, leD_int, ltD_int, gtD_int, geD_int, addD_int, subD_int, intD_int, gx0, gx1, gx2, gs0, gs2, hx0, hx1, hx2, hs0, hs2, capN, Nat.zero_le, Nat.reduceLeDiff, Nat.reduceEqDiff, Nat.reduceLT, Bool.not_true, Bool.not_false, Bool.true_and, Bool.false_and, isiB, e1, q, isSpec, lowS, e3, c, c', e2]
      | x :: y :: z :: r, _ =>
        have e : ¬ ((r.length : Int) + 1 + 1 + 1 = 2) := by omega
        simp [fC_ap, fVar_ap, fOp_ap, fB_ap, fAnd_ap, fOr_ap, fNot_ap, fAndV_ap, fOrV_ap, fNotV_ap, fIf_ap, fNil_ap, fCons_ap, fTup_ap, fLst_ap, fLstC_ap, fNoPart_ap, fPart_ap, fSl_ap, fNeg_ap, fCB_ap, fIsi_ap, fIsi2_ap, fNext_ap, fSeq_ap, fRet_ap, fRetF_ap, fgName_ap, fgNil_ap, fgCons_ap, fgTup_ap, fgSub_ap, fAsg_ap, fPar_ap, fPar3_ap, fDrop_ap, fApp_ap, fIfS_ap, fiSeq_ap, fiTup_ap, fiEnum_ap, fYes_ap, fCall_ap, fCall0_ap, fChain_ap, fBits_ap, fAddC_ap, fiAny_ap, Res.bind_ok, asB_ok, okO_some, bodyD, asB, iterOf, withLock_none, noErr_ok, wipeE, List.map_cons, List.map_nil, List.length_cons, List.length_nil, List.cons_append, List.nil_append, List.getElem?_cons_zero, List.getElem?_cons_succ, List.set_cons_zero, List.set_cons_succ, if_true, Bool.false_eq_true, if_false, Nat.reduceAdd, Nat.reduceSub, Nat.zero_add, List.replicate, tyD, atI_0, atI_1, lenD_lst, lenD_tup, ixD_tup, ixD_lst, eqD_int, eqD_str, neD_int, neD_str, leD_int, ltD_int, gtD_int, geD_int, addD_int, subD_int, intD_int, gx0, gx1, gx2, gs0, gs2, hx0, hx1, hx2, hs0, hs2, capN, Nat.zero_le, Nat.reduceLeDiff, Nat.reduceEqDiff, Nat.reduceLT, Bool.not_true, Bool.not_false, Bool.true_and, Bool.false_and, isSpec, e, isiB]
  | _ => first | (exfalso; cases n <;> simp [fit] at h; done) | rfl
theorem rangeD_len' {lo : Int} {n : Nat} : (rangeD lo n).length = n := rangeD_len
omit hS in
theorem falls_ok {xs : List D} {k : Nat} {ρ4 : Option D} (sp : ∀ m ∈ xs, ∃ (a b : Int) (u : D), m = .tup [.tup [.int a, .int b], u]) {j : Nat} (hj : j + 1 < xs.length) :
    fB (fOp geD (fOp ixD (fOp ixD (fVar 0) (fOp subD (fVar 3) (fC (.int 1)))) (fC (.int 0))) (fOp ixD (fOp ixD (fVar 0) (fVar 3)) (fC (.int 0)))) [some (.lst xs), some (.int k), ρ4, some (.int (1 + (j : Nat)))] S = .ok (fallsAt xs (.int (1 + (j : Nat)))) S := by
  have j1 : j < xs.length := by omega
  obtain ⟨a, b, u, e1⟩ := sp xs[j] (List.getElem_mem j1)
  obtain ⟨a', b', u', e2⟩ := sp xs[j + 1] (List.getElem_mem hj)
  have t1 : (1 + (j : Int) - 1).toNat = j := by omega
  have t2 : (1 + (j : Int)).toNat = j + 1 := by omega
  have k1 : key1 (xs.getD j .non) = [a, b] := by rw [List.getD_eq_getElem?_getD, List.getElem?_eq_getElem j1, Option.getD_some, e1]; rfl
  have k2 : key1 (xs.getD (j + 1) .non) = [a', b'] := by rw [List.getD_eq_getElem?_getD, List.getElem?_eq_getElem hj, Option.getD_some, e2]; rfl
  have fa : fallsAt xs (.int (1 + (j : Nat))) = geI [a, b] [a', b'] := by
    show geI (key1 (xs.getD (1 + (j : Int) - 1).toNat .non)) (key1 (xs.getD (1 + (j : Int)).toNat .non)) = _
    rw [t1, t2, k1, k2]
  have g1 : atI xs (1 + (j : Int) - 1) = some (.tup [.tup [.int a, .int b], u]) := by
    rw [show 1 + (j : Int) - 1 = (j : Nat) by omega]
    exact atI_at (by rw [List.getElem?_eq_getElem j1, e1])
  have g2 : atI xs (1 + (j : Int)) = some (.tup [.tup [.int a', .int b'], u']) := by
    rw [show 1 + (j : Int) = ((j + 1 : Nat) : Int) by omega]
    exact atI_at (by rw [List.getElem?_eq_getElem hj, e2])
  rw [fa]
  generalize hv : (1 + (j : Int)) = v at *
  have g3 : geD (.tup [.int a, .int b]) (.tup [.int a', .int b']) S = some (.bl (geI [a, b] [a', b'])) := rfl
  simp only [fC_ap, fVar_ap, fOp_ap, fB_ap, fAnd_ap, fOr_ap, fNot_ap, fAndV_ap, fOrV_ap, fNotV_ap, fIf_ap, fNil_ap, fCons_ap, fTup_ap, fLst_ap, fLstC_ap, fNoPart_ap, fPart_ap, fSl_ap, fNeg_ap, fCB_ap, fIsi_ap, fIsi2_ap, fNext_ap, fSeq_ap, fRet_ap, fRetF_ap, fgName_ap, fgNil_ap, fgCons_ap, fgTup_ap, fgSub_ap, fAsg_ap, fPar_ap, fPar3_ap, fDrop_ap, fApp_ap, fIfS_ap, fiSeq_ap, fiTup_ap, fiEnum_ap, fYes_ap, fCall_ap, fCall0_ap, fChain_ap, fBits_ap, fAddC_ap, fiAny_ap, Res.bind_ok, asB_ok, okO_some, bodyD, asB, iterOf, withLock_none, noErr_ok, wipeE, List.map_cons, List.map_nil, List.length_cons, List.length_nil, List.cons_append, List.nil_append, List.getElem?_cons_zero, List.getElem?_cons_succ, List.set_cons_zero, List.set_cons_succ, if_true, Bool.false_eq_true, if_false, Nat.reduceAdd, Nat.reduceSub, Nat.zero_add, List.replicate, tyD, atI_0, atI_1, lenD_lst, lenD_tup, ixD_tup, ixD_lst, eqD_int, eqD_str, neD_int, neD_str, leD_int, ltD_int, gtD_int, geD_int, addD_int, subD_int, intD_int, gx0, gx1, gx2, gs0, gs2, hx0, hx1, hx2, hs0, hs2, capN, Nat.zero_le, Nat.reduceLeDiff, Nat.reduceEqDiff, Nat.reduceLT, Bool.not_true, Bool.not_false, Bool.true_and, Bool.false_and, g1, g2, g3]
omit hS in
theorem walk_specs (xs : List D) (k : Nat) (c : xs.length ≤ 8) : fiRng2 (fCons (fC (.int 1)) (fCons (fCB lenD (fCons (fVar 0) fNil)) fNil)) [some (.lst xs), some (.int k), none, none] S = .ok ⟨rangeD 1 (xs.length - 1), none⟩ S := by
  have s1 : smallI (xs.length : Int) = true := smallI_nat (by omega)
  have s2 : (fCons (fC (.int 1)) (fCons (fCB lenD (fCons (fVar 0) fNil)) fNil)) [some (.lst xs), some (.int k), none, none] S = .ok [.int 1, .int xs.length] S := by
    simp only [fC_ap, fVar_ap, fOp_ap, fB_ap, fAnd_ap, fOr_ap, fNot_ap, fAndV_ap, fOrV_ap, fNotV_ap, fIf_ap, fNil_ap, fCons_ap, fTup_ap, fLst_ap, fLstC_ap, fNoPart_ap, fPart_ap, fSl_ap, fNeg_ap, fCB_ap, fIsi_ap, fIsi2_ap, fNext_ap, fSeq_ap, fRet_ap, fRetF_ap, fgName_ap, fgNil_ap, fgCons_ap, fgTup_ap, fgSub_ap, fAsg_ap, fPar_ap, fPar3_ap, fDrop_ap, fApp_ap, fIfS_ap, fiSeq_ap, fiTup_ap, fiEnum_ap, fYes_ap, fCall_ap, fCall0_ap, fChain_ap, fBits_ap, fAddC_ap, fiAny_ap, Res.bind_ok, asB_ok, okO_some, bodyD, asB, iterOf, withLock_none, noErr_ok, wipeE, List.map_cons, List.map_nil, List.length_cons, List.length_nil, List.cons_append, List.nil_append, List.getElem?_cons_zero, List.getElem?_cons_succ, List.set_cons_zero, List.set_cons_succ, if_true, Bool.false_eq_true, if_false, Nat.reduceAdd, Nat.reduceSub, Nat.zero_add, List.replicate, tyD, atI_0, atI_1, lenD_lst, lenD_tup, ixD_tup, ixD_lst, eqD_int, eqD_str, neD_int, neD_str, leD_int, ltD_int, gtD_int, geD_int, addD_int, subD_int, intD_int, gx0, gx1, gx2, gs0, gs2, hx0, hx1, hx2, hs0, hs2, capN, Nat.zero_le, Nat.reduceLeDiff, Nat.reduceEqDiff, Nat.reduceLT, Bool.not_true, Bool.not_false, Bool.true_and, Bool.false_and]
  have s3 : ((xs.length : Int) - 1).toNat = xs.length - 1 := by omega
  rw [← s3]
  exact fiRng2_ok s2 smallI_one s1
theorem specs_ok {r : D → Bool} {f k : Nat} (H : ∀ {d : D} {n : Nat}, fit d n = true → n ≤ 60 → g_is_special f [d, .int k] S = .ok (.bl (isSpec r d)) S) {d : D} {n : Nat} (h : fit d n = true) (hn : n ≤ 60) :
    g_are_specials (f + 1) [d, .int k] S = .ok (.bl (isSpecs r d)) S := by
  refine bodyT_ok ?_ hS rfl
  simp only [fC_ap, fVar_ap, fOp_ap, fB_ap, fAnd_ap, fOr_ap, fNot_ap, fAndV_ap, fOrV_ap, fNotV_ap, fIf_ap, fNil_ap, fCons_ap, fTup_ap, fLst_ap, fLstC_ap, fNoPart_ap, fPart_ap, fSl_ap, fNeg_ap, fCB_ap, fIsi_ap, fIsi2_ap, fNext_ap, fSeq_ap, fRet_ap, fRetF_ap, fgName_ap, fgNil_ap, fgCons_ap, fgTup_ap, fgSub_ap, fAsg_ap, fPar_ap, fPar3_ap, fDrop_ap, fApp_ap, fIfS_ap, fiSeq_ap, fiTup_ap, fiEnum_ap, fYes_ap, fCall_ap, fCall0_ap, fChain_ap, fBits_ap, fAddC_ap, fiAny_ap, Res.bind_ok, asB_ok, okO_some, bodyD, asB, iterOf, withLock_none, noErr_ok, wipeE, List.map_cons, List.map_nil, List.length_cons, List.length_nil, List.cons_append, List.nil_append, List.getElem?_cons_zero, List.getElem?_cons_succ, List.set_cons_zero, List.set_cons_succ, if_true, Bool.false_eq_true, if_false, Nat.reduceAdd, Nat.reduceSub, Nat.zero_add, List.replicate, tyD, atI_0, atI_1, lenD_lst, lenD_tup, ixD_tup, ixD_lst, eqD_int, eqD_str, neD_int, neD_str, leD_int, ltD_int, gtD_int, geD_int, addD_int, subD_int, intD_int, gx0, gx1, gx2, gs0, gs2, hx0, hx1, hx2, hs0, hs2, capN, Nat.zero_le, Nat.reduceLeDiff, Nat.reduceEqDiff, Nat.reduceLT, Bool.not_true, Bool.not_false, Bool.true_and, Bool.false_and, b_are_specials]
  cases d with
  | lst xs =>
    cases n with
    | zero => simp [fit] at h
    | succ n =>
      simp only [fit] at h
      by_cases c : xs.length ≤ 8
      · have c' : ¬ (xs.length : Int) > 8 := by omega
        have l1 := fLc_pure (vs := [2]) (fi := fiAny (fVar 0)) (g := fgName 2) (c := fNot (fB (fCall 2 (g_is_special f) (fCons (fVar 2) (fCons (fVar 1) fNil))))) (el := fVar 2) (ρ := [some (.lst xs), some (.int k), none, none]) (S := S) (xs := xs)
          (fun m => !isSpec r m) id (by simp only [fC_ap, fVar_ap, fOp_ap, fB_ap, fAnd_ap, fOr_ap, fNot_ap, fAndV_ap, fOrV_ap, fNotV_ap, fIf_ap, fNil_ap, fCons_ap, fTup_ap, fLst_ap, fLstC_ap, fNoPart_ap, fPart_ap, fSl_ap, fNeg_ap, fCB_ap, fIsi_ap, fIsi2_ap, fNext_ap, fSeq_ap, fRet_ap, fRetF_ap, fgName_ap, fgNil_ap, fgCons_ap, fgTup_ap, fgSub_ap, fAsg_ap, fPar_ap, fPar3_ap, fDrop_ap, fApp_ap, fIfS_ap, fiSeq_ap, fiTup_ap, fiEnum_ap, fYes_ap, fCall_ap, fCall0_ap, fChain_ap, fBits_ap, fAddC_ap, fiAny_ap, Res.bind_ok, asB_ok, okO_some, bodyD, asB, iterOf, withLock_none, noErr_ok, wipeE, List.map_cons, List.map_nil, List.length_cons, List.length_nil, List.cons_append, List.nil_append, List.getElem?_cons_zero, List.getElem?_cons_succ, List.set_cons_zero, List.set_cons_succ, if_true, Bool.false_eq_true, if_false, Nat.reduceAdd, Nat.reduceSub, Nat.zero_add, List.replicate, tyD, atI_0, atI_1, lenD_lst, lenD_tup, ixD_tup, ixD_lst, eqD_int, eqD_str, neD_int, neD_str, leD_int, ltD_int, gtD_int, geD_int, addD_int, subD_int, intD_int, gx0, gx1, gx2, gs0, gs2, hx0, hx1, hx2, hs0, hs2, capN, Nat.zero_le, Nat.reduceLeDiff, Nat.reduceEqDiff, Nat.reduceLT, Bool.not_true, Bool.not_false, Bool.true_and, Bool.false_and]) (capN_of (by omega)) (fun m hm => by
            refine ⟨[some (.lst xs), some (.int k), some m, none], rfl, ?_, fun _ => rfl⟩
            simp only [fC_ap, fVar_ap, fOp_ap, fB_ap, fAnd_ap, fOr_ap, fNot_ap, fAndV_ap, fOrV_ap, fNotV_ap, fIf_ap, fNil_ap, fCons_ap, fTup_ap, fLst_ap, fLstC_ap, fNoPart_ap, fPart_ap, fSl_ap, fNeg_ap, fCB_ap, fIsi_ap, fIsi2_ap, fNext_ap, fSeq_ap, fRet_ap, fRetF_ap, fgName_ap, fgNil_ap, fgCons_ap, fgTup_ap, fgSub_ap, fAsg_ap, fPar_ap, fPar3_ap, fDrop_ap, fApp_ap, fIfS_ap, fiSeq_ap, fiTup_ap, fiEnum_ap, fYes_ap, fCall_ap, fCall0_ap, fChain_ap, fBits_ap, fAddC_ap, fiAny_ap, Res.bind_ok, asB_ok, okO_some, bodyD, asB, iterOf, withLock_none, noErr_ok, wipeE, List.map_cons, List.map_nil, List.length_cons, List.length_nil, List.cons_append, List.nil_append, List.getElem?_cons_zero, List.getElem?_cons_succ, List.set_cons_zero, List.set_cons_succ, if_true, Bool.false_eq_true, if_false, Nat.reduceAdd, Nat.reduceSub, Nat.zero_add, List.replicate, tyD, atI_0, atI_1, lenD_lst, lenD_tup, ixD_tup, ixD_lst, eqD_int, eqD_str, neD_int, neD_str, leD_int, ltD_int, gtD_int, geD_int, addD_int, subD_int, intD_int, gx0, gx1, gx2, gs0, gs2, hx0, hx1, hx2, hs0, hs2, capN, Nat.zero_le, Nat.reduceLeDiff, Nat.reduceEqDiff, Nat.reduceLT, Bool.not_true, Bool.not_false, Bool.true_and, Bool.false_and, H (fits_mem h hm) (by omega)])
        rw [List.map_id] at l1
        have l2 := neD_nil (S := S) (fits_filter (fun m => !isSpec r m) h) (by omega)
        rw [isEmpty_filter] at l2
        simp only [Bool.not_not] at l2
        cases q : xs.all (isSpec r) with
        | false => simp [fC_ap, fVar_ap, fOp_ap, fB_ap, fAnd_ap, fOr_ap, fNot_ap, fAndV_ap, fOrV_ap, fNotV_ap, fIf_ap, fNil_ap, fCons_ap, fTup_ap, fLst_ap, fLstC_ap, fNoPart_ap, fPart_ap, fSl_ap, fNeg_ap, fCB_ap, fIsi_ap, fIsi2_ap, fNext_ap, fSeq_ap, fRet_ap, fRetF_ap, fgName_ap, fgNil_ap, fgCons_ap, fgTup_ap, fgSub_ap, fAsg_ap, fPar_ap, fPar3_ap, fDrop_ap, fApp_ap, fIfS_ap, fiSeq_ap, fiTup_ap, fiEnum_ap, fYes_ap, fCall_ap, fCall0_ap, fChain_ap, fBits_ap, fAddC_ap, fiAny_ap, Res.bind_ok, asB_ok, okO_some, bodyD, asB, iterOf, withLock_none, noErr_ok, wipeE, List.map_cons, List.map_nil, List.length_cons, List.length_nil, List.cons_append, List.nil_append, List.getElem?_cons_zero, List.getElem?_cons_succ, List.set_cons_zero, List.set_cons_succ, if_true, Bool.false_eq_true, if_false, Nat.reduceAdd, Nat.reduceSub, Nat.zero_add, List.replicate, tyD, atI_0, atI_1, lenD_lst, lenD_tup, ixD_tup, ixD_lst, eqD_int, eqD_str, neD_int, neD_str, leD_int, ltD_int, gtD_int, geD_int, addD_int, subD_int, intD_int, gx0, gx1, gx2, gs0, gs2, hx0, hx1, hx2, hs0, hs2, capN, Nat.zero_le, Nat.reduceLeDiff, Nat.reduceEqDiff, Nat.reduceLT, Bool.not_true, Bool.not_false, Bool.true_and, Bool.false_and, isiB, c', l1, l2, q, isSpecs]
        | true =>
          have sp : ∀ m ∈ xs, ∃ (a b : Int) (u : D), m = .tup [.tup [.int a, .int b], u] := fun m hm => by
            have := List.all_eq_true.mp q m hm
            unfold isSpec at this
            split at this
            · simp only [Bool.and_eq_true] at this
              obtain ⟨a, b, rfl⟩ := score_cases hS this.1.1
              exact ⟨a, b, _, rfl⟩
            · cases this
          have l3 := fLc_pure (vs := [3]) (fi := fiRng2 (fCons (fC (.int 1)) (fCons (fCB lenD (fCons (fVar 0) fNil)) fNil))) (g := fgName 3)
            (c := fB (fOp geD (fOp ixD (fOp ixD (fVar 0) (fOp subD (fVar 3) (fC (.int 1)))) (fC (.int 0))) (fOp ixD (fOp ixD (fVar 0) (fVar 3)) (fC (.int 0))))) (el := fVar 3) (ρ := [some (.lst xs), some (.int k), none, none]) (S := S) (xs := rangeD 1 (xs.length - 1))
            (fallsAt xs) id (walk_specs xs k c) (by rw [rangeD_len]; exact capN_of (by omega)) (fun m hm => by
                obtain ⟨j, hj, rfl⟩ : ∃ j, j < xs.length - 1 ∧ m = .int (1 + (j : Nat)) := by
                  unfold rangeD at hm
                  obtain ⟨j, hj, rfl⟩ := List.mem_map.mp hm
                  exact ⟨j, List.mem_range.mp hj, rfl⟩
                exact ⟨[some (.lst xs), some (.int k), none, some (.int (1 + (j : Nat)))], rfl, falls_ok sp (by omega), fun _ => rfl⟩)
          rw [List.map_id] at l3
          have fr : fits (rangeD 1 (xs.length - 1)) 0 = true := by
            rw [fits_all, List.all_eq_true]
            intro m hm
            unfold rangeD at hm
            obtain ⟨j, hj, rfl⟩ := List.mem_map.mp hm
            rfl
          have l4 := eqD_nil (S := S) (fits_filter (fallsAt xs) fr) (by omega)
          rw [isEmpty_filter] at l4
          have l5 : ((rangeD 1 (xs.length - 1)).all fun m => !fallsAt xs m) = rising xs := by
            unfold rising rangeD
            rw [List.all_map]
            refine congrArg _ (funext fun j => ?_)
            simp only [Function.comp, fallsAt]
            rw [show (1 + (j : Int) - 1).toNat = j by omega, show (1 + (j : Int)).toNat = j + 1 by omega]
          rw [l5] at l4
          have z : isSpecs r (.lst xs) = rising xs := by
            show (decide (xs.length ≤ 8) && xs.all (isSpec r) && rising xs) = rising xs
            rw [decide_eq_true c, q]
            rfl
          have q' : (xs.all fun x => isSpec r x) = true := q
          have c2 : decide ((xs.length : Int) > 8) = false := decide_eq_false c'
          have ti : isiB "list" "list" = true := by decide
          rw [z]
          simp only [fC_ap, fVar_ap, fOp_ap, fB_ap, fAnd_ap, fOr_ap, fNot_ap, fAndV_ap, fOrV_ap, fNotV_ap, fIf_ap, fNil_ap, fCons_ap, fTup_ap, fLst_ap, fLstC_ap, fNoPart_ap, fPart_ap, fSl_ap, fNeg_ap, fCB_ap, fIsi_ap, fIsi2_ap, fNext_ap, fSeq_ap, fRet_ap, fRetF_ap, fgName_ap, fgNil_ap, fgCons_ap, fgTup_ap, fgSub_ap, fAsg_ap, fPar_ap, fPar3_ap, fDrop_ap, fApp_ap, fIfS_ap, fiSeq_ap, fiTup_ap, fiEnum_ap, fYes_ap, fCall_ap, fCall0_ap, fChain_ap, fBits_ap, fAddC_ap, fiAny_ap, Res.bind_ok, asB_ok, okO_some, bodyD, asB, iterOf, withLock_none, noErr_ok, wipeE, List.map_cons, List.map_nil, List.length_cons, List.length_nil, List.cons_append, List.nil_append, List.getElem?_cons_zero, List.getElem?_cons_succ, List.set_cons_zero, List.set_cons_succ, if_true, Bool.false_eq_true, if_false, Nat.reduceAdd, Nat.reduceSub, Nat.zero_add, List.replicate, tyD, atI_0, atI_1, lenD_lst, lenD_tup, ixD_tup, ixD_lst, eqD_int, eqD_str, neD_int, neD_str, leD_int, ltD_int, gtD_int, geD_int, addD_int, subD_int, intD_int, gx0, gx1, gx2, gs0, gs2, hx0, hx1, hx2, hs0, hs2, capN, Nat.zero_le, Nat.reduceLeDiff, Nat.reduceEqDiff, Nat.reduceLT, Bool.not_true, Bool.not_false, Bool.true_and, Bool.false_and, ti, c2, l1, l2, q', l3, l4]
      · have c' : (xs.length : Int) > 8 := by omega
        simp [fC_ap, fVar_ap, fOp_ap, fB_ap, fAnd_ap, fOr_ap, fNot_ap, fAndV_ap, fOrV_ap, fNotV_ap, fIf_ap, fNil_ap, fCons_ap, fTup_ap, fLst_ap, fLstC_ap, fNoPart_ap, fPart_ap, fSl_ap, fNeg_ap, fCB_ap, fIsi_ap, fIsi2_ap, fNext_ap, fSeq_ap, fRet_ap, fRetF_ap, fgName_ap, fgNil_ap, fgCons_ap, fgTup_ap, fgSub_ap, fAsg_ap, fPar_ap, fPar3_ap, fDrop_ap, fApp_ap, fIfS_ap, fiSeq_ap, fiTup_ap, fiEnum_ap, fYes_ap, fCall_ap, fCall0_ap, fChain_ap, fBits_ap, fAddC_ap, fiAny_ap, Res.bind_ok, asB_ok, okO_some, bodyD, asB, iterOf, withLock_none, noErr_ok, wipeE, List.map_cons, List.map_nil, List.length_cons, List.length_nil, List.cons_append, List.nil_append, List.getElem?_cons_zero, List.getElem?_cons_succ, List.set_cons_zero, List.set_cons_succ, if_true, Bool.false_eq_true, if_false, Nat.reduceAdd, Nat.reduceSub, Nat.zero_add, List.replicate, tyD, atI_0, atI_1, lenD_lst, lenD_tup, ixD_tup, ixD_lst, eqD_int, eqD_str, neD_int, neD_str, leD_int, ltD_int, gtD_int, geD_int, addD_int, subD_int, intD_int, gx0, gx1, gx2, gs0, gs2, hx0, hx1, hx2, hs0, hs2, capN, Nat.zero_le, Nat.reduceLeDiff, Nat.reduceEqDiff, Nat.reduceLT, Bool.not_true, Bool.not_false, Bool.true_and, Bool.false_and, isiB, c, c', isSpecs]
  | _ => first | (exfalso; cases n <;> simp [fit] at h; done) | rfl
theorem rule_ok : ∀ (k f : Nat), 3 * k + 1 ≤ f → ∀ {d : D} {n : Nat}, fit d n = true → n ≤ 60 → g_is_rule_within f [d, .int k] S = .ok (.bl (isRuleN k d)) S := by
  intro k
  induction k with
  | zero =>
    intro f hf d n h hn
    obtain ⟨f, rfl⟩ : ∃ f', f = f' + 1 := ⟨f - 1, by omega⟩
    refine bodyT_ok ?_ hS rfl
    have e1 := is_word_ok (w := "rally") hS h
    have e2 := is_word_ok (w := "hand") hS h
    cases q1 : isWord "rally" d with
    | true => simp [fC_ap, fVar_ap, fOp_ap, fB_ap, fAnd_ap, fOr_ap, fNot_ap, fAndV_ap, fOrV_ap, fNotV_ap, fIf_ap, fNil_ap, fCons_ap, fTup_ap, fLst_ap, fLstC_ap, fNoPart_ap, fPart_ap, fSl_ap, fNeg_ap, fCB_ap, fIsi_ap, fIsi2_ap, fNext_ap, fSeq_ap, fRet_ap, fRetF_ap, fgName_ap, fgNil_ap, fgCons_ap, fgTup_ap, fgSub_ap, fAsg_ap, fPar_ap, fPar3_ap, fDrop_ap, fApp_ap, fIfS_ap, fiSeq_ap, fiTup_ap, fiEnum_ap, fYes_ap, fCall_ap, fCall0_ap, fChain_ap, fBits_ap, fAddC_ap, fiAny_ap, Res.bind_ok, asB_ok, okO_some, bodyD, asB, iterOf, withLock_none, noErr_ok, wipeE, List.map_cons, List.map_nil, List.length_cons, List.length_nil, List.cons_append, List.nil_append, List.getElem?_cons_zero, List.getElem?_cons_succ, List.set_cons_zero, List.set_cons_succ, if_true, Bool.false_eq_true, if_false, Nat.reduceAdd, Nat.reduceSub, Nat.zero_add, List.replicate, tyD, atI_0, atI_1, lenD_lst, lenD_tup, ixD_tup, ixD_lst, eqD_int, eqD_str, neD_int, neD_str, leD_int, ltD_int, gtD_int, geD_int, addD_int, subD_int, intD_int, gx0, gx1, gx2, gs0, gs2, hx0, hx1, hx2, hs0, hs2, capN, Nat.zero_le, Nat.reduceLeDiff, Nat.reduceEqDiff, Nat.reduceLT, Bool.not_true, Bool.not_false, Bool.true_and, Bool.false_and, b_is_rule_within, e1, q1, isRuleN]
    | false =>
      cases q2 : isWord "hand" d with
      | true => simp [fC_ap, fVar_ap, fOp_ap, fB_ap, fAnd_ap, fOr_ap, fNot_ap, fAndV_ap, fOrV_ap, fNotV_ap, fIf_ap, fNil_ap, fCons_ap, fTup_ap, fLst_ap, fLstC_ap, fNoPart_ap, fPart_ap, fSl_ap, fNeg_ap, fCB_ap, fIsi_ap, fIsi2_ap, fNext_ap, fSeq_ap, fRet_ap, fRetF_ap, fgName_ap, fgNil_ap, fgCons_ap, fgTup_ap, fgSub_ap, fAsg_ap, fPar_ap, fPar3_ap, fDrop_ap, fApp_ap, fIfS_ap, fiSeq_ap, fiTup_ap, fiEnum_ap, fYes_ap, fCall_ap, fCall0_ap, fChain_ap, fBits_ap, fAddC_ap, fiAny_ap, Res.bind_ok, asB_ok, okO_some, bodyD, asB, iterOf, withLock_none, noErr_ok, wipeE, List.map_cons, List.map_nil, List.length_cons, List.length_nil, List.cons_append, List.nil_append, List.getElem?_cons_zero, List.getElem?_cons_succ, List.set_cons_zero, List.set_cons_succ, if_true, Bool.false_eq_true, if_false, Nat.reduceAdd, Nat.reduceSub, Nat.zero_add, List.replicate, tyD, atI_0, atI_1, lenD_lst, lenD_tup, ixD_tup, ixD_lst, eqD_int, eqD_str, neD_int, neD_str, leD_int, ltD_int, gtD_int, geD_int, addD_int, subD_int, intD_int, gx0, gx1, gx2, gs0, gs2, hx0, hx1, hx2, hs0, hs2, capN, Nat.zero_le, Nat.reduceLeDiff, Nat.reduceEqDiff, Nat.reduceLT, Bool.not_true, Bool.not_false, Bool.true_and, Bool.false_and, b_is_rule_within, e1, e2, q1, q2, isRuleN]
      | false => simp [fC_ap, fVar_ap, fOp_ap, fB_ap, fAnd_ap, fOr_ap, fNot_ap, fAndV_ap, fOrV_ap, fNotV_ap, fIf_ap, fNil_ap, fCons_ap, fTup_ap, fLst_ap, fLstC_ap, fNoPart_ap, fPart_ap, fSl_ap, fNeg_ap, fCB_ap, fIsi_ap, fIsi2_ap, fNext_ap, fSeq_ap, fRet_ap, fRetF_ap, fgName_ap, fgNil_ap, fgCons_ap, fgTup_ap, fgSub_ap, fAsg_ap, fPar_ap, fPar3_ap, fDrop_ap, fApp_ap, fIfS_ap, fiSeq_ap, fiTup_ap, fiEnum_ap, fYes_ap, fCall_ap, fCall0_ap, fChain_ap, fBits_ap, fAddC_ap, fiAny_ap, Res.bind_ok, asB_ok, okO_some, bodyD, asB, iterOf, withLock_none, noErr_ok, wipeE, List.map_cons, List.map_nil, List.length_cons, List.length_nil, List.cons_append, List.nil_append, List.getElem?_cons_zero, List.getElem?_cons_succ, List.set_cons_zero, List.set_cons_succ, if_true, Bool.false_eq_true, if_false, Nat.reduceAdd, Nat.reduceSub, Nat.zero_add, List.replicate, tyD, atI_0, atI_1, lenD_lst, lenD_tup, ixD_tup, ixD_lst, eqD_int, eqD_str, neD_int, neD_str, leD_int, ltD_int, gtD_int, geD_int, addD_int, subD_int, intD_int, gx0, gx1, gx2, gs0, gs2, hx0, hx1, hx2, hs0, hs2, capN, Nat.zero_le, Nat.reduceLeDiff, Nat.reduceEqDiff, Nat.reduceLT, Bool.not_true, Bool.not_false, Bool.true_and, Bool.false_and, b_is_rule_within, e1, e2, q1, q2, isRuleN]
  | succ k ih =>
    intro f hf d n h hn
    obtain ⟨f, rfl⟩ : ∃ f', f = f' + 1 + 1 + 1 := ⟨f - 3, by omega⟩
    refine bodyT_ok ?_ hS rfl
    have e1 := is_word_ok (w := "rally") hS h
    have e2 := is_word_ok (w := "hand") hS h
    have hk : ¬ ((k : Int) + 1 = 0) := by omega
    cases q1 : isWord "rally" d with
    | true => simp [fC_ap, fVar_ap, fOp_ap, fB_ap, fAnd_ap, fOr_ap, fNot_ap, fAndV_ap, fOrV_ap, fNotV_ap, fIf_ap, fNil_ap, fCons_ap, fTup_ap, fLst_ap, fLstC_ap, fNoPart_ap, fPart_ap, fSl_ap, fNeg_ap, fCB_ap, fIsi_ap, fIsi2_ap, fNext_ap, fSeq_ap, fRet_ap, fRetF_ap, fgName_ap, fgNil_ap, fgCons_ap, fgTup_ap, fgSub_ap, fAsg_ap, fPar_ap, fPar3_ap, fDrop_ap, fApp_ap, fIfS_ap, fiSeq_ap, fiTup_ap, fiEnum_ap, fYes_ap, fCall_ap, fCall0_ap, fChain_ap, fBits_ap, fAddC_ap, fiAny_ap, Res.bind_ok, asB_ok, okO_some, bodyD, asB, iterOf, withLock_none, noErr_ok, wipeE, List.map_cons, List.map_nil, List.length_cons, List.length_nil, List.cons_append, List.nil_append, List.getElem?_cons_zero, List.getElem?_cons_succ, List.set_cons_zero, List.set_cons_succ, if_true, Bool.false_eq_true, if_false, Nat.reduceAdd, Nat.reduceSub, Nat.zero_add, List.replicate, tyD, atI_0, atI_1, lenD_lst, lenD_tup, ixD_tup, ixD_lst, eqD_int, eqD_str, neD_int, neD_str, leD_int, ltD_int, gtD_int, geD_int, addD_int, subD_int, intD_int, gx0, gx1, gx2, gs0, gs2, hx0, hx1, hx2, hs0, hs2, capN, Nat.zero_le, Nat.reduceLeDiff, Nat.reduceEqDiff, Nat.reduceLT, Bool.not_true, Bool.not_false, Bool.true_and, Bool.false_and, b_is_rule_within, e1, q1, isRuleN]
    | false =>
      cases q2 : isWord "hand" d with
      | true => simp [fC_ap, fVar_ap, fOp_ap, fB_ap, fAnd_ap, fOr_ap, fNot_ap, fAndV_ap, fOrV_ap, fNotV_ap, fIf_ap, fNil_ap, fCons_ap, fTup_ap, fLst_ap, fLstC_ap, fNoPart_ap, fPart_ap, fSl_ap, fNeg_ap, fCB_ap, fIsi_ap, fIsi2_ap, fNext_ap, fSeq_ap, fRet_ap, fRetF_ap, fgName_ap, fgNil_ap, fgCons_ap, fgTup_ap, fgSub_ap, fAsg_ap, fPar_ap, fPar3_ap, fDrop_ap, fApp_ap, fIfS_ap, fiSeq_ap, fiTup_ap, fiEnum_ap, fYes_ap, fCall_ap, fCall0_ap, fChain_ap, fBits_ap, fAddC_ap, fiAny_ap, Res.bind_ok, asB_ok, okO_some, bodyD, asB, iterOf, withLock_none, noErr_ok, wipeE, List.map_cons, List.map_nil, List.length_cons, List.length_nil, List.cons_append, List.nil_append, List.getElem?_cons_zero, List.getElem?_cons_succ, List.set_cons_zero, List.set_cons_succ, if_true, Bool.false_eq_true, if_false, Nat.reduceAdd, Nat.reduceSub, Nat.zero_add, List.replicate, tyD, atI_0, atI_1, lenD_lst, lenD_tup, ixD_tup, ixD_lst, eqD_int, eqD_str, neD_int, neD_str, leD_int, ltD_int, gtD_int, geD_int, addD_int, subD_int, intD_int, gx0, gx1, gx2, gs0, gs2, hx0, hx1, hx2, hs0, hs2, capN, Nat.zero_le, Nat.reduceLeDiff, Nat.reduceEqDiff, Nat.reduceLT, Bool.not_true, Bool.not_false, Bool.true_and, Bool.false_and, b_is_rule_within, e1, e2, q1, q2, isRuleN]
      | false =>
        have er : isRuleN (k + 1) d = isRace (isRuleN k) d := by simp only [isRuleN, q1, q2, Bool.false_or]
        rw [er]
        simp only [fC_ap, fVar_ap, fOp_ap, fB_ap, fAnd_ap, fOr_ap, fNot_ap, fAndV_ap, fOrV_ap, fNotV_ap, fIf_ap, fNil_ap, fCons_ap, fTup_ap, fLst_ap, fLstC_ap, fNoPart_ap, fPart_ap, fSl_ap, fNeg_ap, fCB_ap, fIsi_ap, fIsi2_ap, fNext_ap, fSeq_ap, fRet_ap, fRetF_ap, fgName_ap, fgNil_ap, fgCons_ap, fgTup_ap, fgSub_ap, fAsg_ap, fPar_ap, fPar3_ap, fDrop_ap, fApp_ap, fIfS_ap, fiSeq_ap, fiTup_ap, fiEnum_ap, fYes_ap, fCall_ap, fCall0_ap, fChain_ap, fBits_ap, fAddC_ap, fiAny_ap, Res.bind_ok, asB_ok, okO_some, bodyD, asB, iterOf, withLock_none, noErr_ok, wipeE, List.map_cons, List.map_nil, List.length_cons, List.length_nil, List.cons_append, List.nil_append, List.getElem?_cons_zero, List.getElem?_cons_succ, List.set_cons_zero, List.set_cons_succ, if_true, Bool.false_eq_true, if_false, Nat.reduceAdd, Nat.reduceSub, Nat.zero_add, List.replicate, tyD, atI_0, atI_1, lenD_lst, lenD_tup, ixD_tup, ixD_lst, eqD_int, eqD_str, neD_int, neD_str, leD_int, ltD_int, gtD_int, geD_int, addD_int, subD_int, intD_int, gx0, gx1, gx2, gs0, gs2, hx0, hx1, hx2, hs0, hs2, capN, Nat.zero_le, Nat.reduceLeDiff, Nat.reduceEqDiff, Nat.reduceLT, Bool.not_true, Bool.not_false, Bool.true_and, Bool.false_and, b_is_rule_within, e1, e2, q1, q2]
        clear e1 e2 q1 q2 er
        cases d with
        | tup xs =>
          cases n with
          | zero => simp [fit] at h
          | succ n =>
            simp only [fit] at h
            by_cases hl : xs.length = 7
            · match xs, hl, h with
              | [x1, x2, x3, x4, x5, x6, x7], _, h =>
                simp only [fits, Bool.and_eq_true] at h
                obtain ⟨h1, h2, h3, h4, h5, h6, h7, -⟩ := h
                cases x1 with
                | str w =>
                  have a1 := are_numbers_ok hS h2 h3 h4
                  have a2 := is_order_ok hS h5 (by omega)
                  have a3 := ih (f + 1 + 1) (by omega) h6 (by omega)
                  have a4 := specs_ok (f := f + 1) (k := k) (r := isRuleN k) hS (fun {d n} hd hn => special_ok hS (fun {d n} hd hn => ih f (by omega) hd hn) hd hn) h7 (by omega)
                  have ek : ((k : Int) + 1) - 1 = k := by omega
                  by_cases c1 : w = "race"
                  · subst c1
                    cases c2 : isNums x2 x3 x4 with
                    | false => simp [fC_ap, fVar_ap, fOp_ap, fB_ap, fAnd_ap, fOr_ap, fNot_ap, fAndV_ap, fOrV_ap, fNotV_ap, fIf_ap, fNil_ap, fCons_ap, fTup_ap, fLst_ap, fLstC_ap, fNoPart_ap, fPart_ap, fSl_ap, fNeg_ap, fCB_ap, fIsi_ap, fIsi2_ap, fNext_ap, fSeq_ap, fRet_ap, fRetF_ap, fgName_ap, fgNil_ap, fgCons_ap, fgTup_ap, fgSub_ap, fAsg_ap, fPar_ap, fPar3_ap, fDrop_ap, fApp_ap, fIfS_ap, fiSeq_ap, fiTup_ap, fiEnum_ap, fYes_ap, fCall_ap, fCall0_ap, fChain_ap, fBits_ap, fAddC_ap, fiAny_ap, Res.bind_ok, asB_ok, okO_some, bodyD, asB, iterOf, withLock_none, noErr_ok, wipeE, List.map_cons, List.map_nil, List.length_cons, List.length_nil, List.cons_append, List.nil_append, List.getElem?_cons_zero, List.getElem?_cons_succ, List.set_cons_zero, List.set_cons_succ, if_true, Bool.false_eq_true, if_false, Nat.reduceAdd, Nat.reduceSub, Nat.zero_add, List.replicate, tyD, atI_0, atI_1, lenD_lst, lenD_tup, ixD_tup, ixD_lst, eqD_int, eqD_str, neD_int, neD_str, leD_int, ltD_int, gtD_int, geD_int, addD_int, subD_int, intD_int, gx0, gx1, gx2, gs0, gs2, hx0, hx1, hx2, hs0, hs2, capN, Nat.zero_le, Nat.reduceLeDiff, Nat.reduceEqDiff, Nat.reduceLT, Bool.not_true, Bool.not_false, Bool.true_and, Bool.false_and, isiB, hk, isRace, a1, c2]
                    | true =>
                      cases c3 : isOrder x5 with
                      | false => simp [fC_ap, fVar_ap, fOp_ap, fB_ap, fAnd_ap, fOr_ap, fNot_ap, fAndV_ap, fOrV_ap, fNotV_ap, fIf_ap, fNil_ap, fCons_ap, fTup_ap, fLst_ap, fLstC_ap, fNoPart_ap, fPart_ap, fSl_ap, fNeg_ap, fCB_ap, fIsi_ap, fIsi2_ap, fNext_ap, fSeq_ap, fRet_ap, fRetF_ap, fgName_ap, fgNil_ap, fgCons_ap, fgTup_ap, fgSub_ap, fAsg_ap, fPar_ap, fPar3_ap, fDrop_ap, fApp_ap, fIfS_ap, fiSeq_ap, fiTup_ap, fiEnum_ap, fYes_ap, fCall_ap, fCall0_ap, fChain_ap, fBits_ap, fAddC_ap, fiAny_ap, Res.bind_ok, asB_ok, okO_some, bodyD, asB, iterOf, withLock_none, noErr_ok, wipeE, List.map_cons, List.map_nil, List.length_cons, List.length_nil, List.cons_append, List.nil_append, List.getElem?_cons_zero, List.getElem?_cons_succ, List.set_cons_zero, List.set_cons_succ, if_true, Bool.false_eq_true, if_false, Nat.reduceAdd, Nat.reduceSub, Nat.zero_add, List.replicate, tyD, atI_0, atI_1, lenD_lst, lenD_tup, ixD_tup, ixD_lst, eqD_int, eqD_str, neD_int, neD_str, leD_int, ltD_int, gtD_int, geD_int, addD_int, subD_int, intD_int, gx0, gx1, gx2, gs0, gs2, hx0, hx1, hx2, hs0, hs2, capN, Nat.zero_le, Nat.reduceLeDiff, Nat.reduceEqDiff, Nat.reduceLT, Bool.not_true, Bool.not_false, Bool.true_and, Bool.false_and, isiB, hk, isRace, a1, a2, c2, c3]
                      | true =>
                        cases c4 : isRuleN k x6 with
                        | false => simp [fC_ap, fVar_ap, fOp_ap, fB_ap, fAnd_ap, fOr_ap, fNot_ap, fAndV_ap, fOrV_ap, fNotV_ap, fIf_ap, fNil_ap, fCons_ap, fTup_ap, fLst_ap, fLstC_ap, fNoPart_ap, fPart_ap, fSl_ap, fNeg_ap, fCB_ap, fIsi_ap, fIsi2_ap, fNext_ap, fSeq_ap, fRet_ap, fRetF_ap, fgName_ap, fgNil_ap, fgCons_ap, fgTup_ap, fgSub_ap, fAsg_ap, fPar_ap, fPar3_ap, fDrop_ap, fApp_ap, fIfS_ap, fiSeq_ap, fiTup_ap, fiEnum_ap, fYes_ap, fCall_ap, fCall0_ap, fChain_ap, fBits_ap, fAddC_ap, fiAny_ap, Res.bind_ok, asB_ok, okO_some, bodyD, asB, iterOf, withLock_none, noErr_ok, wipeE, List.map_cons, List.map_nil, List.length_cons, List.length_nil, List.cons_append, List.nil_append, List.getElem?_cons_zero, List.getElem?_cons_succ, List.set_cons_zero, List.set_cons_succ, if_true, Bool.false_eq_true, if_false, Nat.reduceAdd, Nat.reduceSub, Nat.zero_add, List.replicate, tyD, atI_0, atI_1, lenD_lst, lenD_tup, ixD_tup, ixD_lst, eqD_int, eqD_str, neD_int, neD_str, leD_int, ltD_int, gtD_int, geD_int, addD_int, subD_int, intD_int, gx0, gx1, gx2, gs0, gs2, hx0, hx1, hx2, hs0, hs2, capN, Nat.zero_le, Nat.reduceLeDiff, Nat.reduceEqDiff, Nat.reduceLT, Bool.not_true, Bool.not_false, Bool.true_and, Bool.false_and, isiB, hk, isRace, a1, a2, a3, c2, c3, c4, ek]
                        | true => simp [fC_ap, fVar_ap, fOp_ap, fB_ap, fAnd_ap, fOr_ap, fNot_ap, fAndV_ap, fOrV_ap, fNotV_ap, fIf_ap, fNil_ap, fCons_ap, fTup_ap, fLst_ap, fLstC_ap, fNoPart_ap, fPart_ap, fSl_ap, fNeg_ap, fCB_ap, fIsi_ap, fIsi2_ap, fNext_ap, fSeq_ap, fRet_ap, fRetF_ap, fgName_ap, fgNil_ap, fgCons_ap, fgTup_ap, fgSub_ap, fAsg_ap, fPar_ap, fPar3_ap, fDrop_ap, fApp_ap, fIfS_ap, fiSeq_ap, fiTup_ap, fiEnum_ap, fYes_ap, fCall_ap, fCall0_ap, fChain_ap, fBits_ap, fAddC_ap, fiAny_ap, Res.bind_ok, asB_ok, okO_some, bodyD, asB, iterOf, withLock_none, noErr_ok, wipeE, List.map_cons, List.map_nil, List.length_cons, List.length_nil, List.cons_append, List.nil_append, List.getElem?_cons_zero, List.getElem?_cons_succ, List.set_cons_zero, List.set_cons_succ, if_true, Bool.false_eq_true, if_false, Nat.reduceAdd, Nat.reduceSub, Nat.zero_add, List.replicate, tyD, atI_0, atI_1, lenD_lst, lenD_tup, ixD_tup, ixD_lst, eqD_int, eqD_str, neD_int, neD_str, leD_int, ltD_int, gtD_int, geD_int, addD_int, subD_int, intD_int, gx0, gx1, gx2, gs0, gs2, hx0, hx1, hx2, hs0, hs2, capN, Nat.zero_le, Nat.reduceLeDiff, Nat.reduceEqDiff, Nat.reduceLT, Bool.not_true, Bool.not_false, Bool.true_and, Bool.false_and, isiB, hk, isRace, a1, a2, a3, a4, c2, c3, c4, ek]
                  · simp [fC_ap, fVar_ap, fOp_ap, fB_ap, fAnd_ap, fOr_ap, fNot_ap, fAndV_ap, fOrV_ap, fNotV_ap, fIf_ap, fNil_ap, fCons_ap, fTup_ap, fLst_ap, fLstC_ap, fNoPart_ap, fPart_ap, fSl_ap, fNeg_ap, fCB_ap, fIsi_ap, fIsi2_ap, fNext_ap, fSeq_ap, fRet_ap, fRetF_ap, fgName_ap, fgNil_ap, fgCons_ap, fgTup_ap, fgSub_ap, fAsg_ap, fPar_ap, fPar3_ap, fDrop_ap, fApp_ap, fIfS_ap, fiSeq_ap, fiTup_ap, fiEnum_ap, fYes_ap, fCall_ap, fCall0_ap, fChain_ap, fBits_ap, fAddC_ap, fiAny_ap, Res.bind_ok, asB_ok, okO_some, bodyD, asB, iterOf, withLock_none, noErr_ok, wipeE, List.map_cons, List.map_nil, List.length_cons, List.length_nil, List.cons_append, List.nil_append, List.getElem?_cons_zero, List.getElem?_cons_succ, List.set_cons_zero, List.set_cons_succ, if_true, Bool.false_eq_true, if_false, Nat.reduceAdd, Nat.reduceSub, Nat.zero_add, List.replicate, tyD, atI_0, atI_1, lenD_lst, lenD_tup, ixD_tup, ixD_lst, eqD_int, eqD_str, neD_int, neD_str, leD_int, ltD_int, gtD_int, geD_int, addD_int, subD_int, intD_int, gx0, gx1, gx2, gs0, gs2, hx0, hx1, hx2, hs0, hs2, capN, Nat.zero_le, Nat.reduceLeDiff, Nat.reduceEqDiff, Nat.reduceLT, Bool.not_true, Bool.not_false, Bool.true_and, Bool.false_and, isiB, hk, isRace, c1]
                | _ => first | (simp [fC_ap, fVar_ap, fOp_ap, fB_ap, fAnd_ap, fOr_ap, fNot_ap, fAndV_ap, fOrV_ap, fNotV_ap, fIf_ap, fNil_ap, fCons_ap, fTup_ap, fLst_ap, fLstC_ap, fNoPart_ap, fPart_ap, fSl_ap, fNeg_ap, fCB_ap, fIsi_ap, fIsi2_ap, fNext_ap, fSeq_ap, fRet_ap, fRetF_ap, fgName_ap, fgNil_ap, fgCons_ap, fgTup_ap, fgSub_ap, fAsg_ap, fPar_ap, fPar3_ap, fDrop_ap, fApp_ap, fIfS_ap, fiSeq_ap, fiTup_ap, fiEnum_ap, fYes_ap, fCall_ap, fCall0_ap, fChain_ap, fBits_ap, fAddC_ap, fiAny_ap, Res.bind_ok, asB_ok, okO_some, bodyD, asB, iterOf, withLock_none, noErr_ok, wipeE, List.map_cons, List.map_nil, List.length_cons, List.length_nil, List.cons_append, List.nil_append, List.getElem?_cons_zero, List.getElem?_cons_succ, List.set_cons_zero, List.set_cons_succ, if_true, Bool.false_eq_true, if_false, Nat.reduceAdd, Nat.reduceSub, Nat.zero_add, List.replicate, tyD, atI_0, atI_1, lenD_lst, lenD_tup, ixD_tup, ixD_lst, eqD_int, eqD_str, neD_int, neD_str, leD_int, ltD_int, gtD_int, geD_int, addD_int, subD_int, intD_int, gx0, gx1, gx2, gs0, gs2, hx0, hx1, hx2, hs0, hs2, capN, Nat.zero_le, Nat.reduceLeDiff, Nat.reduceEqDiff, Nat.reduceLT, Bool.not_true, Bool.not_false, Bool.true_and, Bool.false_and, isiB, hk, isRace]; done) | (exfalso; cases n <;> simp [fit] at h1)
            · have hl' : ¬ (xs.length : Int) = 7 := by omega
              have z : isRace (isRuleN k) (.tup xs) = false := by
                unfold isRace
                split
                · rename_i e
                  cases e
                  exact absurd rfl hl
                · rfl
              rw [z]
              simp [fC_ap, fVar_ap, fOp_ap, fB_ap, fAnd_ap, fOr_ap, fNot_ap, fAndV_ap, fOrV_ap, fNotV_ap, fIf_ap, fNil_ap, fCons_ap, fTup_ap, fLst_ap, fLstC_ap, fNoPart_ap, fPart_ap, fSl_ap, fNeg_ap, fCB_ap, fIsi_ap, fIsi2_ap, fNext_ap, fSeq_ap, fRet_ap, fRetF_ap, fgName_ap, fgNil_ap, fgCons_ap, fgTup_ap, fgSub_ap, fAsg_ap, fPar_ap, fPar3_ap, fDrop_ap, fApp_ap, fIfS_ap, fiSeq_ap, fiTup_ap, fiEnum_ap, fYes_ap, fCall_ap, fCall0_ap, fChain_ap, fBits_ap, fAddC_ap, fiAny_ap, Res.bind_ok, asB_ok, okO_some, bodyD, asB, iterOf, withLock_none, noErr_ok, wipeE, List.map_cons, List.map_nil, List.length_cons, List.length_nil, List.cons_append, List.nil_append, List.getElem?_cons_zero, List.getElem?_cons_succ, List.set_cons_zero, List.set_cons_succ, if_true, Bool.false_eq_true, if_false, Nat.reduceAdd, Nat.reduceSub, Nat.zero_add, List.replicate, tyD, atI_0, atI_1, lenD_lst, lenD_tup, ixD_tup, ixD_lst, eqD_int, eqD_str, neD_int, neD_str, leD_int, ltD_int, gtD_int, geD_int, addD_int, subD_int, intD_int, gx0, gx1, gx2, gs0, gs2, hx0, hx1, hx2, hs0, hs2, capN, Nat.zero_le, Nat.reduceLeDiff, Nat.reduceEqDiff, Nat.reduceLT, Bool.not_true, Bool.not_false, Bool.true_and, Bool.false_and, isiB, hk, hl']
        | _ => first | (simp [fC_ap, fVar_ap, fOp_ap, fB_ap, fAnd_ap, fOr_ap, fNot_ap, fAndV_ap, fOrV_ap, fNotV_ap, fIf_ap, fNil_ap, fCons_ap, fTup_ap, fLst_ap, fLstC_ap, fNoPart_ap, fPart_ap, fSl_ap, fNeg_ap, fCB_ap, fIsi_ap, fIsi2_ap, fNext_ap, fSeq_ap, fRet_ap, fRetF_ap, fgName_ap, fgNil_ap, fgCons_ap, fgTup_ap, fgSub_ap, fAsg_ap, fPar_ap, fPar3_ap, fDrop_ap, fApp_ap, fIfS_ap, fiSeq_ap, fiTup_ap, fiEnum_ap, fYes_ap, fCall_ap, fCall0_ap, fChain_ap, fBits_ap, fAddC_ap, fiAny_ap, Res.bind_ok, asB_ok, okO_some, bodyD, asB, iterOf, withLock_none, noErr_ok, wipeE, List.map_cons, List.map_nil, List.length_cons, List.length_nil, List.cons_append, List.nil_append, List.getElem?_cons_zero, List.getElem?_cons_succ, List.set_cons_zero, List.set_cons_succ, if_true, Bool.false_eq_true, if_false, Nat.reduceAdd, Nat.reduceSub, Nat.zero_add, List.replicate, tyD, atI_0, atI_1, lenD_lst, lenD_tup, ixD_tup, ixD_lst, eqD_int, eqD_str, neD_int, neD_str, leD_int, ltD_int, gtD_int, geD_int, addD_int, subD_int, intD_int, gx0, gx1, gx2, gs0, gs2, hx0, hx1, hx2, hs0, hs2, capN, Nat.zero_le, Nat.reduceLeDiff, Nat.reduceEqDiff, Nat.reduceLT, Bool.not_true, Bool.not_false, Bool.true_and, Bool.false_and, isiB, hk, isRace]; done) | (exfalso; cases n <;> simp [fit] at h)
theorem is_rule_ok {d : D} {n : Nat} (h : fit d n = true) (hn : n ≤ 60) : g_is_rule [d] S = .ok (.bl (isRuleN 4 d)) S := by
  refine bodyT_ok ?_ hS rfl
  have e := rule_ok hS 4 16 (by decide) h hn
  simp only [fC_ap, fVar_ap, fOp_ap, fB_ap, fAnd_ap, fOr_ap, fNot_ap, fAndV_ap, fOrV_ap, fNotV_ap, fIf_ap, fNil_ap, fCons_ap, fTup_ap, fLst_ap, fLstC_ap, fNoPart_ap, fPart_ap, fSl_ap, fNeg_ap, fCB_ap, fIsi_ap, fIsi2_ap, fNext_ap, fSeq_ap, fRet_ap, fRetF_ap, fgName_ap, fgNil_ap, fgCons_ap, fgTup_ap, fgSub_ap, fAsg_ap, fPar_ap, fPar3_ap, fDrop_ap, fApp_ap, fIfS_ap, fiSeq_ap, fiTup_ap, fiEnum_ap, fYes_ap, fCall_ap, fCall0_ap, fChain_ap, fBits_ap, fAddC_ap, fiAny_ap, Res.bind_ok, asB_ok, okO_some, bodyD, asB, iterOf, withLock_none, noErr_ok, wipeE, List.map_cons, List.map_nil, List.length_cons, List.length_nil, List.cons_append, List.nil_append, List.getElem?_cons_zero, List.getElem?_cons_succ, List.set_cons_zero, List.set_cons_succ, if_true, Bool.false_eq_true, if_false, Nat.reduceAdd, Nat.reduceSub, Nat.zero_add, List.replicate, tyD, atI_0, atI_1, lenD_lst, lenD_tup, ixD_tup, ixD_lst, eqD_int, eqD_str, neD_int, neD_str, leD_int, ltD_int, gtD_int, geD_int, addD_int, subD_int, intD_int, gx0, gx1, gx2, gs0, gs2, hx0, hx1, hx2, hs0, hs2, capN, Nat.zero_le, Nat.reduceLeDiff, Nat.reduceEqDiff, Nat.reduceLT, Bool.not_true, Bool.not_false, Bool.true_and, Bool.false_and, b_is_rule, c_DEEPEST]
  exact congrArg (fun r => Res.bind (Res.bind r _) _) e
end
end K08

set_option maxHeartbeats 2000000
namespace K08
open PySem PySem.Spec PyProof.Rows L2 DL
variable {TP0 : Addr}
theorem all2 {n : Nat} {y : CO} {L : Sto} (G : Gn n y) (hL : L.all coFree = true) : (CO.tab TP0 q__law_calls :: y :: L).all coFree = true := by
  rw [List.all_cons, G.all hL]
  rfl
def hash1 (b c : Int) : Int := (b * 1140671 + 27644437 * c * c + 131 * c + 19) % 2147483629
def hash2 (b c : Int) : Int := (hash1 b c * hash1 b c + 62089 * c + 32416187) % 2147483587
def hashI (b c : Int) : Int := (hash2 b c * 48271) % 2147483647
theorem hash_ok {S : Sto} (hS : S.all coFree = true) {b c : Int} (hc : c.natAbs < 18446744073709551616) : g__law_hash [.int b, .int c] S = .ok (.int (hashI b c)) S := by
  refine bodyT_ok ?_ hS rfl
  have e1 : mulD (.int b) (.int 1140671) S = some (.int (b * 1140671)) := mulD_int (mulOk_r (by decide))
  have e2 : mulD (.int 27644437) (.int c) S = some (.int (27644437 * c)) := mulD_int (mulOk_l (by decide))
  have e3 : mulD (.int (27644437 * c)) (.int c) S = some (.int (27644437 * c * c)) := mulD_int (mulOk_r hc)
  have e4 : mulD (.int 131) (.int c) S = some (.int (131 * c)) := mulD_int (mulOk_l (by decide))
  have e5 : ∀ i, modD (.int i) (.int 2147483629) S = some (.int (i % 2147483629)) := fun i => modD_int (by decide)
  have n1 : (hash1 b c).natAbs < 18446744073709551616 := by
    have := Int.emod_nonneg (b * 1140671 + 27644437 * c * c + 131 * c + 19) (show (2147483629 : Int) ≠ 0 by decide)
    have := Int.emod_lt_of_pos (b * 1140671 + 27644437 * c * c + 131 * c + 19) (show (0 : Int) < 2147483629 by decide)
    unfold hash1
    omega
  have e6 : mulD (.int (hash1 b c)) (.int (hash1 b c)) S = some (.int (hash1 b c * hash1 b c)) := mulD_int (mulOk_r n1)
  have e7 : mulD (.int 62089) (.int c) S = some (.int (62089 * c)) := mulD_int (mulOk_l (by decide))
  have e8 : ∀ i, modD (.int i) (.int 2147483587) S = some (.int (i % 2147483587)) := fun i => modD_int (by decide)
  have e9 : ∀ i, mulD (.int i) (.int 48271) S = some (.int (i * 48271)) := fun i => mulD_int (mulOk_r (by decide))
  have e10 : ∀ i, modD (.int i) (.int 2147483647) S = some (.int (i % 2147483647)) := fun i => modD_int (by decide)
  have f1 : (b * 1140671 + 27644437 * c * c + 131 * c + 19) % 2147483629 = hash1 b c := rfl
  simp only [fC_ap, fVar_ap, fOp_ap, fB_ap, fAnd_ap, fOr_ap, fNot_ap, fAndV_ap, fOrV_ap, fNotV_ap, fIf_ap, fNil_ap, fCons_ap, fTup_ap, fLst_ap, fLstC_ap, fNoPart_ap, fPart_ap, fSl_ap, fNeg_ap, fCB_ap, fIsi_ap, fIsi2_ap, fNext_ap, fSeq_ap, fRet_ap, fRetF_ap, fgName_ap, fgNil_ap, fgCons_ap, fgTup_ap, fgSub_ap, fAsg_ap, fPar_ap, fPar3_ap, fDrop_ap, fApp_ap, fIfS_ap, fiSeq_ap, fiTup_ap, fiEnum_ap, fYes_ap, fCall_ap, fCall0_ap, fChain_ap, fBits_ap, fAddC_ap, fiAny_ap, Res.bind_ok, asB_ok, okO_some, bodyD, asB, iterOf, withLock_none, noErr_ok, wipeE, List.map_cons, List.map_nil, List.length_cons, List.length_nil, List.cons_append, List.nil_append, List.getElem?_cons_zero, List.getElem?_cons_succ, List.set_cons_zero, List.set_cons_succ, if_true, Bool.false_eq_true, if_false, Nat.reduceAdd, Nat.reduceSub, Nat.zero_add, List.replicate, tyD, atI_0, atI_1, lenD_lst, lenD_tup, ixD_tup, ixD_lst, eqD_int, eqD_str, neD_int, neD_str, leD_int, ltD_int, gtD_int, geD_int, addD_int, subD_int, intD_int, gx0, gx1, gx2, gs0, gs2, hx0, hx1, hx2, hs0, hs2, capN, Nat.zero_le, Nat.reduceLeDiff, Nat.reduceEqDiff, Nat.reduceLT, Bool.not_true, Bool.not_false, Bool.true_and, Bool.false_and, b__law_hash, e1, e2, e3, e4, e5, f1, e6, e7, e8, e9, e10]
  rfl
theorem bits_few {i : Int} (h0 : 1 ≤ i) (h : i ≤ 1000) : Builtin.Int.intBits i ≤ 10 := by
  refine PySem.intBits_le_iff.mpr ?_
  have e : 2 ^ 10 = 1024 := by decide
  rw [e]
  omega
theorem random_ok {n : Nat} {x : CO} {L : Sto} (G : Gn n x) (hn : n ≤ 1000000000) (hL : L.all coFree = true) {bd : Int} (h1 : 1 ≤ bd) (h2 : bd ≤ 1000) :
    ∃ y v, g__law_random [.cel 1, .int bd] (CO.tab TP0 q__law_calls :: x :: L) = .ok (.int v) (CO.tab TP0 q__law_calls :: y :: L) ∧ Gn (n + 1) y ∧ 0 ≤ v ∧ v < bd := by
  obtain ⟨a, b, c, rfl, ha, hb1, hb2, hc, hcn⟩ := G
  have fd : ∀ (S : Sto) (i : Int), fdivD (.int i) (.int bd) S = some (.int (i / bd)) := fun S i => fdivD_int (fdivOk_of (by omega) (by omega))
  have md : ∀ (S : Sto) (i : Int), modD (.int i) (.int bd) S = some (.int (i % bd)) := fun S i => modD_int (by omega)
  have nn := fun i : Int => Int.emod_nonneg i (show bd ≠ 0 by omega)
  have lt := fun i : Int => Int.emod_lt_of_pos i (show 0 < bd by omega)
  by_cases c0 : a > 0
  · refine ⟨gen (a / bd) b c, a % bd, ?_, ⟨_, _, _, rfl, Int.ediv_nonneg ha (by omega), hb1, hb2, hc, by omega⟩, nn a, lt a⟩
    refine bodyT_to (L := []) (T := CO.tab TP0 q__law_calls :: gen (a / bd) b c :: L) ?_ rfl (by rw [List.all_cons, List.all_cons, hL]; rfl) rfl
    simp only [fC_ap, fVar_ap, fOp_ap, fB_ap, fAnd_ap, fOr_ap, fNot_ap, fAndV_ap, fOrV_ap, fNotV_ap, fIf_ap, fNil_ap, fCons_ap, fTup_ap, fLst_ap, fLstC_ap, fNoPart_ap, fPart_ap, fSl_ap, fNeg_ap, fCB_ap, fIsi_ap, fIsi2_ap, fNext_ap, fSeq_ap, fRet_ap, fRetF_ap, fgName_ap, fgNil_ap, fgCons_ap, fgTup_ap, fgSub_ap, fAsg_ap, fPar_ap, fPar3_ap, fDrop_ap, fApp_ap, fIfS_ap, fiSeq_ap, fiTup_ap, fiEnum_ap, fYes_ap, fCall_ap, fCall0_ap, fChain_ap, fBits_ap, fAddC_ap, fiAny_ap, Res.bind_ok, asB_ok, okO_some, bodyD, asB, iterOf, withLock_none, noErr_ok, wipeE, List.map_cons, List.map_nil, List.length_cons, List.length_nil, List.cons_append, List.nil_append, List.getElem?_cons_zero, List.getElem?_cons_succ, List.set_cons_zero, List.set_cons_succ, if_true, Bool.false_eq_true, if_false, Nat.reduceAdd, Nat.reduceSub, Nat.zero_add, List.replicate, tyD, atI_0, atI_1, lenD_lst, lenD_tup, ixD_tup, ixD_lst, eqD_int, eqD_str, neD_int, neD_str, leD_int, ltD_int, gtD_int, geD_int, addD_int, subD_int, intD_int, gx0, gx1, gx2, gs0, gs2, hx0, hx1, hx2, hs0, hs2, capN, Nat.zero_le, Nat.reduceLeDiff, Nat.reduceEqDiff, Nat.reduceLT, Bool.not_true, Bool.not_false, Bool.true_and, Bool.false_and, b__law_random, gen, decide_eq_true c0, fd, md, List.append_nil]
  · have f30 : ∀ (S : Sto) (i : Int), fdivD (.int i) (.int 30) S = some (.int (i / 30)) := fun S i => fdivD_int (fdivOk_of (by decide) (by decide))
    have bt : ((Builtin.Int.intBits bd : Nat) : Int) / 30 = 0 := by
      have := bits_few h1 h2
      omega
    refine ⟨gen a b (c + 1), (0 * 2147483587 + hashI b (c + 1)) % bd, ?_, ⟨_, _, _, rfl, ha, hb1, hb2, by omega, by omega⟩, nn _, lt _⟩
    have hh := hash_ok (S := CO.tab TP0 q__law_calls :: gen a b (c + 1) :: L) (by rw [List.all_cons, List.all_cons, hL]; rfl) (b := b) (c := c + 1) (by omega)
    refine bodyT_to (L := []) (T := CO.tab TP0 q__law_calls :: gen a b (c + 1) :: L) ?_ rfl (by rw [List.all_cons, List.all_cons, hL]; rfl) rfl
    have one : fiRng1 (fCons (fOp addD (fC (.int 1)) (fOp fdivD (fBits (fVar 1)) (fC (.int 30)))) fNil) [some (.cel 1), some (.int bd), some (.int 0), none] (CO.tab TP0 q__law_calls :: gen a b c :: L) = .ok ⟨[.int 0], none⟩ (CO.tab TP0 q__law_calls :: gen a b c :: L) := by
      have q := fiRng1_ok (f := fCons (fOp addD (fC (.int 1)) (fOp fdivD (fBits (fVar 1)) (fC (.int 30)))) fNil) (ρ := [some (.cel 1), some (.int bd), some (.int 0), none]) (S := CO.tab TP0 q__law_calls :: gen a b c :: L) (j := 1) (by simp only [fC_ap, fVar_ap, fOp_ap, fB_ap, fAnd_ap, fOr_ap, fNot_ap, fAndV_ap, fOrV_ap, fNotV_ap, fIf_ap, fNil_ap, fCons_ap, fTup_ap, fLst_ap, fLstC_ap, fNoPart_ap, fPart_ap, fSl_ap, fNeg_ap, fCB_ap, fIsi_ap, fIsi2_ap, fNext_ap, fSeq_ap, fRet_ap, fRetF_ap, fgName_ap, fgNil_ap, fgCons_ap, fgTup_ap, fgSub_ap, fAsg_ap, fPar_ap, fPar3_ap, fDrop_ap, fApp_ap, fIfS_ap, fiSeq_ap, fiTup_ap, fiEnum_ap, fYes_ap, fCall_ap, fCall0_ap, fChain_ap, fBits_ap, fAddC_ap, fiAny_ap, Res.bind_ok, asB_ok, okO_some, bodyD, asB, iterOf, withLock_none, noErr_ok, wipeE, List.map_cons, List.map_nil, List.length_cons, List.length_nil, List.cons_append, List.nil_append, List.getElem?_cons_zero, List.getElem?_cons_succ, List.set_cons_zero, List.set_cons_succ, if_true, Bool.false_eq_true, if_false, Nat.reduceAdd, Nat.reduceSub, Nat.zero_add, List.replicate, tyD, atI_0, atI_1, lenD_lst, lenD_tup, ixD_tup, ixD_lst, eqD_int, eqD_str, neD_int, neD_str, leD_int, ltD_int, gtD_int, geD_int, addD_int, subD_int, intD_int, gx0, gx1, gx2, gs0, gs2, hx0, hx1, hx2, hs0, hs2, capN, Nat.zero_le, Nat.reduceLeDiff, Nat.reduceEqDiff, Nat.reduceLT, Bool.not_true, Bool.not_false, Bool.true_and, Bool.false_and, f30, bt]; rfl) smallI_one
      exact q
    have m0 : ∀ (S : Sto), mulD (.int 0) (.int 2147483587) S = some (.int (0 * 2147483587)) := fun S => mulD_int (mulOk_r (by decide))
    have loop : fFor (fiRng1 (fCons (fOp addD (fC (.int 1)) (fOp fdivD (fBits (fVar 1)) (fC (.int 30)))) fNil)) (fgName 3) (fSeq (fAsg (fOp addD (fOp ixD (fVar 0) (fC (.int 2))) (fC (.int 1))) (fgSub (fVar 0) (fC (.int 2))))
    (fAsg (fOp addD (fOp mulD (fVar 2) (fC (.int 2147483587))) (fCall 2 g__law_hash (fCons (fOp ixD (fVar 0) (fC (.int 1))) (fCons (fOp ixD (fVar 0) (fC (.int 2))) fNil)))) (fgName 2))) [some (.cel 1), some (.int bd), some (.int 0), none] (CO.tab TP0 q__law_calls :: gen a b c :: L) =
        .ok (.nx, [some (.cel 1), some (.int bd), some (.int (0 * 2147483587 + hashI b (c + 1))), some (.int 0)]) (CO.tab TP0 q__law_calls :: gen a b (c + 1) :: L) := by
      unfold fFor
      rw [one]
      unfold gen at hh ⊢
      simp only [fC_ap, fVar_ap, fOp_ap, fB_ap, fAnd_ap, fOr_ap, fNot_ap, fAndV_ap, fOrV_ap, fNotV_ap, fIf_ap, fNil_ap, fCons_ap, fTup_ap, fLst_ap, fLstC_ap, fNoPart_ap, fPart_ap, fSl_ap, fNeg_ap, fCB_ap, fIsi_ap, fIsi2_ap, fNext_ap, fSeq_ap, fRet_ap, fRetF_ap, fgName_ap, fgNil_ap, fgCons_ap, fgTup_ap, fgSub_ap, fAsg_ap, fPar_ap, fPar3_ap, fDrop_ap, fApp_ap, fIfS_ap, fiSeq_ap, fiTup_ap, fiEnum_ap, fYes_ap, fCall_ap, fCall0_ap, fChain_ap, fBits_ap, fAddC_ap, fiAny_ap, Res.bind_ok, asB_ok, okO_some, bodyD, asB, iterOf, withLock_none, noErr_ok, wipeE, List.map_cons, List.map_nil, List.length_cons, List.length_nil, List.cons_append, List.nil_append, List.getElem?_cons_zero, List.getElem?_cons_succ, List.set_cons_zero, List.set_cons_succ, if_true, Bool.false_eq_true, if_false, Nat.reduceAdd, Nat.reduceSub, Nat.zero_add, List.replicate, tyD, atI_0, atI_1, lenD_lst, lenD_tup, ixD_tup, ixD_lst, eqD_int, eqD_str, neD_int, neD_str, leD_int, ltD_int, gtD_int, geD_int, addD_int, subD_int, intD_int, gx0, gx1, gx2, gs0, gs2, hx0, hx1, hx2, hs0, hs2, capN, Nat.zero_le, Nat.reduceLeDiff, Nat.reduceEqDiff, Nat.reduceLT, Bool.not_true, Bool.not_false, Bool.true_and, Bool.false_and, loopD, m0, hh]
    have c1 : decide (a > 0) = false := decide_eq_false c0
    unfold gen at loop ⊢
    simp only [fC_ap, fVar_ap, fOp_ap, fB_ap, fAnd_ap, fOr_ap, fNot_ap, fAndV_ap, fOrV_ap, fNotV_ap, fIf_ap, fNil_ap, fCons_ap, fTup_ap, fLst_ap, fLstC_ap, fNoPart_ap, fPart_ap, fSl_ap, fNeg_ap, fCB_ap, fIsi_ap, fIsi2_ap, fNext_ap, fSeq_ap, fRet_ap, fRetF_ap, fgName_ap, fgNil_ap, fgCons_ap, fgTup_ap, fgSub_ap, fAsg_ap, fPar_ap, fPar3_ap, fDrop_ap, fApp_ap, fIfS_ap, fiSeq_ap, fiTup_ap, fiEnum_ap, fYes_ap, fCall_ap, fCall0_ap, fChain_ap, fBits_ap, fAddC_ap, fiAny_ap, Res.bind_ok, asB_ok, okO_some, bodyD, asB, iterOf, withLock_none, noErr_ok, wipeE, List.map_cons, List.map_nil, List.length_cons, List.length_nil, List.cons_append, List.nil_append, List.getElem?_cons_zero, List.getElem?_cons_succ, List.set_cons_zero, List.set_cons_succ, if_true, Bool.false_eq_true, if_false, Nat.reduceAdd, Nat.reduceSub, Nat.zero_add, List.replicate, tyD, atI_0, atI_1, lenD_lst, lenD_tup, ixD_tup, ixD_lst, eqD_int, eqD_str, neD_int, neD_str, leD_int, ltD_int, gtD_int, geD_int, addD_int, subD_int, intD_int, gx0, gx1, gx2, gs0, gs2, hx0, hx1, hx2, hs0, hs2, capN, Nat.zero_le, Nat.reduceLeDiff, Nat.reduceEqDiff, Nat.reduceLT, Bool.not_true, Bool.not_false, Bool.true_and, Bool.false_and, b__law_random, c1, loop, md, List.append_nil]
/-- one of the things -/
theorem pick_ok {n : Nat} {x : CO} {L : Sto} (G : Gn n x) (hn : n ≤ 1000000000) (hL : L.all coFree = true) {xs : List D} (h1 : 1 ≤ xs.length) (h2 : xs.length ≤ 1000) (hf : noCels xs = true) :
    ∃ y d, g__law_pick [.cel 1, .lst xs] (CO.tab TP0 q__law_calls :: x :: L) = .ok d (CO.tab TP0 q__law_calls :: y :: L) ∧ Gn (n + 1) y ∧ d ∈ xs := by
  obtain ⟨y, v, e, G2, v1, v2⟩ := random_ok (TP0 := TP0) G hn hL (bd := xs.length) (by omega) (by omega)
  have hv : v.toNat < xs.length := by omega
  have hm : xs[v.toNat] ∈ xs := List.getElem_mem hv
  have at_ : atI xs v = some xs[v.toNat] := by
    have q := atI_at (xs := xs) (List.getElem?_eq_getElem hv)
    rw [show ((v.toNat : Nat) : Int) = v by omega] at q
    exact q
  refine ⟨y, xs[v.toNat], ?_, G2, hm⟩
  refine bodyT_to (L := []) (T := CO.tab TP0 q__law_calls :: y :: L) ?_ rfl (all2 G2 hL) (mem_free hf hm)
  simp only [fC_ap, fVar_ap, fOp_ap, fB_ap, fAnd_ap, fOr_ap, fNot_ap, fAndV_ap, fOrV_ap, fNotV_ap, fIf_ap, fNil_ap, fCons_ap, fTup_ap, fLst_ap, fLstC_ap, fNoPart_ap, fPart_ap, fSl_ap, fNeg_ap, fCB_ap, fIsi_ap, fIsi2_ap, fNext_ap, fSeq_ap, fRet_ap, fRetF_ap, fgName_ap, fgNil_ap, fgCons_ap, fgTup_ap, fgSub_ap, fAsg_ap, fPar_ap, fPar3_ap, fDrop_ap, fApp_ap, fIfS_ap, fiSeq_ap, fiTup_ap, fiEnum_ap, fYes_ap, fCall_ap, fCall0_ap, fChain_ap, fBits_ap, fAddC_ap, fiAny_ap, Res.bind_ok, asB_ok, okO_some, bodyD, asB, iterOf, withLock_none, noErr_ok, wipeE, List.map_cons, List.map_nil, List.length_cons, List.length_nil, List.cons_append, List.nil_append, List.getElem?_cons_zero, List.getElem?_cons_succ, List.set_cons_zero, List.set_cons_succ, if_true, Bool.false_eq_true, if_false, Nat.reduceAdd, Nat.reduceSub, Nat.zero_add, List.replicate, tyD, atI_0, atI_1, lenD_lst, lenD_tup, ixD_tup, ixD_lst, eqD_int, eqD_str, neD_int, neD_str, leD_int, ltD_int, gtD_int, geD_int, addD_int, subD_int, intD_int, gx0, gx1, gx2, gs0, gs2, hx0, hx1, hx2, hs0, hs2, capN, Nat.zero_le, Nat.reduceLeDiff, Nat.reduceEqDiff, Nat.reduceLT, Bool.not_true, Bool.not_false, Bool.true_and, Bool.false_and, b__law_pick, e, at_, List.append_nil]
where
  mem_free : ∀ {xs : List D} {d : D}, noCels xs = true → d ∈ xs → noCel d = true
    | [], _, _, h => by cases h
    | y :: ys, d, h, m => by
      simp only [noCels, Bool.and_eq_true] at h
      rcases List.mem_cons.mp m with rfl | m
      · exact h.1
      · exact mem_free h.2 m
theorem cell_ok {ns : List Int} : ∃ v : Int, g__law_cell [.kls (ns.map .int), .int 0] [CO.tab TP0 q__law_calls] = .ok (.int v) [CO.tab TP0 q__law_calls] := by
  cases ns with
  | nil => exact ⟨0, by rfl⟩
  | cons i r =>
    refine ⟨i, bodyT_ok ?_ rfl rfl⟩
    have c : ltD (.int 0) (.int ((r.length : Int) + 1)) [CO.tab TP0 q__law_calls] = some (.bl true) := by
      rw [ltD_int, decide_eq_true (by omega)]
    have l : lenD [.kls (.int i :: r.map .int)] [CO.tab TP0 q__law_calls] = some (.int ((r.length : Int) + 1)) := by
      show some (D.int ((List.map D.int r).length + 1 : Nat)) = _
      rw [List.length_map]
      rfl
    have a : ixD (.kls (.int i :: r.map .int)) (.int 0) [CO.tab TP0 q__law_calls] = some (.int i) := atI_0
    simp only [fC_ap, fVar_ap, fOp_ap, fB_ap, fAnd_ap, fOr_ap, fNot_ap, fAndV_ap, fOrV_ap, fNotV_ap, fIf_ap, fNil_ap, fCons_ap, fTup_ap, fLst_ap, fLstC_ap, fNoPart_ap, fPart_ap, fSl_ap, fNeg_ap, fCB_ap, fIsi_ap, fIsi2_ap, fNext_ap, fSeq_ap, fRet_ap, fRetF_ap, fgName_ap, fgNil_ap, fgCons_ap, fgTup_ap, fgSub_ap, fAsg_ap, fPar_ap, fPar3_ap, fDrop_ap, fApp_ap, fIfS_ap, fiSeq_ap, fiTup_ap, fiEnum_ap, fYes_ap, fCall_ap, fCall0_ap, fChain_ap, fBits_ap, fAddC_ap, fiAny_ap, Res.bind_ok, asB_ok, okO_some, bodyD, asB, iterOf, withLock_none, noErr_ok, wipeE, List.map_cons, List.map_nil, List.length_cons, List.length_nil, List.cons_append, List.nil_append, List.getElem?_cons_zero, List.getElem?_cons_succ, List.set_cons_zero, List.set_cons_succ, if_true, Bool.false_eq_true, if_false, Nat.reduceAdd, Nat.reduceSub, Nat.zero_add, List.replicate, tyD, atI_0, atI_1, lenD_lst, lenD_tup, ixD_tup, ixD_lst, eqD_int, eqD_str, neD_int, neD_str, leD_int, ltD_int, gtD_int, geD_int, addD_int, subD_int, intD_int, gx0, gx1, gx2, gs0, gs2, hx0, hx1, hx2, hs0, hs2, capN, Nat.zero_le, Nat.reduceLeDiff, Nat.reduceEqDiff, Nat.reduceLT, Bool.not_true, Bool.not_false, Bool.true_and, Bool.false_and, b__law_cell, c, l, a]
theorem generator_ok {ns : List Int} : ∃ x, g__law_generator [.kls (ns.map .int), .int 0] [CO.tab TP0 q__law_calls] = .ok (.cel 1) [CO.tab TP0 q__law_calls, x] ∧ Gn 0 x := by
  obtain ⟨v, e⟩ := cell_ok (TP0 := TP0) (ns := ns)
  have p1 : powD (.int 10) (.int 18) [CO.tab TP0 q__law_calls] = some (.int (10 ^ (18 : Int).toNat)) := powD_int (by decide +kernel)
  have p2 : powD (.int 10) (.int 60) [CO.tab TP0 q__law_calls] = some (.int (10 ^ (60 : Int).toNat)) := powD_int (by decide +kernel)
  have p3 : powD (.int (10 ^ (60 : Int).toNat)) (.int 10) [CO.tab TP0 q__law_calls] = some (.int ((10 ^ (60 : Int).toNat) ^ (10 : Int).toNat)) := powD_int (by decide +kernel)
  have pp : (0 : Int) < (10 ^ (60 : Int).toNat) ^ (10 : Int).toNat := by decide +kernel
  generalize (10 : Int) ^ (18 : Int).toNat = q1 at *
  generalize ((10 : Int) ^ (60 : Int).toNat) ^ (10 : Int).toNat = q3 at *
  generalize (10 : Int) ^ (60 : Int).toNat = q2 at *
  obtain ⟨m, em⟩ : ∃ m, maxT [.int (v - q1), .int 0] [CO.tab TP0 q__law_calls] = some (.int m) := ⟨_, rfl⟩
  have m1 : modD (.int m) (.int q3) [CO.tab TP0 q__law_calls] = some (.int (m % q3)) := modD_int pp
  have m2 : modD (.int v) (.int 2147483647) [CO.tab TP0 q__law_calls] = some (.int (v % 2147483647)) := modD_int (by decide)
  have m3 : mulD (.int 1000) (.int 0) [CO.tab TP0 q__law_calls] = some (.int (1000 * 0)) := mulD_int (mulOk_l (by decide))
  refine ⟨gen (m % q3) (v % 2147483647) (1000 * 0), ?_, _, _, _, rfl, Int.emod_nonneg _ (by omega), Int.emod_nonneg _ (by decide), Int.emod_lt_of_pos _ (by decide), by decide, by decide⟩
  show bodyD N__law_generator 2 (b__law_generator g__law_cell) [.kls (ns.map .int), .int 0] [CO.tab TP0 q__law_calls] = _
  simp only [fC_ap, fVar_ap, fOp_ap, fB_ap, fAnd_ap, fOr_ap, fNot_ap, fAndV_ap, fOrV_ap, fNotV_ap, fIf_ap, fNil_ap, fCons_ap, fTup_ap, fLst_ap, fLstC_ap, fNoPart_ap, fPart_ap, fSl_ap, fNeg_ap, fCB_ap, fIsi_ap, fIsi2_ap, fNext_ap, fSeq_ap, fRet_ap, fRetF_ap, fgName_ap, fgNil_ap, fgCons_ap, fgTup_ap, fgSub_ap, fAsg_ap, fPar_ap, fPar3_ap, fDrop_ap, fApp_ap, fIfS_ap, fiSeq_ap, fiTup_ap, fiEnum_ap, fYes_ap, fCall_ap, fCall0_ap, fChain_ap, fBits_ap, fAddC_ap, fiAny_ap, Res.bind_ok, asB_ok, okO_some, bodyD, asB, iterOf, withLock_none, noErr_ok, wipeE, List.map_cons, List.map_nil, List.length_cons, List.length_nil, List.cons_append, List.nil_append, List.getElem?_cons_zero, List.getElem?_cons_succ, List.set_cons_zero, List.set_cons_succ, if_true, Bool.false_eq_true, if_false, Nat.reduceAdd, Nat.reduceSub, Nat.zero_add, List.replicate, tyD, atI_0, atI_1, lenD_lst, lenD_tup, ixD_tup, ixD_lst, eqD_int, eqD_str, neD_int, neD_str, leD_int, ltD_int, gtD_int, geD_int, addD_int, subD_int, intD_int, gx0, gx1, gx2, gs0, gs2, hx0, hx1, hx2, hs0, hs2, capN, Nat.zero_le, Nat.reduceLeDiff, Nat.reduceEqDiff, Nat.reduceLT, Bool.not_true, Bool.not_false, Bool.true_and, Bool.false_and, b__law_generator, e, p1, p2, p3, em, m1, m2, m3, gen]
/-! ### drawn rules -/
theorem fits_word {w : Str} {m : Nat} (h : PyData.strOk w = true) : fit (.tup [.str w]) (m + 1) = true := by
  simp only [fit, fits, h, Bool.and_self]
theorem isOrder_of {d : D} (h : isWord "on" d = true ∨ isWord "turns" d = true ∨ isWord "winner" d = true ∨ isWord "loser" d = true ∨ isRow d = true) : isOrder d = true := by
  unfold isOrder
  rcases h with h | h | h | h | h <;> simp [h]
end K08

set_option maxHeartbeats 2000000
namespace K08
open PySem PySem.Spec PyProof.Rows L2 DL
variable {TP0 : Addr}
/-! ### how long a text of a drawn rule can be -/
def wordsR : List Str := ["race", "rally", "hand", "on", "turns", "winner", "loser", "row"]
mutual
def tiny : D → Bool
  | .non => true
  | .bl _ => true
  | .int i => decide (0 ≤ i) && decide (i < 64)
  | .str x => wordsR.contains x
  | .lst xs => tinys xs
  | .tup xs => tinys xs
  | _ => false
def tinys : List D → Bool
  | [] => true
  | d :: ds => tiny d && tinys ds
end
mutual
def bnd : D → Nat
  | .lst xs => bnds xs + 4
  | .tup xs => bnds xs + 4
  | _ => 8
def bnds : List D → Nat
  | [] => 0
  | d :: ds => bnd d + 2 + bnds ds
end
structure Dr (k : Nat) (d : D) : Prop where
  rule : isRuleN k d = true
  fit_ : fit d (3 * k + 2) = true
  tiny_ : tiny d = true
  bnd_ : bnd d ≤ 200 * 4 ^ k
structure Or (d : D) : Prop where
  ord : isOrder d = true
  fit_ : fit d 2 = true
  tiny_ : tiny d = true
  bnd_ : bnd d ≤ 60
/-- marks drawn in a block -/
theorem marks_ok {L : Sto} (hL : L.all coFree = true) {ρ : DL.Env} (hρ : ρ[0]? = some (some (.cel 1))) : ∀ (ds : List D) {n : Nat} {x : CO}, Gn n x → n + ds.length ≤ 1000000000 →
    ∃ y ys, compD (fgName 2) fYes (fCall 2 g__law_random (fCons (fVar 0) (fCons (fC (.int 2)) fNil))) ds ρ (CO.tab TP0 q__law_calls :: x :: L) = .ok ys (CO.tab TP0 q__law_calls :: y :: L) ∧ Gn (n + ds.length) y ∧ ys.length = ds.length ∧ ∀ v ∈ ys, v = .int 0 ∨ v = .int 1
  | [], n, x, G, _ => ⟨x, [], rfl, G, rfl, fun _ h => by cases h⟩
  | d :: ds, n, x, G, hn => by
    rw [List.length_cons] at hn
    obtain ⟨y, v, e, G2, v1, v2⟩ := random_ok (TP0 := TP0) G (by omega) hL (bd := 2) (by decide) (by decide)
    obtain ⟨z, ys, e2, G3, l, m⟩ := marks_ok hL hρ ds G2 (by omega)
    refine ⟨z, .int v :: ys, ?_, by rw [List.length_cons]; exact G3.up (by omega), by rw [List.length_cons, List.length_cons, l], fun w hw => ?_⟩
    · unfold compD
      have h0 : (ρ.set 2 (some d))[0]? = some (some (.cel 1)) := by rw [List.getElem?_set_ne (by decide)]; exact hρ
      have ev : fVar 0 (ρ.set 2 (some d)) (CO.tab TP0 q__law_calls :: x :: L) = .ok (.cel 1) (CO.tab TP0 q__law_calls :: x :: L) := by unfold fVar; rw [h0]
      simp only [fgName_ap, Res.bind_ok, fYes_ap, fCall_ap, fCons_ap, ev, fC_ap, fNil_ap, List.length_cons, List.length_nil, Nat.zero_add, Nat.reduceAdd, if_true, e, e2]
    · rcases List.mem_cons.mp hw with rfl | hw
      · have : v = 0 ∨ v = 1 := by omega
        rcases this with rfl | rfl
        · exact .inl rfl
        · exact .inr rfl
      · exact m w hw
theorem row_facts {ys : List D} (h1 : 1 ≤ ys.length) (h2 : ys.length ≤ 4) (m : ∀ v ∈ ys, v = .int 0 ∨ v = .int 1) : Or (.tup [.str "row", .lst ys]) := by
  have f0 : fits ys 0 = true := by
    rw [fits_all, List.all_eq_true]
    intro v hv
    rcases m v hv with rfl | rfl <;> rfl
  have a0 : ys.all (isBtw 0 1) = true := by
    rw [List.all_eq_true]
    intro v hv
    rcases m v hv with rfl | rfl <;> rfl
  have t0 : ∀ {ys : List D}, (∀ v ∈ ys, v = .int 0 ∨ v = .int 1) → tinys ys = true ∧ bnds ys = 10 * ys.length := by
    intro ys
    induction ys with
    | nil => exact fun _ => ⟨rfl, rfl⟩
    | cons y ys ih =>
      intro m
      obtain ⟨i1, i2⟩ := ih fun v hv => m v (List.mem_cons_of_mem _ hv)
      have e : tiny y = true ∧ bnd y = 8 := by
        rcases m y List.mem_cons_self with rfl | rfl <;> exact ⟨rfl, rfl⟩
      refine ⟨by simp only [tinys, e.1, i1, Bool.and_self], ?_⟩
      simp only [bnds, e.2, i2, List.length_cons]
      omega
  obtain ⟨t1, t2⟩ := t0 m
  refine ⟨isOrder_of (.inr (.inr (.inr (.inr ?_)))), ?_, ?_, ?_⟩
  · have c1 : decide (1 ≤ ys.length) = true := decide_eq_true h1
    have c2 : decide (ys.length ≤ 8) = true := decide_eq_true (by omega)
    simp only [isRow, c1, c2, a0, Bool.and_self]
    decide
  · simp only [fit, fits, f0, Bool.and_true]
    decide +kernel
  · simp only [tiny, tinys, t1, Bool.and_true]
    decide +kernel
  · simp only [bnd, bnds, t2]
    omega
theorem order_ok {n : Nat} {x : CO} {L : Sto} (G : Gn n x) (hn : n + 6 ≤ 1000000000) (hL : L.all coFree = true) : ∃ y d, g__law_order [.cel 1] (CO.tab TP0 q__law_calls :: x :: L) = .ok d (CO.tab TP0 q__law_calls :: y :: L) ∧ Gn (n + 6) y ∧ Or d := by
  obtain ⟨y, w, e, G2, mw⟩ := pick_ok (TP0 := TP0) G (by omega) hL (xs := [.str "on", .str "turns", .str "turns", .str "winner", .str "loser", .str "row"]) (by decide) (by decide) rfl
  have wd : ∀ s : Str, (s = "row") ∨ ((s == "row") = false ∧ PyData.strOk s = true ∧ wordsR.contains s = true ∧ (s = "on" ∨ s = "turns" ∨ s = "winner" ∨ s = "loser")) → True := fun _ _ => trivial
  by_cases c : w = .str "row"
  · subst c
    obtain ⟨z, q, e2, G3, mq⟩ := pick_ok (TP0 := TP0) G2 (by omega) hL (xs := [.int 1, .int 2, .int 2, .int 3, .int 4, .int 4]) (by decide) (by decide) rfl
    obtain ⟨j, rfl, j1, j2⟩ : ∃ j : Nat, q = .int j ∧ 1 ≤ j ∧ j ≤ 4 := by
      simp only [List.mem_cons, List.not_mem_nil, or_false] at mq
      rcases mq with rfl | rfl | rfl | rfl | rfl | rfl
      · exact ⟨1, rfl, by decide, by decide⟩
      · exact ⟨2, rfl, by decide, by decide⟩
      · exact ⟨2, rfl, by decide, by decide⟩
      · exact ⟨3, rfl, by decide, by decide⟩
      · exact ⟨4, rfl, by decide, by decide⟩
      · exact ⟨4, rfl, by decide, by decide⟩
    have lr : (rangeD 0 j).length = j := rangeD_len
    obtain ⟨u, ys, e3, G4, l, m⟩ := marks_ok (TP0 := TP0) hL (ρ := [some (.cel 1), some (.str "row"), none]) rfl (rangeD 0 j) G3 (by omega)
    rw [lr] at l G4
    refine ⟨u, .tup [.str "row", .lst ys], ?_, G4.up (by omega), row_facts (by omega) (by omega) m⟩
    have rf := row_facts (ys := ys) (by omega) (by omega) m
    refine bodyT_to (L := []) (T := CO.tab TP0 q__law_calls :: u :: L) ?_ rfl (all2 G4 hL) (fit_nc rf.fit_)
    have it := fiRng1_nat (f := fCons (fCall 2 g__law_pick (fCons (fVar 0) (fCons (fLst (fCons (fC (.int 1)) (fCons (fC (.int 2)) (fCons (fC (.int 2)) (fCons (fC (.int 3)) (fCons (fC (.int 4)) (fCons (fC (.int 4)) fNil))))))) fNil))) fNil) (ρ := [some (.cel 1), some (.str "row"), none]) (S := CO.tab TP0 q__law_calls :: y :: L) (S1 := CO.tab TP0 q__law_calls :: z :: L) (j := j) (by simp only [fC_ap, fVar_ap, fOp_ap, fB_ap, fAnd_ap, fOr_ap, fNot_ap, fAndV_ap, fOrV_ap, fNotV_ap, fIf_ap, fNil_ap, fCons_ap, fTup_ap, fLst_ap, fLstC_ap, fNoPart_ap, fPart_ap, fSl_ap, fNeg_ap, fCB_ap, fIsi_ap, fIsi2_ap, fNext_ap, fSeq_ap, fRet_ap, fRetF_ap, fgName_ap, fgNil_ap, fgCons_ap, fgTup_ap, fgSub_ap, fAsg_ap, fPar_ap, fPar3_ap, fDrop_ap, fApp_ap, fIfS_ap, fiSeq_ap, fiTup_ap, fiEnum_ap, fYes_ap, fCall_ap, fCall0_ap, fChain_ap, fBits_ap, fAddC_ap, fiAny_ap, Res.bind_ok, asB_ok, okO_some, bodyD, asB, iterOf, withLock_none, noErr_ok, wipeE, List.map_cons, List.map_nil, List.length_cons, List.length_nil, List.cons_append, List.nil_append, List.getElem?_cons_zero, List.getElem?_cons_succ, List.set_cons_zero, List.set_cons_succ, if_true, Bool.false_eq_true, if_false, Nat.reduceAdd, Nat.reduceSub, Nat.zero_add, List.replicate, tyD, atI_0, atI_1, lenD_lst, lenD_tup, ixD_tup, ixD_lst, eqD_int, eqD_str, neD_int, neD_str, leD_int, ltD_int, gtD_int, geD_int, addD_int, subD_int, intD_int, gx0, gx1, gx2, gs0, gs2, hx0, hx1, hx2, hs0, hs2, capN, Nat.zero_le, Nat.reduceLeDiff, Nat.reduceEqDiff, Nat.reduceLT, Bool.not_true, Bool.not_false, Bool.true_and, Bool.false_and, e2]) (by omega)
    have lc := fLc_st (vs := [2]) (c := fYes) it (capN_of (by rw [lr]; omega)) e3
    simp only [fC_ap, fVar_ap, fOp_ap, fB_ap, fAnd_ap, fOr_ap, fNot_ap, fAndV_ap, fOrV_ap, fNotV_ap, fIf_ap, fNil_ap, fCons_ap, fTup_ap, fLst_ap, fLstC_ap, fNoPart_ap, fPart_ap, fSl_ap, fNeg_ap, fCB_ap, fIsi_ap, fIsi2_ap, fNext_ap, fSeq_ap, fRet_ap, fRetF_ap, fgName_ap, fgNil_ap, fgCons_ap, fgTup_ap, fgSub_ap, fAsg_ap, fPar_ap, fPar3_ap, fDrop_ap, fApp_ap, fIfS_ap, fiSeq_ap, fiTup_ap, fiEnum_ap, fYes_ap, fCall_ap, fCall0_ap, fChain_ap, fBits_ap, fAddC_ap, fiAny_ap, Res.bind_ok, asB_ok, okO_some, bodyD, asB, iterOf, withLock_none, noErr_ok, wipeE, List.map_cons, List.map_nil, List.length_cons, List.length_nil, List.cons_append, List.nil_append, List.getElem?_cons_zero, List.getElem?_cons_succ, List.set_cons_zero, List.set_cons_succ, if_true, Bool.false_eq_true, if_false, Nat.reduceAdd, Nat.reduceSub, Nat.zero_add, List.replicate, tyD, atI_0, atI_1, lenD_lst, lenD_tup, ixD_tup, ixD_lst, eqD_int, eqD_str, neD_int, neD_str, leD_int, ltD_int, gtD_int, geD_int, addD_int, subD_int, intD_int, gx0, gx1, gx2, gs0, gs2, hx0, hx1, hx2, hs0, hs2, capN, Nat.zero_le, Nat.reduceLeDiff, Nat.reduceEqDiff, Nat.reduceLT, Bool.not_true, Bool.not_false, Bool.true_and, Bool.false_and, b__law_order, e, lc, List.append_nil, decide_true]
  · have k1 : (isOrder w = isOrder w) := rfl
    obtain ⟨s, rfl, hs⟩ : ∃ s : Str, w = .str s ∧ (s = "on" ∨ s = "turns" ∨ s = "winner" ∨ s = "loser") := by
      simp only [List.mem_cons, List.not_mem_nil, or_false] at mw
      rcases mw with rfl | rfl | rfl | rfl | rfl | rfl
      · exact ⟨_, rfl, .inl rfl⟩
      · exact ⟨_, rfl, .inr (.inl rfl)⟩
      · exact ⟨_, rfl, .inr (.inl rfl)⟩
      · exact ⟨_, rfl, .inr (.inr (.inl rfl))⟩
      · exact ⟨_, rfl, .inr (.inr (.inr rfl))⟩
      · exact absurd rfl c
    have c2 : decide (s = "row") = false := decide_eq_false fun z => c (by rw [z])
    have o : Or (.tup [.str s]) := by
      rcases hs with rfl | rfl | rfl | rfl <;> exact ⟨by decide +kernel, by decide +kernel, by decide +kernel, by decide⟩
    refine ⟨y, .tup [.str s], ?_, G2.up (by omega), o⟩
    refine bodyT_to (L := []) (T := CO.tab TP0 q__law_calls :: y :: L) ?_ rfl (all2 G2 hL) rfl
    simp only [fC_ap, fVar_ap, fOp_ap, fB_ap, fAnd_ap, fOr_ap, fNot_ap, fAndV_ap, fOrV_ap, fNotV_ap, fIf_ap, fNil_ap, fCons_ap, fTup_ap, fLst_ap, fLstC_ap, fNoPart_ap, fPart_ap, fSl_ap, fNeg_ap, fCB_ap, fIsi_ap, fIsi2_ap, fNext_ap, fSeq_ap, fRet_ap, fRetF_ap, fgName_ap, fgNil_ap, fgCons_ap, fgTup_ap, fgSub_ap, fAsg_ap, fPar_ap, fPar3_ap, fDrop_ap, fApp_ap, fIfS_ap, fiSeq_ap, fiTup_ap, fiEnum_ap, fYes_ap, fCall_ap, fCall0_ap, fChain_ap, fBits_ap, fAddC_ap, fiAny_ap, Res.bind_ok, asB_ok, okO_some, bodyD, asB, iterOf, withLock_none, noErr_ok, wipeE, List.map_cons, List.map_nil, List.length_cons, List.length_nil, List.cons_append, List.nil_append, List.getElem?_cons_zero, List.getElem?_cons_succ, List.set_cons_zero, List.set_cons_succ, if_true, Bool.false_eq_true, if_false, Nat.reduceAdd, Nat.reduceSub, Nat.zero_add, List.replicate, tyD, atI_0, atI_1, lenD_lst, lenD_tup, ixD_tup, ixD_lst, eqD_int, eqD_str, neD_int, neD_str, leD_int, ltD_int, gtD_int, geD_int, addD_int, subD_int, intD_int, gx0, gx1, gx2, gs0, gs2, hx0, hx1, hx2, hs0, hs2, capN, Nat.zero_le, Nat.reduceLeDiff, Nat.reduceEqDiff, Nat.reduceLT, Bool.not_true, Bool.not_false, Bool.true_and, Bool.false_and, b__law_order, e, c2, List.append_nil]
end K08

set_option maxHeartbeats 2000000
namespace K08
open PySem PySem.Spec PyProof.Rows L2 DL
variable {TP0 : Addr}
def sc (k : Int × Int) : D := .tup [.int k.1, .int k.2]
def scP (k : Int × Int) : PyData := .tuple [.int k.1, .int k.2]
def spQ (q : (Int × Int) × D) : D := .tup [sc q.1, q.2]
theorem toPs_sc {S : Sto} : ∀ ks : List (Int × Int), toPs S (ks.map sc) = some (ks.map scP)
  | [] => rfl
  | k :: ks => by
    have e : toP S (sc k) = some (scP k) := rfl
    simp only [List.map_cons, toPs, e, toPs_sc ks]
theorem scP_eqv (k m : Int × Int) : PyData.eqv (scP k) (scP m) = decide (k = m) := by
  obtain ⟨a, b⟩ := k
  obtain ⟨c, d⟩ := m
  simp only [scP, PyData.eqv, PyData.eqvAll, Bool.and_true]
  by_cases e1 : a = c <;> by_cases e2 : b = d <;> simp [e1, e2]
theorem lay_sc : ∀ ks : List (Int × Int), PyData.canLayAll0 (ks.map scP) = true ∧ PyData.depthAll (ks.map scP) ≤ 1
  | [] => ⟨rfl, by simp [PyData.depthAll]⟩
  | k :: ks => by
    obtain ⟨h1, h2⟩ := lay_sc ks
    refine ⟨?_, ?_⟩
    · simp only [List.map_cons, PyData.canLayAll0, h1, Bool.and_true]
      rfl
    · have e : (scP k).depth = 1 := by simp [scP, PyData.depth, PyData.depthAll]
      simp only [List.map_cons, PyData.depthAll, e]
      omega
theorem shaped_sc (ks : List (Int × Int)) : SeqAt.shaped (.list (ks.map scP)) = true := by
  obtain ⟨h1, h2⟩ := lay_sc ks
  have e : (PyData.list (ks.map scP)).depth = PyData.depthAll (ks.map scP) + 1 := by simp only [PyData.depth]
  have c : (PyData.list (ks.map scP)).canLay0 = true := by simpa only [PyData.canLay0] using h1
  unfold SeqAt.shaped
  rw [c, e, Bool.true_and, decide_eq_true_eq]
  omega
theorem notIn_sc {S : Sto} (k : Int × Int) (ks : List (Int × Int)) : notInD (sc k) (.lst (ks.map sc)) S = some (.bl (!ks.contains k)) := by
  have e1 : toP S (sc k) = some (scP k) := rfl
  have e2 : toP S (.lst (ks.map sc)) = some (.list (ks.map scP)) := by simp only [toP, toPs_sc, Option.map_some]
  obtain ⟨l1, l2⟩ := lay_sc ks
  have s1 : SeqAt.shaped (scP k) = true := by
    unfold SeqAt.shaped
    simp [scP, PyData.canLay0, PyData.canLayAll0, PyData.depth, PyData.depthAll]
  have s2 : SeqAt.shaped (.list (ks.map scP)) = true := shaped_sc ks
  unfold notInD
  simp only [e1, e2, s1, s2, Bool.and_self, if_true]
  congr 2
  congr 1
  induction ks with
  | nil => rfl
  | cons m ks ih =>
    obtain ⟨l3, l4⟩ := lay_sc ks
    have s3 : SeqAt.shaped (.list (ks.map scP)) = true := shaped_sc ks
    have ih := ih (by simp only [toP, toPs_sc, Option.map_some]) l3 l4 s3
    rw [List.map_cons, List.any_cons, ih, scP_eqv, List.contains_cons]
    congr 1
    by_cases c : m = k
    · subst c
      simp
    · have c' : ¬ k = m := fun z => c z.symm
      simp [c, c']
def Dn : Nat → Nat
  | 0 => 2
  | k + 1 => 3 * Dn k + 30
def RuleDraw (TP0 : Addr) (f k : Nat) : Prop := ∀ {n : Nat} {x : CO} {L : Sto}, Gn n x → n + Dn k ≤ 1000000000 → L.all coFree = true →
  ∃ y d, g__law_rule f [.cel 1, .int k, .int 3] (CO.tab TP0 q__law_calls :: x :: L) = .ok d (CO.tab TP0 q__law_calls :: y :: L) ∧ Gn (n + Dn k) y ∧ Dr k d
theorem snoc_at {x c : CO} {L : Sto} : (CO.tab TP0 q__law_calls :: x :: (L ++ [c]))[L.length + 2]? = some c := by simp
theorem snoc_set {x c c' : CO} {L : Sto} : (CO.tab TP0 q__law_calls :: x :: (L ++ [c])).set (L.length + 2) c' = CO.tab TP0 q__law_calls :: x :: (L ++ [c']) := by
  rw [List.set_cons_succ]
  congr 1
  induction L with
  | nil => rfl
  | cons a L ih => simpa using ih
structure Spq (k : Nat) (need : Int) (qs : List ((Int × Int) × D)) : Prop where
  nd : (qs.map (·.1)).Nodup
  at_ : ∀ q ∈ qs, 0 ≤ q.1.1 ∧ q.1.1 ≤ need ∧ 0 ≤ q.1.2 ∧ q.1.2 ≤ need ∧ Dr k q.2
theorem Spq.free {k : Nat} {need : Int} : ∀ {qs : List ((Int × Int) × D)}, Spq k need qs → noCels (qs.map spQ) = true
  | [], _ => rfl
  | q :: qs, h => by
    have i := Spq.free (qs := qs) ⟨(List.nodup_cons.mp (by simpa using h.nd)).2, fun r m => h.at_ r (List.mem_cons_of_mem _ m)⟩
    have f := fit_nc (h.at_ q List.mem_cons_self).2.2.2.2.fit_
    simp only [List.map_cons, noCels, i, Bool.and_true, spQ, sc, noCel, f]
def raceBody (g__law_random g__law_rule : GF) : FS := (fSeq (fAsg (fTup (fCons (fCall 2 g__law_random (fCons (fVar 0) (fCons (fOp addD (fVar 3) (fC (.int 1))) fNil))) (fCons (fCall 2 g__law_random (fCons (fVar 0) (fCons (fOp addD (fVar 3) (fC (.int 1))) fNil))) fNil))) (fgName 9)) (fIfS (fB (fOp notInD (fVar 9) (fLc [10, 11] (fiAny (fVar 6)) (fgTup 2 (fgCons (fgName 10) (fgCons (fgName 11) fgNil))) fYes (fVar 10)))) (fDrop (fApp (fVar 6) (fTup (fCons (fVar 9) (fCons (fCall 3 g__law_rule (fCons (fVar 0) (fCons (fOp subD (fVar 1) (fC (.int 1))) (fCons (fVar 2) fNil)))) fNil))))) fNext))
def raceIt (g__law_pick : GF) : FI := (fiRng1 (fCons (fCall 2 g__law_pick (fCons (fVar 0) (fCons (fLst (fCons (fC (.int 0)) (fCons (fC (.int 0)) (fCons (fC (.int 0)) (fCons (fC (.int 1)) (fCons (fC (.int 2)) fNil)))))) fNil))) fNil))
def rho (k : Nat) (need lead : Int) (cap : D) (j : Nat) (unit : D) (t s p q : Option D) : DL.Env := [some (.cel 1), some (.int ((k + 1 : Nat) : Int)), some (.int 3), some (.int need), some (.int lead), some cap, some (.cel j), some unit, t, s, p, q]
theorem race_step {f k n : Nat} (H : RuleDraw TP0 f k) {x : CO} {L : Sto} {qs : List ((Int × Int) × D)} {need lead : Int} {cap unit t : D} {s p q : Option D} (G : Gn n x) (hn : n + (Dn k + 2) ≤ 1000000000) (hL : L.all coFree = true) (hq : Spq k need qs)
    (n1 : 1 ≤ need) (n2 : need ≤ 30) (few : qs.length ≤ 1000) :
    ∃ y qs' s', raceBody g__law_random (g__law_rule f) (rho k need lead cap (L.length + 2) unit (some t) s p q) (CO.tab TP0 q__law_calls :: x :: (L ++ [.lst (qs.map spQ)])) = .ok (.nx, rho k need lead cap (L.length + 2) unit (some t) (some s') p q) (CO.tab TP0 q__law_calls :: y :: (L ++ [.lst (qs'.map spQ)])) ∧
      Gn (n + (Dn k + 2)) y ∧ Spq k need qs' ∧ qs'.length ≤ qs.length + 1 := by
  have hL2 : (L ++ [CO.lst (qs.map spQ)]).all coFree = true := by
    rw [List.all_append, hL]
    simp [coFree, hq.free]
  obtain ⟨y1, a, e1, G1, a1, a2⟩ := random_ok (TP0 := TP0) G (by omega) hL2 (bd := need + 1) (by omega) (by omega)
  obtain ⟨y2, b, e2, G2, b1, b2⟩ := random_ok (TP0 := TP0) G1 (by omega) hL2 (bd := need + 1) (by omega) (by omega)
  have pl := fLc_cell (vs := [10, 11]) (fi := fiAny (fVar 6)) (g := fgTup 2 (fgCons (fgName 10) (fgCons (fgName 11) fgNil))) (c := fYes) (el := fVar 10) (ρ := rho k need lead cap (L.length + 2) unit (some t) (some (sc (a, b))) p q) (S := CO.tab TP0 q__law_calls :: y2 :: (L ++ [.lst (qs.map spQ)])) (xs := qs.map spQ) (j := L.length + 2)
    (fun _ => true) (fun d => match d with
      | .tup [z, _] => z
      | d => d) (by simp only [fC_ap, fVar_ap, fOp_ap, fB_ap, fAnd_ap, fOr_ap, fNot_ap, fAndV_ap, fOrV_ap, fNotV_ap, fIf_ap, fNil_ap, fCons_ap, fTup_ap, fLst_ap, fLstC_ap, fNoPart_ap, fPart_ap, fSl_ap, fNeg_ap, fCB_ap, fIsi_ap, fIsi2_ap, fNext_ap, fSeq_ap, fRet_ap, fRetF_ap, fgName_ap, fgNil_ap, fgCons_ap, fgTup_ap, fgSub_ap, fAsg_ap, fPar_ap, fPar3_ap, fDrop_ap, fApp_ap, fIfS_ap, fiSeq_ap, fiTup_ap, fiEnum_ap, fYes_ap, fCall_ap, fCall0_ap, fChain_ap, fBits_ap, fAddC_ap, fiAny_ap, Res.bind_ok, asB_ok, okO_some, bodyD, asB, iterOf, withLock_none, noErr_ok, wipeE, List.map_cons, List.map_nil, List.length_cons, List.length_nil, List.cons_append, List.nil_append, List.getElem?_cons_zero, List.getElem?_cons_succ, List.set_cons_zero, List.set_cons_succ, if_true, Bool.false_eq_true, if_false, Nat.reduceAdd, Nat.reduceSub, Nat.zero_add, List.replicate, tyD, atI_0, atI_1, lenD_lst, lenD_tup, ixD_tup, ixD_lst, eqD_int, eqD_str, neD_int, neD_str, leD_int, ltD_int, gtD_int, geD_int, addD_int, subD_int, intD_int, gx0, gx1, gx2, gs0, gs2, hx0, hx1, hx2, hs0, hs2, capN, Nat.zero_le, Nat.reduceLeDiff, Nat.reduceEqDiff, Nat.reduceLT, Bool.not_true, Bool.not_false, Bool.true_and, Bool.false_and, rho, lstOf, snoc_get, Option.map_some]) (capN_of (by rw [List.length_map]; omega)) snoc_at (fun d m => by
        obtain ⟨z, m, rfl⟩ := List.mem_map.mp m
        refine ⟨_, rfl, rfl, fun _ => rfl⟩)
  have pl2 : (((qs.map spQ).filter fun _ => true).map fun d => match d with
      | .tup [z, _] => z
      | d => d) = (qs.map (·.1)).map sc := by
    rw [List.filter_eq_self.mpr (fun _ _ => rfl), List.map_map, List.map_map]
    rfl
  rw [pl2] at pl
  have ni := notIn_sc (S := CO.tab TP0 q__law_calls :: y2 :: (L ++ [.lst (qs.map spQ)])) (a, b) (qs.map (·.1))
  cases cq : (qs.map (·.1)).contains (a, b) with
  | true =>
    rw [cq] at ni
    refine ⟨y2, qs, sc (a, b), ?_, G2.up (by omega), hq, by omega⟩
    unfold rho sc at *
    simp only [raceBody, fC_ap, fVar_ap, fOp_ap, fB_ap, fAnd_ap, fOr_ap, fNot_ap, fAndV_ap, fOrV_ap, fNotV_ap, fIf_ap, fNil_ap, fCons_ap, fTup_ap, fLst_ap, fLstC_ap, fNoPart_ap, fPart_ap, fSl_ap, fNeg_ap, fCB_ap, fIsi_ap, fIsi2_ap, fNext_ap, fSeq_ap, fRet_ap, fRetF_ap, fgName_ap, fgNil_ap, fgCons_ap, fgTup_ap, fgSub_ap, fAsg_ap, fPar_ap, fPar3_ap, fDrop_ap, fApp_ap, fIfS_ap, fiSeq_ap, fiTup_ap, fiEnum_ap, fYes_ap, fCall_ap, fCall0_ap, fChain_ap, fBits_ap, fAddC_ap, fiAny_ap, Res.bind_ok, asB_ok, okO_some, bodyD, asB, iterOf, withLock_none, noErr_ok, wipeE, List.map_cons, List.map_nil, List.length_cons, List.length_nil, List.cons_append, List.nil_append, List.getElem?_cons_zero, List.getElem?_cons_succ, List.set_cons_zero, List.set_cons_succ, if_true, Bool.false_eq_true, if_false, Nat.reduceAdd, Nat.reduceSub, Nat.zero_add, List.replicate, tyD, atI_0, atI_1, lenD_lst, lenD_tup, ixD_tup, ixD_lst, eqD_int, eqD_str, neD_int, neD_str, leD_int, ltD_int, gtD_int, geD_int, addD_int, subD_int, intD_int, gx0, gx1, gx2, gs0, gs2, hx0, hx1, hx2, hs0, hs2, capN, Nat.zero_le, Nat.reduceLeDiff, Nat.reduceEqDiff, Nat.reduceLT, Bool.not_true, Bool.not_false, Bool.true_and, Bool.false_and, e1, e2, pl, ni]
  | false =>
    rw [cq] at ni
    obtain ⟨y3, r, e3, G3, dr⟩ := H G2 (by omega) hL2
    refine ⟨y3, qs ++ [((a, b), r)], sc (a, b), ?_, G3.up (by omega), ⟨?_, ?_⟩, by simp⟩
    · have ek : (((k + 1 : Nat) : Int)) - 1 = (k : Nat) := by omega
      have ap : appD (.cel (L.length + 2)) (.tup [.tup [.int a, .int b], r]) (CO.tab TP0 q__law_calls :: y3 :: (L ++ [.lst (qs.map spQ)])) = some (CO.tab TP0 q__law_calls :: y3 :: (L ++ [.lst ((qs ++ [((a, b), r)]).map spQ)])) := by
        unfold appD
        have lt : (qs.map spQ).length < capN := capN_of (by rw [List.length_map]; omega)
        simp only [List.getElem?_cons_succ, snoc_get, lt, if_true, snoc_set, List.map_append, List.map_cons, List.map_nil]
        rfl
      have ls : lstOf (CO.tab TP0 q__law_calls :: y2 :: (L ++ [.lst (qs.map spQ)])) (.cel (L.length + 2)) = some (qs.map spQ) := by
        simp only [lstOf, List.getElem?_cons_succ, snoc_get]
      unfold rho sc at *
      simp only [raceBody, fC_ap, fVar_ap, fOp_ap, fB_ap, fAnd_ap, fOr_ap, fNot_ap, fAndV_ap, fOrV_ap, fNotV_ap, fIf_ap, fNil_ap, fCons_ap, fTup_ap, fLst_ap, fLstC_ap, fNoPart_ap, fPart_ap, fSl_ap, fNeg_ap, fCB_ap, fIsi_ap, fIsi2_ap, fNext_ap, fSeq_ap, fRet_ap, fRetF_ap, fgName_ap, fgNil_ap, fgCons_ap, fgTup_ap, fgSub_ap, fAsg_ap, fPar_ap, fPar3_ap, fDrop_ap, fApp_ap, fIfS_ap, fiSeq_ap, fiTup_ap, fiEnum_ap, fYes_ap, fCall_ap, fCall0_ap, fChain_ap, fBits_ap, fAddC_ap, fiAny_ap, Res.bind_ok, asB_ok, okO_some, bodyD, asB, iterOf, withLock_none, noErr_ok, wipeE, List.map_cons, List.map_nil, List.length_cons, List.length_nil, List.cons_append, List.nil_append, List.getElem?_cons_zero, List.getElem?_cons_succ, List.set_cons_zero, List.set_cons_succ, if_true, Bool.false_eq_true, if_false, Nat.reduceAdd, Nat.reduceSub, Nat.zero_add, List.replicate, tyD, atI_0, atI_1, lenD_lst, lenD_tup, ixD_tup, ixD_lst, eqD_int, eqD_str, neD_int, neD_str, leD_int, ltD_int, gtD_int, geD_int, addD_int, subD_int, intD_int, gx0, gx1, gx2, gs0, gs2, hx0, hx1, hx2, hs0, hs2, capN, Nat.zero_le, Nat.reduceLeDiff, Nat.reduceEqDiff, Nat.reduceLT, Bool.not_true, Bool.not_false, Bool.true_and, Bool.false_and, e1, e2, pl, ni, ls, ek, e3, ap]
    · rw [List.map_append, List.nodup_append]
      refine ⟨hq.nd, by simp, fun u hu v hv => ?_⟩
      simp only [List.map_cons, List.map_nil, List.mem_singleton] at hv
      subst hv
      intro z
      subst z
      rw [List.contains_iff_mem.mpr hu] at cq
      cases cq
    · intro q hm
      rcases List.mem_append.mp hm with hm | hm
      · exact hq.at_ q hm
      · rw [List.mem_singleton] at hm
        subst hm
        exact ⟨a1, by show a ≤ need; omega, b1, by show b ≤ need; omega, dr⟩
theorem race_loop {f k : Nat} (H : RuleDraw TP0 f k) {L : Sto} {need lead : Int} {cap unit : D} {p q : Option D} (hL : L.all coFree = true) (n1 : 1 ≤ need) (n2 : need ≤ 30) : ∀ (ds : List D) {n : Nat} {x : CO} {qs : List ((Int × Int) × D)} {t s : Option D}, Gn n x → n + ds.length * (Dn k + 2) ≤ 1000000000 → Spq k need qs → qs.length + ds.length ≤ 1000 →
    ∃ y qs' t' s', loopD (fgName 8) (raceBody g__law_random (g__law_rule f)) ds (rho k need lead cap (L.length + 2) unit t s p q) (CO.tab TP0 q__law_calls :: x :: (L ++ [.lst (qs.map spQ)])) = .ok (.nx, rho k need lead cap (L.length + 2) unit t' s' p q) (CO.tab TP0 q__law_calls :: y :: (L ++ [.lst (qs'.map spQ)])) ∧
      Gn (n + ds.length * (Dn k + 2)) y ∧ Spq k need qs' ∧ qs'.length ≤ qs.length + ds.length
  | [], n, x, qs, t, s, G, hn, hq, few => ⟨x, qs, t, s, rfl, by simpa using G, hq, by simp⟩
  | d :: ds, n, x, qs, t, s, G, hn, hq, few => by
    rw [List.length_cons, Nat.succ_mul] at hn
    rw [List.length_cons] at few
    obtain ⟨y, qs1, s1, e1, G1, h1, l1⟩ := race_step (TP0 := TP0) (lead := lead) (cap := cap) (unit := unit) (t := d) (s := s) (p := p) (q := q) H G (by omega) hL hq n1 n2 (by omega)
    obtain ⟨z, qs2, t2, s2, e2, G2, h2, l2⟩ := race_loop (lead := lead) (cap := cap) (unit := unit) (p := p) (q := q) H hL n1 n2 ds (t := some d) (s := some s1) G1 (by omega) h1 (by omega)
    refine ⟨z, qs2, t2, s2, ?_, by rw [List.length_cons, Nat.succ_mul]; exact G2.up (by omega), h2, by rw [List.length_cons]; omega⟩
    unfold loopD
    have st : fgName 8 d (rho k need lead cap (L.length + 2) unit t s p q) (CO.tab TP0 q__law_calls :: x :: (L ++ [.lst (qs.map spQ)])) = .ok (rho k need lead cap (L.length + 2) unit (some d) s p q) (CO.tab TP0 q__law_calls :: x :: (L ++ [.lst (qs.map spQ)])) := rfl
    rw [st]
    simp only [Res.bind_ok, e1, e2]
end K08

set_option maxHeartbeats 2000000
namespace K08
open PySem PySem.Spec PyProof.Rows L2 DL
variable {TP0 : Addr}
theorem geI_lex (a b c d : Int) : geI [a, b] [c, d] = !SrtO.lexB (a, b) (c, d) := by
  unfold SrtO.lexB
  have e : geI [a, b] [c, d] = (if decide (a = c) = true then (if decide (b = d) = true then true else decide (d ≤ b)) else decide (c ≤ a)) := rfl
  rw [e]
  by_cases h1 : a = c
  · subst h1
    by_cases h2 : b = d
    · subst h2
      simp
    · simp only [h2, decide_true, decide_false, if_true, Bool.false_eq_true, if_false]
      by_cases h3 : d ≤ b
      · simp [h3]
      · simp [h3]
        omega
  · simp only [h1, decide_false, Bool.false_eq_true, if_false]
    by_cases h3 : c ≤ a
    · simp [h3]
    · simp [h3]
      omega
theorem race_up {r r' : D → Bool} (h : ∀ d, r d = true → r' d = true) : ∀ d, isRace r d = true → isRace r' d = true := fun d => by
  unfold isRace
  split
  · simp only [Bool.and_eq_true]
    rintro ⟨⟨h1, h2⟩, h3, h4⟩
    refine ⟨⟨h1, h2⟩, h _ h3, ?_⟩
    unfold isSpecs at *
    split at h4
    · simp only [Bool.and_eq_true, List.all_eq_true] at h4 ⊢
      refine ⟨⟨h4.1.1, fun x m => ?_⟩, h4.2⟩
      have := h4.1.2 x m
      unfold isSpec at *
      split at this
      · simp only [Bool.and_eq_true] at this ⊢
        exact ⟨this.1, h _ this.2⟩
      · cases this
    · cases h4
  · exact fun z => nomatch z
theorem rule_up : ∀ {k : Nat} {d : D}, isRuleN k d = true → isRuleN (k + 1) d = true := by
  intro k
  induction k with
  | zero =>
    intro d h
    simp only [isRuleN, Bool.or_eq_true] at h ⊢
    exact .inl h
  | succ k ih =>
    intro d h
    simp only [isRuleN, Bool.or_eq_true] at h ⊢
    rcases h with h | h
    · exact .inl h
    · exact .inr (race_up (fun d h => by simpa only [isRuleN, Bool.or_eq_true] using ih h) d h)
theorem rule_le {k m : Nat} {d : D} (h : isRuleN k d = true) (l : k ≤ m) : isRuleN m d = true := by
  induction l with
  | refl => exact h
  | step _ ih => exact rule_up ih
theorem Dr.up {k : Nat} {d : D} (h : Dr k d) : Dr (k + 1) d :=
  ⟨rule_up h.rule, fit_up (by omega) h.fit_, h.tiny_, by have := h.bnd_; rw [Nat.pow_succ]; omega⟩
theorem Dr.zero_le {k : Nat} {d : D} (h : Dr 0 d) : Dr k d := by
  induction k with
  | zero => exact h
  | succ k ih => exact ih.up
/-- what drawn specials are, sorted -/
theorem specs_of {k : Nat} (hk : k ≤ 4) {need : Int} (n2 : need ≤ 30) {qs : List ((Int × Int) × D)} (h : Spq k need qs) (l : qs.length ≤ 2) {S : Sto} {j : Nat} (hj : S[j]? = some (.lst (qs.map spQ))) :
    ∃ xs, sortedD [.cel j] S = some (.lst xs) ∧ isSpecs (isRuleN k) (.lst xs) = true ∧ fits xs (3 * k + 3) = true ∧ tinys xs = true ∧ bnds xs ≤ 2 * (200 * 4 ^ k + 34) := by
  have one : ∀ q ∈ qs, isSpec (isRuleN k) (spQ q) = true ∧ fit (spQ q) (3 * k + 3) = true ∧ tiny (spQ q) = true ∧ bnd (spQ q) + 2 ≤ 200 * 4 ^ k + 34 ∧ keyedOk S (spQ q) = true ∧ keyD (spQ q) = q.1 ∧ key1 (spQ q) = [q.1.1, q.1.2] := fun q hq => by
    obtain ⟨a1, a2, b1, b2, dr⟩ := h.at_ q hq
    obtain ⟨⟨a, b⟩, r⟩ := q
    simp only at a1 a2 b1 b2 dr
    refine ⟨?_, ?_, ?_, ?_, ?_, rfl, rfl⟩
    · simp only [isSpec, spQ, sc, isScore, isCount, lowS, dr.rule, Bool.and_true, Bool.and_eq_true, decide_eq_true_eq]
      omega
    · have f1 : fit (sc (a, b)) (3 * k + 2) = true := by simp [sc, fit, fits]
      show fits [sc (a, b), r] (3 * k + 2) = true
      simp only [fits, f1, dr.fit_, Bool.and_self]
    · simp only [spQ, sc, tiny, tinys, dr.tiny_, Bool.and_true, Bool.and_eq_true, decide_eq_true_eq]
      omega
    · have := dr.bnd_
      simp only [spQ, sc, bnd, bnds]
      omega
    · obtain ⟨p, hp, hs⟩ := fit_shaped (S := S) dr.fit_ (by omega)
      simp only [keyedOk, spQ, sc, hp, hs]
  have sq : seqOf S (.cel j) = some (qs.map spQ) := by simp only [seqOf, lstOf, hj]
  unfold sortedD
  simp only [sq]
  match qs, h, l, one with
  | [], _, _, _ => exact ⟨[], rfl, by rfl, rfl, rfl, by simp [bnds]⟩
  | [q], _, _, one =>
    obtain ⟨o1, o2, o3, o4, o5, o6, o7⟩ := one q List.mem_cons_self
    refine ⟨[spQ q], ?_, ?_, ?_, ?_, ?_⟩
    · have i0 : intsOf [spQ q] = none := rfl
      simp only [List.map_cons, List.map_nil, i0, List.all_cons, List.all_nil, o5, Bool.and_true, List.nodup_cons, List.not_mem_nil, not_false_eq_true, List.nodup_nil, and_self, decide_true, if_true]
      rfl
    · simp only [isSpecs, List.all_cons, List.all_nil, o1]
      rfl
    · simp only [fits, o2, Bool.and_self]
    · simp only [tinys, o3, Bool.and_self]
    · simp only [bnds]
      omega
  | [q, r], h, _, one =>
    obtain ⟨o1, o2, o3, o4, o5, o6, o7⟩ := one q List.mem_cons_self
    obtain ⟨p1, p2, p3, p4, p5, p6, p7⟩ := one r (List.mem_cons_of_mem _ List.mem_cons_self)
    have i0 : intsOf [spQ q, spQ r] = none := rfl
    have nd : q.1 ≠ r.1 := by
      have := h.nd
      simp only [List.map_cons, List.map_nil, List.nodup_cons, List.mem_singleton] at this
      exact this.1
    have nd2 : ([spQ q, spQ r].map keyD).Nodup := by
      simp only [List.map_cons, List.map_nil, o6, p6, List.nodup_cons, List.mem_singleton, List.not_mem_nil, not_false_eq_true, List.nodup_nil, and_true]
      exact nd
    have sb : sortBy keyD [spQ q, spQ r] = if SrtO.lexB r.1 q.1 then [spQ r, spQ q] else [spQ q, spQ r] := by
      show (if SrtO.lexB (keyD (spQ r)) (keyD (spQ q)) then _ else _) = _
      rw [o6, p6]
      rfl
    have key : ∀ u v : (Int × Int) × D, SrtO.lexB u.1 v.1 = true → key1 (spQ u) = [u.1.1, u.1.2] → key1 (spQ v) = [v.1.1, v.1.2] → rising [spQ u, spQ v] = true := fun u v hl k1 k2 => by
      have e : rising [spQ u, spQ v] = (!geI (key1 (spQ u)) (key1 (spQ v)) && true) := rfl
      rw [e, k1, k2, geI_lex, hl]
      rfl
    simp only [List.map_cons, List.map_nil, i0, List.all_cons, List.all_nil, o5, p5, Bool.and_true, Bool.true_and]
    have nd3 : decide ([keyD (spQ q), keyD (spQ r)].Nodup) = true := decide_eq_true nd2
    rw [nd3, if_pos rfl, sb]
    by_cases c : SrtO.lexB r.1 q.1 = true
    · rw [if_pos c]
      refine ⟨[spQ r, spQ q], rfl, ?_, ?_, ?_, ?_⟩
      · simp only [isSpecs, List.all_cons, List.all_nil, o1, p1, key r q c p7 o7]
        rfl
      · simp only [fits, o2, p2, Bool.and_self]
      · simp only [tinys, o3, p3, Bool.and_self]
      · simp only [bnds]
        omega
    · have c' : SrtO.lexB q.1 r.1 = true := by
        have h1 := SrtO.lexB_no.mp (Bool.not_eq_true _ ▸ c)
        refine SrtO.lexB_iff.mpr ?_
        by_cases e1 : q.1.1 = r.1.1
        · by_cases e2 : q.1.2 = r.1.2
          · exact absurd (Prod.ext e1 e2) nd
          · omega
        · omega
      rw [if_neg c]
      refine ⟨[spQ q, spQ r], rfl, ?_, ?_, ?_, ?_⟩
      · simp only [isSpecs, List.all_cons, List.all_nil, o1, p1, key q r c' o7 p7]
        rfl
      · simp only [fits, o2, p2, Bool.and_self]
      · simp only [tinys, o3, p3, Bool.and_self]
      · simp only [bnds]
        omega
def raceTail (g__law_order : GF) : FS := (fRet (fTup (fCons (fC (.str "race")) (fCons (fVar 3) (fCons (fVar 4) (fCons (fVar 5) (fCons (fCall 1 g__law_order (fCons (fVar 0) fNil)) (fCons (fVar 7) (fCons (fCB sortedD (fCons (fVar 6) fNil)) fNil)))))))))
theorem race_ok {f k : Nat} (hk : k ≤ 3) (H : RuleDraw TP0 f k) {n : Nat} {x : CO} {L : Sto} (G : Gn n x) (hn : n + (3 * Dn k + 20) ≤ 1000000000) (hL : L.all coFree = true) :
    ∃ y d, g__law_race (f + 1) [.cel 1, .int ((k + 1 : Nat) : Int), .int 3] (CO.tab TP0 q__law_calls :: x :: L) = .ok d (CO.tab TP0 q__law_calls :: y :: L) ∧ Gn (n + (3 * Dn k + 20)) y ∧ Dr (k + 1) d := by
  obtain ⟨y1, r1, e1, G1, a1, a2⟩ := random_ok (TP0 := TP0) G (by omega) hL (bd := 3) (by decide) (by decide)
  obtain ⟨y2, d2, e2, G2, m2⟩ := pick_ok (TP0 := TP0) G1 (by omega) hL (xs := [.int 1, .int 1, .int 1, .int 2, .int 2, .int 3]) (by decide) (by decide) rfl
  obtain ⟨lead, rfl, l1, l2⟩ : ∃ i : Int, d2 = .int i ∧ 1 ≤ i ∧ i ≤ 3 := by
    simp only [List.mem_cons, List.not_mem_nil, or_false] at m2
    rcases m2 with rfl | rfl | rfl | rfl | rfl | rfl <;> exact ⟨_, rfl, by decide, by decide⟩
  obtain ⟨y3, r3, e3, G3, c1, c2⟩ := random_ok (TP0 := TP0) G2 (by omega) hL (bd := 3) (by decide) (by decide)
  -- the cap
  obtain ⟨y4, cap, e4, G4, hcap⟩ : ∃ y4 cap, (∀ t s p q : Option D, fIfS (fB (fOp eqD (fCall 2 g__law_random (fCons (fVar 0) (fCons (fC (.int 3)) fNil))) (fC (.int 0)))) (fAsg (fOp addD (fVar 3) (fCall 2 g__law_random (fCons (fVar 0) (fCons (fC (.int 3)) fNil)))) (fgName 5)) fNext
      [some (.cel 1), some (.int ((k + 1 : Nat) : Int)), some (.int 3), some (.int (1 + r1)), some (.int lead), some .non, none, none, none, none, none, none] (CO.tab TP0 q__law_calls :: y2 :: L) = .ok (.nx, [some (.cel 1), some (.int ((k + 1 : Nat) : Int)), some (.int 3), some (.int (1 + r1)), some (.int lead), some cap, none, none, none, none, none, none]) (CO.tab TP0 q__law_calls :: y4 :: L)) ∧
      Gn (n + 4) y4 ∧ (cap = .non ∨ ∃ c : Int, cap = .int c ∧ 1 + r1 ≤ c ∧ c ≤ 32) := by
    by_cases z : r3 = 0
    · obtain ⟨y4, r4, e4, G4, d1, d2⟩ := random_ok (TP0 := TP0) G3 (by omega) hL (bd := 3) (by decide) (by decide)
      refine ⟨y4, .int (1 + r1 + r4), fun t s p q => ?_, G4.up (by omega), .inr ⟨_, rfl, by omega, by omega⟩⟩
      have z' : decide (r3 = 0) = true := decide_eq_true z
      simp only [fC_ap, fVar_ap, fOp_ap, fB_ap, fAnd_ap, fOr_ap, fNot_ap, fAndV_ap, fOrV_ap, fNotV_ap, fIf_ap, fNil_ap, fCons_ap, fTup_ap, fLst_ap, fLstC_ap, fNoPart_ap, fPart_ap, fSl_ap, fNeg_ap, fCB_ap, fIsi_ap, fIsi2_ap, fNext_ap, fSeq_ap, fRet_ap, fRetF_ap, fgName_ap, fgNil_ap, fgCons_ap, fgTup_ap, fgSub_ap, fAsg_ap, fPar_ap, fPar3_ap, fDrop_ap, fApp_ap, fIfS_ap, fiSeq_ap, fiTup_ap, fiEnum_ap, fYes_ap, fCall_ap, fCall0_ap, fChain_ap, fBits_ap, fAddC_ap, fiAny_ap, Res.bind_ok, asB_ok, okO_some, bodyD, asB, iterOf, withLock_none, noErr_ok, wipeE, List.map_cons, List.map_nil, List.length_cons, List.length_nil, List.cons_append, List.nil_append, List.getElem?_cons_zero, List.getElem?_cons_succ, List.set_cons_zero, List.set_cons_succ, if_true, Bool.false_eq_true, if_false, Nat.reduceAdd, Nat.reduceSub, Nat.zero_add, List.replicate, tyD, atI_0, atI_1, lenD_lst, lenD_tup, ixD_tup, ixD_lst, eqD_int, eqD_str, neD_int, neD_str, leD_int, ltD_int, gtD_int, geD_int, addD_int, subD_int, intD_int, gx0, gx1, gx2, gs0, gs2, hx0, hx1, hx2, hs0, hs2, capN, Nat.zero_le, Nat.reduceLeDiff, Nat.reduceEqDiff, Nat.reduceLT, Bool.not_true, Bool.not_false, Bool.true_and, Bool.false_and, e3, z', e4]
    · refine ⟨y3, .non, fun t s p q => ?_, G3.up (by omega), .inl rfl⟩
      have z' : decide (r3 = 0) = false := decide_eq_false z
      simp only [fC_ap, fVar_ap, fOp_ap, fB_ap, fAnd_ap, fOr_ap, fNot_ap, fAndV_ap, fOrV_ap, fNotV_ap, fIf_ap, fNil_ap, fCons_ap, fTup_ap, fLst_ap, fLstC_ap, fNoPart_ap, fPart_ap, fSl_ap, fNeg_ap, fCB_ap, fIsi_ap, fIsi2_ap, fNext_ap, fSeq_ap, fRet_ap, fRetF_ap, fgName_ap, fgNil_ap, fgCons_ap, fgTup_ap, fgSub_ap, fAsg_ap, fPar_ap, fPar3_ap, fDrop_ap, fApp_ap, fIfS_ap, fiSeq_ap, fiTup_ap, fiEnum_ap, fYes_ap, fCall_ap, fCall0_ap, fChain_ap, fBits_ap, fAddC_ap, fiAny_ap, Res.bind_ok, asB_ok, okO_some, bodyD, asB, iterOf, withLock_none, noErr_ok, wipeE, List.map_cons, List.map_nil, List.length_cons, List.length_nil, List.cons_append, List.nil_append, List.getElem?_cons_zero, List.getElem?_cons_succ, List.set_cons_zero, List.set_cons_succ, if_true, Bool.false_eq_true, if_false, Nat.reduceAdd, Nat.reduceSub, Nat.zero_add, List.replicate, tyD, atI_0, atI_1, lenD_lst, lenD_tup, ixD_tup, ixD_lst, eqD_int, eqD_str, neD_int, neD_str, leD_int, ltD_int, gtD_int, geD_int, addD_int, subD_int, intD_int, gx0, gx1, gx2, gs0, gs2, hx0, hx1, hx2, hs0, hs2, capN, Nat.zero_le, Nat.reduceLeDiff, Nat.reduceEqDiff, Nat.reduceLT, Bool.not_true, Bool.not_false, Bool.true_and, Bool.false_and, e3, z']
  -- the unit
  have hL0 : (L ++ [CO.lst []]).all coFree = true := by
    rw [List.all_append, hL]
    rfl
  obtain ⟨y5, unit, e5, G5, du⟩ := H G4 (by omega) hL0
  obtain ⟨y6, d6, e6, G6, m6⟩ := pick_ok (TP0 := TP0) G5 (by omega) hL0 (xs := [.int 0, .int 0, .int 0, .int 1, .int 2]) (by decide) (by decide) rfl
  obtain ⟨j, rfl, hj⟩ : ∃ j : Nat, d6 = .int j ∧ j ≤ 2 := by
    simp only [List.mem_cons, List.not_mem_nil, or_false] at m6
    rcases m6 with rfl | rfl | rfl | rfl | rfl
    · exact ⟨0, rfl, by decide⟩
    · exact ⟨0, rfl, by decide⟩
    · exact ⟨0, rfl, by decide⟩
    · exact ⟨1, rfl, by decide⟩
    · exact ⟨2, rfl, by decide⟩
  have it : raceIt g__law_pick (rho k (1 + r1) lead cap (L.length + 2) unit none none none none) (CO.tab TP0 q__law_calls :: y5 :: (L ++ [.lst []])) = .ok ⟨rangeD 0 j, none⟩ (CO.tab TP0 q__law_calls :: y6 :: (L ++ [.lst []])) :=
    fiRng1_nat (by simp only [fC_ap, fVar_ap, fOp_ap, fB_ap, fAnd_ap, fOr_ap, fNot_ap, fAndV_ap, fOrV_ap, fNotV_ap, fIf_ap, fNil_ap, fCons_ap, fTup_ap, fLst_ap, fLstC_ap, fNoPart_ap, fPart_ap, fSl_ap, fNeg_ap, fCB_ap, fIsi_ap, fIsi2_ap, fNext_ap, fSeq_ap, fRet_ap, fRetF_ap, fgName_ap, fgNil_ap, fgCons_ap, fgTup_ap, fgSub_ap, fAsg_ap, fPar_ap, fPar3_ap, fDrop_ap, fApp_ap, fIfS_ap, fiSeq_ap, fiTup_ap, fiEnum_ap, fYes_ap, fCall_ap, fCall0_ap, fChain_ap, fBits_ap, fAddC_ap, fiAny_ap, Res.bind_ok, asB_ok, okO_some, bodyD, asB, iterOf, withLock_none, noErr_ok, wipeE, List.map_cons, List.map_nil, List.length_cons, List.length_nil, List.cons_append, List.nil_append, List.getElem?_cons_zero, List.getElem?_cons_succ, List.set_cons_zero, List.set_cons_succ, if_true, Bool.false_eq_true, if_false, Nat.reduceAdd, Nat.reduceSub, Nat.zero_add, List.replicate, tyD, atI_0, atI_1, lenD_lst, lenD_tup, ixD_tup, ixD_lst, eqD_int, eqD_str, neD_int, neD_str, leD_int, ltD_int, gtD_int, geD_int, addD_int, subD_int, intD_int, gx0, gx1, gx2, gs0, gs2, hx0, hx1, hx2, hs0, hs2, capN, Nat.zero_le, Nat.reduceLeDiff, Nat.reduceEqDiff, Nat.reduceLT, Bool.not_true, Bool.not_false, Bool.true_and, Bool.false_and, rho, e6]) (by omega)
  have lr : (rangeD 0 j).length = j := rangeD_len
  obtain ⟨y7, qs, t, s, e7, G7, hq, lq⟩ := race_loop (TP0 := TP0) H (lead := lead) (cap := cap) (unit := unit) (p := none) (q := none) hL (need := 1 + r1) (by omega) (by omega) (rangeD 0 j) (qs := []) (t := none) (s := none) G6 (by
    rw [lr]
    have : j * (Dn k + 2) ≤ 2 * (Dn k + 2) := Nat.mul_le_mul_right _ hj
    omega) ⟨List.nodup_nil, fun q m => by cases m⟩ (by simp only [List.length_nil]; omega)
  rw [lr] at G7
  have G7' : Gn (n + (3 * Dn k + 14)) y7 := G7.up (by
    have : j * (Dn k + 2) ≤ 2 * (Dn k + 2) := Nat.mul_le_mul_right _ hj
    have : 0 < Dn k := by
      cases k with
      | zero => decide
      | succ k => simp only [Dn]; omega
    omega)
  have lp := fFor_st (g := fgName 8) (f := raceBody g__law_random (g__law_rule f)) it e7
  have hL7 : (L ++ [CO.lst (qs.map spQ)]).all coFree = true := by
    rw [List.all_append, hL]
    simp [coFree, hq.free]
  obtain ⟨y8, od, e8, G8, ho⟩ := order_ok (TP0 := TP0) G7' (by omega) hL7
  obtain ⟨xs, e9, s1, s2, s3, s4⟩ := specs_of (by omega) (show 1 + r1 ≤ 30 by omega) hq (by simp only [List.length_nil] at lq; omega) (S := CO.tab TP0 q__law_calls :: y8 :: (L ++ [.lst (qs.map spQ)])) (j := L.length + 2) snoc_at
  have nm : isNums (.int (1 + r1)) (.int lead) cap = true := by
    rcases hcap with rfl | ⟨c, rfl, g1, g2⟩
    · simp only [isNums, isBtw, Bool.and_true, Bool.and_eq_true, decide_eq_true_eq]
      omega
    · simp only [isNums, isBtw, Bool.and_eq_true, decide_eq_true_eq]
      omega
  have fc : fit cap (3 * k + 4) = true ∧ tiny cap = true ∧ bnd cap = 8 := by
    rcases hcap with rfl | ⟨c, rfl, g1, g2⟩
    · exact ⟨rfl, rfl, rfl⟩
    · refine ⟨by simp [fit], ?_, rfl⟩
      simp only [tiny, Bool.and_eq_true, decide_eq_true_eq]
      omega
  have dr : Dr (k + 1) (.tup [.str "race", .int (1 + r1), .int lead, cap, od, unit, .lst xs]) := by
    refine ⟨?_, ?_, ?_, ?_⟩
    · have q : isRace (isRuleN k) (.tup [.str "race", .int (1 + r1), .int lead, cap, od, unit, .lst xs]) = true := by
        show (decide (("race" : Str) = "race") && isNums _ _ _ && isOrder od && (isRuleN k unit && isSpecs (isRuleN k) (.lst xs))) = true
        rw [nm, ho.ord, du.rule, s1]
        decide
      simp only [isRuleN, q, Bool.or_true]
    · have f1 : fit (.str "race") (3 * k + 4) = true := by
        simp only [fit]
        decide +kernel
      have f2 : ∀ i : Int, fit (.int i) (3 * k + 4) = true := fun i => by simp [fit]
      have f3 : fit (.lst xs) (3 * k + 4) = true := s2
      show fits [.str "race", .int (1 + r1), .int lead, cap, od, unit, .lst xs] (3 * k + 4) = true
      simp only [fits, f1, f2, f3, fc.1, fit_up (show 2 ≤ 3 * k + 4 by omega) ho.fit_, fit_up (show 3 * k + 2 ≤ 3 * k + 4 by omega) du.fit_, Bool.and_self]
    · have t1 : tiny (.str "race") = true := by decide +kernel
      have t2 : tiny (.int (1 + r1)) = true := by
        simp only [tiny, Bool.and_eq_true, decide_eq_true_eq]
        omega
      have t3 : tiny (.int lead) = true := by
        simp only [tiny, Bool.and_eq_true, decide_eq_true_eq]
        omega
      have t4 : tiny (.lst xs) = true := s3
      show tinys [.str "race", .int (1 + r1), .int lead, cap, od, unit, .lst xs] = true
      simp only [tinys, t1, t2, t3, t4, fc.2.1, ho.tiny_, du.tiny_, Bool.and_self]
    · have o := ho.bnd_
      have u := du.bnd_
      have p : 0 < 4 ^ k := Nat.pow_pos (by decide)
      have e : bnd (.tup [.str "race", .int (1 + r1), .int lead, cap, od, unit, .lst xs]) = (8 + 2 + (8 + 2 + (8 + 2 + (bnd cap + 2 + (bnd od + 2 + (bnd unit + 2 + (bnds xs + 4 + 2 + 0))))))) + 4 := rfl
      rw [e, fc.2.2, Nat.pow_succ]
      omega
  refine ⟨y8, .tup [.str "race", .int (1 + r1), .int lead, cap, od, unit, .lst xs], ?_, G8.up (by omega), dr⟩
  refine bodyT_to (L := [.lst (qs.map spQ)]) (T := CO.tab TP0 q__law_calls :: y8 :: L) ?_ rfl (all2 G8 hL) (fit_nc dr.fit_)
  have b1 : (fPar3 3 4 5 (fCons (fOp addD (fC (.int 1)) (fCall 2 g__law_random (fCons (fVar 0) (fCons (fVar 2) fNil)))) (fCons (fCall 2 g__law_pick (fCons (fVar 0) (fCons (fLst (fCons (fC (.int 1)) (fCons (fC (.int 1)) (fCons (fC (.int 1)) (fCons (fC (.int 2)) (fCons (fC (.int 2)) (fCons (fC (.int 3)) fNil))))))) fNil))) (fCons (fC .non) fNil)))) [some (.cel 1), some (.int ((k + 1 : Nat) : Int)), some (.int 3), none, none, none, none, none, none, none, none, none] (CO.tab TP0 q__law_calls :: x :: L) =
      .ok (.nx, [some (.cel 1), some (.int ((k + 1 : Nat) : Int)), some (.int 3), some (.int (1 + r1)), some (.int lead), some .non, none, none, none, none, none, none]) (CO.tab TP0 q__law_calls :: y2 :: L) := by
    simp only [fC_ap, fVar_ap, fOp_ap, fB_ap, fAnd_ap, fOr_ap, fNot_ap, fAndV_ap, fOrV_ap, fNotV_ap, fIf_ap, fNil_ap, fCons_ap, fTup_ap, fLst_ap, fLstC_ap, fNoPart_ap, fPart_ap, fSl_ap, fNeg_ap, fCB_ap, fIsi_ap, fIsi2_ap, fNext_ap, fSeq_ap, fRet_ap, fRetF_ap, fgName_ap, fgNil_ap, fgCons_ap, fgTup_ap, fgSub_ap, fAsg_ap, fPar_ap, fPar3_ap, fDrop_ap, fApp_ap, fIfS_ap, fiSeq_ap, fiTup_ap, fiEnum_ap, fYes_ap, fCall_ap, fCall0_ap, fChain_ap, fBits_ap, fAddC_ap, fiAny_ap, Res.bind_ok, asB_ok, okO_some, bodyD, asB, iterOf, withLock_none, noErr_ok, wipeE, List.map_cons, List.map_nil, List.length_cons, List.length_nil, List.cons_append, List.nil_append, List.getElem?_cons_zero, List.getElem?_cons_succ, List.set_cons_zero, List.set_cons_succ, if_true, Bool.false_eq_true, if_false, Nat.reduceAdd, Nat.reduceSub, Nat.zero_add, List.replicate, tyD, atI_0, atI_1, lenD_lst, lenD_tup, ixD_tup, ixD_lst, eqD_int, eqD_str, neD_int, neD_str, leD_int, ltD_int, gtD_int, geD_int, addD_int, subD_int, intD_int, gx0, gx1, gx2, gs0, gs2, hx0, hx1, hx2, hs0, hs2, capN, Nat.zero_le, Nat.reduceLeDiff, Nat.reduceEqDiff, Nat.reduceLT, Bool.not_true, Bool.not_false, Bool.true_and, Bool.false_and, e1, e2]
  have ek : (((k + 1 : Nat) : Int)) - 1 = (k : Nat) := by omega
  have b3 : (fPar 6 7 (fCons (fLstC fNil) (fCons (fCall 3 (g__law_rule f) (fCons (fVar 0) (fCons (fOp subD (fVar 1) (fC (.int 1))) (fCons (fVar 2) fNil)))) fNil))) [some (.cel 1), some (.int ((k + 1 : Nat) : Int)), some (.int 3), some (.int (1 + r1)), some (.int lead), some cap, none, none, none, none, none, none] (CO.tab TP0 q__law_calls :: y4 :: L) =
      .ok (.nx, rho k (1 + r1) lead cap (L.length + 2) unit none none none none) (CO.tab TP0 q__law_calls :: y5 :: (L ++ [.lst []])) := by
    simp only [fC_ap, fVar_ap, fOp_ap, fB_ap, fAnd_ap, fOr_ap, fNot_ap, fAndV_ap, fOrV_ap, fNotV_ap, fIf_ap, fNil_ap, fCons_ap, fTup_ap, fLst_ap, fLstC_ap, fNoPart_ap, fPart_ap, fSl_ap, fNeg_ap, fCB_ap, fIsi_ap, fIsi2_ap, fNext_ap, fSeq_ap, fRet_ap, fRetF_ap, fgName_ap, fgNil_ap, fgCons_ap, fgTup_ap, fgSub_ap, fAsg_ap, fPar_ap, fPar3_ap, fDrop_ap, fApp_ap, fIfS_ap, fiSeq_ap, fiTup_ap, fiEnum_ap, fYes_ap, fCall_ap, fCall0_ap, fChain_ap, fBits_ap, fAddC_ap, fiAny_ap, Res.bind_ok, asB_ok, okO_some, bodyD, asB, iterOf, withLock_none, noErr_ok, wipeE, List.map_cons, List.map_nil, List.length_cons, List.length_nil, List.cons_append, List.nil_append, List.getElem?_cons_zero, List.getElem?_cons_succ, List.set_cons_zero, List.set_cons_succ, if_true, Bool.false_eq_true, if_false, Nat.reduceAdd, Nat.reduceSub, Nat.zero_add, List.replicate, tyD, atI_0, atI_1, lenD_lst, lenD_tup, ixD_tup, ixD_lst, eqD_int, eqD_str, neD_int, neD_str, leD_int, ltD_int, gtD_int, geD_int, addD_int, subD_int, intD_int, gx0, gx1, gx2, gs0, gs2, hx0, hx1, hx2, hs0, hs2, capN, Nat.zero_le, Nat.reduceLeDiff, Nat.reduceEqDiff, Nat.reduceLT, Bool.not_true, Bool.not_false, Bool.true_and, Bool.false_and, rho, ek, e5]
  have b5 : raceTail g__law_order (rho k (1 + r1) lead cap (L.length + 2) unit t s none none) (CO.tab TP0 q__law_calls :: y7 :: (L ++ [.lst (qs.map spQ)])) =
      .ok (.rt (.tup [.str "race", .int (1 + r1), .int lead, cap, od, unit, .lst xs]), rho k (1 + r1) lead cap (L.length + 2) unit t s none none) (CO.tab TP0 q__law_calls :: y8 :: (L ++ [.lst (qs.map spQ)])) := by
    simp only [raceTail, fC_ap, fVar_ap, fOp_ap, fB_ap, fAnd_ap, fOr_ap, fNot_ap, fAndV_ap, fOrV_ap, fNotV_ap, fIf_ap, fNil_ap, fCons_ap, fTup_ap, fLst_ap, fLstC_ap, fNoPart_ap, fPart_ap, fSl_ap, fNeg_ap, fCB_ap, fIsi_ap, fIsi2_ap, fNext_ap, fSeq_ap, fRet_ap, fRetF_ap, fgName_ap, fgNil_ap, fgCons_ap, fgTup_ap, fgSub_ap, fAsg_ap, fPar_ap, fPar3_ap, fDrop_ap, fApp_ap, fIfS_ap, fiSeq_ap, fiTup_ap, fiEnum_ap, fYes_ap, fCall_ap, fCall0_ap, fChain_ap, fBits_ap, fAddC_ap, fiAny_ap, Res.bind_ok, asB_ok, okO_some, bodyD, asB, iterOf, withLock_none, noErr_ok, wipeE, List.map_cons, List.map_nil, List.length_cons, List.length_nil, List.cons_append, List.nil_append, List.getElem?_cons_zero, List.getElem?_cons_succ, List.set_cons_zero, List.set_cons_succ, if_true, Bool.false_eq_true, if_false, Nat.reduceAdd, Nat.reduceSub, Nat.zero_add, List.replicate, tyD, atI_0, atI_1, lenD_lst, lenD_tup, ixD_tup, ixD_lst, eqD_int, eqD_str, neD_int, neD_str, leD_int, ltD_int, gtD_int, geD_int, addD_int, subD_int, intD_int, gx0, gx1, gx2, gs0, gs2, hx0, hx1, hx2, hs0, hs2, capN, Nat.zero_le, Nat.reduceLeDiff, Nat.reduceEqDiff, Nat.reduceLT, Bool.not_true, Bool.not_false, Bool.true_and, Bool.false_and, rho, e8, e9]
  refine bodyD_rt (ρ1 := rho k (1 + r1) lead cap (L.length + 2) unit t s none none) ?_
  show fSeq (fPar3 3 4 5 (fCons (fOp addD (fC (.int 1)) (fCall 2 g__law_random (fCons (fVar 0) (fCons (fVar 2) fNil)))) (fCons (fCall 2 g__law_pick (fCons (fVar 0) (fCons (fLst (fCons (fC (.int 1)) (fCons (fC (.int 1)) (fCons (fC (.int 1)) (fCons (fC (.int 2)) (fCons (fC (.int 2)) (fCons (fC (.int 3)) fNil))))))) fNil))) (fCons (fC .non) fNil)))) (fSeq _ (fSeq (fPar 6 7 (fCons (fLstC fNil) (fCons (fCall 3 (g__law_rule f) (fCons (fVar 0) (fCons (fOp subD (fVar 1) (fC (.int 1))) (fCons (fVar 2) fNil)))) fNil))) (fSeq (fFor (raceIt g__law_pick) (fgName 8) (raceBody g__law_random (g__law_rule f))) (raceTail g__law_order)))) [some (.cel 1), some (.int ((k + 1 : Nat) : Int)), some (.int 3), none, none, none, none, none, none, none, none, none] (CO.tab TP0 q__law_calls :: x :: L) = _
  rw [fSeq_nx b1, fSeq_nx (e4 none none none none), fSeq_nx b3, fSeq_nx lp, b5]
  rfl
theorem rule_draw : ∀ (k : Nat), k ≤ 4 → ∀ f, 2 * k + 1 ≤ f → RuleDraw TP0 f k
  | k, hk, 0, hf => by omega
  | k, hk, f + 1, hf => by
    rename_i n x L
    intro G hn hL
    have w0 : ∀ s : Str, s = "rally" ∨ s = "hand" → Dr 0 (.tup [.str s]) := fun s h => by
      rcases h with rfl | rfl <;> exact ⟨by decide +kernel, by decide +kernel, by decide +kernel, by decide⟩
    have pk : ∀ {n : Nat} {x : CO}, Gn n x → n ≤ 1000000000 → ∃ y s, g__law_pick [.cel 1, .lst [.tup [.str "rally"], .tup [.str "rally"], .tup [.str "rally"], .tup [.str "hand"]]] (CO.tab TP0 q__law_calls :: x :: L) = .ok (.tup [.str s]) (CO.tab TP0 q__law_calls :: y :: L) ∧ Gn (n + 1) y ∧ (s = "rally" ∨ s = "hand") := fun {n x} G hn => by
      obtain ⟨y, d, e, G2, m⟩ := pick_ok (TP0 := TP0) G hn hL (xs := [.tup [.str "rally"], .tup [.str "rally"], .tup [.str "rally"], .tup [.str "hand"]]) (by decide) (by decide) rfl
      simp only [List.mem_cons, List.not_mem_nil, or_false] at m
      rcases m with rfl | rfl | rfl | rfl
      · exact ⟨y, _, e, G2, .inl rfl⟩
      · exact ⟨y, _, e, G2, .inl rfl⟩
      · exact ⟨y, _, e, G2, .inl rfl⟩
      · exact ⟨y, _, e, G2, .inr rfl⟩
    cases k with
    | zero =>
      obtain ⟨y, s, e, G2, hs⟩ := pk G (by omega)
      refine ⟨y, .tup [.str s], ?_, G2.up (by simp only [Dn]; omega), w0 s hs⟩
      refine bodyT_to (L := []) (T := CO.tab TP0 q__law_calls :: y :: L) ?_ rfl (all2 G2 hL) rfl
      have z : decide (((0 : Nat) : Int) = 0) = true := by decide
      simp only [fC_ap, fVar_ap, fOp_ap, fB_ap, fAnd_ap, fOr_ap, fNot_ap, fAndV_ap, fOrV_ap, fNotV_ap, fIf_ap, fNil_ap, fCons_ap, fTup_ap, fLst_ap, fLstC_ap, fNoPart_ap, fPart_ap, fSl_ap, fNeg_ap, fCB_ap, fIsi_ap, fIsi2_ap, fNext_ap, fSeq_ap, fRet_ap, fRetF_ap, fgName_ap, fgNil_ap, fgCons_ap, fgTup_ap, fgSub_ap, fAsg_ap, fPar_ap, fPar3_ap, fDrop_ap, fApp_ap, fIfS_ap, fiSeq_ap, fiTup_ap, fiEnum_ap, fYes_ap, fCall_ap, fCall0_ap, fChain_ap, fBits_ap, fAddC_ap, fiAny_ap, Res.bind_ok, asB_ok, okO_some, bodyD, asB, iterOf, withLock_none, noErr_ok, wipeE, List.map_cons, List.map_nil, List.length_cons, List.length_nil, List.cons_append, List.nil_append, List.getElem?_cons_zero, List.getElem?_cons_succ, List.set_cons_zero, List.set_cons_succ, if_true, Bool.false_eq_true, if_false, Nat.reduceAdd, Nat.reduceSub, Nat.zero_add, List.replicate, tyD, atI_0, atI_1, lenD_lst, lenD_tup, ixD_tup, ixD_lst, eqD_int, eqD_str, neD_int, neD_str, leD_int, ltD_int, gtD_int, geD_int, addD_int, subD_int, intD_int, gx0, gx1, gx2, gs0, gs2, hx0, hx1, hx2, hs0, hs2, capN, Nat.zero_le, Nat.reduceLeDiff, Nat.reduceEqDiff, Nat.reduceLT, Bool.not_true, Bool.not_false, Bool.true_and, Bool.false_and, b__law_rule, z, e, List.append_nil]
    | succ k =>
      simp only [Dn] at hn ⊢
      have z : decide (((k + 1 : Nat) : Int) = 0) = false := decide_eq_false (by omega)
      obtain ⟨y1, v, e1, G1, v1, v2⟩ := random_ok (TP0 := TP0) G (by omega) hL (bd := 9) (by decide) (by decide)
      by_cases c : v = 0
      · have c' : decide (v = 0) = true := decide_eq_true c
        obtain ⟨y, s, e, G2, hs⟩ := pk G1 (by omega)
        refine ⟨y, .tup [.str s], ?_, G2.up (by omega), (w0 s hs).zero_le⟩
        refine bodyT_to (L := []) (T := CO.tab TP0 q__law_calls :: y :: L) ?_ rfl (all2 G2 hL) rfl
        simp only [fC_ap, fVar_ap, fOp_ap, fB_ap, fAnd_ap, fOr_ap, fNot_ap, fAndV_ap, fOrV_ap, fNotV_ap, fIf_ap, fNil_ap, fCons_ap, fTup_ap, fLst_ap, fLstC_ap, fNoPart_ap, fPart_ap, fSl_ap, fNeg_ap, fCB_ap, fIsi_ap, fIsi2_ap, fNext_ap, fSeq_ap, fRet_ap, fRetF_ap, fgName_ap, fgNil_ap, fgCons_ap, fgTup_ap, fgSub_ap, fAsg_ap, fPar_ap, fPar3_ap, fDrop_ap, fApp_ap, fIfS_ap, fiSeq_ap, fiTup_ap, fiEnum_ap, fYes_ap, fCall_ap, fCall0_ap, fChain_ap, fBits_ap, fAddC_ap, fiAny_ap, Res.bind_ok, asB_ok, okO_some, bodyD, asB, iterOf, withLock_none, noErr_ok, wipeE, List.map_cons, List.map_nil, List.length_cons, List.length_nil, List.cons_append, List.nil_append, List.getElem?_cons_zero, List.getElem?_cons_succ, List.set_cons_zero, List.set_cons_succ, if_true, Bool.false_eq_true, if_false, Nat.reduceAdd, Nat.reduceSub, Nat.zero_add, List.replicate, tyD, atI_0, atI_1, lenD_lst, lenD_tup, ixD_tup, ixD_lst, eqD_int, eqD_str, neD_int, neD_str, leD_int, ltD_int, gtD_int, geD_int, addD_int, subD_int, intD_int, gx0, gx1, gx2, gs0, gs2, hx0, hx1, hx2, hs0, hs2, capN, Nat.zero_le, Nat.reduceLeDiff, Nat.reduceEqDiff, Nat.reduceLT, Bool.not_true, Bool.not_false, Bool.true_and, Bool.false_and, b__law_rule, z, e1, c', e, List.append_nil]
      · have c' : decide (v = 0) = false := decide_eq_false c
        obtain ⟨f, rfl⟩ : ∃ f', f = f' + 1 := ⟨f - 1, by omega⟩
        obtain ⟨y, d, e, G2, dr⟩ := race_ok (TP0 := TP0) (by omega) (rule_draw k (by omega) f (by omega)) G1 (by omega) hL
        refine ⟨y, d, ?_, G2.up (by omega), dr⟩
        refine bodyT_to (L := []) (T := CO.tab TP0 q__law_calls :: y :: L) ?_ rfl (all2 G2 hL) (fit_nc dr.fit_)
        simp only [fC_ap, fVar_ap, fOp_ap, fB_ap, fAnd_ap, fOr_ap, fNot_ap, fAndV_ap, fOrV_ap, fNotV_ap, fIf_ap, fNil_ap, fCons_ap, fTup_ap, fLst_ap, fLstC_ap, fNoPart_ap, fPart_ap, fSl_ap, fNeg_ap, fCB_ap, fIsi_ap, fIsi2_ap, fNext_ap, fSeq_ap, fRet_ap, fRetF_ap, fgName_ap, fgNil_ap, fgCons_ap, fgTup_ap, fgSub_ap, fAsg_ap, fPar_ap, fPar3_ap, fDrop_ap, fApp_ap, fIfS_ap, fiSeq_ap, fiTup_ap, fiEnum_ap, fYes_ap, fCall_ap, fCall0_ap, fChain_ap, fBits_ap, fAddC_ap, fiAny_ap, Res.bind_ok, asB_ok, okO_some, bodyD, asB, iterOf, withLock_none, noErr_ok, wipeE, List.map_cons, List.map_nil, List.length_cons, List.length_nil, List.cons_append, List.nil_append, List.getElem?_cons_zero, List.getElem?_cons_succ, List.set_cons_zero, List.set_cons_succ, if_true, Bool.false_eq_true, if_false, Nat.reduceAdd, Nat.reduceSub, Nat.zero_add, List.replicate, tyD, atI_0, atI_1, lenD_lst, lenD_tup, ixD_tup, ixD_lst, eqD_int, eqD_str, neD_int, neD_str, leD_int, ltD_int, gtD_int, geD_int, addD_int, subD_int, intD_int, gx0, gx1, gx2, gs0, gs2, hx0, hx1, hx2, hs0, hs2, capN, Nat.zero_le, Nat.reduceLeDiff, Nat.reduceEqDiff, Nat.reduceLT, Bool.not_true, Bool.not_false, Bool.true_and, Bool.false_and, b__law_rule, z, e1, c', e, List.append_nil]
end K08

set_option maxHeartbeats 4000000
namespace K08
open PySem PySem.Spec PyProof.Rows L2 DL
theorem int_small : ∀ n : Fin 64, ((toString ((n.val : Nat) : Int) : String) : Str).length ≤ 8 ∧ ((n.val : Nat) : Int).natAbs.log2 < 1920 := by decide +kernel
theorem int_len {i : Int} (h0 : 0 ≤ i) (h : i < 64) : ((toString i : String) : Str).length ≤ 8 ∧ i.natAbs.log2 < 1920 := by
  have q := int_small ⟨i.toNat, by omega⟩
  rw [show ((i.toNat : Nat) : Int) = i by omega] at q
  exact q
theorem word_len : ∀ x ∈ wordsR, (PyData.shown (.str x)).length ≤ 8 := by
  intro x h
  simp only [wordsR, List.mem_cons, List.not_mem_nil, or_false] at h
  rcases h with rfl | rfl | rfl | rfl | rfl | rfl | rfl | rfl <;> decide +kernel
theorem from_len : ∀ (ts : List Str) (m : Nat) (acc : Str), (textFrom m acc ts).length ≤ acc.length + piled ts
  | [], m, acc => by
    show acc.length ≤ _
    omega
  | t :: ts, m, acc => by
    have ih := from_len ts (m + 1) (acc ++ (if m > 0 then ", " else "" : String) ++ t)
    have e : ((if m > 0 then ", " else "" : String) : Str).length ≤ 2 := by
      by_cases c : m > 0
      · rw [if_pos c]
        decide +kernel
      · rw [if_neg c]
        decide +kernel
    rw [strLen_append, strLen_append] at ih
    show (textFrom (m + 1) _ ts).length ≤ _
    rw [piled_cons]
    omega
theorem list_len (ts : List Str) : (listText ts).length ≤ piled ts + 4 := by
  have h := from_len ts 0 "["
  unfold listText
  rw [strLen_append]
  have e1 : ("[" : Str).length = 1 := by decide +kernel
  have e2 : ("]" : Str).length = 1 := by decide +kernel
  omega
theorem tuple_len (ts : List Str) : (tupleText ts).length ≤ piled ts + 4 := by
  unfold tupleText
  rw [strLen_append, strLen_append]
  have e1 : ("(" : Str).length = 1 := by decide +kernel
  have e2 : ((if ts.length == 1 then ",)" else ")" : String) : Str).length ≤ 2 := by
    by_cases c : (ts.length == 1) = true
    · rw [if_pos c]
      decide +kernel
    · rw [if_neg c]
      decide +kernel
  by_cases h : ts = []
  · subst h
    have e3 : (Str.join ", " []).length = 0 := by decide +kernel
    omega
  · have := join_length_add ts h
    omega
mutual
theorem shown_len {S : Sto} : ∀ {d : D} {p : PyData}, tiny d = true → toP S d = some p → p.shown.length ≤ bnd d ∧ p.showable = true
  | .non, p, _, h => by
    cases h
    exact ⟨by decide +kernel, rfl⟩
  | .bl b, p, _, h => by
    cases h
    cases b <;> exact ⟨by decide +kernel, rfl⟩
  | .int i, p, t, h => by
    cases h
    simp only [tiny, Bool.and_eq_true, decide_eq_true_eq] at t
    have q := int_len t.1 t.2
    exact ⟨by simpa only [PyData.shown, bnd] using q.1, by simpa only [PyData.showable, decide_eq_true_eq] using q.2⟩
  | .str x, p, t, h => by
    cases h
    simp only [tiny, List.contains_iff_mem] at t
    exact ⟨word_len x t, rfl⟩
  | .lst xs, p, t, h => by
    simp only [toP] at h
    cases e : toPs S xs with
    | none => rw [e] at h; cases h
    | some ps =>
      rw [e] at h
      cases h
      obtain ⟨a, b⟩ := shown_lens (by simpa only [tiny] using t) e
      refine ⟨?_, by simpa only [PyData.showable] using b⟩
      have q := list_len (PyData.shownAll ps)
      simp only [PyData.shown, bnd]
      omega
  | .tup xs, p, t, h => by
    simp only [toP] at h
    cases e : toPs S xs with
    | none => rw [e] at h; cases h
    | some ps =>
      rw [e] at h
      cases h
      obtain ⟨a, b⟩ := shown_lens (by simpa only [tiny] using t) e
      refine ⟨?_, by simpa only [PyData.showable] using b⟩
      have q := tuple_len (PyData.shownAll ps)
      simp only [PyData.shown, bnd]
      omega
  | .kls _, _, t, _ => by simp [tiny] at t
  | .dct _, _, t, _ => by simp [tiny] at t
  | .cel _, _, t, _ => by simp [tiny] at t
  | .fn _, _, t, _ => by simp [tiny] at t
theorem shown_lens {S : Sto} : ∀ {ds : List D} {ps : List PyData}, tinys ds = true → toPs S ds = some ps → piled (PyData.shownAll ps) ≤ bnds ds ∧ PyData.showableAll ps = true
  | [], ps, _, h => by
    cases h
    exact ⟨Nat.le_refl _, rfl⟩
  | d :: ds, ps, t, h => by
    simp only [tinys, Bool.and_eq_true] at t
    simp only [toPs] at h
    split at h
    · rename_i p qs e1 e2
      cases h
      obtain ⟨a1, b1⟩ := shown_len t.1 e1
      obtain ⟨a2, b2⟩ := shown_lens t.2 e2
      refine ⟨?_, by simp only [PyData.showableAll, b1, b2, Bool.and_self]⟩
      simp only [PyData.shownAll, piled_cons, bnds]
      omega
    · cases h
end
/-- repr([rule, drawn]) is a text -/
theorem repr_ok {S : Sto} {k j : Nat} {r d : D} (hk : k ≤ 4) (hj : j ≤ 4) (hr : Dr k r) (hd : Dr j d) : ∃ t : Str, reprD [.lst [r, d]] S = some (.str t) := by
  have f : fit (.lst [r, d]) 15 = true := by
    show fits [r, d] 14 = true
    simp only [fits, fit_up (show 3 * k + 2 ≤ 14 by omega) hr.fit_, fit_up (show 3 * j + 2 ≤ 14 by omega) hd.fit_, Bool.and_self]
  obtain ⟨p, hp, c1, c2⟩ := fit_to (S := S) f
  have t : tiny (.lst [r, d]) = true := by
    show tinys [r, d] = true
    simp only [tinys, hr.tiny_, hd.tiny_, Bool.and_self]
  obtain ⟨l, sh⟩ := shown_len t hp
  have pw : ∀ m : Nat, m ≤ 4 → 4 ^ m ≤ 256 := fun m hm => Nat.pow_le_pow_right (by decide) hm
  have b : bnd (.lst [r, d]) ≤ 200000 := by
    have b1 := hr.bnd_
    have b2 := hd.bnd_
    have p1 := pw k hk
    have p2 := pw j hj
    simp only [bnd, bnds]
    omega
  refine ⟨p.shown, ?_⟩
  have d1 : decide (p.depth ≤ 64) = true := decide_eq_true (by omega)
  have d2 : decide (p.shown.length ≤ capN) = true := decide_eq_true (Nat.le_of_lt (capN_of (by omega)))
  show (match toP S (.lst [r, d]) with
    | some p => if p.showable && decide (p.depth ≤ 64) && decide (p.shown.length ≤ capN) then some (D.str p.shown) else none
    | none => none) = _
  rw [hp]
  show (if (p.showable && decide (p.depth ≤ 64) && decide (p.shown.length ≤ capN)) = true then _ else _) = _
  rw [sh, d1, d2]
  rfl
end K08

set_option maxHeartbeats 4000000
namespace K08
open PySem PySem.Spec PyProof.Rows L2 DL
theorem bind_err {α β : Type} {c : Str} {d : D} {S : Sto} {f : α → Sto → Res β} : Res.bind (.err c d S) f = .err c d S := rfl
theorem fRaise_ap {c : Str} {f : FE} {ρ : DL.Env} {S : Sto} : fRaise c f ρ S = ((f ρ S).bind fun d S1 => .err c d S1) := rfl
theorem bodyT_err {N : List Str} {n : Nat} {f : FS} {ds : List D} {S : Sto} {c : Str} {d : D} (h : bodyD N n f ds S = .err c d S) (hS : S.all coFree = true) (hd : noCel d = true) : bodyT N n f ds S = .err c d S := by
  unfold bodyT tidy
  rw [h]
  simp only [List.take_length, hS, hd, Bool.and_self, if_true]
section
variable {S : Sto} (hS : S.all coFree = true)
include hS
theorem check_ok {d : D} {n : Nat} (h : fit d n = true) (hn : n ≤ 60) : g_check_rule [d] S = if isRuleN 4 d = true then .ok .non S else .err "InvalidRule" d S := by
  have e := is_rule_ok hS h hn
  by_cases c : isRuleN 4 d = true
  · rw [if_pos c]
    rw [c] at e
    refine bodyT_ok ?_ hS rfl
    simp only [fC_ap, fVar_ap, fOp_ap, fB_ap, fAnd_ap, fOr_ap, fNot_ap, fAndV_ap, fOrV_ap, fNotV_ap, fIf_ap, fNil_ap, fCons_ap, fTup_ap, fLst_ap, fLstC_ap, fNoPart_ap, fPart_ap, fSl_ap, fNeg_ap, fCB_ap, fIsi_ap, fIsi2_ap, fNext_ap, fSeq_ap, fRet_ap, fRetF_ap, fgName_ap, fgNil_ap, fgCons_ap, fgTup_ap, fgSub_ap, fAsg_ap, fPar_ap, fPar3_ap, fDrop_ap, fApp_ap, fIfS_ap, fiSeq_ap, fiTup_ap, fiEnum_ap, fYes_ap, fCall_ap, fCall0_ap, fChain_ap, fBits_ap, fAddC_ap, fiAny_ap, Res.bind_ok, asB_ok, okO_some, bodyD, asB, iterOf, withLock_none, noErr_ok, wipeE, List.map_cons, List.map_nil, List.length_cons, List.length_nil, List.cons_append, List.nil_append, List.getElem?_cons_zero, List.getElem?_cons_succ, List.set_cons_zero, List.set_cons_succ, if_true, Bool.false_eq_true, if_false, Nat.reduceAdd, Nat.reduceSub, Nat.zero_add, List.replicate, tyD, atI_0, atI_1, lenD_lst, lenD_tup, ixD_tup, ixD_lst, eqD_int, eqD_str, neD_int, neD_str, leD_int, ltD_int, gtD_int, geD_int, addD_int, subD_int, intD_int, gx0, gx1, gx2, gs0, gs2, hx0, hx1, hx2, hs0, hs2, capN, Nat.zero_le, Nat.reduceLeDiff, Nat.reduceEqDiff, Nat.reduceLT, Bool.not_true, Bool.not_false, Bool.true_and, Bool.false_and, b_check_rule, e]
  · rw [if_neg c]
    have c2 : isRuleN 4 d = false := by simpa using c
    rw [c2] at e
    refine bodyT_err ?_ hS (fit_nc h)
    simp only [fC_ap, fVar_ap, fOp_ap, fB_ap, fAnd_ap, fOr_ap, fNot_ap, fAndV_ap, fOrV_ap, fNotV_ap, fIf_ap, fNil_ap, fCons_ap, fTup_ap, fLst_ap, fLstC_ap, fNoPart_ap, fPart_ap, fSl_ap, fNeg_ap, fCB_ap, fIsi_ap, fIsi2_ap, fNext_ap, fSeq_ap, fRet_ap, fRetF_ap, fgName_ap, fgNil_ap, fgCons_ap, fgTup_ap, fgSub_ap, fAsg_ap, fPar_ap, fPar3_ap, fDrop_ap, fApp_ap, fIfS_ap, fiSeq_ap, fiTup_ap, fiEnum_ap, fYes_ap, fCall_ap, fCall0_ap, fChain_ap, fBits_ap, fAddC_ap, fiAny_ap, Res.bind_ok, asB_ok, okO_some, bodyD, asB, iterOf, withLock_none, noErr_ok, wipeE, List.map_cons, List.map_nil, List.length_cons, List.length_nil, List.cons_append, List.nil_append, List.getElem?_cons_zero, List.getElem?_cons_succ, List.set_cons_zero, List.set_cons_succ, if_true, Bool.false_eq_true, if_false, Nat.reduceAdd, Nat.reduceSub, Nat.zero_add, List.replicate, tyD, atI_0, atI_1, lenD_lst, lenD_tup, ixD_tup, ixD_lst, eqD_int, eqD_str, neD_int, neD_str, leD_int, ltD_int, gtD_int, geD_int, addD_int, subD_int, intD_int, gx0, gx1, gx2, gs0, gs2, hx0, hx1, hx2, hs0, hs2, capN, Nat.zero_le, Nat.reduceLeDiff, Nat.reduceEqDiff, Nat.reduceLT, Bool.not_true, Bool.not_false, Bool.true_and, Bool.false_and, b_check_rule, e, fRaise_ap, bind_err]
theorem side_ok {d : D} {n : Nat} (h : fit d n = true) : g_check_side [d] S = if isBtw 0 1 d = true then .ok .non S else .err "InvalidSide" d S := by
  have e := is_side_ok hS h
  by_cases c : isBtw 0 1 d = true
  · rw [if_pos c]
    rw [c] at e
    refine bodyT_ok ?_ hS rfl
    simp only [fC_ap, fVar_ap, fOp_ap, fB_ap, fAnd_ap, fOr_ap, fNot_ap, fAndV_ap, fOrV_ap, fNotV_ap, fIf_ap, fNil_ap, fCons_ap, fTup_ap, fLst_ap, fLstC_ap, fNoPart_ap, fPart_ap, fSl_ap, fNeg_ap, fCB_ap, fIsi_ap, fIsi2_ap, fNext_ap, fSeq_ap, fRet_ap, fRetF_ap, fgName_ap, fgNil_ap, fgCons_ap, fgTup_ap, fgSub_ap, fAsg_ap, fPar_ap, fPar3_ap, fDrop_ap, fApp_ap, fIfS_ap, fiSeq_ap, fiTup_ap, fiEnum_ap, fYes_ap, fCall_ap, fCall0_ap, fChain_ap, fBits_ap, fAddC_ap, fiAny_ap, Res.bind_ok, asB_ok, okO_some, bodyD, asB, iterOf, withLock_none, noErr_ok, wipeE, List.map_cons, List.map_nil, List.length_cons, List.length_nil, List.cons_append, List.nil_append, List.getElem?_cons_zero, List.getElem?_cons_succ, List.set_cons_zero, List.set_cons_succ, if_true, Bool.false_eq_true, if_false, Nat.reduceAdd, Nat.reduceSub, Nat.zero_add, List.replicate, tyD, atI_0, atI_1, lenD_lst, lenD_tup, ixD_tup, ixD_lst, eqD_int, eqD_str, neD_int, neD_str, leD_int, ltD_int, gtD_int, geD_int, addD_int, subD_int, intD_int, gx0, gx1, gx2, gs0, gs2, hx0, hx1, hx2, hs0, hs2, capN, Nat.zero_le, Nat.reduceLeDiff, Nat.reduceEqDiff, Nat.reduceLT, Bool.not_true, Bool.not_false, Bool.true_and, Bool.false_and, b_check_side, e]
  · rw [if_neg c]
    have c2 : isBtw 0 1 d = false := by simpa using c
    rw [c2] at e
    refine bodyT_err ?_ hS (fit_nc h)
    simp only [fC_ap, fVar_ap, fOp_ap, fB_ap, fAnd_ap, fOr_ap, fNot_ap, fAndV_ap, fOrV_ap, fNotV_ap, fIf_ap, fNil_ap, fCons_ap, fTup_ap, fLst_ap, fLstC_ap, fNoPart_ap, fPart_ap, fSl_ap, fNeg_ap, fCB_ap, fIsi_ap, fIsi2_ap, fNext_ap, fSeq_ap, fRet_ap, fRetF_ap, fgName_ap, fgNil_ap, fgCons_ap, fgTup_ap, fgSub_ap, fAsg_ap, fPar_ap, fPar3_ap, fDrop_ap, fApp_ap, fIfS_ap, fiSeq_ap, fiTup_ap, fiEnum_ap, fYes_ap, fCall_ap, fCall0_ap, fChain_ap, fBits_ap, fAddC_ap, fiAny_ap, Res.bind_ok, asB_ok, okO_some, bodyD, asB, iterOf, withLock_none, noErr_ok, wipeE, List.map_cons, List.map_nil, List.length_cons, List.length_nil, List.cons_append, List.nil_append, List.getElem?_cons_zero, List.getElem?_cons_succ, List.set_cons_zero, List.set_cons_succ, if_true, Bool.false_eq_true, if_false, Nat.reduceAdd, Nat.reduceSub, Nat.zero_add, List.replicate, tyD, atI_0, atI_1, lenD_lst, lenD_tup, ixD_tup, ixD_lst, eqD_int, eqD_str, neD_int, neD_str, leD_int, ltD_int, gtD_int, geD_int, addD_int, subD_int, intD_int, gx0, gx1, gx2, gs0, gs2, hx0, hx1, hx2, hs0, hs2, capN, Nat.zero_le, Nat.reduceLeDiff, Nat.reduceEqDiff, Nat.reduceLT, Bool.not_true, Bool.not_false, Bool.true_and, Bool.false_and, b_check_side, e, fRaise_ap, bind_err]
def areR : D → Bool
  | .lst xs => xs.all (isBtw 0 1)
  | _ => false
theorem are_ok {d : D} {n : Nat} (h : fit d n = true) (hn : n ≤ 60) (hl : ∀ xs, d = .lst xs → xs.length ≤ 1000) : g_are_rallies [d] S = .ok (.bl (areR d)) S := by
  refine bodyT_ok ?_ hS rfl
  have q1 : isiB "list" "list" = true := by decide
  have q2 : isiB "tuple" "list" = false := by decide
  have q3 : isiB "int" "list" = false := by decide
  have q4 : isiB "str" "list" = false := by decide
  have q5 : isiB "bool" "list" = false := by decide
  have q6 : isiB "NoneType" "list" = false := by decide
  cases d with
  | lst xs =>
    have hl := hl xs rfl
    cases n with
    | zero => simp [fit] at h
    | succ n =>
      simp only [fit] at h
      have l1 := fLc_pure (vs := [1]) (fi := fiAny (fVar 0)) (g := fgName 1) (c := fNot (fB (fCall 1 g_is_side (fCons (fVar 1) fNil)))) (el := fVar 1) (ρ := [some (.lst xs), none]) (S := S) (xs := xs)
        (fun m => !isBtw 0 1 m) id (by simp only [fC_ap, fVar_ap, fOp_ap, fB_ap, fAnd_ap, fOr_ap, fNot_ap, fAndV_ap, fOrV_ap, fNotV_ap, fIf_ap, fNil_ap, fCons_ap, fTup_ap, fLst_ap, fLstC_ap, fNoPart_ap, fPart_ap, fSl_ap, fNeg_ap, fCB_ap, fIsi_ap, fIsi2_ap, fNext_ap, fSeq_ap, fRet_ap, fRetF_ap, fgName_ap, fgNil_ap, fgCons_ap, fgTup_ap, fgSub_ap, fAsg_ap, fPar_ap, fPar3_ap, fDrop_ap, fApp_ap, fIfS_ap, fiSeq_ap, fiTup_ap, fiEnum_ap, fYes_ap, fCall_ap, fCall0_ap, fChain_ap, fBits_ap, fAddC_ap, fiAny_ap, Res.bind_ok, asB_ok, okO_some, bodyD, asB, iterOf, withLock_none, noErr_ok, wipeE, List.map_cons, List.map_nil, List.length_cons, List.length_nil, List.cons_append, List.nil_append, List.getElem?_cons_zero, List.getElem?_cons_succ, List.set_cons_zero, List.set_cons_succ, if_true, Bool.false_eq_true, if_false, Nat.reduceAdd, Nat.reduceSub, Nat.zero_add, List.replicate, tyD, atI_0, atI_1, lenD_lst, lenD_tup, ixD_tup, ixD_lst, eqD_int, eqD_str, neD_int, neD_str, leD_int, ltD_int, gtD_int, geD_int, addD_int, subD_int, intD_int, gx0, gx1, gx2, gs0, gs2, hx0, hx1, hx2, hs0, hs2, capN, Nat.zero_le, Nat.reduceLeDiff, Nat.reduceEqDiff, Nat.reduceLT, Bool.not_true, Bool.not_false, Bool.true_and, Bool.false_and]) (capN_of (by omega)) (fun m hm => by
          have e := is_side_ok hS (fits_mem h hm)
          refine ⟨[some (.lst xs), some m], rfl, ?_, fun _ => rfl⟩
          simp only [fC_ap, fVar_ap, fOp_ap, fB_ap, fAnd_ap, fOr_ap, fNot_ap, fAndV_ap, fOrV_ap, fNotV_ap, fIf_ap, fNil_ap, fCons_ap, fTup_ap, fLst_ap, fLstC_ap, fNoPart_ap, fPart_ap, fSl_ap, fNeg_ap, fCB_ap, fIsi_ap, fIsi2_ap, fNext_ap, fSeq_ap, fRet_ap, fRetF_ap, fgName_ap, fgNil_ap, fgCons_ap, fgTup_ap, fgSub_ap, fAsg_ap, fPar_ap, fPar3_ap, fDrop_ap, fApp_ap, fIfS_ap, fiSeq_ap, fiTup_ap, fiEnum_ap, fYes_ap, fCall_ap, fCall0_ap, fChain_ap, fBits_ap, fAddC_ap, fiAny_ap, Res.bind_ok, asB_ok, okO_some, bodyD, asB, iterOf, withLock_none, noErr_ok, wipeE, List.map_cons, List.map_nil, List.length_cons, List.length_nil, List.cons_append, List.nil_append, List.getElem?_cons_zero, List.getElem?_cons_succ, List.set_cons_zero, List.set_cons_succ, if_true, Bool.false_eq_true, if_false, Nat.reduceAdd, Nat.reduceSub, Nat.zero_add, List.replicate, tyD, atI_0, atI_1, lenD_lst, lenD_tup, ixD_tup, ixD_lst, eqD_int, eqD_str, neD_int, neD_str, leD_int, ltD_int, gtD_int, geD_int, addD_int, subD_int, intD_int, gx0, gx1, gx2, gs0, gs2, hx0, hx1, hx2, hs0, hs2, capN, Nat.zero_le, Nat.reduceLeDiff, Nat.reduceEqDiff, Nat.reduceLT, Bool.not_true, Bool.not_false, Bool.true_and, Bool.false_and, e])
      rw [List.map_id] at l1
      have l2 := eqD_nil (S := S) (fits_filter (fun m => !isBtw 0 1 m) h) (by omega)
      rw [isEmpty_filter] at l2
      simp only [Bool.not_not] at l2
      simp only [fC_ap, fVar_ap, fOp_ap, fB_ap, fAnd_ap, fOr_ap, fNot_ap, fAndV_ap, fOrV_ap, fNotV_ap, fIf_ap, fNil_ap, fCons_ap, fTup_ap, fLst_ap, fLstC_ap, fNoPart_ap, fPart_ap, fSl_ap, fNeg_ap, fCB_ap, fIsi_ap, fIsi2_ap, fNext_ap, fSeq_ap, fRet_ap, fRetF_ap, fgName_ap, fgNil_ap, fgCons_ap, fgTup_ap, fgSub_ap, fAsg_ap, fPar_ap, fPar3_ap, fDrop_ap, fApp_ap, fIfS_ap, fiSeq_ap, fiTup_ap, fiEnum_ap, fYes_ap, fCall_ap, fCall0_ap, fChain_ap, fBits_ap, fAddC_ap, fiAny_ap, Res.bind_ok, asB_ok, okO_some, bodyD, asB, iterOf, withLock_none, noErr_ok, wipeE, List.map_cons, List.map_nil, List.length_cons, List.length_nil, List.cons_append, List.nil_append, List.getElem?_cons_zero, List.getElem?_cons_succ, List.set_cons_zero, List.set_cons_succ, if_true, Bool.false_eq_true, if_false, Nat.reduceAdd, Nat.reduceSub, Nat.zero_add, List.replicate, tyD, atI_0, atI_1, lenD_lst, lenD_tup, ixD_tup, ixD_lst, eqD_int, eqD_str, neD_int, neD_str, leD_int, ltD_int, gtD_int, geD_int, addD_int, subD_int, intD_int, gx0, gx1, gx2, gs0, gs2, hx0, hx1, hx2, hs0, hs2, capN, Nat.zero_le, Nat.reduceLeDiff, Nat.reduceEqDiff, Nat.reduceLT, Bool.not_true, Bool.not_false, Bool.true_and, Bool.false_and, b_are_rallies, q1, l1, l2]
      rfl
  | tup xs => simp only [fC_ap, fVar_ap, fOp_ap, fB_ap, fAnd_ap, fOr_ap, fNot_ap, fAndV_ap, fOrV_ap, fNotV_ap, fIf_ap, fNil_ap, fCons_ap, fTup_ap, fLst_ap, fLstC_ap, fNoPart_ap, fPart_ap, fSl_ap, fNeg_ap, fCB_ap, fIsi_ap, fIsi2_ap, fNext_ap, fSeq_ap, fRet_ap, fRetF_ap, fgName_ap, fgNil_ap, fgCons_ap, fgTup_ap, fgSub_ap, fAsg_ap, fPar_ap, fPar3_ap, fDrop_ap, fApp_ap, fIfS_ap, fiSeq_ap, fiTup_ap, fiEnum_ap, fYes_ap, fCall_ap, fCall0_ap, fChain_ap, fBits_ap, fAddC_ap, fiAny_ap, Res.bind_ok, asB_ok, okO_some, bodyD, asB, iterOf, withLock_none, noErr_ok, wipeE, List.map_cons, List.map_nil, List.length_cons, List.length_nil, List.cons_append, List.nil_append, List.getElem?_cons_zero, List.getElem?_cons_succ, List.set_cons_zero, List.set_cons_succ, if_true, Bool.false_eq_true, if_false, Nat.reduceAdd, Nat.reduceSub, Nat.zero_add, List.replicate, tyD, atI_0, atI_1, lenD_lst, lenD_tup, ixD_tup, ixD_lst, eqD_int, eqD_str, neD_int, neD_str, leD_int, ltD_int, gtD_int, geD_int, addD_int, subD_int, intD_int, gx0, gx1, gx2, gs0, gs2, hx0, hx1, hx2, hs0, hs2, capN, Nat.zero_le, Nat.reduceLeDiff, Nat.reduceEqDiff, Nat.reduceLT, Bool.not_true, Bool.not_false, Bool.true_and, Bool.false_and, b_are_rallies, q2]; rfl
  | int i => simp only [fC_ap, fVar_ap, fOp_ap, fB_ap, fAnd_ap, fOr_ap, fNot_ap, fAndV_ap, fOrV_ap, fNotV_ap, fIf_ap, fNil_ap, fCons_ap, fTup_ap, fLst_ap, fLstC_ap, fNoPart_ap, fPart_ap, fSl_ap, fNeg_ap, fCB_ap, fIsi_ap, fIsi2_ap, fNext_ap, fSeq_ap, fRet_ap, fRetF_ap, fgName_ap, fgNil_ap, fgCons_ap, fgTup_ap, fgSub_ap, fAsg_ap, fPar_ap, fPar3_ap, fDrop_ap, fApp_ap, fIfS_ap, fiSeq_ap, fiTup_ap, fiEnum_ap, fYes_ap, fCall_ap, fCall0_ap, fChain_ap, fBits_ap, fAddC_ap, fiAny_ap, Res.bind_ok, asB_ok, okO_some, bodyD, asB, iterOf, withLock_none, noErr_ok, wipeE, List.map_cons, List.map_nil, List.length_cons, List.length_nil, List.cons_append, List.nil_append, List.getElem?_cons_zero, List.getElem?_cons_succ, List.set_cons_zero, List.set_cons_succ, if_true, Bool.false_eq_true, if_false, Nat.reduceAdd, Nat.reduceSub, Nat.zero_add, List.replicate, tyD, atI_0, atI_1, lenD_lst, lenD_tup, ixD_tup, ixD_lst, eqD_int, eqD_str, neD_int, neD_str, leD_int, ltD_int, gtD_int, geD_int, addD_int, subD_int, intD_int, gx0, gx1, gx2, gs0, gs2, hx0, hx1, hx2, hs0, hs2, capN, Nat.zero_le, Nat.reduceLeDiff, Nat.reduceEqDiff, Nat.reduceLT, Bool.not_true, Bool.not_false, Bool.true_and, Bool.false_and, b_are_rallies, q3]; rfl
  | str x => simp only [fC_ap, fVar_ap, fOp_ap, fB_ap, fAnd_ap, fOr_ap, fNot_ap, fAndV_ap, fOrV_ap, fNotV_ap, fIf_ap, fNil_ap, fCons_ap, fTup_ap, fLst_ap, fLstC_ap, fNoPart_ap, fPart_ap, fSl_ap, fNeg_ap, fCB_ap, fIsi_ap, fIsi2_ap, fNext_ap, fSeq_ap, fRet_ap, fRetF_ap, fgName_ap, fgNil_ap, fgCons_ap, fgTup_ap, fgSub_ap, fAsg_ap, fPar_ap, fPar3_ap, fDrop_ap, fApp_ap, fIfS_ap, fiSeq_ap, fiTup_ap, fiEnum_ap, fYes_ap, fCall_ap, fCall0_ap, fChain_ap, fBits_ap, fAddC_ap, fiAny_ap, Res.bind_ok, asB_ok, okO_some, bodyD, asB, iterOf, withLock_none, noErr_ok, wipeE, List.map_cons, List.map_nil, List.length_cons, List.length_nil, List.cons_append, List.nil_append, List.getElem?_cons_zero, List.getElem?_cons_succ, List.set_cons_zero, List.set_cons_succ, if_true, Bool.false_eq_true, if_false, Nat.reduceAdd, Nat.reduceSub, Nat.zero_add, List.replicate, tyD, atI_0, atI_1, lenD_lst, lenD_tup, ixD_tup, ixD_lst, eqD_int, eqD_str, neD_int, neD_str, leD_int, ltD_int, gtD_int, geD_int, addD_int, subD_int, intD_int, gx0, gx1, gx2, gs0, gs2, hx0, hx1, hx2, hs0, hs2, capN, Nat.zero_le, Nat.reduceLeDiff, Nat.reduceEqDiff, Nat.reduceLT, Bool.not_true, Bool.not_false, Bool.true_and, Bool.false_and, b_are_rallies, q4]; rfl
  | bl b => simp only [fC_ap, fVar_ap, fOp_ap, fB_ap, fAnd_ap, fOr_ap, fNot_ap, fAndV_ap, fOrV_ap, fNotV_ap, fIf_ap, fNil_ap, fCons_ap, fTup_ap, fLst_ap, fLstC_ap, fNoPart_ap, fPart_ap, fSl_ap, fNeg_ap, fCB_ap, fIsi_ap, fIsi2_ap, fNext_ap, fSeq_ap, fRet_ap, fRetF_ap, fgName_ap, fgNil_ap, fgCons_ap, fgTup_ap, fgSub_ap, fAsg_ap, fPar_ap, fPar3_ap, fDrop_ap, fApp_ap, fIfS_ap, fiSeq_ap, fiTup_ap, fiEnum_ap, fYes_ap, fCall_ap, fCall0_ap, fChain_ap, fBits_ap, fAddC_ap, fiAny_ap, Res.bind_ok, asB_ok, okO_some, bodyD, asB, iterOf, withLock_none, noErr_ok, wipeE, List.map_cons, List.map_nil, List.length_cons, List.length_nil, List.cons_append, List.nil_append, List.getElem?_cons_zero, List.getElem?_cons_succ, List.set_cons_zero, List.set_cons_succ, if_true, Bool.false_eq_true, if_false, Nat.reduceAdd, Nat.reduceSub, Nat.zero_add, List.replicate, tyD, atI_0, atI_1, lenD_lst, lenD_tup, ixD_tup, ixD_lst, eqD_int, eqD_str, neD_int, neD_str, leD_int, ltD_int, gtD_int, geD_int, addD_int, subD_int, intD_int, gx0, gx1, gx2, gs0, gs2, hx0, hx1, hx2, hs0, hs2, capN, Nat.zero_le, Nat.reduceLeDiff, Nat.reduceEqDiff, Nat.reduceLT, Bool.not_true, Bool.not_false, Bool.true_and, Bool.false_and, b_are_rallies, q5]; rfl
  | non => simp only [fC_ap, fVar_ap, fOp_ap, fB_ap, fAnd_ap, fOr_ap, fNot_ap, fAndV_ap, fOrV_ap, fNotV_ap, fIf_ap, fNil_ap, fCons_ap, fTup_ap, fLst_ap, fLstC_ap, fNoPart_ap, fPart_ap, fSl_ap, fNeg_ap, fCB_ap, fIsi_ap, fIsi2_ap, fNext_ap, fSeq_ap, fRet_ap, fRetF_ap, fgName_ap, fgNil_ap, fgCons_ap, fgTup_ap, fgSub_ap, fAsg_ap, fPar_ap, fPar3_ap, fDrop_ap, fApp_ap, fIfS_ap, fiSeq_ap, fiTup_ap, fiEnum_ap, fYes_ap, fCall_ap, fCall0_ap, fChain_ap, fBits_ap, fAddC_ap, fiAny_ap, Res.bind_ok, asB_ok, okO_some, bodyD, asB, iterOf, withLock_none, noErr_ok, wipeE, List.map_cons, List.map_nil, List.length_cons, List.length_nil, List.cons_append, List.nil_append, List.getElem?_cons_zero, List.getElem?_cons_succ, List.set_cons_zero, List.set_cons_succ, if_true, Bool.false_eq_true, if_false, Nat.reduceAdd, Nat.reduceSub, Nat.zero_add, List.replicate, tyD, atI_0, atI_1, lenD_lst, lenD_tup, ixD_tup, ixD_lst, eqD_int, eqD_str, neD_int, neD_str, leD_int, ltD_int, gtD_int, geD_int, addD_int, subD_int, intD_int, gx0, gx1, gx2, gs0, gs2, hx0, hx1, hx2, hs0, hs2, capN, Nat.zero_le, Nat.reduceLeDiff, Nat.reduceEqDiff, Nat.reduceLT, Bool.not_true, Bool.not_false, Bool.true_and, Bool.false_and, b_are_rallies, q6]; rfl
  | _ => exfalso; cases n <;> simp [fit] at h
theorem rallies_err {d : D} {n : Nat} (h : fit d n = true) (hn : n ≤ 60) (hl : ∀ xs, d = .lst xs → xs.length ≤ 1000) (b : areR d = false) : g_check_rallies [d] S = .err "InvalidRallies" d S := by
  have e := are_ok hS h hn hl
  rw [b] at e
  refine bodyT_err ?_ hS (fit_nc h)
  simp only [fC_ap, fVar_ap, fOp_ap, fB_ap, fAnd_ap, fOr_ap, fNot_ap, fAndV_ap, fOrV_ap, fNotV_ap, fIf_ap, fNil_ap, fCons_ap, fTup_ap, fLst_ap, fLstC_ap, fNoPart_ap, fPart_ap, fSl_ap, fNeg_ap, fCB_ap, fIsi_ap, fIsi2_ap, fNext_ap, fSeq_ap, fRet_ap, fRetF_ap, fgName_ap, fgNil_ap, fgCons_ap, fgTup_ap, fgSub_ap, fAsg_ap, fPar_ap, fPar3_ap, fDrop_ap, fApp_ap, fIfS_ap, fiSeq_ap, fiTup_ap, fiEnum_ap, fYes_ap, fCall_ap, fCall0_ap, fChain_ap, fBits_ap, fAddC_ap, fiAny_ap, Res.bind_ok, asB_ok, okO_some, bodyD, asB, iterOf, withLock_none, noErr_ok, wipeE, List.map_cons, List.map_nil, List.length_cons, List.length_nil, List.cons_append, List.nil_append, List.getElem?_cons_zero, List.getElem?_cons_succ, List.set_cons_zero, List.set_cons_succ, if_true, Bool.false_eq_true, if_false, Nat.reduceAdd, Nat.reduceSub, Nat.zero_add, List.replicate, tyD, atI_0, atI_1, lenD_lst, lenD_tup, ixD_tup, ixD_lst, eqD_int, eqD_str, neD_int, neD_str, leD_int, ltD_int, gtD_int, geD_int, addD_int, subD_int, intD_int, gx0, gx1, gx2, gs0, gs2, hx0, hx1, hx2, hs0, hs2, capN, Nat.zero_le, Nat.reduceLeDiff, Nat.reduceEqDiff, Nat.reduceLT, Bool.not_true, Bool.not_false, Bool.true_and, Bool.false_and, b_check_rallies, e, fRaise_ap, bind_err]
theorem match_rule {r d l : D} {n : Nat} (h : fit r n = true) (hn : n ≤ 60) (b : isRuleN 4 r = false) : g_check_match [r, d, l] S = .err "InvalidRule" r S := by
  have e := check_ok hS h hn
  rw [b, if_neg (by simp)] at e
  refine bodyT_err ?_ hS (fit_nc h)
  simp only [fC_ap, fVar_ap, fOp_ap, fB_ap, fAnd_ap, fOr_ap, fNot_ap, fAndV_ap, fOrV_ap, fNotV_ap, fIf_ap, fNil_ap, fCons_ap, fTup_ap, fLst_ap, fLstC_ap, fNoPart_ap, fPart_ap, fSl_ap, fNeg_ap, fCB_ap, fIsi_ap, fIsi2_ap, fNext_ap, fSeq_ap, fRet_ap, fRetF_ap, fgName_ap, fgNil_ap, fgCons_ap, fgTup_ap, fgSub_ap, fAsg_ap, fPar_ap, fPar3_ap, fDrop_ap, fApp_ap, fIfS_ap, fiSeq_ap, fiTup_ap, fiEnum_ap, fYes_ap, fCall_ap, fCall0_ap, fChain_ap, fBits_ap, fAddC_ap, fiAny_ap, Res.bind_ok, asB_ok, okO_some, bodyD, asB, iterOf, withLock_none, noErr_ok, wipeE, List.map_cons, List.map_nil, List.length_cons, List.length_nil, List.cons_append, List.nil_append, List.getElem?_cons_zero, List.getElem?_cons_succ, List.set_cons_zero, List.set_cons_succ, if_true, Bool.false_eq_true, if_false, Nat.reduceAdd, Nat.reduceSub, Nat.zero_add, List.replicate, tyD, atI_0, atI_1, lenD_lst, lenD_tup, ixD_tup, ixD_lst, eqD_int, eqD_str, neD_int, neD_str, leD_int, ltD_int, gtD_int, geD_int, addD_int, subD_int, intD_int, gx0, gx1, gx2, gs0, gs2, hx0, hx1, hx2, hs0, hs2, capN, Nat.zero_le, Nat.reduceLeDiff, Nat.reduceEqDiff, Nat.reduceLT, Bool.not_true, Bool.not_false, Bool.true_and, Bool.false_and, b_check_match, e, bind_err]
theorem match_side {r d l : D} {n m : Nat} (h : fit r n = true) (hn : n ≤ 60) (b : isRuleN 4 r = true) (hd : fit d m = true) (bd : isBtw 0 1 d = false) : g_check_match [r, d, l] S = .err "InvalidSide" d S := by
  have e := check_ok hS h hn
  rw [b, if_pos rfl] at e
  have e2 := side_ok hS hd
  rw [bd, if_neg (by simp)] at e2
  refine bodyT_err ?_ hS (fit_nc hd)
  simp only [fC_ap, fVar_ap, fOp_ap, fB_ap, fAnd_ap, fOr_ap, fNot_ap, fAndV_ap, fOrV_ap, fNotV_ap, fIf_ap, fNil_ap, fCons_ap, fTup_ap, fLst_ap, fLstC_ap, fNoPart_ap, fPart_ap, fSl_ap, fNeg_ap, fCB_ap, fIsi_ap, fIsi2_ap, fNext_ap, fSeq_ap, fRet_ap, fRetF_ap, fgName_ap, fgNil_ap, fgCons_ap, fgTup_ap, fgSub_ap, fAsg_ap, fPar_ap, fPar3_ap, fDrop_ap, fApp_ap, fIfS_ap, fiSeq_ap, fiTup_ap, fiEnum_ap, fYes_ap, fCall_ap, fCall0_ap, fChain_ap, fBits_ap, fAddC_ap, fiAny_ap, Res.bind_ok, asB_ok, okO_some, bodyD, asB, iterOf, withLock_none, noErr_ok, wipeE, List.map_cons, List.map_nil, List.length_cons, List.length_nil, List.cons_append, List.nil_append, List.getElem?_cons_zero, List.getElem?_cons_succ, List.set_cons_zero, List.set_cons_succ, if_true, Bool.false_eq_true, if_false, Nat.reduceAdd, Nat.reduceSub, Nat.zero_add, List.replicate, tyD, atI_0, atI_1, lenD_lst, lenD_tup, ixD_tup, ixD_lst, eqD_int, eqD_str, neD_int, neD_str, leD_int, ltD_int, gtD_int, geD_int, addD_int, subD_int, intD_int, gx0, gx1, gx2, gs0, gs2, hx0, hx1, hx2, hs0, hs2, capN, Nat.zero_le, Nat.reduceLeDiff, Nat.reduceEqDiff, Nat.reduceLT, Bool.not_true, Bool.not_false, Bool.true_and, Bool.false_and, b_check_match, e, e2, bind_err]
theorem match_rallies {r d l : D} {n m : Nat} (h : fit r n = true) (hn : n ≤ 60) (b : isRuleN 4 r = true) (hd : fit d m = true) (bd : isBtw 0 1 d = true) (el : g_check_rallies [l] S = .err "InvalidRallies" l S) (nl : noCel l = true) : g_check_match [r, d, l] S = .err "InvalidRallies" l S := by
  have e := check_ok hS h hn
  rw [b, if_pos rfl] at e
  have e2 := side_ok hS hd
  rw [bd, if_pos rfl] at e2
  refine bodyT_err ?_ hS nl
  simp only [fC_ap, fVar_ap, fOp_ap, fB_ap, fAnd_ap, fOr_ap, fNot_ap, fAndV_ap, fOrV_ap, fNotV_ap, fIf_ap, fNil_ap, fCons_ap, fTup_ap, fLst_ap, fLstC_ap, fNoPart_ap, fPart_ap, fSl_ap, fNeg_ap, fCB_ap, fIsi_ap, fIsi2_ap, fNext_ap, fSeq_ap, fRet_ap, fRetF_ap, fgName_ap, fgNil_ap, fgCons_ap, fgTup_ap, fgSub_ap, fAsg_ap, fPar_ap, fPar3_ap, fDrop_ap, fApp_ap, fIfS_ap, fiSeq_ap, fiTup_ap, fiEnum_ap, fYes_ap, fCall_ap, fCall0_ap, fChain_ap, fBits_ap, fAddC_ap, fiAny_ap, Res.bind_ok, asB_ok, okO_some, bodyD, asB, iterOf, withLock_none, noErr_ok, wipeE, List.map_cons, List.map_nil, List.length_cons, List.length_nil, List.cons_append, List.nil_append, List.getElem?_cons_zero, List.getElem?_cons_succ, List.set_cons_zero, List.set_cons_succ, if_true, Bool.false_eq_true, if_false, Nat.reduceAdd, Nat.reduceSub, Nat.zero_add, List.replicate, tyD, atI_0, atI_1, lenD_lst, lenD_tup, ixD_tup, ixD_lst, eqD_int, eqD_str, neD_int, neD_str, leD_int, ltD_int, gtD_int, geD_int, addD_int, subD_int, intD_int, gx0, gx1, gx2, gs0, gs2, hx0, hx1, hx2, hs0, hs2, capN, Nat.zero_le, Nat.reduceLeDiff, Nat.reduceEqDiff, Nat.reduceLT, Bool.not_true, Bool.not_false, Bool.true_and, Bool.false_and, b_check_match, e, e2, el, bind_err]
theorem calls_err {r d l e : D} {c : Str} (h : g_check_match [r, d, l] S = .err c e S) (ne : noCel e = true) : ∀ t ∈ l__law_calls.map (fun (fb : FE) (T : Sto) => fb ([r, d, l].map some ++ List.replicate (N__law_calls.length - 3) none) T), t S = .err c e S := by
  have e1 : g_winner_after [r, d, l] S = .err c e S := bodyT_err (by simp only [fC_ap, fVar_ap, fOp_ap, fB_ap, fAnd_ap, fOr_ap, fNot_ap, fAndV_ap, fOrV_ap, fNotV_ap, fIf_ap, fNil_ap, fCons_ap, fTup_ap, fLst_ap, fLstC_ap, fNoPart_ap, fPart_ap, fSl_ap, fNeg_ap, fCB_ap, fIsi_ap, fIsi2_ap, fNext_ap, fSeq_ap, fRet_ap, fRetF_ap, fgName_ap, fgNil_ap, fgCons_ap, fgTup_ap, fgSub_ap, fAsg_ap, fPar_ap, fPar3_ap, fDrop_ap, fApp_ap, fIfS_ap, fiSeq_ap, fiTup_ap, fiEnum_ap, fYes_ap, fCall_ap, fCall0_ap, fChain_ap, fBits_ap, fAddC_ap, fiAny_ap, Res.bind_ok, asB_ok, okO_some, bodyD, asB, iterOf, withLock_none, noErr_ok, wipeE, List.map_cons, List.map_nil, List.length_cons, List.length_nil, List.cons_append, List.nil_append, List.getElem?_cons_zero, List.getElem?_cons_succ, List.set_cons_zero, List.set_cons_succ, if_true, Bool.false_eq_true, if_false, Nat.reduceAdd, Nat.reduceSub, Nat.zero_add, List.replicate, tyD, atI_0, atI_1, lenD_lst, lenD_tup, ixD_tup, ixD_lst, eqD_int, eqD_str, neD_int, neD_str, leD_int, ltD_int, gtD_int, geD_int, addD_int, subD_int, intD_int, gx0, gx1, gx2, gs0, gs2, hx0, hx1, hx2, hs0, hs2, capN, Nat.zero_le, Nat.reduceLeDiff, Nat.reduceEqDiff, Nat.reduceLT, Bool.not_true, Bool.not_false, Bool.true_and, Bool.false_and, b_winner_after, h, bind_err]) hS ne
  have e2 : g_server_after [r, d, l] S = .err c e S := bodyT_err (by simp only [fC_ap, fVar_ap, fOp_ap, fB_ap, fAnd_ap, fOr_ap, fNot_ap, fAndV_ap, fOrV_ap, fNotV_ap, fIf_ap, fNil_ap, fCons_ap, fTup_ap, fLst_ap, fLstC_ap, fNoPart_ap, fPart_ap, fSl_ap, fNeg_ap, fCB_ap, fIsi_ap, fIsi2_ap, fNext_ap, fSeq_ap, fRet_ap, fRetF_ap, fgName_ap, fgNil_ap, fgCons_ap, fgTup_ap, fgSub_ap, fAsg_ap, fPar_ap, fPar3_ap, fDrop_ap, fApp_ap, fIfS_ap, fiSeq_ap, fiTup_ap, fiEnum_ap, fYes_ap, fCall_ap, fCall0_ap, fChain_ap, fBits_ap, fAddC_ap, fiAny_ap, Res.bind_ok, asB_ok, okO_some, bodyD, asB, iterOf, withLock_none, noErr_ok, wipeE, List.map_cons, List.map_nil, List.length_cons, List.length_nil, List.cons_append, List.nil_append, List.getElem?_cons_zero, List.getElem?_cons_succ, List.set_cons_zero, List.set_cons_succ, if_true, Bool.false_eq_true, if_false, Nat.reduceAdd, Nat.reduceSub, Nat.zero_add, List.replicate, tyD, atI_0, atI_1, lenD_lst, lenD_tup, ixD_tup, ixD_lst, eqD_int, eqD_str, neD_int, neD_str, leD_int, ltD_int, gtD_int, geD_int, addD_int, subD_int, intD_int, gx0, gx1, gx2, gs0, gs2, hx0, hx1, hx2, hs0, hs2, capN, Nat.zero_le, Nat.reduceLeDiff, Nat.reduceEqDiff, Nat.reduceLT, Bool.not_true, Bool.not_false, Bool.true_and, Bool.false_and, b_server_after, h, bind_err]) hS ne
  have e3 : g_scores_after [r, d, l] S = .err c e S := bodyT_err (by simp only [fC_ap, fVar_ap, fOp_ap, fB_ap, fAnd_ap, fOr_ap, fNot_ap, fAndV_ap, fOrV_ap, fNotV_ap, fIf_ap, fNil_ap, fCons_ap, fTup_ap, fLst_ap, fLstC_ap, fNoPart_ap, fPart_ap, fSl_ap, fNeg_ap, fCB_ap, fIsi_ap, fIsi2_ap, fNext_ap, fSeq_ap, fRet_ap, fRetF_ap, fgName_ap, fgNil_ap, fgCons_ap, fgTup_ap, fgSub_ap, fAsg_ap, fPar_ap, fPar3_ap, fDrop_ap, fApp_ap, fIfS_ap, fiSeq_ap, fiTup_ap, fiEnum_ap, fYes_ap, fCall_ap, fCall0_ap, fChain_ap, fBits_ap, fAddC_ap, fiAny_ap, Res.bind_ok, asB_ok, okO_some, bodyD, asB, iterOf, withLock_none, noErr_ok, wipeE, List.map_cons, List.map_nil, List.length_cons, List.length_nil, List.cons_append, List.nil_append, List.getElem?_cons_zero, List.getElem?_cons_succ, List.set_cons_zero, List.set_cons_succ, if_true, Bool.false_eq_true, if_false, Nat.reduceAdd, Nat.reduceSub, Nat.zero_add, List.replicate, tyD, atI_0, atI_1, lenD_lst, lenD_tup, ixD_tup, ixD_lst, eqD_int, eqD_str, neD_int, neD_str, leD_int, ltD_int, gtD_int, geD_int, addD_int, subD_int, intD_int, gx0, gx1, gx2, gs0, gs2, hx0, hx1, hx2, hs0, hs2, capN, Nat.zero_le, Nat.reduceLeDiff, Nat.reduceEqDiff, Nat.reduceLT, Bool.not_true, Bool.not_false, Bool.true_and, Bool.false_and, b_scores_after, h, bind_err]) hS ne
  have e4 : g_servers_of [r, d, l] S = .err c e S := bodyT_err (by simp only [fC_ap, fVar_ap, fOp_ap, fB_ap, fAnd_ap, fOr_ap, fNot_ap, fAndV_ap, fOrV_ap, fNotV_ap, fIf_ap, fNil_ap, fCons_ap, fTup_ap, fLst_ap, fLstC_ap, fNoPart_ap, fPart_ap, fSl_ap, fNeg_ap, fCB_ap, fIsi_ap, fIsi2_ap, fNext_ap, fSeq_ap, fRet_ap, fRetF_ap, fgName_ap, fgNil_ap, fgCons_ap, fgTup_ap, fgSub_ap, fAsg_ap, fPar_ap, fPar3_ap, fDrop_ap, fApp_ap, fIfS_ap, fiSeq_ap, fiTup_ap, fiEnum_ap, fYes_ap, fCall_ap, fCall0_ap, fChain_ap, fBits_ap, fAddC_ap, fiAny_ap, Res.bind_ok, asB_ok, okO_some, bodyD, asB, iterOf, withLock_none, noErr_ok, wipeE, List.map_cons, List.map_nil, List.length_cons, List.length_nil, List.cons_append, List.nil_append, List.getElem?_cons_zero, List.getElem?_cons_succ, List.set_cons_zero, List.set_cons_succ, if_true, Bool.false_eq_true, if_false, Nat.reduceAdd, Nat.reduceSub, Nat.zero_add, List.replicate, tyD, atI_0, atI_1, lenD_lst, lenD_tup, ixD_tup, ixD_lst, eqD_int, eqD_str, neD_int, neD_str, leD_int, ltD_int, gtD_int, geD_int, addD_int, subD_int, intD_int, gx0, gx1, gx2, gs0, gs2, hx0, hx1, hx2, hs0, hs2, capN, Nat.zero_le, Nat.reduceLeDiff, Nat.reduceEqDiff, Nat.reduceLT, Bool.not_true, Bool.not_false, Bool.true_and, Bool.false_and, b_servers_of, h, bind_err]) hS ne
  have e5 : g_won_units [r, d, l] S = .err c e S := bodyT_err (by simp only [fC_ap, fVar_ap, fOp_ap, fB_ap, fAnd_ap, fOr_ap, fNot_ap, fAndV_ap, fOrV_ap, fNotV_ap, fIf_ap, fNil_ap, fCons_ap, fTup_ap, fLst_ap, fLstC_ap, fNoPart_ap, fPart_ap, fSl_ap, fNeg_ap, fCB_ap, fIsi_ap, fIsi2_ap, fNext_ap, fSeq_ap, fRet_ap, fRetF_ap, fgName_ap, fgNil_ap, fgCons_ap, fgTup_ap, fgSub_ap, fAsg_ap, fPar_ap, fPar3_ap, fDrop_ap, fApp_ap, fIfS_ap, fiSeq_ap, fiTup_ap, fiEnum_ap, fYes_ap, fCall_ap, fCall0_ap, fChain_ap, fBits_ap, fAddC_ap, fiAny_ap, Res.bind_ok, asB_ok, okO_some, bodyD, asB, iterOf, withLock_none, noErr_ok, wipeE, List.map_cons, List.map_nil, List.length_cons, List.length_nil, List.cons_append, List.nil_append, List.getElem?_cons_zero, List.getElem?_cons_succ, List.set_cons_zero, List.set_cons_succ, if_true, Bool.false_eq_true, if_false, Nat.reduceAdd, Nat.reduceSub, Nat.zero_add, List.replicate, tyD, atI_0, atI_1, lenD_lst, lenD_tup, ixD_tup, ixD_lst, eqD_int, eqD_str, neD_int, neD_str, leD_int, ltD_int, gtD_int, geD_int, addD_int, subD_int, intD_int, gx0, gx1, gx2, gs0, gs2, hx0, hx1, hx2, hs0, hs2, capN, Nat.zero_le, Nat.reduceLeDiff, Nat.reduceEqDiff, Nat.reduceLT, Bool.not_true, Bool.not_false, Bool.true_and, Bool.false_and, b_won_units, h, bind_err]) hS ne
  have e6 : g_stakes [r, d, l] S = .err c e S := bodyT_err (by simp only [fC_ap, fVar_ap, fOp_ap, fB_ap, fAnd_ap, fOr_ap, fNot_ap, fAndV_ap, fOrV_ap, fNotV_ap, fIf_ap, fNil_ap, fCons_ap, fTup_ap, fLst_ap, fLstC_ap, fNoPart_ap, fPart_ap, fSl_ap, fNeg_ap, fCB_ap, fIsi_ap, fIsi2_ap, fNext_ap, fSeq_ap, fRet_ap, fRetF_ap, fgName_ap, fgNil_ap, fgCons_ap, fgTup_ap, fgSub_ap, fAsg_ap, fPar_ap, fPar3_ap, fDrop_ap, fApp_ap, fIfS_ap, fiSeq_ap, fiTup_ap, fiEnum_ap, fYes_ap, fCall_ap, fCall0_ap, fChain_ap, fBits_ap, fAddC_ap, fiAny_ap, Res.bind_ok, asB_ok, okO_some, bodyD, asB, iterOf, withLock_none, noErr_ok, wipeE, List.map_cons, List.map_nil, List.length_cons, List.length_nil, List.cons_append, List.nil_append, List.getElem?_cons_zero, List.getElem?_cons_succ, List.set_cons_zero, List.set_cons_succ, if_true, Bool.false_eq_true, if_false, Nat.reduceAdd, Nat.reduceSub, Nat.zero_add, List.replicate, tyD, atI_0, atI_1, lenD_lst, lenD_tup, ixD_tup, ixD_lst, eqD_int, eqD_str, neD_int, neD_str, leD_int, ltD_int, gtD_int, geD_int, addD_int, subD_int, intD_int, gx0, gx1, gx2, gs0, gs2, hx0, hx1, hx2, hs0, hs2, capN, Nat.zero_le, Nat.reduceLeDiff, Nat.reduceEqDiff, Nat.reduceLT, Bool.not_true, Bool.not_false, Bool.true_and, Bool.false_and, b_stakes, h, bind_err]) hS ne
  intro t ht
  simp only [l__law_calls, List.map_cons, List.map_nil, List.mem_cons, List.not_mem_nil, or_false] at ht
  rcases ht with rfl | rfl | rfl | rfl | rfl | rfl
  · simp only [fC_ap, fVar_ap, fOp_ap, fB_ap, fAnd_ap, fOr_ap, fNot_ap, fAndV_ap, fOrV_ap, fNotV_ap, fIf_ap, fNil_ap, fCons_ap, fTup_ap, fLst_ap, fLstC_ap, fNoPart_ap, fPart_ap, fSl_ap, fNeg_ap, fCB_ap, fIsi_ap, fIsi2_ap, fNext_ap, fSeq_ap, fRet_ap, fRetF_ap, fgName_ap, fgNil_ap, fgCons_ap, fgTup_ap, fgSub_ap, fAsg_ap, fPar_ap, fPar3_ap, fDrop_ap, fApp_ap, fIfS_ap, fiSeq_ap, fiTup_ap, fiEnum_ap, fYes_ap, fCall_ap, fCall0_ap, fChain_ap, fBits_ap, fAddC_ap, fiAny_ap, Res.bind_ok, asB_ok, okO_some, bodyD, asB, iterOf, withLock_none, noErr_ok, wipeE, List.map_cons, List.map_nil, List.length_cons, List.length_nil, List.cons_append, List.nil_append, List.getElem?_cons_zero, List.getElem?_cons_succ, List.set_cons_zero, List.set_cons_succ, if_true, Bool.false_eq_true, if_false, Nat.reduceAdd, Nat.reduceSub, Nat.zero_add, List.replicate, tyD, atI_0, atI_1, lenD_lst, lenD_tup, ixD_tup, ixD_lst, eqD_int, eqD_str, neD_int, neD_str, leD_int, ltD_int, gtD_int, geD_int, addD_int, subD_int, intD_int, gx0, gx1, gx2, gs0, gs2, hx0, hx1, hx2, hs0, hs2, capN, Nat.zero_le, Nat.reduceLeDiff, Nat.reduceEqDiff, Nat.reduceLT, Bool.not_true, Bool.not_false, Bool.true_and, Bool.false_and, e1]
  · simp only [fC_ap, fVar_ap, fOp_ap, fB_ap, fAnd_ap, fOr_ap, fNot_ap, fAndV_ap, fOrV_ap, fNotV_ap, fIf_ap, fNil_ap, fCons_ap, fTup_ap, fLst_ap, fLstC_ap, fNoPart_ap, fPart_ap, fSl_ap, fNeg_ap, fCB_ap, fIsi_ap, fIsi2_ap, fNext_ap, fSeq_ap, fRet_ap, fRetF_ap, fgName_ap, fgNil_ap, fgCons_ap, fgTup_ap, fgSub_ap, fAsg_ap, fPar_ap, fPar3_ap, fDrop_ap, fApp_ap, fIfS_ap, fiSeq_ap, fiTup_ap, fiEnum_ap, fYes_ap, fCall_ap, fCall0_ap, fChain_ap, fBits_ap, fAddC_ap, fiAny_ap, Res.bind_ok, asB_ok, okO_some, bodyD, asB, iterOf, withLock_none, noErr_ok, wipeE, List.map_cons, List.map_nil, List.length_cons, List.length_nil, List.cons_append, List.nil_append, List.getElem?_cons_zero, List.getElem?_cons_succ, List.set_cons_zero, List.set_cons_succ, if_true, Bool.false_eq_true, if_false, Nat.reduceAdd, Nat.reduceSub, Nat.zero_add, List.replicate, tyD, atI_0, atI_1, lenD_lst, lenD_tup, ixD_tup, ixD_lst, eqD_int, eqD_str, neD_int, neD_str, leD_int, ltD_int, gtD_int, geD_int, addD_int, subD_int, intD_int, gx0, gx1, gx2, gs0, gs2, hx0, hx1, hx2, hs0, hs2, capN, Nat.zero_le, Nat.reduceLeDiff, Nat.reduceEqDiff, Nat.reduceLT, Bool.not_true, Bool.not_false, Bool.true_and, Bool.false_and, e2]
  · simp only [fC_ap, fVar_ap, fOp_ap, fB_ap, fAnd_ap, fOr_ap, fNot_ap, fAndV_ap, fOrV_ap, fNotV_ap, fIf_ap, fNil_ap, fCons_ap, fTup_ap, fLst_ap, fLstC_ap, fNoPart_ap, fPart_ap, fSl_ap, fNeg_ap, fCB_ap, fIsi_ap, fIsi2_ap, fNext_ap, fSeq_ap, fRet_ap, fRetF_ap, fgName_ap, fgNil_ap, fgCons_ap, fgTup_ap, fgSub_ap, fAsg_ap, fPar_ap, fPar3_ap, fDrop_ap, fApp_ap, fIfS_ap, fiSeq_ap, fiTup_ap, fiEnum_ap, fYes_ap, fCall_ap, fCall0_ap, fChain_ap, fBits_ap, fAddC_ap, fiAny_ap, Res.bind_ok, asB_ok, okO_some, bodyD, asB, iterOf, withLock_none, noErr_ok, wipeE, List.map_cons, List.map_nil, List.length_cons, List.length_nil, List.cons_append, List.nil_append, List.getElem?_cons_zero, List.getElem?_cons_succ, List.set_cons_zero, List.set_cons_succ, if_true, Bool.false_eq_true, if_false, Nat.reduceAdd, Nat.reduceSub, Nat.zero_add, List.replicate, tyD, atI_0, atI_1, lenD_lst, lenD_tup, ixD_tup, ixD_lst, eqD_int, eqD_str, neD_int, neD_str, leD_int, ltD_int, gtD_int, geD_int, addD_int, subD_int, intD_int, gx0, gx1, gx2, gs0, gs2, hx0, hx1, hx2, hs0, hs2, capN, Nat.zero_le, Nat.reduceLeDiff, Nat.reduceEqDiff, Nat.reduceLT, Bool.not_true, Bool.not_false, Bool.true_and, Bool.false_and, e3]
  · simp only [fC_ap, fVar_ap, fOp_ap, fB_ap, fAnd_ap, fOr_ap, fNot_ap, fAndV_ap, fOrV_ap, fNotV_ap, fIf_ap, fNil_ap, fCons_ap, fTup_ap, fLst_ap, fLstC_ap, fNoPart_ap, fPart_ap, fSl_ap, fNeg_ap, fCB_ap, fIsi_ap, fIsi2_ap, fNext_ap, fSeq_ap, fRet_ap, fRetF_ap, fgName_ap, fgNil_ap, fgCons_ap, fgTup_ap, fgSub_ap, fAsg_ap, fPar_ap, fPar3_ap, fDrop_ap, fApp_ap, fIfS_ap, fiSeq_ap, fiTup_ap, fiEnum_ap, fYes_ap, fCall_ap, fCall0_ap, fChain_ap, fBits_ap, fAddC_ap, fiAny_ap, Res.bind_ok, asB_ok, okO_some, bodyD, asB, iterOf, withLock_none, noErr_ok, wipeE, List.map_cons, List.map_nil, List.length_cons, List.length_nil, List.cons_append, List.nil_append, List.getElem?_cons_zero, List.getElem?_cons_succ, List.set_cons_zero, List.set_cons_succ, if_true, Bool.false_eq_true, if_false, Nat.reduceAdd, Nat.reduceSub, Nat.zero_add, List.replicate, tyD, atI_0, atI_1, lenD_lst, lenD_tup, ixD_tup, ixD_lst, eqD_int, eqD_str, neD_int, neD_str, leD_int, ltD_int, gtD_int, geD_int, addD_int, subD_int, intD_int, gx0, gx1, gx2, gs0, gs2, hx0, hx1, hx2, hs0, hs2, capN, Nat.zero_le, Nat.reduceLeDiff, Nat.reduceEqDiff, Nat.reduceLT, Bool.not_true, Bool.not_false, Bool.true_and, Bool.false_and, e4]
  · simp only [fC_ap, fVar_ap, fOp_ap, fB_ap, fAnd_ap, fOr_ap, fNot_ap, fAndV_ap, fOrV_ap, fNotV_ap, fIf_ap, fNil_ap, fCons_ap, fTup_ap, fLst_ap, fLstC_ap, fNoPart_ap, fPart_ap, fSl_ap, fNeg_ap, fCB_ap, fIsi_ap, fIsi2_ap, fNext_ap, fSeq_ap, fRet_ap, fRetF_ap, fgName_ap, fgNil_ap, fgCons_ap, fgTup_ap, fgSub_ap, fAsg_ap, fPar_ap, fPar3_ap, fDrop_ap, fApp_ap, fIfS_ap, fiSeq_ap, fiTup_ap, fiEnum_ap, fYes_ap, fCall_ap, fCall0_ap, fChain_ap, fBits_ap, fAddC_ap, fiAny_ap, Res.bind_ok, asB_ok, okO_some, bodyD, asB, iterOf, withLock_none, noErr_ok, wipeE, List.map_cons, List.map_nil, List.length_cons, List.length_nil, List.cons_append, List.nil_append, List.getElem?_cons_zero, List.getElem?_cons_succ, List.set_cons_zero, List.set_cons_succ, if_true, Bool.false_eq_true, if_false, Nat.reduceAdd, Nat.reduceSub, Nat.zero_add, List.replicate, tyD, atI_0, atI_1, lenD_lst, lenD_tup, ixD_tup, ixD_lst, eqD_int, eqD_str, neD_int, neD_str, leD_int, ltD_int, gtD_int, geD_int, addD_int, subD_int, intD_int, gx0, gx1, gx2, gs0, gs2, hx0, hx1, hx2, hs0, hs2, capN, Nat.zero_le, Nat.reduceLeDiff, Nat.reduceEqDiff, Nat.reduceLT, Bool.not_true, Bool.not_false, Bool.true_and, Bool.false_and, e5]
  · simp only [fC_ap, fVar_ap, fOp_ap, fB_ap, fAnd_ap, fOr_ap, fNot_ap, fAndV_ap, fOrV_ap, fNotV_ap, fIf_ap, fNil_ap, fCons_ap, fTup_ap, fLst_ap, fLstC_ap, fNoPart_ap, fPart_ap, fSl_ap, fNeg_ap, fCB_ap, fIsi_ap, fIsi2_ap, fNext_ap, fSeq_ap, fRet_ap, fRetF_ap, fgName_ap, fgNil_ap, fgCons_ap, fgTup_ap, fgSub_ap, fAsg_ap, fPar_ap, fPar3_ap, fDrop_ap, fApp_ap, fIfS_ap, fiSeq_ap, fiTup_ap, fiEnum_ap, fYes_ap, fCall_ap, fCall0_ap, fChain_ap, fBits_ap, fAddC_ap, fiAny_ap, Res.bind_ok, asB_ok, okO_some, bodyD, asB, iterOf, withLock_none, noErr_ok, wipeE, List.map_cons, List.map_nil, List.length_cons, List.length_nil, List.cons_append, List.nil_append, List.getElem?_cons_zero, List.getElem?_cons_succ, List.set_cons_zero, List.set_cons_succ, if_true, Bool.false_eq_true, if_false, Nat.reduceAdd, Nat.reduceSub, Nat.zero_add, List.replicate, tyD, atI_0, atI_1, lenD_lst, lenD_tup, ixD_tup, ixD_lst, eqD_int, eqD_str, neD_int, neD_str, leD_int, ltD_int, gtD_int, geD_int, addD_int, subD_int, intD_int, gx0, gx1, gx2, gs0, gs2, hx0, hx1, hx2, hs0, hs2, capN, Nat.zero_le, Nat.reduceLeDiff, Nat.reduceEqDiff, Nat.reduceLT, Bool.not_true, Bool.not_false, Bool.true_and, Bool.false_and, e6]
end
/-! ### drawn rallies -/
def roEl (g__law_random : GF) : FE := (fIf (fB (fOp eqD (fCall 2 g__law_random (fCons (fVar 0) (fCons (fC (.int 2)) fNil))) (fC (.int 0)))) (fCB intD (fCons (fOp eqD (fCall 2 g__law_random (fCons (fVar 0) (fCons (fOp addD (fVar 2) (fC (.int 1))) fNil))) (fC (.int 0))) fNil)) (fCall 2 g__law_random (fCons (fVar 0) (fCons (fC (.int 2)) fNil))))
theorem draws_ok {TP0 : Addr} {L : Sto} {lean : Int} (l1 : 1 ≤ lean) (l2 : lean ≤ 9) (hL : L.all coFree = true) : ∀ (ds : List D) {n : Nat} {x : CO}, Gn n x → n + 2 * ds.length ≤ 1000000000 →
    ∃ y ys, compD (fgName 3) fYes (roEl g__law_random) ds [some (.cel 1), some (.int 12), some (.int lean), none] (CO.tab TP0 q__law_calls :: x :: L) = .ok ys (CO.tab TP0 q__law_calls :: y :: L) ∧ Gn (n + 2 * ds.length) y ∧ ys.length = ds.length ∧ ∀ v ∈ ys, v = .int 0 ∨ v = .int 1
  | [], n, x, G, _ => ⟨x, [], rfl, G, rfl, fun _ h => by cases h⟩
  | d :: ds, n, x, G, hn => by
    rw [List.length_cons] at hn
    obtain ⟨y, u, e, G2, u1, u2⟩ := random_ok (TP0 := TP0) G (by omega) hL (bd := 2) (by decide) (by decide)
    obtain ⟨z, v, e2, G3, hv⟩ : ∃ z v, roEl g__law_random [some (.cel 1), some (.int 12), some (.int lean), some d] (CO.tab TP0 q__law_calls :: x :: L) = .ok v (CO.tab TP0 q__law_calls :: z :: L) ∧ Gn (n + 2) z ∧ (v = .int 0 ∨ v = .int 1) := by
      by_cases c : u = 0
      · have c' : decide (u = 0) = true := decide_eq_true c
        obtain ⟨z, w, e3, G3, w1, w2⟩ := random_ok (TP0 := TP0) G2 (by omega) hL (bd := lean + 1) (by omega) (by omega)
        have i1 : ∀ (b : Bool) (S : Sto), intD [.bl b] S = some (.int (if b then 1 else 0)) := fun _ _ => rfl
        refine ⟨z, .int (if decide (w = 0) then 1 else 0), ?_, G3, ?_⟩
        · simp only [roEl, fC_ap, fVar_ap, fOp_ap, fB_ap, fAnd_ap, fOr_ap, fNot_ap, fAndV_ap, fOrV_ap, fNotV_ap, fIf_ap, fNil_ap, fCons_ap, fTup_ap, fLst_ap, fLstC_ap, fNoPart_ap, fPart_ap, fSl_ap, fNeg_ap, fCB_ap, fIsi_ap, fIsi2_ap, fNext_ap, fSeq_ap, fRet_ap, fRetF_ap, fgName_ap, fgNil_ap, fgCons_ap, fgTup_ap, fgSub_ap, fAsg_ap, fPar_ap, fPar3_ap, fDrop_ap, fApp_ap, fIfS_ap, fiSeq_ap, fiTup_ap, fiEnum_ap, fYes_ap, fCall_ap, fCall0_ap, fChain_ap, fBits_ap, fAddC_ap, fiAny_ap, Res.bind_ok, asB_ok, okO_some, bodyD, asB, iterOf, withLock_none, noErr_ok, wipeE, List.map_cons, List.map_nil, List.length_cons, List.length_nil, List.cons_append, List.nil_append, List.getElem?_cons_zero, List.getElem?_cons_succ, List.set_cons_zero, List.set_cons_succ, if_true, Bool.false_eq_true, if_false, Nat.reduceAdd, Nat.reduceSub, Nat.zero_add, List.replicate, tyD, atI_0, atI_1, lenD_lst, lenD_tup, ixD_tup, ixD_lst, eqD_int, eqD_str, neD_int, neD_str, leD_int, ltD_int, gtD_int, geD_int, addD_int, subD_int, intD_int, gx0, gx1, gx2, gs0, gs2, hx0, hx1, hx2, hs0, hs2, capN, Nat.zero_le, Nat.reduceLeDiff, Nat.reduceEqDiff, Nat.reduceLT, Bool.not_true, Bool.not_false, Bool.true_and, Bool.false_and, e, c', e3, i1]
        · by_cases q : w = 0 <;> simp [q]
      · have c' : decide (u = 0) = false := decide_eq_false c
        obtain ⟨z, w, e3, G3, w1, w2⟩ := random_ok (TP0 := TP0) G2 (by omega) hL (bd := 2) (by decide) (by decide)
        refine ⟨z, .int w, ?_, G3, ?_⟩
        · simp only [roEl, fC_ap, fVar_ap, fOp_ap, fB_ap, fAnd_ap, fOr_ap, fNot_ap, fAndV_ap, fOrV_ap, fNotV_ap, fIf_ap, fNil_ap, fCons_ap, fTup_ap, fLst_ap, fLstC_ap, fNoPart_ap, fPart_ap, fSl_ap, fNeg_ap, fCB_ap, fIsi_ap, fIsi2_ap, fNext_ap, fSeq_ap, fRet_ap, fRetF_ap, fgName_ap, fgNil_ap, fgCons_ap, fgTup_ap, fgSub_ap, fAsg_ap, fPar_ap, fPar3_ap, fDrop_ap, fApp_ap, fIfS_ap, fiSeq_ap, fiTup_ap, fiEnum_ap, fYes_ap, fCall_ap, fCall0_ap, fChain_ap, fBits_ap, fAddC_ap, fiAny_ap, Res.bind_ok, asB_ok, okO_some, bodyD, asB, iterOf, withLock_none, noErr_ok, wipeE, List.map_cons, List.map_nil, List.length_cons, List.length_nil, List.cons_append, List.nil_append, List.getElem?_cons_zero, List.getElem?_cons_succ, List.set_cons_zero, List.set_cons_succ, if_true, Bool.false_eq_true, if_false, Nat.reduceAdd, Nat.reduceSub, Nat.zero_add, List.replicate, tyD, atI_0, atI_1, lenD_lst, lenD_tup, ixD_tup, ixD_lst, eqD_int, eqD_str, neD_int, neD_str, leD_int, ltD_int, gtD_int, geD_int, addD_int, subD_int, intD_int, gx0, gx1, gx2, gs0, gs2, hx0, hx1, hx2, hs0, hs2, capN, Nat.zero_le, Nat.reduceLeDiff, Nat.reduceEqDiff, Nat.reduceLT, Bool.not_true, Bool.not_false, Bool.true_and, Bool.false_and, e, c', e3]
        · have : w = 0 ∨ w = 1 := by omega
          rcases this with rfl | rfl
          · exact .inl rfl
          · exact .inr rfl
    obtain ⟨y2, ys, e4, G4, l, m⟩ := draws_ok (TP0 := TP0) l1 l2 hL ds G3 (by omega)
    refine ⟨y2, v :: ys, ?_, by rw [List.length_cons]; exact G4.up (by omega), by rw [List.length_cons, List.length_cons, l], fun w hw => ?_⟩
    · unfold compD
      have g1 : fgName 3 d [some (.cel 1), some (.int 12), some (.int lean), none] (CO.tab TP0 q__law_calls :: x :: L) = .ok [some (.cel 1), some (.int 12), some (.int lean), some d] (CO.tab TP0 q__law_calls :: x :: L) := rfl
      simp only [g1, Res.bind_ok, fYes_ap, if_true, e2, e4]
    · rcases List.mem_cons.mp hw with rfl | hw
      · exact hv
      · exact m w hw
theorem drawn_ok {TP0 : Addr} {L : Sto} {n : Nat} {x : CO} (G : Gn n x) (hn : n + 25 ≤ 1000000000) (hL : L.all coFree = true) :
    ∃ y ys, g__law_rallies [.cel 1, .int 12] (CO.tab TP0 q__law_calls :: x :: L) = .ok (.lst ys) (CO.tab TP0 q__law_calls :: y :: L) ∧ Gn (n + 25) y ∧ ys.length = 12 ∧ ∀ v ∈ ys, v = .int 0 ∨ v = .int 1 := by
  obtain ⟨z, q, e, G2, mq⟩ := pick_ok (TP0 := TP0) G (by omega) hL (xs := [.int 1, .int 2, .int 2, .int 3, .int 5, .int 9]) (by decide) (by decide) rfl
  obtain ⟨lean, rfl, l1, l2⟩ : ∃ j : Int, q = .int j ∧ 1 ≤ j ∧ j ≤ 9 := by
    simp only [List.mem_cons, List.not_mem_nil, or_false] at mq
    rcases mq with rfl | rfl | rfl | rfl | rfl | rfl <;> exact ⟨_, rfl, by decide, by decide⟩
  have lr : (rangeD 0 12).length = 12 := rangeD_len
  obtain ⟨u, ys, e3, G4, l, m⟩ := draws_ok (TP0 := TP0) l1 l2 hL (rangeD 0 12) G2 (by omega)
  rw [lr] at l G4
  refine ⟨u, ys, ?_, G4.up (by omega), l, m⟩
  have nc : noCel (.lst ys) = true := by
    have f : fits ys 0 = true := by
      rw [fits_all, List.all_eq_true]
      intro v hv
      rcases m v hv with rfl | rfl <;> rfl
    exact fit_nc (n := 1) (show fits ys 0 = true from f)
  refine bodyT_to (L := []) (T := CO.tab TP0 q__law_calls :: u :: L) ?_ rfl (all2 G4 hL) nc
  have it := fiRng1_nat (f := fCons (fVar 1) fNil) (ρ := [some (.cel 1), some (.int 12), some (.int lean), none]) (S := CO.tab TP0 q__law_calls :: z :: L) (S1 := CO.tab TP0 q__law_calls :: z :: L) (j := 12) rfl (by decide)
  have lc := fLc_st (vs := [3]) (c := fYes) it (capN_of (by rw [lr]; decide)) e3
  unfold roEl at lc
  simp only [fC_ap, fVar_ap, fOp_ap, fB_ap, fAnd_ap, fOr_ap, fNot_ap, fAndV_ap, fOrV_ap, fNotV_ap, fIf_ap, fNil_ap, fCons_ap, fTup_ap, fLst_ap, fLstC_ap, fNoPart_ap, fPart_ap, fSl_ap, fNeg_ap, fCB_ap, fIsi_ap, fIsi2_ap, fNext_ap, fSeq_ap, fRet_ap, fRetF_ap, fgName_ap, fgNil_ap, fgCons_ap, fgTup_ap, fgSub_ap, fAsg_ap, fPar_ap, fPar3_ap, fDrop_ap, fApp_ap, fIfS_ap, fiSeq_ap, fiTup_ap, fiEnum_ap, fYes_ap, fCall_ap, fCall0_ap, fChain_ap, fBits_ap, fAddC_ap, fiAny_ap, Res.bind_ok, asB_ok, okO_some, bodyD, asB, iterOf, withLock_none, noErr_ok, wipeE, List.map_cons, List.map_nil, List.length_cons, List.length_nil, List.cons_append, List.nil_append, List.getElem?_cons_zero, List.getElem?_cons_succ, List.set_cons_zero, List.set_cons_succ, if_true, Bool.false_eq_true, if_false, Nat.reduceAdd, Nat.reduceSub, Nat.zero_add, List.replicate, tyD, atI_0, atI_1, lenD_lst, lenD_tup, ixD_tup, ixD_lst, eqD_int, eqD_str, neD_int, neD_str, leD_int, ltD_int, gtD_int, geD_int, addD_int, subD_int, intD_int, gx0, gx1, gx2, gs0, gs2, hx0, hx1, hx2, hs0, hs2, capN, Nat.zero_le, Nat.reduceLeDiff, Nat.reduceEqDiff, Nat.reduceLT, Bool.not_true, Bool.not_false, Bool.true_and, Bool.false_and, b__law_rallies, e, lc, List.append_nil]
end K08

set_option maxHeartbeats 4000000
namespace K08
open PySem PySem.Spec PyProof.Rows L2 DL
/-! ### refusals -/
theorem all_ref {S : Sto} (hS : S.all coFree = true) {w v : D} : ∀ (hs : List Thk), hs.length < capN → (∀ h ∈ hs, g__law_refused h [w, v] S = .ok (.bl true) S) → g__law_all_refused hs [w, v] S = .ok (.bl true) S := by
  intro hs hl h
  have al : ∀ hs : List Thk, (∀ h ∈ hs, g__law_refused h [w, v] S = .ok (.bl true) S) → allL g__law_refused hs [w, v] S = .ok () S := by
    intro hs
    induction hs with
    | nil => exact fun _ => rfl
    | cons t ts ih =>
      intro h
      simp only [allL, h t List.mem_cons_self, Res.bind_ok, ih fun x m => h x (List.mem_cons_of_mem _ m)]
  unfold g__law_all_refused allD
  rw [al hs h, if_pos ⟨hl, rfl⟩]
  show (if (S.all coFree && decide (S.length ≤ S.length)) = true then Res.ok (D.bl true) S else .bad) = _
  rw [hS, decide_eq_true (Nat.le_refl _)]
  rfl
def isText : Option D → Bool
  | some (.str _) => true
  | _ => false
theorem text_of {o : Option D} (h : isText o = true) : ∃ t : Str, o = some (.str t) := by
  unfold isText at h
  split at h
  · exact ⟨_, rfl⟩
  · cases h
section
variable {TP0 : Addr} {a b c : Int}
theorem caught_at {h : Thk} {cls word : Str} {v : D} (e : h [CO.tab TP0 q__law_calls, gen a b c] = .err cls v [CO.tab TP0 q__law_calls, gen a b c]) (nc : noCel v = true)
    (k : finD (if xsL.contains cls then r__law_caught ((List.replicate N__law_caught.length none).set 1 (some (.exc cls v))) [CO.tab TP0 q__law_calls, gen a b c] else .bad) = .ok (.tup [.str word, v]) [CO.tab TP0 q__law_calls, gen a b c]) :
    g__law_caught h [CO.tab TP0 q__law_calls, gen a b c] = .ok (.tup [.str word, v]) [CO.tab TP0 q__law_calls, gen a b c] := by
  unfold g__law_caught caughtD
  rw [e]
  show tidy _ (finD (if xsL.contains cls then r__law_caught ((List.replicate N__law_caught.length none).set 1 (some (.exc cls v))) [CO.tab TP0 q__law_calls, gen a b c] else .bad)) = _
  rw [k]
  refine tidy_ok rfl ?_
  show (noCel (.str word) && (noCel v && true)) = true
  rw [nc]
  rfl
theorem ref_any {h : Thk} {cls word t : Str} {v : D} (e : h [CO.tab TP0 q__law_calls, gen a b c] = .err cls v [CO.tab TP0 q__law_calls, gen a b c]) (nc : noCel v = true)
    (rp : reprT [v] [CO.tab TP0 q__law_calls, gen a b c] = some (.str t))
    (k : finD (if xsL.contains cls then r__law_caught ((List.replicate N__law_caught.length none).set 1 (some (.exc cls v))) [CO.tab TP0 q__law_calls, gen a b c] else .bad) = .ok (.tup [.str word, v]) [CO.tab TP0 q__law_calls, gen a b c]) :
    g__law_refused h [.str word, v] [CO.tab TP0 q__law_calls, gen a b c] = .ok (.bl true) [CO.tab TP0 q__law_calls, gen a b c] := by
  have e1 := caught_at e nc k
  unfold g__law_refused refD
  rw [e1]
  have e2 : finD (r__law_refused [none, some (.str word), some v, some (.tup [.str word, v])] [CO.tab TP0 q__law_calls, gen a b c]) = .ok (.bl true) [CO.tab TP0 q__law_calls, gen a b c] := by
    simp only [r__law_refused, fC_ap, fVar_ap, fOp_ap, fB_ap, fAnd_ap, fOr_ap, fNot_ap, fAndV_ap, fOrV_ap, fNotV_ap, fIf_ap, fNil_ap, fCons_ap, fTup_ap, fLst_ap, fLstC_ap, fNoPart_ap, fPart_ap, fSl_ap, fNeg_ap, fCB_ap, fIsi_ap, fIsi2_ap, fNext_ap, fSeq_ap, fRet_ap, fRetF_ap, fgName_ap, fgNil_ap, fgCons_ap, fgTup_ap, fgSub_ap, fAsg_ap, fPar_ap, fPar3_ap, fDrop_ap, fApp_ap, fIfS_ap, fiSeq_ap, fiTup_ap, fiEnum_ap, fYes_ap, fCall_ap, fCall0_ap, fChain_ap, fBits_ap, fAddC_ap, fiAny_ap, Res.bind_ok, asB_ok, okO_some, bodyD, asB, iterOf, withLock_none, noErr_ok, wipeE, List.map_cons, List.map_nil, List.length_cons, List.length_nil, List.cons_append, List.nil_append, List.getElem?_cons_zero, List.getElem?_cons_succ, List.set_cons_zero, List.set_cons_succ, if_true, Bool.false_eq_true, if_false, Nat.reduceAdd, Nat.reduceSub, Nat.zero_add, List.replicate, tyD, atI_0, atI_1, lenD_lst, lenD_tup, ixD_tup, ixD_lst, eqD_int, eqD_str, neD_int, neD_str, leD_int, ltD_int, gtD_int, geD_int, addD_int, subD_int, intD_int, gx0, gx1, gx2, gs0, gs2, hx0, hx1, hx2, hs0, hs2, capN, Nat.zero_le, Nat.reduceLeDiff, Nat.reduceEqDiff, Nat.reduceLT, Bool.not_true, Bool.not_false, Bool.true_and, Bool.false_and, rp, decide_true]
    rfl
  show tidy _ (finD (r__law_refused [none, some (.str word), some v, some (.tup [.str word, v])] [CO.tab TP0 q__law_calls, gen a b c])) = _
  rw [e2]
  exact tidy_ok rfl rfl
theorem k_rule (v : D) : finD (if xsL.contains "InvalidRule" then r__law_caught ((List.replicate N__law_caught.length none).set 1 (some (.exc "InvalidRule" v))) [CO.tab TP0 q__law_calls, gen a b c] else .bad) = .ok (.tup [.str "rule", v]) [CO.tab TP0 q__law_calls, gen a b c] := by kernel_rfl
theorem k_side (v : D) : finD (if xsL.contains "InvalidSide" then r__law_caught ((List.replicate N__law_caught.length none).set 1 (some (.exc "InvalidSide" v))) [CO.tab TP0 q__law_calls, gen a b c] else .bad) = .ok (.tup [.str "side", v]) [CO.tab TP0 q__law_calls, gen a b c] := by kernel_rfl
theorem k_rallies (v : D) : finD (if xsL.contains "InvalidRallies" then r__law_caught ((List.replicate N__law_caught.length none).set 1 (some (.exc "InvalidRallies" v))) [CO.tab TP0 q__law_calls, gen a b c] else .bad) = .ok (.tup [.str "rallies", v]) [CO.tab TP0 q__law_calls, gen a b c] := by kernel_rfl
theorem k_ended (v : D) : finD (if xsL.contains "Ended" then r__law_caught ((List.replicate N__law_caught.length none).set 1 (some (.exc "Ended" v))) [CO.tab TP0 q__law_calls, gen a b c] else .bad) = .ok (.tup [.str "ended", v]) [CO.tab TP0 q__law_calls, gen a b c] := by kernel_rfl
end
def raceV : D := .tup [.str "race", .int 2, .int 1, .non, .tup [.str "on"], .tup [.str "rally"], .lst []]
def wrongs : List D := [.non, .int 7, .str "rally", .tup [.str "rally", .int 1],
  .lst [.str "race", .int 2, .int 1, .non, .tup [.str "on"], .tup [.str "rally"], .lst []],
  .tup [.str "race", .int 2, .int 1, .non, .tup [.str "on"], .tup [.str "rally"]],
  .tup [.str "race", .int 0, .int 1, .non, .tup [.str "on"], .tup [.str "rally"], .lst []],
  .tup [.str "race", .int 2, .int 1, .int 1, .tup [.str "on"], .tup [.str "rally"], .lst []]]
def bads : List D := wrongs ++ [.tup [.str "race", .int 2, .int 1, .non, .str "on", .tup [.str "rally"], .lst []],
  .tup [.str "race", .int 2, .int 1, .non, .tup [.str "on"], .tup [.str "r"], .lst []],
  .tup [.str "race", .int 2, .int 1, .non, .tup [.str "on"], .tup [.str "rally"], .non]]
def sides : List D := [.non, .int 2, .int (-1), .bl true, .bl false, .str "0", .tup [.int 0], .lst [.int 1]]
theorem bads_bad : (bads.all fun v => !isRuleN 4 v && fit v 5) = true := by decide +kernel
theorem sides_bad : (sides.all fun v => !isBtw 0 1 v && fit v 5) = true := by decide +kernel
theorem bads_text (TP0 : Addr) (a b c : Int) : (bads.all fun v => isText (reprT [v] [CO.tab TP0 q__law_calls, gen a b c])) = true := by kernel_rfl
theorem sides_text (TP0 : Addr) (a b c : Int) : (sides.all fun v => isText (reprT [v] [CO.tab TP0 q__law_calls, gen a b c])) = true := by kernel_rfl
/-! ### repr of what is drawn -/
theorem repr_any {S : Sto} {d : D} {n : Nat} (f : fit d n = true) (hn : n ≤ 64) (t : tiny d = true) (b : bnd d ≤ 200000) (nd : ∀ xs, d ≠ .dct xs) : ∃ t : Str, reprT [d] S = some (.str t) := by
  have er : reprT [d] S = reprD [d] S := by
    cases d with
    | dct xs => exact absurd rfl (nd xs)
    | _ => rfl
  obtain ⟨p, hp, c1, c2⟩ := fit_to (S := S) f
  obtain ⟨l, sh⟩ := shown_len t hp
  refine ⟨p.shown, ?_⟩
  have d1 : decide (p.depth ≤ 64) = true := decide_eq_true (by omega)
  have d2 : decide (p.shown.length ≤ capN) = true := decide_eq_true (Nat.le_of_lt (capN_of (by omega)))
  rw [er]
  show (match toP S d with
    | some p => if p.showable && decide (p.depth ≤ 64) && decide (p.shown.length ≤ capN) then some (D.str p.shown) else none
    | none => none) = _
  rw [hp]
  show (if (p.showable && decide (p.depth ≤ 64) && decide (p.shown.length ≤ capN)) = true then _ else _) = _
  rw [sh, d1, d2]
  rfl
def okV : D → Bool
  | .non => true
  | .bl _ => true
  | .int i => decide (0 ≤ i) && decide (i < 64)
  | _ => false
theorem okv_facts : ∀ {ys : List D}, ys.all okV = true → fits ys 0 = true ∧ tinys ys = true ∧ bnds ys = 10 * ys.length
  | [], _ => ⟨rfl, rfl, rfl⟩
  | y :: ys, h => by
    simp only [List.all_cons, Bool.and_eq_true] at h
    obtain ⟨i1, i2, i3⟩ := okv_facts h.2
    have q := h.1
    cases y with
    | non => exact ⟨by simp only [fits, fit, i1, Bool.and_self], by simp only [tinys, tiny, i2, Bool.and_self], by simp only [bnds, bnd, i3, List.length_cons]; omega⟩
    | bl b => exact ⟨by simp only [fits, fit, i1, Bool.and_self], by simp only [tinys, tiny, i2, Bool.and_self], by simp only [bnds, bnd, i3, List.length_cons]; omega⟩
    | int i => exact ⟨by simp only [fits, fit, i1, Bool.and_self], by simp only [okV] at q; simp only [tinys, tiny, i2, q, Bool.and_self], by simp only [bnds, bnd, i3, List.length_cons]; omega⟩
    | _ => simp [okV] at q
theorem okv_text {S : Sto} {ys : List D} (h : ys.all okV = true) (l : ys.length ≤ 100) : (∃ t : Str, reprT [.lst ys] S = some (.str t)) ∧ ∃ t : Str, reprT [.tup ys] S = some (.str t) := by
  obtain ⟨f, t, b⟩ := okv_facts h
  exact ⟨repr_any (n := 1) (show fits ys 0 = true from f) (by decide) (show tinys ys = true from t) (by simp only [bnd]; omega) (fun _ z => nomatch z), repr_any (n := 1) (show fits ys 0 = true from f) (by decide) (show tinys ys = true from t) (by simp only [bnd]; omega) (fun _ z => nomatch z)⟩
theorem mk_at {ti nm n M : Nat} {P : Addr} {q : Str} {g : List Thk → List D → Sto → Res D} {fbs : List FE} {fm : FA} {fa : DL.Env → Option (List D)} {ρ : DL.Env} {S S1 : Sto} {ds es : List D} (h1 : fm ρ S = .ok ds S1) (h2 : ds.length = nm) (h3 : fbs.length ≤ capN) (h4 : S1[ti]? = some (.tab P q)) (h5 : fa ρ = some es) (h6 : es.length = n) :
    fMk ti P q nm n M g fbs fm fa ρ S = g (fbs.map fun fb T => fb (ds.map some ++ List.replicate (M - nm) none) T) es S1 := by
  unfold fMk
  rw [h1]
  show (if ds.length = nm ∧ fbs.length ≤ capN then _ else _) = _
  rw [if_pos ⟨h2, h3⟩, h4, h5]
  show (if P = P ∧ q = q ∧ es.length = n then _ else _) = _
  rw [if_pos ⟨rfl, rfl, h6⟩]
theorem len_c {α : Type} {g : FE → α} : (l__law_calls.map g).length < capN := by
  rw [List.length_map]
  decide +kernel
/-! ### matches that have ended -/
section
variable {TP0 : Addr} {a b c : Int}
theorem ended_rally {i : Int} (hi : i = 0 ∨ i = 1) : ∀ t ∈ l__law_calls.map (fun (fb : FE) (T : Sto) => fb ([.tup [.str "rally"], .int i, .lst [.int 0, .int 1, .int 1]].map some ++ List.replicate (N__law_calls.length - 3) none) T), t [CO.tab TP0 q__law_calls, gen a b c] = .err "Ended" (.int 1) [CO.tab TP0 q__law_calls, gen a b c] := by
  intro t ht
  simp only [l__law_calls, List.map_cons, List.map_nil, List.mem_cons, List.not_mem_nil, or_false] at ht
  rcases hi with rfl | rfl <;> rcases ht with rfl | rfl | rfl | rfl | rfl | rfl <;> kernel_rfl
theorem ended_race {i j : Int} (hi : i = 0 ∨ i = 1) (hj : j = 0 ∨ j = 1) : ∀ t ∈ l__law_calls.map (fun (fb : FE) (T : Sto) => fb ([raceV, .int i, .lst [.int 0, .int 0, .int j]].map some ++ List.replicate (N__law_calls.length - 3) none) T), t [CO.tab TP0 q__law_calls, gen a b c] = .err "Ended" (.int 2) [CO.tab TP0 q__law_calls, gen a b c] := by
  intro t ht
  simp only [l__law_calls, List.map_cons, List.map_nil, List.mem_cons, List.not_mem_nil, or_false] at ht
  rcases hi with rfl | rfl <;> rcases hj with rfl | rfl <;> rcases ht with rfl | rfl | rfl | rfl | rfl | rfl <;> kernel_rfl
end
end K08

set_option maxHeartbeats 4000000
namespace K08
open PySem PySem.Spec PyProof.Rows L2 DL
abbrev S0 (TP0 : Addr) (a b c : Int) : Sto := [CO.tab TP0 q__law_calls, gen a b c]
def ruleBody (TP0 : Addr) : FS := (fIfS (fOr (fNot (fB (fMk 0 TP0 q__law_calls 3 2 N__law_calls.length g__law_all_refused l__law_calls (fCons (fVar 8) (fCons (fC .non) (fCons (fC .non) fNil))) (sC (.str "rule") (sV 8 sNil))))) (fNot (fB (fMk 0 TP0 q__law_calls 3 2 N__law_calls.length g__law_all_refused l__law_calls (fCons (fVar 8) (fCons (fVar 3) (fCons (fVar 4) fNil))) (sC (.str "rule") (sV 8 sNil)))))) (fRet (fC (.bl false))) fNext)
def sideBody (TP0 : Addr) : FS := (fIfS (fOr (fNot (fB (fMk 0 TP0 q__law_calls 3 2 N__law_calls.length g__law_all_refused l__law_calls (fCons (fVar 2) (fCons (fVar 8) (fCons (fC .non) fNil))) (sC (.str "side") (sV 8 sNil))))) (fNot (fB (fMk 0 TP0 q__law_calls 3 2 N__law_calls.length g__law_all_refused l__law_calls (fCons (fVar 2) (fCons (fVar 8) (fCons (fVar 4) fNil))) (sC (.str "side") (sV 8 sNil)))))) (fRet (fC (.bl false))) fNext)
def raBody (TP0 : Addr) : FS := (fIfS (fNot (fB (fMk 0 TP0 q__law_calls 3 2 N__law_calls.length g__law_all_refused l__law_calls (fCons (fVar 2) (fCons (fVar 3) (fCons (fVar 8) fNil))) (sC (.str "rallies") (sV 8 sNil))))) (fRet (fC (.bl false))) fNext)
def ral (ys : List D) : List D := [.non, .int 7, .tup ys, .str "01", .lst (ys ++ [.int 2]), .lst (.bl true :: ys), .lst (ys.take 1 ++ [.non] ++ ys.drop 1), .lst [.lst [.int 0]], .dct [], .lst [.int (-1)]]
def envL (scr r fi : D) (ys : List D) (kept : Str) (t : Option D) : DL.Env := [some scr, some (.cel 1), some r, some fi, some (.lst ys), some (.str kept), some raceV, some (.lst wrongs), t]
section
variable {TP0 : Addr} {a b c : Int} {scr r : D} {ys : List D} {kept : Str} {k : Nat} {i : Int}
theorem rule_step {v : D} (hv : v ∈ bads) : ruleBody TP0 (envL scr r (.int i) ys kept (some v)) [CO.tab TP0 q__law_calls, gen a b c] = .ok (.nx, envL scr r (.int i) ys kept (some v)) [CO.tab TP0 q__law_calls, gen a b c] := by
  have hS : List.all [CO.tab TP0 q__law_calls, gen a b c] coFree = true := rfl
  have q := List.all_eq_true.mp bads_bad v hv
  simp only [Bool.and_eq_true, Bool.not_eq_true'] at q
  obtain ⟨t, ht⟩ := text_of (List.all_eq_true.mp (bads_text TP0 a b c) v hv)
  have c1 := match_rule (d := .non) (l := .non) hS q.2 (by decide) q.1
  have c2 := match_rule (d := .int i) (l := .lst ys) hS q.2 (by decide) q.1
  have m1 : (fMk 0 TP0 q__law_calls 3 2 N__law_calls.length g__law_all_refused l__law_calls (fCons (fVar 8) (fCons (fC .non) (fCons (fC .non) fNil))) (sC (.str "rule") (sV 8 sNil))) (envL scr r (.int i) ys kept (some v)) [CO.tab TP0 q__law_calls, gen a b c] = .ok (.bl true) [CO.tab TP0 q__law_calls, gen a b c] :=
    (mk_at (ds := [v, .non, .non]) (es := [.str "rule", v]) rfl rfl (by decide +kernel) rfl rfl rfl).trans (all_ref hS _ len_c fun h hm => ref_any (calls_err hS c1 (fit_nc q.2) h hm) (fit_nc q.2) ht (k_rule v))
  have m2 : (fMk 0 TP0 q__law_calls 3 2 N__law_calls.length g__law_all_refused l__law_calls (fCons (fVar 8) (fCons (fVar 3) (fCons (fVar 4) fNil))) (sC (.str "rule") (sV 8 sNil))) (envL scr r (.int i) ys kept (some v)) [CO.tab TP0 q__law_calls, gen a b c] = .ok (.bl true) [CO.tab TP0 q__law_calls, gen a b c] :=
    (mk_at (ds := [v, .int i, .lst ys]) (es := [.str "rule", v]) rfl rfl (by decide +kernel) rfl rfl rfl).trans (all_ref hS _ len_c fun h hm => ref_any (calls_err hS c2 (fit_nc q.2) h hm) (fit_nc q.2) ht (k_rule v))
  unfold ruleBody
  simp only [fIfS_ap, fOr_ap, fNot_ap, fB_ap, m1, m2, Res.bind_ok, asB_ok, asB, fNext_ap, if_true, if_false, Bool.not_true, Bool.false_eq_true]
theorem side_step {v : D} (hr : isRuleN k r = true) (hf : fit r 20 = true) (hk : k ≤ 4) (hv : v ∈ sides) : sideBody TP0 (envL scr r (.int i) ys kept (some v)) [CO.tab TP0 q__law_calls, gen a b c] = .ok (.nx, envL scr r (.int i) ys kept (some v)) [CO.tab TP0 q__law_calls, gen a b c] := by
  have hS : List.all [CO.tab TP0 q__law_calls, gen a b c] coFree = true := rfl
  have q := List.all_eq_true.mp sides_bad v hv
  simp only [Bool.and_eq_true, Bool.not_eq_true'] at q
  obtain ⟨t, ht⟩ := text_of (List.all_eq_true.mp (sides_text TP0 a b c) v hv)
  have c1 := match_side (l := .non) hS hf (by decide) (rule_le hr hk) q.2 q.1
  have c2 := match_side (l := .lst ys) hS hf (by decide) (rule_le hr hk) q.2 q.1
  have m1 : (fMk 0 TP0 q__law_calls 3 2 N__law_calls.length g__law_all_refused l__law_calls (fCons (fVar 2) (fCons (fVar 8) (fCons (fC .non) fNil))) (sC (.str "side") (sV 8 sNil))) (envL scr r (.int i) ys kept (some v)) [CO.tab TP0 q__law_calls, gen a b c] = .ok (.bl true) [CO.tab TP0 q__law_calls, gen a b c] :=
    (mk_at (ds := [r, v, .non]) (es := [.str "side", v]) rfl rfl (by decide +kernel) rfl rfl rfl).trans (all_ref hS _ len_c fun h hm => ref_any (calls_err hS c1 (fit_nc q.2) h hm) (fit_nc q.2) ht (k_side v))
  have m2 : (fMk 0 TP0 q__law_calls 3 2 N__law_calls.length g__law_all_refused l__law_calls (fCons (fVar 2) (fCons (fVar 8) (fCons (fVar 4) fNil))) (sC (.str "side") (sV 8 sNil))) (envL scr r (.int i) ys kept (some v)) [CO.tab TP0 q__law_calls, gen a b c] = .ok (.bl true) [CO.tab TP0 q__law_calls, gen a b c] :=
    (mk_at (ds := [r, v, .lst ys]) (es := [.str "side", v]) rfl rfl (by decide +kernel) rfl rfl rfl).trans (all_ref hS _ len_c fun h hm => ref_any (calls_err hS c2 (fit_nc q.2) h hm) (fit_nc q.2) ht (k_side v))
  unfold sideBody
  simp only [fIfS_ap, fOr_ap, fNot_ap, fB_ap, m1, m2, Res.bind_ok, asB_ok, asB, fNext_ap, if_true, if_false, Bool.not_true, Bool.false_eq_true]
theorem ral_facts (hy : ∀ v ∈ ys, v = .int 0 ∨ v = .int 1) (hl : ys.length = 12) {v : D} (hv : v ∈ ral ys) :
    g_check_rallies [v] [CO.tab TP0 q__law_calls, gen a b c] = .err "InvalidRallies" v [CO.tab TP0 q__law_calls, gen a b c] ∧ noCel v = true ∧ ∃ t : Str, reprT [v] [CO.tab TP0 q__law_calls, gen a b c] = some (.str t) := by
  have hS : List.all [CO.tab TP0 q__law_calls, gen a b c] coFree = true := rfl
  have ok : ys.all okV = true := by
    rw [List.all_eq_true]
    intro v hv
    rcases hy v hv with rfl | rfl <;> rfl
  have okT : ∀ n, (ys.take n).all okV = true := fun n => by
    rw [List.all_eq_true] at ok ⊢
    exact fun v hv => ok v (List.mem_of_mem_take hv)
  have okD : ∀ n, (ys.drop n).all okV = true := fun n => by
    rw [List.all_eq_true] at ok ⊢
    exact fun v hv => ok v (List.mem_of_mem_drop hv)
  have lst : ∀ zs : List D, zs.all okV = true → zs.length ≤ 100 → zs.all (isBtw 0 1) = false → g_check_rallies [.lst zs] [CO.tab TP0 q__law_calls, gen a b c] = .err "InvalidRallies" (.lst zs) [CO.tab TP0 q__law_calls, gen a b c] ∧ noCel (.lst zs) = true ∧ ∃ t : Str, reprT [.lst zs] [CO.tab TP0 q__law_calls, gen a b c] = some (.str t) := fun zs h1 h2 h3 => by
    have f := (okv_facts h1).1
    have f1 : fit (.lst zs) 1 = true := f
    refine ⟨rallies_err hS f1 (by decide) (fun xs e => ?_) h3, fit_nc f1, (okv_text h1 h2).1⟩
    cases e
    omega
  simp only [ral, List.mem_cons, List.not_mem_nil, or_false] at hv
  rcases hv with rfl | rfl | rfl | rfl | rfl | rfl | rfl | rfl | rfl | rfl
  · exact ⟨by kernel_rfl, rfl, text_of (by kernel_rfl)⟩
  · exact ⟨by kernel_rfl, rfl, text_of (by kernel_rfl)⟩
  · have f := (okv_facts ok).1
    have f1 : fit (.tup ys) 1 = true := f
    exact ⟨rallies_err hS f1 (by decide) (fun xs e => nomatch e) rfl, fit_nc f1, (okv_text ok (by omega)).2⟩
  · exact ⟨by kernel_rfl, by decide +kernel, text_of (by kernel_rfl)⟩
  · have q := lst (ys ++ [.int 2]) (by
        rw [List.all_append, ok]
        rfl) (by
        rw [List.length_append, hl]
        decide) (by
        rw [List.all_append]
        simp [isBtw])
    exact ⟨q.1, q.2.1, q.2.2⟩
  · have q := lst (.bl true :: ys) (by
        rw [List.all_cons, ok]
        rfl) (by
        rw [List.length_cons, hl]
        decide) (by
        rw [List.all_cons]
        simp [isBtw])
    exact ⟨q.1, q.2.1, q.2.2⟩
  · have q := lst (ys.take 1 ++ [.non] ++ ys.drop 1) (by
        rw [List.all_append, List.all_append, okT, okD]
        rfl) (by
        rw [List.length_append, List.length_append, List.length_take, List.length_drop, hl]
        decide) (by
        rw [List.all_append, List.all_append]
        simp [isBtw])
    exact ⟨q.1, q.2.1, q.2.2⟩
  · exact ⟨by kernel_rfl, rfl, text_of (by kernel_rfl)⟩
  · exact ⟨by kernel_rfl, rfl, text_of (by kernel_rfl)⟩
  · exact ⟨by kernel_rfl, rfl, text_of (by kernel_rfl)⟩
theorem ra_step {v : D} (hr : isRuleN k r = true) (hf : fit r 20 = true) (hk : k ≤ 4) (hi : i = 0 ∨ i = 1) (hy : ∀ v ∈ ys, v = .int 0 ∨ v = .int 1) (hl : ys.length = 12) (hv : v ∈ ral ys) : raBody TP0 (envL scr r (.int i) ys kept (some v)) [CO.tab TP0 q__law_calls, gen a b c] = .ok (.nx, envL scr r (.int i) ys kept (some v)) [CO.tab TP0 q__law_calls, gen a b c] := by
  have hS : List.all [CO.tab TP0 q__law_calls, gen a b c] coFree = true := rfl
  obtain ⟨q1, q2, t, ht⟩ := ral_facts (TP0 := TP0) (a := a) (b := b) (c := c) hy hl hv
  have bt : isBtw 0 1 (.int i) = true := by rcases hi with rfl | rfl <;> rfl
  have c1 := match_rallies (d := .int i) (m := 0) hS hf (by decide) (rule_le hr hk) rfl bt q1 q2
  have m1 : (fMk 0 TP0 q__law_calls 3 2 N__law_calls.length g__law_all_refused l__law_calls (fCons (fVar 2) (fCons (fVar 3) (fCons (fVar 8) fNil))) (sC (.str "rallies") (sV 8 sNil))) (envL scr r (.int i) ys kept (some v)) [CO.tab TP0 q__law_calls, gen a b c] = .ok (.bl true) [CO.tab TP0 q__law_calls, gen a b c] :=
    (mk_at (ds := [r, .int i, v]) (es := [.str "rallies", v]) rfl rfl (by decide +kernel) rfl rfl rfl).trans (all_ref hS _ len_c fun h hm => ref_any (calls_err hS c1 q2 h hm) q2 ht (k_rallies v))
  unfold raBody
  simp only [fIfS_ap, fOr_ap, fNot_ap, fB_ap, m1, Res.bind_ok, asB_ok, asB, fNext_ap, if_true, if_false, Bool.not_true, Bool.false_eq_true]
end
theorem loop_all {f : FS} {scr r fi : D} {ys : List D} {kept : Str} {S : Sto} : ∀ (vs : List D) {t : Option D}, (∀ v ∈ vs, f (envL scr r fi ys kept (some v)) S = .ok (.nx, envL scr r fi ys kept (some v)) S) →
    ∃ t', loopD (fgName 8) f vs (envL scr r fi ys kept t) S = .ok (.nx, envL scr r fi ys kept t') S
  | [], t, _ => ⟨t, rfl⟩
  | v :: vs, t, h => by
    have e := h v List.mem_cons_self
    obtain ⟨t', e2⟩ := loop_all vs (t := some v) fun x m => h x (List.mem_cons_of_mem _ m)
    refine ⟨t', ?_⟩
    unfold loopD
    have st : fgName 8 v (envL scr r fi ys kept t) S = .ok (envL scr r fi ys kept (some v)) S := rfl
    rw [st]
    simp only [Res.bind_ok, e, e2]
theorem unc {n : Nat} {zs : List D} (h : zs.length = n + 1) : ∃ z r, zs = z :: r ∧ r.length = n := by
  cases zs with
  | nil => cases h
  | cons z r => exact ⟨z, r, rfl, by simpa using h⟩
theorem law_ok : ∀ TP0 : PySem.Addr, LawOkT (g_law TP0) [.tab TP0 q__law_calls] 63 := by
  intro TP0 ns _ _
  obtain ⟨x0, e0, G0⟩ := generator_ok (TP0 := TP0) (ns := ns)
  have hn : List.all ([] : Sto) coFree = true := rfl
  obtain ⟨x1, r, e1, G1, hr⟩ := rule_draw (TP0 := TP0) 2 (by decide) 16 (by decide) G0 (by decide) hn
  obtain ⟨x2, i, e2, G2, i0, i1⟩ := random_ok (TP0 := TP0) G1 (by decide) hn (bd := 2) (by decide) (by decide)
  obtain ⟨x3, ys, e3, G3, hl, hy⟩ := drawn_ok (TP0 := TP0) G2 (by decide) hn
  obtain ⟨a, b, c, rfl, _⟩ := G3
  have hi : i = 0 ∨ i = 1 := by omega
  have hS : List.all [CO.tab TP0 q__law_calls, gen a b c] coFree = true := rfl
  have ok : ys.all okV = true := by
    rw [List.all_eq_true]
    intro v hv
    rcases hy v hv with rfl | rfl <;> rfl
  obtain ⟨o1, o2, o3⟩ := okv_facts ok
  obtain ⟨kept, e5⟩ : ∃ t : Str, reprT [.lst [r, .lst ys]] [CO.tab TP0 q__law_calls, gen a b c] = some (.str t) := by
    have f : fit (.lst [r, .lst ys]) 15 = true := by
      have f2 : fit (.lst ys) 14 = true := fit_up (n := 1) (by decide) (show fits ys 0 = true from o1)
      show fits [r, .lst ys] 14 = true
      simp only [fits, fit_up (show 3 * 2 + 2 ≤ 14 by decide) hr.fit_, f2, Bool.and_self]
    have t : tiny (.lst [r, .lst ys]) = true := by
      show tinys [r, .lst ys] = true
      have t2 : tiny (.lst ys) = true := o2
      simp only [tinys, hr.tiny_, t2, Bool.and_self]
    refine repr_any f (by decide) t ?_ (fun _ z => nomatch z)
    have b1 := hr.bnd_
    simp only [bnd, bnds, o3, hl]
    have : (200 * 4 ^ 2 : Nat) = 3200 := by decide
    omega
  have s0 : (fAsg (fCall 2 g__law_generator (fCons (fVar 0) (fCons (fC (.int 0)) fNil))) (fgName 1)) [some (.kls (ns.map .int)), none, none, none, none, none, none, none, none] [CO.tab TP0 q__law_calls] = .ok (.nx, [some (.kls (ns.map .int)), some (.cel 1), none, none, none, none, none, none, none]) [CO.tab TP0 q__law_calls, x0] := by
    simp only [fC_ap, fVar_ap, fOp_ap, fB_ap, fAnd_ap, fOr_ap, fNot_ap, fAndV_ap, fOrV_ap, fNotV_ap, fIf_ap, fNil_ap, fCons_ap, fTup_ap, fLst_ap, fLstC_ap, fNoPart_ap, fPart_ap, fSl_ap, fNeg_ap, fCB_ap, fIsi_ap, fIsi2_ap, fNext_ap, fSeq_ap, fRet_ap, fRetF_ap, fgName_ap, fgNil_ap, fgCons_ap, fgTup_ap, fgSub_ap, fAsg_ap, fPar_ap, fPar3_ap, fDrop_ap, fApp_ap, fIfS_ap, fiSeq_ap, fiTup_ap, fiEnum_ap, fYes_ap, fCall_ap, fCall0_ap, fChain_ap, fBits_ap, fAddC_ap, fiAny_ap, Res.bind_ok, asB_ok, okO_some, bodyD, asB, iterOf, withLock_none, noErr_ok, wipeE, List.map_cons, List.map_nil, List.length_cons, List.length_nil, List.cons_append, List.nil_append, List.getElem?_cons_zero, List.getElem?_cons_succ, List.set_cons_zero, List.set_cons_succ, if_true, Bool.false_eq_true, if_false, Nat.reduceAdd, Nat.reduceSub, Nat.zero_add, List.replicate, tyD, atI_0, atI_1, lenD_lst, lenD_tup, ixD_tup, ixD_lst, eqD_int, eqD_str, neD_int, neD_str, leD_int, ltD_int, gtD_int, geD_int, addD_int, subD_int, intD_int, gx0, gx1, gx2, gs0, gs2, hx0, hx1, hx2, hs0, hs2, capN, Nat.zero_le, Nat.reduceLeDiff, Nat.reduceEqDiff, Nat.reduceLT, Bool.not_true, Bool.not_false, Bool.true_and, Bool.false_and, e0]
  have s1 : (fPar 2 3 (fCons (fCall 3 (g__law_rule 16) (fCons (fVar 1) (fCons (fC (.int 2)) (fCons (fC (.int 3)) fNil)))) (fCons (fCall 2 g__law_random (fCons (fVar 1) (fCons (fC (.int 2)) fNil))) fNil))) [some (.kls (ns.map .int)), some (.cel 1), none, none, none, none, none, none, none] [CO.tab TP0 q__law_calls, x0] = .ok (.nx, [some (.kls (ns.map .int)), some (.cel 1), some r, some (.int i), none, none, none, none, none]) [CO.tab TP0 q__law_calls, x2] := by
    have e1' : g__law_rule 16 [.cel 1, .int 2, .int 3] [CO.tab TP0 q__law_calls, x0] = .ok r [CO.tab TP0 q__law_calls, x1] := e1
    simp only [fC_ap, fVar_ap, fOp_ap, fB_ap, fAnd_ap, fOr_ap, fNot_ap, fAndV_ap, fOrV_ap, fNotV_ap, fIf_ap, fNil_ap, fCons_ap, fTup_ap, fLst_ap, fLstC_ap, fNoPart_ap, fPart_ap, fSl_ap, fNeg_ap, fCB_ap, fIsi_ap, fIsi2_ap, fNext_ap, fSeq_ap, fRet_ap, fRetF_ap, fgName_ap, fgNil_ap, fgCons_ap, fgTup_ap, fgSub_ap, fAsg_ap, fPar_ap, fPar3_ap, fDrop_ap, fApp_ap, fIfS_ap, fiSeq_ap, fiTup_ap, fiEnum_ap, fYes_ap, fCall_ap, fCall0_ap, fChain_ap, fBits_ap, fAddC_ap, fiAny_ap, Res.bind_ok, asB_ok, okO_some, bodyD, asB, iterOf, withLock_none, noErr_ok, wipeE, List.map_cons, List.map_nil, List.length_cons, List.length_nil, List.cons_append, List.nil_append, List.getElem?_cons_zero, List.getElem?_cons_succ, List.set_cons_zero, List.set_cons_succ, if_true, Bool.false_eq_true, if_false, Nat.reduceAdd, Nat.reduceSub, Nat.zero_add, List.replicate, tyD, atI_0, atI_1, lenD_lst, lenD_tup, ixD_tup, ixD_lst, eqD_int, eqD_str, neD_int, neD_str, leD_int, ltD_int, gtD_int, geD_int, addD_int, subD_int, intD_int, gx0, gx1, gx2, gs0, gs2, hx0, hx1, hx2, hs0, hs2, capN, Nat.zero_le, Nat.reduceLeDiff, Nat.reduceEqDiff, Nat.reduceLT, Bool.not_true, Bool.not_false, Bool.true_and, Bool.false_and, e1', e2]
  have s2 : (fAsg (fCall 2 g__law_rallies (fCons (fVar 1) (fCons (fC (.int 12)) fNil))) (fgName 4)) [some (.kls (ns.map .int)), some (.cel 1), some r, some (.int i), none, none, none, none, none] [CO.tab TP0 q__law_calls, x2] = .ok (.nx, [some (.kls (ns.map .int)), some (.cel 1), some r, some (.int i), some (.lst ys), none, none, none, none]) [CO.tab TP0 q__law_calls, gen a b c] := by
    simp only [fC_ap, fVar_ap, fOp_ap, fB_ap, fAnd_ap, fOr_ap, fNot_ap, fAndV_ap, fOrV_ap, fNotV_ap, fIf_ap, fNil_ap, fCons_ap, fTup_ap, fLst_ap, fLstC_ap, fNoPart_ap, fPart_ap, fSl_ap, fNeg_ap, fCB_ap, fIsi_ap, fIsi2_ap, fNext_ap, fSeq_ap, fRet_ap, fRetF_ap, fgName_ap, fgNil_ap, fgCons_ap, fgTup_ap, fgSub_ap, fAsg_ap, fPar_ap, fPar3_ap, fDrop_ap, fApp_ap, fIfS_ap, fiSeq_ap, fiTup_ap, fiEnum_ap, fYes_ap, fCall_ap, fCall0_ap, fChain_ap, fBits_ap, fAddC_ap, fiAny_ap, Res.bind_ok, asB_ok, okO_some, bodyD, asB, iterOf, withLock_none, noErr_ok, wipeE, List.map_cons, List.map_nil, List.length_cons, List.length_nil, List.cons_append, List.nil_append, List.getElem?_cons_zero, List.getElem?_cons_succ, List.set_cons_zero, List.set_cons_succ, if_true, Bool.false_eq_true, if_false, Nat.reduceAdd, Nat.reduceSub, Nat.zero_add, List.replicate, tyD, atI_0, atI_1, lenD_lst, lenD_tup, ixD_tup, ixD_lst, eqD_int, eqD_str, neD_int, neD_str, leD_int, ltD_int, gtD_int, geD_int, addD_int, subD_int, intD_int, gx0, gx1, gx2, gs0, gs2, hx0, hx1, hx2, hs0, hs2, capN, Nat.zero_le, Nat.reduceLeDiff, Nat.reduceEqDiff, Nat.reduceLT, Bool.not_true, Bool.not_false, Bool.true_and, Bool.false_and, e3]
  have s3 : (fAsg (fCB reprT (fCons (fLst (fCons (fVar 2) (fCons (fVar 4) fNil))) fNil)) (fgName 5)) [some (.kls (ns.map .int)), some (.cel 1), some r, some (.int i), some (.lst ys), none, none, none, none] [CO.tab TP0 q__law_calls, gen a b c] = .ok (.nx, [some (.kls (ns.map .int)), some (.cel 1), some r, some (.int i), some (.lst ys), some (.str kept), none, none, none]) [CO.tab TP0 q__law_calls, gen a b c] := by
    simp only [fC_ap, fVar_ap, fOp_ap, fB_ap, fAnd_ap, fOr_ap, fNot_ap, fAndV_ap, fOrV_ap, fNotV_ap, fIf_ap, fNil_ap, fCons_ap, fTup_ap, fLst_ap, fLstC_ap, fNoPart_ap, fPart_ap, fSl_ap, fNeg_ap, fCB_ap, fIsi_ap, fIsi2_ap, fNext_ap, fSeq_ap, fRet_ap, fRetF_ap, fgName_ap, fgNil_ap, fgCons_ap, fgTup_ap, fgSub_ap, fAsg_ap, fPar_ap, fPar3_ap, fDrop_ap, fApp_ap, fIfS_ap, fiSeq_ap, fiTup_ap, fiEnum_ap, fYes_ap, fCall_ap, fCall0_ap, fChain_ap, fBits_ap, fAddC_ap, fiAny_ap, Res.bind_ok, asB_ok, okO_some, bodyD, asB, iterOf, withLock_none, noErr_ok, wipeE, List.map_cons, List.map_nil, List.length_cons, List.length_nil, List.cons_append, List.nil_append, List.getElem?_cons_zero, List.getElem?_cons_succ, List.set_cons_zero, List.set_cons_succ, if_true, Bool.false_eq_true, if_false, Nat.reduceAdd, Nat.reduceSub, Nat.zero_add, List.replicate, tyD, atI_0, atI_1, lenD_lst, lenD_tup, ixD_tup, ixD_lst, eqD_int, eqD_str, neD_int, neD_str, leD_int, ltD_int, gtD_int, geD_int, addD_int, subD_int, intD_int, gx0, gx1, gx2, gs0, gs2, hx0, hx1, hx2, hs0, hs2, capN, Nat.zero_le, Nat.reduceLeDiff, Nat.reduceEqDiff, Nat.reduceLT, Bool.not_true, Bool.not_false, Bool.true_and, Bool.false_and, e5]
  have s4 : (fAsg (fTup (fCons (fC (.str "race")) (fCons (fC (.int 2)) (fCons (fC (.int 1)) (fCons (fC .non) (fCons (fTup (fCons (fC (.str "on")) fNil)) (fCons (fTup (fCons (fC (.str "rally")) fNil)) (fCons (fLst fNil) fNil)))))))) (fgName 6)) [some (.kls (ns.map .int)), some (.cel 1), some r, some (.int i), some (.lst ys), some (.str kept), none, none, none] [CO.tab TP0 q__law_calls, gen a b c] = .ok (.nx, [some (.kls (ns.map .int)), some (.cel 1), some r, some (.int i), some (.lst ys), some (.str kept), some raceV, none, none]) [CO.tab TP0 q__law_calls, gen a b c] := by rfl
  have s5 : (fAsg (fLst (fCons (fC .non) (fCons (fC (.int 7)) (fCons (fC (.str "rally")) (fCons (fTup (fCons (fC (.str "rally")) (fCons (fC (.int 1)) fNil))) (fCons (fCB listD (fCons (fVar 6) fNil)) (fCons (fSl (fVar 6) fNoPart (fPart (fC (.int 6)))) (fCons (fOp addD (fTup (fCons (fC (.str "race")) (fCons (fC (.int 0)) fNil))) (fSl (fVar 6) (fPart (fC (.int 2))) fNoPart)) (fCons (fOp addD (fTup (fCons (fC (.str "race")) (fCons (fC (.int 2)) (fCons (fC (.int 1)) (fCons (fC (.int 1)) fNil))))) (fSl (fVar 6) (fPart (fC (.int 4))) fNoPart)) fNil))))))))) (fgName 7)) [some (.kls (ns.map .int)), some (.cel 1), some r, some (.int i), some (.lst ys), some (.str kept), some raceV, none, none] [CO.tab TP0 q__law_calls, gen a b c] = .ok (.nx, envL (.kls (ns.map .int)) r (.int i) ys kept none) [CO.tab TP0 q__law_calls, gen a b c] := by kernel_rfl
  have hf : fit r 20 = true := fit_up (by decide) hr.fit_
  obtain ⟨t6, l6⟩ := loop_all (S := [CO.tab TP0 q__law_calls, gen a b c]) (scr := .kls (ns.map .int)) (r := r) (fi := .int i) (ys := ys) (kept := kept) (f := ruleBody TP0) bads (t := none) fun v m => rule_step m
  have it6 : ((fiAny (fOp addD (fVar 7) (fLst (fCons (fOp addD (fOp addD (fSl (fVar 6) fNoPart (fPart (fC (.int 4)))) (fTup (fCons (fC (.str "on")) fNil))) (fSl (fVar 6) (fPart (fC (.int 5))) fNoPart)) (fCons (fOp addD (fSl (fVar 6) fNoPart (fPart (fC (.int 5)))) (fTup (fCons (fTup (fCons (fC (.str "r")) fNil)) (fCons (fLst fNil) fNil)))) (fCons (fOp addD (fSl (fVar 6) fNoPart (fPart (fC (.int 6)))) (fTup (fCons (fC .non) fNil))) fNil)))))) : FI) (envL (.kls (ns.map .int)) r (.int i) ys kept none) [CO.tab TP0 q__law_calls, gen a b c] = .ok ⟨bads, none⟩ [CO.tab TP0 q__law_calls, gen a b c] := by kernel_rfl
  have s6 := fFor_st (g := fgName 8) (f := ruleBody TP0) it6 l6
  obtain ⟨t7, l7⟩ := loop_all (S := [CO.tab TP0 q__law_calls, gen a b c]) (scr := .kls (ns.map .int)) (r := r) (fi := .int i) (ys := ys) (kept := kept) (f := sideBody TP0) sides (t := t6) fun v m => side_step hr.rule hf (by decide) m
  have it7 : ((fiAny (fLst (fCons (fC .non) (fCons (fC (.int 2)) (fCons (fOp subD (fC (.int 0)) (fC (.int 1))) (fCons (fC (.bl true)) (fCons (fC (.bl false)) (fCons (fC (.str "0")) (fCons (fTup (fCons (fC (.int 0)) fNil)) (fCons (fLst (fCons (fC (.int 1)) fNil)) fNil)))))))))) : FI) (envL (.kls (ns.map .int)) r (.int i) ys kept t6) [CO.tab TP0 q__law_calls, gen a b c] = .ok ⟨sides, none⟩ [CO.tab TP0 q__law_calls, gen a b c] := by kernel_rfl
  have s7 := fFor_st (g := fgName 8) (f := sideBody TP0) it7 l7
  obtain ⟨t8, l8⟩ := loop_all (S := [CO.tab TP0 q__law_calls, gen a b c]) (scr := .kls (ns.map .int)) (r := r) (fi := .int i) (ys := ys) (kept := kept) (f := raBody TP0) (ral ys) (t := t7) fun v m => ra_step hr.rule hf (by decide) hi hy hl m
  obtain ⟨y0, zs, rfl⟩ : ∃ y0 zs, ys = y0 :: zs := by
    cases ys with
    | nil => cases hl
    | cons y zs => exact ⟨y, zs, rfl⟩
  obtain ⟨j, rfl, hj⟩ : ∃ j : Int, y0 = .int j ∧ (j = 0 ∨ j = 1) := by
    rcases hy y0 List.mem_cons_self with rfl | rfl
    · exact ⟨0, rfl, .inl rfl⟩
    · exact ⟨1, rfl, .inr rfl⟩
  have hz : zs.length = 11 := by simpa using hl
  obtain ⟨z1, r1, rfl, h1⟩ := unc hz
  obtain ⟨z2, r2, rfl, h2⟩ := unc h1
  obtain ⟨z3, r3, rfl, h3⟩ := unc h2
  obtain ⟨z4, r4, rfl, h4⟩ := unc h3
  obtain ⟨z5, r5, rfl, h5⟩ := unc h4
  obtain ⟨z6, r6, rfl, h6⟩ := unc h5
  obtain ⟨z7, r7, rfl, h7⟩ := unc h6
  obtain ⟨z8, r8, rfl, h8⟩ := unc h7
  obtain ⟨z9, r9, rfl, h9⟩ := unc h8
  obtain ⟨z10, r10, rfl, h10⟩ := unc h9
  obtain ⟨z11, r11, rfl, h11⟩ := unc h10
  obtain rfl := List.length_eq_zero_iff.mp h11
  have it8 : ((fiAny (fLst (fCons (fC .non) (fCons (fC (.int 7)) (fCons (fCB tupleD (fCons (fVar 4) fNil)) (fCons (fC (.str "01")) (fCons (fOp addD (fVar 4) (fLst (fCons (fC (.int 2)) fNil))) (fCons (fOp addD (fLst (fCons (fC (.bl true)) fNil)) (fVar 4)) (fCons (fOp addD (fOp addD (fSl (fVar 4) fNoPart (fPart (fC (.int 1)))) (fLst (fCons (fC .non) fNil))) (fSl (fVar 4) (fPart (fC (.int 1))) fNoPart)) (fCons (fLst (fCons (fLst (fCons (fC (.int 0)) fNil)) fNil)) (fCons (fC (.dct [])) (fCons (fLst (fCons (fOp subD (fC (.int 0)) (fC (.int 1))) fNil)) fNil)))))))))))) : FI) (envL (.kls (ns.map .int)) r (.int i) (.int j :: [z1, z2, z3, z4, z5, z6, z7, z8, z9, z10, z11]) kept t7) [CO.tab TP0 q__law_calls, gen a b c] = .ok ⟨ral (.int j :: [z1, z2, z3, z4, z5, z6, z7, z8, z9, z10, z11]), none⟩ [CO.tab TP0 q__law_calls, gen a b c] := by
    kernel_rfl
  have s8 := fFor_st (g := fgName 8) (f := raBody TP0) it8 l8
  have m1 : (fMk 0 TP0 q__law_calls 3 2 N__law_calls.length g__law_all_refused l__law_calls (fCons (fTup (fCons (fC (.str "rally")) fNil)) (fCons (fVar 3) (fCons (fLst (fCons (fC (.int 0)) (fCons (fC (.int 1)) (fCons (fC (.int 1)) fNil)))) fNil))) (sC (.str "ended") (sC (.int 1) sNil))) (envL (.kls (ns.map .int)) r (.int i) (.int j :: [z1, z2, z3, z4, z5, z6, z7, z8, z9, z10, z11]) kept t8) [CO.tab TP0 q__law_calls, gen a b c] = .ok (.bl true) [CO.tab TP0 q__law_calls, gen a b c] :=
    (mk_at (ds := [.tup [.str "rally"], .int i, .lst [.int 0, .int 1, .int 1]]) (es := [.str "ended", .int 1]) rfl rfl (by decide +kernel) rfl rfl rfl).trans (all_ref hS _ len_c fun h hm => by
      obtain ⟨t, ht⟩ := text_of (o := reprT [.int 1] [CO.tab TP0 q__law_calls, gen a b c]) (by kernel_rfl)
      exact ref_any (ended_rally hi h hm) rfl ht (k_ended _))
  have m2 : (fMk 0 TP0 q__law_calls 3 2 N__law_calls.length g__law_all_refused l__law_calls (fCons (fVar 6) (fCons (fVar 3) (fCons (fOp addD (fLst (fCons (fC (.int 0)) (fCons (fC (.int 0)) fNil))) (fSl (fVar 4) fNoPart (fPart (fC (.int 1))))) fNil))) (sC (.str "ended") (sC (.int 2) sNil))) (envL (.kls (ns.map .int)) r (.int i) (.int j :: [z1, z2, z3, z4, z5, z6, z7, z8, z9, z10, z11]) kept t8) [CO.tab TP0 q__law_calls, gen a b c] = .ok (.bl true) [CO.tab TP0 q__law_calls, gen a b c] :=
    (mk_at (ds := [raceV, .int i, .lst [.int 0, .int 0, .int j]]) (es := [.str "ended", .int 2]) (by kernel_rfl) rfl (by decide +kernel) rfl rfl rfl).trans (all_ref hS _ len_c fun h hm => by
      obtain ⟨t, ht⟩ := text_of (o := reprT [.int 2] [CO.tab TP0 q__law_calls, gen a b c]) (by kernel_rfl)
      exact ref_any (ended_race hi hj h hm) rfl ht (k_ended _))
  have s9 : (fIfS (fOr (fNot (fB (fMk 0 TP0 q__law_calls 3 2 N__law_calls.length g__law_all_refused l__law_calls (fCons (fTup (fCons (fC (.str "rally")) fNil)) (fCons (fVar 3) (fCons (fLst (fCons (fC (.int 0)) (fCons (fC (.int 1)) (fCons (fC (.int 1)) fNil)))) fNil))) (sC (.str "ended") (sC (.int 1) sNil))))) (fNot (fB (fMk 0 TP0 q__law_calls 3 2 N__law_calls.length g__law_all_refused l__law_calls (fCons (fVar 6) (fCons (fVar 3) (fCons (fOp addD (fLst (fCons (fC (.int 0)) (fCons (fC (.int 0)) fNil))) (fSl (fVar 4) fNoPart (fPart (fC (.int 1))))) fNil))) (sC (.str "ended") (sC (.int 2) sNil)))))) (fRet (fC (.bl false))) fNext) (envL (.kls (ns.map .int)) r (.int i) (.int j :: [z1, z2, z3, z4, z5, z6, z7, z8, z9, z10, z11]) kept t8) [CO.tab TP0 q__law_calls, gen a b c] = .ok (.nx, envL (.kls (ns.map .int)) r (.int i) (.int j :: [z1, z2, z3, z4, z5, z6, z7, z8, z9, z10, z11]) kept t8) [CO.tab TP0 q__law_calls, gen a b c] := by
    simp only [fIfS_ap, fOr_ap, fNot_ap, fB_ap, m1, m2, Res.bind_ok, asB_ok, asB, fNext_ap, if_true, if_false, Bool.not_true, Bool.false_eq_true]
  have s10 : ((fRet (fOp eqD (fCB reprT (fCons (fLst (fCons (fVar 2) (fCons (fVar 4) fNil))) fNil)) (fVar 5))) : FS) (envL (.kls (ns.map .int)) r (.int i) (.int j :: [z1, z2, z3, z4, z5, z6, z7, z8, z9, z10, z11]) kept t8) [CO.tab TP0 q__law_calls, gen a b c] = .ok (.rt (.bl true), envL (.kls (ns.map .int)) r (.int i) (.int j :: [z1, z2, z3, z4, z5, z6, z7, z8, z9, z10, z11]) kept t8) [CO.tab TP0 q__law_calls, gen a b c] := by
    simp only [fC_ap, fVar_ap, fOp_ap, fB_ap, fAnd_ap, fOr_ap, fNot_ap, fAndV_ap, fOrV_ap, fNotV_ap, fIf_ap, fNil_ap, fCons_ap, fTup_ap, fLst_ap, fLstC_ap, fNoPart_ap, fPart_ap, fSl_ap, fNeg_ap, fCB_ap, fIsi_ap, fIsi2_ap, fNext_ap, fSeq_ap, fRet_ap, fRetF_ap, fgName_ap, fgNil_ap, fgCons_ap, fgTup_ap, fgSub_ap, fAsg_ap, fPar_ap, fPar3_ap, fDrop_ap, fApp_ap, fIfS_ap, fiSeq_ap, fiTup_ap, fiEnum_ap, fYes_ap, fCall_ap, fCall0_ap, fChain_ap, fBits_ap, fAddC_ap, fiAny_ap, Res.bind_ok, asB_ok, okO_some, bodyD, asB, iterOf, withLock_none, noErr_ok, wipeE, List.map_cons, List.map_nil, List.length_cons, List.length_nil, List.cons_append, List.nil_append, List.getElem?_cons_zero, List.getElem?_cons_succ, List.set_cons_zero, List.set_cons_succ, if_true, Bool.false_eq_true, if_false, Nat.reduceAdd, Nat.reduceSub, Nat.zero_add, List.replicate, tyD, atI_0, atI_1, lenD_lst, lenD_tup, ixD_tup, ixD_lst, eqD_int, eqD_str, neD_int, neD_str, leD_int, ltD_int, gtD_int, geD_int, addD_int, subD_int, intD_int, gx0, gx1, gx2, gs0, gs2, hx0, hx1, hx2, hs0, hs2, capN, Nat.zero_le, Nat.reduceLeDiff, Nat.reduceEqDiff, Nat.reduceLT, Bool.not_true, Bool.not_false, Bool.true_and, Bool.false_and, envL, e5, decide_true]
  refine ⟨[CO.tab TP0 q__law_calls, gen a b c], ?_⟩
  refine bodyD_rt (ρ1 := envL (.kls (ns.map .int)) r (.int i) (.int j :: [z1, z2, z3, z4, z5, z6, z7, z8, z9, z10, z11]) kept t8) ?_
  show fSeq (fAsg (fCall 2 g__law_generator (fCons (fVar 0) (fCons (fC (.int 0)) fNil))) (fgName 1)) (fSeq (fPar 2 3 (fCons (fCall 3 (g__law_rule 16) (fCons (fVar 1) (fCons (fC (.int 2)) (fCons (fC (.int 3)) fNil)))) (fCons (fCall 2 g__law_random (fCons (fVar 1) (fCons (fC (.int 2)) fNil))) fNil))) (fSeq (fAsg (fCall 2 g__law_rallies (fCons (fVar 1) (fCons (fC (.int 12)) fNil))) (fgName 4)) (fSeq (fAsg (fCB reprT (fCons (fLst (fCons (fVar 2) (fCons (fVar 4) fNil))) fNil)) (fgName 5)) (fSeq (fAsg (fTup (fCons (fC (.str "race")) (fCons (fC (.int 2)) (fCons (fC (.int 1)) (fCons (fC .non) (fCons (fTup (fCons (fC (.str "on")) fNil)) (fCons (fTup (fCons (fC (.str "rally")) fNil)) (fCons (fLst fNil) fNil)))))))) (fgName 6)) (fSeq (fAsg (fLst (fCons (fC .non) (fCons (fC (.int 7)) (fCons (fC (.str "rally")) (fCons (fTup (fCons (fC (.str "rally")) (fCons (fC (.int 1)) fNil))) (fCons (fCB listD (fCons (fVar 6) fNil)) (fCons (fSl (fVar 6) fNoPart (fPart (fC (.int 6)))) (fCons (fOp addD (fTup (fCons (fC (.str "race")) (fCons (fC (.int 0)) fNil))) (fSl (fVar 6) (fPart (fC (.int 2))) fNoPart)) (fCons (fOp addD (fTup (fCons (fC (.str "race")) (fCons (fC (.int 2)) (fCons (fC (.int 1)) (fCons (fC (.int 1)) fNil))))) (fSl (fVar 6) (fPart (fC (.int 4))) fNoPart)) fNil))))))))) (fgName 7)) (fSeq (fFor (fiAny (fOp addD (fVar 7) (fLst (fCons (fOp addD (fOp addD (fSl (fVar 6) fNoPart (fPart (fC (.int 4)))) (fTup (fCons (fC (.str "on")) fNil))) (fSl (fVar 6) (fPart (fC (.int 5))) fNoPart)) (fCons (fOp addD (fSl (fVar 6) fNoPart (fPart (fC (.int 5)))) (fTup (fCons (fTup (fCons (fC (.str "r")) fNil)) (fCons (fLst fNil) fNil)))) (fCons (fOp addD (fSl (fVar 6) fNoPart (fPart (fC (.int 6)))) (fTup (fCons (fC .non) fNil))) fNil)))))) (fgName 8) (ruleBody TP0)) (fSeq (fFor (fiAny (fLst (fCons (fC .non) (fCons (fC (.int 2)) (fCons (fOp subD (fC (.int 0)) (fC (.int 1))) (fCons (fC (.bl true)) (fCons (fC (.bl false)) (fCons (fC (.str "0")) (fCons (fTup (fCons (fC (.int 0)) fNil)) (fCons (fLst (fCons (fC (.int 1)) fNil)) fNil)))))))))) (fgName 8) (sideBody TP0)) (fSeq (fFor (fiAny (fLst (fCons (fC .non) (fCons (fC (.int 7)) (fCons (fCB tupleD (fCons (fVar 4) fNil)) (fCons (fC (.str "01")) (fCons (fOp addD (fVar 4) (fLst (fCons (fC (.int 2)) fNil))) (fCons (fOp addD (fLst (fCons (fC (.bl true)) fNil)) (fVar 4)) (fCons (fOp addD (fOp addD (fSl (fVar 4) fNoPart (fPart (fC (.int 1)))) (fLst (fCons (fC .non) fNil))) (fSl (fVar 4) (fPart (fC (.int 1))) fNoPart)) (fCons (fLst (fCons (fLst (fCons (fC (.int 0)) fNil)) fNil)) (fCons (fC (.dct [])) (fCons (fLst (fCons (fOp subD (fC (.int 0)) (fC (.int 1))) fNil)) fNil)))))))))))) (fgName 8) (raBody TP0)) (fSeq (fIfS (fOr (fNot (fB (fMk 0 TP0 q__law_calls 3 2 N__law_calls.length g__law_all_refused l__law_calls (fCons (fTup (fCons (fC (.str "rally")) fNil)) (fCons (fVar 3) (fCons (fLst (fCons (fC (.int 0)) (fCons (fC (.int 1)) (fCons (fC (.int 1)) fNil)))) fNil))) (sC (.str "ended") (sC (.int 1) sNil))))) (fNot (fB (fMk 0 TP0 q__law_calls 3 2 N__law_calls.length g__law_all_refused l__law_calls (fCons (fVar 6) (fCons (fVar 3) (fCons (fOp addD (fLst (fCons (fC (.int 0)) (fCons (fC (.int 0)) fNil))) (fSl (fVar 4) fNoPart (fPart (fC (.int 1))))) fNil))) (sC (.str "ended") (sC (.int 2) sNil)))))) (fRet (fC (.bl false))) fNext) (fRet (fOp eqD (fCB reprT (fCons (fLst (fCons (fVar 2) (fCons (fVar 4) fNil))) fNil)) (fVar 5)))))))))))) [some (.kls (ns.map .int)), none, none, none, none, none, none, none, none] [CO.tab TP0 q__law_calls] = _
  rw [fSeq_nx s0, fSeq_nx s1, fSeq_nx s2, fSeq_nx s3, fSeq_nx s4, fSeq_nx s5, fSeq_nx s6, fSeq_nx s7, fSeq_nx s8, fSeq_nx s9, s10]
end K08

set_option maxHeartbeats 4000000
open PySem PySem.W PyProof.Rows
set_option maxHeartbeats 0 in
theorem PySem.Challenge.cw_anyserve_k08_play_refused_holds : PySem.Challenge.rw_anyserve_k08_play_refused.Holds := by
  w_on; o_law; k_head; (case hw => w_witness2)
  k_fill
  refine DL.walk_DT (l := PySem.Challenge.rw_anyserve_k08_play_refused) (n := 63) (k := 44) (x := "script") rfl (by decide) rfl ⟨rfl, by decide, by decide⟩ (fun w h Y => PySem.W.km_in_of Y) ?F
  case F =>
    intro w mg fa h KX G hmg
    refine' K08.all_mk KX G hmg ?a1 ?l1 ?c1 ?k1 ?a2 ?l2 ?c2 ?k2 ?a3 ?l3 ?c3 ?k3 ?a4 ?l4 ?c4 ?k4 ?a5 ?l5 ?c5 ?k5 ?a6 ?l6 ?c6 ?k6 ?a7 ?l7 ?c7 ?k7 ?a8 ?l8 ?c8 ?k8 ?a9 ?l9 ?c9 ?k9 ?a10 ?l10 ?c10 ?k10 ?a11 ?l11 ?c11 ?k11 ?a12 ?l12 ?c12 ?k12 ?a13 ?l13 ?c13 ?k13 ?a14 ?l14 ?c14 ?k14 ?a15 ?l15 ?c15 ?k15 ?a16 ?l16 ?c16 ?k16 ?a17 ?l17 ?c17 ?k17 ?a18 ?l18 ?c18 ?k18 ?a19 ?l19 ?c19 ?k19 ?a20 ?l20 ?c20 ?k20 ?a21 ?l21 ?c21 ?k21 ?a22 ?l22 ?c22 ?k22 ?a23 ?l23 ?c23 ?k23 ?a24 ?l24 ?c24 ?k24 ?a25 ?l25 ?c25 ?k25 ?a26 ?l26 ?c26 ?k26 ?a27 ?l27 ?c27 ?k27 ?a28 ?l28 ?c28 ?k28 ?a29 ?l29 ?c29 ?k29 ?a30 ?l30 ?c30 ?k30 ?a31 ?l31 ?c31 ?k31 ?a32 ?l32 ?c32 ?k32 ?a33 ?l33 ?c33 ?k33 ?a34 ?l34 ?c34 ?k34 ?a35 ?l35 ?c35 ?k35 ?a36 ?l36 ?c36 ?k36 ?a37 ?l37 ?c37 ?k37 ?a38 ?l38 ?c38 ?k38 ?a39 ?l39 ?c39 ?k39 ?a40 ?l40 ?c40 ?k40 ?a41 ?l41 ?c41 ?k41 ?a42 ?l42 ?c42 ?k42 ?a43 ?l43 ?c43 ?k43 ?a44 ?l44 ?c44 ?k44 ?a45 ?l45 ?c45 ?k45 ?a46 ?l46 ?c46 ?k46 ?a47 ?l47 ?c47 ?k47 ?z1 ?z2 ?z3 ?z4 ?z5 ?z6 ?z7 ?z8 ?z9 ?z10 ?z11 ?z12 ?z13 ?z14 ?z15 ?z16 ?y16 ?na0 ?xa0 ?xb0 ?xc0 ?xd0 ?xe0 ?xf0 ?xg0 ?xh0 ?xi0 ?xj0 ?xini0 ?na1 ?xa1 ?xb1 ?xc1 ?xd1 ?xe1 ?xf1 ?xg1 ?xh1 ?xi1 ?xj1 ?xini1 ?na2 ?xa2 ?xb2 ?xc2 ?xd2 ?xe2 ?xf2 ?xg2 ?xh2 ?xi2 ?xj2 ?xini2 ?na3 ?na4 ?na5 ?na6 ?na7 ?xa7 ?xb7 ?xc7 ?xd7 ?xe7 ?xf7 ?xg7 ?xh7 ?xi7 ?xj7 ?xini7 ?na8 ?na9 ?yall ?xsup ?xtop ?tb10 ?tb20 ?tb30 ?tnd ?rec0 ?hok
    (case a1 => k_is)
    (case l1 => k_is)
    (case c1 => k_is)
    (case k1 => k_is)
    (case a2 => k_is)
    (case l2 => k_is)
    (case c2 => k_is)
    (case k2 => k_is)
    (case a3 => k_is)
    (case l3 => k_is)
    (case c3 => k_is)
    (case k3 => k_is)
    (case a4 => k_is)
    (case l4 => k_is)
    (case c4 => k_is)
    (case k4 => k_is)
    (case a5 => k_is)
    (case l5 => k_is)
    (case c5 => k_is)
    (case k5 => k_is)
    (case a6 => k_is)
    (case l6 => k_is)
    (case c6 => k_is)
    (case k6 => k_is)
    (case a7 => k_is)
    (case l7 => k_is)
    (case c7 => k_is)
    (case k7 => k_is)
    (case a8 => k_is)
    (case l8 => k_is)
    (case c8 => k_is)
    (case k8 => k_is)
    (case a9 => k_is)
    (case l9 => k_is)
    (case c9 => k_is)
    (case k9 => k_is)
    (case a10 => k_is)
    (case l10 => k_is)
    (case c10 => k_is)
    (case k10 => k_is)
    (case a11 => k_is)
    (case l11 => k_is)
    (case c11 => k_is)
    (case k11 => k_is)
    (case a12 => k_is)
    (case l12 => k_is)
    (case c12 => k_is)
    (case k12 => k_is)
    (case a13 => k_is)
    (case l13 => k_is)
    (case c13 => k_is)
    (case k13 => k_is)
    (case a14 => k_is)
    (case l14 => k_is)
    (case c14 => k_is)
    (case k14 => k_is)
    (case a15 => k_is)
    (case l15 => k_is)
    (case c15 => k_is)
    (case k15 => k_is)
    (case a16 => k_is)
    (case l16 => k_is)
    (case c16 => k_is)
    (case k16 => k_is)
    (case a17 => k_is)
    (case l17 => k_is)
    (case c17 => k_is)
    (case k17 => k_is)
    (case a18 => k_is)
    (case l18 => k_is)
    (case c18 => k_is)
    (case k18 => k_is)
    (case a19 => k_is)
    (case l19 => k_is)
    (case c19 => k_is)
    (case k19 => k_is)
    (case a20 => k_is)
    (case l20 => k_is)
    (case c20 => k_is)
    (case k20 => k_is)
    (case a21 => k_is)
    (case l21 => k_is)
    (case c21 => k_is)
    (case k21 => k_is)
    (case a22 => k_is)
    (case l22 => k_is)
    (case c22 => k_is)
    (case k22 => k_is)
    (case a23 => k_is)
    (case l23 => k_is)
    (case c23 => k_is)
    (case k23 => k_is)
    (case a24 => k_is)
    (case l24 => k_is)
    (case c24 => k_is)
    (case k24 => k_is)
    (case a25 => k_is)
    (case l25 => k_is)
    (case c25 => k_is)
    (case k25 => k_is)
    (case a26 => k_is)
    (case l26 => k_is)
    (case c26 => k_is)
    (case k26 => k_is)
    (case a27 => k_is)
    (case l27 => k_is)
    (case c27 => k_is)
    (case k27 => k_is)
    (case a28 => k_is)
    (case l28 => k_is)
    (case c28 => k_is)
    (case k28 => k_is)
    (case a29 => k_is)
    (case l29 => k_is)
    (case c29 => k_is)
    (case k29 => k_is)
    (case a30 => k_is)
    (case l30 => k_is)
    (case c30 => k_is)
    (case k30 => k_is)
    (case a31 => k_is)
    (case l31 => k_is)
    (case c31 => k_is)
    (case k31 => k_is)
    (case a32 => k_is)
    (case l32 => k_is)
    (case c32 => k_is)
    (case k32 => k_is)
    (case a33 => k_is)
    (case l33 => k_is)
    (case c33 => k_is)
    (case k33 => k_is)
    (case a34 => k_is)
    (case l34 => k_is)
    (case c34 => k_is)
    (case k34 => k_is)
    (case a35 => k_is)
    (case l35 => k_is)
    (case c35 => k_is)
    (case k35 => k_is)
    (case a36 => k_is)
    (case l36 => k_is)
    (case c36 => k_is)
    (case k36 => k_is)
    (case a37 => k_is)
    (case l37 => k_is)
    (case c37 => k_is)
    (case k37 => k_is)
    (case a38 => k_is)
    (case l38 => k_is)
    (case c38 => k_is)
    (case k38 => k_is)
    (case a39 => k_is)
    (case l39 => k_is)
    (case c39 => k_is)
    (case k39 => k_is)
    (case a40 => k_is)
    (case l40 => k_is)
    (case c40 => k_is)
    (case k40 => k_is)
    (case a41 => k_is)
    (case l41 => k_is)
    (case c41 => k_is)
    (case k41 => k_is)
    (case a42 => k_is)
    (case l42 => k_is)
    (case c42 => k_is)
    (case k42 => k_is)
    (case a43 => k_is)
    (case l43 => k_is)
    (case c43 => k_is)
    (case k43 => k_is)
    (case a44 => k_is)
    (case l44 => k_is)
    (case c44 => k_is)
    (case k44 => k_is)
    (case a45 => k_is)
    (case l45 => k_is)
    (case c45 => k_is)
    (case k45 => k_is)
    (case a46 => k_is)
    (case l46 => k_is)
    (case c46 => k_is)
    (case k46 => k_is)
    (case a47 => k_is)
    (case l47 => k_is)
    (case c47 => k_is)
    (case k47 => k_is)
    (case z1 => k_is)
    (case z2 => k_is)
    (case z3 => k_is)
    (case z4 => k_is)
    (case z5 => k_is)
    (case z6 => k_is)
    (case z7 => k_is)
    (case z8 => k_is)
    (case z9 => k_is)
    (case z10 => k_is)
    (case z11 => k_is)
    (case z12 => k_is)
    (case z13 => k_is)
    (case z14 => k_is)
    (case z15 => k_is)
    (case z16 => k_is)
    (case y16 => k_is)
    (case na0 => k_is)
    (case xini0 => k_is)
    (case xa0 => k_is)
    (case xc0 => k_is)
    (case xd0 => k_is)
    (case xe0 => k_is)
    (case xh0 => k_is)
    (case xi0 => k_is)
    (case xb0 => decide +kernel)
    (case xf0 => rfl)
    (case xg0 => rfl)
    (case xj0 => kernel_rfl)
    (case na1 => k_is)
    (case xini1 => k_is)
    (case xa1 => k_is)
    (case xc1 => k_is)
    (case xd1 => k_is)
    (case xe1 => k_is)
    (case xh1 => k_is)
    (case xi1 => k_is)
    (case xb1 => decide +kernel)
    (case xf1 => rfl)
    (case xg1 => rfl)
    (case xj1 => kernel_rfl)
    (case na2 => k_is)
    (case xini2 => k_is)
    (case xa2 => k_is)
    (case xc2 => k_is)
    (case xd2 => k_is)
    (case xe2 => k_is)
    (case xh2 => k_is)
    (case xi2 => k_is)
    (case xb2 => decide +kernel)
    (case xf2 => rfl)
    (case xg2 => rfl)
    (case xj2 => kernel_rfl)
    (case na3 => k_is)
    (case na4 => k_is)
    (case na5 => k_is)
    (case na6 => k_is)
    (case na7 => k_is)
    (case xini7 => k_is)
    (case xa7 => k_is)
    (case xc7 => k_is)
    (case xd7 => k_is)
    (case xe7 => k_is)
    (case xh7 => k_is)
    (case xi7 => k_is)
    (case xb7 => decide +kernel)
    (case xf7 => rfl)
    (case xg7 => rfl)
    (case xj7 => kernel_rfl)
    (case na8 => k_is)
    (case na9 => k_is)
    (case yall => kernel_rfl)
    (case xsup => k_is)
    (case xtop => kernel_rfl)
    (case tb10 => k_is)
    (case tb20 => rfl)
    (case tb30 => kernel_rfl)
    (case tnd => decide)
    (case rec0 => kernel_rfl)
    (case hok => exact K08.law_ok)

