import PyProof.Rows.All
import Wide.All
import OpenK.AllK
import Wide.FinOn
import HandS.ForMost
import HandS.Exc
import HandS.ExcOwn
import HandS.TryOnly
import HandS.WordsExc
import HandS.IsInst
import HandS.Wide
import HandS.Gcd
import HandS.Flow
import HandS.Style
import HandS.TupLe
import HandS.TupAny
import HandS.Deep
import HandS.Conv
import HandS.Lambda
import HandS.WideBits
import HandS.SortOrd
import HandS.Sort
import HandS.SortRule
import HandS.RaiseMore
import KE.DataMinMax
import PyProof.ReprRoads
import HandS.SortInts
import HandS.EndBits
import HandS.EndTab
import KE.KExcSuper
import HandS.ExcInit
import HandS.ExcField
import HandS.ExcIs
import HandS.ExcValue
import HandS.SetFor
import KE.KExcIs
import KE.IntBitsLaws
import PyProof.EqAt
import PyProof.P3In
import PyProof.Rows.ChunkLeaf
import HandS.SetKeys
import PyProof.Rows.SetFrom
import PySem.Challenge.RW_anyserve_k07_whole_known_games
set_option Elab.async false
set_option linter.all false
set_option maxRecDepth 100000
set_option maxHeartbeats 2000000
namespace DL
open PySem PySem.Spec PyProof.Rows L2
inductive D where
  | non
  | bl (b : Bool)
  | int (i : Int)
  | str (x : Str)
  | lst (xs : List D)
  | kls (xs : List D)
  | tup (xs : List D)
  | dct (xs : List (D × D))
  | cel (i : Nat)
  | fn (f : Addr)
  | exc (c : Str) (d : D)
def kD : Key → D
  | .inl i => .int i
  | .inr x => .str x
inductive CO where
  | lst (xs : List D)
  | lk (xs : List D)
  | gone
  | tab (P : Addr) (q : Str)
abbrev Sto := List CO
abbrev Env := List (Option D)
def CO.live : CO → Bool
  | .gone => false
  | _ => true
inductive Res (α : Type) where
  | ok (a : α) (S : Sto)
  | err (c : Str) (d : D) (S : Sto)
  | bad
def Res.bind {α β : Type} (x : Res α) (f : α → Sto → Res β) : Res β := match x with
  | .ok a S => f a S
  | .err c d S => .err c d S
  | .bad => .bad
@[simp] theorem Res.bind_ok {α β : Type} (a : α) (S : Sto) (f : α → Sto → Res β) : (Res.ok a S).bind f = f a S := rfl
@[simp] theorem Res.bind_err {α β : Type} (c : Str) (d : D) (S : Sto) (f : α → Sto → Res β) : (Res.err c d S : Res α).bind f = .err c d S := rfl
@[simp] theorem Res.bind_bad {α β : Type} (f : α → Sto → Res β) : (Res.bad : Res α).bind f = .bad := rfl
def cut (A Z : List Addr) (S : Sto) (H : Hp) : Hp := fun b => if (Z.contains b || (A.zip S).any (fun p => p.2.live && p.1 == b)) = true then none else H b
def caK (K : PySem.W.Frag) (c : Str) : Addr := match PySem.W.nsIn K mainGlobals c with
  | some (some (.ref a)) => a
  | _ => 0
def ExV (cls : Value) (d : Option Addr) (a : Addr) : HO := .ext fun h => ∃ (oe : Obj) (vs : Array Value), h.get? a = some oe ∧ Zc cls d oe ∧ oe.data = .fields vs
section
variable (A : List Addr) (G : Hp) (K : PySem.W.Frag)
mutual
inductive DR : V → D → Prop
  | non : DR .non .non
  | bl (b : Bool) : DR (.bl b) (.bl b)
  | int (i : Int) : DR (.int i) (.int i)
  | str (x : Str) : DR (.str x) (.str x)
  | lst {a : Addr} {vs : List V} {ds : List D} : G a = some (.lst vs) → DRs vs ds → DR (.ref a) (.lst ds)
  | kls {a : Addr} {vs : List V} {ds : List D} : SqL K G a vs → DRs vs ds → DR (.ref a) (.kls ds)
  | tup {a : Addr} {vs : List V} {ds : List D} : SqT K G a vs → DRs vs ds → DR (.ref a) (.tup ds)
  | dct {a : Addr} {kvs : List (Key × V)} {xs : List (D × D)} : G a = some (.dK kvs) → xs.map (·.1) = kvs.map (fun p => kD p.1) → DRs (kvs.map (·.2)) (xs.map (·.2)) → DR (.ref a) (.dct xs)
  | cel {a : Addr} {i : Nat} : A[i]? = some a → DR (.ref a) (.cel i)
  | fn (f : Addr) : DR (.ref f) (.fn f)
  | exc {a dd : Addr} {c : Str} {v : V} {d : D} : G a = some (ExV (.ref (caK K c)) (some dd) a) → G dd = some (.xd [("value", v)]) → DR v d → DR (.ref a) (.exc c d)
inductive DRs : List V → List D → Prop
  | nil : DRs [] []
  | cons {v : V} {vs : List V} {d : D} {ds : List D} : DR v d → DRs vs ds → DRs (v :: vs) (d :: ds)
end
end
section
variable {A A' : List Addr} {G G' : Hp} {K : PySem.W.Frag}
theorem DRs.length {vs : List V} {ds : List D} (h : DRs A G K vs ds) : vs.length = ds.length := by
  induction ds generalizing vs with
  | nil => cases h; rfl
  | cons d ds ih =>
    cases h with
    | cons h1 h2 => simp [ih h2]
theorem rd_mono {a : Addr} {u : HO} (e : ∀ b o, G b = some o → G' b = some o) (h : Rd G a u) : Rd G' a u := by
  rcases h with h | ⟨o, h⟩
  · exact .inl (e _ _ h)
  · exact .inr ⟨o, e _ _ h⟩
theorem sql_mono {a : Addr} {xs : List V} (e : ∀ b o, G b = some o → G' b = some o) (h : SqL K G a xs) : SqL K G' a xs := by
  rcases h with h | h
  · exact .inl (rd_mono e h)
  · exact .inr h
theorem sqt_mono {a : Addr} {xs : List V} (e : ∀ b o, G b = some o → G' b = some o) (h : SqT K G a xs) : SqT K G' a xs := by
  rcases h with h | h
  · exact .inl (rd_mono e h)
  · exact .inr h
mutual
theorem DR.mono (p : A <+: A') (e : ∀ b o, G b = some o → G' b = some o) : ∀ {v : V} {d : D}, DR A G K v d → DR A' G' K v d
  | _, _, .non => .non
  | _, _, .bl b => .bl b
  | _, _, .int i => .int i
  | _, _, .str x => .str x
  | _, _, .lst h r => .lst (e _ _ h) (DRs.mono p e r)
  | _, _, .kls h r => .kls (sql_mono e h) (DRs.mono p e r)
  | _, _, .tup h r => .tup (sqt_mono e h) (DRs.mono p e r)
  | _, _, .dct h k r => .dct (e _ _ h) k (DRs.mono p e r)
  | _, _, .cel h => .cel (by
      obtain ⟨t, rfl⟩ := p
      rw [List.getElem?_append_left]
      · exact h
      · exact (List.getElem?_eq_some_iff.mp h).1)
  | _, _, .fn f => .fn f
  | _, _, .exc h k r => .exc (e _ _ h) (e _ _ k) (DR.mono p e r)
theorem DRs.mono (p : A <+: A') (e : ∀ b o, G b = some o → G' b = some o) : ∀ {vs : List V} {ds : List D}, DRs A G K vs ds → DRs A' G' K vs ds
  | _, _, .nil => .nil
  | _, _, .cons h t => .cons (DR.mono p e h) (DRs.mono p e t)
end
theorem DRs.get {vs : List V} {ds : List D} (h : DRs A G K vs ds) : ∀ {i : Nat} {d : D}, ds[i]? = some d → ∃ v, vs[i]? = some v ∧ DR A G K v d := by
  induction ds generalizing vs with
  | nil => intro i d e; simp at e
  | cons d ds ih =>
    cases h with
    | cons h1 h2 =>
      intro i d' e
      cases i with
      | zero => simp at e; subst e; exact ⟨_, rfl, h1⟩
      | succ i => simpa using ih h2 (i := i) (d := d') (by simpa using e)
theorem DRs.getv {vs : List V} {ds : List D} (h : DRs A G K vs ds) : ∀ {i : Nat} {v : V}, vs[i]? = some v → ∃ d, ds[i]? = some d ∧ DR A G K v d := by
  induction ds generalizing vs with
  | nil => intro i d e; cases h; simp at e
  | cons d ds ih =>
    cases h with
    | cons h1 h2 =>
      intro i d' e
      cases i with
      | zero => simp at e; subst e; exact ⟨_, rfl, h1⟩
      | succ i => simpa using ih h2 (i := i) (v := d') (by simpa using e)
theorem DRs.append {vs ws : List V} {ds es : List D} (h : DRs A G K vs ds) (k : DRs A G K ws es) : DRs A G K (vs ++ ws) (ds ++ es) := by
  induction ds generalizing vs with
  | nil => cases h; exact k
  | cons d ds ih =>
    cases h with
    | cons h1 h2 => exact .cons h1 (ih h2)
theorem DRs.take {vs : List V} {ds : List D} (h : DRs A G K vs ds) : ∀ n : Nat, DRs A G K (vs.take n) (ds.take n) := by
  induction ds generalizing vs with
  | nil => cases h; intro n; simp; exact .nil
  | cons d ds ih =>
    cases h with
    | cons h1 h2 =>
      intro n
      cases n with
      | zero => exact .nil
      | succ n => exact .cons h1 (ih h2 n)
theorem DRs.drop {vs : List V} {ds : List D} (h : DRs A G K vs ds) : ∀ n : Nat, DRs A G K (vs.drop n) (ds.drop n) := by
  induction ds generalizing vs with
  | nil => cases h; intro n; simp; exact .nil
  | cons d ds ih =>
    cases h with
    | cons h1 h2 =>
      intro n
      cases n with
      | zero => exact .cons h1 h2
      | succ n => exact ih h2 n
theorem DRs.set {vs : List V} {ds : List D} {v : V} {d : D} (h : DRs A G K vs ds) (r : DR A G K v d) : ∀ i : Nat, DRs A G K (vs.set i v) (ds.set i d) := by
  induction ds generalizing vs with
  | nil => cases h; intro i; exact .nil
  | cons d ds ih =>
    cases h with
    | cons h1 h2 =>
      intro i
      cases i with
      | zero => exact .cons r h2
      | succ i => exact .cons h1 (ih h2 i)
end
structure SOk (K : PySem.W.Frag) (A Z : List Addr) (S : Sto) (H : Hp) : Prop where
  len : A.length = S.length
  nd : A.Nodup
  there : ∀ a ∈ A, H a ≠ none
  hid : ∀ b ∈ Z, (H b ≠ none ∧ ∀ q, H b ≠ some (LamX.CodeO b q)) ∧ b ∉ A
  at_ : ∀ (i : Nat) (c : CO) (ds : List D), S[i]? = some c → (c = .lst ds ∨ c = .lk ds) → ∃ a vs, A[i]? = some a ∧ H a = some (.lst vs) ∧ DRs A (cut A Z S H) K vs ds
  tab : ∀ (i : Nat) (P : Addr) (q : Str), S[i]? = some (.tab P q) → A[i]? = some P ∧ LamX.TabS H P q
theorem tabS_keep {H H' : Hp} {P : Addr} {q : Str} (t : LamX.TabS H P q) (hP : H' P = H P) (hc : ∀ c, H c = some (LamX.CodeO c q) → H' c = some (LamX.CodeO c q)) : LamX.TabS H' P q := by
  obtain ⟨ps, h1, h2, h3⟩ := t
  refine ⟨ps, hP.trans h1, h2, fun pos cv e => ?_⟩
  obtain ⟨c, e1, e2⟩ := h3 pos cv e
  exact ⟨c, e1, hc c e2⟩
structure Grow (K : PySem.W.Frag) (Z : List Addr) (A : List Addr) (S : Sto) (H : Hp) (A' : List Addr) (S' : Sto) (H' : Hp) : Prop where
  pre : A <+: A'
  ok : SOk K A' Z S' H'
  ex : ∀ b o, cut A Z S H b = some o → cut A' Z S' H' b = some o
  hid : ∀ b ∈ Z, H' b = H b
  lk : ∀ (i : Nat) (ds : List D), S[i]? = some (.lk ds) → S'[i]? = some (.lk ds)
structure Grow0 (K : PySem.W.Frag) (Z : List Addr) (A : List Addr) (S : Sto) (H : Hp) (A' : List Addr) (S' : Sto) (H' : Hp) : Prop where
  pre : A <+: A'
  ok : SOk K A' Z S' H'
  ex : ∀ b o, cut A Z S H b = some o → cut A' Z S' H' b = some o
  hid : ∀ b ∈ Z, H' b = H b
section
variable {K : PySem.W.Frag} {A A' A'' Z : List Addr} {S S' S'' : Sto} {H H' H'' : Hp}
theorem Grow.refl (h : SOk K A Z S H) : Grow K Z A S H A S H := ⟨List.prefix_refl _, h, fun _ _ h => h, fun _ _ => rfl, fun _ _ h => h⟩
theorem Grow.trans (g : Grow K Z A S H A' S' H') (g' : Grow K Z A' S' H' A'' S'' H'') : Grow K Z A S H A'' S'' H'' :=
  ⟨g.pre.trans g'.pre, g'.ok, fun b o h => g'.ex b o (g.ex b o h), fun b hb => (g'.hid b hb).trans (g.hid b hb), fun i ds h => g'.lk i ds (g.lk i ds h)⟩
theorem Grow.zero (g : Grow K Z A S H A' S' H') : Grow0 K Z A S H A' S' H' := ⟨g.pre, g.ok, g.ex, g.hid⟩
theorem Grow0.refl (h : SOk K A Z S H) : Grow0 K Z A S H A S H := ⟨List.prefix_refl _, h, fun _ _ h => h, fun _ _ => rfl⟩
theorem Grow0.trans (g : Grow0 K Z A S H A' S' H') (g' : Grow0 K Z A' S' H' A'' S'' H'') : Grow0 K Z A S H A'' S'' H'' :=
  ⟨g.pre.trans g'.pre, g'.ok, fun b o h => g'.ex b o (g.ex b o h), fun b hb => (g'.hid b hb).trans (g.hid b hb)⟩
theorem DR.grow0 {v : V} {d : D} (r : DR A (cut A Z S H) K v d) (g : Grow0 K Z A S H A' S' H') : DR A' (cut A' Z S' H') K v d := r.mono g.pre g.ex
theorem DRs.grow0 {vs : List V} {ds : List D} (r : DRs A (cut A Z S H) K vs ds) (g : Grow0 K Z A S H A' S' H') : DRs A' (cut A' Z S' H') K vs ds := r.mono g.pre g.ex
theorem DR.grow {v : V} {d : D} (r : DR A (cut A Z S H) K v d) (g : Grow K Z A S H A' S' H') : DR A' (cut A' Z S' H') K v d := r.mono g.pre g.ex
theorem DRs.grow {vs : List V} {ds : List D} (r : DRs A (cut A Z S H) K vs ds) (g : Grow K Z A S H A' S' H') : DRs A' (cut A' Z S' H') K vs ds := r.mono g.pre g.ex
def Live (A : List Addr) (S : Sto) (b : Addr) : Prop := ∃ (i : Nat) (c : CO), A[i]? = some b ∧ S[i]? = some c ∧ c.live = true
theorem zip_any {A : List Addr} {S : Sto} {b : Addr} : (A.zip S).any (fun p => p.2.live && p.1 == b) = true ↔ Live A S b := by
  constructor
  · intro h
    obtain ⟨⟨a, c⟩, hm, hp⟩ := List.any_eq_true.mp h
    obtain ⟨i, hi⟩ := List.mem_iff_getElem?.mp hm
    rw [List.getElem?_zip_eq_some] at hi
    simp only [Bool.and_eq_true, beq_iff_eq] at hp
    exact ⟨i, c, by rw [hi.1, hp.2], hi.2, hp.1⟩
  · rintro ⟨i, c, h1, h2, h3⟩
    refine List.any_eq_true.mpr ⟨(b, c), List.mem_iff_getElem?.mpr ⟨i, List.getElem?_zip_eq_some.mpr ⟨h1, h2⟩⟩, ?_⟩
    simp [h3]
theorem cut_none {b : Addr} (h : b ∈ Z ∨ Live A S b) : cut A Z S H b = none := by
  unfold cut
  rw [if_pos]
  rw [Bool.or_eq_true, zip_any]
  exact h.elim (fun h => .inl (by simpa using h)) .inr
theorem cut_some {b : Addr} {o : HO} : cut A Z S H b = some o ↔ (H b = some o ∧ b ∉ Z ∧ ¬ Live A S b) := by
  unfold cut
  by_cases h : (Z.contains b || (A.zip S).any (fun p => p.2.live && p.1 == b)) = true
  · rw [if_pos h]
    rw [Bool.or_eq_true, zip_any] at h
    constructor
    · intro z; cases z
    · rintro ⟨_, z1, z2⟩
      rcases h with h | h
      · exact absurd (by simpa using h) z1
      · exact absurd h z2
  · rw [if_neg h]
    rw [Bool.or_eq_true, zip_any] at h
    constructor
    · intro z; exact ⟨z, fun q => h (.inl (by simpa using q)), fun q => h (.inr q)⟩
    · intro z; exact z.1
theorem cut_sub {b : Addr} {o : HO} (h : cut A Z S H b = some o) : H b = some o := (cut_some.mp h).1
theorem SOk.fresh (ok : SOk K A Z S H) {p : Addr} (h : H p = none) : p ∉ Z ∧ ¬ Live A S p :=
  ⟨fun q => (ok.hid p q).1.1 h, fun ⟨i, _, h1, _, _⟩ => ok.there p (List.mem_iff_getElem?.mpr ⟨i, h1⟩) h⟩
theorem cut_new {p : Addr} {o : HO} (ok : SOk K A Z S H) (h : H p = none) : cut A Z S (upd H p o) p = some o :=
  cut_some.mpr ⟨upd_same, ok.fresh h⟩
theorem cut_upd {p : Addr} {o : HO} (h : H p = none) : ∀ b u, cut A Z S H b = some u → cut A Z S (upd H p o) b = some u := fun b u e => by
  obtain ⟨e1, e2⟩ := cut_some.mp e
  refine cut_some.mpr ⟨?_, e2⟩
  rw [upd_ne (ne_of_none e1 h)]
  exact e1
theorem upd_some {p b : Addr} {o : HO} (h : H b ≠ none) (hp : H p = none) : upd H p o b = H b := upd_ne (fun e => h (e ▸ hp))
theorem SOk.new {p : Addr} {o : HO} (ok : SOk K A Z S H) (h : H p = none) : SOk K A Z S (upd H p o) := by
  refine ⟨ok.len, ok.nd, fun a ha => ?_, fun b hb => ?_, fun i c ds hc hd => ?_, fun i P q e => ⟨(ok.tab i P q e).1, (ok.tab i P q e).2.ext fun b o e => by rw [upd_ne (ne_of_none e h)]; exact e⟩⟩
  · rw [upd_some (ok.there a ha) h]
    exact ok.there a ha
  · rw [upd_some (ok.hid b hb).1.1 h]
    exact ok.hid b hb
  · obtain ⟨a, vs, h1, h2, h3⟩ := ok.at_ i c ds hc hd
    exact ⟨a, vs, h1, by rw [upd_ne (ne_of_none h2 h)]; exact h2, h3.mono (List.prefix_refl _) (cut_upd h)⟩
theorem Grow.new {p : Addr} {o : HO} (ok : SOk K A Z S H) (h : H p = none) : Grow K Z A S H A S (upd H p o) :=
  ⟨List.prefix_refl _, ok.new h, cut_upd h, fun b hb => upd_some (ok.hid b hb).1.1 h, fun _ _ h => h⟩
theorem snoc_get {α : Type} {l : List α} {x : α} : (l ++ [x])[l.length]? = some x := by simp
theorem cut_snoc {p : Addr} {c : CO} (ok : SOk K A Z S H) (h : H p = none) {o : HO} : ∀ b u, cut A Z S H b = some u → cut (A ++ [p]) Z (S ++ [c]) (upd H p o) b = some u := fun b u e => by
  obtain ⟨e1, e2, e3⟩ := cut_some.mp e
  have nb : b ≠ p := ne_of_none e1 h
  refine cut_some.mpr ⟨by rw [upd_ne nb]; exact e1, e2, ?_⟩
  rintro ⟨i, c', h1, h2, h3⟩
  by_cases hi : i < A.length
  · rw [List.getElem?_append_left hi] at h1
    rw [List.getElem?_append_left (by rw [← ok.len]; exact hi)] at h2
    exact e3 ⟨i, c', h1, h2, h3⟩
  · rw [List.getElem?_append_right (Nat.le_of_not_lt hi)] at h1
    have : i - A.length = 0 := by
      cases q : i - A.length with
      | zero => rfl
      | succ n => rw [q] at h1; simp at h1
    rw [this] at h1
    exact nb (by simpa using h1.symm)
theorem Grow.cell {p : Addr} {vs : List V} {ds : List D} (ok : SOk K A Z S H) (h : H p = none) (r : DRs A (cut A Z S H) K vs ds) :
    Grow K Z A S H (A ++ [p]) (S ++ [.lst ds]) (upd H p (.lst vs)) := by
  have hp : p ∉ A := fun q => ok.there p q h
  refine ⟨List.prefix_append _ _, ⟨by simp [ok.len], ?_, fun a ha => ?_, fun b hb => ?_, fun i c es hc hd => ?_, fun i P q e => ?_⟩, cut_snoc ok h, fun b hb => upd_some (ok.hid b hb).1.1 h, fun i es e => by rw [List.getElem?_append_left (List.getElem?_eq_some_iff.mp e).1]; exact e⟩
  · rw [List.nodup_append]
    refine ⟨ok.nd, by simp, fun a ha b hb => ?_⟩
    simp at hb
    subst hb
    exact fun e => hp (e ▸ ha)
  · rcases List.mem_append.mp ha with ha | ha
    · rw [upd_some (ok.there a ha) h]
      exact ok.there a ha
    · simp at ha
      subst ha
      rw [upd_same]
      simp
  · rw [upd_some (ok.hid b hb).1.1 h]
    refine ⟨(ok.hid b hb).1, fun q => ?_⟩
    rcases List.mem_append.mp q with q | q
    · exact (ok.hid b hb).2 q
    · simp at q
      subst q
      exact (ok.hid _ hb).1.1 h
  · by_cases hi : i < S.length
    · rw [List.getElem?_append_left hi] at hc
      obtain ⟨a, ws, h1, h2, h3⟩ := ok.at_ i c es hc hd
      refine ⟨a, ws, ?_, by rw [upd_ne (ne_of_none h2 h)]; exact h2, h3.mono (List.prefix_append _ _) (cut_snoc ok h)⟩
      rw [List.getElem?_append_left (by rw [ok.len]; exact hi)]
      exact h1
    · rw [List.getElem?_append_right (Nat.le_of_not_lt hi)] at hc
      have q : i - S.length = 0 := by
        cases q : i - S.length with
        | zero => rfl
        | succ n => rw [q] at hc; simp at hc
      rw [q] at hc
      have hc : c = .lst ds := by simpa using hc.symm
      subst hc
      have e : es = ds := by rcases hd with z | z <;> cases z; rfl
      subst e
      refine ⟨p, vs, ?_, upd_same, r.mono (List.prefix_append _ _) (cut_snoc ok h)⟩
      have : i = A.length := by rw [ok.len]; omega
      subst this
      exact snoc_get
  · have hi : i < S.length := by
      by_cases hi : i < S.length
      · exact hi
      · rw [List.getElem?_append_right (Nat.le_of_not_lt hi)] at e
        cases q : i - S.length with
        | zero => rw [q] at e; simp at e
        | succ n => rw [q] at e; simp at e
    rw [List.getElem?_append_left hi] at e
    obtain ⟨t1, t2⟩ := ok.tab i P q e
    exact ⟨by rw [List.getElem?_append_left (by rw [ok.len]; exact hi)]; exact t1, t2.ext fun b o e => by rw [upd_ne (ne_of_none e h)]; exact e⟩
theorem set_live {i : Nat} {c c' : CO} (h0 : S[i]? = some c) (hl : c.live = c'.live) {b : Addr} : Live A (S.set i c') b ↔ Live A S b := by
  have hi : i < S.length := (List.getElem?_eq_some_iff.mp h0).1
  constructor
  · rintro ⟨j, d, h1, h2, h3⟩
    by_cases e : i = j
    · subst e
      rw [List.getElem?_set_self hi] at h2
      cases h2
      exact ⟨i, c, h1, h0, by rw [hl]; exact h3⟩
    · rw [List.getElem?_set_ne e] at h2
      exact ⟨j, d, h1, h2, h3⟩
  · rintro ⟨j, d, h1, h2, h3⟩
    by_cases e : i = j
    · subst e
      rw [h0] at h2
      cases h2
      exact ⟨i, c', h1, List.getElem?_set_self hi, by rw [← hl]; exact h3⟩
    · exact ⟨j, d, h1, by rw [List.getElem?_set_ne e]; exact h2, h3⟩
theorem cut_set {i : Nat} {c c' : CO} (h0 : S[i]? = some c) (hl : c.live = c'.live) : cut A Z (S.set i c') H = cut A Z S H := by
  funext b
  unfold cut
  have : ((Z.contains b || (A.zip (S.set i c')).any (fun p => p.2.live && p.1 == b)) = true) = ((Z.contains b || (A.zip S).any (fun p => p.2.live && p.1 == b)) = true) := by
    rw [eq_iff_iff, Bool.or_eq_true, Bool.or_eq_true, zip_any, zip_any, set_live h0 hl]
  simp only [this]
theorem nodup_at {α : Type} : ∀ {l : List α} (h : l.Nodup) {i j : Nat} {x : α} (h1 : l[i]? = some x) (h2 : l[j]? = some x), i = j
  | [], _, i, j, x, h1, _ => by simp at h1
  | y :: l, h, i, j, x, h1, h2 => by
    rw [List.nodup_cons] at h
    cases i with
    | zero =>
      cases j with
      | zero => rfl
      | succ j =>
        simp at h1 h2
        subst h1
        exact absurd (List.mem_iff_getElem?.mpr ⟨j, h2⟩) h.1
    | succ i =>
      cases j with
      | zero =>
        simp at h1 h2
        subst h2
        exact absurd (List.mem_iff_getElem?.mpr ⟨i, h1⟩) h.1
      | succ j => rw [nodup_at h.2 (i := i) (j := j) (x := x) (by simpa using h1) (by simpa using h2)]
theorem Grow.store {i : Nat} {a : Addr} {vs : List V} {ds es : List D} (ok : SOk K A Z S H) (h0 : S[i]? = some (.lst ds)) (ha : A[i]? = some a) (r : DRs A (cut A Z S H) K vs es) :
    Grow K Z A S H A (S.set i (.lst es)) (upd H a (.lst vs)) := by
  have hi : i < S.length := (List.getElem?_eq_some_iff.mp h0).1
  have nl : ∀ b o, cut A Z S H b = some o → b ≠ a := fun b o e z => by
    subst z
    rw [cut_none (.inr ⟨i, _, ha, h0, rfl⟩)] at e
    cases e
  have nz : ∀ b ∈ Z, b ≠ a := fun b hb z => (ok.hid b hb).2 (z ▸ List.mem_iff_getElem?.mpr ⟨i, ha⟩)
  have hal : ∃ vs0, H a = some (.lst vs0) := by
    obtain ⟨a', vs0, e1, e2, _⟩ := ok.at_ i _ ds h0 (.inl rfl)
    rw [ha] at e1
    cases e1
    exact ⟨vs0, e2⟩
  have up : ∀ b o, cut A Z S H b = some o → cut A Z (S.set i (.lst es)) (upd H a (.lst vs)) b = some o := fun b o e => by
    obtain ⟨e1, e2, e3⟩ := cut_some.mp e
    exact cut_some.mpr ⟨by rw [upd_ne (nl b o e)]; exact e1, e2, fun q => e3 ((set_live h0 (by rfl)).mp q)⟩
  refine ⟨List.prefix_refl _, ⟨by rw [List.length_set]; exact ok.len, ok.nd, fun b hb => ?_, fun b hb => ?_, fun j c fs hc hd => ?_, fun j P q e => ?_⟩, up, fun b hb => upd_ne (nz b hb), fun j es e => by
    rw [List.getElem?_set_ne (fun z => by subst z; rw [h0] at e; cases e)]
    exact e⟩
  · by_cases z : b = a
    · subst z; rw [upd_same]; simp
    · rw [upd_ne z]; exact ok.there b hb
  · rw [upd_ne (nz b hb)]
    exact ok.hid b hb
  · by_cases e : i = j
    · subst e
      rw [List.getElem?_set_self hi] at hc
      cases hc
      have e2 : fs = es := by rcases hd with z | z <;> cases z; rfl
      subst e2
      exact ⟨a, vs, ha, upd_same, r.mono (List.prefix_refl _) up⟩
    · rw [List.getElem?_set_ne e] at hc
      obtain ⟨b, ws, h1, h2, h3⟩ := ok.at_ j c fs hc hd
      refine ⟨b, ws, h1, ?_, h3.mono (List.prefix_refl _) up⟩
      have : b ≠ a := fun z => e (nodup_at ok.nd ha (z ▸ h1))
      rw [upd_ne this]
      exact h2
  · have hij : i ≠ j := fun z => by
      subst z
      rw [List.getElem?_set_self hi] at e
      cases e
    rw [List.getElem?_set_ne hij] at e
    obtain ⟨t1, t2⟩ := ok.tab j P q e
    obtain ⟨vs0, hal⟩ := hal
    refine ⟨t1, tabS_keep t2 (upd_ne fun z => hij (nodup_at ok.nd ha (z ▸ t1))) fun c hc => ?_⟩
    rw [upd_ne (fun z => by rw [z, hal] at hc; cases hc)]
    exact hc
theorem Grow.relock {i : Nat} {c c' : CO} {ds : List D} (ok : SOk K A Z S H) (h0 : S[i]? = some c) (hc : c = .lst ds ∨ c = .lk ds) (hc' : c' = .lst ds ∨ c' = .lk ds) : Grow0 K Z A S H A (S.set i c') H := by
  have hi : i < S.length := (List.getElem?_eq_some_iff.mp h0).1
  have hl : c.live = c'.live := by rcases hc with rfl | rfl <;> rcases hc' with rfl | rfl <;> rfl
  have ec : cut A Z (S.set i c') H = cut A Z S H := cut_set h0 hl
  refine ⟨List.prefix_refl _, ⟨by rw [List.length_set]; exact ok.len, ok.nd, ok.there, ok.hid, fun j d fs hd hf => ?_, fun j P q e => by
    have hij : i ≠ j := fun z => by
      subst z
      rw [List.getElem?_set_self hi] at e
      rcases hc' with rfl | rfl <;> cases e
    rw [List.getElem?_set_ne hij] at e
    exact ok.tab j P q e⟩, fun b o e => by rw [ec]; exact e, fun _ _ => rfl⟩
  rw [ec]
  by_cases e : i = j
  · subst e
    rw [List.getElem?_set_self hi] at hd
    cases hd
    have e2 : fs = ds := by rcases hf with rfl | rfl <;> rcases hc' with z | z <;> cases z <;> rfl
    subst e2
    exact ok.at_ i c fs h0 hc
  · rw [List.getElem?_set_ne e] at hd
    exact ok.at_ j d fs hd hf
theorem Grow.freeze {i : Nat} {ds : List D} (ok : SOk K A Z S H) (h0 : S[i]? = some (.lst ds)) : Grow K Z A S H A (S.set i .gone) H ∧ ∃ a vs, A[i]? = some a ∧ cut A Z (S.set i .gone) H a = some (.lst vs) ∧ DRs A (cut A Z (S.set i .gone) H) K vs ds := by
  have hi : i < S.length := (List.getElem?_eq_some_iff.mp h0).1
  have up : ∀ b o, cut A Z S H b = some o → cut A Z (S.set i .gone) H b = some o := fun b o e => by
    obtain ⟨e1, e2, e3⟩ := cut_some.mp e
    refine cut_some.mpr ⟨e1, e2, ?_⟩
    rintro ⟨j, d, h1, h2, h3⟩
    by_cases e : i = j
    · subst e
      rw [List.getElem?_set_self hi] at h2
      cases h2
      cases h3
    · rw [List.getElem?_set_ne e] at h2
      exact e3 ⟨j, d, h1, h2, h3⟩
  obtain ⟨a, vs, h1, h2, h3⟩ := ok.at_ i _ ds h0 (.inl rfl)
  refine ⟨⟨List.prefix_refl _, ⟨by rw [List.length_set]; exact ok.len, ok.nd, ok.there, ok.hid, fun j d fs hd hf => ?_, fun j P q e => by
    have hij : i ≠ j := fun z => by
      subst z
      rw [List.getElem?_set_self hi] at e
      cases e
    rw [List.getElem?_set_ne hij] at e
    exact ok.tab j P q e⟩, up, fun _ _ => rfl, fun j es e => by
    rw [List.getElem?_set_ne (fun z => by subst z; rw [h0] at e; cases e)]
    exact e⟩, a, vs, h1, cut_some.mpr ⟨h2, fun hz => (ok.hid a hz).2 (List.mem_iff_getElem?.mpr ⟨i, h1⟩), ?_⟩, h3.mono (List.prefix_refl _) up⟩
  · by_cases e : i = j
    · subst e
      rw [List.getElem?_set_self hi] at hd
      cases hd
      rcases hf with z | z <;> cases z
    · rw [List.getElem?_set_ne e] at hd
      obtain ⟨b, ws, k1, k2, k3⟩ := ok.at_ j d fs hd hf
      exact ⟨b, ws, k1, k2, k3.mono (List.prefix_refl _) up⟩
  · rintro ⟨j, d, k1, k2, k3⟩
    have : i = j := nodup_at ok.nd h1 k1
    subst this
    rw [List.getElem?_set_self hi] at k2
    cases k2
    cases k3
theorem cut_hide {p : Addr} : ∀ b u, cut A (p :: Z) S H b = some u → cut A Z S H b = some u := fun b u e => by
  obtain ⟨e1, e2, e3⟩ := cut_some.mp e
  exact cut_some.mpr ⟨e1, fun q => e2 (List.mem_cons_of_mem _ q), e3⟩
theorem cut_hidden {p : Addr} {o : HO} (h : H p = none) : ∀ b u, cut A Z S H b = some u → cut A (p :: Z) S (upd H p o) b = some u := fun b u e => by
  obtain ⟨e1, e2, e3⟩ := cut_some.mp e
  have nb := ne_of_none e1 h
  exact cut_some.mpr ⟨by rw [upd_ne nb]; exact e1, fun q => (List.mem_cons.mp q).elim nb e2, e3⟩
theorem SOk.hide {p : Addr} {o : HO} (ok : SOk K A Z S H) (h : H p = none) (ho : ∀ q, o ≠ LamX.CodeO p q) : SOk K A (p :: Z) S (upd H p o) := by
  refine ⟨ok.len, ok.nd, fun a ha => ?_, fun b hb => ?_, fun i c ds hc hd => ?_, fun i P q e => ⟨(ok.tab i P q e).1, (ok.tab i P q e).2.ext fun b o e => by rw [upd_ne (ne_of_none e h)]; exact e⟩⟩
  · rw [upd_some (ok.there a ha) h]
    exact ok.there a ha
  · rcases List.mem_cons.mp hb with rfl | hb
    · exact ⟨⟨by rw [upd_same]; simp, fun q z => by rw [upd_same] at z; exact ho q (Option.some.inj z)⟩, fun q => ok.there _ q h⟩
    · rw [upd_some (ok.hid b hb).1.1 h]
      exact ok.hid b hb
  · obtain ⟨a, vs, h1, h2, h3⟩ := ok.at_ i c ds hc hd
    exact ⟨a, vs, h1, by rw [upd_ne (ne_of_none h2 h)]; exact h2, h3.mono (List.prefix_refl _) (cut_hidden h)⟩
theorem cut_turn {p : Addr} {o : HO} : cut A (p :: Z) S (upd H p o) = cut A (p :: Z) S H := by
  funext b
  by_cases e : b = p
  · subst e
    rw [cut_none (.inl List.mem_cons_self), cut_none (.inl List.mem_cons_self)]
  · unfold cut
    rw [upd_ne e]
theorem SOk.turn {p : Addr} {o : HO} (ok : SOk K A (p :: Z) S H) (ho : ∀ q, o ≠ LamX.CodeO p q) : SOk K A (p :: Z) S (upd H p o) := by
  refine ⟨ok.len, ok.nd, fun a ha => ?_, fun b hb => ?_, fun i c ds hc hd => ?_, fun i P q e => ?_⟩
  · by_cases e : a = p
    · subst e; rw [upd_same]; simp
    · rw [upd_ne e]; exact ok.there a ha
  · refine ⟨?_, (ok.hid b hb).2⟩
    by_cases e : b = p
    · subst e; rw [upd_same]; exact ⟨by simp, fun q z => ho q (Option.some.inj z)⟩
    · rw [upd_ne e]; exact (ok.hid b hb).1
  · obtain ⟨a, vs, h1, h2, h3⟩ := ok.at_ i c ds hc hd
    have na : a ≠ p := fun e => (ok.hid p List.mem_cons_self).2 (e ▸ List.mem_iff_getElem?.mpr ⟨i, h1⟩)
    exact ⟨a, vs, h1, by rw [upd_ne na]; exact h2, by rw [cut_turn]; exact h3⟩
  · obtain ⟨t1, t2⟩ := ok.tab i P q e
    have hp := ok.hid p List.mem_cons_self
    refine ⟨t1, tabS_keep t2 (upd_ne fun z => hp.2 (z ▸ List.mem_iff_getElem?.mpr ⟨i, t1⟩)) fun c hc => ?_⟩
    rw [upd_ne (fun z => by rw [z] at hc; exact hp.1.2 q hc)]
    exact hc
theorem SOk.show_ {p : Addr} (ok : SOk K A (p :: Z) S H) : SOk K A Z S H :=
  ⟨ok.len, ok.nd, ok.there, fun b hb => ok.hid b (List.mem_cons_of_mem _ hb), fun i c ds hc hd => by
    obtain ⟨a, vs, h1, h2, h3⟩ := ok.at_ i c ds hc hd
    exact ⟨a, vs, h1, h2, h3.mono (List.prefix_refl _) cut_hide⟩, ok.tab⟩
theorem cut_shown {p : Addr} {o : HO} (ok : SOk K A (p :: Z) S H) (h : H p = some o) (hz : p ∉ Z) : cut A Z S H p = some o :=
  cut_some.mpr ⟨h, hz, fun ⟨i, _, h1, _, _⟩ => (ok.hid p List.mem_cons_self).2 (List.mem_iff_getElem?.mpr ⟨i, h1⟩)⟩
end
end DL
set_option maxHeartbeats 2000000
namespace DL
open PySem PySem.Spec PyProof.Rows L2
structure Sl (K : PySem.W.Frag) (A : List Addr) (G : Hp) (ρ : Env) (σ : L2.St) : Prop where
  len : ρ.length = σ.length
  at_ : ∀ (i : Nat) (d : D), ρ[i]? = some (some d) → ∃ v, σ[i]? = some (some v) ∧ DR A G K v d
theorem Sl.mono {K : PySem.W.Frag} {A A' : List Addr} {G G' : Hp} {ρ : Env} {σ : L2.St} (p : A <+: A') (e : ∀ b o, G b = some o → G' b = some o) (h : Sl K A G ρ σ) : Sl K A' G' ρ σ :=
  ⟨h.len, fun i d q => let ⟨v, h1, h2⟩ := h.at_ i d q; ⟨v, h1, h2.mono p e⟩⟩
theorem Sl.grow {K : PySem.W.Frag} {A A' Z : List Addr} {S S' : Sto} {H H' : Hp} {ρ : Env} {σ : L2.St} (h : Sl K A (cut A Z S H) ρ σ) (g : Grow K Z A S H A' S' H') : Sl K A' (cut A' Z S' H') ρ σ := h.mono g.pre g.ex
theorem Sl.set {K : PySem.W.Frag} {A : List Addr} {G : Hp} {ρ : Env} {σ : L2.St} (h : Sl K A G ρ σ) {v : V} {d : D} (r : DR A G K v d) (i : Nat) : Sl K A G (ρ.set i (some d)) (σ.set i (some v)) := by
  refine ⟨by rw [List.length_set, List.length_set]; exact h.len, fun j e q => ?_⟩
  by_cases c : i = j
  · subst c
    by_cases hi : i < ρ.length
    · rw [List.getElem?_set_self hi] at q
      cases q
      exact ⟨v, List.getElem?_set_self (by rw [← h.len]; exact hi), r⟩
    · rw [List.getElem?_eq_none (by rw [List.length_set]; omega)] at q
      cases q
  · rw [List.getElem?_set_ne c] at q
    obtain ⟨w, h1, h2⟩ := h.at_ j e q
    exact ⟨w, by rw [List.getElem?_set_ne c]; exact h1, h2⟩
theorem Sl.clear {K : PySem.W.Frag} {A : List Addr} {G : Hp} {ρ : Env} {σ : L2.St} (h : Sl K A G ρ σ) (i : Nat) (x : Option V) : Sl K A G (ρ.set i none) (σ.set i x) := by
  refine ⟨by rw [List.length_set, List.length_set]; exact h.len, fun j e q => ?_⟩
  by_cases c : i = j
  · subst c
    by_cases hi : i < ρ.length
    · rw [List.getElem?_set_self hi] at q
      cases q
    · rw [List.getElem?_eq_none (by rw [List.length_set]; omega)] at q
      cases q
  · rw [List.getElem?_set_ne c] at q
    obtain ⟨w, h1, h2⟩ := h.at_ j e q
    exact ⟨w, by rw [List.getElem?_set_ne c]; exact h1, h2⟩
def wipeE (ρ : Env) : List Nat → Env
  | [] => ρ
  | v :: vs => (wipeE ρ vs).set v none
theorem Sl.wipe {K : PySem.W.Frag} {A : List Addr} {G : Hp} {ρ : Env} {σ : L2.St} (h : Sl K A G ρ σ) : ∀ vs : List Nat, Sl K A G (wipeE ρ vs) (L2.wipe σ vs)
  | [] => h
  | v :: vs => (Sl.wipe h vs).clear v none
def Post {α : Type} (K : PySem.W.Frag) (W : WX) (ca : Str → Addr) (A Z : List Addr) (S : Sto) (H : Hp) (σ : L2.St) (r : Res α) (P : List Addr → Sto → Hp → α → Prop) : Prop := match r with
  | .ok a S' => ∀ A' H', Grow K Z A S H A' S' H' → P A' S' H' a
  | .err c d S' => ∀ A' H' dx v σ', Grow K Z A S H A' S' H' → cut A' Z S' H' dx = some (.xd [("value", v)]) → DR A' (cut A' Z S' H') K v d → W (.ref (ca c)) (some dx) σ' H'
  | .bad => False
section
variable {K : PySem.W.Frag} {W : WX} {ca : Str → Addr} {A A' Z : List Addr} {S S' : Sto} {H H' : Hp} {σ : L2.St}
theorem Post.later {α : Type} {r : Res α} {P : List Addr → Sto → Hp → α → Prop} (h : Post K W ca A Z S H σ r P) (g : Grow K Z A S H A' S' H') : Post K W ca A' Z S' H' σ r P := by
  cases r with
  | ok a T => exact fun B I g' => h B I (g.trans g')
  | err c d T => exact fun B I dx v σ' g' => h B I dx v σ' (g.trans g')
  | bad => exact h
theorem Post.imp {α : Type} {r : Res α} {P P' : List Addr → Sto → Hp → α → Prop} (h : Post K W ca A Z S H σ r P) (i : ∀ B T I a, Grow K Z A S H B T I → P B T I a → P' B T I a) : Post K W ca A Z S H σ r P' := by
  cases r with
  | ok a T => exact fun B I g' => i _ _ _ _ g' (h B I g')
  | err c d T => exact h
  | bad => exact h
theorem Post.split {α β : Type} {r : Res α} {f : α → Sto → Res β} {P : List Addr → Sto → Hp → β → Prop} (h : Post K W ca A Z S H σ (r.bind f) P) :
    Post K W ca A Z S H σ r fun B T I a => Post K W ca B Z T I σ (f a T) P := by
  cases r with
  | ok a T => exact fun B I g => Post.later h g
  | err c d T => exact h
  | bad => exact h
theorem Post.sig {α : Type} {r : Res α} {P : List Addr → Sto → Hp → α → Prop} (h : Post K W ca A Z S H σ r P) (σ' : L2.St) : Post K W ca A Z S H σ' r P := by
  cases r <;> exact h
end
abbrev FE := Env → Sto → Res D
abbrev FT := Env → Sto → Res Bool
abbrev FA := Env → Sto → Res (List D)
def tE (K : PySem.W.Frag) (W : WX) (ca : Str → Addr) (f : FE) : TE := fun σ H Q => ∃ A Z S ρ, SOk K A Z S H ∧ Sl K A (cut A Z S H) ρ σ ∧ Post K W ca A Z S H σ (f ρ S) fun B T I d => ∀ v, DR B (cut B Z T I) K v d → Q v I
def tT (K : PySem.W.Frag) (W : WX) (ca : Str → Addr) (f : FT) : TT := fun σ H Q => ∃ A Z S ρ, SOk K A Z S H ∧ Sl K A (cut A Z S H) ρ σ ∧ Post K W ca A Z S H σ (f ρ S) fun B T I b => Q b I
def tA (K : PySem.W.Frag) (W : WX) (ca : Str → Addr) (f : FA) : TA := fun σ H Q => ∃ A Z S ρ, SOk K A Z S H ∧ Sl K A (cut A Z S H) ρ σ ∧ Post K W ca A Z S H σ (f ρ S) fun B T I ds => ∀ vs, DRs B (cut B Z T I) K vs ds → Q vs I
structure SE (X : Cx) (W : WX) (ca : Str → Addr) (e : Expr) (f : FE) : Prop where
  pe : PE X e (tE X.K W ca f)
structure ST_ (X : Cx) (W : WX) (ca : Str → Addr) (e : Expr) (f : FT) : Prop where
  pt : PT X e (tT X.K W ca f)
structure SW (X : Cx) (W : WX) (ca : Str → Addr) (e : Expr) (f : FT) : Prop where
  pw : PW X e (tT X.K W ca f)
structure SA (X : Cx) (W : WX) (ca : Str → Addr) (es : List Expr) (f : FA) : Prop where
  pa : PA X es (tA X.K W ca f)
section
variable {X : Cx} {W : WX} {ca : Str → Addr} {e a b : Expr} {es : List Expr} {pos : Pos}
theorem pe_imp {t t' : TE} (h : PE X e t) (i : ∀ σ H Q, t' σ H Q → t σ H Q) : PE X e t' := ⟨fun pins s σ H Q I q => h.run pins s σ H Q I (i _ _ _ q)⟩
theorem pt_imp {t t' : TT} (h : PT X e t) (i : ∀ σ H Q, t' σ H Q → t σ H Q) : PT X e t' := ⟨fun pins s σ H Q I q => h.run pins s σ H Q I (i _ _ _ q)⟩
theorem pw_imp {t t' : TT} (h : PW X e t) (i : ∀ σ H Q, t' σ H Q → t σ H Q) : PW X e t' := ⟨fun whole pins s σ H Q I q => h.run whole pins s σ H Q I (i _ _ _ q)⟩
theorem pa_imp {t t' : TA} (h : PA X es t) (i : ∀ σ H Q, t' σ H Q → t σ H Q) : PA X es t' := ⟨fun pos pins s σ H Q I q => h.run pos pins s σ H Q I (i _ _ _ q)⟩
theorem SW.st {f : FT} (h : SW X W ca e f) : ST_ X W ca e f := ⟨h.pw.pt⟩
def fC (d : D) : FE := fun _ S => .ok d S
theorem se_of {f : FE} {t : TE} (h : PE X e t) (i : ∀ σ H Q, tE X.K W ca f σ H Q → t σ H Q) : SE X W ca e f := ⟨pe_imp h i⟩
theorem se_int {i : Int} {j : Nat} : SE X W ca (.Constant (.int i) j pos) (fC (.int i)) := se_of pe_int fun σ H Q ⟨A, Z, S, ρ, ok, sl, p⟩ => p A H (.refl ok) _ (.int i)
theorem se_bl {i : Bool} {j : Nat} : SE X W ca (.Constant (.bool i) j pos) (fC (.bl i)) := se_of pe_bl fun σ H Q ⟨A, Z, S, ρ, ok, sl, p⟩ => p A H (.refl ok) _ (.bl i)
theorem se_non {j : Nat} : SE X W ca (.Constant .none j pos) (fC .non) := se_of pe_non fun σ H Q ⟨A, Z, S, ρ, ok, sl, p⟩ => p A H (.refl ok) _ .non
theorem se_str {x : Str} {j : Nat} : SE X W ca (.Constant (.str x) j pos) (fC (.str x)) := se_of pe_str fun σ H Q ⟨A, Z, S, ρ, ok, sl, p⟩ => p A H (.refl ok) _ (.str x)
def fVar (i : Nat) : FE := fun ρ S => match ρ[i]? with
  | some (some d) => .ok d S
  | _ => .bad
theorem se_var (i : Nat) {x : Str} (hN : X.N[i]? = some x := by rfl) (hv : Vis X.env.scope x := by first | exact Or.inl rfl | exact Or.inr (Or.inl rfl) | exact Or.inr (Or.inr rfl)) (hd : (x == ("__debug__" : Str)) = false := by decide)
    (hcd : (x == ("__classdict__" : Str)) = false := by decide) : SE X W ca (.Name x pos) (fVar i) := by
  refine se_of (pe_var (i := i) hN hv hd hcd) fun σ H Q ⟨A, Z, S, ρ, ok, sl, p⟩ => ?_
  unfold fVar at p
  split at p
  · rename_i d hd
    obtain ⟨v, h1, h2⟩ := sl.at_ i d hd
    exact ⟨v, h1, p A H (.refl ok) v h2⟩
  · exact p.elim
theorem se_glob {x : Str} {v : V} {d : D} {u : Value} (hg : Gl X x) (hm : X.mg x = some u) (r : RelV v u) (hd : ∀ A G, DR A G X.K v d) (hdb : (x == ("__debug__" : Str)) = false := by decide) : SE X W ca (.Name x pos) (fC d) :=
  se_of (pe_glob hg hm r hdb) fun σ H Q ⟨A, Z, S, ρ, ok, sl, p⟩ => p A H (.refl ok) _ (hd _ _)
abbrev Op2 := D → D → Sto → Option D
def rD (K : PySem.W.Frag) (r : Op2) : R2 := fun x y H Q => ∃ A Z S dx dy d, SOk K A Z S H ∧ DR A (cut A Z S H) K x dx ∧ DR A (cut A Z S H) K y dy ∧ r dx dy S = some d ∧ ∀ B I v, Grow K Z A S H B S I → DR B (cut B Z S I) K v d → Q v I
def okO (o : Option D) (S : Sto) : Res D := match o with
  | some d => .ok d S
  | none => .bad
@[simp] theorem okO_some {d : D} {S : Sto} : okO (some d) S = .ok d S := rfl
@[simp] theorem okO_none {S : Sto} : okO none S = .bad := rfl
def fOp (r : Op2) (fa fb : FE) : FE := fun ρ S => (fa ρ S).bind fun x S1 => (fb ρ S1).bind fun y S2 => okO (r x y S2) S2
theorem tE_bin {K : PySem.W.Frag} {r : Op2} {fa fb : FE} {σ : L2.St} {H : Hp} {Q : VK} (h : tE K W ca (fOp r fa fb) σ H Q) : tOp (rD K r) (tE K W ca fa) (tE K W ca fb) σ H Q := by
  obtain ⟨A, Z, S, ρ, ok, sl, p⟩ := h
  refine ⟨A, Z, S, ρ, ok, sl, (Post.split p).imp fun B T I x g q v rv => ?_⟩
  refine ⟨B, Z, T, ρ, g.ok, sl.grow g, (Post.split q).imp fun C U J y g2 q2 w rw_ => ?_⟩
  cases e : r x y U with
  | none => rw [e] at q2; exact q2.elim
  | some d =>
    rw [e] at q2
    exact ⟨C, Z, U, x, y, d, g2.ok, rv.grow g2, rw_, e, fun B I v g r => q2 B I g v r⟩
theorem se_op {op : Operator} {r : Op2} {fa fb : FE} (ho : OpR X (binaryOp op) (rD X.K r)) (ha : SE X W ca a fa) (hb : SE X W ca b fb) : SE X W ca (.BinOp a op b pos) (fOp r fa fb) :=
  se_of (pe_op ho ha.pe hb.pe) fun _ _ _ h => tE_bin h
theorem se_cmp {op : CmpOp} {r : Op2} {fa fb : FE} (ho : OpR X (compareOp op) (rD X.K r)) (ha : SE X W ca a fa) (hb : SE X W ca b fb) (hm : behindInMarks op b = false) : SE X W ca (.Compare a [op] [b] pos) (fOp r fa fb) :=
  se_of (pe_cmpR ho ha.pe hb.pe hm) fun _ _ _ h => tE_bin h
def asB (x : Res D) : Res Bool := x.bind fun d S => match d with
  | .bl b => .ok b S
  | _ => .bad
@[simp] theorem asB_ok {b : Bool} {S : Sto} : asB (.ok (.bl b) S) = .ok b S := rfl
def fB (f : FE) : FT := fun ρ S => asB (f ρ S)
theorem tT_B {K : PySem.W.Frag} {f : FE} {σ : L2.St} {H : Hp} {Q : Bool → Hp → Prop} (h : tT K W ca (fB f) σ H Q) : tE K W ca f σ H fun x H' => ∃ k, x = .bl k ∧ Q k H' := by
  obtain ⟨A, Z, S, ρ, ok, sl, p⟩ := h
  refine ⟨A, Z, S, ρ, ok, sl, (Post.split p).imp fun B T I d g q v rv => ?_⟩
  cases d with
  | bl b =>
    cases rv
    exact ⟨b, rfl, q B I (.refl g.ok)⟩
  | _ => exact q.elim
theorem st_cmp {op : CmpOp} {r : Op2} {fa fb : FE} (ho : OpR X (compareOp op) (rD X.K r)) (ha : SE X W ca a fa) (hb : SE X W ca b fb) (hm : behindInMarks op b = false) : ST_ X W ca (.Compare a [op] [b] pos) (fB (fOp r fa fb)) :=
  ⟨pt_imp (pt_cmpR ho ha.pe hb.pe hm) fun σ H Q h => tE_bin (Q := fun x H' => ∃ k, x = .bl k ∧ Q k H') (tT_B h)⟩
theorem st_val {f : FE} (h : SE X W ca e f) (he : ∀ whole, isTrue e X.env whole = (do let v ← whole; standAt e.pos; holding [v] (truthy v)) := by intro _; rfl) : ST_ X W ca e (fB f) :=
  ⟨pt_imp (pt_val h.pe he) fun σ H Q h => tT_B h⟩
def fAnd (f g : FT) : FT := fun ρ S => (f ρ S).bind fun c S1 => if c = true then g ρ S1 else .ok false S1
def fOr (f g : FT) : FT := fun ρ S => (f ρ S).bind fun c S1 => if c = true then .ok true S1 else g ρ S1
def fNot (f : FT) : FT := fun ρ S => (f ρ S).bind fun c S1 => .ok (!c) S1
theorem st_not {f : FT} (h : ST_ X W ca a f) : ST_ X W ca (.UnaryOp .Not a pos) (fNot f) :=
  ⟨pt_imp (pt_not h.pt) fun σ H Q ⟨A, Z, S, ρ, ok, sl, p⟩ => ⟨A, Z, S, ρ, ok, sl, (Post.split p).imp fun B T I c g q => q B I (.refl g.ok)⟩⟩
theorem sw_and1 {f : FT} (h : ST_ X W ca a f) : SW X W ca (.BoolOp .And [a] pos) f := ⟨pw_and1 h.pt⟩
theorem sw_or1 {f : FT} (h : ST_ X W ca a f) : SW X W ca (.BoolOp .Or [a] pos) f := ⟨pw_or1 h.pt⟩
theorem tT_and {K : PySem.W.Frag} {f g : FT} {σ : L2.St} {H : Hp} {Q : Bool → Hp → Prop} (h : tT K W ca (fAnd f g) σ H Q) : tAnd (tT K W ca f) (tT K W ca g) σ H Q := by
  obtain ⟨A, Z, S, ρ, ok, sl, p⟩ := h
  refine ⟨A, Z, S, ρ, ok, sl, (Post.split p).imp fun B T I c gr q => ?_⟩
  cases c with
  | true => exact iteT ⟨B, Z, T, ρ, gr.ok, sl.grow gr, q⟩
  | false => exact iteF (q B I (.refl gr.ok))
theorem tT_or {K : PySem.W.Frag} {f g : FT} {σ : L2.St} {H : Hp} {Q : Bool → Hp → Prop} (h : tT K W ca (fOr f g) σ H Q) : tOr (tT K W ca f) (tT K W ca g) σ H Q := by
  obtain ⟨A, Z, S, ρ, ok, sl, p⟩ := h
  refine ⟨A, Z, S, ρ, ok, sl, (Post.split p).imp fun B T I c gr q => ?_⟩
  cases c with
  | true => exact iteT (q B I (.refl gr.ok))
  | false => exact iteF ⟨B, Z, T, ρ, gr.ok, sl.grow gr, q⟩
theorem sw_and {f g : FT} {rest : List Expr} (ha : ST_ X W ca a f) (hb : SW X W ca (.BoolOp .And (b :: rest) pos) g) : SW X W ca (.BoolOp .And (a :: b :: rest) pos) (fAnd f g) :=
  ⟨pw_imp (pw_and ha.pt hb.pw) fun _ _ _ h => tT_and h⟩
theorem sw_or {f g : FT} {rest : List Expr} (ha : ST_ X W ca a f) (hb : SW X W ca (.BoolOp .Or (b :: rest) pos) g) : SW X W ca (.BoolOp .Or (a :: b :: rest) pos) (fOr f g) :=
  ⟨pw_imp (pw_or ha.pt hb.pw) fun _ _ _ h => tT_or h⟩
def fAndV (f g : FE) : FE := fun ρ S => (asB (f ρ S)).bind fun c S1 => if c = true then g ρ S1 else .ok (.bl false) S1
def fOrV (f g : FE) : FE := fun ρ S => (asB (f ρ S)).bind fun c S1 => if c = true then .ok (.bl true) S1 else g ρ S1
def fNotV (f : FE) : FE := fun ρ S => (asB (f ρ S)).bind fun c S1 => .ok (.bl (!c)) S1
theorem se_one {op : BoolOp} {f : FE} (h : SE X W ca a f) : SE X W ca (.BoolOp op [a] pos) f := ⟨pe_one h.pe⟩
theorem se_and {f g : FE} {rest : List Expr} (ha : SE X W ca a f) (hb : SE X W ca (.BoolOp .And (b :: rest) pos) g) : SE X W ca (.BoolOp .And (a :: b :: rest) pos) (fAndV f g) := by
  refine se_of (pe_and ha.pe hb.pe) fun σ H Q ⟨A, Z, S, ρ, ok, sl, p⟩ => ?_
  refine ⟨A, Z, S, ρ, ok, sl, (Post.split (Post.split p)).imp fun B T I d gr q v rv => ?_⟩
  cases d with
  | bl c =>
    cases rv
    have q := q B I (.refl gr.ok)
    cases c with
    | true => exact ⟨true, rfl, iteT ⟨B, Z, T, ρ, gr.ok, sl.grow gr, q⟩⟩
    | false => exact ⟨false, rfl, iteF (q B I (.refl gr.ok) _ (.bl _))⟩
  | _ => exact q.elim
theorem se_or {f g : FE} {rest : List Expr} (ha : SE X W ca a f) (hb : SE X W ca (.BoolOp .Or (b :: rest) pos) g) : SE X W ca (.BoolOp .Or (a :: b :: rest) pos) (fOrV f g) := by
  refine se_of (pe_or ha.pe hb.pe) fun σ H Q ⟨A, Z, S, ρ, ok, sl, p⟩ => ?_
  refine ⟨A, Z, S, ρ, ok, sl, (Post.split (Post.split p)).imp fun B T I d gr q v rv => ?_⟩
  cases d with
  | bl c =>
    cases rv
    have q := q B I (.refl gr.ok)
    cases c with
    | true => exact ⟨true, rfl, iteT (q B I (.refl gr.ok) _ (.bl _))⟩
    | false => exact ⟨false, rfl, iteF ⟨B, Z, T, ρ, gr.ok, sl.grow gr, q⟩⟩
  | _ => exact q.elim
theorem se_not {f : FE} (ha : SE X W ca a f) : SE X W ca (.UnaryOp .Not a pos) (fNotV f) := by
  refine se_of (pe_not ha.pe) fun σ H Q ⟨A, Z, S, ρ, ok, sl, p⟩ => ?_
  refine ⟨A, Z, S, ρ, ok, sl, (Post.split (Post.split p)).imp fun B T I d gr q v rv => ?_⟩
  cases d with
  | bl c =>
    cases rv
    exact ⟨c, rfl, q B I (.refl gr.ok) B I (.refl gr.ok) _ (.bl _)⟩
  | _ => exact q.elim
def fIf (t : FT) (f g : FE) : FE := fun ρ S => (t ρ S).bind fun c S1 => if c = true then f ρ S1 else g ρ S1
theorem se_ifExp {c : Expr} {t : FT} {f g : FE} (hc : ST_ X W ca c t) (ha : SE X W ca a f) (hb : SE X W ca b g) : SE X W ca (.IfExp c a b pos) (fIf t f g) := by
  refine se_of (pe_ifExp hc.pt ha.pe hb.pe) fun σ H Q ⟨A, Z, S, ρ, ok, sl, p⟩ => ?_
  refine ⟨A, Z, S, ρ, ok, sl, (Post.split p).imp fun B T I c gr q => ?_⟩
  cases c with
  | true => exact iteT ⟨B, Z, T, ρ, gr.ok, sl.grow gr, q⟩
  | false => exact iteF ⟨B, Z, T, ρ, gr.ok, sl.grow gr, q⟩
def fNil : FA := fun _ S => .ok [] S
def fCons (f : FE) (g : FA) : FA := fun ρ S => (f ρ S).bind fun d S1 => (g ρ S1).bind fun ds S2 => .ok (d :: ds) S2
theorem sa_nil : SA X W ca [] fNil := ⟨pa_imp pa_nil fun σ H Q ⟨A, Z, S, ρ, ok, sl, p⟩ => p A H (.refl ok) [] .nil⟩
theorem sa_cons {f : FE} {g : FA} (h : SE X W ca e f) (hr : SA X W ca es g) (hs : starEach (e :: es) X.env = (false, eval e X.env) :: starEach es X.env := by rfl) : SA X W ca (e :: es) (fCons f g) := by
  refine ⟨pa_imp (pa_cons h.pe hr.pa hs) fun σ H Q ⟨A, Z, S, ρ, ok, sl, p⟩ => ?_⟩
  refine ⟨A, Z, S, ρ, ok, sl, (Post.split p).imp fun B T I d gr q v rv => ?_⟩
  refine ⟨B, Z, T, ρ, gr.ok, sl.grow gr, (Post.split q).imp fun C U J ds gr2 q2 vs rvs => ?_⟩
  exact q2 C J (.refl gr2.ok) (v :: vs) (.cons (rv.grow gr2) rvs)
def capN : Nat := 10000000
theorem capN_le {n : Nat} (h : n ≤ capN) : n ≤ sizeLine := Nat.le_trans h (by decide)
theorem capN_lt {n : Nat} (h : n < capN) : n < sizeLine := Nat.lt_of_lt_of_le h (by decide)
def fTup (f : FA) : FE := fun ρ S => (f ρ S).bind fun ds S1 => if ds.length ≤ capN then .ok (.tup ds) S1 else .bad
theorem new_tup {K : PySem.W.Frag} {A Z : List Addr} {S : Sto} {H : Hp} {p : Addr} {vs : List V} {ds : List D} (ok : SOk K A Z S H) (h : H p = none) (r : DRs A (cut A Z S H) K vs ds) :
    DR A (cut A Z S (upd H p (.tup vs))) K (.ref p) (.tup ds) := .tup (SqT.of (cut_new ok h)) (r.mono (List.prefix_refl _) (cut_upd h))
theorem new_lst {K : PySem.W.Frag} {A Z : List Addr} {S : Sto} {H : Hp} {p : Addr} {vs : List V} {ds : List D} (ok : SOk K A Z S H) (h : H p = none) (r : DRs A (cut A Z S H) K vs ds) :
    DR A (cut A Z S (upd H p (.lst vs))) K (.ref p) (.lst ds) := .lst (cut_new ok h) (r.mono (List.prefix_refl _) (cut_upd h))
theorem se_tup {f : FA} {k : Nat} (h : SA X W ca es f) : SE X W ca (.Tuple es k pos) (fTup f) := by
  refine se_of (pe_tup h.pa) fun σ H Q ⟨A, Z, S, ρ, ok, sl, p⟩ => ?_
  refine ⟨A, Z, S, ρ, ok, sl, (Post.split p).imp fun B T I ds gr q vs rv => ?_⟩
  by_cases hc : ds.length ≤ capN
  · rw [if_pos hc] at q
    exact ⟨by rw [rv.length]; exact capN_le hc, fun p hp => q B _ (.new gr.ok hp) _ (new_tup gr.ok hp rv)⟩
  · rw [if_neg hc] at q
    exact q.elim
def fLst (f : FA) : FE := fun ρ S => (f ρ S).bind fun ds S1 => if ds.length ≤ capN then .ok (.lst ds) S1 else .bad
def fLstC (f : FA) : FE := fun ρ S => (f ρ S).bind fun ds S1 => if ds.length ≤ capN then .ok (.cel S1.length) (S1 ++ [.lst ds]) else .bad
theorem se_lst {f : FA} (h : SA X W ca es f) : SE X W ca (.List es pos) (fLst f) := by
  refine se_of (pe_lst h.pa) fun σ H Q ⟨A, Z, S, ρ, ok, sl, p⟩ => ?_
  refine ⟨A, Z, S, ρ, ok, sl, (Post.split p).imp fun B T I ds gr q vs rv => ?_⟩
  by_cases hc : ds.length ≤ capN
  · rw [if_pos hc] at q
    exact ⟨by rw [rv.length]; exact capN_le hc, fun p hp => q B _ (.new gr.ok hp) _ (new_lst gr.ok hp rv)⟩
  · rw [if_neg hc] at q
    exact q.elim
theorem new_cel {K : PySem.W.Frag} {A Z : List Addr} {S : Sto} {H G : Hp} {p : Addr} (ok : SOk K A Z S H) : DR (A ++ [p]) G K (.ref p) (.cel S.length) := .cel (by rw [← ok.len]; exact snoc_get)
theorem se_lstC {f : FA} (h : SA X W ca es f) : SE X W ca (.List es pos) (fLstC f) := by
  refine se_of (pe_lst h.pa) fun σ H Q ⟨A, Z, S, ρ, ok, sl, p⟩ => ?_
  refine ⟨A, Z, S, ρ, ok, sl, (Post.split p).imp fun B T I ds gr q vs rv => ?_⟩
  by_cases hc : ds.length ≤ capN
  · rw [if_pos hc] at q
    exact ⟨by rw [rv.length]; exact capN_le hc, fun p hp => q _ _ (.cell gr.ok hp rv) _ (new_cel gr.ok)⟩
  · rw [if_neg hc] at q
    exact q.elim
end
end DL
set_option maxHeartbeats 2000000
namespace DL
open PySem PySem.Spec PyProof.Rows L2
def lstOf (S : Sto) : D → Option (List D)
  | .lst xs => some xs
  | .cel i => match S[i]? with
    | some (.lst xs) => some xs
    | some (.lk xs) => some xs
    | _ => none
  | _ => none
def seqOf (S : Sto) : D → Option (List D)
  | .kls xs => some xs
  | d => lstOf S d
section
variable {K : PySem.W.Frag} {A Z : List Addr} {S : Sto} {H : Hp} {v : V} {d : D} {xs : List D}
theorem lstOf_at (ok : SOk K A Z S H) (r : DR A (cut A Z S H) K v d) (h : lstOf S d = some xs) : ∃ a vs, v = .ref a ∧ H a = some (.lst vs) ∧ DRs A (cut A Z S H) K vs xs := by
  cases r with
  | lst h1 h2 => cases h; exact ⟨_, _, rfl, cut_sub h1, h2⟩
  | @cel a i h1 =>
    unfold lstOf at h
    simp only at h
    split at h
    · rename_i ys e
      cases h
      obtain ⟨a', vs, k1, k2, k3⟩ := ok.at_ i _ xs e (.inl rfl)
      rw [h1] at k1
      cases k1
      exact ⟨a, vs, rfl, k2, k3⟩
    · rename_i ys e
      cases h
      obtain ⟨a', vs, k1, k2, k3⟩ := ok.at_ i _ xs e (.inr rfl)
      rw [h1] at k1
      cases k1
      exact ⟨a, vs, rfl, k2, k3⟩
    · cases h
  | _ => cases h
theorem seqOf_at (ok : SOk K A Z S H) (r : DR A (cut A Z S H) K v d) (h : seqOf S d = some xs) : ∃ a vs, v = .ref a ∧ SqL K H a vs ∧ DRs A (cut A Z S H) K vs xs := by
  cases r with
  | kls h1 h2 => cases h; exact ⟨_, _, rfl, sql_mono (fun _ _ => cut_sub) h1, h2⟩
  | lst h1 h2 => cases h; exact ⟨_, _, rfl, SqL.of (cut_sub h1), h2⟩
  | cel h1 =>
    obtain ⟨a, vs, e, h1, h2⟩ := lstOf_at ok (.cel h1) h
    exact ⟨a, vs, e, SqL.of h1, h2⟩
  | _ => cases h
theorem tup_at (r : DR A (cut A Z S H) K v (.tup xs)) : ∃ a vs, v = .ref a ∧ SqT K H a vs ∧ DRs A (cut A Z S H) K vs xs := by
  cases r with
  | tup h1 h2 => exact ⟨_, _, rfl, sqt_mono (fun _ _ => cut_sub) h1, h2⟩
end
mutual
def toP0 : D → Option PyData
  | .non => some .none
  | .bl b => some (.bool b)
  | .int i => some (.int i)
  | .str x => some (.str x)
  | .lst xs => (toP0s xs).map .list
  | .kls xs => (toP0s xs).map .list
  | .tup xs => (toP0s xs).map .tuple
  | .dct _ => none
  | .cel _ => none
  | .fn _ => none
  | .exc _ _ => none
def toP0s : List D → Option (List PyData)
  | [] => some []
  | d :: ds => match toP0 d, toP0s ds with
    | some p, some ps => some (p :: ps)
    | _, _ => none
end
mutual
def toP (S : Sto) : D → Option PyData
  | .non => some .none
  | .bl b => some (.bool b)
  | .int i => some (.int i)
  | .str x => some (.str x)
  | .lst xs => (toPs S xs).map .list
  | .kls xs => (toPs S xs).map .list
  | .tup xs => (toPs S xs).map .tuple
  | .dct _ => none
  | .cel i => match lstOf S (.cel i) with
    | some xs => (toP0s xs).map .list
    | none => none
  | .fn _ => none
  | .exc _ _ => none
def toPs (S : Sto) : List D → Option (List PyData)
  | [] => some []
  | d :: ds => match toP S d, toPs S ds with
    | some p, some ps => some (p :: ps)
    | _, _ => none
end
section
variable {K : PySem.W.Frag} {A Z : List Addr} {S : Sto} {H : Hp}
mutual
theorem toP0_at : ∀ {d : D} {v : V} {p : PyData}, DR A (cut A Z S H) K v d → toP0 d = some p → Dp K H v p
  | .non, _, _, r, h => by cases r; cases h; exact .non
  | .bl b, _, _, r, h => by cases r; cases h; exact .bl b
  | .int i, _, _, r, h => by cases r; cases h; exact .int i
  | .str x, _, _, r, h => by cases r; cases h; exact .str x
  | .lst xs, _, _, r, h => by
    cases r with
    | lst h1 h2 =>
      unfold toP0 at h
      cases e : toP0s xs with
      | none => rw [e] at h; cases h
      | some ps =>
        rw [e] at h
        cases h
        exact .lst (SqL.of (cut_sub h1)) (toP0s_at h2 e)
  | .kls xs, _, _, r, h => by
    cases r with
    | kls h1 h2 =>
      unfold toP0 at h
      cases e : toP0s xs with
      | none => rw [e] at h; cases h
      | some ps =>
        rw [e] at h
        cases h
        exact .lst (sql_mono (fun _ _ => cut_sub) h1) (toP0s_at h2 e)
  | .tup xs, _, _, r, h => by
    cases r with
    | tup h1 h2 =>
      unfold toP0 at h
      cases e : toP0s xs with
      | none => rw [e] at h; cases h
      | some ps =>
        rw [e] at h
        cases h
        exact .tup (sqt_mono (fun _ _ => cut_sub) h1) (toP0s_at h2 e)
  | .dct _, _, _, _, h => by cases h
  | .cel _, _, _, _, h => by cases h
  | .fn _, _, _, _, h => by cases h
  | .exc _ _, _, _, _, h => by cases h
theorem toP0s_at : ∀ {ds : List D} {vs : List V} {ps : List PyData}, DRs A (cut A Z S H) K vs ds → toP0s ds = some ps → DpAll K H vs ps
  | [], _, _, r, h => by cases r; cases h; exact .nil
  | d :: ds, _, _, r, h => by
    cases r with
    | cons h1 h2 =>
      unfold toP0s at h
      cases e1 : toP0 d with
      | none => rw [e1] at h; cases h
      | some p =>
        cases e2 : toP0s ds with
        | none => rw [e1, e2] at h; cases h
        | some ps =>
          rw [e1, e2] at h
          cases h
          exact .cons (toP0_at h1 e1) (toP0s_at h2 e2)
end
mutual
theorem toP_at (ok : SOk K A Z S H) : ∀ {d : D} {v : V} {p : PyData}, DR A (cut A Z S H) K v d → toP S d = some p → Dp K H v p
  | .non, _, _, r, h => by cases r; cases h; exact .non
  | .bl b, _, _, r, h => by cases r; cases h; exact .bl b
  | .int i, _, _, r, h => by cases r; cases h; exact .int i
  | .str x, _, _, r, h => by cases r; cases h; exact .str x
  | .lst xs, _, _, r, h => by
    cases r with
    | lst h1 h2 =>
      unfold toP at h
      cases e : toPs S xs with
      | none => rw [e] at h; cases h
      | some ps =>
        rw [e] at h
        cases h
        exact .lst (SqL.of (cut_sub h1)) (toPs_at ok h2 e)
  | .kls xs, _, _, r, h => by
    cases r with
    | kls h1 h2 =>
      unfold toP at h
      cases e : toPs S xs with
      | none => rw [e] at h; cases h
      | some ps =>
        rw [e] at h
        cases h
        exact .lst (sql_mono (fun _ _ => cut_sub) h1) (toPs_at ok h2 e)
  | .tup xs, _, _, r, h => by
    cases r with
    | tup h1 h2 =>
      unfold toP at h
      cases e : toPs S xs with
      | none => rw [e] at h; cases h
      | some ps =>
        rw [e] at h
        cases h
        exact .tup (sqt_mono (fun _ _ => cut_sub) h1) (toPs_at ok h2 e)
  | .dct _, _, _, _, h => by cases h
  | .cel i, v, p, r, h => by
    unfold toP at h
    cases e : lstOf S (.cel i) with
    | none => rw [e] at h; cases h
    | some xs =>
      rw [e] at h
      simp only at h
      obtain ⟨a, vs, rfl, h1, h2⟩ := lstOf_at ok r e
      cases e2 : toP0s xs with
      | none => rw [e2] at h; cases h
      | some ps =>
        rw [e2] at h
        cases h
        exact .lst (SqL.of h1) (toP0s_at h2 e2)
  | .fn _, _, _, _, h => by cases h
  | .exc _ _, _, _, _, h => by cases h
theorem toPs_at (ok : SOk K A Z S H) : ∀ {ds : List D} {vs : List V} {ps : List PyData}, DRs A (cut A Z S H) K vs ds → toPs S ds = some ps → DpAll K H vs ps
  | [], _, _, r, h => by cases r; cases h; exact .nil
  | d :: ds, _, _, r, h => by
    cases r with
    | cons h1 h2 =>
      unfold toPs at h
      cases e1 : toP S d with
      | none => rw [e1] at h; cases h
      | some p =>
        cases e2 : toPs S ds with
        | none => rw [e1, e2] at h; cases h
        | some ps =>
          rw [e1, e2] at h
          cases h
          exact .cons (toP_at ok h1 e1) (toPs_at ok h2 e2)
end
end
def ltN (i : Int) (m : Nat) : Bool := Nat.blt i.natAbs m
theorem ltN_at {i : Int} {m : Nat} (h : ltN i m = true) : i.natAbs < m := by
  unfold ltN at h
  exact Nat.le_of_ble_eq_true h
theorem ltN_of {i : Int} {m : Nat} (h : i.natAbs < m) : ltN i m = true := Nat.ble_eq_true_of_le h
theorem pow_room {b : Nat} {j : Int} (h1 : 0 ≤ j) (h : b * j.natAbs ≤ 134217728) : (b : Int) * j ≤ 134217728 := by
  have e : (b : Int) * j = ((b * j.natAbs : Nat) : Int) := by
    rw [Int.natCast_mul, Int.natAbs_of_nonneg h1]
  rw [e]
  omega
@[irreducible] def mulOk (i j : Int) : Bool := ltN i 18446744073709551616 || ltN j 18446744073709551616 || Nat.blt (i.natAbs.log2 + j.natAbs.log2) 1000000
@[irreducible] def fdivOk (j : Int) : Bool := decide (0 < j) && (ltN j 1073741824 || Nat.blt j.natAbs.log2 9000)
@[irreducible] def powOk (i j : Int) : Bool := decide (0 ≤ j) && ((ltN j 1000001 && ltN i 18446744073709551616) || Nat.ble (Builtin.Int.intBits i * j.natAbs) 134217728)
def addD : Op2 := fun x y S => match x, y with
  | .int i, .int j => some (.int (i + j))
  | .str a, .str b => if a.length + b.length ≤ capN then some (.str (a ++ b)) else none
  | .tup a, .tup b => if a.length + b.length ≤ capN then some (.tup (a ++ b)) else none
  | x, y => match lstOf S x, lstOf S y with
    | some a, some b => if a.length + b.length ≤ capN then some (.lst (a ++ b)) else none
    | _, _ => none
def subD : Op2 := fun x y _ => match x, y with
  | .int i, .int j => some (.int (i - j))
  | _, _ => none
def mulD : Op2 := fun x y S => match x, y with
  | .int i, .int j => if mulOk i j then some (.int (i * j)) else none
  | x, .int k => match lstOf S x with
    | some a => if ltN k 1000000000 && decide (a.length * k.toNat ≤ capN) then some (.lst (List.replicate k.toNat a).flatten) else none
    | none => none
  | _, _ => none
def fdivD : Op2 := fun x y _ => match x, y with
  | .int i, .int j => if fdivOk j then some (.int (i / j)) else none
  | _, _ => none
def modD : Op2 := fun x y _ => match x, y with
  | .int i, .int j => if decide (0 < j) then some (.int (i % j)) else none
  | _, _ => none
def powD : Op2 := fun x y _ => match x, y with
  | .int i, .int j => if powOk i j then some (.int (i ^ j.toNat)) else none
  | _, _ => none
def eqB (S : Sto) (x y : D) : Option Bool := match x, y with
  | .int i, .int j => some (decide (i = j))
  | .str a, .str b => some (decide (a = b))
  | x, y => match toP S x, toP S y with
  | some p, some q => if SeqAt.shaped p && SeqAt.shaped q then some (PyData.eqv p q) else none
  | _, _ => none
def eqD : Op2 := fun x y S => (eqB S x y).map .bl
def neD : Op2 := fun x y S => (eqB S x y).map fun b => .bl (!b)
def ltD : Op2 := fun x y _ => match x, y with
  | .int i, .int j => some (.bl (decide (i < j)))
  | _, _ => none
def leD : Op2 := fun x y _ => match x, y with
  | .int i, .int j => some (.bl (decide (i ≤ j)))
  | _, _ => none
def gtD : Op2 := fun x y _ => match x, y with
  | .int i, .int j => some (.bl (decide (j < i)))
  | _, _ => none
def intsOf : List D → Option (List Int)
  | [] => some []
  | .int i :: ds => (intsOf ds).map (i :: ·)
  | _ => none
def geI (ns ms : List Int) : Bool := Ob.lexAt (fun j => decide (ns.getD j 0 = ms.getD j 0)) (fun j => decide (ms.getD j 0 ≤ ns.getD j 0)) (decide (ns.length ≥ ms.length)) 0 (min ns.length ms.length)
def geD : Op2 := fun x y _ => match x, y with
  | .int i, .int j => some (.bl (decide (j ≤ i)))
  | .tup a, .tup b => match intsOf a, intsOf b with
    | some ns, some ms => some (.bl (geI ns ms))
    | _, _ => none
  | _, _ => none
def isNon : D → Bool
  | .non => true
  | _ => false
def isBlD (b : Bool) : D → Bool
  | .bl a => a == b
  | _ => false
def isD : Op2 := fun x y _ => match y with
  | .non => some (.bl (isNon x))
  | .bl b => some (.bl (isBlD b x))
  | _ => none
def isnotD : Op2 := fun x y _ => match y with
  | .non => some (.bl (!isNon x))
  | .bl b => some (.bl (!isBlD b x))
  | _ => none
def inD : Op2 := fun x y S => match toP S x, toP S y with
  | some p, some (.list qs) => if SeqAt.shaped p && SeqAt.shaped (.list qs) then some (.bl (qs.any fun z => PyData.eqv z p)) else none
  | _, _ => none
theorem intsOf_map : ∀ {ds : List D} {ns : List Int}, intsOf ds = some ns → ∀ {A : List Addr} {G : Hp} {K : PySem.W.Frag} {vs : List V}, DRs A G K vs ds → vs = ns.map V.int
  | [], ns, h, _, _, _, _, r => by cases h; cases r; rfl
  | .int i :: ds, ns, h, _, _, _, _, r => by
    unfold intsOf at h
    cases e : intsOf ds with
    | none => rw [e] at h; cases h
    | some ms =>
      rw [e] at h
      cases h
      cases r with
      | cons h1 h2 =>
        cases h1
        rw [intsOf_map e h2]
        rfl
  | .non :: _, _, h, _, _, _, _, _ => by cases h
  | .bl _ :: _, _, h, _, _, _, _, _ => by cases h
  | .str _ :: _, _, h, _, _, _, _, _ => by cases h
  | .lst _ :: _, _, h, _, _, _, _, _ => by cases h
  | .kls _ :: _, _, h, _, _, _, _, _ => by cases h
  | .tup _ :: _, _, h, _, _, _, _, _ => by cases h
  | .dct _ :: _, _, h, _, _, _, _, _ => by cases h
  | .cel _ :: _, _, h, _, _, _, _, _ => by cases h
  | .fn _ :: _, _, h, _, _, _, _, _ => by cases h
section
variable {X : Cx}
theorem opd_add : OpR X (binaryOp .Add) (rD X.K addD) := by
  intro pins s σ H x y v u Q I rx ry ⟨A, Z, S, dx, dy, d, ok, hx, hy, e, q⟩
  have lists : (match lstOf S dx, lstOf S dy with
    | some a, some b => if a.length + b.length ≤ capN then some (D.lst (a ++ b)) else none
    | _, _ => none) = some d → wpAny (model X.prog X.w) X.A (binaryOp .Add v u) (EP X pins σ Q) X.xe s := fun e => by
    cases e1 : lstOf S dx with
    | none => rw [e1] at e; cases e
    | some a =>
      cases e2 : lstOf S dy with
      | none => rw [e1, e2] at e; cases e
      | some b =>
        rw [e1, e2] at e
        simp only at e
        by_cases hc : a.length + b.length ≤ capN
        · rw [if_pos hc] at e
          cases e
          obtain ⟨l, vs, rfl, h1, h2⟩ := lstOf_at ok hx e1
          obtain ⟨m, ws, rfl, k1, k2⟩ := lstOf_at ok hy e2
          exact op_cat pins s σ H _ _ v u Q I rx ry ⟨l, m, vs, ws, rfl, rfl, h1, k1, by rw [h2.length, k2.length]; exact capN_le hc, fun p hp => q A _ _ (.new ok hp) (new_lst ok hp (h2.append k2))⟩
        · rw [if_neg hc] at e
          cases e
  unfold addD at e
  split at e
  · cases hx; cases hy; cases e
    exact op_add pins s σ H _ _ v u Q I rx ry ⟨_, _, rfl, rfl, q A H _ (.refl ok) (.int _)⟩
  · cases hx; cases hy
    rename_i a b
    by_cases hc : a.length + b.length ≤ capN
    · rw [if_pos hc] at e
      cases e
      exact op_add_str pins s σ H _ _ v u Q I rx ry ⟨_, _, rfl, rfl, capN_le hc, q A H _ (.refl ok) (.str _)⟩
    · rw [if_neg hc] at e
      cases e
  · rename_i a b
    by_cases hc : a.length + b.length ≤ capN
    · rw [if_pos hc] at e
      cases e
      obtain ⟨l, vs, rfl, h1, h2⟩ := tup_at hx
      obtain ⟨m, ws, rfl, k1, k2⟩ := tup_at hy
      refine op_catA pins s σ H _ _ v u Q I rx ry ⟨l, m, vs, ws, rfl, rfl, h1, k1, by rw [h2.length, k2.length]; exact capN_le hc, fun z => ?_, fun _ z => ?_, fun _ _ p hp => q A _ _ (.new ok hp) (new_tup ok hp (h2.append k2))⟩
      · subst z
        cases h2
        exact q A H _ (.refl ok) hy
      · subst z
        cases k2
        rw [List.append_nil] at q
        exact q A H _ (.refl ok) hx
    · rw [if_neg hc] at e
      cases e
  · exact lists e
theorem opd_sub : OpR X (binaryOp .Sub) (rD X.K subD) := by
  intro pins s σ H x y v u Q I rx ry ⟨A, Z, S, dx, dy, d, ok, hx, hy, e, q⟩
  unfold subD at e
  split at e
  · cases hx; cases hy; cases e
    exact op_sub pins s σ H _ _ v u Q I rx ry ⟨_, _, rfl, rfl, q A H _ (.refl ok) (.int _)⟩
  · cases e
theorem opd_mul : OpR X (binaryOp .Mult) (rD X.K mulD) := by
  intro pins s σ H x y v u Q I rx ry ⟨A, Z, S, dx, dy, d, ok, hx, hy, e, q⟩
  unfold mulD at e
  split at e
  · cases hx; cases hy
    split at e
    · rename_i hc
      cases e
      unfold mulOk at hc
      simp only [Bool.or_eq_true] at hc
      have p64 : (2 : Int) ^ 64 = 18446744073709551616 := by decide +kernel
      rcases hc with (hc | hc) | hc
      · have := ltN_at hc
        exact op_mul pins s σ H _ _ v u Q I rx ry ⟨_, _, rfl, rfl, .inl (by rw [p64]; omega), q A H _ (.refl ok) (.int _)⟩
      · have := ltN_at hc
        exact op_mul pins s σ H _ _ v u Q I rx ry ⟨_, _, rfl, rfl, .inr (by rw [p64]; omega), q A H _ (.refl ok) (.int _)⟩
      · exact op_mulW pins s σ H _ _ v u Q I rx ry ⟨_, _, rfl, rfl, Nat.le_of_ble_eq_true hc, q A H _ (.refl ok) (.int _)⟩
    · cases e
  · rename_i k _
    split at e
    · rename_i a e1
      split at e
      · rename_i hc
        cases e
        simp only [Bool.and_eq_true, decide_eq_true_eq] at hc
        obtain ⟨l, vs, rfl, h1, h2⟩ := lstOf_at ok hx e1
        cases hy
        have p63 : (2 : Int) ^ 63 = 9223372036854775808 := by decide +kernel
        have hk := ltN_at hc.1
        refine op_rep pins s σ H _ _ v u Q I rx ry ⟨l, k, vs, rfl, rfl, h1, by rw [p63]; omega, by rw [p63]; omega, by rw [h2.length]; exact capN_le hc.2, fun p hp => q A _ _ (.new ok hp) (new_lst ok hp ?_)⟩
        generalize k.toNat = n
        induction n with
        | zero => exact .nil
        | succ n ih => rw [List.replicate_succ, List.replicate_succ, List.flatten_cons, List.flatten_cons]; exact h2.append ih
      · cases e
    · cases e
  · cases e
theorem opd_fdiv : OpR X (binaryOp .FloorDiv) (rD X.K fdivD) := by
  intro pins s σ H x y v u Q I rx ry ⟨A, Z, S, dx, dy, d, ok, hx, hy, e, q⟩
  unfold fdivD at e
  split at e
  · cases hx; cases hy
    split at e
    · rename_i hc
      cases e
      unfold fdivOk at hc
      simp only [Bool.or_eq_true, Bool.and_eq_true, decide_eq_true_eq] at hc
      rcases hc.2 with h2 | h2
      · have := ltN_at h2
        have h1 := hc.1
        exact op_fdiv pins s σ H _ _ v u Q I rx ry ⟨_, _, rfl, rfl, ⟨h1, by omega⟩, q A H _ (.refl ok) (.int _)⟩
      · exact op_fdivW pins s σ H _ _ v u Q I rx ry ⟨_, _, rfl, rfl, ⟨hc.1, Nat.le_of_ble_eq_true h2⟩, q A H _ (.refl ok) (.int _)⟩
    · cases e
  · cases e
theorem opd_mod : OpR X (binaryOp .Mod) (rD X.K modD) := by
  intro pins s σ H x y v u Q I rx ry ⟨A, Z, S, dx, dy, d, ok, hx, hy, e, q⟩
  unfold modD at e
  split at e
  · cases hx; cases hy
    split at e
    · rename_i hc
      cases e
      exact op_mod pins s σ H _ _ v u Q I rx ry ⟨_, _, rfl, rfl, of_decide_eq_true hc, q A H _ (.refl ok) (.int _)⟩
    · cases e
  · cases e
theorem op_powB : OpR X (binaryOp .Pow) (rI (fun i j => 0 ≤ j ∧ (Builtin.Int.intBits i : Int) * j ≤ 2 ^ 27) fun i j => .int (i ^ j.toNat)) := opI fun _ _ _ _ _ _ _ hc q => pow_int hc.1 hc.2 q
theorem opd_pow : OpR X (binaryOp .Pow) (rD X.K powD) := by
  intro pins s σ H x y v u Q I rx ry ⟨A, Z, S, dx, dy, d, ok, hx, hy, e, q⟩
  unfold powD at e
  split at e
  · cases hx; cases hy
    split at e
    · rename_i hc
      cases e
      unfold powOk at hc
      simp only [Bool.or_eq_true, Bool.and_eq_true, decide_eq_true_eq] at hc
      obtain ⟨h1, h2⟩ := hc
      have p64 : 2 ^ 64 = 18446744073709551616 := by decide +kernel
      have p27 : (2 : Int) ^ 27 = 134217728 := by decide +kernel
      rcases h2 with ⟨h2, h3⟩ | h2
      · have k2 := ltN_at h2
        have k3 := ltN_at h3
        exact op_pow pins s σ H _ _ v u Q I rx ry ⟨_, _, rfl, rfl, ⟨h1, by omega, by rw [p64]; exact k3⟩, q A H _ (.refl ok) (.int _)⟩
      · have k2 : Builtin.Int.intBits _ * _ ≤ 134217728 := Nat.le_of_ble_eq_true h2
        refine op_powB pins s σ H _ _ v u Q I rx ry ⟨_, _, rfl, rfl, ⟨h1, ?_⟩, q A H _ (.refl ok) (.int _)⟩
        rw [p27]
        exact pow_room h1 k2
    · cases e
  · cases e
theorem eqB_at {K : PySem.W.Frag} {A Z : List Addr} {S : Sto} {H : Hp} {x y : V} {dx dy : D} {b : Bool} (ok : SOk K A Z S H) (hx : DR A (cut A Z S H) K x dx) (hy : DR A (cut A Z S H) K y dy) (h : eqB S dx dy = some b) :
    (scal x y = true ∧ b = decide (x = y)) ∨ ∃ p q, Dp K H x p ∧ Dp K H y q ∧ SeqAt.shaped p = true ∧ SeqAt.shaped q = true ∧ b = PyData.eqv p q := by
  unfold eqB at h
  split at h
  · cases hx; cases hy; cases h
    exact .inl ⟨rfl, by simp⟩
  · cases hx; cases hy; cases h
    exact .inl ⟨rfl, by simp⟩
  · split at h
    · rename_i p q e1 e2
      split at h
      · rename_i hc
        cases h
        rw [Bool.and_eq_true] at hc
        exact .inr ⟨p, q, toP_at ok hx e1, toP_at ok hy e2, hc.1, hc.2, rfl⟩
      · cases h
    · cases h
theorem opd_eq (hu : X.A.units + 64 < cLine) : OpR X (compareOp .Eq) (rD X.K eqD) := by
  intro pins s σ H x y v u Q I rx ry ⟨A, Z, S, dx, dy, d, ok, hx, hy, e, q⟩
  unfold eqD at e
  cases h : eqB S dx dy with
  | none => rw [h] at e; cases e
  | some b =>
    rw [h] at e
    cases e
    rcases eqB_at ok hx hy h with ⟨h1, rfl⟩ | ⟨p, r, h1, h2, h3, h4, rfl⟩
    · exact op_eq pins s σ H _ _ v u Q I rx ry ⟨h1, q A H _ (.refl ok) (.bl _)⟩
    · exact op_eqD hu pins s σ H _ _ v u Q I rx ry ⟨p, r, h1, h2, h3, h4, q A H _ (.refl ok) (.bl _)⟩
theorem opd_ne (hu : X.A.units + 64 < cLine) : OpR X (compareOp .NotEq) (rD X.K neD) := by
  intro pins s σ H x y v u Q I rx ry ⟨A, Z, S, dx, dy, d, ok, hx, hy, e, q⟩
  unfold neD at e
  cases h : eqB S dx dy with
  | none => rw [h] at e; cases e
  | some b =>
    rw [h] at e
    cases e
    rcases eqB_at ok hx hy h with ⟨h1, rfl⟩ | ⟨p, r, h1, h2, h3, h4, rfl⟩
    · exact op_ne pins s σ H _ _ v u Q I rx ry ⟨h1, q A H _ (.refl ok) (.bl _)⟩
    · exact op_neD hu pins s σ H _ _ v u Q I rx ry ⟨p, r, h1, h2, h3, h4, q A H _ (.refl ok) (.bl _)⟩
theorem opd_lt : OpR X (compareOp .Lt) (rD X.K ltD) := by
  intro pins s σ H x y v u Q I rx ry ⟨A, Z, S, dx, dy, d, ok, hx, hy, e, q⟩
  unfold ltD at e
  split at e
  · cases hx; cases hy; cases e
    exact op_lt pins s σ H _ _ v u Q I rx ry ⟨_, _, rfl, rfl, q A H _ (.refl ok) (.bl _)⟩
  · cases e
theorem opd_le : OpR X (compareOp .LtE) (rD X.K leD) := by
  intro pins s σ H x y v u Q I rx ry ⟨A, Z, S, dx, dy, d, ok, hx, hy, e, q⟩
  unfold leD at e
  split at e
  · cases hx; cases hy; cases e
    exact op_le pins s σ H _ _ v u Q I rx ry ⟨_, _, rfl, rfl, q A H _ (.refl ok) (.bl _)⟩
  · cases e
theorem opd_gt : OpR X (compareOp .Gt) (rD X.K gtD) := by
  intro pins s σ H x y v u Q I rx ry ⟨A, Z, S, dx, dy, d, ok, hx, hy, e, q⟩
  unfold gtD at e
  split at e
  · cases hx; cases hy; cases e
    exact op_gt pins s σ H _ _ v u Q I rx ry ⟨_, _, rfl, rfl, q A H _ (.refl ok) (.bl _)⟩
  · cases e
def rGeT (K : PySem.W.Frag) : R2 := fun x y H Q => ∃ (a b : Addr) (ns ms : List Int), x = .ref a ∧ y = .ref b ∧ SqT K H a (ns.map V.int) ∧ SqT K H b (ms.map V.int) ∧ Q (.bl (geI ns ms)) H
theorem op_geT (hu : X.A.units < cLine) : OpR X (compareOp .GtE) (rGeT X.K) := by
  intro pins s σ H x y v u Q I rx ry h
  obtain ⟨a, b, ns, ms, rfl, rfl, ha, hb, q⟩ := h
  cases rx
  cases ry
  obtain ⟨its, r1, p1, _⟩ := I.tuple ha
  obtain ⟨its2, r2, p2, _⟩ := I.tuple hb
  have i1 : IntsAre its ns := Vals.ints r1
  have i2 : IntsAre its2 ms := Vals.ints r2
  have e1 : its.toArray.size = ns.length := by rw [List.size_toArray]; exact i1.length
  have e2 : its2.toArray.size = ms.length := by rw [List.size_toArray]; exact i2.length
  have at1 : ∀ j (h1 : j < its.toArray.size), ∃ t, its.toArray[j] = .int (ns.getD j 0) t := fun j h1 => PyProof.Rows.IntsAre.int_at i1 _ _ (by simp at h1; simp [h1])
  have at2 : ∀ j (h1 : j < its2.toArray.size), ∃ t, its2.toArray[j] = .int (ms.getD j 0) t := fun j h1 => PyProof.Rows.IntsAre.int_at i2 _ _ (by simp at h1; simp [h1])
  have R := Ob.RcOp.tuples_ge (A := X.A) (s := s) (e := fun j => decide (ns.getD j 0 = ms.getD j 0)) (r := fun j => decide (ms.getD j 0 ≤ ns.getD j 0)) p1 p2 hu (fun j h1 h2 => by
    obtain ⟨t, et⟩ := at1 j h1
    obtain ⟨t', et'⟩ := at2 j h2
    rw [et, et']
    have z : (ns.getD j 0 == ms.getD j 0) = decide (ns.getD j 0 = ms.getD j 0) := by
      by_cases q : ns.getD j 0 = ms.getD j 0
      · rw [decide_eq_true q]; exact beq_iff_eq.mpr q
      · rw [decide_eq_false q]; exact beq_eq_false_iff_ne.mpr q
    rw [← z]
    exact SeqAt.EqAt.int_int _ _ _ _) (fun j h1 h2 _ => by
    obtain ⟨t, et⟩ := at1 j h1
    obtain ⟨t', et'⟩ := at2 j h2
    rw [et, et']
    exact Ob.RcOp.ge_int _ _ _ _)
  rw [e1, e2] at R
  have z : wpAny (model X.prog X.w) X.A (compareOp .GtE (.ref a) (.ref b)) (EP X pins σ Q) X.xe s := R X.prog X.w X.xe (EP X pins σ Q) ⟨.bl _, H, I, rfl, q⟩
  exact z
theorem opd_ge (hu : X.A.units < cLine) : OpR X (compareOp .GtE) (rD X.K geD) := by
  intro pins s σ H x y v u Q I rx ry ⟨A, Z, S, dx, dy, d, ok, hx, hy, e, q⟩
  unfold geD at e
  split at e
  · cases hx; cases hy; cases e
    exact op_ge pins s σ H _ _ v u Q I rx ry ⟨_, _, rfl, rfl, q A H _ (.refl ok) (.bl _)⟩
  · split at e
    · rename_i ns ms e1 e2
      cases e
      obtain ⟨l, vs, rfl, h1, h2⟩ := tup_at hx
      obtain ⟨m, ws, rfl, k1, k2⟩ := tup_at hy
      rw [intsOf_map e1 h2] at h1
      rw [intsOf_map e2 k2] at k1
      exact op_geT hu pins s σ H _ _ v u Q I rx ry ⟨l, m, ns, ms, rfl, rfl, h1, k1, q A H _ (.refl ok) (.bl _)⟩
    · cases e
  · cases e
theorem isNon_at {K : PySem.W.Frag} {A : List Addr} {G : Hp} {x : V} {d : D} (h : DR A G K x d) : decide (x = .non) = isNon d := by
  cases h <;> rfl
theorem isB_at {K : PySem.W.Frag} {A : List Addr} {G : Hp} {x : V} {d : D} {b : Bool} {v : Value} (h : DR A G K x d) (r : RelV x v) : plainIs v (.bool b) = true ∧ (v == Value.bool b) = isBlD b d := by
  cases h with
  | non => cases r; exact ⟨rfl, rfl⟩
  | bl a =>
    cases r
    refine ⟨rfl, ?_⟩
    cases a <;> cases b <;> rfl
  | int i => obtain ⟨t, rfl⟩ := r; exact ⟨rfl, rfl⟩
  | str x => obtain ⟨t, rfl⟩ := r; exact ⟨rfl, rfl⟩
  | lst _ _ => cases r; exact ⟨rfl, rfl⟩
  | kls _ _ => cases r; exact ⟨rfl, rfl⟩
  | tup _ _ => cases r; exact ⟨rfl, rfl⟩
  | dct _ _ _ => cases r; exact ⟨rfl, rfl⟩
  | cel _ => cases r; exact ⟨rfl, rfl⟩
  | fn _ => cases r; exact ⟨rfl, rfl⟩
  | exc _ _ _ => cases r; exact ⟨rfl, rfl⟩
theorem opd_is : OpR X (compareOp .Is) (rD X.K isD) := by
  intro pins s σ H x y v u Q I rx ry ⟨A, Z, S, dx, dy, d, ok, hx, hy, e, q⟩
  unfold isD at e
  split at e
  · cases hy; cases e
    exact op_isN pins s σ H _ _ v u Q I rx ry ⟨rfl, by rw [isNon_at hx]; exact q A H _ (.refl ok) (.bl _)⟩
  · cases hy; cases e
    rename_i b
    cases (show u = Value.bool b from ry)
    obtain ⟨h1, h2⟩ := isB_at (b := b) hx rx
    exact wpAny_is_plain h1 ⟨.bl _, H, I, rfl, by rw [h2]; exact q A H _ (.refl ok) (.bl _)⟩
  · cases e
theorem opd_isnot : OpR X (compareOp .IsNot) (rD X.K isnotD) := by
  intro pins s σ H x y v u Q I rx ry ⟨A, Z, S, dx, dy, d, ok, hx, hy, e, q⟩
  unfold isnotD at e
  split at e
  · cases hy; cases e
    exact op_notN pins s σ H _ _ v u Q I rx ry ⟨rfl, by rw [isNon_at hx]; exact q A H _ (.refl ok) (.bl _)⟩
  · cases hy; cases e
    rename_i b
    cases (show u = Value.bool b from ry)
    obtain ⟨h1, h2⟩ := isB_at (b := b) hx rx
    exact wpAny_isNot_plain h1 ⟨.bl _, H, I, rfl, by rw [h2]; exact q A H _ (.refl ok) (.bl _)⟩
  · cases e
theorem opd_in (hu : X.A.units + 65 < cLine) : OpR X (compareOp .In) (rD X.K inD) := by
  intro pins s σ H x y v u Q I rx ry ⟨A, Z, S, dx, dy, d, ok, hx, hy, e, q⟩
  unfold inD at e
  split at e
  · rename_i p qs e1 e2
    split at e
    · rename_i hc
      cases e
      rw [Bool.and_eq_true] at hc
      exact op_inD hu pins s σ H _ _ v u Q I rx ry ⟨p, qs, toP_at ok hx e1, toP_at ok hy e2, hc.1, hc.2, q A H _ (.refl ok) (.bl _)⟩
    · cases e
  · cases e
end
end DL
set_option maxHeartbeats 2000000
namespace DL
open PySem PySem.Spec PyProof.Rows L2
theorem atI_rel {A : List Addr} {G : Hp} {K : PySem.W.Frag} {vs : List V} {ds : List D} {i : Int} {d : D} (r : DRs A G K vs ds) (h : atI ds i = some d) : ∃ v, atI vs i = some v ∧ DR A G K v d := by
  unfold atI at h ⊢
  rw [r.length]
  cases e : ixN ds.length i with
  | none => rw [e] at h; cases h
  | some j =>
    rw [e] at h
    exact r.get h
def ixD : Op2 := fun x y S => match x, y with
  | .tup xs, .int i => atI xs i
  | .str z, .int i => if z.length ≤ capN then (atI z.cps.toList i).map fun c => .str ⟨#[c]⟩ else none
  | .dct xs, .str k => (xs.find? fun p => match p.1 with
    | .str x => x == k
    | _ => false).map (·.2)
  | x, .int i => (seqOf S x).bind fun xs => atI xs i
  | _, _ => none
theorem dct_at {A : List Addr} {G : Hp} {K : PySem.W.Frag} {k : Str} {d : D} : ∀ {kvs : List (Key × V)} {xs : List (D × D)}, xs.map (·.1) = kvs.map (fun p => kD p.1) → DRs A G K (kvs.map (·.2)) (xs.map (·.2)) →
    (xs.find? fun p => match p.1 with
    | .str x => x == k
    | _ => false).map (·.2) = some d → ∃ v, valV kvs (Sum.inr k : Key) = some v ∧ DR A G K v d
  | [], [], _, _, h => by simp at h
  | [], _ :: _, e, _, _ => by simp at e
  | _ :: _, [], e, _, _ => by simp at e
  | (ky, v) :: kvs, (x, e) :: xs, hk, r, h => by
    simp only [List.map_cons, List.cons.injEq] at hk
    obtain ⟨rfl, hk⟩ := hk
    rw [List.map_cons, List.map_cons] at r
    cases r with
    | cons r1 r2 =>
      rw [List.find?_cons] at h
      cases ky with
      | inl i =>
        obtain ⟨w, h1, h2⟩ := dct_at hk r2 h
        exact ⟨w, by rw [valV_neg (by simp)]; exact h1, h2⟩
      | inr y =>
        by_cases c : y = k
        · subst c
          simp only [kD, beq_self_eq_true, Option.map_some, Option.some.injEq] at h
          subst h
          exact ⟨v, valV_pos rfl, r1⟩
        · have c2 : (y == k) = false := by simpa using c
          simp only [kD, c2] at h
          obtain ⟨w, h1, h2⟩ := dct_at hk r2 h
          exact ⟨w, by rw [valV_neg (fun z => c (Sum.inr.inj z))]; exact h1, h2⟩
def cutD (xs : List D) (lo hi : Option Int) : List D := (xs.drop (HT.sIx xs.length 0 lo)).take (HT.sIx xs.length xs.length hi - HT.sIx xs.length 0 lo)
def slD (x : D) (lo hi : Option Int) (S : Sto) : Option D := match x with
  | .tup xs => some (.tup (cutD xs lo hi))
  | x => (seqOf S x).map fun xs => .lst (cutD xs lo hi)
theorem cut_rel {A : List Addr} {G : Hp} {K : PySem.W.Frag} {vs : List V} {ds : List D} (r : DRs A G K vs ds) (lo hi : Option Int) : DRs A G K (cutV vs lo hi) (cutD ds lo hi) := by
  unfold cutV cutD
  rw [r.length]
  exact (r.drop _).take _
section
variable {X : Cx}
theorem ix_dict {a : Addr} {y v : V} (value slice : Expr) (pins : List (Addr × Obj)) (s : Shared) (σ : L2.St) (H : Hp) (u : Value) (Q : VK) (I : Inv X pins σ H s) (g : DGet H a y (some v)) (ry : RelV y u) (hu : X.A.units + 1 < cLine) (q : Q v H)
    (hs : subscripted slice false (.ref a) u = operate [.ref a, u] (getItem (.ref a) u)) : wpAny (model X.prog X.w) X.A (subscriptTail value slice (.ref a) u) (EP X pins σ Q) X.xe s := by
  have hT := dict_typeIs I g
  unfold subscriptTail
  refine wpAny_bind ?_
  rw [getitemInPython_of_ne hT.not_modules]
  refine wpAny_bind (wpAny_specialOf hT PySem.F.slot_dict_getitem.lookup ?_)
  have fin : wpAny (model X.prog X.w) X.A (subscripted slice false (.ref a) u) (fun r s₃ => wpAny (model X.prog X.w) X.A (letTemporaryGo value (.ref a) r >>= fun _ => pure r) (EP X pins σ Q) X.xe s₃) X.xe s := by
    rw [hs]
    exact wpAny_operating (wpAny_mono (d_getItem (Q := EP X pins σ Q) (E := X.xe) hu I g ry fun w' s3 I3 rw' => ⟨v, H, I3, rw', q⟩) (fun r s₃ h₃ => wpAny_bind (wpAny_letTemporaryGo (wpAny_pure h₃))) fun _ _ x => x)
  first
    | exact wpAny_pure (wpAny_bind fin)
    | exact wpAny_bind (wpAny_pure (wpAny_bind fin))
    | exact wpAny_bind fin
theorem ixd (hu : X.A.units + 1 < cLine) : IxR X (rD X.K ixD) := by
  intro value slice pins s σ H x y v u Q I rx ry ⟨A, Z, S, dx, dy, d, ok, hx, hy, e, q⟩ hs
  have lists : ∀ i, y = .int i → ((seqOf S dx).bind fun xs => atI xs i) = some d → wpAny (model X.prog X.w) X.A (subscriptTail value slice v u) (EP X pins σ Q) X.xe s := fun i ey e => by
    cases e1 : seqOf S dx with
    | none => rw [e1] at e; cases e
    | some xs =>
      rw [e1] at e
      obtain ⟨a, vs, rfl, h1, h2⟩ := seqOf_at ok hx e1
      obtain ⟨w, h3, h4⟩ := atI_rel h2 e
      exact ix_list value slice pins s σ H _ _ v u Q I rx ry ⟨a, vs, i, w, rfl, ey, h1, h3, q A H _ (.refl ok) h4⟩ hs
  unfold ixD at e
  split at e
  · cases hy
    rename_i xs i
    obtain ⟨a, vs, rfl, h1, h2⟩ := tup_at hx
    obtain ⟨w, h3, h4⟩ := atI_rel h2 e
    exact ix_tup value slice pins s σ H _ _ v u Q I rx ry ⟨a, vs, i, w, rfl, rfl, h1, h3, q A H _ (.refl ok) h4⟩ hs
  · cases hx; cases hy
    rename_i z i
    split at e
    · rename_i hc
      cases e1 : atI z.cps.toList i with
      | none => rw [e1] at e; cases e
      | some c =>
        rw [e1] at e
        cases e
        exact ix_str value slice pins s σ H _ _ v u Q I rx ry ⟨z, i, c, rfl, rfl, capN_le hc, e1, q A H _ (.refl ok) (.str _)⟩ hs
    · cases e
  · rename_i x0 k0
    cases hx with
    | dct hd hk hr =>
      cases hy
      cases rx
      obtain ⟨w, h1, h2⟩ := dct_at hk hr e
      have g := DGet.k (k := (Sum.inr k0 : Key)) (cut_sub hd)
      rw [h1] at g
      exact ix_dict value slice pins s σ H u Q I g ry hu (q A H _ (.refl ok) h2) hs
  · cases hy
    exact lists _ rfl e
  · cases e
theorem se_ix (hu : X.A.units + 1 < cLine) {W : WX} {ca : Str → Addr} {a b : Expr} {pos : Pos} {fa fb : FE} (ha : SE X W ca a fa) (hb : SE X W ca b fb) (hs : PlainIx b) : SE X W ca (.Subscript a b pos) (fOp ixD fa fb) :=
  se_of (pe_ix (ixd hu) ha.pe hb.pe hs) fun _ _ _ h => tE_bin h
abbrev FO := Env → Sto → Res (Option Int)
def fNoPart : FO := fun _ S => .ok none S
def fPart (f : FE) : FO := fun ρ S => (f ρ S).bind fun d S1 => match d with
  | .int i => .ok (some i) S1
  | _ => .bad
def tO (K : PySem.W.Frag) (W : WX) (ca : Str → Addr) (f : FO) : TO := fun σ H Q => ∃ A Z S ρ, SOk K A Z S H ∧ Sl K A (cut A Z S H) ρ σ ∧ Post K W ca A Z S H σ (f ρ S) fun B T I o => Q o I
structure SO (X : Cx) (W : WX) (ca : Str → Addr) (e : Option Expr) (f : FO) : Prop where
  po : PO X e (tO X.K W ca f)
theorem po_imp {e : Option Expr} {t t' : TO} (h : PO X e t) (i : ∀ σ H Q, t' σ H Q → t σ H Q) : PO X e t' := ⟨fun pins s σ H Q I q => h.run pins s σ H Q I (i _ _ _ q)⟩
variable {W : WX} {ca : Str → Addr} {e : Expr} {es : List Expr} {pos : Pos}
theorem so_none : SO X W ca none fNoPart := ⟨po_imp po_none fun σ H Q ⟨A, Z, S, ρ, ok, sl, p⟩ => p A H (.refl ok)⟩
theorem so_some {f : FE} (h : SE X W ca e f) : SO X W ca (some e) (fPart f) := ⟨po_imp (po_some h.pe) fun σ H Q ⟨A, Z, S, ρ, ok, sl, p⟩ => by
  refine ⟨A, Z, S, ρ, ok, sl, (Post.split p).imp fun B T I d g q v rv => ?_⟩
  cases d with
  | int i =>
    cases rv
    exact ⟨i, rfl, q B I (.refl g.ok)⟩
  | _ => exact q.elim⟩
def fSl (f : FE) (lo hi : FO) : FE := fun ρ S => (f ρ S).bind fun d S1 => (lo ρ S1).bind fun l S2 => (hi ρ S2).bind fun h S3 => okO (slD d l h S3) S3
def rSlD (K : PySem.W.Frag) : V → Option Int → Option Int → Hp → VK → Prop := fun x lo hi H Q => ∃ A Z S dx d, SOk K A Z S H ∧ DR A (cut A Z S H) K x dx ∧ slD dx lo hi S = some d ∧ ∀ B I v, Grow K Z A S H B S I → DR B (cut B Z S I) K v d → Q v I
theorem take_all {α : Type} (xs : List α) {a b : Nat} (h : a = 0 ∧ b = xs.length) : (xs.drop a).take (b - a) = xs := by
  obtain ⟨rfl, rfl⟩ := h
  simp
theorem sld : SlR X (rSlD X.K) := by
  intro pins s σ H x v vl vu lo hi sl Q I rx hs pl pu ⟨A, Z, S, dx, d, ok, hx, e, q⟩
  unfold slD at e
  split at e
  · rename_i xs
    cases e
    obtain ⟨a, vs, rfl, h1, h2⟩ := tup_at hx
    refine sl_tupA pins s σ H _ v vl vu lo hi sl Q I rx hs pl pu ⟨a, vs, rfl, h1, fun hw => q A H _ (.refl ok) ?_, fun _ p hp => q A _ _ (.new ok hp) (new_tup ok hp (cut_rel h2 lo hi))⟩
    have : cutD xs lo hi = xs := by
      unfold cutD
      rw [h2.length] at hw
      exact take_all xs hw
    rw [this]
    exact hx
  · cases e1 : seqOf S dx with
    | none => rw [e1] at e; cases e
    | some xs =>
      rw [e1] at e
      cases e
      obtain ⟨a, vs, rfl, h1, h2⟩ := seqOf_at ok hx e1
      exact sl_list pins s σ H _ v vl vu lo hi sl Q I rx hs pl pu ⟨a, vs, rfl, h1, fun p hp => q A _ _ (.new ok hp) (new_lst ok hp (cut_rel h2 lo hi))⟩
theorem se_slice {f : FE} {g h : FO} {lo hi : Option Expr} {p2 : Pos} (he : SE X W ca e f) (hl : SO X W ca lo g) (hu : SO X W ca hi h) : SE X W ca (.Subscript e (.Slice lo hi none p2) pos) (fSl f g h) := by
  refine se_of (pe_slice sld he.pe hl.po hu.po) fun σ H Q ⟨A, Z, S, ρ, ok, sl, p⟩ => ?_
  refine ⟨A, Z, S, ρ, ok, sl, (Post.split p).imp fun B T I d gr q v rv => ?_⟩
  refine ⟨B, Z, T, ρ, gr.ok, sl.grow gr, (Post.split q).imp fun C U J l gr2 q2 => ?_⟩
  refine ⟨C, Z, U, ρ, gr2.ok, (sl.grow gr).grow gr2, (Post.split q2).imp fun C3 U3 J3 m gr3 q3 => ?_⟩
  cases e1 : slD d l m U3 with
  | none => rw [e1] at q3; exact q3.elim
  | some r =>
    rw [e1] at q3
    exact ⟨C3, Z, U3, d, r, gr3.ok, (rv.grow gr2).grow gr3, e1, fun B I v g r => q3 B I g v r⟩
def fNeg (f : FE) : FE := fun ρ S => (f ρ S).bind fun d S1 => match d with
  | .int i => .ok (.int (-i)) S1
  | _ => .bad
theorem se_neg {f : FE} (h : SE X W ca e f) : SE X W ca (.UnaryOp .USub e pos) (fNeg f) := by
  refine se_of (pe_un un_neg h.pe) fun σ H Q ⟨A, Z, S, ρ, ok, sl, p⟩ => ?_
  refine ⟨A, Z, S, ρ, ok, sl, (Post.split p).imp fun B T I d gr q v rv => ?_⟩
  cases d with
  | int i =>
    cases rv
    exact ⟨i, rfl, q B I (.refl gr.ok) _ (.int _)⟩
  | _ => exact q.elim
abbrev OpN := List D → Sto → Option D
def rDs (K : PySem.W.Frag) (g : OpN) : List V → Hp → VK → Prop := fun vs H Q => ∃ A Z S ds d, SOk K A Z S H ∧ DRs A (cut A Z S H) K vs ds ∧ g ds S = some d ∧ ∀ B I v, Grow K Z A S H B S I → DR B (cut B Z S I) K v d → Q v I
def fCB (g : OpN) (f : FA) : FE := fun ρ S => (f ρ S).bind fun ds S1 => okO (g ds S1) S1
theorem tE_cb {K : PySem.W.Frag} {g : OpN} {f : FA} {σ : L2.St} {H : Hp} {Q : VK} (h : tE K W ca (fCB g f) σ H Q) : tCB (rDs K g) (tA K W ca f) σ H Q := by
  obtain ⟨A, Z, S, ρ, ok, sl, p⟩ := h
  refine ⟨A, Z, S, ρ, ok, sl, (Post.split p).imp fun B T I ds gr q vs rv => ?_⟩
  cases e : g ds T with
  | none => rw [e] at q; exact q.elim
  | some d =>
    rw [e] at q
    exact ⟨B, Z, T, ds, d, gr.ok, rv, e, fun B I v g r => q B I g v r⟩
theorem se_callB {id : String} {x : Str} {p : Pos} {g : OpN} {f : FA} (hc : CallR X (.builtin id) (rDs X.K g)) (hg : Gl X x) (hm : X.mg x = none) (hv : bootBuiltins x = some (.builtin id)) (ha : SA X W ca (e :: es) f) (hn : x ≠ "__name__" := by decide) (hdb : (x == ("__debug__" : Str)) = false := by decide)
    (he : starEach (e :: es) X.env = (false, eval e X.env) :: starEach es X.env := by rfl) (hpl : (backTo pos (starEach es X.env)).any (·.1) = false := by rfl) : SE X W ca (.Call (.Name x p) (e :: es) [] pos) (fCB g f) :=
  se_of (pe_callB hc hg hm hv ha.pa hn hdb he hpl) fun _ _ _ h => tE_cb h
theorem se_callTy {T : String} {x : Str} {p : Pos} {g : OpN} {f : FA} (hc : CallR X (.type T) (rDs X.K g)) (hg : Gl X x) (hm : X.mg x = none) (hv : bootBuiltins x = some (.type T)) (ha : SA X W ca (e :: es) f) (hn : x ≠ "__name__" := by decide) (hdb : (x == ("__debug__" : Str)) = false := by decide)
    (he : starEach (e :: es) X.env = (false, eval e X.env) :: starEach es X.env := by rfl) (hpl : (backTo pos (starEach es X.env)).any (·.1) = false := by rfl) : SE X W ca (.Call (.Name x p) (e :: es) [] pos) (fCB g f) :=
  se_of (pe_callTy hc hg hm hv ha.pa hn hdb he hpl) fun _ _ _ h => tE_cb h
def lenD : OpN := fun ds S => match ds with
  | [.str z] => if z.length ≤ capN then some (.int z.length) else none
  | [.tup xs] => some (.int xs.length)
  | [d] => (seqOf S d).map fun xs => .int xs.length
  | _ => none
theorem cd_len : CallR X (.builtin "len") (rDs X.K lenD) := by
  intro pins s σ H vs us Q I r ⟨A, Z, S, ds, d, ok, h, e, q⟩
  unfold lenD at e
  split at e
  · cases h with
    | cons h1 h2 =>
      cases h1; cases h2
      split at e
      · rename_i z hc
        cases e
        exact call_len_str pins s σ H _ us Q I r ⟨z, rfl, capN_le hc, q A H _ (.refl ok) (.int _)⟩
      · cases e
  · cases e
    cases h with
    | cons h1 h2 =>
      cases h2
      obtain ⟨a, ws, rfl, k1, k2⟩ := tup_at h1
      exact call_len_seq pins s σ H _ us Q I r ⟨a, ws, rfl, .inr k1, by rw [k2.length]; exact q A H _ (.refl ok) (.int _)⟩
  · rename_i d' _ _
    cases e1 : seqOf S d' with
    | none => rw [e1] at e; cases e
    | some xs =>
      rw [e1] at e
      cases e
      cases h with
      | cons h1 h2 =>
        cases h2
        obtain ⟨a, ws, rfl, k1, k2⟩ := seqOf_at ok h1 e1
        exact call_len_seq pins s σ H _ us Q I r ⟨a, ws, rfl, .inl k1, by rw [k2.length]; exact q A H _ (.refl ok) (.int _)⟩
  · cases e
def absD : OpN := fun ds _ => match ds with
  | [.int i] => some (.int (if i < 0 then -i else i))
  | _ => none
theorem cd_abs : CallR X (.builtin "abs") (rDs X.K absD) := by
  intro pins s σ H vs us Q I r ⟨A, Z, S, ds, d, ok, h, e, q⟩
  unfold absD at e
  split at e
  · cases e
    cases h with
    | cons h1 h2 =>
      cases h1; cases h2
      exact call_abs pins s σ H _ us Q I r ⟨_, rfl, q A H _ (.refl ok) (.int _)⟩
  · cases e
def intD : OpN := fun ds _ => match ds with
  | [.int i] => some (.int i)
  | [.bl b] => some (.int (if b then 1 else 0))
  | _ => none
theorem cd_int : CallR X (.type "int") (rDs X.K intD) := by
  intro pins s σ H vs us Q I r ⟨A, Z, S, ds, d, ok, h, e, q⟩
  unfold intD at e
  split at e
  · cases e
    cases h with
    | cons h1 h2 =>
      cases h1; cases h2
      exact call_int1 pins s σ H _ us Q I r (.inl ⟨_, rfl, q A H _ (.refl ok) (.int _)⟩)
  · cases e
    cases h with
    | cons h1 h2 =>
      cases h1; cases h2
      exact call_int1 pins s σ H _ us Q I r (.inr ⟨_, rfl, q A H _ (.refl ok) (.int _)⟩)
  · cases e
def maxI : List Int → Int
  | [] => 0
  | [x] => x
  | x :: y :: r => let m := maxI (y :: r); if m > x then m else x
theorem maxI_mem : ∀ {l : List Int}, 0 < l.length → maxI l ∈ l ∧ ∀ y ∈ l, y ≤ maxI l
  | [], h => by simp at h
  | [x], _ => by simp [maxI]
  | x :: y :: r, _ => by
    have ih := maxI_mem (l := y :: r) (by simp)
    show (if maxI (y :: r) > x then maxI (y :: r) else x) ∈ x :: y :: r ∧ ∀ z ∈ x :: y :: r, z ≤ (if maxI (y :: r) > x then maxI (y :: r) else x)
    split
    · refine ⟨List.mem_cons_of_mem _ ih.1, fun z hz => ?_⟩
      rcases List.mem_cons.mp hz with rfl | hz
      · omega
      · exact ih.2 z hz
    · refine ⟨List.mem_cons_self, fun z hz => ?_⟩
      rcases List.mem_cons.mp hz with rfl | hz
      · omega
      · have := ih.2 z hz
        omega
def maxD : OpN := fun ds S => match ds with
  | [.int i, .int j] => some (.int (if j > i then j else i))
  | [.tup xs] => none
  | [d] => match (seqOf S d).bind intsOf with
    | some ns => if 0 < ns.length then some (.int (maxI ns)) else none
    | none => none
  | _ => none
theorem cd_max (hc : X.calm = true) : CallR X (.builtin "max") (rDs X.K maxD) := by
  intro pins s σ H vs us Q I r ⟨A, Z, S, ds, d, ok, h, e, q⟩
  unfold maxD at e
  split at e
  · cases e
    cases h with
    | cons h1 h2 =>
      cases h1
      cases h2 with
      | cons h3 h4 =>
        cases h3; cases h4
        exact call_max2 hc pins s σ H _ us Q I r ⟨_, _, rfl, q A H _ (.refl ok) (.int _)⟩
  · cases e
  · rename_i d' _
    cases e1 : seqOf S d' with
    | none => rw [e1] at e; cases e
    | some xs =>
      rw [e1] at e
      simp only [Option.bind_some] at e
      cases e2 : intsOf xs with
      | none => rw [e2] at e; cases e
      | some ns =>
        rw [e2] at e
        simp only at e
        split at e
        · rename_i hl
          cases e
          cases h with
          | cons h1 h2 =>
            cases h2
            obtain ⟨a, ws, rfl, k1, k2⟩ := seqOf_at ok h1 e1
            rw [intsOf_map e2 k2] at k1
            refine cr_max hc pins s σ H _ us Q I r ⟨a, ns, rfl, k1, hl, fun m h1 h2 => ?_⟩
            have := maxI_mem hl
            have e3 : m = maxI ns := Int.le_antisymm (this.2 m h1) (h2 _ this.1)
            rw [e3]
            exact q A H _ (.refl ok) (.int _)
        · cases e
  · cases e
def sumD : OpN := fun ds S => match ds with
  | [d] => match (seqOf S d).bind intsOf with
    | some ns => some (.int ns.sum)
    | none => none
  | _ => none
theorem cd_sum (hc : X.calm = true) : CallR X (.builtin "sum") (rDs X.K sumD) := by
  intro pins s σ H vs us Q I r ⟨A, Z, S, ds, d, ok, h, e, q⟩
  unfold sumD at e
  split at e
  · rename_i d'
    cases e1 : seqOf S d' with
    | none => rw [e1] at e; cases e
    | some xs =>
      rw [e1] at e
      simp only [Option.bind_some] at e
      cases e2 : intsOf xs with
      | none => rw [e2] at e; cases e
      | some ns =>
        rw [e2] at e
        cases e
        cases h with
        | cons h1 h2 =>
          cases h2
          obtain ⟨a, ws, rfl, k1, k2⟩ := seqOf_at ok h1 e1
          rw [intsOf_map e2 k2] at k1
          exact cr_sum hc pins s σ H _ us Q I r ⟨a, ns, rfl, k1, q A H _ (.refl ok) (.int _)⟩
  · cases e
def tupleD : OpN := fun ds S => match ds with
  | [.tup xs] => some (.tup xs)
  | [d] => (lstOf S d).map .tup
  | _ => none
theorem cd_tuple : CallR X (.type "tuple") (rDs X.K tupleD) := by
  intro pins s σ H vs us Q I r ⟨A, Z, S, ds, d, ok, h, e, q⟩
  unfold tupleD at e
  split at e
  · cases e
    cases h with
    | cons h1 h2 =>
      cases h2
      obtain ⟨a, ws, rfl, k1, k2⟩ := tup_at h1
      exact call_tuple_of pins s σ H _ us Q I r ⟨a, ws, rfl, .inr ⟨k1, q A H _ (.refl ok) h1⟩⟩
  · rename_i d' _
    cases e1 : lstOf S d' with
    | none => rw [e1] at e; cases e
    | some xs =>
      rw [e1] at e
      cases e
      cases h with
      | cons h1 h2 =>
        cases h2
        obtain ⟨a, ws, rfl, k1, k2⟩ := lstOf_at ok h1 e1
        exact call_tuple_of pins s σ H _ us Q I r ⟨a, ws, rfl, .inl ⟨SqL.of k1, fun p hp => q A _ _ (.new ok hp) (new_tup ok hp k2)⟩⟩
  · cases e
def tyD (S : Sto) : D → Option String
  | .non => some "NoneType"
  | .bl _ => some "bool"
  | .int _ => some "int"
  | .str _ => some "str"
  | .lst _ => some "list"
  | .kls _ => some "list"
  | .tup _ => some "tuple"
  | .dct _ => some "dict"
  | .cel i => (lstOf S (.cel i)).map fun _ => "list"
  | .fn _ => none
  | .exc _ _ => none
def tyNames : List String := ["NoneType", "bool", "int", "str", "list", "tuple", "dict"]
theorem tyD_mem {S : Sto} {d : D} {t : String} (h : tyD S d = some t) : t ∈ tyNames := by
  cases d with
  | cel i =>
    simp only [tyD] at h
    cases e : lstOf S (.cel i) with
    | none => rw [e] at h; cases h
    | some _ => rw [e] at h; cases h; show "list" ∈ tyNames; decide
  | fn _ => cases h
  | exc _ _ => cases h
  | _ => cases h; decide
theorem tyx_at {K : PySem.W.Frag} {A Z : List Addr} {S : Sto} {H : Hp} {v : V} {d : D} {t : String} (ok : SOk K A Z S H) (r : DR A (cut A Z S H) K v d) (h : tyD S d = some t) : TyX K H v (.type t) := by
  cases r with
  | non => cases h; exact .base .non
  | bl b => cases h; exact .base (.bl b)
  | int i => cases h; exact .base (.int i)
  | str x => cases h; exact .base (.str x)
  | lst h1 _ => cases h; exact .base (.lst (cut_sub h1))
  | kls h1 _ =>
    cases h
    rcases h1 with (h1 | ⟨o, h1⟩) | ⟨o, its, n, h1, h2, _⟩
    · exact .base (.lst (cut_sub h1))
    · exact .base (.frz (cut_sub h1))
    · exact .kList h1 h2
  | tup h1 _ =>
    cases h
    rcases h1 with (h1 | ⟨o, h1⟩) | ⟨o, its, n, h1, h2, _⟩
    · exact .base (.tup (cut_sub h1))
    · exact .fTuple (cut_sub h1)
    · exact .kTuple h1 h2
  | dct h1 _ _ => cases h; exact .base (.dK (cut_sub h1))
  | @cel a i h1 =>
    simp only [tyD] at h
    cases e : lstOf S (.cel i) with
    | none => rw [e] at h; cases h
    | some xs =>
      rw [e] at h
      cases h
      obtain ⟨a', vs, e2, k1, _⟩ := lstOf_at ok (.cel h1) e
      cases e2
      exact .base (.lst k1)
  | fn _ => cases h
  | exc _ _ _ => cases h
def isiB (t T : String) : Bool := t == T || (t == "bool" && T == "int")
def isiOk (T : String) : Bool := tyNames.all fun t => kitB t T == some (isiB t T)
theorem isiOk_at {t T : String} (h : isiOk T = true) (m : t ∈ tyNames) : kitB t T = some (isiB t T) := by
  have := List.all_eq_true.mp h t m
  simpa using this
def fIsi (T : String) (f : FE) : FE := fun ρ S => (f ρ S).bind fun d S1 => match tyD S1 d with
  | some t => .ok (.bl (isiB t T)) S1
  | none => .bad
theorem se_isi {T : String} {x : Str} {p p1 : Pos} {f : FE} (h : SE X W ca e f) (hT : isiOk T = true) (hx : bootBuiltins x = some (.type T)) (hmx : X.mg x = none) (hgx : Gl X x) (hg : Gl X "isinstance") (hm : X.mg "isinstance" = none)
    (hn : x ≠ "__name__" := by decide) (hd : (x == ("__debug__" : Str)) = false := by decide)
    (hs : starEach [e, .Name x p1] X.env = (false, eval e X.env) :: starEach [.Name x p1] X.env := by rfl) : SE X W ca (.Call (.Name "isinstance" p) [e, .Name x p1] [] pos) (fIsi T f) := by
  refine se_of (pe_callB call_isi hg hm boot_isinstance (pa_cons h.pe (pa_cons (pe_bltn (v := .ty T) hgx hmx hx rfl hn hd) pa_nil) hs) (by decide) (by decide) hs (by rfl)) fun σ H Q ⟨A, Z, S, ρ, ok, sl, p⟩ => ?_
  refine ⟨A, Z, S, ρ, ok, sl, (Post.split p).imp fun B U I d gr q v rv => ?_⟩
  cases e1 : tyD U d with
  | none => rw [e1] at q; exact q.elim
  | some t =>
    rw [e1] at q
    exact ⟨v, .ty T, .type t, .type T, isiB t T, rfl, .ty T, tyx_at gr.ok rv e1, kit_ty (isiOk_at hT (tyD_mem e1)), q B I (.refl gr.ok) _ (.bl _)⟩
def fIsi2 (T U : String) (f : FE) : FE := fun ρ S => (f ρ S).bind fun d S1 => match tyD S1 d with
  | some t => .ok (.bl (isiB t T || isiB t U)) S1
  | none => .bad
theorem se_isi2 {T U : String} {x y : Str} {k : Nat} {p p1 p2 p3 : Pos} {f : FE} (h : SE X W ca e f) (hT : isiOk T = true) (hU : isiOk U = true) (hx : bootBuiltins x = some (.type T)) (hmx : X.mg x = none) (hgx : Gl X x) (hy : bootBuiltins y = some (.type U)) (hmy : X.mg y = none) (hgy : Gl X y)
    (hg : Gl X "isinstance") (hm : X.mg "isinstance" = none)
    (hn : x ≠ "__name__" := by decide) (hd : (x == ("__debug__" : Str)) = false := by decide) (hn2 : y ≠ "__name__" := by decide) (hd2 : (y == ("__debug__" : Str)) = false := by decide)
    (hs : starEach [e, .Tuple [.Name x p1, .Name y p2] k p3] X.env = (false, eval e X.env) :: starEach [.Tuple [.Name x p1, .Name y p2] k p3] X.env := by rfl) : SE X W ca (.Call (.Name "isinstance" p) [e, .Tuple [.Name x p1, .Name y p2] k p3] [] pos) (fIsi2 T U f) := by
  refine se_of (pe_callB call_isiT hg hm boot_isinstance (pa_cons h.pe (pa_cons (pe_tup (pa_cons (pe_bltn (v := .ty T) hgx hmx hx rfl hn hd) (pa_cons (pe_bltn (v := .ty U) hgy hmy hy rfl hn2 hd2) pa_nil))) pa_nil) hs) (by decide) (by decide) hs (by rfl)) fun σ H Q ⟨A, Z, S, ρ, ok, sl, p⟩ => ?_
  refine ⟨A, Z, S, ρ, ok, sl, (Post.split p).imp fun B R I d gr q v rv => ?_⟩
  cases e1 : tyD R d with
  | none => rw [e1] at q; exact q.elim
  | some t =>
    rw [e1] at q
    refine ⟨(by show 2 ≤ sizeLine; decide), fun tp ht => ?_⟩
    refine ⟨v, tp, [.ty T, .ty U], .type t, [.type T, .type U], isiB t T || isiB t U, rfl, upd_same, .cons (.ty T) (.cons (.ty U) .nil), ?_, ?_, q B _ (.new gr.ok ht) _ (.bl _)⟩
    · exact tyx_at (gr.ok.new ht) (rv.mono (List.prefix_refl _) (cut_upd ht)) e1
    · refine kitAny_cons (kit_ty (isiOk_at hT (tyD_mem e1))) (fun e2 => ?_) (fun e2 => by rw [e2]; rfl)
      rw [e2, Bool.false_or]
      exact kitAny_cons (kit_ty (isiOk_at hU (tyD_mem e1))) (fun e3 => by rw [e3]; rfl) (fun e3 => e3)
end
end DL
set_option maxHeartbeats 2000000
namespace DL
open PySem PySem.Spec PyProof.Rows L2
inductive Fl where
  | nx
  | rt (d : D)
  | bk
  | ct
abbrev FS := Env → Sto → Res (Fl × Env)
def EndF (K : PySem.W.Frag) (Dn : Ends) (Z : List Addr) (B : List Addr) (T : Sto) (I : Hp) (r : Fl × Env) : Prop :=
  match r.1 with
  | .nx => ∀ σ', Sl K B (cut B Z T I) r.2 σ' → Dn.nx σ' I
  | .rt d => ∀ v, DR B (cut B Z T I) K v d → Dn.rt v I
  | .bk => ∀ σ', Sl K B (cut B Z T I) r.2 σ' → Dn.bk σ' I
  | .ct => ∀ σ', Sl K B (cut B Z T I) r.2 σ' → Dn.ct σ' I
def tS (K : PySem.W.Frag) (W : WX) (ca : Str → Addr) (f : FS) : TS := fun Dn σ H => ∃ A Z S ρ, SOk K A Z S H ∧ Sl K A (cut A Z S H) ρ σ ∧ Post K W ca A Z S H σ (f ρ S) (EndF K Dn Z)
structure SS (X : Cx) (W : WX) (ca : Str → Addr) (st : Stmt) (f : FS) : Prop where
  ps : PS X st (tS X.K W ca f)
structure SSs (X : Cx) (W : WX) (ca : Str → Addr) (st : List Stmt) (f : FS) : Prop where
  pss : PSs X st (tS X.K W ca f)
section
variable {X : Cx} {W : WX} {ca : Str → Addr} {e a b : Expr} {es : List Expr} {pos : Pos} {st : Stmt} {rest : List Stmt}
theorem ps_imp {t t' : TS} (h : PS X st t) (i : ∀ D σ H, t' D σ H → t D σ H) : PS X st t' := ⟨fun pins s σ H D I q => h.run pins s σ H D I (i _ _ _ q)⟩
theorem pss_imp {sts : List Stmt} {t t' : TS} (h : PSs X sts t) (i : ∀ D σ H, t' D σ H → t D σ H) : PSs X sts t' := ⟨fun pins s σ H D I q => h.run pins s σ H D I (i _ _ _ q)⟩
theorem ss_of {f : FS} {t : TS} (h : PS X st t) (i : ∀ D σ H, tS X.K W ca f D σ H → t D σ H) : SS X W ca st f := ⟨ps_imp h i⟩
def fNext : FS := fun ρ S => .ok (.nx, ρ) S
def fSeq (f g : FS) : FS := fun ρ S => (f ρ S).bind fun r S1 => match r.1 with
  | .nx => g r.2 S1
  | _ => .ok r S1
theorem sss_nil : SSs X W ca [] fNext := ⟨pss_imp pss_nil fun D σ H ⟨A, Z, S, ρ, ok, sl, p⟩ => p A H (.refl ok) σ sl⟩
theorem tS_seq {K : PySem.W.Frag} {f g : FS} {D : Ends} {σ : L2.St} {H : Hp} (h : tS K W ca (fSeq f g) D σ H) : tSeq (tS K W ca f) (tS K W ca g) D σ H := by
  obtain ⟨A, Z, S, ρ, ok, sl, p⟩ := h
  refine ⟨A, Z, S, ρ, ok, sl, (Post.split p).imp fun B T I r gr q => ?_⟩
  obtain ⟨fl, ρ'⟩ := r
  cases fl with
  | nx => exact fun σ' sl' => ⟨B, Z, T, ρ', gr.ok, sl', q.sig σ'⟩
  | rt d => exact q B I (.refl gr.ok)
  | bk => exact q B I (.refl gr.ok)
  | ct => exact q B I (.refl gr.ok)
theorem sss_cons {f g : FS} (h1 : SS X W ca st f) (h2 : SSs X W ca rest g) : SSs X W ca (st :: rest) (fSeq f g) := ⟨pss_imp (pss_cons h1.ps h2.pss) fun _ _ _ h => tS_seq h⟩
theorem sss_one {f : FS} (h1 : SS X W ca st f) : SSs X W ca [st] f := ⟨pss_one h1.ps⟩
theorem ss_break : SS X W ca (.Break pos) (fun ρ S => .ok (.bk, ρ) S) := ss_of ps_break fun D σ H ⟨A, Z, S, ρ, ok, sl, p⟩ => p A H (.refl ok) σ sl
def fRet (f : FE) : FS := fun ρ S => (f ρ S).bind fun d S1 => .ok (.rt d, ρ) S1
theorem ss_ret {f : FE} (h : SE X W ca e f) : SS X W ca (.Return (some e) pos) (fRet f) := ss_of (ps_ret h.pe) fun D σ H ⟨A, Z, S, ρ, ok, sl, p⟩ =>
  ⟨A, Z, S, ρ, ok, sl, (Post.split p).imp fun B T I d gr q v rv => q B I (.refl gr.ok) v rv⟩
def frzD (S : Sto) (d : D) : Option (D × Sto) := match d with
  | .cel i => match S[i]? with
    | some (.lst xs) => some (.lst xs, S.set i .gone)
    | _ => none
  | _ => none
def fRetF (f : FE) : FS := fun ρ S => (f ρ S).bind fun d S1 => match frzD S1 d with
  | some (d', S2) => .ok (.rt d', ρ) S2
  | none => .bad
theorem frzD_at {K : PySem.W.Frag} {A Z : List Addr} {S S' : Sto} {H : Hp} {v : V} {d d' : D} (ok : SOk K A Z S H) (r : DR A (cut A Z S H) K v d) (h : frzD S d = some (d', S')) : Grow K Z A S H A S' H ∧ DR A (cut A Z S' H) K v d' := by
  unfold frzD at h
  split at h
  · rename_i i
    split at h
    · rename_i xs e
      cases h
      obtain ⟨g, a, vs, h1, h2, h3⟩ := Grow.freeze ok e
      cases r with
      | cel h4 =>
        rw [h1] at h4
        cases h4
        exact ⟨g, .lst h2 h3⟩
    · cases h
  · cases h
abbrev FG := D → Env → Sto → Res Env
def tG (K : PySem.W.Frag) (W : WX) (ca : Str → Addr) (f : FG) : TG := fun v σ H Q => ∃ A Z S ρ d, SOk K A Z S H ∧ Sl K A (cut A Z S H) ρ σ ∧ DR A (cut A Z S H) K v d ∧ Post K W ca A Z S H σ (f d ρ S) fun B T I ρ' => ∀ σ', Sl K B (cut B Z T I) ρ' σ' → Q σ' I
structure SG (X : Cx) (W : WX) (ca : Str → Addr) (tg : Expr) (f : FG) : Prop where
  pg : PG X tg (tG X.K W ca f)
theorem pg_imp {tg : Expr} {t t' : TG} (h : PG X tg t) (i : ∀ v σ H Q, t' v σ H Q → t v σ H Q) : PG X tg t' := ⟨fun pins s σ H v u Q I r q => h.run pins s σ H v u Q I r (i _ _ _ _ q)⟩
def fgName (i : Nat) : FG := fun d ρ S => .ok (ρ.set i (some d)) S
theorem sg_name {i : Nat} {x : Str} (hN : X.N.Nodup) (hi : X.N[i]? = some x) (hx : Loc X.env.scope x) (hf : X.fn x = true ∨ X.env.scope.names.lookup x = some .local := by first | exact .inl rfl | exact .inr rfl | assumption) : SG X W ca (.Name x pos) (fgName i) :=
  ⟨pg_imp (pg_name hN hi hx hf) fun v σ H Q ⟨A, Z, S, ρ, d, ok, sl, rv, p⟩ => p A H (.refl ok) _ (sl.set rv i)⟩
abbrev FGs := List D → Env → Sto → Res Env
def tGs (K : PySem.W.Frag) (W : WX) (ca : Str → Addr) (f : FGs) : TGs := fun vs σ H Q => ∃ A Z S ρ ds, SOk K A Z S H ∧ Sl K A (cut A Z S H) ρ σ ∧ DRs A (cut A Z S H) K vs ds ∧ Post K W ca A Z S H σ (f ds ρ S) fun B T I ρ' => ∀ σ', Sl K B (cut B Z T I) ρ' σ' → Q σ' I
structure SGs (X : Cx) (W : WX) (ca : Str → Addr) (tgs : List Expr) (f : FGs) : Prop where
  pgs : PGs X tgs (tGs X.K W ca f)
theorem pgs_imp {tgs : List Expr} {t t' : TGs} (h : PGs X tgs t) (i : ∀ v σ H Q, t' v σ H Q → t v σ H Q) : PGs X tgs t' := ⟨fun pins s σ H v u Q I r q => h.run pins s σ H v u Q I r (i _ _ _ _ q)⟩
def fgNil : FGs := fun ds ρ S => match ds with
  | [] => .ok ρ S
  | _ => .bad
def fgCons (f : FG) (g : FGs) : FGs := fun ds ρ S => match ds with
  | d :: r => (f d ρ S).bind fun ρ1 S1 => g r ρ1 S1
  | _ => .bad
theorem sgs_nil : SGs X W ca [] fgNil := ⟨pgs_imp pgs_nil fun vs σ H Q ⟨A, Z, S, ρ, ds, ok, sl, rv, p⟩ => by
  cases ds with
  | nil => cases rv; exact ⟨rfl, p A H (.refl ok) σ sl⟩
  | cons _ _ => exact p.elim⟩
theorem sgs_cons {es : List Expr} {f : FG} {g : FGs} (h1 : SG X W ca e f) (h2 : SGs X W ca es g)
    (hs : (assignEach (e :: es) X.env).map (·.2) = assign e X.env :: (assignEach es X.env).map (·.2) := by rfl) : SGs X W ca (e :: es) (fgCons f g) := ⟨pgs_imp (pgs_cons h1.pg h2.pgs hs) fun vs σ H Q ⟨A, Z, S, ρ, ds, ok, sl, rv, p⟩ => by
  cases ds with
  | nil => exact p.elim
  | cons d r =>
    cases rv with
    | cons r1 r2 =>
      exact ⟨_, _, rfl, A, Z, S, ρ, d, ok, sl, r1, (Post.split p).imp fun B T I ρ1 gr q σ' sl' => ⟨B, Z, T, ρ1, r, gr.ok, sl', r2.grow gr, q.sig σ'⟩⟩⟩
def fgTup (n : Nat) (f : FGs) : FG := fun d ρ S => match d with
  | .tup xs => if xs.length = n then f xs ρ S else .bad
  | _ => .bad
theorem sg_tup {es : List Expr} {k : Nat} {f : FGs} {n : Nat} (hc : X.calm = true) (h : SGs X W ca es f)
    (hn : (assignEach es X.env).length = n := by rfl) (hst : (assignEach es X.env).findIdx? (·.1) = none := by rfl) : SG X W ca (.Tuple es k pos) (fgTup n f) := ⟨pg_imp (pg_tup hc h.pgs hn hst) fun v σ H Q ⟨A, Z, S, ρ, d, ok, sl, rv, p⟩ => by
  cases d with
  | tup xs =>
    unfold fgTup at p
    simp only at p
    split at p
    · rename_i hl
      obtain ⟨a, vs, rfl, h1, h2⟩ := tup_at rv
      exact ⟨a, vs, rfl, h1, by rw [h2.length]; exact hl, A, Z, S, ρ, xs, ok, sl, h2, p⟩
    · exact p.elim
  | _ => exact p.elim⟩
def setD (o i d : D) (S : Sto) : Option Sto := match o, i with
  | .cel k, .int j => match S[k]? with
    | some (.lst xs) => (ixN xs.length j).map fun n => S.set k (.lst (xs.set n d))
    | _ => none
  | _, _ => none
def fgSub (fo fi : FE) : FG := fun d ρ S => (fo ρ S).bind fun o S1 => (fi ρ S1).bind fun i S2 => match setD o i d S2 with
  | some S3 => .ok ρ S3
  | none => .bad
theorem sg_sub {o i : Expr} {fo fi : FE} (ho : SE X W ca o fo) (hi : SE X W ca i fi)
    (ha : ∀ v, assign (.Subscript o i pos) X.env v = (do
      let ov ← holding [v] (eval o X.env)
      let iv ← holding [v, ov] (eval i X.env)
      standAt pos
      holding [v, ov, iv] (setItem ov iv v)
      release [v, ov, iv] []) := by intro _; rfl) : SG X W ca (.Subscript o i pos) (fgSub fo fi) := ⟨pg_imp (pg_sub ho.pe hi.pe set_list ha) fun v σ H Q ⟨A, Z, S, ρ, d, ok, sl, rv, p⟩ => by
  refine ⟨A, Z, S, ρ, ok, sl, (Post.split p).imp fun B T I o' gr q w rw_ => ?_⟩
  refine ⟨B, Z, T, ρ, gr.ok, sl.grow gr, (Post.split q).imp fun C U J i' gr2 q2 x rx => ?_⟩
  cases e : setD o' i' d U with
  | none => rw [e] at q2; exact q2.elim
  | some S3 =>
    rw [e] at q2
    unfold setD at e
    split at e
    · rename_i k j
      split at e
      · rename_i xs e1
        cases e2 : ixN xs.length j with
        | none => rw [e2] at e; cases e
        | some n =>
          rw [e2] at e
          cases e
          cases rx
          obtain ⟨a, vs, e3, h1, h2⟩ := lstOf_at gr2.ok (rw_.grow gr2) (show lstOf U (.cel k) = some xs by simp only [lstOf, e1])
          cases rw_ with
          | cel h4 =>
            cases e3
            have h5 : C[k]? = some a := by
              have := (DR.cel (G := cut B Z T I) (K := X.K) h4).grow gr2
              cases this with
              | cel h => exact h
            refine ⟨a, vs, j, n, rfl, rfl, h1, by rw [h2.length]; exact e2, ?_⟩
            have g3 := Grow.store gr2.ok e1 h5 (h2.set ((rv.grow gr).grow gr2) n)
            exact q2 C _ g3 σ (((sl.grow gr).grow gr2).grow g3)
      · cases e
    · cases e⟩
def fAsg (f : FE) (g : FG) : FS := fun ρ S => (f ρ S).bind fun d S1 => (g d ρ S1).bind fun ρ1 S2 => .ok (.nx, ρ1) S2
theorem tS_asg {K : PySem.W.Frag} {f : FE} {g : FG} {D : Ends} {σ : L2.St} {H : Hp} (h : tS K W ca (fAsg f g) D σ H) : tAsg (tE K W ca f) (tG K W ca g) D σ H := by
  obtain ⟨A, Z, S, ρ, ok, sl, p⟩ := h
  refine ⟨A, Z, S, ρ, ok, sl, (Post.split p).imp fun B T I d gr q v rv => ?_⟩
  exact ⟨B, Z, T, ρ, d, gr.ok, sl.grow gr, rv, (Post.split q).imp fun C U J ρ1 gr2 q2 σ' sl' => q2 C J (.refl gr2.ok) σ' sl'⟩
theorem ss_asg {tg : Expr} {f : FE} {g : FG} (he : SE X W ca e f) (hg : SG X W ca tg g) (hs : swapsWithSole [tg] e pos.line X.env = pure false := by rfl) (hw : swappedStores [tg] e X.env = pure none := by rfl)
    (h1 : (assignEach [tg] X.env).map (·.2) = [assign tg X.env] := by rfl) : SS X W ca (.Assign [tg] e pos) (fAsg f g) := ss_of (ps_asg he.pe hg.pg hs hw h1) fun _ _ _ h => tS_asg h
theorem ss_set {i : Nat} {x : Str} {e : Expr} {f : FE} {pos' : Pos} (hN : X.N.Nodup) (hi : X.N[i]? = some x) (hx : Loc X.env.scope x) (he : SE X W ca e f) (hs : swapsWithSole [.Name x pos'] e pos.line X.env = pure false := by rfl) (hw : swappedStores [.Name x pos'] e X.env = pure none := by rfl) (hf : X.fn x = true ∨ X.env.scope.names.lookup x = some .local := by first | exact .inl rfl | exact .inr rfl | assumption) :
    SS X W ca (.Assign [.Name x pos'] e pos) (fAsg f (fgName i)) := ss_asg he (sg_name hN hi hx hf) hs hw (by rfl)
def fPar (i j : Nat) (f : FA) : FS := fun ρ S => (f ρ S).bind fun ds S1 => match ds with
  | [x, y] => .ok (.nx, (ρ.set i (some x)).set j (some y)) S1
  | _ => .bad
theorem tS_par {K : PySem.W.Frag} {i j : Nat} {f : FA} {D : Ends} {σ : L2.St} {H : Hp} (h : tS K W ca (fPar i j f) D σ H) : tPar i j (tA K W ca f) D σ H := by
  obtain ⟨A, Z, S, ρ, ok, sl, p⟩ := h
  refine ⟨A, Z, S, ρ, ok, sl, (Post.split p).imp fun B T I ds gr q vs rv => ?_⟩
  match ds, q with
  | [x, y], q =>
    cases rv with
    | cons r1 r2 =>
      cases r2 with
      | cons r2 r3 =>
        cases r3
        exact ⟨_, _, rfl, q B I (.refl gr.ok) _ (((sl.grow gr).set r1 i).set r2 j)⟩
  | [], q => exact q.elim
  | [_], q => exact q.elim
  | _ :: _ :: _ :: _, q => exact q.elim
def fPar3 (i j k : Nat) (f : FA) : FS := fun ρ S => (f ρ S).bind fun ds S1 => match ds with
  | [x, y, z] => .ok (.nx, ((ρ.set i (some x)).set j (some y)).set k (some z)) S1
  | _ => .bad
theorem tS_par3 {K : PySem.W.Frag} {i j k : Nat} {f : FA} {D : Ends} {σ : L2.St} {H : Hp} (h : tS K W ca (fPar3 i j k f) D σ H) : tPar3 i j k (tA K W ca f) D σ H := by
  obtain ⟨A, Z, S, ρ, ok, sl, p⟩ := h
  refine ⟨A, Z, S, ρ, ok, sl, (Post.split p).imp fun B T I ds gr q vs rv => ?_⟩
  match ds, q with
  | [x, y, z], q =>
    cases rv with
    | cons r1 r2 =>
      cases r2 with
      | cons r2 r3 =>
        cases r3 with
        | cons r3 r4 =>
          cases r4
          exact ⟨_, _, _, rfl, q B I (.refl gr.ok) _ ((((sl.grow gr).set r1 i).set r2 j).set r3 k)⟩
  | [], q => exact q.elim
  | [_], q => exact q.elim
  | [_, _], q => exact q.elim
  | _ :: _ :: _ :: _ :: _, q => exact q.elim
def fDrop (f : FE) : FS := fun ρ S => (f ρ S).bind fun _ S1 => .ok (.nx, ρ) S1
theorem ss_expr {f : FE} (he : SE X W ca e f) (hs : swapsWith e none pos.line X.env = pure false := by rfl) : SS X W ca (.Expr e pos) (fDrop f) := ss_of (ps_expr he.pe hs) fun D σ H ⟨A, Z, S, ρ, ok, sl, p⟩ =>
  ⟨A, Z, S, ρ, ok, sl, (Post.split p).imp fun B T I d gr q v rv => q B I (.refl gr.ok) σ (sl.grow gr)⟩
def appD (o d : D) (S : Sto) : Option Sto := match o with
  | .cel k => match S[k]? with
    | some (.lst xs) => if xs.length < capN then some (S.set k (.lst (xs ++ [d]))) else none
    | _ => none
  | _ => none
def fApp (fo f : FE) : FE := fun ρ S => (fo ρ S).bind fun o S1 => match lstOf S1 o with
  | some _ => (f ρ S1).bind fun d S2 => match appD o d S2 with
    | some S3 => .ok .non S3
    | none => .bad
  | none => .bad
theorem se_app {o : Expr} {fo f : FE} {apos : Pos} (ho : SE X W ca o fo) (he : SE X W ca e f)
    (hx : PE X (.Call (.Attribute o "append" apos) [e] [] pos) (tBM X.K "list" rAppend (tE X.K W ca fo) (tCons (tE X.K W ca f) tNil))) :
    SE X W ca (.Call (.Attribute o "append" apos) [e] [] pos) (fApp fo f) := by
  refine se_of hx fun σ H Q ⟨A, Z, S, ρ, ok, sl, p⟩ => ?_
  refine ⟨A, Z, S, ρ, ok, sl, (Post.split p).imp fun B T I o' gr q w rw_ => ?_⟩
  cases e0 : lstOf T o' with
  | none => rw [e0] at q; exact q.elim
  | some ys =>
    rw [e0] at q
    obtain ⟨a0, vs0, rfl, h1, _⟩ := lstOf_at gr.ok rw_ e0
    refine ⟨.inl ⟨rfl, _, SqL.of h1⟩, B, Z, T, ρ, gr.ok, sl.grow gr, (Post.split q).imp fun C U J d gr2 q2 x rx => ?_⟩
    cases e : appD o' d U with
    | none => rw [e] at q2; exact q2.elim
    | some S3 =>
      rw [e] at q2
      unfold appD at e
      split at e
      · rename_i k
        split at e
        · rename_i xs e1
          split at e
          · rename_i hc
            cases e
            obtain ⟨a, vs, e3, k1, k2⟩ := lstOf_at gr2.ok (rw_.grow gr2) (show lstOf U (.cel k) = some xs by simp only [lstOf, e1])
            cases e3
            have h5 : C[k]? = some a0 := by
              cases rw_.grow gr2 with
              | cel h => exact h
            refine ⟨a0, vs, x, rfl, rfl, k1, by rw [k2.length]; exact capN_lt hc, ?_⟩
            exact q2 C _ (Grow.store gr2.ok e1 h5 (k2.append (.cons rx .nil))) _ .non
          · cases e
        · cases e
      · cases e
def fIfS (t : FT) (f g : FS) : FS := fun ρ S => (t ρ S).bind fun c S1 => if c = true then f ρ S1 else g ρ S1
theorem ss_if {c : Expr} {x y : List Stmt} {t : FT} {f g : FS} (hc : ST_ X W ca c t) (ha : SSs X W ca x f) (hb : SSs X W ca y g) : SS X W ca (.If c x y pos) (fIfS t f g) := by
  refine ss_of (ps_if hc.pt ha.pss hb.pss) fun D σ H ⟨A, Z, S, ρ, ok, sl, p⟩ => ?_
  refine ⟨A, Z, S, ρ, ok, sl, (Post.split p).imp fun B T I c gr q => ?_⟩
  cases c with
  | true => exact iteT ⟨B, Z, T, ρ, gr.ok, sl.grow gr, q⟩
  | false => exact iteF ⟨B, Z, T, ρ, gr.ok, sl.grow gr, q⟩
def fWhile (t : FT) (f : FS) : Nat → FS
  | 0 => fun _ _ => .bad
  | n + 1 => fun ρ S => (t ρ S).bind fun c S1 => if c = true then (f ρ S1).bind fun r S2 => match r.1 with
      | .nx => fWhile t f n r.2 S2
      | .ct => fWhile t f n r.2 S2
      | .bk => .ok (.nx, r.2) S2
      | .rt d => .ok (.rt d, r.2) S2
    else .ok (.nx, ρ) S1
theorem ss_while {c : Expr} {x : List Stmt} {t : FT} {f : FS} (n : Nat) (hp : PassesOwn (model X.prog X.w) X.A X.env X.xe) (hc : ST_ X W ca c t) (hb : SSs X W ca x f) : SS X W ca (.While c x [] pos) (fWhile t f n) := by
  refine ss_of (ps_while hp hc.pt hb.pss) fun D σ H ⟨A, Z, S, ρ, ok, sl, p⟩ => ?_
  refine ⟨fun m σ H => tS X.K W ca (fWhile t f m) D σ H, ⟨n, A, Z, S, ρ, ok, sl, p⟩, ?_⟩
  rintro m σ H ⟨A, Z, S, ρ, ok, sl, p⟩
  cases m with
  | zero => exact p.elim
  | succ m =>
    refine ⟨A, Z, S, ρ, ok, sl, (Post.split p).imp fun B T I c gr q => ?_⟩
    cases c with
    | false => exact q B I (.refl gr.ok) σ (sl.grow gr)
    | true =>
      refine ⟨fun σ' H' => tS X.K W ca (fWhile t f m) D σ' H', fun σ' H' h => ⟨m, Nat.lt_succ_self m, h⟩, ?_⟩
      refine ⟨B, Z, T, ρ, gr.ok, sl.grow gr, (Post.split q).imp fun C U J r gr2 q2 => ?_⟩
      obtain ⟨fl, ρ'⟩ := r
      cases fl with
      | nx => exact fun σ' sl' => ⟨C, Z, U, ρ', gr2.ok, sl', q2.sig σ'⟩
      | ct => exact fun σ' sl' => ⟨C, Z, U, ρ', gr2.ok, sl', q2.sig σ'⟩
      | bk => exact q2 C J (.refl gr2.ok)
      | rt d => exact q2 C J (.refl gr2.ok)
structure ItD where
  items : List D
  cell : Option Nat
abbrev FI := Env → Sto → Res ItD
def ItAt (it : ItD) (S : Sto) : Prop := ∀ j, it.cell = some j → S[j]? = some (.lst it.items) ∨ S[j]? = some (.lk it.items)
structure GrowI (K : PySem.W.Frag) (Z A : List Addr) (S : Sto) (H : Hp) (Zx A' : List Addr) (S' : Sto) (H' : Hp) : Prop where
  pre : A <+: A'
  ok : SOk K A' Zx S' H'
  ex : ∀ b o, cut A Z S H b = some o → cut A' Zx S' H' b = some o
theorem Grow0.toI {K : PySem.W.Frag} {Z A A' : List Addr} {S S' : Sto} {H H' : Hp} (g : Grow0 K Z A S H A' S' H') : GrowI K Z A S H Z A' S' H' := ⟨g.pre, g.ok, g.ex⟩
theorem DR.growI {K : PySem.W.Frag} {Z A Zx A' : List Addr} {S S' : Sto} {H H' : Hp} {v : V} {d : D} (r : DR A (cut A Z S H) K v d) (g : GrowI K Z A S H Zx A' S' H') : DR A' (cut A' Zx S' H') K v d := r.mono g.pre g.ex
structure ItOk (K : PySem.W.Frag) (Z : List Addr) (J : It) (it : ItD) (A : List Addr) (S : Sto) (H : Hp) : Prop where
  here : ItAt it S
  go : ∀ Zx A' S' H' i, GrowI K Z A S H Zx A' S' H' → ItAt it S' → i < it.items.length → J.go i H'
  stop : ∀ Zx A' S' H', GrowI K Z A S H Zx A' S' H' → ItAt it S' → J.stop it.items.length H'
  yld : ∀ Zx A' S' H' i x H'', GrowI K Z A S H Zx A' S' H' → ItAt it S' → J.yld i H' x H'' → i < it.items.length → Grow K Zx A' S' H' A' S' H'' ∧ ∃ d, it.items[i]? = some d ∧ DR A' (cut A' Zx S' H'') K x d
def tI (K : PySem.W.Frag) (W : WX) (ca : Str → Addr) (f : FI) : TI := fun σ H R => ∃ A Z S ρ, SOk K A Z S H ∧ Sl K A (cut A Z S H) ρ σ ∧ Post K W ca A Z S H σ (f ρ S) fun B T I it => ∀ J, ItOk K Z J it B T I → R J I
structure SI (X : Cx) (W : WX) (ca : Str → Addr) (tg iter : Expr) (f : FI) : Prop where
  pi : PI X tg iter (tI X.K W ca f)
theorem pi_imp {tg iter : Expr} {t t' : TI} (h : PI X tg iter t) (i : ∀ σ H R, t' σ H R → t σ H R) : PI X tg iter t' := ⟨fun pins s σ H R I q => h.run pins s σ H R I (i _ _ _ q)⟩
def iterOf (S : Sto) (d : D) : Option ItD := match d with
  | .lst xs => some ⟨xs, none⟩
  | .kls xs => some ⟨xs, none⟩
  | .cel i => (lstOf S (.cel i)).map fun xs => ⟨xs, some i⟩
  | _ => none
def fiSeq (f : FE) : FI := fun ρ S => (f ρ S).bind fun d S1 => match iterOf S1 d with
  | some it => .ok it S1
  | none => .bad
theorem cel_get {S : Sto} {i : Nat} {xs : List D} (h : lstOf S (.cel i) = some xs) : S[i]? = some (.lst xs) ∨ S[i]? = some (.lk xs) := by
  simp only [lstOf] at h
  split at h
  · rename_i e; cases h; exact .inl e
  · rename_i e; cases h; exact .inr e
  · cases h
theorem get_cel {S : Sto} {i : Nat} {xs : List D} (h : S[i]? = some (.lst xs) ∨ S[i]? = some (.lk xs)) : lstOf S (.cel i) = some xs := by
  simp only [lstOf]
  rcases h with h | h <;> rw [h]
theorem seq_later {K : PySem.W.Frag} {A A' Z Zx : List Addr} {S S' : Sto} {H H' : Hp} {v : V} {d : D} {it : ItD} (r : DR A (cut A Z S H) K v d) (h : iterOf S d = some it) (g : GrowI K Z A S H Zx A' S' H') (ha : ItAt it S') :
    ∃ vs, v = .ref (match v with | .ref a => a | _ => 0) ∧ SqL K H' (match v with | .ref a => a | _ => 0) vs ∧ DRs A' (cut A' Zx S' H') K vs it.items := by
  have r' := r.growI g
  cases d with
  | lst xs =>
    cases h
    cases r' with
    | lst h1 h2 => exact ⟨_, rfl, SqL.of (cut_sub h1), h2⟩
  | kls xs =>
    cases h
    cases r' with
    | kls h1 h2 => exact ⟨_, rfl, sql_mono (fun _ _ => cut_sub) h1, h2⟩
  | cel i =>
    unfold iterOf at h
    simp only at h
    cases e : lstOf S (.cel i) with
    | none => rw [e] at h; cases h
    | some xs =>
      rw [e] at h
      cases h
      obtain ⟨a, vs, rfl, h1, h2⟩ := lstOf_at g.ok r' (get_cel (ha i rfl))
      exact ⟨vs, rfl, SqL.of h1, h2⟩
  | _ => cases h
theorem iter_here {S : Sto} {d : D} {it : ItD} (h : iterOf S d = some it) : ItAt it S := fun j e => by
  cases d with
  | lst xs => cases h; cases e
  | kls xs => cases h; cases e
  | cel i =>
    unfold iterOf at h
    simp only at h
    cases e1 : lstOf S (.cel i) with
    | none => rw [e1] at h; cases h
    | some xs =>
      rw [e1] at h
      cases h
      cases e
      exact cel_get e1
  | _ => cases h
theorem iter_ref {K : PySem.W.Frag} {A : List Addr} {G : Hp} {S : Sto} {v : V} {d : D} {it : ItD} (r : DR A G K v d) (h : iterOf S d = some it) : ∃ a, v = .ref a := by
  cases r with
  | lst _ _ => exact ⟨_, rfl⟩
  | kls _ _ => exact ⟨_, rfl⟩
  | cel _ => exact ⟨_, rfl⟩
  | _ => cases h
theorem itl_ok {K : PySem.W.Frag} {A Z : List Addr} {S : Sto} {H : Hp} {a : Addr} {d : D} {it : ItD} (ok : SOk K A Z S H) (r : DR A (cut A Z S H) K (.ref a) d) (h : iterOf S d = some it) : ItOk K Z (Itl K a) it A S H where
  here := iter_here h
  go := fun Zx A' S' H' i g ha hi => by
    obtain ⟨vs, _, h1, h2⟩ := seq_later r h g ha
    have hl := h2.length
    exact ⟨vs, vs[i]'(by omega), h1, by simp⟩
  stop := fun Zx A' S' H' g ha => by
    obtain ⟨vs, _, h1, h2⟩ := seq_later r h g ha
    exact ⟨vs, h1, by rw [h2.length]; exact Nat.le_refl _⟩
  yld := fun Zx A' S' H' i x H'' g ha hy hi => by
    obtain ⟨vs, _, h1, h2⟩ := seq_later r h g ha
    obtain ⟨rfl, y⟩ := hy
    obtain ⟨d', e1, e2⟩ := h2.getv (y vs h1)
    exact ⟨.refl g.ok, d', e1, e2⟩
theorem si_seq {tg l : Expr} {f : FE} (h : SE X W ca l f) : SI X W ca tg l (fiSeq f) := ⟨pi_imp (pi_list h.pe) fun σ H R ⟨A, Z, S, ρ, ok, sl, p⟩ => by
  refine ⟨A, Z, S, ρ, ok, sl, (Post.split p).imp fun B T I d gr q v rv => ?_⟩
  cases e : iterOf T d with
  | none => rw [e] at q; exact q.elim
  | some it =>
    rw [e] at q
    obtain ⟨a, rfl⟩ := iter_ref rv e
    obtain ⟨vs, _, h1, _⟩ := seq_later rv e (Grow0.refl gr.ok).toI (iter_here e)
    exact ⟨a, rfl, ⟨vs, h1⟩, q B I (.refl gr.ok) _ (itl_ok gr.ok rv e)⟩⟩
def fiTup (f : FE) : FI := fun ρ S => (f ρ S).bind fun d S1 => match d with
  | .tup xs => .ok ⟨xs, none⟩ S1
  | _ => .bad
theorem itt_ok {K : PySem.W.Frag} {A Z : List Addr} {S : Sto} {H : Hp} {a : Addr} {xs : List D} (r : DR A (cut A Z S H) K (.ref a) (.tup xs)) : ItOk K Z (Itt K a) ⟨xs, none⟩ A S H where
  here := fun j e => by cases e
  go := fun Zx A' S' H' i g ha hi => by
    obtain ⟨b, vs, e, h1, h2⟩ := tup_at (r.growI g)
    cases e
    have hl := h2.length
    exact ⟨vs, vs[i]'(by simp at hi; omega), h1, by simp⟩
  stop := fun Zx A' S' H' g ha => by
    obtain ⟨b, vs, e, h1, h2⟩ := tup_at (r.growI g)
    cases e
    exact ⟨vs, h1, by rw [h2.length]; exact Nat.le_refl _⟩
  yld := fun Zx A' S' H' i x H'' g ha hy hi => by
    obtain ⟨b, vs, e, h1, h2⟩ := tup_at (r.growI g)
    cases e
    obtain ⟨rfl, y⟩ := hy
    obtain ⟨d', e1, e2⟩ := h2.getv (y vs h1)
    exact ⟨.refl g.ok, d', e1, e2⟩
theorem si_tup {tg l : Expr} {f : FE} (h : SE X W ca l f) : SI X W ca tg l (fiTup f) := ⟨pi_imp (pi_tup h.pe) fun σ H R ⟨A, Z, S, ρ, ok, sl, p⟩ => by
  refine ⟨A, Z, S, ρ, ok, sl, (Post.split p).imp fun B T I d gr q v rv => ?_⟩
  cases d with
  | tup xs =>
    obtain ⟨a, vs, rfl, h1, h2⟩ := tup_at rv
    exact ⟨a, rfl, ⟨vs, h1⟩, q B I (.refl gr.ok) _ (itt_ok rv)⟩
  | _ => exact q.elim⟩
def rangeD (lo : Int) (n : Nat) : List D := (List.range n).map fun i => .int (lo + (i : Nat))
theorem rangeD_len {lo : Int} {n : Nat} : (rangeD lo n).length = n := by simp [rangeD]
theorem rangeD_get {lo : Int} {n i : Nat} (h : i < n) : (rangeD lo n)[i]? = some (.int (lo + (i : Nat))) := by
  unfold rangeD
  rw [List.getElem?_map, List.getElem?_range h]
  rfl
theorem itr_ok {K : PySem.W.Frag} {A Z : List Addr} {S : Sto} {H : Hp} {lo : Int} {n : Nat} : ItOk K Z (Itr lo n) ⟨rangeD lo n, none⟩ A S H where
  here := fun j e => by cases e
  go := fun Zx A' S' H' i g ha hi => by rw [rangeD_len] at hi; exact hi
  stop := fun Zx A' S' H' g ha => by show n ≤ _; rw [rangeD_len]; exact Nat.le_refl _
  yld := fun Zx A' S' H' i x H'' g ha hy hi => by
    obtain ⟨rfl, rfl⟩ := hy
    rw [rangeD_len] at hi
    exact ⟨.refl g.ok, _, rangeD_get hi, .int _⟩
@[irreducible] def smallI (i : Int) : Bool := ltN i 4611686018427387904
theorem smallI_at {i : Int} (h : smallI i = true) : -(2 ^ 62) ≤ i ∧ i < 2 ^ 62 := by
  unfold smallI at h
  have p62 : (2 : Int) ^ 62 = 4611686018427387904 := by decide +kernel
  have := ltN_at h
  rw [p62]
  omega
def fiRng1 (f : FA) : FI := fun ρ S => (f ρ S).bind fun ds S1 => match ds with
  | [.int j] => if smallI j then .ok ⟨rangeD 0 j.toNat, none⟩ S1 else .bad
  | _ => .bad
def fiRng2 (f : FA) : FI := fun ρ S => (f ρ S).bind fun ds S1 => match ds with
  | [.int i, .int j] => if smallI i && smallI j then .ok ⟨rangeD i (j - i).toNat, none⟩ S1 else .bad
  | _ => .bad
theorem si_range1 {tg : Expr} {f : FA} {p : Pos} (hg : Gl X "range") (hm : X.mg "range" = none) (h : SA X W ca [a] f) (hs : starEach [a] X.env = [(false, eval a X.env)] := by rfl) : SI X W ca tg (.Call (.Name "range" p) [a] [] pos) (fiRng1 f) := ⟨pi_imp (pi_range1 hg hm h.pa hs) fun σ H R ⟨A, Z, S, ρ, ok, sl, p⟩ => by
  refine ⟨A, Z, S, ρ, ok, sl, (Post.split p).imp fun B T I ds gr q vs rv => ?_⟩
  split at q
  · cases rv with
    | cons r1 r2 =>
      cases r1; cases r2
      split at q
      · rename_i j hc
        exact ⟨j, rfl, (smallI_at hc).1, (smallI_at hc).2, q B I (.refl gr.ok) _ itr_ok⟩
      · exact q.elim
  · exact q.elim⟩
theorem si_range2 {tg : Expr} {f : FA} {p : Pos} (hg : Gl X "range") (hm : X.mg "range" = none) (h : SA X W ca [a, b] f) (hs : starEach [a, b] X.env = [(false, eval a X.env), (false, eval b X.env)] := by rfl) (hs2 : starEach [b] X.env = [(false, eval b X.env)] := by rfl) : SI X W ca tg (.Call (.Name "range" p) [a, b] [] pos) (fiRng2 f) := ⟨pi_imp (pi_range2 hg hm h.pa hs hs2) fun σ H R ⟨A, Z, S, ρ, ok, sl, p⟩ => by
  refine ⟨A, Z, S, ρ, ok, sl, (Post.split p).imp fun B T I ds gr q vs rv => ?_⟩
  split at q
  · cases rv with
    | cons r1 r2 =>
      cases r2 with
      | cons r2 r3 =>
        cases r1; cases r2; cases r3
        split at q
        · rename_i i j hc
          rw [Bool.and_eq_true] at hc
          exact ⟨i, j, rfl, ⟨(smallI_at hc.1).1, (smallI_at hc.1).2, (smallI_at hc.2).1, (smallI_at hc.2).2⟩, q B I (.refl gr.ok) _ itr_ok⟩
        · exact q.elim
  · exact q.elim⟩
def enumD (xs : List D) : List D := xs.zipIdx.map fun p => .tup [.int (p.2 : Nat), p.1]
theorem enumD_len {xs : List D} : (enumD xs).length = xs.length := by simp [enumD]
theorem enumD_get {xs : List D} {i : Nat} {d : D} (h : xs[i]? = some d) : (enumD xs)[i]? = some (.tup [.int (i : Nat), d]) := by
  unfold enumD
  rw [List.getElem?_map, List.getElem?_zipIdx, h]
  simp
def fiEnum (f : FE) : FI := fun ρ S => (f ρ S).bind fun d S1 => match iterOf S1 d with
  | some it => if it.cell = none then .ok ⟨enumD it.items, none⟩ S1 else .bad
  | none => .bad
theorem ite_ok {K : PySem.W.Frag} {A Z : List Addr} {S : Sto} {H : Hp} {a : Addr} {d : D} {it : ItD} (r : DR A (cut A Z S H) K (.ref a) d) (h : iterOf S d = some it) (hc : it.cell = none) : ItOk K Z (Ite K a) ⟨enumD it.items, none⟩ A S H where
  here := fun j e => by cases e
  go := fun Zx A' S' H' i g ha hi => by
    obtain ⟨vs, _, h1, h2⟩ := seq_later r h g (fun j e => by rw [hc] at e; cases e)
    have hl := h2.length
    rw [enumD_len] at hi
    exact ⟨vs, vs[i]'(by omega), h1, by simp⟩
  stop := fun Zx A' S' H' g ha => by
    obtain ⟨vs, _, h1, h2⟩ := seq_later r h g (fun j e => by rw [hc] at e; cases e)
    exact ⟨vs, h1, by show vs.length ≤ _; rw [h2.length, enumD_len]; exact Nat.le_refl _⟩
  yld := fun Zx A' S' H' i x H'' g ha hy hi => by
    obtain ⟨vs, _, h1, h2⟩ := seq_later r h g (fun j e => by rw [hc] at e; cases e)
    obtain ⟨T, x', rfl, hT, rfl, y⟩ := hy
    obtain ⟨d', e1, e2⟩ := h2.getv (y vs h1)
    exact ⟨.new g.ok hT, _, enumD_get e1, new_tup g.ok hT (.cons (.int _) (.cons e2 .nil))⟩
theorem si_enum {l : Expr} {p tpos : Pos} {elts : List Expr} {kk : Nat} {f : FE} (hg : Gl X "enumerate") (hm : X.mg "enumerate" = none) (h : SE X W ca l f) (hs : starEach [l] X.env = [(false, eval l X.env)] := by rfl) : SI X W ca (.Tuple elts kk tpos) (.Call (.Name "enumerate" p) [l] [] pos) (fiEnum f) := ⟨pi_imp (pi_enum hg hm (pa_cons h.pe pa_nil hs) hs) fun σ H R ⟨A, Z, S, ρ, ok, sl, p⟩ => by
  refine ⟨A, Z, S, ρ, ok, sl, (Post.split p).imp fun B T I d gr q v rv => ?_⟩
  cases e : iterOf T d with
  | none => rw [e] at q; exact q.elim
  | some it =>
    rw [e] at q
    simp only at q
    split at q
    · rename_i hc
      obtain ⟨a, rfl⟩ := iter_ref rv e
      obtain ⟨vs, _, h1, _⟩ := seq_later rv e (Grow0.refl gr.ok).toI (iter_here e)
      exact ⟨a, vs, rfl, h1, q B I (.refl gr.ok) _ (ite_ok rv e hc)⟩
    · exact q.elim⟩
end
end DL
set_option maxHeartbeats 2000000
namespace DL
open PySem PySem.Spec PyProof.Rows L2
def loopD (g : FG) (f : FS) : List D → FS
  | [] => fun ρ S => .ok (.nx, ρ) S
  | d :: ds => fun ρ S => (g d ρ S).bind fun ρ1 S1 => (f ρ1 S1).bind fun r S2 => match r.1 with
    | .nx => loopD g f ds r.2 S2
    | .ct => loopD g f ds r.2 S2
    | .bk => .ok (.nx, r.2) S2
    | .rt d => .ok (.rt d, r.2) S2
def withLock {α : Type} (c : Option Nat) (k : Sto → Res α) (S : Sto) : Res α := match c with
  | none => k S
  | some j => match S[j]? with
    | some (.lst xs) => (k (S.set j (.lk xs))).bind fun r S2 => .ok r (S2.set j (.lst xs))
    | some (.lk _) => k S
    | _ => .bad
@[simp] theorem withLock_none {α : Type} (k : Sto → Res α) (S : Sto) : withLock none k S = k S := rfl
theorem Post.lock {α : Type} {K : PySem.W.Frag} {W : WX} {ca : Str → Addr} {A Z : List Addr} {S : Sto} {H : Hp} {σ : L2.St} {it : ItD} {k : Sto → Res α} {P : List Addr → Sto → Hp → α → Prop}
    (ok : SOk K A Z S H) (ha : ItAt it S) (h : Post K W ca A Z S H σ (withLock it.cell k S) P) :
    ∃ (S1 : Sto) (U : Sto → Sto), Grow0 K Z A S H A S1 H ∧ (∀ j, it.cell = some j → S1[j]? = some (.lk it.items)) ∧ Post K W ca A Z S1 H σ (k S1) fun B T I r => Grow0 K Z B T I B (U T) I ∧ P B (U T) I r := by
  obtain ⟨items, cell⟩ := it
  cases cell with
  | none => exact ⟨S, id, .refl ok, fun j e => (by cases e), h.imp fun B T I r g p => ⟨.refl g.ok, p⟩⟩
  | some j =>
    have hj := ha j rfl
    unfold withLock at h
    simp only at h hj
    rcases hj with hj | hj
    · rw [hj] at h
      simp only at h
      have g0 : Grow0 K Z A S H A (S.set j (.lk items)) H := Grow.relock ok hj (.inl rfl) (.inr rfl)
      have hi : j < S.length := (List.getElem?_eq_some_iff.mp hj).1
      have e1 : (S.set j (.lk items))[j]? = some (.lk items) := List.getElem?_set_self hi
      -- from the locked store on
      have back : ∀ {B T I}, Grow K Z A (S.set j (.lk items)) H B T I → Grow K Z A S H B (T.set j (.lst items)) I ∧ Grow0 K Z B T I B (T.set j (.lst items)) I := fun {B T I} g => by
        have e2 : T[j]? = some (.lk items) := g.lk j items e1
        have g1 : Grow0 K Z B T I B (T.set j (.lst items)) I := Grow.relock g.ok e2 (.inr rfl) (.inl rfl)
        have g2 := (g0.trans g.zero).trans g1
        refine ⟨⟨g2.pre, g2.ok, g2.ex, g2.hid, fun i ds e => ?_⟩, g1⟩
        have ne : j ≠ i := fun z => by subst z; rw [hj] at e; cases e
        rw [List.getElem?_set_ne ne]
        exact g.lk i ds (by rw [List.getElem?_set_ne ne]; exact e)
      refine ⟨S.set j (.lk items), fun T => T.set j (.lst items), g0, fun j' e => (by cases e; exact e1), ?_⟩
      cases e3 : k (S.set j (.lk items)) with
      | bad => rw [e3] at h; exact h
      | err c d T =>
        rw [e3] at h
        intro B I dx v σ' g
        have g2 := g0.trans g.zero
        refine h B I dx v σ' ⟨g2.pre, g2.ok, g2.ex, g2.hid, fun i ds e => ?_⟩
        have ne : j ≠ i := fun z => by subst z; rw [hj] at e; cases e
        exact g.lk i ds (by rw [List.getElem?_set_ne ne]; exact e)
      | ok a T =>
        rw [e3] at h
        intro B I g
        exact ⟨(back g).2, h B I (back g).1⟩
    · rw [hj] at h
      simp only at h
      exact ⟨S, id, .refl ok, fun j' e => (by cases e; exact hj), h.imp fun B T I r g p => ⟨.refl g.ok, p⟩⟩
def fFor (fi : FI) (g : FG) (f : FS) : FS := fun ρ S => (fi ρ S).bind fun it S1 => withLock it.cell (loopD g f it.items ρ) S1
theorem drop_at {α : Type} {l : List α} {i : Nat} {d : α} (h : l[i]? = some d) : l.drop i = d :: l.drop (i + 1) := by
  obtain ⟨h1, h2⟩ := List.getElem?_eq_some_iff.mp h
  rw [← h2]
  exact List.drop_eq_getElem_cons h1
section
variable {X : Cx} {W : WX} {ca : Str → Addr} {e a b : Expr} {es : List Expr} {pos : Pos} {st : Stmt} {rest : List Stmt}
theorem ss_for {tg iter : Expr} {body : List Stmt} {fi : FI} {g : FG} {f : FS} (hp : PassesOwn (model X.prog X.w) X.A X.env X.xe) (hc : X.calm = true) (hi : SI X W ca tg iter fi) (hg : SG X W ca tg g) (hb : SSs X W ca body f)
    (hs : ∀ x, foldedSetIterable iter X.env x = pure x := by intro _; rfl) : SS X W ca (.For tg iter body [] pos) (fFor fi g f) := by
  refine ss_of (ps_for hp hc hi.pi hg.pg hb.pss hs) fun D σ H ⟨A, Z, S, ρ, ok, sl, p⟩ => ?_
  refine ⟨A, Z, S, ρ, ok, sl, (Post.split p).imp fun B T I it gr q J hJ => ?_⟩
  obtain ⟨T1, U, g0, hl, q1⟩ := Post.lock gr.ok hJ.here q
  refine ⟨fun i m σ' H' => m = it.items.length - i ∧ i ≤ it.items.length ∧ ∃ A' S' ρ', Grow X.K Z B T1 I A' S' H' ∧ Sl X.K A' (cut A' Z S' H') ρ' σ' ∧
      Post X.K W ca A' Z S' H' σ' (loopD g f (it.items.drop i) ρ' S') fun B T I r => Grow0 X.K Z B T I B (U T) I ∧ EndF X.K D Z B (U T) I r,
    ⟨it.items.length, rfl, Nat.zero_le _, B, T1, ρ, .refl g0.ok, (sl.grow gr).mono g0.pre g0.ex, q1⟩, ?_⟩
  rintro i m σ' H' ⟨rfl, hi, A', S', ρ', g1, sl', q2⟩
  have hat : ItAt it S' := fun j e => .inr (g1.lk j _ (hl j e))
  have g01 : GrowI X.K Z B T I Z A' S' H' := (g0.trans g1.zero).toI
  by_cases hlt : i < it.items.length
  · refine .inr ⟨hJ.go _ _ _ _ i g01 hat hlt, fun σ'' H'' => ∃ A' S' ρ', Grow X.K Z B T1 I A' S' H'' ∧ Sl X.K A' (cut A' Z S' H'') ρ' σ'' ∧
      Post X.K W ca A' Z S' H'' σ'' (loopD g f (it.items.drop (i + 1)) ρ' S') fun B T I r => Grow0 X.K Z B T I B (U T) I ∧ EndF X.K D Z B (U T) I r,
      fun σ'' H'' h => ⟨it.items.length - (i + 1), by omega, rfl, hlt, h⟩, fun x H'' hy => ?_⟩
    obtain ⟨g2, d, ed, rd⟩ := hJ.yld _ _ _ _ i x H'' g01 hat hy hlt
    rw [drop_at ed] at q2
    have q3 := Post.later q2 g2
    refine ⟨A', Z, S', ρ', d, g2.ok, sl'.grow g2, rd, (Post.split q3).imp fun C V L ρ1 g3 q4 σ2 sl2 => ?_⟩
    refine ⟨C, Z, V, ρ1, g3.ok, sl2, (Post.split (q4.sig σ2)).imp fun C2 V2 L2' r g4 q5 => ?_⟩
    have gg := g1.trans (g2.trans (g3.trans g4))
    obtain ⟨fl, ρ2⟩ := r
    cases fl with
    | nx => exact fun σ3 sl3 => ⟨C2, V2, ρ2, gg, sl3, q5.sig σ3⟩
    | ct => exact fun σ3 sl3 => ⟨C2, V2, ρ2, gg, sl3, q5.sig σ3⟩
    | bk =>
      intro σ3 sl3
      obtain ⟨z1, z2⟩ := q5 C2 L2' (.refl g4.ok)
      exact z2 σ3 (sl3.mono z1.pre z1.ex)
    | rt d' =>
      intro v rv
      obtain ⟨z1, z2⟩ := q5 C2 L2' (.refl g4.ok)
      exact z2 v (rv.grow0 z1)
  · have ei : i = it.items.length := by omega
    subst ei
    refine .inl ⟨hJ.stop _ _ _ _ g01 hat, ?_⟩
    rw [List.drop_length] at q2
    obtain ⟨z1, z2⟩ := q2 A' H' (.refl g1.ok)
    exact z2 σ' (sl'.mono z1.pre z1.ex)
abbrev W0 : WX := fun _ _ _ _ => False
def tGw (K : PySem.W.Frag) (ca : Str → Addr) (vs : List Nat) (f : FG) : TG := fun v σ H Q => ∃ A Z S ρ d, SOk K A Z S H ∧ Sl K A (cut A Z S H) ρ σ ∧ DR A (cut A Z S H) K v d ∧ Post K W0 ca A Z S H σ (f d ρ S) fun B T I ρ' => ∀ σ', Sl K B (cut B Z T I) ρ' σ' → L2.wipe σ' vs = L2.wipe σ vs → Q σ' I
structure SGw (X : Cx) (ca : Str → Addr) (vs : List Nat) (tg : Expr) (f : FG) : Prop where
  pg : PG X tg (tGw X.K ca vs f)
theorem wipe_set {σ : L2.St} {i : Nat} {x : Option V} : ∀ {vs : List Nat}, i ∈ vs → L2.wipe (σ.set i x) vs = L2.wipe σ vs
  | [], h => by cases h
  | v :: vs, h => by
    show (L2.wipe (σ.set i x) vs).set v none = (L2.wipe σ vs).set v none
    by_cases c : i ∈ vs
    · rw [wipe_set c]
    · have e : i = v := by
        rcases List.mem_cons.mp h with h | h
        · exact h
        · exact absurd h c
      subst e
      apply List.ext_getElem?
      intro j
      by_cases ej : i = j
      · subst ej
        by_cases hl : i < σ.length
        · rw [List.getElem?_set_self (by rw [L2.wipe_length, List.length_set]; exact hl), List.getElem?_set_self (by rw [L2.wipe_length]; exact hl)]
        · rw [List.getElem?_eq_none (by rw [List.length_set, L2.wipe_length, List.length_set]; omega), List.getElem?_eq_none (by rw [List.length_set, L2.wipe_length]; omega)]
      · rw [List.getElem?_set_ne ej, List.getElem?_set_ne ej]
        exact wipe_at ej
where
  wipe_at {σ : L2.St} {i j : Nat} {x : Option V} (h : i ≠ j) : ∀ {vs : List Nat}, (L2.wipe (σ.set i x) vs)[j]? = (L2.wipe σ vs)[j]?
    | [] => List.getElem?_set_ne h
    | v :: vs => by
      show ((L2.wipe (σ.set i x) vs).set v none)[j]? = ((L2.wipe σ vs).set v none)[j]?
      by_cases c : v = j
      · subst c
        by_cases hl : v < σ.length
        · rw [List.getElem?_set_self (by rw [L2.wipe_length, List.length_set]; exact hl), List.getElem?_set_self (by rw [L2.wipe_length]; exact hl)]
        · rw [List.getElem?_eq_none (by rw [List.length_set, L2.wipe_length, List.length_set]; omega), List.getElem?_eq_none (by rw [List.length_set, L2.wipe_length]; omega)]
      · rw [List.getElem?_set_ne c, List.getElem?_set_ne c]
        exact wipe_at h
theorem wipe_in {σ : L2.St} {j : Nat} : ∀ {vs : List Nat}, j ∈ vs → (L2.wipe σ vs).set j none = L2.wipe σ vs
  | [], h => by cases h
  | v :: vs, h => by
    show ((L2.wipe σ vs).set v none).set j none = (L2.wipe σ vs).set v none
    by_cases c : j = v
    · subst c
      rw [List.set_set]
    · have hj : j ∈ vs := (List.mem_cons.mp h).resolve_left c
      rw [List.set_comm _ _ (fun z => c z.symm), wipe_in hj]
theorem wipe_wipe {σ : L2.St} : ∀ {vs : List Nat}, L2.wipe (L2.wipe σ vs) vs = L2.wipe σ vs := fun {vs} => by
  have : ∀ {us : List Nat}, (∀ j ∈ us, j ∈ vs) → L2.wipe (L2.wipe σ vs) us = L2.wipe σ vs := fun {us} => by
    induction us with
    | nil => intro _; rfl
    | cons u us ih =>
      intro h
      show (L2.wipe (L2.wipe σ vs) us).set u none = L2.wipe σ vs
      rw [ih fun j hj => h j (List.mem_cons_of_mem _ hj)]
      exact wipe_in (h u List.mem_cons_self)
  exact this fun j h => h
theorem sgw_name {i : Nat} {x : Str} {vs : List Nat} (hv : i ∈ vs) (hN : X.N.Nodup) (hi : X.N[i]? = some x) (hx : Loc X.env.scope x) (hf : X.fn x = true ∨ X.env.scope.names.lookup x = some .local := by first | exact .inl rfl | exact .inr rfl | assumption) : SGw X ca vs (.Name x pos) (fgName i) :=
  ⟨pg_imp (pg_name hN hi hx hf) fun v σ H Q ⟨A, Z, S, ρ, d, ok, sl, rv, p⟩ => p A H (.refl ok) _ (sl.set rv i) (wipe_set hv)⟩
def compD (g : FG) (c : FT) (el : FE) : List D → Env → Sto → Res (List D)
  | [] => fun _ S => .ok [] S
  | d :: ds => fun ρ S => (g d ρ S).bind fun ρ1 S1 => (c ρ1 S1).bind fun b S2 => if b = true then (el ρ1 S2).bind fun y S3 => (compD g c el ds ρ S3).bind fun ys S4 => .ok (y :: ys) S4 else compD g c el ds ρ S2
def noErr {α : Type} (r : Res α) : Res α := match r with
  | .ok a S => .ok a S
  | _ => .bad
@[simp] theorem noErr_ok {α : Type} (a : α) (S : Sto) : noErr (.ok a S) = .ok a S := rfl
theorem Post.noErr {α : Type} {K : PySem.W.Frag} {A Z : List Addr} {S : Sto} {H : Hp} {σ : L2.St} {r : Res α} {P : List Addr → Sto → Hp → α → Prop} (h : Post K W ca A Z S H σ (noErr r) P) : Post K W0 ca A Z S H σ r P := by
  cases r with
  | ok a T => exact h
  | err c d T => exact h.elim
  | bad => exact h
structure GrowP (K : PySem.W.Frag) (p : Addr) (Z A : List Addr) (S : Sto) (H : Hp) (A' : List Addr) (S' : Sto) (H' : Hp) : Prop where
  pre : A <+: A'
  ok : SOk K A' (p :: Z) S' H'
  ex : ∀ b o, cut A (p :: Z) S H b = some o → cut A' (p :: Z) S' H' b = some o
  hid : ∀ b ∈ Z, H' b = H b
  lk : ∀ (i : Nat) (ds : List D), S[i]? = some (.lk ds) → S'[i]? = some (.lk ds)
section
variable {K : PySem.W.Frag} {p : Addr} {Z A A' A'' : List Addr} {S S' S'' : Sto} {H H' H'' : Hp} {σ : L2.St}
theorem GrowP.of (g : Grow K (p :: Z) A S H A' S' H') : GrowP K p Z A S H A' S' H' := ⟨g.pre, g.ok, g.ex, fun b hb => g.hid b (List.mem_cons_of_mem _ hb), g.lk⟩
theorem GrowP.trans (g : GrowP K p Z A S H A' S' H') (g' : GrowP K p Z A' S' H' A'' S'' H'') : GrowP K p Z A S H A'' S'' H'' :=
  ⟨g.pre.trans g'.pre, g'.ok, fun b o h => g'.ex b o (g.ex b o h), fun b hb => (g'.hid b hb).trans (g.hid b hb), fun i ds h => g'.lk i ds (g.lk i ds h)⟩
theorem GrowP.turn {o : HO} (ok : SOk K A (p :: Z) S H) (hz : p ∉ Z) (ho : ∀ q, o ≠ LamX.CodeO p q := by exact fun q z => by unfold LamX.CodeO at z; cases z) : GrowP K p Z A S H A S (upd H p o) :=
  ⟨List.prefix_refl _, ok.turn ho, fun b u e => by rw [cut_turn]; exact e, fun b hb => upd_ne (fun z => hz (z ▸ hb)), fun _ _ h => h⟩
def Rest (K : PySem.W.Frag) (p : Addr) (Z A : List Addr) (S : Sto) (H : Hp) (acc : List D) (r : Res (List D)) (Qd : Hp → Prop) : Prop := match r with
  | .ok ys V => ∀ C L vs, GrowP K p Z A S H C V L → L p = some (.lst vs) → DRs C (cut C (p :: Z) V L) K vs (acc ++ ys) → Qd L
  | _ => False
theorem Rest.later {acc : List D} {r : Res (List D)} {Qd : Hp → Prop} (h : Rest K p Z A S H acc r Qd) (g : GrowP K p Z A S H A' S' H') : Rest K p Z A' S' H' acc r Qd := by
  cases r with
  | ok ys V => exact fun C L vs g' => h C L vs (g.trans g')
  | _ => exact h
theorem Rest.split {α : Type} {acc : List D} {r : Res α} {f : α → Sto → Res (List D)} {Qd : Hp → Prop} (h : Rest K p Z A S H acc (r.bind f) Qd) : Post K W0 ca A (p :: Z) S H σ r fun B T I a => Rest K p Z B T I acc (f a T) Qd := by
  cases r with
  | ok a T => exact fun B I g => Rest.later h (.of g)
  | err c d T => exact h.elim
  | bad => exact h
end
def fLc (vs : List Nat) (fi : FI) (g : FG) (c : FT) (el : FE) : FE := fun ρ S => (fi ρ S).bind fun it S1 => if it.items.length < capN then (withLock it.cell (fun S => noErr (compD g c el it.items (wipeE ρ vs) S)) S1).bind fun ys S2 => .ok (.lst ys) S2 else .bad
def fYes : FT := fun _ S => .ok true S
structure STs (X : Cx) (W : WX) (ca : Str → Addr) (ifs : List Expr) (f : FT) : Prop where
  pts : PTs X ifs (tT X.K W ca f)
theorem pts_imp {ifs : List Expr} {t t' : TT} (h : PTs X ifs t) (i : ∀ σ H Q, t' σ H Q → t σ H Q) : PTs X ifs t' := ⟨fun pins s σ H Q I q => h.run pins s σ H Q I (i _ _ _ q)⟩
theorem sts_nil : STs X W ca [] fYes := ⟨pts_imp pts_nil fun σ H Q ⟨A, Z, S, ρ, ok, sl, p⟩ => p A H (.refl ok)⟩
theorem sts_one {f : FT} (h : ST_ X W ca a f) : STs X W ca [a] f := ⟨pts_one h.pt⟩
theorem compD_len {g : FG} {c : FT} {el : FE} : ∀ {ds : List D} {ρ : Env} {S V : Sto} {ys : List D}, compD g c el ds ρ S = .ok ys V → ys.length ≤ ds.length
  | [], ρ, S, V, ys, h => by cases h; exact Nat.le_refl _
  | d :: ds, ρ, S, V, ys, h => by
    unfold compD at h
    cases e1 : g d ρ S with
    | ok ρ1 S1 =>
      rw [e1] at h
      simp only [Res.bind_ok] at h
      cases e2 : c ρ1 S1 with
      | ok b S2 =>
        rw [e2] at h
        simp only [Res.bind_ok] at h
        cases b with
        | true =>
          simp only [if_true] at h
          cases e3 : el ρ1 S2 with
          | ok y S3 =>
            rw [e3] at h
            simp only [Res.bind_ok] at h
            cases e4 : compD g c el ds ρ S3 with
            | ok zs S4 =>
              rw [e4] at h
              simp only [Res.bind_ok] at h
              cases h
              simp only [List.length_cons]
              exact Nat.succ_le_succ (compD_len e4)
            | err _ _ _ => rw [e4] at h; cases h
            | bad => rw [e4] at h; cases h
          | err _ _ _ => rw [e3] at h; cases h
          | bad => rw [e3] at h; cases h
        | false =>
          simp only [Bool.false_eq_true, if_false] at h
          simp only [List.length_cons]
          exact Nat.le_succ_of_le (compD_len h)
      | err _ _ _ => rw [e2] at h; cases h
      | bad => rw [e2] at h; cases h
    | err _ _ _ => rw [e1] at h; cases h
    | bad => rw [e1] at h; cases h
theorem se_lc {elt tg iter : Expr} {ifs : List Expr} {scope : Scope} {own : List (Str × Nat)} {fi : FI} {g : FG} {c : FT} {el : FE} (hc : X.calm = true) (hN : X.N.Nodup) (hi : SI X W ca tg iter fi) (ok : BlkOk X.N X.env.scope scope own)
    (hg : ∀ (s : Shared) (H : Hp) (C : Addr) (cl : List (Str × Addr)) (fp : List Addr), SGw (X.blk s H scope (compEnvC scope cl C X.env) fp) ca (own.map (·.2)) tg g)
    (ht : ∀ (s : Shared) (H : Hp) (C : Addr) (cl : List (Str × Addr)) (fp : List Addr), STs (X.blk s H scope (compEnvC scope cl C X.env) fp) W0 ca ifs c)
    (he : ∀ (s : Shared) (H : Hp) (C : Addr) (cl : List (Str × Addr)) (fp : List Addr), SE (X.blk s H scope (compEnvC scope cl C X.env) fp) W0 ca elt el) (hs : ∀ x, foldedSetIterable iter X.env x = pure x := by intro _; rfl) :
    SE X W ca (.ListComp elt [⟨tg, iter, ifs, 0⟩] scope pos) (fLc (own.map (·.2)) fi g c el) :=
  se_of (pe_lc hc hN hi.pi ok (fun s H C cl fp => (hg s H C cl fp).pg) (fun s H C cl fp => (ht s H C cl fp).pts) (fun s H C cl fp => (he s H C cl fp).pe) hs) fun _ _ _ h => lc_read h
where
  lc_read {K : PySem.W.Frag} {vs : List Nat} {fi : FI} {g : FG} {c : FT} {el : FE} {σ : L2.St} {H : Hp} {Q : VK} (h : tE K W ca (fLc vs fi g c el) σ H Q) : tLc (tI K W ca fi) (tGw K ca vs g) (tT K W0 ca c) (tE K W0 ca el) vs σ H Q := by
    obtain ⟨A, Z, S, ρ, ok, sl, p⟩ := h
    refine ⟨A, Z, S, ρ, ok, sl, (Post.split p).imp fun B T I it gr q J hJ p0 hp => ?_⟩
    have hz : p0 ∉ Z := fun z => (gr.ok.hid p0 z).1.1 hp
    by_cases hlen : it.items.length < capN
    case neg => rw [if_neg hlen] at q; exact q.elim
    rw [if_pos hlen] at q
    obtain ⟨T1, U, g0, hl, q1⟩ := Post.lock gr.ok hJ.here (Post.split q)
    have sl1 : Sl K B (cut B Z T1 I) ρ σ := (sl.grow gr).mono g0.pre g0.ex
    -- what is left at the start
    have r0 : Rest K p0 Z B T1 (upd I p0 (.lst [])) [] (compD g c el it.items (wipeE ρ vs) T1) (Q (.ref p0)) := by
      cases e : compD g c el it.items (wipeE ρ vs) T1 with
      | bad => rw [e] at q1; exact q1.elim
      | err _ _ _ => rw [e] at q1; exact q1.elim
      | ok ys V =>
        rw [e] at q1
        intro C L ws gp hL rL
        have gz : Grow K Z B T1 I C V L := by
          refine ⟨gp.pre, gp.ok.show_, fun b o eb => cut_hide b o (gp.ex b o (cut_hidden hp b o eb)), fun b hb => ?_, gp.lk⟩
          rw [gp.hid b hb]
          exact upd_some (g0.ok.hid b hb).1.1 hp
        obtain ⟨z1, z2⟩ := q1 C L gz
        refine z2 C L (.refl z1.ok) _ (.lst (z1.ex _ _ (cut_shown gp.ok hL hz)) ?_)
        exact rL.mono (List.prefix_refl _) fun b o eb => z1.ex _ _ (cut_hide b o eb)
    -- a growth behind the start is one from the walk's beginning
    have back : ∀ {A' S' H'}, GrowP K p0 Z B T1 (upd I p0 (.lst [])) A' S' H' → GrowI K Z B T I (p0 :: Z) A' S' H' := fun {A' S' H'} gp =>
      ⟨gp.pre, gp.ok, fun b o eb => gp.ex b o (cut_hidden hp b o (g0.ex b o eb))⟩
    let Inv_ : Nat → Hp → Prop := fun i H' => ∃ A' S' ws acc, GrowP K p0 Z B T1 (upd I p0 (.lst [])) A' S' H' ∧ H' p0 = some (.lst ws) ∧ DRs A' (cut A' (p0 :: Z) S' H') K ws acc ∧ acc.length ≤ i ∧
      Rest K p0 Z A' S' H' acc (compD g c el (it.items.drop i) (wipeE ρ vs) S') (Q (.ref p0))
    refine ⟨fun i m H' => m = it.items.length - i ∧ i ≤ it.items.length ∧ Inv_ i H', ⟨it.items.length, rfl, Nat.zero_le _, B, T1, [], [], ⟨List.prefix_refl _, g0.ok.hide hp (fun q z => by unfold LamX.CodeO at z; cases z), fun _ _ e => e, fun _ _ => rfl, fun _ _ e => e⟩, upd_same, .nil, Nat.zero_le _, r0⟩, ?_⟩
    rintro i m H' ⟨rfl, hi, A', S', ws, acc, gp, hw, rw_, hacc, rest⟩
    have hat : ItAt it S' := fun j e => .inr (gp.lk j _ (hl j e))
    have g01 := back gp
    by_cases hlt : i < it.items.length
    · refine .inr ⟨hJ.go _ _ _ _ i g01 hat hlt, Inv_ (i + 1), fun H'' h => ⟨it.items.length - (i + 1), by omega, rfl, hlt, h⟩, fun x H'' hy => ?_⟩
      obtain ⟨g2, d, ed, rd⟩ := hJ.yld _ _ _ _ i x H'' g01 hat hy hlt
      rw [drop_at ed] at rest
      have gp2 := gp.trans (.of g2)
      have rest2 := rest.later (.of g2)
      have hw2 : H'' p0 = some (.lst ws) := by rw [g2.hid p0 List.mem_cons_self]; exact hw
      have slw : Sl K A' (cut A' (p0 :: Z) S' H'') (wipeE ρ vs) (L2.wipe σ vs) := (sl1.mono gp2.pre fun b o eb => gp2.ex b o (cut_hidden hp b o eb)).wipe vs
      refine ⟨A', p0 :: Z, S', wipeE ρ vs, d, g2.ok, slw, rd, (rest2.split (σ := L2.wipe σ vs)).imp fun C V L ρ1 g3 r3 σ2 sl2 hw3 => ⟨hw3.trans wipe_wipe, ?_⟩⟩
      refine ⟨C, p0 :: Z, V, ρ1, g3.ok, sl2, (r3.split (σ := σ2)).imp fun C2 V2 M b g4 r4 => ?_⟩
      have g23 := g3.trans g4
      cases b with
      | false =>
        refine iteF ⟨C2, V2, ws, acc, gp2.trans (.of g23), by rw [g23.hid p0 List.mem_cons_self]; exact hw2, (rw_.grow g2).grow g23, Nat.le_succ_of_le hacc, r4⟩
      | true =>
        refine iteT ⟨C2, p0 :: Z, V2, ρ1, g4.ok, sl2.grow g4, (r4.split (σ := σ2)).imp fun C3 V3 N y g5 r5 v rv => ?_⟩
        have g25 := g23.trans g5
        have hw5 : N p0 = some (.lst ws) := by rw [g25.hid p0 List.mem_cons_self]; exact hw2
        have rws := (rw_.grow g2).grow g25
        refine ⟨ws, hw5, by rw [rws.length]; exact capN_lt (by omega), C3, V3, ws ++ [v], acc ++ [y], (gp2.trans (.of g25)).trans (.turn g5.ok hz), upd_same, ?_, ?_, ?_⟩
        · rw [cut_turn]
          exact rws.append (.cons rv .nil)
        · simp only [List.length_append, List.length_cons, List.length_nil]
          omega
        · cases e5 : compD g c el (it.items.drop (i + 1)) (wipeE ρ vs) V3 with
          | ok ys V4 =>
            rw [e5] at r5
            intro C6 L6 ws6 gp6 h6 r6
            refine r5 C6 L6 ws6 ((GrowP.turn g5.ok hz).trans gp6) h6 ?_
            rw [List.append_assoc] at r6
            exact r6
          | err _ _ _ => rw [e5] at r5; exact r5.elim
          | bad => rw [e5] at r5; exact r5.elim
    · have ei : i = it.items.length := by omega
      subst ei
      refine .inl ⟨hJ.stop _ _ _ _ g01 hat, ?_⟩
      rw [List.drop_length] at rest
      exact rest A' H' ws ⟨List.prefix_refl _, gp.ok, fun _ _ e => e, fun _ _ => rfl, fun _ _ e => e⟩ hw (by rw [List.append_nil]; exact rw_)
end
end DL
set_option maxHeartbeats 2000000
namespace DL
open PySem PySem.Spec PyProof.Rows L2
structure FnG (P : Program) (w : World) (K : PySem.W.Frag) (mg : Str → Option Value) (base : Heap) (k : Nat) (f : Addr) (fd : FuncData) (ps : List Str) (sp : Sp) : Prop where
  len : ∀ vs H Q E, sp vs H Q E → vs.length = ps.length
  run : ∀ (A : Around) (outer : List PySem.Env) (s : Shared) (H : Hp) (args : Args) (us : List Value) (vs : List V) (Q : VK) (E : XK), Room k A → A.guards = some [] → Env0 P w K mg base A outer s H → BindsTo s fd args (ps.zip us) → Vals vs us → sp vs H Q E →
    codeAny (model P w) A (.call (.ref f) args) (CR (L2.CX P w) outer P w H s Q E) s
section
variable {P : Program} {w : World} {K : PySem.W.Frag} {mg : Str → Option Value} {base : Heap}
theorem FnG.mono {j k : Nat} {f : Addr} {fd : FuncData} {ps : List Str} {sp : Sp} (F : FnG P w K mg base j f fd ps sp) (h : j ≤ k) : FnG P w K mg base k f fd ps sp :=
  ⟨F.len, fun A outer s H args us vs Q E hr => F.run A outer s H args us vs Q E (hr.mono h)⟩
theorem FnG.imp {k : Nat} {f : Addr} {fd : FuncData} {ps : List Str} {sp sp' : Sp} (F : FnG P w K mg base k f fd ps sp) (h : ∀ vs H Q E, sp' vs H Q E → sp vs H Q E) : FnG P w K mg base k f fd ps sp' :=
  ⟨fun vs H Q E q => F.len vs H Q E (h _ _ _ _ q), fun A outer s H args us vs Q E hr hg e0 b r q => F.run A outer s H args us vs Q E hr hg e0 b r (h _ _ _ _ q)⟩
theorem fnG_of {x qual : Str} {st : Stmt} {f : Addr} {fd : FuncData} {N ps : List Str} {k : Nat} {sp : Sp} (F : Fun K x qual st f fd) (S : FnScope N ps (defScope st)) (hlen : ∀ vs H Q E, sp vs H Q E → vs.length = ps.length)
    (body : ∀ (cdv : Value) (A : Around) (outer : List PySem.Env) (s : Shared) (H : Hp) (vs : List V) (Q : VK) (E : XK), Room k (A.deeper (envOfC qual (defScope st) s.heap.objs.size f cdv)) → A.guards = some [] → sp vs H Q E →
      ∃ t, PSs (cxOf (L2.CX P w) P w K mg base N qual (defScope st) f cdv A outer s H E) (defBody st) t ∧ t { nx := fun _ H' => Q .non H', rt := Q } (L2.start N vs) H) : FnG P w K mg base (k + 1) f fd ps sp := by
  obtain ⟨oc, od, kV, doc, pm, an, cdv, ct, osl, rfl, hlk, hcode⟩ := F.ex
  constructor
  · exact hlen
  intro A outer s H args us vs Q E room gu at0 bnd rel q
  have n1 := hlen _ _ _ _ q
  have kin : K.In s.heap := at0.mod.kin.keeps (fun b o e => (at0.bs b o e).1)
  have nol : s.heap.NoLimit := at0.mod.nolimit.keeps (fun b o e => (at0.bs b o e).1)
  refine codeAny_call_function room.depth (kin _ _ hlk) rfl S.co S.gen rfl (PySem.W.codeRec_of kin hcode) (bnd _ _ _ _ ?_)
  refine wpAny_newFunctionEnv_cells S.kind ?_ ?_
  · rintro ⟨n, v⟩ hm
    rcases S.par n (List.of_mem_zip hm).1 with z | z
    · exact Or.inl z
    · exact Or.inr ⟨z, PySem.W.cellsFrom_some _ _ _ (Or.inl z)⟩
  · intro env he s1 inc
    subst he
    refine ⟨nol.keeps inc.toInCall.keep, codeAny_func ?_⟩
    obtain ⟨t, ht, hq⟩ := body cdv A outer s H vs Q E (room.deeper _) gu q
    refine wpAny_mono (ht.run [] s1 (L2.start N vs) H _ (inv_start S room.hd at0 n1 rel inc) hq) ?_ (fun _ _ z => z)
    intro fl s' hs
    cases fl with
    | ret u =>
      obtain ⟨v, σ', H', J, rv, z⟩ := hs
      exact ⟨v, H', J.os, J.bare, J.base, J.hok, rv, z⟩
    | next =>
      obtain ⟨σ', H', J, z⟩ := hs
      exact ⟨V.non, H', J.os, J.bare, J.base, J.hok, rfl, z⟩
    | brk => obtain ⟨_, _, _, z⟩ := hs; exact z.elim
    | cont => obtain ⟨_, _, _, z⟩ := hs; exact z.elim
theorem run_G {X : Cx} {k : Nat} {f : Addr} {fd : FuncData} {ps : List Str} {sp : Sp} {W : WX} {pins : List (Addr × Obj)} {σ : L2.St} {H : Hp} {s : Shared} {Q : VK} {us : List Value} {vs : List V} (F : FnG X.prog X.w X.K X.mg X.base k f fd ps sp) (hr : Room k X.A) (hgu : X.A.guards = some [])
    (hb : L2.Binds X.K fd ps []) (tk : Takes X W) (I : Inv X pins σ H s) (r : Vals vs us) (h : sp vs H Q (fun c d H' => W c d σ H')) : wpAny (model X.prog X.w) X.A (call (.ref f) us) (EP X pins σ Q) X.xe s := by
  have n1 : us.length = ps.length := r.length.symm.trans (F.len _ _ _ _ h)
  have bd := hb s us I.kIn (by simpa using n1)
  simp only [List.append_nil] at bd
  refine wpAny_call (codeAny_mono (F.run X.A X.stack s H ⟨us, []⟩ us vs Q _ hr hgu I.env0 bd r h) ?_)
  intro fl s' z
  match fl, z with
  | .error e, z => exact tk e s' (XE.of_call I (fun _ _ _ h => h) z)
  | .ok (.ret u), z => exact I.after z
  | .ok .next, z => exact z.elim
  | .ok .brk, z => exact z.elim
  | .ok .cont, z => exact z.elim
end
def spD (K : PySem.W.Frag) (ca : Str → Addr) (n : Nat) (g : List D → Sto → Res D) : Sp := fun vs H Q E => ∃ A Z S ds, SOk K A Z S H ∧ DRs A (cut A Z S H) K vs ds ∧ ds.length = n ∧
  Post K (fun c d _ H' => E c d H') ca A Z S H [] (g ds S) fun B T I d => ∀ v, DR B (cut B Z T I) K v d → Q v I
def LkF (K : PySem.W.Frag) (f : Addr) (fd : FuncData) : Prop := ∃ (oc : Value) (od : Option Addr) (osl : Array (Option Value)), K.lookup f = some ⟨oc, od, .func fd, osl⟩
theorem _root_.PySem.L2Fun_lk {K : PySem.W.Frag} {x qual : Str} {st : Stmt} {f : Addr} {fd : FuncData} (F : Fun K x qual st f fd) : LkF K f fd := let ⟨oc, od, _, _, _, _, _, _, osl, _, h, _⟩ := F.ex; ⟨oc, od, osl, h⟩
structure Def (P : Program) (w : World) (K : PySem.W.Frag) (mg : Str → Option Value) (base : Heap) (ca : Str → Addr) (x : Str) (ps : List Str) (k : Nat) (g : List D → Sto → Res D) : Prop where
  ex : ∃ f fd, mg x = some (.ref f) ∧ PySem.W.keepIn K (.ref f) = true ∧ L2.Binds K fd ps [] ∧ FnG P w K mg base k f fd ps (spD K ca ps.length g) ∧ LkF K f fd
section
variable {P : Program} {w : World} {K : PySem.W.Frag} {mg : Str → Option Value} {base : Heap} {ca : Str → Addr} {x : Str} {ps : List Str}
theorem Def.mono {j k : Nat} {g : List D → Sto → Res D} (d : Def P w K mg base ca x ps j g) (h : j ≤ k) : Def P w K mg base ca x ps k g :=
  let ⟨f, fd, a, b, c, F, lk⟩ := d.ex; ⟨f, fd, a, b, c, F.mono h, lk⟩
theorem Def.imp {k : Nat} {g g' : List D → Sto → Res D} (d : Def P w K mg base ca x ps k g) (h : ∀ ds S, g' ds S ≠ .bad → g ds S = g' ds S) : Def P w K mg base ca x ps k g' :=
  let ⟨f, fd, a, b, c, F, lk⟩ := d.ex
  ⟨f, fd, a, b, c, F.imp fun vs H Q E ⟨A, Z, S, ds, h1, h2, h3, h4⟩ => ⟨A, Z, S, ds, h1, h2, h3, by
    have : g' ds S ≠ .bad := fun e => by rw [e] at h4; exact h4
    rw [h ds S this]
    exact h4⟩, lk⟩
def bodyD (N : List Str) (n : Nat) (f : FS) (ds : List D) (S : Sto) : Res D := (f (ds.map some ++ List.replicate (N.length - n) none) S).bind fun r S1 => match r.1 with
  | .rt d => .ok d S1
  | .nx => .ok .non S1
  | _ => .bad
theorem start_sl {K : PySem.W.Frag} {A : List Addr} {G : Hp} {N : List Str} {vs : List V} {ds : List D} (r : DRs A G K vs ds) : Sl K A G (ds.map some ++ List.replicate (N.length - ds.length) none) (L2.start N vs) := by
  unfold L2.start
  have hl := r.length
  refine ⟨by simp [hl], fun i d e => ?_⟩
  by_cases hi : i < ds.length
  · rw [List.getElem?_append_left (by simpa using hi), List.getElem?_map] at e
    cases q : ds[i]? with
    | none => rw [q] at e; cases e
    | some d' =>
      rw [q] at e
      have : d' = d := by simpa using e
      subst this
      obtain ⟨v, h1, h2⟩ := r.get q
      refine ⟨v, ?_, h2⟩
      rw [List.getElem?_append_left (by simp [hl]; exact hi), List.getElem?_map, h1]
      rfl
  · rw [List.getElem?_append_right (by simpa using Nat.le_of_not_lt hi)] at e
    have := List.mem_of_getElem? e
    rw [List.mem_replicate] at this
    exact absurd this.2 (by simp)
abbrev WD (E : XK) : WX := fun c d _ H' => E c d H'
theorem fnG_D {qual : Str} {st : Stmt} {f : Addr} {fd : FuncData} {N : List Str} {k : Nat} {fs : FS} {g : List D → Sto → Res D} (F : Fun K x qual st f fd) (S : FnScope N ps (defScope st))
    (body : ∀ (cdv : Value) (A : Around) (outer : List PySem.Env) (s : Shared) (H : Hp) (E : XK), Room k (A.deeper (envOfC qual (defScope st) s.heap.objs.size f cdv)) → A.guards = some [] →
      Takes (cxOf (L2.CX P w) P w K mg base N qual (defScope st) f cdv A outer s H E) (WD E) →
      PassesOwn (model P w) (A.deeper (envOfC qual (defScope st) s.heap.objs.size f cdv)) (envOfC qual (defScope st) s.heap.objs.size f cdv) (cxOf (L2.CX P w) P w K mg base N qual (defScope st) f cdv A outer s H E).xe →
      SSs (cxOf (L2.CX P w) P w K mg base N qual (defScope st) f cdv A outer s H E) (WD E) ca (defBody st) fs)
    (hg : ∀ ds T, ds.length = ps.length → g ds T ≠ .bad → bodyD N ps.length fs ds T = g ds T) : FnG P w K mg base (k + 1) f fd ps (spD K ca ps.length g) := by
  refine fnG_of F S (fun vs H Q E ⟨A, Z, T, ds, h1, h2, h3, h4⟩ => h2.length.trans h3) ?_
  rintro cdv A outer s H vs Q E hr hgu ⟨B, Z, T, ds, ok, r, hl, po⟩
  refine ⟨_, (body cdv A outer s H E hr hgu (takes_of rfl rfl rfl rfl) (passes_of rfl)).pss, B, Z, T, ds.map some ++ List.replicate (N.length - ps.length) none, ok, by rw [← hl]; exact start_sl r, ?_⟩
  have e1 : g ds T ≠ .bad := fun e => by rw [e] at po; exact po
  rw [← hg ds T hl e1] at po
  unfold bodyD at po
  refine (Post.split (po.sig (L2.start N vs))).imp fun C U J r gr q => ?_
  obtain ⟨fl, ρ'⟩ := r
  cases fl with
  | nx => exact fun σ' sl' => q C J (.refl gr.ok) _ .non
  | rt d => exact fun v rv => q C J (.refl gr.ok) v rv
  | bk => exact q.elim
  | ct => exact q.elim
theorem def_of {qual : Str} {st : Stmt} {f : Addr} {fd : FuncData} {N : List Str} {k : Nat} {fs : FS} {g : List D → Sto → Res D} (hm : mg x = some (.ref f)) (F : Fun K x qual st f fd) (S : FnScope N ps (defScope st)) (hb : L2.Binds K fd ps [])
    (body : ∀ (cdv : Value) (A : Around) (outer : List PySem.Env) (s : Shared) (H : Hp) (E : XK), Room k (A.deeper (envOfC qual (defScope st) s.heap.objs.size f cdv)) → A.guards = some [] →
      Takes (cxOf (L2.CX P w) P w K mg base N qual (defScope st) f cdv A outer s H E) (WD E) →
      PassesOwn (model P w) (A.deeper (envOfC qual (defScope st) s.heap.objs.size f cdv)) (envOfC qual (defScope st) s.heap.objs.size f cdv) (cxOf (L2.CX P w) P w K mg base N qual (defScope st) f cdv A outer s H E).xe →
      SSs (cxOf (L2.CX P w) P w K mg base N qual (defScope st) f cdv A outer s H E) (WD E) ca (defBody st) fs)
    (hg : ∀ ds T, ds.length = ps.length → g ds T ≠ .bad → bodyD N ps.length fs ds T = g ds T) : Def P w K mg base ca x ps (k + 1) g := ⟨f, fd, hm, F.kp, hb, fnG_D F S body hg, PySem.L2Fun_lk F⟩
end
section
variable {X : Cx} {W : WX} {ca : Str → Addr} {e a b c : Expr} {es : List Expr} {pos : Pos}
def fCall (n : Nat) (g : List D → Sto → Res D) (f : FA) : FE := fun ρ S => (f ρ S).bind fun ds S1 => if ds.length = n then g ds S1 else .bad
theorem se_call {x : Str} {p : Pos} {ps : List Str} {k : Nat} {g : List D → Sto → Res D} {f : FA} (d : Def X.prog X.w X.K X.mg X.base ca x ps k g) (hr : Room k X.A) (hgu : X.A.guards = some []) (tk : Takes X W) (hg : Gl X x) (ha : SA X W ca (e :: es) f)
    (hdb : (x == ("__debug__" : Str)) = false := by decide) (he : starEach (e :: es) X.env = (false, eval e X.env) :: starEach es X.env := by rfl) (hpl : (backTo pos (starEach es X.env)).any (·.1) = false := by rfl) :
    SE X W ca (.Call (.Name x p) (e :: es) [] pos) (fCall ps.length g f) := by
  obtain ⟨fa, fd, hm, hk, hb, F, _⟩ := d.ex
  refine ⟨⟨fun pins s σ H Q I h => ?_⟩⟩
  obtain ⟨A, Z, S, ρ, ok, sl, po⟩ := h
  refine wpAny_Call_Name_kw (ld_glob I hg hm ?_ hdb)
  refine PySem.W.callWith_K (h₀ := X.base) I.ok.mod.kin hk (thn (ha.pa.run pos pins s σ H (fun vs I => ∃ B Z T ds, SOk X.K B Z T I ∧ DRs B (cut B Z T I) X.K vs ds ∧ ds.length = ps.length ∧ Post X.K W ca B Z T I σ (g ds T) fun C U J d => ∀ v, DR C (cut C Z U J) X.K v d → Q v J) I ?_) fun us s1 ⟨vs, H1, I1, r, q⟩ => ⟨I1.kIn, ?_⟩) he hpl
  · refine ⟨A, Z, S, ρ, ok, sl, (Post.split po).imp fun B T I ds gr q vs rv => ?_⟩
    by_cases hl : ds.length = ps.length
    · rw [if_pos hl] at q
      exact ⟨B, Z, T, ds, gr.ok, rv, hl, q⟩
    · rw [if_neg hl] at q
      exact q.elim
  · obtain ⟨B, Z, T, ds, ok1, r1, hl, q1⟩ := q
    refine run_G F hr hgu hb tk I1 r ⟨B, Z, T, ds, ok1, r1, hl, ?_⟩
    cases e1 : g ds T with
    | ok d U => rw [e1] at q1; exact q1
    | err cl d U =>
      rw [e1] at q1
      exact fun B' I' dx v _ g h1 h2 => q1 B' I' dx v σ g h1 h2
    | bad => rw [e1] at q1; exact q1.elim
def fCall0 (g : List D → Sto → Res D) : FE := fun _ S => g [] S
def fChain (r r' : Op2) (fa fb fc : FE) : FE := fun ρ S => (fa ρ S).bind fun x S1 => (fb ρ S1).bind fun y S2 => (asB (okO (r x y S2) S2)).bind fun k S3 => if k = true then (fc ρ S3).bind fun z S4 => okO (r' y z S4) S4 else .ok (.bl false) S3
theorem tE_chain {K : PySem.W.Frag} {r r' : Op2} {fa fb fc : FE} {σ : L2.St} {H : Hp} {Q : VK} (h : tE K W ca (fChain r r' fa fb fc) σ H Q) : tChain (rD K r) (rD K r') (tE K W ca fa) (tE K W ca fb) (tE K W ca fc) σ H Q := by
  obtain ⟨A, Z, S, ρ, ok, sl, p⟩ := h
  refine ⟨A, Z, S, ρ, ok, sl, (Post.split p).imp fun B T I x g q v rv => ?_⟩
  refine ⟨B, Z, T, ρ, g.ok, sl.grow g, (Post.split q).imp fun C U J y g2 q2 w rw_ => ?_⟩
  cases e : r x y U with
  | none => rw [e] at q2; exact q2.elim
  | some d =>
    rw [e] at q2
    simp only [okO_some] at q2
    refine ⟨C, Z, U, x, y, d, g2.ok, rv.grow g2, rw_, e, fun C2 J2 v2 g3 rd => ?_⟩
    cases d with
    | bl k =>
      cases rd
      refine ⟨k, rfl, ?_⟩
      cases k with
      | false => exact iteF (q2 C2 J2 g3 _ (.bl _))
      | true =>
        simp only [asB_ok, Res.bind_ok, if_true] at q2
        have q3 := Post.later q2 g3
        refine iteT ⟨C2, Z, U, ρ, g3.ok, ((sl.grow g).grow g2).grow g3, (Post.split q3).imp fun C3 U3 J3 z g4 q4 v4 r4 => ?_⟩
        cases e2 : r' y z U3 with
        | none => rw [e2] at q4; exact q4.elim
        | some d2 =>
          rw [e2] at q4
          exact ⟨C3, Z, U3, y, z, d2, g4.ok, (rw_.grow g3).grow g4, r4, e2, fun B I v g r => q4 B I g v r⟩
    | _ => exact q2.elim
theorem se_chain {op op' : CmpOp} {r r' : Op2} {fa fb fc : FE} (ho : OpR X (compareOp op) (rD X.K r)) (ho' : OpR X (compareOp op') (rD X.K r')) (ha : SE X W ca a fa) (hb : SE X W ca b fb) (hc : SE X W ca c fc)
    (hm : lastMarks [op, op'] [b, c] = false := by with_unfolding_all rfl) : SE X W ca (.Compare a [op, op'] [b, c] pos) (fChain r r' fa fb fc) := se_of (pe_chain ho ho' ha.pe hb.pe hc.pe hm) fun _ _ _ h => tE_chain h
theorem st_chain {op op' : CmpOp} {r r' : Op2} {fa fb fc : FE} (ho : OpR X (compareOp op) (rD X.K r)) (ho' : OpR X (compareOp op') (rD X.K r')) (ha : SE X W ca a fa) (hb : SE X W ca b fb) (hc : SE X W ca c fc)
    (hm : lastMarks [op, op'] [b, c] = false := by with_unfolding_all rfl) : ST_ X W ca (.Compare a [op, op'] [b, c] pos) (fB (fChain r r' fa fb fc)) :=
  ⟨pt_imp (pt_chain ho ho' ha.pe hb.pe hc.pe hm) fun σ H Q h => tE_chain (Q := fun x H' => ∃ k, x = .bl k ∧ Q k H') (tT_B h)⟩
end
end DL
set_option maxHeartbeats 2000000
namespace DL
open PySem PySem.Spec PyProof.Rows L2
section
variable {X : Cx} {W : WX} {ca : Str → Addr} {e a b c : Expr} {es : List Expr} {pos : Pos}
def fBits (f : FE) : FE := fun ρ S => (f ρ S).bind fun d S1 => match d with
  | .int i => .ok (.int (Builtin.Int.intBits i : Nat)) S1
  | _ => .bad
theorem se_bits {o : Expr} {apos : Pos} {f : FE} (ho : SE X W ca o f) (hbase : attributeBase o "bit_length" X.env (eval o X.env) = eval o X.env := by rfl) (hline : (apos.endLine == pos.line) = true := by rfl) : SE X W ca (.Call (.Attribute o "bit_length" apos) [] [] pos) (fBits f) := by
  refine se_of (pe_bits ho.pe hbase hline) fun σ H Q ⟨A, Z, S, ρ, ok, sl, p⟩ => ?_
  refine ⟨A, Z, S, ρ, ok, sl, (Post.split p).imp fun B T I d gr q v rv => ?_⟩
  cases d with
  | int i =>
    cases rv
    exact ⟨i, rfl, q B I (.refl gr.ok) _ (.int _)⟩
  | _ => exact q.elim
theorem drs_ints {A : List Addr} {G : Hp} {K : PySem.W.Frag} : ∀ (ns : List Int), DRs A G K (ns.map V.int) (ns.map D.int)
  | [] => .nil
  | n :: ns => .cons (.int n) (drs_ints ns)
def maxT : OpN := fun ds S => match ds with
  | [.tup xs] => match intsOf xs with
    | some (n :: ns) => some (.int (ns.foldl max n))
    | _ => none
  | ds => maxD ds S
theorem depth_ints0 : ∀ ns : List Int, PyData.depthAll (ns.map PyData.int) = 0
  | [] => rfl
  | n :: ns => by
    simp only [List.map_cons, PyData.depthAll, PyData.depth, depth_ints0 ns]
    rfl
theorem reads_ints {h : Heap} : ∀ {us : List Value} {ns : List Int}, Vals (ns.map V.int) us → ∃ as, ReadsAll h us (ns.map PyData.int) as
  | _, [], r => by cases r; exact ⟨_, .nil⟩
  | _, n :: ns, r => by
    cases r with
    | cons r1 r2 =>
      obtain ⟨t, rfl⟩ := r1
      obtain ⟨as, q⟩ := reads_ints r2
      exact ⟨_, .cons (.int n t) q⟩
theorem cd_maxT (hc : X.calm = true) (hu : X.A.units + 1 < cLine) : CallR X (.builtin "max") (rDs X.K maxT) := by
  intro pins s σ H vs us Q I r ⟨A, Z, S, ds, d, ok, h, e, q⟩
  unfold maxT at e
  split at e
  · rename_i xs
    split at e
    · rename_i n ns e1
      cases e
      cases h with
      | cons h1 h2 =>
        cases h2
        obtain ⟨a, ws, rfl, k1, k2⟩ := tup_at h1
        have ew := intsOf_map e1 k2
        subst ew
        rw [Vals.ref1 r]
        obtain ⟨its, rv, ht, _⟩ := I.tuple k1
        obtain ⟨as, ra⟩ := reads_ints (h := s.heap) rv
        refine PySem.W.max_tuple_data (A := X.A) (vs := its.toArray) (x := .int n) (xs := ns.map PyData.int) (I.ok.hd hc) ht (by simpa using ra) ⟨?_, ?_⟩ ?_ ?_
        · intro x hx y hy
          simp only [List.mem_cons, List.mem_map] at hx hy
          obtain ⟨i, rfl⟩ : ∃ i, x = .int i := by rcases hx with rfl | ⟨i, _, rfl⟩ <;> exact ⟨_, rfl⟩
          obtain ⟨j, rfl⟩ : ∃ j, y = .int j := by rcases hy with rfl | ⟨j, _, rfl⟩ <;> exact ⟨_, rfl⟩
          rfl
        · intro x hx e
          subst e
          simp at hx
        · have := depth_ints0 (n :: ns)
          simp only [List.map_cons] at this
          rw [this]
          exact hu
        · intro i v h' tk bs hi hr hk
          rw [PySem.W.maxD_ints] at hr
          cases hr with
          | int _ t => exact ⟨.int _, H, I.kept hk, ⟨_, rfl⟩, q A H _ (.refl ok) (.int _)⟩
    · cases e
  · exact cd_max hc pins s σ H vs us Q I r ⟨A, Z, S, ds, d, ok, h, e, q⟩
def insI (x : Int) : List Int → List Int
  | [] => [x]
  | y :: r => if x ≤ y then x :: y :: r else y :: insI x r
def sortI : List Int → List Int
  | [] => []
  | x :: r => insI x (sortI r)
theorem insI_perm (x : Int) : ∀ l, (insI x l).Perm (x :: l)
  | [] => .refl _
  | y :: r => by
    unfold insI
    split
    · exact .refl _
    · exact ((insI_perm x r).cons y).trans (.swap _ _ _)
theorem sortI_perm : ∀ l, (sortI l).Perm l
  | [] => .refl _
  | x :: r => (insI_perm x _).trans ((sortI_perm r).cons x)
theorem insI_ord (x : Int) : ∀ {l : List Int}, l.Pairwise (· ≤ ·) → (insI x l).Pairwise (· ≤ ·)
  | [], _ => List.pairwise_singleton _ _
  | y :: r, h => by
    unfold insI
    rw [List.pairwise_cons] at h
    split
    · rename_i c
      refine List.pairwise_cons.mpr ⟨fun z hz => ?_, List.pairwise_cons.mpr h⟩
      rcases List.mem_cons.mp hz with rfl | hz
      · exact c
      · exact Int.le_trans c (h.1 z hz)
    · rename_i c
      refine List.pairwise_cons.mpr ⟨fun z hz => ?_, insI_ord x h.2⟩
      rcases List.mem_cons.mp ((insI_perm x r).mem_iff.mp hz) with rfl | hz
      · omega
      · exact h.1 z hz
theorem sortI_ord : ∀ l, (sortI l).Pairwise (· ≤ ·)
  | [] => List.Pairwise.nil
  | x :: r => insI_ord x (sortI_ord r)
theorem ord_one {l m : List Int} (p : l.Perm m) (h1 : l.Pairwise (· ≤ ·)) (h2 : m.Pairwise (· ≤ ·)) : l = m := p.eq_of_pairwise (fun a b _ _ h1 h2 => Int.le_antisymm h1 h2) h1 h2
end
end DL
set_option maxHeartbeats 2000000
namespace DL
open PySem PySem.Spec PyProof.Rows L2
def Keyed2 (h : Heap) (v : Value) (k : Int × Int) (p : PyData) : Prop := ∃ (a : Addr) (o : Obj) (b : Addr) (r : Value) (n : Nat) (t u : Tok) (as : List Addr), v = .ref a ∧ h.get? a = some o ∧ o.cls = .type "tuple" ∧ o.data = .seq #[.ref b, r] n ∧
  IsTup h b #[.int k.1 t, .int k.2 u] ∧ Reads h r p as ∧ SeqAt.shaped p = true
theorem Keyed2.keeps {h h' : Heap} {v : Value} {k : Int × Int} {p : PyData} (x : Keyed2 h v k p) (e : ∀ b o, h.get? b = some o → h'.get? b = some o) : Keyed2 h' v k p := by
  obtain ⟨a, o, b, r, n, t, u, as, h1, h2, h3, h4, ⟨ob, k1, k2, k3⟩, h6, h7⟩ := x
  exact ⟨a, o, b, r, n, t, u, as, h1, e _ _ h2, h3, h4, ⟨ob, e _ _ k1, k2, k3⟩, PyProof.Rows.Reads.keeps e h6, h7⟩
section
variable {prog : Program} {w : World} {A : Around} {s : Shared}
theorem eqAt_scores {a b : Addr} {k m : Int × Int} {t u t' u' : Tok} (h1 : IsTup s.heap a #[.int k.1 t, .int k.2 u]) (h2 : IsTup s.heap b #[.int m.1 t', .int m.2 u']) (hu : A.units + 64 < cLine) :
    SeqAt.EqAt A s (.ref a) (.ref b) (decide (k = m)) := by
  obtain ⟨oa, e1, e2, na, e3⟩ := h1
  obtain ⟨ob, f1, f2, nb, f3⟩ := h2
  have r1 : Reads s.heap (.ref a) (.tuple [.int k.1, .int k.2]) _ := .tuple e1 e2 e3 (.cons (.int k.1 t) (.cons (.int k.2 u) .nil))
  have r2 : Reads s.heap (.ref b) (.tuple [.int m.1, .int m.2]) _ := .tuple f1 f2 f3 (.cons (.int m.1 t') (.cons (.int m.2 u') .nil))
  have q := SeqAt.eqAt_reads _ _ A s _ _ _ _ r1 r2 (by rfl) (by rfl) (by
    have d : (PyData.tuple [.int k.1, .int k.2]).depth ≤ 64 := by simp [PyData.depth, PyData.depthAll]
    have := Nat.min_le_left (PyData.tuple [.int k.1, .int k.2]).depth (PyData.tuple [.int m.1, .int m.2]).depth
    omega)
  have z : PyData.eqv (.tuple [.int k.1, .int k.2]) (.tuple [.int m.1, .int m.2]) = decide (k = m) := by
    obtain ⟨x, y⟩ := k
    obtain ⟨x', y'⟩ := m
    simp only [PyData.eqv, PyData.eqvAll, Bool.and_true]
    by_cases e1 : x = x' <;> by_cases e2 : y = y' <;> simp [e1, e2]
  rw [← z]
  exact q
theorem lexLt_two (k m : Int × Int) (h : k ≠ m) : HT.lexLt [k.1, k.2] [m.1, m.2] = SrtO.lexB k m := by
  obtain ⟨x, y⟩ := k
  obtain ⟨x', y'⟩ := m
  unfold SrtO.lexB
  simp only [HT.lexLt]
  by_cases e1 : x = x'
  · subst e1
    have e2 : ¬ y = y' := fun z => h (by rw [z])
    simp [e2]
  · simp [e1]
theorem keyed_cmp {v1 v2 : Value} {k m : Int × Int} {p r : PyData} (h1 : Keyed2 s.heap v1 k p) (h2 : Keyed2 s.heap v2 m r) (hu : A.units + 64 < cLine) (hne : v1 = v2 ∨ k ≠ m) :
    wpAny (model prog w) A (keyLt' (tuples' false) v1 v2) (fun b s' => s' = s ∧ b = (if v1 = v2 then false else SrtO.lexB k m)) (fun _ _ => False) s := by
  obtain ⟨a, o, b, z, n, t, u, as, e1, e2, e3, e4, e5, e6, e7⟩ := h1
  obtain ⟨a', o', b', z', n', t', u', as', f1, f2, f3, f4, f5, f6, f7⟩ := h2
  subst e1 f1
  refine PySem.W.kat_lt e2 e4 f2 f4 ?_
  show PySem.W.KatLex prog w A false (decide (2 < 2)) _ [(.ref b, .ref b'), (z, z')] 0 s
  by_cases hv : (Value.ref a) = .ref a'
  · cases hv
    rw [e2] at f2
    cases f2
    rw [e4] at f4
    cases f4
    refine PySem.W.kat_cons (eqAt_scores e5 f5 hu prog w _ _ ?_)
    have km : k = m := by
      obtain ⟨oa, g1, g2, na, g3⟩ := e5
      obtain ⟨ob, i1, i2, nb, i3⟩ := f5
      rw [g1] at i1
      cases i1
      rw [g3] at i3
      simp only [Data.seq.injEq, List.cons.injEq, Array.mk.injEq, Value.int.injEq, and_true] at i3
      exact Prod.ext i3.1.1.1 i3.1.2.1
    rw [decide_eq_true km]
    refine PySem.W.kat_yes (PySem.W.kat_cons (SeqAt.eqAt_reads _ _ A s _ _ _ _ e6 e6 (SeqAt.canLay_of_shaped e7) (SeqAt.canLay_of_shaped e7) (SeqAt.room_of_shaped e7 hu) prog w _ _ ?_))
    rw [SeqAt.eqv_refl p (SeqAt.canLay_of_shaped e7)]
    refine PySem.W.kat_yes (PySem.W.kat_nil ⟨rfl, ?_⟩)
    rw [if_pos rfl]
    rfl
  · have km : k ≠ m := hne.resolve_left hv
    refine PySem.W.kat_cons (eqAt_scores e5 f5 hu prog w _ _ ?_)
    rw [decide_eq_false km]
    refine PySem.W.kat_no (PySem.W.kat_one _ _ (HT.lt_tupInts (ns := [k.1, k.2]) (ms := [m.1, m.2]) e5 f5 (.cons _ _ (.cons _ _ .nil)) (.cons _ _ (.cons _ _ .nil)) (by omega) ?_))
    rw [lexLt_two k m km, if_neg hv]
    exact ⟨rfl, rfl⟩
theorem keyed_uniq {v : Value} {k m : Int × Int} {p r : PyData} {h : Heap} (h1 : Keyed2 h v k p) (h2 : Keyed2 h v m r) : k = m := by
  obtain ⟨a, o, b, z, n, t, u, as, e1, e2, e3, e4, e5, e6, e7⟩ := h1
  obtain ⟨a', o', b', z', n', t', u', as', f1, f2, f3, f4, f5, f6, f7⟩ := h2
  subst e1
  cases f1
  rw [e2] at f2
  cases f2
  rw [e4] at f4
  cases f4
  obtain ⟨oa, g1, g2, na, g3⟩ := e5
  obtain ⟨ob, i1, i2, nb, i3⟩ := f5
  rw [g1] at i1
  cases i1
  rw [g3] at i3
  simp only [Data.seq.injEq, List.cons.injEq, Array.mk.injEq, Value.int.injEq, and_true] at i3
  exact Prod.ext i3.1.1.1 i3.1.2.1
open Classical in
noncomputable def kfv (h : Heap) (v : Value) : Int × Int := if q : ∃ m p, Keyed2 h v m p then q.choose else (0, 0)
theorem kfv_at {h : Heap} {v : Value} {m : Int × Int} {p : PyData} (q : Keyed2 h v m p) : kfv h v = m := by
  unfold kfv
  rw [dif_pos ⟨m, p, q⟩]
  have e : ∃ m p, Keyed2 h v m p := ⟨m, p, q⟩
  obtain ⟨r, hr⟩ := e.choose_spec
  exact keyed_uniq hr q
theorem firsts_keyed {h : Heap} {k : Value → Int × Int} : ∀ {vs : List Value}, (∀ v ∈ vs, ∃ p, Keyed2 h v (k v) p) → ∃ fs, PySem.W.KatTups h vs fs ∧ fs.length = vs.length ∧ ∀ f ∈ fs, ∃ b o, f = .ref b ∧ h.get? b = some o ∧ o.cls = .type "tuple"
  | [], _ => ⟨[], PySem.W.KatTups.nil, rfl, fun _ m => by cases m⟩
  | v :: vs, q => by
    obtain ⟨fs, h1, h2, h3⟩ := firsts_keyed fun u m => q u (List.mem_cons_of_mem _ m)
    obtain ⟨p, a, o, b, r, n, t, u, as, rfl, e2, e3, e4, ⟨ob, k1, k2, k3⟩, e6, e7⟩ := q v List.mem_cons_self
    refine ⟨.ref b :: fs, PySem.W.KatTups.cons e2 e3 e4 (by rfl) h1, by rw [List.length_cons, List.length_cons, h2], fun f m => ?_⟩
    rcases List.mem_cons.mp m with rfl | m
    · exact ⟨b, ob, rfl, k1, k2⟩
    · exact h3 f m
theorem keyed_sortable {a : Addr} {vs : List Value} {k : Value → Int × Int} {h0 : Heap} (hn : 0 < vs.length) (hp : ∀ v ∈ vs, ∃ p, Keyed2 h0 v (k v) p) (hu : A.units + 64 < cLine) (hd : ∀ v ∈ vs, ∀ u ∈ vs, v = u ∨ k v ≠ k u)
    (kk : ∀ b o, h0.get? b = some o → b ≠ a ∧ s.heap.get? b = some o) : SrtO.SortableO prog w A s a vs fun v u => SrtO.lexB (k v) (k u) := by
  intro h' keep
  have kp : ∀ b o, h0.get? b = some o → h'.get? b = some o := fun b o e => keep b o (kk b o e).1 (kk b o e).2
  have hp' : ∀ v ∈ vs, ∃ p, Keyed2 h' v (k v) p := fun v m => let ⟨p, q⟩ := hp v m; ⟨p, q.keeps kp⟩
  obtain ⟨fs, h1, h2, h3⟩ := firsts_keyed hp'
  refine ⟨tuples' false, fun Q E hq => ?_, ?_⟩
  · refine PySem.W.kat_kind (T := .type "tuple") h1 (by omega) (fun f hm => ?_) (by rfl) ?_
    · obtain ⟨b, o, rfl, e1, e2⟩ := h3 f hm
      exact e2 ▸ (PySem.W.Looks.ld e1).andThen .now
    · have e : (Value.type "tuple" != Value.type "tuple") = false := by first | decide +kernel | rfl | decide
      rw [e]
      exact hq
  · intro p q hm hm'
    obtain ⟨d1, q1⟩ := hp' _ hm
    obtain ⟨d2, q2⟩ := hp' _ hm'
    refine wpAny_mono (keyed_cmp (s := { s with heap := h' }) q1 q2 hu (hd _ hm _ hm')) ?_ fun _ _ e => e
    rintro b s' ⟨rfl, rfl⟩
    refine ⟨rfl, ?_⟩
    show _ = SrtO.lexB (k p.1) (k q.1)
    split
    · rename_i e
      rw [e]
      exact ((swo_lexK k).refl q.1).symm
    · rfl
where
  swo_lexK (k : Value → Int × Int) : SrtO.Swo fun v u => SrtO.lexB (k v) (k u) := SrtO.swo_lex k
end
def insBy {α : Type} (k : α → Int × Int) (x : α) : List α → List α
  | [] => [x]
  | y :: r => if SrtO.lexB (k y) (k x) then y :: insBy k x r else x :: y :: r
def sortBy {α : Type} (k : α → Int × Int) : List α → List α
  | [] => []
  | x :: r => insBy k x (sortBy k r)
theorem insBy_perm {α : Type} (k : α → Int × Int) (x : α) : ∀ l, (insBy k x l).Perm (x :: l)
  | [] => .refl _
  | y :: r => by
    unfold insBy
    split
    · exact ((insBy_perm k x r).cons y).trans (.swap _ _ _)
    · exact .refl _
theorem sortBy_perm {α : Type} (k : α → Int × Int) : ∀ l, (sortBy k l).Perm l
  | [] => .refl _
  | x :: r => (insBy_perm k x _).trans ((sortBy_perm k r).cons x)
theorem insBy_ord {α : Type} (k : α → Int × Int) (x : α) : ∀ {l : List α}, l.Pairwise (fun a b => SrtO.lexB (k b) (k a) = false) → (insBy k x l).Pairwise (fun a b => SrtO.lexB (k b) (k a) = false)
  | [], _ => List.pairwise_singleton _ _
  | y :: r, h => by
    have h' := List.pairwise_cons.mp h
    unfold insBy
    split
    · rename_i c
      refine List.pairwise_cons.mpr ⟨fun z hz => ?_, insBy_ord k x h'.2⟩
      rcases List.mem_cons.mp ((insBy_perm k x r).mem_iff.mp hz) with rfl | hz
      · have a := SrtO.lexB_iff.mp c
        refine SrtO.lexB_no.mpr ?_
        omega
      · exact h'.1 z hz
    · rename_i c
      have c := SrtO.lexB_no.mp (Bool.not_eq_true _ ▸ c)
      refine List.pairwise_cons.mpr ⟨fun z hz => ?_, h⟩
      rcases List.mem_cons.mp hz with rfl | hz
      · exact SrtO.lexB_no.mpr c
      · have b := SrtO.lexB_no.mp (h'.1 z hz)
        refine SrtO.lexB_no.mpr ?_
        omega
theorem sortBy_ord {α : Type} (k : α → Int × Int) : ∀ l : List α, (sortBy k l).Pairwise (fun a b => SrtO.lexB (k b) (k a) = false)
  | [] => List.Pairwise.nil
  | x :: r => insBy_ord k x (sortBy_ord k r)
theorem insBy_map {α β : Type} (f : α → β) (k : β → Int × Int) (x : α) : ∀ l, (insBy (fun a => k (f a)) x l).map f = insBy k (f x) (l.map f)
  | [] => rfl
  | y :: r => by
    unfold insBy
    rw [List.map_cons]
    simp only
    split
    · rw [List.map_cons, insBy_map f k x r]
    · rfl
theorem sortBy_map {α β : Type} (f : α → β) (k : β → Int × Int) : ∀ l, (sortBy (fun a => k (f a)) l).map f = sortBy k (l.map f)
  | [] => rfl
  | x :: r => by
    show (insBy _ x (sortBy _ r)).map f = insBy k (f x) (sortBy k (r.map f))
    rw [insBy_map, sortBy_map f k r]
def keyD : D → Int × Int
  | .tup [.tup [.int a, .int b], _] => (a, b)
  | _ => (0, 0)
def keyedOk (S : Sto) : D → Bool
  | .tup [.tup [.int _, .int _], y] => match toP S y with
    | some p => SeqAt.shaped p
    | none => false
  | _ => false
def sortedD : OpN := fun ds S => match ds with
  | [d] => match seqOf S d with
    | some xs => match intsOf xs with
      | some ns => some (.lst ((sortI ns).map .int))
      | none => if xs.all (keyedOk S) && decide ((xs.map keyD).Nodup) then some (.lst (sortBy keyD xs)) else none
    | none => none
  | _ => none
def Trip (h : Heap) (A : List Addr) (G : Hp) (K : PySem.W.Frag) (t : Value × V × D) : Prop := RelV t.2.1 t.1 ∧ DR A G K t.2.1 t.2.2 ∧ kfv h t.1 = keyD t.2.2 ∧ ∃ p, Keyed2 h t.1 (kfv h t.1) p
theorem trips {h : Heap} {A : List Addr} {G : Hp} {K : PySem.W.Frag} : ∀ {us : List Value} {vs : List V} {ds : List D}, Vals vs us → DRs A G K vs ds → (∀ v d u, RelV v u → DR A G K v d → d ∈ ds → ∃ p, Keyed2 h u (keyD d) p) →
    ∃ T : List (Value × V × D), T.map (·.1) = us ∧ T.map (·.2.1) = vs ∧ T.map (·.2.2) = ds ∧ ∀ t ∈ T, Trip h A G K t
  | _, _, [], r, q, _ => by
    cases q; cases r
    exact ⟨[], rfl, rfl, rfl, fun _ m => by cases m⟩
  | _, _, d :: ds, r, q, f => by
    cases q with
    | cons q1 q2 =>
      cases r with
      | cons r1 r2 =>
        obtain ⟨T, h1, h2, h3, h4⟩ := trips r2 q2 fun v e u a b m => f v e u a b (List.mem_cons_of_mem _ m)
        obtain ⟨p, kd⟩ := f _ _ _ r1 q1 List.mem_cons_self
        refine ⟨(_, _, d) :: T, by rw [List.map_cons, h1], by rw [List.map_cons, h2], by rw [List.map_cons, h3], fun t m => ?_⟩
        rcases List.mem_cons.mp m with rfl | m
        · have e := kfv_at kd
          exact ⟨r1, q1, e, p, by rw [e]; exact kd⟩
        · exact h4 t m
theorem trip_vals {h : Heap} {A : List Addr} {G : Hp} {K : PySem.W.Frag} : ∀ {T : List (Value × V × D)}, (∀ t ∈ T, Trip h A G K t) → Vals (T.map (·.2.1)) (T.map (·.1)) ∧ DRs A G K (T.map (·.2.1)) (T.map (·.2.2))
  | [], _ => ⟨.nil, .nil⟩
  | t :: T, q => by
    have ⟨a, b⟩ := trip_vals fun u m => q u (List.mem_cons_of_mem _ m)
    have c := q t List.mem_cons_self
    exact ⟨.cons c.1 a, .cons c.2.1 b⟩
theorem nodup_pick {α β : Type} (f : α → β) : ∀ {l : List α}, (l.map f).Nodup → ∀ {a b : α}, a ∈ l → b ∈ l → f a = f b → a = b
  | [], _, a, b, h, _, _ => by cases h
  | x :: l, hn, a, b, ha, hb, e => by
    have hn := List.nodup_cons.mp (List.map_cons ▸ hn)
    rcases List.mem_cons.mp ha with ha | ha <;> rcases List.mem_cons.mp hb with hb | hb
    · rw [ha, hb]
    · exact absurd (List.mem_map.mpr ⟨b, hb, by rw [← e, ha]⟩) hn.1
    · exact absurd (List.mem_map.mpr ⟨a, ha, by rw [e, hb]⟩) hn.1
    · exact nodup_pick f hn.2 ha hb e
theorem cd_sorted {X : Cx} (hu : X.A.units + 66 < cLine) : CallR X (.builtin "sorted") (rDs X.K sortedD) := by
  intro pins s σ H vs us Q I r ⟨A, Z, S, ds, d, ok, h, e, q⟩
  unfold sortedD at e
  split at e
  · rename_i d0
    cases h with
    | cons h1 h2 =>
      cases h2
      split at e
      · rename_i xs e1
        obtain ⟨a, ws, rfl, k1, k2⟩ := seqOf_at ok h1 e1
        split at e
        · rename_i ns e2
          cases e
          have ew := intsOf_map e2 k2
          subst ew
          refine cr_sortedI pins s σ H _ us Q I r ⟨a, ns, rfl, k1, fun ns' p hp ho hn => ?_⟩
          have en : ns' = sortI ns := ord_one (hp.trans (sortI_perm ns).symm) ho (sortI_ord ns)
          subst en
          exact q A _ _ (.new ok hn) (new_lst ok hn (drs_ints _))
        · split at e
          · rename_i c
            cases e
            rw [Bool.and_eq_true, List.all_eq_true, decide_eq_true_eq] at c
            obtain ⟨c1, c2⟩ := c
            obtain ⟨its, rv, hl, hz⟩ := I.list k1
            rw [Vals.ref1 r]
            obtain ⟨T, t1, t2, t3, t4⟩ := trips (h := s.heap) rv k2 fun v x u ru rd m => by
              have c3 := c1 x m
              unfold keyedOk at c3
              split at c3
              · rename_i i j y
                split at c3
                · rename_i p ep
                  obtain ⟨b, ks, rfl, m1, m2⟩ := tup_at rd
                  obtain rfl : u = .ref b := ru
                  cases m2 with
                  | cons m2 m3 =>
                    cases m3 with
                    | cons m3 m4 =>
                      cases m4
                      obtain ⟨b2, ks2, rfl, n1, n2⟩ := tup_at m2
                      cases n2 with
                      | cons n2 n3 =>
                        cases n3 with
                        | cons n3 n4 =>
                          cases n4; cases n2; cases n3
                          obtain ⟨i1, rv1, ⟨o1, p1, p2, np, p3⟩, _⟩ := I.tuple m1
                          obtain ⟨i2, rv2, ⟨o2, p4, p5, nq, p6⟩, _⟩ := I.tuple n1
                          cases rv1 with
                          | cons g1 g2 =>
                            cases g2 with
                            | cons g2 g3 =>
                              cases g3
                              obtain rfl := g1
                              cases rv2 with
                              | cons l1 l2 =>
                                cases l2 with
                                | cons l2 l3 =>
                                  cases l3
                                  obtain ⟨tk1, rfl⟩ := l1
                                  obtain ⟨tk2, rfl⟩ := l2
                                  obtain ⟨as, ra⟩ := Dp.reads I _ _ _ (toP_at ok m3 ep) g2
                                  exact ⟨p, b, o1, b2, _, np, tk1, tk2, as, rfl, p1, p2, p3, ⟨o2, p4, p5, nq, p6⟩, ra, c3⟩
                · cases c3
              · cases c3
            have hk : ∀ v ∈ its, ∃ p, Keyed2 s.heap v (kfv s.heap v) p := fun v m => by
              rw [← t1] at m
              obtain ⟨t, m', rfl⟩ := List.mem_map.mp m
              exact (t4 t m').2.2.2
            have hnd : (T.map fun t => keyD t.2.2).Nodup := by
              have z : (T.map fun t => keyD t.2.2) = (T.map (·.2.2)).map keyD := by rw [List.map_map]; rfl
              rw [z, t3]
              exact c2
            have hdis : ∀ v ∈ its, ∀ u ∈ its, v = u ∨ kfv s.heap v ≠ kfv s.heap u := fun v mv u mu => by
              rw [← t1] at mv mu
              obtain ⟨t, mt, rfl⟩ := List.mem_map.mp mv
              obtain ⟨y, my, rfl⟩ := List.mem_map.mp mu
              by_cases g : kfv s.heap t.1 = kfv s.heap y.1
              · rw [(t4 t mt).2.2.1, (t4 y my).2.2.1] at g
                exact .inl (congrArg Prod.fst (nodup_pick _ hnd mt my g))
              · exact .inr g
            have hzz : its.length ≤ sizeLine := by rw [← rv.length]; exact hz
            refine SrtO.sorted_ord (SrtO.swo_lex (kfv s.heap)) hl.isList hzz (fun h2 h₁ a' ha kk => keyed_sortable (s := { s with heap := h₁ }) (by omega) hk (show X.A.units + 1 + 1 + 64 < cLine by omega) hdis kk) fun out h1 h2 => ?_
            -- out is the list sorted by the keys
            have eo : out = (sortBy (fun t : Value × V × D => keyD t.2.2) T).map (·.1) := by
              refine List.Perm.eq_of_pairwise (le := fun v u => SrtO.lexB (kfv s.heap u) (kfv s.heap v) = false) ?_ h1 ?_ ?_
              · intro v u mv mu l1 l2
                have mv' := h2.perm.mem_iff.mp mv
                have mu' : u ∈ its := by
                  rw [← t1]
                  exact ((sortBy_perm _ T).map _).mem_iff.mp mu
                rcases hdis v mv' u mu' with g | g
                · exact g
                · have a1 := SrtO.lexB_no.mp l1
                  have a2 := SrtO.lexB_no.mp l2
                  exact absurd (Prod.ext (by omega) (by omega)) g
              · refine List.pairwise_map.mpr ((sortBy_ord _ T).imp_of_mem fun {x y} mx my l => ?_)
                have mx' := (sortBy_perm _ T).mem_iff.mp mx
                have my' := (sortBy_perm _ T).mem_iff.mp my
                rw [(t4 x mx').2.2.1, (t4 y my').2.2.1]
                exact l
              · refine h2.perm.trans ?_
                rw [← t1]
                exact ((sortBy_perm _ T).map _).symm
            have t5 : ∀ t ∈ sortBy (fun t : Value × V × D => keyD t.2.2) T, Trip s.heap A (cut A Z S H) X.K t := fun t m => t4 t ((sortBy_perm _ T).mem_iff.mp m)
            obtain ⟨v1, v2⟩ := trip_vals t5
            rw [sortBy_map (fun t : Value × V × D => t.2.2) keyD T, t3] at v2
            rw [← eo] at v1
            obtain ⟨ep, he'⟩ := PyProof.Rows.sortedAll_at s.heap its out.toArray
            refine ⟨.ref _, upd H (s.heap.objs.size + 1) (.lst _), I.laid (t' := s.toks) (fun _ _ => PyProof.Rows.sortedAll_old) (Nat.le_succ _) ⟨?_, out, ep, v1, he'⟩, rfl, q A _ _ (.new ok (I.hok.fresh (Nat.le_succ _))) (new_lst ok (I.hok.fresh (Nat.le_succ _)) v2)⟩
            rw [v1.length, h2.perm.length_eq]
            exact hzz
          · cases e
      · cases e
  · cases e
end DL
set_option maxHeartbeats 2000000
namespace DL
open PySem PySem.Spec PyProof.Rows L2
mutual
def noCel : D → Bool
  | .cel _ => false
  | .lst xs => noCels xs
  | .kls xs => noCels xs
  | .tup xs => noCels xs
  | .dct xs => noCelp xs
  | .exc _ d => noCel d
  | _ => true
def noCels : List D → Bool
  | [] => true
  | d :: ds => noCel d && noCels ds
def noCelp : List (D × D) → Bool
  | [] => true
  | (_, d) :: ds => noCel d && noCelp ds
end
theorem noCelp_at : ∀ {xs : List (D × D)}, noCel (.dct xs) = true → noCels (xs.map (·.2)) = true
  | [], _ => rfl
  | (x, d) :: r, h => by
    simp only [noCel, noCelp, Bool.and_eq_true] at h
    simp only [List.map_cons, noCels, Bool.and_eq_true]
    exact ⟨h.1, noCelp_at (by simpa only [noCel] using h.2)⟩
def coFree : CO → Bool
  | .lst xs => noCels xs
  | .lk xs => noCels xs
  | .gone => true
  | .tab _ _ => true
section
variable {K : PySem.W.Frag} {A B A' Z : List Addr} {S T S' : Sto} {H I H' : Hp} {G G' : Hp}
mutual
theorem DR.free (e : ∀ b o, G b = some o → G' b = some o) : ∀ {v : V} {d : D}, noCel d = true → DR A G K v d → DR A' G' K v d
  | _, _, _, .non => .non
  | _, _, _, .bl b => .bl b
  | _, _, _, .int i => .int i
  | _, _, _, .str x => .str x
  | _, .lst _, f, .lst h r => .lst (e _ _ h) (DRs.free e (by unfold noCel at f; exact f) r)
  | _, .kls _, f, .kls h r => .kls (sql_mono e h) (DRs.free e (by unfold noCel at f; exact f) r)
  | _, .tup _, f, .tup h r => .tup (sqt_mono e h) (DRs.free e (by unfold noCel at f; exact f) r)
  | _, _, k, .dct h q r => .dct (e _ _ h) q (DRs.free e (noCelp_at k) r)
  | _, .cel _, f, .cel h => by simp [noCel] at f
  | _, _, _, .fn f => .fn f
  | _, .exc _ _, f, .exc h k r => .exc (e _ _ h) (e _ _ k) (DR.free e (by unfold noCel at f; exact f) r)
theorem DRs.free (e : ∀ b o, G b = some o → G' b = some o) : ∀ {vs : List V} {ds : List D}, noCels ds = true → DRs A G K vs ds → DRs A' G' K vs ds
  | _, _, _, .nil => .nil
  | _, _ :: _, f, .cons h r => by
    simp only [noCels, Bool.and_eq_true] at f
    exact .cons (DR.free e f.1 h) (DRs.free e f.2 r)
end
theorem cut_take {n : Nat} : ∀ b o, cut B Z T I b = some o → cut (B.take n) Z (T.take n) I b = some o := fun b o e => by
  obtain ⟨e1, e2, e3⟩ := cut_some.mp e
  refine cut_some.mpr ⟨e1, e2, fun ⟨i, c, h1, h2, h3⟩ => e3 ⟨i, c, ?_, ?_, h3⟩⟩
  · exact pre_get (List.take_prefix n B) h1
  · exact pre_get (List.take_prefix n T) h2
where
  pre_get {α : Type} {l m : List α} (p : l <+: m) {i : Nat} {x : α} (h : l[i]? = some x) : m[i]? = some x := by
    obtain ⟨t, rfl⟩ := p
    rw [List.getElem?_append_left (List.getElem?_eq_some_iff.mp h).1]
    exact h
mutual
def lowD (n : Nat) : D → Bool
  | .cel i => Nat.blt i n
  | .lst xs => lowDs n xs
  | .kls xs => lowDs n xs
  | .tup xs => lowDs n xs
  | .dct xs => lowDp n xs
  | .exc _ d => lowD n d
  | _ => true
def lowDs (n : Nat) : List D → Bool
  | [] => true
  | d :: ds => lowD n d && lowDs n ds
def lowDp (n : Nat) : List (D × D) → Bool
  | [] => true
  | (_, d) :: ds => lowD n d && lowDp n ds
end
def lowC (n : Nat) : CO → Bool
  | .lst xs => lowDs n xs
  | .lk xs => lowDs n xs
  | .gone => true
  | .tab _ _ => true
theorem lowDp_at {n : Nat} : ∀ {xs : List (D × D)}, lowD n (.dct xs) = true → lowDs n (xs.map (·.2)) = true
  | [], _ => rfl
  | (x, d) :: r, h => by
    simp only [lowD, lowDp, Bool.and_eq_true] at h
    simp only [List.map_cons, lowDs, Bool.and_eq_true]
    exact ⟨h.1, lowDp_at (by simpa only [lowD] using h.2)⟩
mutual
theorem noCel_low {n : Nat} : ∀ {d : D}, noCel d = true → lowD n d = true
  | .non, _ => rfl
  | .bl _, _ => rfl
  | .int _, _ => rfl
  | .str _, _ => rfl
  | .lst _, h => by simp only [noCel] at h; simp only [lowD]; exact noCels_low h
  | .kls _, h => by simp only [noCel] at h; simp only [lowD]; exact noCels_low h
  | .tup _, h => by simp only [noCel] at h; simp only [lowD]; exact noCels_low h
  | .dct _, h => by simp only [noCel] at h; simp only [lowD]; exact noCelp_low h
  | .cel _, h => by simp [noCel] at h
  | .fn _, _ => rfl
  | .exc _ _, h => by simp only [noCel] at h; simp only [lowD]; exact noCel_low h
theorem noCels_low {n : Nat} : ∀ {ds : List D}, noCels ds = true → lowDs n ds = true
  | [], _ => rfl
  | d :: ds, h => by
    simp only [noCels, Bool.and_eq_true] at h
    simp only [lowDs, Bool.and_eq_true]
    exact ⟨noCel_low h.1, noCels_low h.2⟩
theorem noCelp_low {n : Nat} : ∀ {ds : List (D × D)}, noCelp ds = true → lowDp n ds = true
  | [], _ => rfl
  | (_, d) :: ds, h => by
    simp only [noCelp, Bool.and_eq_true] at h
    simp only [lowDp, Bool.and_eq_true]
    exact ⟨noCel_low h.1, noCelp_low h.2⟩
end
theorem coFree_low {n : Nat} {c : CO} (h : coFree c = true) : lowC n c = true := by
  cases c with
  | lst xs => exact noCels_low h
  | lk xs => exact noCels_low h
  | gone => rfl
  | tab _ _ => rfl
theorem coFree_lows {n : Nat} {S : Sto} (h : S.all coFree = true) : S.all (lowC n) = true := List.all_eq_true.mpr fun c m => coFree_low (List.all_eq_true.mp h c m)
mutual
theorem DR.low {n : Nat} (p : ∀ i a, i < n → A[i]? = some a → A'[i]? = some a) (e : ∀ b o, G b = some o → G' b = some o) : ∀ {v : V} {d : D}, lowD n d = true → DR A G K v d → DR A' G' K v d
  | _, _, _, .non => .non
  | _, _, _, .bl b => .bl b
  | _, _, _, .int i => .int i
  | _, _, _, .str x => .str x
  | _, .lst _, f, .lst h r => .lst (e _ _ h) (DRs.low p e (by unfold lowD at f; exact f) r)
  | _, .kls _, f, .kls h r => .kls (sql_mono e h) (DRs.low p e (by unfold lowD at f; exact f) r)
  | _, .tup _, f, .tup h r => .tup (sqt_mono e h) (DRs.low p e (by unfold lowD at f; exact f) r)
  | _, _, k, .dct h q r => .dct (e _ _ h) q (DRs.low p e (lowDp_at k) r)
  | _, .cel _, f, .cel h => .cel (p _ _ (by unfold lowD at f; exact Nat.le_of_ble_eq_true f) h)
  | _, _, _, .fn f => .fn f
  | _, .exc _ _, f, .exc h k r => .exc (e _ _ h) (e _ _ k) (DR.low p e (by unfold lowD at f; exact f) r)
theorem DRs.low {n : Nat} (p : ∀ i a, i < n → A[i]? = some a → A'[i]? = some a) (e : ∀ b o, G b = some o → G' b = some o) : ∀ {vs : List V} {ds : List D}, lowDs n ds = true → DRs A G K vs ds → DRs A' G' K vs ds
  | _, _, _, .nil => .nil
  | _, _ :: _, f, .cons h r => by
    simp only [lowDs, Bool.and_eq_true] at f
    exact .cons (DR.low p e f.1 h) (DRs.low p e f.2 r)
end
theorem take_low {n : Nat} : ∀ i a, i < n → B[i]? = some a → (B.take n)[i]? = some a := fun i a hi h => by
  rw [List.getElem?_take_of_lt hi]; exact h
theorem Grow.take (ok0 : SOk K A Z S H) (g : Grow K Z A S H B T I) (hf : (T.take S.length).all (lowC S.length) = true) : Grow K Z A S H (B.take S.length) (T.take S.length) I := by
  have hl : S.length ≤ B.length := by rw [← ok0.len]; exact g.pre.length_le
  refine ⟨?_, ⟨by rw [List.length_take, List.length_take, g.ok.len], g.ok.nd.sublist (List.take_sublist _ _), fun a ha => g.ok.there a (List.mem_of_mem_take ha), fun b hb => ⟨(g.ok.hid b hb).1, fun q => (g.ok.hid b hb).2 (List.mem_of_mem_take q)⟩, fun i c ds hc hd => ?_, fun i P q e => ?_⟩,
    fun b o e => cut_take b o (g.ex b o e), g.hid, fun i ds e => ?_⟩
  · rw [← ok0.len]
    obtain ⟨t, rfl⟩ := g.pre
    rw [List.take_left]
    exact List.prefix_refl _
  · have hi : i < S.length := by
      have := (List.getElem?_eq_some_iff.mp hc).1
      rw [List.length_take] at this
      omega
    have hm : c ∈ T.take S.length := List.mem_of_getElem? hc
    rw [List.getElem?_take_of_lt hi] at hc
    obtain ⟨a, vs, h1, h2, h3⟩ := g.ok.at_ i c ds hc hd
    have f := List.all_eq_true.mp hf c hm
    refine ⟨a, vs, by rw [List.getElem?_take_of_lt hi]; exact h1, h2, DRs.low take_low cut_take ?_ h3⟩
    rcases hd with rfl | rfl <;> exact f
  · have hi : i < S.length := by
      have := (List.getElem?_eq_some_iff.mp e).1
      rw [List.length_take] at this
      omega
    rw [List.getElem?_take_of_lt hi] at e
    obtain ⟨t1, t2⟩ := g.ok.tab i P q e
    exact ⟨by rw [List.getElem?_take_of_lt hi]; exact t1, t2⟩
  · have hi := (List.getElem?_eq_some_iff.mp e).1
    rw [List.getElem?_take_of_lt hi]
    exact g.lk i ds e
theorem cut_pick {n i : Nat} {xs : List D} {a : Addr} (hl : (B.take n).length = (T.take n).length) (hB : B[i]? = some a) (hT : T[i]? = some (.lst xs)) : ∀ b o, cut B Z T I b = some o → cut (B.take n ++ [a]) Z (T.take n ++ [.lst xs]) I b = some o := fun b o e => by
  obtain ⟨e1, e2, e3⟩ := cut_some.mp e
  refine cut_some.mpr ⟨e1, e2, fun ⟨j, c, h1, h2, h3⟩ => e3 ?_⟩
  by_cases hj : j < (B.take n).length
  · rw [List.getElem?_append_left hj] at h1
    rw [List.getElem?_append_left (by rw [← hl]; exact hj)] at h2
    exact ⟨j, c, cut_take.pre_get (List.take_prefix n B) h1, cut_take.pre_get (List.take_prefix n T) h2, h3⟩
  · have hj' := Nat.le_of_not_lt hj
    rw [List.getElem?_append_right hj'] at h1
    have q : j - (B.take n).length = 0 := by
      cases q : j - (B.take n).length with
      | zero => rfl
      | succ m => rw [q] at h1; simp at h1
    rw [q] at h1
    have : a = b := by simpa using h1
    subst this
    exact ⟨i, _, hB, hT, rfl⟩
theorem Grow.pick {i : Nat} {xs : List D} {a : Addr} (ok0 : SOk K A Z S H) (g : Grow K Z A S H B T I) (hi : S.length ≤ i) (hB : B[i]? = some a) (hT : T[i]? = some (.lst xs)) (hx : lowDs S.length xs = true) (hf : (T.take S.length).all (lowC S.length) = true) :
    Grow K Z A S H (B.take S.length ++ [a]) (T.take S.length ++ [.lst xs]) I := by
  have hl : S.length ≤ B.length := by rw [← ok0.len]; exact g.pre.length_le
  have hlT : S.length ≤ T.length := by rw [← g.ok.len]; exact hl
  have lB : (B.take S.length).length = S.length := by rw [List.length_take]; omega
  have lT : (T.take S.length).length = S.length := by rw [List.length_take]; omega
  have cp : ∀ b o, cut B Z T I b = some o → cut (B.take S.length ++ [a]) Z (T.take S.length ++ [.lst xs]) I b = some o := cut_pick (lB.trans lT.symm) hB hT
  have lowA : ∀ j b, j < S.length → B[j]? = some b → (B.take S.length ++ [a])[j]? = some b := fun j b hj h => by
    rw [List.getElem?_append_left (by rw [lB]; exact hj)]
    exact take_low j b hj h
  have na : a ∉ B.take S.length := fun m => by
    obtain ⟨j, hj⟩ := List.mem_iff_getElem?.mp m
    have hj2 : j < S.length := by
      have := (List.getElem?_eq_some_iff.mp hj).1
      rw [lB] at this
      exact this
    have := nodup_at g.ok.nd hB (cut_take.pre_get (List.take_prefix S.length B) hj)
    omega
  refine ⟨?_, ⟨by rw [List.length_append, List.length_append, lB, lT]; rfl, ?_, fun b hb => ?_, fun b hb => ⟨(g.ok.hid b hb).1, fun q => (g.ok.hid b hb).2 ?_⟩, fun j c ds hc hd => ?_, fun j P q e => ?_⟩, fun b o e => cp b o (g.ex b o e), g.hid, fun j ds e => ?_⟩
  · have : A = B.take S.length := by
      rw [← ok0.len]
      obtain ⟨t, rfl⟩ := g.pre
      rw [List.take_left]
    rw [← this]
    exact List.prefix_append _ _
  · rw [List.nodup_append]
    refine ⟨g.ok.nd.sublist (List.take_sublist _ _), by simp, fun b hb c hc => ?_⟩
    simp at hc
    subst hc
    exact fun e => na (e ▸ hb)
  · rcases List.mem_append.mp hb with hb | hb
    · exact g.ok.there b (List.mem_of_mem_take hb)
    · simp at hb
      subst hb
      exact g.ok.there _ (List.mem_of_getElem? hB)
  · rcases List.mem_append.mp q with q | q
    · exact List.mem_of_mem_take q
    · simp at q
      subst q
      exact List.mem_of_getElem? hB
  · by_cases hj : j < S.length
    · rw [List.getElem?_append_left (by rw [lT]; exact hj)] at hc
      have hm : c ∈ T.take S.length := List.mem_of_getElem? hc
      rw [List.getElem?_take_of_lt hj] at hc
      obtain ⟨b, vs, h1, h2, h3⟩ := g.ok.at_ j c ds hc hd
      have f := List.all_eq_true.mp hf c hm
      refine ⟨b, vs, lowA j b hj h1, h2, DRs.low lowA cp ?_ h3⟩
      rcases hd with rfl | rfl <;> exact f
    · rw [List.getElem?_append_right (by rw [lT]; omega), lT] at hc
      have q : j - S.length = 0 := by
        cases q : j - S.length with
        | zero => rfl
        | succ m => rw [q] at hc; simp at hc
      rw [q] at hc
      have hc : c = .lst xs := by simpa using hc.symm
      subst hc
      have e : ds = xs := by rcases hd with z | z <;> cases z; rfl
      subst e
      obtain ⟨b, vs, h1, h2, h3⟩ := g.ok.at_ i _ ds hT (.inl rfl)
      rw [hB] at h1
      cases h1
      refine ⟨a, vs, ?_, h2, DRs.low lowA cp hx h3⟩
      have : j = S.length := by omega
      rw [this, List.getElem?_append_right (by rw [lB]; exact Nat.le_refl _), lB, Nat.sub_self]
      rfl
  · have hj : j < S.length := by
      by_cases hj : j < S.length
      · exact hj
      · rw [List.getElem?_append_right (by rw [lT]; omega), lT] at e
        cases q : j - S.length with
        | zero => rw [q] at e; simp at e
        | succ m => rw [q] at e; simp at e
    rw [List.getElem?_append_left (by rw [lT]; exact hj), List.getElem?_take_of_lt hj] at e
    obtain ⟨t1, t2⟩ := g.ok.tab j P q e
    exact ⟨lowA j _ hj t1, t2⟩
  · have hj := (List.getElem?_eq_some_iff.mp e).1
    rw [List.getElem?_append_left (by rw [lT]; exact hj), List.getElem?_take_of_lt hj]
    exact g.lk j ds e
def tidy (n : Nat) (r : Res D) : Res D := match r with
  | .ok d T => if lowD n d && (T.take n).all (lowC n) then .ok d (T.take n) else .bad
  | .err c d T => if lowD n d && (T.take n).all (lowC n) then .err c d (T.take n) else .bad
  | .bad => .bad
def bodyT (N : List Str) (n : Nat) (f : FS) (ds : List D) (S : Sto) : Res D := tidy S.length (bodyD N n f ds S)
def tidyC (n : Nat) (r : Res D) : Res D := match r with
  | .ok (.cel i) T => if Nat.blt i n then tidy n (.ok (.cel i) T) else match T[i]? with
    | some (.lst xs) => if lowDs n xs && (T.take n).all (lowC n) then .ok (.cel n) (T.take n ++ [.lst xs]) else .bad
    | _ => .bad
  | r => tidy n r
def bodyC (N : List Str) (n : Nat) (f : FS) (ds : List D) (S : Sto) : Res D := tidyC S.length (bodyD N n f ds S)
theorem Post.tidy {W : WX} {ca : Str → Addr} {σ : L2.St} {r : Res D} {P : V → Hp → Prop} (ok0 : SOk K A Z S H) (h : Post K W ca A Z S H σ (tidy S.length r) fun B T I d => ∀ v, DR B (cut B Z T I) K v d → P v I) :
    Post K W ca A Z S H σ r fun B T I d => ∀ v, DR B (cut B Z T I) K v d → P v I := by
  cases r with
  | bad => exact h
  | ok d T =>
    unfold DL.tidy at h
    simp only at h
    split at h
    · rename_i c
      rw [Bool.and_eq_true] at c
      exact fun B I g v rv => h _ _ (g.take ok0 c.2) v (rv.low take_low cut_take c.1)
    · exact h.elim
  | err cl d T =>
    unfold DL.tidy at h
    simp only at h
    split at h
    · rename_i c
      rw [Bool.and_eq_true] at c
      exact fun B I dx v σ' g hx rv => h _ _ dx v σ' (g.take ok0 c.2) (cut_take dx _ hx) (rv.low take_low cut_take c.1)
    · exact h.elim
theorem Post.tidyC {W : WX} {ca : Str → Addr} {σ : L2.St} {r : Res D} {P : V → Hp → Prop} (ok0 : SOk K A Z S H) (h : Post K W ca A Z S H σ (tidyC S.length r) fun B T I d => ∀ v, DR B (cut B Z T I) K v d → P v I) :
    Post K W ca A Z S H σ r fun B T I d => ∀ v, DR B (cut B Z T I) K v d → P v I := by
  unfold DL.tidyC at h
  split at h
  · rename_i i T
    split at h
    · exact Post.tidy ok0 h
    · rename_i hi
      split at h
      · rename_i xs hT
        split at h
        · rename_i c
          rw [Bool.and_eq_true] at c
          have hi : S.length ≤ i := Nat.le_of_not_lt fun z => hi (Nat.ble_eq_true_of_le z)
          intro B I g v rv
          cases rv with
          | @cel a i hB =>
            refine h _ _ (g.pick ok0 hi hB hT c.1 c.2) _ (.cel ?_)
            have hl : S.length ≤ B.length := by rw [← ok0.len]; exact g.pre.length_le
            have lB : (B.take S.length).length = S.length := by rw [List.length_take]; omega
            rw [List.getElem?_append_right (by rw [lB]; exact Nat.le_refl _), lB, Nat.sub_self]
            rfl
        · exact h.elim
      · exact h.elim
  · exact Post.tidy ok0 h
end
section
variable {P : Program} {w : World} {K : PySem.W.Frag} {mg : Str → Option Value} {base : Heap} {ca : Str → Addr} {x : Str} {ps : List Str}
theorem Def.tidy {k : Nat} {g : List D → Sto → Res D} (d : Def P w K mg base ca x ps k g) : Def P w K mg base ca x ps k (fun ds S => DL.tidy S.length (g ds S)) :=
  let ⟨f, fd, a, b, c, F, lk⟩ := d.ex
  ⟨f, fd, a, b, c, F.imp fun vs H Q E ⟨A, Z, S, ds, h1, h2, h3, h4⟩ => ⟨A, Z, S, ds, h1, h2, h3, Post.tidy h1 h4⟩, lk⟩
theorem Def.tidyC {k : Nat} {g : List D → Sto → Res D} (d : Def P w K mg base ca x ps k g) : Def P w K mg base ca x ps k (fun ds S => DL.tidyC S.length (g ds S)) :=
  let ⟨f, fd, a, b, c, F, lk⟩ := d.ex
  ⟨f, fd, a, b, c, F.imp fun vs H Q E ⟨A, Z, S, ds, h1, h2, h3, h4⟩ => ⟨A, Z, S, ds, h1, h2, h3, Post.tidyC h1 h4⟩, lk⟩
structure Std (K : PySem.W.Frag) (mg : Str → Option Value) (x : Str) (st : Stmt) (ps : List Str) : Prop where
  ex : ∃ f fd, mg x = some (.ref f) ∧ Fun K x x st f fd ∧ L2.Binds K fd ps []
abbrev CXof (P : Program) (w : World) (K : PySem.W.Frag) (mg : Str → Option Value) (base : Heap) (N : List Str) (x : Str) (st : Stmt) (f : Addr) (cdv : Value) (A : Around) (outer : List PySem.Env) (s : Shared) (H : Hp) (E : XK) : Cx :=
  cxOf (L2.CX P w) P w K mg base N x (defScope st) f cdv A outer s H E
theorem def_D {st : Stmt} {N : List Str} {k : Nat} {fs : FS} (T : Std K mg x st ps) (S : FnScope N ps (defScope st))
    (body : ∀ (f : Addr) (cdv : Value) (A : Around) (outer : List PySem.Env) (s : Shared) (H : Hp) (E : XK), Room k (CXof P w K mg base N x st f cdv A outer s H E).A → (CXof P w K mg base N x st f cdv A outer s H E).A.guards = some [] →
      Takes (CXof P w K mg base N x st f cdv A outer s H E) (WD E) → PassesOwn (model P w) (CXof P w K mg base N x st f cdv A outer s H E).A (CXof P w K mg base N x st f cdv A outer s H E).env (CXof P w K mg base N x st f cdv A outer s H E).xe →
      SSs (CXof P w K mg base N x st f cdv A outer s H E) (WD E) ca (defBody st) fs) : Def P w K mg base ca x ps (k + 1) (bodyD N ps.length fs) := by
  obtain ⟨f, fd, hm, F, hb⟩ := T.ex
  exact def_of hm F S hb (fun cdv A outer s H E hr hgu tk hp => body f cdv A outer s H E hr hgu tk hp) fun _ _ _ _ => rfl
theorem def_T {st : Stmt} {N : List Str} {k : Nat} {fs : FS} (T : Std K mg x st ps) (S : FnScope N ps (defScope st))
    (body : ∀ (f : Addr) (cdv : Value) (A : Around) (outer : List PySem.Env) (s : Shared) (H : Hp) (E : XK), Room k (CXof P w K mg base N x st f cdv A outer s H E).A → (CXof P w K mg base N x st f cdv A outer s H E).A.guards = some [] →
      Takes (CXof P w K mg base N x st f cdv A outer s H E) (WD E) → PassesOwn (model P w) (CXof P w K mg base N x st f cdv A outer s H E).A (CXof P w K mg base N x st f cdv A outer s H E).env (CXof P w K mg base N x st f cdv A outer s H E).xe →
      SSs (CXof P w K mg base N x st f cdv A outer s H E) (WD E) ca (defBody st) fs) : Def P w K mg base ca x ps (k + 1) (bodyT N ps.length fs) := (def_D T S body).tidy
theorem def_C {st : Stmt} {N : List Str} {k : Nat} {fs : FS} (T : Std K mg x st ps) (S : FnScope N ps (defScope st))
    (body : ∀ (f : Addr) (cdv : Value) (A : Around) (outer : List PySem.Env) (s : Shared) (H : Hp) (E : XK), Room k (CXof P w K mg base N x st f cdv A outer s H E).A → (CXof P w K mg base N x st f cdv A outer s H E).A.guards = some [] →
      Takes (CXof P w K mg base N x st f cdv A outer s H E) (WD E) → PassesOwn (model P w) (CXof P w K mg base N x st f cdv A outer s H E).A (CXof P w K mg base N x st f cdv A outer s H E).env (CXof P w K mg base N x st f cdv A outer s H E).xe →
      SSs (CXof P w K mg base N x st f cdv A outer s H E) (WD E) ca (defBody st) fs) : Def P w K mg base ca x ps (k + 1) (bodyC N ps.length fs) := (def_D T S body).tidyC
theorem law_D {st : Stmt} {N : List Str} {k : Nat} {fs : FS} {f : Addr} {fd : FuncData} (F : Fun K x x st f fd) (S : FnScope N ps (defScope st))
    (body : ∀ (cdv : Value) (A : Around) (outer : List PySem.Env) (s : Shared) (H : Hp) (E : XK), Room k (CXof P w K mg base N x st f cdv A outer s H E).A → (CXof P w K mg base N x st f cdv A outer s H E).A.guards = some [] →
      Takes (CXof P w K mg base N x st f cdv A outer s H E) (WD E) → PassesOwn (model P w) (CXof P w K mg base N x st f cdv A outer s H E).A (CXof P w K mg base N x st f cdv A outer s H E).env (CXof P w K mg base N x st f cdv A outer s H E).xe →
      SSs (CXof P w K mg base N x st f cdv A outer s H E) (WD E) ca (defBody st) fs) : FnG P w K mg base (k + 1) f fd ps (spD K ca ps.length (bodyD N ps.length fs)) :=
  fnG_D F S (fun cdv A outer s H E hr hgu tk hp => body cdv A outer s H E hr hgu tk hp) fun _ _ _ _ => rfl
theorem Std.never {st : Stmt} {k : Nat} (T : Std K mg x st ps) : Def P w K mg base ca x ps k (fun _ _ => .bad) := by
  obtain ⟨f, fd, hm, F, hb⟩ := T.ex
  have no : ∀ vs H Q E, ¬ spD K ca ps.length (fun _ _ => .bad) vs H Q E := fun vs H Q E ⟨A, Z, S, ds, _, _, _, h⟩ => h
  exact ⟨f, fd, hm, F.kp, hb, ⟨fun vs H Q E h => absurd h (no vs H Q E), fun A outer s H args us vs Q E _ _ _ _ _ h => absurd h (no vs H Q E)⟩, PySem.L2Fun_lk F⟩
end
section
variable {X : Cx} {W : WX} {ca : Str → Addr} {e a b : Expr} {es : List Expr} {pos : Pos}
def addC (x y : D) (S : Sto) : Option (List D) := match addD x y S with
  | some (.lst xs) => some xs
  | _ => none
def fAddC (fa fb : FE) : FE := fun ρ S => (fa ρ S).bind fun x S1 => (fb ρ S1).bind fun y S2 => match addC x y S2 with
  | some xs => .ok (.cel S2.length) (S2 ++ [.lst xs])
  | none => .bad
theorem tk0 {Y : Cx} : Takes Y W0 := fun u s' ⟨a, B, sI, pins, σ, H, cls, d, e, I, nb, up, sky, na, os, ag, h⟩ => h.elim
end
end DL
set_option maxHeartbeats 2000000
namespace DL
open PySem PySem.Spec PyProof.Rows L2
def LawOk (g : List D → Sto → Res D) (n : Nat) : Prop := ∀ ns : List Int, ns.length ≤ n → (∀ z ∈ ns, Builtin.Int.intBits z ≤ 1048576) → ∃ S, g [.kls (ns.map D.int)] [] = .ok (.bl true) S
section
variable {P : Program} {w : World} {K : PySem.W.Frag} {mg mb : Str → Option Value} {ca : Str → Addr} {k : Nat} {fa a : Addr} {fd : FuncData} {x : Str} {g : List D → Sto → Res D} {s1 : Shared} {us : List Value} {ns : List Int}
theorem sok_nil {H : Hp} : SOk K [] [] [] H := ⟨rfl, List.nodup_nil, fun _ h => (nomatch h), fun _ h => (nomatch h), fun i c ds h => (by simp at h), fun i P q h => (by simp at h)⟩
theorem drs_script {H : Hp} (h : SqL K H a (ns.map V.int)) : DRs [] (cut [] [] [] H) K [.ref a] [.kls (ns.map D.int)] := .cons (.kls h (drs_ints ns)) .nil
theorem run_law {H : Hp} (inK : K.In s1.heap) (top : s1.heap.Ns mainGlobals mg) (bn : s1.heap.Ns builtinsNs mb) (bt : ∀ y : Str, y ≠ "__name__" → mb y = bootBuiltins y) (fr : s1.heap.NoLimit) (gn : s1.gens = #[])
    (obj : s1.heap.get? a = some { cls := .type "list", data := .seq us.toArray }) (room : Room k callerA)
    (F : ∀ base : Heap, K.In base → base.Ns mainGlobals mg → FnG P w K mg base k fa fd [x] (spD K ca 1 g)) (bd : ∀ (s : Shared) (u : Value), BindsTo s fd ⟨[u], []⟩ [(x, u)])
    (hg : ∃ S, g [.kls (ns.map D.int)] [] = .ok (.bl true) S) (seen : SqL K H a (ns.map V.int)) (okH : HOk P w H s1.heap) (only : ∀ b, H b ≠ none → b = a ∧ K.lookup b = none) (frz : ∀ b u, H b = some u → ∃ o xs, u = .frz o (.lst xs)) :
    codeAny (model P w) callerA (.call (.ref fa) ⟨[.ref a], []⟩) (fun r s2 => r = .ok (.ret (.bool true)) ∧ OldK s1.heap s2.heap ∧ s2.os = s1.os ∧ AllBare s2.gens) s1 := by
  have dictFree : ∀ {b : Addr} {o : Obj} {es : Array DictEntry} {ep : Nat}, s1.heap.get? b = some o → o.data = .dict es ep → H b = none := fun {b o es ep} e1 e2 => by
    cases eH : H b with
    | none => rfl
    | some u =>
      obtain rfl := (only b (by rw [eH]; exact fun z => nomatch z)).1
      rw [obj] at e1
      cases e1
      exact nomatch e2
  have low : ∀ {b : Addr} {m : Str → Option Value}, s1.heap.Ns b m → (hidT s1.heap H).Ns b m := fun {b m} ⟨o, es, ep, e1, e2, e3⟩ => ⟨o, es, ep, hidT_get e1 (dictFree e1 e2), e2, e3⟩
  have kIn : K.In (hidT s1.heap H) := fun b o e1 => hidT_get (inK b o e1) (by
    cases eH : H b with
    | none => rfl
    | some u =>
      have z := (only b (by rw [eH]; exact fun z => nomatch z)).2
      rw [z] at e1
      cases e1)
  obtain ⟨mc, f1, f2⟩ := fr
  have M : Mod K mg (hidT s1.heap H) := ⟨kIn, low top, ⟨mb, low bn, bt⟩, ⟨mc, low f1, f2⟩⟩
  have E0 : Env0 P w K mg (hidT s1.heap H) callerA [] s1 H := by
    refine ⟨rfl, M, fun b o e1 => of_hidT e1, Nat.le_of_eq (hidT_size _ _), trivial, fun b hb => (nomatch hb), okH, .of_eq gn⟩
  obtain ⟨S, eg⟩ := hg
  have prom : spD K ca 1 g [.ref a] H (fun v _ => v = .bl true) (fun _ _ _ => False) := by
    refine ⟨[], [], [], [.kls (ns.map D.int)], sok_nil, drs_script seen, rfl, ?_⟩
    rw [eg]
    exact fun B I gr v rv => by cases rv; rfl
  have go := (F _ kIn (low top)).run callerA [] s1 H ⟨[.ref a], []⟩ [.ref a] [.ref a] _ _ room rfl E0 (bd s1 (.ref a)) (.cons rfl .nil) prom
  refine codeAny_mono go ?_
  rintro (e | fl) s2 h
  · obtain ⟨_, _, _, _, _, _, _, _, _, _, _, _, _, _, _, _, _, h⟩ := h
  · cases fl with
    | ret u =>
      obtain ⟨v, H2, e1, e2, e3, e4, e5, e6⟩ := h
      subst e6
      obtain rfl : u = Value.bool true := e5
      refine ⟨rfl, OldK.of_keep fun b o e7 => ?_, e1, e2⟩
      cases eH : H b with
      | none => exact e3.keep b o e7 eH (fun z => nomatch z) (fun z => nomatch z)
      | some q =>
        obtain ⟨ob, xs, rfl⟩ := frz b q eH
        have k2 := e3.frzs b ob _ eH
        obtain ⟨g1, _⟩ := okH b _ eH
        obtain ⟨g2, _⟩ := e4 b _ k2
        rw [e7] at g1
        cases g1
        exact g2
    | next => exact False.elim h
    | brk => exact False.elim h
    | cont => exact False.elim h
theorem run_law2 (inK : K.In s1.heap) (top : s1.heap.Ns mainGlobals mg) (bn : s1.heap.Ns builtinsNs mb) (bt : ∀ y : Str, y ≠ "__name__" → mb y = bootBuiltins y) (fr : s1.heap.NoLimit) (gn : s1.gens = #[])
    (obj : s1.heap.get? a = some { cls := .type "list", data := .seq us.toArray }) (areI : IntsAre us ns) (few : ns.length ≤ sizeLine) (room : Room k callerA)
    (F : ∀ base : Heap, K.In base → base.Ns mainGlobals mg → FnG P w K mg base k fa fd [x] (spD K ca 1 g)) (bd : ∀ (s : Shared) (u : Value), BindsTo s fd ⟨[u], []⟩ [(x, u)])
    (hg : ∃ S, g [.kls (ns.map D.int)] [] = .ok (.bl true) S) :
    codeAny (model P w) callerA (.call (.ref fa) ⟨[.ref a], []⟩) (fun r s2 => r = .ok (.ret (.bool true)) ∧ OldK s1.heap s2.heap ∧ s2.os = s1.os ∧ AllBare s2.gens) s1 := by
  have rv := vals_ints areI
  have eqn := areI.length
  cases hk : K.lookup a with
  | some o =>
    have e := inK a o hk
    rw [obj] at e
    cases e
    refine run_law (H := fun _ => none) inK top bn bt fr gn obj room F bd hg ?_ (fun b u z => nomatch z) (fun b z => absurd rfl z) (fun b u z => nomatch z)
    exact .inr ⟨_, us.toArray, _, hk, rfl, rfl, rfl, by rw [List.size_toArray, eqn]; exact few, by simpa using rv⟩
  | none =>
    let H1 : Hp := fun b => if b = a then some (.frz { cls := .type "list", data := .seq us.toArray } (.lst (ns.map V.int))) else none
    have at1 : H1 a = some (.frz { cls := .type "list", data := .seq us.toArray } (.lst (ns.map V.int))) := if_pos rfl
    have off : ∀ b, b ≠ a → H1 b = none := fun b z => if_neg z
    refine run_law (H := H1) inK top bn bt fr gn obj room F bd hg (.inl (.inr ⟨_, at1⟩)) (fun b u z => ?_) (fun b z => ?_) (fun b u z => ?_)
    · by_cases c : b = a
      · subst c
        rw [at1] at z
        cases z
        exact ⟨obj, by rw [List.length_map]; exact few, us, _, rv, obj⟩
      · rw [off b c] at z
        cases z
    · by_cases c : b = a
      · subst c
        exact ⟨rfl, hk⟩
      · exact absurd (off b c) z
    · by_cases c : b = a
      · subst c
        rw [at1] at z
        cases z
        exact ⟨_, _, rfl⟩
      · rw [off b c] at z
        cases z
end
theorem walk_D {l : PySem.W.OpenLaw} {n k : Nat} {q : Program} {loose : List Str} {XP : (Str → Option Value) → Heap → Prop} {YP : World → Heap → Prop} {d : DefRec} {K : Params → PySem.W.Frag} {g : List D → Sto → Res D} {x : Str}
    (hn : l.most = some n) (hn2 : n ≤ sizeLine) (hdf : d.params.defaults = []) (room : Room k callerA) (hY : ∀ (w : World) (h : Heap), YP w h → (K w.params).In h)
    (F : ∀ (w : World) (mg : Str → Option Value) (fa : Addr) (h : Heap), (K w.params).In h → h.Ns mainGlobals mg → mg d.name = some (.ref fa) →
      ∃ (fd : FuncData) (ca : Str → Addr), (∀ (s : Shared) (u : Value), BindsTo s fd ⟨[u], []⟩ [(x, u)]) ∧ ∀ base : Heap, (K w.params).In base → base.Ns mainGlobals mg → FnG l.prog w (K w.params) mg base k fa fd [x] (spD (K w.params) ca 1 g))
    (hg : LawOk g n) : PySem.W.WalkO q loose XP YP l.row.toRowW d [] (fun f vs => PySem.call f vs) := by
  refine Att.attach_callB hn hdf fun w s0 s1 mg mb fa o pm cd doc a us ns G Y h1 h2 h3 h4 h5 h6 h7 h8 h9 => ?_
  have inK := hY w _ Y
  obtain ⟨fd, ca, bd, F2⟩ := F w mg fa _ inK G.T.g h4
  exact run_law2 inK G.T.g G.T.b G.T.builtins G.T.nolimit h9 h5 h6 (Nat.le_trans h7 hn2) room F2 bd (hg ns h7 h8)
end DL
set_option maxHeartbeats 2000000
namespace DL
open PySem PySem.Spec PyProof.Rows L2
section
variable {X : Cx} {W : WX} {ca : Str → Addr} {e a b c : Expr} {es : List Expr} {pos : Pos}
theorem ss_par {i j : Nat} {x y : Str} {f : FA} {px py pt : Pos} {kt k2 pt2} (hc : X.calm = true) (hN : X.N.Nodup) (hi : X.N[i]? = some x) (hj : X.N[j]? = some y) (hij : i ≠ j)
    (ha : SA X W ca [a, b] f) (hx : X.env.scope.names.lookup x = some .local := by rfl) (hy : X.env.scope.names.lookup y = some .local := by rfl)
    (hw : swappedStores [.Tuple [.Name x px, .Name y py] kt pt] (.Tuple [a, b] k2 pt2) X.env = pure (some [x, y]) := by rfl)
    (hs : swapsWithSole [.Tuple [.Name x px, .Name y py] kt pt] (.Tuple [a, b] k2 pt2) pos.line X.env = pure false := by rfl) :
    SS X W ca (.Assign [.Tuple [.Name x px, .Name y py] kt pt] (.Tuple [a, b] k2 pt2) pos) (fPar i j f) := ss_of (ps_par hc hN hi hj hij hx hy ha.pa hw hs) fun _ _ _ h => tS_par h
theorem ss_par3 {i j l : Nat} {x y z : Str} {f : FA} {px py pz pt : Pos} {kt k2 pt2} (hc : X.calm = true) (hN : X.N.Nodup) (hi : X.N[i]? = some x) (hj : X.N[j]? = some y) (hl : X.N[l]? = some z) (hij : i ≠ j) (hil : i ≠ l) (hjl : j ≠ l)
    (ha : SA X W ca [a, b, c] f) (hx : X.env.scope.names.lookup x = some .local := by rfl) (hy : X.env.scope.names.lookup y = some .local := by rfl) (hz : X.env.scope.names.lookup z = some .local := by rfl)
    (hw : swappedStores [.Tuple [.Name x px, .Name y py, .Name z pz] kt pt] (.Tuple [a, b, c] k2 pt2) X.env = pure (some [x, y, z]) := by rfl)
    (hs : swapsWithSole [.Tuple [.Name x px, .Name y py, .Name z pz] kt pt] (.Tuple [a, b, c] k2 pt2) pos.line X.env = pure false := by rfl) :
    SS X W ca (.Assign [.Tuple [.Name x px, .Name y py, .Name z pz] kt pt] (.Tuple [a, b, c] k2 pt2) pos) (fPar3 i j l f) := ss_of (L2.ps_par3 hc hN hi hj hl hij hil hjl hx hy hz ha.pa hw hs) fun _ _ _ h => tS_par3 h
def fiAny (f : FE) : FI := fun ρ S => (f ρ S).bind fun d S1 => match d with
  | .tup xs => .ok ⟨xs, none⟩ S1
  | d => match iterOf S1 d with
    | some it => .ok it S1
    | none => .bad
theorem si_any {tg l : Expr} {f : FE} (h : SE X W ca l f) : SI X W ca tg l (fiAny f) := ⟨⟨fun pins s σ H R I ⟨A, Z, S, ρ, ok, sl, p⟩ => by
  cases e : f ρ S with
  | bad =>
    unfold fiAny at p
    rw [e] at p
    exact p.elim
  | err cl d T =>
    refine (si_seq (tg := tg) h).pi.run pins s σ H R I ⟨A, Z, S, ρ, ok, sl, ?_⟩
    unfold fiAny at p
    unfold fiSeq
    rw [e] at p ⊢
    exact p
  | ok d T =>
    unfold fiAny at p
    rw [e] at p
    cases d with
    | tup xs =>
      refine (si_tup (tg := tg) h).pi.run pins s σ H R I ⟨A, Z, S, ρ, ok, sl, ?_⟩
      unfold fiTup
      rw [e]
      exact p
    | _ =>
      refine (si_seq (tg := tg) h).pi.run pins s σ H R I ⟨A, Z, S, ρ, ok, sl, ?_⟩
      unfold fiSeq
      rw [e]
      exact p⟩⟩
theorem dr_strs {A : List Addr} {G : Hp} {K : PySem.W.Frag} : ∀ {us : List Value} {xs : List Str}, Vals (xs.map V.str) us → DRs A G K (xs.map V.str) (xs.map D.str)
  | _, [], _ => .nil
  | _, _ :: _, .cons h r => .cons (.str _) (dr_strs r)
end
end DL
set_option maxHeartbeats 2000000
namespace DL
open PySem PySem.Spec PyProof.Rows L2
section
variable {k : Nat} {A : Around}
theorem hu1 (hr : Room k A) : A.units + 1 < cLine := by have := hr.un; omega
theorem hu65 (hr : Room k A) : A.units + 65 < cLine := by have := hr.un; omega
theorem hu66 (hr : Room k A) : A.units + 66 < cLine := by have := hr.un; omega
end
theorem bb_len : bootBuiltins "len" = some (.builtin "len") := by decide +kernel
theorem bb_abs : bootBuiltins "abs" = some (.builtin "abs") := by decide +kernel
theorem bb_sum : bootBuiltins "sum" = some (.builtin "sum") := by decide +kernel
theorem bb_max : bootBuiltins "max" = some (.builtin "max") := by decide +kernel
theorem bb_sorted : bootBuiltins "sorted" = some (.builtin "sorted") := by decide +kernel
theorem bb_int : bootBuiltins "int" = some (.type "int") := by decide +kernel
theorem bb_bool : bootBuiltins "bool" = some (.type "bool") := by decide +kernel
theorem bb_str : bootBuiltins "str" = some (.type "str") := by decide +kernel
theorem bb_list : bootBuiltins "list" = some (.type "list") := by decide +kernel
theorem bb_tuple : bootBuiltins "tuple" = some (.type "tuple") := by decide +kernel
def GlobC (K : PySem.W.Frag) (mg : Str → Option Value) (x : Str) (d : D) : Prop := ∃ (u : Value) (v : V), mg x = some u ∧ RelV v u ∧ ∀ A G, DR A G K v d
section
variable {X : Cx} {W : WX} {ca : Str → Addr} {e a b c : Expr} {es : List Expr} {pos : Pos}
theorem se_callN {x : Str} {p : Pos} {ps : List Str} {k n : Nat} {g : List D → Sto → Res D} {f : FA} (d : Def X.prog X.w X.K X.mg X.base ca x ps k g) (hr : Room k X.A) (hgu : X.A.guards = some []) (tk : Takes X W) (hg : Gl X x) (ha : SA X W ca (e :: es) f)
    (hn : ps.length = n := by rfl) (hdb : (x == ("__debug__" : Str)) = false := by decide) (he : starEach (e :: es) X.env = (false, eval e X.env) :: starEach es X.env := by rfl) (hpl : (backTo pos (starEach es X.env)).any (·.1) = false := by rfl) :
    SE X W ca (.Call (.Name x p) (e :: es) [] pos) (fCall n g f) := by
  subst hn
  exact se_call d hr hgu tk hg ha hdb he hpl
theorem se_gc {x : Str} {d : D} (hg : Gl X x) (h : GlobC X.K X.mg x d) (hdb : (x == ("__debug__" : Str)) = false := by decide) : SE X W ca (.Name x pos) (fC d) :=
  let ⟨_, _, h1, h2, h3⟩ := h; se_glob hg h1 h2 h3 hdb
theorem se_app1 {o : Expr} {fo f : FE} {apos : Pos} (ho : SE X W ca o fo) (he : SE X W ca e f)
    (hbase : attributeBase o "append" X.env (eval o X.env) = eval o X.env := by rfl)
    (hfew : ((backTo pos (starEach [e] X.env)).all (fun x => !x.1) && (backToKw pos (keywordEach [] X.env)).all (fun x => x.1.isSome) && decide ([e].length + ([] : List Keyword).length + (if ([] : List Keyword).isEmpty then 0 else 1) < 30)) = true := by rfl)
    (hline : (apos.endLine == pos.line) = true := by rfl) (hs : starEach [e] X.env = (false, eval e X.env) :: starEach [] X.env := by rfl) (hplain : (backTo pos (starEach [] X.env)).any (·.1) = false := by rfl) :
    SE X W ca (.Call (.Attribute o "append" apos) [e] [] pos) (fApp fo f) :=
  se_app ho he (pe_bm PySem.F.plainAttrs_list PySem.F.slot_list_append PySem.F.type_list_append mt_append ho.pe (pa_cons he.pe pa_nil hs) hbase hfew hline hs hplain)
end
section
variable {K : PySem.W.Frag} {mg : Str → Option Value}
theorem globI {x : Str} {i : Int} {t : Tok} {h : Heap} (X : K.In h) (G : h.Ns mainGlobals mg) (q : PySem.W.nsIn K mainGlobals x = some (some (.int i t))) : GlobC K mg x (.int i) :=
  ⟨_, .int i, PySem.W.mg_of X G q, ⟨t, rfl⟩, fun _ _ => .int i⟩
theorem vals_strs : ∀ (ts : List (Str × Tok)), Vals ((ts.map (·.1)).map V.str) (ts.map fun p => Value.str p.1 p.2)
  | [] => .nil
  | p :: r => .cons ⟨p.2, rfl⟩ (vals_strs r)
theorem globL {x : Str} {o : Addr} {n : Nat} {h : Heap} (ts : List (Str × Tok)) (X : K.In h) (G : h.Ns mainGlobals mg) (q : PySem.W.nsIn K mainGlobals x = some (some (.ref o)))
    (l : K.lookup o = some ⟨.type "list", none, .seq (ts.map fun p => Value.str p.1 p.2).toArray n, #[]⟩) (few : ts.length ≤ 1000 := by exact Nat.le_of_ble_eq_true rfl) : GlobC K mg x (.kls (ts.map fun p => .str p.1)) := by
  have r := vals_strs ts
  have e : (ts.map fun p => D.str p.1) = (ts.map (·.1)).map D.str := by rw [List.map_map]; rfl
  refine ⟨_, .ref o, PySem.W.mg_of X G q, rfl, fun A G => ?_⟩
  rw [e]
  refine .kls (.inr ⟨_, _, n, l, rfl, rfl, rfl, ?_, ?_⟩) (dr_strs r)
  · rw [List.size_toArray, List.length_map]
    exact Nat.le_of_lt (small1000 few)
  · simpa using r
theorem std_mk {x : Str} {st : Stmt} {f : Addr} {oc : Value} {od an : Option Addr} {osl : Array (Option Value)} {kV doc pm cdv ct : Value} {h : Heap} {ps : List Str} (X : K.In h) (G : h.Ns mainGlobals mg) (a : PySem.W.nsIn K mainGlobals x = some (some (.ref f)))
    (l : K.lookup f = some ⟨oc, od, .func (PySem.W.fnOf x x (defArgs st) (defBody st) (defScope st) .none kV doc pm an cdv ct), osl⟩) (c : PySem.W.codeIn K cdv x = true) (k : PySem.W.keepIn K (.ref f) = true)
    (b : ∀ (kV doc pm : Value) (an : Option Addr) (cdv ct : Value) (us : List Value), us.length = ps.length → bindArgs (PySem.W.fnOf x x (defArgs st) (defBody st) (defScope st) .none kV doc pm an cdv ct) ⟨us, []⟩ = pure (ps.zip us)) : Std K mg x st ps :=
  ⟨_, _, PySem.W.mg_of X G a, fun_mk (st := st) l c k, (fun_mk (st := st) l c k).binds b⟩
end
end DL
set_option maxHeartbeats 2000000
namespace DL
open PySem PySem.Spec PyProof.Rows L2
theorem take_pre {S T : Sto} (h : S.length = T.length) (L : Sto) : (T ++ L).take S.length = T := by rw [h, List.take_left]
theorem tidyL_ok {d : D} {S T L : Sto} (hl : S.length = T.length) (hT : T.all (lowC S.length) = true) (hd : lowD S.length d = true) : tidy S.length (.ok d (T ++ L)) = .ok d T := by
  unfold tidy
  simp only [take_pre hl, hT, hd, Bool.and_self, if_true]
theorem bodyT_low {N : List Str} {n : Nat} {f : FS} {ds : List D} {S T : Sto} (L : Sto) {d : D} (h : bodyD N n f ds S = .ok d (T ++ L)) (hl : S.length = T.length) (hT : T.all (lowC S.length) = true) (hd : lowD S.length d = true) : bodyT N n f ds S = .ok d T := by
  unfold bodyT
  rw [h, tidyL_ok hl hT hd]
theorem bodyT_err {N : List Str} {n : Nat} {f : FS} {ds : List D} {S T : Sto} (L : Sto) {c : Str} {d : D} (h : bodyD N n f ds S = .err c d (T ++ L)) (hl : S.length = T.length) (hT : T.all (lowC S.length) = true) (hd : lowD S.length d = true) : bodyT N n f ds S = .err c d T := by
  unfold bodyT tidy
  rw [h]
  simp only [take_pre hl, hT, hd, Bool.and_self, if_true]
theorem bodyC_low {N : List Str} {n : Nat} {f : FS} {ds : List D} {S T L : Sto} {i : Nat} {xs : List D} (h : bodyD N n f ds S = .ok (.cel i) (T ++ L)) (hl : S.length = T.length) (hT : T.all (lowC S.length) = true) (hi : S.length ≤ i) (hx : (T ++ L)[i]? = some (.lst xs)) (hd : lowDs S.length xs = true) :
    bodyC N n f ds S = .ok (.cel S.length) (T ++ [.lst xs]) := by
  unfold bodyC tidyC
  rw [h]
  have : Nat.blt i S.length = false := by
    cases e : Nat.blt i S.length with
    | false => rfl
    | true => have := Nat.le_of_ble_eq_true e; omega
  simp only [this, hx, take_pre hl, hT, hd, Bool.and_self, if_true, Bool.false_eq_true, if_false]
theorem bodyC_err {N : List Str} {n : Nat} {f : FS} {ds : List D} {S T : Sto} (L : Sto) {c : Str} {d : D} (h : bodyD N n f ds S = .err c d (T ++ L)) (hl : S.length = T.length) (hT : T.all (lowC S.length) = true) (hd : lowD S.length d = true) : bodyC N n f ds S = .err c d T := by
  unfold bodyC tidyC tidy
  rw [h]
  simp only [take_pre hl, hT, hd, Bool.and_self, if_true]
mutual
def fit : D → Nat → Bool
  | .non, _ => true
  | .bl _, _ => true
  | .int _, _ => true
  | .str x, _ => PyData.strOk x
  | .lst _, 0 => false
  | .lst xs, n + 1 => fits xs n
  | .tup _, 0 => false
  | .tup xs, n + 1 => fits xs n
  | _, _ => false
def fits : List D → Nat → Bool
  | [], _ => true
  | d :: ds, n => fit d n && fits ds n
end
theorem fits_all : ∀ {ds : List D} {n : Nat}, fits ds n = ds.all fun d => fit d n
  | [], _ => rfl
  | d :: ds, n => by simp only [fits, List.all_cons, fits_all]
theorem fits_mem {ds : List D} {n : Nat} (h : fits ds n = true) {d : D} (m : d ∈ ds) : fit d n = true := by
  rw [fits_all, List.all_eq_true] at h
  exact h d m
mutual
theorem fit_up : ∀ {d : D} {n m : Nat}, n ≤ m → fit d n = true → fit d m = true
  | .non, _, _, _, _ => by simp [fit]
  | .bl _, _, _, _, _ => by simp [fit]
  | .int _, _, _, _, _ => by simp [fit]
  | .str _, _, _, _, h => by simpa [fit] using h
  | .lst xs, n, m, h, f => by
    cases n with
    | zero => simp [fit] at f
    | succ n =>
      cases m with
      | zero => omega
      | succ m =>
        simp only [fit] at f ⊢
        exact fits_up (by omega) f
  | .tup xs, n, m, h, f => by
    cases n with
    | zero => simp [fit] at f
    | succ n =>
      cases m with
      | zero => omega
      | succ m =>
        simp only [fit] at f ⊢
        exact fits_up (by omega) f
  | .kls _, n, _, _, h => by cases n <;> simp [fit] at h
  | .dct _, n, _, _, h => by cases n <;> simp [fit] at h
  | .cel _, n, _, _, h => by cases n <;> simp [fit] at h
  | .fn _, n, _, _, h => by cases n <;> simp [fit] at h
theorem fits_up : ∀ {ds : List D} {n m : Nat}, n ≤ m → fits ds n = true → fits ds m = true
  | [], _, _, _, _ => rfl
  | d :: ds, n, m, h, f => by
    simp only [fits, Bool.and_eq_true] at f ⊢
    exact ⟨fit_up h f.1, fits_up h f.2⟩
end
mutual
theorem fit_nc : ∀ {d : D} {n : Nat}, fit d n = true → noCel d = true
  | .non, _, _ => rfl
  | .bl _, _, _ => rfl
  | .int _, _, _ => rfl
  | .str _, _, _ => rfl
  | .lst xs, n, h => by
    cases n with
    | zero => simp [fit] at h
    | succ n => simp only [fit] at h; simp only [noCel]; exact fits_nc h
  | .tup xs, n, h => by
    cases n with
    | zero => simp [fit] at h
    | succ n => simp only [fit] at h; simp only [noCel]; exact fits_nc h
  | .kls _, n, h => by cases n <;> simp [fit] at h
  | .dct _, n, h => by cases n <;> simp [fit] at h
  | .cel _, n, h => by cases n <;> simp [fit] at h
  | .fn _, n, h => by cases n <;> simp [fit] at h
theorem fits_nc : ∀ {ds : List D} {n : Nat}, fits ds n = true → noCels ds = true
  | [], _, _ => rfl
  | d :: ds, n, h => by
    simp only [fits, Bool.and_eq_true] at h
    simp only [noCels, Bool.and_eq_true]
    exact ⟨fit_nc h.1, fits_nc h.2⟩
end
mutual
theorem fit_to {S : Sto} : ∀ {d : D} {n : Nat}, fit d n = true → ∃ p, toP S d = some p ∧ p.canLay0 = true ∧ p.depth ≤ n
  | .non, _, _ => ⟨_, rfl, rfl, by simp [PyData.depth]⟩
  | .bl _, _, _ => ⟨_, rfl, rfl, by simp [PyData.depth]⟩
  | .int _, _, _ => ⟨_, rfl, rfl, by simp [PyData.depth]⟩
  | .str _, n, h => ⟨_, rfl, by cases n <;> simpa [fit, PyData.canLay0] using h, by simp [PyData.depth]⟩
  | .lst xs, n, h => by
    cases n with
    | zero => simp [fit] at h
    | succ n =>
      simp only [fit] at h
      obtain ⟨ps, h1, h2, h3⟩ := fits_to (S := S) h
      exact ⟨.list ps, by simp [toP, h1], by simpa [PyData.canLay0] using h2, by simp only [PyData.depth]; omega⟩
  | .tup xs, n, h => by
    cases n with
    | zero => simp [fit] at h
    | succ n =>
      simp only [fit] at h
      obtain ⟨ps, h1, h2, h3⟩ := fits_to (S := S) h
      exact ⟨.tuple ps, by simp [toP, h1], by simpa [PyData.canLay0] using h2, by simp only [PyData.depth]; omega⟩
  | .kls _, n, h => by cases n <;> simp [fit] at h
  | .dct _, n, h => by cases n <;> simp [fit] at h
  | .cel _, n, h => by cases n <;> simp [fit] at h
  | .fn _, n, h => by cases n <;> simp [fit] at h
theorem fits_to {S : Sto} : ∀ {ds : List D} {n : Nat}, fits ds n = true → ∃ ps, toPs S ds = some ps ∧ PyData.canLayAll0 ps = true ∧ PyData.depthAll ps ≤ n
  | [], _, _ => ⟨[], rfl, rfl, by simp [PyData.depthAll]⟩
  | d :: ds, n, h => by
    simp only [fits, Bool.and_eq_true] at h
    obtain ⟨p, h1, h2, h3⟩ := fit_to (S := S) h.1
    obtain ⟨ps, k1, k2, k3⟩ := fits_to (S := S) h.2
    exact ⟨p :: ps, by simp [toPs, h1, k1], by simp [PyData.canLayAll0, h2, k2], by simp only [PyData.depthAll]; omega⟩
end
theorem fit_shaped {S : Sto} {d : D} {n : Nat} (h : fit d n = true) (hn : n ≤ 64) : ∃ p, toP S d = some p ∧ SeqAt.shaped p = true := by
  obtain ⟨p, h1, h2, h3⟩ := fit_to (S := S) h
  refine ⟨p, h1, ?_⟩
  unfold SeqAt.shaped
  rw [h2, Bool.true_and, decide_eq_true_eq]
  omega
theorem eqB_nil {S : Sto} {xs : List D} {n : Nat} (h : fits xs n = true) (hn : n ≤ 63) : eqB S (.lst xs) (.lst []) = some xs.isEmpty := by
  have h' : fit (.lst xs) (n + 1) = true := by simpa [fit] using h
  obtain ⟨p, h1, h2⟩ := fit_shaped (S := S) h' (by omega)
  obtain ⟨ps, k1, _⟩ := fits_to (S := S) h
  have e : p = .list ps := by
    simp only [toP, k1, Option.map_some, Option.some.injEq] at h1
    exact h1.symm
  subst e
  unfold eqB
  simp only [h1, h2]
  have sn : toP S (.lst []) = some (.list []) := rfl
  rw [sn]
  simp only [show SeqAt.shaped (.list []) = true by decide, Bool.and_self, if_true, Option.some.injEq]
  cases xs with
  | nil =>
    simp only [toPs, Option.some.injEq] at k1
    subst k1
    rfl
  | cons x xs =>
    simp only [toPs] at k1
    split at k1
    · cases k1
      rw [h2]
      rfl
    · cases k1
theorem compD_pure {g : FG} {c : FT} {el : FE} {ρ : Env} {S : Sto} (p : D → Bool) (f : D → D) : ∀ {ds : List D}, (∀ d ∈ ds, ∃ ρ1, g d ρ S = .ok ρ1 S ∧ c ρ1 S = .ok (p d) S ∧ (p d = true → el ρ1 S = .ok (f d) S)) →
    compD g c el ds ρ S = .ok ((ds.filter p).map f) S
  | [], _ => rfl
  | d :: ds, h => by
    obtain ⟨ρ1, h1, h2, h3⟩ := h d List.mem_cons_self
    have ih := compD_pure p f (ds := ds) fun x m => h x (List.mem_cons_of_mem _ m)
    unfold compD
    rw [h1, Res.bind_ok, h2, Res.bind_ok]
    cases e : p d with
    | true => rw [if_pos rfl, h3 e, Res.bind_ok, ih, Res.bind_ok, List.filter_cons_of_pos e, List.map_cons]
    | false => rw [if_neg (by simp), ih, List.filter_cons_of_neg (by simp [e])]
theorem fLc_pure {vs : List Nat} {fi : FI} {g : FG} {c : FT} {el : FE} {ρ : Env} {S : Sto} {xs : List D} (p : D → Bool) (f : D → D) (hi : fi ρ S = .ok ⟨xs, none⟩ S) (hl : xs.length < capN)
    (h : ∀ d ∈ xs, ∃ ρ1, g d (wipeE ρ vs) S = .ok ρ1 S ∧ c ρ1 S = .ok (p d) S ∧ (p d = true → el ρ1 S = .ok (f d) S)) : fLc vs fi g c el ρ S = .ok (.lst ((xs.filter p).map f)) S := by
  unfold fLc
  rw [hi]
  simp only [Res.bind_ok, hl, if_true, withLock_none]
  rw [compD_pure p f h]
  rfl
theorem fits_filter {xs : List D} {n : Nat} (p : D → Bool) (h : fits xs n = true) : fits (xs.filter p) n = true := by
  rw [fits_all, List.all_eq_true] at h ⊢
  exact fun x m => h x (List.mem_filter.mp m).1
theorem isEmpty_filter {α : Type} (p : α → Bool) : ∀ xs : List α, (xs.filter p).isEmpty = xs.all fun x => !p x
  | [] => rfl
  | x :: xs => by
    cases e : p x with
    | true => simp [e]
    | false => rw [List.filter_cons_of_neg (by simp [e]), isEmpty_filter p xs]; simp [e]
@[simp] theorem atI_0 {α : Type} {x : α} {r : List α} : atI (x :: r) 0 = some x := by
  unfold atI ixN
  have : (0 : Int) < ((x :: r).length : Nat) := by simp only [List.length_cons]; omega
  rw [if_pos (Int.le_refl 0), if_pos this]
  rfl
@[simp] theorem atI_1 {α : Type} {x y : α} {r : List α} : atI (x :: y :: r) 1 = some y := by
  unfold atI ixN
  have : (1 : Int) < ((x :: y :: r).length : Nat) := by simp only [List.length_cons]; omega
  rw [if_pos (by decide), if_pos this]
  rfl
theorem atI_at {α : Type} {xs : List α} {j : Nat} {x : α} (h : xs[j]? = some x) : atI xs (j : Int) = some x := by
  have hl := (List.getElem?_eq_some_iff.mp h).1
  unfold atI ixN
  have : ((j : Nat) : Int) < (xs.length : Nat) := by omega
  rw [if_pos (by omega), if_pos this]
  simpa using h
@[simp] theorem lenD_lst {S : Sto} {xs : List D} : lenD [.lst xs] S = some (.int xs.length) := rfl
@[simp] theorem lenD_tup {S : Sto} {xs : List D} : lenD [.tup xs] S = some (.int xs.length) := rfl
@[simp] theorem ixD_tup {S : Sto} {xs : List D} {i : Int} : ixD (.tup xs) (.int i) S = atI xs i := rfl
@[simp] theorem ixD_lst {S : Sto} {xs : List D} {i : Int} : ixD (.lst xs) (.int i) S = atI xs i := rfl
@[simp] theorem eqD_int {S : Sto} {i j : Int} : eqD (.int i) (.int j) S = some (.bl (decide (i = j))) := rfl
@[simp] theorem eqD_str {S : Sto} {a b : Str} : eqD (.str a) (.str b) S = some (.bl (decide (a = b))) := rfl
@[simp] theorem neD_int {S : Sto} {i j : Int} : neD (.int i) (.int j) S = some (.bl (!decide (i = j))) := rfl
@[simp] theorem neD_str {S : Sto} {a b : Str} : neD (.str a) (.str b) S = some (.bl (!decide (a = b))) := rfl
@[simp] theorem leD_int {S : Sto} {i j : Int} : leD (.int i) (.int j) S = some (.bl (decide (i ≤ j))) := rfl
@[simp] theorem ltD_int {S : Sto} {i j : Int} : ltD (.int i) (.int j) S = some (.bl (decide (i < j))) := rfl
@[simp] theorem gtD_int {S : Sto} {i j : Int} : gtD (.int i) (.int j) S = some (.bl (decide (i > j))) := rfl
@[simp] theorem geD_int {S : Sto} {i j : Int} : geD (.int i) (.int j) S = some (.bl (decide (i ≥ j))) := rfl
@[simp] theorem addD_int {S : Sto} {i j : Int} : addD (.int i) (.int j) S = some (.int (i + j)) := rfl
@[simp] theorem subD_int {S : Sto} {i j : Int} : subD (.int i) (.int j) S = some (.int (i - j)) := rfl
theorem eqD_nil {S : Sto} {xs : List D} {n : Nat} (h : fits xs n = true) (hn : n ≤ 63) : eqD (.lst xs) (.lst []) S = some (.bl xs.isEmpty) := by
  unfold eqD
  rw [eqB_nil h hn]
  rfl
theorem neD_nil {S : Sto} {xs : List D} {n : Nat} (h : fits xs n = true) (hn : n ≤ 63) : neD (.lst xs) (.lst []) S = some (.bl (!xs.isEmpty)) := by
  unfold neD
  rw [eqB_nil h hn]
  rfl
theorem smallI_nat {n : Nat} (h : n ≤ 1000000000) : smallI (n : Int) = true := by
  unfold smallI
  exact ltN_of (by omega)
theorem capN_of {n : Nat} (h : n ≤ 1000000) : n < capN := Nat.lt_of_le_of_lt h (by decide +kernel)
theorem smallI_one : smallI 1 = true := smallI_nat (n := 1) (by decide)
theorem fiRng2_ok {f : FA} {ρ : Env} {S S1 : Sto} {i j : Int} (h : f ρ S = .ok [.int i, .int j] S1) (hi : smallI i = true) (hj : smallI j = true) : fiRng2 f ρ S = .ok ⟨rangeD i (j - i).toNat, none⟩ S1 := by
  unfold fiRng2
  rw [h]
  show (if (smallI i && smallI j) = true then _ else _) = _
  rw [hi, hj]
  rfl
theorem fiRng1_ok {f : FA} {ρ : Env} {S S1 : Sto} {j : Int} (h : f ρ S = .ok [.int j] S1) (hj : smallI j = true) : fiRng1 f ρ S = .ok ⟨rangeD 0 j.toNat, none⟩ S1 := by
  unfold fiRng1
  rw [h]
  show (if smallI j = true then _ else _) = _
  rw [hj]
  rfl
theorem mulOk_l {i j : Int} (h : i.natAbs < 18446744073709551616) : mulOk i j = true := by
  unfold mulOk
  rw [ltN_of h, Bool.true_or, Bool.true_or]
theorem mulOk_r {i j : Int} (h : j.natAbs < 18446744073709551616) : mulOk i j = true := by
  unfold mulOk
  rw [ltN_of h, Bool.or_true, Bool.true_or]
theorem fdivOk_of {j : Int} (h0 : 0 < j) (h : j.natAbs < 1073741824) : fdivOk j = true := by
  unfold fdivOk
  rw [ltN_of h, decide_eq_true h0]
  rfl
theorem mulD_int {S : Sto} {i j : Int} (h : mulOk i j = true) : mulD (.int i) (.int j) S = some (.int (i * j)) := by
  show (if mulOk i j = true then _ else _) = _
  rw [if_pos h]
theorem fdivD_int {S : Sto} {i j : Int} (h : fdivOk j = true) : fdivD (.int i) (.int j) S = some (.int (i / j)) := by
  show (if fdivOk j = true then _ else _) = _
  rw [if_pos h]
theorem modD_int {S : Sto} {i j : Int} (h : 0 < j) : modD (.int i) (.int j) S = some (.int (i % j)) := by
  show (if decide (0 < j) = true then _ else _) = _
  rw [if_pos (decide_eq_true h)]
@[simp] theorem intD_int {S : Sto} {i : Int} : intD [.int i] S = some (.int i) := rfl
def gen (a b c : Int) : CO := .lst [.int a, .int b, .int c]
def Gn (n : Nat) (x : CO) : Prop := ∃ a b c : Int, x = gen a b c ∧ 0 ≤ a ∧ 0 ≤ b ∧ b < 2147483647 ∧ 0 ≤ c ∧ c ≤ n
theorem Gn.up {n m : Nat} {x : CO} (h : Gn n x) (l : n ≤ m) : Gn m x := let ⟨a, b, c, e, h1, h2, h3, h4, h5⟩ := h; ⟨a, b, c, e, h1, h2, h3, h4, by omega⟩
theorem Gn.free {n : Nat} {x : CO} (h : Gn n x) : coFree x = true := by
  obtain ⟨a, b, c, rfl, _⟩ := h
  rfl
theorem Gn.all {n : Nat} {x : CO} {L : Sto} (h : Gn n x) (hL : L.all coFree = true) : List.all (x :: L) coFree = true := by rw [List.all_cons, h.free, hL]; rfl
theorem powD_int {S : Sto} {i j : Int} (h : powOk i j = true) : powD (.int i) (.int j) S = some (.int (i ^ j.toNat)) := by
  show (if powOk i j = true then _ else _) = _
  rw [if_pos h]
theorem fiRng1_nat {f : FA} {ρ : Env} {S S1 : Sto} {j : Nat} (h : f ρ S = .ok [.int j] S1) (hj : j ≤ 1000000000) : fiRng1 f ρ S = .ok ⟨rangeD 0 j, none⟩ S1 := by
  have q := fiRng1_ok h (smallI_nat hj)
  rw [Int.toNat_natCast] at q
  exact q
theorem fLc_st {vs : List Nat} {fi : FI} {g : FG} {c : FT} {el : FE} {ρ : Env} {S S1 S2 : Sto} {xs ys : List D} (hi : fi ρ S = .ok ⟨xs, none⟩ S1) (hl : xs.length < capN) (h : compD g c el xs (wipeE ρ vs) S1 = .ok ys S2) : fLc vs fi g c el ρ S = .ok (.lst ys) S2 := by
  unfold fLc
  rw [hi]
  simp only [Res.bind_ok, hl, if_true, withLock_none]
  rw [h]
  rfl
theorem fFor_st {fi : FI} {g : FG} {f : FS} {ρ : Env} {S S1 : Sto} {xs : List D} {r : Res (Fl × Env)} (hi : fi ρ S = .ok ⟨xs, none⟩ S1) (h : loopD g f xs ρ S1 = r) : fFor fi g f ρ S = r := by
  unfold fFor
  rw [hi]
  exact h
theorem fSeq_nx {f g : FS} {ρ ρ1 : Env} {S S1 : Sto} (h : f ρ S = .ok (.nx, ρ1) S1) : fSeq f g ρ S = g ρ1 S1 := by
  unfold fSeq
  rw [h]
  rfl
theorem fSeq_rt {f g : FS} {ρ ρ1 : Env} {S S1 : Sto} {d : D} (h : f ρ S = .ok (.rt d, ρ1) S1) : fSeq f g ρ S = .ok (.rt d, ρ1) S1 := by
  unfold fSeq
  rw [h]
  rfl
theorem bodyD_rt {N : List Str} {n : Nat} {f : FS} {ds : List D} {S S1 : Sto} {ρ1 : Env} {d : D} (h : f (ds.map some ++ List.replicate (N.length - n) none) S = .ok (.rt d, ρ1) S1) : bodyD N n f ds S = .ok d S1 := by
  unfold bodyD
  rw [h]
  rfl
end DL
namespace DL
open PySem PySem.Spec PyProof.Rows L2
theorem fC_ap {d : D} {ρ : Env} {S : Sto} : fC d ρ S = (.ok d S) := rfl
theorem fVar_ap {i : Nat} {ρ : Env} {S : Sto} : fVar i ρ S = (match ρ[i]? with
  | some (some d) => .ok d S
  | _ => .bad) := rfl
theorem fOp_ap {r : Op2} {fa fb : FE} {ρ : Env} {S : Sto} : fOp r fa fb ρ S = ((fa ρ S).bind fun x S1 => (fb ρ S1).bind fun y S2 => okO (r x y S2) S2) := rfl
theorem fB_ap {f : FE} {ρ : Env} {S : Sto} : fB f ρ S = (asB (f ρ S)) := rfl
theorem fAnd_ap {f g : FT} {ρ : Env} {S : Sto} : fAnd f g ρ S = ((f ρ S).bind fun c S1 => if c = true then g ρ S1 else .ok false S1) := rfl
theorem fOr_ap {f g : FT} {ρ : Env} {S : Sto} : fOr f g ρ S = ((f ρ S).bind fun c S1 => if c = true then .ok true S1 else g ρ S1) := rfl
theorem fNot_ap {f : FT} {ρ : Env} {S : Sto} : fNot f ρ S = ((f ρ S).bind fun c S1 => .ok (!c) S1) := rfl
theorem fAndV_ap {f g : FE} {ρ : Env} {S : Sto} : fAndV f g ρ S = ((asB (f ρ S)).bind fun c S1 => if c = true then g ρ S1 else .ok (.bl false) S1) := rfl
theorem fOrV_ap {f g : FE} {ρ : Env} {S : Sto} : fOrV f g ρ S = ((asB (f ρ S)).bind fun c S1 => if c = true then .ok (.bl true) S1 else g ρ S1) := rfl
theorem fNotV_ap {f : FE} {ρ : Env} {S : Sto} : fNotV f ρ S = ((asB (f ρ S)).bind fun c S1 => .ok (.bl (!c)) S1) := rfl
theorem fIf_ap {t : FT} {f g : FE} {ρ : Env} {S : Sto} : fIf t f g ρ S = ((t ρ S).bind fun c S1 => if c = true then f ρ S1 else g ρ S1) := rfl
theorem fNil_ap {ρ : Env} {S : Sto} : fNil  ρ S = (.ok [] S) := rfl
theorem fCons_ap {f : FE} {g : FA} {ρ : Env} {S : Sto} : fCons f g ρ S = ((f ρ S).bind fun d S1 => (g ρ S1).bind fun ds S2 => .ok (d :: ds) S2) := rfl
theorem fTup_ap {f : FA} {ρ : Env} {S : Sto} : fTup f ρ S = ((f ρ S).bind fun ds S1 => if ds.length ≤ capN then .ok (.tup ds) S1 else .bad) := rfl
theorem fLst_ap {f : FA} {ρ : Env} {S : Sto} : fLst f ρ S = ((f ρ S).bind fun ds S1 => if ds.length ≤ capN then .ok (.lst ds) S1 else .bad) := rfl
theorem fLstC_ap {f : FA} {ρ : Env} {S : Sto} : fLstC f ρ S = ((f ρ S).bind fun ds S1 => if ds.length ≤ capN then .ok (.cel S1.length) (S1 ++ [.lst ds]) else .bad) := rfl
theorem fNoPart_ap {ρ : Env} {S : Sto} : fNoPart  ρ S = (.ok none S) := rfl
theorem fPart_ap {f : FE} {ρ : Env} {S : Sto} : fPart f ρ S = ((f ρ S).bind fun d S1 => match d with
  | .int i => .ok (some i) S1
  | _ => .bad) := rfl
theorem fSl_ap {f : FE} {lo hi : FO} {ρ : Env} {S : Sto} : fSl f lo hi ρ S = ((f ρ S).bind fun d S1 => (lo ρ S1).bind fun l S2 => (hi ρ S2).bind fun h S3 => okO (slD d l h S3) S3) := rfl
theorem fNeg_ap {f : FE} {ρ : Env} {S : Sto} : fNeg f ρ S = ((f ρ S).bind fun d S1 => match d with
  | .int i => .ok (.int (-i)) S1
  | _ => .bad) := rfl
theorem fCB_ap {g : OpN} {f : FA} {ρ : Env} {S : Sto} : fCB g f ρ S = ((f ρ S).bind fun ds S1 => okO (g ds S1) S1) := rfl
theorem fIsi_ap {T : String} {f : FE} {ρ : Env} {S : Sto} : fIsi T f ρ S = ((f ρ S).bind fun d S1 => match tyD S1 d with
  | some t => .ok (.bl (isiB t T)) S1
  | none => .bad) := rfl
theorem fIsi2_ap {T U : String} {f : FE} {ρ : Env} {S : Sto} : fIsi2 T U f ρ S = ((f ρ S).bind fun d S1 => match tyD S1 d with
  | some t => .ok (.bl (isiB t T || isiB t U)) S1
  | none => .bad) := rfl
theorem fNext_ap {ρ : Env} {S : Sto} : fNext  ρ S = (.ok (.nx, ρ) S) := rfl
theorem fSeq_ap {f g : FS} {ρ : Env} {S : Sto} : fSeq f g ρ S = ((f ρ S).bind fun r S1 => match r.1 with
  | .nx => g r.2 S1
  | _ => .ok r S1) := rfl
theorem fRet_ap {f : FE} {ρ : Env} {S : Sto} : fRet f ρ S = ((f ρ S).bind fun d S1 => .ok (.rt d, ρ) S1) := rfl
theorem fRetF_ap {f : FE} {ρ : Env} {S : Sto} : fRetF f ρ S = ((f ρ S).bind fun d S1 => match frzD S1 d with
  | some (d', S2) => .ok (.rt d', ρ) S2
  | none => .bad) := rfl
theorem fgName_ap {i : Nat} {d : D} {ρ : Env} {S : Sto} : fgName i d ρ S = (.ok (ρ.set i (some d)) S) := rfl
theorem fgNil_ap {ds : List D} {ρ : Env} {S : Sto} : fgNil  ds ρ S = (match ds with
  | [] => .ok ρ S
  | _ => .bad) := rfl
theorem fgCons_ap {f : FG} {g : FGs} {ds : List D} {ρ : Env} {S : Sto} : fgCons f g ds ρ S = (match ds with
  | d :: r => (f d ρ S).bind fun ρ1 S1 => g r ρ1 S1
  | _ => .bad) := rfl
theorem fgTup_ap {n : Nat} {f : FGs} {d : D} {ρ : Env} {S : Sto} : fgTup n f d ρ S = (match d with
  | .tup xs => if xs.length = n then f xs ρ S else .bad
  | _ => .bad) := rfl
theorem fgSub_ap {fo fi : FE} {d : D} {ρ : Env} {S : Sto} : fgSub fo fi d ρ S = ((fo ρ S).bind fun o S1 => (fi ρ S1).bind fun i S2 => match setD o i d S2 with
  | some S3 => .ok ρ S3
  | none => .bad) := rfl
theorem fAsg_ap {f : FE} {g : FG} {ρ : Env} {S : Sto} : fAsg f g ρ S = ((f ρ S).bind fun d S1 => (g d ρ S1).bind fun ρ1 S2 => .ok (.nx, ρ1) S2) := rfl
theorem fPar_ap {i j : Nat} {f : FA} {ρ : Env} {S : Sto} : fPar i j f ρ S = ((f ρ S).bind fun ds S1 => match ds with
  | [x, y] => .ok (.nx, (ρ.set i (some x)).set j (some y)) S1
  | _ => .bad) := rfl
theorem fPar3_ap {i j k : Nat} {f : FA} {ρ : Env} {S : Sto} : fPar3 i j k f ρ S = ((f ρ S).bind fun ds S1 => match ds with
  | [x, y, z] => .ok (.nx, ((ρ.set i (some x)).set j (some y)).set k (some z)) S1
  | _ => .bad) := rfl
theorem fDrop_ap {f : FE} {ρ : Env} {S : Sto} : fDrop f ρ S = ((f ρ S).bind fun _ S1 => .ok (.nx, ρ) S1) := rfl
theorem fApp_ap {fo f : FE} {ρ : Env} {S : Sto} : fApp fo f ρ S = ((fo ρ S).bind fun o S1 => match lstOf S1 o with
  | some _ => (f ρ S1).bind fun d S2 => match appD o d S2 with
    | some S3 => .ok .non S3
    | none => .bad
  | none => .bad) := rfl
theorem fIfS_ap {t : FT} {f g : FS} {ρ : Env} {S : Sto} : fIfS t f g ρ S = ((t ρ S).bind fun c S1 => if c = true then f ρ S1 else g ρ S1) := rfl
theorem fiSeq_ap {f : FE} {ρ : Env} {S : Sto} : fiSeq f ρ S = ((f ρ S).bind fun d S1 => match iterOf S1 d with
  | some it => .ok it S1
  | none => .bad) := rfl
theorem fiTup_ap {f : FE} {ρ : Env} {S : Sto} : fiTup f ρ S = ((f ρ S).bind fun d S1 => match d with
  | .tup xs => .ok ⟨xs, none⟩ S1
  | _ => .bad) := rfl
theorem fiEnum_ap {f : FE} {ρ : Env} {S : Sto} : fiEnum f ρ S = ((f ρ S).bind fun d S1 => match iterOf S1 d with
  | some it => if it.cell = none then .ok ⟨enumD it.items, none⟩ S1 else .bad
  | none => .bad) := rfl
theorem fYes_ap {ρ : Env} {S : Sto} : fYes  ρ S = (.ok true S) := rfl
theorem fCall_ap {n : Nat} {g : List D → Sto → Res D} {f : FA} {ρ : Env} {S : Sto} : fCall n g f ρ S = ((f ρ S).bind fun ds S1 => if ds.length = n then g ds S1 else .bad) := rfl
theorem fCall0_ap {g : List D → Sto → Res D} {ρ : Env} {S : Sto} : fCall0 g ρ S = (g [] S) := rfl
theorem fChain_ap {r r' : Op2} {fa fb fc : FE} {ρ : Env} {S : Sto} : fChain r r' fa fb fc ρ S = ((fa ρ S).bind fun x S1 => (fb ρ S1).bind fun y S2 => (asB (okO (r x y S2) S2)).bind fun k S3 => if k = true then (fc ρ S3).bind fun z S4 => okO (r' y z S4) S4 else .ok (.bl false) S3) := rfl
theorem fBits_ap {f : FE} {ρ : Env} {S : Sto} : fBits f ρ S = ((f ρ S).bind fun d S1 => match d with
  | .int i => .ok (.int (Builtin.Int.intBits i : Nat)) S1
  | _ => .bad) := rfl
theorem fAddC_ap {fa fb : FE} {ρ : Env} {S : Sto} : fAddC fa fb ρ S = ((fa ρ S).bind fun x S1 => (fb ρ S1).bind fun y S2 => match addC x y S2 with
  | some xs => .ok (.cel S2.length) (S2 ++ [.lst xs])
  | none => .bad) := rfl
theorem fiAny_ap {f : FE} {ρ : Env} {S : Sto} : fiAny f ρ S = ((f ρ S).bind fun d S1 => match d with
  | .tup xs => .ok ⟨xs, none⟩ S1
  | d => match iterOf S1 d with
    | some it => .ok it S1
    | none => .bad) := rfl
end DL
set_option maxHeartbeats 4000000
namespace DL
open PySem PySem.Spec PyProof.Rows L2
structure InitAt (P : Program) (K : PySem.W.Frag) (mg : Str → Option Value) (C fI : Addr) (fd : FuncData) (st : Stmt) : Prop where
  oex : OexC K C
  iC : PySem.W.findIn K (.ref C) "__init__" = some (some (.ref fI))
  tI : PySem.W.typeIn K (.ref fI) = some (.type "function")
  nv : PySem.W.findIn K (.ref C) "value" = some none
  ms : mg "super" = none
  op : PySem.W.nsIn K cStatics "thirdparty.any" = some none
  tops : (P.main.scope.names.lookup ("super" : Str)).isSome = false
  cls : ∃ cd, PySem.W.clsIn K C = some cd
  sub : PySem.W.mroIn K C (.ref C) = some true
  sup : PySem.W.ks_superIn K C C "__init__" = some (some (.builtin "ValueError.__init__"))
  isV : PySem.W.subIn K (.ref C) (.type "ValueError") = some true
  exi : PySem.W.excInitIn K C [.type "ValueError", .type "Exception", .type "BaseException", .type "object"] "ValueError.__new__" = true
  fn : ∃ (qual : Str) (oc ccl cl : Value) (od cdd cld an : Option Addr) (osl ccs csl : Array (Option Value)) (dV kV doc pm ct : Value) (cc cda : Addr) (vs : Array Value) (file : Str) (tf : Tok),
    fd = PySem.W.ksFn "__init__" qual (defArgs st) (defBody st) (defScope st) dV kV doc pm an (.ref cda) ct cc ∧ K.lookup fI = some ⟨oc, od, .func fd, osl⟩ ∧ PySem.W.codeIn K (.ref cda) qual = true ∧ K.lookup cda = some ⟨ccl, cdd, .fields vs, ccs⟩ ∧
      vs[2]? = some (.str file tf) ∧ ((P.main.file : Str) == file) = true ∧ K.lookup cc = some ⟨cl, cld, .cell (some (.ref C)), csl⟩
structure InitT (st : Stmt) : Prop where
  body : ∃ p0 p1 p2 p3 p4 p5 p6 p7 p8 p9, defBody st = [.Expr (.Call (.Attribute (.Call (.Name "super" p0) [] [] p1) "__init__" p2) [.Name "value" p3] [] p4) p5, .Assign [.Attribute (.Name "self" p6) "value" p7] (.Name "value" p8) p9] ∧
    ∀ env, ∃ pl : Sem Bool, eval (.Call (.Attribute (.Call (.Name "super" p0) [] [] p1) "__init__" p2) [.Name "value" p3] [] p4) env = (do
      let ov ← attributeBase (.Call (.Name "super" p0) [] [] p1) "__init__" env (eval (.Call (.Name "super" p0) [] [] p1) env)
      standAt p2.atName
      let (f, first) ← holding [ov] (getMethod ov "__init__" pl)
      callWith p4 f first (backTo p4 (starEach [.Name "value" p3] env)) [])
  names : (defScope st).names.lookup ("super" : Str) = some .globalImplicit ∧ (defScope st).names.lookup ("__class__" : Str) = some .free ∧ (defScope st).names.lookup ("self" : Str) = some .local ∧ (defScope st).names.lookup ("value" : Str) = some .local
  free : ∀ y, (defScope st).names.lookup y = some .free → y = "__class__"
  nocell : ∀ x ∈ (defScope st).names, x.2 ≠ .cell
  co : (defScope st).isCoroutine = false
  gen : (defScope st).isGenerator = false
  kind : (defScope st).kind = .function
  head : ∃ ar, ((defArgs st).posonlyargs ++ (defArgs st).args).head? = some ar ∧ ar.arg = "self"
def initCx (P : Program) (w : World) (K : PySem.W.Frag) (mg : Str → Option Value) (base : Heap) (A : Around) (outer : List PySem.Env) (s : Shared) (H : Hp) (env : PySem.Env) : Cx where
  prog := P
  w := w
  K := K
  mg := mg
  base := base
  A := A.deeper env
  N := ["self", "value"]
  s_0 := s
  H_0 := H
  env := env
  outer := outer
  stack := env :: outer
  ex := []
  fn := fun _ => false
  calm := true
  pn := []
  xe := fun _ _ => False
def spI (K : PySem.W.Frag) (C : Addr) : Sp := fun vs H Q E => ∃ (a : Addr) (v : V), vs = [.ref a, v] ∧ H a = some (exo a C none) ∧ ∀ dx, H dx = none → dx ≠ a → Q .non (upd (upd H dx (exd dx [("value", v)])) a (exo a C (some dx)))
section
variable {P : Program} {w : World} {K : PySem.W.Frag} {mg : Str → Option Value} {base : Heap}
theorem init_fn {CX : CXT} {k : Nat} {C fI : Addr} {fd : FuncData} {st : Stmt} (T : InitAt P K mg C fI fd st) (B : InitT st) : FnOk P w K mg base CX (k + 1) fI fd ["self", "value"] (spI K C) := by
  obtain ⟨qual, oc, ccl, cl, od, cdd, cld, an, osl, ccs, csl, dV, kV, doc, pm, ct, cc, cda, vs, file, tf, rfl, hlk, hcode, hcda, hvs, hfile, hcc⟩ := T.fn
  obtain ⟨p0, p1, p2, p3, p4, p5, p6, p7, p8, p9, hb, hm⟩ := B.body
  obtain ⟨nS, nC, nF, nV⟩ := B.names
  obtain ⟨cdC, hcdC⟩ := T.cls
  obtain ⟨ar, har, harn⟩ := B.head
  refine ⟨fun vs H Q E ⟨a, v, e, _⟩ => by rw [e]; rfl, ?_⟩
  rintro A outer s H args us vs' Q E hr e0 bnd rel ⟨a, v, rfl, ha, hq⟩
  have kin : K.In s.heap := e0.mod.kin.keeps (fun b o e => (e0.bs b o e).1)
  have nol : s.heap.NoLimit := e0.mod.nolimit.keeps (fun b o e => (e0.bs b o e).1)
  cases rel with
  | @cons _ u0 _ ur ra rr =>
  cases rr with
  | @cons _ u1 _ ur2 rv rr2 =>
  cases rr2
  obtain rfl : u0 = Value.ref a := ra
  refine PySem.ks_codeAny_call_defAt (fd := PySem.W.ksFn "__init__" qual (defArgs st) (defBody st) (defScope st) dV kV doc pm an (.ref cda) ct cc) (body := defBody st) hr.depth (kin _ _ hlk) rfl nol (PySem.W.codeRec_of kin hcode) rfl bnd B.nocell
    (fun x hx => ?_) (fun h₀ hns hk => ?_) B.co B.gen B.kind
  · simp only [List.zip_cons_cons, List.zip_nil_right, List.mem_cons, List.not_mem_nil, or_false] at hx
    rcases hx with rfl | rfl
    · exact nF
    · exact nV
  let env : PySem.Env := PySem.W.ksEnv qual (defScope st) s.heap.objs.size fI (.ref cda) cc
  show _root_.PySem.wpAt (model P w) (A.deeper env) (.func (defBody st) env) (execs (defBody st) env) _ _ _
  let X : Cx := initCx P w K mg base A outer s H env
  have hmem : ∀ {y : Str} {c : Addr}, env.cells.lookup y = some c → y = "__class__" ∧ c = cc := fun {y c} e => by
    have e : ([("__class__", cc)] : List (Str × Addr)).lookup y = some c := e
    simp only [List.lookup] at e
    split at e
    · rename_i q
      exact ⟨by simpa using q, by cases e; rfl⟩
    · cases e
  have hKb : ∀ b o, K.lookup b = some o → base.get? b = some o := fun b o e => e0.mod.kin b o e
  have I : Inv X [] [some (.ref a), some v] H { s with heap := h₀, toks := s.toks + (List.zip ["self", "value"] [Value.ref a, u1]).length } := by
    have noA : ∀ b : Addr, b ∉ X.ex := fun b z => absurd (show b ∈ ([] : List Addr) from z) (by simp)
    refine ⟨⟨e0.mod, B.kind, rfl, rfl, Nat.le_refl _, fun y z c e1 e2 => (hmem e1).1.trans (hmem e2).1.symm, fun y hy => ?_, fun y c z _ => ?_, fun _ => hr.hd, Around.frames_deeper e0.frames, .inr ⟨rfl, rfl⟩, fun b z => absurd z (noA b), e0.bs, e0.bsz, fun b _ _ => noA b, fun b z => absurd z (noA b), e0.funs, e0.frf⟩,
      rfl, e0.bare, Un.kept hk, ⟨_, hns, fun i y x e1 e2 e3 => ?_⟩, fun y c e => ?_, e0.hok.fresh (Nat.le_refl _), fun y c e => ?_, fun p hp => absurd (show p ∈ ([] : List (Addr × Obj)) ++ [] from hp) (by simp), e0.hok.kept hk, rfl⟩
    · rcases hy with hy | hy
      · exact absurd rfl (B.nocell _ (PySem.mem_of_lookup hy))
      · refine ⟨cc, ?_⟩
        rw [B.free y hy]
        rfl
    · have z : false = true := z
      cases z
    · have e1 : (["self", "value"] : List Str)[i]? = some y := e1
      match i, e1, e2 with
      | 0, e1, e2 =>
        cases e1; cases e2
        exact ⟨.ref a, rfl, .inl ⟨nF, rfl⟩⟩
      | 1, e1, e2 =>
        cases e1; cases e2
        exact ⟨u1, rv, .inl ⟨nV, rfl⟩⟩
      | i + 2, e1, e2 => cases e1
    · obtain ⟨rfl, rfl⟩ := hmem e
      exact ⟨_, _, hk _ _ (kin _ _ hcc), rfl⟩
    · obtain ⟨rfl, rfl⟩ := hmem e
      exact (e0.bs _ _ (hKb _ _ hcc)).2
  rw [hb]
  obtain ⟨pl, hpl⟩ := hm env
  obtain ⟨t0, ho0⟩ := exo_at I.hok ha
  refine PySem.ks_wpAt_execs_cons (PySem.ks_wpAt_Expr_any (PySem.ks_wpAt_MethodCall ?_ hpl) (by unfold interactive; simp [show env.scope.kind = _ from B.kind]) (by rfl))
  have atr : (("__init__" : Str) == ("__class__" : Str)) = false := by decide
  refine PySem.ks_wpAt_super_base (env := env) (s := _) nS nC atr rfl (I.kIn _ _ hlk) rfl har rfl (I.kIn _ _ hcda) rfl hvs hfile T.tops ?_
  obtain ⟨mb, bl1, bl2⟩ := e0.mod.blt
  have keep0 : ∀ b o, base.get? b = some o → h₀.get? b = some o := fun b o e => hk _ _ (e0.bs b o e).1
  refine PySem.W.ks_loadName_global B.kind nS (Calls.loadGlobal_builtin (env := env) (e0.mod.glob.keeps keep0) T.ms (bl1.keeps keep0) ((bl2 _ (by decide)).trans Boot.«super») ⟨rfl, ?_⟩)
  refine wpAny_loadName_free B.kind nC rfl ⟨_, I.kIn _ _ hcc, rfl⟩ ?_
  rw [harn]
  refine wpAny_loadName_local (v := .ref a) B.kind nF hns rfl ?_
  obtain ⟨oD, hD1, hD2⟩ : ∃ oD, h₀.get? C = some oD ∧ oD.data = .cls cdC := by
    unfold PySem.W.clsIn at hcdC
    split at hcdC
    · rename_i c d cd' sl ho
      cases hcdC
      exact ⟨_, I.kIn _ _ ho, rfl⟩
    · cases hcdC
  have hX : PySem.W.InstAt h₀ a { cls := .ref C, dict := none, data := .fields #[.ref t0, .none, .none, .none, .bool false, .none] } C none := ⟨ho0, rfl, rfl, trivial⟩
  refine PySem.ks_wpAny_isType_cls hD1 hD2 ⟨rfl, ?_⟩
  refine PySem.ks_wpAny_call_super hD1 hD2 hX.at_ hX.cls (fun c e => ?_) (PySem.W.looks_mroIn I.kIn T.sub) (fun h1 e1 k1 => ?_)
  · cases e
  have I1 : Inv X [] [some (.ref a), some v] H { s with heap := h1, toks := s.toks + (List.zip ["self", "value"] [Value.ref a, u1]).length } := I.kept k1
  have hX1 : PySem.W.InstAt h1 a { cls := .ref C, dict := none, data := .fields #[.ref t0, .none, .none, .none, .bool false, .none] } C none := ⟨k1 _ _ ho0, rfl, rfl, trivial⟩
  have hal : PySem.W.alongIn K "__init__" ((cdC.mro.dropWhile (· != .ref C)).drop 1) = some (some (.builtin "ValueError.__init__")) := by
    have z := T.sup
    unfold PySem.W.ks_superIn at z
    rw [hcdC] at z
    exact z
  refine PySem.W.kxs_getMethod PySem.W.kxs_ValueError e1 (PySem.W.looks_opaque I1.kIn T.op) (l₀ := cdC.mro) ?_ rfl I1.kIn hal (hX1.type.andThen (PySem.W.looks_subIn I1.kIn T.isV)) (PySem.W.ks_ne I1.kIn hX1 hcdC) atr ?_
  · exact fun A Q E s kk qq => wpAny_bind ((PySem.W.looks_clsIn I1.kIn hcdC) A _ E s kk (wpAny_pure qq))
  have k2 : ∀ b o, h1.get? b = some o → (h1.push (PySem.W.kxs_mw "ValueError.__init__" a)).get? b = some o := fun b o e => Heap.get?_push_of_some _ e
  have I2 := I1.kept (t' := s.toks + (List.zip ["self", "value"] [Value.ref a, u1]).length + 1) k2
  have hmw : (h1.push (PySem.W.kxs_mw "ValueError.__init__" a)).get? h1.objs.size = some (PySem.W.kxs_mw "ValueError.__init__" a) := Heap.get?_push_at rfl rfl
  obtain ⟨t2, ho2⟩ := exo_at I2.hok ha
  refine PySem.W.kxs_callWith (i := "ValueError.__init__") (x := a) (by rfl) (Calls.evalArgs_plain (Calls.spliced_cons (wpAny_Name (wpAny_loadName_local (v := u1) B.kind nV ((hns.keeps k1).keeps k2) rfl (Calls.spliced_nil ⟨hmw, ?_⟩)) (by decide))))
  obtain ⟨nm, N', qn, bs, bm, hdct, sn, sub, ab, col, dd, c0, c1, c2, c3, c5, hC, hT⟩ := PySem.W.excInit_of I2.kIn T.exi
  refine wpAny_call (codeAny_of_tree (show wpAny (model P w) (A.deeper env).in1 (callAny (.ref h1.objs.size) ⟨[u1], []⟩) _ _ _ from ?_))
  unfold callAny
  refine wpAny_bind (wpAny_load hmw ?_)
  simp only [PySem.W.kxs_mw, show (Value.type "method-wrapper" == Value.type "method" || Value.type "method-wrapper" == Value.type "builtin_function_or_method" || Value.type "method-wrapper" == Value.type "method-wrapper") = true from by decide, if_true]
  refine PySem.W.KFB.if_so (by decide) (wpAny_bind (PySem.W.check_bound_init F.excBase_ValueError.toExcCallFacts hC ho2 rfl (wpAny_bind (wpAny_pure (wpAny_pure ⟨plainId_quiet F.excBase_ValueError.init.plain _, codeAny_builtin F.excBase_ValueError.initEntry ?_⟩)))))
  refine PySem.W.exc_init_tree (cls := .ref C) (t0 := t2) (dv := none) (c2 := .none) (c3 := .none) (b4 := .bool false) ho2 (show 1 ≤ sizeLine by rw [sizeLine_eq]; omega) fun h3 k3 ho3 _ => ?_
  have J := I2.write (t' := s.toks + (List.zip ["self", "value"] [Value.ref a, u1]).length + 1) (x := a) (e := a) (o := exo a C none) (by rw [ha]; exact True.intro) (.inl rfl) k3 ⟨_, ho3⟩ (exo_ok ho3)
  have eu : upd H a (exo a C none) = H := funext fun b => by
    by_cases hb : b = a
    · rw [hb, upd_same, ha]
    · rw [upd_ne hb]
  rw [eu] at J
  have hp := pss_one (ps_ost (X := X) (f := "value") (p' := p7) (pos := p9) (o := .Name "self" p6) (e := .Name "value" p8) (pe_var (pos := p6) (i := 0) rfl (.inl nF)) (pe_var (pos := p8) (i := 1) rfl (.inl nV)))
  refine wpAt_of_wpAny (wpAny_mono (hp.run [] _ [some (.ref a), some v] H { nx := fun _ H' => Q .non H', rt := fun _ _ => False } J ?_) (fun fl s' hs => ?_) fun _ _ z => z.elim)
  · exact ⟨v, rfl, .ref a, rfl, a, C, rfl, T.oex, T.nv, .inl ⟨ha, hq⟩⟩
  · cases fl with
    | next =>
      obtain ⟨σ', H', J', z⟩ := hs
      exact ⟨V.non, H', J'.os, J'.bare, J'.base, J'.hok, rfl, z⟩
    | ret u => obtain ⟨_, _, _, _, _, z⟩ := hs; exact z.elim
    | brk => obtain ⟨_, _, _, z⟩ := hs; exact z.elim
    | cont => obtain ⟨_, _, _, z⟩ := hs; exact z.elim
end
end DL
set_option maxHeartbeats 4000000
namespace DL
open PySem PySem.Spec PyProof.Rows L2
structure XCls (P : Program) (K : PySem.W.Frag) (mg : Str → Option Value) (ca : Str → Addr) (c : Str) : Prop where
  ex : ∃ (fI : Addr) (fd : FuncData) (st : Stmt), InitAt P K mg (ca c) fI fd st ∧ InitT st ∧ L2.Binds K fd ["self", "value"] [] ∧ mg c = some (.ref (ca c))
def fRaise (c : Str) (f : FE) : FS := fun ρ S => (f ρ S).bind fun d S1 => .err c d S1
section
variable {X : Cx} {W : WX} {ca : Str → Addr} {e a b : Expr} {es : List Expr} {pos pos2 : Pos} {c : Str}
theorem pmk_x (T : XCls X.prog X.K X.mg ca c) {k : Nat} (hr : Room (k + 2) X.A) (tk : Takes X W) (hg : Gl X c) {p : Pos} {f : FE} (he : SE X W ca e f) (hdb : (c == ("__debug__" : Str)) = false := by decide)
    (hs : starEach [e] X.env = (false, eval e X.env) :: starEach [] X.env := by rfl) :
    PMk X (.Call (.Name c p) [e] [] pos) (fun σ H Q => ∃ A Z S ρ, SOk X.K A Z S H ∧ Sl X.K A (cut A Z S H) ρ σ ∧ Post X.K W ca A Z S H σ (f ρ S) fun B U I d => ∀ v, DR B (cut B Z U I) X.K v d → ∀ dx, I dx = none → Q (.ref (ca c)) (some dx) (upd I dx (.xd [("value", v)]))) := by
  obtain ⟨fI, fd, st, T1, T2, T3, T4⟩ := T.ex
  have m := pmk_oex (CX := L2.CX X.prog X.w) (x := c) (p := p) (pos := pos) (e := e) (es := []) (k := k + 1) (dvs := []) (ds := []) T1.oex T1.iC T1.tI (init_fn T1 T2) hr T3 .nil (passes_call tk fun _ _ _ _ h => h.elim) hg T4 (pa_cons he.pe pa_nil hs) hdb hs (by rfl)
  intro pins s σ H Q I ⟨A, Z, S, ρ, ok, sl, po⟩
  refine m pins s σ H Q I ?_
  refine ⟨A, Z, S, ρ, ok, sl, po.imp fun B U J d g q v rv => ?_⟩
  refine ⟨show 1 ≤ 1000 by decide, fun x hx => ⟨x, v, rfl, upd_same, fun dx hdx hne => ⟨rfl, dx, [("value", v)], upd_same, ?_, ?_, ?_⟩⟩⟩
  · rw [upd_ne hne, upd_same]
  · rw [upd_ne hne] at hdx
    exact hdx
  · have hdx2 : J dx = none := by
      rw [upd_ne hne] at hdx
      exact hdx
    have e : upd (del (upd (upd (upd J x (exo x (ca c) none)) dx (exd dx [("value", v)])) x (exo x (ca c) (some dx))) x) dx (.xd [("value", v)]) = upd J dx (.xd [("value", v)]) := by
      funext b
      by_cases h1 : b = dx
      · rw [h1, upd_same, upd_same]
      · rw [upd_ne h1, upd_ne h1]
        by_cases h2 : b = x
        · rw [h2, del_same, hx]
        · rw [del_ne h2, upd_ne h2, upd_ne h1, upd_ne h2]
    rw [e]
    exact q v rv dx hdx2
theorem ss_raise (T : XCls X.prog X.K X.mg ca c) {k : Nat} (hr : Room (k + 2) X.A) (tk : Takes X W) (hc : X.calm = true) (hg : Gl X c) {p : Pos} {f : FE} (he : SE X W ca e f) (hdb : (c == ("__debug__" : Str)) = false := by decide)
    (hs : starEach [e] X.env = (false, eval e X.env) :: starEach [] X.env := by rfl) : SS X W ca (.Raise (some (.Call (.Name c p) [e] [] pos)) none pos2) (fRaise c f) := by
  refine ss_of (ps_raise hc tk (pmk_x T hr tk hg he hdb hs)) fun D σ H ⟨A, Z, S, ρ, ok, sl, po⟩ => ?_
  refine ⟨A, Z, S, ρ, ok, sl, (Post.split po).imp fun B U J d g q v rv dx hdx => ?_⟩
  exact q B (upd J dx (.xd [("value", v)])) dx v σ (.new g.ok hdx) (cut_new g.ok hdx) (rv.mono (List.prefix_refl _) (cut_upd hdx))
end
end DL
set_option maxHeartbeats 4000000
set_option maxHeartbeats 4000000
namespace DL
open PySem PySem.Spec PyProof.Rows L2
structure LW where
  H : Hp
  A : List Addr
  Z : List Addr
  S : Sto
structure LatD (ω : LW) (A Z : List Addr) (S : Sto) (H : Hp) : Prop where
  pre : ω.A <+: A
  ex : ∀ b o, cut ω.A ω.Z ω.S ω.H b = some o → cut A Z S H b = some o
section
variable {ω : LW} {X : Cx} {pins : List (Addr × Obj)} {σ : L2.St} {H : Hp} {s : Shared}
theorem LatD.grow {K : PySem.W.Frag} {A A' Z : List Addr} {S S' : Sto} {H' : Hp} (l : LatD ω A Z S H) (g : Grow K Z A S H A' S' H') : LatD ω A' Z S' H' := ⟨l.pre.trans g.pre, fun b o e => g.ex b o (l.ex b o e)⟩
theorem LatD.grow0 {K : PySem.W.Frag} {A A' Z : List Addr} {S S' : Sto} {H' : Hp} (l : LatD ω A Z S H) (g : Grow0 K Z A S H A' S' H') : LatD ω A' Z S' H' := ⟨l.pre.trans g.pre, fun b o e => g.ex b o (l.ex b o e)⟩
structure Cal (P : Program) (w : World) (K : PySem.W.Frag) (mg : Str → Option Value) (base : Heap) (ca : Str → Addr) (k : Nat) (ω : LW) (f : Addr) (h : Sto → Res D) : Prop where
  obj : ∀ (s : Shared) (H : Hp) (A Z : List Addr) (S : Sto), HOk P w H s.heap → LatD ω A Z S H → ∃ oc od fd osl, s.heap.get? f = some ⟨oc, od, .func fd, osl⟩
  run : ∀ (A : Around) (outer : List PySem.Env) (s : Shared) (H : Hp) (Q : VK) (E : XK) (B Z : List Addr) (S : Sto), Room k A → A.guards = some [] → Env0 P w K mg base A outer s H → SOk K B Z S H → LatD ω B Z S H →
    Post K (fun c d _ H' => E c d H') ca B Z S H [] (h S) (fun C T I d => ∀ v, DR C (cut C Z T I) K v d → Q v I) → codeAny (model P w) A (.call (.ref f) ⟨[], []⟩) (CR (L2.CX P w) outer P w H s Q E) s
end
end DL
set_option maxHeartbeats 4000000
namespace DL
open PySem PySem.Spec PyProof.Rows L2
def TabStep (P : Addr) (q : Str) (c' : Addr) (H H1 : Hp) : Prop := LamX.TabS H1 P q ∧ H1 c' = some (LamX.CodeO c' q) ∧ (H1 = H ∨ ∃ ps more, H P = some (.tbl ps) ∧ H c' = none ∧ H1 = upd (upd H P (.tbl (ps ++ more))) c' (LamX.CodeO c' q))
theorem TabStep.grow {K : PySem.W.Frag} {A Z : List Addr} {S : Sto} {H H1 : Hp} {P c' : Addr} {q : Str} {i : Nat} (ok : SOk K A Z S H) (hi : S[i]? = some (.tab P q)) (t : TabStep P q c' H H1) : Grow K Z A S H A S H1 := by
  obtain ⟨t1, t2, t3⟩ := t
  rcases t3 with rfl | ⟨ps, more, e1, e2, rfl⟩
  · exact .refl ok
  · obtain ⟨hA, _⟩ := ok.tab i P q hi
    have hPc : P ≠ c' := ne_of_none e1 e2
    have lP : Live A S P := ⟨i, _, hA, hi, rfl⟩
    have off : ∀ b o, H b = some o → b ≠ P → upd (upd H P (.tbl (ps ++ more))) c' (LamX.CodeO c' q) b = some o := fun b o e n => by
      rw [upd_ne (ne_of_none e e2), upd_ne n]
      exact e
    have ex : ∀ b o, cut A Z S H b = some o → cut A Z S (upd (upd H P (.tbl (ps ++ more))) c' (LamX.CodeO c' q)) b = some o := fun b o e => by
      obtain ⟨f1, f2, f3⟩ := cut_some.mp e
      exact cut_some.mpr ⟨off b o f1 (fun z => f3 (z ▸ lP)), f2, f3⟩
    have hz : ∀ b ∈ Z, b ≠ P := fun b hb z => (ok.hid b hb).2 (z ▸ List.mem_iff_getElem?.mpr ⟨i, hA⟩)
    have hidE : ∀ b ∈ Z, upd (upd H P (.tbl (ps ++ more))) c' (LamX.CodeO c' q) b = H b := fun b hb => by
      rw [upd_ne (fun z => (ok.hid b hb).1.1 (by rw [z]; exact e2)), upd_ne (hz b hb)]
    refine ⟨List.prefix_refl _, ⟨ok.len, ok.nd, fun a ha => ?_, fun b hb => ?_, fun j x ds hc hd => ?_, fun j P' q' e => ?_⟩, ex, hidE, fun _ _ e => e⟩
    · by_cases h1 : a = c'
      · rw [h1, upd_same]; simp
      · rw [upd_ne h1]
        by_cases h2 : a = P
        · rw [h2, upd_same]; simp
        · rw [upd_ne h2]
          exact ok.there a ha
    · rw [hidE b hb]
      exact ok.hid b hb
    · obtain ⟨a, vs, k1, k2, k3⟩ := ok.at_ j x ds hc hd
      refine ⟨a, vs, k1, off a _ k2 (fun z => ?_), k3.mono (List.prefix_refl _) ex⟩
      rw [z, e1] at k2
      cases k2
    · by_cases hj : j = i
      · subst hj
        rw [hi] at e
        cases e
        exact ⟨hA, t1⟩
      · obtain ⟨k1, k2⟩ := ok.tab j P' q' e
        have nP : P' ≠ P := fun z => hj (nodup_at ok.nd (z ▸ k1) hA)
        have nc : P' ≠ c' := fun z => by
          obtain ⟨ps', y, _⟩ := k2
          rw [z, e2] at y
          cases y
        refine ⟨k1, tabS_keep k2 (by rw [upd_ne nc, upd_ne nP]) fun c hc => off c _ hc (fun z => ?_)⟩
        rw [z, e1] at hc
        unfold LamX.CodeO at hc
        cases hc
end DL
set_option maxHeartbeats 4000000
namespace DL
open PySem PySem.Spec PyProof.Rows L2
structure DefL (P : Program) (w : World) (K : PySem.W.Frag) (mg : Str → Option Value) (base : Heap) (ca : Str → Addr) (ω : LW) (x : Str) (ps : List Str) (k : Nat) (g : List D → Sto → Res D) : Prop where
  ex : ∃ (f : Addr) (fd : FuncData), mg x = some (.ref f) ∧ PySem.W.keepIn K (.ref f) = true ∧ L2.Binds K fd ps [] ∧
    ∀ (A : Around) (outer : List PySem.Env) (s : Shared) (H : Hp) (args : Args) (us : List Value) (vs : List V) (Q : VK) (E : XK) (B Z : List Addr) (S : Sto) (ds : List D), Room k A → A.guards = some [] → Env0 P w K mg base A outer s H → BindsTo s fd args (ps.zip us) → Vals vs us →
      SOk K B Z S H → DRs B (cut B Z S H) K vs ds → ds.length = ps.length → LatD ω B Z S H → Post K (fun c d _ H' => E c d H') ca B Z S H [] (g ds S) (fun C T I d => ∀ v, DR C (cut C Z T I) K v d → Q v I) →
      codeAny (model P w) A (.call (.ref f) args) (CR (L2.CX P w) outer P w H s Q E) s
section
variable {P : Program} {w : World} {K : PySem.W.Frag} {mg : Str → Option Value} {base : Heap} {ca : Str → Addr} {x : Str} {ps : List Str} {ω : LW}
theorem DefL.mono {j k : Nat} {g : List D → Sto → Res D} (d : DefL P w K mg base ca ω x ps j g) (h : j ≤ k) : DefL P w K mg base ca ω x ps k g :=
  let ⟨f, fd, a, b, c, F⟩ := d.ex
  ⟨f, fd, a, b, c, fun A outer s H args us vs Q E B Z S ds hr => F A outer s H args us vs Q E B Z S ds (hr.mono h)⟩
theorem DefL.imp {k : Nat} {g g' : List D → Sto → Res D} (d : DefL P w K mg base ca ω x ps k g) (h : ∀ ds S, g' ds S ≠ .bad → g ds S = g' ds S) : DefL P w K mg base ca ω x ps k g' :=
  let ⟨f, fd, a, b, c, F⟩ := d.ex
  ⟨f, fd, a, b, c, fun A outer s H args us vs Q E B Z S ds hr h1 h2 h3 h4 h5 h6 h7 h8 po => F A outer s H args us vs Q E B Z S ds hr h1 h2 h3 h4 h5 h6 h7 h8 (by
    rw [h ds S (fun e => by rw [e] at po; exact po)]
    exact po)⟩
end
end DL
set_option maxHeartbeats 4000000
set_option maxHeartbeats 4000000
set_option maxHeartbeats 4000000
set_option maxHeartbeats 4000000
namespace DL
open PySem PySem.Spec PyProof.Rows L2
def LamV (X : Cx) (ca : Str → Addr) (k : Nat) (fb : FE) (f : Addr) (A Z : List Addr) (S : Sto) (H : Hp) : Prop :=
  ∀ (A' : List Addr) (S' : Sto) (H' : Hp) (pins : List (Addr × Obj)) (σ : L2.St) (ρ : Env) (s : Shared) (G : Heap), (∀ b o, cut A Z S H b = some o → cut A' Z S' H' b = some o) → Inv X pins σ H' s → Sl X.K A' (cut A' Z S' H') ρ σ →
    (∀ y c, X.env.cells.lookup y = some c → ∀ o, s.heap.get? c = some o → G.get? c = some o) → Cal X.prog X.w X.K X.mg G ca k ⟨H', A', Z, S'⟩ f (fun T => fb ρ T)
section
variable {X : Cx} {W : WX} {ca : Str → Addr} {pos : Pos} {k : Nat}
theorem LamV.grow {fb : FE} {f : Addr} {A Z A' : List Addr} {S S' : Sto} {H H' : Hp} (l : LamV X ca k fb f A Z S H) (g : Grow X.K Z A S H A' S' H') : LamV X ca k fb f A' Z S' H' :=
  fun A2 S2 H2 pins σ ρ s G ex => l A2 S2 H2 pins σ ρ s G fun b o e => ex b o (g.ex b o e)
inductive Fa2 {α β : Type} (R : α → β → Prop) : List α → List β → Prop
  | nil : Fa2 R [] []
  | cons {a : α} {b : β} {as : List α} {bs : List β} : R a b → Fa2 R as bs → Fa2 R (a :: as) (b :: bs)
theorem Fa2.imp {α β : Type} {R R' : α → β → Prop} (h : ∀ a b, R a b → R' a b) : ∀ {as : List α} {bs : List β}, Fa2 R as bs → Fa2 R' as bs
  | _, _, .nil => .nil
  | _, _, .cons r t => .cons (h _ _ r) (Fa2.imp h t)
theorem Fa2.map {α β γ : Type} {R : α → γ → Prop} {f : β → γ} : ∀ {as : List α} {bs : List β}, Fa2 (fun a b => R a (f b)) as bs → Fa2 R as (bs.map f)
  | _, _, .nil => .nil
  | _, _, .cons r t => .cons r (Fa2.map t)
theorem Fa2.length {α β : Type} {R : α → β → Prop} : ∀ {as : List α} {bs : List β}, Fa2 R as bs → as.length = bs.length
  | _, _, .nil => rfl
  | _, _, .cons _ t => congrArg (· + 1) (Fa2.length t)
end
end DL
set_option maxHeartbeats 4000000
namespace DL
open PySem PySem.Spec PyProof.Rows L2
abbrev Tb := Addr × Addr × Str
end DL
set_option maxHeartbeats 4000000
namespace DL
open PySem PySem.Spec PyProof.Rows L2
section
variable {X : Cx} {W : WX} {ca : Str → Addr} {e a b : Expr} {es : List Expr} {pos : Pos}
def xsub (c c0 : Str) : Bool := c == c0
end
end DL
set_option maxHeartbeats 4000000
set_option maxHeartbeats 4000000
namespace DL
open PySem PySem.Spec PyProof.Rows L2
theorem room_two {k : Nat} {A : Around} (h : 2 ≤ k) (hr : Room k A) : Room (k - 2 + 2) A := by rw [Nat.sub_add_cancel h]; exact hr
section
variable {P : Program} {w : World} {K : PySem.W.Frag} {mg : Str → Option Value} {base : Heap} {ca : Str → Addr} {x : Str} {ps : List Str}
theorem Std.there {st : Stmt} (T : Std K mg x st ps) : ∃ fx : Addr, mg x = some (.ref fx) ∧ PySem.W.keepIn K (.ref fx) = true := by
  obtain ⟨f, fd, hm, F, _⟩ := T.ex
  exact ⟨f, hm, F.kp⟩
structure FunC (K : PySem.W.Frag) (x : Str) (st : Stmt) (f : Addr) (fd : FuncData) (c : Addr) : Prop where
  ex : ∃ (oc : Value) (od an : Option Addr) (osl : Array (Option Value)) (kV doc pm ct : Value), fd = PySem.W.fnOf x x (defArgs st) (defBody st) (defScope st) .none kV doc pm an (.ref c) ct ∧ K.lookup f = some ⟨oc, od, .func fd, osl⟩ ∧ PySem.W.codeIn K (.ref c) x = true
theorem caK_of {c : Str} {C : Addr} (h : PySem.W.nsIn K mainGlobals c = some (some (.ref C))) : caK K c = C := by
  unfold caK
  rw [h]
def xclsB (K : PySem.W.Frag) (C fI : Addr) : Bool :=
  decide (PySem.W.findIn K (.ref C) "__setattr__" = some (some (.builtin "object.__setattr__"))) && decide (PySem.W.subIn K (.ref C) (.type "BaseException") = some true) && decide (PySem.W.typeIn K (.ref C) = some (.type "type")) && PySem.W.keepIn K (.ref C) &&
  decide (PySem.W.findIn K (.ref C) "__init__" = some (some (.ref fI))) && decide (PySem.W.typeIn K (.ref fI) = some (.type "function")) && decide (PySem.W.findIn K (.ref C) "value" = some none) && decide (PySem.W.nsIn K cStatics "thirdparty.any" = some none) &&
  (PySem.W.clsIn K C).isSome && decide (PySem.W.mroIn K C (.ref C) = some true) && decide (PySem.W.ks_superIn K C C "__init__" = some (some (.builtin "ValueError.__init__"))) && decide (PySem.W.subIn K (.ref C) (.type "ValueError") = some true) &&
  PySem.W.excInitIn K C [.type "ValueError", .type "Exception", .type "BaseException", .type "object"] "ValueError.__new__"
theorem xcls_mk {c : Str} {C fI cc cda : Addr} {st : Stmt} {nm q q2 : Str} {N : Addr} {bs bm : List Value} {sn : List Str} {sub : List Value} {ab : Bool} {col : Option Bool} {dd : Option Addr} {k0 k1 k2 k3 k5 : Option Value} {oc ccl cl : Value} {od cdd cld an : Option Addr} {osl ccs csl : Array (Option Value)} {kV doc pm ct : Value} {vs : Array Value} {file : Str} {tf : Tok} {h : Heap} {TD : Addr} {tcl : Value} {tdd : Option Addr} {tn : Nat} {tsl : Array (Option Value)}
    (X : K.In h) (G : h.Ns mainGlobals mg) (a1 : PySem.W.nsIn K mainGlobals c = some (some (.ref C))) (a2 : K.lookup C = some (excClassObj nm q C N bs bm true sn sub ab col dd k0 k1 k2 k3 k5 "ValueError.__new__")) (a3 : PySem.HandSPX.refsVE bm = true)
    (a4 : K.lookup fI = some ⟨oc, od, .func (PySem.W.ksFn "__init__" q2 (defArgs st) (defBody st) (defScope st) (.ref TD) kV doc pm an (.ref cda) ct cc), osl⟩) (at_ : K.lookup TD = some ⟨tcl, tdd, .seq #[.none] tn, tsl⟩) (a5 : K.lookup cda = some ⟨ccl, cdd, .fields vs, ccs⟩) (a6 : vs[2]? = some (.str file tf)) (a7 : ((P.main.file : Str) == file) = true)
    (a8 : K.lookup cc = some ⟨cl, cld, .cell (some (.ref C)), csl⟩) (a9 : PySem.W.codeIn K (.ref cda) q2 = true) (b1 : xclsB K C fI = true) (b2 : PySem.W.nsIn K mainGlobals "super" = some none) (b3 : (P.main.scope.names.lookup ("super" : Str)).isSome = false) (B : InitT st)
    (bd : ∀ (q : Str) (TD : Addr) (kV doc pm : Value) (an : Option Addr) (cdv ct : Value) (cc : Addr) (u1 u2 : Value), ∃ kk, bindArgs (PySem.W.ksFn "__init__" q (defArgs st) (defBody st) (defScope st) (.ref TD) kV doc pm an cdv ct cc) ⟨[u1, u2], []⟩ = seqItems? (.ref TD) >>= kk ∧ kk (some #[.none]) = pure [(("self" : Str), u1), (("value" : Str), u2)]) : XCls P K mg (caK K) c := by
  unfold xclsB at b1
  simp only [Bool.and_eq_true, decide_eq_true_eq] at b1
  obtain ⟨⟨⟨⟨⟨⟨⟨⟨⟨⟨⟨⟨f1, f2⟩, f3⟩, f4⟩, f5⟩, f6⟩, f7⟩, f8⟩, f9⟩, f10⟩, f11⟩, f12⟩, f13⟩ := b1
  have e := caK_of a1
  refine ⟨fI, PySem.W.ksFn "__init__" q2 (defArgs st) (defBody st) (defScope st) (.ref TD) kV doc pm an (.ref cda) ct cc, st, ?_, B, fun s us hK hl => ?_, ?_⟩
  · rw [e]
    exact ⟨⟨⟨nm, q, N, bs, bm, sn, sub, ab, col, dd, k0, k1, k2, k3, k5, a2, a3⟩, f1, f2, f3, f4⟩, f5, f6, f7, PySem.W.mg_none_of X G b2, f8, b3, Option.isSome_iff_exists.mp f9, f10, f11, f12, f13,
      ⟨q2, oc, ccl, cl, od, cdd, cld, an, osl, ccs, csl, .ref TD, kV, doc, pm, ct, cc, cda, vs, file, tf, rfl, a4, a9, a5, a6, a7, a8⟩⟩
  · rw [List.append_nil] at hl ⊢
    match us, hl with
    | [u1, u2], _ =>
      obtain ⟨kk, e1, e2⟩ := bd q2 TD kV doc pm an (.ref cda) ct cc u1 u2
      exact PySem.W.binds_K hK rfl at_ rfl e1 e2
  · rw [e]
    exact PySem.W.mg_of X G a1
def xheldB (K : PySem.W.Frag) (C : Addr) : Bool :=
  (PySem.W.clsIn K C).isSome && decide (PySem.W.findIn K (.ref C) "__getattribute__" = some (some (.builtin "BaseException.__getattribute__"))) && decide (PySem.W.findIn K (.ref C) "__getattr__" = some none) && decide (PySem.W.subIn K (.ref C) (.type "BaseException") = some true) && PySem.W.hasDictIn K C &&
  decide (PySem.W.findIn K (.ref C) "__class__" = some (some (.builtin "object.__class__"))) && decide (PySem.W.specialIn K (.builtin "object.__class__") "__get__" = some (some (.builtin "getset_descriptor.__get__"))) && decide (PySem.W.takesIn K (.builtin "object.__class__") = some true) &&
  decide (PySem.W.mroIn K C (.type "object") = some true) && decide (PySem.W.findIn K (.ref C) "value" = some none)
def xallB (K : PySem.W.Frag) (xs ys : List Str) : Bool := xs.all fun c => xheldB K (caK K c) && decide (PySem.W.exmOne K (.ref (caK K c)) (.ref (caK K "ScoreError")) = some true) && ys.all fun y => decide (PySem.W.kitOne K (.ref (caK K c)) (.ref (caK K y)) = some (xsub c y))
end
section
variable {X : Cx} {W : WX} {ca : Str → Addr} {pos : Pos}
structure DefK (P : Program) (w : World) (K : PySem.W.Frag) (mg : Str → Option Value) (base : Heap) (ca : Str → Addr) (x : Str) (ps ks : List Str) (g2 : {α : Type} → List α → List α) (k : Nat) (g : List D → Sto → Res D) : Prop where
  ex : ∃ f fd, mg x = some (.ref f) ∧ PySem.W.keepIn K (.ref f) = true ∧ (∀ (s : Shared) (ws : List Value), ws.length = ks.length → BindsTo s fd ⟨[], ks.zip ws⟩ (ps.zip (g2 ws))) ∧ FnG P w K mg base k f fd ps (spD K ca ps.length g)
end
section
variable {P : Program} {w : World} {K : PySem.W.Frag} {mg : Str → Option Value} {base : Heap} {ca : Str → Addr} {x : Str} {ps : List Str}
theorem DefK.mono {j k : Nat} {ks : List Str} {g2 : {α : Type} → List α → List α} {g : List D → Sto → Res D} (d : DefK P w K mg base ca x ps ks g2 j g) (h : j ≤ k) : DefK P w K mg base ca x ps ks g2 k g :=
  let ⟨f, fd, a, b, c, F⟩ := d.ex; ⟨f, fd, a, b, c, F.mono h⟩
end
end DL
set_option maxHeartbeats 4000000
namespace DL
open PySem PySem.Spec PyProof.Rows L2
theorem free_by {ns : List (Str × NameKind)} (h : (ns.all fun y => !decide (y.2 = .free) || decide (y.1 = ("__class__" : Str))) = true) {y : Str} (e : ns.lookup y = some .free) : y = "__class__" := by
  have q := List.all_eq_true.mp h _ (PySem.mem_of_lookup e)
  simpa using q
theorem hx2 {L : Sto} {t : CO} {x y z : D} : ixD (.cel 1) (.int 2) (t :: .lst [x, y, z] :: L) = some z := rfl
theorem hs2 {L : Sto} {t : CO} {x y z d : D} : setD (.cel 1) (.int 2) d (t :: .lst [x, y, z] :: L) = some (t :: .lst [x, y, d] :: L) := rfl
end DL
set_option maxHeartbeats 4000000
namespace DL
open PySem PySem.Spec PyProof.Rows L2
section
variable {P : Program} {w : World} {K : PySem.W.Frag} {mg : Str → Option Value} {base : Heap} {ca : Str → Addr} {x : Str} {ps : List Str}
structure Mk (P : Program) (w : World) (K : PySem.W.Frag) (mg : Str → Option Value) (base : Heap) (ca : Str → Addr) (y : Str) (ps : List Str) (kd ti : Nat) (T : Addr) (q : Str) (M k : Nat) (fbs : List FE) : Prop where
  ex : ∃ (f : Addr) (fd : FuncData), mg y = some (.ref f) ∧ PySem.W.keepIn K (.ref f) = true ∧ L2.Binds K fd ps [] ∧
    ∀ (A : Around) (outer : List PySem.Env) (s : Shared) (H : Hp) (args : Args) (us : List Value) (vs : List V) (B Z : List Addr) (S : Sto) (ds : List D), Room kd A → A.guards = some [] → Env0 P w K mg base A outer s H → BindsTo s fd args (ps.zip us) → Vals vs us →
      SOk K B Z S H → DRs B (cut B Z S H) K vs ds → ds.length = ps.length → S[ti]? = some (.tab T q) → fbs.length ≤ capN →
      codeAny (model P w) A (.call (.ref f) args) (fun r s' => CR (L2.CX P w) outer P w H s (fun v H' => ∃ l fs, v = .ref l ∧ Grow K Z B S H B S H' ∧ DR B (cut B Z S H') K (.ref l) (.lst (fs.map .fn)) ∧ fs.Nodup ∧
        ∀ G : Heap, (∀ c o, s'.heap.get? c = some o → H' c = none → s.heap.objs.size ≤ c → G.get? c = some o) →
          Fa2 (fun f h => Cal P w K mg G ca k ⟨H', B, Z, S⟩ f h) fs (fbs.map fun fb T => fb (ds.map some ++ List.replicate (M - ps.length) none) T)) (fun _ _ _ => False) r s') s
end
end DL
set_option maxHeartbeats 4000000
namespace DL
open PySem PySem.Spec PyProof.Rows L2
section
variable {P : Program} {w : World} {K : PySem.W.Frag} {mg : Str → Option Value} {base : Heap} {ca : Str → Addr} {x : Str} {ps : List Str}
theorem Mk.mono {j kd ti M k : Nat} {T : Addr} {q : Str} {fbs : List FE} (m : Mk P w K mg base ca x ps j ti T q M k fbs) (h : j ≤ kd) : Mk P w K mg base ca x ps kd ti T q M k fbs :=
  let ⟨f, fd, a, b, c, F⟩ := m.ex
  ⟨f, fd, a, b, c, fun A outer s H args us vs B Z S ds hr => F A outer s H args us vs B Z S ds (hr.mono h)⟩
end
end DL
set_option maxHeartbeats 4000000
set_option maxHeartbeats 4000000
namespace DL
open PySem PySem.Spec PyProof.Rows L2
section
variable {P : Program} {w : World} {K : PySem.W.Frag} {mg : Str → Option Value} {base : Heap} {ca : Str → Addr} {x : Str} {ps : List Str}
theorem DefK.of {st : Stmt} {k : Nat} {g : List D → Sto → Res D} {ks : List Str} {g2 : {α : Type} → List α → List α} (d : Def P w K mg base ca x ps k g) (T : Std K mg x st ps)
    (hb : ∀ (kV doc pm : Value) (an : Option Addr) (cdv ct : Value) (s : Shared) (ws : List Value), ws.length = ks.length → BindsTo s (PySem.W.fnOf x x (defArgs st) (defBody st) (defScope st) .none kV doc pm an cdv ct) ⟨[], ks.zip ws⟩ (ps.zip (g2 ws))) : DefK P w K mg base ca x ps ks g2 k g := by
  obtain ⟨f, fd, h1, h2, _, F, oc, od, osl, hl⟩ := d.ex
  obtain ⟨f', fd', k1, F', _⟩ := T.ex
  rw [h1] at k1
  cases k1
  obtain ⟨oc', od', kV, doc, pm, an, cdv, ct, osl', rfl, hl', _⟩ := F'.ex
  rw [hl] at hl'
  cases hl'
  exact ⟨f, _, h1, h2, fun s ws h => hb kV doc pm an cdv ct s ws h, F⟩
theorem FunC.lk {st : Stmt} {f c : Addr} {fd : FuncData} (F : FunC K x st f fd c) : LkF K f fd := let ⟨oc, od, an, osl, kV, doc, pm, ct, _, h, _⟩ := F.ex; ⟨oc, od, osl, h⟩
end
end DL
set_option maxHeartbeats 4000000
namespace PySem
section
variable {prog : Program} {w : World} {A : Around} {E : Value → Shared → Prop} {s : Shared} {l : Addr} {xs : Array (Int × Tok)}
theorem dl_sum_tuple {Q : Value → Shared → Prop} (hh : A.handled = none) (hl : s.heap.IsTuple l (intItems xs))
    (h : ∀ h' tk t', (∀ b o, s.heap.get? b = some o → h'.get? b = some o) → Q (.int (preSum (numAt xs) xs.size) t') { s with heap := h', toks := tk }) :
    wpAny (model prog w) A (call (.builtin "sum") [.ref l]) Q E s := by
  have hlt : l < s.heap.objs.size := by obtain ⟨_, e, _⟩ := hl; exact Heap.lt_size e
  refine call_sum_walkG (wpAny_pyIter_tuple hl ?_)
  have old : ∀ b o, s.heap.get? b = some o → b ∉ [s.heap.objs.size] := fun b o e hb => by
    rw [List.mem_singleton] at hb
    subst hb
    exact absurd (Heap.lt_size e) (Nat.lt_irrefl _)
  refine ⟨_, _, _, _, _, _, numAt xs, rfl, Walks.tuple (A := A.in1) hh s.heap.objs.size l (Nat.ne_of_lt hlt) (intItems xs), ⟨⟨_, Heap.get?_push_size _ rfl, rfl, rfl⟩, hl.push _⟩, fun b hb => ?_, (fun _ _ => intItems_at), fun h' tk t' hk => ?_⟩
  · show b < (s.heap.push _).objs.size
    rw [Heap.size_push]
    rcases List.mem_cons.mp hb with rfl | hb
    · exact Nat.lt_succ_self _
    · rcases List.mem_cons.mp hb with rfl | hb
      · exact Nat.lt_succ_of_lt hlt
      · cases hb
  · have := h h' tk t' fun b o e => hk b o (old b o e) (Heap.get?_push_of_some _ e)
    simpa [intItems] using this
end
end PySem
namespace DL
open PySem PySem.Spec PyProof.Rows L2
section
variable {prog : Program} {w : World} {A : Around} {E : Value → Shared → Prop} {s : Shared} {l : Addr} {its : List Value} {ns : List Int} {Q : Value → Shared → Prop}
theorem sum_tuple (hh : A.handled = none) (hl : s.heap.IsTuple l its.toArray) (hi : IntsAre its ns)
    (h : ∀ h' tk t', (∀ b o, s.heap.get? b = some o → h'.get? b = some o) → Q (.int ns.sum t') { s with heap := h', toks := tk }) : wpAny (model prog w) A (call (.builtin "sum") [.ref l]) Q E s := by
  obtain ⟨xs, e⟩ := hi.allInts.items
  have hn : numsOf (intItems xs).toList = ns := by rw [← e]; exact hi.numsOf
  rw [nums_intItems] at hn
  rw [e] at hl
  refine PySem.dl_sum_tuple hh hl fun h' tk t' hk => ?_
  have := h h' tk t' hk
  rw [preSum_eq, List.take_of_length_le (by simp), hn]; exact this
end
def sumT : OpN := fun ds S => match ds with
  | [.tup xs] => match intsOf xs with
    | some ns => some (.int ns.sum)
    | none => none
  | ds => sumD ds S
theorem cd_sumT {X : Cx} (hc : X.calm = true) : CallR X (.builtin "sum") (rDs X.K sumT) := by
  intro pins s σ H vs us Q I r ⟨A, Z, S, ds, d, ok, h, e, q⟩
  unfold sumT at e
  split at e
  · rename_i xs
    split at e
    · rename_i ns e1
      cases e
      cases h with
      | cons h1 h2 =>
        cases h2
        obtain ⟨a, ws, rfl, k1, k2⟩ := tup_at h1
        have ew := intsOf_map e1 k2
        subst ew
        rw [Vals.ref1 r]
        obtain ⟨its, rv, ht, _⟩ := I.tuple k1
        exact sum_tuple (I.ok.hd hc) ht rv.ints fun h' tk t' hk => ⟨.int _, H, I.kept hk, ⟨_, rfl⟩, q A H _ (.refl ok) (.int _)⟩
    · cases e
  · exact cd_sum hc pins s σ H vs us Q I r ⟨A, Z, S, ds, d, ok, h, e, q⟩
end DL
set_option maxHeartbeats 4000000
namespace Cm
open PySem PySem.Spec PyProof.Rows L2 DL
abbrev GF := List D → Sto → Res D
def c_ORDERS : D := (.kls [(.str "on"), (.str "turns"), (.str "winner"), (.str "loser")])
def c_DEEPEST : D := (.int 4)
abbrev N_is_whole : List Str := ["value"]
def b_is_whole : FS :=
    (fRet (fAndV (fIsi "int" (fVar 0)) (fNotV (fIsi "bool" (fVar 0)))))
def g_is_whole : GF := bodyT N_is_whole 1 (b_is_whole)
abbrev N_is_count : List Str := ["value"]
def b_is_count (g_is_whole : GF) : FS :=
    (fRet (fAndV (fCall 1 g_is_whole (fCons (fVar 0) fNil)) (fOp geD (fVar 0) (fC (.int 0)))))
def g_is_count : GF := bodyT N_is_count 1 (b_is_count g_is_whole)
abbrev N_is_between : List Str := ["value", "low", "high"]
def b_is_between (g_is_whole : GF) : FS :=
    (fRet (fAndV (fCall 1 g_is_whole (fCons (fVar 0) fNil)) (fChain leD leD (fVar 1) (fVar 0) (fVar 2))))
def g_is_between : GF := bodyT N_is_between 3 (b_is_between g_is_whole)
abbrev N_is_side : List Str := ["value"]
def b_is_side (g_is_between : GF) : FS :=
    (fRet (fCall 3 g_is_between (fCons (fVar 0) (fCons (fC (.int 0)) (fCons (fC (.int 1)) fNil)))))
def g_is_side : GF := bodyT N_is_side 1 (b_is_side g_is_between)
abbrev N_are_rallies : List Str := ["value", "side"]
def b_are_rallies (g_is_side : GF) : FS :=
    (fRet (fAndV (fIsi "list" (fVar 0)) (fOp eqD (fLc [1] (fiAny (fVar 0)) (fgName 1) (fNot (fB (fCall 1 g_is_side (fCons (fVar 1) fNil)))) (fVar 1)) (fLst fNil))))
def g_are_rallies : GF := bodyT N_are_rallies 1 (b_are_rallies g_is_side)
abbrev N_is_word : List Str := ["value", "word"]
def b_is_word : FS :=
    (fRet (fAndV (fIsi "tuple" (fVar 0)) (fAndV (fOp eqD (fCB lenD (fCons (fVar 0) fNil)) (fC (.int 1))) (fAndV (fIsi "str" (fOp ixD (fVar 0) (fC (.int 0)))) (fOp eqD (fOp ixD (fVar 0) (fC (.int 0))) (fVar 1))))))
def g_is_word : GF := bodyT N_is_word 2 (b_is_word)
abbrev N_is_order : List Str := ["value", "word", "mark"]
def b_is_order (g_is_word g_is_side : GF) : FS :=
    (fSeq (fIfS (fB (fOp neD (fLc [1] (fiAny (fC c_ORDERS)) (fgName 1) (fB (fCall 2 g_is_word (fCons (fVar 0) (fCons (fVar 1) fNil)))) (fVar 1)) (fLst fNil))) (fRet (fC (.bl true))) fNext)
    (fSeq (fIfS (fOr (fNot (fB (fIsi "tuple" (fVar 0)))) (fOr (fB (fOp neD (fCB lenD (fCons (fVar 0) fNil)) (fC (.int 2)))) (fOr (fNot (fB (fIsi "str" (fOp ixD (fVar 0) (fC (.int 0)))))) (fB (fOp neD (fOp ixD (fVar 0) (fC (.int 0))) (fC (.str "row"))))))) (fRet (fC (.bl false))) fNext)
    (fSeq (fIfS (fOr (fNot (fB (fIsi "list" (fOp ixD (fVar 0) (fC (.int 1)))))) (fNot (fB (fChain leD leD (fC (.int 1)) (fCB lenD (fCons (fOp ixD (fVar 0) (fC (.int 1))) fNil)) (fC (.int 8)))))) (fRet (fC (.bl false))) fNext)
    (fRet (fOp eqD (fLc [2] (fiAny (fOp ixD (fVar 0) (fC (.int 1)))) (fgName 2) (fNot (fB (fCall 1 g_is_side (fCons (fVar 2) fNil)))) (fVar 2)) (fLst fNil))))))
def g_is_order : GF := bodyT N_is_order 1 (b_is_order g_is_word g_is_side)
abbrev N_are_numbers_of_race : List Str := ["need", "lead", "cap"]
def b_are_numbers_of_race (g_is_between : GF) : FS :=
    (fSeq (fIfS (fOr (fNot (fB (fCall 3 g_is_between (fCons (fVar 0) (fCons (fC (.int 1)) (fCons (fC (.int 30)) fNil)))))) (fNot (fB (fCall 3 g_is_between (fCons (fVar 1) (fCons (fC (.int 1)) (fCons (fC (.int 3)) fNil))))))) (fRet (fC (.bl false))) fNext)
    (fRet (fOrV (fOp isD (fVar 2) (fC .non)) (fCall 3 g_is_between (fCons (fVar 2) (fCons (fVar 0) (fCons (fC (.int 40)) fNil)))))))
def g_are_numbers_of_race : GF := bodyT N_are_numbers_of_race 3 (b_are_numbers_of_race g_is_between)
abbrev N_is_score : List Str := ["value"]
def b_is_score (g_is_count : GF) : FS :=
    (fRet (fAndV (fIsi "tuple" (fVar 0)) (fAndV (fOp eqD (fCB lenD (fCons (fVar 0) fNil)) (fC (.int 2))) (fAndV (fCall 1 g_is_count (fCons (fOp ixD (fVar 0) (fC (.int 0))) fNil)) (fCall 1 g_is_count (fCons (fOp ixD (fVar 0) (fC (.int 1))) fNil))))))
def g_is_score : GF := bodyT N_is_score 1 (b_is_score g_is_count)
abbrev N_is_special : List Str := ["value", "deep"]
def b_is_special (g_is_score g_is_rule_within : GF) : FS :=
    (fSeq (fIfS (fOr (fNot (fB (fIsi "tuple" (fVar 0)))) (fOr (fB (fOp neD (fCB lenD (fCons (fVar 0) fNil)) (fC (.int 2)))) (fOr (fNot (fB (fCall 1 g_is_score (fCons (fOp ixD (fVar 0) (fC (.int 0))) fNil)))) (fB (fOp gtD (fCB maxT (fCons (fOp ixD (fVar 0) (fC (.int 0))) fNil)) (fC (.int 40))))))) (fRet (fC (.bl false))) fNext)
    (fRet (fCall 2 g_is_rule_within (fCons (fOp ixD (fVar 0) (fC (.int 1))) (fCons (fVar 1) fNil)))))
abbrev N_are_specials : List Str := ["value", "deep", "one", "at"]
def b_are_specials (g_is_special : GF) : FS :=
    (fSeq (fIfS (fOr (fNot (fB (fIsi "list" (fVar 0)))) (fOr (fB (fOp gtD (fCB lenD (fCons (fVar 0) fNil)) (fC (.int 8)))) (fB (fOp neD (fLc [2] (fiAny (fVar 0)) (fgName 2) (fNot (fB (fCall 2 g_is_special (fCons (fVar 2) (fCons (fVar 1) fNil))))) (fVar 2)) (fLst fNil))))) (fRet (fC (.bl false))) fNext)
    (fRet (fOp eqD (fLc [3] (fiRng2 (fCons (fC (.int 1)) (fCons (fCB lenD (fCons (fVar 0) fNil)) fNil))) (fgName 3) (fB (fOp geD (fOp ixD (fOp ixD (fVar 0) (fOp subD (fVar 3) (fC (.int 1)))) (fC (.int 0))) (fOp ixD (fOp ixD (fVar 0) (fVar 3)) (fC (.int 0))))) (fVar 3)) (fLst fNil))))
abbrev N_is_rule_within : List Str := ["value", "deep", "word", "need", "lead", "cap", "order", "unit", "specials"]
def b_is_rule_within (g_is_word g_are_numbers_of_race g_is_order g_is_rule_within g_are_specials : GF) : FS :=
    (fSeq (fIfS (fOr (fB (fCall 2 g_is_word (fCons (fVar 0) (fCons (fC (.str "rally")) fNil)))) (fB (fCall 2 g_is_word (fCons (fVar 0) (fCons (fC (.str "hand")) fNil))))) (fRet (fC (.bl true))) fNext)
    (fSeq (fIfS (fOr (fB (fOp eqD (fVar 1) (fC (.int 0)))) (fOr (fNot (fB (fIsi "tuple" (fVar 0)))) (fOr (fB (fOp neD (fCB lenD (fCons (fVar 0) fNil)) (fC (.int 7)))) (fNot (fB (fIsi "str" (fOp ixD (fVar 0) (fC (.int 0))))))))) (fRet (fC (.bl false))) fNext)
    (fSeq (fAsg (fVar 0) (fgTup 7 (fgCons (fgName 2) (fgCons (fgName 3) (fgCons (fgName 4) (fgCons (fgName 5) (fgCons (fgName 6) (fgCons (fgName 7) (fgCons (fgName 8) fgNil)))))))))
    (fSeq (fIfS (fOr (fB (fOp neD (fVar 2) (fC (.str "race")))) (fOr (fNot (fB (fCall 3 g_are_numbers_of_race (fCons (fVar 3) (fCons (fVar 4) (fCons (fVar 5) fNil)))))) (fNot (fB (fCall 1 g_is_order (fCons (fVar 6) fNil)))))) (fRet (fC (.bl false))) fNext)
    (fRet (fAndV (fCall 2 g_is_rule_within (fCons (fVar 7) (fCons (fOp subD (fVar 1) (fC (.int 1))) fNil))) (fCall 2 g_are_specials (fCons (fVar 8) (fCons (fOp subD (fVar 1) (fC (.int 1))) fNil)))))))))
mutual
def g_is_special : Nat → GF
  | 0 => fun _ _ => .bad
  | n + 1 => bodyT N_is_special 2 (b_is_special g_is_score (g_is_rule_within n))
def g_are_specials : Nat → GF
  | 0 => fun _ _ => .bad
  | n + 1 => bodyT N_are_specials 2 (b_are_specials (g_is_special n))
def g_is_rule_within : Nat → GF
  | 0 => fun _ _ => .bad
  | n + 1 => bodyT N_is_rule_within 2 (b_is_rule_within g_is_word g_are_numbers_of_race g_is_order (g_is_rule_within n) (g_are_specials n))
end
abbrev N_is_rule : List Str := ["value"]
def b_is_rule (g_is_rule_within : GF) : FS :=
    (fRet (fCall 2 g_is_rule_within (fCons (fVar 0) (fCons (fC c_DEEPEST) fNil))))
def g_is_rule : GF := bodyT N_is_rule 1 (b_is_rule (g_is_rule_within 16))
abbrev N_check_rule : List Str := ["rule"]
def b_check_rule (g_is_rule : GF) : FS :=
    (fIfS (fNot (fB (fCall 1 g_is_rule (fCons (fVar 0) fNil)))) (fRaise "InvalidRule" (fVar 0)) fNext)
def g_check_rule : GF := bodyT N_check_rule 1 (b_check_rule g_is_rule)
abbrev N_check_side : List Str := ["side"]
def b_check_side (g_is_side : GF) : FS :=
    (fIfS (fNot (fB (fCall 1 g_is_side (fCons (fVar 0) fNil)))) (fRaise "InvalidSide" (fVar 0)) fNext)
def g_check_side : GF := bodyT N_check_side 1 (b_check_side g_is_side)
abbrev N_check_rallies : List Str := ["rallies"]
def b_check_rallies (g_are_rallies : GF) : FS :=
    (fIfS (fNot (fB (fCall 1 g_are_rallies (fCons (fVar 0) fNil)))) (fRaise "InvalidRallies" (fVar 0)) fNext)
def g_check_rallies : GF := bodyT N_check_rallies 1 (b_check_rallies g_are_rallies)
abbrev N_unit_of : List Str := ["rule", "score", "place", "special"]
def b_unit_of : FS :=
    (fSeq (fFor (fiAny (fOp ixD (fVar 0) (fC (.int 6)))) (fgTup 2 (fgCons (fgName 2) (fgCons (fgName 3) fgNil))) (fIfS (fB (fOp eqD (fVar 2) (fVar 1))) (fRet (fVar 3)) fNext))
    (fRet (fOp ixD (fVar 0) (fC (.int 5)))))
def g_unit_of : GF := bodyT N_unit_of 2 (b_unit_of)
abbrev N_begun : List Str := ["rule", "side", "turn"]
def b_begun (g_begun g_unit_of : GF) : FS :=
    (fSeq (fIfS (fB (fOp neD (fOp ixD (fVar 0) (fC (.int 0))) (fC (.str "race")))) (fRet (fTup (fCons (fVar 1) fNil))) fNext)
    (fSeq (fAsg (fVar 1) (fgName 2))
    (fSeq (fIfS (fAnd (fB (fOp eqD (fOp ixD (fOp ixD (fVar 0) (fC (.int 4))) (fC (.int 0))) (fC (.str "row")))) (fB (fOp eqD (fOp ixD (fOp ixD (fOp ixD (fVar 0) (fC (.int 4))) (fC (.int 1))) (fC (.int 0))) (fC (.int 1))))) (fAsg (fOp subD (fC (.int 1)) (fVar 1)) (fgName 2)) fNext)
    (fRet (fTup (fCons (fC (.int 0)) (fCons (fC (.int 0)) (fCons (fVar 1) (fCons (fVar 2) (fCons (fCall 2 g_begun (fCons (fCall 2 g_unit_of (fCons (fVar 0) (fCons (fTup (fCons (fC (.int 0)) (fCons (fC (.int 0)) fNil))) fNil))) (fCons (fVar 2) fNil))) fNil))))))))))
def g_begun : Nat → GF
  | 0 => fun _ _ => .bad
  | n + 1 => bodyT N_begun 2 (b_begun (g_begun n) g_unit_of)
abbrev N_is_won : List Str := ["rule", "score", "need", "lead", "cap"]
def b_is_won : FS :=
    (fSeq (fAsg (fSl (fVar 0) (fPart (fC (.int 1))) (fPart (fC (.int 4)))) (fgTup 3 (fgCons (fgName 2) (fgCons (fgName 3) (fgCons (fgName 4) fgNil)))))
    (fSeq (fIfS (fAnd (fB (fOp isnotD (fVar 4) (fC .non))) (fB (fOp geD (fCB maxT (fCons (fVar 1) fNil)) (fVar 4)))) (fRet (fC (.bl true))) fNext)
    (fRet (fAndV (fOp geD (fCB maxT (fCons (fVar 1) fNil)) (fVar 2)) (fOp geD (fCB absD (fCons (fOp subD (fOp ixD (fVar 1) (fC (.int 0))) (fOp ixD (fVar 1) (fC (.int 1)))) fNil)) (fVar 3))))))
def g_is_won : GF := bodyT N_is_won 2 (b_is_won)
abbrev N_next_turn : List Str := ["rule", "state", "score", "winner", "hands", "word", "marks"]
def b_next_turn : FS :=
    (fSeq (fAsg (fOp ixD (fOp ixD (fVar 0) (fC (.int 4))) (fC (.int 0))) (fgName 5))
    (fSeq (fIfS (fB (fOp eqD (fVar 5) (fC (.str "on")))) (fRet (fVar 4)) fNext)
    (fSeq (fIfS (fB (fOp eqD (fVar 5) (fC (.str "turns")))) (fRet (fOp subD (fC (.int 1)) (fOp ixD (fVar 1) (fC (.int 3))))) fNext)
    (fSeq (fIfS (fB (fOp eqD (fVar 5) (fC (.str "winner")))) (fRet (fVar 3)) fNext)
    (fSeq (fIfS (fB (fOp eqD (fVar 5) (fC (.str "loser")))) (fRet (fOp subD (fC (.int 1)) (fVar 3))) fNext)
    (fSeq (fAsg (fOp ixD (fOp ixD (fVar 0) (fC (.int 4))) (fC (.int 1))) (fgName 6))
    (fRet (fIf (fB (fOp eqD (fOp ixD (fVar 6) (fOp modD (fCB sumT (fCons (fVar 2) fNil)) (fCB lenD (fCons (fVar 6) fNil)))) (fC (.int 0)))) (fOp ixD (fVar 1) (fC (.int 2))) (fOp subD (fC (.int 1)) (fOp ixD (fVar 1) (fC (.int 2))))))))))))
def g_next_turn : GF := bodyT N_next_turn 5 (b_next_turn)
abbrev N_led_race : List Str := ["rule", "state", "side", "score", "inner", "winner", "hands", "turn"]
def b_led_race (g_led g_unit_of g_next_turn g_is_won g_begun : GF) : FS :=
    (fSeq (fAsg (fSl (fVar 1) fNoPart (fPart (fC (.int 2)))) (fgName 3))
    (fSeq (fAsg (fCall 3 g_led (fCons (fCall 2 g_unit_of (fCons (fVar 0) (fCons (fVar 3) fNil))) (fCons (fOp ixD (fVar 1) (fC (.int 4))) (fCons (fVar 2) fNil)))) (fgTup 3 (fgCons (fgName 4) (fgCons (fgName 5) (fgCons (fgName 6) fgNil)))))
    (fSeq (fIfS (fB (fOp isnotD (fVar 4) (fC .non))) (fRet (fTup (fCons (fOp addD (fSl (fVar 1) fNoPart (fPart (fC (.int 4)))) (fTup (fCons (fVar 4) fNil))) (fCons (fC .non) (fCons (fC .non) fNil))))) fNext)
    (fSeq (fAsg (fTup (fCons (fOp subD (fOp addD (fOp ixD (fVar 3) (fC (.int 0))) (fC (.int 1))) (fVar 5)) (fCons (fOp addD (fOp ixD (fVar 3) (fC (.int 1))) (fVar 5)) fNil))) (fgName 3))
    (fSeq (fAsg (fCall 5 g_next_turn (fCons (fVar 0) (fCons (fVar 1) (fCons (fVar 3) (fCons (fVar 5) (fCons (fVar 6) fNil)))))) (fgName 7))
    (fSeq (fIfS (fB (fCall 2 g_is_won (fCons (fVar 0) (fCons (fVar 3) fNil)))) (fRet (fTup (fCons (fC .non) (fCons (fIf (fB (fOp gtD (fOp ixD (fVar 3) (fC (.int 0))) (fOp ixD (fVar 3) (fC (.int 1))))) (fC (.int 0)) (fC (.int 1))) (fCons (fVar 7) fNil))))) fNext)
    (fRet (fTup (fCons (fOp addD (fVar 3) (fTup (fCons (fOp ixD (fVar 1) (fC (.int 2))) (fCons (fVar 7) (fCons (fCall 2 g_begun (fCons (fCall 2 g_unit_of (fCons (fVar 0) (fCons (fVar 3) fNil))) (fCons (fVar 7) fNil))) fNil))))) (fCons (fC .non) (fCons (fC .non) fNil)))))))))))
abbrev N_led : List Str := ["rule", "state", "side"]
def b_led (g_led_race : GF) : FS :=
    (fSeq (fIfS (fB (fOp eqD (fOp ixD (fVar 0) (fC (.int 0))) (fC (.str "race")))) (fRet (fCall 3 g_led_race (fCons (fVar 0) (fCons (fVar 1) (fCons (fVar 2) fNil))))) fNext)
    (fSeq (fIfS (fAnd (fB (fOp eqD (fOp ixD (fVar 0) (fC (.int 0))) (fC (.str "hand")))) (fB (fOp neD (fVar 2) (fOp ixD (fVar 1) (fC (.int 0)))))) (fRet (fTup (fCons (fTup (fCons (fVar 2) fNil)) (fCons (fC .non) (fCons (fC .non) fNil))))) fNext)
    (fRet (fTup (fCons (fC .non) (fCons (fVar 2) (fCons (fOp ixD (fVar 1) (fC (.int 0))) fNil)))))))
mutual
def g_led_race : Nat → GF
  | 0 => fun _ _ => .bad
  | n + 1 => bodyT N_led_race 3 (b_led_race (g_led n) g_unit_of g_next_turn g_is_won (g_begun 16))
def g_led : Nat → GF
  | 0 => fun _ _ => .bad
  | n + 1 => bodyT N_led 3 (b_led (g_led_race n))
end
abbrev N_server_in : List Str := ["state"]
def b_server_in : FS :=
    (fSeq (fWhile (fB (fOp gtD (fCB lenD (fCons (fVar 0) fNil)) (fC (.int 1)))) (fAsg (fOp ixD (fVar 0) (fC (.int 4))) (fgName 0)) 1000000)
    (fRet (fOp ixD (fVar 0) (fC (.int 0)))))
def g_server_in : GF := bodyT N_server_in 1 (b_server_in)
abbrev N_scores_in : List Str := ["state", "scores"]
def b_scores_in : FS :=
    (fSeq (fAsg (fLstC fNil) (fgName 1))
    (fSeq (fWhile (fB (fOp gtD (fCB lenD (fCons (fVar 0) fNil)) (fC (.int 1)))) (fSeq (fDrop (fApp (fVar 1) (fSl (fVar 0) fNoPart (fPart (fC (.int 2))))))
    (fAsg (fOp ixD (fVar 0) (fC (.int 4))) (fgName 0))) 1000000)
    (fRet (fVar 1))))
def g_scores_in : GF := bodyC N_scores_in 1 (b_scores_in)
abbrev N_led_by : List Str := ["rule", "first", "rallies", "state", "at", "side", "winner", "hands"]
def b_led_by (g_begun g_led : GF) : FS :=
    (fSeq (fAsg (fCall 2 g_begun (fCons (fVar 0) (fCons (fVar 1) fNil))) (fgName 3))
    (fSeq (fFor (fiEnum (fVar 2)) (fgTup 2 (fgCons (fgName 4) (fgCons (fgName 5) fgNil))) (fSeq (fAsg (fCall 3 g_led (fCons (fVar 0) (fCons (fVar 3) (fCons (fVar 5) fNil)))) (fgTup 3 (fgCons (fgName 3) (fgCons (fgName 6) (fgCons (fgName 7) fgNil)))))
    (fIfS (fB (fOp isD (fVar 3) (fC .non))) (fRet (fTup (fCons (fC .non) (fCons (fVar 6) (fCons (fOp addD (fVar 4) (fC (.int 1))) fNil))))) fNext)))
    (fRet (fTup (fCons (fVar 3) (fCons (fC .non) (fCons (fCB lenD (fCons (fVar 2) fNil)) fNil)))))))
def g_led_by : GF := bodyT N_led_by 3 (b_led_by (g_begun 16) (g_led 16))
abbrev N_check_match : List Str := ["rule", "first", "rallies"]
def b_check_match (g_check_rule g_check_side g_check_rallies : GF) : FS :=
    (fSeq (fDrop (fCall 1 g_check_rule (fCons (fVar 0) fNil)))
    (fSeq (fDrop (fCall 1 g_check_side (fCons (fVar 1) fNil)))
    (fDrop (fCall 1 g_check_rallies (fCons (fVar 2) fNil)))))
def g_check_match : GF := bodyT N_check_match 3 (b_check_match g_check_rule g_check_side g_check_rallies)
abbrev N_behind : List Str := ["rule", "first", "rallies", "state", "winner", "played"]
def b_behind (g_led_by : GF) : FS :=
    (fSeq (fAsg (fCall 3 g_led_by (fCons (fVar 0) (fCons (fVar 1) (fCons (fVar 2) fNil)))) (fgTup 3 (fgCons (fgName 3) (fgCons (fgName 4) (fgCons (fgName 5) fgNil)))))
    (fSeq (fIfS (fB (fOp ltD (fVar 5) (fCB lenD (fCons (fVar 2) fNil)))) (fRaise "Ended" (fVar 5)) fNext)
    (fRet (fTup (fCons (fVar 3) (fCons (fVar 4) fNil))))))
def g_behind : GF := bodyT N_behind 3 (b_behind g_led_by)
abbrev N_going_on : List Str := ["rule", "first", "rallies", "state", "winner"]
def b_going_on (g_behind : GF) : FS :=
    (fSeq (fAsg (fCall 3 g_behind (fCons (fVar 0) (fCons (fVar 1) (fCons (fVar 2) fNil)))) (fgTup 2 (fgCons (fgName 3) (fgCons (fgName 4) fgNil))))
    (fSeq (fIfS (fB (fOp isD (fVar 3) (fC .non))) (fRaise "Ended" (fCB lenD (fCons (fVar 2) fNil))) fNext)
    (fRet (fVar 3))))
def g_going_on : GF := bodyT N_going_on 3 (b_going_on g_behind)
abbrev N_winner_after : List Str := ["rule", "first", "rallies"]
def b_winner_after (g_check_match g_behind : GF) : FS :=
    (fSeq (fDrop (fCall 3 g_check_match (fCons (fVar 0) (fCons (fVar 1) (fCons (fVar 2) fNil)))))
    (fRet (fOp ixD (fCall 3 g_behind (fCons (fVar 0) (fCons (fVar 1) (fCons (fVar 2) fNil)))) (fC (.int 1)))))
def g_winner_after : GF := bodyT N_winner_after 3 (b_winner_after g_check_match g_behind)
abbrev N_server_after : List Str := ["rule", "first", "rallies"]
def b_server_after (g_check_match g_server_in g_going_on : GF) : FS :=
    (fSeq (fDrop (fCall 3 g_check_match (fCons (fVar 0) (fCons (fVar 1) (fCons (fVar 2) fNil)))))
    (fRet (fCall 1 g_server_in (fCons (fCall 3 g_going_on (fCons (fVar 0) (fCons (fVar 1) (fCons (fVar 2) fNil)))) fNil))))
def g_server_after : GF := bodyT N_server_after 3 (b_server_after g_check_match g_server_in g_going_on)
abbrev N_last_score : List Str := ["rule", "state", "side", "winner"]
def b_last_score (g_led g_unit_of : GF) : FS :=
    (fSeq (fAsg (fOp ixD (fCall 3 g_led (fCons (fCall 2 g_unit_of (fCons (fVar 0) (fCons (fSl (fVar 1) fNoPart (fPart (fC (.int 2)))) fNil))) (fCons (fOp ixD (fVar 1) (fC (.int 4))) (fCons (fVar 2) fNil)))) (fC (.int 1))) (fgName 3))
    (fRet (fTup (fCons (fOp subD (fOp addD (fOp ixD (fVar 1) (fC (.int 0))) (fC (.int 1))) (fVar 3)) (fCons (fOp addD (fOp ixD (fVar 1) (fC (.int 1))) (fVar 3)) fNil)))))
def g_last_score : GF := bodyT N_last_score 3 (b_last_score (g_led 16) g_unit_of)
abbrev N_scores_after : List Str := ["rule", "first", "rallies", "state", "winner"]
def b_scores_after (g_check_match g_behind g_scores_in g_last_score g_led_by : GF) : FS :=
    (fSeq (fDrop (fCall 3 g_check_match (fCons (fVar 0) (fCons (fVar 1) (fCons (fVar 2) fNil)))))
    (fSeq (fAsg (fCall 3 g_behind (fCons (fVar 0) (fCons (fVar 1) (fCons (fVar 2) fNil)))) (fgTup 2 (fgCons (fgName 3) (fgCons (fgName 4) fgNil))))
    (fSeq (fIfS (fB (fOp isnotD (fVar 3) (fC .non))) (fRet (fCall 1 g_scores_in (fCons (fVar 3) fNil))) fNext)
    (fSeq (fIfS (fB (fOp neD (fOp ixD (fVar 0) (fC (.int 0))) (fC (.str "race")))) (fRet (fLstC fNil)) fNext)
    (fRet (fLstC (fCons (fCall 3 g_last_score (fCons (fVar 0) (fCons (fOp ixD (fCall 3 g_led_by (fCons (fVar 0) (fCons (fVar 1) (fCons (fSl (fVar 2) fNoPart (fPart (fNeg (fC (.int 1))))) fNil)))) (fC (.int 0))) (fCons (fOp ixD (fVar 2) (fNeg (fC (.int 1)))) fNil)))) fNil)))))))
def g_scores_after : GF := bodyC N_scores_after 3 (b_scores_after g_check_match g_behind g_scores_in g_last_score g_led_by)
abbrev N__law_hash : List Str := ["seed", "index", "mixed"]
def b__law_hash : FS :=
    (fSeq (fAsg (fOp modD (fCB intD (fCons (fOp addD (fOp addD (fOp addD (fOp mulD (fVar 0) (fC (.int 1140671))) (fOp mulD (fOp mulD (fC (.int 27644437)) (fVar 1)) (fVar 1))) (fOp mulD (fC (.int 131)) (fVar 1))) (fC (.int 19))) fNil)) (fC (.int 2147483629))) (fgName 2))
    (fSeq (fAsg (fOp modD (fCB intD (fCons (fOp addD (fOp addD (fOp mulD (fVar 2) (fVar 2)) (fOp mulD (fC (.int 62089)) (fVar 1))) (fC (.int 32416187))) fNil)) (fC (.int 2147483587))) (fgName 2))
    (fRet (fOp modD (fCB intD (fCons (fOp mulD (fVar 2) (fC (.int 48271))) fNil)) (fC (.int 2147483647))))))
def g__law_hash : GF := bodyT N__law_hash 2 (b__law_hash)
abbrev N__law_random : List Str := ["generator", "bound", "drawn", "turn"]
def b__law_random (g__law_hash : GF) : FS :=
    (fSeq (fIfS (fB (fOp gtD (fOp ixD (fVar 0) (fC (.int 0))) (fC (.int 0)))) (fSeq (fAsg (fOp modD (fCB intD (fCons (fOp ixD (fVar 0) (fC (.int 0))) fNil)) (fVar 1)) (fgName 2))
    (fSeq (fAsg (fOp fdivD (fOp ixD (fVar 0) (fC (.int 0))) (fVar 1)) (fgSub (fVar 0) (fC (.int 0))))
    (fRet (fVar 2)))) fNext)
    (fSeq (fAsg (fC (.int 0)) (fgName 2))
    (fSeq (fFor (fiRng1 (fCons (fOp addD (fC (.int 1)) (fOp fdivD (fBits (fVar 1)) (fC (.int 30)))) fNil)) (fgName 3) (fSeq (fAsg (fOp addD (fOp ixD (fVar 0) (fC (.int 2))) (fC (.int 1))) (fgSub (fVar 0) (fC (.int 2))))
    (fAsg (fOp addD (fOp mulD (fVar 2) (fC (.int 2147483587))) (fCall 2 g__law_hash (fCons (fOp ixD (fVar 0) (fC (.int 1))) (fCons (fOp ixD (fVar 0) (fC (.int 2))) fNil)))) (fgName 2))))
    (fRet (fOp modD (fCB intD (fCons (fVar 2) fNil)) (fVar 1))))))
def g__law_random : GF := bodyT N__law_random 2 (b__law_random g__law_hash)
abbrev N__law_cell : List Str := ["script", "index"]
def b__law_cell : FS :=
    (fSeq (fIfS (fB (fOp ltD (fVar 1) (fCB lenD (fCons (fVar 0) fNil)))) (fRet (fOp ixD (fVar 0) (fVar 1))) fNext)
    (fRet (fOp modD (fCB sumT (fCons (fSl (fVar 0) fNoPart (fPart (fC (.int 1)))) fNil)) (fC (.int 1000003)))))
def g__law_cell : GF := bodyT N__law_cell 2 (b__law_cell)
abbrev N__law_generator : List Str := ["script", "index", "seed"]
def b__law_generator (g__law_cell : GF) : FS :=
    (fSeq (fAsg (fCall 2 g__law_cell (fCons (fVar 0) (fCons (fVar 1) fNil))) (fgName 2))
    (fRet (fLstC (fCons (fOp modD (fCB intD (fCons (fCB maxT (fCons (fOp subD (fVar 2) (fOp powD (fC (.int 10)) (fC (.int 18)))) (fCons (fC (.int 0)) fNil))) fNil)) (fOp powD (fOp powD (fC (.int 10)) (fC (.int 60))) (fC (.int 10)))) (fCons (fOp modD (fCB intD (fCons (fVar 2) fNil)) (fC (.int 2147483647))) (fCons (fOp mulD (fC (.int 1000)) (fVar 1)) fNil))))))
def g__law_generator : GF := bodyD N__law_generator 2 (b__law_generator g__law_cell)
abbrev N__law_pick : List Str := ["generator", "things"]
def b__law_pick (g__law_random : GF) : FS :=
    (fRet (fOp ixD (fVar 1) (fCall 2 g__law_random (fCons (fVar 0) (fCons (fCB lenD (fCons (fVar 1) fNil)) fNil)))))
def g__law_pick : GF := bodyT N__law_pick 2 (b__law_pick g__law_random)
abbrev N__law_same : List Str := ["told", "due", "at"]
def b__law_same (g__law_same : GF) : FS :=
    (fSeq (fIfS (fOr (fB (fOp isD (fVar 1) (fC .non))) (fOr (fB (fOp isD (fVar 1) (fC (.bl true)))) (fB (fOp isD (fVar 1) (fC (.bl false)))))) (fRet (fIf (fB (fOp isD (fVar 1) (fC .non))) (fOp isD (fVar 0) (fC .non)) (fIf (fB (fOp isD (fVar 1) (fC (.bl true)))) (fOp isD (fVar 0) (fC (.bl true))) (fOp isD (fVar 0) (fC (.bl false)))))) fNext)
    (fSeq (fIfS (fB (fIsi2 "list" "tuple" (fVar 1))) (fSeq (fIfS (fOr (fAnd (fNot (fB (fIsi "list" (fVar 0)))) (fB (fIsi "list" (fVar 1)))) (fAnd (fNot (fB (fIsi "tuple" (fVar 0)))) (fB (fIsi "tuple" (fVar 1))))) (fRet (fC (.bl false))) fNext)
    (fRet (fAndV (fOp eqD (fCB lenD (fCons (fVar 0) fNil)) (fCB lenD (fCons (fVar 1) fNil))) (fOp eqD (fLc [2] (fiRng1 (fCons (fCB lenD (fCons (fVar 1) fNil)) fNil)) (fgName 2) (fNot (fB (fCall 2 g__law_same (fCons (fOp ixD (fVar 0) (fVar 2)) (fCons (fOp ixD (fVar 1) (fVar 2)) fNil))))) (fVar 2)) (fLst fNil))))) fNext)
    (fSeq (fIfS (fB (fIsi "int" (fVar 1))) (fRet (fAndV (fIsi "int" (fVar 0)) (fAndV (fNotV (fIsi "bool" (fVar 0))) (fOp eqD (fVar 0) (fVar 1))))) fNext)
    (fRet (fAndV (fIsi "str" (fVar 0)) (fOp eqD (fVar 0) (fVar 1)))))))
def g__law_same : Nat → GF
  | 0 => fun _ _ => .bad
  | n + 1 => bodyT N__law_same 2 (b__law_same (g__law_same n))
abbrev N__law_rallies : List Str := ["generator", "many", "lean", "rally"]
def b__law_rallies (g__law_pick g__law_random : GF) : FS :=
    (fSeq (fAsg (fCall 2 g__law_pick (fCons (fVar 0) (fCons (fLst (fCons (fC (.int 1)) (fCons (fC (.int 2)) (fCons (fC (.int 2)) (fCons (fC (.int 3)) (fCons (fC (.int 5)) (fCons (fC (.int 9)) fNil))))))) fNil))) (fgName 2))
    (fRet (fLc [3] (fiRng1 (fCons (fVar 1) fNil)) (fgName 3) fYes (fIf (fB (fOp eqD (fCall 2 g__law_random (fCons (fVar 0) (fCons (fC (.int 2)) fNil))) (fC (.int 0)))) (fCB intD (fCons (fOp eqD (fCall 2 g__law_random (fCons (fVar 0) (fCons (fOp addD (fVar 2) (fC (.int 1))) fNil))) (fC (.int 0))) fNil)) (fCall 2 g__law_random (fCons (fVar 0) (fCons (fC (.int 2)) fNil)))))))
def g__law_rallies : GF := bodyT N__law_rallies 2 (b__law_rallies g__law_pick g__law_random)
end Cm
set_option maxHeartbeats 2000000
namespace Cm
open PySem PySem.Spec PyProof.Rows L2 DL
mutual
theorem lowD_up {n m : Nat} (h : n ≤ m) : ∀ {d : D}, lowD n d = true → lowD m d = true
  | .non, _ => rfl
  | .bl _, _ => rfl
  | .int _, _ => rfl
  | .str _, _ => rfl
  | .lst _, k => by simp only [lowD] at k ⊢; exact lowDs_up h k
  | .kls _, k => by simp only [lowD] at k ⊢; exact lowDs_up h k
  | .tup _, k => by simp only [lowD] at k ⊢; exact lowDs_up h k
  | .dct _, k => by simp only [lowD] at k ⊢; exact lowDp_up h k
  | .cel i, k => by
    simp only [lowD] at k ⊢
    exact Nat.ble_eq_true_of_le (Nat.le_trans (Nat.le_of_ble_eq_true k) h)
  | .fn _, _ => rfl
  | .exc _ _, k => by simp only [lowD] at k ⊢; exact lowD_up h k
theorem lowDs_up {n m : Nat} (h : n ≤ m) : ∀ {ds : List D}, lowDs n ds = true → lowDs m ds = true
  | [], _ => rfl
  | d :: ds, k => by
    simp only [lowDs, Bool.and_eq_true] at k ⊢
    exact ⟨lowD_up h k.1, lowDs_up h k.2⟩
theorem lowDp_up {n m : Nat} (h : n ≤ m) : ∀ {ds : List (D × D)}, lowDp n ds = true → lowDp m ds = true
  | [], _ => rfl
  | (_, d) :: ds, k => by
    simp only [lowDp, Bool.and_eq_true] at k ⊢
    exact ⟨lowD_up h k.1, lowDp_up h k.2⟩
end
theorem lowC_up {n m : Nat} (h : n ≤ m) {c : CO} (k : lowC n c = true) : lowC m c = true := by
  cases c with
  | lst xs => exact lowDs_up h k
  | lk xs => exact lowDs_up h k
  | gone => rfl
  | tab _ _ => rfl
structure Lo (P L : Sto) : Prop where
  all : (P ++ L).all (lowC (P.length + L.length + 1)) = true
theorem Gn.low {n : Nat} {y : CO} {P L : Sto} (G : Gn n y) (h : Lo P L) : (P ++ y :: L).all (lowC (P ++ y :: L).length) = true := by
  have e : (P ++ y :: L).length = P.length + L.length + 1 := by simp; omega
  have k := h.all
  rw [List.all_append, Bool.and_eq_true] at k
  rw [e, List.all_append, List.all_cons, k.1, k.2, coFree_low G.free]
  rfl
theorem Lo.snoc {P L : Sto} {c : CO} (h : Lo P L) (hc : coFree c = true) : Lo P (L ++ [c]) := by
  refine ⟨?_⟩
  have k := h.all
  have e : (L ++ [c]).length = L.length + 1 := by simp
  rw [← List.append_assoc, List.all_append, Bool.and_eq_true, e]
  refine ⟨List.all_eq_true.mpr fun x m => lowC_up (by omega) (List.all_eq_true.mp k x m), ?_⟩
  rw [List.all_cons, coFree_low hc]
  rfl
theorem Lo.of {P L : Sto} (h : (P ++ L).all coFree = true) : Lo P L := ⟨coFree_lows h⟩
theorem bodyT_lo {N : List Str} {k : Nat} {f : FS} {ds : List D} {P L E : Sto} {n : Nat} {x y : CO} {d : D} (G : Gn n y) (hL : Lo P L) (hd : noCel d = true) (h : bodyD N k f ds (P ++ x :: L) = .ok d (P ++ y :: (L ++ E))) : bodyT N k f ds (P ++ x :: L) = .ok d (P ++ y :: L) := by
  have e : (P ++ x :: L).length = (P ++ y :: L).length := by simp
  refine bodyT_low E (h.trans ?_) e (by rw [e]; exact Gn.low G hL) (noCel_low hd)
  simp
theorem px0 {P L : Sto} {x y z : D} : ixD (.cel P.length) (.int 0) (P ++ .lst [x, y, z] :: L) = some x := by simp [ixD, seqOf, lstOf]
theorem px1 {P L : Sto} {x y z : D} : ixD (.cel P.length) (.int 1) (P ++ .lst [x, y, z] :: L) = some y := by simp [ixD, seqOf, lstOf]
theorem px2 {P L : Sto} {x y z : D} : ixD (.cel P.length) (.int 2) (P ++ .lst [x, y, z] :: L) = some z := by
  have : atI [x, y, z] 2 = some z := rfl
  simp [ixD, seqOf, lstOf, this]
theorem pset {P L : Sto} {c c' : CO} : (P ++ c :: L).set P.length c' = P ++ c' :: L := by
  induction P with
  | nil => rfl
  | cons a P ih => simpa using ih
theorem ps0 {P L : Sto} {x y z d : D} : setD (.cel P.length) (.int 0) d (P ++ .lst [x, y, z] :: L) = some (P ++ .lst [d, y, z] :: L) := by
  have : ixN 3 0 = some 0 := rfl
  simp [setD, this, pset]
theorem ps2 {P L : Sto} {x y z d : D} : setD (.cel P.length) (.int 2) d (P ++ .lst [x, y, z] :: L) = some (P ++ .lst [x, y, d] :: L) := by
  have : ixN 3 2 = some 2 := rfl
  simp [setD, this, pset]
theorem bodyT_okL {N : List Str} {n : Nat} {f : FS} {ds : List D} {S : Sto} {d : D} (h : bodyD N n f ds S = .ok d S) (hS : S.all (lowC S.length) = true) (hd : noCel d = true) : bodyT N n f ds S = .ok d S :=
  bodyT_low [] (by rw [List.append_nil]; exact h) rfl hS (noCel_low hd)
end Cm
set_option maxHeartbeats 2000000
namespace Cm
open PySem PySem.Spec PyProof.Rows L2 DL
def isInt : D → Bool
  | .int _ => true
  | _ => false
def isBtw (lo hi : Int) : D → Bool
  | .int i => decide (lo ≤ i) && decide (i ≤ hi)
  | _ => false
def isCount : D → Bool
  | .int i => decide (0 ≤ i)
  | _ => false
def isWord (w : Str) : D → Bool
  | .tup [.str x] => decide (x = w)
  | _ => false
def isScore : D → Bool
  | .tup [a, b] => isCount a && isCount b
  | _ => false
def isRow : D → Bool
  | .tup [.str x, .lst ms] => decide (x = "row") && (decide (1 ≤ ms.length) && decide (ms.length ≤ 8)) && ms.all (isBtw 0 1)
  | _ => false
def isOrder (d : D) : Bool := isWord "on" d || isWord "turns" d || isWord "winner" d || isWord "loser" d || isRow d
def isNums (need lead cap : D) : Bool := isBtw 1 30 need && isBtw 1 3 lead && match cap with
  | .non => true
  | c => match need with
    | .int n => isBtw n 40 c
    | _ => false
def wordIs (d : D) : D → Bool
  | .str x => isWord x d
  | _ => false
section
variable {S : Sto} (hS : S.all (lowC S.length) = true)
include hS
theorem is_whole_ok {d : D} {n : Nat} (h : fit d n = true) : g_is_whole [d] S = .ok (.bl (isInt d)) S := by
  refine bodyT_okL ?_ hS rfl
  cases d <;> first | (exfalso; cases n <;> simp [fit] at h; done) | rfl
theorem is_between_ok {d : D} {n : Nat} {lo hi : Int} (h : fit d n = true) : g_is_between [d, .int lo, .int hi] S = .ok (.bl (isBtw lo hi d)) S := by
  refine bodyT_okL ?_ hS rfl
  have e := is_whole_ok hS h
  simp only [fC_ap, fVar_ap, fOp_ap, fB_ap, fAnd_ap, fOr_ap, fNot_ap, fAndV_ap, fOrV_ap, fNotV_ap, fIf_ap, fNil_ap, fCons_ap, fTup_ap, fLst_ap, fLstC_ap, fNoPart_ap, fPart_ap, fSl_ap, fNeg_ap, fCB_ap, fIsi_ap, fIsi2_ap, fNext_ap, fSeq_ap, fRet_ap, fRetF_ap, fgName_ap, fgNil_ap, fgCons_ap, fgTup_ap, fgSub_ap, fAsg_ap, fPar_ap, fPar3_ap, fDrop_ap, fApp_ap, fIfS_ap, fiSeq_ap, fiTup_ap, fiEnum_ap, fYes_ap, fCall_ap, fCall0_ap, fChain_ap, fBits_ap, fAddC_ap, fiAny_ap, Res.bind_ok, asB_ok, okO_some, bodyD, asB, iterOf, withLock_none, noErr_ok, wipeE, List.map_cons, List.map_nil, List.length_cons, List.length_nil, List.cons_append, List.nil_append, List.getElem?_cons_zero, List.getElem?_cons_succ, List.set_cons_zero, List.set_cons_succ, if_true, Bool.false_eq_true, if_false, Nat.reduceAdd, Nat.reduceSub, Nat.zero_add, List.replicate, tyD, atI_0, atI_1, lenD_lst, lenD_tup, ixD_tup, ixD_lst, eqD_int, eqD_str, neD_int, neD_str, leD_int, ltD_int, gtD_int, geD_int, addD_int, subD_int, intD_int, px0, px1, px2, ps0, ps2, List.length_append, capN, Nat.zero_le, Nat.reduceLeDiff, Nat.reduceEqDiff, Nat.reduceLT, Bool.not_true, Bool.not_false, Bool.true_and, Bool.false_and, b_is_between, e]
  cases d with
  | int i => 
    simp only [isInt, fC_ap, fVar_ap, fOp_ap, fB_ap, fAnd_ap, fOr_ap, fNot_ap, fAndV_ap, fOrV_ap, fNotV_ap, fIf_ap, fNil_ap, fCons_ap, fTup_ap, fLst_ap, fLstC_ap, fNoPart_ap, fPart_ap, fSl_ap, fNeg_ap, fCB_ap, fIsi_ap, fIsi2_ap, fNext_ap, fSeq_ap, fRet_ap, fRetF_ap, fgName_ap, fgNil_ap, fgCons_ap, fgTup_ap, fgSub_ap, fAsg_ap, fPar_ap, fPar3_ap, fDrop_ap, fApp_ap, fIfS_ap, fiSeq_ap, fiTup_ap, fiEnum_ap, fYes_ap, fCall_ap, fCall0_ap, fChain_ap, fBits_ap, fAddC_ap, fiAny_ap, Res.bind_ok, asB_ok, okO_some, bodyD, asB, iterOf, withLock_none, noErr_ok, wipeE, List.map_cons, List.map_nil, List.length_cons, List.length_nil, List.cons_append, List.nil_append, List.getElem?_cons_zero, List.getElem?_cons_succ, List.set_cons_zero, List.set_cons_succ, if_true, Bool.false_eq_true, if_false, Nat.reduceAdd, Nat.reduceSub, Nat.zero_add, List.replicate, tyD, atI_0, atI_1, lenD_lst, lenD_tup, ixD_tup, ixD_lst, eqD_int, eqD_str, neD_int, neD_str, leD_int, ltD_int, gtD_int, geD_int, addD_int, subD_int, intD_int, px0, px1, px2, ps0, ps2, List.length_append, capN, Nat.zero_le, Nat.reduceLeDiff, Nat.reduceEqDiff, Nat.reduceLT, Bool.not_true, Bool.not_false, Bool.true_and, Bool.false_and, leD, isBtw]
    by_cases c : lo ≤ i <;> simp [c, fC_ap, fVar_ap, fOp_ap, fB_ap, fAnd_ap, fOr_ap, fNot_ap, fAndV_ap, fOrV_ap, fNotV_ap, fIf_ap, fNil_ap, fCons_ap, fTup_ap, fLst_ap, fLstC_ap, fNoPart_ap, fPart_ap, fSl_ap, fNeg_ap, fCB_ap, fIsi_ap, fIsi2_ap, fNext_ap, fSeq_ap, fRet_ap, fRetF_ap, fgName_ap, fgNil_ap, fgCons_ap, fgTup_ap, fgSub_ap, fAsg_ap, fPar_ap, fPar3_ap, fDrop_ap, fApp_ap, fIfS_ap, fiSeq_ap, fiTup_ap, fiEnum_ap, fYes_ap, fCall_ap, fCall0_ap, fChain_ap, fBits_ap, fAddC_ap, fiAny_ap, Res.bind_ok, asB_ok, okO_some, bodyD, asB, iterOf, withLock_none, noErr_ok, wipeE, List.map_cons, List.map_nil, List.length_cons, List.length_nil, List.cons_append, List.nil_append, List.getElem?_cons_zero, List.getElem?_cons_succ, List.set_cons_zero, List.set_cons_succ, if_true, Bool.false_eq_true, if_false, Nat.reduceAdd, Nat.reduceSub, Nat.zero_add, List.replicate, tyD, atI_0, atI_1, lenD_lst, lenD_tup, ixD_tup, ixD_lst, eqD_int, eqD_str, neD_int, neD_str, leD_int, ltD_int, gtD_int, geD_int, addD_int, subD_int, intD_int, px0, px1, px2, ps0, ps2, List.length_append, capN, Nat.zero_le, Nat.reduceLeDiff, Nat.reduceEqDiff, Nat.reduceLT, Bool.not_true, Bool.not_false, Bool.true_and, Bool.false_and]
  | _ => simp only [isInt, fC_ap, fVar_ap, fOp_ap, fB_ap, fAnd_ap, fOr_ap, fNot_ap, fAndV_ap, fOrV_ap, fNotV_ap, fIf_ap, fNil_ap, fCons_ap, fTup_ap, fLst_ap, fLstC_ap, fNoPart_ap, fPart_ap, fSl_ap, fNeg_ap, fCB_ap, fIsi_ap, fIsi2_ap, fNext_ap, fSeq_ap, fRet_ap, fRetF_ap, fgName_ap, fgNil_ap, fgCons_ap, fgTup_ap, fgSub_ap, fAsg_ap, fPar_ap, fPar3_ap, fDrop_ap, fApp_ap, fIfS_ap, fiSeq_ap, fiTup_ap, fiEnum_ap, fYes_ap, fCall_ap, fCall0_ap, fChain_ap, fBits_ap, fAddC_ap, fiAny_ap, Res.bind_ok, asB_ok, okO_some, bodyD, asB, iterOf, withLock_none, noErr_ok, wipeE, List.map_cons, List.map_nil, List.length_cons, List.length_nil, List.cons_append, List.nil_append, List.getElem?_cons_zero, List.getElem?_cons_succ, List.set_cons_zero, List.set_cons_succ, if_true, Bool.false_eq_true, if_false, Nat.reduceAdd, Nat.reduceSub, Nat.zero_add, List.replicate, tyD, atI_0, atI_1, lenD_lst, lenD_tup, ixD_tup, ixD_lst, eqD_int, eqD_str, neD_int, neD_str, leD_int, ltD_int, gtD_int, geD_int, addD_int, subD_int, intD_int, px0, px1, px2, ps0, ps2, List.length_append, capN, Nat.zero_le, Nat.reduceLeDiff, Nat.reduceEqDiff, Nat.reduceLT, Bool.not_true, Bool.not_false, Bool.true_and, Bool.false_and, isBtw]
theorem is_side_ok {d : D} {n : Nat} (h : fit d n = true) : g_is_side [d] S = .ok (.bl (isBtw 0 1 d)) S := by
  refine bodyT_okL ?_ hS rfl
  simp only [fC_ap, fVar_ap, fOp_ap, fB_ap, fAnd_ap, fOr_ap, fNot_ap, fAndV_ap, fOrV_ap, fNotV_ap, fIf_ap, fNil_ap, fCons_ap, fTup_ap, fLst_ap, fLstC_ap, fNoPart_ap, fPart_ap, fSl_ap, fNeg_ap, fCB_ap, fIsi_ap, fIsi2_ap, fNext_ap, fSeq_ap, fRet_ap, fRetF_ap, fgName_ap, fgNil_ap, fgCons_ap, fgTup_ap, fgSub_ap, fAsg_ap, fPar_ap, fPar3_ap, fDrop_ap, fApp_ap, fIfS_ap, fiSeq_ap, fiTup_ap, fiEnum_ap, fYes_ap, fCall_ap, fCall0_ap, fChain_ap, fBits_ap, fAddC_ap, fiAny_ap, Res.bind_ok, asB_ok, okO_some, bodyD, asB, iterOf, withLock_none, noErr_ok, wipeE, List.map_cons, List.map_nil, List.length_cons, List.length_nil, List.cons_append, List.nil_append, List.getElem?_cons_zero, List.getElem?_cons_succ, List.set_cons_zero, List.set_cons_succ, if_true, Bool.false_eq_true, if_false, Nat.reduceAdd, Nat.reduceSub, Nat.zero_add, List.replicate, tyD, atI_0, atI_1, lenD_lst, lenD_tup, ixD_tup, ixD_lst, eqD_int, eqD_str, neD_int, neD_str, leD_int, ltD_int, gtD_int, geD_int, addD_int, subD_int, intD_int, px0, px1, px2, ps0, ps2, List.length_append, capN, Nat.zero_le, Nat.reduceLeDiff, Nat.reduceEqDiff, Nat.reduceLT, Bool.not_true, Bool.not_false, Bool.true_and, Bool.false_and, b_is_side, is_between_ok hS h]
theorem is_count_ok {d : D} {n : Nat} (h : fit d n = true) : g_is_count [d] S = .ok (.bl (isCount d)) S := by
  refine bodyT_okL ?_ hS rfl
  have e := is_whole_ok hS h
  simp only [fC_ap, fVar_ap, fOp_ap, fB_ap, fAnd_ap, fOr_ap, fNot_ap, fAndV_ap, fOrV_ap, fNotV_ap, fIf_ap, fNil_ap, fCons_ap, fTup_ap, fLst_ap, fLstC_ap, fNoPart_ap, fPart_ap, fSl_ap, fNeg_ap, fCB_ap, fIsi_ap, fIsi2_ap, fNext_ap, fSeq_ap, fRet_ap, fRetF_ap, fgName_ap, fgNil_ap, fgCons_ap, fgTup_ap, fgSub_ap, fAsg_ap, fPar_ap, fPar3_ap, fDrop_ap, fApp_ap, fIfS_ap, fiSeq_ap, fiTup_ap, fiEnum_ap, fYes_ap, fCall_ap, fCall0_ap, fChain_ap, fBits_ap, fAddC_ap, fiAny_ap, Res.bind_ok, asB_ok, okO_some, bodyD, asB, iterOf, withLock_none, noErr_ok, wipeE, List.map_cons, List.map_nil, List.length_cons, List.length_nil, List.cons_append, List.nil_append, List.getElem?_cons_zero, List.getElem?_cons_succ, List.set_cons_zero, List.set_cons_succ, if_true, Bool.false_eq_true, if_false, Nat.reduceAdd, Nat.reduceSub, Nat.zero_add, List.replicate, tyD, atI_0, atI_1, lenD_lst, lenD_tup, ixD_tup, ixD_lst, eqD_int, eqD_str, neD_int, neD_str, leD_int, ltD_int, gtD_int, geD_int, addD_int, subD_int, intD_int, px0, px1, px2, ps0, ps2, List.length_append, capN, Nat.zero_le, Nat.reduceLeDiff, Nat.reduceEqDiff, Nat.reduceLT, Bool.not_true, Bool.not_false, Bool.true_and, Bool.false_and, b_is_count, e]
  cases d <;> simp only [isInt, fC_ap, fVar_ap, fOp_ap, fB_ap, fAnd_ap, fOr_ap, fNot_ap, fAndV_ap, fOrV_ap, fNotV_ap, fIf_ap, fNil_ap, fCons_ap, fTup_ap, fLst_ap, fLstC_ap, fNoPart_ap, fPart_ap, fSl_ap, fNeg_ap, fCB_ap, fIsi_ap, fIsi2_ap, fNext_ap, fSeq_ap, fRet_ap, fRetF_ap, fgName_ap, fgNil_ap, fgCons_ap, fgTup_ap, fgSub_ap, fAsg_ap, fPar_ap, fPar3_ap, fDrop_ap, fApp_ap, fIfS_ap, fiSeq_ap, fiTup_ap, fiEnum_ap, fYes_ap, fCall_ap, fCall0_ap, fChain_ap, fBits_ap, fAddC_ap, fiAny_ap, Res.bind_ok, asB_ok, okO_some, bodyD, asB, iterOf, withLock_none, noErr_ok, wipeE, List.map_cons, List.map_nil, List.length_cons, List.length_nil, List.cons_append, List.nil_append, List.getElem?_cons_zero, List.getElem?_cons_succ, List.set_cons_zero, List.set_cons_succ, if_true, Bool.false_eq_true, if_false, Nat.reduceAdd, Nat.reduceSub, Nat.zero_add, List.replicate, tyD, atI_0, atI_1, lenD_lst, lenD_tup, ixD_tup, ixD_lst, eqD_int, eqD_str, neD_int, neD_str, leD_int, ltD_int, gtD_int, geD_int, addD_int, subD_int, intD_int, px0, px1, px2, ps0, ps2, List.length_append, capN, Nat.zero_le, Nat.reduceLeDiff, Nat.reduceEqDiff, Nat.reduceLT, Bool.not_true, Bool.not_false, Bool.true_and, Bool.false_and, geD, isCount]
theorem is_word_ok {d : D} {n : Nat} {w : Str} (h : fit d n = true) : g_is_word [d, .str w] S = .ok (.bl (isWord w d)) S := by
  refine bodyT_okL ?_ hS rfl
  simp only [fC_ap, fVar_ap, fOp_ap, fB_ap, fAnd_ap, fOr_ap, fNot_ap, fAndV_ap, fOrV_ap, fNotV_ap, fIf_ap, fNil_ap, fCons_ap, fTup_ap, fLst_ap, fLstC_ap, fNoPart_ap, fPart_ap, fSl_ap, fNeg_ap, fCB_ap, fIsi_ap, fIsi2_ap, fNext_ap, fSeq_ap, fRet_ap, fRetF_ap, fgName_ap, fgNil_ap, fgCons_ap, fgTup_ap, fgSub_ap, fAsg_ap, fPar_ap, fPar3_ap, fDrop_ap, fApp_ap, fIfS_ap, fiSeq_ap, fiTup_ap, fiEnum_ap, fYes_ap, fCall_ap, fCall0_ap, fChain_ap, fBits_ap, fAddC_ap, fiAny_ap, Res.bind_ok, asB_ok, okO_some, bodyD, asB, iterOf, withLock_none, noErr_ok, wipeE, List.map_cons, List.map_nil, List.length_cons, List.length_nil, List.cons_append, List.nil_append, List.getElem?_cons_zero, List.getElem?_cons_succ, List.set_cons_zero, List.set_cons_succ, if_true, Bool.false_eq_true, if_false, Nat.reduceAdd, Nat.reduceSub, Nat.zero_add, List.replicate, tyD, atI_0, atI_1, lenD_lst, lenD_tup, ixD_tup, ixD_lst, eqD_int, eqD_str, neD_int, neD_str, leD_int, ltD_int, gtD_int, geD_int, addD_int, subD_int, intD_int, px0, px1, px2, ps0, ps2, List.length_append, capN, Nat.zero_le, Nat.reduceLeDiff, Nat.reduceEqDiff, Nat.reduceLT, Bool.not_true, Bool.not_false, Bool.true_and, Bool.false_and, b_is_word]
  cases d with
  | tup xs =>
    match xs, h with
    | [], _ => rfl
    | [x], h =>
      cases x <;> first | rfl | (exfalso; rcases n with _ | _ | n <;> simp [fit, fits] at h)
    | x :: y :: r, _ =>
      have e : ¬ ((r.length : Int) + 1 + 1 = 1) := by omega
      simp [fC_ap, fVar_ap, fOp_ap, fB_ap, fAnd_ap, fOr_ap, fNot_ap, fAndV_ap, fOrV_ap, fNotV_ap, fIf_ap, fNil_ap, fCons_ap, fTup_ap, fLst_ap, fLstC_ap, fNoPart_ap, fPart_ap, fSl_ap, fNeg_ap, fCB_ap, fIsi_ap, fIsi2_ap, fNext_ap, fSeq_ap, fRet_ap, fRetF_ap, fgName_ap, fgNil_ap, fgCons_ap, fgTup_ap, fgSub_ap, fAsg_ap, fPar_ap, fPar3_ap, fDrop_ap, fApp_ap, fIfS_ap, fiSeq_ap, fiTup_ap, fiEnum_ap, fYes_ap, fCall_ap, fCall0_ap, fChain_ap, fBits_ap, fAddC_ap, fiAny_ap, Res.bind_ok, asB_ok, okO_some, bodyD, asB, iterOf, withLock_none, noErr_ok, wipeE, List.map_cons, List.map_nil, List.length_cons, List.length_nil, List.cons_append, List.nil_append, List.getElem?_cons_zero, List.getElem?_cons_succ, List.set_cons_zero, List.set_cons_succ, if_true, Bool.false_eq_true, if_false, Nat.reduceAdd, Nat.reduceSub, Nat.zero_add, List.replicate, tyD, atI_0, atI_1, lenD_lst, lenD_tup, ixD_tup, ixD_lst, eqD_int, eqD_str, neD_int, neD_str, leD_int, ltD_int, gtD_int, geD_int, addD_int, subD_int, intD_int, px0, px1, px2, ps0, ps2, List.length_append, capN, Nat.zero_le, Nat.reduceLeDiff, Nat.reduceEqDiff, Nat.reduceLT, Bool.not_true, Bool.not_false, Bool.true_and, Bool.false_and, lenD, seqOf, eqD, eqB, isWord, e]
  | _ => first | (exfalso; cases n <;> simp [fit] at h; done) | rfl
theorem is_score_ok {d : D} {n : Nat} (h : fit d n = true) : g_is_score [d] S = .ok (.bl (isScore d)) S := by
  refine bodyT_okL ?_ hS rfl
  simp only [fC_ap, fVar_ap, fOp_ap, fB_ap, fAnd_ap, fOr_ap, fNot_ap, fAndV_ap, fOrV_ap, fNotV_ap, fIf_ap, fNil_ap, fCons_ap, fTup_ap, fLst_ap, fLstC_ap, fNoPart_ap, fPart_ap, fSl_ap, fNeg_ap, fCB_ap, fIsi_ap, fIsi2_ap, fNext_ap, fSeq_ap, fRet_ap, fRetF_ap, fgName_ap, fgNil_ap, fgCons_ap, fgTup_ap, fgSub_ap, fAsg_ap, fPar_ap, fPar3_ap, fDrop_ap, fApp_ap, fIfS_ap, fiSeq_ap, fiTup_ap, fiEnum_ap, fYes_ap, fCall_ap, fCall0_ap, fChain_ap, fBits_ap, fAddC_ap, fiAny_ap, Res.bind_ok, asB_ok, okO_some, bodyD, asB, iterOf, withLock_none, noErr_ok, wipeE, List.map_cons, List.map_nil, List.length_cons, List.length_nil, List.cons_append, List.nil_append, List.getElem?_cons_zero, List.getElem?_cons_succ, List.set_cons_zero, List.set_cons_succ, if_true, Bool.false_eq_true, if_false, Nat.reduceAdd, Nat.reduceSub, Nat.zero_add, List.replicate, tyD, atI_0, atI_1, lenD_lst, lenD_tup, ixD_tup, ixD_lst, eqD_int, eqD_str, neD_int, neD_str, leD_int, ltD_int, gtD_int, geD_int, addD_int, subD_int, intD_int, px0, px1, px2, ps0, ps2, List.length_append, capN, Nat.zero_le, Nat.reduceLeDiff, Nat.reduceEqDiff, Nat.reduceLT, Bool.not_true, Bool.not_false, Bool.true_and, Bool.false_and, b_is_score]
  cases d with
  | tup xs =>
    cases n with
    | zero => simp [fit] at h
    | succ n =>
      match xs, h with
      | [], _ => rfl
      | [x], _ => rfl
      | [x, y], h =>
        simp only [fit, fits, Bool.and_eq_true] at h
        have e1 := is_count_ok hS h.1
        have e2 := is_count_ok hS h.2.1
        simp only [fC_ap, fVar_ap, fOp_ap, fB_ap, fAnd_ap, fOr_ap, fNot_ap, fAndV_ap, fOrV_ap, fNotV_ap, fIf_ap, fNil_ap, fCons_ap, fTup_ap, fLst_ap, fLstC_ap, fNoPart_ap, fPart_ap, fSl_ap, fNeg_ap, fCB_ap, fIsi_ap, fIsi2_ap, fNext_ap, fSeq_ap, fRet_ap, fRetF_ap, fgName_ap, fgNil_ap, fgCons_ap, fgTup_ap, fgSub_ap, fAsg_ap, fPar_ap, fPar3_ap, fDrop_ap, fApp_ap, fIfS_ap, fiSeq_ap, fiTup_ap, fiEnum_ap, fYes_ap, fCall_ap, fCall0_ap, fChain_ap, fBits_ap, fAddC_ap, fiAny_ap, Res.bind_ok, asB_ok, okO_some, bodyD, asB, iterOf, withLock_none, noErr_ok, wipeE, List.map_cons, List.map_nil, List.length_cons, List.length_nil, List.cons_append, List.nil_append, List.getElem?_cons_zero, List.getElem?_cons_succ, List.set_cons_zero, List.set_cons_succ, if_true, Bool.false_eq_true, if_false, Nat.reduceAdd, Nat.reduceSub, Nat.zero_add, List.replicate, tyD, atI_0, atI_1, lenD_lst, lenD_tup, ixD_tup, ixD_lst, eqD_int, eqD_str, neD_int, neD_str, leD_int, ltD_int, gtD_int, geD_int, addD_int, subD_int, intD_int, px0, px1, px2, ps0, ps2, List.length_append, capN, Nat.zero_le, Nat.reduceLeDiff, Nat.reduceEqDiff, Nat.reduceLT, Bool.not_true, Bool.not_false, Bool.true_and, Bool.false_and, isScore, e1, e2, isiB]
        cases isCount x <;> simp [fC_ap, fVar_ap, fOp_ap, fB_ap, fAnd_ap, fOr_ap, fNot_ap, fAndV_ap, fOrV_ap, fNotV_ap, fIf_ap, fNil_ap, fCons_ap, fTup_ap, fLst_ap, fLstC_ap, fNoPart_ap, fPart_ap, fSl_ap, fNeg_ap, fCB_ap, fIsi_ap, fIsi2_ap, fNext_ap, fSeq_ap, fRet_ap, fRetF_ap, fgName_ap, fgNil_ap, fgCons_ap, fgTup_ap, fgSub_ap, fAsg_ap, fPar_ap, fPar3_ap, fDrop_ap, fApp_ap, fIfS_ap, fiSeq_ap, fiTup_ap, fiEnum_ap, fYes_ap, fCall_ap, fCall0_ap, fChain_ap, fBits_ap, fAddC_ap, fiAny_ap, Res.bind_ok, asB_ok, okO_some, bodyD, asB, iterOf, withLock_none, noErr_ok, wipeE, List.map_cons, List.map_nil, List.length_cons, List.length_nil, List.cons_append, List.nil_append, List.getElem?_cons_zero, List.getElem?_cons_succ, List.set_cons_zero, List.set_cons_succ, if_true, Bool.false_eq_true, if_false, Nat.reduceAdd, Nat.reduceSub, Nat.zero_add, List.replicate, tyD, atI_0, atI_1, lenD_lst, lenD_tup, ixD_tup, ixD_lst, eqD_int, eqD_str, neD_int, neD_str, leD_int, ltD_int, gtD_int, geD_int, addD_int, subD_int, intD_int, px0, px1, px2, ps0, ps2, List.length_append, capN, Nat.zero_le, Nat.reduceLeDiff, Nat.reduceEqDiff, Nat.reduceLT, Bool.not_true, Bool.not_false, Bool.true_and, Bool.false_and, e2]
      | x :: y :: z :: r, _ =>
        have e : ¬ ((r.length : Int) + 1 + 1 + 1 = 2) := by omega
        simp [fC_ap, fVar_ap, fOp_ap, fB_ap, fAnd_ap, fOr_ap, fNot_ap, fAndV_ap, fOrV_ap, fNotV_ap, fIf_ap, fNil_ap, fCons_ap, fTup_ap, fLst_ap, fLstC_ap, fNoPart_ap, fPart_ap, fSl_ap, fNeg_ap, fCB_ap, fIsi_ap, fIsi2_ap, fNext_ap, fSeq_ap, fRet_ap, fRetF_ap, fgName_ap, fgNil_ap, fgCons_ap, fgTup_ap, fgSub_ap, fAsg_ap, fPar_ap, fPar3_ap, fDrop_ap, fApp_ap, fIfS_ap, fiSeq_ap, fiTup_ap, fiEnum_ap, fYes_ap, fCall_ap, fCall0_ap, fChain_ap, fBits_ap, fAddC_ap, fiAny_ap, Res.bind_ok, asB_ok, okO_some, bodyD, asB, iterOf, withLock_none, noErr_ok, wipeE, List.map_cons, List.map_nil, List.length_cons, List.length_nil, List.cons_append, List.nil_append, List.getElem?_cons_zero, List.getElem?_cons_succ, List.set_cons_zero, List.set_cons_succ, if_true, Bool.false_eq_true, if_false, Nat.reduceAdd, Nat.reduceSub, Nat.zero_add, List.replicate, tyD, atI_0, atI_1, lenD_lst, lenD_tup, ixD_tup, ixD_lst, eqD_int, eqD_str, neD_int, neD_str, leD_int, ltD_int, gtD_int, geD_int, addD_int, subD_int, intD_int, px0, px1, px2, ps0, ps2, List.length_append, capN, Nat.zero_le, Nat.reduceLeDiff, Nat.reduceEqDiff, Nat.reduceLT, Bool.not_true, Bool.not_false, Bool.true_and, Bool.false_and, isScore, e, isiB]
  | _ => first | (exfalso; cases n <;> simp [fit] at h; done) | rfl
theorem are_numbers_ok {a b c : D} {n : Nat} (h1 : fit a n = true) (h2 : fit b n = true) (h3 : fit c n = true) : g_are_numbers_of_race [a, b, c] S = .ok (.bl (isNums a b c)) S := by
  refine bodyT_okL ?_ hS rfl
  have e1 := is_between_ok (lo := 1) (hi := 30) hS h1
  have e2 := is_between_ok (lo := 1) (hi := 3) hS h2
  simp only [fC_ap, fVar_ap, fOp_ap, fB_ap, fAnd_ap, fOr_ap, fNot_ap, fAndV_ap, fOrV_ap, fNotV_ap, fIf_ap, fNil_ap, fCons_ap, fTup_ap, fLst_ap, fLstC_ap, fNoPart_ap, fPart_ap, fSl_ap, fNeg_ap, fCB_ap, fIsi_ap, fIsi2_ap, fNext_ap, fSeq_ap, fRet_ap, fRetF_ap, fgName_ap, fgNil_ap, fgCons_ap, fgTup_ap, fgSub_ap, fAsg_ap, fPar_ap, fPar3_ap, fDrop_ap, fApp_ap, fIfS_ap, fiSeq_ap, fiTup_ap, fiEnum_ap, fYes_ap, fCall_ap, fCall0_ap, fChain_ap, fBits_ap, fAddC_ap, fiAny_ap, Res.bind_ok, asB_ok, okO_some, bodyD, asB, iterOf, withLock_none, noErr_ok, wipeE, List.map_cons, List.map_nil, List.length_cons, List.length_nil, List.cons_append, List.nil_append, List.getElem?_cons_zero, List.getElem?_cons_succ, List.set_cons_zero, List.set_cons_succ, if_true, Bool.false_eq_true, if_false, Nat.reduceAdd, Nat.reduceSub, Nat.zero_add, List.replicate, tyD, atI_0, atI_1, lenD_lst, lenD_tup, ixD_tup, ixD_lst, eqD_int, eqD_str, neD_int, neD_str, leD_int, ltD_int, gtD_int, geD_int, addD_int, subD_int, intD_int, px0, px1, px2, ps0, ps2, List.length_append, capN, Nat.zero_le, Nat.reduceLeDiff, Nat.reduceEqDiff, Nat.reduceLT, Bool.not_true, Bool.not_false, Bool.true_and, Bool.false_and, b_are_numbers_of_race, e1, e2]
  cases q1 : isBtw 1 30 a with
  | false => simp [fC_ap, fVar_ap, fOp_ap, fB_ap, fAnd_ap, fOr_ap, fNot_ap, fAndV_ap, fOrV_ap, fNotV_ap, fIf_ap, fNil_ap, fCons_ap, fTup_ap, fLst_ap, fLstC_ap, fNoPart_ap, fPart_ap, fSl_ap, fNeg_ap, fCB_ap, fIsi_ap, fIsi2_ap, fNext_ap, fSeq_ap, fRet_ap, fRetF_ap, fgName_ap, fgNil_ap, fgCons_ap, fgTup_ap, fgSub_ap, fAsg_ap, fPar_ap, fPar3_ap, fDrop_ap, fApp_ap, fIfS_ap, fiSeq_ap, fiTup_ap, fiEnum_ap, fYes_ap, fCall_ap, fCall0_ap, fChain_ap, fBits_ap, fAddC_ap, fiAny_ap, Res.bind_ok, asB_ok, okO_some, bodyD, asB, iterOf, withLock_none, noErr_ok, wipeE, List.map_cons, List.map_nil, List.length_cons, List.length_nil, List.cons_append, List.nil_append, List.getElem?_cons_zero, List.getElem?_cons_succ, List.set_cons_zero, List.set_cons_succ, if_true, Bool.false_eq_true, if_false, Nat.reduceAdd, Nat.reduceSub, Nat.zero_add, List.replicate, tyD, atI_0, atI_1, lenD_lst, lenD_tup, ixD_tup, ixD_lst, eqD_int, eqD_str, neD_int, neD_str, leD_int, ltD_int, gtD_int, geD_int, addD_int, subD_int, intD_int, px0, px1, px2, ps0, ps2, List.length_append, capN, Nat.zero_le, Nat.reduceLeDiff, Nat.reduceEqDiff, Nat.reduceLT, Bool.not_true, Bool.not_false, Bool.true_and, Bool.false_and, isNums, q1]
  | true =>
    cases q2 : isBtw 1 3 b with
    | false => simp [fC_ap, fVar_ap, fOp_ap, fB_ap, fAnd_ap, fOr_ap, fNot_ap, fAndV_ap, fOrV_ap, fNotV_ap, fIf_ap, fNil_ap, fCons_ap, fTup_ap, fLst_ap, fLstC_ap, fNoPart_ap, fPart_ap, fSl_ap, fNeg_ap, fCB_ap, fIsi_ap, fIsi2_ap, fNext_ap, fSeq_ap, fRet_ap, fRetF_ap, fgName_ap, fgNil_ap, fgCons_ap, fgTup_ap, fgSub_ap, fAsg_ap, fPar_ap, fPar3_ap, fDrop_ap, fApp_ap, fIfS_ap, fiSeq_ap, fiTup_ap, fiEnum_ap, fYes_ap, fCall_ap, fCall0_ap, fChain_ap, fBits_ap, fAddC_ap, fiAny_ap, Res.bind_ok, asB_ok, okO_some, bodyD, asB, iterOf, withLock_none, noErr_ok, wipeE, List.map_cons, List.map_nil, List.length_cons, List.length_nil, List.cons_append, List.nil_append, List.getElem?_cons_zero, List.getElem?_cons_succ, List.set_cons_zero, List.set_cons_succ, if_true, Bool.false_eq_true, if_false, Nat.reduceAdd, Nat.reduceSub, Nat.zero_add, List.replicate, tyD, atI_0, atI_1, lenD_lst, lenD_tup, ixD_tup, ixD_lst, eqD_int, eqD_str, neD_int, neD_str, leD_int, ltD_int, gtD_int, geD_int, addD_int, subD_int, intD_int, px0, px1, px2, ps0, ps2, List.length_append, capN, Nat.zero_le, Nat.reduceLeDiff, Nat.reduceEqDiff, Nat.reduceLT, Bool.not_true, Bool.not_false, Bool.true_and, Bool.false_and, isNums, q1, q2, e2]
    | true =>
      obtain ⟨i, rfl⟩ : ∃ i, a = .int i := by
        cases a with
        | int i => exact ⟨i, rfl⟩
        | _ => simp [isBtw] at q1
      have e3 := is_between_ok (lo := i) (hi := 40) hS h3
      cases c <;> simp [fC_ap, fVar_ap, fOp_ap, fB_ap, fAnd_ap, fOr_ap, fNot_ap, fAndV_ap, fOrV_ap, fNotV_ap, fIf_ap, fNil_ap, fCons_ap, fTup_ap, fLst_ap, fLstC_ap, fNoPart_ap, fPart_ap, fSl_ap, fNeg_ap, fCB_ap, fIsi_ap, fIsi2_ap, fNext_ap, fSeq_ap, fRet_ap, fRetF_ap, fgName_ap, fgNil_ap, fgCons_ap, fgTup_ap, fgSub_ap, fAsg_ap, fPar_ap, fPar3_ap, fDrop_ap, fApp_ap, fIfS_ap, fiSeq_ap, fiTup_ap, fiEnum_ap, fYes_ap, fCall_ap, fCall0_ap, fChain_ap, fBits_ap, fAddC_ap, fiAny_ap, Res.bind_ok, asB_ok, okO_some, bodyD, asB, iterOf, withLock_none, noErr_ok, wipeE, List.map_cons, List.map_nil, List.length_cons, List.length_nil, List.cons_append, List.nil_append, List.getElem?_cons_zero, List.getElem?_cons_succ, List.set_cons_zero, List.set_cons_succ, if_true, Bool.false_eq_true, if_false, Nat.reduceAdd, Nat.reduceSub, Nat.zero_add, List.replicate, tyD, atI_0, atI_1, lenD_lst, lenD_tup, ixD_tup, ixD_lst, eqD_int, eqD_str, neD_int, neD_str, leD_int, ltD_int, gtD_int, geD_int, addD_int, subD_int, intD_int, px0, px1, px2, ps0, ps2, List.length_append, capN, Nat.zero_le, Nat.reduceLeDiff, Nat.reduceEqDiff, Nat.reduceLT, Bool.not_true, Bool.not_false, Bool.true_and, Bool.false_and, isNums, q1, q2, e2, e3, isD, DL.isNon]
theorem is_order_ok {d : D} {n : Nat} (h : fit d n = true) (hn : n ≤ 60) : g_is_order [d] S = .ok (.bl (isOrder d)) S := by
  refine bodyT_okL ?_ hS rfl
  have l1 := fLc_pure (vs := [1]) (fi := fiAny (fC c_ORDERS)) (g := fgName 1) (c := fB (fCall 2 g_is_word (fCons (fVar 0) (fCons (fVar 1) fNil)))) (el := fVar 1) (ρ := [some d, none, none]) (S := S) (xs := [.str "on", .str "turns", .str "winner", .str "loser"])
      (wordIs d) id rfl (by decide) (fun w m => by
          refine ⟨[some d, some w, none], rfl, ?_, fun _ => rfl⟩
          obtain ⟨x, rfl⟩ : ∃ x, w = .str x := by
            simp only [List.mem_cons, List.not_mem_nil, or_false] at m
            rcases m with rfl | rfl | rfl | rfl <;> exact ⟨_, rfl⟩
          simp only [fC_ap, fVar_ap, fOp_ap, fB_ap, fAnd_ap, fOr_ap, fNot_ap, fAndV_ap, fOrV_ap, fNotV_ap, fIf_ap, fNil_ap, fCons_ap, fTup_ap, fLst_ap, fLstC_ap, fNoPart_ap, fPart_ap, fSl_ap, fNeg_ap, fCB_ap, fIsi_ap, fIsi2_ap, fNext_ap, fSeq_ap, fRet_ap, fRetF_ap, fgName_ap, fgNil_ap, fgCons_ap, fgTup_ap, fgSub_ap, fAsg_ap, fPar_ap, fPar3_ap, fDrop_ap, fApp_ap, fIfS_ap, fiSeq_ap, fiTup_ap, fiEnum_ap, fYes_ap, fCall_ap, fCall0_ap, fChain_ap, fBits_ap, fAddC_ap, fiAny_ap, Res.bind_ok, asB_ok, okO_some, bodyD, asB, iterOf, withLock_none, noErr_ok, wipeE, List.map_cons, List.map_nil, List.length_cons, List.length_nil, List.cons_append, List.nil_append, List.getElem?_cons_zero, List.getElem?_cons_succ, List.set_cons_zero, List.set_cons_succ, if_true, Bool.false_eq_true, if_false, Nat.reduceAdd, Nat.reduceSub, Nat.zero_add, List.replicate, tyD, atI_0, atI_1, lenD_lst, lenD_tup, ixD_tup, ixD_lst, eqD_int, eqD_str, neD_int, neD_str, leD_int, ltD_int, gtD_int, geD_int, addD_int, subD_int, intD_int, px0, px1, px2, ps0, ps2, List.length_append, capN, Nat.zero_le, Nat.reduceLeDiff, Nat.reduceEqDiff, Nat.reduceLT, Bool.not_true, Bool.not_false, Bool.true_and, Bool.false_and, is_word_ok hS h, wordIs])
  rw [List.map_id] at l1
  have l2 : neD (.lst (([.str "on", .str "turns", .str "winner", .str "loser"] : List D).filter (wordIs d))) (.lst []) S = some (.bl (isWord "on" d || isWord "turns" d || isWord "winner" d || isWord "loser" d)) := by
    rw [neD_nil (n := 0) (fits_filter _ (by decide +kernel)) (by decide), isEmpty_filter]
    simp only [List.all_cons, List.all_nil, wordIs]
    cases isWord "on" d <;> cases isWord "turns" d <;> cases isWord "winner" d <;> cases isWord "loser" d <;> rfl
  simp only [fC_ap, fVar_ap, fOp_ap, fB_ap, fAnd_ap, fOr_ap, fNot_ap, fAndV_ap, fOrV_ap, fNotV_ap, fIf_ap, fNil_ap, fCons_ap, fTup_ap, fLst_ap, fLstC_ap, fNoPart_ap, fPart_ap, fSl_ap, fNeg_ap, fCB_ap, fIsi_ap, fIsi2_ap, fNext_ap, fSeq_ap, fRet_ap, fRetF_ap, fgName_ap, fgNil_ap, fgCons_ap, fgTup_ap, fgSub_ap, fAsg_ap, fPar_ap, fPar3_ap, fDrop_ap, fApp_ap, fIfS_ap, fiSeq_ap, fiTup_ap, fiEnum_ap, fYes_ap, fCall_ap, fCall0_ap, fChain_ap, fBits_ap, fAddC_ap, fiAny_ap, Res.bind_ok, asB_ok, okO_some, bodyD, asB, iterOf, withLock_none, noErr_ok, wipeE, List.map_cons, List.map_nil, List.length_cons, List.length_nil, List.cons_append, List.nil_append, List.getElem?_cons_zero, List.getElem?_cons_succ, List.set_cons_zero, List.set_cons_succ, if_true, Bool.false_eq_true, if_false, Nat.reduceAdd, Nat.reduceSub, Nat.zero_add, List.replicate, tyD, atI_0, atI_1, lenD_lst, lenD_tup, ixD_tup, ixD_lst, eqD_int, eqD_str, neD_int, neD_str, leD_int, ltD_int, gtD_int, geD_int, addD_int, subD_int, intD_int, px0, px1, px2, ps0, ps2, List.length_append, capN, Nat.zero_le, Nat.reduceLeDiff, Nat.reduceEqDiff, Nat.reduceLT, Bool.not_true, Bool.not_false, Bool.true_and, Bool.false_and, b_is_order, l1, l2]
  cases q : (isWord "on" d || isWord "turns" d || isWord "winner" d || isWord "loser" d) with
  | true => simp [fC_ap, fVar_ap, fOp_ap, fB_ap, fAnd_ap, fOr_ap, fNot_ap, fAndV_ap, fOrV_ap, fNotV_ap, fIf_ap, fNil_ap, fCons_ap, fTup_ap, fLst_ap, fLstC_ap, fNoPart_ap, fPart_ap, fSl_ap, fNeg_ap, fCB_ap, fIsi_ap, fIsi2_ap, fNext_ap, fSeq_ap, fRet_ap, fRetF_ap, fgName_ap, fgNil_ap, fgCons_ap, fgTup_ap, fgSub_ap, fAsg_ap, fPar_ap, fPar3_ap, fDrop_ap, fApp_ap, fIfS_ap, fiSeq_ap, fiTup_ap, fiEnum_ap, fYes_ap, fCall_ap, fCall0_ap, fChain_ap, fBits_ap, fAddC_ap, fiAny_ap, Res.bind_ok, asB_ok, okO_some, bodyD, asB, iterOf, withLock_none, noErr_ok, wipeE, List.map_cons, List.map_nil, List.length_cons, List.length_nil, List.cons_append, List.nil_append, List.getElem?_cons_zero, List.getElem?_cons_succ, List.set_cons_zero, List.set_cons_succ, if_true, Bool.false_eq_true, if_false, Nat.reduceAdd, Nat.reduceSub, Nat.zero_add, List.replicate, tyD, atI_0, atI_1, lenD_lst, lenD_tup, ixD_tup, ixD_lst, eqD_int, eqD_str, neD_int, neD_str, leD_int, ltD_int, gtD_int, geD_int, addD_int, subD_int, intD_int, px0, px1, px2, ps0, ps2, List.length_append, capN, Nat.zero_le, Nat.reduceLeDiff, Nat.reduceEqDiff, Nat.reduceLT, Bool.not_true, Bool.not_false, Bool.true_and, Bool.false_and, isOrder, q]
  | false =>
    have ei : isOrder d = isRow d := by simp only [isOrder, q, Bool.false_or]
    rw [ei]
    clear ei l1 l2 q
    simp only [fC_ap, fVar_ap, fOp_ap, fB_ap, fAnd_ap, fOr_ap, fNot_ap, fAndV_ap, fOrV_ap, fNotV_ap, fIf_ap, fNil_ap, fCons_ap, fTup_ap, fLst_ap, fLstC_ap, fNoPart_ap, fPart_ap, fSl_ap, fNeg_ap, fCB_ap, fIsi_ap, fIsi2_ap, fNext_ap, fSeq_ap, fRet_ap, fRetF_ap, fgName_ap, fgNil_ap, fgCons_ap, fgTup_ap, fgSub_ap, fAsg_ap, fPar_ap, fPar3_ap, fDrop_ap, fApp_ap, fIfS_ap, fiSeq_ap, fiTup_ap, fiEnum_ap, fYes_ap, fCall_ap, fCall0_ap, fChain_ap, fBits_ap, fAddC_ap, fiAny_ap, Res.bind_ok, asB_ok, okO_some, bodyD, asB, iterOf, withLock_none, noErr_ok, wipeE, List.map_cons, List.map_nil, List.length_cons, List.length_nil, List.cons_append, List.nil_append, List.getElem?_cons_zero, List.getElem?_cons_succ, List.set_cons_zero, List.set_cons_succ, if_true, Bool.false_eq_true, if_false, Nat.reduceAdd, Nat.reduceSub, Nat.zero_add, List.replicate, tyD, atI_0, atI_1, lenD_lst, lenD_tup, ixD_tup, ixD_lst, eqD_int, eqD_str, neD_int, neD_str, leD_int, ltD_int, gtD_int, geD_int, addD_int, subD_int, intD_int, px0, px1, px2, ps0, ps2, List.length_append, capN, Nat.zero_le, Nat.reduceLeDiff, Nat.reduceEqDiff, Nat.reduceLT, Bool.not_true, Bool.not_false, Bool.true_and, Bool.false_and]
    cases d with
    | tup xs =>
      cases n with
      | zero => simp [fit] at h
      | succ n =>
        match xs, h with
        | [], _ => rfl
        | [x], _ => cases x <;> rfl
        | [x, y], h =>
          simp only [fit, fits, Bool.and_eq_true] at h
          obtain ⟨h1, h2, -⟩ := h
          cases x with
          | str w =>
            by_cases ew : w = "row"
            · subst ew
              cases y with
              | lst ms =>
                cases n with
                | zero => simp [fit] at h2
                | succ n =>
                  simp only [fit] at h2
                  by_cases c1 : 1 ≤ ms.length
                  · by_cases c2 : ms.length ≤ 8
                    · have l3 := fLc_pure (vs := [2]) (fi := fiAny (fOp ixD (fVar 0) (fC (.int 1)))) (g := fgName 2) (c := fNot (fB (fCall 1 g_is_side (fCons (fVar 2) fNil)))) (el := fVar 2) (ρ := [some (.tup [.str "row", .lst ms]), none, none]) (S := S) (xs := ms)
                        (fun m => !isBtw 0 1 m) id (by simp only [fC_ap, fVar_ap, fOp_ap, fB_ap, fAnd_ap, fOr_ap, fNot_ap, fAndV_ap, fOrV_ap, fNotV_ap, fIf_ap, fNil_ap, fCons_ap, fTup_ap, fLst_ap, fLstC_ap, fNoPart_ap, fPart_ap, fSl_ap, fNeg_ap, fCB_ap, fIsi_ap, fIsi2_ap, fNext_ap, fSeq_ap, fRet_ap, fRetF_ap, fgName_ap, fgNil_ap, fgCons_ap, fgTup_ap, fgSub_ap, fAsg_ap, fPar_ap, fPar3_ap, fDrop_ap, fApp_ap, fIfS_ap, fiSeq_ap, fiTup_ap, fiEnum_ap, fYes_ap, fCall_ap, fCall0_ap, fChain_ap, fBits_ap, fAddC_ap, fiAny_ap, Res.bind_ok, asB_ok, okO_some, bodyD, asB, iterOf, withLock_none, noErr_ok, wipeE, List.map_cons, List.map_nil, List.length_cons, List.length_nil, List.cons_append, List.nil_append, List.getElem?_cons_zero, List.getElem?_cons_succ, List.set_cons_zero, List.set_cons_succ, if_true, Bool.false_eq_true, if_false, Nat.reduceAdd, Nat.reduceSub, Nat.zero_add, List.replicate, tyD, atI_0, atI_1, lenD_lst, lenD_tup, ixD_tup, ixD_lst, eqD_int, eqD_str, neD_int, neD_str, leD_int, ltD_int, gtD_int, geD_int, addD_int, subD_int, intD_int, px0, px1, px2, ps0, ps2, List.length_append, capN, Nat.zero_le, Nat.reduceLeDiff, Nat.reduceEqDiff, Nat.reduceLT, Bool.not_true, Bool.not_false, Bool.true_and, Bool.false_and]) (by show ms.length < 10000000; omega) (fun m hm => by
                          refine ⟨[some (.tup [.str "row", .lst ms]), none, some m], rfl, ?_, fun _ => rfl⟩
                          simp only [fC_ap, fVar_ap, fOp_ap, fB_ap, fAnd_ap, fOr_ap, fNot_ap, fAndV_ap, fOrV_ap, fNotV_ap, fIf_ap, fNil_ap, fCons_ap, fTup_ap, fLst_ap, fLstC_ap, fNoPart_ap, fPart_ap, fSl_ap, fNeg_ap, fCB_ap, fIsi_ap, fIsi2_ap, fNext_ap, fSeq_ap, fRet_ap, fRetF_ap, fgName_ap, fgNil_ap, fgCons_ap, fgTup_ap, fgSub_ap, fAsg_ap, fPar_ap, fPar3_ap, fDrop_ap, fApp_ap, fIfS_ap, fiSeq_ap, fiTup_ap, fiEnum_ap, fYes_ap, fCall_ap, fCall0_ap, fChain_ap, fBits_ap, fAddC_ap, fiAny_ap, Res.bind_ok, asB_ok, okO_some, bodyD, asB, iterOf, withLock_none, noErr_ok, wipeE, List.map_cons, List.map_nil, List.length_cons, List.length_nil, List.cons_append, List.nil_append, List.getElem?_cons_zero, List.getElem?_cons_succ, List.set_cons_zero, List.set_cons_succ, if_true, Bool.false_eq_true, if_false, Nat.reduceAdd, Nat.reduceSub, Nat.zero_add, List.replicate, tyD, atI_0, atI_1, lenD_lst, lenD_tup, ixD_tup, ixD_lst, eqD_int, eqD_str, neD_int, neD_str, leD_int, ltD_int, gtD_int, geD_int, addD_int, subD_int, intD_int, px0, px1, px2, ps0, ps2, List.length_append, capN, Nat.zero_le, Nat.reduceLeDiff, Nat.reduceEqDiff, Nat.reduceLT, Bool.not_true, Bool.not_false, Bool.true_and, Bool.false_and, is_side_ok hS (fits_mem h2 hm)])
                      rw [List.map_id] at l3
                      have l4 := eqD_nil (S := S) (fits_filter (fun m => !isBtw 0 1 m) h2) (by omega)
                      rw [isEmpty_filter] at l4
                      have c1' : (1 : Int) ≤ ms.length := by omega
                      have c2' : (ms.length : Int) ≤ 8 := by omega
                      simp [fC_ap, fVar_ap, fOp_ap, fB_ap, fAnd_ap, fOr_ap, fNot_ap, fAndV_ap, fOrV_ap, fNotV_ap, fIf_ap, fNil_ap, fCons_ap, fTup_ap, fLst_ap, fLstC_ap, fNoPart_ap, fPart_ap, fSl_ap, fNeg_ap, fCB_ap, fIsi_ap, fIsi2_ap, fNext_ap, fSeq_ap, fRet_ap, fRetF_ap, fgName_ap, fgNil_ap, fgCons_ap, fgTup_ap, fgSub_ap, fAsg_ap, fPar_ap, fPar3_ap, fDrop_ap, fApp_ap, fIfS_ap, fiSeq_ap, fiTup_ap, fiEnum_ap, fYes_ap, fCall_ap, fCall0_ap, fChain_ap, fBits_ap, fAddC_ap, fiAny_ap, Res.bind_ok, asB_ok, okO_some, bodyD, asB, iterOf, withLock_none, noErr_ok, wipeE, List.map_cons, List.map_nil, List.length_cons, List.length_nil, List.cons_append, List.nil_append, List.getElem?_cons_zero, List.getElem?_cons_succ, List.set_cons_zero, List.set_cons_succ, if_true, Bool.false_eq_true, if_false, Nat.reduceAdd, Nat.reduceSub, Nat.zero_add, List.replicate, tyD, atI_0, atI_1, lenD_lst, lenD_tup, ixD_tup, ixD_lst, eqD_int, eqD_str, neD_int, neD_str, leD_int, ltD_int, gtD_int, geD_int, addD_int, subD_int, intD_int, px0, px1, px2, ps0, ps2, List.length_append, capN, Nat.zero_le, Nat.reduceLeDiff, Nat.reduceEqDiff, Nat.reduceLT, Bool.not_true, Bool.not_false, Bool.true_and, Bool.false_and, isiB, isRow, c1, c2, c1', c2', l3, l4]
                    · have c1' : (1 : Int) ≤ ms.length := by omega
                      have c2' : ¬ (ms.length : Int) ≤ 8 := by omega
                      simp [fC_ap, fVar_ap, fOp_ap, fB_ap, fAnd_ap, fOr_ap, fNot_ap, fAndV_ap, fOrV_ap, fNotV_ap, fIf_ap, fNil_ap, fCons_ap, fTup_ap, fLst_ap, fLstC_ap, fNoPart_ap, fPart_ap, fSl_ap, fNeg_ap, fCB_ap, fIsi_ap, fIsi2_ap, fNext_ap, fSeq_ap, fRet_ap, fRetF_ap, fgName_ap, fgNil_ap, fgCons_ap, fgTup_ap, fgSub_ap, fAsg_ap, fPar_ap, fPar3_ap, fDrop_ap, fApp_ap, fIfS_ap, fiSeq_ap, fiTup_ap, fiEnum_ap, fYes_ap, fCall_ap, fCall0_ap, fChain_ap, fBits_ap, fAddC_ap, fiAny_ap, Res.bind_ok, asB_ok, okO_some, bodyD, asB, iterOf, withLock_none, noErr_ok, wipeE, List.map_cons, List.map_nil, List.length_cons, List.length_nil, List.cons_append, List.nil_append, List.getElem?_cons_zero, List.getElem?_cons_succ, List.set_cons_zero, List.set_cons_succ, if_true, Bool.false_eq_true, if_false, Nat.reduceAdd, Nat.reduceSub, Nat.zero_add, List.replicate, tyD, atI_0, atI_1, lenD_lst, lenD_tup, ixD_tup, ixD_lst, eqD_int, eqD_str, neD_int, neD_str, leD_int, ltD_int, gtD_int, geD_int, addD_int, subD_int, intD_int, px0, px1, px2, ps0, ps2, List.length_append, capN, Nat.zero_le, Nat.reduceLeDiff, Nat.reduceEqDiff, Nat.reduceLT, Bool.not_true, Bool.not_false, Bool.true_and, Bool.false_and, isiB, isRow, c1, c2, c1', c2']
                  · have c1' : ¬ (1 : Int) ≤ ms.length := by omega
                    simp [fC_ap, fVar_ap, fOp_ap, fB_ap, fAnd_ap, fOr_ap, fNot_ap, fAndV_ap, fOrV_ap, fNotV_ap, fIf_ap, fNil_ap, fCons_ap, fTup_ap, fLst_ap, fLstC_ap, fNoPart_ap, fPart_ap, fSl_ap, fNeg_ap, fCB_ap, fIsi_ap, fIsi2_ap, fNext_ap, fSeq_ap, fRet_ap, fRetF_ap, fgName_ap, fgNil_ap, fgCons_ap, fgTup_ap, fgSub_ap, fAsg_ap, fPar_ap, fPar3_ap, fDrop_ap, fApp_ap, fIfS_ap, fiSeq_ap, fiTup_ap, fiEnum_ap, fYes_ap, fCall_ap, fCall0_ap, fChain_ap, fBits_ap, fAddC_ap, fiAny_ap, Res.bind_ok, asB_ok, okO_some, bodyD, asB, iterOf, withLock_none, noErr_ok, wipeE, List.map_cons, List.map_nil, List.length_cons, List.length_nil, List.cons_append, List.nil_append, List.getElem?_cons_zero, List.getElem?_cons_succ, List.set_cons_zero, List.set_cons_succ, if_true, Bool.false_eq_true, if_false, Nat.reduceAdd, Nat.reduceSub, Nat.zero_add, List.replicate, tyD, atI_0, atI_1, lenD_lst, lenD_tup, ixD_tup, ixD_lst, eqD_int, eqD_str, neD_int, neD_str, leD_int, ltD_int, gtD_int, geD_int, addD_int, subD_int, intD_int, px0, px1, px2, ps0, ps2, List.length_append, capN, Nat.zero_le, Nat.reduceLeDiff, Nat.reduceEqDiff, Nat.reduceLT, Bool.not_true, Bool.not_false, Bool.true_and, Bool.false_and, isiB, isRow, c1, c1']
              | _ => first | rfl | (exfalso; cases n <;> simp [fit] at h2)
            · cases y <;> simp [fC_ap, fVar_ap, fOp_ap, fB_ap, fAnd_ap, fOr_ap, fNot_ap, fAndV_ap, fOrV_ap, fNotV_ap, fIf_ap, fNil_ap, fCons_ap, fTup_ap, fLst_ap, fLstC_ap, fNoPart_ap, fPart_ap, fSl_ap, fNeg_ap, fCB_ap, fIsi_ap, fIsi2_ap, fNext_ap, fSeq_ap, fRet_ap, fRetF_ap, fgName_ap, fgNil_ap, fgCons_ap, fgTup_ap, fgSub_ap, fAsg_ap, fPar_ap, fPar3_ap, fDrop_ap, fApp_ap, fIfS_ap, fiSeq_ap, fiTup_ap, fiEnum_ap, fYes_ap, fCall_ap, fCall0_ap, fChain_ap, fBits_ap, fAddC_ap, fiAny_ap, Res.bind_ok, asB_ok, okO_some, bodyD, asB, iterOf, withLock_none, noErr_ok, wipeE, List.map_cons, List.map_nil, List.length_cons, List.length_nil, List.cons_append, List.nil_append, List.getElem?_cons_zero, List.getElem?_cons_succ, List.set_cons_zero, List.set_cons_succ, if_true, Bool.false_eq_true, if_false, Nat.reduceAdd, Nat.reduceSub, Nat.zero_add, List.replicate, tyD, atI_0, atI_1, lenD_lst, lenD_tup, ixD_tup, ixD_lst, eqD_int, eqD_str, neD_int, neD_str, leD_int, ltD_int, gtD_int, geD_int, addD_int, subD_int, intD_int, px0, px1, px2, ps0, ps2, List.length_append, capN, Nat.zero_le, Nat.reduceLeDiff, Nat.reduceEqDiff, Nat.reduceLT, Bool.not_true, Bool.not_false, Bool.true_and, Bool.false_and, isRow, ew, isiB]
          | _ => first | rfl | (exfalso; cases n <;> simp [fit] at h1)
        | x :: y :: z :: r, _ =>
          have e : ¬ ((r.length : Int) + 1 + 1 + 1 = 2) := by omega
          simp [fC_ap, fVar_ap, fOp_ap, fB_ap, fAnd_ap, fOr_ap, fNot_ap, fAndV_ap, fOrV_ap, fNotV_ap, fIf_ap, fNil_ap, fCons_ap, fTup_ap, fLst_ap, fLstC_ap, fNoPart_ap, fPart_ap, fSl_ap, fNeg_ap, fCB_ap, fIsi_ap, fIsi2_ap, fNext_ap, fSeq_ap, fRet_ap, fRetF_ap, fgName_ap, fgNil_ap, fgCons_ap, fgTup_ap, fgSub_ap, fAsg_ap, fPar_ap, fPar3_ap, fDrop_ap, fApp_ap, fIfS_ap, fiSeq_ap, fiTup_ap, fiEnum_ap, fYes_ap, fCall_ap, fCall0_ap, fChain_ap, fBits_ap, fAddC_ap, fiAny_ap, Res.bind_ok, asB_ok, okO_some, bodyD, asB, iterOf, withLock_none, noErr_ok, wipeE, List.map_cons, List.map_nil, List.length_cons, List.length_nil, List.cons_append, List.nil_append, List.getElem?_cons_zero, List.getElem?_cons_succ, List.set_cons_zero, List.set_cons_succ, if_true, Bool.false_eq_true, if_false, Nat.reduceAdd, Nat.reduceSub, Nat.zero_add, List.replicate, tyD, atI_0, atI_1, lenD_lst, lenD_tup, ixD_tup, ixD_lst, eqD_int, eqD_str, neD_int, neD_str, leD_int, ltD_int, gtD_int, geD_int, addD_int, subD_int, intD_int, px0, px1, px2, ps0, ps2, List.length_append, capN, Nat.zero_le, Nat.reduceLeDiff, Nat.reduceEqDiff, Nat.reduceLT, Bool.not_true, Bool.not_false, Bool.true_and, Bool.false_and, isRow, e, isiB]
    | _ => first | (exfalso; cases n <;> simp [fit] at h; done) | rfl
end
end Cm
set_option maxHeartbeats 2000000
namespace Cm
open PySem PySem.Spec PyProof.Rows L2 DL
def lowS : D → Bool
  | .tup [.int a, .int b] => decide (max a b ≤ 40)
  | _ => false
def isSpec (r : D → Bool) : D → Bool
  | .tup [sc, u] => isScore sc && lowS sc && r u
  | _ => false
def key1 : D → List Int
  | .tup [.tup [.int a, .int b], _] => [a, b]
  | _ => []
def rising (xs : List D) : Bool := (List.range (xs.length - 1)).all fun j => !geI (key1 (xs.getD j .non)) (key1 (xs.getD (j + 1) .non))
def fallsAt (xs : List D) : D → Bool
  | .int i => geI (key1 (xs.getD (i - 1).toNat .non)) (key1 (xs.getD i.toNat .non))
  | _ => false
def isSpecs (r : D → Bool) : D → Bool
  | .lst xs => decide (xs.length ≤ 8) && xs.all (isSpec r) && rising xs
  | _ => false
def isRace (r : D → Bool) : D → Bool
  | .tup [.str w, a, b, c, o, u, s] => decide (w = "race") && isNums a b c && isOrder o && (r u && isSpecs r s)
  | _ => false
def isRuleN : Nat → D → Bool
  | 0 => fun d => isWord "rally" d || isWord "hand" d
  | k + 1 => fun d => isWord "rally" d || isWord "hand" d || isRace (isRuleN k) d
section
variable {S : Sto} (hS : S.all (lowC S.length) = true)
include hS
theorem score_cases {d : D} (h : isScore d = true) : ∃ a b : Int, d = .tup [.int a, .int b] := by
  unfold isScore at h
  split at h
  · rename_i x y
    rw [Bool.and_eq_true] at h
    cases x <;> simp [isCount] at h
    cases y <;> simp [isCount] at h
    exact ⟨_, _, rfl⟩
  · cases h
theorem special_ok {r : D → Bool} {f k : Nat} (H : ∀ {d : D} {n : Nat}, fit d n = true → n ≤ 60 → g_is_rule_within f [d, .int k] S = .ok (.bl (r d)) S) {d : D} {n : Nat} (h : fit d n = true) (hn : n ≤ 60) :
    g_is_special (f + 1) [d, .int k] S = .ok (.bl (isSpec r d)) S := by
  refine bodyT_okL ?_ hS rfl
  simp only [fC_ap, fVar_ap, fOp_ap, fB_ap, fAnd_ap, fOr_ap, fNot_ap, fAndV_ap, fOrV_ap, fNotV_ap, fIf_ap, fNil_ap, fCons_ap, fTup_ap, fLst_ap, fLstC_ap, fNoPart_ap, fPart_ap, fSl_ap, fNeg_ap, fCB_ap, fIsi_ap, fIsi2_ap, fNext_ap, fSeq_ap, fRet_ap, fRetF_ap, fgName_ap, fgNil_ap, fgCons_ap, fgTup_ap, fgSub_ap, fAsg_ap, fPar_ap, fPar3_ap, fDrop_ap, fApp_ap, fIfS_ap, fiSeq_ap, fiTup_ap, fiEnum_ap, fYes_ap, fCall_ap, fCall0_ap, fChain_ap, fBits_ap, fAddC_ap, fiAny_ap, Res.bind_ok, asB_ok, okO_some, bodyD, asB, iterOf, withLock_none, noErr_ok, wipeE, List.map_cons, List.map_nil, List.length_cons, List.length_nil, List.cons_append, List.nil_append, List.getElem?_cons_zero, List.getElem?_cons_succ, List.set_cons_zero, List.set_cons_succ, if_true, Bool.false_eq_true, if_false, Nat.reduceAdd, Nat.reduceSub, Nat.zero_add, List.replicate, tyD, atI_0, atI_1, lenD_lst, lenD_tup, ixD_tup, ixD_lst, eqD_int, eqD_str, neD_int, neD_str, leD_int, ltD_int, gtD_int, geD_int, addD_int, subD_int, intD_int, px0, px1, px2, ps0, ps2, List.length_append, capN, Nat.zero_le, Nat.reduceLeDiff, Nat.reduceEqDiff, Nat.reduceLT, Bool.not_true, Bool.not_false, Bool.true_and, Bool.false_and, b_is_special]
  cases d with
  | tup xs =>
    cases n with
    | zero => simp [fit] at h
    | succ n =>
      match xs, h with
      | [], _ => rfl
      | [x], _ => cases x <;> rfl
      | [x, y], h =>
        simp only [fit, fits, Bool.and_eq_true] at h
        obtain ⟨h1, h2, -⟩ := h
        have e1 := is_score_ok hS h1
        have e2 := H h2 (by omega)
        cases q : isScore x with
        | false => simp [fC_ap, fVar_ap, fOp_ap, fB_ap, fAnd_ap, fOr_ap, fNot_ap, fAndV_ap, fOrV_ap, fNotV_ap, fIf_ap, fNil_ap, fCons_ap, fTup_ap, fLst_ap, fLstC_ap, fNoPart_ap, fPart_ap, fSl_ap, fNeg_ap, fCB_ap, fIsi_ap, fIsi2_ap, fNext_ap, fSeq_ap, fRet_ap, fRetF_ap, fgName_ap, fgNil_ap, fgCons_ap, fgTup_ap, fgSub_ap, fAsg_ap, fPar_ap, fPar3_ap, fDrop_ap, fApp_ap, fIfS_ap, fiSeq_ap, fiTup_ap, fiEnum_ap, fYes_ap, fCall_ap, fCall0_ap, fChain_ap, fBits_ap, fAddC_ap, fiAny_ap, Res.bind_ok, asB_ok, okO_some, bodyD, asB, iterOf, withLock_none, noErr_ok, wipeE, List.map_cons, List.map_nil, List.length_cons, List.length_nil, List.cons_append, List.nil_append, List.getElem?_cons_zero, List.getElem?_cons_succ, List.set_cons_zero, List.set_cons_succ, if_true, Bool.false_eq_true, if_false, Nat.reduceAdd, Nat.reduceSub, Nat.zero_add, List.replicate, tyD, atI_0, atI_1, lenD_lst, lenD_tup, ixD_tup, ixD_lst, eqD_int, eqD_str, neD_int, neD_str, leD_int, ltD_int, gtD_int, geD_int, addD_int, subD_int, intD_int, px0, px1, px2, ps0, ps2, List.length_append, capN, Nat.zero_le, Nat.reduceLeDiff, Nat.reduceEqDiff, Nat.reduceLT, Bool.not_true, Bool.not_false, Bool.true_and, Bool.false_and, isiB, e1, q, isSpec]
        | true =>
          obtain ⟨a, b, rfl⟩ := score_cases hS q
          have e3 : maxT [.tup [.int a, .int b]] S = some (.int (max a b)) := rfl
          by_cases c : max a b ≤ 40
          · have c' : ¬ max a b > 40 := by omega
            simp [fC_ap, fVar_ap, fOp_ap, fB_ap, fAnd_ap, fOr_ap, fNot_ap, fAndV_ap, fOrV_ap, fNotV_ap, fIf_ap, fNil_ap, fCons_ap, fTup_ap, fLst_ap, fLstC_ap, fNoPart_ap, fPart_ap, fSl_ap, fNeg_ap, fCB_ap, fIsi_ap, fIsi2_ap, fNext_ap, fSeq_ap, fRet_ap, fRetF_ap, fgName_ap, fgNil_ap, fgCons_ap, fgTup_ap, fgSub_ap, fAsg_ap, fPar_ap, fPar3_ap, fDrop_ap, fApp_ap, fIfS_ap, fiSeq_ap, fiTup_ap, fiEnum_ap, fYes_ap, fCall_ap, fCall0_ap, fChain_ap, fBits_ap, fAddC_ap, fiAny_ap, Res.bind_ok, asB_ok, okO_some, bodyD, asB, iterOf, withLock_none, noErr_ok, wipeE, List.map_cons, List.map_nil, List.length_cons, List.length_nil, List.cons_append, List.nil_append, List.getElem?_cons_zero, List.getElem?_cons_succ, List.set_cons_zero, List.set_cons_succ, if_true, Bool.false_eq_true, if_false, Nat.reduceAdd, Nat.reduceSub, Nat.zero_add, List.replicate, tyD, atI_0, atI_1, lenD_lst, lenD_tup, ixD_tup, ixD_lst, eqD_int, eqD_str, neD_int, neD_str, leD_int, ltD_int, gtD_int, geD_int, addD_int, subD_int, intD_int, px0, px1, px2, ps0, ps2, List.length_append, capN, Nat.zero_le, Nat.reduceLeDiff, Nat.reduceEqDiff, Nat.reduceLT, Bool.not_true, Bool.not_false, Bool.true_and, Bool.false_and, isiB, e1, q, isSpec, lowS, e3, c, c', e2]
          · have c' : max a b > 40 := by omega
            simp [fC_ap, fVar_ap, fOp_ap, fB_ap, fAnd_ap, fOr_ap, fNot_ap, fAndV_ap, fOrV_ap, fNotV_ap, fIf_ap, fNil_ap, fCons_ap, fTup_ap, fLst_ap, fLstC_ap, fNoPart_ap, fPart_ap, fSl_ap, fNeg_ap, fCB_ap, fIsi_ap, fIsi2_ap, fNext_ap, fSeq_ap, fRet_ap, fRetF_ap, fgName_ap, fgNil_ap, fgCons_ap, fgTup_ap, fgSub_ap, fAsg_ap, fPar_ap, fPar3_ap, fDrop_ap, fApp_ap, fIfS_ap, fiSeq_ap, fiTup_ap, fiEnum_ap, fYes_ap, fCall_ap, fCall0_ap, fChain_ap, fBits_ap, fAddC_ap, fiAny_ap, Res.bind_ok, asB_ok, okO_some, bodyD, asB, iterOf, withLock_none, noErr_ok, wipeE, List.map_cons, List.map_nil, List.length_cons, List.length_nil, List.cons_append, List.nil_append, List.getElem?_cons_zero, List.getElem?_cons_succ, List.set_cons_zero, List.set_cons_succ, if_true, Bool.false_eq_true, if_false, Nat.reduceAdd, Nat.reduceSub, Nat.zero_add, List.replicate, tyD, atI_0, atI_1, lenD_lst, lenD_tup, ixD_tup, ixD_lst, eqD_int, eqD_str, neD_int, neD_str, leD_int, ltD_int, gtD_int, geD_int, addD_int, subD_int, intD_int, px0, px1, px2, ps0, ps2, List.length_append, capN, Nat.zero_le, Nat.reduceLeDiff, Nat.reduceEqDiff, Nat.reduceLT, Bool.not_true, Bool.not_false, Bool.true_and, Bool.false_and, isiB, e1, q, isSpec, lowS, e3, c, c', e2]
      | x :: y :: z :: r, _ =>
        have e : ¬ ((r.length : Int) + 1 + 1 + 1 = 2) := by omega
        simp [fC_ap, fVar_ap, fOp_ap, fB_ap, fAnd_ap, fOr_ap, fNot_ap, fAndV_ap, fOrV_ap, fNotV_ap, fIf_ap, fNil_ap, fCons_ap, fTup_ap, fLst_ap, fLstC_ap, fNoPart_ap, fPart_ap, fSl_ap, fNeg_ap, fCB_ap, fIsi_ap, fIsi2_ap, fNext_ap, fSeq_ap, fRet_ap, fRetF_ap, fgName_ap, fgNil_ap, fgCons_ap, fgTup_ap, fgSub_ap, fAsg_ap, fPar_ap, fPar3_ap, fDrop_ap, fApp_ap, fIfS_ap, fiSeq_ap, fiTup_ap, fiEnum_ap, fYes_ap, fCall_ap, fCall0_ap, fChain_ap, fBits_ap, fAddC_ap, fiAny_ap, Res.bind_ok, asB_ok, okO_some, bodyD, asB, iterOf, withLock_none, noErr_ok, wipeE, List.map_cons, List.map_nil, List.length_cons, List.length_nil, List.cons_append, List.nil_append, List.getElem?_cons_zero, List.getElem?_cons_succ, List.set_cons_zero, List.set_cons_succ, if_true, Bool.false_eq_true, if_false, Nat.reduceAdd, Nat.reduceSub, Nat.zero_add, List.replicate, tyD, atI_0, atI_1, lenD_lst, lenD_tup, ixD_tup, ixD_lst, eqD_int, eqD_str, neD_int, neD_str, leD_int, ltD_int, gtD_int, geD_int, addD_int, subD_int, intD_int, px0, px1, px2, ps0, ps2, List.length_append, capN, Nat.zero_le, Nat.reduceLeDiff, Nat.reduceEqDiff, Nat.reduceLT, Bool.not_true, Bool.not_false, Bool.true_and, Bool.false_and, isSpec, e, isiB]
  | _ => first | (exfalso; cases n <;> simp [fit] at h; done) | rfl
omit hS in
theorem falls_ok {xs : List D} {k : Nat} {ρ4 : Option D} (sp : ∀ m ∈ xs, ∃ (a b : Int) (u : D), m = .tup [.tup [.int a, .int b], u]) {j : Nat} (hj : j + 1 < xs.length) :
    fB (fOp geD (fOp ixD (fOp ixD (fVar 0) (fOp subD (fVar 3) (fC (.int 1)))) (fC (.int 0))) (fOp ixD (fOp ixD (fVar 0) (fVar 3)) (fC (.int 0)))) [some (.lst xs), some (.int k), ρ4, some (.int (1 + (j : Nat)))] S = .ok (fallsAt xs (.int (1 + (j : Nat)))) S := by
  have j1 : j < xs.length := by omega
  obtain ⟨a, b, u, e1⟩ := sp xs[j] (List.getElem_mem j1)
  obtain ⟨a', b', u', e2⟩ := sp xs[j + 1] (List.getElem_mem hj)
  have t1 : (1 + (j : Int) - 1).toNat = j := by omega
  have t2 : (1 + (j : Int)).toNat = j + 1 := by omega
  have k1 : key1 (xs.getD j .non) = [a, b] := by rw [List.getD_eq_getElem?_getD, List.getElem?_eq_getElem j1, Option.getD_some, e1]; rfl
  have k2 : key1 (xs.getD (j + 1) .non) = [a', b'] := by rw [List.getD_eq_getElem?_getD, List.getElem?_eq_getElem hj, Option.getD_some, e2]; rfl
  have fa : fallsAt xs (.int (1 + (j : Nat))) = geI [a, b] [a', b'] := by
    show geI (key1 (xs.getD (1 + (j : Int) - 1).toNat .non)) (key1 (xs.getD (1 + (j : Int)).toNat .non)) = _
    rw [t1, t2, k1, k2]
  have g1 : atI xs (1 + (j : Int) - 1) = some (.tup [.tup [.int a, .int b], u]) := by
    rw [show 1 + (j : Int) - 1 = (j : Nat) by omega]
    exact atI_at (by rw [List.getElem?_eq_getElem j1, e1])
  have g2 : atI xs (1 + (j : Int)) = some (.tup [.tup [.int a', .int b'], u']) := by
    rw [show 1 + (j : Int) = ((j + 1 : Nat) : Int) by omega]
    exact atI_at (by rw [List.getElem?_eq_getElem hj, e2])
  rw [fa]
  generalize hv : (1 + (j : Int)) = v at *
  have g3 : geD (.tup [.int a, .int b]) (.tup [.int a', .int b']) S = some (.bl (geI [a, b] [a', b'])) := rfl
  simp only [fC_ap, fVar_ap, fOp_ap, fB_ap, fAnd_ap, fOr_ap, fNot_ap, fAndV_ap, fOrV_ap, fNotV_ap, fIf_ap, fNil_ap, fCons_ap, fTup_ap, fLst_ap, fLstC_ap, fNoPart_ap, fPart_ap, fSl_ap, fNeg_ap, fCB_ap, fIsi_ap, fIsi2_ap, fNext_ap, fSeq_ap, fRet_ap, fRetF_ap, fgName_ap, fgNil_ap, fgCons_ap, fgTup_ap, fgSub_ap, fAsg_ap, fPar_ap, fPar3_ap, fDrop_ap, fApp_ap, fIfS_ap, fiSeq_ap, fiTup_ap, fiEnum_ap, fYes_ap, fCall_ap, fCall0_ap, fChain_ap, fBits_ap, fAddC_ap, fiAny_ap, Res.bind_ok, asB_ok, okO_some, bodyD, asB, iterOf, withLock_none, noErr_ok, wipeE, List.map_cons, List.map_nil, List.length_cons, List.length_nil, List.cons_append, List.nil_append, List.getElem?_cons_zero, List.getElem?_cons_succ, List.set_cons_zero, List.set_cons_succ, if_true, Bool.false_eq_true, if_false, Nat.reduceAdd, Nat.reduceSub, Nat.zero_add, List.replicate, tyD, atI_0, atI_1, lenD_lst, lenD_tup, ixD_tup, ixD_lst, eqD_int, eqD_str, neD_int, neD_str, leD_int, ltD_int, gtD_int, geD_int, addD_int, subD_int, intD_int, px0, px1, px2, ps0, ps2, List.length_append, capN, Nat.zero_le, Nat.reduceLeDiff, Nat.reduceEqDiff, Nat.reduceLT, Bool.not_true, Bool.not_false, Bool.true_and, Bool.false_and, g1, g2, g3]
omit hS in
theorem walk_specs (xs : List D) (k : Nat) (c : xs.length ≤ 8) : fiRng2 (fCons (fC (.int 1)) (fCons (fCB lenD (fCons (fVar 0) fNil)) fNil)) [some (.lst xs), some (.int k), none, none] S = .ok ⟨rangeD 1 (xs.length - 1), none⟩ S := by
  have s1 : smallI (xs.length : Int) = true := smallI_nat (by omega)
  have s2 : (fCons (fC (.int 1)) (fCons (fCB lenD (fCons (fVar 0) fNil)) fNil)) [some (.lst xs), some (.int k), none, none] S = .ok [.int 1, .int xs.length] S := by
    simp only [fC_ap, fVar_ap, fOp_ap, fB_ap, fAnd_ap, fOr_ap, fNot_ap, fAndV_ap, fOrV_ap, fNotV_ap, fIf_ap, fNil_ap, fCons_ap, fTup_ap, fLst_ap, fLstC_ap, fNoPart_ap, fPart_ap, fSl_ap, fNeg_ap, fCB_ap, fIsi_ap, fIsi2_ap, fNext_ap, fSeq_ap, fRet_ap, fRetF_ap, fgName_ap, fgNil_ap, fgCons_ap, fgTup_ap, fgSub_ap, fAsg_ap, fPar_ap, fPar3_ap, fDrop_ap, fApp_ap, fIfS_ap, fiSeq_ap, fiTup_ap, fiEnum_ap, fYes_ap, fCall_ap, fCall0_ap, fChain_ap, fBits_ap, fAddC_ap, fiAny_ap, Res.bind_ok, asB_ok, okO_some, bodyD, asB, iterOf, withLock_none, noErr_ok, wipeE, List.map_cons, List.map_nil, List.length_cons, List.length_nil, List.cons_append, List.nil_append, List.getElem?_cons_zero, List.getElem?_cons_succ, List.set_cons_zero, List.set_cons_succ, if_true, Bool.false_eq_true, if_false, Nat.reduceAdd, Nat.reduceSub, Nat.zero_add, List.replicate, tyD, atI_0, atI_1, lenD_lst, lenD_tup, ixD_tup, ixD_lst, eqD_int, eqD_str, neD_int, neD_str, leD_int, ltD_int, gtD_int, geD_int, addD_int, subD_int, intD_int, px0, px1, px2, ps0, ps2, List.length_append, capN, Nat.zero_le, Nat.reduceLeDiff, Nat.reduceEqDiff, Nat.reduceLT, Bool.not_true, Bool.not_false, Bool.true_and, Bool.false_and]
  have s3 : ((xs.length : Int) - 1).toNat = xs.length - 1 := by omega
  rw [← s3]
  exact fiRng2_ok s2 smallI_one s1
theorem specs_ok {r : D → Bool} {f k : Nat} (H : ∀ {d : D} {n : Nat}, fit d n = true → n ≤ 60 → g_is_special f [d, .int k] S = .ok (.bl (isSpec r d)) S) {d : D} {n : Nat} (h : fit d n = true) (hn : n ≤ 60) :
    g_are_specials (f + 1) [d, .int k] S = .ok (.bl (isSpecs r d)) S := by
  refine bodyT_okL ?_ hS rfl
  simp only [fC_ap, fVar_ap, fOp_ap, fB_ap, fAnd_ap, fOr_ap, fNot_ap, fAndV_ap, fOrV_ap, fNotV_ap, fIf_ap, fNil_ap, fCons_ap, fTup_ap, fLst_ap, fLstC_ap, fNoPart_ap, fPart_ap, fSl_ap, fNeg_ap, fCB_ap, fIsi_ap, fIsi2_ap, fNext_ap, fSeq_ap, fRet_ap, fRetF_ap, fgName_ap, fgNil_ap, fgCons_ap, fgTup_ap, fgSub_ap, fAsg_ap, fPar_ap, fPar3_ap, fDrop_ap, fApp_ap, fIfS_ap, fiSeq_ap, fiTup_ap, fiEnum_ap, fYes_ap, fCall_ap, fCall0_ap, fChain_ap, fBits_ap, fAddC_ap, fiAny_ap, Res.bind_ok, asB_ok, okO_some, bodyD, asB, iterOf, withLock_none, noErr_ok, wipeE, List.map_cons, List.map_nil, List.length_cons, List.length_nil, List.cons_append, List.nil_append, List.getElem?_cons_zero, List.getElem?_cons_succ, List.set_cons_zero, List.set_cons_succ, if_true, Bool.false_eq_true, if_false, Nat.reduceAdd, Nat.reduceSub, Nat.zero_add, List.replicate, tyD, atI_0, atI_1, lenD_lst, lenD_tup, ixD_tup, ixD_lst, eqD_int, eqD_str, neD_int, neD_str, leD_int, ltD_int, gtD_int, geD_int, addD_int, subD_int, intD_int, px0, px1, px2, ps0, ps2, List.length_append, capN, Nat.zero_le, Nat.reduceLeDiff, Nat.reduceEqDiff, Nat.reduceLT, Bool.not_true, Bool.not_false, Bool.true_and, Bool.false_and, b_are_specials]
  cases d with
  | lst xs =>
    cases n with
    | zero => simp [fit] at h
    | succ n =>
      simp only [fit] at h
      by_cases c : xs.length ≤ 8
      · have c' : ¬ (xs.length : Int) > 8 := by omega
        have l1 := fLc_pure (vs := [2]) (fi := fiAny (fVar 0)) (g := fgName 2) (c := fNot (fB (fCall 2 (g_is_special f) (fCons (fVar 2) (fCons (fVar 1) fNil))))) (el := fVar 2) (ρ := [some (.lst xs), some (.int k), none, none]) (S := S) (xs := xs)
          (fun m => !isSpec r m) id (by simp only [fC_ap, fVar_ap, fOp_ap, fB_ap, fAnd_ap, fOr_ap, fNot_ap, fAndV_ap, fOrV_ap, fNotV_ap, fIf_ap, fNil_ap, fCons_ap, fTup_ap, fLst_ap, fLstC_ap, fNoPart_ap, fPart_ap, fSl_ap, fNeg_ap, fCB_ap, fIsi_ap, fIsi2_ap, fNext_ap, fSeq_ap, fRet_ap, fRetF_ap, fgName_ap, fgNil_ap, fgCons_ap, fgTup_ap, fgSub_ap, fAsg_ap, fPar_ap, fPar3_ap, fDrop_ap, fApp_ap, fIfS_ap, fiSeq_ap, fiTup_ap, fiEnum_ap, fYes_ap, fCall_ap, fCall0_ap, fChain_ap, fBits_ap, fAddC_ap, fiAny_ap, Res.bind_ok, asB_ok, okO_some, bodyD, asB, iterOf, withLock_none, noErr_ok, wipeE, List.map_cons, List.map_nil, List.length_cons, List.length_nil, List.cons_append, List.nil_append, List.getElem?_cons_zero, List.getElem?_cons_succ, List.set_cons_zero, List.set_cons_succ, if_true, Bool.false_eq_true, if_false, Nat.reduceAdd, Nat.reduceSub, Nat.zero_add, List.replicate, tyD, atI_0, atI_1, lenD_lst, lenD_tup, ixD_tup, ixD_lst, eqD_int, eqD_str, neD_int, neD_str, leD_int, ltD_int, gtD_int, geD_int, addD_int, subD_int, intD_int, px0, px1, px2, ps0, ps2, List.length_append, capN, Nat.zero_le, Nat.reduceLeDiff, Nat.reduceEqDiff, Nat.reduceLT, Bool.not_true, Bool.not_false, Bool.true_and, Bool.false_and]) (capN_of (by omega)) (fun m hm => by
            refine ⟨[some (.lst xs), some (.int k), some m, none], rfl, ?_, fun _ => rfl⟩
            simp only [fC_ap, fVar_ap, fOp_ap, fB_ap, fAnd_ap, fOr_ap, fNot_ap, fAndV_ap, fOrV_ap, fNotV_ap, fIf_ap, fNil_ap, fCons_ap, fTup_ap, fLst_ap, fLstC_ap, fNoPart_ap, fPart_ap, fSl_ap, fNeg_ap, fCB_ap, fIsi_ap, fIsi2_ap, fNext_ap, fSeq_ap, fRet_ap, fRetF_ap, fgName_ap, fgNil_ap, fgCons_ap, fgTup_ap, fgSub_ap, fAsg_ap, fPar_ap, fPar3_ap, fDrop_ap, fApp_ap, fIfS_ap, fiSeq_ap, fiTup_ap, fiEnum_ap, fYes_ap, fCall_ap, fCall0_ap, fChain_ap, fBits_ap, fAddC_ap, fiAny_ap, Res.bind_ok, asB_ok, okO_some, bodyD, asB, iterOf, withLock_none, noErr_ok, wipeE, List.map_cons, List.map_nil, List.length_cons, List.length_nil, List.cons_append, List.nil_append, List.getElem?_cons_zero, List.getElem?_cons_succ, List.set_cons_zero, List.set_cons_succ, if_true, Bool.false_eq_true, if_false, Nat.reduceAdd, Nat.reduceSub, Nat.zero_add, List.replicate, tyD, atI_0, atI_1, lenD_lst, lenD_tup, ixD_tup, ixD_lst, eqD_int, eqD_str, neD_int, neD_str, leD_int, ltD_int, gtD_int, geD_int, addD_int, subD_int, intD_int, px0, px1, px2, ps0, ps2, List.length_append, capN, Nat.zero_le, Nat.reduceLeDiff, Nat.reduceEqDiff, Nat.reduceLT, Bool.not_true, Bool.not_false, Bool.true_and, Bool.false_and, H (fits_mem h hm) (by omega)])
        rw [List.map_id] at l1
        have l2 := neD_nil (S := S) (fits_filter (fun m => !isSpec r m) h) (by omega)
        rw [isEmpty_filter] at l2
        simp only [Bool.not_not] at l2
        cases q : xs.all (isSpec r) with
        | false => simp [fC_ap, fVar_ap, fOp_ap, fB_ap, fAnd_ap, fOr_ap, fNot_ap, fAndV_ap, fOrV_ap, fNotV_ap, fIf_ap, fNil_ap, fCons_ap, fTup_ap, fLst_ap, fLstC_ap, fNoPart_ap, fPart_ap, fSl_ap, fNeg_ap, fCB_ap, fIsi_ap, fIsi2_ap, fNext_ap, fSeq_ap, fRet_ap, fRetF_ap, fgName_ap, fgNil_ap, fgCons_ap, fgTup_ap, fgSub_ap, fAsg_ap, fPar_ap, fPar3_ap, fDrop_ap, fApp_ap, fIfS_ap, fiSeq_ap, fiTup_ap, fiEnum_ap, fYes_ap, fCall_ap, fCall0_ap, fChain_ap, fBits_ap, fAddC_ap, fiAny_ap, Res.bind_ok, asB_ok, okO_some, bodyD, asB, iterOf, withLock_none, noErr_ok, wipeE, List.map_cons, List.map_nil, List.length_cons, List.length_nil, List.cons_append, List.nil_append, List.getElem?_cons_zero, List.getElem?_cons_succ, List.set_cons_zero, List.set_cons_succ, if_true, Bool.false_eq_true, if_false, Nat.reduceAdd, Nat.reduceSub, Nat.zero_add, List.replicate, tyD, atI_0, atI_1, lenD_lst, lenD_tup, ixD_tup, ixD_lst, eqD_int, eqD_str, neD_int, neD_str, leD_int, ltD_int, gtD_int, geD_int, addD_int, subD_int, intD_int, px0, px1, px2, ps0, ps2, List.length_append, capN, Nat.zero_le, Nat.reduceLeDiff, Nat.reduceEqDiff, Nat.reduceLT, Bool.not_true, Bool.not_false, Bool.true_and, Bool.false_and, isiB, c', l1, l2, q, isSpecs]
        | true =>
          have sp : ∀ m ∈ xs, ∃ (a b : Int) (u : D), m = .tup [.tup [.int a, .int b], u] := fun m hm => by
            have := List.all_eq_true.mp q m hm
            unfold isSpec at this
            split at this
            · simp only [Bool.and_eq_true] at this
              obtain ⟨a, b, rfl⟩ := score_cases hS this.1.1
              exact ⟨a, b, _, rfl⟩
            · cases this
          have l3 := fLc_pure (vs := [3]) (fi := fiRng2 (fCons (fC (.int 1)) (fCons (fCB lenD (fCons (fVar 0) fNil)) fNil))) (g := fgName 3)
            (c := fB (fOp geD (fOp ixD (fOp ixD (fVar 0) (fOp subD (fVar 3) (fC (.int 1)))) (fC (.int 0))) (fOp ixD (fOp ixD (fVar 0) (fVar 3)) (fC (.int 0))))) (el := fVar 3) (ρ := [some (.lst xs), some (.int k), none, none]) (S := S) (xs := rangeD 1 (xs.length - 1))
            (fallsAt xs) id (walk_specs xs k c) (by rw [rangeD_len]; exact capN_of (by omega)) (fun m hm => by
                obtain ⟨j, hj, rfl⟩ : ∃ j, j < xs.length - 1 ∧ m = .int (1 + (j : Nat)) := by
                  unfold rangeD at hm
                  obtain ⟨j, hj, rfl⟩ := List.mem_map.mp hm
                  exact ⟨j, List.mem_range.mp hj, rfl⟩
                exact ⟨[some (.lst xs), some (.int k), none, some (.int (1 + (j : Nat)))], rfl, falls_ok sp (by omega), fun _ => rfl⟩)
          rw [List.map_id] at l3
          have fr : fits (rangeD 1 (xs.length - 1)) 0 = true := by
            rw [fits_all, List.all_eq_true]
            intro m hm
            unfold rangeD at hm
            obtain ⟨j, hj, rfl⟩ := List.mem_map.mp hm
            rfl
          have l4 := eqD_nil (S := S) (fits_filter (fallsAt xs) fr) (by omega)
          rw [isEmpty_filter] at l4
          have l5 : ((rangeD 1 (xs.length - 1)).all fun m => !fallsAt xs m) = rising xs := by
            unfold rising rangeD
            rw [List.all_map]
            refine congrArg _ (funext fun j => ?_)
            simp only [Function.comp, fallsAt]
            rw [show (1 + (j : Int) - 1).toNat = j by omega, show (1 + (j : Int)).toNat = j + 1 by omega]
          rw [l5] at l4
          have z : isSpecs r (.lst xs) = rising xs := by
            show (decide (xs.length ≤ 8) && xs.all (isSpec r) && rising xs) = rising xs
            rw [decide_eq_true c, q]
            rfl
          have q' : (xs.all fun x => isSpec r x) = true := q
          have c2 : decide ((xs.length : Int) > 8) = false := decide_eq_false c'
          have ti : isiB "list" "list" = true := by decide
          rw [z]
          simp only [fC_ap, fVar_ap, fOp_ap, fB_ap, fAnd_ap, fOr_ap, fNot_ap, fAndV_ap, fOrV_ap, fNotV_ap, fIf_ap, fNil_ap, fCons_ap, fTup_ap, fLst_ap, fLstC_ap, fNoPart_ap, fPart_ap, fSl_ap, fNeg_ap, fCB_ap, fIsi_ap, fIsi2_ap, fNext_ap, fSeq_ap, fRet_ap, fRetF_ap, fgName_ap, fgNil_ap, fgCons_ap, fgTup_ap, fgSub_ap, fAsg_ap, fPar_ap, fPar3_ap, fDrop_ap, fApp_ap, fIfS_ap, fiSeq_ap, fiTup_ap, fiEnum_ap, fYes_ap, fCall_ap, fCall0_ap, fChain_ap, fBits_ap, fAddC_ap, fiAny_ap, Res.bind_ok, asB_ok, okO_some, bodyD, asB, iterOf, withLock_none, noErr_ok, wipeE, List.map_cons, List.map_nil, List.length_cons, List.length_nil, List.cons_append, List.nil_append, List.getElem?_cons_zero, List.getElem?_cons_succ, List.set_cons_zero, List.set_cons_succ, if_true, Bool.false_eq_true, if_false, Nat.reduceAdd, Nat.reduceSub, Nat.zero_add, List.replicate, tyD, atI_0, atI_1, lenD_lst, lenD_tup, ixD_tup, ixD_lst, eqD_int, eqD_str, neD_int, neD_str, leD_int, ltD_int, gtD_int, geD_int, addD_int, subD_int, intD_int, px0, px1, px2, ps0, ps2, List.length_append, capN, Nat.zero_le, Nat.reduceLeDiff, Nat.reduceEqDiff, Nat.reduceLT, Bool.not_true, Bool.not_false, Bool.true_and, Bool.false_and, ti, c2, l1, l2, q', l3, l4]
      · have c' : (xs.length : Int) > 8 := by omega
        simp [fC_ap, fVar_ap, fOp_ap, fB_ap, fAnd_ap, fOr_ap, fNot_ap, fAndV_ap, fOrV_ap, fNotV_ap, fIf_ap, fNil_ap, fCons_ap, fTup_ap, fLst_ap, fLstC_ap, fNoPart_ap, fPart_ap, fSl_ap, fNeg_ap, fCB_ap, fIsi_ap, fIsi2_ap, fNext_ap, fSeq_ap, fRet_ap, fRetF_ap, fgName_ap, fgNil_ap, fgCons_ap, fgTup_ap, fgSub_ap, fAsg_ap, fPar_ap, fPar3_ap, fDrop_ap, fApp_ap, fIfS_ap, fiSeq_ap, fiTup_ap, fiEnum_ap, fYes_ap, fCall_ap, fCall0_ap, fChain_ap, fBits_ap, fAddC_ap, fiAny_ap, Res.bind_ok, asB_ok, okO_some, bodyD, asB, iterOf, withLock_none, noErr_ok, wipeE, List.map_cons, List.map_nil, List.length_cons, List.length_nil, List.cons_append, List.nil_append, List.getElem?_cons_zero, List.getElem?_cons_succ, List.set_cons_zero, List.set_cons_succ, if_true, Bool.false_eq_true, if_false, Nat.reduceAdd, Nat.reduceSub, Nat.zero_add, List.replicate, tyD, atI_0, atI_1, lenD_lst, lenD_tup, ixD_tup, ixD_lst, eqD_int, eqD_str, neD_int, neD_str, leD_int, ltD_int, gtD_int, geD_int, addD_int, subD_int, intD_int, px0, px1, px2, ps0, ps2, List.length_append, capN, Nat.zero_le, Nat.reduceLeDiff, Nat.reduceEqDiff, Nat.reduceLT, Bool.not_true, Bool.not_false, Bool.true_and, Bool.false_and, isiB, c, c', isSpecs]
  | _ => first | (exfalso; cases n <;> simp [fit] at h; done) | rfl
theorem rule_ok : ∀ (k f : Nat), 3 * k + 1 ≤ f → ∀ {d : D} {n : Nat}, fit d n = true → n ≤ 60 → g_is_rule_within f [d, .int k] S = .ok (.bl (isRuleN k d)) S := by
  intro k
  induction k with
  | zero =>
    intro f hf d n h hn
    obtain ⟨f, rfl⟩ : ∃ f', f = f' + 1 := ⟨f - 1, by omega⟩
    refine bodyT_okL ?_ hS rfl
    have e1 := is_word_ok (w := "rally") hS h
    have e2 := is_word_ok (w := "hand") hS h
    cases q1 : isWord "rally" d with
    | true => simp [fC_ap, fVar_ap, fOp_ap, fB_ap, fAnd_ap, fOr_ap, fNot_ap, fAndV_ap, fOrV_ap, fNotV_ap, fIf_ap, fNil_ap, fCons_ap, fTup_ap, fLst_ap, fLstC_ap, fNoPart_ap, fPart_ap, fSl_ap, fNeg_ap, fCB_ap, fIsi_ap, fIsi2_ap, fNext_ap, fSeq_ap, fRet_ap, fRetF_ap, fgName_ap, fgNil_ap, fgCons_ap, fgTup_ap, fgSub_ap, fAsg_ap, fPar_ap, fPar3_ap, fDrop_ap, fApp_ap, fIfS_ap, fiSeq_ap, fiTup_ap, fiEnum_ap, fYes_ap, fCall_ap, fCall0_ap, fChain_ap, fBits_ap, fAddC_ap, fiAny_ap, Res.bind_ok, asB_ok, okO_some, bodyD, asB, iterOf, withLock_none, noErr_ok, wipeE, List.map_cons, List.map_nil, List.length_cons, List.length_nil, List.cons_append, List.nil_append, List.getElem?_cons_zero, List.getElem?_cons_succ, List.set_cons_zero, List.set_cons_succ, if_true, Bool.false_eq_true, if_false, Nat.reduceAdd, Nat.reduceSub, Nat.zero_add, List.replicate, tyD, atI_0, atI_1, lenD_lst, lenD_tup, ixD_tup, ixD_lst, eqD_int, eqD_str, neD_int, neD_str, leD_int, ltD_int, gtD_int, geD_int, addD_int, subD_int, intD_int, px0, px1, px2, ps0, ps2, List.length_append, capN, Nat.zero_le, Nat.reduceLeDiff, Nat.reduceEqDiff, Nat.reduceLT, Bool.not_true, Bool.not_false, Bool.true_and, Bool.false_and, b_is_rule_within, e1, q1, isRuleN]
    | false =>
      cases q2 : isWord "hand" d with
      | true => simp [fC_ap, fVar_ap, fOp_ap, fB_ap, fAnd_ap, fOr_ap, fNot_ap, fAndV_ap, fOrV_ap, fNotV_ap, fIf_ap, fNil_ap, fCons_ap, fTup_ap, fLst_ap, fLstC_ap, fNoPart_ap, fPart_ap, fSl_ap, fNeg_ap, fCB_ap, fIsi_ap, fIsi2_ap, fNext_ap, fSeq_ap, fRet_ap, fRetF_ap, fgName_ap, fgNil_ap, fgCons_ap, fgTup_ap, fgSub_ap, fAsg_ap, fPar_ap, fPar3_ap, fDrop_ap, fApp_ap, fIfS_ap, fiSeq_ap, fiTup_ap, fiEnum_ap, fYes_ap, fCall_ap, fCall0_ap, fChain_ap, fBits_ap, fAddC_ap, fiAny_ap, Res.bind_ok, asB_ok, okO_some, bodyD, asB, iterOf, withLock_none, noErr_ok, wipeE, List.map_cons, List.map_nil, List.length_cons, List.length_nil, List.cons_append, List.nil_append, List.getElem?_cons_zero, List.getElem?_cons_succ, List.set_cons_zero, List.set_cons_succ, if_true, Bool.false_eq_true, if_false, Nat.reduceAdd, Nat.reduceSub, Nat.zero_add, List.replicate, tyD, atI_0, atI_1, lenD_lst, lenD_tup, ixD_tup, ixD_lst, eqD_int, eqD_str, neD_int, neD_str, leD_int, ltD_int, gtD_int, geD_int, addD_int, subD_int, intD_int, px0, px1, px2, ps0, ps2, List.length_append, capN, Nat.zero_le, Nat.reduceLeDiff, Nat.reduceEqDiff, Nat.reduceLT, Bool.not_true, Bool.not_false, Bool.true_and, Bool.false_and, b_is_rule_within, e1, e2, q1, q2, isRuleN]
      | false => simp [fC_ap, fVar_ap, fOp_ap, fB_ap, fAnd_ap, fOr_ap, fNot_ap, fAndV_ap, fOrV_ap, fNotV_ap, fIf_ap, fNil_ap, fCons_ap, fTup_ap, fLst_ap, fLstC_ap, fNoPart_ap, fPart_ap, fSl_ap, fNeg_ap, fCB_ap, fIsi_ap, fIsi2_ap, fNext_ap, fSeq_ap, fRet_ap, fRetF_ap, fgName_ap, fgNil_ap, fgCons_ap, fgTup_ap, fgSub_ap, fAsg_ap, fPar_ap, fPar3_ap, fDrop_ap, fApp_ap, fIfS_ap, fiSeq_ap, fiTup_ap, fiEnum_ap, fYes_ap, fCall_ap, fCall0_ap, fChain_ap, fBits_ap, fAddC_ap, fiAny_ap, Res.bind_ok, asB_ok, okO_some, bodyD, asB, iterOf, withLock_none, noErr_ok, wipeE, List.map_cons, List.map_nil, List.length_cons, List.length_nil, List.cons_append, List.nil_append, List.getElem?_cons_zero, List.getElem?_cons_succ, List.set_cons_zero, List.set_cons_succ, if_true, Bool.false_eq_true, if_false, Nat.reduceAdd, Nat.reduceSub, Nat.zero_add, List.replicate, tyD, atI_0, atI_1, lenD_lst, lenD_tup, ixD_tup, ixD_lst, eqD_int, eqD_str, neD_int, neD_str, leD_int, ltD_int, gtD_int, geD_int, addD_int, subD_int, intD_int, px0, px1, px2, ps0, ps2, List.length_append, capN, Nat.zero_le, Nat.reduceLeDiff, Nat.reduceEqDiff, Nat.reduceLT, Bool.not_true, Bool.not_false, Bool.true_and, Bool.false_and, b_is_rule_within, e1, e2, q1, q2, isRuleN]
  | succ k ih =>
    intro f hf d n h hn
    obtain ⟨f, rfl⟩ : ∃ f', f = f' + 1 + 1 + 1 := ⟨f - 3, by omega⟩
    refine bodyT_okL ?_ hS rfl
    have e1 := is_word_ok (w := "rally") hS h
    have e2 := is_word_ok (w := "hand") hS h
    have hk : ¬ ((k : Int) + 1 = 0) := by omega
    cases q1 : isWord "rally" d with
    | true => simp [fC_ap, fVar_ap, fOp_ap, fB_ap, fAnd_ap, fOr_ap, fNot_ap, fAndV_ap, fOrV_ap, fNotV_ap, fIf_ap, fNil_ap, fCons_ap, fTup_ap, fLst_ap, fLstC_ap, fNoPart_ap, fPart_ap, fSl_ap, fNeg_ap, fCB_ap, fIsi_ap, fIsi2_ap, fNext_ap, fSeq_ap, fRet_ap, fRetF_ap, fgName_ap, fgNil_ap, fgCons_ap, fgTup_ap, fgSub_ap, fAsg_ap, fPar_ap, fPar3_ap, fDrop_ap, fApp_ap, fIfS_ap, fiSeq_ap, fiTup_ap, fiEnum_ap, fYes_ap, fCall_ap, fCall0_ap, fChain_ap, fBits_ap, fAddC_ap, fiAny_ap, Res.bind_ok, asB_ok, okO_some, bodyD, asB, iterOf, withLock_none, noErr_ok, wipeE, List.map_cons, List.map_nil, List.length_cons, List.length_nil, List.cons_append, List.nil_append, List.getElem?_cons_zero, List.getElem?_cons_succ, List.set_cons_zero, List.set_cons_succ, if_true, Bool.false_eq_true, if_false, Nat.reduceAdd, Nat.reduceSub, Nat.zero_add, List.replicate, tyD, atI_0, atI_1, lenD_lst, lenD_tup, ixD_tup, ixD_lst, eqD_int, eqD_str, neD_int, neD_str, leD_int, ltD_int, gtD_int, geD_int, addD_int, subD_int, intD_int, px0, px1, px2, ps0, ps2, List.length_append, capN, Nat.zero_le, Nat.reduceLeDiff, Nat.reduceEqDiff, Nat.reduceLT, Bool.not_true, Bool.not_false, Bool.true_and, Bool.false_and, b_is_rule_within, e1, q1, isRuleN]
    | false =>
      cases q2 : isWord "hand" d with
      | true => simp [fC_ap, fVar_ap, fOp_ap, fB_ap, fAnd_ap, fOr_ap, fNot_ap, fAndV_ap, fOrV_ap, fNotV_ap, fIf_ap, fNil_ap, fCons_ap, fTup_ap, fLst_ap, fLstC_ap, fNoPart_ap, fPart_ap, fSl_ap, fNeg_ap, fCB_ap, fIsi_ap, fIsi2_ap, fNext_ap, fSeq_ap, fRet_ap, fRetF_ap, fgName_ap, fgNil_ap, fgCons_ap, fgTup_ap, fgSub_ap, fAsg_ap, fPar_ap, fPar3_ap, fDrop_ap, fApp_ap, fIfS_ap, fiSeq_ap, fiTup_ap, fiEnum_ap, fYes_ap, fCall_ap, fCall0_ap, fChain_ap, fBits_ap, fAddC_ap, fiAny_ap, Res.bind_ok, asB_ok, okO_some, bodyD, asB, iterOf, withLock_none, noErr_ok, wipeE, List.map_cons, List.map_nil, List.length_cons, List.length_nil, List.cons_append, List.nil_append, List.getElem?_cons_zero, List.getElem?_cons_succ, List.set_cons_zero, List.set_cons_succ, if_true, Bool.false_eq_true, if_false, Nat.reduceAdd, Nat.reduceSub, Nat.zero_add, List.replicate, tyD, atI_0, atI_1, lenD_lst, lenD_tup, ixD_tup, ixD_lst, eqD_int, eqD_str, neD_int, neD_str, leD_int, ltD_int, gtD_int, geD_int, addD_int, subD_int, intD_int, px0, px1, px2, ps0, ps2, List.length_append, capN, Nat.zero_le, Nat.reduceLeDiff, Nat.reduceEqDiff, Nat.reduceLT, Bool.not_true, Bool.not_false, Bool.true_and, Bool.false_and, b_is_rule_within, e1, e2, q1, q2, isRuleN]
      | false =>
        have er : isRuleN (k + 1) d = isRace (isRuleN k) d := by simp only [isRuleN, q1, q2, Bool.false_or]
        rw [er]
        simp only [fC_ap, fVar_ap, fOp_ap, fB_ap, fAnd_ap, fOr_ap, fNot_ap, fAndV_ap, fOrV_ap, fNotV_ap, fIf_ap, fNil_ap, fCons_ap, fTup_ap, fLst_ap, fLstC_ap, fNoPart_ap, fPart_ap, fSl_ap, fNeg_ap, fCB_ap, fIsi_ap, fIsi2_ap, fNext_ap, fSeq_ap, fRet_ap, fRetF_ap, fgName_ap, fgNil_ap, fgCons_ap, fgTup_ap, fgSub_ap, fAsg_ap, fPar_ap, fPar3_ap, fDrop_ap, fApp_ap, fIfS_ap, fiSeq_ap, fiTup_ap, fiEnum_ap, fYes_ap, fCall_ap, fCall0_ap, fChain_ap, fBits_ap, fAddC_ap, fiAny_ap, Res.bind_ok, asB_ok, okO_some, bodyD, asB, iterOf, withLock_none, noErr_ok, wipeE, List.map_cons, List.map_nil, List.length_cons, List.length_nil, List.cons_append, List.nil_append, List.getElem?_cons_zero, List.getElem?_cons_succ, List.set_cons_zero, List.set_cons_succ, if_true, Bool.false_eq_true, if_false, Nat.reduceAdd, Nat.reduceSub, Nat.zero_add, List.replicate, tyD, atI_0, atI_1, lenD_lst, lenD_tup, ixD_tup, ixD_lst, eqD_int, eqD_str, neD_int, neD_str, leD_int, ltD_int, gtD_int, geD_int, addD_int, subD_int, intD_int, px0, px1, px2, ps0, ps2, List.length_append, capN, Nat.zero_le, Nat.reduceLeDiff, Nat.reduceEqDiff, Nat.reduceLT, Bool.not_true, Bool.not_false, Bool.true_and, Bool.false_and, b_is_rule_within, e1, e2, q1, q2]
        clear e1 e2 q1 q2 er
        cases d with
        | tup xs =>
          cases n with
          | zero => simp [fit] at h
          | succ n =>
            simp only [fit] at h
            by_cases hl : xs.length = 7
            · match xs, hl, h with
              | [x1, x2, x3, x4, x5, x6, x7], _, h =>
                simp only [fits, Bool.and_eq_true] at h
                obtain ⟨h1, h2, h3, h4, h5, h6, h7, -⟩ := h
                cases x1 with
                | str w =>
                  have a1 := are_numbers_ok hS h2 h3 h4
                  have a2 := is_order_ok hS h5 (by omega)
                  have a3 := ih (f + 1 + 1) (by omega) h6 (by omega)
                  have a4 := specs_ok (f := f + 1) (k := k) (r := isRuleN k) hS (fun {d n} hd hn => special_ok hS (fun {d n} hd hn => ih f (by omega) hd hn) hd hn) h7 (by omega)
                  have ek : ((k : Int) + 1) - 1 = k := by omega
                  by_cases c1 : w = "race"
                  · subst c1
                    cases c2 : isNums x2 x3 x4 with
                    | false => simp [fC_ap, fVar_ap, fOp_ap, fB_ap, fAnd_ap, fOr_ap, fNot_ap, fAndV_ap, fOrV_ap, fNotV_ap, fIf_ap, fNil_ap, fCons_ap, fTup_ap, fLst_ap, fLstC_ap, fNoPart_ap, fPart_ap, fSl_ap, fNeg_ap, fCB_ap, fIsi_ap, fIsi2_ap, fNext_ap, fSeq_ap, fRet_ap, fRetF_ap, fgName_ap, fgNil_ap, fgCons_ap, fgTup_ap, fgSub_ap, fAsg_ap, fPar_ap, fPar3_ap, fDrop_ap, fApp_ap, fIfS_ap, fiSeq_ap, fiTup_ap, fiEnum_ap, fYes_ap, fCall_ap, fCall0_ap, fChain_ap, fBits_ap, fAddC_ap, fiAny_ap, Res.bind_ok, asB_ok, okO_some, bodyD, asB, iterOf, withLock_none, noErr_ok, wipeE, List.map_cons, List.map_nil, List.length_cons, List.length_nil, List.cons_append, List.nil_append, List.getElem?_cons_zero, List.getElem?_cons_succ, List.set_cons_zero, List.set_cons_succ, if_true, Bool.false_eq_true, if_false, Nat.reduceAdd, Nat.reduceSub, Nat.zero_add, List.replicate, tyD, atI_0, atI_1, lenD_lst, lenD_tup, ixD_tup, ixD_lst, eqD_int, eqD_str, neD_int, neD_str, leD_int, ltD_int, gtD_int, geD_int, addD_int, subD_int, intD_int, px0, px1, px2, ps0, ps2, List.length_append, capN, Nat.zero_le, Nat.reduceLeDiff, Nat.reduceEqDiff, Nat.reduceLT, Bool.not_true, Bool.not_false, Bool.true_and, Bool.false_and, isiB, hk, isRace, a1, c2]
                    | true =>
                      cases c3 : isOrder x5 with
                      | false => simp [fC_ap, fVar_ap, fOp_ap, fB_ap, fAnd_ap, fOr_ap, fNot_ap, fAndV_ap, fOrV_ap, fNotV_ap, fIf_ap, fNil_ap, fCons_ap, fTup_ap, fLst_ap, fLstC_ap, fNoPart_ap, fPart_ap, fSl_ap, fNeg_ap, fCB_ap, fIsi_ap, fIsi2_ap, fNext_ap, fSeq_ap, fRet_ap, fRetF_ap, fgName_ap, fgNil_ap, fgCons_ap, fgTup_ap, fgSub_ap, fAsg_ap, fPar_ap, fPar3_ap, fDrop_ap, fApp_ap, fIfS_ap, fiSeq_ap, fiTup_ap, fiEnum_ap, fYes_ap, fCall_ap, fCall0_ap, fChain_ap, fBits_ap, fAddC_ap, fiAny_ap, Res.bind_ok, asB_ok, okO_some, bodyD, asB, iterOf, withLock_none, noErr_ok, wipeE, List.map_cons, List.map_nil, List.length_cons, List.length_nil, List.cons_append, List.nil_append, List.getElem?_cons_zero, List.getElem?_cons_succ, List.set_cons_zero, List.set_cons_succ, if_true, Bool.false_eq_true, if_false, Nat.reduceAdd, Nat.reduceSub, Nat.zero_add, List.replicate, tyD, atI_0, atI_1, lenD_lst, lenD_tup, ixD_tup, ixD_lst, eqD_int, eqD_str, neD_int, neD_str, leD_int, ltD_int, gtD_int, geD_int, addD_int, subD_int, intD_int, px0, px1, px2, ps0, ps2, List.length_append, capN, Nat.zero_le, Nat.reduceLeDiff, Nat.reduceEqDiff, Nat.reduceLT, Bool.not_true, Bool.not_false, Bool.true_and, Bool.false_and, isiB, hk, isRace, a1, a2, c2, c3]
                      | true =>
                        cases c4 : isRuleN k x6 with
                        | false => simp [fC_ap, fVar_ap, fOp_ap, fB_ap, fAnd_ap, fOr_ap, fNot_ap, fAndV_ap, fOrV_ap, fNotV_ap, fIf_ap, fNil_ap, fCons_ap, fTup_ap, fLst_ap, fLstC_ap, fNoPart_ap, fPart_ap, fSl_ap, fNeg_ap, fCB_ap, fIsi_ap, fIsi2_ap, fNext_ap, fSeq_ap, fRet_ap, fRetF_ap, fgName_ap, fgNil_ap, fgCons_ap, fgTup_ap, fgSub_ap, fAsg_ap, fPar_ap, fPar3_ap, fDrop_ap, fApp_ap, fIfS_ap, fiSeq_ap, fiTup_ap, fiEnum_ap, fYes_ap, fCall_ap, fCall0_ap, fChain_ap, fBits_ap, fAddC_ap, fiAny_ap, Res.bind_ok, asB_ok, okO_some, bodyD, asB, iterOf, withLock_none, noErr_ok, wipeE, List.map_cons, List.map_nil, List.length_cons, List.length_nil, List.cons_append, List.nil_append, List.getElem?_cons_zero, List.getElem?_cons_succ, List.set_cons_zero, List.set_cons_succ, if_true, Bool.false_eq_true, if_false, Nat.reduceAdd, Nat.reduceSub, Nat.zero_add, List.replicate, tyD, atI_0, atI_1, lenD_lst, lenD_tup, ixD_tup, ixD_lst, eqD_int, eqD_str, neD_int, neD_str, leD_int, ltD_int, gtD_int, geD_int, addD_int, subD_int, intD_int, px0, px1, px2, ps0, ps2, List.length_append, capN, Nat.zero_le, Nat.reduceLeDiff, Nat.reduceEqDiff, Nat.reduceLT, Bool.not_true, Bool.not_false, Bool.true_and, Bool.false_and, isiB, hk, isRace, a1, a2, a3, c2, c3, c4, ek]
                        | true => simp [fC_ap, fVar_ap, fOp_ap, fB_ap, fAnd_ap, fOr_ap, fNot_ap, fAndV_ap, fOrV_ap, fNotV_ap, fIf_ap, fNil_ap, fCons_ap, fTup_ap, fLst_ap, fLstC_ap, fNoPart_ap, fPart_ap, fSl_ap, fNeg_ap, fCB_ap, fIsi_ap, fIsi2_ap, fNext_ap, fSeq_ap, fRet_ap, fRetF_ap, fgName_ap, fgNil_ap, fgCons_ap, fgTup_ap, fgSub_ap, fAsg_ap, fPar_ap, fPar3_ap, fDrop_ap, fApp_ap, fIfS_ap, fiSeq_ap, fiTup_ap, fiEnum_ap, fYes_ap, fCall_ap, fCall0_ap, fChain_ap, fBits_ap, fAddC_ap, fiAny_ap, Res.bind_ok, asB_ok, okO_some, bodyD, asB, iterOf, withLock_none, noErr_ok, wipeE, List.map_cons, List.map_nil, List.length_cons, List.length_nil, List.cons_append, List.nil_append, List.getElem?_cons_zero, List.getElem?_cons_succ, List.set_cons_zero, List.set_cons_succ, if_true, Bool.false_eq_true, if_false, Nat.reduceAdd, Nat.reduceSub, Nat.zero_add, List.replicate, tyD, atI_0, atI_1, lenD_lst, lenD_tup, ixD_tup, ixD_lst, eqD_int, eqD_str, neD_int, neD_str, leD_int, ltD_int, gtD_int, geD_int, addD_int, subD_int, intD_int, px0, px1, px2, ps0, ps2, List.length_append, capN, Nat.zero_le, Nat.reduceLeDiff, Nat.reduceEqDiff, Nat.reduceLT, Bool.not_true, Bool.not_false, Bool.true_and, Bool.false_and, isiB, hk, isRace, a1, a2, a3, a4, c2, c3, c4, ek]
                  · simp [fC_ap, fVar_ap, fOp_ap, fB_ap, fAnd_ap, fOr_ap, fNot_ap, fAndV_ap, fOrV_ap, fNotV_ap, fIf_ap, fNil_ap, fCons_ap, fTup_ap, fLst_ap, fLstC_ap, fNoPart_ap, fPart_ap, fSl_ap, fNeg_ap, fCB_ap, fIsi_ap, fIsi2_ap, fNext_ap, fSeq_ap, fRet_ap, fRetF_ap, fgName_ap, fgNil_ap, fgCons_ap, fgTup_ap, fgSub_ap, fAsg_ap, fPar_ap, fPar3_ap, fDrop_ap, fApp_ap, fIfS_ap, fiSeq_ap, fiTup_ap, fiEnum_ap, fYes_ap, fCall_ap, fCall0_ap, fChain_ap, fBits_ap, fAddC_ap, fiAny_ap, Res.bind_ok, asB_ok, okO_some, bodyD, asB, iterOf, withLock_none, noErr_ok, wipeE, List.map_cons, List.map_nil, List.length_cons, List.length_nil, List.cons_append, List.nil_append, List.getElem?_cons_zero, List.getElem?_cons_succ, List.set_cons_zero, List.set_cons_succ, if_true, Bool.false_eq_true, if_false, Nat.reduceAdd, Nat.reduceSub, Nat.zero_add, List.replicate, tyD, atI_0, atI_1, lenD_lst, lenD_tup, ixD_tup, ixD_lst, eqD_int, eqD_str, neD_int, neD_str, leD_int, ltD_int, gtD_int, geD_int, addD_int, subD_int, intD_int, px0, px1, px2, ps0, ps2, List.length_append, capN, Nat.zero_le, Nat.reduceLeDiff, Nat.reduceEqDiff, Nat.reduceLT, Bool.not_true, Bool.not_false, Bool.true_and, Bool.false_and, isiB, hk, isRace, c1]
                | _ => first | (simp [fC_ap, fVar_ap, fOp_ap, fB_ap, fAnd_ap, fOr_ap, fNot_ap, fAndV_ap, fOrV_ap, fNotV_ap, fIf_ap, fNil_ap, fCons_ap, fTup_ap, fLst_ap, fLstC_ap, fNoPart_ap, fPart_ap, fSl_ap, fNeg_ap, fCB_ap, fIsi_ap, fIsi2_ap, fNext_ap, fSeq_ap, fRet_ap, fRetF_ap, fgName_ap, fgNil_ap, fgCons_ap, fgTup_ap, fgSub_ap, fAsg_ap, fPar_ap, fPar3_ap, fDrop_ap, fApp_ap, fIfS_ap, fiSeq_ap, fiTup_ap, fiEnum_ap, fYes_ap, fCall_ap, fCall0_ap, fChain_ap, fBits_ap, fAddC_ap, fiAny_ap, Res.bind_ok, asB_ok, okO_some, bodyD, asB, iterOf, withLock_none, noErr_ok, wipeE, List.map_cons, List.map_nil, List.length_cons, List.length_nil, List.cons_append, List.nil_append, List.getElem?_cons_zero, List.getElem?_cons_succ, List.set_cons_zero, List.set_cons_succ, if_true, Bool.false_eq_true, if_false, Nat.reduceAdd, Nat.reduceSub, Nat.zero_add, List.replicate, tyD, atI_0, atI_1, lenD_lst, lenD_tup, ixD_tup, ixD_lst, eqD_int, eqD_str, neD_int, neD_str, leD_int, ltD_int, gtD_int, geD_int, addD_int, subD_int, intD_int, px0, px1, px2, ps0, ps2, List.length_append, capN, Nat.zero_le, Nat.reduceLeDiff, Nat.reduceEqDiff, Nat.reduceLT, Bool.not_true, Bool.not_false, Bool.true_and, Bool.false_and, isiB, hk, isRace]; done) | (exfalso; cases n <;> simp [fit] at h1)
            · have hl' : ¬ (xs.length : Int) = 7 := by omega
              have z : isRace (isRuleN k) (.tup xs) = false := by
                unfold isRace
                split
                · rename_i e
                  cases e
                  exact absurd rfl hl
                · rfl
              rw [z]
              simp [fC_ap, fVar_ap, fOp_ap, fB_ap, fAnd_ap, fOr_ap, fNot_ap, fAndV_ap, fOrV_ap, fNotV_ap, fIf_ap, fNil_ap, fCons_ap, fTup_ap, fLst_ap, fLstC_ap, fNoPart_ap, fPart_ap, fSl_ap, fNeg_ap, fCB_ap, fIsi_ap, fIsi2_ap, fNext_ap, fSeq_ap, fRet_ap, fRetF_ap, fgName_ap, fgNil_ap, fgCons_ap, fgTup_ap, fgSub_ap, fAsg_ap, fPar_ap, fPar3_ap, fDrop_ap, fApp_ap, fIfS_ap, fiSeq_ap, fiTup_ap, fiEnum_ap, fYes_ap, fCall_ap, fCall0_ap, fChain_ap, fBits_ap, fAddC_ap, fiAny_ap, Res.bind_ok, asB_ok, okO_some, bodyD, asB, iterOf, withLock_none, noErr_ok, wipeE, List.map_cons, List.map_nil, List.length_cons, List.length_nil, List.cons_append, List.nil_append, List.getElem?_cons_zero, List.getElem?_cons_succ, List.set_cons_zero, List.set_cons_succ, if_true, Bool.false_eq_true, if_false, Nat.reduceAdd, Nat.reduceSub, Nat.zero_add, List.replicate, tyD, atI_0, atI_1, lenD_lst, lenD_tup, ixD_tup, ixD_lst, eqD_int, eqD_str, neD_int, neD_str, leD_int, ltD_int, gtD_int, geD_int, addD_int, subD_int, intD_int, px0, px1, px2, ps0, ps2, List.length_append, capN, Nat.zero_le, Nat.reduceLeDiff, Nat.reduceEqDiff, Nat.reduceLT, Bool.not_true, Bool.not_false, Bool.true_and, Bool.false_and, isiB, hk, hl']
        | _ => first | (simp [fC_ap, fVar_ap, fOp_ap, fB_ap, fAnd_ap, fOr_ap, fNot_ap, fAndV_ap, fOrV_ap, fNotV_ap, fIf_ap, fNil_ap, fCons_ap, fTup_ap, fLst_ap, fLstC_ap, fNoPart_ap, fPart_ap, fSl_ap, fNeg_ap, fCB_ap, fIsi_ap, fIsi2_ap, fNext_ap, fSeq_ap, fRet_ap, fRetF_ap, fgName_ap, fgNil_ap, fgCons_ap, fgTup_ap, fgSub_ap, fAsg_ap, fPar_ap, fPar3_ap, fDrop_ap, fApp_ap, fIfS_ap, fiSeq_ap, fiTup_ap, fiEnum_ap, fYes_ap, fCall_ap, fCall0_ap, fChain_ap, fBits_ap, fAddC_ap, fiAny_ap, Res.bind_ok, asB_ok, okO_some, bodyD, asB, iterOf, withLock_none, noErr_ok, wipeE, List.map_cons, List.map_nil, List.length_cons, List.length_nil, List.cons_append, List.nil_append, List.getElem?_cons_zero, List.getElem?_cons_succ, List.set_cons_zero, List.set_cons_succ, if_true, Bool.false_eq_true, if_false, Nat.reduceAdd, Nat.reduceSub, Nat.zero_add, List.replicate, tyD, atI_0, atI_1, lenD_lst, lenD_tup, ixD_tup, ixD_lst, eqD_int, eqD_str, neD_int, neD_str, leD_int, ltD_int, gtD_int, geD_int, addD_int, subD_int, intD_int, px0, px1, px2, ps0, ps2, List.length_append, capN, Nat.zero_le, Nat.reduceLeDiff, Nat.reduceEqDiff, Nat.reduceLT, Bool.not_true, Bool.not_false, Bool.true_and, Bool.false_and, isiB, hk, isRace]; done) | (exfalso; cases n <;> simp [fit] at h)
theorem is_rule_ok {d : D} {n : Nat} (h : fit d n = true) (hn : n ≤ 60) : g_is_rule [d] S = .ok (.bl (isRuleN 4 d)) S := by
  refine bodyT_okL ?_ hS rfl
  have e := rule_ok hS 4 16 (by decide) h hn
  simp only [fC_ap, fVar_ap, fOp_ap, fB_ap, fAnd_ap, fOr_ap, fNot_ap, fAndV_ap, fOrV_ap, fNotV_ap, fIf_ap, fNil_ap, fCons_ap, fTup_ap, fLst_ap, fLstC_ap, fNoPart_ap, fPart_ap, fSl_ap, fNeg_ap, fCB_ap, fIsi_ap, fIsi2_ap, fNext_ap, fSeq_ap, fRet_ap, fRetF_ap, fgName_ap, fgNil_ap, fgCons_ap, fgTup_ap, fgSub_ap, fAsg_ap, fPar_ap, fPar3_ap, fDrop_ap, fApp_ap, fIfS_ap, fiSeq_ap, fiTup_ap, fiEnum_ap, fYes_ap, fCall_ap, fCall0_ap, fChain_ap, fBits_ap, fAddC_ap, fiAny_ap, Res.bind_ok, asB_ok, okO_some, bodyD, asB, iterOf, withLock_none, noErr_ok, wipeE, List.map_cons, List.map_nil, List.length_cons, List.length_nil, List.cons_append, List.nil_append, List.getElem?_cons_zero, List.getElem?_cons_succ, List.set_cons_zero, List.set_cons_succ, if_true, Bool.false_eq_true, if_false, Nat.reduceAdd, Nat.reduceSub, Nat.zero_add, List.replicate, tyD, atI_0, atI_1, lenD_lst, lenD_tup, ixD_tup, ixD_lst, eqD_int, eqD_str, neD_int, neD_str, leD_int, ltD_int, gtD_int, geD_int, addD_int, subD_int, intD_int, px0, px1, px2, ps0, ps2, List.length_append, capN, Nat.zero_le, Nat.reduceLeDiff, Nat.reduceEqDiff, Nat.reduceLT, Bool.not_true, Bool.not_false, Bool.true_and, Bool.false_and, b_is_rule, c_DEEPEST]
  exact congrArg (fun r => Res.bind (Res.bind r _) _) e
end
end Cm
set_option maxHeartbeats 2000000
namespace Cm
open PySem PySem.Spec PyProof.Rows L2 DL
variable {P : Sto}
def hash1 (b c : Int) : Int := (b * 1140671 + 27644437 * c * c + 131 * c + 19) % 2147483629
def hash2 (b c : Int) : Int := (hash1 b c * hash1 b c + 62089 * c + 32416187) % 2147483587
def hashI (b c : Int) : Int := (hash2 b c * 48271) % 2147483647
theorem hash_ok {S : Sto} (hS : S.all (lowC S.length) = true) {b c : Int} (hc : c.natAbs < 18446744073709551616) : g__law_hash [.int b, .int c] S = .ok (.int (hashI b c)) S := by
  refine bodyT_low [] (T := S) ?_ rfl hS rfl
  rw [List.append_nil]
  have e1 : mulD (.int b) (.int 1140671) S = some (.int (b * 1140671)) := mulD_int (mulOk_r (by decide))
  have e2 : mulD (.int 27644437) (.int c) S = some (.int (27644437 * c)) := mulD_int (mulOk_l (by decide))
  have e3 : mulD (.int (27644437 * c)) (.int c) S = some (.int (27644437 * c * c)) := mulD_int (mulOk_r hc)
  have e4 : mulD (.int 131) (.int c) S = some (.int (131 * c)) := mulD_int (mulOk_l (by decide))
  have e5 : ∀ i, modD (.int i) (.int 2147483629) S = some (.int (i % 2147483629)) := fun i => modD_int (by decide)
  have n1 : (hash1 b c).natAbs < 18446744073709551616 := by
    have := Int.emod_nonneg (b * 1140671 + 27644437 * c * c + 131 * c + 19) (show (2147483629 : Int) ≠ 0 by decide)
    have := Int.emod_lt_of_pos (b * 1140671 + 27644437 * c * c + 131 * c + 19) (show (0 : Int) < 2147483629 by decide)
    unfold hash1
    omega
  have e6 : mulD (.int (hash1 b c)) (.int (hash1 b c)) S = some (.int (hash1 b c * hash1 b c)) := mulD_int (mulOk_r n1)
  have e7 : mulD (.int 62089) (.int c) S = some (.int (62089 * c)) := mulD_int (mulOk_l (by decide))
  have e8 : ∀ i, modD (.int i) (.int 2147483587) S = some (.int (i % 2147483587)) := fun i => modD_int (by decide)
  have e9 : ∀ i, mulD (.int i) (.int 48271) S = some (.int (i * 48271)) := fun i => mulD_int (mulOk_r (by decide))
  have e10 : ∀ i, modD (.int i) (.int 2147483647) S = some (.int (i % 2147483647)) := fun i => modD_int (by decide)
  have f1 : (b * 1140671 + 27644437 * c * c + 131 * c + 19) % 2147483629 = hash1 b c := rfl
  simp only [fC_ap, fVar_ap, fOp_ap, fB_ap, fAnd_ap, fOr_ap, fNot_ap, fAndV_ap, fOrV_ap, fNotV_ap, fIf_ap, fNil_ap, fCons_ap, fTup_ap, fLst_ap, fLstC_ap, fNoPart_ap, fPart_ap, fSl_ap, fNeg_ap, fCB_ap, fIsi_ap, fIsi2_ap, fNext_ap, fSeq_ap, fRet_ap, fRetF_ap, fgName_ap, fgNil_ap, fgCons_ap, fgTup_ap, fgSub_ap, fAsg_ap, fPar_ap, fPar3_ap, fDrop_ap, fApp_ap, fIfS_ap, fiSeq_ap, fiTup_ap, fiEnum_ap, fYes_ap, fCall_ap, fCall0_ap, fChain_ap, fBits_ap, fAddC_ap, fiAny_ap, Res.bind_ok, asB_ok, okO_some, bodyD, asB, iterOf, withLock_none, noErr_ok, wipeE, List.map_cons, List.map_nil, List.length_cons, List.length_nil, List.cons_append, List.nil_append, List.getElem?_cons_zero, List.getElem?_cons_succ, List.set_cons_zero, List.set_cons_succ, if_true, Bool.false_eq_true, if_false, Nat.reduceAdd, Nat.reduceSub, Nat.zero_add, List.replicate, tyD, atI_0, atI_1, lenD_lst, lenD_tup, ixD_tup, ixD_lst, eqD_int, eqD_str, neD_int, neD_str, leD_int, ltD_int, gtD_int, geD_int, addD_int, subD_int, intD_int, px0, px1, px2, ps0, ps2, List.length_append, capN, Nat.zero_le, Nat.reduceLeDiff, Nat.reduceEqDiff, Nat.reduceLT, Bool.not_true, Bool.not_false, Bool.true_and, Bool.false_and, b__law_hash, e1, e2, e3, e4, e5, f1, e6, e7, e8, e9, e10]
  rfl
theorem bits_few {i : Int} (h0 : 1 ≤ i) (h : i ≤ 1000) : Builtin.Int.intBits i ≤ 10 := by
  refine PySem.intBits_le_iff.mpr ?_
  have e : 2 ^ 10 = 1024 := by decide
  rw [e]
  omega
theorem random_ok {n : Nat} {x : CO} {L : Sto} (G : Gn n x) (hn : n ≤ 1000000000) (hL : Lo P L) {bd : Int} (h1 : 1 ≤ bd) (h2 : bd ≤ 1000) :
    ∃ y v, g__law_random [.cel P.length, .int bd] (P ++ x :: L) = .ok (.int v) (P ++ y :: L) ∧ Gn (n + 1) y ∧ 0 ≤ v ∧ v < bd := by
  obtain ⟨a, b, c, rfl, ha, hb1, hb2, hc, hcn⟩ := G
  have fd : ∀ (S : Sto) (i : Int), fdivD (.int i) (.int bd) S = some (.int (i / bd)) := fun S i => fdivD_int (fdivOk_of (by omega) (by omega))
  have md : ∀ (S : Sto) (i : Int), modD (.int i) (.int bd) S = some (.int (i % bd)) := fun S i => modD_int (by omega)
  have nn := fun i : Int => Int.emod_nonneg i (show bd ≠ 0 by omega)
  have lt := fun i : Int => Int.emod_lt_of_pos i (show 0 < bd by omega)
  by_cases c0 : a > 0
  · refine ⟨gen (a / bd) b c, a % bd, ?_, ⟨_, _, _, rfl, Int.ediv_nonneg ha (by omega), hb1, hb2, hc, by omega⟩, nn a, lt a⟩
    refine bodyT_lo (n := n) (E := []) (x := gen a b c) ⟨_, _, _, rfl, Int.ediv_nonneg ha (by omega), hb1, hb2, hc, by omega⟩ hL rfl ?_
    simp only [fC_ap, fVar_ap, fOp_ap, fB_ap, fAnd_ap, fOr_ap, fNot_ap, fAndV_ap, fOrV_ap, fNotV_ap, fIf_ap, fNil_ap, fCons_ap, fTup_ap, fLst_ap, fLstC_ap, fNoPart_ap, fPart_ap, fSl_ap, fNeg_ap, fCB_ap, fIsi_ap, fIsi2_ap, fNext_ap, fSeq_ap, fRet_ap, fRetF_ap, fgName_ap, fgNil_ap, fgCons_ap, fgTup_ap, fgSub_ap, fAsg_ap, fPar_ap, fPar3_ap, fDrop_ap, fApp_ap, fIfS_ap, fiSeq_ap, fiTup_ap, fiEnum_ap, fYes_ap, fCall_ap, fCall0_ap, fChain_ap, fBits_ap, fAddC_ap, fiAny_ap, Res.bind_ok, asB_ok, okO_some, bodyD, asB, iterOf, withLock_none, noErr_ok, wipeE, List.map_cons, List.map_nil, List.length_cons, List.length_nil, List.cons_append, List.nil_append, List.getElem?_cons_zero, List.getElem?_cons_succ, List.set_cons_zero, List.set_cons_succ, if_true, Bool.false_eq_true, if_false, Nat.reduceAdd, Nat.reduceSub, Nat.zero_add, List.replicate, tyD, atI_0, atI_1, lenD_lst, lenD_tup, ixD_tup, ixD_lst, eqD_int, eqD_str, neD_int, neD_str, leD_int, ltD_int, gtD_int, geD_int, addD_int, subD_int, intD_int, px0, px1, px2, ps0, ps2, List.length_append, capN, Nat.zero_le, Nat.reduceLeDiff, Nat.reduceEqDiff, Nat.reduceLT, Bool.not_true, Bool.not_false, Bool.true_and, Bool.false_and, b__law_random, gen, decide_eq_true c0, fd, md, List.append_nil]
  · have f30 : ∀ (S : Sto) (i : Int), fdivD (.int i) (.int 30) S = some (.int (i / 30)) := fun S i => fdivD_int (fdivOk_of (by decide) (by decide))
    have bt : ((Builtin.Int.intBits bd : Nat) : Int) / 30 = 0 := by
      have := bits_few h1 h2
      omega
    refine ⟨gen a b (c + 1), (0 * 2147483587 + hashI b (c + 1)) % bd, ?_, ⟨_, _, _, rfl, ha, hb1, hb2, by omega, by omega⟩, nn _, lt _⟩
    have hh := hash_ok (S := P ++ gen a b (c + 1) :: L) (Gn.low (n := n + 1) ⟨_, _, _, rfl, ha, hb1, hb2, by omega, by omega⟩ hL) (b := b) (c := c + 1) (by omega)
    refine bodyT_lo (n := n + 1) (E := []) (x := gen a b c) (y := gen a b (c + 1)) ⟨_, _, _, rfl, ha, hb1, hb2, by omega, by omega⟩ hL rfl ?_
    have one : fiRng1 (fCons (fOp addD (fC (.int 1)) (fOp fdivD (fBits (fVar 1)) (fC (.int 30)))) fNil) [some (.cel P.length), some (.int bd), some (.int 0), none] (P ++ gen a b c :: L) = .ok ⟨[.int 0], none⟩ (P ++ gen a b c :: L) := by
      have q := fiRng1_ok (f := fCons (fOp addD (fC (.int 1)) (fOp fdivD (fBits (fVar 1)) (fC (.int 30)))) fNil) (ρ := [some (.cel P.length), some (.int bd), some (.int 0), none]) (S := P ++ gen a b c :: L) (j := 1) (by simp only [fC_ap, fVar_ap, fOp_ap, fB_ap, fAnd_ap, fOr_ap, fNot_ap, fAndV_ap, fOrV_ap, fNotV_ap, fIf_ap, fNil_ap, fCons_ap, fTup_ap, fLst_ap, fLstC_ap, fNoPart_ap, fPart_ap, fSl_ap, fNeg_ap, fCB_ap, fIsi_ap, fIsi2_ap, fNext_ap, fSeq_ap, fRet_ap, fRetF_ap, fgName_ap, fgNil_ap, fgCons_ap, fgTup_ap, fgSub_ap, fAsg_ap, fPar_ap, fPar3_ap, fDrop_ap, fApp_ap, fIfS_ap, fiSeq_ap, fiTup_ap, fiEnum_ap, fYes_ap, fCall_ap, fCall0_ap, fChain_ap, fBits_ap, fAddC_ap, fiAny_ap, Res.bind_ok, asB_ok, okO_some, bodyD, asB, iterOf, withLock_none, noErr_ok, wipeE, List.map_cons, List.map_nil, List.length_cons, List.length_nil, List.cons_append, List.nil_append, List.getElem?_cons_zero, List.getElem?_cons_succ, List.set_cons_zero, List.set_cons_succ, if_true, Bool.false_eq_true, if_false, Nat.reduceAdd, Nat.reduceSub, Nat.zero_add, List.replicate, tyD, atI_0, atI_1, lenD_lst, lenD_tup, ixD_tup, ixD_lst, eqD_int, eqD_str, neD_int, neD_str, leD_int, ltD_int, gtD_int, geD_int, addD_int, subD_int, intD_int, px0, px1, px2, ps0, ps2, List.length_append, capN, Nat.zero_le, Nat.reduceLeDiff, Nat.reduceEqDiff, Nat.reduceLT, Bool.not_true, Bool.not_false, Bool.true_and, Bool.false_and, f30, bt]; rfl) smallI_one
      exact q
    have m0 : ∀ (S : Sto), mulD (.int 0) (.int 2147483587) S = some (.int (0 * 2147483587)) := fun S => mulD_int (mulOk_r (by decide))
    have loop : fFor (fiRng1 (fCons (fOp addD (fC (.int 1)) (fOp fdivD (fBits (fVar 1)) (fC (.int 30)))) fNil)) (fgName 3) (fSeq (fAsg (fOp addD (fOp ixD (fVar 0) (fC (.int 2))) (fC (.int 1))) (fgSub (fVar 0) (fC (.int 2))))
    (fAsg (fOp addD (fOp mulD (fVar 2) (fC (.int 2147483587))) (fCall 2 g__law_hash (fCons (fOp ixD (fVar 0) (fC (.int 1))) (fCons (fOp ixD (fVar 0) (fC (.int 2))) fNil)))) (fgName 2))) [some (.cel P.length), some (.int bd), some (.int 0), none] (P ++ gen a b c :: L) =
        .ok (.nx, [some (.cel P.length), some (.int bd), some (.int (0 * 2147483587 + hashI b (c + 1))), some (.int 0)]) (P ++ gen a b (c + 1) :: L) := by
      unfold fFor
      rw [one]
      unfold gen at hh ⊢
      simp only [fC_ap, fVar_ap, fOp_ap, fB_ap, fAnd_ap, fOr_ap, fNot_ap, fAndV_ap, fOrV_ap, fNotV_ap, fIf_ap, fNil_ap, fCons_ap, fTup_ap, fLst_ap, fLstC_ap, fNoPart_ap, fPart_ap, fSl_ap, fNeg_ap, fCB_ap, fIsi_ap, fIsi2_ap, fNext_ap, fSeq_ap, fRet_ap, fRetF_ap, fgName_ap, fgNil_ap, fgCons_ap, fgTup_ap, fgSub_ap, fAsg_ap, fPar_ap, fPar3_ap, fDrop_ap, fApp_ap, fIfS_ap, fiSeq_ap, fiTup_ap, fiEnum_ap, fYes_ap, fCall_ap, fCall0_ap, fChain_ap, fBits_ap, fAddC_ap, fiAny_ap, Res.bind_ok, asB_ok, okO_some, bodyD, asB, iterOf, withLock_none, noErr_ok, wipeE, List.map_cons, List.map_nil, List.length_cons, List.length_nil, List.cons_append, List.nil_append, List.getElem?_cons_zero, List.getElem?_cons_succ, List.set_cons_zero, List.set_cons_succ, if_true, Bool.false_eq_true, if_false, Nat.reduceAdd, Nat.reduceSub, Nat.zero_add, List.replicate, tyD, atI_0, atI_1, lenD_lst, lenD_tup, ixD_tup, ixD_lst, eqD_int, eqD_str, neD_int, neD_str, leD_int, ltD_int, gtD_int, geD_int, addD_int, subD_int, intD_int, px0, px1, px2, ps0, ps2, List.length_append, capN, Nat.zero_le, Nat.reduceLeDiff, Nat.reduceEqDiff, Nat.reduceLT, Bool.not_true, Bool.not_false, Bool.true_and, Bool.false_and, loopD, m0, hh]
    have c1 : decide (a > 0) = false := decide_eq_false c0
    unfold gen at loop ⊢
    simp only [fC_ap, fVar_ap, fOp_ap, fB_ap, fAnd_ap, fOr_ap, fNot_ap, fAndV_ap, fOrV_ap, fNotV_ap, fIf_ap, fNil_ap, fCons_ap, fTup_ap, fLst_ap, fLstC_ap, fNoPart_ap, fPart_ap, fSl_ap, fNeg_ap, fCB_ap, fIsi_ap, fIsi2_ap, fNext_ap, fSeq_ap, fRet_ap, fRetF_ap, fgName_ap, fgNil_ap, fgCons_ap, fgTup_ap, fgSub_ap, fAsg_ap, fPar_ap, fPar3_ap, fDrop_ap, fApp_ap, fIfS_ap, fiSeq_ap, fiTup_ap, fiEnum_ap, fYes_ap, fCall_ap, fCall0_ap, fChain_ap, fBits_ap, fAddC_ap, fiAny_ap, Res.bind_ok, asB_ok, okO_some, bodyD, asB, iterOf, withLock_none, noErr_ok, wipeE, List.map_cons, List.map_nil, List.length_cons, List.length_nil, List.cons_append, List.nil_append, List.getElem?_cons_zero, List.getElem?_cons_succ, List.set_cons_zero, List.set_cons_succ, if_true, Bool.false_eq_true, if_false, Nat.reduceAdd, Nat.reduceSub, Nat.zero_add, List.replicate, tyD, atI_0, atI_1, lenD_lst, lenD_tup, ixD_tup, ixD_lst, eqD_int, eqD_str, neD_int, neD_str, leD_int, ltD_int, gtD_int, geD_int, addD_int, subD_int, intD_int, px0, px1, px2, ps0, ps2, List.length_append, capN, Nat.zero_le, Nat.reduceLeDiff, Nat.reduceEqDiff, Nat.reduceLT, Bool.not_true, Bool.not_false, Bool.true_and, Bool.false_and, b__law_random, c1, loop, md, List.append_nil]
theorem pick_ok {n : Nat} {x : CO} {L : Sto} (G : Gn n x) (hn : n ≤ 1000000000) (hL : Lo P L) {xs : List D} (h1 : 1 ≤ xs.length) (h2 : xs.length ≤ 1000) (hf : noCels xs = true) :
    ∃ y d, g__law_pick [.cel P.length, .lst xs] (P ++ x :: L) = .ok d (P ++ y :: L) ∧ Gn (n + 1) y ∧ d ∈ xs := by
  obtain ⟨y, v, e, G2, v1, v2⟩ := random_ok G hn hL (bd := xs.length) (by omega) (by omega)
  have hv : v.toNat < xs.length := by omega
  have hm : xs[v.toNat] ∈ xs := List.getElem_mem hv
  have at_ : atI xs v = some xs[v.toNat] := by
    have q := atI_at (xs := xs) (List.getElem?_eq_getElem hv)
    rw [show ((v.toNat : Nat) : Int) = v by omega] at q
    exact q
  refine ⟨y, xs[v.toNat], ?_, G2, hm⟩
  refine bodyT_lo (E := []) G2 hL (mem_free hf hm) ?_
  simp only [fC_ap, fVar_ap, fOp_ap, fB_ap, fAnd_ap, fOr_ap, fNot_ap, fAndV_ap, fOrV_ap, fNotV_ap, fIf_ap, fNil_ap, fCons_ap, fTup_ap, fLst_ap, fLstC_ap, fNoPart_ap, fPart_ap, fSl_ap, fNeg_ap, fCB_ap, fIsi_ap, fIsi2_ap, fNext_ap, fSeq_ap, fRet_ap, fRetF_ap, fgName_ap, fgNil_ap, fgCons_ap, fgTup_ap, fgSub_ap, fAsg_ap, fPar_ap, fPar3_ap, fDrop_ap, fApp_ap, fIfS_ap, fiSeq_ap, fiTup_ap, fiEnum_ap, fYes_ap, fCall_ap, fCall0_ap, fChain_ap, fBits_ap, fAddC_ap, fiAny_ap, Res.bind_ok, asB_ok, okO_some, bodyD, asB, iterOf, withLock_none, noErr_ok, wipeE, List.map_cons, List.map_nil, List.length_cons, List.length_nil, List.cons_append, List.nil_append, List.getElem?_cons_zero, List.getElem?_cons_succ, List.set_cons_zero, List.set_cons_succ, if_true, Bool.false_eq_true, if_false, Nat.reduceAdd, Nat.reduceSub, Nat.zero_add, List.replicate, tyD, atI_0, atI_1, lenD_lst, lenD_tup, ixD_tup, ixD_lst, eqD_int, eqD_str, neD_int, neD_str, leD_int, ltD_int, gtD_int, geD_int, addD_int, subD_int, intD_int, px0, px1, px2, ps0, ps2, List.length_append, capN, Nat.zero_le, Nat.reduceLeDiff, Nat.reduceEqDiff, Nat.reduceLT, Bool.not_true, Bool.not_false, Bool.true_and, Bool.false_and, b__law_pick, e, at_, List.append_nil]
where
  mem_free : ∀ {xs : List D} {d : D}, noCels xs = true → d ∈ xs → noCel d = true
    | [], _, _, h => by cases h
    | y :: ys, d, h, m => by
      simp only [noCels, Bool.and_eq_true] at h
      rcases List.mem_cons.mp m with rfl | m
      · exact h.1
      · exact mem_free h.2 m
theorem cell_ok {S : Sto} (hS : S.all (lowC S.length) = true) {ns : List Int} {j : Nat} (hj : j ≤ 1000) : ∃ v : Int, g__law_cell [.kls (ns.map .int), .int j] S = .ok (.int v) S := by
  have lenE : lenD [.kls (ns.map .int)] S = some (.int (ns.length : Nat)) := by
    show some (D.int ((List.map D.int ns).length : Nat)) = _
    rw [List.length_map]
  have ends : ∀ v : Int, bodyD N__law_cell 2 b__law_cell [.kls (ns.map .int), .int j] S = .ok (.int v) S → g__law_cell [.kls (ns.map .int), .int j] S = .ok (.int v) S := fun v e =>
    bodyT_low [] (by rw [List.append_nil]; exact e) rfl hS rfl
  by_cases c : (j : Int) < (ns.length : Nat)
  · have hj2 : j < ns.length := by omega
    have a : ixD (.kls (ns.map .int)) (.int j) S = some (.int ns[j]) := by
      show atI (ns.map D.int) (j : Int) = _
      exact atI_at (by rw [List.getElem?_map, List.getElem?_eq_getElem hj2]; rfl)
    refine ⟨ns[j], ends _ ?_⟩
    simp only [fC_ap, fVar_ap, fOp_ap, fB_ap, fAnd_ap, fOr_ap, fNot_ap, fAndV_ap, fOrV_ap, fNotV_ap, fIf_ap, fNil_ap, fCons_ap, fTup_ap, fLst_ap, fLstC_ap, fNoPart_ap, fPart_ap, fSl_ap, fNeg_ap, fCB_ap, fIsi_ap, fIsi2_ap, fNext_ap, fSeq_ap, fRet_ap, fRetF_ap, fgName_ap, fgNil_ap, fgCons_ap, fgTup_ap, fgSub_ap, fAsg_ap, fPar_ap, fPar3_ap, fDrop_ap, fApp_ap, fIfS_ap, fiSeq_ap, fiTup_ap, fiEnum_ap, fYes_ap, fCall_ap, fCall0_ap, fChain_ap, fBits_ap, fAddC_ap, fiAny_ap, Res.bind_ok, asB_ok, okO_some, bodyD, asB, iterOf, withLock_none, noErr_ok, wipeE, List.map_cons, List.map_nil, List.length_cons, List.length_nil, List.cons_append, List.nil_append, List.getElem?_cons_zero, List.getElem?_cons_succ, List.set_cons_zero, List.set_cons_succ, if_true, Bool.false_eq_true, if_false, Nat.reduceAdd, Nat.reduceSub, Nat.zero_add, List.replicate, tyD, atI_0, atI_1, lenD_lst, lenD_tup, ixD_tup, ixD_lst, eqD_int, eqD_str, neD_int, neD_str, leD_int, ltD_int, gtD_int, geD_int, addD_int, subD_int, intD_int, px0, px1, px2, ps0, ps2, List.length_append, capN, Nat.zero_le, Nat.reduceLeDiff, Nat.reduceEqDiff, Nat.reduceLT, Bool.not_true, Bool.not_false, Bool.true_and, Bool.false_and, b__law_cell, lenE, decide_eq_true c, a]
  · cases ns with
    | nil =>
      refine ⟨0, ends _ ?_⟩
      have l0 : lenD [.kls []] S = some (.int 0) := rfl
      have c0 : decide ((j : Int) < 0) = false := decide_eq_false (by omega)
      have s1 : slD (.kls []) none (some 1) S = some (.lst []) := rfl
      have s2 : sumT [.lst []] S = some (.int 0) := rfl
      have s3 : modD (.int 0) (.int 1000003) S = some (.int 0) := modD_int (by decide)
      simp only [fC_ap, fVar_ap, fOp_ap, fB_ap, fAnd_ap, fOr_ap, fNot_ap, fAndV_ap, fOrV_ap, fNotV_ap, fIf_ap, fNil_ap, fCons_ap, fTup_ap, fLst_ap, fLstC_ap, fNoPart_ap, fPart_ap, fSl_ap, fNeg_ap, fCB_ap, fIsi_ap, fIsi2_ap, fNext_ap, fSeq_ap, fRet_ap, fRetF_ap, fgName_ap, fgNil_ap, fgCons_ap, fgTup_ap, fgSub_ap, fAsg_ap, fPar_ap, fPar3_ap, fDrop_ap, fApp_ap, fIfS_ap, fiSeq_ap, fiTup_ap, fiEnum_ap, fYes_ap, fCall_ap, fCall0_ap, fChain_ap, fBits_ap, fAddC_ap, fiAny_ap, Res.bind_ok, asB_ok, okO_some, bodyD, asB, iterOf, withLock_none, noErr_ok, wipeE, List.map_cons, List.map_nil, List.length_cons, List.length_nil, List.cons_append, List.nil_append, List.getElem?_cons_zero, List.getElem?_cons_succ, List.set_cons_zero, List.set_cons_succ, if_true, Bool.false_eq_true, if_false, Nat.reduceAdd, Nat.reduceSub, Nat.zero_add, List.replicate, tyD, atI_0, atI_1, lenD_lst, lenD_tup, ixD_tup, ixD_lst, eqD_int, eqD_str, neD_int, neD_str, leD_int, ltD_int, gtD_int, geD_int, addD_int, subD_int, intD_int, px0, px1, px2, ps0, ps2, List.length_append, capN, Nat.zero_le, Nat.reduceLeDiff, Nat.reduceEqDiff, Nat.reduceLT, Bool.not_true, Bool.not_false, Bool.true_and, Bool.false_and, b__law_cell, l0, c0, s1, s2, s3]
    | cons i r =>
      refine ⟨i % 1000003, ends _ ?_⟩
      have s1 : slD (.kls (.int i :: r.map .int)) none (some 1) S = some (.lst [.int i]) := by
        show some (D.lst _) = _
        unfold DL.cutD
        have e1 : HT.sIx (D.int i :: r.map D.int).length 0 none = 0 := rfl
        have e2 : HT.sIx (D.int i :: r.map D.int).length (D.int i :: r.map D.int).length (some 1) = 1 := by
          unfold HT.sIx
          simp
        rw [e1, e2]
        rfl
      have s2 : sumT [.lst [.int i]] S = some (.int i) := by
        have : sumT [.lst [.int i]] S = some (.int (i + 0)) ∨ sumT [.lst [.int i]] S = some (.int (0 + i)) := by first | exact .inl rfl | exact .inr rfl
        rcases this with h | h <;> rw [h] <;> simp
      have s3 : modD (.int i) (.int 1000003) S = some (.int (i % 1000003)) := modD_int (by decide)
      have c0 : decide ((j : Int) < ((r.length + 1 : Nat) : Int)) = false := decide_eq_false c
      have lenE : lenD [.kls (.int i :: r.map .int)] S = some (.int ((r.length + 1 : Nat) : Int)) := lenE
      rw [List.map_cons]
      simp only [fC_ap, fVar_ap, fOp_ap, fB_ap, fAnd_ap, fOr_ap, fNot_ap, fAndV_ap, fOrV_ap, fNotV_ap, fIf_ap, fNil_ap, fCons_ap, fTup_ap, fLst_ap, fLstC_ap, fNoPart_ap, fPart_ap, fSl_ap, fNeg_ap, fCB_ap, fIsi_ap, fIsi2_ap, fNext_ap, fSeq_ap, fRet_ap, fRetF_ap, fgName_ap, fgNil_ap, fgCons_ap, fgTup_ap, fgSub_ap, fAsg_ap, fPar_ap, fPar3_ap, fDrop_ap, fApp_ap, fIfS_ap, fiSeq_ap, fiTup_ap, fiEnum_ap, fYes_ap, fCall_ap, fCall0_ap, fChain_ap, fBits_ap, fAddC_ap, fiAny_ap, Res.bind_ok, asB_ok, okO_some, bodyD, asB, iterOf, withLock_none, noErr_ok, wipeE, List.map_cons, List.map_nil, List.length_cons, List.length_nil, List.cons_append, List.nil_append, List.getElem?_cons_zero, List.getElem?_cons_succ, List.set_cons_zero, List.set_cons_succ, if_true, Bool.false_eq_true, if_false, Nat.reduceAdd, Nat.reduceSub, Nat.zero_add, List.replicate, tyD, atI_0, atI_1, lenD_lst, lenD_tup, ixD_tup, ixD_lst, eqD_int, eqD_str, neD_int, neD_str, leD_int, ltD_int, gtD_int, geD_int, addD_int, subD_int, intD_int, px0, px1, px2, ps0, ps2, List.length_append, capN, Nat.zero_le, Nat.reduceLeDiff, Nat.reduceEqDiff, Nat.reduceLT, Bool.not_true, Bool.not_false, Bool.true_and, Bool.false_and, b__law_cell, lenE, c0, s1, s2, s3]
theorem generator_ok {S : Sto} (hS : S.all (lowC S.length) = true) {ns : List Int} {j : Nat} (hj : j ≤ 1000) : ∃ x, g__law_generator [.kls (ns.map .int), .int j] S = .ok (.cel S.length) (S ++ [x]) ∧ Gn (1000 * j) x := by
  obtain ⟨v, e⟩ := cell_ok hS (ns := ns) hj
  have p1 : powD (.int 10) (.int 18) S = some (.int (10 ^ (18 : Int).toNat)) := powD_int (by decide +kernel)
  have p2 : powD (.int 10) (.int 60) S = some (.int (10 ^ (60 : Int).toNat)) := powD_int (by decide +kernel)
  have p3 : powD (.int (10 ^ (60 : Int).toNat)) (.int 10) S = some (.int ((10 ^ (60 : Int).toNat) ^ (10 : Int).toNat)) := powD_int (by decide +kernel)
  have pp : (0 : Int) < (10 ^ (60 : Int).toNat) ^ (10 : Int).toNat := by decide +kernel
  generalize (10 : Int) ^ (18 : Int).toNat = q1 at *
  generalize ((10 : Int) ^ (60 : Int).toNat) ^ (10 : Int).toNat = q3 at *
  generalize (10 : Int) ^ (60 : Int).toNat = q2 at *
  obtain ⟨m, em⟩ : ∃ m, maxT [.int (v - q1), .int 0] S = some (.int m) := ⟨_, rfl⟩
  have m1 : modD (.int m) (.int q3) S = some (.int (m % q3)) := modD_int pp
  have m2 : modD (.int v) (.int 2147483647) S = some (.int (v % 2147483647)) := modD_int (by decide)
  have m3 : mulD (.int 1000) (.int j) S = some (.int (1000 * j)) := mulD_int (mulOk_l (by decide))
  refine ⟨gen (m % q3) (v % 2147483647) (1000 * j), ?_, _, _, _, rfl, Int.emod_nonneg _ (by omega), Int.emod_nonneg _ (by decide), Int.emod_lt_of_pos _ (by decide), by omega, by omega⟩
  show bodyD N__law_generator 2 (b__law_generator g__law_cell) [.kls (ns.map .int), .int j] S = _
  simp only [fC_ap, fVar_ap, fOp_ap, fB_ap, fAnd_ap, fOr_ap, fNot_ap, fAndV_ap, fOrV_ap, fNotV_ap, fIf_ap, fNil_ap, fCons_ap, fTup_ap, fLst_ap, fLstC_ap, fNoPart_ap, fPart_ap, fSl_ap, fNeg_ap, fCB_ap, fIsi_ap, fIsi2_ap, fNext_ap, fSeq_ap, fRet_ap, fRetF_ap, fgName_ap, fgNil_ap, fgCons_ap, fgTup_ap, fgSub_ap, fAsg_ap, fPar_ap, fPar3_ap, fDrop_ap, fApp_ap, fIfS_ap, fiSeq_ap, fiTup_ap, fiEnum_ap, fYes_ap, fCall_ap, fCall0_ap, fChain_ap, fBits_ap, fAddC_ap, fiAny_ap, Res.bind_ok, asB_ok, okO_some, bodyD, asB, iterOf, withLock_none, noErr_ok, wipeE, List.map_cons, List.map_nil, List.length_cons, List.length_nil, List.cons_append, List.nil_append, List.getElem?_cons_zero, List.getElem?_cons_succ, List.set_cons_zero, List.set_cons_succ, if_true, Bool.false_eq_true, if_false, Nat.reduceAdd, Nat.reduceSub, Nat.zero_add, List.replicate, tyD, atI_0, atI_1, lenD_lst, lenD_tup, ixD_tup, ixD_lst, eqD_int, eqD_str, neD_int, neD_str, leD_int, ltD_int, gtD_int, geD_int, addD_int, subD_int, intD_int, px0, px1, px2, ps0, ps2, List.length_append, capN, Nat.zero_le, Nat.reduceLeDiff, Nat.reduceEqDiff, Nat.reduceLT, Bool.not_true, Bool.not_false, Bool.true_and, Bool.false_and, b__law_generator, e, p1, p2, p3, em, m1, m2, m3, gen]
end Cm
set_option maxHeartbeats 2000000
namespace Cm
open PySem PySem.Spec PyProof.Rows L2 DL
variable {P : Sto}
def wordsR : List Str := ["race", "rally", "hand", "on", "turns", "winner", "loser", "row"]
mutual
def tiny : D → Bool
  | .non => true
  | .bl _ => true
  | .int i => decide (0 ≤ i) && decide (i < 64)
  | .str x => wordsR.contains x
  | .lst xs => tinys xs
  | .tup xs => tinys xs
  | _ => false
def tinys : List D → Bool
  | [] => true
  | d :: ds => tiny d && tinys ds
end
mutual
def bnd : D → Nat
  | .lst xs => bnds xs + 4
  | .tup xs => bnds xs + 4
  | _ => 8
def bnds : List D → Nat
  | [] => 0
  | d :: ds => bnd d + 2 + bnds ds
end
structure Dr (k : Nat) (d : D) : Prop where
  rule : isRuleN k d = true
  fit_ : fit d (3 * k + 2) = true
  tiny_ : tiny d = true
  bnd_ : bnd d ≤ 200 * 4 ^ k
structure Or (d : D) : Prop where
  ord : isOrder d = true
  fit_ : fit d 2 = true
  tiny_ : tiny d = true
  bnd_ : bnd d ≤ 60
end Cm
set_option maxHeartbeats 2000000
namespace Cm
open PySem PySem.Spec PyProof.Rows L2 DL
variable {P : Sto}
def sc (k : Int × Int) : D := .tup [.int k.1, .int k.2]
def scP (k : Int × Int) : PyData := .tuple [.int k.1, .int k.2]
def spQ (q : (Int × Int) × D) : D := .tup [sc q.1, q.2]
theorem scP_eqv (k m : Int × Int) : PyData.eqv (scP k) (scP m) = decide (k = m) := by
  obtain ⟨a, b⟩ := k
  obtain ⟨c, d⟩ := m
  simp only [scP, PyData.eqv, PyData.eqvAll, Bool.and_true]
  by_cases e1 : a = c <;> by_cases e2 : b = d <;> simp [e1, e2]
def Dn : Nat → Nat
  | 0 => 2
  | k + 1 => 3 * Dn k + 30
structure Spq (k : Nat) (need : Int) (qs : List ((Int × Int) × D)) : Prop where
  nd : (qs.map (·.1)).Nodup
  at_ : ∀ q ∈ qs, 0 ≤ q.1.1 ∧ q.1.1 ≤ need ∧ 0 ≤ q.1.2 ∧ q.1.2 ≤ need ∧ Dr k q.2
theorem Spq.free {k : Nat} {need : Int} : ∀ {qs : List ((Int × Int) × D)}, Spq k need qs → noCels (qs.map spQ) = true
  | [], _ => rfl
  | q :: qs, h => by
    have i := Spq.free (qs := qs) ⟨(List.nodup_cons.mp (by simpa using h.nd)).2, fun r m => h.at_ r (List.mem_cons_of_mem _ m)⟩
    have f := fit_nc (h.at_ q List.mem_cons_self).2.2.2.2.fit_
    simp only [List.map_cons, noCels, i, Bool.and_true, spQ, sc, noCel, f]
end Cm
set_option maxHeartbeats 2000000
namespace Cm
open PySem PySem.Spec PyProof.Rows L2 DL
variable {P : Sto}
theorem race_up {r r' : D → Bool} (h : ∀ d, r d = true → r' d = true) : ∀ d, isRace r d = true → isRace r' d = true := fun d => by
  unfold isRace
  split
  · simp only [Bool.and_eq_true]
    rintro ⟨⟨h1, h2⟩, h3, h4⟩
    refine ⟨⟨h1, h2⟩, h _ h3, ?_⟩
    unfold isSpecs at *
    split at h4
    · simp only [Bool.and_eq_true, List.all_eq_true] at h4 ⊢
      refine ⟨⟨h4.1.1, fun x m => ?_⟩, h4.2⟩
      have := h4.1.2 x m
      unfold isSpec at *
      split at this
      · simp only [Bool.and_eq_true] at this ⊢
        exact ⟨this.1, h _ this.2⟩
      · cases this
    · cases h4
  · exact fun z => nomatch z
theorem rule_up : ∀ {k : Nat} {d : D}, isRuleN k d = true → isRuleN (k + 1) d = true := by
  intro k
  induction k with
  | zero =>
    intro d h
    simp only [isRuleN, Bool.or_eq_true] at h ⊢
    exact .inl h
  | succ k ih =>
    intro d h
    simp only [isRuleN, Bool.or_eq_true] at h ⊢
    rcases h with h | h
    · exact .inl h
    · exact .inr (race_up (fun d h => by simpa only [isRuleN, Bool.or_eq_true] using ih h) d h)
theorem Dr.up {k : Nat} {d : D} (h : Dr k d) : Dr (k + 1) d :=
  ⟨rule_up h.rule, fit_up (by omega) h.fit_, h.tiny_, by have := h.bnd_; rw [Nat.pow_succ]; omega⟩
theorem Dr.zero_le {k : Nat} {d : D} (h : Dr 0 d) : Dr k d := by
  induction k with
  | zero => exact h
  | succ k ih => exact ih.up
end Cm
local macro_rules | `(tactic| simp_all! only [$ts,*]) => `(tactic| simp only [DL.fC_ap, DL.fVar_ap, DL.fOp_ap, DL.fB_ap, DL.fAnd_ap, DL.fOr_ap, DL.fNot_ap, DL.fAndV_ap, DL.fOrV_ap, DL.fNotV_ap, DL.fIf_ap, DL.fNil_ap, DL.fCons_ap, DL.fTup_ap, DL.fLst_ap, DL.fLstC_ap, DL.fNoPart_ap, DL.fPart_ap, DL.fSl_ap, DL.fNeg_ap, DL.fCB_ap, DL.fIsi_ap, DL.fIsi2_ap, DL.fNext_ap, DL.fSeq_ap, DL.fRet_ap, DL.fRetF_ap, DL.fgName_ap, DL.fgNil_ap, DL.fgCons_ap, DL.fgTup_ap, DL.fgSub_ap, DL.fAsg_ap, DL.fPar_ap, DL.fPar3_ap, DL.fDrop_ap, DL.fApp_ap, DL.fIfS_ap, DL.fiSeq_ap, DL.fiTup_ap, DL.fiEnum_ap, DL.fYes_ap, DL.fCall_ap, DL.fCall0_ap, DL.fChain_ap, DL.fBits_ap, DL.fAddC_ap, DL.fiAny_ap, DL.Res.bind_ok, DL.asB_ok, DL.okO_some, DL.bodyD, DL.asB, DL.iterOf, DL.withLock_none, DL.noErr_ok, DL.wipeE, List.map_cons, List.map_nil, List.length_cons, List.length_nil, List.cons_append, List.nil_append, List.getElem?_cons_zero, List.getElem?_cons_succ, List.set_cons_zero, List.set_cons_succ, if_true, Bool.false_eq_true, if_false, Nat.reduceAdd, Nat.reduceSub, Nat.zero_add, List.replicate, DL.tyD, DL.atI_0, DL.atI_1, DL.lenD_lst, DL.lenD_tup, DL.ixD_tup, DL.ixD_lst, DL.eqD_int, DL.eqD_str, DL.neD_int, DL.neD_str, DL.leD_int, DL.ltD_int, DL.gtD_int, DL.geD_int, DL.addD_int, DL.subD_int, DL.intD_int, Cm.px0, Cm.px1, Cm.px2, Cm.ps0, Cm.ps2, List.length_append, decide_true, decide_false, DL.capN, Nat.zero_le, Nat.reduceLeDiff, Nat.reduceEqDiff, Nat.reduceLT, Bool.not_true, Bool.not_false, Bool.true_and, Bool.false_and, $ts,*])
local macro_rules | `(tactic| simp! only [$ts,*]) => `(tactic| simp only [DL.fC_ap, DL.fVar_ap, DL.fOp_ap, DL.fB_ap, DL.fAnd_ap, DL.fOr_ap, DL.fNot_ap, DL.fAndV_ap, DL.fOrV_ap, DL.fNotV_ap, DL.fIf_ap, DL.fNil_ap, DL.fCons_ap, DL.fTup_ap, DL.fLst_ap, DL.fLstC_ap, DL.fNoPart_ap, DL.fPart_ap, DL.fSl_ap, DL.fNeg_ap, DL.fCB_ap, DL.fIsi_ap, DL.fIsi2_ap, DL.fNext_ap, DL.fSeq_ap, DL.fRet_ap, DL.fRetF_ap, DL.fgName_ap, DL.fgNil_ap, DL.fgCons_ap, DL.fgTup_ap, DL.fgSub_ap, DL.fAsg_ap, DL.fPar_ap, DL.fPar3_ap, DL.fDrop_ap, DL.fApp_ap, DL.fIfS_ap, DL.fiSeq_ap, DL.fiTup_ap, DL.fiEnum_ap, DL.fYes_ap, DL.fCall_ap, DL.fCall0_ap, DL.fChain_ap, DL.fBits_ap, DL.fAddC_ap, DL.fiAny_ap, DL.Res.bind_ok, DL.asB_ok, DL.okO_some, DL.bodyD, DL.asB, DL.iterOf, DL.withLock_none, DL.noErr_ok, DL.wipeE, List.map_cons, List.map_nil, List.length_cons, List.length_nil, List.cons_append, List.nil_append, List.getElem?_cons_zero, List.getElem?_cons_succ, List.set_cons_zero, List.set_cons_succ, if_true, Bool.false_eq_true, if_false, Nat.reduceAdd, Nat.reduceSub, Nat.zero_add, List.replicate, DL.tyD, DL.atI_0, DL.atI_1, DL.lenD_lst, DL.lenD_tup, DL.ixD_tup, DL.ixD_lst, DL.eqD_int, DL.eqD_str, DL.neD_int, DL.neD_str, DL.leD_int, DL.ltD_int, DL.gtD_int, DL.geD_int, DL.addD_int, DL.subD_int, DL.intD_int, Cm.px0, Cm.px1, Cm.px2, Cm.ps0, Cm.ps2, decide_true, decide_false, DL.capN, Nat.zero_le, Nat.reduceLeDiff, Nat.reduceEqDiff, Nat.reduceLT, Bool.not_true, Bool.not_false, Bool.true_and, Bool.false_and, $ts,*])
set_option maxHeartbeats 4000000
namespace Cm
open PySem PySem.Spec PyProof.Rows L2 DL
theorem bind_err {α β : Type} {c : Str} {d : D} {S : Sto} {f : α → Sto → Res β} : Res.bind (.err c d S) f = .err c d S := rfl
theorem fRaise_ap {c : Str} {f : FE} {ρ : DL.Env} {S : Sto} : fRaise c f ρ S = ((f ρ S).bind fun d S1 => .err c d S1) := rfl
theorem bodyT_errL {N : List Str} {n : Nat} {f : FS} {ds : List D} {S : Sto} {c : Str} {d : D} (h : bodyD N n f ds S = .err c d S) (hS : S.all (lowC S.length) = true) (hd : noCel d = true) : bodyT N n f ds S = .err c d S :=
  bodyT_err [] (by rw [List.append_nil]; exact h) rfl hS (noCel_low hd)
section
variable {S : Sto} (hS : S.all (lowC S.length) = true)
include hS
theorem check_ok {d : D} {n : Nat} (h : fit d n = true) (hn : n ≤ 60) : g_check_rule [d] S = if isRuleN 4 d = true then .ok .non S else .err "InvalidRule" d S := by
  have e := is_rule_ok hS h hn
  by_cases c : isRuleN 4 d = true
  · rw [if_pos c]
    rw [c] at e
    refine bodyT_okL ?_ hS rfl
    simp_all! only [b_check_rule, e]
  · rw [if_neg c]
    have c2 : isRuleN 4 d = false := by simpa using c
    rw [c2] at e
    refine bodyT_errL ?_ hS (fit_nc h)
    simp_all! only [b_check_rule, e, fRaise_ap, bind_err]
theorem side_ok {d : D} {n : Nat} (h : fit d n = true) : g_check_side [d] S = if isBtw 0 1 d = true then .ok .non S else .err "InvalidSide" d S := by
  have e := is_side_ok hS h
  by_cases c : isBtw 0 1 d = true
  · rw [if_pos c]
    rw [c] at e
    refine bodyT_okL ?_ hS rfl
    simp_all! only [b_check_side, e]
  · rw [if_neg c]
    have c2 : isBtw 0 1 d = false := by simpa using c
    rw [c2] at e
    refine bodyT_errL ?_ hS (fit_nc h)
    simp_all! only [b_check_side, e, fRaise_ap, bind_err]
def areR : D → Bool
  | .lst xs => xs.all (isBtw 0 1)
  | _ => false
theorem are_ok {d : D} {n : Nat} (h : fit d n = true) (hn : n ≤ 60) (hl : ∀ xs, d = .lst xs → xs.length ≤ 1000) : g_are_rallies [d] S = .ok (.bl (areR d)) S := by
  refine bodyT_okL ?_ hS rfl
  have q1 : isiB "list" "list" = true := by decide
  have q2 : isiB "tuple" "list" = false := by decide
  have q3 : isiB "int" "list" = false := by decide
  have q4 : isiB "str" "list" = false := by decide
  have q5 : isiB "bool" "list" = false := by decide
  have q6 : isiB "NoneType" "list" = false := by decide
  cases d with
  | lst xs =>
    have hl := hl xs rfl
    cases n with
    | zero => simp [fit] at h
    | succ n =>
      simp only [fit] at h
      have l1 := fLc_pure (vs := [1]) (fi := fiAny (fVar 0)) (g := fgName 1) (c := fNot (fB (fCall 1 g_is_side (fCons (fVar 1) fNil)))) (el := fVar 1) (ρ := [some (.lst xs), none]) (S := S) (xs := xs)
        (fun m => !isBtw 0 1 m) id (by simp_all! only []) (capN_of (by omega)) (fun m hm => by
          have e := is_side_ok hS (fits_mem h hm)
          refine ⟨[some (.lst xs), some m], rfl, ?_, fun _ => rfl⟩
          simp_all! only [e])
      rw [List.map_id] at l1
      have l2 := eqD_nil (S := S) (fits_filter (fun m => !isBtw 0 1 m) h) (by omega)
      rw [isEmpty_filter] at l2
      simp only [Bool.not_not] at l2
      simp_all! only [b_are_rallies, q1, l1, l2]
      rfl
  | tup xs => simp_all! only [b_are_rallies, q2]; rfl
  | int i => simp_all! only [b_are_rallies, q3]; rfl
  | str x => simp_all! only [b_are_rallies, q4]; rfl
  | bl b => simp_all! only [b_are_rallies, q5]; rfl
  | non => simp_all! only [b_are_rallies, q6]; rfl
  | _ => exfalso; cases n <;> simp [fit] at h
theorem rallies_good {d : D} {n : Nat} (h : fit d n = true) (hn : n ≤ 60) (hl : ∀ xs, d = .lst xs → xs.length ≤ 1000) (b : areR d = true) : g_check_rallies [d] S = .ok .non S := by
  have e := are_ok hS h hn hl
  rw [b] at e
  refine bodyT_okL ?_ hS rfl
  simp_all! only [b_check_rallies, e]
theorem match_good {r d l : D} {n m o : Nat} (h : fit r n = true) (hn : n ≤ 60) (b : isRuleN 4 r = true) (hd : fit d m = true) (bd : isBtw 0 1 d = true) (hl : fit l o = true) (ho : o ≤ 60) (ll : ∀ xs, l = .lst xs → xs.length ≤ 1000) (bl : areR l = true) : g_check_match [r, d, l] S = .ok .non S := by
  have e := check_ok hS h hn
  rw [b, if_pos rfl] at e
  have e2 := side_ok hS hd
  rw [bd, if_pos rfl] at e2
  have e3 := rallies_good hS hl ho ll bl
  refine bodyT_okL ?_ hS rfl
  simp_all! only [b_check_match, e, e2, e3]
end
def roEl (g__law_random : GF) : FE := (fIf (fB (fOp eqD (fCall 2 g__law_random (fCons (fVar 0) (fCons (fC (.int 2)) fNil))) (fC (.int 0)))) (fCB intD (fCons (fOp eqD (fCall 2 g__law_random (fCons (fVar 0) (fCons (fOp addD (fVar 2) (fC (.int 1))) fNil))) (fC (.int 0))) fNil)) (fCall 2 g__law_random (fCons (fVar 0) (fCons (fC (.int 2)) fNil))))
theorem draws_ok {P L : Sto} {many : Nat} {lean : Int} (l1 : 1 ≤ lean) (l2 : lean ≤ 9) (hL : Lo P L) : ∀ (ds : List D) {n : Nat} {x : CO}, Gn n x → n + 2 * ds.length ≤ 1000000000 →
    ∃ y ys, compD (fgName 3) fYes (roEl g__law_random) ds [some (.cel P.length), some (.int many), some (.int lean), none] (P ++ x :: L) = .ok ys (P ++ y :: L) ∧ Gn (n + 2 * ds.length) y ∧ ys.length = ds.length ∧ ∀ v ∈ ys, v = .int 0 ∨ v = .int 1
  | [], n, x, G, _ => ⟨x, [], rfl, G, rfl, fun _ h => by cases h⟩
  | d :: ds, n, x, G, hn => by
    rw [List.length_cons] at hn
    obtain ⟨y, u, e, G2, u1, u2⟩ := random_ok G (by omega) hL (bd := 2) (by decide) (by decide)
    obtain ⟨z, v, e2, G3, hv⟩ : ∃ z v, roEl g__law_random [some (.cel P.length), some (.int many), some (.int lean), some d] (P ++ x :: L) = .ok v (P ++ z :: L) ∧ Gn (n + 2) z ∧ (v = .int 0 ∨ v = .int 1) := by
      by_cases c : u = 0
      · have c' : decide (u = 0) = true := decide_eq_true c
        obtain ⟨z, w, e3, G3, w1, w2⟩ := random_ok G2 (by omega) hL (bd := lean + 1) (by omega) (by omega)
        have i1 : ∀ (b : Bool) (S : Sto), intD [.bl b] S = some (.int (if b then 1 else 0)) := fun _ _ => rfl
        refine ⟨z, .int (if decide (w = 0) then 1 else 0), ?_, G3, ?_⟩
        · simp_all! only [roEl, e, c', e3, i1]
        · by_cases q : w = 0 <;> simp [q]
      · have c' : decide (u = 0) = false := decide_eq_false c
        obtain ⟨z, w, e3, G3, w1, w2⟩ := random_ok G2 (by omega) hL (bd := 2) (by decide) (by decide)
        refine ⟨z, .int w, ?_, G3, ?_⟩
        · simp_all! only [roEl, e, c', e3]
        · have : w = 0 ∨ w = 1 := by omega
          rcases this with rfl | rfl
          · exact .inl rfl
          · exact .inr rfl
    obtain ⟨y2, ys, e4, G4, l, m⟩ := draws_ok (many := many) l1 l2 hL ds G3 (by omega)
    refine ⟨y2, v :: ys, ?_, by rw [List.length_cons]; exact G4.up (by omega), by rw [List.length_cons, List.length_cons, l], fun w hw => ?_⟩
    · unfold compD
      have g1 : fgName 3 d [some (.cel P.length), some (.int many), some (.int lean), none] (P ++ x :: L) = .ok [some (.cel P.length), some (.int many), some (.int lean), some d] (P ++ x :: L) := rfl
      simp only [g1, Res.bind_ok, fYes_ap, if_true, e2, e4]
    · rcases List.mem_cons.mp hw with rfl | hw
      · exact hv
      · exact m w hw
theorem drawn_ok {P L : Sto} {many : Nat} (hm : many ≤ 1000) {n : Nat} {x : CO} (G : Gn n x) (hn : n + (2 * many + 1) ≤ 1000000000) (hL : Lo P L) :
    ∃ y ys, g__law_rallies [.cel P.length, .int many] (P ++ x :: L) = .ok (.lst ys) (P ++ y :: L) ∧ Gn (n + (2 * many + 1)) y ∧ ys.length = many ∧ ∀ v ∈ ys, v = .int 0 ∨ v = .int 1 := by
  obtain ⟨z, q, e, G2, mq⟩ := pick_ok G (by omega) hL (xs := [.int 1, .int 2, .int 2, .int 3, .int 5, .int 9]) (by decide) (by decide) rfl
  obtain ⟨lean, rfl, l1, l2⟩ : ∃ j : Int, q = .int j ∧ 1 ≤ j ∧ j ≤ 9 := by
    simp only [List.mem_cons, List.not_mem_nil, or_false] at mq
    rcases mq with rfl | rfl | rfl | rfl | rfl | rfl <;> exact ⟨_, rfl, by decide, by decide⟩
  have lr : (rangeD 0 many).length = many := rangeD_len
  obtain ⟨u, ys, e3, G4, l, m⟩ := draws_ok (many := many) l1 l2 hL (rangeD 0 many) G2 (by omega)
  rw [lr] at l G4
  refine ⟨u, ys, ?_, G4.up (by omega), l, m⟩
  have nc : noCel (.lst ys) = true := by
    have f : fits ys 0 = true := by
      rw [fits_all, List.all_eq_true]
      intro v hv
      rcases m v hv with rfl | rfl <;> rfl
    exact fit_nc (n := 1) (show fits ys 0 = true from f)
  refine bodyT_lo (E := []) G4 hL nc ?_
  have it := fiRng1_nat (f := fCons (fVar 1) fNil) (ρ := [some (.cel P.length), some (.int many), some (.int lean), none]) (S := P ++ z :: L) (S1 := P ++ z :: L) (j := many) rfl (by omega)
  have lc := fLc_st (vs := [3]) (c := fYes) it (capN_of (by rw [lr]; omega)) e3
  unfold roEl at lc
  simp_all! only [b__law_rallies, e, lc, List.append_nil]
end Cm
namespace PL
inductive Ord where
  | on | turns | winner | loser
  | row (m : List Bool)
inductive Rule where
  | rally | hand
  | race (need lead : Int) (cap : Option Int) (o : Ord) (u : Rule) (sp : List ((Int × Int) × Rule))
inductive St where
  | leaf (s : Bool)
  | node (x y : Int) (f t : Bool) (i : St)
def pickSp : List ((Int × Int) × Rule) → Int → Int → Rule → Rule
  | [], _, _, u => u
  | p :: t, x, y, u => if p.1.1 = x ∧ p.1.2 = y then p.2 else pickSp t x y u
mutual
def Rule.depth : Rule → Nat
  | .rally => 0
  | .hand => 0
  | .race _ _ _ _ u sp => max u.depth (depths sp) + 1
def depths : List ((Int × Int) × Rule) → Nat
  | [] => 0
  | p :: t => max p.2.depth (depths t)
end
def ordOk : Ord → Prop
  | .row m => m ≠ []
  | _ => True
mutual
def Rule.ok : Rule → Prop
  | .rally => True
  | .hand => True
  | .race need lead cap o u sp => 1 ≤ need ∧ 1 ≤ lead ∧ (∀ c, cap = some c → need ≤ c) ∧ ordOk o ∧ u.ok ∧ oks sp
def oks : List ((Int × Int) × Rule) → Prop
  | [] => True
  | p :: t => p.2.ok ∧ oks t
end
theorem pick_depth {u : Rule} {x y : Int} {n : Nat} : ∀ {sp : List ((Int × Int) × Rule)}, u.depth ≤ n → depths sp ≤ n → (pickSp sp x y u).depth ≤ n
  | [], h, _ => h
  | p :: t, h, k => by
    unfold depths at k
    unfold pickSp
    split
    · omega
    · exact pick_depth h (by omega)
theorem pick_ok {u : Rule} {x y : Int} : ∀ {sp : List ((Int × Int) × Rule)}, u.ok → oks sp → (pickSp sp x y u).ok
  | [], h, _ => h
  | p :: t, h, k => by
    unfold oks at k
    unfold pickSp
    split
    · exact k.1
    · exact pick_ok h k.2
mutual
def Rule.few : Rule → Prop
  | .rally => True
  | .hand => True
  | .race _ _ _ _ u sp => sp.length ≤ 8 ∧ u.few ∧ fews sp
def fews : List ((Int × Int) × Rule) → Prop
  | [] => True
  | p :: t => p.2.few ∧ fews t
end
def b2i (b : Bool) : Int := if b then 1 else 0
@[simp] theorem b2i_t : b2i true = 1 := rfl
@[simp] theorem b2i_f : b2i false = 0 := rfl
def firstTurn : Ord → Bool → Bool
  | .row (true :: _), s => !s
  | _, s => s
def isWon (need lead : Int) (cap : Option Int) (x y : Int) : Bool :=
  (match cap with
  | some c => decide (c ≤ max x y)
  | none => false) || (decide (need ≤ max x y) && decide (lead ≤ (x - y).natAbs))
def nextTurn (o : Ord) (f t : Bool) (x y : Int) (w h : Bool) : Bool := match o with
  | .on => h
  | .turns => !t
  | .winner => w
  | .loser => !w
  | .row m => if m.getD ((x + y) % m.length).toNat false = false then f else !f
def begun : Nat → Rule → Bool → St
  | n + 1, .race _ _ _ o u sp, s => .node 0 0 s (firstTurn o s) (begun n (pickSp sp 0 0 u) (firstTurn o s))
  | _, _, s => .leaf s
inductive LR where
  | on (s : St)
  | over (w h : Bool)
def upX (x : Int) (w : Bool) : Int := x + 1 - b2i w
def upY (y : Int) (w : Bool) : Int := y + b2i w
def winOf (x y : Int) : Bool := if y < x then false else true
def led : Nat → Rule → St → Bool → LR
  | n + 1, .race need lead cap o u sp, .node x y f t i, b => match led n (pickSp sp x y u) i b with
    | .on j => .on (.node x y f t j)
    | .over w h => if isWon need lead cap (upX x w) (upY y w) then .over (winOf (upX x w) (upY y w)) (nextTurn o f t (upX x w) (upY y w) w h)
      else .on (.node (upX x w) (upY y w) f (nextTurn o f t (upX x w) (upY y w) w h) (begun n (pickSp sp (upX x w) (upY y w) u) (nextTurn o f t (upX x w) (upY y w) w h)))
  | _, .hand, .leaf s, b => if b = s then .over b s else .on (.leaf b)
  | _, .rally, .leaf s, b => .over b s
  | _, _, s, _ => .on s
def serverIn : St → Bool
  | .leaf s => s
  | .node _ _ _ _ i => serverIn i
def scoresIn : St → List (Int × Int)
  | .leaf _ => []
  | .node x y _ _ i => (x, y) :: scoresIn i
def ending : Nat → Rule → St → Bool → List Bool
  | n + 1, .race need lead cap o u sp, .node x y f t i, b => ending n (pickSp sp x y u) i b ++ match led n (pickSp sp x y u) i b with
    | .on _ => []
    | .over w _ => if isWon need lead cap (upX x w) (upY y w) then [winOf (upX x w) (upY y w)] else []
  | _, .hand, .leaf s, b => if b = s then [b] else []
  | _, .rally, .leaf _, b => [b]
  | _, _, _, _ => []
def lastScore : Nat → Rule → St → Bool → Option (Int × Int)
  | n + 1, .race _ _ _ _ u sp, .node x y _ _ i, b => match led n (pickSp sp x y u) i b with
    | .on _ => none
    | .over w _ => some (upX x w, upY y w)
  | _, _, _, _ => none
inductive RR where
  | on (s : St)
  | over (w h : Bool) (k : Nat) (prev : St) (b : Bool)
def RR.bump : RR → RR
  | .on s => .on s
  | .over w h k p b => .over w h (k + 1) p b
def run (n : Nat) (R : Rule) : St → List Bool → RR
  | s, [] => .on s
  | s, b :: bs => match led n R s b with
    | .on s2 => (run n R s2 bs).bump
    | .over w h => .over w h 1 s b
def trace (n : Nat) (R : Rule) : St → List Bool → List (Bool × List Bool)
  | _, [] => []
  | s, b :: bs => (serverIn s, ending n R s b) :: match led n R s b with
    | .on s2 => trace n R s2 bs
    | .over _ _ => []
def wf : Nat → Rule → St → Prop
  | n + 1, .race need lead cap _ u sp, .node x y _ _ i => 0 ≤ x ∧ 0 ≤ y ∧ isWon need lead cap x y = false ∧ wf n (pickSp sp x y u) i
  | _, .rally, .leaf _ => True
  | _, .hand, .leaf _ => True
  | _, _, _ => False
theorem begun_wf : ∀ (n : Nat) {R : Rule} (s : Bool), R.depth ≤ n → R.ok → wf n R (begun n R s)
  | 0, .rally, _, _, _ => trivial
  | 0, .hand, _, _, _ => trivial
  | 0, .race .., _, h, _ => by simp [Rule.depth] at h
  | n + 1, .rally, _, _, _ => trivial
  | n + 1, .hand, _, _, _ => trivial
  | n + 1, .race need lead cap o u sp, s, h, k => by
    simp only [Rule.depth] at h
    simp only [Rule.ok] at k
    obtain ⟨k1, k2, k3, _, k4, k5⟩ := k
    refine ⟨Int.le_refl _, Int.le_refl _, ?_, begun_wf n _ (pick_depth (by omega) (by omega)) (pick_ok k4 k5)⟩
    unfold isWon
    cases cap with
    | none => simp; omega
    | some c => have := k3 c rfl; simp; omega
theorem led_wf : ∀ (n : Nat) {R : Rule} {s s2 : St} {b : Bool}, R.depth ≤ n → R.ok → wf n R s → led n R s b = .on s2 → wf n R s2
  | 0, .rally, .leaf _, _, _, _, _, _, e => by simp [led] at e
  | n + 1, .rally, .leaf _, _, _, _, _, _, e => by simp [led] at e
  | 0, .hand, .leaf _, _, _, _, _, _, e => by
    simp only [led] at e
    split at e <;> cases e
    trivial
  | n + 1, .hand, .leaf _, _, _, _, _, _, e => by
    simp only [led] at e
    split at e <;> cases e
    trivial
  | 0, .race .., _, _, _, h, _, _, _ => by simp [Rule.depth] at h
  | 0, .rally, .node .., _, _, _, _, w, _ => w.elim
  | 0, .hand, .node .., _, _, _, _, w, _ => w.elim
  | n + 1, .rally, .node .., _, _, _, _, w, _ => w.elim
  | n + 1, .hand, .node .., _, _, _, _, w, _ => w.elim
  | n + 1, .race .., .leaf _, _, _, _, _, w, _ => w.elim
  | n + 1, .race need lead cap o u sp, .node x y f t i, s2, b, h, k, ⟨w1, w2, w3, w4⟩, e => by
    simp only [Rule.depth] at h
    simp only [Rule.ok] at k
    obtain ⟨k1, k2, k3, _, k4, k5⟩ := k
    have dp : ∀ x y, (pickSp sp x y u).depth ≤ n := fun x y => pick_depth (by omega) (by omega)
    simp only [led] at e
    split at e
    · rename_i j ej
      cases e
      exact ⟨w1, w2, w3, led_wf n (dp x y) (pick_ok k4 k5) w4 ej⟩
    · rename_i w hh ej
      split at e
      · cases e
      · rename_i hw
        cases e
        refine ⟨?_, ?_, by simpa using hw, begun_wf n _ (dp _ _) (pick_ok k4 k5)⟩
        · unfold upX; cases w <;> simp <;> omega
        · unfold upY; cases w <;> simp <;> omega
end PL
namespace PL
inductive UR where
  | op (s : Bool) (sc : List (Int × Int))
  | won (w h : Bool) (k : Nat)
def UR.bump (m : Nat) : UR → UR
  | .op s sc => .op s sc
  | .won w h k => .won w h (k + m)
def finS (n : Nat) (R : Rule) : RR → Option (Int × Int)
  | .over _ _ _ p b => lastScore n R p b
  | .on _ => none
theorem run_last {n : Nat} {need lead : Int} {cap : Option Int} {o : Ord} {u : Rule} {sp : List ((Int × Int) × Rule)} : ∀ {bs : List Bool} {s : St} {w h : Bool} {k : Nat} {p : St} {b : Bool}, run (n + 1) (.race need lead cap o u sp) s bs = .over w h k p b → finS (n + 1) (.race need lead cap o u sp) (.over w h k p b) ≠ none
  | [], s, _, _, _, _, _, e => nomatch e
  | b1 :: bs, s, w, h, k, p, b, e => by
    simp only [run] at e
    cases el : led (n + 1) (.race need lead cap o u sp) s b1 with
    | on s2 =>
      rw [el] at e
      simp only at e
      cases er : run (n + 1) (.race need lead cap o u sp) s2 bs with
      | on _ => rw [er] at e; cases e
      | over a1 a2 a3 a4 a5 =>
        rw [er] at e
        simp only [RR.bump] at e
        cases e
        exact run_last (bs := bs) (s := s2) (k := a3) er
    | over w2 h2 =>
      rw [el] at e
      cases e
      cases s with
      | leaf s => simp [led] at el
      | node x y f t i =>
        simp only [led] at el
        simp only [finS, lastScore]
        cases ei : led n (pickSp sp x y u) i b1 with
        | on _ => rw [ei] at el; cases el
        | over _ _ => simp
theorem run_split {n : Nat} {R : Rule} : ∀ {bs : List Bool} {s : St} {w h : Bool} {k : Nat} {p : St} {b : Bool}, run n R s bs = .over w h k p b → bs.length = k → run n R s bs.dropLast = .on p ∧ (∃ init, bs = init ++ [b]) ∧ led n R p b = .over w h
  | [], s, _, _, _, _, _, e, _ => nomatch e
  | b1 :: bs, s, w, h, k, p, b, e, l => by
    simp only [run] at e
    cases el : led n R s b1 with
    | on s2 =>
      rw [el] at e
      simp only at e
      cases er : run n R s2 bs with
      | on _ => rw [er] at e; cases e
      | over w3 h3 k3 p3 b3 =>
        rw [er] at e
        simp only [RR.bump] at e
        cases e
        obtain ⟨q1, ⟨init, q2⟩, q3⟩ := run_split er (by simpa using l)
        subst q2
        refine ⟨?_, ⟨b1 :: init, rfl⟩, q3⟩
        rw [show (b1 :: (init ++ [b])).dropLast = b1 :: (init ++ [b]).dropLast by cases init <;> rfl]
        simp only [run, el, q1, RR.bump]
    | over w2 h2 =>
      rw [el] at e
      cases e
      have : bs = [] := List.length_eq_zero_iff.mp (by simpa using l)
      subst this
      exact ⟨rfl, ⟨[], rfl⟩, el⟩
end PL
set_option maxHeartbeats 4000000
namespace Cm
open PySem PySem.Spec PyProof.Rows L2 DL
def sd (b : Bool) : D := .int (PL.b2i b)
def oD : PL.Ord → D
  | .on => .tup [.str "on"]
  | .turns => .tup [.str "turns"]
  | .winner => .tup [.str "winner"]
  | .loser => .tup [.str "loser"]
  | .row m => .tup [.str "row", .lst (m.map sd)]
def capD : Option Int → D
  | none => .non
  | some c => .int c
mutual
def rD : PL.Rule → D
  | .rally => .tup [.str "rally"]
  | .hand => .tup [.str "hand"]
  | .race need lead cap o u sp => .tup [.str "race", .int need, .int lead, capD cap, oD o, rD u, .lst (spD sp)]
def spD : List ((Int × Int) × PL.Rule) → List D
  | [] => []
  | p :: t => .tup [.tup [.int p.1.1, .int p.1.2], rD p.2] :: spD t
end
def stD : PL.St → D
  | .leaf s => .tup [sd s]
  | .node x y f t i => .tup [.int x, .int y, sd f, sd t, stD i]
def scD (p : Int × Int) : D := .tup [.int p.1, .int p.2]
def brD (bs : List Bool) : D := .lst (bs.map sd)
theorem at2 {α : Type} {a b c : α} {r : List α} : atI (a :: b :: c :: r) 2 = some c := atI_at (j := 2) rfl
theorem at3 {α : Type} {a b c d : α} {r : List α} : atI (a :: b :: c :: d :: r) 3 = some d := atI_at (j := 3) rfl
theorem at4 {α : Type} {a b c d e : α} {r : List α} : atI (a :: b :: c :: d :: e :: r) 4 = some e := atI_at (j := 4) rfl
theorem at5 {α : Type} {a b c d e f : α} {r : List α} : atI (a :: b :: c :: d :: e :: f :: r) 5 = some f := atI_at (j := 5) rfl
theorem at6 {α : Type} {a b c d e f g : α} {r : List α} : atI (a :: b :: c :: d :: e :: f :: g :: r) 6 = some g := atI_at (j := 6) rfl
theorem nc_sd (b : Bool) : noCel (sd b) = true := rfl
theorem nc_sds : ∀ bs : List Bool, noCels (bs.map sd) = true
  | [] => rfl
  | b :: bs => by simp only [List.map_cons, noCels, nc_sd, nc_sds bs, Bool.and_self]
theorem nc_oD (o : PL.Ord) : noCel (oD o) = true := by
  cases o with
  | row m => simp only [oD, noCel, noCels, nc_sds, Bool.and_self]
  | _ => rfl
theorem nc_capD (c : Option Int) : noCel (capD c) = true := by cases c <;> rfl
mutual
theorem nc_rD : ∀ R : PL.Rule, noCel (rD R) = true
  | .rally => rfl
  | .hand => rfl
  | .race need lead cap o u sp => by simp only [rD, noCel, noCels, nc_capD, nc_oD, nc_rD u, nc_spD sp, Bool.and_self]
theorem nc_spD : ∀ sp : List ((Int × Int) × PL.Rule), noCels (spD sp) = true
  | [] => rfl
  | p :: t => by simp only [spD, noCels, noCel, nc_rD p.2, nc_spD t, Bool.and_self]
end
theorem nc_stD : ∀ s : PL.St, noCel (stD s) = true
  | .leaf _ => rfl
  | .node x y f t i => by simp only [stD, noCel, noCels, nc_sd, nc_stD i, Bool.and_self]
theorem eq_sc {S : Sto} (a b c d : Int) : eqD (.tup [.int a, .int b]) (.tup [.int c, .int d]) S = some (.bl (decide (a = c ∧ b = d))) := by
  have e1 : toP S (.tup [.int a, .int b]) = some (scP (a, b)) := rfl
  have e2 : toP S (.tup [.int c, .int d]) = some (scP (c, d)) := rfl
  have sh : ∀ k : Int × Int, SeqAt.shaped (scP k) = true := fun k => by
    unfold SeqAt.shaped
    simp [scP, PyData.canLay0, PyData.canLayAll0, PyData.depth, PyData.depthAll]
  have : eqB S (.tup [.int a, .int b]) (.tup [.int c, .int d]) = some (PyData.eqv (scP (a, b)) (scP (c, d))) := by
    unfold eqB
    simp only [e1, e2, sh, Bool.and_self, if_true]
  unfold eqD
  rw [this, scP_eqv]
  simp only [Option.map_some, Prod.mk.injEq]
def unitB : FS := (fIfS (fB (fOp eqD (fVar 2) (fVar 1))) (fRet (fVar 3)) fNext)
section
variable {S : Sto} (hS : S.all (lowC S.length) = true)
include hS
omit hS in
theorem unit_loop {r u : D} {x y : Int} : ∀ (sp : List ((Int × Int) × PL.Rule)) {p q : Option D}, ∃ ρ' : DL.Env, loopD (fgTup 2 (fgCons (fgName 2) (fgCons (fgName 3) fgNil))) unitB (spD sp) [some r, some (.tup [.int x, .int y]), p, q] S =
    (if sp.any (fun p => decide (p.1.1 = x ∧ p.1.2 = y)) = true then .ok (.rt (rD (PL.pickSp sp x y .rally)), ρ') S else .ok (.nx, ρ') S) ∧ ρ'[0]? = some (some r)
  | [], p, q => ⟨[some r, some (.tup [.int x, .int y]), p, q], by simp [loopD, spD], rfl⟩
  | ((a, b), R) :: t, p, q => by
    have st : fgTup 2 (fgCons (fgName 2) (fgCons (fgName 3) fgNil)) (.tup [.tup [.int a, .int b], rD R]) [some r, some (.tup [.int x, .int y]), p, q] S = .ok [some r, some (.tup [.int x, .int y]), some (.tup [.int a, .int b]), some (rD R)] S := by simp_all! only []
    unfold spD loopD
    simp only [st, Res.bind_ok]
    by_cases c : a = x ∧ b = y
    · have e : unitB [some r, some (.tup [.int x, .int y]), some (.tup [.int a, .int b]), some (rD R)] S = .ok (.rt (rD R), [some r, some (.tup [.int x, .int y]), some (.tup [.int a, .int b]), some (rD R)]) S := by
        simp_all! only [unitB, eq_sc, decide_eq_true c]
      refine ⟨[some r, some (.tup [.int x, .int y]), some (.tup [.int a, .int b]), some (rD R)], ?_, rfl⟩
      simp only [e, Res.bind_ok, List.any_cons, decide_eq_true c, Bool.true_or, if_true, PL.pickSp, if_pos c]
    · have e : unitB [some r, some (.tup [.int x, .int y]), some (.tup [.int a, .int b]), some (rD R)] S = .ok (.nx, [some r, some (.tup [.int x, .int y]), some (.tup [.int a, .int b]), some (rD R)]) S := by
        simp_all! only [unitB, eq_sc, decide_eq_false c]
      obtain ⟨ρ', e2, h2⟩ := unit_loop (r := r) (u := u) (x := x) (y := y) t (p := some (.tup [.int a, .int b])) (q := some (rD R))
      refine ⟨ρ', ?_, h2⟩
      simp only [e, Res.bind_ok, e2, List.any_cons, decide_eq_false c, Bool.false_or, PL.pickSp, if_neg c]
omit hS in
theorem pick_any {u v : PL.Rule} {x y : Int} : ∀ {sp : List ((Int × Int) × PL.Rule)}, PL.pickSp sp x y u = if sp.any (fun p => decide (p.1.1 = x ∧ p.1.2 = y)) = true then PL.pickSp sp x y v else u
  | [] => by simp [PL.pickSp]
  | p :: t => by
    unfold PL.pickSp
    by_cases c : p.1.1 = x ∧ p.1.2 = y
    · simp only [if_pos c, List.any_cons, decide_eq_true c, Bool.true_or, if_true]
    · simp only [if_neg c, List.any_cons, decide_eq_false c, Bool.false_or]
      exact pick_any
theorem unit_of_ok {need lead : Int} {cap : Option Int} {o : PL.Ord} {u : PL.Rule} {sp : List ((Int × Int) × PL.Rule)} {x y : Int} :
    g_unit_of [rD (.race need lead cap o u sp), .tup [.int x, .int y]] S = .ok (rD (PL.pickSp sp x y u)) S := by
  refine bodyT_okL ?_ hS (nc_rD _)
  obtain ⟨ρ', e, h⟩ := unit_loop (S := S) (r := rD (.race need lead cap o u sp)) (u := .non) (x := x) (y := y) sp (p := none) (q := none)
  have it : fiAny (fOp ixD (fVar 0) (fC (.int 6))) [some (rD (.race need lead cap o u sp)), some (.tup [.int x, .int y]), none, none] S = .ok ⟨spD sp, none⟩ S := by
    simp_all! only [rD, at6]
  have lp := fFor_st (g := fgTup 2 (fgCons (fgName 2) (fgCons (fgName 3) fgNil))) (f := unitB) it e
  rw [pick_any (v := .rally)]
  by_cases c : sp.any (fun p => decide (p.1.1 = x ∧ p.1.2 = y)) = true
  · rw [if_pos c] at lp ⊢
    refine bodyD_rt (ρ1 := ρ') ?_
    show fSeq (fFor (fiAny (fOp ixD (fVar 0) (fC (.int 6)))) (fgTup 2 (fgCons (fgName 2) (fgCons (fgName 3) fgNil))) unitB) _ _ S = _
    exact fSeq_rt lp
  · rw [if_neg c] at lp ⊢
    refine bodyD_rt (ρ1 := ρ') ?_
    show fSeq (fFor (fiAny (fOp ixD (fVar 0) (fC (.int 6)))) (fgTup 2 (fgCons (fgName 2) (fgCons (fgName 3) fgNil))) unitB) _ _ S = _
    refine (fSeq_nx lp).trans ?_
    simp_all! only [h, rD, at5]
omit hS in
theorem b2i_not (b : Bool) : 1 - PL.b2i b = PL.b2i (!b) := by cases b <;> rfl
theorem begun_ok : ∀ (n f : Nat) {R : PL.Rule} {s : Bool}, R.depth ≤ n → R.depth < f → R.ok → g_begun f [rD R, sd s] S = .ok (stD (PL.begun n R s)) S
  | n, 0, R, s, _, h, _ => absurd h (Nat.not_lt_zero _)
  | n, f + 1, .rally, s, _, _, _ => by
    have e : PL.begun n .rally s = .leaf s := by cases n <;> rfl
    rw [e]
    refine bodyT_okL ?_ hS rfl
    simp_all! only [b_begun, rD, stD, decide_false]
    rfl
  | n, f + 1, .hand, s, _, _, _ => by
    have e : PL.begun n .hand s = .leaf s := by cases n <;> rfl
    rw [e]
    refine bodyT_okL ?_ hS rfl
    simp_all! only [b_begun, rD, stD, decide_false]
    rfl
  | 0, f + 1, .race .., s, h, _, _ => by simp [PL.Rule.depth] at h
  | n + 1, f + 1, .race need lead cap o u sp, s, hn, hf, ok => by
    simp only [PL.Rule.depth] at hn hf
    simp only [PL.Rule.ok] at ok
    obtain ⟨k1, k2, k3, ko, k4, k5⟩ := ok
    have dp : (PL.pickSp sp 0 0 u).depth ≤ n := PL.pick_depth (by omega) (by omega)
    have dp2 : (PL.pickSp sp 0 0 u).depth < f := Nat.lt_of_le_of_lt (PL.pick_depth (n := max u.depth (PL.depths sp)) (by omega) (by omega)) (by omega)
    have ih := fun t => begun_ok n f (s := t) dp dp2 (PL.pick_ok k4 k5)
    have un := unit_of_ok hS (need := need) (lead := lead) (cap := cap) (o := o) (u := u) (sp := sp) (x := 0) (y := 0)
    refine bodyT_okL ?_ hS (nc_stD _)
    have fin : ∀ (t : Bool), (fRet (fTup (fCons (fC (.int 0)) (fCons (fC (.int 0)) (fCons (fVar 1) (fCons (fVar 2) (fCons (fCall 2 (g_begun f) (fCons (fCall 2 g_unit_of (fCons (fVar 0) (fCons (fTup (fCons (fC (.int 0)) (fCons (fC (.int 0)) fNil))) fNil))) (fCons (fVar 2) fNil))) fNil))))))) [some (rD (.race need lead cap o u sp)), some (sd s), some (sd t)] S =
        .ok (.rt (.tup [.int 0, .int 0, sd s, sd t, stD (PL.begun n (PL.pickSp sp 0 0 u) t)]), [some (rD (.race need lead cap o u sp)), some (sd s), some (sd t)]) S := fun t => by
      simp_all! only [un, ih]
    have ft : PL.begun (n + 1) (.race need lead cap o u sp) s = .node 0 0 s (PL.firstTurn o s) (PL.begun n (PL.pickSp sp 0 0 u) (PL.firstTurn o s)) := rfl
    rw [ft]
    simp only [stD]
    have r0 : (decide (("race" : Str) = "race")) = true := by decide
    have mid : (fIfS (fAnd (fB (fOp eqD (fOp ixD (fOp ixD (fVar 0) (fC (.int 4))) (fC (.int 0))) (fC (.str "row")))) (fB (fOp eqD (fOp ixD (fOp ixD (fOp ixD (fVar 0) (fC (.int 4))) (fC (.int 1))) (fC (.int 0))) (fC (.int 1))))) (fAsg (fOp subD (fC (.int 1)) (fVar 1)) (fgName 2)) fNext) [some (rD (.race need lead cap o u sp)), some (sd s), some (sd s)] S =
        .ok (.nx, [some (rD (.race need lead cap o u sp)), some (sd s), some (sd (PL.firstTurn o s))]) S := by
      cases o with
      | row m =>
        have r1 : (decide (("row" : Str) = "row")) = true := by decide
        cases m with
        | nil => exact absurd rfl ko
        | cons b m =>
          cases b with
          | true => simp_all! only [rD, oD, at4, r1, sd, List.map_cons, PL.b2i_t, decide_true, b2i_not, PL.firstTurn]
          | false =>
            have : decide ((0 : Int) = 1) = false := by decide
            simp_all! only [rD, oD, at4, r1, sd, List.map_cons, PL.b2i_f, this, PL.firstTurn]
      | on =>
        have r1 : (decide (("on" : Str) = "row")) = false := by decide
        simp_all! only [rD, oD, at4, r1, PL.firstTurn]
      | turns =>
        have r1 : (decide (("turns" : Str) = "row")) = false := by decide
        simp_all! only [rD, oD, at4, r1, PL.firstTurn]
      | winner =>
        have r1 : (decide (("winner" : Str) = "row")) = false := by decide
        simp_all! only [rD, oD, at4, r1, PL.firstTurn]
      | loser =>
        have r1 : (decide (("loser" : Str) = "row")) = false := by decide
        simp_all! only [rD, oD, at4, r1, PL.firstTurn]
    have h0 : (fIfS (fB (fOp neD (fOp ixD (fVar 0) (fC (.int 0))) (fC (.str "race")))) (fRet (fTup (fCons (fVar 1) fNil))) fNext) [some (rD (.race need lead cap o u sp)), some (sd s), none] S = .ok (.nx, [some (rD (.race need lead cap o u sp)), some (sd s), none]) S := by
      simp_all! only [rD, r0]
    have h1 : (fAsg (fVar 1) (fgName 2)) [some (rD (.race need lead cap o u sp)), some (sd s), none] S = .ok (.nx, [some (rD (.race need lead cap o u sp)), some (sd s), some (sd s)]) S := by simp_all! only []
    refine bodyD_rt (ρ1 := [some (rD (.race need lead cap o u sp)), some (sd s), some (sd (PL.firstTurn o s))]) ?_
    show fSeq _ (fSeq _ (fSeq _ _)) _ S = _
    rw [show ([rD (.race need lead cap o u sp), sd s].map some ++ List.replicate (N_begun.length - 2) none : DL.Env) = [some (rD (.race need lead cap o u sp)), some (sd s), none] from rfl]
    rw [fSeq_nx h0, fSeq_nx h1, fSeq_nx mid]
    exact fin _
end
end Cm
set_option maxHeartbeats 4000000
namespace Cm
open PySem PySem.Spec PyProof.Rows L2 DL
theorem max2 {S : Sto} {x y : Int} : maxT [.tup [.int x, .int y]] S = some (.int (max x y)) := rfl
theorem sum2 {S : Sto} {x y : Int} : sumT [.tup [.int x, .int y]] S = some (.int (x + y)) := by
  show some (D.int [x, y].sum) = _
  simp
theorem abs1 {S : Sto} {x : Int} : absD [.int x] S = some (.int x.natAbs) := by
  show some (D.int (if x < 0 then -x else x)) = _
  rw [show (if x < 0 then -x else x) = (x.natAbs : Int) by split <;> omega]
theorem mark_at {m : List Bool} (h : m ≠ []) (z : Int) : atI (m.map sd) (z % (m.length : Nat)) = some (sd (m.getD (z % (m.length : Nat)).toNat false)) := by
  have l : 0 < m.length := List.length_pos_iff.mpr h
  have h0 : 0 ≤ z % (m.length : Nat) := Int.emod_nonneg _ (by omega)
  have h1 : z % (m.length : Nat) < (m.length : Nat) := Int.emod_lt_of_pos _ (by omega)
  have hk : (z % (m.length : Nat)).toNat < m.length := by omega
  have e : z % (m.length : Nat) = ((z % (m.length : Nat)).toNat : Int) := by omega
  rw [List.getD_eq_getElem?_getD, List.getElem?_eq_getElem hk, Option.getD_some]
  refine Eq.trans (congrArg _ e) (atI_at ?_)
  rw [List.getElem?_map, List.getElem?_eq_getElem hk]
  rfl
theorem isN_st (s : PL.St) : DL.isNon (stD s) = false := by cases s <;> rfl
def lrD : PL.LR → D
  | .on s => .tup [stD s, .non, .non]
  | .over w h => .tup [.non, sd w, sd h]
theorem nc_lrD (r : PL.LR) : noCel (lrD r) = true := by
  cases r with
  | on s => simp only [lrD, noCel, noCels, nc_stD, Bool.and_self]
  | over w h => rfl
section
variable {S : Sto} (hS : S.all (lowC S.length) = true)
include hS
theorem is_won_ok {need lead : Int} {cap : Option Int} {o : PL.Ord} {u : PL.Rule} {sp : List ((Int × Int) × PL.Rule)} {x y : Int} :
    g_is_won [rD (.race need lead cap o u sp), .tup [.int x, .int y]] S = .ok (.bl (PL.isWon need lead cap x y)) S := by
  refine bodyT_okL ?_ hS rfl
  have s1 : slD (.tup [.str "race", .int need, .int lead, capD cap, oD o, rD u, .lst (spD sp)]) (some 1) (some 4) S = some (.tup [.int need, .int lead, capD cap]) := rfl
  cases cap with
  | none =>
    have n1 : isnotD (capD none) .non S = some (.bl false) := rfl
    by_cases c : max x y ≥ need
    · simp_all! only [b_is_won, rD, s1, n1, max2, abs1, PL.isWon, decide_eq_true c]
      rfl
    · simp_all! only [b_is_won, rD, s1, n1, max2, abs1, PL.isWon, decide_eq_false c]
      rfl
  | some k =>
    have n1 : isnotD (capD (some k)) .non S = some (.bl true) := rfl
    have ck : capD (some k) = .int k := rfl
    have s1 : slD (.tup [.str "race", .int need, .int lead, .int k, oD o, rD u, .lst (spD sp)]) (some 1) (some 4) S = some (.tup [.int need, .int lead, .int k]) := rfl
    have n1 : isnotD (.int k) .non S = some (.bl true) := rfl
    by_cases d : max x y ≥ k
    · simp_all! only [b_is_won, rD, s1, n1, max2, abs1, PL.isWon, ck, decide_eq_true d, Bool.true_or]
    · by_cases c : max x y ≥ need
      · simp_all! only [b_is_won, rD, s1, n1, max2, abs1, PL.isWon, ck, decide_eq_true c, decide_eq_false d, Bool.false_or]
      · simp_all! only [b_is_won, rD, s1, n1, max2, abs1, PL.isWon, ck, decide_eq_false c, decide_eq_false d, Bool.false_or]
theorem next_turn_ok {need lead : Int} {cap : Option Int} {o : PL.Ord} {u : PL.Rule} {sp : List ((Int × Int) × PL.Rule)} {x0 y0 x y : Int} {f t w h : Bool} {i : PL.St} (ho : PL.ordOk o) :
    g_next_turn [rD (.race need lead cap o u sp), stD (.node x0 y0 f t i), .tup [.int x, .int y], sd w, sd h] S = .ok (sd (PL.nextTurn o f t x y w h)) S := by
  refine bodyT_okL ?_ hS rfl
  cases o with
  | on =>
    have r1 : (decide (("on" : Str) = "on")) = true := by decide
    simp_all! only [b_next_turn, rD, oD, at4, r1, PL.nextTurn]
  | turns =>
    have r1 : (decide (("turns" : Str) = "on")) = false := by decide
    have r2 : (decide (("turns" : Str) = "turns")) = true := by decide
    simp_all! only [b_next_turn, rD, oD, stD, at4, at3, r1, r2, PL.nextTurn, sd, b2i_not]
  | winner =>
    have r1 : (decide (("winner" : Str) = "on")) = false := by decide
    have r2 : (decide (("winner" : Str) = "turns")) = false := by decide
    have r3 : (decide (("winner" : Str) = "winner")) = true := by decide
    simp_all! only [b_next_turn, rD, oD, at4, r1, r2, r3, PL.nextTurn]
  | loser =>
    have r1 : (decide (("loser" : Str) = "on")) = false := by decide
    have r2 : (decide (("loser" : Str) = "turns")) = false := by decide
    have r3 : (decide (("loser" : Str) = "winner")) = false := by decide
    have r4 : (decide (("loser" : Str) = "loser")) = true := by decide
    simp_all! only [b_next_turn, rD, oD, at4, r1, r2, r3, r4, PL.nextTurn, sd, b2i_not]
  | row m =>
    have r1 : (decide (("row" : Str) = "on")) = false := by decide
    have r2 : (decide (("row" : Str) = "turns")) = false := by decide
    have r3 : (decide (("row" : Str) = "winner")) = false := by decide
    have r4 : (decide (("row" : Str) = "loser")) = false := by decide
    have hm : m ≠ [] := ho
    have l0 : 0 < m.length := List.length_pos_iff.mpr hm
    have md : modD (.int (x + y)) (.int (m.length : Nat)) S = some (.int ((x + y) % (m.length : Nat))) := modD_int (by omega)
    have ll : lenD [.lst (m.map sd)] S = some (.int (m.length : Nat)) := by
      rw [lenD_lst, List.length_map]
    have ma := mark_at hm (x + y)
    cases hb : m.getD ((x + y) % (m.length : Nat)).toNat false with
    | true =>
      rw [hb] at ma
      have ne : decide ((1 : Int) = 0) = false := by decide
      simp_all! only [b_next_turn, rD, oD, stD, at4, at2, r1, r2, r3, r4, sum2, List.length_map, md, ma, PL.nextTurn, hb, sd, PL.b2i_t, ne, b2i_not, Bool.true_eq_false]
    | false =>
      rw [hb] at ma
      simp_all! only [b_next_turn, rD, oD, stD, at4, at2, r1, r2, r3, r4, sum2, List.length_map, md, ma, PL.nextTurn, hb, sd, PL.b2i_f]
omit hS in
theorem win_of (x y : Int) : (if decide (x > y) = true then D.int 0 else D.int 1) = sd (PL.winOf x y) := by
  unfold PL.winOf
  by_cases c : y < x
  · rw [if_pos (by simpa using c), if_pos c]
    rfl
  · rw [if_neg (by simpa using c), if_neg c]
    rfl
theorem led_ok : ∀ (n : Nat) {f : Nat} {R : PL.Rule} {s : PL.St} {b : Bool}, R.depth ≤ n → 2 * R.depth + 1 ≤ f → R.depth < 16 → R.ok → PL.wf n R s → g_led f [rD R, stD s, sd b] S = .ok (lrD (PL.led n R s b)) S
  | n, 0, R, s, b, _, h, _, _, _ => by omega
  | n, f + 1, .rally, .leaf s, b, _, _, _, _, _ => by
    have e : PL.led n .rally (.leaf s) b = .over b s := by cases n <;> rfl
    rw [e]
    have r1 : (decide (("rally" : Str) = "race")) = false := by decide
    have r2 : (decide (("rally" : Str) = "hand")) = false := by decide
    refine bodyT_okL ?_ hS rfl
    simp_all! only [b_led, rD, stD, r1, r2, lrD]
  | n, f + 1, .hand, .leaf s, b, _, _, _, _, _ => by
    have e : PL.led n .hand (.leaf s) b = if b = s then .over b s else .on (.leaf b) := by cases n <;> rfl
    rw [e]
    have r1 : (decide (("hand" : Str) = "race")) = false := by decide
    have r2 : (decide (("hand" : Str) = "hand")) = true := by decide
    refine bodyT_okL ?_ hS (nc_lrD _)
    have ne : neD (sd b) (sd s) S = some (.bl (!decide (b = s))) := by cases b <;> cases s <;> rfl
    by_cases c : b = s
    · rw [if_pos c]
      simp_all! only [b_led, rD, stD, r1, r2, ne, decide_eq_true c, lrD]
    · rw [if_neg c]
      simp_all! only [b_led, rD, stD, r1, r2, ne, decide_eq_false c, lrD]
  | 0, f + 1, .race .., _, _, h, _, _, _, _ => by simp [PL.Rule.depth] at h
  | 0, f + 1, .rally, .node .., _, _, _, _, _, w => w.elim
  | 0, f + 1, .hand, .node .., _, _, _, _, _, w => w.elim
  | n + 1, f + 1, .rally, .node .., _, _, _, _, _, w => w.elim
  | n + 1, f + 1, .hand, .node .., _, _, _, _, _, w => w.elim
  | n + 1, f + 1, .race .., .leaf _, _, _, _, _, _, w => w.elim
  | n + 1, f + 1, .race need lead cap o u sp, .node x y fs t i, b, hn, hf, h16, ok, ⟨w1, w2, w3, w4⟩ => by
    have hd : (PL.Rule.race need lead cap o u sp).depth = max u.depth (PL.depths sp) + 1 := rfl
    rw [hd] at hn hf h16
    have ok0 := ok
    simp only [PL.Rule.ok] at ok
    obtain ⟨k1, k2, k3, ko, k4, k5⟩ := ok
    obtain ⟨g, rfl⟩ : ∃ g, f = g + 1 := ⟨f - 1, by omega⟩
    have dp : ∀ x y, (PL.pickSp sp x y u).depth ≤ max u.depth (PL.depths sp) := fun x y => PL.pick_depth (by omega) (by omega)
    have pk : ∀ x y, (PL.pickSp sp x y u).ok := fun x y => PL.pick_ok k4 k5
    have ih := led_ok n (f := g) (s := i) (b := b) (Nat.le_trans (dp x y) (by omega)) (by have := dp x y; omega) (by have := dp x y; omega) (pk x y) w4
    have un := fun x y => unit_of_ok hS (need := need) (lead := lead) (cap := cap) (o := o) (u := u) (sp := sp) (x := x) (y := y)
    have s2 : slD (stD (.node x y fs t i)) none (some 2) S = some (.tup [.int x, .int y]) := rfl
    have s4 : slD (stD (.node x y fs t i)) none (some 4) S = some (.tup [.int x, .int y, sd fs, sd t]) := rfl
    have i2 : ixD (stD (.node x y fs t i)) (.int 2) S = some (sd fs) := at2
    have i4 : ixD (stD (.node x y fs t i)) (.int 4) S = some (stD i) := at4
    have race : g_led_race (g + 1) [rD (.race need lead cap o u sp), stD (.node x y fs t i), sd b] S = .ok (lrD (PL.led (n + 1) (.race need lead cap o u sp) (.node x y fs t i) b)) S := by
      refine bodyT_okL ?_ hS (nc_lrD _)
      simp only [PL.led]
      cases el : PL.led n (PL.pickSp sp x y u) i b with
      | on j =>
        rw [el] at ih
        have nj : DL.isNon (stD j) = false := isN_st j
        have isn : isnotD (stD j) .non S = some (.bl true) := by
          show some (D.bl (!DL.isNon (stD j))) = _
          rw [nj]
          rfl
        have ad : addD (.tup [.int x, .int y, sd fs, sd t]) (.tup [stD j]) S = some (stD (.node x y fs t j)) := rfl
        simp_all! only [b_led_race, s2, un, i4, ih, lrD, isn, s4, ad]
      | over w h =>
        rw [el] at ih
        have isn : isnotD .non .non S = some (.bl false) := rfl
        have nt := next_turn_ok hS (need := need) (lead := lead) (cap := cap) (u := u) (sp := sp) (x0 := x) (y0 := y) (x := PL.upX x w) (y := PL.upY y w) (f := fs) (t := t) (w := w) (h := h) (i := i) ko
        have iw := is_won_ok hS (need := need) (lead := lead) (cap := cap) (o := o) (u := u) (sp := sp) (x := PL.upX x w) (y := PL.upY y w)
        have u1 : x + 1 - PL.b2i w = PL.upX x w := rfl
        have u2 : y + PL.b2i w = PL.upY y w := rfl
        have ih : g_led g [rD (PL.pickSp sp x y u), stD i, sd b] S = .ok (.tup [.non, .int (PL.b2i w), sd h]) S := ih
        have nt : g_next_turn [rD (.race need lead cap o u sp), stD (.node x y fs t i), .tup [.int (PL.upX x w), .int (PL.upY y w)], .int (PL.b2i w), sd h] S = _ := nt
        cases hw : PL.isWon need lead cap (PL.upX x w) (PL.upY y w) with
        | true =>
          rw [hw] at iw
          have wo := win_of (PL.upX x w) (PL.upY y w)
          by_cases c : PL.upX x w > PL.upY y w
          · rw [decide_eq_true c] at wo
            simp only [if_true] at wo
            simp_all! only [b_led_race, s2, un, i4, ih, isn, u1, u2, nt, iw, hw, decide_eq_true c, ← wo, lrD]
          · rw [decide_eq_false c] at wo
            simp only [Bool.false_eq_true, if_false] at wo
            simp_all! only [b_led_race, s2, un, i4, ih, isn, u1, u2, nt, iw, hw, decide_eq_false c, ← wo, lrD]
        | false =>
          rw [hw] at iw
          have bg := begun_ok hS n 16 (R := PL.pickSp sp (PL.upX x w) (PL.upY y w) u) (s := PL.nextTurn o fs t (PL.upX x w) (PL.upY y w) w h) (Nat.le_trans (dp _ _) (by omega)) (by have := dp (PL.upX x w) (PL.upY y w); omega) (pk _ _)
          have ad : ∀ a b c d e : D, addD (.tup [a, b]) (.tup [c, d, e]) S = some (.tup [a, b, c, d, e]) := fun _ _ _ _ _ => rfl
          simp_all! only [b_led_race, s2, un, i4, i2, ih, isn, u1, u2, nt, iw, hw, bg, ad, lrD]
          rfl
    have r1 : (decide (("race" : Str) = "race")) = true := by decide
    have i0 : ixD (rD (.race need lead cap o u sp)) (.int 0) S = some (.str "race") := atI_0
    refine bodyT_okL ?_ hS (nc_lrD _)
    simp_all! only [b_led, i0, r1, race]
end
end Cm
set_option maxHeartbeats 4000000
namespace Cm
open PySem PySem.Spec PyProof.Rows L2 DL
theorem ls_end {S : Sto} {xs : List D} : lstOf (S ++ [.lst xs]) (.cel S.length) = some xs := by simp [lstOf]
theorem ap_end {S : Sto} {xs : List D} {d : D} (h : xs.length < capN) : appD (.cel S.length) d (S ++ [.lst xs]) = some (S ++ [.lst (xs ++ [d])]) := by
  unfold appD
  simp only [List.getElem?_append_right (Nat.le_refl _), Nat.sub_self, List.getElem?_cons_zero, h, if_true]
  rw [pset]
def depS : PL.St → Nat
  | .leaf _ => 0
  | .node _ _ _ _ i => depS i + 1
theorem dep_wf : ∀ (n : Nat) {R : PL.Rule} {s : PL.St}, PL.wf n R s → depS s ≤ n
  | n, _, .leaf _, _ => by simp [depS]
  | n + 1, .race .., .node _ _ _ _ i, ⟨_, _, _, w⟩ => by
    have := dep_wf n w
    simp only [depS]
    omega
  | 0, .rally, .node .., w => w.elim
  | 0, .hand, .node .., w => w.elim
  | 0, .race .., .node .., w => w.elim
  | n + 1, .rally, .node .., w => w.elim
  | n + 1, .hand, .node .., w => w.elim
theorem st_len {S : Sto} : ∀ (s : PL.St), lenD [stD s] S = some (.int (match s with
  | .leaf _ => 1
  | .node .. => 5))
  | .leaf _ => rfl
  | .node .. => rfl
section
variable {S : Sto} (hS : S.all (lowC S.length) = true)
include hS
omit hS in
theorem server_loop : ∀ (s : PL.St) (k : Nat), depS s < k → fWhile (fB (fOp gtD (fCB lenD (fCons (fVar 0) fNil)) (fC (.int 1)))) (fAsg (fOp ixD (fVar 0) (fC (.int 4))) (fgName 0)) k [some (stD s)] S = .ok (.nx, [some (.tup [sd (PL.serverIn s)])]) S
  | .leaf b, k, h => by
    obtain ⟨k, rfl⟩ : ∃ j, k = j + 1 := ⟨k - 1, by omega⟩
    have l := st_len (S := S) (.leaf b)
    have c : decide ((1 : Int) > 1) = false := by decide
    unfold fWhile
    simp_all! only [l, c, PL.serverIn]
    rfl
  | .node x y f t i, k, h => by
    simp only [depS] at h
    obtain ⟨k, rfl⟩ : ∃ j, k = j + 1 := ⟨k - 1, by omega⟩
    have l := st_len (S := S) (.node x y f t i)
    have c : decide ((5 : Int) > 1) = true := by decide
    have i4 : ixD (stD (.node x y f t i)) (.int 4) S = some (stD i) := at4
    have ih := server_loop i k (by omega)
    unfold fWhile
    simp_all! only [l, c, i4, ih, PL.serverIn]
theorem server_in_ok {s : PL.St} (h : depS s < 1000000) : g_server_in [stD s] S = .ok (sd (PL.serverIn s)) S := by
  refine bodyT_okL ?_ hS rfl
  have lp := server_loop (S := S) s 1000000 h
  refine bodyD_rt (ρ1 := [some (.tup [sd (PL.serverIn s)])]) ?_
  refine (fSeq_nx lp).trans ?_
  simp_all! only []
omit hS in
theorem scores_loop : ∀ (s : PL.St) (k : Nat) (acc : List D), depS s < k → acc.length + depS s < capN → fWhile (fB (fOp gtD (fCB lenD (fCons (fVar 0) fNil)) (fC (.int 1)))) (fSeq (fDrop (fApp (fVar 1) (fSl (fVar 0) fNoPart (fPart (fC (.int 2)))))) (fAsg (fOp ixD (fVar 0) (fC (.int 4))) (fgName 0))) k [some (stD s), some (.cel S.length)] (S ++ [.lst acc]) =
    .ok (.nx, [some (.tup [sd (PL.serverIn s)]), some (.cel S.length)]) (S ++ [.lst (acc ++ (PL.scoresIn s).map scD)])
  | .leaf b, k, acc, h, _ => by
    obtain ⟨k, rfl⟩ : ∃ j, k = j + 1 := ⟨k - 1, by omega⟩
    have l := st_len (S := S ++ [.lst acc]) (.leaf b)
    have c : decide ((1 : Int) > 1) = false := by decide
    unfold fWhile
    simp_all! only [l, c, PL.serverIn, PL.scoresIn, List.append_nil]
    rfl
  | .node x y f t i, k, acc, h, hc => by
    simp only [depS] at h hc
    obtain ⟨k, rfl⟩ : ∃ j, k = j + 1 := ⟨k - 1, by omega⟩
    have l := st_len (S := S ++ [.lst acc]) (.node x y f t i)
    have c : decide ((5 : Int) > 1) = true := by decide
    have s2 : slD (stD (.node x y f t i)) none (some 2) (S ++ [.lst acc]) = some (.tup [.int x, .int y]) := rfl
    have ap := ap_end (S := S) (xs := acc) (d := .tup [.int x, .int y]) (by omega)
    have i4 : ixD (stD (.node x y f t i)) (.int 4) (S ++ [.lst (acc ++ [.tup [.int x, .int y]])]) = some (stD i) := at4
    have ih := scores_loop i k (acc ++ [.tup [.int x, .int y]]) (by omega) (by rw [List.length_append]; simp only [List.length_cons, List.length_nil]; omega)
    have e : acc ++ [D.tup [.int x, .int y]] ++ (PL.scoresIn i).map scD = acc ++ (PL.scoresIn (.node x y f t i)).map scD := by
      simp only [PL.scoresIn, List.map_cons, scD, List.append_assoc, List.cons_append, List.nil_append]
    rw [e] at ih
    unfold fWhile
    simp_all! only [l, c, s2, ls_end, ap, i4, ih, PL.serverIn]
omit hS in
theorem nc_scs : ∀ (l : List (Int × Int)), noCels (l.map scD) = true
  | [] => rfl
  | p :: t => by simp only [List.map_cons, noCels, noCel, scD, nc_scs t, Bool.and_self]
theorem scores_in_ok {s : PL.St} (h : depS s < 1000000) : g_scores_in [stD s] S = .ok (.cel S.length) (S ++ [.lst ((PL.scoresIn s).map scD)]) := by
  have lp := scores_loop (S := S) s 1000000 [] h (Nat.lt_of_lt_of_le (by simpa using h) (by decide))
  rw [List.nil_append] at lp
  refine bodyC_low (i := S.length) (T := S) (L := [.lst ((PL.scoresIn s).map scD)]) ?_ rfl hS (Nat.le_refl _) (by simp) (noCels_low (nc_scs _))
  refine bodyD_rt (ρ1 := [some (.tup [sd (PL.serverIn s)]), some (.cel S.length)]) ?_
  have a1 : fAsg (fLstC fNil) (fgName 1) ([stD s].map some ++ List.replicate (N_scores_in.length - 1) none) S = .ok (.nx, [some (stD s), some (.cel S.length)]) (S ++ [.lst []]) := by
    simp_all! only []
  refine (fSeq_nx a1).trans ((fSeq_nx lp).trans ?_)
  simp_all! only []
end
end Cm
set_option maxHeartbeats 4000000
namespace Cm
open PySem PySem.Spec PyProof.Rows L2 DL
structure R4 (R : PL.Rule) : Prop where
  rule : isRuleN 4 (rD R) = true
  fit_ : fit (rD R) 20 = true
  dep : R.depth ≤ 4
  ok : R.ok
theorem fits_sds : ∀ bs : List Bool, fits (bs.map sd) 0 = true
  | [] => rfl
  | b :: bs => by
    have e : fit (sd b) 0 = true := rfl
    simp only [List.map_cons, fits, e, fits_sds bs, Bool.and_self]
theorem fit_br (bs : List Bool) : fit (brD bs) 1 = true := fits_sds bs
theorem are_br (bs : List Bool) : areR (brD bs) = true := by
  show (bs.map sd).all (isBtw 0 1) = true
  rw [List.all_eq_true]
  intro d m
  obtain ⟨b, _, rfl⟩ := List.mem_map.mp m
  cases b <;> rfl
def rrD (len : Nat) : PL.RR → D
  | .on s => .tup [stD s, .non, .int len]
  | .over w _ k _ _ => .tup [.non, sd w, .int k]
def ledBody (g_led : GF) : FS := (fSeq (fAsg (fCall 3 g_led (fCons (fVar 0) (fCons (fVar 3) (fCons (fVar 5) fNil)))) (fgTup 3 (fgCons (fgName 3) (fgCons (fgName 6) (fgCons (fgName 7) fgNil)))))
    (fIfS (fB (fOp isD (fVar 3) (fC .non))) (fRet (fTup (fCons (fC .non) (fCons (fVar 6) (fCons (fOp addD (fVar 4) (fC (.int 1))) fNil))))) fNext))
section
variable {S : Sto} (hS : S.all (lowC S.length) = true)
include hS
theorem led_loop {R : PL.Rule} (hr : R4 R) {fi l : D} : ∀ (bs : List Bool) (a : Nat) (s : PL.St) (e4 e5 e6 e7 : Option D), PL.wf 4 R s →
    ∃ ρ' : DL.Env, loopD (fgTup 2 (fgCons (fgName 4) (fgCons (fgName 5) fgNil))) (ledBody (g_led 16)) (((bs.map sd).zipIdx a).map fun p => .tup [.int (p.2 : Nat), p.1]) [some (rD R), some fi, some l, some (stD s), e4, e5, e6, e7] S =
      (match PL.run 4 R s bs with
      | .on _ => .ok (.nx, ρ') S
      | .over w _ k _ _ => .ok (.rt (.tup [.non, sd w, .int ((a + k : Nat) : Int)]), ρ') S) ∧ ρ'[2]? = some (some l) ∧ ∀ s2, PL.run 4 R s bs = .on s2 → ρ'[3]? = some (some (stD s2)) ∧ PL.wf 4 R s2
  | [], a, s, e4, e5, e6, e7, w => ⟨[some (rD R), some fi, some l, some (stD s), e4, e5, e6, e7], rfl, rfl, fun s2 e => by cases e; exact ⟨rfl, w⟩⟩
  | b :: bs, a, s, e4, e5, e6, e7, w => by
    have ld := led_ok hS 4 (f := 16) (R := R) (s := s) (b := b) hr.dep (by have := hr.dep; omega) (by have := hr.dep; omega) hr.ok w
    have st : fgTup 2 (fgCons (fgName 4) (fgCons (fgName 5) fgNil)) (.tup [.int (a : Nat), sd b]) [some (rD R), some fi, some l, some (stD s), e4, e5, e6, e7] S = .ok [some (rD R), some fi, some l, some (stD s), some (.int (a : Nat)), some (sd b), e6, e7] S := by simp_all! only []
    rw [List.map_cons, List.zipIdx_cons, List.map_cons]
    unfold loopD PL.run
    simp only [st, Res.bind_ok]
    cases el : PL.led 4 R s b with
    | on s2 =>
      rw [el] at ld
      have bd : ledBody (g_led 16) [some (rD R), some fi, some l, some (stD s), some (.int (a : Nat)), some (sd b), e6, e7] S = .ok (.nx, [some (rD R), some fi, some l, some (stD s2), some (.int (a : Nat)), some (sd b), some .non, some .non]) S := by
        have isn : isD (stD s2) .non S = some (.bl false) := by
          show some (D.bl (DL.isNon (stD s2))) = _
          rw [isN_st]
        simp_all! only [ledBody, ld, lrD, isn]
      obtain ⟨ρ', e, h2, h3⟩ := led_loop hr (fi := fi) (l := l) bs (a + 1) s2 (some (.int (a : Nat))) (some (sd b)) (some .non) (some .non) (PL.led_wf 4 hr.dep hr.ok w el)
      refine ⟨ρ', ?_, h2, fun s3 e3 => ?_⟩
      · simp only [bd, Res.bind_ok, e]
        cases er : PL.run 4 R s2 bs with
        | on _ => rfl
        | over w3 h3 k3 p3 b3 =>
          simp only [PL.RR.bump]
          rw [show a + 1 + k3 = a + (k3 + 1) by omega]
      · refine h3 s3 ?_
        simp only at e3
        cases er : PL.run 4 R s2 bs with
        | on _ => rw [er] at e3; exact e3
        | over _ _ _ _ _ => rw [er] at e3; cases e3
    | over w2 h2 =>
      rw [el] at ld
      have isn : isD .non .non S = some (.bl true) := rfl
      have bd : ledBody (g_led 16) [some (rD R), some fi, some l, some (stD s), some (.int (a : Nat)), some (sd b), e6, e7] S = .ok (.rt (.tup [.non, sd w2, .int ((a : Nat) + 1 : Int)]), [some (rD R), some fi, some l, some .non, some (.int (a : Nat)), some (sd b), some (sd w2), some (sd h2)]) S := by
        simp_all! only [ledBody, ld, lrD, isn]
      refine ⟨[some (rD R), some fi, some l, some .non, some (.int (a : Nat)), some (sd b), some (sd w2), some (sd h2)], ?_, rfl, fun s3 e3 => nomatch e3⟩
      simp only [bd, Res.bind_ok]
      rfl
theorem led_by_ok {R : PL.Rule} (hr : R4 R) (fi : Bool) (bs : List Bool) : g_led_by [rD R, sd fi, brD bs] S = .ok (rrD bs.length (PL.run 4 R (PL.begun 4 R fi) bs)) S := by
  have bg := begun_ok hS 4 16 (R := R) (s := fi) hr.dep (by have := hr.dep; omega) hr.ok
  have w := PL.begun_wf 4 fi hr.dep hr.ok
  obtain ⟨ρ', e, h2, h3⟩ := led_loop hS hr (fi := sd fi) (l := brD bs) bs 0 (PL.begun 4 R fi) none none none none w
  have a1 : fAsg (fCall 2 (g_begun 16) (fCons (fVar 0) (fCons (fVar 1) fNil))) (fgName 3) [some (rD R), some (sd fi), some (brD bs), none, none, none, none, none] S = .ok (.nx, [some (rD R), some (sd fi), some (brD bs), some (stD (PL.begun 4 R fi)), none, none, none, none]) S := by
    simp_all! only [bg]
  have it : fiEnum (fVar 2) [some (rD R), some (sd fi), some (brD bs), some (stD (PL.begun 4 R fi)), none, none, none, none] S = .ok ⟨((bs.map sd).zipIdx 0).map fun p => .tup [.int (p.2 : Nat), p.1], none⟩ S := by
    simp_all! only [brD]
    rfl
  have lp := fFor_st (g := fgTup 2 (fgCons (fgName 4) (fgCons (fgName 5) fgNil))) (f := ledBody (g_led 16)) it e
  have shape : ∀ r, fSeq (fAsg (fCall 2 (g_begun 16) (fCons (fVar 0) (fCons (fVar 1) fNil))) (fgName 3)) (fSeq (fFor (fiEnum (fVar 2)) (fgTup 2 (fgCons (fgName 4) (fgCons (fgName 5) fgNil))) (ledBody (g_led 16))) (fRet (fTup (fCons (fVar 3) (fCons (fC .non) (fCons (fCB lenD (fCons (fVar 2) fNil)) fNil)))))) [some (rD R), some (sd fi), some (brD bs), none, none, none, none, none] S = .ok (.rt r, ρ') S → noCel r = true → g_led_by [rD R, sd fi, brD bs] S = .ok r S := fun r h hn => by
    refine bodyT_okL ?_ hS hn
    exact bodyD_rt (ρ1 := ρ') h
  cases er : PL.run 4 R (PL.begun 4 R fi) bs with
  | on s2 =>
    rw [er] at lp
    obtain ⟨q, _⟩ := h3 s2 er
    refine shape _ ((fSeq_nx a1).trans ((fSeq_nx lp).trans ?_)) (by simp only [rrD, noCel, noCels, nc_stD, Bool.and_self])
    have ll : lenD [brD bs] S = some (.int (bs.length : Nat)) := by
      show some (D.int ((bs.map sd).length : Nat)) = _
      rw [List.length_map]
    simp_all! only [q, h2, ll, rrD]
  | over w2 h k p b =>
    rw [er] at lp
    refine shape _ ((fSeq_nx a1).trans ?_) rfl
    refine (fSeq_rt lp).trans ?_
    simp only [rrD, Nat.zero_add]
theorem check_match_ok {R : PL.Rule} (hr : R4 R) (fi : Bool) {bs : List Bool} (hl : bs.length ≤ 1000) : g_check_match [rD R, sd fi, brD bs] S = .ok .non S :=
  match_good hS hr.fit_ (by decide) hr.rule (m := 0) (by rfl) (by cases fi <;> rfl) (fit_br bs) (by decide) (fun xs e => by cases e; rw [List.length_map]; exact hl) (are_br bs)
theorem behind_ok {R : PL.Rule} (hr : R4 R) (fi : Bool) (bs : List Bool) : g_behind [rD R, sd fi, brD bs] S = match PL.run 4 R (PL.begun 4 R fi) bs with
    | .on s => .ok (.tup [stD s, .non]) S
    | .over w _ k _ _ => if k < bs.length then .err "Ended" (.int k) S else .ok (.tup [.non, sd w]) S := by
  have lb := led_by_ok hS hr fi bs
  have ll : lenD [brD bs] S = some (.int (bs.length : Nat)) := by
    show some (D.int ((bs.map sd).length : Nat)) = _
    rw [List.length_map]
  cases er : PL.run 4 R (PL.begun 4 R fi) bs with
  | on s2 =>
    rw [er] at lb
    have c : decide ((bs.length : Int) < (bs.length : Nat)) = false := decide_eq_false (by omega)
    refine bodyT_okL ?_ hS (by simp only [noCel, noCels, nc_stD, Bool.and_self])
    simp_all! only [b_behind, lb, rrD, ll, c]
  | over w2 h k p b =>
    rw [er] at lb
    by_cases c : k < bs.length
    · have c' : decide ((k : Int) < (bs.length : Nat)) = true := decide_eq_true (by omega)
      simp only [if_pos c]
      refine bodyT_errL ?_ hS rfl
      simp_all! only [b_behind, lb, rrD, ll, c', fRaise_ap, bind_err]
    · have c' : decide ((k : Int) < (bs.length : Nat)) = false := decide_eq_false (by omega)
      simp only [if_neg c]
      refine bodyT_okL ?_ hS rfl
      simp_all! only [b_behind, lb, rrD, ll, c']
theorem winner_after_ok {R : PL.Rule} (hr : R4 R) (fi : Bool) {bs : List Bool} (hl : bs.length ≤ 1000) : g_winner_after [rD R, sd fi, brD bs] S = match PL.run 4 R (PL.begun 4 R fi) bs with
    | .on _ => .ok .non S
    | .over w _ k _ _ => if k < bs.length then .err "Ended" (.int k) S else .ok (sd w) S := by
  have ch := check_match_ok hS hr fi hl
  have bh := behind_ok hS hr fi bs
  cases er : PL.run 4 R (PL.begun 4 R fi) bs with
  | on s2 =>
    rw [er] at bh
    refine bodyT_okL ?_ hS rfl
    simp_all! only [b_winner_after, ch, bh]
  | over w2 h k p b =>
    rw [er] at bh
    by_cases c : k < bs.length
    · simp only [if_pos c] at bh ⊢
      refine bodyT_errL ?_ hS rfl
      simp_all! only [b_winner_after, ch, bh, bind_err]
    · simp only [if_neg c] at bh ⊢
      refine bodyT_okL ?_ hS rfl
      simp_all! only [b_winner_after, ch, bh]
theorem going_on_ok {R : PL.Rule} (hr : R4 R) (fi : Bool) (bs : List Bool) : g_going_on [rD R, sd fi, brD bs] S = match PL.run 4 R (PL.begun 4 R fi) bs with
    | .on s => .ok (stD s) S
    | .over w _ k _ _ => if k < bs.length then .err "Ended" (.int k) S else .err "Ended" (.int bs.length) S := by
  have bh := behind_ok hS hr fi bs
  have ll : lenD [brD bs] S = some (.int (bs.length : Nat)) := by
    show some (D.int ((bs.map sd).length : Nat)) = _
    rw [List.length_map]
  cases er : PL.run 4 R (PL.begun 4 R fi) bs with
  | on s2 =>
    rw [er] at bh
    have isn : isD (stD s2) .non S = some (.bl false) := by
      show some (D.bl (DL.isNon (stD s2))) = _
      rw [isN_st]
    refine bodyT_okL ?_ hS (nc_stD _)
    simp_all! only [b_going_on, bh, isn]
  | over w2 h k p b =>
    rw [er] at bh
    by_cases c : k < bs.length
    · simp only [if_pos c] at bh ⊢
      refine bodyT_errL ?_ hS rfl
      simp_all! only [b_going_on, bh, bind_err]
    · simp only [if_neg c] at bh ⊢
      have isn : isD .non .non S = some (.bl true) := rfl
      refine bodyT_errL ?_ hS rfl
      simp_all! only [b_going_on, bh, isn, ll, fRaise_ap, bind_err]
omit hS in
theorem run_wf {R : PL.Rule} (hr : R4 R) : ∀ (bs : List Bool) (s : PL.St) {s2 : PL.St}, PL.wf 4 R s → PL.run 4 R s bs = .on s2 → PL.wf 4 R s2
  | [], s, s2, w, e => by cases e; exact w
  | b :: bs, s, s2, w, e => by
    simp only [PL.run] at e
    cases el : PL.led 4 R s b with
    | on s3 =>
      rw [el] at e
      simp only at e
      cases er : PL.run 4 R s3 bs with
      | on s4 =>
        rw [er] at e
        cases e
        exact run_wf hr bs s3 (PL.led_wf 4 hr.dep hr.ok w el) er
      | over _ _ _ _ _ => rw [er] at e; cases e
    | over _ _ => rw [el] at e; cases e
theorem server_after_ok {R : PL.Rule} (hr : R4 R) (fi : Bool) {bs : List Bool} (hl : bs.length ≤ 1000) : g_server_after [rD R, sd fi, brD bs] S = match PL.run 4 R (PL.begun 4 R fi) bs with
    | .on s => .ok (sd (PL.serverIn s)) S
    | .over w _ k _ _ => if k < bs.length then .err "Ended" (.int k) S else .err "Ended" (.int bs.length) S := by
  have ch := check_match_ok hS hr fi hl
  have go := going_on_ok hS hr fi bs
  cases er : PL.run 4 R (PL.begun 4 R fi) bs with
  | on s2 =>
    rw [er] at go
    have w := run_wf hr bs _ (PL.begun_wf 4 fi hr.dep hr.ok) er
    have sv := server_in_ok hS (s := s2) (Nat.lt_of_le_of_lt (dep_wf 4 w) (by decide))
    refine bodyT_okL ?_ hS rfl
    simp_all! only [b_server_after, ch, go, sv]
  | over w2 h k p b =>
    rw [er] at go
    by_cases c : k < bs.length
    · simp only [if_pos c] at go ⊢
      refine bodyT_errL ?_ hS rfl
      simp_all! only [b_server_after, ch, go, bind_err]
    · simp only [if_neg c] at go ⊢
      refine bodyT_errL ?_ hS rfl
      simp_all! only [b_server_after, ch, go, bind_err]
end
end Cm
set_option maxHeartbeats 4000000
namespace Cm
open PySem PySem.Spec PyProof.Rows L2 DL
theorem last_at {S : Sto} {init : List Bool} {b : Bool} : ixD (brD (init ++ [b])) (.int (-1)) S = some (sd b) := by
  show atI ((init ++ [b]).map sd) (-1) = _
  unfold atI
  rw [List.map_append, List.length_append, List.length_map]
  have e : (-1 + ((init.length : Int) + 1)).toNat = init.length := by omega
  simp [ixN, show (1 : Int) ≤ (init.length : Int) + 1 by omega, e]
theorem cut_last {S : Sto} {init : List Bool} {b : Bool} : slD (brD (init ++ [b])) none (some (-1)) S = some (brD init) := by
  show some (D.lst (DL.cutD ((init ++ [b]).map sd) none (some (-1)))) = some (D.lst (init.map sd))
  congr 2
  unfold DL.cutD
  have e1 : HT.sIx ((init ++ [b]).map sd).length 0 none = 0 := rfl
  have e2 : HT.sIx ((init ++ [b]).map sd).length ((init ++ [b]).map sd).length (some (-1)) = init.length := by
    unfold HT.sIx
    simp
    omega
  rw [e1, e2, List.drop_zero, Nat.sub_zero, List.map_append]
  exact List.take_left' (by rw [List.length_map])
section
variable {S : Sto} (hS : S.all (lowC S.length) = true)
include hS
theorem last_score_ok {R : PL.Rule} (hr : R4 R) {p : PL.St} {b : Bool} {q : Int × Int} (w : PL.wf 4 R p) (h : PL.lastScore 4 R p b = some q) : g_last_score [rD R, stD p, sd b] S = .ok (scD q) S := by
  cases R with
  | rally => cases p <;> simp [PL.lastScore] at h
  | hand => cases p <;> simp [PL.lastScore] at h
  | race need lead cap o u sp =>
    cases p with
    | leaf s => simp [PL.lastScore] at h
    | node x y f t i =>
      have hd := hr.dep
      have ok := hr.ok
      simp only [PL.Rule.depth] at hd
      simp only [PL.Rule.ok] at ok
      obtain ⟨k1, k2, k3, ko, k4, k5⟩ := ok
      obtain ⟨_, _, _, w4⟩ := w
      have dp : (PL.pickSp sp x y u).depth ≤ 3 := PL.pick_depth (by omega) (by omega)
      have ld := led_ok hS 3 (f := 16) (R := PL.pickSp sp x y u) (s := i) (b := b) dp (by omega) (by omega) (PL.pick_ok k4 k5) w4
      have un := unit_of_ok hS (need := need) (lead := lead) (cap := cap) (o := o) (u := u) (sp := sp) (x := x) (y := y)
      simp only [PL.lastScore] at h
      cases el : PL.led 3 (PL.pickSp sp x y u) i b with
      | on j => rw [el] at h; cases h
      | over w' h' =>
        rw [el] at h ld
        cases h
        have ld : g_led 16 [rD (PL.pickSp sp x y u), stD i, sd b] S = .ok (.tup [.non, .int (PL.b2i w'), sd h']) S := ld
        have s2 : slD (stD (.node x y f t i)) none (some 2) S = some (.tup [.int x, .int y]) := rfl
        have i4 : ixD (stD (.node x y f t i)) (.int 4) S = some (stD i) := at4
        have i0 : ixD (stD (.node x y f t i)) (.int 0) S = some (.int x) := atI_0
        have i1 : ixD (stD (.node x y f t i)) (.int 1) S = some (.int y) := atI_1
        refine bodyT_okL ?_ hS rfl
        simp_all! only [b_last_score, s2, un, i4, ld, i0, i1]
        rfl
def scoresR (R : PL.Rule) (rr : PL.RR) : List (Int × Int) := match rr with
  | .on s => PL.scoresIn s
  | .over _ _ _ p b => (PL.lastScore 4 R p b).toList
theorem scores_after_ok {R : PL.Rule} (hr : R4 R) (fi : Bool) {bs : List Bool} (hl : bs.length ≤ 1000) : g_scores_after [rD R, sd fi, brD bs] S = match PL.run 4 R (PL.begun 4 R fi) bs with
    | .on s => .ok (.cel S.length) (S ++ [.lst ((PL.scoresIn s).map scD)])
    | .over w h k p b => if k < bs.length then .err "Ended" (.int k) S else .ok (.cel S.length) (S ++ [.lst ((scoresR R (.over w h k p b)).map scD)]) := by
  have ch := check_match_ok hS hr fi hl
  have bh := behind_ok hS hr fi bs
  have bw := PL.begun_wf 4 fi hr.dep hr.ok
  cases er : PL.run 4 R (PL.begun 4 R fi) bs with
  | on s2 =>
    rw [er] at bh
    have w := run_wf hr bs _ bw er
    have sc := scores_in_ok hS (s := s2) (Nat.lt_of_le_of_lt (dep_wf 4 w) (by decide))
    have isn : isnotD (stD s2) .non S = some (.bl true) := by
      show some (D.bl (!DL.isNon (stD s2))) = _
      rw [isN_st]
      rfl
    refine bodyC_low (i := S.length) (T := S) (L := [.lst ((PL.scoresIn s2).map scD)]) ?_ rfl hS (Nat.le_refl _) (by simp) (noCels_low (nc_scs _))
    simp_all! only [b_scores_after, ch, bh, isn, sc]
  | over w2 h2 k p b =>
    rw [er] at bh
    by_cases c : k < bs.length
    · simp only [if_pos c] at bh ⊢
      refine bodyC_err [] ?_ rfl hS rfl
      simp_all! only [b_scores_after, ch, bh, bind_err, List.append_nil]
    · simp only [if_neg c] at bh ⊢
      have hk : k ≤ bs.length ∧ 1 ≤ k := run_k bs er
      obtain ⟨r1, ⟨init, r2⟩, r3⟩ := PL.run_split er (by omega)
      subst r2
      rw [List.dropLast_concat] at r1
      have isn : isnotD .non .non S = some (.bl false) := rfl
      cases R with
      | rally =>
        have r0 : (decide (("rally" : Str) = "race")) = false := by decide
        have sq : scoresR .rally (.over w2 h2 k p b) = [] := rfl
        rw [sq]
        refine bodyC_low (i := S.length) (T := S) (L := [.lst []]) ?_ rfl hS (Nat.le_refl _) (by simp) rfl
        have i0 : ixD (rD .rally) (.int 0) S = some (.str "rally") := atI_0
        simp_all! only [b_scores_after, ch, bh, isn, i0, r0]
      | hand =>
        have r0 : (decide (("hand" : Str) = "race")) = false := by decide
        have sq : scoresR .hand (.over w2 h2 k p b) = [] := rfl
        rw [sq]
        refine bodyC_low (i := S.length) (T := S) (L := [.lst []]) ?_ rfl hS (Nat.le_refl _) (by simp) rfl
        have i0 : ixD (rD .hand) (.int 0) S = some (.str "hand") := atI_0
        simp_all! only [b_scores_after, ch, bh, isn, i0, r0]
      | race need lead cap o u sp =>
        have r0 : (decide (("race" : Str) = "race")) = true := by decide
        have lb := led_by_ok hS hr fi init
        rw [r1] at lb
        have pw := run_wf hr init _ bw r1
        have fin : PL.finS 4 (.race need lead cap o u sp) (.over w2 h2 k p b) ≠ none := PL.run_last (n := 3) er
        simp only [PL.finS] at fin
        obtain ⟨q, hq⟩ : ∃ q, PL.lastScore 4 (.race need lead cap o u sp) p b = some q := by
          cases e : PL.lastScore 4 (.race need lead cap o u sp) p b with
          | none => exact absurd e fin
          | some q => exact ⟨q, rfl⟩
        have ls := last_score_ok hS hr pw hq
        have sq : scoresR (.race need lead cap o u sp) (.over w2 h2 k p b) = [q] := by simp only [scoresR, hq, Option.toList]
        rw [sq]
        have i0 : ixD (rD (.race need lead cap o u sp)) (.int 0) S = some (.str "race") := atI_0
        refine bodyC_low (i := S.length) (T := S) (L := [.lst [scD q]]) ?_ rfl hS (Nat.le_refl _) (by simp) rfl
        simp_all! only [b_scores_after, ch, bh, isn, i0, r0, cut_last, lb, rrD, last_at, ls]
where
  run_k {R : PL.Rule} : ∀ (bs : List Bool) {s : PL.St} {w h : Bool} {k : Nat} {p : PL.St} {b : Bool}, PL.run 4 R s bs = .over w h k p b → k ≤ bs.length ∧ 1 ≤ k
    | [], _, _, _, _, _, _, e => nomatch e
    | b1 :: bs, s, w, h, k, p, b, e => by
      simp only [PL.run] at e
      cases el : PL.led 4 R s b1 with
      | on s2 =>
        rw [el] at e
        simp only at e
        cases er : PL.run 4 R s2 bs with
        | on _ => rw [er] at e; cases e
        | over _ _ _ _ _ =>
          rw [er] at e
          simp only [PL.RR.bump] at e
          cases e
          have := run_k bs er
          simp only [List.length_cons]
          omega
      | over _ _ =>
        rw [el] at e
        cases e
        simp
end
end Cm
set_option maxHeartbeats 4000000
set_option maxHeartbeats 4000000
namespace Cm
open PySem PySem.Spec PyProof.Rows L2 DL
section
variable {L : Sto} {sv wn : List D} {ls d : D}
structure LowN (L : Sto) (sv wn : List D) (ls : D) : Prop where
  l : L.all (lowC (L.length + 3)) = true
  s : noCels sv = true
  w : noCels wn = true
  n : noCel ls = true
theorem noCels_app : ∀ {xs ys : List D}, noCels (xs ++ ys) = (noCels xs && noCels ys)
  | [], _ => by simp [noCels]
  | x :: xs, ys => by simp only [List.cons_append, noCels, noCels_app, Bool.and_assoc]
end
def wD (p : Nat × Bool) : D := .tup [.int (p.1 : Nat), sd p.2]
def lsD (q : Option (Int × Int)) (ls : D) : D := match q with
  | some p => scD p
  | none => ls
theorem nc_wDs : ∀ l : List (Nat × Bool), noCels (l.map wD) = true
  | [] => rfl
  | p :: t => by simp only [List.map_cons, noCels, noCel, wD, nc_sd, nc_wDs t, Bool.and_self]
theorem nc_lsD {q : Option (Int × Int)} {ls : D} (h : noCel ls = true) : noCel (lsD q ls) = true := by
  cases q with
  | none => exact h
  | some p => rfl
theorem LowN.more {L : Sto} {sv wn : List D} {ls : D} (h : LowN L sv wn ls) (s : List Bool) (w : List (Nat × Bool)) (q : Option (Int × Int)) : LowN L (sv ++ s.map sd) (wn ++ w.map wD) (lsD q ls) :=
  ⟨h.l, by rw [noCels_app, h.s, nc_sds]; rfl, by rw [noCels_app, h.w, nc_wDs]; rfl, nc_lsD h.n⟩
theorem len_br {S : Sto} {bs : List Bool} : lenD [brD bs] S = some (.int (bs.length : Nat)) := by
  show some (D.int ((bs.map sd).length : Nat)) = _
  rw [List.length_map]
end Cm
set_option maxHeartbeats 4000000
set_option maxHeartbeats 4000000
set_option maxHeartbeats 4000000
namespace Cm
open PySem PySem.Spec PyProof.Rows L2 DL
def scalar : D → Bool
  | .non => true
  | .bl _ => true
  | .int _ => true
  | .str _ => true
  | _ => false
def SM (S : Sto) : Nat → D → D → Prop
  | 0, x, y => x = y ∧ scalar y = true
  | n + 1, x, y => (x = y ∧ scalar y = true) ∨ (∃ xs ys : List D, x = .tup xs ∧ y = .tup ys ∧ xs.length = ys.length ∧ ys.length ≤ 1000 ∧ ∀ (i : Nat) (a b : D), xs[i]? = some a → ys[i]? = some b → SM S n a b) ∨
    (∃ xs ys : List D, lstOf S x = some xs ∧ lstOf S y = some ys ∧ xs.length = ys.length ∧ ys.length ≤ 1000 ∧ ∀ (i : Nat) (a b : D), xs[i]? = some a → ys[i]? = some b → SM S n a b)
theorem atI_nat {xs : List D} {j : Nat} {d : D} (h : xs[j]? = some d) : atI xs ((0 : Int) + (j : Nat)) = some d := by
  rw [Int.zero_add]; exact atI_at h
theorem same_seqS {S : Sto} (hS : S.all (lowC S.length) = true) {f : Nat} {w v : D} {xs ys : List D} (hw : (lstOf S v = some ys ∧ lstOf S w = some xs) ∨ (w = .tup xs ∧ v = .tup ys)) (hl : xs.length = ys.length) (h1000 : ys.length ≤ 1000)
    (ih : ∀ (i : Nat) (a b : D), xs[i]? = some a → ys[i]? = some b → g__law_same f [a, b] S = .ok (.bl true) S) : g__law_same (f + 1) [w, v] S = .ok (.bl true) S := by
  refine bodyT_okL ?_ hS rfl
  have sq : ∀ {z : D} {zs : List D}, lstOf S z = some zs → lenD [z] S = some (.int (zs.length : Nat)) ∧ (∀ i : Int, ixD z (.int i) S = atI zs i) ∧ tyD S z = some "list" ∧ isD z .non S = some (.bl false) ∧ (∀ b, isD z (.bl b) S = some (.bl false)) := fun {z zs} h => by
    cases z with
    | lst ws => cases h; exact ⟨rfl, fun _ => rfl, rfl, rfl, fun _ => rfl⟩
    | cel i =>
      refine ⟨?_, fun _ => ?_, ?_, rfl, fun _ => rfl⟩
      · unfold lenD
        simp only [seqOf, h]
        rfl
      · unfold ixD
        simp only [seqOf, h, Option.bind_some]
      · unfold tyD
        simp only [h]
        rfl
    | _ => cases h
  have lw : lenD [w] S = some (.int (ys.length : Nat)) := by
    rcases hw with ⟨_, h⟩ | ⟨rfl, _⟩
    · rw [(sq h).1, hl]
    · rw [lenD_tup, hl]
  have lv : lenD [v] S = some (.int (ys.length : Nat)) := by
    rcases hw with ⟨h, _⟩ | ⟨_, rfl⟩
    · exact (sq h).1
    · rfl
  have ix : ∀ (j : Nat) (d : D), xs[j]? = some d → ixD w (.int (0 + (j : Nat))) S = some d := fun j d h => by
    rcases hw with ⟨_, h2⟩ | ⟨rfl, _⟩
    · rw [(sq h2).2.1]; exact atI_nat h
    · rw [ixD_tup]; exact atI_nat h
  have iy : ∀ (j : Nat) (d : D), ys[j]? = some d → ixD v (.int (0 + (j : Nat))) S = some d := fun j d h => by
    rcases hw with ⟨h2, _⟩ | ⟨_, rfl⟩
    · rw [(sq h2).2.1]; exact atI_nat h
    · rw [ixD_tup]; exact atI_nat h
  have lr : (rangeD 0 ys.length).length = ys.length := rangeD_len
  have it := fiRng1_nat (f := fCons (fCB lenD (fCons (fVar 1) fNil)) fNil) (ρ := [some w, some v, none]) (S := S) (S1 := S) (j := ys.length) (by simp_all! only [lv]) (by omega)
  have l1 := fLc_pure (vs := [2]) (fi := fiRng1 (fCons (fCB lenD (fCons (fVar 1) fNil)) fNil)) (g := fgName 2) (c := fNot (fB (fCall 2 (g__law_same f) (fCons (fOp ixD (fVar 0) (fVar 2)) (fCons (fOp ixD (fVar 1) (fVar 2)) fNil))))) (el := fVar 2) (ρ := [some w, some v, none]) (S := S) (xs := rangeD 0 ys.length)
    (fun _ => false) id it (capN_of (by omega)) (fun m hm => by
      unfold rangeD at hm
      obtain ⟨j, hj, rfl⟩ := List.mem_map.mp hm
      have hj' := List.mem_range.mp hj
      have e := iy j _ (List.getElem?_eq_getElem hj')
      have e1 := ix j _ (List.getElem?_eq_getElem (show j < xs.length by omega))
      have e2 := ih j _ _ (List.getElem?_eq_getElem (show j < xs.length by omega)) (List.getElem?_eq_getElem hj')
      refine ⟨[some w, some v, some (.int (0 + (j : Nat)))], rfl, ?_, fun h => by cases h⟩
      simp_all! only [e, e1, e2])
  have fl : ((rangeD 0 ys.length).filter fun _ => false) = [] := by simp
  rw [fl] at l1
  have l2 := eqD_nil (S := S) (xs := []) (n := 0) rfl (by omega)
  rcases hw with ⟨h2, h⟩ | ⟨rfl, rfl⟩
  · have q1 : isiB "list" "list" = true := by decide
    have q2 : isiB "tuple" "list" = false := by decide
    have q3 : isiB "tuple" "tuple" = true := by decide
    have q4 : isiB "list" "tuple" = false := by decide
    have n1 := (sq h2).2.2.2.1
    have n2 := (sq h2).2.2.2.2 true
    have n3 := (sq h2).2.2.2.2 false
    have tw := (sq h).2.2.1
    have tv := (sq h2).2.2.1
    simp only [fC_ap, fVar_ap, fOp_ap, fB_ap, fAnd_ap, fOr_ap, fNot_ap, fAndV_ap, fOrV_ap, fNotV_ap, fIf_ap, fNil_ap, fCons_ap, fTup_ap, fLst_ap, fLstC_ap, fNoPart_ap, fPart_ap, fSl_ap, fNeg_ap, fCB_ap, fIsi_ap, fIsi2_ap, fNext_ap, fSeq_ap, fRet_ap, fRetF_ap, fgName_ap, fgNil_ap, fgCons_ap, fgTup_ap, fgSub_ap, fAsg_ap, fPar_ap, fPar3_ap, fDrop_ap, fApp_ap, fIfS_ap, fiSeq_ap, fiTup_ap, fiEnum_ap, fYes_ap, fCall_ap, fCall0_ap, fChain_ap, fBits_ap, fAddC_ap, fiAny_ap, Res.bind_ok, asB_ok, okO_some, bodyD, asB, iterOf, withLock_none, noErr_ok, wipeE, List.map_cons, List.map_nil, List.length_cons, List.length_nil, List.cons_append, List.nil_append, List.getElem?_cons_zero, List.getElem?_cons_succ, List.set_cons_zero, List.set_cons_succ, if_true, Bool.false_eq_true, if_false, Nat.reduceAdd, Nat.reduceSub, Nat.zero_add, List.replicate, atI_0, atI_1, lenD_lst, lenD_tup, ixD_tup, ixD_lst, eqD_int, eqD_str, neD_int, neD_str, leD_int, ltD_int, gtD_int, geD_int, addD_int, subD_int, intD_int, px0, px1, px2, ps0, ps2, List.length_append, decide_true, decide_false, capN, Nat.zero_le, Nat.reduceLeDiff, Nat.reduceEqDiff, Nat.reduceLT, Bool.not_true, Bool.not_false, Bool.true_and, Bool.false_and, tv, b__law_same, lw, lv, tw, l1, n1, n2, n3, q1, q2, q3, q4, l2, List.map_nil, decide_true, Bool.true_or, Bool.or_true, Bool.false_or, Bool.or_false, Bool.and_false]
    rfl
  · have q1 : isiB "list" "list" = true := by decide
    have q2 : isiB "tuple" "list" = false := by decide
    have q3 : isiB "tuple" "tuple" = true := by decide
    have q4 : isiB "list" "tuple" = false := by decide
    have n1 : isD (.tup ys) .non S = some (.bl false) := rfl
    have n2 : isD (.tup ys) (.bl true) S = some (.bl false) := rfl
    have n3 : isD (.tup ys) (.bl false) S = some (.bl false) := rfl
    simp_all! only [b__law_same, lw, lv, hl, l1, n1, n2, n3, q1, q2, q3, q4, l2, List.map_nil, decide_true, Bool.true_or, Bool.or_true, Bool.false_or, Bool.or_false, Bool.and_false]
    rfl
theorem same_scalar {S : Sto} (hS : S.all (lowC S.length) = true) {f : Nat} {d : D} (h : scalar d = true) : g__law_same (f + 1) [d, d] S = .ok (.bl true) S := by
  cases d with
  | non => exact bodyT_okL (by rfl) hS rfl
  | bl b => cases b <;> exact bodyT_okL (by rfl) hS rfl
  | int i =>
    refine bodyT_okL ?_ hS rfl
    have n1 : isD (.int i) .non S = some (.bl false) := rfl
    have n2 : isD (.int i) (.bl true) S = some (.bl false) := rfl
    have n3 : isD (.int i) (.bl false) S = some (.bl false) := rfl
    have q1 : isiB "int" "list" = false := by decide
    have q2 : isiB "int" "tuple" = false := by decide
    have q3 : isiB "int" "int" = true := by decide
    have q4 : isiB "int" "bool" = false := by decide
    simp_all! only [b__law_same, n1, n2, n3, q1, q2, q3, q4, decide_true, Bool.or_self, Bool.or_false]
  | str x =>
    refine bodyT_okL ?_ hS rfl
    have n1 : isD (.str x) .non S = some (.bl false) := rfl
    have n2 : isD (.str x) (.bl true) S = some (.bl false) := rfl
    have n3 : isD (.str x) (.bl false) S = some (.bl false) := rfl
    have q1 : isiB "str" "list" = false := by decide
    have q2 : isiB "str" "tuple" = false := by decide
    have q3 : isiB "str" "int" = false := by decide
    have q4 : isiB "str" "str" = true := by decide
    simp_all! only [b__law_same, n1, n2, n3, q1, q2, q3, q4, decide_true, Bool.or_self, Bool.or_false]
  | _ => cases h
theorem same_ok {S : Sto} (hS : S.all (lowC S.length) = true) : ∀ (n f : Nat), n + 1 ≤ f → ∀ {x y : D}, SM S n x y → g__law_same f [x, y] S = .ok (.bl true) S
  | _, 0, h, _, _, _ => absurd h (by omega)
  | 0, f + 1, _, x, y, ⟨h1, h2⟩ => by subst h1; exact same_scalar hS h2
  | n + 1, f + 1, hf, x, y, h => by
    rcases h with ⟨h1, h2⟩ | ⟨xs, ys, h1, h2, h3, h4, h5⟩ | ⟨xs, ys, h1, h2, h3, h4, h5⟩
    · subst h1; exact same_scalar hS h2
    · exact same_seqS hS (.inr ⟨h1, h2⟩) h3 h4 fun i a b ha hb => same_ok hS n f (by omega) (h5 i a b ha hb)
    · exact same_seqS hS (.inl ⟨h2, h1⟩) h3 h4 fun i a b ha hb => same_ok hS n f (by omega) (h5 i a b ha hb)
theorem SM.scal {S : Sto} {n : Nat} {d : D} (h : scalar d = true) : SM S n d d := by
  cases n with
  | zero => exact ⟨rfl, h⟩
  | succ n => exact .inl ⟨rfl, h⟩
theorem SM.sc {S : Sto} {n : Nat} (p : Int × Int) : SM S (n + 1) (scD p) (scD p) := by
  refine .inr (.inl ⟨[.int p.1, .int p.2], [.int p.1, .int p.2], rfl, rfl, rfl, by simp, fun i a b ha hb => ?_⟩)
  rw [ha] at hb
  cases hb
  match i, ha with
  | 0, ha => cases ha; exact SM.scal rfl
  | 1, ha => cases ha; exact SM.scal rfl
  | i + 2, ha => simp at ha
theorem SM.two {S : Sto} {n : Nat} {a b c d : D} (h1 : SM S n a c) (h2 : SM S n b d) : SM S (n + 1) (.lst [a, b]) (.lst [c, d]) := by
  refine .inr (.inr ⟨[a, b], [c, d], rfl, rfl, rfl, by simp, fun i x y hx hy => ?_⟩)
  match i, hx, hy with
  | 0, hx, hy => cases hx; cases hy; exact h1
  | 1, hx, hy => cases hx; cases hy; exact h2
  | i + 2, hx, _ => simp at hx
end Cm
set_option maxHeartbeats 4000000
set_option maxHeartbeats 4000000
namespace Cm
open PySem PySem.Spec PyProof.Rows L2 DL
theorem low_snoc {S : Sto} {xs : List D} (hS : S.all (lowC S.length) = true) (h : noCels xs = true) : (S ++ [CO.lst xs]).all (lowC (S ++ [CO.lst xs]).length) = true := by
  have e : (S ++ [CO.lst xs]).length = S.length + 1 := by simp
  rw [e, List.all_append, List.all_cons]
  have a : S.all (lowC (S.length + 1)) = true := List.all_eq_true.mpr fun x m => lowC_up (by omega) (List.all_eq_true.mp hS x m)
  have b : lowC (S.length + 1) (.lst xs) = true := noCels_low h
  rw [a, b]
  rfl
theorem sl_take {bs : List Bool} {k : Nat} (T : Sto) (h : k ≤ bs.length) : slD (brD bs) none (some (k : Nat)) T = some (brD (bs.take k)) := by
  unfold slD brD
  show (some (bs.map sd)).map (fun xs => D.lst (DL.cutD xs none (some (k : Nat)))) = _
  have e0 : HT.sIx (bs.map sd).length 0 none = 0 := rfl
  have e1 : HT.sIx (bs.map sd).length (bs.map sd).length (some (k : Nat)) = k := by rw [HT.sIx_nat, List.length_map]; omega
  simp only [Option.map_some, DL.cutD, e0, e1, List.drop_zero, Nat.sub_zero, List.map_take]
end Cm
set_option maxHeartbeats 4000000
namespace Cm
open PySem PySem.Spec PyProof.Rows L2 DL
abbrev N_servers_of : List Str := ["rule", "first", "rallies", "servers", "state", "side"]
def b_servers_of (g_check_match g_behind g_begun g_server_in g_led : GF) : FS :=
    (fSeq (fDrop (fCall 3 g_check_match (fCons (fVar 0) (fCons (fVar 1) (fCons (fVar 2) fNil)))))
    (fSeq (fDrop (fCall 3 g_behind (fCons (fVar 0) (fCons (fVar 1) (fCons (fVar 2) fNil)))))
    (fSeq (fAsg (fLstC fNil) (fgName 3))
    (fSeq (fAsg (fCall 2 g_begun (fCons (fVar 0) (fCons (fVar 1) fNil))) (fgName 4))
    (fSeq (fFor (fiAny (fVar 2)) (fgName 5) (fSeq (fDrop (fApp (fVar 3) (fCall 1 g_server_in (fCons (fVar 4) fNil))))
    (fAsg (fOp ixD (fCall 3 g_led (fCons (fVar 0) (fCons (fVar 4) (fCons (fVar 5) fNil)))) (fC (.int 0))) (fgName 4))))
    (fRet (fVar 3)))))))
def g_servers_of : GF := bodyC N_servers_of 3 (b_servers_of g_check_match g_behind (g_begun 16) g_server_in (g_led 16))
end Cm
set_option maxHeartbeats 4000000
set_option maxHeartbeats 4000000
namespace Cm
open PySem PySem.Spec PyProof.Rows L2 DL
theorem begun_wf {R : PL.Rule} (hr : R4 R) (fi : Bool) : PL.wf 4 R (PL.begun 4 R fi) := PL.begun_wf 4 fi hr.dep hr.ok
section
variable {S : Sto}
theorem serv_loop (hS : S.all (lowC S.length) = true) {R : PL.Rule} (hr : R4 R) {fi l : D} : ∀ (bs acc : List Bool) (s : PL.St) (e5 : Option D), PL.wf 4 R s → acc.length + bs.length ≤ 1000 → (∀ w h k p b, PL.run 4 R s bs = .over w h k p b → k = bs.length) →
    ∃ z4 z5 : Option D, loopD (fgName 5) ((fSeq (fDrop (fApp (fVar 3) (fCall 1 g_server_in (fCons (fVar 4) fNil)))) (fAsg (fOp ixD (fCall 3 (g_led 16) (fCons (fVar 0) (fCons (fVar 4) (fCons (fVar 5) fNil)))) (fC (.int 0))) (fgName 4)))) (bs.map sd) [some (Cm.rD R), some fi, some l, some (.cel S.length), some (stD s), e5] (S ++ [.lst (acc.map sd)]) =
      .ok (.nx, [some (Cm.rD R), some fi, some l, some (.cel S.length), z4, z5]) (S ++ [.lst ((acc ++ (PL.trace 4 R s bs).map (·.1)).map sd)])
  | [], acc, s, e5, w, hl, hk => ⟨_, _, by simp only [PL.trace, List.map_nil, List.append_nil]; rfl⟩
  | b :: bs, acc, s, e5, w, hl, hk => by
    have l1 := low_snoc hS (nc_sds acc)
    have l2 := low_snoc hS (nc_sds (acc ++ [PL.serverIn s]))
    have sv := server_in_ok l1 (s := s) (Nat.lt_of_le_of_lt (dep_wf 4 w) (by decide))
    have ld := led_ok l2 4 (f := 16) (R := R) (s := s) (b := b) hr.dep (by have := hr.dep; omega) (by have := hr.dep; omega) hr.ok w
    have ap := ap_end (S := S) (xs := acc.map sd) (d := sd (PL.serverIn s)) (capN_of (by rw [List.length_map]; simp only [List.length_cons] at hl; omega))
    have ea : acc.map sd ++ [sd (PL.serverIn s)] = (acc ++ [PL.serverIn s]).map sd := by simp
    rw [ea] at ap
    have ls : lstOf (S ++ [.lst (acc.map sd)]) (.cel S.length) = some (acc.map sd) := ls_end
    have st : fgName 5 (sd b) [some (Cm.rD R), some fi, some l, some (.cel S.length), some (stD s), e5] (S ++ [.lst (acc.map sd)]) = .ok [some (Cm.rD R), some fi, some l, some (.cel S.length), some (stD s), some (sd b)] (S ++ [.lst (acc.map sd)]) := rfl
    rw [List.map_cons]
    unfold loopD PL.trace
    simp only [st, Res.bind_ok]
    have bd : ∀ z, ixD (lrD (PL.led 4 R s b)) (.int 0) (S ++ [.lst ((acc ++ [PL.serverIn s]).map sd)]) = some z → ((fSeq (fDrop (fApp (fVar 3) (fCall 1 g_server_in (fCons (fVar 4) fNil)))) (fAsg (fOp ixD (fCall 3 (g_led 16) (fCons (fVar 0) (fCons (fVar 4) (fCons (fVar 5) fNil)))) (fC (.int 0))) (fgName 4))) : FS) [some (Cm.rD R), some fi, some l, some (.cel S.length), some (stD s), some (sd b)] (S ++ [.lst (acc.map sd)]) = .ok (.nx, [some (Cm.rD R), some fi, some l, some (.cel S.length), some z, some (sd b)]) (S ++ [.lst ((acc ++ [PL.serverIn s]).map sd)]) := fun z hz => by
      simp! only [sv, ls, ap, ld, hz]
    cases el : PL.led 4 R s b with
    | on s2 =>
      rw [el] at bd
      have bd := bd (stD s2) rfl
      obtain ⟨z4, z5, ih⟩ := serv_loop hS hr (fi := fi) (l := l) bs (acc ++ [PL.serverIn s]) s2 (some (sd b)) (PL.led_wf 4 hr.dep hr.ok w el) (by simp only [List.length_append, List.length_cons, List.length_nil] at hl ⊢; omega) (fun w' h' k' p' b' e => by
        have q := hk w' h' (k' + 1) p' b' (by simp only [PL.run, el, e, PL.RR.bump])
        simp only [List.length_cons] at q
        omega)
      refine ⟨z4, z5, ?_⟩
      simp only [bd, Res.bind_ok, ih, List.map_cons, List.append_assoc, List.cons_append, List.nil_append]
    | over w2 h2 =>
      rw [el] at bd
      have bd := bd .non rfl
      have q := hk w2 h2 1 s b (by simp only [PL.run, el])
      obtain rfl : bs = [] := by
        cases bs with
        | nil => rfl
        | cons _ _ => simp at q
      refine ⟨some .non, some (sd b), ?_⟩
      simp only [bd, Res.bind_ok, List.map_cons, List.map_nil]
      rfl
theorem servers_of_ok (hS : S.all (lowC S.length) = true) {R : PL.Rule} (hr : R4 R) (fi : Bool) {bs : List Bool} (hl : bs.length ≤ 900) (hk : ∀ w h k p b, PL.run 4 R (PL.begun 4 R fi) bs = .over w h k p b → k = bs.length) :
    g_servers_of [Cm.rD R, sd fi, brD bs] S = .ok (.cel S.length) (S ++ [.lst ((PL.trace 4 R (PL.begun 4 R fi) bs).map fun p => sd p.1)]) := by
  have ch := check_match_ok hS hr fi (bs := bs) (by omega)
  have bh := behind_ok hS hr fi bs
  have bg := begun_ok (low_snoc hS (xs := []) rfl) 4 16 (R := R) (s := fi) hr.dep (by have := hr.dep; omega) hr.ok
  obtain ⟨d, bh⟩ : ∃ d, Cm.g_behind [Cm.rD R, sd fi, brD bs] S = .ok d S := by
    cases er : PL.run 4 R (PL.begun 4 R fi) bs with
    | on s => rw [er] at bh; exact ⟨_, bh⟩
    | over w h k p b =>
      rw [er] at bh
      simp only [if_neg (show ¬ k < bs.length by have := hk w h k p b er; omega)] at bh
      exact ⟨_, bh⟩
  obtain ⟨z4, z5, lp⟩ := serv_loop hS hr (fi := sd fi) (l := brD bs) bs [] (PL.begun 4 R fi) none (begun_wf hr fi) (by simp; omega) hk
  simp only [List.nil_append, List.map_map, List.map_nil] at lp
  have nc : noCels ((PL.trace 4 R (PL.begun 4 R fi) bs).map (sd ∘ fun p => p.1)) = true := by rw [← List.map_map]; exact nc_sds _
  refine (bodyC_low (i := S.length) (xs := (PL.trace 4 R (PL.begun 4 R fi) bs).map (sd ∘ fun p => p.1)) (T := S) (L := [.lst ((PL.trace 4 R (PL.begun 4 R fi) bs).map (sd ∘ fun p => p.1))]) ?_ rfl hS (Nat.le_refl _) (by simp) (noCels_low nc))
  refine bodyD_rt (ρ1 := [some (Cm.rD R), some (sd fi), some (brD bs), some (.cel S.length), z4, z5]) ?_
  refine (fSeq_nx (ρ1 := [some (Cm.rD R), some (sd fi), some (brD bs), none, none, none]) (S1 := S) ?_).trans ?_
  · simp_all! only [ch]
  refine (fSeq_nx (ρ1 := [some (Cm.rD R), some (sd fi), some (brD bs), none, none, none]) (S1 := S) ?_).trans ?_
  · simp_all! only [bh]
  refine (fSeq_nx (ρ1 := [some (Cm.rD R), some (sd fi), some (brD bs), some (.cel S.length), none, none]) (S1 := S ++ [.lst []]) ?_).trans ?_
  · simp! only []
  refine (fSeq_nx (ρ1 := [some (Cm.rD R), some (sd fi), some (brD bs), some (.cel S.length), some (stD (PL.begun 4 R fi)), none]) (S1 := S ++ [.lst []]) ?_).trans ?_
  · simp! only [bg]
  refine (fSeq_nx (fFor_st (xs := bs.map sd) ?_ lp)).trans ?_
  · rfl
  · simp! only []
end
def whole (m : Nat) : PL.RR → Bool
  | .on _ => true
  | .over _ _ k _ _ => k == m
end Cm
set_option maxHeartbeats 4000000
set_option maxHeartbeats 4000000
set_option maxHeartbeats 4000000
namespace DL
open PySem PySem.Spec PyProof.Rows L2
section
variable {X : Cx} {W : WX} {ca : Str → Addr} {e a b : Expr} {es : List Expr} {pos : Pos}
def fFrz (f : FE) : FE := fun ρ S => (f ρ S).bind fun d S1 => match frzD S1 d with
  | some (d', S2) => .ok d' S2
  | none => .bad
theorem se_frz {f : FE} (h : SE X W ca e f) : SE X W ca e (fFrz f) := by
  refine se_of h.pe fun σ H Q ⟨A, Z, S, ρ, ok, sl, p⟩ => ?_
  refine ⟨A, Z, S, ρ, ok, sl, (Post.split p).imp fun B T I d gr q v rv => ?_⟩
  cases e1 : frzD T d with
  | none => rw [e1] at q; exact q.elim
  | some r =>
    rw [e1] at q
    obtain ⟨g2, r2⟩ := frzD_at gr.ok rv e1
    exact q B I g2 v r2
end
def pairD (p : Int × Int) : D := .tup [.int p.1, .int p.2]
end DL
set_option maxHeartbeats 4000000
set_option maxHeartbeats 4000000
set_option maxHeartbeats 4000000
namespace Cm
open PySem PySem.Spec PyProof.Rows L2 DL
structure Mt where
  home : Nat
  guest : Nat
  first : Bool
  bs : List Bool
def Mt.D (m : Mt) : D := .tup [.int (m.home : Nat), .int (m.guest : Nat), sd m.first, brD m.bs]
def TS (S : Sto) (t : List Int × List (Int × Int)) : Sto := S ++ [.lst (t.1.map D.int), .lst (t.2.map DL.pairD)]
end Cm
set_option maxHeartbeats 4000000
set_option maxHeartbeats 4000000
set_option maxHeartbeats 4000000
namespace Cm
open PySem PySem.Spec PyProof.Rows L2 DL
theorem run_snoc {n : Nat} {R : PL.Rule} (b : Bool) : ∀ (bs : List Bool) (s : PL.St) {s2 : PL.St}, PL.run n R s bs = .on s2 → PL.run n R s (bs ++ [b]) = match PL.led n R s2 b with
    | .on s3 => .on s3
    | .over w h => .over w h (bs.length + 1) s2 b
  | [], s, s2, e => by
    cases e
    simp only [List.nil_append, PL.run]
    cases PL.led n R s b <;> rfl
  | c :: bs, s, s2, e => by
    simp only [PL.run] at e
    simp only [List.cons_append, PL.run]
    cases el : PL.led n R s c with
    | over v h => rw [el] at e; cases e
    | on s1 =>
      rw [el] at e
      simp only at e ⊢
      cases er : PL.run n R s1 bs with
      | over _ _ _ _ _ => rw [er] at e; cases e
      | on s3 =>
        rw [er] at e
        cases e
        have ih := run_snoc b bs s1 er
        rw [ih]
        cases PL.led n R s2 b <;> rfl
end Cm
set_option maxHeartbeats 4000000
namespace Cm
open PySem PySem.Spec PyProof.Rows L2 DL
def Sh (k n : Nat) (d : D) : Prop := ∃ p, (∀ S, toP S d = some p) ∧ p.showable = true ∧ p.depth ≤ k ∧ p.shown.length ≤ n
theorem Sh.le {k n k2 n2 : Nat} {d : D} (h : Sh k n d) (hk : k ≤ k2) (hn : n ≤ n2) : Sh k2 n2 d := by
  obtain ⟨p, a, b, c, e⟩ := h
  exact ⟨p, a, b, by omega, by omega⟩
end Cm
set_option maxHeartbeats 4000000
set_option maxHeartbeats 4000000
namespace DL
open PySem PySem.Spec PyProof.Rows L2
def idxD (o d : D) (S : Sto) : Option D := match toP S d, toP S o with
  | some p, some (.list qs) => if SeqAt.shaped p && SeqAt.shaped (.list qs) then (qs.findIdx? fun z => PyData.eqv z p).map fun j => .int (j : Nat) else none
  | _, _ => none
def fIdxD (fo f : FE) : FE := fun ρ S => (fo ρ S).bind fun o S1 => match lstOf S1 o with
  | some _ => (f ρ S1).bind fun d S2 => okO (match lstOf S2 o with
    | some _ => idxD o d S2
    | none => none) S2
  | none => .bad
section
variable {X : Cx} {W : WX} {ca : Str → Addr} {e a b c : Expr} {es : List Expr} {pos : Pos}
theorem se_idxD {o : Expr} {fo f : FE} {apos : Pos} (hu : X.A.units + 65 < cLine) (ho : SE X W ca o fo) (he : SE X W ca e f) (hbase : attributeBase o "index" X.env (eval o X.env) = eval o X.env := by rfl)
    (hfew : ((backTo pos (starEach [e] X.env)).all (fun x => !x.1) && (backToKw pos (keywordEach [] X.env)).all (fun x => x.1.isSome) && decide ([e].length + ([] : List Keyword).length + (if ([] : List Keyword).isEmpty then 0 else 1) < 30)) = true := by rfl)
    (hline : (apos.endLine == pos.line) = true := by rfl) (hs : starEach [e] X.env = (false, eval e X.env) :: starEach [] X.env := by rfl) (hplain : (backTo pos (starEach [] X.env)).any (·.1) = false := by rfl) :
    SE X W ca (.Call (.Attribute o "index" apos) [e] [] pos) (fIdxD fo f) := by
  refine se_of (pe_bm PySem.F.plainAttrs_list PySem.F.slot_list_index PySem.F.type_list_index (mt_indexD hu) ho.pe (pa_cons he.pe pa_nil hs) hbase hfew hline hs hplain) fun σ H Q ⟨A, Z, S, ρ, ok, sl, p⟩ => ?_
  refine ⟨A, Z, S, ρ, ok, sl, (Post.split p).imp fun B T I o' gr q w rw_ => ?_⟩
  cases e0 : lstOf T o' with
  | none => rw [e0] at q; exact q.elim
  | some ys =>
    rw [e0] at q
    obtain ⟨a0, vs0, rfl, h1, _⟩ := lstOf_at gr.ok rw_ e0
    refine ⟨.inl ⟨rfl, _, SqL.of h1⟩, B, Z, T, ρ, gr.ok, sl.grow gr, (Post.split q).imp fun C U J d gr2 q2 x rx => ?_⟩
    cases e1 : lstOf U o' with
    | none => rw [e1] at q2; exact q2.elim
    | some zs =>
      rw [e1] at q2
      dsimp only at q2
      cases e2 : idxD o' d U with
      | none => rw [e2] at q2; exact q2.elim
      | some r =>
        rw [e2] at q2
        unfold idxD at e2
        split at e2
        · rename_i p qs t1 t2
          split at e2
          · rename_i hc
            rw [Bool.and_eq_true] at hc
            cases e3 : qs.findIdx? fun z => PyData.eqv z p with
            | none => rw [e3] at e2; cases e2
            | some j =>
              rw [e3] at e2
              cases e2
              obtain ⟨hj, k1, k2⟩ := List.findIdx?_eq_some_iff_getElem.mp e3
              refine ⟨a0, x, p, qs, j, qs[j], rfl, rfl, toP_at gr2.ok (rw_.grow gr2) t2, toP_at gr2.ok rx t1, hc.2, hc.1, List.getElem?_eq_getElem hj, k1, fun m z' hm hz => ?_, q2 C J (.refl gr2.ok) _ (.int _)⟩
              obtain ⟨hm2, rfl⟩ := List.getElem?_eq_some_iff.mp hz
              have := k2 m hm
              simpa using this
          · cases e2
        · cases e2
end
end DL
set_option maxHeartbeats 4000000
namespace DL
open PySem PySem.Spec PyProof.Rows L2
def inS (a b : Str) : Bool := match a.cps.toList with
  | [c] => decide (c ∈ b.cps.toList)
  | _ => !(Builtin.Str.occurrences b a 0 b.length 1).isEmpty
section
variable {X : Cx}
def stepsD (lo c : Int) (n : Nat) : List D := (List.range n).map fun i => .int (lo + (i : Nat) * c)
def fiRng3 (f : FA) : FI := fun ρ S => (f ρ S).bind fun ds S1 => match ds with
  | [.int i, .int j, .int c] => if decide (c ≠ 0) && ltN c 1073741824 && Builtin.Range.small i j c then .ok ⟨stepsD i c (Builtin.Range.rangeSize i j c).toNat, none⟩ S1 else .bad
  | _ => .bad
theorem itc_ok {K : PySem.W.Frag} {A Z : List Addr} {S : Sto} {H : Hp} {lo c : Int} {n : Nat} : ItOk K Z (Itc lo c n) ⟨stepsD lo c n, none⟩ A S H where
  here := fun j e => by cases e
  go := fun Zx A' S' H' i g ha hi => by simp only [stepsD, List.length_map, List.length_range] at hi; exact hi
  stop := fun Zx A' S' H' g ha => by show n ≤ _; simp only [stepsD, List.length_map, List.length_range]; exact Nat.le_refl _
  yld := fun Zx A' S' H' i x H'' g ha hy hi => by
    obtain ⟨rfl, rfl⟩ := hy
    simp only [stepsD, List.length_map, List.length_range] at hi
    refine ⟨.refl g.ok, _, ?_, .int _⟩
    unfold stepsD
    rw [List.getElem?_map, List.getElem?_range hi]
    rfl
variable {W : WX} {ca : Str → Addr} {e a b c : Expr} {es : List Expr} {pos : Pos}
theorem si_range3 {tg : Expr} {f : FA} {p : Pos} (hg : Gl X "range") (hm : X.mg "range" = none) (h : SA X W ca [a, b, c] f) (hs : starEach [a, b, c] X.env = (false, eval a X.env) :: starEach [b, c] X.env := by rfl) (hpl : (backTo pos (starEach [b, c] X.env)).any (·.1) = false := by rfl) :
    SI X W ca tg (.Call (.Name "range" p) [a, b, c] [] pos) (fiRng3 f) := ⟨pi_imp (pi_range3 hg hm h.pa hs hpl) fun σ H R ⟨A, Z, S, ρ, ok, sl, p⟩ => by
  refine ⟨A, Z, S, ρ, ok, sl, (Post.split p).imp fun B T I ds gr q vs rv => ?_⟩
  split at q
  · rename_i i j k
    cases rv with
    | cons r1 r2 =>
      cases r2 with
      | cons r2 r3 =>
        cases r3 with
        | cons r3 r4 =>
          cases r1; cases r2; cases r3; cases r4
          split at q
          · rename_i hc
            simp only [Bool.and_eq_true, decide_eq_true_eq] at hc
            obtain ⟨⟨c1, c2⟩, c3⟩ := hc
            refine ⟨i, j, k, _, rfl, ⟨c1, by have := ltN_at c2; omega, c3, rangeSize_toNat i j k⟩, q B I (.refl gr.ok) _ itc_ok⟩
          · exact q.elim
  · exact q.elim⟩
end
end DL
set_option maxHeartbeats 4000000
namespace DL
open PySem PySem.Spec PyProof.Rows L2
instance decMemK (k : L2.Key) (l : List L2.Key) : Decidable (k ∈ l) := @List.instDecidableMemOfLawfulBEq L2.Key instBEqOfDecidableEq inferInstance k l
end DL
set_option maxHeartbeats 4000000
set_option maxHeartbeats 4000000
set_option maxHeartbeats 4000000
namespace DL
open PySem PySem.Spec PyProof.Rows L2
variable {X : Cx} {W : WX} {ca : Str → Addr}
end DL
set_option maxHeartbeats 4000000
namespace K07
open PySem PySem.Spec PyProof.Rows L2 DL
abbrev GF := List D → Sto → Res D
abbrev xsL : List Str := ["InvalidRule", "InvalidSide", "InvalidRallies", "Ended"]
abbrev ysL : List Str := []
abbrev c_ORDERS : D := Cm.c_ORDERS
abbrev c_DEEPEST : D := Cm.c_DEEPEST
abbrev N_is_whole := Cm.N_is_whole
abbrev b_is_whole := Cm.b_is_whole
abbrev g_is_whole := Cm.g_is_whole
abbrev N_is_count := Cm.N_is_count
abbrev b_is_count := Cm.b_is_count
abbrev g_is_count := Cm.g_is_count
abbrev N_is_between := Cm.N_is_between
abbrev b_is_between := Cm.b_is_between
abbrev g_is_between := Cm.g_is_between
abbrev N_is_side := Cm.N_is_side
abbrev b_is_side := Cm.b_is_side
abbrev g_is_side := Cm.g_is_side
abbrev N_are_rallies := Cm.N_are_rallies
abbrev b_are_rallies := Cm.b_are_rallies
abbrev g_are_rallies := Cm.g_are_rallies
abbrev N_is_word := Cm.N_is_word
abbrev b_is_word := Cm.b_is_word
abbrev g_is_word := Cm.g_is_word
abbrev N_is_order := Cm.N_is_order
abbrev b_is_order := Cm.b_is_order
abbrev g_is_order := Cm.g_is_order
abbrev N_are_numbers_of_race := Cm.N_are_numbers_of_race
abbrev b_are_numbers_of_race := Cm.b_are_numbers_of_race
abbrev g_are_numbers_of_race := Cm.g_are_numbers_of_race
abbrev N_is_score := Cm.N_is_score
abbrev b_is_score := Cm.b_is_score
abbrev g_is_score := Cm.g_is_score
abbrev N_is_special := Cm.N_is_special
abbrev b_is_special := Cm.b_is_special
abbrev g_is_special := Cm.g_is_special
abbrev N_are_specials := Cm.N_are_specials
abbrev b_are_specials := Cm.b_are_specials
abbrev g_are_specials := Cm.g_are_specials
abbrev N_is_rule_within := Cm.N_is_rule_within
abbrev b_is_rule_within := Cm.b_is_rule_within
abbrev g_is_rule_within := Cm.g_is_rule_within
abbrev N_is_rule := Cm.N_is_rule
abbrev b_is_rule := Cm.b_is_rule
abbrev g_is_rule := Cm.g_is_rule
abbrev N_check_rule := Cm.N_check_rule
abbrev b_check_rule := Cm.b_check_rule
abbrev g_check_rule := Cm.g_check_rule
abbrev N_check_side := Cm.N_check_side
abbrev b_check_side := Cm.b_check_side
abbrev g_check_side := Cm.g_check_side
abbrev N_check_rallies := Cm.N_check_rallies
abbrev b_check_rallies := Cm.b_check_rallies
abbrev g_check_rallies := Cm.g_check_rallies
abbrev N_unit_of := Cm.N_unit_of
abbrev b_unit_of := Cm.b_unit_of
abbrev g_unit_of := Cm.g_unit_of
abbrev N_begun := Cm.N_begun
abbrev b_begun := Cm.b_begun
abbrev g_begun := Cm.g_begun
abbrev N_is_won := Cm.N_is_won
abbrev b_is_won := Cm.b_is_won
abbrev g_is_won := Cm.g_is_won
abbrev N_next_turn := Cm.N_next_turn
abbrev b_next_turn := Cm.b_next_turn
abbrev g_next_turn := Cm.g_next_turn
abbrev N_led_race := Cm.N_led_race
abbrev b_led_race := Cm.b_led_race
abbrev g_led_race := Cm.g_led_race
abbrev N_led := Cm.N_led
abbrev b_led := Cm.b_led
abbrev g_led := Cm.g_led
abbrev N_server_in := Cm.N_server_in
abbrev b_server_in := Cm.b_server_in
abbrev g_server_in := Cm.g_server_in
abbrev N_scores_in := Cm.N_scores_in
abbrev b_scores_in := Cm.b_scores_in
abbrev g_scores_in := Cm.g_scores_in
abbrev N_led_by := Cm.N_led_by
abbrev b_led_by := Cm.b_led_by
abbrev g_led_by := Cm.g_led_by
abbrev N_check_match := Cm.N_check_match
abbrev b_check_match := Cm.b_check_match
abbrev g_check_match := Cm.g_check_match
abbrev N_behind := Cm.N_behind
abbrev b_behind := Cm.b_behind
abbrev g_behind := Cm.g_behind
abbrev N_going_on := Cm.N_going_on
abbrev b_going_on := Cm.b_going_on
abbrev g_going_on := Cm.g_going_on
abbrev N_winner_after := Cm.N_winner_after
abbrev b_winner_after := Cm.b_winner_after
abbrev g_winner_after := Cm.g_winner_after
abbrev N_server_after := Cm.N_server_after
abbrev b_server_after := Cm.b_server_after
abbrev g_server_after := Cm.g_server_after
abbrev N_last_score := Cm.N_last_score
abbrev b_last_score := Cm.b_last_score
abbrev g_last_score := Cm.g_last_score
abbrev N_scores_after := Cm.N_scores_after
abbrev b_scores_after := Cm.b_scores_after
abbrev g_scores_after := Cm.g_scores_after
abbrev N_servers_of := Cm.N_servers_of
abbrev b_servers_of := Cm.b_servers_of
abbrev g_servers_of := Cm.g_servers_of
abbrev N__law_hash := Cm.N__law_hash
abbrev b__law_hash := Cm.b__law_hash
abbrev g__law_hash := Cm.g__law_hash
abbrev N__law_random := Cm.N__law_random
abbrev b__law_random := Cm.b__law_random
abbrev g__law_random := Cm.g__law_random
abbrev N__law_cell := Cm.N__law_cell
abbrev b__law_cell := Cm.b__law_cell
abbrev g__law_cell := Cm.g__law_cell
abbrev N__law_generator := Cm.N__law_generator
abbrev b__law_generator := Cm.b__law_generator
abbrev g__law_generator := Cm.g__law_generator
abbrev N__law_pick := Cm.N__law_pick
abbrev b__law_pick := Cm.b__law_pick
abbrev g__law_pick := Cm.g__law_pick
abbrev N__law_same := Cm.N__law_same
abbrev b__law_same := Cm.b__law_same
abbrev g__law_same := Cm.g__law_same
abbrev N__law_rallies := Cm.N__law_rallies
abbrev b__law_rallies := Cm.b__law_rallies
abbrev g__law_rallies := Cm.g__law_rallies
abbrev N__law_tennis : List Str := ["sets", "game", "breaker"]
def b__law_tennis : FS :=
    (fSeq (fAsg (fTup (fCons (fC (.str "race")) (fCons (fC (.int 4)) (fCons (fC (.int 2)) (fCons (fC .non) (fCons (fTup (fCons (fC (.str "on")) fNil)) (fCons (fTup (fCons (fC (.str "rally")) fNil)) (fCons (fLst fNil) fNil)))))))) (fgName 1))
    (fSeq (fAsg (fTup (fCons (fC (.str "race")) (fCons (fC (.int 7)) (fCons (fC (.int 2)) (fCons (fC .non) (fCons (fTup (fCons (fC (.str "row")) (fCons (fLst (fCons (fC (.int 0)) (fCons (fC (.int 1)) (fCons (fC (.int 1)) (fCons (fC (.int 0)) fNil))))) fNil))) (fCons (fTup (fCons (fC (.str "rally")) fNil)) (fCons (fLst fNil) fNil)))))))) (fgName 2))
    (fRet (fTup (fCons (fC (.str "race")) (fCons (fVar 0) (fCons (fC (.int 1)) (fCons (fC .non) (fCons (fTup (fCons (fC (.str "on")) fNil)) (fCons (fTup (fCons (fC (.str "race")) (fCons (fC (.int 6)) (fCons (fC (.int 2)) (fCons (fC (.int 7)) (fCons (fTup (fCons (fC (.str "turns")) fNil)) (fCons (fVar 1) (fCons (fLst (fCons (fTup (fCons (fTup (fCons (fC (.int 6)) (fCons (fC (.int 6)) fNil))) (fCons (fVar 2) fNil))) fNil)) fNil)))))))) (fCons (fLst fNil) fNil)))))))))))
def g__law_tennis : GF := bodyT N__law_tennis 1 (b__law_tennis)
abbrev N__law_tennis_behind : List Str := ["sets", "first", "rallies", "points", "games", "won", "server", "start", "servers", "side", "tied", "winner", "scores"]
def b__law_tennis_behind : FS :=
    (fSeq (fAsg (fTup (fCons (fLstC (fCons (fC (.int 0)) (fCons (fC (.int 0)) fNil))) (fCons (fLstC (fCons (fC (.int 0)) (fCons (fC (.int 0)) fNil))) (fCons (fLstC (fCons (fC (.int 0)) (fCons (fC (.int 0)) fNil))) (fCons (fVar 1) (fCons (fVar 1) (fCons (fLstC fNil) fNil))))))) (fgTup 6 (fgCons (fgName 3) (fgCons (fgName 4) (fgCons (fgName 5) (fgCons (fgName 6) (fgCons (fgName 7) (fgCons (fgName 8) fgNil))))))))
    (fSeq (fFor (fiAny (fVar 2)) (fgName 9) (fSeq (fIfS (fB (fOp eqD (fCB maxT (fCons (fVar 5) fNil)) (fVar 0))) (fRet (fC .non)) fNext)
    (fSeq (fAsg (fOp eqD (fVar 4) (fLst (fCons (fC (.int 6)) (fCons (fC (.int 6)) fNil)))) (fgName 10))
    (fSeq (fIfS (fB (fVar 10)) (fAsg (fIf (fB (fOp eqD (fOp modD (fOp fdivD (fOp addD (fOp addD (fOp ixD (fVar 3) (fC (.int 0))) (fOp ixD (fVar 3) (fC (.int 1)))) (fC (.int 1))) (fC (.int 2))) (fC (.int 2))) (fC (.int 0)))) (fVar 7) (fOp subD (fC (.int 1)) (fVar 7))) (fgName 6)) fNext)
    (fSeq (fDrop (fApp (fVar 8) (fVar 6)))
    (fSeq (fAsg (fOp addD (fOp ixD (fVar 3) (fVar 9)) (fC (.int 1))) (fgSub (fVar 3) (fVar 9)))
    (fIfS (fAnd (fB (fOp geD (fOp ixD (fVar 3) (fVar 9)) (fIf (fB (fVar 10)) (fC (.int 7)) (fC (.int 4))))) (fB (fOp geD (fOp ixD (fVar 3) (fVar 9)) (fOp addD (fOp ixD (fVar 3) (fOp subD (fC (.int 1)) (fVar 9))) (fC (.int 2)))))) (fSeq (fAsg (fTup (fCons (fLstC (fCons (fC (.int 0)) (fCons (fC (.int 0)) fNil))) (fCons (fOp addD (fOp ixD (fVar 4) (fVar 9)) (fC (.int 1))) fNil))) (fgTup 2 (fgCons (fgName 3) (fgCons (fgSub (fVar 4) (fVar 9)) fgNil))))
    (fSeq (fAsg (fOp subD (fC (.int 1)) (fVar 7)) (fgName 7))
    (fSeq (fAsg (fVar 7) (fgName 6))
    (fIfS (fOr (fB (fOp eqD (fOp ixD (fVar 4) (fVar 9)) (fC (.int 7)))) (fAnd (fB (fOp eqD (fOp ixD (fVar 4) (fVar 9)) (fC (.int 6)))) (fB (fOp leD (fOp ixD (fVar 4) (fOp subD (fC (.int 1)) (fVar 9))) (fC (.int 4)))))) (fAsg (fTup (fCons (fLstC (fCons (fC (.int 0)) (fCons (fC (.int 0)) fNil))) (fCons (fOp addD (fOp ixD (fVar 5) (fVar 9)) (fC (.int 1))) fNil))) (fgTup 2 (fgCons (fgName 4) (fgCons (fgSub (fVar 5) (fVar 9)) fgNil)))) fNext)))) fNext)))))))
    (fSeq (fIfS (fB (fOp eqD (fVar 4) (fLst (fCons (fC (.int 6)) (fCons (fC (.int 6)) fNil))))) (fAsg (fIf (fB (fOp eqD (fOp modD (fOp fdivD (fOp addD (fOp addD (fOp ixD (fVar 3) (fC (.int 0))) (fOp ixD (fVar 3) (fC (.int 1)))) (fC (.int 1))) (fC (.int 2))) (fC (.int 2))) (fC (.int 0)))) (fVar 7) (fOp subD (fC (.int 1)) (fVar 7))) (fgName 6)) fNext)
    (fSeq (fAsg (fIf (fB (fOp inD (fVar 0) (fVar 5))) (fIdxD (fVar 5) (fVar 0)) (fC .non)) (fgName 11))
    (fSeq (fAsg (fIf (fB (fOp isnotD (fVar 11) (fC .non))) (fLst (fCons (fCB tupleD (fCons (fVar 5) fNil)) fNil)) (fLst (fCons (fCB tupleD (fCons (fVar 5) fNil)) (fCons (fCB tupleD (fCons (fVar 4) fNil)) (fCons (fCB tupleD (fCons (fVar 3) fNil)) fNil))))) (fgName 12))
    (fRet (fTup (fCons (fVar 11) (fCons (fVar 6) (fCons (fVar 12) (fCons (fFrz (fVar 8)) fNil)))))))))))
def g__law_tennis_behind : GF := bodyT N__law_tennis_behind 3 (b__law_tennis_behind)
abbrev N__law_tennis_right : List Str := ["generator", "sets", "first", "lean", "rule", "rallies", "turn", "told", "many", "due"]
def b__law_tennis_right (g__law_random g__law_pick g__law_tennis g__law_tennis_behind g__law_same g_winner_after g_scores_after g_server_after g_servers_of : GF) : FS :=
    (fSeq (fPar3 1 2 3 (fCons (fOp addD (fC (.int 2)) (fCall 2 g__law_random (fCons (fVar 0) (fCons (fC (.int 2)) fNil)))) (fCons (fCall 2 g__law_random (fCons (fVar 0) (fCons (fC (.int 2)) fNil))) (fCons (fCall 2 g__law_pick (fCons (fVar 0) (fCons (fLst (fCons (fC (.int 2)) (fCons (fC (.int 2)) (fCons (fC (.int 3)) (fCons (fC (.int 5)) fNil))))) fNil))) fNil))))
    (fSeq (fAsg (fTup (fCons (fCall 1 g__law_tennis (fCons (fVar 1) fNil)) (fCons (fLstC fNil) fNil))) (fgTup 2 (fgCons (fgName 4) (fgCons (fgName 5) fgNil))))
    (fSeq (fFor (fiRng1 (fCons (fC (.int 600)) fNil)) (fgName 6) (fSeq (fAsg (fIf (fAnd (fB (fOp gtD (fVar 6) (fC (.int 45)))) (fAnd (fB (fOp ltD (fVar 6) (fC (.int 460)))) (fB (fOp eqD (fOp mulD (fOp fdivD (fVar 6) (fC (.int 8))) (fC (.int 8))) (fVar 6))))) (fCall 3 g__law_tennis_behind (fCons (fVar 1) (fCons (fVar 2) (fCons (fVar 5) fNil)))) (fC .non)) (fgName 7))
    (fSeq (fIfS (fAnd (fB (fOp isnotD (fVar 7) (fC .non))) (fB (fOp isnotD (fOp ixD (fVar 7) (fC (.int 0))) (fC .non)))) (fun ρ S => .ok (.bk, ρ) S) fNext)
    (fDrop (fApp (fVar 5) (fIf (fB (fOp gtD (fCall 2 g__law_random (fCons (fVar 0) (fCons (fC (.int 3)) fNil))) (fC (.int 0)))) (fCB intD (fCons (fOp eqD (fCall 2 g__law_random (fCons (fVar 0) (fCons (fVar 3) fNil))) (fC (.int 0))) fNil)) (fCall 2 g__law_random (fCons (fVar 0) (fCons (fC (.int 2)) fNil)))))))))
    (fSeq (fFor (fiAny (fOp addD (fCB sortedD (fCons (fLc [6] (fiRng1 (fCons (fC (.int 5)) fNil)) (fgName 6) fYes (fCall 2 g__law_random (fCons (fVar 0) (fCons (fOp addD (fCB lenD (fCons (fVar 5) fNil)) (fC (.int 1))) fNil)))) fNil)) (fLst (fCons (fC (.int 0)) (fCons (fCB lenD (fCons (fVar 5) fNil)) fNil))))) (fgName 8) (fSeq (fAsg (fCall 3 g__law_tennis_behind (fCons (fVar 1) (fCons (fVar 2) (fCons (fSl (fVar 5) fNoPart (fPart (fVar 8))) fNil)))) (fgName 9))
    (fIfS (fB (fOp isnotD (fVar 9) (fC .non))) (fSeq (fIfS (fNot (fB (fCall 2 g__law_same (fCons (fLst (fCons (fCall 3 g_winner_after (fCons (fVar 4) (fCons (fVar 2) (fCons (fSl (fVar 5) fNoPart (fPart (fVar 8))) fNil)))) (fCons (fCall 3 g_scores_after (fCons (fVar 4) (fCons (fVar 2) (fCons (fSl (fVar 5) fNoPart (fPart (fVar 8))) fNil)))) fNil))) (fCons (fLst (fCons (fOp ixD (fVar 9) (fC (.int 0))) (fCons (fOp ixD (fVar 9) (fC (.int 2))) fNil))) fNil))))) (fRet (fC (.bl false))) fNext)
    (fSeq (fIfS (fAnd (fB (fOp isD (fOp ixD (fVar 9) (fC (.int 0))) (fC .non))) (fNot (fB (fCall 2 g__law_same (fCons (fCall 3 g_server_after (fCons (fVar 4) (fCons (fVar 2) (fCons (fSl (fVar 5) fNoPart (fPart (fVar 8))) fNil)))) (fCons (fOp ixD (fVar 9) (fC (.int 1))) fNil)))))) (fRet (fC (.bl false))) fNext)
    (fIfS (fNot (fB (fCall 2 g__law_same (fCons (fCall 3 g_servers_of (fCons (fVar 4) (fCons (fVar 2) (fCons (fSl (fVar 5) fNoPart (fPart (fVar 8))) fNil)))) (fCons (fOp ixD (fVar 9) (fC (.int 3))) fNil))))) (fRet (fC (.bl false))) fNext))) fNext)))
    (fRet (fC (.bl true)))))))
def g__law_tennis_right : GF := bodyT N__law_tennis_right 1 (b__law_tennis_right g__law_random g__law_pick g__law_tennis g__law_tennis_behind (g__law_same 16) g_winner_after g_scores_after g_server_after g_servers_of)
abbrev N__law_table_tennis : List Str := ["first", "rallies", "points", "servers", "side", "played"]
def b__law_table_tennis : FS :=
    (fSeq (fPar 2 3 (fCons (fLstC (fCons (fC (.int 0)) (fCons (fC (.int 0)) fNil))) (fCons (fLstC fNil) fNil)))
    (fSeq (fFor (fiAny (fVar 1)) (fgName 4) (fSeq (fAsg (fCB sumT (fCons (fVar 2) fNil)) (fgName 5))
    (fSeq (fIfS (fAnd (fB (fOp geD (fCB maxT (fCons (fVar 2) fNil)) (fC (.int 11)))) (fB (fOp geD (fCB absD (fCons (fOp subD (fOp ixD (fVar 2) (fC (.int 0))) (fOp ixD (fVar 2) (fC (.int 1)))) fNil)) (fC (.int 2))))) (fRet (fC .non)) fNext)
    (fSeq (fDrop (fApp (fVar 3) (fIf (fB (fOp eqD (fOp modD (fCB intD (fCons (fIf (fB (fOp ltD (fVar 5) (fC (.int 20)))) (fOp fdivD (fVar 5) (fC (.int 2))) (fVar 5)) fNil)) (fC (.int 2))) (fC (.int 0)))) (fVar 0) (fOp subD (fC (.int 1)) (fVar 0)))))
    (fAsg (fOp addD (fOp ixD (fVar 2) (fVar 4)) (fC (.int 1))) (fgSub (fVar 2) (fVar 4)))))))
    (fRet (fTup (fCons (fFrz (fVar 2)) (fCons (fFrz (fVar 3)) fNil))))))
def g__law_table_tennis : GF := bodyT N__law_table_tennis 2 (b__law_table_tennis)
abbrev N__law_quick_right : List Str := ["generator", "first", "rallies", "table", "late", "many", "due", "points", "servers", "over", "told"]
def b__law_quick_right (g__law_random g__law_rallies g__law_table_tennis g_winner_after g__law_same g_servers_of g_scores_after : GF) : FS :=
    (fSeq (fPar 1 2 (fCons (fCall 2 g__law_random (fCons (fVar 0) (fCons (fC (.int 2)) fNil))) (fCons (fCall 2 g__law_rallies (fCons (fVar 0) (fCons (fOp addD (fC (.int 20)) (fCall 2 g__law_random (fCons (fVar 0) (fCons (fC (.int 40)) fNil)))) fNil))) fNil)))
    (fSeq (fAsg (fTup (fCons (fC (.str "race")) (fCons (fC (.int 11)) (fCons (fC (.int 2)) (fCons (fC .non) (fCons (fTup (fCons (fC (.str "row")) (fCons (fLst (fCons (fC (.int 0)) (fCons (fC (.int 0)) (fCons (fC (.int 1)) (fCons (fC (.int 1)) fNil))))) fNil))) (fCons (fTup (fCons (fC (.str "rally")) fNil)) (fCons (fLst fNil) fNil)))))))) (fgName 3))
    (fSeq (fAsg (fTup (fCons (fC (.str "race")) (fCons (fC (.int 11)) (fCons (fC (.int 1)) (fCons (fC (.int 11)) (fCons (fTup (fCons (fC (.str "row")) (fCons (fLst (fCons (fC (.int 0)) (fCons (fC (.int 0)) (fCons (fC (.int 1)) (fCons (fC (.int 1)) fNil))))) fNil))) (fCons (fTup (fCons (fC (.str "rally")) fNil)) (fCons (fLst (fCons (fTup (fCons (fTup (fCons (fC (.int 10)) (fCons (fC (.int 10)) fNil))) (fCons (fTup (fCons (fC (.str "race")) (fCons (fC (.int 1)) (fCons (fC (.int 2)) (fCons (fC .non) (fCons (fTup (fCons (fC (.str "turns")) fNil)) (fCons (fTup (fCons (fC (.str "rally")) fNil)) (fCons (fLst fNil) fNil)))))))) fNil))) fNil)) fNil)))))))) (fgName 4))
    (fSeq (fFor (fiRng3 (fCons (fC (.int 0)) (fCons (fOp addD (fCB lenD (fCons (fVar 2) fNil)) (fC (.int 1))) (fCons (fC (.int 5)) fNil)))) (fgName 5) (fSeq (fAsg (fCall 2 g__law_table_tennis (fCons (fVar 1) (fCons (fSl (fVar 2) fNoPart (fPart (fVar 5))) fNil))) (fgName 6))
    (fIfS (fB (fOp isnotD (fVar 6) (fC .non))) (fSeq (fAsg (fVar 6) (fgTup 2 (fgCons (fgName 7) (fgCons (fgName 8) fgNil))))
    (fSeq (fAsg (fAndV (fOp geD (fCB maxT (fCons (fVar 7) fNil)) (fC (.int 11))) (fOp geD (fCB absD (fCons (fOp subD (fOp ixD (fVar 7) (fC (.int 0))) (fOp ixD (fVar 7) (fC (.int 1)))) fNil)) (fC (.int 2)))) (fgName 9))
    (fSeq (fAsg (fCall 3 g_winner_after (fCons (fVar 4) (fCons (fVar 1) (fCons (fSl (fVar 2) fNoPart (fPart (fVar 5))) fNil)))) (fgName 10))
    (fSeq (fIfS (fOr (fNot (fB (fCall 2 g__law_same (fCons (fVar 10) (fCons (fIf (fB (fVar 9)) (fCB intD (fCons (fOp gtD (fOp ixD (fVar 7) (fC (.int 1))) (fOp ixD (fVar 7) (fC (.int 0)))) fNil)) (fC .non)) fNil))))) (fNot (fB (fCall 2 g__law_same (fCons (fCall 3 g_winner_after (fCons (fVar 3) (fCons (fVar 1) (fCons (fSl (fVar 2) fNoPart (fPart (fVar 5))) fNil)))) (fCons (fVar 10) fNil)))))) (fRet (fC (.bl false))) fNext)
    (fSeq (fIfS (fNot (fB (fCall 2 g__law_same (fCons (fCall 3 g_servers_of (fCons (fVar 4) (fCons (fVar 1) (fCons (fSl (fVar 2) fNoPart (fPart (fVar 5))) fNil)))) (fCons (fVar 8) fNil))))) (fRet (fC (.bl false))) fNext)
    (fIfS (fNot (fB (fCall 2 g__law_same (fCons (fCall 3 g_scores_after (fCons (fVar 3) (fCons (fVar 1) (fCons (fSl (fVar 2) fNoPart (fPart (fVar 5))) fNil)))) (fCons (fLst (fCons (fCB tupleD (fCons (fVar 7) fNil)) fNil)) fNil))))) (fRet (fC (.bl false))) fNext)))))) fNext)))
    (fRet (fC (.bl true)))))))
def g__law_quick_right : GF := bodyT N__law_quick_right 1 (b__law_quick_right g__law_random g__law_rallies g__law_table_tennis g_winner_after (g__law_same 16) g_servers_of g_scores_after)
abbrev N__law_volley_right : List Str := ["generator", "first", "rallies", "last", "rule", "points", "won", "server", "starts", "at", "side"]
def b__law_volley_right (g__law_random g__law_rallies g__law_same g_server_after g_scores_after g_winner_after : GF) : FS :=
    (fSeq (fPar 1 2 (fCons (fCall 2 g__law_random (fCons (fVar 0) (fCons (fC (.int 2)) fNil))) (fCons (fCall 2 g__law_rallies (fCons (fVar 0) (fCons (fOp addD (fC (.int 40)) (fCall 2 g__law_random (fCons (fVar 0) (fCons (fC (.int 160)) fNil)))) fNil))) fNil)))
    (fSeq (fAsg (fTup (fCons (fC (.str "race")) (fCons (fC (.int 15)) (fCons (fC (.int 2)) (fCons (fC .non) (fCons (fTup (fCons (fC (.str "winner")) fNil)) (fCons (fTup (fCons (fC (.str "rally")) fNil)) (fCons (fLst fNil) fNil)))))))) (fgName 3))
    (fSeq (fAsg (fTup (fCons (fC (.str "race")) (fCons (fC (.int 3)) (fCons (fC (.int 1)) (fCons (fC .non) (fCons (fTup (fCons (fC (.str "turns")) fNil)) (fCons (fTup (fCons (fC (.str "race")) (fCons (fC (.int 25)) (fCons (fC (.int 2)) (fCons (fC .non) (fCons (fTup (fCons (fC (.str "winner")) fNil)) (fCons (fTup (fCons (fC (.str "rally")) fNil)) (fCons (fLst fNil) fNil)))))))) (fCons (fLst (fCons (fTup (fCons (fTup (fCons (fC (.int 2)) (fCons (fC (.int 2)) fNil))) (fCons (fVar 3) fNil))) fNil)) fNil)))))))) (fgName 4))
    (fSeq (fAsg (fTup (fCons (fLstC (fCons (fC (.int 0)) (fCons (fC (.int 0)) fNil))) (fCons (fLstC (fCons (fC (.int 0)) (fCons (fC (.int 0)) fNil))) (fCons (fVar 1) (fCons (fLstC (fCons (fVar 1) fNil)) fNil))))) (fgTup 4 (fgCons (fgName 5) (fgCons (fgName 6) (fgCons (fgName 7) (fgCons (fgName 8) fgNil))))))
    (fSeq (fFor (fiEnum (fVar 2)) (fgTup 2 (fgCons (fgName 9) (fgCons (fgName 10) fgNil))) (fSeq (fIfS (fNot (fB (fCall 2 g__law_same (fCons (fLst (fCons (fCall 3 g_server_after (fCons (fVar 4) (fCons (fVar 1) (fCons (fSl (fVar 2) fNoPart (fPart (fVar 9))) fNil)))) (fCons (fCall 3 g_scores_after (fCons (fVar 4) (fCons (fVar 1) (fCons (fSl (fVar 2) fNoPart (fPart (fVar 9))) fNil)))) fNil))) (fCons (fLst (fCons (fVar 7) (fCons (fLst (fCons (fCB tupleD (fCons (fVar 6) fNil)) (fCons (fCB tupleD (fCons (fVar 5) fNil)) fNil))) fNil))) fNil))))) (fRet (fC (.bl false))) fNext)
    (fSeq (fAsg (fOp addD (fOp ixD (fVar 5) (fVar 10)) (fC (.int 1))) (fgSub (fVar 5) (fVar 10)))
    (fSeq (fAsg (fVar 10) (fgName 7))
    (fIfS (fAnd (fB (fOp geD (fOp ixD (fVar 5) (fVar 10)) (fIf (fB (fOp eqD (fVar 6) (fLst (fCons (fC (.int 2)) (fCons (fC (.int 2)) fNil))))) (fC (.int 15)) (fC (.int 25))))) (fB (fOp geD (fOp ixD (fVar 5) (fVar 10)) (fOp addD (fOp ixD (fVar 5) (fOp subD (fC (.int 1)) (fVar 10))) (fC (.int 2)))))) (fSeq (fAsg (fTup (fCons (fLstC (fCons (fC (.int 0)) (fCons (fC (.int 0)) fNil))) (fCons (fOp addD (fOp ixD (fVar 6) (fVar 10)) (fC (.int 1))) fNil))) (fgTup 2 (fgCons (fgName 5) (fgCons (fgSub (fVar 6) (fVar 10)) fgNil))))
    (fSeq (fDrop (fApp (fVar 8) (fOp subD (fC (.int 1)) (fOp ixD (fVar 8) (fNeg (fC (.int 1)))))))
    (fSeq (fAsg (fOp ixD (fVar 8) (fNeg (fC (.int 1)))) (fgName 7))
    (fIfS (fB (fOp eqD (fOp ixD (fVar 6) (fVar 10)) (fC (.int 3)))) (fRet (fCall 2 g__law_same (fCons (fCall 3 g_winner_after (fCons (fVar 4) (fCons (fVar 1) (fCons (fSl (fVar 2) fNoPart (fPart (fOp addD (fVar 9) (fC (.int 1))))) fNil)))) (fCons (fVar 10) fNil)))) fNext)))) fNext)))))
    (fRet (fOp isD (fCall 3 g_winner_after (fCons (fVar 4) (fCons (fVar 1) (fCons (fVar 2) fNil)))) (fC .non))))))))
def g__law_volley_right : GF := bodyT N__law_volley_right 1 (b__law_volley_right g__law_random g__law_rallies (g__law_same 16) g_server_after g_scores_after g_winner_after)
abbrev N__law_squash_right : List Str := ["generator", "first", "rallies", "rule", "points", "server", "at", "side"]
def b__law_squash_right (g__law_random g__law_rallies g__law_same g_server_after g_scores_after g_winner_after : GF) : FS :=
    (fSeq (fPar 1 2 (fCons (fCall 2 g__law_random (fCons (fVar 0) (fCons (fC (.int 2)) fNil))) (fCons (fCall 2 g__law_rallies (fCons (fVar 0) (fCons (fC (.int 60)) fNil))) fNil)))
    (fSeq (fAsg (fTup (fCons (fC (.str "race")) (fCons (fC (.int 9)) (fCons (fC (.int 1)) (fCons (fC .non) (fCons (fTup (fCons (fC (.str "winner")) fNil)) (fCons (fTup (fCons (fC (.str "hand")) fNil)) (fCons (fLst fNil) fNil)))))))) (fgName 3))
    (fSeq (fPar 4 5 (fCons (fLstC (fCons (fC (.int 0)) (fCons (fC (.int 0)) fNil))) (fCons (fVar 1) fNil)))
    (fSeq (fFor (fiEnum (fVar 2)) (fgTup 2 (fgCons (fgName 6) (fgCons (fgName 7) fgNil))) (fSeq (fIfS (fNot (fB (fCall 2 g__law_same (fCons (fLst (fCons (fCall 3 g_server_after (fCons (fVar 3) (fCons (fVar 1) (fCons (fSl (fVar 2) fNoPart (fPart (fVar 6))) fNil)))) (fCons (fCall 3 g_scores_after (fCons (fVar 3) (fCons (fVar 1) (fCons (fSl (fVar 2) fNoPart (fPart (fVar 6))) fNil)))) fNil))) (fCons (fLst (fCons (fVar 5) (fCons (fLst (fCons (fCB tupleD (fCons (fVar 4) fNil)) fNil)) fNil))) fNil))))) (fRet (fC (.bl false))) fNext)
    (fSeq (fIfS (fB (fOp eqD (fVar 7) (fVar 5))) (fAsg (fOp addD (fOp ixD (fVar 4) (fVar 7)) (fC (.int 1))) (fgSub (fVar 4) (fVar 7))) fNext)
    (fSeq (fAsg (fVar 7) (fgName 5))
    (fIfS (fB (fOp eqD (fOp ixD (fVar 4) (fVar 7)) (fC (.int 9)))) (fRet (fCall 2 g__law_same (fCons (fCall 3 g_winner_after (fCons (fVar 3) (fCons (fVar 1) (fCons (fSl (fVar 2) fNoPart (fPart (fOp addD (fVar 6) (fC (.int 1))))) fNil)))) (fCons (fVar 7) fNil)))) fNext)))))
    (fRet (fOp isD (fCall 3 g_winner_after (fCons (fVar 3) (fCons (fVar 1) (fCons (fVar 2) fNil)))) (fC .non)))))))
def g__law_squash_right : GF := bodyT N__law_squash_right 1 (b__law_squash_right g__law_random g__law_rallies (g__law_same 16) g_server_after g_scores_after g_winner_after)
abbrev N_law : List Str := ["script", "generator", "other", "way"]
def b_law (g__law_generator g__law_tennis_right g__law_random g__law_quick_right g__law_volley_right g__law_squash_right : GF) : FS :=
    (fSeq (fPar 1 2 (fCons (fCall 2 g__law_generator (fCons (fVar 0) (fCons (fC (.int 0)) fNil))) (fCons (fCall 2 g__law_generator (fCons (fVar 0) (fCons (fC (.int 1)) fNil))) fNil)))
    (fSeq (fIfS (fNot (fB (fCall 1 g__law_tennis_right (fCons (fVar 1) fNil)))) (fRet (fC (.bl false))) fNext)
    (fSeq (fAsg (fCall 2 g__law_random (fCons (fVar 2) (fCons (fC (.int 3)) fNil))) (fgName 3))
    (fSeq (fIfS (fB (fOp eqD (fVar 3) (fC (.int 0)))) (fRet (fCall 1 g__law_quick_right (fCons (fVar 2) fNil))) fNext)
    (fRet (fIf (fB (fOp eqD (fVar 3) (fC (.int 1)))) (fCall 1 g__law_volley_right (fCons (fVar 2) fNil)) (fCall 1 g__law_squash_right (fCons (fVar 2) fNil))))))))
def g_law : GF := bodyD N_law 1 (b_law g__law_generator g__law_tennis_right g__law_random g__law_quick_right g__law_volley_right g__law_squash_right)
end K07
set_option maxHeartbeats 4000000
namespace Cm
open PySem PySem.Spec PyProof.Rows L2 DL
def Gs (B T : Sto) : Prop := T.all (lowC T.length) = true ∧ ∃ E, T = B ++ E
theorem Gs.low {B T : Sto} (h : Gs B T) : T.all (lowC T.length) = true := h.1
theorem Gs.self {B : Sto} (h : B.all (lowC B.length) = true) : Gs B B := ⟨h, [], by simp⟩
theorem Gs.snoc {B T : Sto} (h : Gs B T) {xs : List D} (nc : noCels xs = true) : Gs B (T ++ [.lst xs]) := by
  obtain ⟨l, E, rfl⟩ := h
  exact ⟨low_snoc l nc, E ++ [.lst xs], by simp⟩
theorem Gs.len {B T : Sto} (h : Gs B T) : B.length ≤ T.length := by
  obtain ⟨_, E, rfl⟩ := h
  simp
theorem Gs.set {B T : Sto} (h : Gs B T) {p : Nat} (hp : B.length ≤ p) {xs : List D} (nc : noCels xs = true) : Gs B (T.set p (.lst xs)) := by
  obtain ⟨l, E, rfl⟩ := h
  refine ⟨?_, E.set (p - B.length) (.lst xs), by rw [List.set_append, if_neg (by omega)]⟩
  rw [List.length_set, List.all_eq_true]
  intro x m
  rcases List.mem_or_eq_of_mem_set m with m | rfl
  · exact List.all_eq_true.mp l x m
  · exact coFree_low (c := .lst xs) nc
theorem Gs.at {B T : Sto} (h : Gs B T) {i : Nat} {x : CO} (t : B[i]? = some x) : T[i]? = some x := by
  obtain ⟨_, E, rfl⟩ := h
  rw [List.getElem?_append_left (List.getElem?_eq_some_iff.mp t).1]
  exact t
theorem snoc_keep {T : Sto} {p : Nat} {x c : CO} (h : T[p]? = some c) : (T ++ [x])[p]? = some c := by
  rw [List.getElem?_append_left (List.getElem?_eq_some_iff.mp h).1]
  exact h
theorem snoc_new {T : Sto} {x : CO} : (T ++ [x])[T.length]? = some x := by simp
theorem set_keep {T : Sto} {p q : Nat} {x c : CO} (h : T[p]? = some c) (n : q ≠ p) : (T.set q x)[p]? = some c := by
  rw [List.getElem?_set_ne n]
  exact h
theorem set_new {T : Sto} {p : Nat} {x c : CO} (h : T[p]? = some c) : (T.set p x)[p]? = some x := List.getElem?_set_self (List.getElem?_eq_some_iff.mp h).1
def C2 (T : Sto) (j : Nat) (x y : Int) : Prop := T[j]? = some (.lst [.int x, .int y])
def pt2 (b : Bool) (x y : Int) : Int := if b = true then y else x
theorem pt2_up (b : Bool) (x y : Int) : pt2 b (PL.upX x b) (PL.upY y b) = pt2 b x y + 1 := by cases b <;> simp [pt2, PL.upX, PL.upY, PL.b2i]
theorem pt2_un (b : Bool) (x y : Int) : pt2 (!b) (PL.upX x b) (PL.upY y b) = pt2 (!b) x y := by cases b <;> simp [pt2, PL.upX, PL.upY, PL.b2i]
theorem sub_sd (b : Bool) (T : Sto) : subD (.int 1) (sd b) T = some (sd (!b)) := by cases b <;> rfl
theorem eq_sds (a b : Bool) (T : Sto) : eqD (sd a) (sd b) T = some (.bl (decide (a = b))) := by cases a <;> cases b <;> rfl
theorem up_upX (x : Int) (b : Bool) : PL.upX x b = if b = true then x else x + 1 := by cases b <;> simp [PL.upX, PL.b2i]
theorem up_upY (x : Int) (b : Bool) : PL.upY x b = if b = true then x + 1 else x := by cases b <;> simp [PL.upY, PL.b2i]
section
variable {T : Sto} {j : Nat} {x y : Int}
theorem C2.ls (h : C2 T j x y) : lstOf T (.cel j) = some [.int x, .int y] := by
  unfold C2 at h
  simp only [lstOf, h]
theorem C2.lt (h : C2 T j x y) : j < T.length := (List.getElem?_eq_some_iff.mp h).1
theorem C2.ix (h : C2 T j x y) (i : Int) : ixD (.cel j) (.int i) T = atI [.int x, .int y] i := by
  show (seqOf T (.cel j)).bind (fun xs => atI xs i) = _
  rw [show seqOf T (.cel j) = _ from h.ls]
  rfl
theorem C2.i0 (h : C2 T j x y) : ixD (.cel j) (.int 0) T = some (.int x) := h.ix 0
theorem C2.i1 (h : C2 T j x y) : ixD (.cel j) (.int 1) T = some (.int y) := h.ix 1
theorem C2.s0 (h : C2 T j x y) (d : D) : setD (.cel j) (.int 0) d T = some (T.set j (.lst [d, .int y])) := by
  unfold C2 at h
  unfold setD
  simp only [h]
  rfl
theorem C2.s1 (h : C2 T j x y) (d : D) : setD (.cel j) (.int 1) d T = some (T.set j (.lst [.int x, d])) := by
  unfold C2 at h
  unfold setD
  simp only [h]
  rfl
theorem C2.is (h : C2 T j x y) (b : Bool) : ixD (.cel j) (sd b) T = some (.int (pt2 b x y)) := by
  cases b
  · exact h.i0
  · exact h.i1
theorem C2.up (h : C2 T j x y) (b : Bool) : setD (.cel j) (sd b) (.int (pt2 b x y + 1)) T = some (T.set j (.lst [.int (PL.upX x b), .int (PL.upY y b)])) := by
  cases b
  · rw [show PL.upX x false = x + 1 by simp [PL.upX, PL.b2i], show PL.upY y false = y by simp [PL.upY, PL.b2i]]
    exact h.s0 _
  · rw [show PL.upX x true = x by simp [PL.upX, PL.b2i], show PL.upY y true = y + 1 by simp [PL.upY, PL.b2i]]
    exact h.s1 _
theorem C2.mx (h : C2 T j x y) : maxT [.cel j] T = some (.int (max x y)) := by
  have e : maxT [.cel j] T = match (lstOf T (.cel j)).bind intsOf with
    | some ns => if 0 < ns.length then some (.int (maxI ns)) else none
    | none => none := rfl
  rw [e, h.ls]
  show some (D.int (maxI [x, y])) = _
  have e2 : maxI [x, y] = if y > x then y else x := rfl
  rw [e2]
  congr 2
  by_cases c : y > x
  · rw [if_pos c, Int.max_eq_right (by omega)]
  · rw [if_neg c, Int.max_eq_left (by omega)]
theorem C2.sm (h : C2 T j x y) : sumT [.cel j] T = some (.int (x + y)) := by
  have e : sumT [.cel j] T = match (lstOf T (.cel j)).bind intsOf with
    | some ns => some (.int ns.sum)
    | none => none := rfl
  rw [e, h.ls]
  show some (D.int (x + (y + 0))) = _
  rw [Int.add_zero]
theorem C2.tu (h : C2 T j x y) : tupleD [.cel j] T = some (.tup [.int x, .int y]) := by
  show (lstOf T (.cel j)).map _ = _
  rw [h.ls]
  rfl
theorem C2.toP (h : C2 T j x y) : DL.toP T (.cel j) = some (.list [.int x, .int y]) := by
  simp only [DL.toP, h.ls]
  rfl
theorem C2.eq (h : C2 T j x y) (a b : Int) : eqD (.cel j) (.lst [.int a, .int b]) T = some (.bl (decide (x = a) && decide (y = b))) := by
  have e2 : DL.toP T (.lst [.int a, .int b]) = some (.list [.int a, .int b]) := rfl
  have sh : ∀ x y : Int, SeqAt.shaped (.list [.int x, .int y]) = true := fun x y => by
    simp [SeqAt.shaped, PyData.canLay0, PyData.canLayAll0, PyData.depth, PyData.depthAll]
  have e3 : eqB T (.cel j) (.lst [.int a, .int b]) = (match DL.toP T (.cel j), DL.toP T (.lst [.int a, .int b]) with
    | some p, some q => if (SeqAt.shaped p && SeqAt.shaped q) = true then some (p.eqv q) else none
    | _, _ => none) := rfl
  unfold eqD
  rw [e3, h.toP, e2]
  simp only [sh, Bool.and_self, if_true, Option.map_some, PyData.eqv, PyData.eqvAll, Bool.and_true]
  rfl
theorem shp1 (n : Int) : SeqAt.shaped (.int n) = true := by simp [SeqAt.shaped, PyData.canLay0, PyData.depth]
theorem shp2 (x y : Int) : SeqAt.shaped (.list [.int x, .int y]) = true := by simp [SeqAt.shaped, PyData.canLay0, PyData.canLayAll0, PyData.depth, PyData.depthAll]
theorem eqv_ints (x n : Int) : PyData.eqv (.int x) (.int n) = decide (x = n) := by simp only [PyData.eqv]; rfl
theorem C2.inn (h : C2 T j x y) (n : Int) : inD (.int n) (.cel j) T = some (.bl (decide (x = n) || decide (y = n))) := by
  have e : DL.toP T (.int n) = some (.int n) := rfl
  unfold inD
  rw [e, h.toP]
  simp only [shp1, shp2, Bool.and_self, if_true, List.any_cons, List.any_nil, Bool.or_false, eqv_ints]
theorem C2.idx (h : C2 T j x y) (n : Int) : idxD (.cel j) (.int n) T = if x = n then some (.int 0) else if y = n then some (.int 1) else none := by
  have e : DL.toP T (.int n) = some (.int n) := rfl
  unfold idxD
  rw [e, h.toP]
  simp only [shp1, shp2, Bool.and_self, if_true]
  by_cases c : x = n
  · rw [if_pos c]
    simp [List.findIdx?, List.findIdx?.go, eqv_ints, c]
  · rw [if_neg c]
    by_cases d : y = n
    · rw [if_pos d]
      simp [List.findIdx?, List.findIdx?.go, eqv_ints, c, d]
    · rw [if_neg d]
      simp [List.findIdx?, List.findIdx?.go, eqv_ints, c, d]
end
end Cm
set_option maxHeartbeats 4000000
namespace K07
open PySem PySem.Spec PyProof.Rows L2 DL Cm
def itsF (o : Nat) (bs : List Bool) : List D := ((bs.map sd).zipIdx o).map fun p => D.tup [.int (p.2 : Nat), p.1]
theorem its_cons (o : Nat) (b : Bool) (bs : List Bool) : itsF o (b :: bs) = .tup [.int (o : Nat), sd b] :: itsF (o + 1) bs := rfl
theorem sl_pre {pre rest : List Bool} (T : Sto) : slD (brD (pre ++ rest)) none (some (pre.length : Nat)) T = some (brD pre) := by
  rw [sl_take T (by simp), List.take_left]
theorem sl_pre1 {pre rest : List Bool} {b : Bool} (T : Sto) : slD (brD (pre ++ b :: rest)) none (some ((pre.length + 1 : Nat) : Int)) T = some (brD (pre ++ [b])) := by
  have e : pre ++ b :: rest = (pre ++ [b]) ++ rest := by simp
  have := sl_pre (pre := pre ++ [b]) (rest := rest) T
  rw [← e] at this
  simpa using this
theorem same_sides {T : Sto} (hT : T.all (lowC T.length) = true) {a : Bool} {ps : List (Int × Int)} (hp : ps.length ≤ 900) {xs : List D} (hx : xs = ps.map scD) : g__law_same 16 [.lst [sd a, .cel T.length], .lst [sd a, .lst xs]] (T ++ [.lst (ps.map scD)]) = .ok (.bl true) (T ++ [.lst (ps.map scD)]) := by
  subst hx
  refine same_ok (low_snoc hT (nc_scs ps)) 4 16 (by decide) ?_
  refine .inr (.inr ⟨[sd a, .cel T.length], [sd a, .lst (ps.map scD)], rfl, rfl, rfl, by simp, fun i u v hu hv => ?_⟩)
  match i, hu, hv with
  | 0, hu, hv => cases hu; cases hv; exact SM.scal rfl
  | 1, hu, hv =>
    cases hu; cases hv
    refine .inr (.inr ⟨ps.map scD, ps.map scD, by simp [lstOf], rfl, rfl, by rw [List.length_map]; omega, fun j u v hu hv => ?_⟩)
    rw [hu] at hv
    cases hv
    obtain ⟨p, _, rfl⟩ := List.mem_map.mp (List.mem_of_getElem? hu)
    exact SM.sc p
theorem same_sd {T : Sto} (hT : T.all (lowC T.length) = true) (a : Bool) : g__law_same 16 [sd a, sd a] T = .ok (.bl true) T := same_scalar hT rfl
section
variable {T : Sto} (hT : T.all (lowC T.length) = true) {R : PL.Rule} (hr : R4 R) (fi : Bool) {bs : List Bool} (hl : bs.length ≤ 900) {s : PL.St} (er : PL.run 4 R (PL.begun 4 R fi) bs = .on s)
include hT hr hl er
theorem sv_on : Cm.g_server_after [rD R, sd fi, brD bs] T = .ok (sd (PL.serverIn s)) T := by
  have e := server_after_ok hT hr fi (bs := bs) (by omega)
  rw [er] at e
  exact e
theorem sc_on : Cm.g_scores_after [rD R, sd fi, brD bs] T = .ok (.cel T.length) (T ++ [.lst ((PL.scoresIn s).map scD)]) := by
  have e := scores_after_ok hT hr fi (bs := bs) (by omega)
  rw [er] at e
  exact e
theorem wi_on : Cm.g_winner_after [rD R, sd fi, brD bs] T = .ok .non T := by
  have e := winner_after_ok hT hr fi (bs := bs) (by omega)
  rw [er] at e
  exact e
end
theorem wi_over {T : Sto} (hT : T.all (lowC T.length) = true) {R : PL.Rule} (hr : R4 R) (fi : Bool) {bs : List Bool} (hl : bs.length ≤ 900) {w h k p b} (er : PL.run 4 R (PL.begun 4 R fi) bs = .over w h k p b) (hk : k = bs.length) : Cm.g_winner_after [rD R, sd fi, brD bs] T = .ok (sd w) T := by
  have e := winner_after_ok hT hr fi (bs := bs) (by omega)
  rw [er] at e
  simp only [if_neg (show ¬ k < bs.length by omega)] at e
  exact e
theorem rows_ok {P L : Sto} {many : Nat} (hm : many ≤ 1000) {n : Nat} {x : CO} (G : Gn n x) (hn : n + (2 * many + 1) ≤ 1000000000) (hL : Lo P L) :
    ∃ y bs, Cm.g__law_rallies [.cel P.length, .int (many : Nat)] (P ++ x :: L) = .ok (brD bs) (P ++ y :: L) ∧ Gn (n + (2 * many + 1)) y ∧ bs.length = many := by
  obtain ⟨y, ys, e, G2, l, m⟩ := drawn_ok hm G hn hL
  obtain ⟨bs, rfl⟩ : ∃ bs : List Bool, ys = bs.map sd := by
    clear e l
    induction ys with
    | nil => exact ⟨[], rfl⟩
    | cons v vs ih =>
      obtain ⟨bs, rfl⟩ := ih fun w hw => m w (List.mem_cons_of_mem _ hw)
      rcases m v List.mem_cons_self with rfl | rfl
      · exact ⟨false :: bs, rfl⟩
      · exact ⟨true :: bs, rfl⟩
  exact ⟨y, bs, e, G2, by simpa using l⟩
def sqR : PL.Rule := .race 9 1 none .winner .hand []
theorem sqR4 : R4 sqR := ⟨by kernel_rfl, by kernel_rfl, by decide +kernel, by simp [sqR, PL.Rule.ok, PL.oks, PL.ordOk]⟩
theorem sq_led (x y : Int) (f t s b : Bool) : PL.led 4 sqR (.node x y f t (.leaf s)) b = if b = s then (if PL.isWon 9 1 none (PL.upX x b) (PL.upY y b) = true then .over (PL.winOf (PL.upX x b) (PL.upY y b)) b else .on (.node (PL.upX x b) (PL.upY y b) f b (.leaf b))) else .on (.node x y f t (.leaf b)) := by
  cases b <;> cases s <;> rfl
theorem sq_won {x y : Int} (b : Bool) (hx : 0 ≤ x) (hx2 : x < 9) (hy : 0 ≤ y) (hy2 : y < 9) : PL.isWon 9 1 none (PL.upX x b) (PL.upY y b) = decide (pt2 b x y + 1 = 9) := by
  rw [Bool.eq_iff_iff]
  cases b <;> simp only [up_upX, up_upY, pt2, PL.isWon, Bool.false_or, Bool.false_eq_true, if_false, if_true, Bool.and_eq_true, decide_eq_true_eq] <;> omega
theorem sq_loop {B : Sto} {fi : Bool} {g : D} {p : Nat} (hp : B.length ≤ p) : ∀ (rest pre : List Bool) (x y : Int) (t s : Bool) (T : Sto) (e6 e7 : Option D), (pre ++ rest).length ≤ 800 → PL.run 4 sqR (PL.begun 4 sqR fi) pre = .on (.node x y fi t (.leaf s)) → 0 ≤ x → x < 9 → 0 ≤ y → y < 9 → Gs B T → C2 T p x y →
    ∃ fl ρ' T', loopD (fgTup 2 (fgCons (fgName 6) (fgCons (fgName 7) fgNil))) (fSeq (fIfS (fNot (fB (fCall 2 (g__law_same 16) (fCons (fLst (fCons (fCall 3 g_server_after (fCons (fVar 3) (fCons (fVar 1) (fCons (fSl (fVar 2) fNoPart (fPart (fVar 6))) fNil)))) (fCons (fCall 3 g_scores_after (fCons (fVar 3) (fCons (fVar 1) (fCons (fSl (fVar 2) fNoPart (fPart (fVar 6))) fNil)))) fNil))) (fCons (fLst (fCons (fVar 5) (fCons (fLst (fCons (fCB tupleD (fCons (fVar 4) fNil)) fNil)) fNil))) fNil))))) (fRet (fC (.bl false))) fNext) (fSeq (fIfS (fB (fOp eqD (fVar 7) (fVar 5))) (fAsg (fOp addD (fOp ixD (fVar 4) (fVar 7)) (fC (.int 1))) (fgSub (fVar 4) (fVar 7))) fNext) (fSeq (fAsg (fVar 7) (fgName 5)) (fIfS (fB (fOp eqD (fOp ixD (fVar 4) (fVar 7)) (fC (.int 9)))) (fRet (fCall 2 (g__law_same 16) (fCons (fCall 3 g_winner_after (fCons (fVar 3) (fCons (fVar 1) (fCons (fSl (fVar 2) fNoPart (fPart (fOp addD (fVar 6) (fC (.int 1))))) fNil)))) (fCons (fVar 7) fNil)))) fNext)))) (itsF pre.length rest) [some g, some (sd fi), some (brD (pre ++ rest)), some (rD sqR), some (.cel p), some (sd s), e6, e7] T = .ok (fl, ρ') T' ∧ Gs B T' ∧ (fl = .rt (.bl true) ∨ (fl = .nx ∧ ∃ f5 f6 f7 z, ρ' = [some g, some (sd fi), some (brD (pre ++ rest)), some (rD sqR), some (.cel p), f5, f6, f7] ∧ PL.run 4 sqR (PL.begun 4 sqR fi) (pre ++ rest) = .on z))
  | [], pre, x, y, t, s, T, e6, e7, hl, er, _, _, _, _, G, c => ⟨.nx, _, T, rfl, G, .inr ⟨rfl, _, _, _, _, rfl, by rw [List.append_nil]; exact er⟩⟩
  | b :: rest, pre, x, y, t, s, T, e6, e7, hl, er, hx, hx2, hy, hy2, G, c => by
    have l1 : pre.length ≤ 800 := by simp at hl; omega
    have l2 : (pre ++ [b]).length ≤ 900 := by simp; omega
    have s1 := sl_pre (pre := pre) (rest := b :: rest)
    have s2 := sl_pre1 (pre := pre) (rest := rest) (b := b)
    have sv := sv_on G.low sqR4 fi (by omega) er
    have sc := sc_on G.low sqR4 fi (by omega) er
    have hsv : PL.serverIn (.node x y fi t (.leaf s)) = s := rfl
    have hsc : PL.scoresIn (.node x y fi t (.leaf s)) = [(x, y)] := rfl
    rw [hsv] at sv
    rw [hsc] at sc
    have sm := same_sides G.low (a := s) (ps := [(x, y)]) (by simp) (xs := [.tup [.int x, .int y]]) rfl
    have G1 := G.snoc (nc_scs [(x, y)])
    have c1 : C2 (T ++ [.lst ([(x, y)].map scD)]) p x y := snoc_keep c
    generalize hT1 : T ++ [CO.lst ([(x, y)].map scD)] = T1 at *
    -- the two that are told
    have st1 : (fIfS (fNot (fB (fCall 2 (Cm.g__law_same 16) (fCons (fLst (fCons (fCall 3 Cm.g_server_after (fCons (fVar 3) (fCons (fVar 1) (fCons (fSl (fVar 2) fNoPart (fPart (fVar 6))) fNil)))) (fCons (fCall 3 Cm.g_scores_after (fCons (fVar 3) (fCons (fVar 1) (fCons (fSl (fVar 2) fNoPart (fPart (fVar 6))) fNil)))) fNil))) (fCons (fLst (fCons (fVar 5) (fCons (fLst (fCons (fCB tupleD (fCons (fVar 4) fNil)) fNil)) fNil))) fNil))))) (fRet (fC (.bl false))) fNext : FS) [some g, some (sd fi), some (brD (pre ++ b :: rest)), some (rD sqR), some (.cel p), some (sd s), some (.int (pre.length : Nat)), some (sd b)] T = .ok (.nx, [some g, some (sd fi), some (brD (pre ++ b :: rest)), some (rD sqR), some (.cel p), some (sd s), some (.int (pre.length : Nat)), some (sd b)]) T1 := by
      have tu := c1.tu
      simp! only [s1, sv, sc, tu, sm]
    have rs := run_snoc (n := 4) (R := sqR) b pre (PL.begun 4 sqR fi) er
    rw [sq_led] at rs
    have bd : ∀ ρ1 T2 r, (fSeq (fIfS (fB (fOp eqD (fVar 7) (fVar 5))) (fAsg (fOp addD (fOp ixD (fVar 4) (fVar 7)) (fC (.int 1))) (fgSub (fVar 4) (fVar 7))) fNext) (fSeq (fAsg (fVar 7) (fgName 5)) (fIfS (fB (fOp eqD (fOp ixD (fVar 4) (fVar 7)) (fC (.int 9)))) (fRet (fCall 2 (Cm.g__law_same 16) (fCons (fCall 3 Cm.g_winner_after (fCons (fVar 3) (fCons (fVar 1) (fCons (fSl (fVar 2) fNoPart (fPart (fOp addD (fVar 6) (fC (.int 1))))) fNil)))) (fCons (fVar 7) fNil)))) fNext)) : FS) [some g, some (sd fi), some (brD (pre ++ b :: rest)), some (rD sqR), some (.cel p), some (sd s), some (.int (pre.length : Nat)), some (sd b)] T1 = .ok (r, ρ1) T2 → (fSeq (fIfS (fNot (fB (fCall 2 (g__law_same 16) (fCons (fLst (fCons (fCall 3 g_server_after (fCons (fVar 3) (fCons (fVar 1) (fCons (fSl (fVar 2) fNoPart (fPart (fVar 6))) fNil)))) (fCons (fCall 3 g_scores_after (fCons (fVar 3) (fCons (fVar 1) (fCons (fSl (fVar 2) fNoPart (fPart (fVar 6))) fNil)))) fNil))) (fCons (fLst (fCons (fVar 5) (fCons (fLst (fCons (fCB tupleD (fCons (fVar 4) fNil)) fNil)) fNil))) fNil))))) (fRet (fC (.bl false))) fNext) (fSeq (fIfS (fB (fOp eqD (fVar 7) (fVar 5))) (fAsg (fOp addD (fOp ixD (fVar 4) (fVar 7)) (fC (.int 1))) (fgSub (fVar 4) (fVar 7))) fNext) (fSeq (fAsg (fVar 7) (fgName 5)) (fIfS (fB (fOp eqD (fOp ixD (fVar 4) (fVar 7)) (fC (.int 9)))) (fRet (fCall 2 (g__law_same 16) (fCons (fCall 3 g_winner_after (fCons (fVar 3) (fCons (fVar 1) (fCons (fSl (fVar 2) fNoPart (fPart (fOp addD (fVar 6) (fC (.int 1))))) fNil)))) (fCons (fVar 7) fNil)))) fNext)))) [some g, some (sd fi), some (brD (pre ++ b :: rest)), some (rD sqR), some (.cel p), some (sd s), some (.int (pre.length : Nat)), some (sd b)] T = .ok (r, ρ1) T2 := fun ρ1 T2 r h => (fSeq_nx st1).trans h
    have en : pre ++ b :: rest = (pre ++ [b]) ++ rest := by simp
    have ln : (pre ++ [b]).length = pre.length + 1 := by simp
    have fg : ∀ e6 e7, (fgTup 2 (fgCons (fgName 6) (fgCons (fgName 7) fgNil))) (.tup [.int (pre.length : Nat), sd b]) [some g, some (sd fi), some (brD (pre ++ b :: rest)), some (rD sqR), some (.cel p), some (sd s), e6, e7] T = .ok [some g, some (sd fi), some (brD (pre ++ b :: rest)), some (rD sqR), some (.cel p), some (sd s), some (.int (pre.length : Nat)), some (sd b)] T := fun _ _ => rfl
    have ee := eq_sds b s T1
    have pl1 : ((pre.length : Nat) : Int) + 1 = ((pre.length + 1 : Nat) : Int) := by omega
    have go : ∀ (T2 : Sto) (x2 y2 : Int) (t2 : Bool), PL.run 4 sqR (PL.begun 4 sqR fi) (pre ++ [b]) = .on (.node x2 y2 fi t2 (.leaf b)) → 0 ≤ x2 → x2 < 9 → 0 ≤ y2 → y2 < 9 → Gs B T2 → C2 T2 p x2 y2 → (fSeq (fIfS (fNot (fB (fCall 2 (g__law_same 16) (fCons (fLst (fCons (fCall 3 g_server_after (fCons (fVar 3) (fCons (fVar 1) (fCons (fSl (fVar 2) fNoPart (fPart (fVar 6))) fNil)))) (fCons (fCall 3 g_scores_after (fCons (fVar 3) (fCons (fVar 1) (fCons (fSl (fVar 2) fNoPart (fPart (fVar 6))) fNil)))) fNil))) (fCons (fLst (fCons (fVar 5) (fCons (fLst (fCons (fCB tupleD (fCons (fVar 4) fNil)) fNil)) fNil))) fNil))))) (fRet (fC (.bl false))) fNext) (fSeq (fIfS (fB (fOp eqD (fVar 7) (fVar 5))) (fAsg (fOp addD (fOp ixD (fVar 4) (fVar 7)) (fC (.int 1))) (fgSub (fVar 4) (fVar 7))) fNext) (fSeq (fAsg (fVar 7) (fgName 5)) (fIfS (fB (fOp eqD (fOp ixD (fVar 4) (fVar 7)) (fC (.int 9)))) (fRet (fCall 2 (g__law_same 16) (fCons (fCall 3 g_winner_after (fCons (fVar 3) (fCons (fVar 1) (fCons (fSl (fVar 2) fNoPart (fPart (fOp addD (fVar 6) (fC (.int 1))))) fNil)))) (fCons (fVar 7) fNil)))) fNext)))) [some g, some (sd fi), some (brD (pre ++ b :: rest)), some (rD sqR), some (.cel p), some (sd s), some (.int (pre.length : Nat)), some (sd b)] T = .ok (.nx, [some g, some (sd fi), some (brD (pre ++ b :: rest)), some (rD sqR), some (.cel p), some (sd b), some (.int (pre.length : Nat)), some (sd b)]) T2 → ∃ fl ρ' T', loopD (fgTup 2 (fgCons (fgName 6) (fgCons (fgName 7) fgNil))) (fSeq (fIfS (fNot (fB (fCall 2 (g__law_same 16) (fCons (fLst (fCons (fCall 3 g_server_after (fCons (fVar 3) (fCons (fVar 1) (fCons (fSl (fVar 2) fNoPart (fPart (fVar 6))) fNil)))) (fCons (fCall 3 g_scores_after (fCons (fVar 3) (fCons (fVar 1) (fCons (fSl (fVar 2) fNoPart (fPart (fVar 6))) fNil)))) fNil))) (fCons (fLst (fCons (fVar 5) (fCons (fLst (fCons (fCB tupleD (fCons (fVar 4) fNil)) fNil)) fNil))) fNil))))) (fRet (fC (.bl false))) fNext) (fSeq (fIfS (fB (fOp eqD (fVar 7) (fVar 5))) (fAsg (fOp addD (fOp ixD (fVar 4) (fVar 7)) (fC (.int 1))) (fgSub (fVar 4) (fVar 7))) fNext) (fSeq (fAsg (fVar 7) (fgName 5)) (fIfS (fB (fOp eqD (fOp ixD (fVar 4) (fVar 7)) (fC (.int 9)))) (fRet (fCall 2 (g__law_same 16) (fCons (fCall 3 g_winner_after (fCons (fVar 3) (fCons (fVar 1) (fCons (fSl (fVar 2) fNoPart (fPart (fOp addD (fVar 6) (fC (.int 1))))) fNil)))) (fCons (fVar 7) fNil)))) fNext)))) (itsF pre.length (b :: rest)) [some g, some (sd fi), some (brD (pre ++ b :: rest)), some (rD sqR), some (.cel p), some (sd s), e6, e7] T = .ok (fl, ρ') T' ∧ Gs B T' ∧ (fl = .rt (.bl true) ∨ (fl = .nx ∧ ∃ f5 f6 f7 z, ρ' = [some g, some (sd fi), some (brD (pre ++ b :: rest)), some (rD sqR), some (.cel p), f5, f6, f7] ∧ PL.run 4 sqR (PL.begun 4 sqR fi) (pre ++ b :: rest) = .on z)) := fun T2 x2 y2 t2 r1 h1 h2 h3 h4 g2 k2 e1 => by
      obtain ⟨fl, ρ', T', e2, g3, al⟩ := sq_loop hp (fi := fi) (g := g) rest (pre ++ [b]) x2 y2 t2 b T2 (some (.int (pre.length : Nat))) (some (sd b)) (by rw [← en]; exact hl) r1 h1 h2 h3 h4 g2 k2
      rw [← en] at e2 al
      rw [ln] at e2
      refine ⟨fl, ρ', T', ?_, g3, al⟩
      rw [its_cons]
      unfold loopD
      rw [fg]
      simp only [Res.bind_ok]
      rw [e1]
      exact e2
    by_cases bs : b = s
    · subst bs
      rw [if_pos rfl, sq_won b hx hx2 hy hy2] at rs
      rw [decide_eq_true rfl] at ee
      have G2 := G1.set (xs := [.int (PL.upX x b), .int (PL.upY y b)]) hp rfl
      have c2 : C2 (T1.set p (.lst [.int (PL.upX x b), .int (PL.upY y b)])) p (PL.upX x b) (PL.upY y b) := set_new c1
      have is := c1.is b
      have up := c1.up b
      have is2 := c2.is b
      rw [pt2_up] at is2
      by_cases w9 : pt2 b x y + 1 = 9
      · rw [decide_eq_true w9, if_pos rfl] at rs
        have wi := wi_over G2.low sqR4 fi l2 rs ln.symm
        have wb : PL.winOf (PL.upX x b) (PL.upY y b) = b := by
          cases b <;> simp only [up_upX, up_upY, pt2, PL.winOf, Bool.false_eq_true, if_false, if_true] at w9 ⊢
          · rw [if_pos (by omega)]
          · rw [if_neg (by omega)]
        rw [wb] at wi
        have sb := same_sd G2.low b
        generalize hT2 : T1.set p (.lst [.int (PL.upX x b), .int (PL.upY y b)]) = T2 at *
        refine ⟨.rt (.bl true), [some g, some (sd fi), some (brD (pre ++ b :: rest)), some (rD sqR), some (.cel p), some (sd b), some (.int (pre.length : Nat)), some (sd b)], T2, ?_, G2, .inl rfl⟩
        have nine : decide (pt2 b x y + 1 = 9) = true := decide_eq_true w9
        have e1 := bd [some g, some (sd fi), some (brD (pre ++ b :: rest)), some (rD sqR), some (.cel p), some (sd b), some (.int (pre.length : Nat)), some (sd b)] T2 (.rt (.bl true)) (by simp! only [ee, is, up, is2, nine, pl1, s2, wi, sb])
        rw [its_cons]
        unfold loopD
        rw [fg]
        simp only [Res.bind_ok]
        rw [e1]
        rfl
      · rw [decide_eq_false w9, if_neg (by simp)] at rs
        have nine : decide (pt2 b x y + 1 = 9) = false := decide_eq_false w9
        have b9 : 0 ≤ PL.upX x b ∧ PL.upX x b < 9 ∧ 0 ≤ PL.upY y b ∧ PL.upY y b < 9 := by
          cases b <;> simp only [up_upX, up_upY, pt2, Bool.false_eq_true, if_false, if_true] at w9 ⊢ <;> omega
        generalize hT2 : T1.set p (.lst [.int (PL.upX x b), .int (PL.upY y b)]) = T2 at *
        refine go T2 _ _ b rs b9.1 b9.2.1 b9.2.2.1 b9.2.2.2 G2 c2 (bd _ _ _ ?_)
        simp! only [ee, is, up, is2, nine]
    · rw [if_neg bs] at rs
      rw [decide_eq_false bs] at ee
      have is := c1.is b
      have nine : decide (pt2 b x y = 9) = false := decide_eq_false (by unfold pt2; split <;> omega)
      refine go T1 _ _ t rs hx hx2 hy hy2 G1 c1 (bd _ _ _ ?_)
      simp! only [ee, is, nine]
theorem squash_ok {P L : Sto} (hL : Lo P L) {n : Nat} {x : CO} (G : Gn n x) (hn : n + 300 ≤ 1000000000) : ∃ y, g__law_squash_right [.cel P.length] (P ++ x :: L) = .ok (.bl true) (P ++ y :: L) ∧ Gn (n + 300) y := by
  obtain ⟨x1, v, e1, G1, v0, v2⟩ := random_ok G (by omega) hL (bd := 2) (by decide) (by decide)
  obtain ⟨fi, hfi⟩ : ∃ fi : Bool, D.int v = sd fi := by
    have : v = 0 ∨ v = 1 := by omega
    rcases this with rfl | rfl
    · exact ⟨false, rfl⟩
    · exact ⟨true, rfl⟩
  rw [hfi] at e1
  obtain ⟨x2, bs, e2, G2, lb⟩ := rows_ok (many := 60) (by decide) G1 (by omega) hL
  have e2 : Cm.g__law_rallies [.cel P.length, .int 60] (P ++ x1 :: L) = .ok (brD bs) (P ++ x2 :: L) := e2
  have low := Gn.low G2 hL
  refine ⟨x2, ?_, G2.up (by omega)⟩
  have Gs0 : Gs (P ++ x2 :: L) (P ++ x2 :: L) := Gs.self low
  have Gs1 := Gs0.snoc (xs := [.int 0, .int 0]) rfl
  have c1 : C2 ((P ++ x2 :: L) ++ [.lst [.int 0, .int 0]]) (P ++ x2 :: L).length 0 0 := snoc_new
  obtain ⟨fl, ρ', T', e3, G3, al⟩ := sq_loop (B := P ++ x2 :: L) (fi := fi) (g := .cel P.length) (p := (P ++ x2 :: L).length) (Nat.le_refl _) bs [] 0 0 fi fi _ none none (by rw [List.nil_append]; omega) (by rfl) (by decide) (by decide) (by decide) (by decide) Gs1 c1
  rw [List.nil_append] at e3 al
  obtain ⟨low3, E, hE⟩ := G3
  have app : (P ++ x2 :: L) ++ E = P ++ x2 :: (L ++ E) := by simp
  refine bodyT_lo (E := E) (G2.up (m := n + 300) (by omega)) hL rfl (Eq.trans ?_ (congrArg _ (hE.trans app)))
  have it : ((fiEnum (fVar 2)) : FI) [some (.cel P.length), some (sd fi), some (brD bs), some (rD sqR), some (.cel (P ++ x2 :: L).length), some (sd fi), none, none] ((P ++ x2 :: L) ++ [.lst [.int 0, .int 0]]) = .ok ⟨itsF 0 bs, none⟩ ((P ++ x2 :: L) ++ [.lst [.int 0, .int 0]]) := rfl
  have s0 : ((fPar 1 2 (fCons (fCall 2 g__law_random (fCons (fVar 0) (fCons (fC (.int 2)) fNil))) (fCons (fCall 2 g__law_rallies (fCons (fVar 0) (fCons (fC (.int 60)) fNil))) fNil))) : FS) [some (.cel P.length), none, none, none, none, none, none, none] (P ++ x :: L) = .ok (.nx, [some (.cel P.length), some (sd fi), some (brD bs), none, none, none, none, none]) (P ++ x2 :: L) := by
    simp! only [e1, e2]
  have s2 : ((fPar 4 5 (fCons (fLstC (fCons (fC (.int 0)) (fCons (fC (.int 0)) fNil))) (fCons (fVar 1) fNil))) : FS) [some (.cel P.length), some (sd fi), some (brD bs), some (rD sqR), none, none, none, none] (P ++ x2 :: L) = .ok (.nx, [some (.cel P.length), some (sd fi), some (brD bs), some (rD sqR), some (.cel (P ++ x2 :: L).length), some (sd fi), none, none]) ((P ++ x2 :: L) ++ [.lst [.int 0, .int 0]]) := by
    generalize P ++ x2 :: L = Q
    simp! only []
  rcases al with rfl | ⟨rfl, f5, f6, f7, z, rfl, er⟩
  · refine bodyD_rt (ρ1 := ρ') ?_
    refine (fSeq_nx s0).trans ((fSeq_nx (ρ1 := [some (.cel P.length), some (sd fi), some (brD bs), some (rD sqR), none, none, none, none]) (S1 := P ++ x2 :: L) (by rfl)).trans ((fSeq_nx s2).trans (fSeq_rt (fFor_st it e3))))
  · have wi := wi_on low3 sqR4 fi (by omega) er
    refine bodyD_rt (ρ1 := [some (.cel P.length), some (sd fi), some (brD bs), some (rD sqR), some (.cel (P ++ x2 :: L).length), f5, f6, f7]) ?_
    refine (fSeq_nx s0).trans ((fSeq_nx (ρ1 := [some (.cel P.length), some (sd fi), some (brD bs), some (rD sqR), none, none, none, none]) (S1 := P ++ x2 :: L) (by rfl)).trans ((fSeq_nx s2).trans ((fSeq_nx (fFor_st it e3)).trans ?_)))
    have tt : isD .non .non T' = some (.bl true) := rfl
    simp! only [wi, tt]
end K07
set_option maxHeartbeats 4000000
namespace K07
open PySem PySem.Spec PyProof.Rows L2 DL Cm
def voL : PL.Rule := .race 15 2 none .winner .rally []
def voU : PL.Rule := .race 25 2 none .winner .rally []
def voR : PL.Rule := .race 3 1 none .turns voU [((2, 2), voL)]
theorem voR4 : R4 voR := ⟨by kernel_rfl, by kernel_rfl, by decide +kernel, by simp [voR, voU, voL, PL.Rule.ok, PL.oks, PL.ordOk]⟩
def vneed (u v : Int) : Int := if u = 2 ∧ v = 2 then 15 else 25
theorem vo_pick (u v : Int) : PL.pickSp [((2, 2), voL)] u v voU = .race (vneed u v) 2 none .winner .rally [] := by
  unfold PL.pickSp vneed
  by_cases c : u = 2 ∧ v = 2
  · rw [if_pos c, if_pos ⟨c.1.symm, c.2.symm⟩]; rfl
  · rw [if_neg c, if_neg fun h => c ⟨h.1.symm, h.2.symm⟩]; rfl
theorem vo_led (u v p q : Int) (f t f2 t2 s b : Bool) : PL.led 4 voR (.node u v f t (.node p q f2 t2 (.leaf s))) b =
    if PL.isWon (vneed u v) 2 none (PL.upX p b) (PL.upY q b) = true then
      (if PL.isWon 3 1 none (PL.upX u (PL.winOf (PL.upX p b) (PL.upY q b))) (PL.upY v (PL.winOf (PL.upX p b) (PL.upY q b))) = true then .over (PL.winOf (PL.upX u (PL.winOf (PL.upX p b) (PL.upY q b))) (PL.upY v (PL.winOf (PL.upX p b) (PL.upY q b)))) (!t)
      else .on (.node (PL.upX u (PL.winOf (PL.upX p b) (PL.upY q b))) (PL.upY v (PL.winOf (PL.upX p b) (PL.upY q b))) f (!t) (.node 0 0 (!t) (!t) (.leaf (!t)))))
    else .on (.node u v f t (.node (PL.upX p b) (PL.upY q b) f2 b (.leaf b))) := by
  have e1 : PL.led 4 voR (.node u v f t (.node p q f2 t2 (.leaf s))) b = match PL.led 3 (PL.pickSp [((2, 2), voL)] u v voU) (.node p q f2 t2 (.leaf s)) b with
    | .on j => .on (.node u v f t j)
    | .over w h => if PL.isWon 3 1 none (PL.upX u w) (PL.upY v w) then .over (PL.winOf (PL.upX u w) (PL.upY v w)) (!t)
      else .on (.node (PL.upX u w) (PL.upY v w) f (!t) (PL.begun 3 (PL.pickSp [((2, 2), voL)] (PL.upX u w) (PL.upY v w) voU) (!t))) := rfl
  have e2 : ∀ n : Int, PL.led 3 (.race n 2 none .winner .rally []) (.node p q f2 t2 (.leaf s)) b = if PL.isWon n 2 none (PL.upX p b) (PL.upY q b) then .over (PL.winOf (PL.upX p b) (PL.upY q b)) b else .on (.node (PL.upX p b) (PL.upY q b) f2 b (.leaf b)) := fun n => rfl
  rw [e1, vo_pick, e2]
  by_cases c : PL.isWon (vneed u v) 2 none (PL.upX p b) (PL.upY q b) = true
  · rw [if_pos c, if_pos c]
    simp only [vo_pick]
    rfl
  · rw [if_neg c, if_neg c]
def unwon (n p q : Int) : Prop := ¬ (n ≤ max p q ∧ 2 ≤ (p - q).natAbs)
theorem won2 {n p q : Int} (b : Bool) (h : unwon n p q) : PL.isWon n 2 none (PL.upX p b) (PL.upY q b) = (decide (n ≤ pt2 b p q + 1) && decide (pt2 (!b) p q + 2 ≤ pt2 b p q + 1)) := by
  unfold unwon at h
  rw [Bool.eq_iff_iff]
  cases b <;> simp only [up_upX, up_upY, pt2, PL.isWon, Bool.false_or, Bool.false_eq_true, if_false, if_true, Bool.and_eq_true, decide_eq_true_eq, Bool.not_false, Bool.not_true] <;> omega
theorem winb {n p q : Int} (b : Bool) (h : unwon n p q) (w : (decide (n ≤ pt2 b p q + 1) && decide (pt2 (!b) p q + 2 ≤ pt2 b p q + 1)) = true) : PL.winOf (PL.upX p b) (PL.upY q b) = b := by
  simp only [Bool.and_eq_true, decide_eq_true_eq] at w
  cases b <;> simp only [up_upX, up_upY, pt2, PL.winOf, Bool.false_eq_true, if_false, if_true, Bool.not_false, Bool.not_true] at w ⊢
  · rw [if_pos (by omega)]
  · rw [if_neg (by omega)]
theorem unw {n p q : Int} (b : Bool) (h : unwon n p q) (w : (decide (n ≤ pt2 b p q + 1) && decide (pt2 (!b) p q + 2 ≤ pt2 b p q + 1)) = false) : unwon n (PL.upX p b) (PL.upY q b) := by
  unfold unwon at *
  simp only [Bool.and_eq_false_iff, decide_eq_false_iff_not] at w
  cases b <;> simp only [up_upX, up_upY, pt2, Bool.false_eq_true, if_false, if_true, Bool.not_false, Bool.not_true] at w ⊢ <;> omega
theorem won1 {n u v : Int} (b : Bool) (hu : u < n) (hv : v < n) : PL.isWon n 1 none (PL.upX u b) (PL.upY v b) = decide (pt2 b u v + 1 = n) := by
  rw [Bool.eq_iff_iff]
  cases b <;> simp only [up_upX, up_upY, pt2, PL.isWon, Bool.false_or, Bool.false_eq_true, if_false, if_true, Bool.and_eq_true, decide_eq_true_eq] <;> omega
theorem win1 {n u v : Int} (b : Bool) (hu : u < n) (hv : v < n) (w : pt2 b u v + 1 = n) : PL.winOf (PL.upX u b) (PL.upY v b) = b := by
  cases b <;> simp only [up_upX, up_upY, pt2, PL.winOf, Bool.false_eq_true, if_false, if_true] at w ⊢
  · rw [if_pos (by omega)]
  · rw [if_neg (by omega)]
theorem unw1 {n u v : Int} (b : Bool) (hu : u < n) (hv : v < n) (w : ¬ pt2 b u v + 1 = n) : PL.upX u b < n ∧ PL.upY v b < n := by
  cases b <;> simp only [up_upX, up_upY, pt2, Bool.false_eq_true, if_false, if_true] at w ⊢ <;> omega
theorem last_at {α : Type} {xs : List α} {x : α} : atI (xs ++ [x]) (-1) = some x := by
  unfold atI ixN
  have l : (xs ++ [x]).length = xs.length + 1 := by simp
  rw [l, if_neg (by decide), if_pos (by omega)]
  show (xs ++ [x])[((-1 : Int) + ((xs.length + 1 : Nat) : Int)).toNat]? = _
  have e : ((-1 : Int) + ((xs.length + 1 : Nat) : Int)).toNat = xs.length := by omega
  rw [e]
  simp
def CL (T : Sto) (k : Nat) (l : List Bool) (t : Bool) : Prop := T[k]? = some (.lst ((l ++ [t]).map sd))
theorem CL.last {T : Sto} {k : Nat} {l : List Bool} {t : Bool} (e : CL T k l t) : ixD (.cel k) (.int (-1)) T = some (sd t) := by
  show (seqOf T (.cel k)).bind (fun xs => atI xs (-1)) = _
  have ls : seqOf T (.cel k) = some ((l ++ [t]).map sd) := by
    show lstOf T (.cel k) = _
    unfold CL at e
    simp only [lstOf, e]
  rw [ls]
  show atI ((l ++ [t]).map sd) (-1) = _
  rw [List.map_append]
  exact last_at
theorem CL.ls {T : Sto} {k : Nat} {l : List Bool} {t : Bool} (e : CL T k l t) : lstOf T (.cel k) = some ((l ++ [t]).map sd) := by
  unfold CL at e
  simp only [lstOf, e]
theorem CL.app {T : Sto} {k : Nat} {l : List Bool} {t : Bool} (e : CL T k l t) (hl : l.length ≤ 900) (t2 : Bool) : appD (.cel k) (sd t2) T = some (T.set k (.lst (((l ++ [t]) ++ [t2]).map sd))) := by
  unfold CL at e
  unfold appD
  simp only [e]
  rw [if_pos (capN_of (by simp; omega)), List.map_append (l₁ := l ++ [t])]
  rfl
theorem CL.set {T : Sto} {k : Nat} {l : List Bool} {t : Bool} (e : CL T k l t) (t2 : Bool) : CL (T.set k (.lst (((l ++ [t]) ++ [t2]).map sd))) k (l ++ [t]) t2 := set_new e
structure Vo (B T : Sto) (p w k : Nat) (u v x y : Int) (l : List Bool) (t : Bool) : Prop where
  g : Gs B T
  cp : C2 T p x y
  cw : C2 T w u v
  ck : CL T k l t
  bp : B.length ≤ p
  bw : B.length ≤ w
  bk : B.length ≤ k
  pw : p ≠ w
  pk : p ≠ k
  wk : w ≠ k
  ln : (l.length : Int) = u + v
theorem vo_loop {B : Sto} {fi : Bool} {g r3 : D} {w k : Nat} : ∀ (rest pre : List Bool) (p : Nat) (u v x y : Int) (l : List Bool) (t f2 t2 s : Bool) (T : Sto) (e9 e10 : Option D), (pre ++ rest).length ≤ 800 → PL.run 4 voR (PL.begun 4 voR fi) pre = .on (.node u v fi t (.node x y f2 t2 (.leaf s))) → 0 ≤ u → u < 3 → 0 ≤ v → v < 3 → unwon (vneed u v) x y → Vo B T p w k u v x y l t →
    ∃ fl ρ' T', loopD (fgTup 2 (fgCons (fgName 9) (fgCons (fgName 10) fgNil))) (fSeq (fIfS (fNot (fB (fCall 2 (g__law_same 16) (fCons (fLst (fCons (fCall 3 g_server_after (fCons (fVar 4) (fCons (fVar 1) (fCons (fSl (fVar 2) fNoPart (fPart (fVar 9))) fNil)))) (fCons (fCall 3 g_scores_after (fCons (fVar 4) (fCons (fVar 1) (fCons (fSl (fVar 2) fNoPart (fPart (fVar 9))) fNil)))) fNil))) (fCons (fLst (fCons (fVar 7) (fCons (fLst (fCons (fCB tupleD (fCons (fVar 6) fNil)) (fCons (fCB tupleD (fCons (fVar 5) fNil)) fNil))) fNil))) fNil))))) (fRet (fC (.bl false))) fNext) (fSeq (fAsg (fOp addD (fOp ixD (fVar 5) (fVar 10)) (fC (.int 1))) (fgSub (fVar 5) (fVar 10))) (fSeq (fAsg (fVar 10) (fgName 7)) (fIfS (fAnd (fB (fOp geD (fOp ixD (fVar 5) (fVar 10)) (fIf (fB (fOp eqD (fVar 6) (fLst (fCons (fC (.int 2)) (fCons (fC (.int 2)) fNil))))) (fC (.int 15)) (fC (.int 25))))) (fB (fOp geD (fOp ixD (fVar 5) (fVar 10)) (fOp addD (fOp ixD (fVar 5) (fOp subD (fC (.int 1)) (fVar 10))) (fC (.int 2)))))) (fSeq (fAsg (fTup (fCons (fLstC (fCons (fC (.int 0)) (fCons (fC (.int 0)) fNil))) (fCons (fOp addD (fOp ixD (fVar 6) (fVar 10)) (fC (.int 1))) fNil))) (fgTup 2 (fgCons (fgName 5) (fgCons (fgSub (fVar 6) (fVar 10)) fgNil)))) (fSeq (fDrop (fApp (fVar 8) (fOp subD (fC (.int 1)) (fOp ixD (fVar 8) (fNeg (fC (.int 1))))))) (fSeq (fAsg (fOp ixD (fVar 8) (fNeg (fC (.int 1)))) (fgName 7)) (fIfS (fB (fOp eqD (fOp ixD (fVar 6) (fVar 10)) (fC (.int 3)))) (fRet (fCall 2 (g__law_same 16) (fCons (fCall 3 g_winner_after (fCons (fVar 4) (fCons (fVar 1) (fCons (fSl (fVar 2) fNoPart (fPart (fOp addD (fVar 9) (fC (.int 1))))) fNil)))) (fCons (fVar 10) fNil)))) fNext)))) fNext)))) (itsF pre.length rest) [some g, some (sd fi), some (brD (pre ++ rest)), some r3, some (rD voR), some (.cel p), some (.cel w), some (sd s), some (.cel k), e9, e10] T = .ok (fl, ρ') T' ∧ Gs B T' ∧ (fl = .rt (.bl true) ∨ (fl = .nx ∧ ∃ f5 f6 f7 f8 f9 f10 z, ρ' = [some g, some (sd fi), some (brD (pre ++ rest)), some r3, some (rD voR), f5, f6, f7, f8, f9, f10] ∧ PL.run 4 voR (PL.begun 4 voR fi) (pre ++ rest) = .on z))
  | [], pre, p, u, v, x, y, l, t, f2, t2, s, T, e9, e10, hl, er, _, _, _, _, _, V => ⟨.nx, _, T, rfl, V.g, .inr ⟨rfl, _, _, _, _, _, _, _, rfl, by rw [List.append_nil]; exact er⟩⟩
  | b :: rest, pre, p, u, v, x, y, l, t, f2, t2, s, T, e9, e10, hl, er, hu, hu3, hv, hv3, hn, V => by
    have l1 : pre.length ≤ 800 := by simp at hl; omega
    have l2 : (pre ++ [b]).length ≤ 900 := by simp; omega
    have s1 := sl_pre (pre := pre) (rest := b :: rest)
    have s2 := sl_pre1 (pre := pre) (rest := rest) (b := b)
    have sv := sv_on V.g.low voR4 fi (by omega) er
    have sc := sc_on V.g.low voR4 fi (by omega) er
    have hsv : PL.serverIn (.node u v fi t (.node x y f2 t2 (.leaf s))) = s := rfl
    have hsc : PL.scoresIn (.node u v fi t (.node x y f2 t2 (.leaf s))) = [(u, v), (x, y)] := rfl
    rw [hsv] at sv
    rw [hsc] at sc
    have sm := same_sides V.g.low (a := s) (ps := [(u, v), (x, y)]) (by simp) (xs := [.tup [.int u, .int v], .tup [.int x, .int y]]) rfl
    have G1 := V.g.snoc (nc_scs [(u, v), (x, y)])
    have c1 : C2 (T ++ [.lst ([(u, v), (x, y)].map scD)]) p x y := snoc_keep V.cp
    have w1 : C2 (T ++ [.lst ([(u, v), (x, y)].map scD)]) w u v := snoc_keep V.cw
    have k1 : CL (T ++ [.lst ([(u, v), (x, y)].map scD)]) k l t := snoc_keep V.ck
    generalize hT1 : T ++ [CO.lst ([(u, v), (x, y)].map scD)] = T1 at *
    have fg : ∀ e9 e10, (fgTup 2 (fgCons (fgName 9) (fgCons (fgName 10) fgNil))) (.tup [.int (pre.length : Nat), sd b]) [some g, some (sd fi), some (brD (pre ++ b :: rest)), some r3, some (rD voR), some (.cel p), some (.cel w), some (sd s), some (.cel k), e9, e10] T = .ok [some g, some (sd fi), some (brD (pre ++ b :: rest)), some r3, some (rD voR), some (.cel p), some (.cel w), some (sd s), some (.cel k), some (.int (pre.length : Nat)), some (sd b)] T := fun _ _ => rfl
    have en : pre ++ b :: rest = (pre ++ [b]) ++ rest := by simp
    have ln : (pre ++ [b]).length = pre.length + 1 := by simp
    have pl1 : ((pre.length : Nat) : Int) + 1 = ((pre.length + 1 : Nat) : Int) := by omega
    have rs := run_snoc (n := 4) (R := voR) b pre (PL.begun 4 voR fi) er
    rw [vo_led, won2 b hn] at rs
    generalize hE : [some g, some (sd fi), some (brD (pre ++ b :: rest)), some r3, some (rD voR), some (.cel p), some (.cel w), some (sd s), some (.cel k), some (.int (pre.length : Nat)), some (sd b)] = EE at fg
    have st1 : (fIfS (fNot (fB (fCall 2 (Cm.g__law_same 16) (fCons (fLst (fCons (fCall 3 Cm.g_server_after (fCons (fVar 4) (fCons (fVar 1) (fCons (fSl (fVar 2) fNoPart (fPart (fVar 9))) fNil)))) (fCons (fCall 3 Cm.g_scores_after (fCons (fVar 4) (fCons (fVar 1) (fCons (fSl (fVar 2) fNoPart (fPart (fVar 9))) fNil)))) fNil))) (fCons (fLst (fCons (fVar 7) (fCons (fLst (fCons (fCB tupleD (fCons (fVar 6) fNil)) (fCons (fCB tupleD (fCons (fVar 5) fNil)) fNil))) fNil))) fNil))))) (fRet (fC (.bl false))) fNext : FS) EE T = .ok (.nx, EE) T1 := by
      have tu := c1.tu
      have tw := w1.tu
      rw [← hE]
      simp! only [s1, sv, sc, tu, tw, sm]
    have go : ∀ (T2 : Sto) (p2 : Nat) (u2 v2 x2 y2 : Int) (l2 : List Bool) (t2 g2 h2 s2 : Bool), PL.run 4 voR (PL.begun 4 voR fi) (pre ++ [b]) = .on (.node u2 v2 fi t2 (.node x2 y2 g2 h2 (.leaf s2))) → 0 ≤ u2 → u2 < 3 → 0 ≤ v2 → v2 < 3 → unwon (vneed u2 v2) x2 y2 → Vo B T2 p2 w k u2 v2 x2 y2 l2 t2 → (fSeq (fIfS (fNot (fB (fCall 2 (g__law_same 16) (fCons (fLst (fCons (fCall 3 g_server_after (fCons (fVar 4) (fCons (fVar 1) (fCons (fSl (fVar 2) fNoPart (fPart (fVar 9))) fNil)))) (fCons (fCall 3 g_scores_after (fCons (fVar 4) (fCons (fVar 1) (fCons (fSl (fVar 2) fNoPart (fPart (fVar 9))) fNil)))) fNil))) (fCons (fLst (fCons (fVar 7) (fCons (fLst (fCons (fCB tupleD (fCons (fVar 6) fNil)) (fCons (fCB tupleD (fCons (fVar 5) fNil)) fNil))) fNil))) fNil))))) (fRet (fC (.bl false))) fNext) (fSeq (fAsg (fOp addD (fOp ixD (fVar 5) (fVar 10)) (fC (.int 1))) (fgSub (fVar 5) (fVar 10))) (fSeq (fAsg (fVar 10) (fgName 7)) (fIfS (fAnd (fB (fOp geD (fOp ixD (fVar 5) (fVar 10)) (fIf (fB (fOp eqD (fVar 6) (fLst (fCons (fC (.int 2)) (fCons (fC (.int 2)) fNil))))) (fC (.int 15)) (fC (.int 25))))) (fB (fOp geD (fOp ixD (fVar 5) (fVar 10)) (fOp addD (fOp ixD (fVar 5) (fOp subD (fC (.int 1)) (fVar 10))) (fC (.int 2)))))) (fSeq (fAsg (fTup (fCons (fLstC (fCons (fC (.int 0)) (fCons (fC (.int 0)) fNil))) (fCons (fOp addD (fOp ixD (fVar 6) (fVar 10)) (fC (.int 1))) fNil))) (fgTup 2 (fgCons (fgName 5) (fgCons (fgSub (fVar 6) (fVar 10)) fgNil)))) (fSeq (fDrop (fApp (fVar 8) (fOp subD (fC (.int 1)) (fOp ixD (fVar 8) (fNeg (fC (.int 1))))))) (fSeq (fAsg (fOp ixD (fVar 8) (fNeg (fC (.int 1)))) (fgName 7)) (fIfS (fB (fOp eqD (fOp ixD (fVar 6) (fVar 10)) (fC (.int 3)))) (fRet (fCall 2 (g__law_same 16) (fCons (fCall 3 g_winner_after (fCons (fVar 4) (fCons (fVar 1) (fCons (fSl (fVar 2) fNoPart (fPart (fOp addD (fVar 9) (fC (.int 1))))) fNil)))) (fCons (fVar 10) fNil)))) fNext)))) fNext)))) EE T = .ok (.nx, [some g, some (sd fi), some (brD (pre ++ b :: rest)), some r3, some (rD voR), some (.cel p2), some (.cel w), some (sd s2), some (.cel k), some (.int (pre.length : Nat)), some (sd b)]) T2 → ∃ fl ρ' T', loopD (fgTup 2 (fgCons (fgName 9) (fgCons (fgName 10) fgNil))) (fSeq (fIfS (fNot (fB (fCall 2 (g__law_same 16) (fCons (fLst (fCons (fCall 3 g_server_after (fCons (fVar 4) (fCons (fVar 1) (fCons (fSl (fVar 2) fNoPart (fPart (fVar 9))) fNil)))) (fCons (fCall 3 g_scores_after (fCons (fVar 4) (fCons (fVar 1) (fCons (fSl (fVar 2) fNoPart (fPart (fVar 9))) fNil)))) fNil))) (fCons (fLst (fCons (fVar 7) (fCons (fLst (fCons (fCB tupleD (fCons (fVar 6) fNil)) (fCons (fCB tupleD (fCons (fVar 5) fNil)) fNil))) fNil))) fNil))))) (fRet (fC (.bl false))) fNext) (fSeq (fAsg (fOp addD (fOp ixD (fVar 5) (fVar 10)) (fC (.int 1))) (fgSub (fVar 5) (fVar 10))) (fSeq (fAsg (fVar 10) (fgName 7)) (fIfS (fAnd (fB (fOp geD (fOp ixD (fVar 5) (fVar 10)) (fIf (fB (fOp eqD (fVar 6) (fLst (fCons (fC (.int 2)) (fCons (fC (.int 2)) fNil))))) (fC (.int 15)) (fC (.int 25))))) (fB (fOp geD (fOp ixD (fVar 5) (fVar 10)) (fOp addD (fOp ixD (fVar 5) (fOp subD (fC (.int 1)) (fVar 10))) (fC (.int 2)))))) (fSeq (fAsg (fTup (fCons (fLstC (fCons (fC (.int 0)) (fCons (fC (.int 0)) fNil))) (fCons (fOp addD (fOp ixD (fVar 6) (fVar 10)) (fC (.int 1))) fNil))) (fgTup 2 (fgCons (fgName 5) (fgCons (fgSub (fVar 6) (fVar 10)) fgNil)))) (fSeq (fDrop (fApp (fVar 8) (fOp subD (fC (.int 1)) (fOp ixD (fVar 8) (fNeg (fC (.int 1))))))) (fSeq (fAsg (fOp ixD (fVar 8) (fNeg (fC (.int 1)))) (fgName 7)) (fIfS (fB (fOp eqD (fOp ixD (fVar 6) (fVar 10)) (fC (.int 3)))) (fRet (fCall 2 (g__law_same 16) (fCons (fCall 3 g_winner_after (fCons (fVar 4) (fCons (fVar 1) (fCons (fSl (fVar 2) fNoPart (fPart (fOp addD (fVar 9) (fC (.int 1))))) fNil)))) (fCons (fVar 10) fNil)))) fNext)))) fNext)))) (itsF pre.length (b :: rest)) [some g, some (sd fi), some (brD (pre ++ b :: rest)), some r3, some (rD voR), some (.cel p), some (.cel w), some (sd s), some (.cel k), e9, e10] T = .ok (fl, ρ') T' ∧ Gs B T' ∧ (fl = .rt (.bl true) ∨ (fl = .nx ∧ ∃ f5 f6 f7 f8 f9 f10 z, ρ' = [some g, some (sd fi), some (brD (pre ++ b :: rest)), some r3, some (rD voR), f5, f6, f7, f8, f9, f10] ∧ PL.run 4 voR (PL.begun 4 voR fi) (pre ++ b :: rest) = .on z)) := fun T2 p2 u2 v2 x2 y2 l2 t2 g2 h2 s2 r1 h3 h4 h5 h6 h7 V2 e1 => by
      obtain ⟨fl, ρ', T', e2, g3, al⟩ := vo_loop (g := g) (r3 := r3) rest (pre ++ [b]) p2 u2 v2 x2 y2 l2 t2 g2 h2 s2 T2 (some (.int (pre.length : Nat))) (some (sd b)) (by rw [← en]; exact hl) r1 h3 h4 h5 h6 h7 V2
      rw [← en] at e2 al
      rw [ln] at e2
      refine ⟨fl, ρ', T', ?_, g3, al⟩
      rw [its_cons]
      unfold loopD
      rw [fg]
      simp only [Res.bind_ok]
      rw [e1]
      exact e2
    -- the point
    have G2 := G1.set (p := p) (xs := [.int (PL.upX x b), .int (PL.upY y b)]) V.bp rfl
    have c2 : C2 (T1.set p (.lst [.int (PL.upX x b), .int (PL.upY y b)])) p (PL.upX x b) (PL.upY y b) := set_new c1
    have w2 : C2 (T1.set p (.lst [.int (PL.upX x b), .int (PL.upY y b)])) w u v := set_keep w1 V.pw
    have k2 : CL (T1.set p (.lst [.int (PL.upX x b), .int (PL.upY y b)])) k l t := set_keep k1 V.pk
    have is := c1.is b
    have up := c1.up b
    have is2 := c2.is b
    have isn := c2.is (!b)
    rw [pt2_up] at is2
    rw [pt2_un] at isn
    have sb := sub_sd b
    generalize hT2 : T1.set p (.lst [.int (PL.upX x b), .int (PL.upY y b)]) = T2 at *
    have cond : (fAnd (fB (fOp geD (fOp ixD (fVar 5) (fVar 10)) (fIf (fB (fOp eqD (fVar 6) (fLst (fCons (fC (.int 2)) (fCons (fC (.int 2)) fNil))))) (fC (.int 15)) (fC (.int 25))))) (fB (fOp geD (fOp ixD (fVar 5) (fVar 10)) (fOp addD (fOp ixD (fVar 5) (fOp subD (fC (.int 1)) (fVar 10))) (fC (.int 2))))) : FT) [some g, some (sd fi), some (brD (pre ++ b :: rest)), some r3, some (rD voR), some (.cel p), some (.cel w), some (sd b), some (.cel k), some (.int (pre.length : Nat)), some (sd b)] T2 = .ok (decide (vneed u v ≤ pt2 b x y + 1) && decide (pt2 (!b) x y + 2 ≤ pt2 b x y + 1)) T2 := by
      obtain ⟨bb, eb, hb⟩ : ∃ bb : Bool, eqD (.cel w) (.lst [.int 2, .int 2]) T2 = some (.bl bb) ∧ vneed u v = if bb = true then 15 else 25 := by
        refine ⟨_, w2.eq 2 2, ?_⟩
        unfold vneed
        by_cases c : u = 2 ∧ v = 2
        · rw [if_pos c, if_pos (by simp [c.1, c.2])]
        · rw [if_neg c, if_neg (by simpa using c)]
      rw [hb]
      cases bb
      · simp! only [is2, isn, sb, eb, Bool.false_eq_true, if_false]
        by_cases c : (25 : Int) ≤ pt2 b x y + 1
        · simp only [decide_eq_true c, if_true, Bool.true_and]
        · simp only [decide_eq_false c, Bool.false_eq_true, if_false, Bool.false_and]
      · simp! only [is2, isn, sb, eb, if_true]
        by_cases c : (15 : Int) ≤ pt2 b x y + 1
        · simp only [decide_eq_true c, if_true, Bool.true_and]
        · simp only [decide_eq_false c, Bool.false_eq_true, if_false, Bool.false_and]
    have st2 : (fAsg (fOp addD (fOp ixD (fVar 5) (fVar 10)) (fC (.int 1))) (fgSub (fVar 5) (fVar 10)) : FS) EE T1 = .ok (.nx, EE) T2 := by
      rw [← hE]
      simp! only [is, up]
    have st3 : (fAsg (fVar 10) (fgName 7) : FS) EE T2 = .ok (.nx, [some g, some (sd fi), some (brD (pre ++ b :: rest)), some r3, some (rD voR), some (.cel p), some (.cel w), some (sd b), some (.cel k), some (.int (pre.length : Nat)), some (sd b)]) T2 := by
      rw [← hE]
      rfl
    by_cases W : (decide (vneed u v ≤ pt2 b x y + 1) && decide (pt2 (!b) x y + 2 ≤ pt2 b x y + 1)) = true
    · have wb := winb b hn W
      rw [W] at cond rs
      rw [if_pos rfl, wb, won1 b hu3 hv3] at rs
      -- a new set
      have G3 := G2.snoc (xs := [.int 0, .int 0]) rfl
      have p3 : C2 (T2 ++ [.lst [.int 0, .int 0]]) T2.length 0 0 := snoc_new
      have w3 : C2 (T2 ++ [.lst [.int 0, .int 0]]) w u v := snoc_keep w2
      have k3 : CL (T2 ++ [.lst [.int 0, .int 0]]) k l t := snoc_keep k2
      have lp : T2.length ≠ w := fun e => by have := w2.lt; omega
      have lk : T2.length ≠ k := fun e => by have := (List.getElem?_eq_some_iff.mp k2).1; omega
      have bp := G2.len
      generalize hT3 : T2 ++ [CO.lst [.int 0, .int 0]] = T3 at *
      have wis := w3.is b
      have wup := w3.up b
      have G4 := G3.set (p := w) (xs := [.int (PL.upX u b), .int (PL.upY v b)]) V.bw rfl
      have p4 : C2 (T3.set w (.lst [.int (PL.upX u b), .int (PL.upY v b)])) T2.length 0 0 := set_keep p3 lp.symm
      have w4 : C2 (T3.set w (.lst [.int (PL.upX u b), .int (PL.upY v b)])) w (PL.upX u b) (PL.upY v b) := set_new w3
      have k4 : CL (T3.set w (.lst [.int (PL.upX u b), .int (PL.upY v b)])) k l t := set_keep k3 V.wk
      generalize hT4 : T3.set w (.lst [.int (PL.upX u b), .int (PL.upY v b)]) = T4 at *
      have la := k4.last
      have ls4 := k4.ls
      have ap := k4.app (by have := V.ln; omega) (!t)
      have G5 := G4.set (p := k) (xs := ((l ++ [t]) ++ [!t]).map sd) V.bk (nc_sds _)
      have p5 : C2 (T4.set k (.lst (((l ++ [t]) ++ [!t]).map sd))) T2.length 0 0 := set_keep p4 lk.symm
      have w5 : C2 (T4.set k (.lst (((l ++ [t]) ++ [!t]).map sd))) w (PL.upX u b) (PL.upY v b) := set_keep w4 V.wk.symm
      have k5 : CL (T4.set k (.lst (((l ++ [t]) ++ [!t]).map sd))) k (l ++ [t]) (!t) := k4.set (!t)
      generalize hT5 : T4.set k (.lst (((l ++ [t]) ++ [!t]).map sd)) = T5 at *
      have la5 := k5.last
      have wi5 := w5.is b
      rw [pt2_up] at wi5
      have st := sub_sd t
      by_cases w9 : pt2 b u v + 1 = 3
      · rw [decide_eq_true w9, if_pos rfl, win1 b hu3 hv3 w9] at rs
        have wi := wi_over G5.low voR4 fi l2 rs ln.symm
        have sa := same_sd G5.low b
        have nine : decide (pt2 b u v + 1 = 3) = true := decide_eq_true w9
        refine ⟨.rt (.bl true), [some g, some (sd fi), some (brD (pre ++ b :: rest)), some r3, some (rD voR), some (.cel T2.length), some (.cel w), some (sd (!t)), some (.cel k), some (.int (pre.length : Nat)), some (sd b)], T5, ?_, G5, .inl rfl⟩
        have e1 : (fSeq (fIfS (fNot (fB (fCall 2 (g__law_same 16) (fCons (fLst (fCons (fCall 3 g_server_after (fCons (fVar 4) (fCons (fVar 1) (fCons (fSl (fVar 2) fNoPart (fPart (fVar 9))) fNil)))) (fCons (fCall 3 g_scores_after (fCons (fVar 4) (fCons (fVar 1) (fCons (fSl (fVar 2) fNoPart (fPart (fVar 9))) fNil)))) fNil))) (fCons (fLst (fCons (fVar 7) (fCons (fLst (fCons (fCB tupleD (fCons (fVar 6) fNil)) (fCons (fCB tupleD (fCons (fVar 5) fNil)) fNil))) fNil))) fNil))))) (fRet (fC (.bl false))) fNext) (fSeq (fAsg (fOp addD (fOp ixD (fVar 5) (fVar 10)) (fC (.int 1))) (fgSub (fVar 5) (fVar 10))) (fSeq (fAsg (fVar 10) (fgName 7)) (fIfS (fAnd (fB (fOp geD (fOp ixD (fVar 5) (fVar 10)) (fIf (fB (fOp eqD (fVar 6) (fLst (fCons (fC (.int 2)) (fCons (fC (.int 2)) fNil))))) (fC (.int 15)) (fC (.int 25))))) (fB (fOp geD (fOp ixD (fVar 5) (fVar 10)) (fOp addD (fOp ixD (fVar 5) (fOp subD (fC (.int 1)) (fVar 10))) (fC (.int 2)))))) (fSeq (fAsg (fTup (fCons (fLstC (fCons (fC (.int 0)) (fCons (fC (.int 0)) fNil))) (fCons (fOp addD (fOp ixD (fVar 6) (fVar 10)) (fC (.int 1))) fNil))) (fgTup 2 (fgCons (fgName 5) (fgCons (fgSub (fVar 6) (fVar 10)) fgNil)))) (fSeq (fDrop (fApp (fVar 8) (fOp subD (fC (.int 1)) (fOp ixD (fVar 8) (fNeg (fC (.int 1))))))) (fSeq (fAsg (fOp ixD (fVar 8) (fNeg (fC (.int 1)))) (fgName 7)) (fIfS (fB (fOp eqD (fOp ixD (fVar 6) (fVar 10)) (fC (.int 3)))) (fRet (fCall 2 (g__law_same 16) (fCons (fCall 3 g_winner_after (fCons (fVar 4) (fCons (fVar 1) (fCons (fSl (fVar 2) fNoPart (fPart (fOp addD (fVar 9) (fC (.int 1))))) fNil)))) (fCons (fVar 10) fNil)))) fNext)))) fNext)))) EE T = .ok (.rt (.bl true), [some g, some (sd fi), some (brD (pre ++ b :: rest)), some r3, some (rD voR), some (.cel T2.length), some (.cel w), some (sd (!t)), some (.cel k), some (.int (pre.length : Nat)), some (sd b)]) T5 := by
          refine (fSeq_nx st1).trans ((fSeq_nx st2).trans ((fSeq_nx st3).trans ?_))
          rw [fIfS_ap, cond]
          simp! only [hT3, wis, wup, la, ls4, st, ap, la5, wi5, nine, pl1, s2, wi, sa]
        rw [its_cons]
        unfold loopD
        rw [fg]
        simp only [Res.bind_ok]
        rw [e1]
        rfl
      · rw [decide_eq_false w9, if_neg (by simp)] at rs
        have nine : decide (pt2 b u v + 1 = 3) = false := decide_eq_false w9
        have b3 := unw1 b hu3 hv3 w9
        refine go T5 T2.length _ _ 0 0 (l ++ [t]) (!t) (!t) (!t) (!t) rs (by rw [up_upX]; split <;> omega) b3.1 (by rw [up_upY]; split <;> omega) b3.2 (by unfold unwon vneed; split <;> simp) ⟨G5, p5, w5, k5, bp, V.bw, V.bk, lp, lk, V.wk, by
          have := V.ln
          rw [up_upX, up_upY, List.length_append, List.length_singleton]
          split <;> omega⟩ ?_
        refine (fSeq_nx st1).trans ((fSeq_nx st2).trans ((fSeq_nx st3).trans ?_))
        rw [fIfS_ap, cond]
        simp! only [hT3, wis, wup, la, ls4, st, ap, la5, wi5, nine]
    · have W' : (decide (vneed u v ≤ pt2 b x y + 1) && decide (pt2 (!b) x y + 2 ≤ pt2 b x y + 1)) = false := by simpa using W
      rw [W'] at cond rs
      rw [if_neg (by simp)] at rs
      refine go T2 p u v _ _ l t f2 b b rs hu hu3 hv hv3 (unw b hn W') ⟨G2, c2, w2, k2, V.bp, V.bw, V.bk, V.pw, V.pk, V.wk, V.ln⟩ ?_
      refine (fSeq_nx st1).trans ((fSeq_nx st2).trans ((fSeq_nx st3).trans ?_))
      rw [fIfS_ap, cond]
      rfl
theorem volley_ok {P L : Sto} (hL : Lo P L) {n : Nat} {x : CO} (G : Gn n x) (hn : n + 900 ≤ 1000000000) : ∃ y, g__law_volley_right [.cel P.length] (P ++ x :: L) = .ok (.bl true) (P ++ y :: L) ∧ Gn (n + 900) y := by
  obtain ⟨x1, v, e1, G1, v0, v2⟩ := random_ok G (by omega) hL (bd := 2) (by decide) (by decide)
  obtain ⟨fi, hfi⟩ : ∃ fi : Bool, D.int v = sd fi := by
    have : v = 0 ∨ v = 1 := by omega
    rcases this with rfl | rfl
    · exact ⟨false, rfl⟩
    · exact ⟨true, rfl⟩
  rw [hfi] at e1
  obtain ⟨x9, m, e9, G9, m0, m1⟩ := random_ok G1 (by omega) hL (bd := 160) (by decide) (by decide)
  obtain ⟨k, hk⟩ := Int.eq_ofNat_of_zero_le (show 0 ≤ 40 + m by omega)
  obtain ⟨x2, bs, e2, G2, lb⟩ := rows_ok (many := k) (by omega) G9 (by omega) hL
  have low := Gn.low G2 hL
  refine ⟨x2, ?_, G2.up (by omega)⟩
  generalize hQ : P ++ x2 :: L = Q at *
  have G3 : Gs Q (Q ++ [.lst [.int 0, .int 0]]) := (Gs.self low).snoc rfl
  have G4 : Gs Q ((Q ++ [.lst [.int 0, .int 0]]) ++ [.lst [.int 0, .int 0]]) := G3.snoc rfl
  have G5 : Gs Q (((Q ++ [.lst [.int 0, .int 0]]) ++ [.lst [.int 0, .int 0]]) ++ [.lst [sd fi]]) := G4.snoc (nc_sds [fi])
  have lq1 : (Q ++ [CO.lst [D.int 0, .int 0]]).length = Q.length + 1 := by simp
  have lq2 : ((Q ++ [CO.lst [D.int 0, .int 0]]) ++ [CO.lst [D.int 0, .int 0]]).length = Q.length + 2 := by simp
  have c1 : C2 (((Q ++ [.lst [.int 0, .int 0]]) ++ [.lst [.int 0, .int 0]]) ++ [.lst [sd fi]]) Q.length 0 0 := snoc_keep (snoc_keep snoc_new)
  have c2 : C2 (((Q ++ [.lst [.int 0, .int 0]]) ++ [.lst [.int 0, .int 0]]) ++ [.lst [sd fi]]) (Q.length + 1) 0 0 := snoc_keep (by rw [← lq1]; exact snoc_new)
  have c3 : CL (((Q ++ [.lst [.int 0, .int 0]]) ++ [.lst [.int 0, .int 0]]) ++ [.lst [sd fi]]) (Q.length + 2) [] fi := by rw [← lq2]; exact snoc_new
  have hR3 : ∃ r3, r3 = rD voL := ⟨_, rfl⟩
  obtain ⟨r3, hr3⟩ := hR3
  obtain ⟨fl, ρ', T', e3, G6, al⟩ := vo_loop (B := Q) (fi := fi) (g := .cel P.length) (r3 := r3) (w := Q.length + 1) (k := Q.length + 2) bs [] Q.length 0 0 0 0 [] fi fi fi fi _ none none (by rw [List.nil_append]; omega) (by rfl) (by decide) (by decide) (by decide) (by decide) (by unfold unwon vneed; simp) ⟨G5, c1, c2, c3, Nat.le_refl _, by omega, by omega, by omega, by omega, by omega, rfl⟩
  rw [List.nil_append] at e3 al
  obtain ⟨low3, E, hE⟩ := G6
  have app : Q ++ E = P ++ x2 :: (L ++ E) := by rw [← hQ]; simp
  rw [hE] at e3 low3
  rw [← hQ]
  refine bodyT_lo (E := E) (G2.up (m := n + 900) (by omega)) hL rfl (Eq.trans ?_ (congrArg _ app))
  have it : ((fiEnum (fVar 2)) : FI) [some (.cel P.length), some (sd fi), some (brD bs), some r3, some (rD voR), some (.cel Q.length), some (.cel (Q.length + 1)), some (sd fi), some (.cel (Q.length + 2)), none, none] (((Q ++ [.lst [.int 0, .int 0]]) ++ [.lst [.int 0, .int 0]]) ++ [.lst [sd fi]]) = .ok ⟨itsF 0 bs, none⟩ (((Q ++ [.lst [.int 0, .int 0]]) ++ [.lst [.int 0, .int 0]]) ++ [.lst [sd fi]]) := rfl
  have s0 : ((fPar 1 2 (fCons (fCall 2 g__law_random (fCons (fVar 0) (fCons (fC (.int 2)) fNil))) (fCons (fCall 2 g__law_rallies (fCons (fVar 0) (fCons (fOp addD (fC (.int 40)) (fCall 2 g__law_random (fCons (fVar 0) (fCons (fC (.int 160)) fNil)))) fNil))) fNil))) : FS) [some (.cel P.length), none, none, none, none, none, none, none, none, none, none] (P ++ x :: L) = .ok (.nx, [some (.cel P.length), some (sd fi), some (brD bs), none, none, none, none, none, none, none, none]) Q := by
    simp! only [e1, e9, hk, e2]
  have s1 : ((fAsg (fTup (fCons (fC (.str "race")) (fCons (fC (.int 15)) (fCons (fC (.int 2)) (fCons (fC .non) (fCons (fTup (fCons (fC (.str "winner")) fNil)) (fCons (fTup (fCons (fC (.str "rally")) fNil)) (fCons (fLst fNil) fNil)))))))) (fgName 3)) : FS) [some (.cel P.length), some (sd fi), some (brD bs), none, none, none, none, none, none, none, none] Q = .ok (.nx, [some (.cel P.length), some (sd fi), some (brD bs), some r3, none, none, none, none, none, none, none]) Q := by
    rw [hr3]
    rfl
  have s2 : ((fAsg (fTup (fCons (fC (.str "race")) (fCons (fC (.int 3)) (fCons (fC (.int 1)) (fCons (fC .non) (fCons (fTup (fCons (fC (.str "turns")) fNil)) (fCons (fTup (fCons (fC (.str "race")) (fCons (fC (.int 25)) (fCons (fC (.int 2)) (fCons (fC .non) (fCons (fTup (fCons (fC (.str "winner")) fNil)) (fCons (fTup (fCons (fC (.str "rally")) fNil)) (fCons (fLst fNil) fNil)))))))) (fCons (fLst (fCons (fTup (fCons (fTup (fCons (fC (.int 2)) (fCons (fC (.int 2)) fNil))) (fCons (fVar 3) fNil))) fNil)) fNil)))))))) (fgName 4)) : FS) [some (.cel P.length), some (sd fi), some (brD bs), some r3, none, none, none, none, none, none, none] Q = .ok (.nx, [some (.cel P.length), some (sd fi), some (brD bs), some r3, some (rD voR), none, none, none, none, none, none]) Q := by
    rw [hr3]
    rfl
  have s3 : ((fAsg (fTup (fCons (fLstC (fCons (fC (.int 0)) (fCons (fC (.int 0)) fNil))) (fCons (fLstC (fCons (fC (.int 0)) (fCons (fC (.int 0)) fNil))) (fCons (fVar 1) (fCons (fLstC (fCons (fVar 1) fNil)) fNil))))) (fgTup 4 (fgCons (fgName 5) (fgCons (fgName 6) (fgCons (fgName 7) (fgCons (fgName 8) fgNil)))))) : FS) [some (.cel P.length), some (sd fi), some (brD bs), some r3, some (rD voR), none, none, none, none, none, none] Q = .ok (.nx, [some (.cel P.length), some (sd fi), some (brD bs), some r3, some (rD voR), some (.cel Q.length), some (.cel (Q.length + 1)), some (sd fi), some (.cel (Q.length + 2)), none, none]) (((Q ++ [.lst [.int 0, .int 0]]) ++ [.lst [.int 0, .int 0]]) ++ [.lst [sd fi]]) := by
    simp! only [lq1, lq2]
  rcases al with rfl | ⟨rfl, f5, f6, f7, f8, f9, f10, z, rfl, er⟩
  · refine bodyD_rt (ρ1 := ρ') ?_
    exact (fSeq_nx s0).trans ((fSeq_nx s1).trans ((fSeq_nx s2).trans ((fSeq_nx s3).trans (fSeq_rt (fFor_st it e3)))))
  · have wi := wi_on low3 voR4 fi (by omega) er
    refine bodyD_rt (ρ1 := [some (.cel P.length), some (sd fi), some (brD bs), some r3, some (rD voR), f5, f6, f7, f8, f9, f10]) ?_
    refine (fSeq_nx s0).trans ((fSeq_nx s1).trans ((fSeq_nx s2).trans ((fSeq_nx s3).trans ((fSeq_nx (fFor_st it e3)).trans ?_))))
    have tt : isD .non .non (Q ++ E) = some (.bl true) := rfl
    simp! only [wi, tt]
end K07
set_option maxHeartbeats 4000000
namespace K07
open PySem PySem.Spec PyProof.Rows L2 DL Cm
def ttR : PL.Rule := .race 11 2 none (.row [false, false, true, true]) .rally []
def ttD : PL.Rule := .race 1 2 none .turns .rally []
def ttL : PL.Rule := .race 11 1 (some 11) (.row [false, false, true, true]) .rally [((10, 10), ttD)]
theorem ttR4 : R4 ttR := ⟨by kernel_rfl, by kernel_rfl, by decide +kernel, by simp [ttR, PL.Rule.ok, PL.oks, PL.ordOk]⟩
theorem ttL4 : R4 ttL := ⟨by kernel_rfl, by kernel_rfl, by decide +kernel, by simp [ttL, ttD, PL.Rule.ok, PL.oks, PL.ordOk]⟩
def ttSv (fi : Bool) (p q : Int) : Bool := if (if p + q < 20 then (p + q) / 2 else p + q) % 2 = 0 then fi else !fi
def ttRun (fi : Bool) : Int → Int → List Bool → Option ((Int × Int) × List Bool)
  | p, q, [] => some ((p, q), [])
  | p, q, b :: bs => if 11 ≤ max p q ∧ 2 ≤ (p - q).natAbs then none else (ttRun fi (PL.upX p b) (PL.upY q b) bs).map fun r => (r.1, ttSv fi p q :: r.2)
def tlSt (fi : Bool) (p q : Int) : PL.St := if 10 ≤ p ∧ 10 ≤ q then .node 10 10 fi fi (.node (p - 10) (q - 10) fi (ttSv fi p q) (.leaf (ttSv fi p q))) else .node p q fi (ttSv fi p q) (.leaf (ttSv fi p q))
theorem tt_row (fi : Bool) {n : Int} (h : 0 ≤ n) (t w hh : Bool) (x y : Int) (hn : x + y = n) : PL.nextTurn (.row [false, false, true, true]) fi t x y w hh = if (n / 2) % 2 = 0 then fi else !fi := by
  have e : PL.nextTurn (.row [false, false, true, true]) fi t x y w hh = if [false, false, true, true].getD ((x + y) % 4).toNat false = false then fi else !fi := rfl
  rw [e, hn]
  have c : n % 4 = 0 ∨ n % 4 = 1 ∨ n % 4 = 2 ∨ n % 4 = 3 := by omega
  rcases c with c | c | c | c
  · rw [c, if_pos (show (n / 2) % 2 = 0 by omega)]; rfl
  · rw [c, if_pos (show (n / 2) % 2 = 0 by omega)]; rfl
  · rw [c, if_neg (show ¬ (n / 2) % 2 = 0 by omega)]; rfl
  · rw [c, if_neg (show ¬ (n / 2) % 2 = 0 by omega)]; rfl
theorem tl_pick (p q : Int) : PL.pickSp [((10, 10), ttD)] p q .rally = if p = 10 ∧ q = 10 then ttD else .rally := by
  unfold PL.pickSp
  by_cases c : p = 10 ∧ q = 10
  · rw [if_pos c, if_pos ⟨c.1.symm, c.2.symm⟩]
  · rw [if_neg c, if_neg fun h => c ⟨h.1.symm, h.2.symm⟩]; rfl
theorem up_sum (p q : Int) (b : Bool) : PL.upX p b + PL.upY q b = p + q + 1 := by rw [up_upX, up_upY]; split <;> omega
theorem isw11 {p q : Int} (b : Bool) (h : unwon 11 p q) (c : ¬ (10 ≤ p ∧ 10 ≤ q)) : PL.isWon 11 1 (some 11) (PL.upX p b) (PL.upY q b) = decide (11 ≤ max (PL.upX p b) (PL.upY q b) ∧ 2 ≤ (PL.upX p b - PL.upY q b).natAbs) := by
  unfold unwon at h
  rw [Bool.eq_iff_iff]
  cases b <;> simp only [up_upX, up_upY, PL.isWon, Bool.or_eq_true, Bool.false_eq_true, if_false, if_true, Bool.and_eq_true, decide_eq_true_eq] <;> omega
theorem sv_next (fi : Bool) {p q : Int} (b : Bool) (h : 10 ≤ p ∧ 10 ≤ q) : (!ttSv fi p q) = ttSv fi (PL.upX p b) (PL.upY q b) := by
  unfold ttSv
  rw [up_sum, if_neg (show ¬ p + q < 20 by omega), if_neg (show ¬ p + q + 1 < 20 by omega)]
  by_cases c : (p + q) % 2 = 0
  · rw [if_pos c, if_neg (show ¬ (p + q + 1) % 2 = 0 by omega)]
  · rw [if_neg c, if_pos (show (p + q + 1) % 2 = 0 by omega), Bool.not_not]
theorem tl_led {fi b : Bool} {p q : Int} (hp : 0 ≤ p) (hq : 0 ≤ q) (h : unwon 11 p q) : ∃ hh, PL.led 4 ttL (tlSt fi p q) b = if 11 ≤ max (PL.upX p b) (PL.upY q b) ∧ 2 ≤ (PL.upX p b - PL.upY q b).natAbs then .over (PL.winOf (PL.upX p b) (PL.upY q b)) hh else .on (tlSt fi (PL.upX p b) (PL.upY q b)) := by
  by_cases c : 10 ≤ p ∧ 10 ≤ q
  · have e0 : tlSt fi p q = .node 10 10 fi fi (.node (p - 10) (q - 10) fi (ttSv fi p q) (.leaf (ttSv fi p q))) := by unfold tlSt; rw [if_pos c]
    have e1 : ∀ i, PL.led 4 ttL (.node 10 10 fi fi i) b = match PL.led 3 (PL.pickSp [((10, 10), ttD)] 10 10 .rally) i b with
      | .on j => .on (.node 10 10 fi fi j)
      | .over w h => if PL.isWon 11 1 (some 11) (PL.upX 10 w) (PL.upY 10 w) then .over (PL.winOf (PL.upX 10 w) (PL.upY 10 w)) (PL.nextTurn (.row [false, false, true, true]) fi fi (PL.upX 10 w) (PL.upY 10 w) w h)
        else .on (.node (PL.upX 10 w) (PL.upY 10 w) fi (PL.nextTurn (.row [false, false, true, true]) fi fi (PL.upX 10 w) (PL.upY 10 w) w h) (PL.begun 3 (PL.pickSp [((10, 10), ttD)] (PL.upX 10 w) (PL.upY 10 w) .rally) (PL.nextTurn (.row [false, false, true, true]) fi fi (PL.upX 10 w) (PL.upY 10 w) w h))) := fun _ => rfl
    have e2 : ∀ (x y : Int) (f t s : Bool), PL.led 3 ttD (.node x y f t (.leaf s)) b = if PL.isWon 1 2 none (PL.upX x b) (PL.upY y b) then .over (PL.winOf (PL.upX x b) (PL.upY y b)) (!t) else .on (.node (PL.upX x b) (PL.upY y b) f (!t) (.leaf (!t))) := fun _ _ _ _ _ => rfl
    have e3 : PL.isWon 1 2 none (PL.upX (p - 10) b) (PL.upY (q - 10) b) = decide (11 ≤ max (PL.upX p b) (PL.upY q b) ∧ 2 ≤ (PL.upX p b - PL.upY q b).natAbs) := by
      rw [Bool.eq_iff_iff]
      cases b <;> simp only [up_upX, up_upY, PL.isWon, Bool.false_or, Bool.false_eq_true, if_false, if_true, Bool.and_eq_true, decide_eq_true_eq] <;> omega
    have e4 : PL.winOf (PL.upX (p - 10) b) (PL.upY (q - 10) b) = PL.winOf (PL.upX p b) (PL.upY q b) := by
      unfold PL.winOf
      by_cases z : PL.upY q b < PL.upX p b
      · rw [if_pos z, if_pos (by revert z; cases b <;> simp only [up_upX, up_upY, Bool.false_eq_true, if_false, if_true] <;> omega)]
      · rw [if_neg z, if_neg (by revert z; cases b <;> simp only [up_upX, up_upY, Bool.false_eq_true, if_false, if_true] <;> omega)]
    have e5 : ∀ w : Bool, PL.isWon 11 1 (some 11) (PL.upX 10 w) (PL.upY 10 w) = true ∧ PL.winOf (PL.upX 10 w) (PL.upY 10 w) = w := fun w => by cases w <;> exact ⟨rfl, rfl⟩
    rw [e0, e1, tl_pick, if_pos ⟨rfl, rfl⟩, e2, e3, e4]
    by_cases w : 11 ≤ max (PL.upX p b) (PL.upY q b) ∧ 2 ≤ (PL.upX p b - PL.upY q b).natAbs
    · refine ⟨PL.nextTurn (.row [false, false, true, true]) fi fi (PL.upX 10 (PL.winOf (PL.upX p b) (PL.upY q b))) (PL.upY 10 (PL.winOf (PL.upX p b) (PL.upY q b))) (PL.winOf (PL.upX p b) (PL.upY q b)) (!ttSv fi p q), ?_⟩
      rw [decide_eq_true w, if_pos rfl, if_pos w]
      simp only [(e5 (PL.winOf (PL.upX p b) (PL.upY q b))).1, (e5 (PL.winOf (PL.upX p b) (PL.upY q b))).2, if_true]
    · refine ⟨false, ?_⟩
      rw [decide_eq_false w, if_neg (by simp), if_neg w]
      have c2 : 10 ≤ PL.upX p b ∧ 10 ≤ PL.upY q b := by rw [up_upX, up_upY]; split <;> omega
      have x1 : PL.upX (p - 10) b = PL.upX p b - 10 := by rw [up_upX, up_upX]; split <;> omega
      have x2 : PL.upY (q - 10) b = PL.upY q b - 10 := by rw [up_upY, up_upY]; split <;> omega
      unfold tlSt
      rw [if_pos c2, ← sv_next fi b c, x1, x2]
  · have e0 : tlSt fi p q = .node p q fi (ttSv fi p q) (.leaf (ttSv fi p q)) := by unfold tlSt; rw [if_neg c]
    have e1 : ∀ t s, PL.led 4 ttL (.node p q fi t (.leaf s)) b = match PL.led 3 (PL.pickSp [((10, 10), ttD)] p q .rally) (.leaf s) b with
      | .on j => .on (.node p q fi t j)
      | .over w h => if PL.isWon 11 1 (some 11) (PL.upX p w) (PL.upY q w) then .over (PL.winOf (PL.upX p w) (PL.upY q w)) (PL.nextTurn (.row [false, false, true, true]) fi t (PL.upX p w) (PL.upY q w) w h)
        else .on (.node (PL.upX p w) (PL.upY q w) fi (PL.nextTurn (.row [false, false, true, true]) fi t (PL.upX p w) (PL.upY q w) w h) (PL.begun 3 (PL.pickSp [((10, 10), ttD)] (PL.upX p w) (PL.upY q w) .rally) (PL.nextTurn (.row [false, false, true, true]) fi t (PL.upX p w) (PL.upY q w) w h))) := fun _ _ => rfl
    have e2 : ∀ s, PL.led 3 .rally (.leaf s) b = .over b s := fun _ => rfl
    rw [e0, e1, tl_pick, if_neg (by omega), e2]
    simp only
    rw [isw11 b h c]
    by_cases w : 11 ≤ max (PL.upX p b) (PL.upY q b) ∧ 2 ≤ (PL.upX p b - PL.upY q b).natAbs
    · refine ⟨PL.nextTurn (.row [false, false, true, true]) fi (ttSv fi p q) (PL.upX p b) (PL.upY q b) b (ttSv fi p q), ?_⟩
      rw [decide_eq_true w, if_pos rfl, if_pos w]
    · refine ⟨false, ?_⟩
      rw [decide_eq_false w, if_neg (by simp), if_neg w]
      have n0 : 0 ≤ p + q + 1 := by omega
      rw [tt_row fi n0 _ _ _ _ _ (up_sum p q b)]
      have lo : PL.upX p b ≤ 10 ∧ PL.upY q b ≤ 10 := by
        unfold unwon at h
        revert w
        cases b <;> simp only [up_upX, up_upY, Bool.false_eq_true, if_false, if_true] <;> omega
      unfold tlSt
      by_cases d : 10 ≤ PL.upX p b ∧ 10 ≤ PL.upY q b
      · have d1 : PL.upX p b = 10 := by omega
        have d2 : PL.upY q b = 10 := by omega
        have su := up_sum p q b
        rw [if_pos (show (p + q + 1) / 2 % 2 = 0 by omega), if_pos d, d1, d2, tl_pick, if_pos (show (10 : Int) = 10 ∧ (10 : Int) = 10 from ⟨rfl, rfl⟩)]
        have sv : ttSv fi 10 10 = fi := rfl
        rw [sv]
        rfl
      · have su := up_sum p q b
        rw [if_neg d, tl_pick, if_neg (show ¬ (PL.upX p b = 10 ∧ PL.upY q b = 10) by omega)]
        have sv : ttSv fi (PL.upX p b) (PL.upY q b) = if (p + q + 1) / 2 % 2 = 0 then fi else !fi := by
          unfold ttSv
          rw [su, if_pos (show p + q + 1 < 20 by omega)]
        rw [sv]
        rfl
theorem tt_led (p q : Int) (f t s b : Bool) : PL.led 4 ttR (.node p q f t (.leaf s)) b = if PL.isWon 11 2 none (PL.upX p b) (PL.upY q b) then .over (PL.winOf (PL.upX p b) (PL.upY q b)) (PL.nextTurn (.row [false, false, true, true]) f t (PL.upX p b) (PL.upY q b) b s) else .on (.node (PL.upX p b) (PL.upY q b) f (PL.nextTurn (.row [false, false, true, true]) f t (PL.upX p b) (PL.upY q b) b s) (.leaf (PL.nextTurn (.row [false, false, true, true]) f t (PL.upX p b) (PL.upY q b) b s))) := rfl
theorem tl_sv (fi : Bool) (p q : Int) : PL.serverIn (tlSt fi p q) = ttSv fi p q := by unfold tlSt; split <;> rfl
theorem isw112 (x y : Int) : PL.isWon 11 2 none x y = decide (11 ≤ max x y ∧ 2 ≤ (x - y).natAbs) := by
  rw [Bool.eq_iff_iff]
  simp only [PL.isWon, Bool.false_or, Bool.and_eq_true, decide_eq_true_eq]
  omega
theorem tt_run {fi : Bool} : ∀ (bs : List Bool) (p q : Int) (t s : Bool) (x y : Int) (sv : List Bool), 0 ≤ p → 0 ≤ q → unwon 11 p q → ttRun fi p q bs = some ((x, y), sv) →
    (PL.trace 4 ttL (tlSt fi p q) bs).map (·.1) = sv ∧ sv.length = bs.length ∧
    ((unwon 11 x y ∧ PL.run 4 ttL (tlSt fi p q) bs = .on (tlSt fi x y) ∧ ∃ t' s', PL.run 4 ttR (.node p q fi t (.leaf s)) bs = .on (.node x y fi t' (.leaf s'))) ∨
      (¬ unwon 11 x y ∧ (∃ h pr b, PL.run 4 ttL (tlSt fi p q) bs = .over (PL.winOf x y) h bs.length pr b) ∧ ∃ h pr b, PL.run 4 ttR (.node p q fi t (.leaf s)) bs = .over (PL.winOf x y) h bs.length pr b ∧ PL.lastScore 4 ttR pr b = some (x, y)))
  | [], p, q, t, s, x, y, sv, hp, hq, h, e => by
    cases e
    exact ⟨rfl, rfl, .inl ⟨h, rfl, t, s, rfl⟩⟩
  | b :: bs, p, q, t, s, x, y, sv, hp, hq, h, e => by
    unfold ttRun at e
    rw [if_neg h] at e
    cases er : ttRun fi (PL.upX p b) (PL.upY q b) bs with
    | none => rw [er] at e; cases e
    | some r =>
      obtain ⟨⟨rx, ry⟩, rs⟩ := r
      rw [er] at e
      simp only [Option.map_some, Option.some.injEq, Prod.mk.injEq] at e
      obtain ⟨⟨rfl, rfl⟩, rfl⟩ := e
      obtain ⟨hh, el⟩ := tl_led (fi := fi) (b := b) hp hq h
      have et := tt_led p q fi t s b
      rw [isw112] at et
      have p2 : 0 ≤ PL.upX p b ∧ 0 ≤ PL.upY q b := by rw [up_upX, up_upY]; split <;> omega
      by_cases w : 11 ≤ max (PL.upX p b) (PL.upY q b) ∧ 2 ≤ (PL.upX p b - PL.upY q b).natAbs
      · rw [if_pos w] at el
        rw [decide_eq_true w, if_pos rfl] at et
        cases bs with
        | cons c cs =>
          unfold ttRun at er
          rw [if_pos w] at er
          cases er
        | nil =>
          cases er
          refine ⟨?_, rfl, .inr ⟨fun u => u w, ⟨hh, tlSt fi p q, b, ?_⟩, ⟨PL.nextTurn (.row [false, false, true, true]) fi t (PL.upX p b) (PL.upY q b) b s, .node p q fi t (.leaf s), b, ?_, rfl⟩⟩⟩
          · unfold PL.trace
            rw [el, List.map_cons, tl_sv]
            rfl
          · unfold PL.run
            rw [el]
            rfl
          · unfold PL.run
            rw [et]
            rfl
      · rw [if_neg w] at el
        rw [decide_eq_false w, if_neg (by simp)] at et
        obtain ⟨i1, i2, i3⟩ := tt_run bs (PL.upX p b) (PL.upY q b) (PL.nextTurn (.row [false, false, true, true]) fi t (PL.upX p b) (PL.upY q b) b s) (PL.nextTurn (.row [false, false, true, true]) fi t (PL.upX p b) (PL.upY q b) b s) rx ry rs p2.1 p2.2 w er
        refine ⟨?_, by rw [List.length_cons, List.length_cons, i2], ?_⟩
        · unfold PL.trace
          rw [el, List.map_cons, tl_sv]
          simp only
          rw [i1]
        · have r1 : PL.run 4 ttL (tlSt fi p q) (b :: bs) = (PL.run 4 ttL (tlSt fi (PL.upX p b) (PL.upY q b)) bs).bump := by
            show (match PL.led 4 ttL (tlSt fi p q) b with
              | .on s2 => (PL.run 4 ttL s2 bs).bump
              | .over w h => .over w h 1 (tlSt fi p q) b) = _
            rw [el]
          have r2 : PL.run 4 ttR (.node p q fi t (.leaf s)) (b :: bs) = (PL.run 4 ttR (.node (PL.upX p b) (PL.upY q b) fi (PL.nextTurn (.row [false, false, true, true]) fi t (PL.upX p b) (PL.upY q b) b s) (.leaf (PL.nextTurn (.row [false, false, true, true]) fi t (PL.upX p b) (PL.upY q b) b s))) bs).bump := by
            show (match PL.led 4 ttR (.node p q fi t (.leaf s)) b with
              | .on s2 => (PL.run 4 ttR s2 bs).bump
              | .over w h => .over w h 1 (.node p q fi t (.leaf s)) b) = _
            rw [et]
          rcases i3 with ⟨j1, j2, t', s', j3⟩ | ⟨j1, ⟨h1, pr, b1, j2⟩, h2, pr2, b2, j3, j4⟩
          · exact .inl ⟨j1, by rw [r1, j2]; rfl, t', s', by rw [r2, j3]; rfl⟩
          · exact .inr ⟨j1, ⟨h1, pr, b1, by rw [r1, j2]; rfl⟩, h2, pr2, b2, by rw [r2, j3]; rfl, j4⟩
def SL (T : Sto) (k : Nat) (l : List Bool) : Prop := T[k]? = some (.lst (l.map sd))
theorem SL.app {T : Sto} {k : Nat} {l : List Bool} (e : SL T k l) (hl : l.length ≤ 900) (t2 : Bool) : appD (.cel k) (sd t2) T = some (T.set k (.lst ((l ++ [t2]).map sd))) := by
  unfold SL at e
  unfold appD
  simp only [e]
  rw [if_pos (capN_of (by simp; omega)), List.map_append]
  rfl
theorem SL.ls {T : Sto} {k : Nat} {l : List Bool} (e : SL T k l) : lstOf T (.cel k) = some (l.map sd) := by
  unfold SL at e
  simp only [lstOf, e]
theorem tt_sv {fi : Bool} {p q : Int} {e1 e2 e3 e4 : Option D} (T : Sto) : (fIf (fB (fOp eqD (fOp modD (fCB intD (fCons (fIf (fB (fOp ltD (fVar 5) (fC (.int 20)))) (fOp fdivD (fVar 5) (fC (.int 2))) (fVar 5)) fNil)) (fC (.int 2))) (fC (.int 0)))) (fVar 0) (fOp subD (fC (.int 1)) (fVar 0)) : FE) [some (sd fi), e1, e2, e3, e4, some (.int (p + q))] T = .ok (sd (ttSv fi p q)) T := by
  have i1 : ∀ z : Int, intD [.int z] T = some (.int z) := fun _ => rfl
  have d1 : fdivD (.int (p + q)) (.int 2) T = some (.int ((p + q) / 2)) := fdivD_int (fdivOk_of (by decide) (by decide))
  have m1 : ∀ z : Int, modD (.int z) (.int 2) T = some (.int (z % 2)) := fun _ => rfl
  have sb := sub_sd fi T
  unfold ttSv
  by_cases c : p + q < 20
  · rw [if_pos c]
    by_cases d : (p + q) / 2 % 2 = 0
    · rw [if_pos d]
      simp! only [decide_eq_true c, d1, i1, m1, decide_eq_true d]
    · rw [if_neg d]
      simp! only [decide_eq_true c, d1, i1, m1, decide_eq_false d, sb]
  · rw [if_neg c]
    by_cases d : (p + q) % 2 = 0
    · rw [if_pos d]
      simp! only [decide_eq_false c, i1, m1, decide_eq_true d]
    · rw [if_neg d]
      simp! only [decide_eq_false c, i1, m1, decide_eq_false d, sb]
theorem tt_loop {B : Sto} {fi : Bool} {l : D} {P V : Nat} (bP : B.length ≤ P) (bV : B.length ≤ V) (PV : P ≠ V) : ∀ (bs acc : List Bool) (p q : Int) (T : Sto) (e4 e5 : Option D), acc.length + bs.length ≤ 800 → Gs B T → C2 T P p q → SL T V acc →
    ∃ fl ρ' T', loopD (fgName 4) (fSeq (fAsg (fCB sumT (fCons (fVar 2) fNil)) (fgName 5)) (fSeq (fIfS (fAnd (fB (fOp geD (fCB maxT (fCons (fVar 2) fNil)) (fC (.int 11)))) (fB (fOp geD (fCB absD (fCons (fOp subD (fOp ixD (fVar 2) (fC (.int 0))) (fOp ixD (fVar 2) (fC (.int 1)))) fNil)) (fC (.int 2))))) (fRet (fC .non)) fNext) (fSeq (fDrop (fApp (fVar 3) (fIf (fB (fOp eqD (fOp modD (fCB intD (fCons (fIf (fB (fOp ltD (fVar 5) (fC (.int 20)))) (fOp fdivD (fVar 5) (fC (.int 2))) (fVar 5)) fNil)) (fC (.int 2))) (fC (.int 0)))) (fVar 0) (fOp subD (fC (.int 1)) (fVar 0))))) (fAsg (fOp addD (fOp ixD (fVar 2) (fVar 4)) (fC (.int 1))) (fgSub (fVar 2) (fVar 4)))))) (bs.map sd) [some (sd fi), some l, some (.cel P), some (.cel V), e4, e5] T = .ok (fl, ρ') T' ∧ Gs B T' ∧ match ttRun fi p q bs with
      | none => fl = .rt .non
      | some r => fl = .nx ∧ (∃ f4 f5, ρ' = [some (sd fi), some l, some (.cel P), some (.cel V), f4, f5]) ∧ C2 T' P r.1.1 r.1.2 ∧ SL T' V (acc ++ r.2)
  | [], acc, p, q, T, e4, e5, hl, G, c, s => ⟨.nx, _, T, rfl, G, rfl, ⟨_, _, rfl⟩, c, by rw [List.append_nil]; exact s⟩
  | b :: bs, acc, p, q, T, e4, e5, hl, G, c, s => by
    rw [List.length_cons] at hl
    have sm := c.sm
    have mx := c.mx
    have i0 := c.i0
    have i1 := c.i1
    have ab : absD [.int (p - q)] T = some (.int (if p - q < 0 then -(p - q) else p - q)) := rfl
    have cond : (fAnd (fB (fOp geD (fCB maxT (fCons (fVar 2) fNil)) (fC (.int 11)))) (fB (fOp geD (fCB absD (fCons (fOp subD (fOp ixD (fVar 2) (fC (.int 0))) (fOp ixD (fVar 2) (fC (.int 1)))) fNil)) (fC (.int 2)))) : FT) [some (sd fi), some l, some (.cel P), some (.cel V), some (sd b), some (.int (p + q))] T = .ok (decide (11 ≤ max p q ∧ 2 ≤ (p - q).natAbs)) T := by
      simp! only [mx, i0, i1, ab]
      by_cases c1 : (11 : Int) ≤ max p q
      · simp only [decide_eq_true c1, if_true, ge_iff_le]
        congr 1
        rw [Bool.eq_iff_iff, decide_eq_true_eq, decide_eq_true_eq]
        constructor
        · intro h
          refine ⟨c1, ?_⟩
          split at h <;> omega
        · rintro ⟨_, h⟩
          split <;> omega
      · simp only [decide_eq_false c1, ge_iff_le, Bool.false_eq_true, if_false]
        rw [decide_eq_false (fun h => c1 h.1)]
    unfold ttRun
    by_cases w : 11 ≤ max p q ∧ 2 ≤ (p - q).natAbs
    · rw [if_pos w]
      rw [decide_eq_true w] at cond
      refine ⟨.rt .non, [some (sd fi), some l, some (.cel P), some (.cel V), some (sd b), some (.int (p + q))], T, ?_, G, rfl⟩
      rw [List.map_cons]
      unfold loopD
      have g1 : fgName 4 (sd b) [some (sd fi), some l, some (.cel P), some (.cel V), e4, e5] T = .ok [some (sd fi), some l, some (.cel P), some (.cel V), some (sd b), e5] T := rfl
      rw [g1]
      simp only [Res.bind_ok]
      have e1 : (fSeq (fAsg (fCB sumT (fCons (fVar 2) fNil)) (fgName 5)) (fSeq (fIfS (fAnd (fB (fOp geD (fCB maxT (fCons (fVar 2) fNil)) (fC (.int 11)))) (fB (fOp geD (fCB absD (fCons (fOp subD (fOp ixD (fVar 2) (fC (.int 0))) (fOp ixD (fVar 2) (fC (.int 1)))) fNil)) (fC (.int 2))))) (fRet (fC .non)) fNext) (fSeq (fDrop (fApp (fVar 3) (fIf (fB (fOp eqD (fOp modD (fCB intD (fCons (fIf (fB (fOp ltD (fVar 5) (fC (.int 20)))) (fOp fdivD (fVar 5) (fC (.int 2))) (fVar 5)) fNil)) (fC (.int 2))) (fC (.int 0)))) (fVar 0) (fOp subD (fC (.int 1)) (fVar 0))))) (fAsg (fOp addD (fOp ixD (fVar 2) (fVar 4)) (fC (.int 1))) (fgSub (fVar 2) (fVar 4)))))) [some (sd fi), some l, some (.cel P), some (.cel V), some (sd b), e5] T = .ok (.rt .non, [some (sd fi), some l, some (.cel P), some (.cel V), some (sd b), some (.int (p + q))]) T := by
        refine (fSeq_nx (ρ1 := [some (sd fi), some l, some (.cel P), some (.cel V), some (sd b), some (.int (p + q))]) (S1 := T) (by simp! only [sm])).trans (fSeq_rt ?_)
        rw [fIfS_ap, cond]
        rfl
      rw [e1]
      rfl
    · rw [if_neg w]
      rw [decide_eq_false w] at cond
      have tv := tt_sv (fi := fi) (p := p) (q := q) (e1 := some l) (e2 := some (.cel P)) (e3 := some (.cel V)) (e4 := some (sd b)) T
      have ap := s.app (by omega) (ttSv fi p q)
      have ls := s.ls
      have G1 := G.set (p := V) (xs := (acc ++ [ttSv fi p q]).map sd) bV (nc_sds _)
      have c1 : C2 (T.set V (.lst ((acc ++ [ttSv fi p q]).map sd))) P p q := set_keep c PV.symm
      have s1 : SL (T.set V (.lst ((acc ++ [ttSv fi p q]).map sd))) V (acc ++ [ttSv fi p q]) := set_new s
      generalize hT1 : T.set V (.lst ((acc ++ [ttSv fi p q]).map sd)) = T1 at *
      have is := c1.is b
      have up := c1.up b
      have G2 := G1.set (p := P) (xs := [.int (PL.upX p b), .int (PL.upY q b)]) bP rfl
      have c2 : C2 (T1.set P (.lst [.int (PL.upX p b), .int (PL.upY q b)])) P (PL.upX p b) (PL.upY q b) := set_new c1
      have s2 : SL (T1.set P (.lst [.int (PL.upX p b), .int (PL.upY q b)])) V (acc ++ [ttSv fi p q]) := set_keep s1 PV
      generalize hT2 : T1.set P (.lst [.int (PL.upX p b), .int (PL.upY q b)]) = T2 at *
      obtain ⟨fl, ρ', T', e2, G3, al⟩ := tt_loop (fi := fi) (l := l) bP bV PV bs (acc ++ [ttSv fi p q]) _ _ T2 (some (sd b)) (some (.int (p + q))) (by simp; omega) G2 c2 s2
      refine ⟨fl, ρ', T', ?_, G3, ?_⟩
      · rw [List.map_cons]
        unfold loopD
        have g1 : fgName 4 (sd b) [some (sd fi), some l, some (.cel P), some (.cel V), e4, e5] T = .ok [some (sd fi), some l, some (.cel P), some (.cel V), some (sd b), e5] T := rfl
        rw [g1]
        simp only [Res.bind_ok]
        have e1 : (fSeq (fAsg (fCB sumT (fCons (fVar 2) fNil)) (fgName 5)) (fSeq (fIfS (fAnd (fB (fOp geD (fCB maxT (fCons (fVar 2) fNil)) (fC (.int 11)))) (fB (fOp geD (fCB absD (fCons (fOp subD (fOp ixD (fVar 2) (fC (.int 0))) (fOp ixD (fVar 2) (fC (.int 1)))) fNil)) (fC (.int 2))))) (fRet (fC .non)) fNext) (fSeq (fDrop (fApp (fVar 3) (fIf (fB (fOp eqD (fOp modD (fCB intD (fCons (fIf (fB (fOp ltD (fVar 5) (fC (.int 20)))) (fOp fdivD (fVar 5) (fC (.int 2))) (fVar 5)) fNil)) (fC (.int 2))) (fC (.int 0)))) (fVar 0) (fOp subD (fC (.int 1)) (fVar 0))))) (fAsg (fOp addD (fOp ixD (fVar 2) (fVar 4)) (fC (.int 1))) (fgSub (fVar 2) (fVar 4)))))) [some (sd fi), some l, some (.cel P), some (.cel V), some (sd b), e5] T = .ok (.nx, [some (sd fi), some l, some (.cel P), some (.cel V), some (sd b), some (.int (p + q))]) T2 := by
          refine (fSeq_nx (ρ1 := [some (sd fi), some l, some (.cel P), some (.cel V), some (sd b), some (.int (p + q))]) (S1 := T) (by simp! only [sm])).trans ((fSeq_nx (ρ1 := [some (sd fi), some l, some (.cel P), some (.cel V), some (sd b), some (.int (p + q))]) (S1 := T) ?_).trans ((fSeq_nx (ρ1 := [some (sd fi), some l, some (.cel P), some (.cel V), some (sd b), some (.int (p + q))]) (S1 := T1) ?_).trans ?_))
          · rw [fIfS_ap, cond]
            rfl
          · rw [fDrop_ap, fApp_ap, fVar_ap]
            simp only [List.getElem?_cons_succ, List.getElem?_cons_zero, Res.bind_ok, ls, tv, ap]
          · simp! only [is, up]
        rw [e1]
        exact e2
      · cases er : ttRun fi (PL.upX p b) (PL.upY q b) bs with
        | none => rw [er] at al; exact al
        | some r =>
          rw [er] at al
          obtain ⟨a1, a2, a3, a4⟩ := al
          refine ⟨a1, a2, a3, ?_⟩
          rw [List.append_assoc] at a4
          exact a4
def ttD2 : Option ((Int × Int) × List Bool) → D
  | none => .non
  | some r => .tup [.lst [.int r.1.1, .int r.1.2], .lst (r.2.map sd)]
theorem table_ok {S : Sto} (hS : S.all (lowC S.length) = true) (fi : Bool) {bs : List Bool} (hl : bs.length ≤ 800) : g__law_table_tennis [sd fi, brD bs] S = .ok (ttD2 (ttRun fi 0 0 bs)) S := by
  have G0 := (Gs.self hS).snoc (xs := [.int 0, .int 0]) rfl
  have G1 := G0.snoc (xs := []) rfl
  have l1 : (S ++ [CO.lst [D.int 0, .int 0]]).length = S.length + 1 := by simp
  have c1 : C2 ((S ++ [.lst [.int 0, .int 0]]) ++ [.lst []]) S.length 0 0 := snoc_keep snoc_new
  have s1 : SL ((S ++ [.lst [.int 0, .int 0]]) ++ [.lst []]) (S.length + 1) [] := by rw [← l1]; exact snoc_new
  obtain ⟨fl, ρ', T', e, G2, al⟩ := tt_loop (B := S) (fi := fi) (l := brD bs) (P := S.length) (V := S.length + 1) (Nat.le_refl _) (by omega) (by omega) bs [] 0 0 _ none none (by simp; omega) G1 c1 s1
  have s0 : ((fPar 2 3 (fCons (fLstC (fCons (fC (.int 0)) (fCons (fC (.int 0)) fNil))) (fCons (fLstC fNil) fNil))) : FS) [some (sd fi), some (brD bs), none, none, none, none] S = .ok (.nx, [some (sd fi), some (brD bs), some (.cel S.length), some (.cel (S.length + 1)), none, none]) ((S ++ [.lst [.int 0, .int 0]]) ++ [.lst []]) := by
    simp! only [l1]
  have it : ((fiAny (fVar 1)) : FI) [some (sd fi), some (brD bs), some (.cel S.length), some (.cel (S.length + 1)), none, none] ((S ++ [.lst [.int 0, .int 0]]) ++ [.lst []]) = .ok ⟨bs.map sd, none⟩ ((S ++ [.lst [.int 0, .int 0]]) ++ [.lst []]) := rfl
  obtain ⟨low, E, hE⟩ := G2
  cases er : ttRun fi 0 0 bs with
  | none =>
    rw [er] at al
    simp only at al
    subst al
    rw [hE] at e
    refine bodyT_low E (T := S) ?_ rfl hS rfl
    exact bodyD_rt ((fSeq_nx s0).trans (fSeq_rt (fFor_st it e)))
  | some r =>
    rw [er] at al
    obtain ⟨rfl, ⟨f4, f5, rfl⟩, c2, s2⟩ := al
    rw [List.nil_append] at s2
    have lS : S.length < T'.length := c2.lt
    refine bodyT_low ((E.set 0 .gone).set 1 .gone) (T := S) ?_ rfl hS (noCel_low (by
      simp only [ttD2, noCel, noCels, nc_sds, Bool.and_self]))
    have z : ((T'.set S.length .gone).set (S.length + 1) .gone) = S ++ ((E.set 0 .gone).set 1 .gone) := by
      rw [hE, List.set_append, if_neg (by omega), List.set_append, if_neg (by omega), Nat.sub_self, Nat.add_sub_cancel_left]
    rw [← z]
    have f1 : frzD T' (.cel S.length) = some (.lst [.int r.1.1, .int r.1.2], T'.set S.length .gone) := by
      unfold frzD
      unfold C2 at c2
      simp only [c2]
    have f2 : frzD (T'.set S.length .gone) (.cel (S.length + 1)) = some (.lst (r.2.map sd), (T'.set S.length .gone).set (S.length + 1) .gone) := by
      have : (T'.set S.length .gone)[S.length + 1]? = some (.lst (r.2.map sd)) := set_keep s2 (by omega)
      unfold frzD
      simp only [this]
    refine bodyD_rt (ρ1 := [some (sd fi), some (brD bs), some (.cel S.length), some (.cel (S.length + 1)), f4, f5]) ?_
    refine (fSeq_nx s0).trans ((fSeq_nx (fFor_st it e)).trans ?_)
    simp! only [fFrz, f1, f2]
    rfl
end K07
set_option maxHeartbeats 4000000
namespace K07
open PySem PySem.Spec PyProof.Rows L2 DL Cm
theorem same_cel {T : Sto} (hT : T.all (lowC T.length) = true) {j : Nat} {xs : List D} (ls : lstOf T (.cel j) = some xs) (hl : xs.length ≤ 1000) (h : ∀ d ∈ xs, SM T 3 d d) : Cm.g__law_same 16 [.cel j, .lst xs] T = .ok (.bl true) T := by
  refine same_ok hT 4 16 (by decide) (.inr (.inr ⟨xs, xs, ls, rfl, rfl, hl, fun i a b ha hb => ?_⟩))
  rw [ha] at hb
  cases hb
  exact h a (List.mem_of_getElem? ha)
theorem same_sc {T : Sto} (hT : T.all (lowC T.length) = true) {d : D} (h : scalar d = true) : Cm.g__law_same 16 [d, d] T = .ok (.bl true) T := same_scalar hT h
theorem mxl {T : Sto} (x y : Int) : maxT [.lst [.int x, .int y]] T = some (.int (max x y)) := by
  have e : maxT [.lst [.int x, .int y]] T = some (.int (maxI [x, y])) := rfl
  have e2 : maxI [x, y] = if y > x then y else x := rfl
  rw [e, e2]
  congr 2
  by_cases c : y > x
  · rw [if_pos c, Int.max_eq_right (by omega)]
  · rw [if_neg c, Int.max_eq_left (by omega)]
theorem quick_body {B T : Sto} {fi : Bool} {g : D} {bs : List Bool} (hl : bs.length ≤ 700) (G : Gs B T) {m : Nat} (hm : m ≤ bs.length) (f6 f7 f8 f9 f10 : Option D) :
    ∃ T' k6 k7 k8 k9 k10, (fSeq (fAsg (fCall 2 g__law_table_tennis (fCons (fVar 1) (fCons (fSl (fVar 2) fNoPart (fPart (fVar 5))) fNil))) (fgName 6)) (fIfS (fB (fOp isnotD (fVar 6) (fC .non))) (fSeq (fAsg (fVar 6) (fgTup 2 (fgCons (fgName 7) (fgCons (fgName 8) fgNil)))) (fSeq (fAsg (fAndV (fOp geD (fCB maxT (fCons (fVar 7) fNil)) (fC (.int 11))) (fOp geD (fCB absD (fCons (fOp subD (fOp ixD (fVar 7) (fC (.int 0))) (fOp ixD (fVar 7) (fC (.int 1)))) fNil)) (fC (.int 2)))) (fgName 9)) (fSeq (fAsg (fCall 3 g_winner_after (fCons (fVar 4) (fCons (fVar 1) (fCons (fSl (fVar 2) fNoPart (fPart (fVar 5))) fNil)))) (fgName 10)) (fSeq (fIfS (fOr (fNot (fB (fCall 2 (g__law_same 16) (fCons (fVar 10) (fCons (fIf (fB (fVar 9)) (fCB intD (fCons (fOp gtD (fOp ixD (fVar 7) (fC (.int 1))) (fOp ixD (fVar 7) (fC (.int 0)))) fNil)) (fC .non)) fNil))))) (fNot (fB (fCall 2 (g__law_same 16) (fCons (fCall 3 g_winner_after (fCons (fVar 3) (fCons (fVar 1) (fCons (fSl (fVar 2) fNoPart (fPart (fVar 5))) fNil)))) (fCons (fVar 10) fNil)))))) (fRet (fC (.bl false))) fNext) (fSeq (fIfS (fNot (fB (fCall 2 (g__law_same 16) (fCons (fCall 3 g_servers_of (fCons (fVar 4) (fCons (fVar 1) (fCons (fSl (fVar 2) fNoPart (fPart (fVar 5))) fNil)))) (fCons (fVar 8) fNil))))) (fRet (fC (.bl false))) fNext) (fIfS (fNot (fB (fCall 2 (g__law_same 16) (fCons (fCall 3 g_scores_after (fCons (fVar 3) (fCons (fVar 1) (fCons (fSl (fVar 2) fNoPart (fPart (fVar 5))) fNil)))) (fCons (fLst (fCons (fCB tupleD (fCons (fVar 7) fNil)) fNil)) fNil))))) (fRet (fC (.bl false))) fNext)))))) fNext)) [some g, some (sd fi), some (brD bs), some (rD ttR), some (rD ttL), some (.int (m : Nat)), f6, f7, f8, f9, f10] T = .ok (.nx, [some g, some (sd fi), some (brD bs), some (rD ttR), some (rD ttL), some (.int (m : Nat)), k6, k7, k8, k9, k10]) T' ∧ Gs B T' := by
  have sl := fun T => sl_take (bs := bs) (k := m) T hm
  have lm : (bs.take m).length ≤ 700 := by rw [List.length_take]; omega
  generalize bs.take m = pre at *
  have tb := table_ok G.low fi (bs := pre) (by omega)
  cases er : ttRun fi 0 0 pre with
  | none =>
    rw [er] at tb
    have tb : g__law_table_tennis [sd fi, brD pre] T = .ok .non T := tb
    have z : isnotD .non .non T = some (.bl false) := rfl
    refine ⟨T, some .non, f7, f8, f9, f10, ?_, G⟩
    simp! only [sl, tb, z]
  | some r =>
    obtain ⟨⟨x, y⟩, sv⟩ := r
    rw [er] at tb
    have tb : g__law_table_tennis [sd fi, brD pre] T = .ok (.tup [.lst [.int x, .int y], .lst (sv.map sd)]) T := tb
    obtain ⟨tr, lsv, alt⟩ := tt_run (fi := fi) pre 0 0 fi fi x y sv (by decide) (by decide) (by unfold unwon; simp) er
    have b1 : tlSt fi 0 0 = PL.begun 4 ttL fi := rfl
    have b2 : PL.St.node 0 0 fi fi (.leaf fi) = PL.begun 4 ttR fi := rfl
    rw [b1] at tr alt
    rw [b2] at alt
    have z : isnotD (.tup [.lst [.int x, .int y], .lst (sv.map sd)]) .non T = some (.bl true) := rfl
    have mx := mxl (T := T) x y
    have i0 : ∀ T, ixD (.lst [.int x, .int y]) (.int 0) T = some (.int x) := fun _ => rfl
    have i1 : ∀ T, ixD (.lst [.int x, .int y]) (.int 1) T = some (.int y) := fun _ => rfl
    have ab : absD [.int (x - y)] T = some (.int (if x - y < 0 then -(x - y) else x - y)) := rfl
    have tu : ∀ T, tupleD [.lst [.int x, .int y]] T = some (.tup [.int x, .int y]) := fun _ => rfl
    -- ended or not
    obtain ⟨ov, wv, o1, o2, wl, wt, sc, o3⟩ : ∃ (ov : Bool) (wv : D), (ov = decide (11 ≤ max x y ∧ 2 ≤ (x - y).natAbs)) ∧ scalar wv = true ∧ (∀ T : Sto, T.all (lowC T.length) = true → Cm.g_winner_after [rD ttL, sd fi, brD pre] T = .ok wv T) ∧ (∀ T : Sto, T.all (lowC T.length) = true → Cm.g_winner_after [rD ttR, sd fi, brD pre] T = .ok wv T) ∧ (∀ T : Sto, T.all (lowC T.length) = true → Cm.g_scores_after [rD ttR, sd fi, brD pre] T = .ok (.cel T.length) (T ++ [.lst ([(x, y)].map scD)])) ∧ (wv = if ov = true then D.int (if decide (y > x) = true then 1 else 0) else .non) := by
      rcases alt with ⟨u, r1, t', s', r2⟩ | ⟨u, ⟨h1, pr1, c1, r1⟩, h2, pr2, c2, r2, ls⟩
      · refine ⟨false, .non, (decide_eq_false u).symm, rfl, fun T h => wi_on h ttL4 fi (by omega) r1, fun T h => wi_on h ttR4 fi (by omega) r2, fun T h => ?_, rfl⟩
        have := sc_on h ttR4 fi (by omega) r2
        exact this
      · have u : 11 ≤ max x y ∧ 2 ≤ (x - y).natAbs := Classical.not_not.mp u
        refine ⟨true, sd (PL.winOf x y), (decide_eq_true u).symm, by cases PL.winOf x y <;> rfl, fun T h => wi_over h ttL4 fi (by omega) r1 rfl, fun T h => wi_over h ttR4 fi (by omega) r2 rfl, fun T h => ?_, ?_⟩
        · have e := scores_after_ok h ttR4 fi (bs := pre) (by omega)
          rw [r2] at e
          simp only [if_neg (show ¬ pre.length < pre.length by omega)] at e
          have : scoresR ttR (.over (PL.winOf x y) h2 pre.length pr2 c2) = [(x, y)] := by
            show (PL.lastScore 4 ttR pr2 c2).toList = _
            rw [ls]
            rfl
          rw [this] at e
          exact e
        · unfold PL.winOf
          by_cases c : y < x
          · rw [if_pos c, if_pos rfl, if_neg (by simpa using Int.le_of_lt c)]; rfl
          · rw [if_neg c, if_pos rfl, if_pos (by simp; omega)]; rfl
    have hk : ∀ w h k p b, PL.run 4 ttL (PL.begun 4 ttL fi) pre = .over w h k p b → k = pre.length := by
      rcases alt with ⟨u, r1, _⟩ | ⟨u, ⟨h1, pr1, c1, r1⟩, _⟩
      · intro w h k p b e; rw [r1] at e; cases e
      · intro w h k p b e; rw [r1] at e; cases e; rfl
    have so := servers_of_ok G.low ttL4 fi (bs := pre) (by omega) hk
    have tm : ((PL.trace 4 ttL (PL.begun 4 ttL fi) pre).map fun p => sd p.1) = sv.map sd := by
      rw [← tr, List.map_map]
      rfl
    rw [tm] at so
    have G1 := G.snoc (nc_sds sv)
    have ls1 : lstOf (T ++ [.lst (sv.map sd)]) (.cel T.length) = some (sv.map sd) := by simp [lstOf]
    have sm1 := same_cel G1.low ls1 (by rw [List.length_map]; omega) (fun d hd => by
      obtain ⟨b, _, rfl⟩ := List.mem_map.mp hd
      exact SM.scal (by cases b <;> rfl))
    generalize hT1 : T ++ [CO.lst (sv.map sd)] = T1 at *
    have sc1 := sc T1 G1.low
    have G2 := G1.snoc (nc_scs [(x, y)])
    have ls2 : lstOf (T1 ++ [.lst ([(x, y)].map scD)]) (.cel T1.length) = some [.tup [.int x, .int y]] := by simp [lstOf]; rfl
    have sm2 := same_cel G2.low ls2 (by simp) (fun d hd => by
      rw [List.mem_singleton] at hd
      subst hd
      exact SM.sc (x, y))
    generalize hT2 : T1 ++ [CO.lst ([(x, y)].map scD)] = T2 at *
    have wl := wl T G.low
    have wt := wt T G.low
    have sw := same_sc G.low o2
    have gt : gtD (.int y) (.int x) T = some (.bl (decide (y > x))) := rfl
    have it : intD [.bl (decide (y > x))] T = some (.int (if decide (y > x) = true then 1 else 0)) := rfl
    refine ⟨T2, some (.tup [.lst [.int x, .int y], .lst (sv.map sd)]), some (.lst [.int x, .int y]), some (.lst (sv.map sd)), some (.bl ov), some wv, ?_, G2⟩
    have hov : (fAndV (fOp geD (fCB maxT (fCons (fVar 7) fNil)) (fC (.int 11))) (fOp geD (fCB absD (fCons (fOp subD (fOp ixD (fVar 7) (fC (.int 0))) (fOp ixD (fVar 7) (fC (.int 1)))) fNil)) (fC (.int 2))) : FE) [some g, some (sd fi), some (brD bs), some (rD ttR), some (rD ttL), some (.int (m : Nat)), some (.tup [.lst [.int x, .int y], .lst (sv.map sd)]), some (.lst [.int x, .int y]), some (.lst (sv.map sd)), f9, f10] T = .ok (.bl ov) T := by
      rw [o1]
      simp! only [mx, i0, i1, ab]
      by_cases c1 : (11 : Int) ≤ max x y
      · simp only [decide_eq_true c1, if_true, ge_iff_le]
        congr 2
        rw [Bool.eq_iff_iff, decide_eq_true_eq, decide_eq_true_eq]
        constructor
        · intro h
          refine ⟨c1, ?_⟩
          split at h <;> omega
        · rintro ⟨_, h⟩
          split <;> omega
      · simp only [decide_eq_false c1, ge_iff_le, Bool.false_eq_true, if_false]
        rw [decide_eq_false (fun h => c1 h.1)]
    refine (fSeq_nx (ρ1 := [some g, some (sd fi), some (brD bs), some (rD ttR), some (rD ttL), some (.int (m : Nat)), some (.tup [.lst [.int x, .int y], .lst (sv.map sd)]), f7, f8, f9, f10]) (S1 := T) (by simp! only [sl, tb])).trans ?_
    have hz : (fB (fOp isnotD (fVar 6) (fC .non)) : FT) [some g, some (sd fi), some (brD bs), some (rD ttR), some (rD ttL), some (.int (m : Nat)), some (.tup [.lst [.int x, .int y], .lst (sv.map sd)]), f7, f8, f9, f10] T = .ok true T := by simp! only [z]
    rw [fIfS_ap, hz]
    simp only [Res.bind_ok, if_true]
    refine (fSeq_nx (ρ1 := [some g, some (sd fi), some (brD bs), some (rD ttR), some (rD ttL), some (.int (m : Nat)), some (.tup [.lst [.int x, .int y], .lst (sv.map sd)]), some (.lst [.int x, .int y]), some (.lst (sv.map sd)), f9, f10]) (S1 := T) (by rfl)).trans ?_
    refine (fSeq_nx (ρ1 := [some g, some (sd fi), some (brD bs), some (rD ttR), some (rD ttL), some (.int (m : Nat)), some (.tup [.lst [.int x, .int y], .lst (sv.map sd)]), some (.lst [.int x, .int y]), some (.lst (sv.map sd)), some (.bl ov), f10]) (S1 := T) ?_).trans ?_
    · rw [fAsg_ap, hov]
      rfl
    refine (fSeq_nx (ρ1 := [some g, some (sd fi), some (brD bs), some (rD ttR), some (rD ttL), some (.int (m : Nat)), some (.tup [.lst [.int x, .int y], .lst (sv.map sd)]), some (.lst [.int x, .int y]), some (.lst (sv.map sd)), some (.bl ov), some wv]) (S1 := T) (by simp! only [sl, wl])).trans ?_
    generalize hxy : D.lst [.int x, .int y] = xy at *
    refine (fSeq_nx (ρ1 := [some g, some (sd fi), some (brD bs), some (rD ttR), some (rD ttL), some (.int (m : Nat)), some (.tup [xy, .lst (sv.map sd)]), some xy, some (.lst (sv.map sd)), some (.bl ov), some wv]) (S1 := T) ?_).trans ?_
    · cases ov
      · rw [if_neg (by simp)] at o3
        subst o3
        simp! only [sl, sw, wt, Bool.false_eq_true, if_false]
      · rw [if_pos rfl] at o3
        rw [← o3] at it
        simp! only [sl, i0, i1, gt, it, sw, wt, if_true]
    refine (fSeq_nx (ρ1 := [some g, some (sd fi), some (brD bs), some (rD ttR), some (rD ttL), some (.int (m : Nat)), some (.tup [xy, .lst (sv.map sd)]), some xy, some (.lst (sv.map sd)), some (.bl ov), some wv]) (S1 := T1) (by simp! only [sl, so, sm1])).trans ?_
    simp! only [sl, sc1, tu, sm2]
theorem steps5 (n : Nat) : ∀ d ∈ stepsD 0 5 (Builtin.Range.rangeSize 0 ((n : Nat) + 1) 5).toNat, ∃ m : Nat, d = .int (m : Nat) ∧ m ≤ n := by
  intro d hd
  unfold stepsD at hd
  obtain ⟨i, hi, rfl⟩ := List.mem_map.mp hd
  have hi := List.mem_range.mp hi
  have e : Builtin.Range.rangeSize 0 ((n : Nat) + 1) 5 = ((n : Int) + 1 - 0 - 1) / 5 + 1 := by
    unfold Builtin.Range.rangeSize
    rw [if_pos (by decide), if_pos (by omega)]
  rw [e] at hi
  refine ⟨i * 5, by congr 1; omega, by omega⟩
theorem quick_loop {B : Sto} {fi : Bool} {g : D} {bs : List Bool} (hl : bs.length ≤ 700) : ∀ (ds : List D) (T : Sto) (f5 f6 f7 f8 f9 f10 : Option D), (∀ d ∈ ds, ∃ m : Nat, d = .int (m : Nat) ∧ m ≤ bs.length) → Gs B T →
    ∃ T' k5 k6 k7 k8 k9 k10, loopD (fgName 5) (fSeq (fAsg (fCall 2 g__law_table_tennis (fCons (fVar 1) (fCons (fSl (fVar 2) fNoPart (fPart (fVar 5))) fNil))) (fgName 6)) (fIfS (fB (fOp isnotD (fVar 6) (fC .non))) (fSeq (fAsg (fVar 6) (fgTup 2 (fgCons (fgName 7) (fgCons (fgName 8) fgNil)))) (fSeq (fAsg (fAndV (fOp geD (fCB maxT (fCons (fVar 7) fNil)) (fC (.int 11))) (fOp geD (fCB absD (fCons (fOp subD (fOp ixD (fVar 7) (fC (.int 0))) (fOp ixD (fVar 7) (fC (.int 1)))) fNil)) (fC (.int 2)))) (fgName 9)) (fSeq (fAsg (fCall 3 g_winner_after (fCons (fVar 4) (fCons (fVar 1) (fCons (fSl (fVar 2) fNoPart (fPart (fVar 5))) fNil)))) (fgName 10)) (fSeq (fIfS (fOr (fNot (fB (fCall 2 (g__law_same 16) (fCons (fVar 10) (fCons (fIf (fB (fVar 9)) (fCB intD (fCons (fOp gtD (fOp ixD (fVar 7) (fC (.int 1))) (fOp ixD (fVar 7) (fC (.int 0)))) fNil)) (fC .non)) fNil))))) (fNot (fB (fCall 2 (g__law_same 16) (fCons (fCall 3 g_winner_after (fCons (fVar 3) (fCons (fVar 1) (fCons (fSl (fVar 2) fNoPart (fPart (fVar 5))) fNil)))) (fCons (fVar 10) fNil)))))) (fRet (fC (.bl false))) fNext) (fSeq (fIfS (fNot (fB (fCall 2 (g__law_same 16) (fCons (fCall 3 g_servers_of (fCons (fVar 4) (fCons (fVar 1) (fCons (fSl (fVar 2) fNoPart (fPart (fVar 5))) fNil)))) (fCons (fVar 8) fNil))))) (fRet (fC (.bl false))) fNext) (fIfS (fNot (fB (fCall 2 (g__law_same 16) (fCons (fCall 3 g_scores_after (fCons (fVar 3) (fCons (fVar 1) (fCons (fSl (fVar 2) fNoPart (fPart (fVar 5))) fNil)))) (fCons (fLst (fCons (fCB tupleD (fCons (fVar 7) fNil)) fNil)) fNil))))) (fRet (fC (.bl false))) fNext)))))) fNext)) ds [some g, some (sd fi), some (brD bs), some (rD ttR), some (rD ttL), f5, f6, f7, f8, f9, f10] T = .ok (.nx, [some g, some (sd fi), some (brD bs), some (rD ttR), some (rD ttL), k5, k6, k7, k8, k9, k10]) T' ∧ Gs B T'
  | [], T, f5, f6, f7, f8, f9, f10, _, G => ⟨T, f5, f6, f7, f8, f9, f10, rfl, G⟩
  | d :: ds, T, f5, f6, f7, f8, f9, f10, h, G => by
    obtain ⟨m, rfl, hm⟩ := h d List.mem_cons_self
    obtain ⟨T1, k6, k7, k8, k9, k10, e1, G1⟩ := quick_body (g := g) (fi := fi) hl G hm f6 f7 f8 f9 f10
    obtain ⟨T2, j5, j6, j7, j8, j9, j10, e2, G2⟩ := quick_loop (g := g) (fi := fi) hl ds T1 (some (.int (m : Nat))) k6 k7 k8 k9 k10 (fun x hx => h x (List.mem_cons_of_mem _ hx)) G1
    refine ⟨T2, j5, j6, j7, j8, j9, j10, ?_, G2⟩
    unfold loopD
    have g1 : fgName 5 (.int (m : Nat)) [some g, some (sd fi), some (brD bs), some (rD ttR), some (rD ttL), f5, f6, f7, f8, f9, f10] T = .ok [some g, some (sd fi), some (brD bs), some (rD ttR), some (rD ttL), some (.int (m : Nat)), f6, f7, f8, f9, f10] T := rfl
    rw [g1]
    simp only [Res.bind_ok]
    rw [e1]
    exact e2
theorem fiRng3_ok {f : FA} {ρ : DL.Env} {S S1 : Sto} {i j c : Int} (hf : f ρ S = .ok [.int i, .int j, .int c] S1) (sm : (decide (c ≠ 0) && ltN c 1073741824 && Builtin.Range.small i j c) = true) : fiRng3 f ρ S = .ok ⟨stepsD i c (Builtin.Range.rangeSize i j c).toNat, none⟩ S1 := by
  unfold fiRng3
  rw [hf]
  simp only [Res.bind_ok]
  rw [if_pos sm]
theorem small5 {n : Nat} (h : n ≤ 100000) : (decide ((5 : Int) ≠ 0) && ltN 5 1073741824 && Builtin.Range.small 0 ((n : Nat) + 1) 5) = true := by
  have a : ltN 5 1073741824 = true := by decide +kernel
  have e : Builtin.Range.rangeSize 0 ((n : Nat) + 1) 5 = ((n : Int) + 1 - 0 - 1) / 5 + 1 := by
    unfold Builtin.Range.rangeSize
    rw [if_pos (by decide), if_pos (by omega)]
  have b : Builtin.Range.small 0 ((n : Nat) + 1) 5 = true := by
    have p63 : (2 : Int) ^ 63 = 9223372036854775808 := by decide +kernel
    have fl : ∀ i : Int, -9223372036854775808 ≤ i → i < 9223372036854775808 → Builtin.Range.rangeFitsLong i = true := fun i h1 h2 => by
      unfold Builtin.Range.rangeFitsLong
      rw [p63, decide_eq_true h1, decide_eq_true h2]
      rfl
    unfold Builtin.Range.small
    rw [e, fl 0 (by omega) (by omega), fl _ (by omega) (by omega), fl 5 (by omega) (by omega), fl _ (by omega) (by omega), if_pos (by decide), fl _ (by omega) (by omega)]
    simp
  rw [a, b]
  rfl
theorem quick_ok {P L : Sto} (hL : Lo P L) {n : Nat} {x : CO} (G : Gn n x) (hn : n + 900 ≤ 1000000000) : ∃ y, g__law_quick_right [.cel P.length] (P ++ x :: L) = .ok (.bl true) (P ++ y :: L) ∧ Gn (n + 900) y := by
  obtain ⟨x1, v, e1, G1, v0, v2⟩ := random_ok G (by omega) hL (bd := 2) (by decide) (by decide)
  obtain ⟨fi, hfi⟩ : ∃ fi : Bool, D.int v = sd fi := by
    have : v = 0 ∨ v = 1 := by omega
    rcases this with rfl | rfl
    · exact ⟨false, rfl⟩
    · exact ⟨true, rfl⟩
  rw [hfi] at e1
  obtain ⟨x9, m, e9, G9, m0, m1⟩ := random_ok G1 (by omega) hL (bd := 40) (by decide) (by decide)
  obtain ⟨k, hk⟩ := Int.eq_ofNat_of_zero_le (show 0 ≤ 20 + m by omega)
  obtain ⟨x2, bs, e2, G2, lb⟩ := rows_ok (many := k) (by omega) G9 (by omega) hL
  have low := Gn.low G2 hL
  refine ⟨x2, ?_, G2.up (by omega)⟩
  obtain ⟨T', j5, j6, j7, j8, j9, j10, e3, G3⟩ := quick_loop (g := .cel P.length) (fi := fi) (bs := bs) (by omega) (stepsD 0 5 (Builtin.Range.rangeSize 0 ((bs.length : Nat) + 1) 5).toNat) (P ++ x2 :: L) none none none none none none (steps5 bs.length) (Gs.self low)
  obtain ⟨low3, E, hE⟩ := G3
  have app : (P ++ x2 :: L) ++ E = P ++ x2 :: (L ++ E) := by simp
  refine bodyT_lo (E := E) (G2.up (m := n + 900) (by omega)) hL rfl (Eq.trans ?_ (congrArg _ (hE.trans app)))
  have ll : ∀ T, lenD [brD bs] T = some (.int (bs.length : Nat)) := fun T => len_br
  have it : ((fiRng3 (fCons (fC (.int 0)) (fCons (fOp addD (fCB lenD (fCons (fVar 2) fNil)) (fC (.int 1))) (fCons (fC (.int 5)) fNil)))) : FI) [some (.cel P.length), some (sd fi), some (brD bs), some (rD ttR), some (rD ttL), none, none, none, none, none, none] (P ++ x2 :: L) = .ok ⟨stepsD 0 5 (Builtin.Range.rangeSize 0 ((bs.length : Nat) + 1) 5).toNat, none⟩ (P ++ x2 :: L) := by
    exact fiRng3_ok (by simp! only [ll]) (small5 (by omega))
  have s0 : ((fPar 1 2 (fCons (fCall 2 g__law_random (fCons (fVar 0) (fCons (fC (.int 2)) fNil))) (fCons (fCall 2 g__law_rallies (fCons (fVar 0) (fCons (fOp addD (fC (.int 20)) (fCall 2 g__law_random (fCons (fVar 0) (fCons (fC (.int 40)) fNil)))) fNil))) fNil))) : FS) [some (.cel P.length), none, none, none, none, none, none, none, none, none, none] (P ++ x :: L) = .ok (.nx, [some (.cel P.length), some (sd fi), some (brD bs), none, none, none, none, none, none, none, none]) (P ++ x2 :: L) := by
    simp! only [e1, e9, hk, e2]
  refine bodyD_rt (ρ1 := [some (.cel P.length), some (sd fi), some (brD bs), some (rD ttR), some (rD ttL), j5, j6, j7, j8, j9, j10]) ?_
  refine (fSeq_nx s0).trans ((fSeq_nx (ρ1 := [some (.cel P.length), some (sd fi), some (brD bs), some (rD ttR), none, none, none, none, none, none, none]) (S1 := P ++ x2 :: L) (by rfl)).trans ((fSeq_nx (ρ1 := [some (.cel P.length), some (sd fi), some (brD bs), some (rD ttR), some (rD ttL), none, none, none, none, none, none]) (S1 := P ++ x2 :: L) (by rfl)).trans ((fSeq_nx (fFor_st it e3)).trans ?_)))
  simp! only []
end K07
set_option maxHeartbeats 4000000
namespace K07
open PySem PySem.Spec PyProof.Rows L2 DL Cm
def gmR : PL.Rule := .race 4 2 none .on .rally []
def bkR : PL.Rule := .race 7 2 none (.row [false, true, true, false]) .rally []
def stR : PL.Rule := .race 6 2 (some 7) .turns gmR [((6, 6), bkR)]
def tnR (n : Int) : PL.Rule := .race n 1 none .on stR []
structure Tn where
  p : Int
  q : Int
  g : Int
  h : Int
  w : Int
  v : Int
  st : Bool
def Tn.tied (c : Tn) : Bool := decide (c.g = 6) && decide (c.h = 6)
def Tn.need (c : Tn) : Int := if c.tied = true then 7 else 4
def Tn.sv (c : Tn) : Bool := if c.tied = true then (if (c.p + c.q + 1) / 2 % 2 = 0 then c.st else !c.st) else c.st
def Tn.game (c : Tn) (b : Bool) : Bool := decide (c.need ≤ pt2 b c.p c.q + 1) && decide (pt2 (!b) c.p c.q + 2 ≤ pt2 b c.p c.q + 1)
def Tn.set (c : Tn) (b : Bool) : Bool := decide (pt2 b c.g c.h + 1 = 7) || (decide (pt2 b c.g c.h + 1 = 6) && decide (pt2 (!b) c.g c.h ≤ 4))
def Tn.step (c : Tn) (b : Bool) : Tn :=
  if c.game b = true then (if c.set b = true then ⟨0, 0, 0, 0, PL.upX c.w b, PL.upY c.v b, !c.st⟩ else ⟨0, 0, PL.upX c.g b, PL.upY c.h b, c.w, c.v, !c.st⟩)
  else ⟨PL.upX c.p b, PL.upY c.q b, c.g, c.h, c.w, c.v, c.st⟩
def tnRun (n : Int) : Tn → List Bool → Option (Tn × List Bool)
  | c, [] => some (c, [])
  | c, b :: bs => if max c.w c.v = n then none else (tnRun n (c.step b) bs).map fun r => (r.1, c.sv :: r.2)
def Rel (fi : Bool) (c : Tn) (s : PL.St) : Prop := ∃ t0 f1 f2 t2, s = .node c.w c.v fi t0 (.node c.g c.h f1 c.st (.node c.p c.q f2 t2 (.leaf c.sv))) ∧ (c.tied = true → f2 = c.st)
structure Inv (n : Int) (c : Tn) : Prop where
  p0 : 0 ≤ c.p
  q0 : 0 ≤ c.q
  pq : unwon c.need c.p c.q
  g0 : 0 ≤ c.g
  h0 : 0 ≤ c.h
  g6 : c.g ≤ 6
  h6 : c.h ≤ 6
  gh : ¬ (c.g = 6 ∧ c.h ≤ 4)
  hg : ¬ (c.h = 6 ∧ c.g ≤ 4)
  w0 : 0 ≤ c.w
  v0 : 0 ≤ c.v
  wn : c.w < n
  vn : c.v < n
theorem st_pick (g h : Int) : PL.pickSp [((6, 6), bkR)] g h gmR = if (decide (g = 6) && decide (h = 6)) = true then bkR else gmR := by
  unfold PL.pickSp
  by_cases c : g = 6 ∧ h = 6
  · rw [if_pos ⟨c.1.symm, c.2.symm⟩, if_pos (by simp [c.1, c.2])]
  · rw [if_neg fun h => c ⟨h.1.symm, h.2.symm⟩, if_neg (by simpa using c)]; rfl
theorem led_gm (p q : Int) (f t s b : Bool) : PL.led 2 gmR (.node p q f t (.leaf s)) b = if PL.isWon 4 2 none (PL.upX p b) (PL.upY q b) then .over (PL.winOf (PL.upX p b) (PL.upY q b)) s else .on (.node (PL.upX p b) (PL.upY q b) f s (.leaf s)) := rfl
theorem led_bk (p q : Int) (f t s b : Bool) : PL.led 2 bkR (.node p q f t (.leaf s)) b = if PL.isWon 7 2 none (PL.upX p b) (PL.upY q b) then .over (PL.winOf (PL.upX p b) (PL.upY q b)) (PL.nextTurn (.row [false, true, true, false]) f t (PL.upX p b) (PL.upY q b) b s) else .on (.node (PL.upX p b) (PL.upY q b) f (PL.nextTurn (.row [false, true, true, false]) f t (PL.upX p b) (PL.upY q b) b s) (.leaf (PL.nextTurn (.row [false, true, true, false]) f t (PL.upX p b) (PL.upY q b) b s))) := rfl
theorem led_st (g h : Int) (f t b : Bool) (i : PL.St) : PL.led 3 stR (.node g h f t i) b = match PL.led 2 (PL.pickSp [((6, 6), bkR)] g h gmR) i b with
    | .on j => .on (.node g h f t j)
    | .over w _ => if PL.isWon 6 2 (some 7) (PL.upX g w) (PL.upY h w) then .over (PL.winOf (PL.upX g w) (PL.upY h w)) (!t)
      else .on (.node (PL.upX g w) (PL.upY h w) f (!t) (PL.begun 2 (PL.pickSp [((6, 6), bkR)] (PL.upX g w) (PL.upY h w) gmR) (!t))) := rfl
theorem led_tn (n w v : Int) (f t b : Bool) (i : PL.St) : PL.led 4 (tnR n) (.node w v f t i) b = match PL.led 3 stR i b with
    | .on j => .on (.node w v f t j)
    | .over x h => if PL.isWon n 1 none (PL.upX w x) (PL.upY v x) then .over (PL.winOf (PL.upX w x) (PL.upY v x)) h
      else .on (.node (PL.upX w x) (PL.upY v x) f h (.node 0 0 h h (.node 0 0 h h (.leaf h)))) := rfl
theorem last_tn (n w v : Int) (f t b : Bool) (i : PL.St) : PL.lastScore 4 (tnR n) (.node w v f t i) b = match PL.led 3 stR i b with
    | .on _ => none
    | .over x _ => some (PL.upX w x, PL.upY v x) := rfl
theorem bk_row (f : Bool) {n : Int} (h : 0 ≤ n) (t w hh : Bool) (x y : Int) (hn : x + y = n) : PL.nextTurn (.row [false, true, true, false]) f t x y w hh = if (n + 1) / 2 % 2 = 0 then f else !f := by
  have e : PL.nextTurn (.row [false, true, true, false]) f t x y w hh = if [false, true, true, false].getD ((x + y) % 4).toNat false = false then f else !f := rfl
  rw [e, hn]
  have c : n % 4 = 0 ∨ n % 4 = 1 ∨ n % 4 = 2 ∨ n % 4 = 3 := by omega
  rcases c with c | c | c | c
  · rw [c, if_pos (show (n + 1) / 2 % 2 = 0 by omega)]; rfl
  · rw [c, if_neg (show ¬ (n + 1) / 2 % 2 = 0 by omega)]; rfl
  · rw [c, if_neg (show ¬ (n + 1) / 2 % 2 = 0 by omega)]; rfl
  · rw [c, if_pos (show (n + 1) / 2 % 2 = 0 by omega)]; rfl
theorem won_set {c : Tn} {n : Int} (I : Inv n c) (b : Bool) : PL.isWon 6 2 (some 7) (PL.upX c.g b) (PL.upY c.h b) = c.set b := by
  obtain ⟨_, _, _, g0, h0, g6, h6, gh, hg, _, _, _, _⟩ := I
  unfold Tn.set
  rw [Bool.eq_iff_iff]
  cases b <;> simp only [up_upX, up_upY, pt2, PL.isWon, Bool.or_eq_true, Bool.false_eq_true, if_false, if_true, Bool.and_eq_true, decide_eq_true_eq, Bool.not_false, Bool.not_true] <;> omega
theorem win_set {c : Tn} {n : Int} (I : Inv n c) (b : Bool) (w : c.set b = true) : PL.winOf (PL.upX c.g b) (PL.upY c.h b) = b := by
  obtain ⟨_, _, _, g0, h0, g6, h6, gh, hg, _, _, _, _⟩ := I
  unfold Tn.set at w
  simp only [Bool.or_eq_true, Bool.and_eq_true, decide_eq_true_eq] at w
  cases b <;> simp only [up_upX, up_upY, pt2, PL.winOf, Bool.false_eq_true, if_false, if_true, Bool.not_false, Bool.not_true] at w ⊢
  · rw [if_pos (by omega)]
  · rw [if_neg (by omega)]
theorem game_eq (c : Tn) (b : Bool) (h : unwon c.need c.p c.q) : PL.isWon c.need 2 none (PL.upX c.p b) (PL.upY c.q b) = c.game b := won2 b h
theorem led_in {c : Tn} {n : Int} (I : Inv n c) (b f2 t2 : Bool) (hf : c.tied = true → f2 = c.st) : ∃ h : Bool, PL.led 2 (PL.pickSp [((6, 6), bkR)] c.g c.h gmR) (.node c.p c.q f2 t2 (.leaf c.sv)) b = if c.game b = true then .over b h else .on (.node (PL.upX c.p b) (PL.upY c.q b) f2 h (.leaf (Tn.sv ⟨PL.upX c.p b, PL.upY c.q b, c.g, c.h, c.w, c.v, c.st⟩))) := by
  rw [st_pick]
  have hg := game_eq c b I.pq
  have wb : c.game b = true → PL.winOf (PL.upX c.p b) (PL.upY c.q b) = b := fun w => winb b I.pq w
  by_cases td : c.tied = true
  · have e : c.need = 7 := by unfold Tn.need; rw [if_pos td]
    rw [e] at hg
    have td' : (decide (c.g = 6) && decide (c.h = 6)) = true := td
    rw [if_pos td', led_bk, hg]
    by_cases w : c.game b = true
    · exact ⟨_, by rw [if_pos w, if_pos w, wb w]⟩
    · refine ⟨PL.nextTurn (.row [false, true, true, false]) f2 t2 (PL.upX c.p b) (PL.upY c.q b) b c.sv, ?_⟩
      rw [if_neg w, if_neg w]
      have sv : Tn.sv ⟨PL.upX c.p b, PL.upY c.q b, c.g, c.h, c.w, c.v, c.st⟩ = PL.nextTurn (.row [false, true, true, false]) f2 t2 (PL.upX c.p b) (PL.upY c.q b) b c.sv := by
        rw [bk_row f2 (n := c.p + c.q + 1) (by have := I.p0; have := I.q0; omega) _ _ _ _ _ (up_sum c.p c.q b), hf td]
        unfold Tn.sv
        have : Tn.tied ⟨PL.upX c.p b, PL.upY c.q b, c.g, c.h, c.w, c.v, c.st⟩ = true := td
        rw [if_pos this]
        simp only [up_sum]
      rw [sv]
  · have e : c.need = 4 := by unfold Tn.need; rw [if_neg td]
    rw [e] at hg
    have td' : ¬ (decide (c.g = 6) && decide (c.h = 6)) = true := td
    rw [if_neg td', led_gm, hg]
    by_cases w : c.game b = true
    · exact ⟨_, by rw [if_pos w, if_pos w, wb w]⟩
    · refine ⟨c.sv, ?_⟩
      rw [if_neg w, if_neg w]
      have s1 : c.sv = c.st := by unfold Tn.sv; rw [if_neg td]
      have sv : Tn.sv ⟨PL.upX c.p b, PL.upY c.q b, c.g, c.h, c.w, c.v, c.st⟩ = c.st := by
        unfold Tn.sv
        have : ¬ Tn.tied ⟨PL.upX c.p b, PL.upY c.q b, c.g, c.h, c.w, c.v, c.st⟩ = true := td
        rw [if_neg this]
      rw [sv, s1]
theorem step_tn {n : Int} {fi b : Bool} {c : Tn} {s : PL.St} (I : Inv n c) (R : Rel fi c s) :
    (max (c.step b).w (c.step b).v ≠ n ∧ Inv n (c.step b) ∧ ∃ s2, PL.led 4 (tnR n) s b = .on s2 ∧ Rel fi (c.step b) s2) ∨
    (max (c.step b).w (c.step b).v = n ∧ (∃ h, PL.led 4 (tnR n) s b = .over b h) ∧ PL.lastScore 4 (tnR n) s b = some ((c.step b).w, (c.step b).v) ∧ (if b = true then (c.step b).v = n ∧ (c.step b).w < n else (c.step b).w = n ∧ (c.step b).v < n)) := by
  obtain ⟨t0, f1, f2, t2, rfl, hf⟩ := R
  obtain ⟨hh, el⟩ := led_in I b f2 t2 hf
  have ls := led_st c.g c.h f1 c.st b (.node c.p c.q f2 t2 (.leaf c.sv))
  have lt := led_tn n c.w c.v fi t0 b (.node c.g c.h f1 c.st (.node c.p c.q f2 t2 (.leaf c.sv)))
  have la := last_tn n c.w c.v fi t0 b (.node c.g c.h f1 c.st (.node c.p c.q f2 t2 (.leaf c.sv)))
  rw [el] at ls
  have I' := I
  obtain ⟨p0, q0, pq, g0, h0, g6, h6, gh, hg, w0, v0, wn, vn⟩ := I'
  by_cases gm : c.game b = true
  · rw [if_pos gm] at ls
    simp only at ls
    rw [won_set I b] at ls
    by_cases st : c.set b = true
    · have es : c.step b = ⟨0, 0, 0, 0, PL.upX c.w b, PL.upY c.v b, !c.st⟩ := by unfold Tn.step; rw [if_pos gm, if_pos st]
      rw [if_pos st, win_set I b st] at ls
      rw [ls] at lt la
      simp only at lt la
      rw [won1 b wn vn] at lt
      rw [es]
      by_cases w9 : pt2 b c.w c.v + 1 = n
      · right
        rw [decide_eq_true w9, if_pos rfl, win1 b wn vn w9] at lt
        refine ⟨?_, ⟨_, lt⟩, la, ?_⟩
        · cases b <;> simp only [up_upX, up_upY, pt2, Bool.false_eq_true, if_false, if_true] at w9 ⊢ <;> omega
        · cases b <;> simp only [up_upX, up_upY, pt2, Bool.false_eq_true, if_false, if_true] at w9 ⊢ <;> omega
      · left
        rw [decide_eq_false w9, if_neg (by simp)] at lt
        have b3 := unw1 b wn vn w9
        refine ⟨by simp only; omega, ⟨Int.le_refl 0, Int.le_refl 0, by unfold unwon Tn.need Tn.tied; simp, Int.le_refl 0, Int.le_refl 0, (show (0 : Int) ≤ 6 by decide), (show (0 : Int) ≤ 6 by decide), by simp, by simp, by simp only [up_upX]; split <;> omega, by simp only [up_upY]; split <;> omega, b3.1, b3.2⟩, _, lt, (!c.st), (!c.st), (!c.st), (!c.st), rfl, fun z => absurd z (by simp [Tn.tied])⟩
    · have es : c.step b = ⟨0, 0, PL.upX c.g b, PL.upY c.h b, c.w, c.v, !c.st⟩ := by unfold Tn.step; rw [if_pos gm, if_neg st]
      rw [if_neg st] at ls
      rw [ls] at lt
      simp only at lt
      rw [es]
      left
      refine ⟨by simp only; omega, ?_, _, lt, t0, f1, (!c.st), (!c.st), ?_, fun _ => rfl⟩
      · unfold Tn.set at st
        simp only [Bool.or_eq_true, Bool.and_eq_true, decide_eq_true_eq] at st
        refine ⟨Int.le_refl 0, Int.le_refl 0, by unfold unwon; simp only; unfold Tn.need; split <;> simp, ?_, ?_, ?_, ?_, ?_, ?_, w0, v0, wn, vn⟩ <;> (cases b <;> simp only [up_upX, up_upY, pt2, Bool.false_eq_true, if_false, if_true, Bool.not_false, Bool.not_true] at st ⊢ <;> omega)
      · rw [st_pick]
        have sv : Tn.sv ⟨0, 0, PL.upX c.g b, PL.upY c.h b, c.w, c.v, !c.st⟩ = !c.st := by
          unfold Tn.sv
          split <;> rfl
        rw [sv]
        simp only
        split <;> rfl
  · have es : c.step b = ⟨PL.upX c.p b, PL.upY c.q b, c.g, c.h, c.w, c.v, c.st⟩ := by unfold Tn.step; rw [if_neg gm]
    rw [if_neg gm] at ls
    rw [ls] at lt
    simp only at lt
    rw [es]
    left
    have gm' : c.game b = false := by simpa using gm
    refine ⟨by simp only; omega, ⟨?_, ?_, ?_, g0, h0, g6, h6, gh, hg, w0, v0, wn, vn⟩, _, lt, t0, f1, f2, hh, rfl, hf⟩
    · simp only [up_upX]; split <;> omega
    · simp only [up_upY]; split <;> omega
    · exact unw b pq gm'
theorem Rel.sv {fi : Bool} {c : Tn} {s : PL.St} (R : Rel fi c s) : PL.serverIn s = c.sv := by
  obtain ⟨_, _, _, _, rfl, _⟩ := R
  rfl
theorem Rel.sc {fi : Bool} {c : Tn} {s : PL.St} (R : Rel fi c s) : PL.scoresIn s = [(c.w, c.v), (c.g, c.h), (c.p, c.q)] := by
  obtain ⟨_, _, _, _, rfl, _⟩ := R
  rfl
theorem tn_run {n : Int} {fi : Bool} : ∀ (bs : List Bool) (c : Tn) (s : PL.St) (c' : Tn) (sv : List Bool), Inv n c → Rel fi c s → tnRun n c bs = some (c', sv) →
    (PL.trace 4 (tnR n) s bs).map (·.1) = sv ∧ sv.length = bs.length ∧
    ((max c'.w c'.v ≠ n ∧ Inv n c' ∧ ∃ s', PL.run 4 (tnR n) s bs = .on s' ∧ Rel fi c' s') ∨
      (max c'.w c'.v = n ∧ ∃ x h pr b, PL.run 4 (tnR n) s bs = .over x h bs.length pr b ∧ PL.lastScore 4 (tnR n) pr b = some (c'.w, c'.v) ∧ (if x = true then c'.v = n ∧ c'.w < n else c'.w = n ∧ c'.v < n)))
  | [], c, s, c', sv, I, R, e => by
    cases e
    exact ⟨rfl, rfl, .inl ⟨by have := I.wn; have := I.vn; omega, I, s, rfl, R⟩⟩
  | b :: bs, c, s, c', sv, I, R, e => by
    unfold tnRun at e
    rw [if_neg (by have := I.wn; have := I.vn; omega)] at e
    cases er : tnRun n (c.step b) bs with
    | none => rw [er] at e; cases e
    | some r =>
      obtain ⟨rc, rs⟩ := r
      rw [er] at e
      simp only [Option.map_some, Option.some.injEq, Prod.mk.injEq] at e
      obtain ⟨rfl, rfl⟩ := e
      rcases step_tn (b := b) I R with ⟨m, I2, s2, el, R2⟩ | ⟨m, ⟨h, el⟩, ls, ws⟩
      · obtain ⟨i1, i2, i3⟩ := tn_run bs (c.step b) s2 rc rs I2 R2 er
        have r1 : PL.run 4 (tnR n) s (b :: bs) = (PL.run 4 (tnR n) s2 bs).bump := by
          show (match PL.led 4 (tnR n) s b with
            | .on s2 => (PL.run 4 (tnR n) s2 bs).bump
            | .over w h => .over w h 1 s b) = _
          rw [el]
        refine ⟨?_, by rw [List.length_cons, List.length_cons, i2], ?_⟩
        · unfold PL.trace
          rw [el, List.map_cons, R.sv]
          simp only
          rw [i1]
        · rcases i3 with ⟨j1, j2, s', j3, j4⟩ | ⟨j1, x, h, pr, b', j2, j3, j4⟩
          · exact .inl ⟨j1, j2, s', by rw [r1, j3]; rfl, j4⟩
          · exact .inr ⟨j1, x, h, pr, b', by rw [r1, j2]; rfl, j3, j4⟩
      · cases bs with
        | cons d ds =>
          unfold tnRun at er
          rw [if_pos m] at er
          cases er
        | nil =>
          cases er
          refine ⟨?_, rfl, .inr ⟨m, b, h, s, b, ?_, ls, ws⟩⟩
          · unfold PL.trace
            rw [el, List.map_cons, R.sv]
            rfl
          · unfold PL.run
            rw [el]
            rfl
def tn0 (fi : Bool) : Tn := ⟨0, 0, 0, 0, 0, 0, fi⟩
theorem rel0 (n : Int) (fi : Bool) : Rel fi (tn0 fi) (PL.begun 4 (tnR n) fi) := ⟨fi, fi, fi, fi, rfl, fun _ => rfl⟩
theorem inv0 {n : Int} (h : 1 ≤ n) (fi : Bool) : Inv n (tn0 fi) := ⟨Int.le_refl 0, Int.le_refl 0, by unfold unwon tn0 Tn.need Tn.tied; simp, Int.le_refl 0, Int.le_refl 0, (show (0 : Int) ≤ 6 by decide), (show (0 : Int) ≤ 6 by decide), by simp [tn0], by simp [tn0], Int.le_refl 0, Int.le_refl 0, by show 0 < n; omega, by show 0 < n; omega⟩
theorem tnR4 {n : Int} (h : n = 2 ∨ n = 3) : R4 (tnR n) := by
  rcases h with rfl | rfl
  · exact ⟨by kernel_rfl, by kernel_rfl, by decide +kernel, by simp [tnR, stR, gmR, bkR, PL.Rule.ok, PL.oks, PL.ordOk]⟩
  · exact ⟨by kernel_rfl, by kernel_rfl, by decide +kernel, by simp [tnR, stR, gmR, bkR, PL.Rule.ok, PL.oks, PL.ordOk]⟩
end K07
set_option maxHeartbeats 4000000
namespace K07
open PySem PySem.Spec PyProof.Rows L2 DL Cm
structure Te (B T : Sto) (P G W V : Nat) (c : Tn) (acc : List Bool) : Prop where
  g : Gs B T
  cp : C2 T P c.p c.q
  cg : C2 T G c.g c.h
  cw : C2 T W c.w c.v
  cv : SL T V acc
  bP : B.length ≤ P
  bG : B.length ≤ G
  bW : B.length ≤ W
  bV : B.length ≤ V
  PG : P ≠ G
  PW : P ≠ W
  PV : P ≠ V
  GW : G ≠ W
  GV : G ≠ V
  WV : W ≠ V
abbrev E13 (n : Int) (fi l : D) (P G W V : Nat) (s6 st : Bool) (e9 e10 : Option D) : DL.Env := [some (.int n), some fi, some l, some (.cel P), some (.cel G), some (.cel W), some (sd s6), some (sd st), some (.cel V), e9, e10, none, none]
theorem te_step {n : Int} {B T : Sto} {P G W V : Nat} {c : Tn} {acc : List Bool} {fi l : D} {s6 b : Bool} {e10 : Option D} (E : Te B T P G W V c acc) (hw : max c.w c.v ≠ n) (h6 : c.tied = false → s6 = c.st) (ha : acc.length ≤ 900) :
    ∃ T' P' G' k6, (fSeq (fIfS (fB (fOp eqD (fCB maxT (fCons (fVar 5) fNil)) (fVar 0))) (fRet (fC .non)) fNext) (fSeq (fAsg (fOp eqD (fVar 4) (fLst (fCons (fC (.int 6)) (fCons (fC (.int 6)) fNil)))) (fgName 10)) (fSeq (fIfS (fB (fVar 10)) (fAsg (fIf (fB (fOp eqD (fOp modD (fOp fdivD (fOp addD (fOp addD (fOp ixD (fVar 3) (fC (.int 0))) (fOp ixD (fVar 3) (fC (.int 1)))) (fC (.int 1))) (fC (.int 2))) (fC (.int 2))) (fC (.int 0)))) (fVar 7) (fOp subD (fC (.int 1)) (fVar 7))) (fgName 6)) fNext) (fSeq (fDrop (fApp (fVar 8) (fVar 6))) (fSeq (fAsg (fOp addD (fOp ixD (fVar 3) (fVar 9)) (fC (.int 1))) (fgSub (fVar 3) (fVar 9))) (fIfS (fAnd (fB (fOp geD (fOp ixD (fVar 3) (fVar 9)) (fIf (fB (fVar 10)) (fC (.int 7)) (fC (.int 4))))) (fB (fOp geD (fOp ixD (fVar 3) (fVar 9)) (fOp addD (fOp ixD (fVar 3) (fOp subD (fC (.int 1)) (fVar 9))) (fC (.int 2)))))) (fSeq (fAsg (fTup (fCons (fLstC (fCons (fC (.int 0)) (fCons (fC (.int 0)) fNil))) (fCons (fOp addD (fOp ixD (fVar 4) (fVar 9)) (fC (.int 1))) fNil))) (fgTup 2 (fgCons (fgName 3) (fgCons (fgSub (fVar 4) (fVar 9)) fgNil)))) (fSeq (fAsg (fOp subD (fC (.int 1)) (fVar 7)) (fgName 7)) (fSeq (fAsg (fVar 7) (fgName 6)) (fIfS (fOr (fB (fOp eqD (fOp ixD (fVar 4) (fVar 9)) (fC (.int 7)))) (fAnd (fB (fOp eqD (fOp ixD (fVar 4) (fVar 9)) (fC (.int 6)))) (fB (fOp leD (fOp ixD (fVar 4) (fOp subD (fC (.int 1)) (fVar 9))) (fC (.int 4)))))) (fAsg (fTup (fCons (fLstC (fCons (fC (.int 0)) (fCons (fC (.int 0)) fNil))) (fCons (fOp addD (fOp ixD (fVar 5) (fVar 9)) (fC (.int 1))) fNil))) (fgTup 2 (fgCons (fgName 4) (fgCons (fgSub (fVar 5) (fVar 9)) fgNil)))) fNext)))) fNext)))))) (E13 n fi l P G W V s6 c.st (some (sd b)) e10) T = .ok (.nx, E13 n fi l P' G' W V k6 (c.step b).st (some (sd b)) (some (.bl c.tied))) T' ∧ Te B T' P' G' W V (c.step b) (acc ++ [c.sv]) ∧ ((c.step b).tied = false → k6 = (c.step b).st) := by
  obtain ⟨g0, cp, cg, cw, cv, bP, bG, bW, bV, PG, PW, PV, GW, GV, WV⟩ := E
  have mx := cw.mx
  have eg := cg.eq 6 6
  have td : (decide (c.g = 6) && decide (c.h = 6)) = c.tied := rfl
  rw [td] at eg
  have i0 := cp.i0
  have i1 := cp.i1
  have sb := sub_sd b
  have sst := sub_sd c.st
  have fd : fdivD (.int (c.p + c.q + 1)) (.int 2) T = some (.int ((c.p + c.q + 1) / 2)) := fdivD_int (fdivOk_of (by decide) (by decide))
  have md : modD (.int ((c.p + c.q + 1) / 2)) (.int 2) T = some (.int ((c.p + c.q + 1) / 2 % 2)) := modD_int (by decide)
  have mw : decide (max c.w c.v = n) = false := decide_eq_false hw
  have st1 : (fIfS (fB (fOp eqD (fCB maxT (fCons (fVar 5) fNil)) (fVar 0))) (fRet (fC .non)) fNext : FS) (E13 n fi l P G W V s6 c.st (some (sd b)) e10) T = .ok (.nx, E13 n fi l P G W V s6 c.st (some (sd b)) e10) T := by
    simp! only [mx, mw]
  have st2 : (fAsg (fOp eqD (fVar 4) (fLst (fCons (fC (.int 6)) (fCons (fC (.int 6)) fNil)))) (fgName 10) : FS) (E13 n fi l P G W V s6 c.st (some (sd b)) e10) T = .ok (.nx, E13 n fi l P G W V s6 c.st (some (sd b)) (some (.bl c.tied))) T := by
    simp! only [eg]
  have st3 : (fIfS (fB (fVar 10)) (fAsg (fIf (fB (fOp eqD (fOp modD (fOp fdivD (fOp addD (fOp addD (fOp ixD (fVar 3) (fC (.int 0))) (fOp ixD (fVar 3) (fC (.int 1)))) (fC (.int 1))) (fC (.int 2))) (fC (.int 2))) (fC (.int 0)))) (fVar 7) (fOp subD (fC (.int 1)) (fVar 7))) (fgName 6)) fNext : FS) (E13 n fi l P G W V s6 c.st (some (sd b)) (some (.bl c.tied))) T = .ok (.nx, E13 n fi l P G W V c.sv c.st (some (sd b)) (some (.bl c.tied))) T := by
    cases ht : c.tied
    · have e : c.sv = c.st := by unfold Tn.sv; rw [ht]; rfl
      rw [e, h6 ht]
      simp! only []
    · by_cases d : (c.p + c.q + 1) / 2 % 2 = 0
      · have e : c.sv = c.st := by unfold Tn.sv; rw [ht, if_pos rfl, if_pos d]
        rw [e]
        simp! only [i0, i1, fd, md, decide_eq_true d]
      · have e : c.sv = !c.st := by unfold Tn.sv; rw [ht, if_pos rfl, if_neg d]
        rw [e]
        simp! only [i0, i1, fd, md, decide_eq_false d, sst]
  -- the server is told
  have ap := cv.app ha c.sv
  have lsv := cv.ls
  have g1 := g0.set (p := V) (xs := (acc ++ [c.sv]).map sd) bV (nc_sds _)
  have p1 : C2 (T.set V (.lst ((acc ++ [c.sv]).map sd))) P c.p c.q := set_keep cp PV.symm
  have G1 : C2 (T.set V (.lst ((acc ++ [c.sv]).map sd))) G c.g c.h := set_keep cg GV.symm
  have w1 : C2 (T.set V (.lst ((acc ++ [c.sv]).map sd))) W c.w c.v := set_keep cw WV.symm
  have v1 : SL (T.set V (.lst ((acc ++ [c.sv]).map sd))) V (acc ++ [c.sv]) := set_new cv
  generalize hT1 : T.set V (.lst ((acc ++ [c.sv]).map sd)) = T1 at *
  have st4 : (fDrop (fApp (fVar 8) (fVar 6)) : FS) (E13 n fi l P G W V c.sv c.st (some (sd b)) (some (.bl c.tied))) T = .ok (.nx, E13 n fi l P G W V c.sv c.st (some (sd b)) (some (.bl c.tied))) T1 := by
    simp! only [lsv, ap]
  -- the point
  have is := p1.is b
  have up := p1.up b
  have g2 := g1.set (p := P) (xs := [.int (PL.upX c.p b), .int (PL.upY c.q b)]) bP rfl
  have p2 : C2 (T1.set P (.lst [.int (PL.upX c.p b), .int (PL.upY c.q b)])) P (PL.upX c.p b) (PL.upY c.q b) := set_new p1
  have G2 : C2 (T1.set P (.lst [.int (PL.upX c.p b), .int (PL.upY c.q b)])) G c.g c.h := set_keep G1 PG
  have w2 : C2 (T1.set P (.lst [.int (PL.upX c.p b), .int (PL.upY c.q b)])) W c.w c.v := set_keep w1 PW
  have v2 : SL (T1.set P (.lst [.int (PL.upX c.p b), .int (PL.upY c.q b)])) V (acc ++ [c.sv]) := set_keep v1 PV
  generalize hT2 : T1.set P (.lst [.int (PL.upX c.p b), .int (PL.upY c.q b)]) = T2 at *
  have st5 : (fAsg (fOp addD (fOp ixD (fVar 3) (fVar 9)) (fC (.int 1))) (fgSub (fVar 3) (fVar 9)) : FS) (E13 n fi l P G W V c.sv c.st (some (sd b)) (some (.bl c.tied))) T1 = .ok (.nx, E13 n fi l P G W V c.sv c.st (some (sd b)) (some (.bl c.tied))) T2 := by
    simp! only [is, up]
  have is2 := p2.is b
  have isn := p2.is (!b)
  rw [pt2_up] at is2
  rw [pt2_un] at isn
  have cond : (fAnd (fB (fOp geD (fOp ixD (fVar 3) (fVar 9)) (fIf (fB (fVar 10)) (fC (.int 7)) (fC (.int 4))))) (fB (fOp geD (fOp ixD (fVar 3) (fVar 9)) (fOp addD (fOp ixD (fVar 3) (fOp subD (fC (.int 1)) (fVar 9))) (fC (.int 2))))) : FT) (E13 n fi l P G W V c.sv c.st (some (sd b)) (some (.bl c.tied))) T2 = .ok (c.game b) T2 := by
    unfold Tn.game Tn.need
    cases ht : c.tied
    · simp! only [is2, isn, sb, Bool.false_eq_true, if_false]
      by_cases z : (4 : Int) ≤ pt2 b c.p c.q + 1
      · simp only [decide_eq_true z, if_true, Bool.true_and]
      · simp only [decide_eq_false z, Bool.false_eq_true, if_false, Bool.false_and]
    · simp! only [is2, isn, sb, if_true]
      by_cases z : (7 : Int) ≤ pt2 b c.p c.q + 1
      · simp only [decide_eq_true z, if_true, Bool.true_and]
      · simp only [decide_eq_false z, Bool.false_eq_true, if_false, Bool.false_and]
  by_cases gm : c.game b = true
  · rw [gm] at cond
    -- a game
    have g3 := g2.snoc (xs := [.int 0, .int 0]) rfl
    have p3 : C2 (T2 ++ [.lst [.int 0, .int 0]]) T2.length 0 0 := snoc_new
    have G3 : C2 (T2 ++ [.lst [.int 0, .int 0]]) G c.g c.h := snoc_keep G2
    have w3 : C2 (T2 ++ [.lst [.int 0, .int 0]]) W c.w c.v := snoc_keep w2
    have v3 : SL (T2 ++ [.lst [.int 0, .int 0]]) V (acc ++ [c.sv]) := snoc_keep v2
    have nG : T2.length ≠ G := fun e => by have := G2.lt; omega
    have nW : T2.length ≠ W := fun e => by have := w2.lt; omega
    have nV : T2.length ≠ V := fun e => by have := (List.getElem?_eq_some_iff.mp v2).1; omega
    have bP2 := g2.len
    generalize hT3 : T2 ++ [CO.lst [.int 0, .int 0]] = T3 at *
    have gis := G3.is b
    have gup := G3.up b
    have g4 := g3.set (p := G) (xs := [.int (PL.upX c.g b), .int (PL.upY c.h b)]) bG rfl
    have p4 : C2 (T3.set G (.lst [.int (PL.upX c.g b), .int (PL.upY c.h b)])) T2.length 0 0 := set_keep p3 nG.symm
    have G4 : C2 (T3.set G (.lst [.int (PL.upX c.g b), .int (PL.upY c.h b)])) G (PL.upX c.g b) (PL.upY c.h b) := set_new G3
    have w4 : C2 (T3.set G (.lst [.int (PL.upX c.g b), .int (PL.upY c.h b)])) W c.w c.v := set_keep w3 GW
    have v4 : SL (T3.set G (.lst [.int (PL.upX c.g b), .int (PL.upY c.h b)])) V (acc ++ [c.sv]) := set_keep v3 GV
    generalize hT4 : T3.set G (.lst [.int (PL.upX c.g b), .int (PL.upY c.h b)]) = T4 at *
    have gi4 := G4.is b
    have gn4 := G4.is (!b)
    rw [pt2_up] at gi4
    rw [pt2_un] at gn4
    have st6 : (fAsg (fTup (fCons (fLstC (fCons (fC (.int 0)) (fCons (fC (.int 0)) fNil))) (fCons (fOp addD (fOp ixD (fVar 4) (fVar 9)) (fC (.int 1))) fNil))) (fgTup 2 (fgCons (fgName 3) (fgCons (fgSub (fVar 4) (fVar 9)) fgNil))) : FS) (E13 n fi l P G W V c.sv c.st (some (sd b)) (some (.bl c.tied))) T2 = .ok (.nx, E13 n fi l T2.length G W V c.sv c.st (some (sd b)) (some (.bl c.tied))) T4 := by
      simp! only [hT3, gis, gup]
    have st7 : (fAsg (fOp subD (fC (.int 1)) (fVar 7)) (fgName 7) : FS) (E13 n fi l T2.length G W V c.sv c.st (some (sd b)) (some (.bl c.tied))) T4 = .ok (.nx, E13 n fi l T2.length G W V c.sv (!c.st) (some (sd b)) (some (.bl c.tied))) T4 := by
      have := sub_sd c.st
      simp! only [this]
    have st8 : (fAsg (fVar 7) (fgName 6) : FS) (E13 n fi l T2.length G W V c.sv (!c.st) (some (sd b)) (some (.bl c.tied))) T4 = .ok (.nx, E13 n fi l T2.length G W V (!c.st) (!c.st) (some (sd b)) (some (.bl c.tied))) T4 := rfl
    have cond2 : (fOr (fB (fOp eqD (fOp ixD (fVar 4) (fVar 9)) (fC (.int 7)))) (fAnd (fB (fOp eqD (fOp ixD (fVar 4) (fVar 9)) (fC (.int 6)))) (fB (fOp leD (fOp ixD (fVar 4) (fOp subD (fC (.int 1)) (fVar 9))) (fC (.int 4))))) : FT) (E13 n fi l T2.length G W V (!c.st) (!c.st) (some (sd b)) (some (.bl c.tied))) T4 = .ok (c.set b) T4 := by
      unfold Tn.set
      simp! only [gi4, gn4, sb]
      by_cases z : pt2 b c.g c.h + 1 = 7
      · simp only [decide_eq_true z, if_true, Bool.true_or]
      · by_cases y : pt2 b c.g c.h + 1 = 6
        · simp only [decide_eq_false z, decide_eq_true y, Bool.false_eq_true, if_false, if_true, Bool.false_or, Bool.true_and]
        · simp only [decide_eq_false z, decide_eq_false y, Bool.false_eq_true, if_false, Bool.false_or, Bool.false_and]
    by_cases st : c.set b = true
    · have es : c.step b = ⟨0, 0, 0, 0, PL.upX c.w b, PL.upY c.v b, !c.st⟩ := by unfold Tn.step; rw [if_pos gm, if_pos st]
      rw [st] at cond2
      rw [es]
      have g5 := g4.snoc (xs := [.int 0, .int 0]) rfl
      have p5 : C2 (T4 ++ [.lst [.int 0, .int 0]]) T2.length 0 0 := snoc_keep p4
      have G5 : C2 (T4 ++ [.lst [.int 0, .int 0]]) T4.length 0 0 := snoc_new
      have w5 : C2 (T4 ++ [.lst [.int 0, .int 0]]) W c.w c.v := snoc_keep w4
      have v5 : SL (T4 ++ [.lst [.int 0, .int 0]]) V (acc ++ [c.sv]) := snoc_keep v4
      have mP : T2.length ≠ T4.length := fun e => by have := p4.lt; omega
      have mW : T4.length ≠ W := fun e => by have := w4.lt; omega
      have mV : T4.length ≠ V := fun e => by have := (List.getElem?_eq_some_iff.mp v4).1; omega
      have bG4 := g4.len
      generalize hT5 : T4 ++ [CO.lst [.int 0, .int 0]] = T5 at *
      have wis := w5.is b
      have wup := w5.up b
      have g6 := g5.set (p := W) (xs := [.int (PL.upX c.w b), .int (PL.upY c.v b)]) bW rfl
      have p6 : C2 (T5.set W (.lst [.int (PL.upX c.w b), .int (PL.upY c.v b)])) T2.length 0 0 := set_keep p5 nW.symm
      have G6 : C2 (T5.set W (.lst [.int (PL.upX c.w b), .int (PL.upY c.v b)])) T4.length 0 0 := set_keep G5 mW.symm
      have w6 : C2 (T5.set W (.lst [.int (PL.upX c.w b), .int (PL.upY c.v b)])) W (PL.upX c.w b) (PL.upY c.v b) := set_new w5
      have v6 : SL (T5.set W (.lst [.int (PL.upX c.w b), .int (PL.upY c.v b)])) V (acc ++ [c.sv]) := set_keep v5 WV
      generalize hT6 : T5.set W (.lst [.int (PL.upX c.w b), .int (PL.upY c.v b)]) = T6 at *
      refine ⟨T6, T2.length, T4.length, !c.st, ?_, ⟨g6, p6, G6, w6, v6, bP2, bG4, bW, bV, mP, nW, nV, mW, mV, WV⟩, fun _ => rfl⟩
      refine (fSeq_nx st1).trans ((fSeq_nx st2).trans ((fSeq_nx st3).trans ((fSeq_nx st4).trans ((fSeq_nx st5).trans ?_))))
      rw [fIfS_ap, cond]
      simp only [Res.bind_ok, if_true]
      refine (fSeq_nx st6).trans ((fSeq_nx st7).trans ((fSeq_nx st8).trans ?_))
      rw [fIfS_ap, cond2]
      simp only [Res.bind_ok, if_true]
      simp! only [hT5, wis, wup]
    · have es : c.step b = ⟨0, 0, PL.upX c.g b, PL.upY c.h b, c.w, c.v, !c.st⟩ := by unfold Tn.step; rw [if_pos gm, if_neg st]
      have st' : c.set b = false := by simpa using st
      rw [st'] at cond2
      rw [es]
      refine ⟨T4, T2.length, G, !c.st, ?_, ⟨g4, p4, G4, w4, v4, bP2, bG, bW, bV, nG, nW, nV, GW, GV, WV⟩, fun _ => rfl⟩
      refine (fSeq_nx st1).trans ((fSeq_nx st2).trans ((fSeq_nx st3).trans ((fSeq_nx st4).trans ((fSeq_nx st5).trans ?_))))
      rw [fIfS_ap, cond]
      simp only [Res.bind_ok, if_true]
      refine (fSeq_nx st6).trans ((fSeq_nx st7).trans ((fSeq_nx st8).trans ?_))
      rw [fIfS_ap, cond2]
      rfl
  · have gm' : c.game b = false := by simpa using gm
    have es : c.step b = ⟨PL.upX c.p b, PL.upY c.q b, c.g, c.h, c.w, c.v, c.st⟩ := by unfold Tn.step; rw [if_neg gm]
    rw [gm'] at cond
    rw [es]
    refine ⟨T2, P, G, c.sv, ?_, ⟨g2, p2, G2, w2, v2, bP, bG, bW, bV, PG, PW, PV, GW, GV, WV⟩, fun z => ?_⟩
    · refine (fSeq_nx st1).trans ((fSeq_nx st2).trans ((fSeq_nx st3).trans ((fSeq_nx st4).trans ((fSeq_nx st5).trans ?_))))
      rw [fIfS_ap, cond]
      rfl
    · have z : c.tied = false := z
      show c.sv = c.st
      unfold Tn.sv
      rw [z]
      rfl
theorem te_loop {n : Int} {B : Sto} {W V : Nat} {fi l : D} : ∀ (bs acc : List Bool) (c : Tn) (T : Sto) (P G : Nat) (s6 : Bool) (e9 e10 : Option D), acc.length + bs.length ≤ 800 → Te B T P G W V c acc → (c.tied = false → s6 = c.st) →
    ∃ fl ρ' T', loopD (fgName 9) (fSeq (fIfS (fB (fOp eqD (fCB maxT (fCons (fVar 5) fNil)) (fVar 0))) (fRet (fC .non)) fNext) (fSeq (fAsg (fOp eqD (fVar 4) (fLst (fCons (fC (.int 6)) (fCons (fC (.int 6)) fNil)))) (fgName 10)) (fSeq (fIfS (fB (fVar 10)) (fAsg (fIf (fB (fOp eqD (fOp modD (fOp fdivD (fOp addD (fOp addD (fOp ixD (fVar 3) (fC (.int 0))) (fOp ixD (fVar 3) (fC (.int 1)))) (fC (.int 1))) (fC (.int 2))) (fC (.int 2))) (fC (.int 0)))) (fVar 7) (fOp subD (fC (.int 1)) (fVar 7))) (fgName 6)) fNext) (fSeq (fDrop (fApp (fVar 8) (fVar 6))) (fSeq (fAsg (fOp addD (fOp ixD (fVar 3) (fVar 9)) (fC (.int 1))) (fgSub (fVar 3) (fVar 9))) (fIfS (fAnd (fB (fOp geD (fOp ixD (fVar 3) (fVar 9)) (fIf (fB (fVar 10)) (fC (.int 7)) (fC (.int 4))))) (fB (fOp geD (fOp ixD (fVar 3) (fVar 9)) (fOp addD (fOp ixD (fVar 3) (fOp subD (fC (.int 1)) (fVar 9))) (fC (.int 2)))))) (fSeq (fAsg (fTup (fCons (fLstC (fCons (fC (.int 0)) (fCons (fC (.int 0)) fNil))) (fCons (fOp addD (fOp ixD (fVar 4) (fVar 9)) (fC (.int 1))) fNil))) (fgTup 2 (fgCons (fgName 3) (fgCons (fgSub (fVar 4) (fVar 9)) fgNil)))) (fSeq (fAsg (fOp subD (fC (.int 1)) (fVar 7)) (fgName 7)) (fSeq (fAsg (fVar 7) (fgName 6)) (fIfS (fOr (fB (fOp eqD (fOp ixD (fVar 4) (fVar 9)) (fC (.int 7)))) (fAnd (fB (fOp eqD (fOp ixD (fVar 4) (fVar 9)) (fC (.int 6)))) (fB (fOp leD (fOp ixD (fVar 4) (fOp subD (fC (.int 1)) (fVar 9))) (fC (.int 4)))))) (fAsg (fTup (fCons (fLstC (fCons (fC (.int 0)) (fCons (fC (.int 0)) fNil))) (fCons (fOp addD (fOp ixD (fVar 5) (fVar 9)) (fC (.int 1))) fNil))) (fgTup 2 (fgCons (fgName 4) (fgCons (fgSub (fVar 5) (fVar 9)) fgNil)))) fNext)))) fNext)))))) (bs.map sd) (E13 n fi l P G W V s6 c.st e9 e10) T = .ok (fl, ρ') T' ∧ Gs B T' ∧ match tnRun n c bs with
      | none => fl = .rt .non
      | some r => fl = .nx ∧ ∃ P' G' k6 f9 f10, ρ' = E13 n fi l P' G' W V k6 r.1.st f9 f10 ∧ Te B T' P' G' W V r.1 (acc ++ r.2) ∧ (r.1.tied = false → k6 = r.1.st)
  | [], acc, c, T, P, G, s6, e9, e10, hl, E, h6 => ⟨.nx, _, T, rfl, E.g, rfl, P, G, s6, e9, e10, rfl, by rw [List.append_nil]; exact E, h6⟩
  | b :: bs, acc, c, T, P, G, s6, e9, e10, hl, E, h6 => by
    rw [List.length_cons] at hl
    have fg : fgName 9 (sd b) (E13 n fi l P G W V s6 c.st e9 e10) T = .ok (E13 n fi l P G W V s6 c.st (some (sd b)) e10) T := rfl
    unfold tnRun
    by_cases hw : max c.w c.v = n
    · rw [if_pos hw]
      refine ⟨.rt .non, E13 n fi l P G W V s6 c.st (some (sd b)) e10, T, ?_, E.g, rfl⟩
      rw [List.map_cons]
      unfold loopD
      rw [fg]
      simp only [Res.bind_ok]
      have mx := E.cw.mx
      have mw : decide (max c.w c.v = n) = true := decide_eq_true hw
      have e1 : (fSeq (fIfS (fB (fOp eqD (fCB maxT (fCons (fVar 5) fNil)) (fVar 0))) (fRet (fC .non)) fNext) (fSeq (fAsg (fOp eqD (fVar 4) (fLst (fCons (fC (.int 6)) (fCons (fC (.int 6)) fNil)))) (fgName 10)) (fSeq (fIfS (fB (fVar 10)) (fAsg (fIf (fB (fOp eqD (fOp modD (fOp fdivD (fOp addD (fOp addD (fOp ixD (fVar 3) (fC (.int 0))) (fOp ixD (fVar 3) (fC (.int 1)))) (fC (.int 1))) (fC (.int 2))) (fC (.int 2))) (fC (.int 0)))) (fVar 7) (fOp subD (fC (.int 1)) (fVar 7))) (fgName 6)) fNext) (fSeq (fDrop (fApp (fVar 8) (fVar 6))) (fSeq (fAsg (fOp addD (fOp ixD (fVar 3) (fVar 9)) (fC (.int 1))) (fgSub (fVar 3) (fVar 9))) (fIfS (fAnd (fB (fOp geD (fOp ixD (fVar 3) (fVar 9)) (fIf (fB (fVar 10)) (fC (.int 7)) (fC (.int 4))))) (fB (fOp geD (fOp ixD (fVar 3) (fVar 9)) (fOp addD (fOp ixD (fVar 3) (fOp subD (fC (.int 1)) (fVar 9))) (fC (.int 2)))))) (fSeq (fAsg (fTup (fCons (fLstC (fCons (fC (.int 0)) (fCons (fC (.int 0)) fNil))) (fCons (fOp addD (fOp ixD (fVar 4) (fVar 9)) (fC (.int 1))) fNil))) (fgTup 2 (fgCons (fgName 3) (fgCons (fgSub (fVar 4) (fVar 9)) fgNil)))) (fSeq (fAsg (fOp subD (fC (.int 1)) (fVar 7)) (fgName 7)) (fSeq (fAsg (fVar 7) (fgName 6)) (fIfS (fOr (fB (fOp eqD (fOp ixD (fVar 4) (fVar 9)) (fC (.int 7)))) (fAnd (fB (fOp eqD (fOp ixD (fVar 4) (fVar 9)) (fC (.int 6)))) (fB (fOp leD (fOp ixD (fVar 4) (fOp subD (fC (.int 1)) (fVar 9))) (fC (.int 4)))))) (fAsg (fTup (fCons (fLstC (fCons (fC (.int 0)) (fCons (fC (.int 0)) fNil))) (fCons (fOp addD (fOp ixD (fVar 5) (fVar 9)) (fC (.int 1))) fNil))) (fgTup 2 (fgCons (fgName 4) (fgCons (fgSub (fVar 5) (fVar 9)) fgNil)))) fNext)))) fNext)))))) (E13 n fi l P G W V s6 c.st (some (sd b)) e10) T = .ok (.rt .non, E13 n fi l P G W V s6 c.st (some (sd b)) e10) T := fSeq_rt (by simp! only [mx, mw])
      rw [e1]
      rfl
    · rw [if_neg hw]
      obtain ⟨T1, P1, G1, k6, e1, E1, h1⟩ := te_step (fi := fi) (l := l) (b := b) (e10 := e10) E hw h6 (by omega)
      obtain ⟨fl, ρ', T', e2, g2, al⟩ := te_loop (fi := fi) (l := l) bs (acc ++ [c.sv]) (c.step b) T1 P1 G1 k6 (some (sd b)) (some (.bl c.tied)) (by simp; omega) E1 h1
      refine ⟨fl, ρ', T', ?_, g2, ?_⟩
      · rw [List.map_cons]
        unfold loopD
        rw [fg]
        simp only [Res.bind_ok]
        rw [e1]
        exact e2
      · cases er : tnRun n (c.step b) bs with
        | none => rw [er] at al; exact al
        | some r =>
          rw [er] at al
          obtain ⟨a1, P', G', k6', f9, f10, a2, a3, a4⟩ := al
          refine ⟨a1, P', G', k6', f9, f10, a2, ?_, a4⟩
          rw [List.append_assoc] at a3
          exact a3
def tnW (n : Int) (c : Tn) : D := if c.w = n then .int 0 else if c.v = n then .int 1 else .non
def tnSc (n : Int) (c : Tn) : List (Int × Int) := if c.w = n ∨ c.v = n then [(c.w, c.v)] else [(c.w, c.v), (c.g, c.h), (c.p, c.q)]
def tnD (n : Int) (r : Tn × List Bool) : D := .tup [tnW n r.1, sd r.1.sv, .lst ((tnSc n r.1).map scD), .lst (r.2.map sd)]
def tnO (n : Int) : Option (Tn × List Bool) → D
  | none => .non
  | some r => tnD n r
theorem te_fin {n : Int} {B T : Sto} {P G W V : Nat} {c : Tn} {acc : List Bool} {fi l : D} {s6 : Bool} {f9 f10 : Option D} (E : Te B T P G W V c acc) (h6 : c.tied = false → s6 = c.st) :
    ∃ ρ', (fSeq (fIfS (fB (fOp eqD (fVar 4) (fLst (fCons (fC (.int 6)) (fCons (fC (.int 6)) fNil))))) (fAsg (fIf (fB (fOp eqD (fOp modD (fOp fdivD (fOp addD (fOp addD (fOp ixD (fVar 3) (fC (.int 0))) (fOp ixD (fVar 3) (fC (.int 1)))) (fC (.int 1))) (fC (.int 2))) (fC (.int 2))) (fC (.int 0)))) (fVar 7) (fOp subD (fC (.int 1)) (fVar 7))) (fgName 6)) fNext) (fSeq (fAsg (fIf (fB (fOp inD (fVar 0) (fVar 5))) (fIdxD (fVar 5) (fVar 0)) (fC .non)) (fgName 11)) (fSeq (fAsg (fIf (fB (fOp isnotD (fVar 11) (fC .non))) (fLst (fCons (fCB tupleD (fCons (fVar 5) fNil)) fNil)) (fLst (fCons (fCB tupleD (fCons (fVar 5) fNil)) (fCons (fCB tupleD (fCons (fVar 4) fNil)) (fCons (fCB tupleD (fCons (fVar 3) fNil)) fNil))))) (fgName 12)) (fRet (fTup (fCons (fVar 11) (fCons (fVar 6) (fCons (fVar 12) (fCons (fFrz (fVar 8)) fNil)))))))) : FS) (E13 n fi l P G W V s6 c.st f9 f10) T = .ok (.rt (tnD n (c, acc)), ρ') (T.set V .gone) := by
  obtain ⟨g0, cp, cg, cw, cv, bP, bG, bW, bV, PG, PW, PV, GW, GV, WV⟩ := E
  have eg := cg.eq 6 6
  have td : (decide (c.g = 6) && decide (c.h = 6)) = c.tied := rfl
  rw [td] at eg
  have i0 := cp.i0
  have i1 := cp.i1
  have sst := sub_sd c.st
  have fd : fdivD (.int (c.p + c.q + 1)) (.int 2) T = some (.int ((c.p + c.q + 1) / 2)) := fdivD_int (fdivOk_of (by decide) (by decide))
  have md : modD (.int ((c.p + c.q + 1) / 2)) (.int 2) T = some (.int ((c.p + c.q + 1) / 2 % 2)) := modD_int (by decide)
  have inn := cw.inn n
  have idx := cw.idx n
  have lw := cw.ls
  have tw := cw.tu
  have tg := cg.tu
  have tp := cp.tu
  have fz : frzD T (.cel V) = some (.lst (acc.map sd), T.set V .gone) := by
    unfold frzD
    unfold SL at cv
    simp only [cv]
  have s2 : ((fIfS (fB (fOp eqD (fVar 4) (fLst (fCons (fC (.int 6)) (fCons (fC (.int 6)) fNil))))) (fAsg (fIf (fB (fOp eqD (fOp modD (fOp fdivD (fOp addD (fOp addD (fOp ixD (fVar 3) (fC (.int 0))) (fOp ixD (fVar 3) (fC (.int 1)))) (fC (.int 1))) (fC (.int 2))) (fC (.int 2))) (fC (.int 0)))) (fVar 7) (fOp subD (fC (.int 1)) (fVar 7))) (fgName 6)) fNext) : FS) (E13 n fi l P G W V s6 c.st f9 f10) T = .ok (.nx, E13 n fi l P G W V c.sv c.st f9 f10) T := by
    cases ht : c.tied
    · have e : c.sv = c.st := by unfold Tn.sv; rw [ht]; rfl
      rw [ht] at eg
      rw [e, h6 ht]
      simp! only [eg]
    · rw [ht] at eg
      by_cases d : (c.p + c.q + 1) / 2 % 2 = 0
      · have e : c.sv = c.st := by unfold Tn.sv; rw [ht, if_pos rfl, if_pos d]
        rw [e]
        simp! only [eg, i0, i1, fd, md, decide_eq_true d]
      · have e : c.sv = !c.st := by unfold Tn.sv; rw [ht, if_pos rfl, if_neg d]
        rw [e]
        simp! only [eg, i0, i1, fd, md, decide_eq_false d, sst]
  have z0 : ∀ i : Int, isnotD (.int i) .non T = some (.bl true) := fun _ => rfl
  have z1 : isnotD .non .non T = some (.bl false) := rfl
  by_cases w : c.w = n
  · refine ⟨[some (.int n), some fi, some l, some (.cel P), some (.cel G), some (.cel W), some (sd c.sv), some (sd c.st), some (.cel V), f9, f10, some (.int 0), some (.lst [.tup [.int c.w, .int c.v]])], ?_⟩
    have e : tnD n (c, acc) = .tup [.int 0, sd c.sv, .lst [.tup [.int c.w, .int c.v]], .lst (acc.map sd)] := by unfold tnD tnW tnSc; rw [if_pos w, if_pos (.inl w)]; rfl
    rw [e]
    rw [decide_eq_true w, Bool.true_or] at inn
    rw [if_pos w] at idx
    refine (fSeq_nx s2).trans ?_
    simp! only [inn, fIdxD, lw, idx, z0, tw, fFrz, fz]
    try rfl
  · by_cases v : c.v = n
    · refine ⟨[some (.int n), some fi, some l, some (.cel P), some (.cel G), some (.cel W), some (sd c.sv), some (sd c.st), some (.cel V), f9, f10, some (.int 1), some (.lst [.tup [.int c.w, .int c.v]])], ?_⟩
      have e : tnD n (c, acc) = .tup [.int 1, sd c.sv, .lst [.tup [.int c.w, .int c.v]], .lst (acc.map sd)] := by unfold tnD tnW tnSc; rw [if_neg w, if_pos v, if_pos (.inr v)]; rfl
      rw [e]
      rw [decide_eq_false w, decide_eq_true v, Bool.false_or] at inn
      rw [if_neg w, if_pos v] at idx
      refine (fSeq_nx s2).trans ?_
      simp! only [inn, fIdxD, lw, idx, z0, tw, fFrz, fz]
      try rfl
    · refine ⟨[some (.int n), some fi, some l, some (.cel P), some (.cel G), some (.cel W), some (sd c.sv), some (sd c.st), some (.cel V), f9, f10, some .non, some (.lst [.tup [.int c.w, .int c.v], .tup [.int c.g, .int c.h], .tup [.int c.p, .int c.q]])], ?_⟩
      have e : tnD n (c, acc) = .tup [.non, sd c.sv, .lst [.tup [.int c.w, .int c.v], .tup [.int c.g, .int c.h], .tup [.int c.p, .int c.q]], .lst (acc.map sd)] := by unfold tnD tnW tnSc; rw [if_neg w, if_neg v, if_neg (by simp [w, v])]; rfl
      rw [e]
      rw [decide_eq_false w, decide_eq_false v, Bool.false_or] at inn
      refine (fSeq_nx s2).trans ?_
      simp! only [inn, z1, tw, tg, tp, fFrz, fz]
      try rfl
theorem nc_tnD (n : Int) (r : Tn × List Bool) : noCel (tnD n r) = true := by
  have a : noCel (tnW n r.1) = true := by unfold tnW; split; rfl; split <;> rfl
  simp only [tnD, noCel, noCels, a, nc_sd, nc_sds, nc_scs, Bool.and_self]
def four (S : Sto) : Sto := (((S ++ [.lst [.int 0, .int 0]]) ++ [.lst [.int 0, .int 0]]) ++ [.lst [.int 0, .int 0]]) ++ [.lst []]
theorem te_four {S : Sto} (hS : S.all (lowC S.length) = true) (fi : Bool) : Te S (four S) S.length (S.length + 1) (S.length + 2) (S.length + 3) (tn0 fi) [] := by
  have G1 := (Gs.self hS).snoc (xs := [.int 0, .int 0]) rfl
  have G2 := G1.snoc (xs := [.int 0, .int 0]) rfl
  have G3 := G2.snoc (xs := [.int 0, .int 0]) rfl
  have G4 := G3.snoc (xs := []) rfl
  have l1 : (S ++ [CO.lst [D.int 0, .int 0]]).length = S.length + 1 := by simp
  have l2 : ((S ++ [CO.lst [D.int 0, .int 0]]) ++ [CO.lst [D.int 0, .int 0]]).length = S.length + 2 := by simp
  have l3 : (((S ++ [CO.lst [D.int 0, .int 0]]) ++ [CO.lst [D.int 0, .int 0]]) ++ [CO.lst [D.int 0, .int 0]]).length = S.length + 3 := by simp
  exact ⟨G4, snoc_keep (snoc_keep (snoc_keep snoc_new)), snoc_keep (snoc_keep (by rw [← l1]; exact snoc_new)), snoc_keep (by rw [← l2]; exact snoc_new), by rw [← l3]; exact snoc_new, by omega, by omega, by omega, by omega, by omega, by omega, by omega, by omega, by omega, by omega⟩
theorem st_four {n : Int} {fi : Bool} {l : D} {S : Sto} : ((fAsg (fTup (fCons (fLstC (fCons (fC (.int 0)) (fCons (fC (.int 0)) fNil))) (fCons (fLstC (fCons (fC (.int 0)) (fCons (fC (.int 0)) fNil))) (fCons (fLstC (fCons (fC (.int 0)) (fCons (fC (.int 0)) fNil))) (fCons (fVar 1) (fCons (fVar 1) (fCons (fLstC fNil) fNil))))))) (fgTup 6 (fgCons (fgName 3) (fgCons (fgName 4) (fgCons (fgName 5) (fgCons (fgName 6) (fgCons (fgName 7) (fgCons (fgName 8) fgNil)))))))) : FS) [some (.int n), some (sd fi), some l, none, none, none, none, none, none, none, none, none, none] S = .ok (.nx, E13 n (sd fi) l S.length (S.length + 1) (S.length + 2) (S.length + 3) fi fi none none) (four S) := by
  have l1 : (S ++ [CO.lst [D.int 0, .int 0]]).length = S.length + 1 := by simp
  have l2 : ((S ++ [CO.lst [D.int 0, .int 0]]) ++ [CO.lst [D.int 0, .int 0]]).length = S.length + 2 := by simp
  have l3 : (((S ++ [CO.lst [D.int 0, .int 0]]) ++ [CO.lst [D.int 0, .int 0]]) ++ [CO.lst [D.int 0, .int 0]]).length = S.length + 3 := by simp
  simp! only [l1, l2, l3]
  try rfl
theorem behind_d {S : Sto} (hS : S.all (lowC S.length) = true) (n : Int) (fi : Bool) {bs : List Bool} (hl : bs.length ≤ 700) : g__law_tennis_behind [.int n, sd fi, brD bs] S = .ok (tnO n (tnRun n (tn0 fi) bs)) S := by
  obtain ⟨fl, ρ', T', e, G, al⟩ := te_loop (n := n) (fi := sd fi) (l := brD bs) bs [] (tn0 fi) (four S) S.length (S.length + 1) fi none none (by simp; omega) (te_four hS fi) (fun _ => rfl)
  have it : ((fiAny (fVar 2)) : FI) (E13 n (sd fi) (brD bs) S.length (S.length + 1) (S.length + 2) (S.length + 3) fi fi none none) (four S) = .ok ⟨bs.map sd, none⟩ (four S) := rfl
  obtain ⟨low, E, hE⟩ := G
  cases er : tnRun n (tn0 fi) bs with
  | none =>
    rw [er] at al
    simp only at al
    subst al
    rw [hE] at e
    refine bodyT_low E (T := S) ?_ rfl hS rfl
    exact bodyD_rt ((fSeq_nx st_four).trans (fSeq_rt (fFor_st it e)))
  | some r =>
    rw [er] at al
    obtain ⟨rfl, P', G', k6, f9, f10, rfl, Ee, h6⟩ := al
    rw [List.nil_append] at Ee
    obtain ⟨ρ2, e2⟩ := te_fin (fi := sd fi) (l := brD bs) (f9 := f9) (f10 := f10) Ee h6
    have z : T'.set (S.length + 3) .gone = S ++ E.set 3 .gone := by
      rw [hE, List.set_append, if_neg (by omega), Nat.add_sub_cancel_left]
    rw [z] at e2
    refine bodyT_low (E.set 3 .gone) (T := S) ?_ rfl hS (noCel_low (nc_tnD n r))
    exact bodyD_rt ((fSeq_nx st_four).trans ((fSeq_nx (fFor_st it e)).trans e2))
theorem four_set {S : Sto} {j : Nat} {x : CO} (h : j < S.length) : (four S).set j x = four (S.set j x) := by
  unfold four
  rw [List.set_append, if_pos (by simp; omega), List.set_append, if_pos (by simp; omega), List.set_append, if_pos (by simp; omega), List.set_append, if_pos h]
theorem Te.unlock {S T : Sto} {j : Nat} {x : CO} {P G W V : Nat} {c : Tn} {acc : List Bool} {xs : List D} (hS : S.all (lowC S.length) = true) (hj : S[j]? = some (.lst xs)) (nc : noCels xs = true) (E : Te (S.set j x) T P G W V c acc) : Te S (T.set j (.lst xs)) P G W V c acc ∧ ∃ L, T.set j (.lst xs) = S ++ L := by
  obtain ⟨⟨low, L, hL⟩, cp, cg, cw, cv, bP, bG, bW, bV, PG, PW, PV, GW, GV, WV⟩ := E
  have jl := (List.getElem?_eq_some_iff.mp hj).1
  rw [List.length_set] at bP bG bW bV
  have e : T.set j (.lst xs) = S ++ L := by
    rw [hL, List.set_append, if_pos (by rw [List.length_set]; exact jl), List.set_set]
    congr 1
    obtain ⟨w1, w2⟩ := List.getElem?_eq_some_iff.mp hj
    rw [← w2, List.set_getElem_self]
  refine ⟨⟨⟨?_, L, e⟩, set_keep cp (by omega), set_keep cg (by omega), set_keep cw (by omega), set_keep cv (by omega), bP, bG, bW, bV, PG, PW, PV, GW, GV, WV⟩, L, e⟩
  rw [List.length_set, List.all_eq_true]
  intro y m
  rcases List.mem_or_eq_of_mem_set m with m | rfl
  · exact List.all_eq_true.mp low y m
  · exact coFree_low (c := .lst xs) nc
theorem behind_c {S : Sto} (hS : S.all (lowC S.length) = true) (n : Int) (fi : Bool) {bs : List Bool} (hl : bs.length ≤ 700) {j : Nat} (hj : S[j]? = some (.lst (bs.map sd))) : g__law_tennis_behind [.int n, sd fi, .cel j] S = .ok (tnO n (tnRun n (tn0 fi) bs)) S := by
  have jl := (List.getElem?_eq_some_iff.mp hj).1
  have hS2 : (S.set j (.lk (bs.map sd))).all (lowC (S.set j (.lk (bs.map sd))).length) = true := by
    rw [List.length_set, List.all_eq_true]
    intro y m
    rcases List.mem_or_eq_of_mem_set m with m | rfl
    · exact List.all_eq_true.mp hS y m
    · exact coFree_low (c := .lk (bs.map sd)) (nc_sds bs)
  have ls2 : (S.set j (.lk (bs.map sd))).length = S.length := List.length_set
  have t4 := te_four hS2 fi
  rw [ls2] at t4
  obtain ⟨fl, ρ', T', e, G, al⟩ := te_loop (n := n) (fi := sd fi) (l := .cel j) bs [] (tn0 fi) (four (S.set j (.lk (bs.map sd)))) S.length (S.length + 1) fi none none (by simp; omega) t4 (fun _ => rfl)
  have h4 : (four S)[j]? = some (.lst (bs.map sd)) := snoc_keep (snoc_keep (snoc_keep (snoc_keep hj)))
  have ls4 : lstOf (four S) (.cel j) = some (bs.map sd) := by simp only [lstOf, h4]
  have it : ((fiAny (fVar 2)) : FI) (E13 n (sd fi) (.cel j) S.length (S.length + 1) (S.length + 2) (S.length + 3) fi fi none none) (four S) = .ok ⟨bs.map sd, some j⟩ (four S) := by
    simp! only [iterOf, ls4, Option.map_some]
  have lp : (fFor (fiAny (fVar 2)) (fgName 9) (fSeq (fIfS (fB (fOp eqD (fCB maxT (fCons (fVar 5) fNil)) (fVar 0))) (fRet (fC .non)) fNext) (fSeq (fAsg (fOp eqD (fVar 4) (fLst (fCons (fC (.int 6)) (fCons (fC (.int 6)) fNil)))) (fgName 10)) (fSeq (fIfS (fB (fVar 10)) (fAsg (fIf (fB (fOp eqD (fOp modD (fOp fdivD (fOp addD (fOp addD (fOp ixD (fVar 3) (fC (.int 0))) (fOp ixD (fVar 3) (fC (.int 1)))) (fC (.int 1))) (fC (.int 2))) (fC (.int 2))) (fC (.int 0)))) (fVar 7) (fOp subD (fC (.int 1)) (fVar 7))) (fgName 6)) fNext) (fSeq (fDrop (fApp (fVar 8) (fVar 6))) (fSeq (fAsg (fOp addD (fOp ixD (fVar 3) (fVar 9)) (fC (.int 1))) (fgSub (fVar 3) (fVar 9))) (fIfS (fAnd (fB (fOp geD (fOp ixD (fVar 3) (fVar 9)) (fIf (fB (fVar 10)) (fC (.int 7)) (fC (.int 4))))) (fB (fOp geD (fOp ixD (fVar 3) (fVar 9)) (fOp addD (fOp ixD (fVar 3) (fOp subD (fC (.int 1)) (fVar 9))) (fC (.int 2)))))) (fSeq (fAsg (fTup (fCons (fLstC (fCons (fC (.int 0)) (fCons (fC (.int 0)) fNil))) (fCons (fOp addD (fOp ixD (fVar 4) (fVar 9)) (fC (.int 1))) fNil))) (fgTup 2 (fgCons (fgName 3) (fgCons (fgSub (fVar 4) (fVar 9)) fgNil)))) (fSeq (fAsg (fOp subD (fC (.int 1)) (fVar 7)) (fgName 7)) (fSeq (fAsg (fVar 7) (fgName 6)) (fIfS (fOr (fB (fOp eqD (fOp ixD (fVar 4) (fVar 9)) (fC (.int 7)))) (fAnd (fB (fOp eqD (fOp ixD (fVar 4) (fVar 9)) (fC (.int 6)))) (fB (fOp leD (fOp ixD (fVar 4) (fOp subD (fC (.int 1)) (fVar 9))) (fC (.int 4)))))) (fAsg (fTup (fCons (fLstC (fCons (fC (.int 0)) (fCons (fC (.int 0)) fNil))) (fCons (fOp addD (fOp ixD (fVar 5) (fVar 9)) (fC (.int 1))) fNil))) (fgTup 2 (fgCons (fgName 4) (fgCons (fgSub (fVar 5) (fVar 9)) fgNil)))) fNext)))) fNext)))))) : FS) (E13 n (sd fi) (.cel j) S.length (S.length + 1) (S.length + 2) (S.length + 3) fi fi none none) (four S) = .ok (fl, ρ') (T'.set j (.lst (bs.map sd))) := by
    unfold fFor
    rw [it]
    simp only [Res.bind_ok]
    unfold withLock
    simp only [h4]
    rw [four_set jl]
    have e : loopD (fgName 9) (fSeq (fIfS (fB (fOp eqD (fCB maxT (fCons (fVar 5) fNil)) (fVar 0))) (fRet (fC .non)) fNext) (fSeq (fAsg (fOp eqD (fVar 4) (fLst (fCons (fC (.int 6)) (fCons (fC (.int 6)) fNil)))) (fgName 10)) (fSeq (fIfS (fB (fVar 10)) (fAsg (fIf (fB (fOp eqD (fOp modD (fOp fdivD (fOp addD (fOp addD (fOp ixD (fVar 3) (fC (.int 0))) (fOp ixD (fVar 3) (fC (.int 1)))) (fC (.int 1))) (fC (.int 2))) (fC (.int 2))) (fC (.int 0)))) (fVar 7) (fOp subD (fC (.int 1)) (fVar 7))) (fgName 6)) fNext) (fSeq (fDrop (fApp (fVar 8) (fVar 6))) (fSeq (fAsg (fOp addD (fOp ixD (fVar 3) (fVar 9)) (fC (.int 1))) (fgSub (fVar 3) (fVar 9))) (fIfS (fAnd (fB (fOp geD (fOp ixD (fVar 3) (fVar 9)) (fIf (fB (fVar 10)) (fC (.int 7)) (fC (.int 4))))) (fB (fOp geD (fOp ixD (fVar 3) (fVar 9)) (fOp addD (fOp ixD (fVar 3) (fOp subD (fC (.int 1)) (fVar 9))) (fC (.int 2)))))) (fSeq (fAsg (fTup (fCons (fLstC (fCons (fC (.int 0)) (fCons (fC (.int 0)) fNil))) (fCons (fOp addD (fOp ixD (fVar 4) (fVar 9)) (fC (.int 1))) fNil))) (fgTup 2 (fgCons (fgName 3) (fgCons (fgSub (fVar 4) (fVar 9)) fgNil)))) (fSeq (fAsg (fOp subD (fC (.int 1)) (fVar 7)) (fgName 7)) (fSeq (fAsg (fVar 7) (fgName 6)) (fIfS (fOr (fB (fOp eqD (fOp ixD (fVar 4) (fVar 9)) (fC (.int 7)))) (fAnd (fB (fOp eqD (fOp ixD (fVar 4) (fVar 9)) (fC (.int 6)))) (fB (fOp leD (fOp ixD (fVar 4) (fOp subD (fC (.int 1)) (fVar 9))) (fC (.int 4)))))) (fAsg (fTup (fCons (fLstC (fCons (fC (.int 0)) (fCons (fC (.int 0)) fNil))) (fCons (fOp addD (fOp ixD (fVar 5) (fVar 9)) (fC (.int 1))) fNil))) (fgTup 2 (fgCons (fgName 4) (fgCons (fgSub (fVar 5) (fVar 9)) fgNil)))) fNext)))) fNext)))))) (bs.map sd) (E13 n (sd fi) (.cel j) S.length (S.length + 1) (S.length + 2) (S.length + 3) fi fi none none) (four (S.set j (.lk (bs.map sd)))) = .ok (fl, ρ') T' := e
    rw [e]
    rfl
  cases er : tnRun n (tn0 fi) bs with
  | none =>
    rw [er] at al
    simp only at al
    subst al
    obtain ⟨low, L, hL⟩ := G
    have z : T'.set j (.lst (bs.map sd)) = S ++ L := by
      rw [hL, List.set_append, if_pos (by rw [List.length_set]; exact jl), List.set_set]
      congr 1
      obtain ⟨w1, w2⟩ := List.getElem?_eq_some_iff.mp hj
      rw [← w2, List.set_getElem_self]
    rw [z] at lp
    refine bodyT_low L (T := S) ?_ rfl hS rfl
    exact bodyD_rt ((fSeq_nx st_four).trans (fSeq_rt lp))
  | some r =>
    rw [er] at al
    obtain ⟨rfl, P', G', k6, f9, f10, rfl, Ee, h6⟩ := al
    rw [List.nil_append] at Ee
    obtain ⟨Eu, L, hL⟩ := Te.unlock hS hj (nc_sds bs) Ee
    obtain ⟨ρ2, e2⟩ := te_fin (fi := sd fi) (l := .cel j) (f9 := f9) (f10 := f10) Eu h6
    have z : (T'.set j (.lst (bs.map sd))).set (S.length + 3) .gone = S ++ L.set 3 .gone := by
      rw [hL, List.set_append, if_neg (by omega), Nat.add_sub_cancel_left]
    rw [z] at e2
    refine bodyT_low (L.set 3 .gone) (T := S) ?_ rfl hS (noCel_low (nc_tnD n r))
    exact bodyD_rt ((fSeq_nx st_four).trans ((fSeq_nx lp).trans e2))
end K07
set_option maxHeartbeats 4000000
namespace K07
open PySem PySem.Spec PyProof.Rows L2 DL Cm
abbrev QR (P : Sto) (x : CO) (L : Sto) (bs : List Bool) : Sto := P ++ x :: (L ++ [.lst (bs.map sd)])
section
variable {P L : Sto}
theorem qr_at {x : CO} {bs : List Bool} : SL (QR P x L bs) (P.length + (L.length + 1)) bs := by simp [SL, QR]
theorem qr_set {x : CO} {bs : List Bool} {c : CO} : (QR P x L bs).set (P.length + (L.length + 1)) c = P ++ x :: (L ++ [c]) := by
  rw [List.set_append, if_neg (by omega), Nat.add_sub_cancel_left, List.set_cons_succ, List.set_append, if_neg (by omega), Nat.sub_self]
  rfl
theorem qr_lo (hL : Lo P L) (bs : List Bool) : Lo P (L ++ [.lst (bs.map sd)]) := hL.snoc (show coFree (.lst (bs.map sd)) = true from nc_sds bs)
theorem tennis_rule {S : Sto} (hS : S.all (lowC S.length) = true) {nn : Int} (h : nn = 2 ∨ nn = 3) : g__law_tennis [.int nn] S = .ok (rD (tnR nn)) S := by
  refine bodyT_okL ?_ hS ?_
  · rcases h with rfl | rfl <;> kernel_rfl
  · rcases h with rfl | rfl <;> kernel_rfl
theorem draw_loop (hL : Lo P L) {nn : Int} {fi : Bool} {lean : Int} (l1 : 1 ≤ lean) (l2 : lean ≤ 5) {r4 : D} : ∀ (ds : List D) (bs : List Bool) (n : Nat) (x : CO) (e6 e7 : Option D), (∀ d ∈ ds, ∃ m : Nat, d = .int (m : Nat) ∧ m ≤ 1000) → Gn n x → bs.length + ds.length ≤ 600 → n + 2 * ds.length ≤ 1000000000 →
    ∃ y bs' k6 k7, loopD (fgName 6) (fSeq (fAsg (fIf (fAnd (fB (fOp gtD (fVar 6) (fC (.int 45)))) (fAnd (fB (fOp ltD (fVar 6) (fC (.int 460)))) (fB (fOp eqD (fOp mulD (fOp fdivD (fVar 6) (fC (.int 8))) (fC (.int 8))) (fVar 6))))) (fCall 3 g__law_tennis_behind (fCons (fVar 1) (fCons (fVar 2) (fCons (fVar 5) fNil)))) (fC .non)) (fgName 7)) (fSeq (fIfS (fAnd (fB (fOp isnotD (fVar 7) (fC .non))) (fB (fOp isnotD (fOp ixD (fVar 7) (fC (.int 0))) (fC .non)))) (fun ρ S => .ok (.bk, ρ) S) fNext) (fDrop (fApp (fVar 5) (fIf (fB (fOp gtD (fCall 2 g__law_random (fCons (fVar 0) (fCons (fC (.int 3)) fNil))) (fC (.int 0)))) (fCB intD (fCons (fOp eqD (fCall 2 g__law_random (fCons (fVar 0) (fCons (fVar 3) fNil))) (fC (.int 0))) fNil)) (fCall 2 g__law_random (fCons (fVar 0) (fCons (fC (.int 2)) fNil)))))))) ds [some (.cel P.length), some (.int nn), some (sd fi), some (.int lean), some r4, some (.cel (P.length + (L.length + 1))), e6, e7, none, none] (QR P x L bs) = .ok (.nx, [some (.cel P.length), some (.int nn), some (sd fi), some (.int lean), some r4, some (.cel (P.length + (L.length + 1))), k6, k7, none, none]) (QR P y L bs') ∧ Gn (n + 2 * ds.length) y ∧ bs'.length ≤ 600
  | [], bs, n, x, e6, e7, _, G, hl, _ => ⟨x, bs, e6, e7, rfl, G, by simpa using hl⟩
  | d :: ds, bs, n, x, e6, e7, hd, G, hl, hn => by
    obtain ⟨m, rfl, hm⟩ := hd d List.mem_cons_self
    rw [List.length_cons] at hl hn
    have low := Gn.low G (qr_lo hL bs)
    have at0 := qr_at (P := P) (L := L) (x := x) (bs := bs)
    have bh := behind_c low nn fi (by omega) at0
    have fd : ∀ T, fdivD (.int (m : Nat)) (.int 8) T = some (.int ((m : Int) / 8)) := fun T => fdivD_int (fdivOk_of (by decide) (by decide))
    have ml : ∀ T, mulD (.int ((m : Int) / 8)) (.int 8) T = some (.int ((m : Int) / 8 * 8)) := fun T => mulD_int (mulOk_r (by decide))
    obtain ⟨cb, hc⟩ : ∃ cb, (fAnd (fB (fOp gtD (fVar 6) (fC (.int 45)))) (fAnd (fB (fOp ltD (fVar 6) (fC (.int 460)))) (fB (fOp eqD (fOp mulD (fOp fdivD (fVar 6) (fC (.int 8))) (fC (.int 8))) (fVar 6)))) : FT) [some (.cel P.length), some (.int nn), some (sd fi), some (.int lean), some r4, some (.cel (P.length + (L.length + 1))), some (.int (m : Nat)), e7, none, none] (QR P x L bs) = .ok cb (QR P x L bs) := by
      by_cases a : (m : Int) > 45
      · by_cases b : (m : Int) < 460
        · exact ⟨_, by simp! only [decide_eq_true a, decide_eq_true b, fd, ml]; rfl⟩
        · exact ⟨false, by simp! only [decide_eq_true a, decide_eq_false b]⟩
      · exact ⟨false, by simp! only [decide_eq_false a]⟩
    have fg : fgName 6 (.int (m : Nat)) [some (.cel P.length), some (.int nn), some (sd fi), some (.int lean), some r4, some (.cel (P.length + (L.length + 1))), e6, e7, none, none] (QR P x L bs) = .ok [some (.cel P.length), some (.int nn), some (sd fi), some (.int lean), some r4, some (.cel (P.length + (L.length + 1))), some (.int (m : Nat)), e7, none, none] (QR P x L bs) := rfl
    obtain ⟨tv, htv, s1⟩ : ∃ tv, (tv = .non ∨ ∃ r, tv = tnD nn r) ∧ (fAsg (fIf (fAnd (fB (fOp gtD (fVar 6) (fC (.int 45)))) (fAnd (fB (fOp ltD (fVar 6) (fC (.int 460)))) (fB (fOp eqD (fOp mulD (fOp fdivD (fVar 6) (fC (.int 8))) (fC (.int 8))) (fVar 6))))) (fCall 3 g__law_tennis_behind (fCons (fVar 1) (fCons (fVar 2) (fCons (fVar 5) fNil)))) (fC .non)) (fgName 7) : FS) [some (.cel P.length), some (.int nn), some (sd fi), some (.int lean), some r4, some (.cel (P.length + (L.length + 1))), some (.int (m : Nat)), e7, none, none] (QR P x L bs) = .ok (.nx, [some (.cel P.length), some (.int nn), some (sd fi), some (.int lean), some r4, some (.cel (P.length + (L.length + 1))), some (.int (m : Nat)), some tv, none, none]) (QR P x L bs) := by
      cases cb
      · refine ⟨.non, .inl rfl, ?_⟩
        rw [fAsg_ap, fIf_ap, hc]
        rfl
      · refine ⟨tnO nn (tnRun nn (tn0 fi) bs), ?_, ?_⟩
        · cases tnRun nn (tn0 fi) bs with
          | none => exact .inl rfl
          | some r => exact .inr ⟨r, rfl⟩
        · rw [fAsg_ap, fIf_ap, hc]
          simp only [Res.bind_ok, if_true]
          simp! only [bh]
    obtain ⟨br, hb⟩ : ∃ br, (fAnd (fB (fOp isnotD (fVar 7) (fC .non))) (fB (fOp isnotD (fOp ixD (fVar 7) (fC (.int 0))) (fC .non))) : FT) [some (.cel P.length), some (.int nn), some (sd fi), some (.int lean), some r4, some (.cel (P.length + (L.length + 1))), some (.int (m : Nat)), some tv, none, none] (QR P x L bs) = .ok br (QR P x L bs) := by
      rcases htv with rfl | ⟨r, rfl⟩
      · exact ⟨false, rfl⟩
      · have z : isnotD (tnD nn r) .non (QR P x L bs) = some (.bl true) := rfl
        have i0 : ixD (tnD nn r) (.int 0) (QR P x L bs) = some (tnW nn r.1) := rfl
        have z2 : isnotD (tnW nn r.1) .non (QR P x L bs) = some (.bl (!DL.isNon (tnW nn r.1))) := rfl
        exact ⟨!DL.isNon (tnW nn r.1), by simp! only [z, i0, z2]⟩
    cases br
    · -- one more
      have lo := qr_lo hL bs
      obtain ⟨x1, v1, r1, G1, _, _⟩ := random_ok G (by omega) lo (bd := 3) (by decide) (by decide)
      obtain ⟨x2, t, r2, G2⟩ : ∃ x2 t, (fIf (fB (fOp gtD (fCall 2 Cm.g__law_random (fCons (fVar 0) (fCons (fC (.int 3)) fNil))) (fC (.int 0)))) (fCB intD (fCons (fOp eqD (fCall 2 Cm.g__law_random (fCons (fVar 0) (fCons (fVar 3) fNil))) (fC (.int 0))) fNil)) (fCall 2 Cm.g__law_random (fCons (fVar 0) (fCons (fC (.int 2)) fNil))) : FE) [some (.cel P.length), some (.int nn), some (sd fi), some (.int lean), some r4, some (.cel (P.length + (L.length + 1))), some (.int (m : Nat)), some tv, none, none] (QR P x L bs) = .ok (sd t) (QR P x2 L bs) ∧ Gn (n + 2) x2 := by
        by_cases a : v1 > 0
        · obtain ⟨x2, v2, r2, G2, _, _⟩ := random_ok G1 (by omega) lo (bd := lean) (by omega) (by omega)
          have iv : intD [.bl (decide (v2 = 0))] (QR P x2 L bs) = some (sd (decide (v2 = 0))) := by cases decide (v2 = 0) <;> rfl
          exact ⟨x2, decide (v2 = 0), by simp! only [r1, decide_eq_true a, r2, iv], G2⟩
        · obtain ⟨x2, v2, r2, G2, a0, a1⟩ := random_ok G1 (by omega) lo (bd := 2) (by decide) (by decide)
          obtain ⟨t, ht⟩ : ∃ t : Bool, D.int v2 = sd t := by
            have : v2 = 0 ∨ v2 = 1 := by omega
            rcases this with rfl | rfl
            · exact ⟨false, rfl⟩
            · exact ⟨true, rfl⟩
          rw [ht] at r2
          exact ⟨x2, t, by simp! only [r1, decide_eq_false a, r2], G2⟩
      have at2 := qr_at (P := P) (L := L) (x := x2) (bs := bs)
      have ap := at2.app (by omega) t
      rw [qr_set] at ap
      have ls0 := at0.ls
      obtain ⟨y, bs', k6, k7, e, Gy, lb⟩ := draw_loop hL (nn := nn) (fi := fi) l1 l2 (r4 := r4) ds (bs ++ [t]) (n + 2) x2 (some (.int (m : Nat))) (some tv) (fun z hz => hd z (List.mem_cons_of_mem _ hz)) G2 (by simp; omega) (by omega)
      refine ⟨y, bs', k6, k7, ?_, by rw [List.length_cons]; exact Gy.up (by omega), lb⟩
      unfold loopD
      rw [fg]
      simp only [Res.bind_ok]
      have bd : (fSeq (fAsg (fIf (fAnd (fB (fOp gtD (fVar 6) (fC (.int 45)))) (fAnd (fB (fOp ltD (fVar 6) (fC (.int 460)))) (fB (fOp eqD (fOp mulD (fOp fdivD (fVar 6) (fC (.int 8))) (fC (.int 8))) (fVar 6))))) (fCall 3 g__law_tennis_behind (fCons (fVar 1) (fCons (fVar 2) (fCons (fVar 5) fNil)))) (fC .non)) (fgName 7)) (fSeq (fIfS (fAnd (fB (fOp isnotD (fVar 7) (fC .non))) (fB (fOp isnotD (fOp ixD (fVar 7) (fC (.int 0))) (fC .non)))) (fun ρ S => .ok (.bk, ρ) S) fNext) (fDrop (fApp (fVar 5) (fIf (fB (fOp gtD (fCall 2 g__law_random (fCons (fVar 0) (fCons (fC (.int 3)) fNil))) (fC (.int 0)))) (fCB intD (fCons (fOp eqD (fCall 2 g__law_random (fCons (fVar 0) (fCons (fVar 3) fNil))) (fC (.int 0))) fNil)) (fCall 2 g__law_random (fCons (fVar 0) (fCons (fC (.int 2)) fNil)))))))) [some (.cel P.length), some (.int nn), some (sd fi), some (.int lean), some r4, some (.cel (P.length + (L.length + 1))), some (.int (m : Nat)), e7, none, none] (QR P x L bs) = .ok (.nx, [some (.cel P.length), some (.int nn), some (sd fi), some (.int lean), some r4, some (.cel (P.length + (L.length + 1))), some (.int (m : Nat)), some tv, none, none]) (QR P x2 L (bs ++ [t])) := by
        refine (fSeq_nx s1).trans ((fSeq_nx (ρ1 := [some (.cel P.length), some (.int nn), some (sd fi), some (.int lean), some r4, some (.cel (P.length + (L.length + 1))), some (.int (m : Nat)), some tv, none, none]) (S1 := QR P x L bs) ?_).trans ?_)
        · rw [fIfS_ap, hb]
          rfl
        · rw [fDrop_ap, fApp_ap, fVar_ap]
          simp only [List.getElem?_cons_succ, List.getElem?_cons_zero, Res.bind_ok, ls0, r2, ap]
      rw [bd]
      exact e
    · refine ⟨x, bs, some (.int (m : Nat)), some tv, ?_, G.up (by omega), by omega⟩
      unfold loopD
      rw [fg]
      simp only [Res.bind_ok]
      have bd : (fSeq (fAsg (fIf (fAnd (fB (fOp gtD (fVar 6) (fC (.int 45)))) (fAnd (fB (fOp ltD (fVar 6) (fC (.int 460)))) (fB (fOp eqD (fOp mulD (fOp fdivD (fVar 6) (fC (.int 8))) (fC (.int 8))) (fVar 6))))) (fCall 3 g__law_tennis_behind (fCons (fVar 1) (fCons (fVar 2) (fCons (fVar 5) fNil)))) (fC .non)) (fgName 7)) (fSeq (fIfS (fAnd (fB (fOp isnotD (fVar 7) (fC .non))) (fB (fOp isnotD (fOp ixD (fVar 7) (fC (.int 0))) (fC .non)))) (fun ρ S => .ok (.bk, ρ) S) fNext) (fDrop (fApp (fVar 5) (fIf (fB (fOp gtD (fCall 2 g__law_random (fCons (fVar 0) (fCons (fC (.int 3)) fNil))) (fC (.int 0)))) (fCB intD (fCons (fOp eqD (fCall 2 g__law_random (fCons (fVar 0) (fCons (fVar 3) fNil))) (fC (.int 0))) fNil)) (fCall 2 g__law_random (fCons (fVar 0) (fCons (fC (.int 2)) fNil)))))))) [some (.cel P.length), some (.int nn), some (sd fi), some (.int lean), some r4, some (.cel (P.length + (L.length + 1))), some (.int (m : Nat)), e7, none, none] (QR P x L bs) = .ok (.bk, [some (.cel P.length), some (.int nn), some (sd fi), some (.int lean), some r4, some (.cel (P.length + (L.length + 1))), some (.int (m : Nat)), some tv, none, none]) (QR P x L bs) := by
        refine (fSeq_nx s1).trans ?_
        show (fIfS _ _ _ _ _ : Res (Fl × DL.Env)).bind _ = _
        rw [fIfS_ap, hb]
        rfl
      rw [bd]
      rfl
end
end K07
set_option maxHeartbeats 4000000
namespace K07
open PySem PySem.Spec PyProof.Rows L2 DL Cm
theorem same_two {T : Sto} (hT : T.all (lowC T.length) = true) {a : D} (ha : scalar a = true) {ps : List (Int × Int)} (hp : ps.length ≤ 900) : Cm.g__law_same 16 [.lst [a, .cel T.length], .lst [a, .lst (ps.map scD)]] (T ++ [.lst (ps.map scD)]) = .ok (.bl true) (T ++ [.lst (ps.map scD)]) := by
  refine same_ok (low_snoc hT (nc_scs ps)) 4 16 (by decide) ?_
  refine .inr (.inr ⟨[a, .cel T.length], [a, .lst (ps.map scD)], rfl, rfl, rfl, by simp, fun i u v hu hv => ?_⟩)
  match i, hu, hv with
  | 0, hu, hv => cases hu; cases hv; exact SM.scal ha
  | 1, hu, hv =>
    cases hu; cases hv
    refine .inr (.inr ⟨ps.map scD, ps.map scD, by simp [lstOf], rfl, rfl, by rw [List.length_map]; omega, fun j u v hu hv => ?_⟩)
    rw [hu] at hv
    cases hv
    obtain ⟨p, _, rfl⟩ := List.mem_map.mp (List.mem_of_getElem? hu)
    exact SM.sc p
theorem sl_cel {T : Sto} {j : Nat} {bs : List Bool} (h : lstOf T (.cel j) = some (bs.map sd)) {m : Nat} (hm : m ≤ bs.length) : slD (.cel j) none (some (m : Nat)) T = some (brD (bs.take m)) := by
  rw [← sl_take T hm]
  have e : slD (.cel j) none (some (m : Nat)) T = (lstOf T (.cel j)).map fun xs => D.lst (DL.cutD xs none (some (m : Nat))) := rfl
  rw [e, h]
  rfl
theorem te_check {B T : Sto} {j : Nat} {nn : Int} (h23 : nn = 2 ∨ nn = 3) {fi : Bool} {bs : List Bool} (hj : SL B j bs) (hl : bs.length ≤ 600) (G : Gs B T) {m : Nat} (hm : m ≤ bs.length) {e0 e3 e6 e7 e9 : Option D} :
    ∃ T' k9, (fSeq (fAsg (fCall 3 g__law_tennis_behind (fCons (fVar 1) (fCons (fVar 2) (fCons (fSl (fVar 5) fNoPart (fPart (fVar 8))) fNil)))) (fgName 9)) (fIfS (fB (fOp isnotD (fVar 9) (fC .non))) (fSeq (fIfS (fNot (fB (fCall 2 (g__law_same 16) (fCons (fLst (fCons (fCall 3 g_winner_after (fCons (fVar 4) (fCons (fVar 2) (fCons (fSl (fVar 5) fNoPart (fPart (fVar 8))) fNil)))) (fCons (fCall 3 g_scores_after (fCons (fVar 4) (fCons (fVar 2) (fCons (fSl (fVar 5) fNoPart (fPart (fVar 8))) fNil)))) fNil))) (fCons (fLst (fCons (fOp ixD (fVar 9) (fC (.int 0))) (fCons (fOp ixD (fVar 9) (fC (.int 2))) fNil))) fNil))))) (fRet (fC (.bl false))) fNext) (fSeq (fIfS (fAnd (fB (fOp isD (fOp ixD (fVar 9) (fC (.int 0))) (fC .non))) (fNot (fB (fCall 2 (g__law_same 16) (fCons (fCall 3 g_server_after (fCons (fVar 4) (fCons (fVar 2) (fCons (fSl (fVar 5) fNoPart (fPart (fVar 8))) fNil)))) (fCons (fOp ixD (fVar 9) (fC (.int 1))) fNil)))))) (fRet (fC (.bl false))) fNext) (fIfS (fNot (fB (fCall 2 (g__law_same 16) (fCons (fCall 3 g_servers_of (fCons (fVar 4) (fCons (fVar 2) (fCons (fSl (fVar 5) fNoPart (fPart (fVar 8))) fNil)))) (fCons (fOp ixD (fVar 9) (fC (.int 3))) fNil))))) (fRet (fC (.bl false))) fNext))) fNext)) [e0, some (.int nn), some (sd fi), e3, some (rD (tnR nn)), some (.cel j), e6, e7, some (.int (m : Nat)), e9] T = .ok (.nx, [e0, some (.int nn), some (sd fi), e3, some (rD (tnR nn)), some (.cel j), e6, e7, some (.int (m : Nat)), k9]) T' ∧ Gs B T' := by
  have sl := fun (T : Sto) (G : Gs B T) => sl_cel (T := T) (j := j) (m := m) (SL.ls (show SL T j bs from G.at hj)) hm
  have lm : (bs.take m).length ≤ 600 := by rw [List.length_take]; omega
  generalize bs.take m = pre at *
  have sl0 := sl T G
  have tb := behind_d G.low nn fi (bs := pre) (by omega)
  cases er : tnRun nn (tn0 fi) pre with
  | none =>
    rw [er] at tb
    have tb : g__law_tennis_behind [.int nn, sd fi, brD pre] T = .ok .non T := tb
    have z : isnotD .non .non T = some (.bl false) := rfl
    refine ⟨T, some .non, ?_, G⟩
    simp! only [sl0, tb, z]
  | some r =>
    obtain ⟨c, sv⟩ := r
    rw [er] at tb
    have tb : g__law_tennis_behind [.int nn, sd fi, brD pre] T = .ok (tnD nn (c, sv)) T := tb
    have R4n := tnR4 h23
    obtain ⟨tr, lsv, alt⟩ := tn_run pre (tn0 fi) (PL.begun 4 (tnR nn) fi) c sv (inv0 (by omega) fi) (rel0 nn fi) er
    have z : isnotD (tnD nn (c, sv)) .non T = some (.bl true) := rfl
    have i0 : ∀ T, ixD (tnD nn (c, sv)) (.int 0) T = some (tnW nn c) := fun _ => rfl
    have i1 : ∀ T, ixD (tnD nn (c, sv)) (.int 1) T = some (sd c.sv) := fun _ => rfl
    have i2 : ∀ T, ixD (tnD nn (c, sv)) (.int 2) T = some (.lst ((tnSc nn c).map scD)) := fun _ => rfl
    have i3 : ∀ T, ixD (tnD nn (c, sv)) (.int 3) T = some (.lst (sv.map sd)) := fun _ => rfl
    have swv : scalar (tnW nn c) = true := by unfold tnW; split; rfl; split <;> rfl
    obtain ⟨wi, sc, se⟩ : (∀ T : Sto, T.all (lowC T.length) = true → Cm.g_winner_after [rD (tnR nn), sd fi, brD pre] T = .ok (tnW nn c) T) ∧ (∀ T : Sto, T.all (lowC T.length) = true → Cm.g_scores_after [rD (tnR nn), sd fi, brD pre] T = .ok (.cel T.length) (T ++ [.lst ((tnSc nn c).map scD)])) ∧ (tnW nn c = .non → ∀ T : Sto, T.all (lowC T.length) = true → Cm.g_server_after [rD (tnR nn), sd fi, brD pre] T = .ok (sd c.sv) T) := by
      rcases alt with ⟨m1, I, s', r1, R⟩ | ⟨m1, x, hh, pr, b', r1, ls, wx⟩
      · have w1 : ¬ c.w = nn := by have := I.wn; omega
        have w2 : ¬ c.v = nn := by have := I.vn; omega
        have eW : tnW nn c = .non := by unfold tnW; rw [if_neg w1, if_neg w2]
        have eS : tnSc nn c = [(c.w, c.v), (c.g, c.h), (c.p, c.q)] := by unfold tnSc; rw [if_neg (by simp [w1, w2])]
        rw [eW, eS]
        refine ⟨fun T h => wi_on h R4n fi (by omega) r1, fun T h => ?_, fun _ T h => ?_⟩
        · have := sc_on h R4n fi (by omega) r1
          rw [R.sc] at this
          exact this
        · have := sv_on h R4n fi (by omega) r1
          rw [R.sv] at this
          exact this
      · have eW : tnW nn c = sd x := by
          cases x
          · simp only [Bool.false_eq_true, if_false] at wx
            unfold tnW
            rw [if_pos wx.1]
            rfl
          · simp only [if_true] at wx
            unfold tnW
            rw [if_neg (by omega), if_pos wx.1]
            rfl
        have eS : tnSc nn c = [(c.w, c.v)] := by
          unfold tnSc
          rw [if_pos]
          cases x
          · simp only [Bool.false_eq_true, if_false] at wx
            exact .inl wx.1
          · simp only [if_true] at wx
            exact .inr wx.1
        rw [eW, eS]
        refine ⟨fun T h => wi_over h R4n fi (by omega) r1 rfl, fun T h => ?_, fun z => ?_⟩
        · have e := scores_after_ok h R4n fi (bs := pre) (by omega)
          rw [r1] at e
          simp only [if_neg (show ¬ pre.length < pre.length by omega)] at e
          have : scoresR (tnR nn) (.over x hh pre.length pr b') = [(c.w, c.v)] := by
            show (PL.lastScore 4 (tnR nn) pr b').toList = _
            rw [ls]
            rfl
          rw [this] at e
          exact e
        · cases x <;> cases z
    have hk : ∀ w h k p b, PL.run 4 (tnR nn) (PL.begun 4 (tnR nn) fi) pre = .over w h k p b → k = pre.length := by
      rcases alt with ⟨_, _, s', r1, _⟩ | ⟨_, x, h, pr, b', r1, _⟩
      · intro w h k p b e; rw [r1] at e; cases e
      · intro w h k p b e; rw [r1] at e; cases e; rfl
    have so := fun (T : Sto) (h : T.all (lowC T.length) = true) => servers_of_ok h R4n fi (bs := pre) (by omega) hk
    have tm : ((PL.trace 4 (tnR nn) (PL.begun 4 (tnR nn) fi) pre).map fun p => sd p.1) = sv.map sd := by
      rw [← tr, List.map_map]
      rfl
    rw [tm] at so
    have w0 := wi T G.low
    have sc0 := sc T G.low
    have sm0 := same_two G.low swv (ps := tnSc nn c) (by unfold tnSc; split <;> simp)
    have G1 := G.snoc (nc_scs (tnSc nn c))
    generalize hT1 : T ++ [CO.lst ((tnSc nn c).map scD)] = T1 at *
    have sl1 := sl T1 G1
    have so1 := so T1 G1.low
    have G2 := G1.snoc (nc_sds sv)
    have ls2 : lstOf (T1 ++ [.lst (sv.map sd)]) (.cel T1.length) = some (sv.map sd) := by simp [lstOf]
    have sm2 := same_cel G2.low ls2 (by rw [List.length_map]; omega) (fun d hd => by
      obtain ⟨b, _, rfl⟩ := List.mem_map.mp hd
      exact SM.scal (by cases b <;> rfl))
    generalize hT2 : T1 ++ [CO.lst (sv.map sd)] = T2 at *
    refine ⟨T2, some (tnD nn (c, sv)), ?_, G2⟩
    generalize hD : tnD nn (c, sv) = dd at *
    refine (fSeq_nx (ρ1 := [e0, some (.int nn), some (sd fi), e3, some (rD (tnR nn)), some (.cel j), e6, e7, some (.int (m : Nat)), some dd]) (S1 := T) (by simp! only [sl0, tb])).trans ?_
    have hz : (fB (fOp isnotD (fVar 9) (fC .non)) : FT) [e0, some (.int nn), some (sd fi), e3, some (rD (tnR nn)), some (.cel j), e6, e7, some (.int (m : Nat)), some dd] T = .ok true T := by simp! only [z]
    rw [fIfS_ap, hz]
    simp only [Res.bind_ok, if_true]
    refine (fSeq_nx (ρ1 := [e0, some (.int nn), some (sd fi), e3, some (rD (tnR nn)), some (.cel j), e6, e7, some (.int (m : Nat)), some dd]) (S1 := T1) (by simp! only [sl0, w0, sc0, i0, i2, sm0])).trans ?_
    refine (fSeq_nx (ρ1 := [e0, some (.int nn), some (sd fi), e3, some (rD (tnR nn)), some (.cel j), e6, e7, some (.int (m : Nat)), some dd]) (S1 := T1) ?_).trans ?_
    · have iz : isD (tnW nn c) .non T1 = some (.bl (DL.isNon (tnW nn c))) := by unfold tnW; split; rfl; split <;> rfl
      cases hq : DL.isNon (tnW nn c)
      · rw [hq] at iz
        simp! only [i0, iz]
      · rw [hq] at iz
        have eN : tnW nn c = .non := by
          revert hq
          unfold tnW
          split
          · intro h; cases h
          · split
            · intro h; cases h
            · intro _; rfl
        have se1 := se eN T1 G1.low
        have sd1 := same_sd G1.low c.sv
        simp! only [i0, iz, sl1, se1, i1, sd1]
    · simp! only [sl1, so1, i3, sm2]
theorem check_loop {B : Sto} {j : Nat} {nn : Int} (h23 : nn = 2 ∨ nn = 3) {fi : Bool} {bs : List Bool} (hj : SL B j bs) (hl : bs.length ≤ 600) {e0 e3 e6 e7 : Option D} : ∀ (ds : List D) (T : Sto) (e8 e9 : Option D), (∀ d ∈ ds, ∃ m : Nat, d = .int (m : Nat) ∧ m ≤ bs.length) → Gs B T →
    ∃ T' k8 k9, loopD (fgName 8) (fSeq (fAsg (fCall 3 g__law_tennis_behind (fCons (fVar 1) (fCons (fVar 2) (fCons (fSl (fVar 5) fNoPart (fPart (fVar 8))) fNil)))) (fgName 9)) (fIfS (fB (fOp isnotD (fVar 9) (fC .non))) (fSeq (fIfS (fNot (fB (fCall 2 (g__law_same 16) (fCons (fLst (fCons (fCall 3 g_winner_after (fCons (fVar 4) (fCons (fVar 2) (fCons (fSl (fVar 5) fNoPart (fPart (fVar 8))) fNil)))) (fCons (fCall 3 g_scores_after (fCons (fVar 4) (fCons (fVar 2) (fCons (fSl (fVar 5) fNoPart (fPart (fVar 8))) fNil)))) fNil))) (fCons (fLst (fCons (fOp ixD (fVar 9) (fC (.int 0))) (fCons (fOp ixD (fVar 9) (fC (.int 2))) fNil))) fNil))))) (fRet (fC (.bl false))) fNext) (fSeq (fIfS (fAnd (fB (fOp isD (fOp ixD (fVar 9) (fC (.int 0))) (fC .non))) (fNot (fB (fCall 2 (g__law_same 16) (fCons (fCall 3 g_server_after (fCons (fVar 4) (fCons (fVar 2) (fCons (fSl (fVar 5) fNoPart (fPart (fVar 8))) fNil)))) (fCons (fOp ixD (fVar 9) (fC (.int 1))) fNil)))))) (fRet (fC (.bl false))) fNext) (fIfS (fNot (fB (fCall 2 (g__law_same 16) (fCons (fCall 3 g_servers_of (fCons (fVar 4) (fCons (fVar 2) (fCons (fSl (fVar 5) fNoPart (fPart (fVar 8))) fNil)))) (fCons (fOp ixD (fVar 9) (fC (.int 3))) fNil))))) (fRet (fC (.bl false))) fNext))) fNext)) ds [e0, some (.int nn), some (sd fi), e3, some (rD (tnR nn)), some (.cel j), e6, e7, e8, e9] T = .ok (.nx, [e0, some (.int nn), some (sd fi), e3, some (rD (tnR nn)), some (.cel j), e6, e7, k8, k9]) T' ∧ Gs B T'
  | [], T, e8, e9, _, G => ⟨T, e8, e9, rfl, G⟩
  | d :: ds, T, e8, e9, h, G => by
    obtain ⟨m, rfl, hm⟩ := h d List.mem_cons_self
    obtain ⟨T1, k9, e1, G1⟩ := te_check (fi := fi) (e0 := e0) (e3 := e3) (e6 := e6) (e7 := e7) (e9 := e9) h23 hj hl G hm
    obtain ⟨T2, j8, j9, e2, G2⟩ := check_loop (fi := fi) (e0 := e0) (e3 := e3) (e6 := e6) (e7 := e7) h23 hj hl ds T1 (some (.int (m : Nat))) k9 (fun x hx => h x (List.mem_cons_of_mem _ hx)) G1
    refine ⟨T2, j8, j9, ?_, G2⟩
    unfold loopD
    have g1 : fgName 8 (.int (m : Nat)) [e0, some (.int nn), some (sd fi), e3, some (rD (tnR nn)), some (.cel j), e6, e7, e8, e9] T = .ok [e0, some (.int nn), some (sd fi), e3, some (rD (tnR nn)), some (.cel j), e6, e7, some (.int (m : Nat)), e9] T := rfl
    rw [g1]
    simp only [Res.bind_ok]
    rw [e1]
    exact e2
end K07
set_option maxHeartbeats 4000000
namespace K07
open PySem PySem.Spec PyProof.Rows L2 DL Cm
section
variable {P L : Sto}
theorem comp5 (hL : Lo P L) {bs : List Bool} (hb : bs.length ≤ 600) {f1 f2 f3 f4 f6 f7 f8 f9 : Option D} : ∀ (ds : List D) {n : Nat} {x : CO}, Gn n x → n + ds.length ≤ 1000000000 →
    ∃ (y : CO) (ms : List Int), compD (fgName 6) fYes (fCall 2 Cm.g__law_random (fCons (fVar 0) (fCons (fOp addD (fCB lenD (fCons (fVar 5) fNil)) (fC (.int 1))) fNil))) ds [some (.cel P.length), f1, f2, f3, f4, some (.cel (P.length + (L.length + 1))), f6, f7, f8, f9] (QR P x L bs) = .ok (ms.map D.int) (QR P y L bs) ∧ Gn (n + ds.length) y ∧ ∀ i ∈ ms, 0 ≤ i ∧ i ≤ (bs.length : Nat)
  | [], n, x, G, _ => ⟨x, [], rfl, G, fun _ h => nomatch h⟩
  | d :: ds, n, x, G, hn => by
    rw [List.length_cons] at hn
    have lo := qr_lo hL bs
    obtain ⟨x1, v, r1, G1, a0, a1⟩ := random_ok G (by omega) lo (bd := (bs.length : Nat) + 1) (by omega) (by omega)
    have ls : lstOf (QR P x L bs) (.cel (P.length + (L.length + 1))) = some (bs.map sd) := SL.ls qr_at
    have ll : lenD [.cel (P.length + (L.length + 1))] (QR P x L bs) = some (.int (bs.length : Nat)) := by
      have e : lenD [.cel (P.length + (L.length + 1))] (QR P x L bs) = (lstOf (QR P x L bs) (.cel (P.length + (L.length + 1)))).map fun xs => D.int (xs.length : Nat) := rfl
      rw [e, ls]
      simp
    obtain ⟨y, ms, e, G2, hm⟩ := comp5 hL hb (f1 := f1) (f2 := f2) (f3 := f3) (f4 := f4) (f6 := f6) (f7 := f7) (f8 := f8) (f9 := f9) ds G1 (by omega)
    refine ⟨y, v :: ms, ?_, by rw [List.length_cons]; exact G2.up (by omega), fun i h => ?_⟩
    · unfold compD
      have g1 : fgName 6 d [some (.cel P.length), f1, f2, f3, f4, some (.cel (P.length + (L.length + 1))), f6, f7, f8, f9] (QR P x L bs) = .ok [some (.cel P.length), f1, f2, f3, f4, some (.cel (P.length + (L.length + 1))), some d, f7, f8, f9] (QR P x L bs) := rfl
      have e1 : (fCall 2 Cm.g__law_random (fCons (fVar 0) (fCons (fOp addD (fCB lenD (fCons (fVar 5) fNil)) (fC (.int 1))) fNil)) : FE) [some (.cel P.length), f1, f2, f3, f4, some (.cel (P.length + (L.length + 1))), some d, f7, f8, f9] (QR P x L bs) = .ok (.int v) (QR P x1 L bs) := by
        simp! only [ll, r1]
      rw [g1]
      simp only [Res.bind_ok, fYes_ap, if_true]
      rw [e1]
      simp only [Res.bind_ok]
      rw [e]
      rfl
    · rcases List.mem_cons.mp h with rfl | h
      · omega
      · exact hm i h
theorem add_lsts {a b : List D} {S : Sto} (h : a.length + b.length ≤ 100000) : addD (.lst a) (.lst b) S = some (.lst (a ++ b)) := by
  show (if a.length + b.length ≤ capN then some (D.lst (a ++ b)) else none) = _
  rw [if_pos (Nat.le_of_lt (capN_of (by omega)))]
theorem rng600 : ∀ d ∈ rangeD 0 600, ∃ m : Nat, d = .int (m : Nat) ∧ m ≤ 1000 := by
  intro d hd
  unfold rangeD at hd
  obtain ⟨i, hi, rfl⟩ := List.mem_map.mp hd
  have hi := List.mem_range.mp hi
  exact ⟨i, by rw [Int.zero_add], by omega⟩
theorem intsOf_map' : ∀ ms : List Int, intsOf (ms.map D.int) = some ms
  | [] => rfl
  | m :: ms => by
    show (intsOf (ms.map D.int)).map _ = _
    rw [intsOf_map' ms]
    rfl
theorem tennis_ok (hL : Lo P L) {n : Nat} {x : CO} (G : Gn n x) (hn : n + 3000 ≤ 1000000000) : ∃ y, g__law_tennis_right [.cel P.length] (P ++ x :: L) = .ok (.bl true) (P ++ y :: L) ∧ Gn (n + 3000) y := by
  obtain ⟨x1, v, r1, G1, v0, v2⟩ := random_ok G (by omega) hL (bd := 2) (by decide) (by decide)
  obtain ⟨x2, u, r2, G2, u0, u2⟩ := random_ok G1 (by omega) hL (bd := 2) (by decide) (by decide)
  obtain ⟨fi, hfi⟩ : ∃ fi : Bool, D.int u = sd fi := by
    have : u = 0 ∨ u = 1 := by omega
    rcases this with rfl | rfl
    · exact ⟨false, rfl⟩
    · exact ⟨true, rfl⟩
  rw [hfi] at r2
  obtain ⟨x3, q, r3, G3, mq⟩ := pick_ok G2 (by omega) hL (xs := [.int 2, .int 2, .int 3, .int 5]) (by decide) (by decide) rfl
  obtain ⟨lean, rfl, l1, l2⟩ : ∃ j : Int, q = .int j ∧ 1 ≤ j ∧ j ≤ 5 := by
    simp only [List.mem_cons, List.not_mem_nil, or_false] at mq
    rcases mq with rfl | rfl | rfl | rfl <;> exact ⟨_, rfl, by decide, by decide⟩
  obtain ⟨nn, hnn⟩ : ∃ nn : Int, 2 + v = nn := ⟨_, rfl⟩
  have h23 : nn = 2 ∨ nn = 3 := by omega
  have low3 := Gn.low G3 hL
  have tr := tennis_rule low3 h23
  obtain ⟨x4, bs, k6, k7, e4, G4, lb⟩ := draw_loop hL (nn := nn) (fi := fi) l1 l2 (r4 := rD (tnR nn)) (rangeD 0 600) [] _ x3 none none rng600 G3 (by rw [rangeD_len]; decide) (by rw [rangeD_len]; omega)
  rw [rangeD_len] at G4
  obtain ⟨x5, ms, e5, G5, hms⟩ := comp5 hL lb (f1 := some (.int nn)) (f2 := some (sd fi)) (f3 := some (.int lean)) (f4 := some (rD (tnR nn))) (f6 := none) (f7 := k7) (f8 := none) (f9 := none) (rangeD 0 5) G4 (by rw [rangeD_len]; omega)
  rw [rangeD_len] at G5
  have low5 := Gn.low G5 (qr_lo hL bs)
  have at5 := qr_at (P := P) (L := L) (x := x5) (bs := bs)
  have mem : ∀ d ∈ (sortI ms).map D.int ++ [.int 0, .int (bs.length : Nat)], ∃ m : Nat, d = .int (m : Nat) ∧ m ≤ bs.length := by
    intro d hd
    rcases List.mem_append.mp hd with hd | hd
    · obtain ⟨i, hi, rfl⟩ := List.mem_map.mp hd
      have := hms i ((sortI_perm ms).mem_iff.mp hi)
      exact ⟨i.toNat, by congr 1; omega, by omega⟩
    · simp only [List.mem_cons, List.not_mem_nil, or_false] at hd
      rcases hd with rfl | rfl
      · exact ⟨0, rfl, by omega⟩
      · exact ⟨bs.length, rfl, Nat.le_refl _⟩
  obtain ⟨T', k8, k9, e6, G6⟩ := check_loop (B := QR P x5 L bs) (j := P.length + (L.length + 1)) (nn := nn) h23 (fi := fi) at5 lb (e0 := some (.cel P.length)) (e3 := some (.int lean)) (e6 := k6) (e7 := k7) _ (QR P x5 L bs) none none mem (Gs.self low5)
  obtain ⟨low6, E, hE⟩ := G6
  refine ⟨x5, ?_, G5.up (by omega)⟩
  have app : QR P x5 L bs ++ E = P ++ x5 :: (L ++ (CO.lst (bs.map sd) :: E)) := by simp [QR]
  refine bodyT_lo (E := CO.lst (bs.map sd) :: E) (G5.up (m := n + 3000) (by omega)) hL rfl (Eq.trans ?_ (congrArg _ (hE.trans app)))
  have s0 : ((fPar3 1 2 3 (fCons (fOp addD (fC (.int 2)) (fCall 2 g__law_random (fCons (fVar 0) (fCons (fC (.int 2)) fNil)))) (fCons (fCall 2 g__law_random (fCons (fVar 0) (fCons (fC (.int 2)) fNil))) (fCons (fCall 2 g__law_pick (fCons (fVar 0) (fCons (fLst (fCons (fC (.int 2)) (fCons (fC (.int 2)) (fCons (fC (.int 3)) (fCons (fC (.int 5)) fNil))))) fNil))) fNil)))) : FS) [some (.cel P.length), none, none, none, none, none, none, none, none, none] (P ++ x :: L) = .ok (.nx, [some (.cel P.length), some (.int nn), some (sd fi), some (.int lean), none, none, none, none, none, none]) (P ++ x3 :: L) := by
    simp! only [r1, hnn, r2, r3]
  have lq : (P ++ x3 :: L).length = P.length + (L.length + 1) := by simp
  have aq : (P ++ x3 :: L) ++ [CO.lst []] = QR P x3 L [] := by simp [QR]
  have s1 : ((fAsg (fTup (fCons (fCall 1 g__law_tennis (fCons (fVar 1) fNil)) (fCons (fLstC fNil) fNil))) (fgTup 2 (fgCons (fgName 4) (fgCons (fgName 5) fgNil)))) : FS) [some (.cel P.length), some (.int nn), some (sd fi), some (.int lean), none, none, none, none, none, none] (P ++ x3 :: L) = .ok (.nx, [some (.cel P.length), some (.int nn), some (sd fi), some (.int lean), some (rD (tnR nn)), some (.cel (P.length + (L.length + 1))), none, none, none, none]) (QR P x3 L []) := by
    simp! only [tr, lq, aq]
  have it1 : ((fiRng1 (fCons (fC (.int 600)) fNil)) : FI) [some (.cel P.length), some (.int nn), some (sd fi), some (.int lean), some (rD (tnR nn)), some (.cel (P.length + (L.length + 1))), none, none, none, none] (QR P x3 L []) = .ok ⟨rangeD 0 600, none⟩ (QR P x3 L []) := fiRng1_ok (by rfl) (smallI_nat (n := 600) (by decide))
  have it5 : (fiRng1 (fCons (fC (.int 5)) fNil) : FI) [some (.cel P.length), some (.int nn), some (sd fi), some (.int lean), some (rD (tnR nn)), some (.cel (P.length + (L.length + 1))), k6, k7, none, none] (QR P x4 L bs) = .ok ⟨rangeD 0 5, none⟩ (QR P x4 L bs) := fiRng1_ok (by rfl) (smallI_nat (n := 5) (by decide))
  have lc := fLc_st (vs := [6]) (g := fgName 6) (c := fYes) (ρ := [some (.cel P.length), some (.int nn), some (sd fi), some (.int lean), some (rD (tnR nn)), some (.cel (P.length + (L.length + 1))), k6, k7, none, none]) it5 (capN_of (by rw [rangeD_len]; decide)) e5
  have so : ∀ T, sortedD [.lst (ms.map D.int)] T = some (.lst ((sortI ms).map .int)) := fun T => by
    have e : sortedD [.lst (ms.map D.int)] T = match intsOf (ms.map D.int) with
      | some ns => some (.lst ((sortI ns).map .int))
      | none => if (ms.map D.int).all (keyedOk T) && decide (((ms.map D.int).map keyD).Nodup) then some (.lst (sortBy keyD (ms.map D.int))) else none := rfl
    rw [e, intsOf_map']
  have ll : lenD [.cel (P.length + (L.length + 1))] (QR P x5 L bs) = some (.int (bs.length : Nat)) := by
    have e : lenD [.cel (P.length + (L.length + 1))] (QR P x5 L bs) = (lstOf (QR P x5 L bs) (.cel (P.length + (L.length + 1)))).map fun xs => D.int (xs.length : Nat) := rfl
    rw [e, SL.ls at5]
    simp
  have lm : ms.length ≤ 5 := by
    have := compD_len e5
    rw [List.length_map, rangeD_len] at this
    exact this
  have ad : addD (.lst ((sortI ms).map D.int)) (.lst [.int 0, .int (bs.length : Nat)]) (QR P x5 L bs) = some (.lst ((sortI ms).map D.int ++ [.int 0, .int (bs.length : Nat)])) := add_lsts (by rw [List.length_map, (sortI_perm ms).length_eq]; simp; omega)
  have it2 : ((fiAny (fOp addD (fCB sortedD (fCons (fLc [6] (fiRng1 (fCons (fC (.int 5)) fNil)) (fgName 6) fYes (fCall 2 g__law_random (fCons (fVar 0) (fCons (fOp addD (fCB lenD (fCons (fVar 5) fNil)) (fC (.int 1))) fNil)))) fNil)) (fLst (fCons (fC (.int 0)) (fCons (fCB lenD (fCons (fVar 5) fNil)) fNil))))) : FI) [some (.cel P.length), some (.int nn), some (sd fi), some (.int lean), some (rD (tnR nn)), some (.cel (P.length + (L.length + 1))), k6, k7, none, none] (QR P x4 L bs) = .ok ⟨(sortI ms).map D.int ++ [.int 0, .int (bs.length : Nat)], none⟩ (QR P x5 L bs) := by
    generalize hxs : (sortI ms).map D.int = xs at *
    simp! only [lc, so, ll, ad]
  refine bodyD_rt (ρ1 := [some (.cel P.length), some (.int nn), some (sd fi), some (.int lean), some (rD (tnR nn)), some (.cel (P.length + (L.length + 1))), k6, k7, k8, k9]) ?_
  refine (fSeq_nx s0).trans ((fSeq_nx s1).trans ((fSeq_nx (fFor_st it1 e4)).trans ((fSeq_nx (fFor_st it2 e6)).trans ?_)))
  simp! only []
end
theorem law_ok : LawOk g_law 63 := by
  intro ns _ _
  obtain ⟨x0, e0, G0⟩ := Cm.generator_ok (S := []) rfl (ns := ns) (j := 0) (by decide)
  have low0 : ([] ++ [x0]).all (lowC ([] ++ [x0]).length) = true := Gn.low (P := []) (L := []) G0 (.of rfl)
  obtain ⟨z0, e1, H0⟩ := Cm.generator_ok low0 (ns := ns) (j := 1) (by decide)
  have lo1 : Lo [] [z0] := .of (by simp only [List.nil_append, List.all_cons, List.all_nil, H0.free, Bool.and_self])
  obtain ⟨y0, e2, G1⟩ := tennis_ok lo1 G0 (by decide)
  have lo2 : Lo [y0] [] := .of (by simp only [List.append_nil, List.all_cons, List.all_nil, G1.free, Bool.and_self])
  obtain ⟨z1, w, e3, H1, w0, w3⟩ := random_ok H0 (by decide) lo2 (bd := 3) (by decide) (by decide)
  have e0 : Cm.g__law_generator [.kls (ns.map .int), .int 0] [] = .ok (.cel 0) [x0] := e0
  have e1 : Cm.g__law_generator [.kls (ns.map .int), .int 1] [x0] = .ok (.cel 1) [x0, z0] := e1
  have e2 : g__law_tennis_right [.cel 0] [x0, z0] = .ok (.bl true) [y0, z0] := e2
  have e3 : Cm.g__law_random [.cel 1, .int 3] [y0, z0] = .ok (.int w) [y0, z1] := e3
  obtain ⟨z2, e4, _⟩ := quick_ok lo2 H1 (by decide)
  obtain ⟨z3, e5, _⟩ := volley_ok lo2 H1 (by decide)
  obtain ⟨z4, e6, _⟩ := squash_ok lo2 H1 (by decide)
  have e4 : g__law_quick_right [.cel 1] [y0, z1] = .ok (.bl true) [y0, z2] := e4
  have e5 : g__law_volley_right [.cel 1] [y0, z1] = .ok (.bl true) [y0, z3] := e5
  have e6 : g__law_squash_right [.cel 1] [y0, z1] = .ok (.bl true) [y0, z4] := e6
  have d0 : ∀ T, eqD (.int w) (.int 0) T = some (.bl (decide (w = 0))) := fun _ => rfl
  by_cases c0 : w = 0
  · refine ⟨[y0, z2], bodyD_rt (ρ1 := [some (.kls (ns.map .int)), some (.cel 0), some (.cel 1), some (.int w)]) ?_⟩
    simp! only [b_law, e0, e1, e2, e3, decide_eq_true c0, e4]
  · by_cases c1 : w = 1
    · refine ⟨[y0, z3], bodyD_rt (ρ1 := [some (.kls (ns.map .int)), some (.cel 0), some (.cel 1), some (.int w)]) ?_⟩
      simp! only [b_law, e0, e1, e2, e3, decide_eq_false c0, decide_eq_true c1, e5]
    · refine ⟨[y0, z4], bodyD_rt (ρ1 := [some (.kls (ns.map .int)), some (.cel 0), some (.cel 1), some (.int w)]) ?_⟩
      simp! only [b_law, e0, e1, e2, e3, decide_eq_false c0, decide_eq_false c1, e6]
end K07
set_option maxHeartbeats 4000000
namespace K07
open PySem PySem.Spec PyProof.Rows L2 DL
def topS (i : Nat) : Stmt := PySem.Challenge.pw_anyserve_k07_whole_known_games.main.body.getD i (.Pass ⟨0, 0, 0, 0⟩)
def inS : Stmt → Stmt
  | .ClassDef _ _ _ b _ _ _ _ _ _ _ => b.getD 0 (.Pass ⟨0, 0, 0, 0⟩)
  | st => st
structure Zc (K : PySem.W.Frag) (mg : Str → Option Value) : Prop where
  b_abs : mg "abs" = none
  b_bool : mg "bool" = none
  b_enumerate : mg "enumerate" = none
  b_int : mg "int" = none
  b_isinstance : mg "isinstance" = none
  b_len : mg "len" = none
  b_list : mg "list" = none
  b_max : mg "max" = none
  b_range : mg "range" = none
  b_sorted : mg "sorted" = none
  b_str : mg "str" = none
  b_sum : mg "sum" = none
  b_tuple : mg "tuple" = none
  c_DEEPEST : GlobC K mg "DEEPEST" c_DEEPEST
  c_ORDERS : GlobC K mg "ORDERS" c_ORDERS
structure Yc (P : Program) (K : PySem.W.Frag) (mg : Str → Option Value) : Prop where
  all : xallB K xsL ysL = true
  x_InvalidRule : XCls P K mg (caK K) "InvalidRule"
  x_InvalidSide : XCls P K mg (caK K) "InvalidSide"
  x_InvalidRallies : XCls P K mg (caK K) "InvalidRallies"
  x_Ended : XCls P K mg (caK K) "Ended"
section
variable {P : Program} {w : World} {K : PySem.W.Frag} {mg : Str → Option Value} {base : Heap} {k : Nat}
abbrev s_is_whole : Stmt := topS 9
theorem sc_is_whole : FnScope N_is_whole ["value"] (defScope s_is_whole) := ⟨rfl, rfl, rfl, by decide +kernel, rfl, by decide +kernel, by decide +kernel⟩
theorem e_is_whole (z : Zc K mg) (y : Yc P K mg) (T : Std K mg "is_whole" s_is_whole ["value"]) : Def P w K mg base (caK K) "is_whole" ["value"] (k + 1) (bodyT N_is_whole 1 (b_is_whole)) :=
  def_T T sc_is_whole fun f cdv A outer s H E hr hgu tk hp => by
 refine sss_one ?_
 refine ss_ret ?_
 refine se_and ?_ ?_
 refine se_isi ?_ (by decide) bb_int z.b_int (by rfl) (by rfl) z.b_isinstance
 exact se_var 0
 refine se_one ?_
 refine se_not ?_
 refine se_isi ?_ (by decide) bb_bool z.b_bool (by rfl) (by rfl) z.b_isinstance
 exact se_var 0
abbrev s_is_count : Stmt := topS 10
theorem sc_is_count : FnScope N_is_count ["value"] (defScope s_is_count) := ⟨rfl, rfl, rfl, by decide +kernel, rfl, by decide +kernel, by decide +kernel⟩
theorem e_is_count {g_is_whole : GF} (z : Zc K mg) (y : Yc P K mg) (T : Std K mg "is_count" s_is_count ["value"]) (D_is_whole : Def P w K mg base (caK K) "is_whole" ["value"] k g_is_whole) : Def P w K mg base (caK K) "is_count" ["value"] (k + 1) (bodyT N_is_count 1 (b_is_count g_is_whole)) :=
  def_T T sc_is_count fun f cdv A outer s H E hr hgu tk hp => by
 refine sss_one ?_
 refine ss_ret ?_
 refine se_and ?_ ?_
 refine se_callN D_is_whole hr hgu tk (by rfl) ?_
 refine sa_cons ?_ ?_
 exact se_var 0
 exact sa_nil
 refine se_one ?_
 refine se_cmp (opd_ge hr.units0) ?_ ?_ (nomark _)
 exact se_var 0
 exact se_int
abbrev s_is_between : Stmt := topS 11
theorem sc_is_between : FnScope N_is_between ["value", "low", "high"] (defScope s_is_between) := ⟨rfl, rfl, rfl, by decide +kernel, rfl, by decide +kernel, by decide +kernel⟩
theorem e_is_between {g_is_whole : GF} (z : Zc K mg) (y : Yc P K mg) (T : Std K mg "is_between" s_is_between ["value", "low", "high"]) (D_is_whole : Def P w K mg base (caK K) "is_whole" ["value"] k g_is_whole) : Def P w K mg base (caK K) "is_between" ["value", "low", "high"] (k + 1) (bodyT N_is_between 3 (b_is_between g_is_whole)) :=
  def_T T sc_is_between fun f cdv A outer s H E hr hgu tk hp => by
 refine sss_one ?_
 refine ss_ret ?_
 refine se_and ?_ ?_
 refine se_callN D_is_whole hr hgu tk (by rfl) ?_
 refine sa_cons ?_ ?_
 exact se_var 0
 exact sa_nil
 refine se_one ?_
 refine se_chain opd_le opd_le ?_ ?_ ?_
 exact se_var 1
 exact se_var 0
 exact se_var 2
abbrev s_is_side : Stmt := topS 12
theorem sc_is_side : FnScope N_is_side ["value"] (defScope s_is_side) := ⟨rfl, rfl, rfl, by decide +kernel, rfl, by decide +kernel, by decide +kernel⟩
theorem e_is_side {g_is_between : GF} (z : Zc K mg) (y : Yc P K mg) (T : Std K mg "is_side" s_is_side ["value"]) (D_is_between : Def P w K mg base (caK K) "is_between" ["value", "low", "high"] k g_is_between) : Def P w K mg base (caK K) "is_side" ["value"] (k + 1) (bodyT N_is_side 1 (b_is_side g_is_between)) :=
  def_T T sc_is_side fun f cdv A outer s H E hr hgu tk hp => by
 refine sss_one ?_
 refine ss_ret ?_
 refine se_callN D_is_between hr hgu tk (by rfl) ?_
 refine sa_cons ?_ ?_
 exact se_var 0
 refine sa_cons ?_ ?_
 exact se_int
 refine sa_cons ?_ ?_
 exact se_int
 exact sa_nil
abbrev s_are_rallies : Stmt := topS 13
theorem sc_are_rallies : FnScope N_are_rallies ["value"] (defScope s_are_rallies) := ⟨rfl, rfl, rfl, by decide +kernel, rfl, by decide +kernel, by decide +kernel⟩
theorem e_are_rallies {g_is_side : GF} (z : Zc K mg) (y : Yc P K mg) (T : Std K mg "are_rallies" s_are_rallies ["value"]) (D_is_side : Def P w K mg base (caK K) "is_side" ["value"] k g_is_side) : Def P w K mg base (caK K) "are_rallies" ["value"] (k + 1) (bodyT N_are_rallies 1 (b_are_rallies g_is_side)) :=
  def_T T sc_are_rallies fun f cdv A outer s H E hr hgu tk hp => by
 refine sss_one ?_
 refine ss_ret ?_
 refine se_and ?_ ?_
 refine se_isi ?_ (by decide) bb_list z.b_list (by rfl) (by rfl) z.b_isinstance
 exact se_var 0
 refine se_one ?_
 refine se_cmp (opd_eq hr.units) ?_ ?_ (nomark _)
 refine se_lc (own := [("side", 1)]) rfl sc_are_rallies.nd ?_ (blkOk_by (by rfl)) (fun _ _ _ _ _ => ?_) (fun _ _ _ _ _ => ?_) (fun _ _ _ _ _ => ?_)
 refine si_any ?_
 exact se_var 0
 exact sgw_name (by decide) sc_are_rallies.nd (i := 1) rfl (by first | exact .inl rfl | exact .inr rfl)
 refine sts_one ?_
 refine st_not ?_
 refine st_val ?_
 refine se_callN D_is_side ?_ ?_ tk0 (by rfl) ?_
 exact hr
 exact hgu
 refine sa_cons ?_ ?_
 exact se_var 1
 exact sa_nil
 exact se_var 1
 refine se_lst ?_
 exact sa_nil
abbrev s_is_word : Stmt := topS 14
theorem sc_is_word : FnScope N_is_word ["value", "word"] (defScope s_is_word) := ⟨rfl, rfl, rfl, by decide +kernel, rfl, by decide +kernel, by decide +kernel⟩
theorem e_is_word (z : Zc K mg) (y : Yc P K mg) (T : Std K mg "is_word" s_is_word ["value", "word"]) : Def P w K mg base (caK K) "is_word" ["value", "word"] (k + 1) (bodyT N_is_word 2 (b_is_word)) :=
  def_T T sc_is_word fun f cdv A outer s H E hr hgu tk hp => by
 refine sss_one ?_
 refine ss_ret ?_
 refine se_and ?_ ?_
 refine se_isi ?_ (by decide) bb_tuple z.b_tuple (by rfl) (by rfl) z.b_isinstance
 exact se_var 0
 refine se_and ?_ ?_
 refine se_cmp (opd_eq hr.units) ?_ ?_ (nomark _)
 refine se_callB cd_len (by rfl) z.b_len bb_len ?_
 refine sa_cons ?_ ?_
 exact se_var 0
 exact sa_nil
 exact se_int
 refine se_and ?_ ?_
 refine se_isi ?_ (by decide) bb_str z.b_str (by rfl) (by rfl) z.b_isinstance
 refine se_ix (hu1 hr) ?_ ?_ (fun _ _ => rfl)
 exact se_var 0
 exact se_int
 refine se_one ?_
 refine se_cmp (opd_eq hr.units) ?_ ?_ (nomark _)
 refine se_ix (hu1 hr) ?_ ?_ (fun _ _ => rfl)
 exact se_var 0
 exact se_int
 exact se_var 1
abbrev s_is_order : Stmt := topS 15
theorem sc_is_order : FnScope N_is_order ["value"] (defScope s_is_order) := ⟨rfl, rfl, rfl, by decide +kernel, rfl, by decide +kernel, by decide +kernel⟩
theorem e_is_order {g_is_word g_is_side : GF} (z : Zc K mg) (y : Yc P K mg) (T : Std K mg "is_order" s_is_order ["value"]) (D_is_word : Def P w K mg base (caK K) "is_word" ["value", "word"] k g_is_word) (D_is_side : Def P w K mg base (caK K) "is_side" ["value"] k g_is_side) : Def P w K mg base (caK K) "is_order" ["value"] (k + 1) (bodyT N_is_order 1 (b_is_order g_is_word g_is_side)) :=
  def_T T sc_is_order fun f cdv A outer s H E hr hgu tk hp => by
 refine sss_cons ?_ ?_
 refine ss_if ?_ ?_ ?_
 refine st_cmp (opd_ne hr.units) ?_ ?_ (nomark _)
 refine se_lc (own := [("word", 1)]) rfl sc_is_order.nd ?_ (blkOk_by (by rfl)) (fun _ _ _ _ _ => ?_) (fun _ _ _ _ _ => ?_) (fun _ _ _ _ _ => ?_)
 refine si_any ?_
 exact se_gc (by rfl) z.c_ORDERS
 exact sgw_name (by decide) sc_is_order.nd (i := 1) rfl (by first | exact .inl rfl | exact .inr rfl)
 refine sts_one ?_
 refine st_val ?_
 refine se_callN D_is_word ?_ ?_ tk0 (by rfl) ?_
 exact hr
 exact hgu
 refine sa_cons ?_ ?_
 exact se_var 0
 refine sa_cons ?_ ?_
 exact se_var 1
 exact sa_nil
 exact se_var 1
 refine se_lst ?_
 exact sa_nil
 refine sss_one ?_
 refine ss_ret ?_
 exact se_bl
 exact sss_nil
 refine sss_cons ?_ ?_
 refine ss_if ?_ ?_ ?_
 refine SW.st ?_
 refine sw_or ?_ ?_
 refine st_not ?_
 refine st_val ?_
 refine se_isi ?_ (by decide) bb_tuple z.b_tuple (by rfl) (by rfl) z.b_isinstance
 exact se_var 0
 refine sw_or ?_ ?_
 refine st_cmp (opd_ne hr.units) ?_ ?_ (nomark _)
 refine se_callB cd_len (by rfl) z.b_len bb_len ?_
 refine sa_cons ?_ ?_
 exact se_var 0
 exact sa_nil
 exact se_int
 refine sw_or ?_ ?_
 refine st_not ?_
 refine st_val ?_
 refine se_isi ?_ (by decide) bb_str z.b_str (by rfl) (by rfl) z.b_isinstance
 refine se_ix (hu1 hr) ?_ ?_ (fun _ _ => rfl)
 exact se_var 0
 exact se_int
 refine sw_or1 ?_
 refine st_cmp (opd_ne hr.units) ?_ ?_ (nomark _)
 refine se_ix (hu1 hr) ?_ ?_ (fun _ _ => rfl)
 exact se_var 0
 exact se_int
 exact se_str
 refine sss_one ?_
 refine ss_ret ?_
 exact se_bl
 exact sss_nil
 refine sss_cons ?_ ?_
 refine ss_if ?_ ?_ ?_
 refine SW.st ?_
 refine sw_or ?_ ?_
 refine st_not ?_
 refine st_val ?_
 refine se_isi ?_ (by decide) bb_list z.b_list (by rfl) (by rfl) z.b_isinstance
 refine se_ix (hu1 hr) ?_ ?_ (fun _ _ => rfl)
 exact se_var 0
 exact se_int
 refine sw_or1 ?_
 refine st_not ?_
 refine st_chain opd_le opd_le ?_ ?_ ?_
 exact se_int
 refine se_callB cd_len (by rfl) z.b_len bb_len ?_
 refine sa_cons ?_ ?_
 refine se_ix (hu1 hr) ?_ ?_ (fun _ _ => rfl)
 exact se_var 0
 exact se_int
 exact sa_nil
 exact se_int
 refine sss_one ?_
 refine ss_ret ?_
 exact se_bl
 exact sss_nil
 refine sss_one ?_
 refine ss_ret ?_
 refine se_cmp (opd_eq hr.units) ?_ ?_ (nomark _)
 refine se_lc (own := [("mark", 2)]) rfl sc_is_order.nd ?_ (blkOk_by (by rfl)) (fun _ _ _ _ _ => ?_) (fun _ _ _ _ _ => ?_) (fun _ _ _ _ _ => ?_)
 refine si_any ?_
 refine se_ix (hu1 hr) ?_ ?_ (fun _ _ => rfl)
 exact se_var 0
 exact se_int
 exact sgw_name (by decide) sc_is_order.nd (i := 2) rfl (by first | exact .inl rfl | exact .inr rfl)
 refine sts_one ?_
 refine st_not ?_
 refine st_val ?_
 refine se_callN D_is_side ?_ ?_ tk0 (by rfl) ?_
 exact hr
 exact hgu
 refine sa_cons ?_ ?_
 exact se_var 2
 exact sa_nil
 exact se_var 2
 refine se_lst ?_
 exact sa_nil
abbrev s_are_numbers_of_race : Stmt := topS 16
theorem sc_are_numbers_of_race : FnScope N_are_numbers_of_race ["need", "lead", "cap"] (defScope s_are_numbers_of_race) := ⟨rfl, rfl, rfl, by decide +kernel, rfl, by decide +kernel, by decide +kernel⟩
theorem e_are_numbers_of_race {g_is_between : GF} (z : Zc K mg) (y : Yc P K mg) (T : Std K mg "are_numbers_of_race" s_are_numbers_of_race ["need", "lead", "cap"]) (D_is_between : Def P w K mg base (caK K) "is_between" ["value", "low", "high"] k g_is_between) : Def P w K mg base (caK K) "are_numbers_of_race" ["need", "lead", "cap"] (k + 1) (bodyT N_are_numbers_of_race 3 (b_are_numbers_of_race g_is_between)) :=
  def_T T sc_are_numbers_of_race fun f cdv A outer s H E hr hgu tk hp => by
 refine sss_cons ?_ ?_
 refine ss_if ?_ ?_ ?_
 refine SW.st ?_
 refine sw_or ?_ ?_
 refine st_not ?_
 refine st_val ?_
 refine se_callN D_is_between hr hgu tk (by rfl) ?_
 refine sa_cons ?_ ?_
 exact se_var 0
 refine sa_cons ?_ ?_
 exact se_int
 refine sa_cons ?_ ?_
 exact se_int
 exact sa_nil
 refine sw_or1 ?_
 refine st_not ?_
 refine st_val ?_
 refine se_callN D_is_between hr hgu tk (by rfl) ?_
 refine sa_cons ?_ ?_
 exact se_var 1
 refine sa_cons ?_ ?_
 exact se_int
 refine sa_cons ?_ ?_
 exact se_int
 exact sa_nil
 refine sss_one ?_
 refine ss_ret ?_
 exact se_bl
 exact sss_nil
 refine sss_one ?_
 refine ss_ret ?_
 refine se_or ?_ ?_
 refine se_cmp opd_is ?_ ?_ (nomark _)
 exact se_var 2
 exact se_non
 refine se_one ?_
 refine se_callN D_is_between hr hgu tk (by rfl) ?_
 refine sa_cons ?_ ?_
 exact se_var 2
 refine sa_cons ?_ ?_
 exact se_var 0
 refine sa_cons ?_ ?_
 exact se_int
 exact sa_nil
abbrev s_is_score : Stmt := topS 17
theorem sc_is_score : FnScope N_is_score ["value"] (defScope s_is_score) := ⟨rfl, rfl, rfl, by decide +kernel, rfl, by decide +kernel, by decide +kernel⟩
theorem e_is_score {g_is_count : GF} (z : Zc K mg) (y : Yc P K mg) (T : Std K mg "is_score" s_is_score ["value"]) (D_is_count : Def P w K mg base (caK K) "is_count" ["value"] k g_is_count) : Def P w K mg base (caK K) "is_score" ["value"] (k + 1) (bodyT N_is_score 1 (b_is_score g_is_count)) :=
  def_T T sc_is_score fun f cdv A outer s H E hr hgu tk hp => by
 refine sss_one ?_
 refine ss_ret ?_
 refine se_and ?_ ?_
 refine se_isi ?_ (by decide) bb_tuple z.b_tuple (by rfl) (by rfl) z.b_isinstance
 exact se_var 0
 refine se_and ?_ ?_
 refine se_cmp (opd_eq hr.units) ?_ ?_ (nomark _)
 refine se_callB cd_len (by rfl) z.b_len bb_len ?_
 refine sa_cons ?_ ?_
 exact se_var 0
 exact sa_nil
 exact se_int
 refine se_and ?_ ?_
 refine se_callN D_is_count hr hgu tk (by rfl) ?_
 refine sa_cons ?_ ?_
 refine se_ix (hu1 hr) ?_ ?_ (fun _ _ => rfl)
 exact se_var 0
 exact se_int
 exact sa_nil
 refine se_one ?_
 refine se_callN D_is_count hr hgu tk (by rfl) ?_
 refine sa_cons ?_ ?_
 refine se_ix (hu1 hr) ?_ ?_ (fun _ _ => rfl)
 exact se_var 0
 exact se_int
 exact sa_nil
abbrev s_is_special : Stmt := topS 18
theorem sc_is_special : FnScope N_is_special ["value", "deep"] (defScope s_is_special) := ⟨rfl, rfl, rfl, by decide +kernel, rfl, by decide +kernel, by decide +kernel⟩
theorem e_is_special {g_is_score g_is_rule_within : GF} (z : Zc K mg) (y : Yc P K mg) (T : Std K mg "is_special" s_is_special ["value", "deep"]) (D_is_score : Def P w K mg base (caK K) "is_score" ["value"] k g_is_score) (D_is_rule_within : Def P w K mg base (caK K) "is_rule_within" ["value", "deep"] k g_is_rule_within) : Def P w K mg base (caK K) "is_special" ["value", "deep"] (k + 1) (bodyT N_is_special 2 (b_is_special g_is_score g_is_rule_within)) :=
  def_T T sc_is_special fun f cdv A outer s H E hr hgu tk hp => by
 refine sss_cons ?_ ?_
 refine ss_if ?_ ?_ ?_
 refine SW.st ?_
 refine sw_or ?_ ?_
 refine st_not ?_
 refine st_val ?_
 refine se_isi ?_ (by decide) bb_tuple z.b_tuple (by rfl) (by rfl) z.b_isinstance
 exact se_var 0
 refine sw_or ?_ ?_
 refine st_cmp (opd_ne hr.units) ?_ ?_ (nomark _)
 refine se_callB cd_len (by rfl) z.b_len bb_len ?_
 refine sa_cons ?_ ?_
 exact se_var 0
 exact sa_nil
 exact se_int
 refine sw_or ?_ ?_
 refine st_not ?_
 refine st_val ?_
 refine se_callN D_is_score hr hgu tk (by rfl) ?_
 refine sa_cons ?_ ?_
 refine se_ix (hu1 hr) ?_ ?_ (fun _ _ => rfl)
 exact se_var 0
 exact se_int
 exact sa_nil
 refine sw_or1 ?_
 refine st_cmp opd_gt ?_ ?_ (nomark _)
 refine se_callB (cd_maxT rfl (hu1 hr)) (by rfl) z.b_max bb_max ?_
 refine sa_cons ?_ ?_
 refine se_ix (hu1 hr) ?_ ?_ (fun _ _ => rfl)
 exact se_var 0
 exact se_int
 exact sa_nil
 exact se_int
 refine sss_one ?_
 refine ss_ret ?_
 exact se_bl
 exact sss_nil
 refine sss_one ?_
 refine ss_ret ?_
 refine se_callN D_is_rule_within hr hgu tk (by rfl) ?_
 refine sa_cons ?_ ?_
 refine se_ix (hu1 hr) ?_ ?_ (fun _ _ => rfl)
 exact se_var 0
 exact se_int
 refine sa_cons ?_ ?_
 exact se_var 1
 exact sa_nil
abbrev s_are_specials : Stmt := topS 19
theorem sc_are_specials : FnScope N_are_specials ["value", "deep"] (defScope s_are_specials) := ⟨rfl, rfl, rfl, by decide +kernel, rfl, by decide +kernel, by decide +kernel⟩
theorem e_are_specials {g_is_special : GF} (z : Zc K mg) (y : Yc P K mg) (T : Std K mg "are_specials" s_are_specials ["value", "deep"]) (D_is_special : Def P w K mg base (caK K) "is_special" ["value", "deep"] k g_is_special) : Def P w K mg base (caK K) "are_specials" ["value", "deep"] (k + 1) (bodyT N_are_specials 2 (b_are_specials g_is_special)) :=
  def_T T sc_are_specials fun f cdv A outer s H E hr hgu tk hp => by
 refine sss_cons ?_ ?_
 refine ss_if ?_ ?_ ?_
 refine SW.st ?_
 refine sw_or ?_ ?_
 refine st_not ?_
 refine st_val ?_
 refine se_isi ?_ (by decide) bb_list z.b_list (by rfl) (by rfl) z.b_isinstance
 exact se_var 0
 refine sw_or ?_ ?_
 refine st_cmp opd_gt ?_ ?_ (nomark _)
 refine se_callB cd_len (by rfl) z.b_len bb_len ?_
 refine sa_cons ?_ ?_
 exact se_var 0
 exact sa_nil
 exact se_int
 refine sw_or1 ?_
 refine st_cmp (opd_ne hr.units) ?_ ?_ (nomark _)
 refine se_lc (own := [("one", 2)]) rfl sc_are_specials.nd ?_ (blkOk_by (by rfl)) (fun _ _ _ _ _ => ?_) (fun _ _ _ _ _ => ?_) (fun _ _ _ _ _ => ?_)
 refine si_any ?_
 exact se_var 0
 exact sgw_name (by decide) sc_are_specials.nd (i := 2) rfl (by first | exact .inl rfl | exact .inr rfl)
 refine sts_one ?_
 refine st_not ?_
 refine st_val ?_
 refine se_callN D_is_special ?_ ?_ tk0 (by rfl) ?_
 exact hr
 exact hgu
 refine sa_cons ?_ ?_
 exact se_var 2
 refine sa_cons ?_ ?_
 exact se_var 1
 exact sa_nil
 exact se_var 2
 refine se_lst ?_
 exact sa_nil
 refine sss_one ?_
 refine ss_ret ?_
 exact se_bl
 exact sss_nil
 refine sss_one ?_
 refine ss_ret ?_
 refine se_cmp (opd_eq hr.units) ?_ ?_ (nomark _)
 refine se_lc (own := [("at", 3)]) rfl sc_are_specials.nd ?_ (blkOk_by (by rfl)) (fun _ _ _ _ _ => ?_) (fun _ _ _ _ _ => ?_) (fun _ _ _ _ _ => ?_)
 refine si_range2 (by rfl) z.b_range ?_
 refine sa_cons ?_ ?_
 exact se_int
 refine sa_cons ?_ ?_
 refine se_callB cd_len (by rfl) z.b_len bb_len ?_
 refine sa_cons ?_ ?_
 exact se_var 0
 exact sa_nil
 exact sa_nil
 exact sgw_name (by decide) sc_are_specials.nd (i := 3) rfl (by first | exact .inl rfl | exact .inr rfl)
 refine sts_one ?_
 refine st_cmp (opd_ge ?_) ?_ ?_ (nomark _)
 exact hr.units0
 refine se_ix ?_ ?_ ?_ (fun _ _ => rfl)
 exact (hu1 hr)
 refine se_ix ?_ ?_ ?_ (fun _ _ => rfl)
 exact (hu1 hr)
 exact se_var 0
 refine se_op opd_sub ?_ ?_
 exact se_var 3
 exact se_int
 exact se_int
 refine se_ix ?_ ?_ ?_ (fun _ _ => rfl)
 exact (hu1 hr)
 refine se_ix ?_ ?_ ?_ (fun _ _ => rfl)
 exact (hu1 hr)
 exact se_var 0
 exact se_var 3
 exact se_int
 exact se_var 3
 refine se_lst ?_
 exact sa_nil
abbrev s_is_rule_within : Stmt := topS 20
theorem sc_is_rule_within : FnScope N_is_rule_within ["value", "deep"] (defScope s_is_rule_within) := ⟨rfl, rfl, rfl, by decide +kernel, rfl, by decide +kernel, by decide +kernel⟩
theorem e_is_rule_within {g_is_word g_are_numbers_of_race g_is_order g_is_rule_within g_are_specials : GF} (z : Zc K mg) (y : Yc P K mg) (T : Std K mg "is_rule_within" s_is_rule_within ["value", "deep"]) (D_is_word : Def P w K mg base (caK K) "is_word" ["value", "word"] k g_is_word) (D_are_numbers_of_race : Def P w K mg base (caK K) "are_numbers_of_race" ["need", "lead", "cap"] k g_are_numbers_of_race) (D_is_order : Def P w K mg base (caK K) "is_order" ["value"] k g_is_order) (D_is_rule_within : Def P w K mg base (caK K) "is_rule_within" ["value", "deep"] k g_is_rule_within) (D_are_specials : Def P w K mg base (caK K) "are_specials" ["value", "deep"] k g_are_specials) : Def P w K mg base (caK K) "is_rule_within" ["value", "deep"] (k + 1) (bodyT N_is_rule_within 2 (b_is_rule_within g_is_word g_are_numbers_of_race g_is_order g_is_rule_within g_are_specials)) :=
  def_T T sc_is_rule_within fun f cdv A outer s H E hr hgu tk hp => by
 refine sss_cons ?_ ?_
 refine ss_if ?_ ?_ ?_
 refine SW.st ?_
 refine sw_or ?_ ?_
 refine st_val ?_
 refine se_callN D_is_word hr hgu tk (by rfl) ?_
 refine sa_cons ?_ ?_
 exact se_var 0
 refine sa_cons ?_ ?_
 exact se_str
 exact sa_nil
 refine sw_or1 ?_
 refine st_val ?_
 refine se_callN D_is_word hr hgu tk (by rfl) ?_
 refine sa_cons ?_ ?_
 exact se_var 0
 refine sa_cons ?_ ?_
 exact se_str
 exact sa_nil
 refine sss_one ?_
 refine ss_ret ?_
 exact se_bl
 exact sss_nil
 refine sss_cons ?_ ?_
 refine ss_if ?_ ?_ ?_
 refine SW.st ?_
 refine sw_or ?_ ?_
 refine st_cmp (opd_eq hr.units) ?_ ?_ (nomark _)
 exact se_var 1
 exact se_int
 refine sw_or ?_ ?_
 refine st_not ?_
 refine st_val ?_
 refine se_isi ?_ (by decide) bb_tuple z.b_tuple (by rfl) (by rfl) z.b_isinstance
 exact se_var 0
 refine sw_or ?_ ?_
 refine st_cmp (opd_ne hr.units) ?_ ?_ (nomark _)
 refine se_callB cd_len (by rfl) z.b_len bb_len ?_
 refine sa_cons ?_ ?_
 exact se_var 0
 exact sa_nil
 exact se_int
 refine sw_or1 ?_
 refine st_not ?_
 refine st_val ?_
 refine se_isi ?_ (by decide) bb_str z.b_str (by rfl) (by rfl) z.b_isinstance
 refine se_ix (hu1 hr) ?_ ?_ (fun _ _ => rfl)
 exact se_var 0
 exact se_int
 refine sss_one ?_
 refine ss_ret ?_
 exact se_bl
 exact sss_nil
 refine sss_cons ?_ ?_
 refine ss_asg ?_ ?_
 exact se_var 0
 refine sg_tup rfl ?_
 refine sgs_cons ?_ ?_
 exact sg_name sc_is_rule_within.nd (i := 2) rfl (by first | exact .inl rfl | exact .inr rfl)
 refine sgs_cons ?_ ?_
 exact sg_name sc_is_rule_within.nd (i := 3) rfl (by first | exact .inl rfl | exact .inr rfl)
 refine sgs_cons ?_ ?_
 exact sg_name sc_is_rule_within.nd (i := 4) rfl (by first | exact .inl rfl | exact .inr rfl)
 refine sgs_cons ?_ ?_
 exact sg_name sc_is_rule_within.nd (i := 5) rfl (by first | exact .inl rfl | exact .inr rfl)
 refine sgs_cons ?_ ?_
 exact sg_name sc_is_rule_within.nd (i := 6) rfl (by first | exact .inl rfl | exact .inr rfl)
 refine sgs_cons ?_ ?_
 exact sg_name sc_is_rule_within.nd (i := 7) rfl (by first | exact .inl rfl | exact .inr rfl)
 refine sgs_cons ?_ sgs_nil
 exact sg_name sc_is_rule_within.nd (i := 8) rfl (by first | exact .inl rfl | exact .inr rfl)
 refine sss_cons ?_ ?_
 refine ss_if ?_ ?_ ?_
 refine SW.st ?_
 refine sw_or ?_ ?_
 refine st_cmp (opd_ne hr.units) ?_ ?_ (nomark _)
 exact se_var 2
 exact se_str
 refine sw_or ?_ ?_
 refine st_not ?_
 refine st_val ?_
 refine se_callN D_are_numbers_of_race hr hgu tk (by rfl) ?_
 refine sa_cons ?_ ?_
 exact se_var 3
 refine sa_cons ?_ ?_
 exact se_var 4
 refine sa_cons ?_ ?_
 exact se_var 5
 exact sa_nil
 refine sw_or1 ?_
 refine st_not ?_
 refine st_val ?_
 refine se_callN D_is_order hr hgu tk (by rfl) ?_
 refine sa_cons ?_ ?_
 exact se_var 6
 exact sa_nil
 refine sss_one ?_
 refine ss_ret ?_
 exact se_bl
 exact sss_nil
 refine sss_one ?_
 refine ss_ret ?_
 refine se_and ?_ ?_
 refine se_callN D_is_rule_within hr hgu tk (by rfl) ?_
 refine sa_cons ?_ ?_
 exact se_var 7
 refine sa_cons ?_ ?_
 refine se_op opd_sub ?_ ?_
 exact se_var 1
 exact se_int
 exact sa_nil
 refine se_one ?_
 refine se_callN D_are_specials hr hgu tk (by rfl) ?_
 refine sa_cons ?_ ?_
 exact se_var 8
 refine sa_cons ?_ ?_
 refine se_op opd_sub ?_ ?_
 exact se_var 1
 exact se_int
 exact sa_nil
abbrev s_is_rule : Stmt := topS 21
theorem sc_is_rule : FnScope N_is_rule ["value"] (defScope s_is_rule) := ⟨rfl, rfl, rfl, by decide +kernel, rfl, by decide +kernel, by decide +kernel⟩
theorem e_is_rule {g_is_rule_within : GF} (z : Zc K mg) (y : Yc P K mg) (T : Std K mg "is_rule" s_is_rule ["value"]) (D_is_rule_within : Def P w K mg base (caK K) "is_rule_within" ["value", "deep"] k g_is_rule_within) : Def P w K mg base (caK K) "is_rule" ["value"] (k + 1) (bodyT N_is_rule 1 (b_is_rule g_is_rule_within)) :=
  def_T T sc_is_rule fun f cdv A outer s H E hr hgu tk hp => by
 refine sss_one ?_
 refine ss_ret ?_
 refine se_callN D_is_rule_within hr hgu tk (by rfl) ?_
 refine sa_cons ?_ ?_
 exact se_var 0
 refine sa_cons ?_ ?_
 exact se_gc (by rfl) z.c_DEEPEST
 exact sa_nil
abbrev s_check_rule : Stmt := topS 22
theorem sc_check_rule : FnScope N_check_rule ["rule"] (defScope s_check_rule) := ⟨rfl, rfl, rfl, by decide +kernel, rfl, by decide +kernel, by decide +kernel⟩
theorem e_check_rule {g_is_rule : GF} (z : Zc K mg) (y : Yc P K mg) (T : Std K mg "check_rule" s_check_rule ["rule"]) (hk : 2 ≤ k) (D_is_rule : Def P w K mg base (caK K) "is_rule" ["value"] k g_is_rule) : Def P w K mg base (caK K) "check_rule" ["rule"] (k + 1) (bodyT N_check_rule 1 (b_check_rule g_is_rule)) :=
  def_T T sc_check_rule fun f cdv A outer s H E hr hgu tk hp => by
 refine sss_one ?_
 refine ss_if ?_ ?_ ?_
 refine st_not ?_
 refine st_val ?_
 refine se_callN D_is_rule hr hgu tk (by rfl) ?_
 refine sa_cons ?_ ?_
 exact se_var 0
 exact sa_nil
 refine sss_one ?_
 refine ss_raise y.x_InvalidRule (room_two hk hr) tk rfl (by rfl) ?_
 exact se_var 0
 exact sss_nil
abbrev s_check_side : Stmt := topS 23
theorem sc_check_side : FnScope N_check_side ["side"] (defScope s_check_side) := ⟨rfl, rfl, rfl, by decide +kernel, rfl, by decide +kernel, by decide +kernel⟩
theorem e_check_side {g_is_side : GF} (z : Zc K mg) (y : Yc P K mg) (T : Std K mg "check_side" s_check_side ["side"]) (hk : 2 ≤ k) (D_is_side : Def P w K mg base (caK K) "is_side" ["value"] k g_is_side) : Def P w K mg base (caK K) "check_side" ["side"] (k + 1) (bodyT N_check_side 1 (b_check_side g_is_side)) :=
  def_T T sc_check_side fun f cdv A outer s H E hr hgu tk hp => by
 refine sss_one ?_
 refine ss_if ?_ ?_ ?_
 refine st_not ?_
 refine st_val ?_
 refine se_callN D_is_side hr hgu tk (by rfl) ?_
 refine sa_cons ?_ ?_
 exact se_var 0
 exact sa_nil
 refine sss_one ?_
 refine ss_raise y.x_InvalidSide (room_two hk hr) tk rfl (by rfl) ?_
 exact se_var 0
 exact sss_nil
abbrev s_check_rallies : Stmt := topS 24
theorem sc_check_rallies : FnScope N_check_rallies ["rallies"] (defScope s_check_rallies) := ⟨rfl, rfl, rfl, by decide +kernel, rfl, by decide +kernel, by decide +kernel⟩
theorem e_check_rallies {g_are_rallies : GF} (z : Zc K mg) (y : Yc P K mg) (T : Std K mg "check_rallies" s_check_rallies ["rallies"]) (hk : 2 ≤ k) (D_are_rallies : Def P w K mg base (caK K) "are_rallies" ["value"] k g_are_rallies) : Def P w K mg base (caK K) "check_rallies" ["rallies"] (k + 1) (bodyT N_check_rallies 1 (b_check_rallies g_are_rallies)) :=
  def_T T sc_check_rallies fun f cdv A outer s H E hr hgu tk hp => by
 refine sss_one ?_
 refine ss_if ?_ ?_ ?_
 refine st_not ?_
 refine st_val ?_
 refine se_callN D_are_rallies hr hgu tk (by rfl) ?_
 refine sa_cons ?_ ?_
 exact se_var 0
 exact sa_nil
 refine sss_one ?_
 refine ss_raise y.x_InvalidRallies (room_two hk hr) tk rfl (by rfl) ?_
 exact se_var 0
 exact sss_nil
abbrev s_unit_of : Stmt := topS 26
theorem sc_unit_of : FnScope N_unit_of ["rule", "score"] (defScope s_unit_of) := ⟨rfl, rfl, rfl, by decide +kernel, rfl, by decide +kernel, by decide +kernel⟩
theorem e_unit_of (z : Zc K mg) (y : Yc P K mg) (T : Std K mg "unit_of" s_unit_of ["rule", "score"]) : Def P w K mg base (caK K) "unit_of" ["rule", "score"] (k + 1) (bodyT N_unit_of 2 (b_unit_of)) :=
  def_T T sc_unit_of fun f cdv A outer s H E hr hgu tk hp => by
 refine sss_cons ?_ ?_
 refine ss_for hp rfl ?_ ?_ ?_
 refine si_any ?_
 refine se_ix (hu1 hr) ?_ ?_ (fun _ _ => rfl)
 exact se_var 0
 exact se_int
 refine sg_tup rfl ?_
 refine sgs_cons ?_ ?_
 exact sg_name sc_unit_of.nd (i := 2) rfl (by first | exact .inl rfl | exact .inr rfl)
 refine sgs_cons ?_ sgs_nil
 exact sg_name sc_unit_of.nd (i := 3) rfl (by first | exact .inl rfl | exact .inr rfl)
 refine sss_one ?_
 refine ss_if ?_ ?_ ?_
 refine st_cmp (opd_eq hr.units) ?_ ?_ (nomark _)
 exact se_var 2
 exact se_var 1
 refine sss_one ?_
 refine ss_ret ?_
 exact se_var 3
 exact sss_nil
 refine sss_one ?_
 refine ss_ret ?_
 refine se_ix (hu1 hr) ?_ ?_ (fun _ _ => rfl)
 exact se_var 0
 exact se_int
abbrev s_begun : Stmt := topS 27
theorem sc_begun : FnScope N_begun ["rule", "side"] (defScope s_begun) := ⟨rfl, rfl, rfl, by decide +kernel, rfl, by decide +kernel, by decide +kernel⟩
theorem e_begun {g_begun g_unit_of : GF} (z : Zc K mg) (y : Yc P K mg) (T : Std K mg "begun" s_begun ["rule", "side"]) (D_begun : Def P w K mg base (caK K) "begun" ["rule", "side"] k g_begun) (D_unit_of : Def P w K mg base (caK K) "unit_of" ["rule", "score"] k g_unit_of) : Def P w K mg base (caK K) "begun" ["rule", "side"] (k + 1) (bodyT N_begun 2 (b_begun g_begun g_unit_of)) :=
  def_T T sc_begun fun f cdv A outer s H E hr hgu tk hp => by
 refine sss_cons ?_ ?_
 refine ss_if ?_ ?_ ?_
 refine st_cmp (opd_ne hr.units) ?_ ?_ (nomark _)
 refine se_ix (hu1 hr) ?_ ?_ (fun _ _ => rfl)
 exact se_var 0
 exact se_int
 exact se_str
 refine sss_one ?_
 refine ss_ret ?_
 refine se_tup ?_
 refine sa_cons ?_ ?_
 exact se_var 1
 exact sa_nil
 exact sss_nil
 refine sss_cons ?_ ?_
 refine ss_set (i := 2) sc_begun.nd rfl (by first | exact .inl rfl | exact .inr rfl) ?_
 exact se_var 1
 refine sss_cons ?_ ?_
 refine ss_if ?_ ?_ ?_
 refine SW.st ?_
 refine sw_and ?_ ?_
 refine st_cmp (opd_eq hr.units) ?_ ?_ (nomark _)
 refine se_ix (hu1 hr) ?_ ?_ (fun _ _ => rfl)
 refine se_ix (hu1 hr) ?_ ?_ (fun _ _ => rfl)
 exact se_var 0
 exact se_int
 exact se_int
 exact se_str
 refine sw_and1 ?_
 refine st_cmp (opd_eq hr.units) ?_ ?_ (nomark _)
 refine se_ix (hu1 hr) ?_ ?_ (fun _ _ => rfl)
 refine se_ix (hu1 hr) ?_ ?_ (fun _ _ => rfl)
 refine se_ix (hu1 hr) ?_ ?_ (fun _ _ => rfl)
 exact se_var 0
 exact se_int
 exact se_int
 exact se_int
 exact se_int
 refine sss_one ?_
 refine ss_set (i := 2) sc_begun.nd rfl (by first | exact .inl rfl | exact .inr rfl) ?_
 refine se_op opd_sub ?_ ?_
 exact se_int
 exact se_var 1
 exact sss_nil
 refine sss_one ?_
 refine ss_ret ?_
 refine se_tup ?_
 refine sa_cons ?_ ?_
 exact se_int
 refine sa_cons ?_ ?_
 exact se_int
 refine sa_cons ?_ ?_
 exact se_var 1
 refine sa_cons ?_ ?_
 exact se_var 2
 refine sa_cons ?_ ?_
 refine se_callN D_begun hr hgu tk (by rfl) ?_
 refine sa_cons ?_ ?_
 refine se_callN D_unit_of hr hgu tk (by rfl) ?_
 refine sa_cons ?_ ?_
 exact se_var 0
 refine sa_cons ?_ ?_
 refine se_tup ?_
 refine sa_cons ?_ ?_
 exact se_int
 refine sa_cons ?_ ?_
 exact se_int
 exact sa_nil
 exact sa_nil
 refine sa_cons ?_ ?_
 exact se_var 2
 exact sa_nil
 exact sa_nil
abbrev s_is_won : Stmt := topS 28
theorem sc_is_won : FnScope N_is_won ["rule", "score"] (defScope s_is_won) := ⟨rfl, rfl, rfl, by decide +kernel, rfl, by decide +kernel, by decide +kernel⟩
theorem e_is_won (z : Zc K mg) (y : Yc P K mg) (T : Std K mg "is_won" s_is_won ["rule", "score"]) : Def P w K mg base (caK K) "is_won" ["rule", "score"] (k + 1) (bodyT N_is_won 2 (b_is_won)) :=
  def_T T sc_is_won fun f cdv A outer s H E hr hgu tk hp => by
 refine sss_cons ?_ ?_
 refine ss_asg ?_ ?_
 refine se_slice ?_ ?_ ?_
 exact se_var 0
 refine so_some ?_
 exact se_int
 refine so_some ?_
 exact se_int
 refine sg_tup rfl ?_
 refine sgs_cons ?_ ?_
 exact sg_name sc_is_won.nd (i := 2) rfl (by first | exact .inl rfl | exact .inr rfl)
 refine sgs_cons ?_ ?_
 exact sg_name sc_is_won.nd (i := 3) rfl (by first | exact .inl rfl | exact .inr rfl)
 refine sgs_cons ?_ sgs_nil
 exact sg_name sc_is_won.nd (i := 4) rfl (by first | exact .inl rfl | exact .inr rfl)
 refine sss_cons ?_ ?_
 refine ss_if ?_ ?_ ?_
 refine SW.st ?_
 refine sw_and ?_ ?_
 refine st_cmp opd_isnot ?_ ?_ (nomark _)
 exact se_var 4
 exact se_non
 refine sw_and1 ?_
 refine st_cmp (opd_ge hr.units0) ?_ ?_ (nomark _)
 refine se_callB (cd_maxT rfl (hu1 hr)) (by rfl) z.b_max bb_max ?_
 refine sa_cons ?_ ?_
 exact se_var 1
 exact sa_nil
 exact se_var 4
 refine sss_one ?_
 refine ss_ret ?_
 exact se_bl
 exact sss_nil
 refine sss_one ?_
 refine ss_ret ?_
 refine se_and ?_ ?_
 refine se_cmp (opd_ge hr.units0) ?_ ?_ (nomark _)
 refine se_callB (cd_maxT rfl (hu1 hr)) (by rfl) z.b_max bb_max ?_
 refine sa_cons ?_ ?_
 exact se_var 1
 exact sa_nil
 exact se_var 2
 refine se_one ?_
 refine se_cmp (opd_ge hr.units0) ?_ ?_ (nomark _)
 refine se_callB cd_abs (by rfl) z.b_abs bb_abs ?_
 refine sa_cons ?_ ?_
 refine se_op opd_sub ?_ ?_
 refine se_ix (hu1 hr) ?_ ?_ (fun _ _ => rfl)
 exact se_var 1
 exact se_int
 refine se_ix (hu1 hr) ?_ ?_ (fun _ _ => rfl)
 exact se_var 1
 exact se_int
 exact sa_nil
 exact se_var 3
abbrev s_next_turn : Stmt := topS 29
theorem sc_next_turn : FnScope N_next_turn ["rule", "state", "score", "winner", "hands"] (defScope s_next_turn) := ⟨rfl, rfl, rfl, by decide +kernel, rfl, by decide +kernel, by decide +kernel⟩
theorem e_next_turn (z : Zc K mg) (y : Yc P K mg) (T : Std K mg "next_turn" s_next_turn ["rule", "state", "score", "winner", "hands"]) : Def P w K mg base (caK K) "next_turn" ["rule", "state", "score", "winner", "hands"] (k + 1) (bodyT N_next_turn 5 (b_next_turn)) :=
  def_T T sc_next_turn fun f cdv A outer s H E hr hgu tk hp => by
 refine sss_cons ?_ ?_
 refine ss_set (i := 5) sc_next_turn.nd rfl (by first | exact .inl rfl | exact .inr rfl) ?_
 refine se_ix (hu1 hr) ?_ ?_ (fun _ _ => rfl)
 refine se_ix (hu1 hr) ?_ ?_ (fun _ _ => rfl)
 exact se_var 0
 exact se_int
 exact se_int
 refine sss_cons ?_ ?_
 refine ss_if ?_ ?_ ?_
 refine st_cmp (opd_eq hr.units) ?_ ?_ (nomark _)
 exact se_var 5
 exact se_str
 refine sss_one ?_
 refine ss_ret ?_
 exact se_var 4
 exact sss_nil
 refine sss_cons ?_ ?_
 refine ss_if ?_ ?_ ?_
 refine st_cmp (opd_eq hr.units) ?_ ?_ (nomark _)
 exact se_var 5
 exact se_str
 refine sss_one ?_
 refine ss_ret ?_
 refine se_op opd_sub ?_ ?_
 exact se_int
 refine se_ix (hu1 hr) ?_ ?_ (fun _ _ => rfl)
 exact se_var 1
 exact se_int
 exact sss_nil
 refine sss_cons ?_ ?_
 refine ss_if ?_ ?_ ?_
 refine st_cmp (opd_eq hr.units) ?_ ?_ (nomark _)
 exact se_var 5
 exact se_str
 refine sss_one ?_
 refine ss_ret ?_
 exact se_var 3
 exact sss_nil
 refine sss_cons ?_ ?_
 refine ss_if ?_ ?_ ?_
 refine st_cmp (opd_eq hr.units) ?_ ?_ (nomark _)
 exact se_var 5
 exact se_str
 refine sss_one ?_
 refine ss_ret ?_
 refine se_op opd_sub ?_ ?_
 exact se_int
 exact se_var 3
 exact sss_nil
 refine sss_cons ?_ ?_
 refine ss_set (i := 6) sc_next_turn.nd rfl (by first | exact .inl rfl | exact .inr rfl) ?_
 refine se_ix (hu1 hr) ?_ ?_ (fun _ _ => rfl)
 refine se_ix (hu1 hr) ?_ ?_ (fun _ _ => rfl)
 exact se_var 0
 exact se_int
 exact se_int
 refine sss_one ?_
 refine ss_ret ?_
 refine se_ifExp ?_ ?_ ?_
 refine st_cmp (opd_eq hr.units) ?_ ?_ (nomark _)
 refine se_ix (hu1 hr) ?_ ?_ (fun _ _ => rfl)
 exact se_var 6
 refine se_op opd_mod ?_ ?_
 refine se_callB (cd_sumT rfl) (by rfl) z.b_sum bb_sum ?_
 refine sa_cons ?_ ?_
 exact se_var 2
 exact sa_nil
 refine se_callB cd_len (by rfl) z.b_len bb_len ?_
 refine sa_cons ?_ ?_
 exact se_var 6
 exact sa_nil
 exact se_int
 refine se_ix (hu1 hr) ?_ ?_ (fun _ _ => rfl)
 exact se_var 1
 exact se_int
 refine se_op opd_sub ?_ ?_
 exact se_int
 refine se_ix (hu1 hr) ?_ ?_ (fun _ _ => rfl)
 exact se_var 1
 exact se_int
abbrev s_led_race : Stmt := topS 30
theorem sc_led_race : FnScope N_led_race ["rule", "state", "side"] (defScope s_led_race) := ⟨rfl, rfl, rfl, by decide +kernel, rfl, by decide +kernel, by decide +kernel⟩
theorem e_led_race {g_led g_unit_of g_next_turn g_is_won g_begun : GF} (z : Zc K mg) (y : Yc P K mg) (T : Std K mg "led_race" s_led_race ["rule", "state", "side"]) (D_led : Def P w K mg base (caK K) "led" ["rule", "state", "side"] k g_led) (D_unit_of : Def P w K mg base (caK K) "unit_of" ["rule", "score"] k g_unit_of) (D_next_turn : Def P w K mg base (caK K) "next_turn" ["rule", "state", "score", "winner", "hands"] k g_next_turn) (D_is_won : Def P w K mg base (caK K) "is_won" ["rule", "score"] k g_is_won) (D_begun : Def P w K mg base (caK K) "begun" ["rule", "side"] k g_begun) : Def P w K mg base (caK K) "led_race" ["rule", "state", "side"] (k + 1) (bodyT N_led_race 3 (b_led_race g_led g_unit_of g_next_turn g_is_won g_begun)) :=
  def_T T sc_led_race fun f cdv A outer s H E hr hgu tk hp => by
 refine sss_cons ?_ ?_
 refine ss_set (i := 3) sc_led_race.nd rfl (by first | exact .inl rfl | exact .inr rfl) ?_
 refine se_slice ?_ ?_ ?_
 exact se_var 1
 exact so_none
 refine so_some ?_
 exact se_int
 refine sss_cons ?_ ?_
 refine ss_asg ?_ ?_
 refine se_callN D_led hr hgu tk (by rfl) ?_
 refine sa_cons ?_ ?_
 refine se_callN D_unit_of hr hgu tk (by rfl) ?_
 refine sa_cons ?_ ?_
 exact se_var 0
 refine sa_cons ?_ ?_
 exact se_var 3
 exact sa_nil
 refine sa_cons ?_ ?_
 refine se_ix (hu1 hr) ?_ ?_ (fun _ _ => rfl)
 exact se_var 1
 exact se_int
 refine sa_cons ?_ ?_
 exact se_var 2
 exact sa_nil
 refine sg_tup rfl ?_
 refine sgs_cons ?_ ?_
 exact sg_name sc_led_race.nd (i := 4) rfl (by first | exact .inl rfl | exact .inr rfl)
 refine sgs_cons ?_ ?_
 exact sg_name sc_led_race.nd (i := 5) rfl (by first | exact .inl rfl | exact .inr rfl)
 refine sgs_cons ?_ sgs_nil
 exact sg_name sc_led_race.nd (i := 6) rfl (by first | exact .inl rfl | exact .inr rfl)
 refine sss_cons ?_ ?_
 refine ss_if ?_ ?_ ?_
 refine st_cmp opd_isnot ?_ ?_ (nomark _)
 exact se_var 4
 exact se_non
 refine sss_one ?_
 refine ss_ret ?_
 refine se_tup ?_
 refine sa_cons ?_ ?_
 refine se_op opd_add ?_ ?_
 refine se_slice ?_ ?_ ?_
 exact se_var 1
 exact so_none
 refine so_some ?_
 exact se_int
 refine se_tup ?_
 refine sa_cons ?_ ?_
 exact se_var 4
 exact sa_nil
 refine sa_cons ?_ ?_
 exact se_non
 refine sa_cons ?_ ?_
 exact se_non
 exact sa_nil
 exact sss_nil
 refine sss_cons ?_ ?_
 refine ss_set (i := 3) sc_led_race.nd rfl (by first | exact .inl rfl | exact .inr rfl) ?_
 refine se_tup ?_
 refine sa_cons ?_ ?_
 refine se_op opd_sub ?_ ?_
 refine se_op opd_add ?_ ?_
 refine se_ix (hu1 hr) ?_ ?_ (fun _ _ => rfl)
 exact se_var 3
 exact se_int
 exact se_int
 exact se_var 5
 refine sa_cons ?_ ?_
 refine se_op opd_add ?_ ?_
 refine se_ix (hu1 hr) ?_ ?_ (fun _ _ => rfl)
 exact se_var 3
 exact se_int
 exact se_var 5
 exact sa_nil
 refine sss_cons ?_ ?_
 refine ss_set (i := 7) sc_led_race.nd rfl (by first | exact .inl rfl | exact .inr rfl) ?_
 refine se_callN D_next_turn hr hgu tk (by rfl) ?_
 refine sa_cons ?_ ?_
 exact se_var 0
 refine sa_cons ?_ ?_
 exact se_var 1
 refine sa_cons ?_ ?_
 exact se_var 3
 refine sa_cons ?_ ?_
 exact se_var 5
 refine sa_cons ?_ ?_
 exact se_var 6
 exact sa_nil
 refine sss_cons ?_ ?_
 refine ss_if ?_ ?_ ?_
 refine st_val ?_
 refine se_callN D_is_won hr hgu tk (by rfl) ?_
 refine sa_cons ?_ ?_
 exact se_var 0
 refine sa_cons ?_ ?_
 exact se_var 3
 exact sa_nil
 refine sss_one ?_
 refine ss_ret ?_
 refine se_tup ?_
 refine sa_cons ?_ ?_
 exact se_non
 refine sa_cons ?_ ?_
 refine se_ifExp ?_ ?_ ?_
 refine st_cmp opd_gt ?_ ?_ (nomark _)
 refine se_ix (hu1 hr) ?_ ?_ (fun _ _ => rfl)
 exact se_var 3
 exact se_int
 refine se_ix (hu1 hr) ?_ ?_ (fun _ _ => rfl)
 exact se_var 3
 exact se_int
 exact se_int
 exact se_int
 refine sa_cons ?_ ?_
 exact se_var 7
 exact sa_nil
 exact sss_nil
 refine sss_one ?_
 refine ss_ret ?_
 refine se_tup ?_
 refine sa_cons ?_ ?_
 refine se_op opd_add ?_ ?_
 exact se_var 3
 refine se_tup ?_
 refine sa_cons ?_ ?_
 refine se_ix (hu1 hr) ?_ ?_ (fun _ _ => rfl)
 exact se_var 1
 exact se_int
 refine sa_cons ?_ ?_
 exact se_var 7
 refine sa_cons ?_ ?_
 refine se_callN D_begun hr hgu tk (by rfl) ?_
 refine sa_cons ?_ ?_
 refine se_callN D_unit_of hr hgu tk (by rfl) ?_
 refine sa_cons ?_ ?_
 exact se_var 0
 refine sa_cons ?_ ?_
 exact se_var 3
 exact sa_nil
 refine sa_cons ?_ ?_
 exact se_var 7
 exact sa_nil
 exact sa_nil
 refine sa_cons ?_ ?_
 exact se_non
 refine sa_cons ?_ ?_
 exact se_non
 exact sa_nil
abbrev s_led : Stmt := topS 31
theorem sc_led : FnScope N_led ["rule", "state", "side"] (defScope s_led) := ⟨rfl, rfl, rfl, by decide +kernel, rfl, by decide +kernel, by decide +kernel⟩
theorem e_led {g_led_race : GF} (z : Zc K mg) (y : Yc P K mg) (T : Std K mg "led" s_led ["rule", "state", "side"]) (D_led_race : Def P w K mg base (caK K) "led_race" ["rule", "state", "side"] k g_led_race) : Def P w K mg base (caK K) "led" ["rule", "state", "side"] (k + 1) (bodyT N_led 3 (b_led g_led_race)) :=
  def_T T sc_led fun f cdv A outer s H E hr hgu tk hp => by
 refine sss_cons ?_ ?_
 refine ss_if ?_ ?_ ?_
 refine st_cmp (opd_eq hr.units) ?_ ?_ (nomark _)
 refine se_ix (hu1 hr) ?_ ?_ (fun _ _ => rfl)
 exact se_var 0
 exact se_int
 exact se_str
 refine sss_one ?_
 refine ss_ret ?_
 refine se_callN D_led_race hr hgu tk (by rfl) ?_
 refine sa_cons ?_ ?_
 exact se_var 0
 refine sa_cons ?_ ?_
 exact se_var 1
 refine sa_cons ?_ ?_
 exact se_var 2
 exact sa_nil
 exact sss_nil
 refine sss_cons ?_ ?_
 refine ss_if ?_ ?_ ?_
 refine SW.st ?_
 refine sw_and ?_ ?_
 refine st_cmp (opd_eq hr.units) ?_ ?_ (nomark _)
 refine se_ix (hu1 hr) ?_ ?_ (fun _ _ => rfl)
 exact se_var 0
 exact se_int
 exact se_str
 refine sw_and1 ?_
 refine st_cmp (opd_ne hr.units) ?_ ?_ (nomark _)
 exact se_var 2
 refine se_ix (hu1 hr) ?_ ?_ (fun _ _ => rfl)
 exact se_var 1
 exact se_int
 refine sss_one ?_
 refine ss_ret ?_
 refine se_tup ?_
 refine sa_cons ?_ ?_
 refine se_tup ?_
 refine sa_cons ?_ ?_
 exact se_var 2
 exact sa_nil
 refine sa_cons ?_ ?_
 exact se_non
 refine sa_cons ?_ ?_
 exact se_non
 exact sa_nil
 exact sss_nil
 refine sss_one ?_
 refine ss_ret ?_
 refine se_tup ?_
 refine sa_cons ?_ ?_
 exact se_non
 refine sa_cons ?_ ?_
 exact se_var 2
 refine sa_cons ?_ ?_
 refine se_ix (hu1 hr) ?_ ?_ (fun _ _ => rfl)
 exact se_var 1
 exact se_int
 exact sa_nil
abbrev s_server_in : Stmt := topS 32
theorem sc_server_in : FnScope N_server_in ["state"] (defScope s_server_in) := ⟨rfl, rfl, rfl, by decide +kernel, rfl, by decide +kernel, by decide +kernel⟩
theorem e_server_in (z : Zc K mg) (y : Yc P K mg) (T : Std K mg "server_in" s_server_in ["state"]) : Def P w K mg base (caK K) "server_in" ["state"] (k + 1) (bodyT N_server_in 1 (b_server_in)) :=
  def_T T sc_server_in fun f cdv A outer s H E hr hgu tk hp => by
 refine sss_cons ?_ ?_
 refine ss_while 1000000 hp ?_ ?_
 refine st_cmp opd_gt ?_ ?_ (nomark _)
 refine se_callB cd_len (by rfl) z.b_len bb_len ?_
 refine sa_cons ?_ ?_
 exact se_var 0
 exact sa_nil
 exact se_int
 refine sss_one ?_
 refine ss_set (i := 0) sc_server_in.nd rfl (by first | exact .inl rfl | exact .inr rfl) ?_
 refine se_ix (hu1 hr) ?_ ?_ (fun _ _ => rfl)
 exact se_var 0
 exact se_int
 refine sss_one ?_
 refine ss_ret ?_
 refine se_ix (hu1 hr) ?_ ?_ (fun _ _ => rfl)
 exact se_var 0
 exact se_int
abbrev s_scores_in : Stmt := topS 33
theorem sc_scores_in : FnScope N_scores_in ["state"] (defScope s_scores_in) := ⟨rfl, rfl, rfl, by decide +kernel, rfl, by decide +kernel, by decide +kernel⟩
theorem e_scores_in (z : Zc K mg) (y : Yc P K mg) (T : Std K mg "scores_in" s_scores_in ["state"]) : Def P w K mg base (caK K) "scores_in" ["state"] (k + 1) (bodyC N_scores_in 1 (b_scores_in)) :=
  def_C T sc_scores_in fun f cdv A outer s H E hr hgu tk hp => by
 refine sss_cons ?_ ?_
 refine ss_set (i := 1) sc_scores_in.nd rfl (by first | exact .inl rfl | exact .inr rfl) ?_
 refine se_lstC ?_
 exact sa_nil
 refine sss_cons ?_ ?_
 refine ss_while 1000000 hp ?_ ?_
 refine st_cmp opd_gt ?_ ?_ (nomark _)
 refine se_callB cd_len (by rfl) z.b_len bb_len ?_
 refine sa_cons ?_ ?_
 exact se_var 0
 exact sa_nil
 exact se_int
 refine sss_cons ?_ ?_
 refine ss_expr ?_
 refine se_app1 ?_ ?_
 exact se_var 1
 refine se_slice ?_ ?_ ?_
 exact se_var 0
 exact so_none
 refine so_some ?_
 exact se_int
 refine sss_one ?_
 refine ss_set (i := 0) sc_scores_in.nd rfl (by first | exact .inl rfl | exact .inr rfl) ?_
 refine se_ix (hu1 hr) ?_ ?_ (fun _ _ => rfl)
 exact se_var 0
 exact se_int
 refine sss_one ?_
 refine ss_ret ?_
 exact se_var 1
abbrev s_led_by : Stmt := topS 34
theorem sc_led_by : FnScope N_led_by ["rule", "first", "rallies"] (defScope s_led_by) := ⟨rfl, rfl, rfl, by decide +kernel, rfl, by decide +kernel, by decide +kernel⟩
theorem e_led_by {g_begun g_led : GF} (z : Zc K mg) (y : Yc P K mg) (T : Std K mg "led_by" s_led_by ["rule", "first", "rallies"]) (D_begun : Def P w K mg base (caK K) "begun" ["rule", "side"] k g_begun) (D_led : Def P w K mg base (caK K) "led" ["rule", "state", "side"] k g_led) : Def P w K mg base (caK K) "led_by" ["rule", "first", "rallies"] (k + 1) (bodyT N_led_by 3 (b_led_by g_begun g_led)) :=
  def_T T sc_led_by fun f cdv A outer s H E hr hgu tk hp => by
 refine sss_cons ?_ ?_
 refine ss_set (i := 3) sc_led_by.nd rfl (by first | exact .inl rfl | exact .inr rfl) ?_
 refine se_callN D_begun hr hgu tk (by rfl) ?_
 refine sa_cons ?_ ?_
 exact se_var 0
 refine sa_cons ?_ ?_
 exact se_var 1
 exact sa_nil
 refine sss_cons ?_ ?_
 refine ss_for hp rfl ?_ ?_ ?_
 refine si_enum (by rfl) z.b_enumerate ?_
 exact se_var 2
 refine sg_tup rfl ?_
 refine sgs_cons ?_ ?_
 exact sg_name sc_led_by.nd (i := 4) rfl (by first | exact .inl rfl | exact .inr rfl)
 refine sgs_cons ?_ sgs_nil
 exact sg_name sc_led_by.nd (i := 5) rfl (by first | exact .inl rfl | exact .inr rfl)
 refine sss_cons ?_ ?_
 refine ss_asg ?_ ?_
 refine se_callN D_led hr hgu tk (by rfl) ?_
 refine sa_cons ?_ ?_
 exact se_var 0
 refine sa_cons ?_ ?_
 exact se_var 3
 refine sa_cons ?_ ?_
 exact se_var 5
 exact sa_nil
 refine sg_tup rfl ?_
 refine sgs_cons ?_ ?_
 exact sg_name sc_led_by.nd (i := 3) rfl (by first | exact .inl rfl | exact .inr rfl)
 refine sgs_cons ?_ ?_
 exact sg_name sc_led_by.nd (i := 6) rfl (by first | exact .inl rfl | exact .inr rfl)
 refine sgs_cons ?_ sgs_nil
 exact sg_name sc_led_by.nd (i := 7) rfl (by first | exact .inl rfl | exact .inr rfl)
 refine sss_one ?_
 refine ss_if ?_ ?_ ?_
 refine st_cmp opd_is ?_ ?_ (nomark _)
 exact se_var 3
 exact se_non
 refine sss_one ?_
 refine ss_ret ?_
 refine se_tup ?_
 refine sa_cons ?_ ?_
 exact se_non
 refine sa_cons ?_ ?_
 exact se_var 6
 refine sa_cons ?_ ?_
 refine se_op opd_add ?_ ?_
 exact se_var 4
 exact se_int
 exact sa_nil
 exact sss_nil
 refine sss_one ?_
 refine ss_ret ?_
 refine se_tup ?_
 refine sa_cons ?_ ?_
 exact se_var 3
 refine sa_cons ?_ ?_
 exact se_non
 refine sa_cons ?_ ?_
 refine se_callB cd_len (by rfl) z.b_len bb_len ?_
 refine sa_cons ?_ ?_
 exact se_var 2
 exact sa_nil
 exact sa_nil
abbrev s_check_match : Stmt := topS 36
theorem sc_check_match : FnScope N_check_match ["rule", "first", "rallies"] (defScope s_check_match) := ⟨rfl, rfl, rfl, by decide +kernel, rfl, by decide +kernel, by decide +kernel⟩
theorem e_check_match {g_check_rule g_check_side g_check_rallies : GF} (z : Zc K mg) (y : Yc P K mg) (T : Std K mg "check_match" s_check_match ["rule", "first", "rallies"]) (D_check_rule : Def P w K mg base (caK K) "check_rule" ["rule"] k g_check_rule) (D_check_side : Def P w K mg base (caK K) "check_side" ["side"] k g_check_side) (D_check_rallies : Def P w K mg base (caK K) "check_rallies" ["rallies"] k g_check_rallies) : Def P w K mg base (caK K) "check_match" ["rule", "first", "rallies"] (k + 1) (bodyT N_check_match 3 (b_check_match g_check_rule g_check_side g_check_rallies)) :=
  def_T T sc_check_match fun f cdv A outer s H E hr hgu tk hp => by
 refine sss_cons ?_ ?_
 refine ss_expr ?_
 refine se_callN D_check_rule hr hgu tk (by rfl) ?_
 refine sa_cons ?_ ?_
 exact se_var 0
 exact sa_nil
 refine sss_cons ?_ ?_
 refine ss_expr ?_
 refine se_callN D_check_side hr hgu tk (by rfl) ?_
 refine sa_cons ?_ ?_
 exact se_var 1
 exact sa_nil
 refine sss_one ?_
 refine ss_expr ?_
 refine se_callN D_check_rallies hr hgu tk (by rfl) ?_
 refine sa_cons ?_ ?_
 exact se_var 2
 exact sa_nil
abbrev s_behind : Stmt := topS 37
theorem sc_behind : FnScope N_behind ["rule", "first", "rallies"] (defScope s_behind) := ⟨rfl, rfl, rfl, by decide +kernel, rfl, by decide +kernel, by decide +kernel⟩
theorem e_behind {g_led_by : GF} (z : Zc K mg) (y : Yc P K mg) (T : Std K mg "behind" s_behind ["rule", "first", "rallies"]) (hk : 2 ≤ k) (D_led_by : Def P w K mg base (caK K) "led_by" ["rule", "first", "rallies"] k g_led_by) : Def P w K mg base (caK K) "behind" ["rule", "first", "rallies"] (k + 1) (bodyT N_behind 3 (b_behind g_led_by)) :=
  def_T T sc_behind fun f cdv A outer s H E hr hgu tk hp => by
 refine sss_cons ?_ ?_
 refine ss_asg ?_ ?_
 refine se_callN D_led_by hr hgu tk (by rfl) ?_
 refine sa_cons ?_ ?_
 exact se_var 0
 refine sa_cons ?_ ?_
 exact se_var 1
 refine sa_cons ?_ ?_
 exact se_var 2
 exact sa_nil
 refine sg_tup rfl ?_
 refine sgs_cons ?_ ?_
 exact sg_name sc_behind.nd (i := 3) rfl (by first | exact .inl rfl | exact .inr rfl)
 refine sgs_cons ?_ ?_
 exact sg_name sc_behind.nd (i := 4) rfl (by first | exact .inl rfl | exact .inr rfl)
 refine sgs_cons ?_ sgs_nil
 exact sg_name sc_behind.nd (i := 5) rfl (by first | exact .inl rfl | exact .inr rfl)
 refine sss_cons ?_ ?_
 refine ss_if ?_ ?_ ?_
 refine st_cmp opd_lt ?_ ?_ (nomark _)
 exact se_var 5
 refine se_callB cd_len (by rfl) z.b_len bb_len ?_
 refine sa_cons ?_ ?_
 exact se_var 2
 exact sa_nil
 refine sss_one ?_
 refine ss_raise y.x_Ended (room_two hk hr) tk rfl (by rfl) ?_
 exact se_var 5
 exact sss_nil
 refine sss_one ?_
 refine ss_ret ?_
 refine se_tup ?_
 refine sa_cons ?_ ?_
 exact se_var 3
 refine sa_cons ?_ ?_
 exact se_var 4
 exact sa_nil
abbrev s_going_on : Stmt := topS 38
theorem sc_going_on : FnScope N_going_on ["rule", "first", "rallies"] (defScope s_going_on) := ⟨rfl, rfl, rfl, by decide +kernel, rfl, by decide +kernel, by decide +kernel⟩
theorem e_going_on {g_behind : GF} (z : Zc K mg) (y : Yc P K mg) (T : Std K mg "going_on" s_going_on ["rule", "first", "rallies"]) (hk : 2 ≤ k) (D_behind : Def P w K mg base (caK K) "behind" ["rule", "first", "rallies"] k g_behind) : Def P w K mg base (caK K) "going_on" ["rule", "first", "rallies"] (k + 1) (bodyT N_going_on 3 (b_going_on g_behind)) :=
  def_T T sc_going_on fun f cdv A outer s H E hr hgu tk hp => by
 refine sss_cons ?_ ?_
 refine ss_asg ?_ ?_
 refine se_callN D_behind hr hgu tk (by rfl) ?_
 refine sa_cons ?_ ?_
 exact se_var 0
 refine sa_cons ?_ ?_
 exact se_var 1
 refine sa_cons ?_ ?_
 exact se_var 2
 exact sa_nil
 refine sg_tup rfl ?_
 refine sgs_cons ?_ ?_
 exact sg_name sc_going_on.nd (i := 3) rfl (by first | exact .inl rfl | exact .inr rfl)
 refine sgs_cons ?_ sgs_nil
 exact sg_name sc_going_on.nd (i := 4) rfl (by first | exact .inl rfl | exact .inr rfl)
 refine sss_cons ?_ ?_
 refine ss_if ?_ ?_ ?_
 refine st_cmp opd_is ?_ ?_ (nomark _)
 exact se_var 3
 exact se_non
 refine sss_one ?_
 refine ss_raise y.x_Ended (room_two hk hr) tk rfl (by rfl) ?_
 refine se_callB cd_len (by rfl) z.b_len bb_len ?_
 refine sa_cons ?_ ?_
 exact se_var 2
 exact sa_nil
 exact sss_nil
 refine sss_one ?_
 refine ss_ret ?_
 exact se_var 3
abbrev s_winner_after : Stmt := topS 39
theorem sc_winner_after : FnScope N_winner_after ["rule", "first", "rallies"] (defScope s_winner_after) := ⟨rfl, rfl, rfl, by decide +kernel, rfl, by decide +kernel, by decide +kernel⟩
theorem e_winner_after {g_check_match g_behind : GF} (z : Zc K mg) (y : Yc P K mg) (T : Std K mg "winner_after" s_winner_after ["rule", "first", "rallies"]) (D_check_match : Def P w K mg base (caK K) "check_match" ["rule", "first", "rallies"] k g_check_match) (D_behind : Def P w K mg base (caK K) "behind" ["rule", "first", "rallies"] k g_behind) : Def P w K mg base (caK K) "winner_after" ["rule", "first", "rallies"] (k + 1) (bodyT N_winner_after 3 (b_winner_after g_check_match g_behind)) :=
  def_T T sc_winner_after fun f cdv A outer s H E hr hgu tk hp => by
 refine sss_cons ?_ ?_
 refine ss_expr ?_
 refine se_callN D_check_match hr hgu tk (by rfl) ?_
 refine sa_cons ?_ ?_
 exact se_var 0
 refine sa_cons ?_ ?_
 exact se_var 1
 refine sa_cons ?_ ?_
 exact se_var 2
 exact sa_nil
 refine sss_one ?_
 refine ss_ret ?_
 refine se_ix (hu1 hr) ?_ ?_ (fun _ _ => rfl)
 refine se_callN D_behind hr hgu tk (by rfl) ?_
 refine sa_cons ?_ ?_
 exact se_var 0
 refine sa_cons ?_ ?_
 exact se_var 1
 refine sa_cons ?_ ?_
 exact se_var 2
 exact sa_nil
 exact se_int
abbrev s_server_after : Stmt := topS 40
theorem sc_server_after : FnScope N_server_after ["rule", "first", "rallies"] (defScope s_server_after) := ⟨rfl, rfl, rfl, by decide +kernel, rfl, by decide +kernel, by decide +kernel⟩
theorem e_server_after {g_check_match g_server_in g_going_on : GF} (z : Zc K mg) (y : Yc P K mg) (T : Std K mg "server_after" s_server_after ["rule", "first", "rallies"]) (D_check_match : Def P w K mg base (caK K) "check_match" ["rule", "first", "rallies"] k g_check_match) (D_server_in : Def P w K mg base (caK K) "server_in" ["state"] k g_server_in) (D_going_on : Def P w K mg base (caK K) "going_on" ["rule", "first", "rallies"] k g_going_on) : Def P w K mg base (caK K) "server_after" ["rule", "first", "rallies"] (k + 1) (bodyT N_server_after 3 (b_server_after g_check_match g_server_in g_going_on)) :=
  def_T T sc_server_after fun f cdv A outer s H E hr hgu tk hp => by
 refine sss_cons ?_ ?_
 refine ss_expr ?_
 refine se_callN D_check_match hr hgu tk (by rfl) ?_
 refine sa_cons ?_ ?_
 exact se_var 0
 refine sa_cons ?_ ?_
 exact se_var 1
 refine sa_cons ?_ ?_
 exact se_var 2
 exact sa_nil
 refine sss_one ?_
 refine ss_ret ?_
 refine se_callN D_server_in hr hgu tk (by rfl) ?_
 refine sa_cons ?_ ?_
 refine se_callN D_going_on hr hgu tk (by rfl) ?_
 refine sa_cons ?_ ?_
 exact se_var 0
 refine sa_cons ?_ ?_
 exact se_var 1
 refine sa_cons ?_ ?_
 exact se_var 2
 exact sa_nil
 exact sa_nil
abbrev s_last_score : Stmt := topS 41
theorem sc_last_score : FnScope N_last_score ["rule", "state", "side"] (defScope s_last_score) := ⟨rfl, rfl, rfl, by decide +kernel, rfl, by decide +kernel, by decide +kernel⟩
theorem e_last_score {g_led g_unit_of : GF} (z : Zc K mg) (y : Yc P K mg) (T : Std K mg "last_score" s_last_score ["rule", "state", "side"]) (D_led : Def P w K mg base (caK K) "led" ["rule", "state", "side"] k g_led) (D_unit_of : Def P w K mg base (caK K) "unit_of" ["rule", "score"] k g_unit_of) : Def P w K mg base (caK K) "last_score" ["rule", "state", "side"] (k + 1) (bodyT N_last_score 3 (b_last_score g_led g_unit_of)) :=
  def_T T sc_last_score fun f cdv A outer s H E hr hgu tk hp => by
 refine sss_cons ?_ ?_
 refine ss_set (i := 3) sc_last_score.nd rfl (by first | exact .inl rfl | exact .inr rfl) ?_
 refine se_ix (hu1 hr) ?_ ?_ (fun _ _ => rfl)
 refine se_callN D_led hr hgu tk (by rfl) ?_
 refine sa_cons ?_ ?_
 refine se_callN D_unit_of hr hgu tk (by rfl) ?_
 refine sa_cons ?_ ?_
 exact se_var 0
 refine sa_cons ?_ ?_
 refine se_slice ?_ ?_ ?_
 exact se_var 1
 exact so_none
 refine so_some ?_
 exact se_int
 exact sa_nil
 refine sa_cons ?_ ?_
 refine se_ix (hu1 hr) ?_ ?_ (fun _ _ => rfl)
 exact se_var 1
 exact se_int
 refine sa_cons ?_ ?_
 exact se_var 2
 exact sa_nil
 exact se_int
 refine sss_one ?_
 refine ss_ret ?_
 refine se_tup ?_
 refine sa_cons ?_ ?_
 refine se_op opd_sub ?_ ?_
 refine se_op opd_add ?_ ?_
 refine se_ix (hu1 hr) ?_ ?_ (fun _ _ => rfl)
 exact se_var 1
 exact se_int
 exact se_int
 exact se_var 3
 refine sa_cons ?_ ?_
 refine se_op opd_add ?_ ?_
 refine se_ix (hu1 hr) ?_ ?_ (fun _ _ => rfl)
 exact se_var 1
 exact se_int
 exact se_var 3
 exact sa_nil
abbrev s_scores_after : Stmt := topS 42
theorem sc_scores_after : FnScope N_scores_after ["rule", "first", "rallies"] (defScope s_scores_after) := ⟨rfl, rfl, rfl, by decide +kernel, rfl, by decide +kernel, by decide +kernel⟩
theorem e_scores_after {g_check_match g_behind g_scores_in g_last_score g_led_by : GF} (z : Zc K mg) (y : Yc P K mg) (T : Std K mg "scores_after" s_scores_after ["rule", "first", "rallies"]) (D_check_match : Def P w K mg base (caK K) "check_match" ["rule", "first", "rallies"] k g_check_match) (D_behind : Def P w K mg base (caK K) "behind" ["rule", "first", "rallies"] k g_behind) (D_scores_in : Def P w K mg base (caK K) "scores_in" ["state"] k g_scores_in) (D_last_score : Def P w K mg base (caK K) "last_score" ["rule", "state", "side"] k g_last_score) (D_led_by : Def P w K mg base (caK K) "led_by" ["rule", "first", "rallies"] k g_led_by) : Def P w K mg base (caK K) "scores_after" ["rule", "first", "rallies"] (k + 1) (bodyC N_scores_after 3 (b_scores_after g_check_match g_behind g_scores_in g_last_score g_led_by)) :=
  def_C T sc_scores_after fun f cdv A outer s H E hr hgu tk hp => by
 refine sss_cons ?_ ?_
 refine ss_expr ?_
 refine se_callN D_check_match hr hgu tk (by rfl) ?_
 refine sa_cons ?_ ?_
 exact se_var 0
 refine sa_cons ?_ ?_
 exact se_var 1
 refine sa_cons ?_ ?_
 exact se_var 2
 exact sa_nil
 refine sss_cons ?_ ?_
 refine ss_asg ?_ ?_
 refine se_callN D_behind hr hgu tk (by rfl) ?_
 refine sa_cons ?_ ?_
 exact se_var 0
 refine sa_cons ?_ ?_
 exact se_var 1
 refine sa_cons ?_ ?_
 exact se_var 2
 exact sa_nil
 refine sg_tup rfl ?_
 refine sgs_cons ?_ ?_
 exact sg_name sc_scores_after.nd (i := 3) rfl (by first | exact .inl rfl | exact .inr rfl)
 refine sgs_cons ?_ sgs_nil
 exact sg_name sc_scores_after.nd (i := 4) rfl (by first | exact .inl rfl | exact .inr rfl)
 refine sss_cons ?_ ?_
 refine ss_if ?_ ?_ ?_
 refine st_cmp opd_isnot ?_ ?_ (nomark _)
 exact se_var 3
 exact se_non
 refine sss_one ?_
 refine ss_ret ?_
 refine se_callN D_scores_in hr hgu tk (by rfl) ?_
 refine sa_cons ?_ ?_
 exact se_var 3
 exact sa_nil
 exact sss_nil
 refine sss_cons ?_ ?_
 refine ss_if ?_ ?_ ?_
 refine st_cmp (opd_ne hr.units) ?_ ?_ (nomark _)
 refine se_ix (hu1 hr) ?_ ?_ (fun _ _ => rfl)
 exact se_var 0
 exact se_int
 exact se_str
 refine sss_one ?_
 refine ss_ret ?_
 refine se_lstC ?_
 exact sa_nil
 exact sss_nil
 refine sss_one ?_
 refine ss_ret ?_
 refine se_lstC ?_
 refine sa_cons ?_ ?_
 refine se_callN D_last_score hr hgu tk (by rfl) ?_
 refine sa_cons ?_ ?_
 exact se_var 0
 refine sa_cons ?_ ?_
 refine se_ix (hu1 hr) ?_ ?_ (fun _ _ => rfl)
 refine se_callN D_led_by hr hgu tk (by rfl) ?_
 refine sa_cons ?_ ?_
 exact se_var 0
 refine sa_cons ?_ ?_
 exact se_var 1
 refine sa_cons ?_ ?_
 refine se_slice ?_ ?_ ?_
 exact se_var 2
 exact so_none
 refine so_some ?_
 refine se_neg ?_
 exact se_int
 exact sa_nil
 exact se_int
 refine sa_cons ?_ ?_
 refine se_ix (hu1 hr) ?_ ?_ (fun _ _ => rfl)
 exact se_var 2
 refine se_neg ?_
 exact se_int
 exact sa_nil
 exact sa_nil
abbrev s_servers_of : Stmt := topS 43
theorem sc_servers_of : FnScope N_servers_of ["rule", "first", "rallies"] (defScope s_servers_of) := ⟨rfl, rfl, rfl, by decide +kernel, rfl, by decide +kernel, by decide +kernel⟩
theorem e_servers_of {g_check_match g_behind g_begun g_server_in g_led : GF} (z : Zc K mg) (y : Yc P K mg) (T : Std K mg "servers_of" s_servers_of ["rule", "first", "rallies"]) (D_check_match : Def P w K mg base (caK K) "check_match" ["rule", "first", "rallies"] k g_check_match) (D_behind : Def P w K mg base (caK K) "behind" ["rule", "first", "rallies"] k g_behind) (D_begun : Def P w K mg base (caK K) "begun" ["rule", "side"] k g_begun) (D_server_in : Def P w K mg base (caK K) "server_in" ["state"] k g_server_in) (D_led : Def P w K mg base (caK K) "led" ["rule", "state", "side"] k g_led) : Def P w K mg base (caK K) "servers_of" ["rule", "first", "rallies"] (k + 1) (bodyC N_servers_of 3 (b_servers_of g_check_match g_behind g_begun g_server_in g_led)) :=
  def_C T sc_servers_of fun f cdv A outer s H E hr hgu tk hp => by
 refine sss_cons ?_ ?_
 refine ss_expr ?_
 refine se_callN D_check_match hr hgu tk (by rfl) ?_
 refine sa_cons ?_ ?_
 exact se_var 0
 refine sa_cons ?_ ?_
 exact se_var 1
 refine sa_cons ?_ ?_
 exact se_var 2
 exact sa_nil
 refine sss_cons ?_ ?_
 refine ss_expr ?_
 refine se_callN D_behind hr hgu tk (by rfl) ?_
 refine sa_cons ?_ ?_
 exact se_var 0
 refine sa_cons ?_ ?_
 exact se_var 1
 refine sa_cons ?_ ?_
 exact se_var 2
 exact sa_nil
 refine sss_cons ?_ ?_
 refine ss_set (i := 3) sc_servers_of.nd rfl (by first | exact .inl rfl | exact .inr rfl) ?_
 refine se_lstC ?_
 exact sa_nil
 refine sss_cons ?_ ?_
 refine ss_set (i := 4) sc_servers_of.nd rfl (by first | exact .inl rfl | exact .inr rfl) ?_
 refine se_callN D_begun hr hgu tk (by rfl) ?_
 refine sa_cons ?_ ?_
 exact se_var 0
 refine sa_cons ?_ ?_
 exact se_var 1
 exact sa_nil
 refine sss_cons ?_ ?_
 refine ss_for hp rfl ?_ ?_ ?_
 refine si_any ?_
 exact se_var 2
 exact sg_name sc_servers_of.nd (i := 5) rfl (by first | exact .inl rfl | exact .inr rfl)
 refine sss_cons ?_ ?_
 refine ss_expr ?_
 refine se_app1 ?_ ?_
 exact se_var 3
 refine se_callN D_server_in hr hgu tk (by rfl) ?_
 refine sa_cons ?_ ?_
 exact se_var 4
 exact sa_nil
 refine sss_one ?_
 refine ss_set (i := 4) sc_servers_of.nd rfl (by first | exact .inl rfl | exact .inr rfl) ?_
 refine se_ix (hu1 hr) ?_ ?_ (fun _ _ => rfl)
 refine se_callN D_led hr hgu tk (by rfl) ?_
 refine sa_cons ?_ ?_
 exact se_var 0
 refine sa_cons ?_ ?_
 exact se_var 4
 refine sa_cons ?_ ?_
 exact se_var 5
 exact sa_nil
 exact se_int
 refine sss_one ?_
 refine ss_ret ?_
 exact se_var 3
abbrev s__law_hash : Stmt := topS 45
theorem sc__law_hash : FnScope N__law_hash ["seed", "index"] (defScope s__law_hash) := ⟨rfl, rfl, rfl, by decide +kernel, rfl, by decide +kernel, by decide +kernel⟩
theorem e__law_hash (z : Zc K mg) (y : Yc P K mg) (T : Std K mg "_law_hash" s__law_hash ["seed", "index"]) : Def P w K mg base (caK K) "_law_hash" ["seed", "index"] (k + 1) (bodyT N__law_hash 2 (b__law_hash)) :=
  def_T T sc__law_hash fun f cdv A outer s H E hr hgu tk hp => by
 refine sss_cons ?_ ?_
 refine ss_set (i := 2) sc__law_hash.nd rfl (by first | exact .inl rfl | exact .inr rfl) ?_
 refine se_op opd_mod ?_ ?_
 refine se_callTy cd_int (by rfl) z.b_int bb_int ?_
 refine sa_cons ?_ ?_
 refine se_op opd_add ?_ ?_
 refine se_op opd_add ?_ ?_
 refine se_op opd_add ?_ ?_
 refine se_op opd_mul ?_ ?_
 exact se_var 0
 exact se_int
 refine se_op opd_mul ?_ ?_
 refine se_op opd_mul ?_ ?_
 exact se_int
 exact se_var 1
 exact se_var 1
 refine se_op opd_mul ?_ ?_
 exact se_int
 exact se_var 1
 exact se_int
 exact sa_nil
 exact se_int
 refine sss_cons ?_ ?_
 refine ss_set (i := 2) sc__law_hash.nd rfl (by first | exact .inl rfl | exact .inr rfl) ?_
 refine se_op opd_mod ?_ ?_
 refine se_callTy cd_int (by rfl) z.b_int bb_int ?_
 refine sa_cons ?_ ?_
 refine se_op opd_add ?_ ?_
 refine se_op opd_add ?_ ?_
 refine se_op opd_mul ?_ ?_
 exact se_var 2
 exact se_var 2
 refine se_op opd_mul ?_ ?_
 exact se_int
 exact se_var 1
 exact se_int
 exact sa_nil
 exact se_int
 refine sss_one ?_
 refine ss_ret ?_
 refine se_op opd_mod ?_ ?_
 refine se_callTy cd_int (by rfl) z.b_int bb_int ?_
 refine sa_cons ?_ ?_
 refine se_op opd_mul ?_ ?_
 exact se_var 2
 exact se_int
 exact sa_nil
 exact se_int
abbrev s__law_random : Stmt := topS 46
theorem sc__law_random : FnScope N__law_random ["generator", "bound"] (defScope s__law_random) := ⟨rfl, rfl, rfl, by decide +kernel, rfl, by decide +kernel, by decide +kernel⟩
theorem e__law_random {g__law_hash : GF} (z : Zc K mg) (y : Yc P K mg) (T : Std K mg "_law_random" s__law_random ["generator", "bound"]) (D__law_hash : Def P w K mg base (caK K) "_law_hash" ["seed", "index"] k g__law_hash) : Def P w K mg base (caK K) "_law_random" ["generator", "bound"] (k + 1) (bodyT N__law_random 2 (b__law_random g__law_hash)) :=
  def_T T sc__law_random fun f cdv A outer s H E hr hgu tk hp => by
 refine sss_cons ?_ ?_
 refine ss_if ?_ ?_ ?_
 refine st_cmp opd_gt ?_ ?_ (nomark _)
 refine se_ix (hu1 hr) ?_ ?_ (fun _ _ => rfl)
 exact se_var 0
 exact se_int
 exact se_int
 refine sss_cons ?_ ?_
 refine ss_set (i := 2) sc__law_random.nd rfl (by first | exact .inl rfl | exact .inr rfl) ?_
 refine se_op opd_mod ?_ ?_
 refine se_callTy cd_int (by rfl) z.b_int bb_int ?_
 refine sa_cons ?_ ?_
 refine se_ix (hu1 hr) ?_ ?_ (fun _ _ => rfl)
 exact se_var 0
 exact se_int
 exact sa_nil
 exact se_var 1
 refine sss_cons ?_ ?_
 refine ss_asg ?_ ?_
 refine se_op opd_fdiv ?_ ?_
 refine se_ix (hu1 hr) ?_ ?_ (fun _ _ => rfl)
 exact se_var 0
 exact se_int
 exact se_var 1
 refine sg_sub ?_ ?_ (by intro _; rfl)
 exact se_var 0
 exact se_int
 refine sss_one ?_
 refine ss_ret ?_
 exact se_var 2
 exact sss_nil
 refine sss_cons ?_ ?_
 refine ss_set (i := 2) sc__law_random.nd rfl (by first | exact .inl rfl | exact .inr rfl) ?_
 exact se_int
 refine sss_cons ?_ ?_
 refine ss_for hp rfl ?_ ?_ ?_
 refine si_range1 (by rfl) z.b_range ?_
 refine sa_cons ?_ ?_
 refine se_op opd_add ?_ ?_
 exact se_int
 refine se_op opd_fdiv ?_ ?_
 refine se_bits ?_
 exact se_var 1
 exact se_int
 exact sa_nil
 exact sg_name sc__law_random.nd (i := 3) rfl (by first | exact .inl rfl | exact .inr rfl)
 refine sss_cons ?_ ?_
 refine ss_asg ?_ ?_
 refine se_op opd_add ?_ ?_
 refine se_ix (hu1 hr) ?_ ?_ (fun _ _ => rfl)
 exact se_var 0
 exact se_int
 exact se_int
 refine sg_sub ?_ ?_ (by intro _; rfl)
 exact se_var 0
 exact se_int
 refine sss_one ?_
 refine ss_set (i := 2) sc__law_random.nd rfl (by first | exact .inl rfl | exact .inr rfl) ?_
 refine se_op opd_add ?_ ?_
 refine se_op opd_mul ?_ ?_
 exact se_var 2
 exact se_int
 refine se_callN D__law_hash hr hgu tk (by rfl) ?_
 refine sa_cons ?_ ?_
 refine se_ix (hu1 hr) ?_ ?_ (fun _ _ => rfl)
 exact se_var 0
 exact se_int
 refine sa_cons ?_ ?_
 refine se_ix (hu1 hr) ?_ ?_ (fun _ _ => rfl)
 exact se_var 0
 exact se_int
 exact sa_nil
 refine sss_one ?_
 refine ss_ret ?_
 refine se_op opd_mod ?_ ?_
 refine se_callTy cd_int (by rfl) z.b_int bb_int ?_
 refine sa_cons ?_ ?_
 exact se_var 2
 exact sa_nil
 exact se_var 1
abbrev s__law_cell : Stmt := topS 47
theorem sc__law_cell : FnScope N__law_cell ["script", "index"] (defScope s__law_cell) := ⟨rfl, rfl, rfl, by decide +kernel, rfl, by decide +kernel, by decide +kernel⟩
theorem e__law_cell (z : Zc K mg) (y : Yc P K mg) (T : Std K mg "_law_cell" s__law_cell ["script", "index"]) : Def P w K mg base (caK K) "_law_cell" ["script", "index"] (k + 1) (bodyT N__law_cell 2 (b__law_cell)) :=
  def_T T sc__law_cell fun f cdv A outer s H E hr hgu tk hp => by
 refine sss_cons ?_ ?_
 refine ss_if ?_ ?_ ?_
 refine st_cmp opd_lt ?_ ?_ (nomark _)
 exact se_var 1
 refine se_callB cd_len (by rfl) z.b_len bb_len ?_
 refine sa_cons ?_ ?_
 exact se_var 0
 exact sa_nil
 refine sss_one ?_
 refine ss_ret ?_
 refine se_ix (hu1 hr) ?_ ?_ (fun _ _ => rfl)
 exact se_var 0
 exact se_var 1
 exact sss_nil
 refine sss_one ?_
 refine ss_ret ?_
 refine se_op opd_mod ?_ ?_
 refine se_callB (cd_sumT rfl) (by rfl) z.b_sum bb_sum ?_
 refine sa_cons ?_ ?_
 refine se_slice ?_ ?_ ?_
 exact se_var 0
 exact so_none
 refine so_some ?_
 exact se_int
 exact sa_nil
 exact se_int
abbrev s__law_generator : Stmt := topS 48
theorem sc__law_generator : FnScope N__law_generator ["script", "index"] (defScope s__law_generator) := ⟨rfl, rfl, rfl, by decide +kernel, rfl, by decide +kernel, by decide +kernel⟩
theorem e__law_generator {g__law_cell : GF} (z : Zc K mg) (y : Yc P K mg) (T : Std K mg "_law_generator" s__law_generator ["script", "index"]) (D__law_cell : Def P w K mg base (caK K) "_law_cell" ["script", "index"] k g__law_cell) : Def P w K mg base (caK K) "_law_generator" ["script", "index"] (k + 1) (bodyD N__law_generator 2 (b__law_generator g__law_cell)) :=
  def_D T sc__law_generator fun f cdv A outer s H E hr hgu tk hp => by
 refine sss_cons ?_ ?_
 refine ss_set (i := 2) sc__law_generator.nd rfl (by first | exact .inl rfl | exact .inr rfl) ?_
 refine se_callN D__law_cell hr hgu tk (by rfl) ?_
 refine sa_cons ?_ ?_
 exact se_var 0
 refine sa_cons ?_ ?_
 exact se_var 1
 exact sa_nil
 refine sss_one ?_
 refine ss_ret ?_
 refine se_lstC ?_
 refine sa_cons ?_ ?_
 refine se_op opd_mod ?_ ?_
 refine se_callTy cd_int (by rfl) z.b_int bb_int ?_
 refine sa_cons ?_ ?_
 refine se_callB (cd_maxT rfl (hu1 hr)) (by rfl) z.b_max bb_max ?_
 refine sa_cons ?_ ?_
 refine se_op opd_sub ?_ ?_
 exact se_var 2
 refine se_op opd_pow ?_ ?_
 exact se_int
 exact se_int
 refine sa_cons ?_ ?_
 exact se_int
 exact sa_nil
 exact sa_nil
 refine se_op opd_pow ?_ ?_
 refine se_op opd_pow ?_ ?_
 exact se_int
 exact se_int
 exact se_int
 refine sa_cons ?_ ?_
 refine se_op opd_mod ?_ ?_
 refine se_callTy cd_int (by rfl) z.b_int bb_int ?_
 refine sa_cons ?_ ?_
 exact se_var 2
 exact sa_nil
 exact se_int
 refine sa_cons ?_ ?_
 refine se_op opd_mul ?_ ?_
 exact se_int
 exact se_var 1
 exact sa_nil
abbrev s__law_pick : Stmt := topS 49
theorem sc__law_pick : FnScope N__law_pick ["generator", "things"] (defScope s__law_pick) := ⟨rfl, rfl, rfl, by decide +kernel, rfl, by decide +kernel, by decide +kernel⟩
theorem e__law_pick {g__law_random : GF} (z : Zc K mg) (y : Yc P K mg) (T : Std K mg "_law_pick" s__law_pick ["generator", "things"]) (D__law_random : Def P w K mg base (caK K) "_law_random" ["generator", "bound"] k g__law_random) : Def P w K mg base (caK K) "_law_pick" ["generator", "things"] (k + 1) (bodyT N__law_pick 2 (b__law_pick g__law_random)) :=
  def_T T sc__law_pick fun f cdv A outer s H E hr hgu tk hp => by
 refine sss_one ?_
 refine ss_ret ?_
 refine se_ix (hu1 hr) ?_ ?_ (fun _ _ => rfl)
 exact se_var 1
 refine se_callN D__law_random hr hgu tk (by rfl) ?_
 refine sa_cons ?_ ?_
 exact se_var 0
 refine sa_cons ?_ ?_
 refine se_callB cd_len (by rfl) z.b_len bb_len ?_
 refine sa_cons ?_ ?_
 exact se_var 1
 exact sa_nil
 exact sa_nil
abbrev s__law_same : Stmt := topS 50
theorem sc__law_same : FnScope N__law_same ["told", "due"] (defScope s__law_same) := ⟨rfl, rfl, rfl, by decide +kernel, rfl, by decide +kernel, by decide +kernel⟩
theorem e__law_same {g__law_same : GF} (z : Zc K mg) (y : Yc P K mg) (T : Std K mg "_law_same" s__law_same ["told", "due"]) (D__law_same : Def P w K mg base (caK K) "_law_same" ["told", "due"] k g__law_same) : Def P w K mg base (caK K) "_law_same" ["told", "due"] (k + 1) (bodyT N__law_same 2 (b__law_same g__law_same)) :=
  def_T T sc__law_same fun f cdv A outer s H E hr hgu tk hp => by
 refine sss_cons ?_ ?_
 refine ss_if ?_ ?_ ?_
 refine SW.st ?_
 refine sw_or ?_ ?_
 refine st_cmp opd_is ?_ ?_ (nomark _)
 exact se_var 1
 exact se_non
 refine sw_or ?_ ?_
 refine st_cmp opd_is ?_ ?_ (nomark _)
 exact se_var 1
 exact se_bl
 refine sw_or1 ?_
 refine st_cmp opd_is ?_ ?_ (nomark _)
 exact se_var 1
 exact se_bl
 refine sss_one ?_
 refine ss_ret ?_
 refine se_ifExp ?_ ?_ ?_
 refine st_cmp opd_is ?_ ?_ (nomark _)
 exact se_var 1
 exact se_non
 refine se_cmp opd_is ?_ ?_ (nomark _)
 exact se_var 0
 exact se_non
 refine se_ifExp ?_ ?_ ?_
 refine st_cmp opd_is ?_ ?_ (nomark _)
 exact se_var 1
 exact se_bl
 refine se_cmp opd_is ?_ ?_ (nomark _)
 exact se_var 0
 exact se_bl
 refine se_cmp opd_is ?_ ?_ (nomark _)
 exact se_var 0
 exact se_bl
 exact sss_nil
 refine sss_cons ?_ ?_
 refine ss_if ?_ ?_ ?_
 refine st_val ?_
 refine se_isi2 ?_ (by decide) (by decide) bb_list z.b_list (by rfl) bb_tuple z.b_tuple (by rfl) (by rfl) z.b_isinstance
 exact se_var 1
 refine sss_cons ?_ ?_
 refine ss_if ?_ ?_ ?_
 refine SW.st ?_
 refine sw_or ?_ ?_
 refine SW.st ?_
 refine sw_and ?_ ?_
 refine st_not ?_
 refine st_val ?_
 refine se_isi ?_ (by decide) bb_list z.b_list (by rfl) (by rfl) z.b_isinstance
 exact se_var 0
 refine sw_and1 ?_
 refine st_val ?_
 refine se_isi ?_ (by decide) bb_list z.b_list (by rfl) (by rfl) z.b_isinstance
 exact se_var 1
 refine sw_or1 ?_
 refine SW.st ?_
 refine sw_and ?_ ?_
 refine st_not ?_
 refine st_val ?_
 refine se_isi ?_ (by decide) bb_tuple z.b_tuple (by rfl) (by rfl) z.b_isinstance
 exact se_var 0
 refine sw_and1 ?_
 refine st_val ?_
 refine se_isi ?_ (by decide) bb_tuple z.b_tuple (by rfl) (by rfl) z.b_isinstance
 exact se_var 1
 refine sss_one ?_
 refine ss_ret ?_
 exact se_bl
 exact sss_nil
 refine sss_one ?_
 refine ss_ret ?_
 refine se_and ?_ ?_
 refine se_cmp (opd_eq hr.units) ?_ ?_ (nomark _)
 refine se_callB cd_len (by rfl) z.b_len bb_len ?_
 refine sa_cons ?_ ?_
 exact se_var 0
 exact sa_nil
 refine se_callB cd_len (by rfl) z.b_len bb_len ?_
 refine sa_cons ?_ ?_
 exact se_var 1
 exact sa_nil
 refine se_one ?_
 refine se_cmp (opd_eq hr.units) ?_ ?_ (nomark _)
 refine se_lc (own := [("at", 2)]) rfl sc__law_same.nd ?_ (blkOk_by (by rfl)) (fun _ _ _ _ _ => ?_) (fun _ _ _ _ _ => ?_) (fun _ _ _ _ _ => ?_)
 refine si_range1 (by rfl) z.b_range ?_
 refine sa_cons ?_ ?_
 refine se_callB cd_len (by rfl) z.b_len bb_len ?_
 refine sa_cons ?_ ?_
 exact se_var 1
 exact sa_nil
 exact sa_nil
 exact sgw_name (by decide) sc__law_same.nd (i := 2) rfl (by first | exact .inl rfl | exact .inr rfl)
 refine sts_one ?_
 refine st_not ?_
 refine st_val ?_
 refine se_callN D__law_same ?_ ?_ tk0 (by rfl) ?_
 exact hr
 exact hgu
 refine sa_cons ?_ ?_
 refine se_ix ?_ ?_ ?_ (fun _ _ => rfl)
 exact (hu1 hr)
 exact se_var 0
 exact se_var 2
 refine sa_cons ?_ ?_
 refine se_ix ?_ ?_ ?_ (fun _ _ => rfl)
 exact (hu1 hr)
 exact se_var 1
 exact se_var 2
 exact sa_nil
 exact se_var 2
 refine se_lst ?_
 exact sa_nil
 exact sss_nil
 refine sss_cons ?_ ?_
 refine ss_if ?_ ?_ ?_
 refine st_val ?_
 refine se_isi ?_ (by decide) bb_int z.b_int (by rfl) (by rfl) z.b_isinstance
 exact se_var 1
 refine sss_one ?_
 refine ss_ret ?_
 refine se_and ?_ ?_
 refine se_isi ?_ (by decide) bb_int z.b_int (by rfl) (by rfl) z.b_isinstance
 exact se_var 0
 refine se_and ?_ ?_
 refine se_not ?_
 refine se_isi ?_ (by decide) bb_bool z.b_bool (by rfl) (by rfl) z.b_isinstance
 exact se_var 0
 refine se_one ?_
 refine se_cmp (opd_eq hr.units) ?_ ?_ (nomark _)
 exact se_var 0
 exact se_var 1
 exact sss_nil
 refine sss_one ?_
 refine ss_ret ?_
 refine se_and ?_ ?_
 refine se_isi ?_ (by decide) bb_str z.b_str (by rfl) (by rfl) z.b_isinstance
 exact se_var 0
 refine se_one ?_
 refine se_cmp (opd_eq hr.units) ?_ ?_ (nomark _)
 exact se_var 0
 exact se_var 1
abbrev s__law_rallies : Stmt := topS 51
theorem sc__law_rallies : FnScope N__law_rallies ["generator", "many"] (defScope s__law_rallies) := ⟨rfl, rfl, rfl, by decide +kernel, rfl, by decide +kernel, by decide +kernel⟩
theorem e__law_rallies {g__law_pick g__law_random : GF} (z : Zc K mg) (y : Yc P K mg) (T : Std K mg "_law_rallies" s__law_rallies ["generator", "many"]) (D__law_pick : Def P w K mg base (caK K) "_law_pick" ["generator", "things"] k g__law_pick) (D__law_random : Def P w K mg base (caK K) "_law_random" ["generator", "bound"] k g__law_random) : Def P w K mg base (caK K) "_law_rallies" ["generator", "many"] (k + 1) (bodyT N__law_rallies 2 (b__law_rallies g__law_pick g__law_random)) :=
  def_T T sc__law_rallies fun f cdv A outer s H E hr hgu tk hp => by
 refine sss_cons ?_ ?_
 refine ss_set (i := 2) sc__law_rallies.nd rfl (by first | exact .inl rfl | exact .inr rfl) ?_
 refine se_callN D__law_pick hr hgu tk (by rfl) ?_
 refine sa_cons ?_ ?_
 exact se_var 0
 refine sa_cons ?_ ?_
 refine se_lst ?_
 refine sa_cons ?_ ?_
 exact se_int
 refine sa_cons ?_ ?_
 exact se_int
 refine sa_cons ?_ ?_
 exact se_int
 refine sa_cons ?_ ?_
 exact se_int
 refine sa_cons ?_ ?_
 exact se_int
 refine sa_cons ?_ ?_
 exact se_int
 exact sa_nil
 exact sa_nil
 refine sss_one ?_
 refine ss_ret ?_
 refine se_lc (own := [("rally", 3)]) rfl sc__law_rallies.nd ?_ (blkOk_by (by rfl)) (fun _ _ _ _ _ => ?_) (fun _ _ _ _ _ => sts_nil) (fun _ _ _ _ _ => ?_)
 refine si_range1 (by rfl) z.b_range ?_
 refine sa_cons ?_ ?_
 exact se_var 1
 exact sa_nil
 exact sgw_name (by decide) sc__law_rallies.nd (i := 3) rfl (by first | exact .inl rfl | exact .inr rfl)
 refine se_ifExp ?_ ?_ ?_
 refine st_cmp (opd_eq ?_) ?_ ?_ (nomark _)
 exact hr.units
 refine se_callN D__law_random ?_ ?_ tk0 (by rfl) ?_
 exact hr
 exact hgu
 refine sa_cons ?_ ?_
 exact se_var 0
 refine sa_cons ?_ ?_
 exact se_int
 exact sa_nil
 exact se_int
 refine se_callTy cd_int (by rfl) z.b_int bb_int ?_
 refine sa_cons ?_ ?_
 refine se_cmp (opd_eq ?_) ?_ ?_ (nomark _)
 exact hr.units
 refine se_callN D__law_random ?_ ?_ tk0 (by rfl) ?_
 exact hr
 exact hgu
 refine sa_cons ?_ ?_
 exact se_var 0
 refine sa_cons ?_ ?_
 refine se_op opd_add ?_ ?_
 exact se_var 2
 exact se_int
 exact sa_nil
 exact se_int
 exact sa_nil
 refine se_callN D__law_random ?_ ?_ tk0 (by rfl) ?_
 exact hr
 exact hgu
 refine sa_cons ?_ ?_
 exact se_var 0
 refine sa_cons ?_ ?_
 exact se_int
 exact sa_nil
abbrev s__law_tennis : Stmt := topS 52
theorem sc__law_tennis : FnScope N__law_tennis ["sets"] (defScope s__law_tennis) := ⟨rfl, rfl, rfl, by decide +kernel, rfl, by decide +kernel, by decide +kernel⟩
theorem e__law_tennis (z : Zc K mg) (y : Yc P K mg) (T : Std K mg "_law_tennis" s__law_tennis ["sets"]) : Def P w K mg base (caK K) "_law_tennis" ["sets"] (k + 1) (bodyT N__law_tennis 1 (b__law_tennis)) :=
  def_T T sc__law_tennis fun f cdv A outer s H E hr hgu tk hp => by
 refine sss_cons ?_ ?_
 refine ss_set (i := 1) sc__law_tennis.nd rfl (by first | exact .inl rfl | exact .inr rfl) ?_
 refine se_tup ?_
 refine sa_cons ?_ ?_
 exact se_str
 refine sa_cons ?_ ?_
 exact se_int
 refine sa_cons ?_ ?_
 exact se_int
 refine sa_cons ?_ ?_
 exact se_non
 refine sa_cons ?_ ?_
 refine se_tup ?_
 refine sa_cons ?_ ?_
 exact se_str
 exact sa_nil
 refine sa_cons ?_ ?_
 refine se_tup ?_
 refine sa_cons ?_ ?_
 exact se_str
 exact sa_nil
 refine sa_cons ?_ ?_
 refine se_lst ?_
 exact sa_nil
 exact sa_nil
 refine sss_cons ?_ ?_
 refine ss_set (i := 2) sc__law_tennis.nd rfl (by first | exact .inl rfl | exact .inr rfl) ?_
 refine se_tup ?_
 refine sa_cons ?_ ?_
 exact se_str
 refine sa_cons ?_ ?_
 exact se_int
 refine sa_cons ?_ ?_
 exact se_int
 refine sa_cons ?_ ?_
 exact se_non
 refine sa_cons ?_ ?_
 refine se_tup ?_
 refine sa_cons ?_ ?_
 exact se_str
 refine sa_cons ?_ ?_
 refine se_lst ?_
 refine sa_cons ?_ ?_
 exact se_int
 refine sa_cons ?_ ?_
 exact se_int
 refine sa_cons ?_ ?_
 exact se_int
 refine sa_cons ?_ ?_
 exact se_int
 exact sa_nil
 exact sa_nil
 refine sa_cons ?_ ?_
 refine se_tup ?_
 refine sa_cons ?_ ?_
 exact se_str
 exact sa_nil
 refine sa_cons ?_ ?_
 refine se_lst ?_
 exact sa_nil
 exact sa_nil
 refine sss_one ?_
 refine ss_ret ?_
 refine se_tup ?_
 refine sa_cons ?_ ?_
 exact se_str
 refine sa_cons ?_ ?_
 exact se_var 0
 refine sa_cons ?_ ?_
 exact se_int
 refine sa_cons ?_ ?_
 exact se_non
 refine sa_cons ?_ ?_
 refine se_tup ?_
 refine sa_cons ?_ ?_
 exact se_str
 exact sa_nil
 refine sa_cons ?_ ?_
 refine se_tup ?_
 refine sa_cons ?_ ?_
 exact se_str
 refine sa_cons ?_ ?_
 exact se_int
 refine sa_cons ?_ ?_
 exact se_int
 refine sa_cons ?_ ?_
 exact se_int
 refine sa_cons ?_ ?_
 refine se_tup ?_
 refine sa_cons ?_ ?_
 exact se_str
 exact sa_nil
 refine sa_cons ?_ ?_
 exact se_var 1
 refine sa_cons ?_ ?_
 refine se_lst ?_
 refine sa_cons ?_ ?_
 refine se_tup ?_
 refine sa_cons ?_ ?_
 refine se_tup ?_
 refine sa_cons ?_ ?_
 exact se_int
 refine sa_cons ?_ ?_
 exact se_int
 exact sa_nil
 refine sa_cons ?_ ?_
 exact se_var 2
 exact sa_nil
 exact sa_nil
 exact sa_nil
 refine sa_cons ?_ ?_
 refine se_lst ?_
 exact sa_nil
 exact sa_nil
abbrev s__law_tennis_behind : Stmt := topS 53
theorem sc__law_tennis_behind : FnScope N__law_tennis_behind ["sets", "first", "rallies"] (defScope s__law_tennis_behind) := ⟨rfl, rfl, rfl, by decide +kernel, rfl, by decide +kernel, by decide +kernel⟩
theorem e__law_tennis_behind (z : Zc K mg) (y : Yc P K mg) (T : Std K mg "_law_tennis_behind" s__law_tennis_behind ["sets", "first", "rallies"]) : Def P w K mg base (caK K) "_law_tennis_behind" ["sets", "first", "rallies"] (k + 1) (bodyT N__law_tennis_behind 3 (b__law_tennis_behind)) :=
  def_T T sc__law_tennis_behind fun f cdv A outer s H E hr hgu tk hp => by
 refine sss_cons ?_ ?_
 refine ss_asg (se_tup ?_) ?_
 refine sa_cons ?_ ?_
 refine se_lstC ?_
 refine sa_cons ?_ ?_
 exact se_int
 refine sa_cons ?_ ?_
 exact se_int
 exact sa_nil
 refine sa_cons ?_ ?_
 refine se_lstC ?_
 refine sa_cons ?_ ?_
 exact se_int
 refine sa_cons ?_ ?_
 exact se_int
 exact sa_nil
 refine sa_cons ?_ ?_
 refine se_lstC ?_
 refine sa_cons ?_ ?_
 exact se_int
 refine sa_cons ?_ ?_
 exact se_int
 exact sa_nil
 refine sa_cons ?_ ?_
 exact se_var 1
 refine sa_cons ?_ ?_
 exact se_var 1
 refine sa_cons ?_ sa_nil
 refine se_lstC ?_
 exact sa_nil
 refine sg_tup rfl ?_
 refine sgs_cons ?_ ?_
 exact sg_name sc__law_tennis_behind.nd (i := 3) rfl (by first | exact .inl rfl | exact .inr rfl)
 refine sgs_cons ?_ ?_
 exact sg_name sc__law_tennis_behind.nd (i := 4) rfl (by first | exact .inl rfl | exact .inr rfl)
 refine sgs_cons ?_ ?_
 exact sg_name sc__law_tennis_behind.nd (i := 5) rfl (by first | exact .inl rfl | exact .inr rfl)
 refine sgs_cons ?_ ?_
 exact sg_name sc__law_tennis_behind.nd (i := 6) rfl (by first | exact .inl rfl | exact .inr rfl)
 refine sgs_cons ?_ ?_
 exact sg_name sc__law_tennis_behind.nd (i := 7) rfl (by first | exact .inl rfl | exact .inr rfl)
 refine sgs_cons ?_ sgs_nil
 exact sg_name sc__law_tennis_behind.nd (i := 8) rfl (by first | exact .inl rfl | exact .inr rfl)
 refine sss_cons ?_ ?_
 refine ss_for hp rfl ?_ ?_ ?_
 refine si_any ?_
 exact se_var 2
 exact sg_name sc__law_tennis_behind.nd (i := 9) rfl (by first | exact .inl rfl | exact .inr rfl)
 refine sss_cons ?_ ?_
 refine ss_if ?_ ?_ ?_
 refine st_cmp (opd_eq hr.units) ?_ ?_ (nomark _)
 refine se_callB (cd_maxT rfl (hu1 hr)) (by rfl) z.b_max bb_max ?_
 refine sa_cons ?_ ?_
 exact se_var 5
 exact sa_nil
 exact se_var 0
 refine sss_one ?_
 refine ss_ret ?_
 exact se_non
 exact sss_nil
 refine sss_cons ?_ ?_
 refine ss_set (i := 10) sc__law_tennis_behind.nd rfl (by first | exact .inl rfl | exact .inr rfl) ?_
 refine se_cmp (opd_eq hr.units) ?_ ?_ (nomark _)
 exact se_var 4
 refine se_lst ?_
 refine sa_cons ?_ ?_
 exact se_int
 refine sa_cons ?_ ?_
 exact se_int
 exact sa_nil
 refine sss_cons ?_ ?_
 refine ss_if ?_ ?_ ?_
 refine st_val ?_
 exact se_var 10
 refine sss_one ?_
 refine ss_set (i := 6) sc__law_tennis_behind.nd rfl (by first | exact .inl rfl | exact .inr rfl) ?_
 refine se_ifExp ?_ ?_ ?_
 refine st_cmp (opd_eq hr.units) ?_ ?_ (nomark _)
 refine se_op opd_mod ?_ ?_
 refine se_op opd_fdiv ?_ ?_
 refine se_op opd_add ?_ ?_
 refine se_op opd_add ?_ ?_
 refine se_ix (hu1 hr) ?_ ?_ (fun _ _ => rfl)
 exact se_var 3
 exact se_int
 refine se_ix (hu1 hr) ?_ ?_ (fun _ _ => rfl)
 exact se_var 3
 exact se_int
 exact se_int
 exact se_int
 exact se_int
 exact se_int
 exact se_var 7
 refine se_op opd_sub ?_ ?_
 exact se_int
 exact se_var 7
 exact sss_nil
 refine sss_cons ?_ ?_
 refine ss_expr ?_
 refine se_app1 ?_ ?_
 exact se_var 8
 exact se_var 6
 refine sss_cons ?_ ?_
 refine ss_asg ?_ ?_
 refine se_op opd_add ?_ ?_
 refine se_ix (hu1 hr) ?_ ?_ (fun _ _ => rfl)
 exact se_var 3
 exact se_var 9
 exact se_int
 refine sg_sub ?_ ?_ (by intro _; rfl)
 exact se_var 3
 exact se_var 9
 refine sss_one ?_
 refine ss_if ?_ ?_ ?_
 refine SW.st ?_
 refine sw_and ?_ ?_
 refine st_cmp (opd_ge hr.units0) ?_ ?_ (nomark _)
 refine se_ix (hu1 hr) ?_ ?_ (fun _ _ => rfl)
 exact se_var 3
 exact se_var 9
 refine se_ifExp ?_ ?_ ?_
 refine st_val ?_
 exact se_var 10
 exact se_int
 exact se_int
 refine sw_and1 ?_
 refine st_cmp (opd_ge hr.units0) ?_ ?_ (nomark _)
 refine se_ix (hu1 hr) ?_ ?_ (fun _ _ => rfl)
 exact se_var 3
 exact se_var 9
 refine se_op opd_add ?_ ?_
 refine se_ix (hu1 hr) ?_ ?_ (fun _ _ => rfl)
 exact se_var 3
 refine se_op opd_sub ?_ ?_
 exact se_int
 exact se_var 9
 exact se_int
 refine sss_cons ?_ ?_
 refine ss_asg (se_tup ?_) ?_
 refine sa_cons ?_ ?_
 refine se_lstC ?_
 refine sa_cons ?_ ?_
 exact se_int
 refine sa_cons ?_ ?_
 exact se_int
 exact sa_nil
 refine sa_cons ?_ sa_nil
 refine se_op opd_add ?_ ?_
 refine se_ix (hu1 hr) ?_ ?_ (fun _ _ => rfl)
 exact se_var 4
 exact se_var 9
 exact se_int
 refine sg_tup rfl ?_
 refine sgs_cons ?_ ?_
 exact sg_name sc__law_tennis_behind.nd (i := 3) rfl (by first | exact .inl rfl | exact .inr rfl)
 refine sgs_cons ?_ sgs_nil
 refine sg_sub ?_ ?_ (by intro _; rfl)
 exact se_var 4
 exact se_var 9
 refine sss_cons ?_ ?_
 refine ss_set (i := 7) sc__law_tennis_behind.nd rfl (by first | exact .inl rfl | exact .inr rfl) ?_
 refine se_op opd_sub ?_ ?_
 exact se_int
 exact se_var 7
 refine sss_cons ?_ ?_
 refine ss_set (i := 6) sc__law_tennis_behind.nd rfl (by first | exact .inl rfl | exact .inr rfl) ?_
 exact se_var 7
 refine sss_one ?_
 refine ss_if ?_ ?_ ?_
 refine SW.st ?_
 refine sw_or ?_ ?_
 refine st_cmp (opd_eq hr.units) ?_ ?_ (nomark _)
 refine se_ix (hu1 hr) ?_ ?_ (fun _ _ => rfl)
 exact se_var 4
 exact se_var 9
 exact se_int
 refine sw_or1 ?_
 refine SW.st ?_
 refine sw_and ?_ ?_
 refine st_cmp (opd_eq hr.units) ?_ ?_ (nomark _)
 refine se_ix (hu1 hr) ?_ ?_ (fun _ _ => rfl)
 exact se_var 4
 exact se_var 9
 exact se_int
 refine sw_and1 ?_
 refine st_cmp opd_le ?_ ?_ (nomark _)
 refine se_ix (hu1 hr) ?_ ?_ (fun _ _ => rfl)
 exact se_var 4
 refine se_op opd_sub ?_ ?_
 exact se_int
 exact se_var 9
 exact se_int
 refine sss_one ?_
 refine ss_asg (se_tup ?_) ?_
 refine sa_cons ?_ ?_
 refine se_lstC ?_
 refine sa_cons ?_ ?_
 exact se_int
 refine sa_cons ?_ ?_
 exact se_int
 exact sa_nil
 refine sa_cons ?_ sa_nil
 refine se_op opd_add ?_ ?_
 refine se_ix (hu1 hr) ?_ ?_ (fun _ _ => rfl)
 exact se_var 5
 exact se_var 9
 exact se_int
 refine sg_tup rfl ?_
 refine sgs_cons ?_ ?_
 exact sg_name sc__law_tennis_behind.nd (i := 4) rfl (by first | exact .inl rfl | exact .inr rfl)
 refine sgs_cons ?_ sgs_nil
 refine sg_sub ?_ ?_ (by intro _; rfl)
 exact se_var 5
 exact se_var 9
 exact sss_nil
 exact sss_nil
 refine sss_cons ?_ ?_
 refine ss_if ?_ ?_ ?_
 refine st_cmp (opd_eq hr.units) ?_ ?_ (nomark _)
 exact se_var 4
 refine se_lst ?_
 refine sa_cons ?_ ?_
 exact se_int
 refine sa_cons ?_ ?_
 exact se_int
 exact sa_nil
 refine sss_one ?_
 refine ss_set (i := 6) sc__law_tennis_behind.nd rfl (by first | exact .inl rfl | exact .inr rfl) ?_
 refine se_ifExp ?_ ?_ ?_
 refine st_cmp (opd_eq hr.units) ?_ ?_ (nomark _)
 refine se_op opd_mod ?_ ?_
 refine se_op opd_fdiv ?_ ?_
 refine se_op opd_add ?_ ?_
 refine se_op opd_add ?_ ?_
 refine se_ix (hu1 hr) ?_ ?_ (fun _ _ => rfl)
 exact se_var 3
 exact se_int
 refine se_ix (hu1 hr) ?_ ?_ (fun _ _ => rfl)
 exact se_var 3
 exact se_int
 exact se_int
 exact se_int
 exact se_int
 exact se_int
 exact se_var 7
 refine se_op opd_sub ?_ ?_
 exact se_int
 exact se_var 7
 exact sss_nil
 refine sss_cons ?_ ?_
 refine ss_set (i := 11) sc__law_tennis_behind.nd rfl (by first | exact .inl rfl | exact .inr rfl) ?_
 refine se_ifExp ?_ ?_ ?_
 refine st_cmp (opd_in (hu65 hr)) ?_ ?_ (by rfl)
 exact se_var 0
 exact se_var 5
 refine se_idxD (hu65 hr) ?_ ?_
 exact se_var 5
 exact se_var 0
 exact se_non
 refine sss_cons ?_ ?_
 refine ss_set (i := 12) sc__law_tennis_behind.nd rfl (by first | exact .inl rfl | exact .inr rfl) ?_
 refine se_ifExp ?_ ?_ ?_
 refine st_cmp opd_isnot ?_ ?_ (nomark _)
 exact se_var 11
 exact se_non
 refine se_lst ?_
 refine sa_cons ?_ ?_
 refine se_callTy cd_tuple (by rfl) z.b_tuple bb_tuple ?_
 refine sa_cons ?_ ?_
 exact se_var 5
 exact sa_nil
 exact sa_nil
 refine se_lst ?_
 refine sa_cons ?_ ?_
 refine se_callTy cd_tuple (by rfl) z.b_tuple bb_tuple ?_
 refine sa_cons ?_ ?_
 exact se_var 5
 exact sa_nil
 refine sa_cons ?_ ?_
 refine se_callTy cd_tuple (by rfl) z.b_tuple bb_tuple ?_
 refine sa_cons ?_ ?_
 exact se_var 4
 exact sa_nil
 refine sa_cons ?_ ?_
 refine se_callTy cd_tuple (by rfl) z.b_tuple bb_tuple ?_
 refine sa_cons ?_ ?_
 exact se_var 3
 exact sa_nil
 exact sa_nil
 refine sss_one ?_
 refine ss_ret ?_
 refine se_tup ?_
 refine sa_cons ?_ ?_
 exact se_var 11
 refine sa_cons ?_ ?_
 exact se_var 6
 refine sa_cons ?_ ?_
 exact se_var 12
 refine sa_cons (se_frz ?_) ?_
 exact se_var 8
 exact sa_nil
abbrev s__law_tennis_right : Stmt := topS 54
theorem sc__law_tennis_right : FnScope N__law_tennis_right ["generator"] (defScope s__law_tennis_right) := ⟨rfl, rfl, rfl, by decide +kernel, rfl, by decide +kernel, by decide +kernel⟩
theorem e__law_tennis_right {g__law_random g__law_pick g__law_tennis g__law_tennis_behind g__law_same g_winner_after g_scores_after g_server_after g_servers_of : GF} (z : Zc K mg) (y : Yc P K mg) (T : Std K mg "_law_tennis_right" s__law_tennis_right ["generator"]) (D__law_random : Def P w K mg base (caK K) "_law_random" ["generator", "bound"] k g__law_random) (D__law_pick : Def P w K mg base (caK K) "_law_pick" ["generator", "things"] k g__law_pick) (D__law_tennis : Def P w K mg base (caK K) "_law_tennis" ["sets"] k g__law_tennis) (D__law_tennis_behind : Def P w K mg base (caK K) "_law_tennis_behind" ["sets", "first", "rallies"] k g__law_tennis_behind) (D__law_same : Def P w K mg base (caK K) "_law_same" ["told", "due"] k g__law_same) (D_winner_after : Def P w K mg base (caK K) "winner_after" ["rule", "first", "rallies"] k g_winner_after) (D_scores_after : Def P w K mg base (caK K) "scores_after" ["rule", "first", "rallies"] k g_scores_after) (D_server_after : Def P w K mg base (caK K) "server_after" ["rule", "first", "rallies"] k g_server_after) (D_servers_of : Def P w K mg base (caK K) "servers_of" ["rule", "first", "rallies"] k g_servers_of) : Def P w K mg base (caK K) "_law_tennis_right" ["generator"] (k + 1) (bodyT N__law_tennis_right 1 (b__law_tennis_right g__law_random g__law_pick g__law_tennis g__law_tennis_behind g__law_same g_winner_after g_scores_after g_server_after g_servers_of)) :=
  def_T T sc__law_tennis_right fun f cdv A outer s H E hr hgu tk hp => by
 refine sss_cons ?_ ?_
 refine ss_par3 (i := 1) (j := 2) (l := 3) rfl sc__law_tennis_right.nd rfl rfl rfl (by decide) (by decide) (by decide) ?_
 refine sa_cons ?_ ?_
 refine se_op opd_add ?_ ?_
 exact se_int
 refine se_callN D__law_random hr hgu tk (by rfl) ?_
 refine sa_cons ?_ ?_
 exact se_var 0
 refine sa_cons ?_ ?_
 exact se_int
 exact sa_nil
 refine sa_cons ?_ ?_
 refine se_callN D__law_random hr hgu tk (by rfl) ?_
 refine sa_cons ?_ ?_
 exact se_var 0
 refine sa_cons ?_ ?_
 exact se_int
 exact sa_nil
 refine sa_cons ?_ sa_nil
 refine se_callN D__law_pick hr hgu tk (by rfl) ?_
 refine sa_cons ?_ ?_
 exact se_var 0
 refine sa_cons ?_ ?_
 refine se_lst ?_
 refine sa_cons ?_ ?_
 exact se_int
 refine sa_cons ?_ ?_
 exact se_int
 refine sa_cons ?_ ?_
 exact se_int
 refine sa_cons ?_ ?_
 exact se_int
 exact sa_nil
 exact sa_nil
 refine sss_cons ?_ ?_
 refine ss_asg (se_tup ?_) ?_
 refine sa_cons ?_ ?_
 refine se_callN D__law_tennis hr hgu tk (by rfl) ?_
 refine sa_cons ?_ ?_
 exact se_var 1
 exact sa_nil
 refine sa_cons ?_ sa_nil
 refine se_lstC ?_
 exact sa_nil
 refine sg_tup rfl ?_
 refine sgs_cons ?_ ?_
 exact sg_name sc__law_tennis_right.nd (i := 4) rfl (by first | exact .inl rfl | exact .inr rfl)
 refine sgs_cons ?_ sgs_nil
 exact sg_name sc__law_tennis_right.nd (i := 5) rfl (by first | exact .inl rfl | exact .inr rfl)
 refine sss_cons ?_ ?_
 refine ss_for hp rfl ?_ ?_ ?_
 refine si_range1 (by rfl) z.b_range ?_
 refine sa_cons ?_ ?_
 exact se_int
 exact sa_nil
 exact sg_name sc__law_tennis_right.nd (i := 6) rfl (by first | exact .inl rfl | exact .inr rfl)
 refine sss_cons ?_ ?_
 refine ss_set (i := 7) sc__law_tennis_right.nd rfl (by first | exact .inl rfl | exact .inr rfl) ?_
 refine se_ifExp ?_ ?_ ?_
 refine SW.st ?_
 refine sw_and ?_ ?_
 refine st_cmp opd_gt ?_ ?_ (nomark _)
 exact se_var 6
 exact se_int
 refine sw_and ?_ ?_
 refine st_cmp opd_lt ?_ ?_ (nomark _)
 exact se_var 6
 exact se_int
 refine sw_and1 ?_
 refine st_cmp (opd_eq hr.units) ?_ ?_ (nomark _)
 refine se_op opd_mul ?_ ?_
 refine se_op opd_fdiv ?_ ?_
 exact se_var 6
 exact se_int
 exact se_int
 exact se_var 6
 refine se_callN D__law_tennis_behind hr hgu tk (by rfl) ?_
 refine sa_cons ?_ ?_
 exact se_var 1
 refine sa_cons ?_ ?_
 exact se_var 2
 refine sa_cons ?_ ?_
 exact se_var 5
 exact sa_nil
 exact se_non
 refine sss_cons ?_ ?_
 refine ss_if ?_ ?_ ?_
 refine SW.st ?_
 refine sw_and ?_ ?_
 refine st_cmp opd_isnot ?_ ?_ (nomark _)
 exact se_var 7
 exact se_non
 refine sw_and1 ?_
 refine st_cmp opd_isnot ?_ ?_ (nomark _)
 refine se_ix (hu1 hr) ?_ ?_ (fun _ _ => rfl)
 exact se_var 7
 exact se_int
 exact se_non
 refine sss_one ?_
 exact ss_break
 exact sss_nil
 refine sss_one ?_
 refine ss_expr ?_
 refine se_app1 ?_ ?_
 exact se_var 5
 refine se_ifExp ?_ ?_ ?_
 refine st_cmp opd_gt ?_ ?_ (nomark _)
 refine se_callN D__law_random hr hgu tk (by rfl) ?_
 refine sa_cons ?_ ?_
 exact se_var 0
 refine sa_cons ?_ ?_
 exact se_int
 exact sa_nil
 exact se_int
 refine se_callTy cd_int (by rfl) z.b_int bb_int ?_
 refine sa_cons ?_ ?_
 refine se_cmp (opd_eq hr.units) ?_ ?_ (nomark _)
 refine se_callN D__law_random hr hgu tk (by rfl) ?_
 refine sa_cons ?_ ?_
 exact se_var 0
 refine sa_cons ?_ ?_
 exact se_var 3
 exact sa_nil
 exact se_int
 exact sa_nil
 refine se_callN D__law_random hr hgu tk (by rfl) ?_
 refine sa_cons ?_ ?_
 exact se_var 0
 refine sa_cons ?_ ?_
 exact se_int
 exact sa_nil
 refine sss_cons ?_ ?_
 refine ss_for hp rfl ?_ ?_ ?_
 refine si_any ?_
 refine se_op opd_add ?_ ?_
 refine se_callB (cd_sorted (hu66 hr)) (by rfl) z.b_sorted bb_sorted ?_
 refine sa_cons ?_ ?_
 refine se_lc (own := [("turn", 6)]) rfl sc__law_tennis_right.nd ?_ (blkOk_by (by rfl)) (fun _ _ _ _ _ => ?_) (fun _ _ _ _ _ => sts_nil) (fun _ _ _ _ _ => ?_)
 refine si_range1 (by rfl) z.b_range ?_
 refine sa_cons ?_ ?_
 exact se_int
 exact sa_nil
 exact sgw_name (by decide) sc__law_tennis_right.nd (i := 6) rfl (by first | exact .inl rfl | exact .inr rfl)
 refine se_callN D__law_random ?_ ?_ tk0 (by rfl) ?_
 exact hr
 exact hgu
 refine sa_cons ?_ ?_
 exact se_var 0
 refine sa_cons ?_ ?_
 refine se_op opd_add ?_ ?_
 refine se_callB cd_len (by rfl) z.b_len bb_len ?_
 refine sa_cons ?_ ?_
 exact se_var 5
 exact sa_nil
 exact se_int
 exact sa_nil
 exact sa_nil
 refine se_lst ?_
 refine sa_cons ?_ ?_
 exact se_int
 refine sa_cons ?_ ?_
 refine se_callB cd_len (by rfl) z.b_len bb_len ?_
 refine sa_cons ?_ ?_
 exact se_var 5
 exact sa_nil
 exact sa_nil
 exact sg_name sc__law_tennis_right.nd (i := 8) rfl (by first | exact .inl rfl | exact .inr rfl)
 refine sss_cons ?_ ?_
 refine ss_set (i := 9) sc__law_tennis_right.nd rfl (by first | exact .inl rfl | exact .inr rfl) ?_
 refine se_callN D__law_tennis_behind hr hgu tk (by rfl) ?_
 refine sa_cons ?_ ?_
 exact se_var 1
 refine sa_cons ?_ ?_
 exact se_var 2
 refine sa_cons ?_ ?_
 refine se_slice ?_ ?_ ?_
 exact se_var 5
 exact so_none
 refine so_some ?_
 exact se_var 8
 exact sa_nil
 refine sss_one ?_
 refine ss_if ?_ ?_ ?_
 refine st_cmp opd_isnot ?_ ?_ (nomark _)
 exact se_var 9
 exact se_non
 refine sss_cons ?_ ?_
 refine ss_if ?_ ?_ ?_
 refine st_not ?_
 refine st_val ?_
 refine se_callN D__law_same hr hgu tk (by rfl) ?_
 refine sa_cons ?_ ?_
 refine se_lst ?_
 refine sa_cons ?_ ?_
 refine se_callN D_winner_after hr hgu tk (by rfl) ?_
 refine sa_cons ?_ ?_
 exact se_var 4
 refine sa_cons ?_ ?_
 exact se_var 2
 refine sa_cons ?_ ?_
 refine se_slice ?_ ?_ ?_
 exact se_var 5
 exact so_none
 refine so_some ?_
 exact se_var 8
 exact sa_nil
 refine sa_cons ?_ ?_
 refine se_callN D_scores_after hr hgu tk (by rfl) ?_
 refine sa_cons ?_ ?_
 exact se_var 4
 refine sa_cons ?_ ?_
 exact se_var 2
 refine sa_cons ?_ ?_
 refine se_slice ?_ ?_ ?_
 exact se_var 5
 exact so_none
 refine so_some ?_
 exact se_var 8
 exact sa_nil
 exact sa_nil
 refine sa_cons ?_ ?_
 refine se_lst ?_
 refine sa_cons ?_ ?_
 refine se_ix (hu1 hr) ?_ ?_ (fun _ _ => rfl)
 exact se_var 9
 exact se_int
 refine sa_cons ?_ ?_
 refine se_ix (hu1 hr) ?_ ?_ (fun _ _ => rfl)
 exact se_var 9
 exact se_int
 exact sa_nil
 exact sa_nil
 refine sss_one ?_
 refine ss_ret ?_
 exact se_bl
 exact sss_nil
 refine sss_cons ?_ ?_
 refine ss_if ?_ ?_ ?_
 refine SW.st ?_
 refine sw_and ?_ ?_
 refine st_cmp opd_is ?_ ?_ (nomark _)
 refine se_ix (hu1 hr) ?_ ?_ (fun _ _ => rfl)
 exact se_var 9
 exact se_int
 exact se_non
 refine sw_and1 ?_
 refine st_not ?_
 refine st_val ?_
 refine se_callN D__law_same hr hgu tk (by rfl) ?_
 refine sa_cons ?_ ?_
 refine se_callN D_server_after hr hgu tk (by rfl) ?_
 refine sa_cons ?_ ?_
 exact se_var 4
 refine sa_cons ?_ ?_
 exact se_var 2
 refine sa_cons ?_ ?_
 refine se_slice ?_ ?_ ?_
 exact se_var 5
 exact so_none
 refine so_some ?_
 exact se_var 8
 exact sa_nil
 refine sa_cons ?_ ?_
 refine se_ix (hu1 hr) ?_ ?_ (fun _ _ => rfl)
 exact se_var 9
 exact se_int
 exact sa_nil
 refine sss_one ?_
 refine ss_ret ?_
 exact se_bl
 exact sss_nil
 refine sss_one ?_
 refine ss_if ?_ ?_ ?_
 refine st_not ?_
 refine st_val ?_
 refine se_callN D__law_same hr hgu tk (by rfl) ?_
 refine sa_cons ?_ ?_
 refine se_callN D_servers_of hr hgu tk (by rfl) ?_
 refine sa_cons ?_ ?_
 exact se_var 4
 refine sa_cons ?_ ?_
 exact se_var 2
 refine sa_cons ?_ ?_
 refine se_slice ?_ ?_ ?_
 exact se_var 5
 exact so_none
 refine so_some ?_
 exact se_var 8
 exact sa_nil
 refine sa_cons ?_ ?_
 refine se_ix (hu1 hr) ?_ ?_ (fun _ _ => rfl)
 exact se_var 9
 exact se_int
 exact sa_nil
 refine sss_one ?_
 refine ss_ret ?_
 exact se_bl
 exact sss_nil
 exact sss_nil
 refine sss_one ?_
 refine ss_ret ?_
 exact se_bl
abbrev s__law_table_tennis : Stmt := topS 55
theorem sc__law_table_tennis : FnScope N__law_table_tennis ["first", "rallies"] (defScope s__law_table_tennis) := ⟨rfl, rfl, rfl, by decide +kernel, rfl, by decide +kernel, by decide +kernel⟩
theorem e__law_table_tennis (z : Zc K mg) (y : Yc P K mg) (T : Std K mg "_law_table_tennis" s__law_table_tennis ["first", "rallies"]) : Def P w K mg base (caK K) "_law_table_tennis" ["first", "rallies"] (k + 1) (bodyT N__law_table_tennis 2 (b__law_table_tennis)) :=
  def_T T sc__law_table_tennis fun f cdv A outer s H E hr hgu tk hp => by
 refine sss_cons ?_ ?_
 refine ss_par (i := 2) (j := 3) rfl sc__law_table_tennis.nd rfl rfl (by decide) ?_
 refine sa_cons ?_ ?_
 refine se_lstC ?_
 refine sa_cons ?_ ?_
 exact se_int
 refine sa_cons ?_ ?_
 exact se_int
 exact sa_nil
 refine sa_cons ?_ sa_nil
 refine se_lstC ?_
 exact sa_nil
 refine sss_cons ?_ ?_
 refine ss_for hp rfl ?_ ?_ ?_
 refine si_any ?_
 exact se_var 1
 exact sg_name sc__law_table_tennis.nd (i := 4) rfl (by first | exact .inl rfl | exact .inr rfl)
 refine sss_cons ?_ ?_
 refine ss_set (i := 5) sc__law_table_tennis.nd rfl (by first | exact .inl rfl | exact .inr rfl) ?_
 refine se_callB (cd_sumT rfl) (by rfl) z.b_sum bb_sum ?_
 refine sa_cons ?_ ?_
 exact se_var 2
 exact sa_nil
 refine sss_cons ?_ ?_
 refine ss_if ?_ ?_ ?_
 refine SW.st ?_
 refine sw_and ?_ ?_
 refine st_cmp (opd_ge hr.units0) ?_ ?_ (nomark _)
 refine se_callB (cd_maxT rfl (hu1 hr)) (by rfl) z.b_max bb_max ?_
 refine sa_cons ?_ ?_
 exact se_var 2
 exact sa_nil
 exact se_int
 refine sw_and1 ?_
 refine st_cmp (opd_ge hr.units0) ?_ ?_ (nomark _)
 refine se_callB cd_abs (by rfl) z.b_abs bb_abs ?_
 refine sa_cons ?_ ?_
 refine se_op opd_sub ?_ ?_
 refine se_ix (hu1 hr) ?_ ?_ (fun _ _ => rfl)
 exact se_var 2
 exact se_int
 refine se_ix (hu1 hr) ?_ ?_ (fun _ _ => rfl)
 exact se_var 2
 exact se_int
 exact sa_nil
 exact se_int
 refine sss_one ?_
 refine ss_ret ?_
 exact se_non
 exact sss_nil
 refine sss_cons ?_ ?_
 refine ss_expr ?_
 refine se_app1 ?_ ?_
 exact se_var 3
 refine se_ifExp ?_ ?_ ?_
 refine st_cmp (opd_eq hr.units) ?_ ?_ (nomark _)
 refine se_op opd_mod ?_ ?_
 refine se_callTy cd_int (by rfl) z.b_int bb_int ?_
 refine sa_cons ?_ ?_
 refine se_ifExp ?_ ?_ ?_
 refine st_cmp opd_lt ?_ ?_ (nomark _)
 exact se_var 5
 exact se_int
 refine se_op opd_fdiv ?_ ?_
 exact se_var 5
 exact se_int
 exact se_var 5
 exact sa_nil
 exact se_int
 exact se_int
 exact se_var 0
 refine se_op opd_sub ?_ ?_
 exact se_int
 exact se_var 0
 refine sss_one ?_
 refine ss_asg ?_ ?_
 refine se_op opd_add ?_ ?_
 refine se_ix (hu1 hr) ?_ ?_ (fun _ _ => rfl)
 exact se_var 2
 exact se_var 4
 exact se_int
 refine sg_sub ?_ ?_ (by intro _; rfl)
 exact se_var 2
 exact se_var 4
 refine sss_one ?_
 refine ss_ret ?_
 refine se_tup ?_
 refine sa_cons (se_frz ?_) ?_
 exact se_var 2
 refine sa_cons (se_frz ?_) ?_
 exact se_var 3
 exact sa_nil
abbrev s__law_quick_right : Stmt := topS 56
theorem sc__law_quick_right : FnScope N__law_quick_right ["generator"] (defScope s__law_quick_right) := ⟨rfl, rfl, rfl, by decide +kernel, rfl, by decide +kernel, by decide +kernel⟩
theorem e__law_quick_right {g__law_random g__law_rallies g__law_table_tennis g_winner_after g__law_same g_servers_of g_scores_after : GF} (z : Zc K mg) (y : Yc P K mg) (T : Std K mg "_law_quick_right" s__law_quick_right ["generator"]) (D__law_random : Def P w K mg base (caK K) "_law_random" ["generator", "bound"] k g__law_random) (D__law_rallies : Def P w K mg base (caK K) "_law_rallies" ["generator", "many"] k g__law_rallies) (D__law_table_tennis : Def P w K mg base (caK K) "_law_table_tennis" ["first", "rallies"] k g__law_table_tennis) (D_winner_after : Def P w K mg base (caK K) "winner_after" ["rule", "first", "rallies"] k g_winner_after) (D__law_same : Def P w K mg base (caK K) "_law_same" ["told", "due"] k g__law_same) (D_servers_of : Def P w K mg base (caK K) "servers_of" ["rule", "first", "rallies"] k g_servers_of) (D_scores_after : Def P w K mg base (caK K) "scores_after" ["rule", "first", "rallies"] k g_scores_after) : Def P w K mg base (caK K) "_law_quick_right" ["generator"] (k + 1) (bodyT N__law_quick_right 1 (b__law_quick_right g__law_random g__law_rallies g__law_table_tennis g_winner_after g__law_same g_servers_of g_scores_after)) :=
  def_T T sc__law_quick_right fun f cdv A outer s H E hr hgu tk hp => by
 refine sss_cons ?_ ?_
 refine ss_par (i := 1) (j := 2) rfl sc__law_quick_right.nd rfl rfl (by decide) ?_
 refine sa_cons ?_ ?_
 refine se_callN D__law_random hr hgu tk (by rfl) ?_
 refine sa_cons ?_ ?_
 exact se_var 0
 refine sa_cons ?_ ?_
 exact se_int
 exact sa_nil
 refine sa_cons ?_ sa_nil
 refine se_callN D__law_rallies hr hgu tk (by rfl) ?_
 refine sa_cons ?_ ?_
 exact se_var 0
 refine sa_cons ?_ ?_
 refine se_op opd_add ?_ ?_
 exact se_int
 refine se_callN D__law_random hr hgu tk (by rfl) ?_
 refine sa_cons ?_ ?_
 exact se_var 0
 refine sa_cons ?_ ?_
 exact se_int
 exact sa_nil
 exact sa_nil
 refine sss_cons ?_ ?_
 refine ss_set (i := 3) sc__law_quick_right.nd rfl (by first | exact .inl rfl | exact .inr rfl) ?_
 refine se_tup ?_
 refine sa_cons ?_ ?_
 exact se_str
 refine sa_cons ?_ ?_
 exact se_int
 refine sa_cons ?_ ?_
 exact se_int
 refine sa_cons ?_ ?_
 exact se_non
 refine sa_cons ?_ ?_
 refine se_tup ?_
 refine sa_cons ?_ ?_
 exact se_str
 refine sa_cons ?_ ?_
 refine se_lst ?_
 refine sa_cons ?_ ?_
 exact se_int
 refine sa_cons ?_ ?_
 exact se_int
 refine sa_cons ?_ ?_
 exact se_int
 refine sa_cons ?_ ?_
 exact se_int
 exact sa_nil
 exact sa_nil
 refine sa_cons ?_ ?_
 refine se_tup ?_
 refine sa_cons ?_ ?_
 exact se_str
 exact sa_nil
 refine sa_cons ?_ ?_
 refine se_lst ?_
 exact sa_nil
 exact sa_nil
 refine sss_cons ?_ ?_
 refine ss_set (i := 4) sc__law_quick_right.nd rfl (by first | exact .inl rfl | exact .inr rfl) ?_
 refine se_tup ?_
 refine sa_cons ?_ ?_
 exact se_str
 refine sa_cons ?_ ?_
 exact se_int
 refine sa_cons ?_ ?_
 exact se_int
 refine sa_cons ?_ ?_
 exact se_int
 refine sa_cons ?_ ?_
 refine se_tup ?_
 refine sa_cons ?_ ?_
 exact se_str
 refine sa_cons ?_ ?_
 refine se_lst ?_
 refine sa_cons ?_ ?_
 exact se_int
 refine sa_cons ?_ ?_
 exact se_int
 refine sa_cons ?_ ?_
 exact se_int
 refine sa_cons ?_ ?_
 exact se_int
 exact sa_nil
 exact sa_nil
 refine sa_cons ?_ ?_
 refine se_tup ?_
 refine sa_cons ?_ ?_
 exact se_str
 exact sa_nil
 refine sa_cons ?_ ?_
 refine se_lst ?_
 refine sa_cons ?_ ?_
 refine se_tup ?_
 refine sa_cons ?_ ?_
 refine se_tup ?_
 refine sa_cons ?_ ?_
 exact se_int
 refine sa_cons ?_ ?_
 exact se_int
 exact sa_nil
 refine sa_cons ?_ ?_
 refine se_tup ?_
 refine sa_cons ?_ ?_
 exact se_str
 refine sa_cons ?_ ?_
 exact se_int
 refine sa_cons ?_ ?_
 exact se_int
 refine sa_cons ?_ ?_
 exact se_non
 refine sa_cons ?_ ?_
 refine se_tup ?_
 refine sa_cons ?_ ?_
 exact se_str
 exact sa_nil
 refine sa_cons ?_ ?_
 refine se_tup ?_
 refine sa_cons ?_ ?_
 exact se_str
 exact sa_nil
 refine sa_cons ?_ ?_
 refine se_lst ?_
 exact sa_nil
 exact sa_nil
 exact sa_nil
 exact sa_nil
 exact sa_nil
 refine sss_cons ?_ ?_
 refine ss_for hp rfl ?_ ?_ ?_
 refine si_range3 (by rfl) z.b_range ?_
 refine sa_cons ?_ ?_
 exact se_int
 refine sa_cons ?_ ?_
 refine se_op opd_add ?_ ?_
 refine se_callB cd_len (by rfl) z.b_len bb_len ?_
 refine sa_cons ?_ ?_
 exact se_var 2
 exact sa_nil
 exact se_int
 refine sa_cons ?_ ?_
 exact se_int
 exact sa_nil
 exact sg_name sc__law_quick_right.nd (i := 5) rfl (by first | exact .inl rfl | exact .inr rfl)
 refine sss_cons ?_ ?_
 refine ss_set (i := 6) sc__law_quick_right.nd rfl (by first | exact .inl rfl | exact .inr rfl) ?_
 refine se_callN D__law_table_tennis hr hgu tk (by rfl) ?_
 refine sa_cons ?_ ?_
 exact se_var 1
 refine sa_cons ?_ ?_
 refine se_slice ?_ ?_ ?_
 exact se_var 2
 exact so_none
 refine so_some ?_
 exact se_var 5
 exact sa_nil
 refine sss_one ?_
 refine ss_if ?_ ?_ ?_
 refine st_cmp opd_isnot ?_ ?_ (nomark _)
 exact se_var 6
 exact se_non
 refine sss_cons ?_ ?_
 refine ss_asg ?_ ?_
 exact se_var 6
 refine sg_tup rfl ?_
 refine sgs_cons ?_ ?_
 exact sg_name sc__law_quick_right.nd (i := 7) rfl (by first | exact .inl rfl | exact .inr rfl)
 refine sgs_cons ?_ sgs_nil
 exact sg_name sc__law_quick_right.nd (i := 8) rfl (by first | exact .inl rfl | exact .inr rfl)
 refine sss_cons ?_ ?_
 refine ss_set (i := 9) sc__law_quick_right.nd rfl (by first | exact .inl rfl | exact .inr rfl) ?_
 refine se_and ?_ ?_
 refine se_cmp (opd_ge hr.units0) ?_ ?_ (nomark _)
 refine se_callB (cd_maxT rfl (hu1 hr)) (by rfl) z.b_max bb_max ?_
 refine sa_cons ?_ ?_
 exact se_var 7
 exact sa_nil
 exact se_int
 refine se_one ?_
 refine se_cmp (opd_ge hr.units0) ?_ ?_ (nomark _)
 refine se_callB cd_abs (by rfl) z.b_abs bb_abs ?_
 refine sa_cons ?_ ?_
 refine se_op opd_sub ?_ ?_
 refine se_ix (hu1 hr) ?_ ?_ (fun _ _ => rfl)
 exact se_var 7
 exact se_int
 refine se_ix (hu1 hr) ?_ ?_ (fun _ _ => rfl)
 exact se_var 7
 exact se_int
 exact sa_nil
 exact se_int
 refine sss_cons ?_ ?_
 refine ss_set (i := 10) sc__law_quick_right.nd rfl (by first | exact .inl rfl | exact .inr rfl) ?_
 refine se_callN D_winner_after hr hgu tk (by rfl) ?_
 refine sa_cons ?_ ?_
 exact se_var 4
 refine sa_cons ?_ ?_
 exact se_var 1
 refine sa_cons ?_ ?_
 refine se_slice ?_ ?_ ?_
 exact se_var 2
 exact so_none
 refine so_some ?_
 exact se_var 5
 exact sa_nil
 refine sss_cons ?_ ?_
 refine ss_if ?_ ?_ ?_
 refine SW.st ?_
 refine sw_or ?_ ?_
 refine st_not ?_
 refine st_val ?_
 refine se_callN D__law_same hr hgu tk (by rfl) ?_
 refine sa_cons ?_ ?_
 exact se_var 10
 refine sa_cons ?_ ?_
 refine se_ifExp ?_ ?_ ?_
 refine st_val ?_
 exact se_var 9
 refine se_callTy cd_int (by rfl) z.b_int bb_int ?_
 refine sa_cons ?_ ?_
 refine se_cmp opd_gt ?_ ?_ (nomark _)
 refine se_ix (hu1 hr) ?_ ?_ (fun _ _ => rfl)
 exact se_var 7
 exact se_int
 refine se_ix (hu1 hr) ?_ ?_ (fun _ _ => rfl)
 exact se_var 7
 exact se_int
 exact sa_nil
 exact se_non
 exact sa_nil
 refine sw_or1 ?_
 refine st_not ?_
 refine st_val ?_
 refine se_callN D__law_same hr hgu tk (by rfl) ?_
 refine sa_cons ?_ ?_
 refine se_callN D_winner_after hr hgu tk (by rfl) ?_
 refine sa_cons ?_ ?_
 exact se_var 3
 refine sa_cons ?_ ?_
 exact se_var 1
 refine sa_cons ?_ ?_
 refine se_slice ?_ ?_ ?_
 exact se_var 2
 exact so_none
 refine so_some ?_
 exact se_var 5
 exact sa_nil
 refine sa_cons ?_ ?_
 exact se_var 10
 exact sa_nil
 refine sss_one ?_
 refine ss_ret ?_
 exact se_bl
 exact sss_nil
 refine sss_cons ?_ ?_
 refine ss_if ?_ ?_ ?_
 refine st_not ?_
 refine st_val ?_
 refine se_callN D__law_same hr hgu tk (by rfl) ?_
 refine sa_cons ?_ ?_
 refine se_callN D_servers_of hr hgu tk (by rfl) ?_
 refine sa_cons ?_ ?_
 exact se_var 4
 refine sa_cons ?_ ?_
 exact se_var 1
 refine sa_cons ?_ ?_
 refine se_slice ?_ ?_ ?_
 exact se_var 2
 exact so_none
 refine so_some ?_
 exact se_var 5
 exact sa_nil
 refine sa_cons ?_ ?_
 exact se_var 8
 exact sa_nil
 refine sss_one ?_
 refine ss_ret ?_
 exact se_bl
 exact sss_nil
 refine sss_one ?_
 refine ss_if ?_ ?_ ?_
 refine st_not ?_
 refine st_val ?_
 refine se_callN D__law_same hr hgu tk (by rfl) ?_
 refine sa_cons ?_ ?_
 refine se_callN D_scores_after hr hgu tk (by rfl) ?_
 refine sa_cons ?_ ?_
 exact se_var 3
 refine sa_cons ?_ ?_
 exact se_var 1
 refine sa_cons ?_ ?_
 refine se_slice ?_ ?_ ?_
 exact se_var 2
 exact so_none
 refine so_some ?_
 exact se_var 5
 exact sa_nil
 refine sa_cons ?_ ?_
 refine se_lst ?_
 refine sa_cons ?_ ?_
 refine se_callTy cd_tuple (by rfl) z.b_tuple bb_tuple ?_
 refine sa_cons ?_ ?_
 exact se_var 7
 exact sa_nil
 exact sa_nil
 exact sa_nil
 refine sss_one ?_
 refine ss_ret ?_
 exact se_bl
 exact sss_nil
 exact sss_nil
 refine sss_one ?_
 refine ss_ret ?_
 exact se_bl
abbrev s__law_volley_right : Stmt := topS 57
theorem sc__law_volley_right : FnScope N__law_volley_right ["generator"] (defScope s__law_volley_right) := ⟨rfl, rfl, rfl, by decide +kernel, rfl, by decide +kernel, by decide +kernel⟩
theorem e__law_volley_right {g__law_random g__law_rallies g__law_same g_server_after g_scores_after g_winner_after : GF} (z : Zc K mg) (y : Yc P K mg) (T : Std K mg "_law_volley_right" s__law_volley_right ["generator"]) (D__law_random : Def P w K mg base (caK K) "_law_random" ["generator", "bound"] k g__law_random) (D__law_rallies : Def P w K mg base (caK K) "_law_rallies" ["generator", "many"] k g__law_rallies) (D__law_same : Def P w K mg base (caK K) "_law_same" ["told", "due"] k g__law_same) (D_server_after : Def P w K mg base (caK K) "server_after" ["rule", "first", "rallies"] k g_server_after) (D_scores_after : Def P w K mg base (caK K) "scores_after" ["rule", "first", "rallies"] k g_scores_after) (D_winner_after : Def P w K mg base (caK K) "winner_after" ["rule", "first", "rallies"] k g_winner_after) : Def P w K mg base (caK K) "_law_volley_right" ["generator"] (k + 1) (bodyT N__law_volley_right 1 (b__law_volley_right g__law_random g__law_rallies g__law_same g_server_after g_scores_after g_winner_after)) :=
  def_T T sc__law_volley_right fun f cdv A outer s H E hr hgu tk hp => by
 refine sss_cons ?_ ?_
 refine ss_par (i := 1) (j := 2) rfl sc__law_volley_right.nd rfl rfl (by decide) ?_
 refine sa_cons ?_ ?_
 refine se_callN D__law_random hr hgu tk (by rfl) ?_
 refine sa_cons ?_ ?_
 exact se_var 0
 refine sa_cons ?_ ?_
 exact se_int
 exact sa_nil
 refine sa_cons ?_ sa_nil
 refine se_callN D__law_rallies hr hgu tk (by rfl) ?_
 refine sa_cons ?_ ?_
 exact se_var 0
 refine sa_cons ?_ ?_
 refine se_op opd_add ?_ ?_
 exact se_int
 refine se_callN D__law_random hr hgu tk (by rfl) ?_
 refine sa_cons ?_ ?_
 exact se_var 0
 refine sa_cons ?_ ?_
 exact se_int
 exact sa_nil
 exact sa_nil
 refine sss_cons ?_ ?_
 refine ss_set (i := 3) sc__law_volley_right.nd rfl (by first | exact .inl rfl | exact .inr rfl) ?_
 refine se_tup ?_
 refine sa_cons ?_ ?_
 exact se_str
 refine sa_cons ?_ ?_
 exact se_int
 refine sa_cons ?_ ?_
 exact se_int
 refine sa_cons ?_ ?_
 exact se_non
 refine sa_cons ?_ ?_
 refine se_tup ?_
 refine sa_cons ?_ ?_
 exact se_str
 exact sa_nil
 refine sa_cons ?_ ?_
 refine se_tup ?_
 refine sa_cons ?_ ?_
 exact se_str
 exact sa_nil
 refine sa_cons ?_ ?_
 refine se_lst ?_
 exact sa_nil
 exact sa_nil
 refine sss_cons ?_ ?_
 refine ss_set (i := 4) sc__law_volley_right.nd rfl (by first | exact .inl rfl | exact .inr rfl) ?_
 refine se_tup ?_
 refine sa_cons ?_ ?_
 exact se_str
 refine sa_cons ?_ ?_
 exact se_int
 refine sa_cons ?_ ?_
 exact se_int
 refine sa_cons ?_ ?_
 exact se_non
 refine sa_cons ?_ ?_
 refine se_tup ?_
 refine sa_cons ?_ ?_
 exact se_str
 exact sa_nil
 refine sa_cons ?_ ?_
 refine se_tup ?_
 refine sa_cons ?_ ?_
 exact se_str
 refine sa_cons ?_ ?_
 exact se_int
 refine sa_cons ?_ ?_
 exact se_int
 refine sa_cons ?_ ?_
 exact se_non
 refine sa_cons ?_ ?_
 refine se_tup ?_
 refine sa_cons ?_ ?_
 exact se_str
 exact sa_nil
 refine sa_cons ?_ ?_
 refine se_tup ?_
 refine sa_cons ?_ ?_
 exact se_str
 exact sa_nil
 refine sa_cons ?_ ?_
 refine se_lst ?_
 exact sa_nil
 exact sa_nil
 refine sa_cons ?_ ?_
 refine se_lst ?_
 refine sa_cons ?_ ?_
 refine se_tup ?_
 refine sa_cons ?_ ?_
 refine se_tup ?_
 refine sa_cons ?_ ?_
 exact se_int
 refine sa_cons ?_ ?_
 exact se_int
 exact sa_nil
 refine sa_cons ?_ ?_
 exact se_var 3
 exact sa_nil
 exact sa_nil
 exact sa_nil
 refine sss_cons ?_ ?_
 refine ss_asg (se_tup ?_) ?_
 refine sa_cons ?_ ?_
 refine se_lstC ?_
 refine sa_cons ?_ ?_
 exact se_int
 refine sa_cons ?_ ?_
 exact se_int
 exact sa_nil
 refine sa_cons ?_ ?_
 refine se_lstC ?_
 refine sa_cons ?_ ?_
 exact se_int
 refine sa_cons ?_ ?_
 exact se_int
 exact sa_nil
 refine sa_cons ?_ ?_
 exact se_var 1
 refine sa_cons ?_ sa_nil
 refine se_lstC ?_
 refine sa_cons ?_ ?_
 exact se_var 1
 exact sa_nil
 refine sg_tup rfl ?_
 refine sgs_cons ?_ ?_
 exact sg_name sc__law_volley_right.nd (i := 5) rfl (by first | exact .inl rfl | exact .inr rfl)
 refine sgs_cons ?_ ?_
 exact sg_name sc__law_volley_right.nd (i := 6) rfl (by first | exact .inl rfl | exact .inr rfl)
 refine sgs_cons ?_ ?_
 exact sg_name sc__law_volley_right.nd (i := 7) rfl (by first | exact .inl rfl | exact .inr rfl)
 refine sgs_cons ?_ sgs_nil
 exact sg_name sc__law_volley_right.nd (i := 8) rfl (by first | exact .inl rfl | exact .inr rfl)
 refine sss_cons ?_ ?_
 refine ss_for hp rfl ?_ ?_ ?_
 refine si_enum (by rfl) z.b_enumerate ?_
 exact se_var 2
 refine sg_tup rfl ?_
 refine sgs_cons ?_ ?_
 exact sg_name sc__law_volley_right.nd (i := 9) rfl (by first | exact .inl rfl | exact .inr rfl)
 refine sgs_cons ?_ sgs_nil
 exact sg_name sc__law_volley_right.nd (i := 10) rfl (by first | exact .inl rfl | exact .inr rfl)
 refine sss_cons ?_ ?_
 refine ss_if ?_ ?_ ?_
 refine st_not ?_
 refine st_val ?_
 refine se_callN D__law_same hr hgu tk (by rfl) ?_
 refine sa_cons ?_ ?_
 refine se_lst ?_
 refine sa_cons ?_ ?_
 refine se_callN D_server_after hr hgu tk (by rfl) ?_
 refine sa_cons ?_ ?_
 exact se_var 4
 refine sa_cons ?_ ?_
 exact se_var 1
 refine sa_cons ?_ ?_
 refine se_slice ?_ ?_ ?_
 exact se_var 2
 exact so_none
 refine so_some ?_
 exact se_var 9
 exact sa_nil
 refine sa_cons ?_ ?_
 refine se_callN D_scores_after hr hgu tk (by rfl) ?_
 refine sa_cons ?_ ?_
 exact se_var 4
 refine sa_cons ?_ ?_
 exact se_var 1
 refine sa_cons ?_ ?_
 refine se_slice ?_ ?_ ?_
 exact se_var 2
 exact so_none
 refine so_some ?_
 exact se_var 9
 exact sa_nil
 exact sa_nil
 refine sa_cons ?_ ?_
 refine se_lst ?_
 refine sa_cons ?_ ?_
 exact se_var 7
 refine sa_cons ?_ ?_
 refine se_lst ?_
 refine sa_cons ?_ ?_
 refine se_callTy cd_tuple (by rfl) z.b_tuple bb_tuple ?_
 refine sa_cons ?_ ?_
 exact se_var 6
 exact sa_nil
 refine sa_cons ?_ ?_
 refine se_callTy cd_tuple (by rfl) z.b_tuple bb_tuple ?_
 refine sa_cons ?_ ?_
 exact se_var 5
 exact sa_nil
 exact sa_nil
 exact sa_nil
 exact sa_nil
 refine sss_one ?_
 refine ss_ret ?_
 exact se_bl
 exact sss_nil
 refine sss_cons ?_ ?_
 refine ss_asg ?_ ?_
 refine se_op opd_add ?_ ?_
 refine se_ix (hu1 hr) ?_ ?_ (fun _ _ => rfl)
 exact se_var 5
 exact se_var 10
 exact se_int
 refine sg_sub ?_ ?_ (by intro _; rfl)
 exact se_var 5
 exact se_var 10
 refine sss_cons ?_ ?_
 refine ss_set (i := 7) sc__law_volley_right.nd rfl (by first | exact .inl rfl | exact .inr rfl) ?_
 exact se_var 10
 refine sss_one ?_
 refine ss_if ?_ ?_ ?_
 refine SW.st ?_
 refine sw_and ?_ ?_
 refine st_cmp (opd_ge hr.units0) ?_ ?_ (nomark _)
 refine se_ix (hu1 hr) ?_ ?_ (fun _ _ => rfl)
 exact se_var 5
 exact se_var 10
 refine se_ifExp ?_ ?_ ?_
 refine st_cmp (opd_eq hr.units) ?_ ?_ (nomark _)
 exact se_var 6
 refine se_lst ?_
 refine sa_cons ?_ ?_
 exact se_int
 refine sa_cons ?_ ?_
 exact se_int
 exact sa_nil
 exact se_int
 exact se_int
 refine sw_and1 ?_
 refine st_cmp (opd_ge hr.units0) ?_ ?_ (nomark _)
 refine se_ix (hu1 hr) ?_ ?_ (fun _ _ => rfl)
 exact se_var 5
 exact se_var 10
 refine se_op opd_add ?_ ?_
 refine se_ix (hu1 hr) ?_ ?_ (fun _ _ => rfl)
 exact se_var 5
 refine se_op opd_sub ?_ ?_
 exact se_int
 exact se_var 10
 exact se_int
 refine sss_cons ?_ ?_
 refine ss_asg (se_tup ?_) ?_
 refine sa_cons ?_ ?_
 refine se_lstC ?_
 refine sa_cons ?_ ?_
 exact se_int
 refine sa_cons ?_ ?_
 exact se_int
 exact sa_nil
 refine sa_cons ?_ sa_nil
 refine se_op opd_add ?_ ?_
 refine se_ix (hu1 hr) ?_ ?_ (fun _ _ => rfl)
 exact se_var 6
 exact se_var 10
 exact se_int
 refine sg_tup rfl ?_
 refine sgs_cons ?_ ?_
 exact sg_name sc__law_volley_right.nd (i := 5) rfl (by first | exact .inl rfl | exact .inr rfl)
 refine sgs_cons ?_ sgs_nil
 refine sg_sub ?_ ?_ (by intro _; rfl)
 exact se_var 6
 exact se_var 10
 refine sss_cons ?_ ?_
 refine ss_expr ?_
 refine se_app1 ?_ ?_
 exact se_var 8
 refine se_op opd_sub ?_ ?_
 exact se_int
 refine se_ix (hu1 hr) ?_ ?_ (fun _ _ => rfl)
 exact se_var 8
 refine se_neg ?_
 exact se_int
 refine sss_cons ?_ ?_
 refine ss_set (i := 7) sc__law_volley_right.nd rfl (by first | exact .inl rfl | exact .inr rfl) ?_
 refine se_ix (hu1 hr) ?_ ?_ (fun _ _ => rfl)
 exact se_var 8
 refine se_neg ?_
 exact se_int
 refine sss_one ?_
 refine ss_if ?_ ?_ ?_
 refine st_cmp (opd_eq hr.units) ?_ ?_ (nomark _)
 refine se_ix (hu1 hr) ?_ ?_ (fun _ _ => rfl)
 exact se_var 6
 exact se_var 10
 exact se_int
 refine sss_one ?_
 refine ss_ret ?_
 refine se_callN D__law_same hr hgu tk (by rfl) ?_
 refine sa_cons ?_ ?_
 refine se_callN D_winner_after hr hgu tk (by rfl) ?_
 refine sa_cons ?_ ?_
 exact se_var 4
 refine sa_cons ?_ ?_
 exact se_var 1
 refine sa_cons ?_ ?_
 refine se_slice ?_ ?_ ?_
 exact se_var 2
 exact so_none
 refine so_some ?_
 refine se_op opd_add ?_ ?_
 exact se_var 9
 exact se_int
 exact sa_nil
 refine sa_cons ?_ ?_
 exact se_var 10
 exact sa_nil
 exact sss_nil
 exact sss_nil
 refine sss_one ?_
 refine ss_ret ?_
 refine se_cmp opd_is ?_ ?_ (nomark _)
 refine se_callN D_winner_after hr hgu tk (by rfl) ?_
 refine sa_cons ?_ ?_
 exact se_var 4
 refine sa_cons ?_ ?_
 exact se_var 1
 refine sa_cons ?_ ?_
 exact se_var 2
 exact sa_nil
 exact se_non
abbrev s__law_squash_right : Stmt := topS 58
theorem sc__law_squash_right : FnScope N__law_squash_right ["generator"] (defScope s__law_squash_right) := ⟨rfl, rfl, rfl, by decide +kernel, rfl, by decide +kernel, by decide +kernel⟩
theorem e__law_squash_right {g__law_random g__law_rallies g__law_same g_server_after g_scores_after g_winner_after : GF} (z : Zc K mg) (y : Yc P K mg) (T : Std K mg "_law_squash_right" s__law_squash_right ["generator"]) (D__law_random : Def P w K mg base (caK K) "_law_random" ["generator", "bound"] k g__law_random) (D__law_rallies : Def P w K mg base (caK K) "_law_rallies" ["generator", "many"] k g__law_rallies) (D__law_same : Def P w K mg base (caK K) "_law_same" ["told", "due"] k g__law_same) (D_server_after : Def P w K mg base (caK K) "server_after" ["rule", "first", "rallies"] k g_server_after) (D_scores_after : Def P w K mg base (caK K) "scores_after" ["rule", "first", "rallies"] k g_scores_after) (D_winner_after : Def P w K mg base (caK K) "winner_after" ["rule", "first", "rallies"] k g_winner_after) : Def P w K mg base (caK K) "_law_squash_right" ["generator"] (k + 1) (bodyT N__law_squash_right 1 (b__law_squash_right g__law_random g__law_rallies g__law_same g_server_after g_scores_after g_winner_after)) :=
  def_T T sc__law_squash_right fun f cdv A outer s H E hr hgu tk hp => by
 refine sss_cons ?_ ?_
 refine ss_par (i := 1) (j := 2) rfl sc__law_squash_right.nd rfl rfl (by decide) ?_
 refine sa_cons ?_ ?_
 refine se_callN D__law_random hr hgu tk (by rfl) ?_
 refine sa_cons ?_ ?_
 exact se_var 0
 refine sa_cons ?_ ?_
 exact se_int
 exact sa_nil
 refine sa_cons ?_ sa_nil
 refine se_callN D__law_rallies hr hgu tk (by rfl) ?_
 refine sa_cons ?_ ?_
 exact se_var 0
 refine sa_cons ?_ ?_
 exact se_int
 exact sa_nil
 refine sss_cons ?_ ?_
 refine ss_set (i := 3) sc__law_squash_right.nd rfl (by first | exact .inl rfl | exact .inr rfl) ?_
 refine se_tup ?_
 refine sa_cons ?_ ?_
 exact se_str
 refine sa_cons ?_ ?_
 exact se_int
 refine sa_cons ?_ ?_
 exact se_int
 refine sa_cons ?_ ?_
 exact se_non
 refine sa_cons ?_ ?_
 refine se_tup ?_
 refine sa_cons ?_ ?_
 exact se_str
 exact sa_nil
 refine sa_cons ?_ ?_
 refine se_tup ?_
 refine sa_cons ?_ ?_
 exact se_str
 exact sa_nil
 refine sa_cons ?_ ?_
 refine se_lst ?_
 exact sa_nil
 exact sa_nil
 refine sss_cons ?_ ?_
 refine ss_par (i := 4) (j := 5) rfl sc__law_squash_right.nd rfl rfl (by decide) ?_
 refine sa_cons ?_ ?_
 refine se_lstC ?_
 refine sa_cons ?_ ?_
 exact se_int
 refine sa_cons ?_ ?_
 exact se_int
 exact sa_nil
 refine sa_cons ?_ sa_nil
 exact se_var 1
 refine sss_cons ?_ ?_
 refine ss_for hp rfl ?_ ?_ ?_
 refine si_enum (by rfl) z.b_enumerate ?_
 exact se_var 2
 refine sg_tup rfl ?_
 refine sgs_cons ?_ ?_
 exact sg_name sc__law_squash_right.nd (i := 6) rfl (by first | exact .inl rfl | exact .inr rfl)
 refine sgs_cons ?_ sgs_nil
 exact sg_name sc__law_squash_right.nd (i := 7) rfl (by first | exact .inl rfl | exact .inr rfl)
 refine sss_cons ?_ ?_
 refine ss_if ?_ ?_ ?_
 refine st_not ?_
 refine st_val ?_
 refine se_callN D__law_same hr hgu tk (by rfl) ?_
 refine sa_cons ?_ ?_
 refine se_lst ?_
 refine sa_cons ?_ ?_
 refine se_callN D_server_after hr hgu tk (by rfl) ?_
 refine sa_cons ?_ ?_
 exact se_var 3
 refine sa_cons ?_ ?_
 exact se_var 1
 refine sa_cons ?_ ?_
 refine se_slice ?_ ?_ ?_
 exact se_var 2
 exact so_none
 refine so_some ?_
 exact se_var 6
 exact sa_nil
 refine sa_cons ?_ ?_
 refine se_callN D_scores_after hr hgu tk (by rfl) ?_
 refine sa_cons ?_ ?_
 exact se_var 3
 refine sa_cons ?_ ?_
 exact se_var 1
 refine sa_cons ?_ ?_
 refine se_slice ?_ ?_ ?_
 exact se_var 2
 exact so_none
 refine so_some ?_
 exact se_var 6
 exact sa_nil
 exact sa_nil
 refine sa_cons ?_ ?_
 refine se_lst ?_
 refine sa_cons ?_ ?_
 exact se_var 5
 refine sa_cons ?_ ?_
 refine se_lst ?_
 refine sa_cons ?_ ?_
 refine se_callTy cd_tuple (by rfl) z.b_tuple bb_tuple ?_
 refine sa_cons ?_ ?_
 exact se_var 4
 exact sa_nil
 exact sa_nil
 exact sa_nil
 exact sa_nil
 refine sss_one ?_
 refine ss_ret ?_
 exact se_bl
 exact sss_nil
 refine sss_cons ?_ ?_
 refine ss_if ?_ ?_ ?_
 refine st_cmp (opd_eq hr.units) ?_ ?_ (nomark _)
 exact se_var 7
 exact se_var 5
 refine sss_one ?_
 refine ss_asg ?_ ?_
 refine se_op opd_add ?_ ?_
 refine se_ix (hu1 hr) ?_ ?_ (fun _ _ => rfl)
 exact se_var 4
 exact se_var 7
 exact se_int
 refine sg_sub ?_ ?_ (by intro _; rfl)
 exact se_var 4
 exact se_var 7
 exact sss_nil
 refine sss_cons ?_ ?_
 refine ss_set (i := 5) sc__law_squash_right.nd rfl (by first | exact .inl rfl | exact .inr rfl) ?_
 exact se_var 7
 refine sss_one ?_
 refine ss_if ?_ ?_ ?_
 refine st_cmp (opd_eq hr.units) ?_ ?_ (nomark _)
 refine se_ix (hu1 hr) ?_ ?_ (fun _ _ => rfl)
 exact se_var 4
 exact se_var 7
 exact se_int
 refine sss_one ?_
 refine ss_ret ?_
 refine se_callN D__law_same hr hgu tk (by rfl) ?_
 refine sa_cons ?_ ?_
 refine se_callN D_winner_after hr hgu tk (by rfl) ?_
 refine sa_cons ?_ ?_
 exact se_var 3
 refine sa_cons ?_ ?_
 exact se_var 1
 refine sa_cons ?_ ?_
 refine se_slice ?_ ?_ ?_
 exact se_var 2
 exact so_none
 refine so_some ?_
 refine se_op opd_add ?_ ?_
 exact se_var 6
 exact se_int
 exact sa_nil
 refine sa_cons ?_ ?_
 exact se_var 7
 exact sa_nil
 exact sss_nil
 refine sss_one ?_
 refine ss_ret ?_
 refine se_cmp opd_is ?_ ?_ (nomark _)
 refine se_callN D_winner_after hr hgu tk (by rfl) ?_
 refine sa_cons ?_ ?_
 exact se_var 3
 refine sa_cons ?_ ?_
 exact se_var 1
 refine sa_cons ?_ ?_
 exact se_var 2
 exact sa_nil
 exact se_non
abbrev s_law : Stmt := topS 59
theorem sc_law : FnScope N_law ["script"] (defScope s_law) := ⟨rfl, rfl, rfl, by decide +kernel, rfl, by decide +kernel, by decide +kernel⟩
theorem e_law {g__law_generator g__law_tennis_right g__law_random g__law_quick_right g__law_volley_right g__law_squash_right : GF} (z : Zc K mg) (y : Yc P K mg) {f : Addr} {fd : FuncData} (F : Fun K "law" "law" s_law f fd) (D__law_generator : Def P w K mg base (caK K) "_law_generator" ["script", "index"] k g__law_generator) (D__law_tennis_right : Def P w K mg base (caK K) "_law_tennis_right" ["generator"] k g__law_tennis_right) (D__law_random : Def P w K mg base (caK K) "_law_random" ["generator", "bound"] k g__law_random) (D__law_quick_right : Def P w K mg base (caK K) "_law_quick_right" ["generator"] k g__law_quick_right) (D__law_volley_right : Def P w K mg base (caK K) "_law_volley_right" ["generator"] k g__law_volley_right) (D__law_squash_right : Def P w K mg base (caK K) "_law_squash_right" ["generator"] k g__law_squash_right) : FnG P w K mg base (k + 1) f fd ["script"] (spD K (caK K) 1 (bodyD N_law 1 (b_law g__law_generator g__law_tennis_right g__law_random g__law_quick_right g__law_volley_right g__law_squash_right))) :=
  law_D F sc_law fun cdv A outer s H E hr hgu tk hp => by
 refine sss_cons ?_ ?_
 refine ss_par (i := 1) (j := 2) rfl sc_law.nd rfl rfl (by decide) ?_
 refine sa_cons ?_ ?_
 refine se_callN D__law_generator hr hgu tk (by rfl) ?_
 refine sa_cons ?_ ?_
 exact se_var 0
 refine sa_cons ?_ ?_
 exact se_int
 exact sa_nil
 refine sa_cons ?_ sa_nil
 refine se_callN D__law_generator hr hgu tk (by rfl) ?_
 refine sa_cons ?_ ?_
 exact se_var 0
 refine sa_cons ?_ ?_
 exact se_int
 exact sa_nil
 refine sss_cons ?_ ?_
 refine ss_if ?_ ?_ ?_
 refine st_not ?_
 refine st_val ?_
 refine se_callN D__law_tennis_right hr hgu tk (by rfl) ?_
 refine sa_cons ?_ ?_
 exact se_var 1
 exact sa_nil
 refine sss_one ?_
 refine ss_ret ?_
 exact se_bl
 exact sss_nil
 refine sss_cons ?_ ?_
 refine ss_set (i := 3) sc_law.nd rfl (by first | exact .inl rfl | exact .inr rfl) ?_
 refine se_callN D__law_random hr hgu tk (by rfl) ?_
 refine sa_cons ?_ ?_
 exact se_var 2
 refine sa_cons ?_ ?_
 exact se_int
 exact sa_nil
 refine sss_cons ?_ ?_
 refine ss_if ?_ ?_ ?_
 refine st_cmp (opd_eq hr.units) ?_ ?_ (nomark _)
 exact se_var 3
 exact se_int
 refine sss_one ?_
 refine ss_ret ?_
 refine se_callN D__law_quick_right hr hgu tk (by rfl) ?_
 refine sa_cons ?_ ?_
 exact se_var 2
 exact sa_nil
 exact sss_nil
 refine sss_one ?_
 refine ss_ret ?_
 refine se_ifExp ?_ ?_ ?_
 refine st_cmp (opd_eq hr.units) ?_ ?_ (nomark _)
 exact se_var 3
 exact se_int
 refine se_callN D__law_volley_right hr hgu tk (by rfl) ?_
 refine sa_cons ?_ ?_
 exact se_var 2
 exact sa_nil
 refine se_callN D__law_squash_right hr hgu tk (by rfl) ?_
 refine sa_cons ?_ ?_
 exact se_var 2
 exact sa_nil
theorem all_defs (z : Zc K mg) (y : Yc P K mg)
    (T_is_whole : Std K mg "is_whole" s_is_whole ["value"])
    (T_is_count : Std K mg "is_count" s_is_count ["value"])
    (T_is_between : Std K mg "is_between" s_is_between ["value", "low", "high"])
    (T_is_side : Std K mg "is_side" s_is_side ["value"])
    (T_are_rallies : Std K mg "are_rallies" s_are_rallies ["value"])
    (T_is_word : Std K mg "is_word" s_is_word ["value", "word"])
    (T_is_order : Std K mg "is_order" s_is_order ["value"])
    (T_are_numbers_of_race : Std K mg "are_numbers_of_race" s_are_numbers_of_race ["need", "lead", "cap"])
    (T_is_score : Std K mg "is_score" s_is_score ["value"])
    (T_is_special : Std K mg "is_special" s_is_special ["value", "deep"])
    (T_are_specials : Std K mg "are_specials" s_are_specials ["value", "deep"])
    (T_is_rule_within : Std K mg "is_rule_within" s_is_rule_within ["value", "deep"])
    (T_is_rule : Std K mg "is_rule" s_is_rule ["value"])
    (T_check_rule : Std K mg "check_rule" s_check_rule ["rule"])
    (T_check_side : Std K mg "check_side" s_check_side ["side"])
    (T_check_rallies : Std K mg "check_rallies" s_check_rallies ["rallies"])
    (T_unit_of : Std K mg "unit_of" s_unit_of ["rule", "score"])
    (T_begun : Std K mg "begun" s_begun ["rule", "side"])
    (T_is_won : Std K mg "is_won" s_is_won ["rule", "score"])
    (T_next_turn : Std K mg "next_turn" s_next_turn ["rule", "state", "score", "winner", "hands"])
    (T_led_race : Std K mg "led_race" s_led_race ["rule", "state", "side"])
    (T_led : Std K mg "led" s_led ["rule", "state", "side"])
    (T_server_in : Std K mg "server_in" s_server_in ["state"])
    (T_scores_in : Std K mg "scores_in" s_scores_in ["state"])
    (T_led_by : Std K mg "led_by" s_led_by ["rule", "first", "rallies"])
    (T_check_match : Std K mg "check_match" s_check_match ["rule", "first", "rallies"])
    (T_behind : Std K mg "behind" s_behind ["rule", "first", "rallies"])
    (T_going_on : Std K mg "going_on" s_going_on ["rule", "first", "rallies"])
    (T_winner_after : Std K mg "winner_after" s_winner_after ["rule", "first", "rallies"])
    (T_server_after : Std K mg "server_after" s_server_after ["rule", "first", "rallies"])
    (T_last_score : Std K mg "last_score" s_last_score ["rule", "state", "side"])
    (T_scores_after : Std K mg "scores_after" s_scores_after ["rule", "first", "rallies"])
    (T_servers_of : Std K mg "servers_of" s_servers_of ["rule", "first", "rallies"])
    (T__law_hash : Std K mg "_law_hash" s__law_hash ["seed", "index"])
    (T__law_random : Std K mg "_law_random" s__law_random ["generator", "bound"])
    (T__law_cell : Std K mg "_law_cell" s__law_cell ["script", "index"])
    (T__law_generator : Std K mg "_law_generator" s__law_generator ["script", "index"])
    (T__law_pick : Std K mg "_law_pick" s__law_pick ["generator", "things"])
    (T__law_same : Std K mg "_law_same" s__law_same ["told", "due"])
    (T__law_rallies : Std K mg "_law_rallies" s__law_rallies ["generator", "many"])
    (T__law_tennis : Std K mg "_law_tennis" s__law_tennis ["sets"])
    (T__law_tennis_behind : Std K mg "_law_tennis_behind" s__law_tennis_behind ["sets", "first", "rallies"])
    (T__law_tennis_right : Std K mg "_law_tennis_right" s__law_tennis_right ["generator"])
    (T__law_table_tennis : Std K mg "_law_table_tennis" s__law_table_tennis ["first", "rallies"])
    (T__law_quick_right : Std K mg "_law_quick_right" s__law_quick_right ["generator"])
    (T__law_volley_right : Std K mg "_law_volley_right" s__law_volley_right ["generator"])
    (T__law_squash_right : Std K mg "_law_squash_right" s__law_squash_right ["generator"]) {f : Addr} {fd : FuncData} (F : Fun K "law" "law" s_law f fd) : FnG P w K mg base 39 f fd ["script"] (spD K (caK K) 1 g_law) := by
  have d_is_whole : Def P w K mg base (caK K) "is_whole" ["value"] 1 g_is_whole := e_is_whole (k := 0) z y T_is_whole
  have d_is_count : Def P w K mg base (caK K) "is_count" ["value"] 2 g_is_count := e_is_count (k := 1) z y T_is_count (d_is_whole.mono (by first | decide | omega))
  have d_is_between : Def P w K mg base (caK K) "is_between" ["value", "low", "high"] 2 g_is_between := e_is_between (k := 1) z y T_is_between (d_is_whole.mono (by first | decide | omega))
  have d_is_side : Def P w K mg base (caK K) "is_side" ["value"] 3 g_is_side := e_is_side (k := 2) z y T_is_side (d_is_between.mono (by first | decide | omega))
  have d_are_rallies : Def P w K mg base (caK K) "are_rallies" ["value"] 4 g_are_rallies := e_are_rallies (k := 3) z y T_are_rallies (d_is_side.mono (by first | decide | omega))
  have d_is_word : Def P w K mg base (caK K) "is_word" ["value", "word"] 1 g_is_word := e_is_word (k := 0) z y T_is_word
  have d_is_order : Def P w K mg base (caK K) "is_order" ["value"] 4 g_is_order := e_is_order (k := 3) z y T_is_order (d_is_word.mono (by first | decide | omega)) (d_is_side.mono (by first | decide | omega))
  have d_are_numbers_of_race : Def P w K mg base (caK K) "are_numbers_of_race" ["need", "lead", "cap"] 3 g_are_numbers_of_race := e_are_numbers_of_race (k := 2) z y T_are_numbers_of_race (d_is_between.mono (by first | decide | omega))
  have d_is_score : Def P w K mg base (caK K) "is_score" ["value"] 3 g_is_score := e_is_score (k := 2) z y T_is_score (d_is_count.mono (by first | decide | omega))
  have r_is_special : ∀ n : Nat, Def P w K mg base (caK K) "is_special" ["value", "deep"] (4 + n) (g_is_special n) ∧ Def P w K mg base (caK K) "are_specials" ["value", "deep"] (4 + n) (g_are_specials n) ∧ Def P w K mg base (caK K) "is_rule_within" ["value", "deep"] (4 + n) (g_is_rule_within n) := by
    intro n
    induction n with
    | zero => exact ⟨T_is_special.never, T_are_specials.never, T_is_rule_within.never⟩
    | succ n ih => exact ⟨e_is_special (k := 4 + n) z y T_is_special (d_is_score.mono (by first | decide | omega)) ih.2.2, e_are_specials (k := 4 + n) z y T_are_specials ih.1, e_is_rule_within (k := 4 + n) z y T_is_rule_within (d_is_word.mono (by first | decide | omega)) (d_are_numbers_of_race.mono (by first | decide | omega)) (d_is_order.mono (by first | decide | omega)) ih.2.2 ih.2.1⟩
  have d_is_special : Def P w K mg base (caK K) "is_special" ["value", "deep"] 20 (g_is_special 16) := (r_is_special 16).1
  have d_are_specials : Def P w K mg base (caK K) "are_specials" ["value", "deep"] 20 (g_are_specials 16) := (r_is_special 16).2.1
  have d_is_rule_within : Def P w K mg base (caK K) "is_rule_within" ["value", "deep"] 20 (g_is_rule_within 16) := (r_is_special 16).2.2
  have d_is_rule : Def P w K mg base (caK K) "is_rule" ["value"] 21 g_is_rule := e_is_rule (k := 20) z y T_is_rule (d_is_rule_within.mono (by first | decide | omega))
  have d_check_rule : Def P w K mg base (caK K) "check_rule" ["rule"] 22 g_check_rule := e_check_rule (k := 21) z y T_check_rule (by decide) (d_is_rule.mono (by first | decide | omega))
  have d_check_side : Def P w K mg base (caK K) "check_side" ["side"] 4 g_check_side := e_check_side (k := 3) z y T_check_side (by decide) (d_is_side.mono (by first | decide | omega))
  have d_check_rallies : Def P w K mg base (caK K) "check_rallies" ["rallies"] 5 g_check_rallies := e_check_rallies (k := 4) z y T_check_rallies (by decide) (d_are_rallies.mono (by first | decide | omega))
  have d_unit_of : Def P w K mg base (caK K) "unit_of" ["rule", "score"] 1 g_unit_of := e_unit_of (k := 0) z y T_unit_of
  have r_begun : ∀ n : Nat, Def P w K mg base (caK K) "begun" ["rule", "side"] (1 + n) (g_begun n) := by
    intro n
    induction n with
    | zero => exact T_begun.never
    | succ n ih => exact e_begun (k := 1 + n) z y T_begun ih (d_unit_of.mono (by first | decide | omega))
  have d_begun : Def P w K mg base (caK K) "begun" ["rule", "side"] 17 (g_begun 16) := (r_begun 16)
  have d_is_won : Def P w K mg base (caK K) "is_won" ["rule", "score"] 1 g_is_won := e_is_won (k := 0) z y T_is_won
  have d_next_turn : Def P w K mg base (caK K) "next_turn" ["rule", "state", "score", "winner", "hands"] 1 g_next_turn := e_next_turn (k := 0) z y T_next_turn
  have r_led_race : ∀ n : Nat, Def P w K mg base (caK K) "led_race" ["rule", "state", "side"] (17 + n) (g_led_race n) ∧ Def P w K mg base (caK K) "led" ["rule", "state", "side"] (17 + n) (g_led n) := by
    intro n
    induction n with
    | zero => exact ⟨T_led_race.never, T_led.never⟩
    | succ n ih => exact ⟨e_led_race (k := 17 + n) z y T_led_race ih.2 (d_unit_of.mono (by first | decide | omega)) (d_next_turn.mono (by first | decide | omega)) (d_is_won.mono (by first | decide | omega)) (d_begun.mono (by first | decide | omega)), e_led (k := 17 + n) z y T_led ih.1⟩
  have d_led_race : Def P w K mg base (caK K) "led_race" ["rule", "state", "side"] 33 (g_led_race 16) := (r_led_race 16).1
  have d_led : Def P w K mg base (caK K) "led" ["rule", "state", "side"] 33 (g_led 16) := (r_led_race 16).2
  have d_server_in : Def P w K mg base (caK K) "server_in" ["state"] 1 g_server_in := e_server_in (k := 0) z y T_server_in
  have d_scores_in : Def P w K mg base (caK K) "scores_in" ["state"] 1 g_scores_in := e_scores_in (k := 0) z y T_scores_in
  have d_led_by : Def P w K mg base (caK K) "led_by" ["rule", "first", "rallies"] 34 g_led_by := e_led_by (k := 33) z y T_led_by (d_begun.mono (by first | decide | omega)) (d_led.mono (by first | decide | omega))
  have d_check_match : Def P w K mg base (caK K) "check_match" ["rule", "first", "rallies"] 23 g_check_match := e_check_match (k := 22) z y T_check_match (d_check_rule.mono (by first | decide | omega)) (d_check_side.mono (by first | decide | omega)) (d_check_rallies.mono (by first | decide | omega))
  have d_behind : Def P w K mg base (caK K) "behind" ["rule", "first", "rallies"] 35 g_behind := e_behind (k := 34) z y T_behind (by decide) (d_led_by.mono (by first | decide | omega))
  have d_going_on : Def P w K mg base (caK K) "going_on" ["rule", "first", "rallies"] 36 g_going_on := e_going_on (k := 35) z y T_going_on (by decide) (d_behind.mono (by first | decide | omega))
  have d_winner_after : Def P w K mg base (caK K) "winner_after" ["rule", "first", "rallies"] 36 g_winner_after := e_winner_after (k := 35) z y T_winner_after (d_check_match.mono (by first | decide | omega)) (d_behind.mono (by first | decide | omega))
  have d_server_after : Def P w K mg base (caK K) "server_after" ["rule", "first", "rallies"] 37 g_server_after := e_server_after (k := 36) z y T_server_after (d_check_match.mono (by first | decide | omega)) (d_server_in.mono (by first | decide | omega)) (d_going_on.mono (by first | decide | omega))
  have d_last_score : Def P w K mg base (caK K) "last_score" ["rule", "state", "side"] 34 g_last_score := e_last_score (k := 33) z y T_last_score (d_led.mono (by first | decide | omega)) (d_unit_of.mono (by first | decide | omega))
  have d_scores_after : Def P w K mg base (caK K) "scores_after" ["rule", "first", "rallies"] 36 g_scores_after := e_scores_after (k := 35) z y T_scores_after (d_check_match.mono (by first | decide | omega)) (d_behind.mono (by first | decide | omega)) (d_scores_in.mono (by first | decide | omega)) (d_last_score.mono (by first | decide | omega)) (d_led_by.mono (by first | decide | omega))
  have d_servers_of : Def P w K mg base (caK K) "servers_of" ["rule", "first", "rallies"] 36 g_servers_of := e_servers_of (k := 35) z y T_servers_of (d_check_match.mono (by first | decide | omega)) (d_behind.mono (by first | decide | omega)) (d_begun.mono (by first | decide | omega)) (d_server_in.mono (by first | decide | omega)) (d_led.mono (by first | decide | omega))
  have d__law_hash : Def P w K mg base (caK K) "_law_hash" ["seed", "index"] 1 g__law_hash := e__law_hash (k := 0) z y T__law_hash
  have d__law_random : Def P w K mg base (caK K) "_law_random" ["generator", "bound"] 2 g__law_random := e__law_random (k := 1) z y T__law_random (d__law_hash.mono (by first | decide | omega))
  have d__law_cell : Def P w K mg base (caK K) "_law_cell" ["script", "index"] 1 g__law_cell := e__law_cell (k := 0) z y T__law_cell
  have d__law_generator : Def P w K mg base (caK K) "_law_generator" ["script", "index"] 2 g__law_generator := e__law_generator (k := 1) z y T__law_generator (d__law_cell.mono (by first | decide | omega))
  have d__law_pick : Def P w K mg base (caK K) "_law_pick" ["generator", "things"] 3 g__law_pick := e__law_pick (k := 2) z y T__law_pick (d__law_random.mono (by first | decide | omega))
  have r__law_same : ∀ n : Nat, Def P w K mg base (caK K) "_law_same" ["told", "due"] (0 + n) (g__law_same n) := by
    intro n
    induction n with
    | zero => exact T__law_same.never
    | succ n ih => exact e__law_same (k := 0 + n) z y T__law_same ih
  have d__law_same : Def P w K mg base (caK K) "_law_same" ["told", "due"] 16 (g__law_same 16) := (r__law_same 16)
  have d__law_rallies : Def P w K mg base (caK K) "_law_rallies" ["generator", "many"] 4 g__law_rallies := e__law_rallies (k := 3) z y T__law_rallies (d__law_pick.mono (by first | decide | omega)) (d__law_random.mono (by first | decide | omega))
  have d__law_tennis : Def P w K mg base (caK K) "_law_tennis" ["sets"] 1 g__law_tennis := e__law_tennis (k := 0) z y T__law_tennis
  have d__law_tennis_behind : Def P w K mg base (caK K) "_law_tennis_behind" ["sets", "first", "rallies"] 1 g__law_tennis_behind := e__law_tennis_behind (k := 0) z y T__law_tennis_behind
  have d__law_tennis_right : Def P w K mg base (caK K) "_law_tennis_right" ["generator"] 38 g__law_tennis_right := e__law_tennis_right (k := 37) z y T__law_tennis_right (d__law_random.mono (by first | decide | omega)) (d__law_pick.mono (by first | decide | omega)) (d__law_tennis.mono (by first | decide | omega)) (d__law_tennis_behind.mono (by first | decide | omega)) (d__law_same.mono (by first | decide | omega)) (d_winner_after.mono (by first | decide | omega)) (d_scores_after.mono (by first | decide | omega)) (d_server_after.mono (by first | decide | omega)) (d_servers_of.mono (by first | decide | omega))
  have d__law_table_tennis : Def P w K mg base (caK K) "_law_table_tennis" ["first", "rallies"] 1 g__law_table_tennis := e__law_table_tennis (k := 0) z y T__law_table_tennis
  have d__law_quick_right : Def P w K mg base (caK K) "_law_quick_right" ["generator"] 37 g__law_quick_right := e__law_quick_right (k := 36) z y T__law_quick_right (d__law_random.mono (by first | decide | omega)) (d__law_rallies.mono (by first | decide | omega)) (d__law_table_tennis.mono (by first | decide | omega)) (d_winner_after.mono (by first | decide | omega)) (d__law_same.mono (by first | decide | omega)) (d_servers_of.mono (by first | decide | omega)) (d_scores_after.mono (by first | decide | omega))
  have d__law_volley_right : Def P w K mg base (caK K) "_law_volley_right" ["generator"] 38 g__law_volley_right := e__law_volley_right (k := 37) z y T__law_volley_right (d__law_random.mono (by first | decide | omega)) (d__law_rallies.mono (by first | decide | omega)) (d__law_same.mono (by first | decide | omega)) (d_server_after.mono (by first | decide | omega)) (d_scores_after.mono (by first | decide | omega)) (d_winner_after.mono (by first | decide | omega))
  have d__law_squash_right : Def P w K mg base (caK K) "_law_squash_right" ["generator"] 38 g__law_squash_right := e__law_squash_right (k := 37) z y T__law_squash_right (d__law_random.mono (by first | decide | omega)) (d__law_rallies.mono (by first | decide | omega)) (d__law_same.mono (by first | decide | omega)) (d_server_after.mono (by first | decide | omega)) (d_scores_after.mono (by first | decide | omega)) (d_winner_after.mono (by first | decide | omega))
  exact e_law (k := 38) z y F (d__law_generator.mono (by first | decide | omega)) (d__law_tennis_right.mono (by first | decide | omega)) (d__law_random.mono (by first | decide | omega)) (d__law_quick_right.mono (by first | decide | omega)) (d__law_volley_right.mono (by first | decide | omega)) (d__law_squash_right.mono (by first | decide | omega))
end
abbrev i_InvalidRule : Stmt := inS (topS 2)
theorem it_InvalidRule : InitT i_InvalidRule := ⟨⟨_, _, _, _, _, _, _, _, _, _, rfl, fun _ => ⟨_, rfl⟩⟩, ⟨rfl, rfl, rfl, rfl⟩, fun y h => free_by (by rfl) h, by decide +kernel, rfl, rfl, rfl, ⟨_, rfl, rfl⟩⟩
abbrev i_InvalidSide : Stmt := inS (topS 3)
theorem it_InvalidSide : InitT i_InvalidSide := ⟨⟨_, _, _, _, _, _, _, _, _, _, rfl, fun _ => ⟨_, rfl⟩⟩, ⟨rfl, rfl, rfl, rfl⟩, fun y h => free_by (by rfl) h, by decide +kernel, rfl, rfl, rfl, ⟨_, rfl, rfl⟩⟩
abbrev i_InvalidRallies : Stmt := inS (topS 4)
theorem it_InvalidRallies : InitT i_InvalidRallies := ⟨⟨_, _, _, _, _, _, _, _, _, _, rfl, fun _ => ⟨_, rfl⟩⟩, ⟨rfl, rfl, rfl, rfl⟩, fun y h => free_by (by rfl) h, by decide +kernel, rfl, rfl, rfl, ⟨_, rfl, rfl⟩⟩
abbrev i_Ended : Stmt := inS (topS 5)
theorem it_Ended : InitT i_Ended := ⟨⟨_, _, _, _, _, _, _, _, _, _, rfl, fun _ => ⟨_, rfl⟩⟩, ⟨rfl, rfl, rfl, rfl⟩, fun y h => free_by (by rfl) h, by decide +kernel, rfl, rfl, rfl, ⟨_, rfl, rfl⟩⟩
theorem all_mk {P : Program} {w : World} {K : PySem.W.Frag} {h : Heap} {mg : Str → Option Value} {fa : Addr} (X : K.In h) (G : h.Ns mainGlobals mg) (hfa : mg "law" = some (.ref fa))
    {od1 an1 : Option Addr} {sl1 : Array (Option Value)} {oc1 kV1 dc1 pm1 cd1 ct1 : Value} {f1 : Addr}
    (a1 : PySem.W.nsIn K mainGlobals "is_whole" = some (some (.ref f1))) (l1 : K.lookup f1 = some ⟨oc1, od1, .func (PySem.W.fnOf "is_whole" "is_whole" (defArgs s_is_whole) (defBody s_is_whole) (defScope s_is_whole) .none kV1 dc1 pm1 an1 cd1 ct1), sl1⟩) (c1 : PySem.W.codeIn K cd1 "is_whole" = true) (k1 : PySem.W.keepIn K (.ref f1) = true)
    {od2 an2 : Option Addr} {sl2 : Array (Option Value)} {oc2 kV2 dc2 pm2 cd2 ct2 : Value} {f2 : Addr}
    (a2 : PySem.W.nsIn K mainGlobals "is_count" = some (some (.ref f2))) (l2 : K.lookup f2 = some ⟨oc2, od2, .func (PySem.W.fnOf "is_count" "is_count" (defArgs s_is_count) (defBody s_is_count) (defScope s_is_count) .none kV2 dc2 pm2 an2 cd2 ct2), sl2⟩) (c2 : PySem.W.codeIn K cd2 "is_count" = true) (k2 : PySem.W.keepIn K (.ref f2) = true)
    {od3 an3 : Option Addr} {sl3 : Array (Option Value)} {oc3 kV3 dc3 pm3 cd3 ct3 : Value} {f3 : Addr}
    (a3 : PySem.W.nsIn K mainGlobals "is_between" = some (some (.ref f3))) (l3 : K.lookup f3 = some ⟨oc3, od3, .func (PySem.W.fnOf "is_between" "is_between" (defArgs s_is_between) (defBody s_is_between) (defScope s_is_between) .none kV3 dc3 pm3 an3 cd3 ct3), sl3⟩) (c3 : PySem.W.codeIn K cd3 "is_between" = true) (k3 : PySem.W.keepIn K (.ref f3) = true)
    {od4 an4 : Option Addr} {sl4 : Array (Option Value)} {oc4 kV4 dc4 pm4 cd4 ct4 : Value} {f4 : Addr}
    (a4 : PySem.W.nsIn K mainGlobals "is_side" = some (some (.ref f4))) (l4 : K.lookup f4 = some ⟨oc4, od4, .func (PySem.W.fnOf "is_side" "is_side" (defArgs s_is_side) (defBody s_is_side) (defScope s_is_side) .none kV4 dc4 pm4 an4 cd4 ct4), sl4⟩) (c4 : PySem.W.codeIn K cd4 "is_side" = true) (k4 : PySem.W.keepIn K (.ref f4) = true)
    {od5 an5 : Option Addr} {sl5 : Array (Option Value)} {oc5 kV5 dc5 pm5 cd5 ct5 : Value} {f5 : Addr}
    (a5 : PySem.W.nsIn K mainGlobals "are_rallies" = some (some (.ref f5))) (l5 : K.lookup f5 = some ⟨oc5, od5, .func (PySem.W.fnOf "are_rallies" "are_rallies" (defArgs s_are_rallies) (defBody s_are_rallies) (defScope s_are_rallies) .none kV5 dc5 pm5 an5 cd5 ct5), sl5⟩) (c5 : PySem.W.codeIn K cd5 "are_rallies" = true) (k5 : PySem.W.keepIn K (.ref f5) = true)
    {od6 an6 : Option Addr} {sl6 : Array (Option Value)} {oc6 kV6 dc6 pm6 cd6 ct6 : Value} {f6 : Addr}
    (a6 : PySem.W.nsIn K mainGlobals "is_word" = some (some (.ref f6))) (l6 : K.lookup f6 = some ⟨oc6, od6, .func (PySem.W.fnOf "is_word" "is_word" (defArgs s_is_word) (defBody s_is_word) (defScope s_is_word) .none kV6 dc6 pm6 an6 cd6 ct6), sl6⟩) (c6 : PySem.W.codeIn K cd6 "is_word" = true) (k6 : PySem.W.keepIn K (.ref f6) = true)
    {od7 an7 : Option Addr} {sl7 : Array (Option Value)} {oc7 kV7 dc7 pm7 cd7 ct7 : Value} {f7 : Addr}
    (a7 : PySem.W.nsIn K mainGlobals "is_order" = some (some (.ref f7))) (l7 : K.lookup f7 = some ⟨oc7, od7, .func (PySem.W.fnOf "is_order" "is_order" (defArgs s_is_order) (defBody s_is_order) (defScope s_is_order) .none kV7 dc7 pm7 an7 cd7 ct7), sl7⟩) (c7 : PySem.W.codeIn K cd7 "is_order" = true) (k7 : PySem.W.keepIn K (.ref f7) = true)
    {od8 an8 : Option Addr} {sl8 : Array (Option Value)} {oc8 kV8 dc8 pm8 cd8 ct8 : Value} {f8 : Addr}
    (a8 : PySem.W.nsIn K mainGlobals "are_numbers_of_race" = some (some (.ref f8))) (l8 : K.lookup f8 = some ⟨oc8, od8, .func (PySem.W.fnOf "are_numbers_of_race" "are_numbers_of_race" (defArgs s_are_numbers_of_race) (defBody s_are_numbers_of_race) (defScope s_are_numbers_of_race) .none kV8 dc8 pm8 an8 cd8 ct8), sl8⟩) (c8 : PySem.W.codeIn K cd8 "are_numbers_of_race" = true) (k8 : PySem.W.keepIn K (.ref f8) = true)
    {od9 an9 : Option Addr} {sl9 : Array (Option Value)} {oc9 kV9 dc9 pm9 cd9 ct9 : Value} {f9 : Addr}
    (a9 : PySem.W.nsIn K mainGlobals "is_score" = some (some (.ref f9))) (l9 : K.lookup f9 = some ⟨oc9, od9, .func (PySem.W.fnOf "is_score" "is_score" (defArgs s_is_score) (defBody s_is_score) (defScope s_is_score) .none kV9 dc9 pm9 an9 cd9 ct9), sl9⟩) (c9 : PySem.W.codeIn K cd9 "is_score" = true) (k9 : PySem.W.keepIn K (.ref f9) = true)
    {od10 an10 : Option Addr} {sl10 : Array (Option Value)} {oc10 kV10 dc10 pm10 cd10 ct10 : Value} {f10 : Addr}
    (a10 : PySem.W.nsIn K mainGlobals "is_special" = some (some (.ref f10))) (l10 : K.lookup f10 = some ⟨oc10, od10, .func (PySem.W.fnOf "is_special" "is_special" (defArgs s_is_special) (defBody s_is_special) (defScope s_is_special) .none kV10 dc10 pm10 an10 cd10 ct10), sl10⟩) (c10 : PySem.W.codeIn K cd10 "is_special" = true) (k10 : PySem.W.keepIn K (.ref f10) = true)
    {od11 an11 : Option Addr} {sl11 : Array (Option Value)} {oc11 kV11 dc11 pm11 cd11 ct11 : Value} {f11 : Addr}
    (a11 : PySem.W.nsIn K mainGlobals "are_specials" = some (some (.ref f11))) (l11 : K.lookup f11 = some ⟨oc11, od11, .func (PySem.W.fnOf "are_specials" "are_specials" (defArgs s_are_specials) (defBody s_are_specials) (defScope s_are_specials) .none kV11 dc11 pm11 an11 cd11 ct11), sl11⟩) (c11 : PySem.W.codeIn K cd11 "are_specials" = true) (k11 : PySem.W.keepIn K (.ref f11) = true)
    {od12 an12 : Option Addr} {sl12 : Array (Option Value)} {oc12 kV12 dc12 pm12 cd12 ct12 : Value} {f12 : Addr}
    (a12 : PySem.W.nsIn K mainGlobals "is_rule_within" = some (some (.ref f12))) (l12 : K.lookup f12 = some ⟨oc12, od12, .func (PySem.W.fnOf "is_rule_within" "is_rule_within" (defArgs s_is_rule_within) (defBody s_is_rule_within) (defScope s_is_rule_within) .none kV12 dc12 pm12 an12 cd12 ct12), sl12⟩) (c12 : PySem.W.codeIn K cd12 "is_rule_within" = true) (k12 : PySem.W.keepIn K (.ref f12) = true)
    {od13 an13 : Option Addr} {sl13 : Array (Option Value)} {oc13 kV13 dc13 pm13 cd13 ct13 : Value} {f13 : Addr}
    (a13 : PySem.W.nsIn K mainGlobals "is_rule" = some (some (.ref f13))) (l13 : K.lookup f13 = some ⟨oc13, od13, .func (PySem.W.fnOf "is_rule" "is_rule" (defArgs s_is_rule) (defBody s_is_rule) (defScope s_is_rule) .none kV13 dc13 pm13 an13 cd13 ct13), sl13⟩) (c13 : PySem.W.codeIn K cd13 "is_rule" = true) (k13 : PySem.W.keepIn K (.ref f13) = true)
    {od14 an14 : Option Addr} {sl14 : Array (Option Value)} {oc14 kV14 dc14 pm14 cd14 ct14 : Value} {f14 : Addr}
    (a14 : PySem.W.nsIn K mainGlobals "check_rule" = some (some (.ref f14))) (l14 : K.lookup f14 = some ⟨oc14, od14, .func (PySem.W.fnOf "check_rule" "check_rule" (defArgs s_check_rule) (defBody s_check_rule) (defScope s_check_rule) .none kV14 dc14 pm14 an14 cd14 ct14), sl14⟩) (c14 : PySem.W.codeIn K cd14 "check_rule" = true) (k14 : PySem.W.keepIn K (.ref f14) = true)
    {od15 an15 : Option Addr} {sl15 : Array (Option Value)} {oc15 kV15 dc15 pm15 cd15 ct15 : Value} {f15 : Addr}
    (a15 : PySem.W.nsIn K mainGlobals "check_side" = some (some (.ref f15))) (l15 : K.lookup f15 = some ⟨oc15, od15, .func (PySem.W.fnOf "check_side" "check_side" (defArgs s_check_side) (defBody s_check_side) (defScope s_check_side) .none kV15 dc15 pm15 an15 cd15 ct15), sl15⟩) (c15 : PySem.W.codeIn K cd15 "check_side" = true) (k15 : PySem.W.keepIn K (.ref f15) = true)
    {od16 an16 : Option Addr} {sl16 : Array (Option Value)} {oc16 kV16 dc16 pm16 cd16 ct16 : Value} {f16 : Addr}
    (a16 : PySem.W.nsIn K mainGlobals "check_rallies" = some (some (.ref f16))) (l16 : K.lookup f16 = some ⟨oc16, od16, .func (PySem.W.fnOf "check_rallies" "check_rallies" (defArgs s_check_rallies) (defBody s_check_rallies) (defScope s_check_rallies) .none kV16 dc16 pm16 an16 cd16 ct16), sl16⟩) (c16 : PySem.W.codeIn K cd16 "check_rallies" = true) (k16 : PySem.W.keepIn K (.ref f16) = true)
    {od17 an17 : Option Addr} {sl17 : Array (Option Value)} {oc17 kV17 dc17 pm17 cd17 ct17 : Value} {f17 : Addr}
    (a17 : PySem.W.nsIn K mainGlobals "unit_of" = some (some (.ref f17))) (l17 : K.lookup f17 = some ⟨oc17, od17, .func (PySem.W.fnOf "unit_of" "unit_of" (defArgs s_unit_of) (defBody s_unit_of) (defScope s_unit_of) .none kV17 dc17 pm17 an17 cd17 ct17), sl17⟩) (c17 : PySem.W.codeIn K cd17 "unit_of" = true) (k17 : PySem.W.keepIn K (.ref f17) = true)
    {od18 an18 : Option Addr} {sl18 : Array (Option Value)} {oc18 kV18 dc18 pm18 cd18 ct18 : Value} {f18 : Addr}
    (a18 : PySem.W.nsIn K mainGlobals "begun" = some (some (.ref f18))) (l18 : K.lookup f18 = some ⟨oc18, od18, .func (PySem.W.fnOf "begun" "begun" (defArgs s_begun) (defBody s_begun) (defScope s_begun) .none kV18 dc18 pm18 an18 cd18 ct18), sl18⟩) (c18 : PySem.W.codeIn K cd18 "begun" = true) (k18 : PySem.W.keepIn K (.ref f18) = true)
    {od19 an19 : Option Addr} {sl19 : Array (Option Value)} {oc19 kV19 dc19 pm19 cd19 ct19 : Value} {f19 : Addr}
    (a19 : PySem.W.nsIn K mainGlobals "is_won" = some (some (.ref f19))) (l19 : K.lookup f19 = some ⟨oc19, od19, .func (PySem.W.fnOf "is_won" "is_won" (defArgs s_is_won) (defBody s_is_won) (defScope s_is_won) .none kV19 dc19 pm19 an19 cd19 ct19), sl19⟩) (c19 : PySem.W.codeIn K cd19 "is_won" = true) (k19 : PySem.W.keepIn K (.ref f19) = true)
    {od20 an20 : Option Addr} {sl20 : Array (Option Value)} {oc20 kV20 dc20 pm20 cd20 ct20 : Value} {f20 : Addr}
    (a20 : PySem.W.nsIn K mainGlobals "next_turn" = some (some (.ref f20))) (l20 : K.lookup f20 = some ⟨oc20, od20, .func (PySem.W.fnOf "next_turn" "next_turn" (defArgs s_next_turn) (defBody s_next_turn) (defScope s_next_turn) .none kV20 dc20 pm20 an20 cd20 ct20), sl20⟩) (c20 : PySem.W.codeIn K cd20 "next_turn" = true) (k20 : PySem.W.keepIn K (.ref f20) = true)
    {od21 an21 : Option Addr} {sl21 : Array (Option Value)} {oc21 kV21 dc21 pm21 cd21 ct21 : Value} {f21 : Addr}
    (a21 : PySem.W.nsIn K mainGlobals "led_race" = some (some (.ref f21))) (l21 : K.lookup f21 = some ⟨oc21, od21, .func (PySem.W.fnOf "led_race" "led_race" (defArgs s_led_race) (defBody s_led_race) (defScope s_led_race) .none kV21 dc21 pm21 an21 cd21 ct21), sl21⟩) (c21 : PySem.W.codeIn K cd21 "led_race" = true) (k21 : PySem.W.keepIn K (.ref f21) = true)
    {od22 an22 : Option Addr} {sl22 : Array (Option Value)} {oc22 kV22 dc22 pm22 cd22 ct22 : Value} {f22 : Addr}
    (a22 : PySem.W.nsIn K mainGlobals "led" = some (some (.ref f22))) (l22 : K.lookup f22 = some ⟨oc22, od22, .func (PySem.W.fnOf "led" "led" (defArgs s_led) (defBody s_led) (defScope s_led) .none kV22 dc22 pm22 an22 cd22 ct22), sl22⟩) (c22 : PySem.W.codeIn K cd22 "led" = true) (k22 : PySem.W.keepIn K (.ref f22) = true)
    {od23 an23 : Option Addr} {sl23 : Array (Option Value)} {oc23 kV23 dc23 pm23 cd23 ct23 : Value} {f23 : Addr}
    (a23 : PySem.W.nsIn K mainGlobals "server_in" = some (some (.ref f23))) (l23 : K.lookup f23 = some ⟨oc23, od23, .func (PySem.W.fnOf "server_in" "server_in" (defArgs s_server_in) (defBody s_server_in) (defScope s_server_in) .none kV23 dc23 pm23 an23 cd23 ct23), sl23⟩) (c23 : PySem.W.codeIn K cd23 "server_in" = true) (k23 : PySem.W.keepIn K (.ref f23) = true)
    {od24 an24 : Option Addr} {sl24 : Array (Option Value)} {oc24 kV24 dc24 pm24 cd24 ct24 : Value} {f24 : Addr}
    (a24 : PySem.W.nsIn K mainGlobals "scores_in" = some (some (.ref f24))) (l24 : K.lookup f24 = some ⟨oc24, od24, .func (PySem.W.fnOf "scores_in" "scores_in" (defArgs s_scores_in) (defBody s_scores_in) (defScope s_scores_in) .none kV24 dc24 pm24 an24 cd24 ct24), sl24⟩) (c24 : PySem.W.codeIn K cd24 "scores_in" = true) (k24 : PySem.W.keepIn K (.ref f24) = true)
    {od25 an25 : Option Addr} {sl25 : Array (Option Value)} {oc25 kV25 dc25 pm25 cd25 ct25 : Value} {f25 : Addr}
    (a25 : PySem.W.nsIn K mainGlobals "led_by" = some (some (.ref f25))) (l25 : K.lookup f25 = some ⟨oc25, od25, .func (PySem.W.fnOf "led_by" "led_by" (defArgs s_led_by) (defBody s_led_by) (defScope s_led_by) .none kV25 dc25 pm25 an25 cd25 ct25), sl25⟩) (c25 : PySem.W.codeIn K cd25 "led_by" = true) (k25 : PySem.W.keepIn K (.ref f25) = true)
    {od26 an26 : Option Addr} {sl26 : Array (Option Value)} {oc26 kV26 dc26 pm26 cd26 ct26 : Value} {f26 : Addr}
    (a26 : PySem.W.nsIn K mainGlobals "check_match" = some (some (.ref f26))) (l26 : K.lookup f26 = some ⟨oc26, od26, .func (PySem.W.fnOf "check_match" "check_match" (defArgs s_check_match) (defBody s_check_match) (defScope s_check_match) .none kV26 dc26 pm26 an26 cd26 ct26), sl26⟩) (c26 : PySem.W.codeIn K cd26 "check_match" = true) (k26 : PySem.W.keepIn K (.ref f26) = true)
    {od27 an27 : Option Addr} {sl27 : Array (Option Value)} {oc27 kV27 dc27 pm27 cd27 ct27 : Value} {f27 : Addr}
    (a27 : PySem.W.nsIn K mainGlobals "behind" = some (some (.ref f27))) (l27 : K.lookup f27 = some ⟨oc27, od27, .func (PySem.W.fnOf "behind" "behind" (defArgs s_behind) (defBody s_behind) (defScope s_behind) .none kV27 dc27 pm27 an27 cd27 ct27), sl27⟩) (c27 : PySem.W.codeIn K cd27 "behind" = true) (k27 : PySem.W.keepIn K (.ref f27) = true)
    {od28 an28 : Option Addr} {sl28 : Array (Option Value)} {oc28 kV28 dc28 pm28 cd28 ct28 : Value} {f28 : Addr}
    (a28 : PySem.W.nsIn K mainGlobals "going_on" = some (some (.ref f28))) (l28 : K.lookup f28 = some ⟨oc28, od28, .func (PySem.W.fnOf "going_on" "going_on" (defArgs s_going_on) (defBody s_going_on) (defScope s_going_on) .none kV28 dc28 pm28 an28 cd28 ct28), sl28⟩) (c28 : PySem.W.codeIn K cd28 "going_on" = true) (k28 : PySem.W.keepIn K (.ref f28) = true)
    {od29 an29 : Option Addr} {sl29 : Array (Option Value)} {oc29 kV29 dc29 pm29 cd29 ct29 : Value} {f29 : Addr}
    (a29 : PySem.W.nsIn K mainGlobals "winner_after" = some (some (.ref f29))) (l29 : K.lookup f29 = some ⟨oc29, od29, .func (PySem.W.fnOf "winner_after" "winner_after" (defArgs s_winner_after) (defBody s_winner_after) (defScope s_winner_after) .none kV29 dc29 pm29 an29 cd29 ct29), sl29⟩) (c29 : PySem.W.codeIn K cd29 "winner_after" = true) (k29 : PySem.W.keepIn K (.ref f29) = true)
    {od30 an30 : Option Addr} {sl30 : Array (Option Value)} {oc30 kV30 dc30 pm30 cd30 ct30 : Value} {f30 : Addr}
    (a30 : PySem.W.nsIn K mainGlobals "server_after" = some (some (.ref f30))) (l30 : K.lookup f30 = some ⟨oc30, od30, .func (PySem.W.fnOf "server_after" "server_after" (defArgs s_server_after) (defBody s_server_after) (defScope s_server_after) .none kV30 dc30 pm30 an30 cd30 ct30), sl30⟩) (c30 : PySem.W.codeIn K cd30 "server_after" = true) (k30 : PySem.W.keepIn K (.ref f30) = true)
    {od31 an31 : Option Addr} {sl31 : Array (Option Value)} {oc31 kV31 dc31 pm31 cd31 ct31 : Value} {f31 : Addr}
    (a31 : PySem.W.nsIn K mainGlobals "last_score" = some (some (.ref f31))) (l31 : K.lookup f31 = some ⟨oc31, od31, .func (PySem.W.fnOf "last_score" "last_score" (defArgs s_last_score) (defBody s_last_score) (defScope s_last_score) .none kV31 dc31 pm31 an31 cd31 ct31), sl31⟩) (c31 : PySem.W.codeIn K cd31 "last_score" = true) (k31 : PySem.W.keepIn K (.ref f31) = true)
    {od32 an32 : Option Addr} {sl32 : Array (Option Value)} {oc32 kV32 dc32 pm32 cd32 ct32 : Value} {f32 : Addr}
    (a32 : PySem.W.nsIn K mainGlobals "scores_after" = some (some (.ref f32))) (l32 : K.lookup f32 = some ⟨oc32, od32, .func (PySem.W.fnOf "scores_after" "scores_after" (defArgs s_scores_after) (defBody s_scores_after) (defScope s_scores_after) .none kV32 dc32 pm32 an32 cd32 ct32), sl32⟩) (c32 : PySem.W.codeIn K cd32 "scores_after" = true) (k32 : PySem.W.keepIn K (.ref f32) = true)
    {od33 an33 : Option Addr} {sl33 : Array (Option Value)} {oc33 kV33 dc33 pm33 cd33 ct33 : Value} {f33 : Addr}
    (a33 : PySem.W.nsIn K mainGlobals "servers_of" = some (some (.ref f33))) (l33 : K.lookup f33 = some ⟨oc33, od33, .func (PySem.W.fnOf "servers_of" "servers_of" (defArgs s_servers_of) (defBody s_servers_of) (defScope s_servers_of) .none kV33 dc33 pm33 an33 cd33 ct33), sl33⟩) (c33 : PySem.W.codeIn K cd33 "servers_of" = true) (k33 : PySem.W.keepIn K (.ref f33) = true)
    {od34 an34 : Option Addr} {sl34 : Array (Option Value)} {oc34 kV34 dc34 pm34 cd34 ct34 : Value} {f34 : Addr}
    (a34 : PySem.W.nsIn K mainGlobals "_law_hash" = some (some (.ref f34))) (l34 : K.lookup f34 = some ⟨oc34, od34, .func (PySem.W.fnOf "_law_hash" "_law_hash" (defArgs s__law_hash) (defBody s__law_hash) (defScope s__law_hash) .none kV34 dc34 pm34 an34 cd34 ct34), sl34⟩) (c34 : PySem.W.codeIn K cd34 "_law_hash" = true) (k34 : PySem.W.keepIn K (.ref f34) = true)
    {od35 an35 : Option Addr} {sl35 : Array (Option Value)} {oc35 kV35 dc35 pm35 cd35 ct35 : Value} {f35 : Addr}
    (a35 : PySem.W.nsIn K mainGlobals "_law_random" = some (some (.ref f35))) (l35 : K.lookup f35 = some ⟨oc35, od35, .func (PySem.W.fnOf "_law_random" "_law_random" (defArgs s__law_random) (defBody s__law_random) (defScope s__law_random) .none kV35 dc35 pm35 an35 cd35 ct35), sl35⟩) (c35 : PySem.W.codeIn K cd35 "_law_random" = true) (k35 : PySem.W.keepIn K (.ref f35) = true)
    {od36 an36 : Option Addr} {sl36 : Array (Option Value)} {oc36 kV36 dc36 pm36 cd36 ct36 : Value} {f36 : Addr}
    (a36 : PySem.W.nsIn K mainGlobals "_law_cell" = some (some (.ref f36))) (l36 : K.lookup f36 = some ⟨oc36, od36, .func (PySem.W.fnOf "_law_cell" "_law_cell" (defArgs s__law_cell) (defBody s__law_cell) (defScope s__law_cell) .none kV36 dc36 pm36 an36 cd36 ct36), sl36⟩) (c36 : PySem.W.codeIn K cd36 "_law_cell" = true) (k36 : PySem.W.keepIn K (.ref f36) = true)
    {od37 an37 : Option Addr} {sl37 : Array (Option Value)} {oc37 kV37 dc37 pm37 cd37 ct37 : Value} {f37 : Addr}
    (a37 : PySem.W.nsIn K mainGlobals "_law_generator" = some (some (.ref f37))) (l37 : K.lookup f37 = some ⟨oc37, od37, .func (PySem.W.fnOf "_law_generator" "_law_generator" (defArgs s__law_generator) (defBody s__law_generator) (defScope s__law_generator) .none kV37 dc37 pm37 an37 cd37 ct37), sl37⟩) (c37 : PySem.W.codeIn K cd37 "_law_generator" = true) (k37 : PySem.W.keepIn K (.ref f37) = true)
    {od38 an38 : Option Addr} {sl38 : Array (Option Value)} {oc38 kV38 dc38 pm38 cd38 ct38 : Value} {f38 : Addr}
    (a38 : PySem.W.nsIn K mainGlobals "_law_pick" = some (some (.ref f38))) (l38 : K.lookup f38 = some ⟨oc38, od38, .func (PySem.W.fnOf "_law_pick" "_law_pick" (defArgs s__law_pick) (defBody s__law_pick) (defScope s__law_pick) .none kV38 dc38 pm38 an38 cd38 ct38), sl38⟩) (c38 : PySem.W.codeIn K cd38 "_law_pick" = true) (k38 : PySem.W.keepIn K (.ref f38) = true)
    {od39 an39 : Option Addr} {sl39 : Array (Option Value)} {oc39 kV39 dc39 pm39 cd39 ct39 : Value} {f39 : Addr}
    (a39 : PySem.W.nsIn K mainGlobals "_law_same" = some (some (.ref f39))) (l39 : K.lookup f39 = some ⟨oc39, od39, .func (PySem.W.fnOf "_law_same" "_law_same" (defArgs s__law_same) (defBody s__law_same) (defScope s__law_same) .none kV39 dc39 pm39 an39 cd39 ct39), sl39⟩) (c39 : PySem.W.codeIn K cd39 "_law_same" = true) (k39 : PySem.W.keepIn K (.ref f39) = true)
    {od40 an40 : Option Addr} {sl40 : Array (Option Value)} {oc40 kV40 dc40 pm40 cd40 ct40 : Value} {f40 : Addr}
    (a40 : PySem.W.nsIn K mainGlobals "_law_rallies" = some (some (.ref f40))) (l40 : K.lookup f40 = some ⟨oc40, od40, .func (PySem.W.fnOf "_law_rallies" "_law_rallies" (defArgs s__law_rallies) (defBody s__law_rallies) (defScope s__law_rallies) .none kV40 dc40 pm40 an40 cd40 ct40), sl40⟩) (c40 : PySem.W.codeIn K cd40 "_law_rallies" = true) (k40 : PySem.W.keepIn K (.ref f40) = true)
    {od41 an41 : Option Addr} {sl41 : Array (Option Value)} {oc41 kV41 dc41 pm41 cd41 ct41 : Value} {f41 : Addr}
    (a41 : PySem.W.nsIn K mainGlobals "_law_tennis" = some (some (.ref f41))) (l41 : K.lookup f41 = some ⟨oc41, od41, .func (PySem.W.fnOf "_law_tennis" "_law_tennis" (defArgs s__law_tennis) (defBody s__law_tennis) (defScope s__law_tennis) .none kV41 dc41 pm41 an41 cd41 ct41), sl41⟩) (c41 : PySem.W.codeIn K cd41 "_law_tennis" = true) (k41 : PySem.W.keepIn K (.ref f41) = true)
    {od42 an42 : Option Addr} {sl42 : Array (Option Value)} {oc42 kV42 dc42 pm42 cd42 ct42 : Value} {f42 : Addr}
    (a42 : PySem.W.nsIn K mainGlobals "_law_tennis_behind" = some (some (.ref f42))) (l42 : K.lookup f42 = some ⟨oc42, od42, .func (PySem.W.fnOf "_law_tennis_behind" "_law_tennis_behind" (defArgs s__law_tennis_behind) (defBody s__law_tennis_behind) (defScope s__law_tennis_behind) .none kV42 dc42 pm42 an42 cd42 ct42), sl42⟩) (c42 : PySem.W.codeIn K cd42 "_law_tennis_behind" = true) (k42 : PySem.W.keepIn K (.ref f42) = true)
    {od43 an43 : Option Addr} {sl43 : Array (Option Value)} {oc43 kV43 dc43 pm43 cd43 ct43 : Value} {f43 : Addr}
    (a43 : PySem.W.nsIn K mainGlobals "_law_tennis_right" = some (some (.ref f43))) (l43 : K.lookup f43 = some ⟨oc43, od43, .func (PySem.W.fnOf "_law_tennis_right" "_law_tennis_right" (defArgs s__law_tennis_right) (defBody s__law_tennis_right) (defScope s__law_tennis_right) .none kV43 dc43 pm43 an43 cd43 ct43), sl43⟩) (c43 : PySem.W.codeIn K cd43 "_law_tennis_right" = true) (k43 : PySem.W.keepIn K (.ref f43) = true)
    {od44 an44 : Option Addr} {sl44 : Array (Option Value)} {oc44 kV44 dc44 pm44 cd44 ct44 : Value} {f44 : Addr}
    (a44 : PySem.W.nsIn K mainGlobals "_law_table_tennis" = some (some (.ref f44))) (l44 : K.lookup f44 = some ⟨oc44, od44, .func (PySem.W.fnOf "_law_table_tennis" "_law_table_tennis" (defArgs s__law_table_tennis) (defBody s__law_table_tennis) (defScope s__law_table_tennis) .none kV44 dc44 pm44 an44 cd44 ct44), sl44⟩) (c44 : PySem.W.codeIn K cd44 "_law_table_tennis" = true) (k44 : PySem.W.keepIn K (.ref f44) = true)
    {od45 an45 : Option Addr} {sl45 : Array (Option Value)} {oc45 kV45 dc45 pm45 cd45 ct45 : Value} {f45 : Addr}
    (a45 : PySem.W.nsIn K mainGlobals "_law_quick_right" = some (some (.ref f45))) (l45 : K.lookup f45 = some ⟨oc45, od45, .func (PySem.W.fnOf "_law_quick_right" "_law_quick_right" (defArgs s__law_quick_right) (defBody s__law_quick_right) (defScope s__law_quick_right) .none kV45 dc45 pm45 an45 cd45 ct45), sl45⟩) (c45 : PySem.W.codeIn K cd45 "_law_quick_right" = true) (k45 : PySem.W.keepIn K (.ref f45) = true)
    {od46 an46 : Option Addr} {sl46 : Array (Option Value)} {oc46 kV46 dc46 pm46 cd46 ct46 : Value} {f46 : Addr}
    (a46 : PySem.W.nsIn K mainGlobals "_law_volley_right" = some (some (.ref f46))) (l46 : K.lookup f46 = some ⟨oc46, od46, .func (PySem.W.fnOf "_law_volley_right" "_law_volley_right" (defArgs s__law_volley_right) (defBody s__law_volley_right) (defScope s__law_volley_right) .none kV46 dc46 pm46 an46 cd46 ct46), sl46⟩) (c46 : PySem.W.codeIn K cd46 "_law_volley_right" = true) (k46 : PySem.W.keepIn K (.ref f46) = true)
    {od47 an47 : Option Addr} {sl47 : Array (Option Value)} {oc47 kV47 dc47 pm47 cd47 ct47 : Value} {f47 : Addr}
    (a47 : PySem.W.nsIn K mainGlobals "_law_squash_right" = some (some (.ref f47))) (l47 : K.lookup f47 = some ⟨oc47, od47, .func (PySem.W.fnOf "_law_squash_right" "_law_squash_right" (defArgs s__law_squash_right) (defBody s__law_squash_right) (defScope s__law_squash_right) .none kV47 dc47 pm47 an47 cd47 ct47), sl47⟩) (c47 : PySem.W.codeIn K cd47 "_law_squash_right" = true) (k47 : PySem.W.keepIn K (.ref f47) = true)
    {od48 an48 : Option Addr} {sl48 : Array (Option Value)} {oc48 kV48 dc48 pm48 cd48 ct48 : Value} {f48 : Addr}
    (a48 : PySem.W.nsIn K mainGlobals "law" = some (some (.ref f48))) (l48 : K.lookup f48 = some ⟨oc48, od48, .func (PySem.W.fnOf "law" "law" (defArgs s_law) (defBody s_law) (defScope s_law) .none kV48 dc48 pm48 an48 cd48 ct48), sl48⟩) (c48 : PySem.W.codeIn K cd48 "law" = true) (k48 : PySem.W.keepIn K (.ref f48) = true)
    (z1 : PySem.W.nsIn K mainGlobals "abs" = some none)
    (z2 : PySem.W.nsIn K mainGlobals "bool" = some none)
    (z3 : PySem.W.nsIn K mainGlobals "enumerate" = some none)
    (z4 : PySem.W.nsIn K mainGlobals "int" = some none)
    (z5 : PySem.W.nsIn K mainGlobals "isinstance" = some none)
    (z6 : PySem.W.nsIn K mainGlobals "len" = some none)
    (z7 : PySem.W.nsIn K mainGlobals "list" = some none)
    (z8 : PySem.W.nsIn K mainGlobals "max" = some none)
    (z9 : PySem.W.nsIn K mainGlobals "range" = some none)
    (z10 : PySem.W.nsIn K mainGlobals "sorted" = some none)
    (z11 : PySem.W.nsIn K mainGlobals "str" = some none)
    (z12 : PySem.W.nsIn K mainGlobals "sum" = some none)
    (z13 : PySem.W.nsIn K mainGlobals "tuple" = some none)
    {t14 : Tok} (z14 : PySem.W.nsIn K mainGlobals "DEEPEST" = some (some (.int 4 t14)))
    {t15_0 t15_1 t15_2 t15_3 : Tok} {o15 : Addr} {n15 : Nat} (z15 : PySem.W.nsIn K mainGlobals "ORDERS" = some (some (.ref o15))) (y15 : K.lookup o15 = some ⟨.type "list", none, .seq #[.str "on" t15_0, .str "turns" t15_1, .str "winner" t15_2, .str "loser" t15_3] n15, #[]⟩)
    {C0 : Addr} (na0 : PySem.W.nsIn K mainGlobals "InvalidRule" = some (some (.ref C0)))
    {fI0 cc0 cda0 Nx0 TD0 : Addr} {nm0 q0 qq0 : Str} {bs0 bm0 : List Value} {sn0 : List Str} {sub0 : List Value} {ab0 : Bool} {col0 : Option Bool} {ddx0 : Option Addr} {w00 w10 w20 w30 w50 : Option Value} {xoc0 xccl0 xcl0 xtcl0 xkV0 xdc0 xpm0 xct0 : Value} {xod0 xcdd0 xcld0 xan0 xtdd0 : Option Addr} {xosl0 xccs0 xcsl0 xtsl0 : Array (Option Value)} {xvs0 : Array Value} {xfile0 : Str} {xtf0 : Tok} {xtn0 : Nat}
    (xa0 : K.lookup C0 = some (excClassObj nm0 q0 C0 Nx0 bs0 bm0 true sn0 sub0 ab0 col0 ddx0 w00 w10 w20 w30 w50 "ValueError.__new__")) (xb0 : PySem.HandSPX.refsVE bm0 = true)
    (xc0 : K.lookup fI0 = some ⟨xoc0, xod0, .func (PySem.W.ksFn "__init__" qq0 (defArgs i_InvalidRule) (defBody i_InvalidRule) (defScope i_InvalidRule) (.ref TD0) xkV0 xdc0 xpm0 xan0 (.ref cda0) xct0 cc0), xosl0⟩)
    (xd0 : K.lookup TD0 = some ⟨xtcl0, xtdd0, .seq #[.none] xtn0, xtsl0⟩) (xe0 : K.lookup cda0 = some ⟨xccl0, xcdd0, .fields xvs0, xccs0⟩) (xf0 : xvs0[2]? = some (.str xfile0 xtf0)) (xg0 : ((P.main.file : Str) == xfile0) = true)
    (xh0 : K.lookup cc0 = some ⟨xcl0, xcld0, .cell (some (.ref C0)), xcsl0⟩) (xi0 : PySem.W.codeIn K (.ref cda0) qq0 = true) (xj0 : xclsB K C0 fI0 = true)
    (xini0 : PySem.W.findIn K (.ref C0) "__init__" = some (some (.ref fI0)))
    {C1 : Addr} (na1 : PySem.W.nsIn K mainGlobals "InvalidSide" = some (some (.ref C1)))
    {fI1 cc1 cda1 Nx1 TD1 : Addr} {nm1 q1 qq1 : Str} {bs1 bm1 : List Value} {sn1 : List Str} {sub1 : List Value} {ab1 : Bool} {col1 : Option Bool} {ddx1 : Option Addr} {w01 w11 w21 w31 w51 : Option Value} {xoc1 xccl1 xcl1 xtcl1 xkV1 xdc1 xpm1 xct1 : Value} {xod1 xcdd1 xcld1 xan1 xtdd1 : Option Addr} {xosl1 xccs1 xcsl1 xtsl1 : Array (Option Value)} {xvs1 : Array Value} {xfile1 : Str} {xtf1 : Tok} {xtn1 : Nat}
    (xa1 : K.lookup C1 = some (excClassObj nm1 q1 C1 Nx1 bs1 bm1 true sn1 sub1 ab1 col1 ddx1 w01 w11 w21 w31 w51 "ValueError.__new__")) (xb1 : PySem.HandSPX.refsVE bm1 = true)
    (xc1 : K.lookup fI1 = some ⟨xoc1, xod1, .func (PySem.W.ksFn "__init__" qq1 (defArgs i_InvalidSide) (defBody i_InvalidSide) (defScope i_InvalidSide) (.ref TD1) xkV1 xdc1 xpm1 xan1 (.ref cda1) xct1 cc1), xosl1⟩)
    (xd1 : K.lookup TD1 = some ⟨xtcl1, xtdd1, .seq #[.none] xtn1, xtsl1⟩) (xe1 : K.lookup cda1 = some ⟨xccl1, xcdd1, .fields xvs1, xccs1⟩) (xf1 : xvs1[2]? = some (.str xfile1 xtf1)) (xg1 : ((P.main.file : Str) == xfile1) = true)
    (xh1 : K.lookup cc1 = some ⟨xcl1, xcld1, .cell (some (.ref C1)), xcsl1⟩) (xi1 : PySem.W.codeIn K (.ref cda1) qq1 = true) (xj1 : xclsB K C1 fI1 = true)
    (xini1 : PySem.W.findIn K (.ref C1) "__init__" = some (some (.ref fI1)))
    {C2 : Addr} (na2 : PySem.W.nsIn K mainGlobals "InvalidRallies" = some (some (.ref C2)))
    {fI2 cc2 cda2 Nx2 TD2 : Addr} {nm2 q2 qq2 : Str} {bs2 bm2 : List Value} {sn2 : List Str} {sub2 : List Value} {ab2 : Bool} {col2 : Option Bool} {ddx2 : Option Addr} {w02 w12 w22 w32 w52 : Option Value} {xoc2 xccl2 xcl2 xtcl2 xkV2 xdc2 xpm2 xct2 : Value} {xod2 xcdd2 xcld2 xan2 xtdd2 : Option Addr} {xosl2 xccs2 xcsl2 xtsl2 : Array (Option Value)} {xvs2 : Array Value} {xfile2 : Str} {xtf2 : Tok} {xtn2 : Nat}
    (xa2 : K.lookup C2 = some (excClassObj nm2 q2 C2 Nx2 bs2 bm2 true sn2 sub2 ab2 col2 ddx2 w02 w12 w22 w32 w52 "ValueError.__new__")) (xb2 : PySem.HandSPX.refsVE bm2 = true)
    (xc2 : K.lookup fI2 = some ⟨xoc2, xod2, .func (PySem.W.ksFn "__init__" qq2 (defArgs i_InvalidRallies) (defBody i_InvalidRallies) (defScope i_InvalidRallies) (.ref TD2) xkV2 xdc2 xpm2 xan2 (.ref cda2) xct2 cc2), xosl2⟩)
    (xd2 : K.lookup TD2 = some ⟨xtcl2, xtdd2, .seq #[.none] xtn2, xtsl2⟩) (xe2 : K.lookup cda2 = some ⟨xccl2, xcdd2, .fields xvs2, xccs2⟩) (xf2 : xvs2[2]? = some (.str xfile2 xtf2)) (xg2 : ((P.main.file : Str) == xfile2) = true)
    (xh2 : K.lookup cc2 = some ⟨xcl2, xcld2, .cell (some (.ref C2)), xcsl2⟩) (xi2 : PySem.W.codeIn K (.ref cda2) qq2 = true) (xj2 : xclsB K C2 fI2 = true)
    (xini2 : PySem.W.findIn K (.ref C2) "__init__" = some (some (.ref fI2)))
    {C3 : Addr} (na3 : PySem.W.nsIn K mainGlobals "Ended" = some (some (.ref C3)))
    {fI3 cc3 cda3 Nx3 TD3 : Addr} {nm3 q3 qq3 : Str} {bs3 bm3 : List Value} {sn3 : List Str} {sub3 : List Value} {ab3 : Bool} {col3 : Option Bool} {ddx3 : Option Addr} {w03 w13 w23 w33 w53 : Option Value} {xoc3 xccl3 xcl3 xtcl3 xkV3 xdc3 xpm3 xct3 : Value} {xod3 xcdd3 xcld3 xan3 xtdd3 : Option Addr} {xosl3 xccs3 xcsl3 xtsl3 : Array (Option Value)} {xvs3 : Array Value} {xfile3 : Str} {xtf3 : Tok} {xtn3 : Nat}
    (xa3 : K.lookup C3 = some (excClassObj nm3 q3 C3 Nx3 bs3 bm3 true sn3 sub3 ab3 col3 ddx3 w03 w13 w23 w33 w53 "ValueError.__new__")) (xb3 : PySem.HandSPX.refsVE bm3 = true)
    (xc3 : K.lookup fI3 = some ⟨xoc3, xod3, .func (PySem.W.ksFn "__init__" qq3 (defArgs i_Ended) (defBody i_Ended) (defScope i_Ended) (.ref TD3) xkV3 xdc3 xpm3 xan3 (.ref cda3) xct3 cc3), xosl3⟩)
    (xd3 : K.lookup TD3 = some ⟨xtcl3, xtdd3, .seq #[.none] xtn3, xtsl3⟩) (xe3 : K.lookup cda3 = some ⟨xccl3, xcdd3, .fields xvs3, xccs3⟩) (xf3 : xvs3[2]? = some (.str xfile3 xtf3)) (xg3 : ((P.main.file : Str) == xfile3) = true)
    (xh3 : K.lookup cc3 = some ⟨xcl3, xcld3, .cell (some (.ref C3)), xcsl3⟩) (xi3 : PySem.W.codeIn K (.ref cda3) qq3 = true) (xj3 : xclsB K C3 fI3 = true)
    (xini3 : PySem.W.findIn K (.ref C3) "__init__" = some (some (.ref fI3)))
    (yall : xallB K xsL ysL = true)
    (xsup : PySem.W.nsIn K mainGlobals "super" = some none) (xtop : (P.main.scope.names.lookup ("super" : Str)).isSome = false) :
    ∃ (fd : FuncData) (ca : Str → Addr), (∀ (s : Shared) (u : Value), BindsTo s fd ⟨[u], []⟩ [("script", u)]) ∧ ∀ base : Heap, K.In base → base.Ns mainGlobals mg → FnG P w K mg base 39 fa fd ["script"] (spD K ca 1 g_law) := by
  have e := hfa.symm.trans (PySem.W.mg_of X G a48)
  cases e
  have T_is_whole : Std K mg "is_whole" s_is_whole ["value"] := std_mk X G a1 l1 c1 k1 fun _ _ _ _ _ _ us hl => match us, hl with | [_], _ => rfl
  have T_is_count : Std K mg "is_count" s_is_count ["value"] := std_mk X G a2 l2 c2 k2 fun _ _ _ _ _ _ us hl => match us, hl with | [_], _ => rfl
  have T_is_between : Std K mg "is_between" s_is_between ["value", "low", "high"] := std_mk X G a3 l3 c3 k3 fun _ _ _ _ _ _ us hl => match us, hl with | [_, _, _], _ => rfl
  have T_is_side : Std K mg "is_side" s_is_side ["value"] := std_mk X G a4 l4 c4 k4 fun _ _ _ _ _ _ us hl => match us, hl with | [_], _ => rfl
  have T_are_rallies : Std K mg "are_rallies" s_are_rallies ["value"] := std_mk X G a5 l5 c5 k5 fun _ _ _ _ _ _ us hl => match us, hl with | [_], _ => rfl
  have T_is_word : Std K mg "is_word" s_is_word ["value", "word"] := std_mk X G a6 l6 c6 k6 fun _ _ _ _ _ _ us hl => match us, hl with | [_, _], _ => rfl
  have T_is_order : Std K mg "is_order" s_is_order ["value"] := std_mk X G a7 l7 c7 k7 fun _ _ _ _ _ _ us hl => match us, hl with | [_], _ => rfl
  have T_are_numbers_of_race : Std K mg "are_numbers_of_race" s_are_numbers_of_race ["need", "lead", "cap"] := std_mk X G a8 l8 c8 k8 fun _ _ _ _ _ _ us hl => match us, hl with | [_, _, _], _ => rfl
  have T_is_score : Std K mg "is_score" s_is_score ["value"] := std_mk X G a9 l9 c9 k9 fun _ _ _ _ _ _ us hl => match us, hl with | [_], _ => rfl
  have T_is_special : Std K mg "is_special" s_is_special ["value", "deep"] := std_mk X G a10 l10 c10 k10 fun _ _ _ _ _ _ us hl => match us, hl with | [_, _], _ => rfl
  have T_are_specials : Std K mg "are_specials" s_are_specials ["value", "deep"] := std_mk X G a11 l11 c11 k11 fun _ _ _ _ _ _ us hl => match us, hl with | [_, _], _ => rfl
  have T_is_rule_within : Std K mg "is_rule_within" s_is_rule_within ["value", "deep"] := std_mk X G a12 l12 c12 k12 fun _ _ _ _ _ _ us hl => match us, hl with | [_, _], _ => rfl
  have T_is_rule : Std K mg "is_rule" s_is_rule ["value"] := std_mk X G a13 l13 c13 k13 fun _ _ _ _ _ _ us hl => match us, hl with | [_], _ => rfl
  have T_check_rule : Std K mg "check_rule" s_check_rule ["rule"] := std_mk X G a14 l14 c14 k14 fun _ _ _ _ _ _ us hl => match us, hl with | [_], _ => rfl
  have T_check_side : Std K mg "check_side" s_check_side ["side"] := std_mk X G a15 l15 c15 k15 fun _ _ _ _ _ _ us hl => match us, hl with | [_], _ => rfl
  have T_check_rallies : Std K mg "check_rallies" s_check_rallies ["rallies"] := std_mk X G a16 l16 c16 k16 fun _ _ _ _ _ _ us hl => match us, hl with | [_], _ => rfl
  have T_unit_of : Std K mg "unit_of" s_unit_of ["rule", "score"] := std_mk X G a17 l17 c17 k17 fun _ _ _ _ _ _ us hl => match us, hl with | [_, _], _ => rfl
  have T_begun : Std K mg "begun" s_begun ["rule", "side"] := std_mk X G a18 l18 c18 k18 fun _ _ _ _ _ _ us hl => match us, hl with | [_, _], _ => rfl
  have T_is_won : Std K mg "is_won" s_is_won ["rule", "score"] := std_mk X G a19 l19 c19 k19 fun _ _ _ _ _ _ us hl => match us, hl with | [_, _], _ => rfl
  have T_next_turn : Std K mg "next_turn" s_next_turn ["rule", "state", "score", "winner", "hands"] := std_mk X G a20 l20 c20 k20 fun _ _ _ _ _ _ us hl => match us, hl with | [_, _, _, _, _], _ => rfl
  have T_led_race : Std K mg "led_race" s_led_race ["rule", "state", "side"] := std_mk X G a21 l21 c21 k21 fun _ _ _ _ _ _ us hl => match us, hl with | [_, _, _], _ => rfl
  have T_led : Std K mg "led" s_led ["rule", "state", "side"] := std_mk X G a22 l22 c22 k22 fun _ _ _ _ _ _ us hl => match us, hl with | [_, _, _], _ => rfl
  have T_server_in : Std K mg "server_in" s_server_in ["state"] := std_mk X G a23 l23 c23 k23 fun _ _ _ _ _ _ us hl => match us, hl with | [_], _ => rfl
  have T_scores_in : Std K mg "scores_in" s_scores_in ["state"] := std_mk X G a24 l24 c24 k24 fun _ _ _ _ _ _ us hl => match us, hl with | [_], _ => rfl
  have T_led_by : Std K mg "led_by" s_led_by ["rule", "first", "rallies"] := std_mk X G a25 l25 c25 k25 fun _ _ _ _ _ _ us hl => match us, hl with | [_, _, _], _ => rfl
  have T_check_match : Std K mg "check_match" s_check_match ["rule", "first", "rallies"] := std_mk X G a26 l26 c26 k26 fun _ _ _ _ _ _ us hl => match us, hl with | [_, _, _], _ => rfl
  have T_behind : Std K mg "behind" s_behind ["rule", "first", "rallies"] := std_mk X G a27 l27 c27 k27 fun _ _ _ _ _ _ us hl => match us, hl with | [_, _, _], _ => rfl
  have T_going_on : Std K mg "going_on" s_going_on ["rule", "first", "rallies"] := std_mk X G a28 l28 c28 k28 fun _ _ _ _ _ _ us hl => match us, hl with | [_, _, _], _ => rfl
  have T_winner_after : Std K mg "winner_after" s_winner_after ["rule", "first", "rallies"] := std_mk X G a29 l29 c29 k29 fun _ _ _ _ _ _ us hl => match us, hl with | [_, _, _], _ => rfl
  have T_server_after : Std K mg "server_after" s_server_after ["rule", "first", "rallies"] := std_mk X G a30 l30 c30 k30 fun _ _ _ _ _ _ us hl => match us, hl with | [_, _, _], _ => rfl
  have T_last_score : Std K mg "last_score" s_last_score ["rule", "state", "side"] := std_mk X G a31 l31 c31 k31 fun _ _ _ _ _ _ us hl => match us, hl with | [_, _, _], _ => rfl
  have T_scores_after : Std K mg "scores_after" s_scores_after ["rule", "first", "rallies"] := std_mk X G a32 l32 c32 k32 fun _ _ _ _ _ _ us hl => match us, hl with | [_, _, _], _ => rfl
  have T_servers_of : Std K mg "servers_of" s_servers_of ["rule", "first", "rallies"] := std_mk X G a33 l33 c33 k33 fun _ _ _ _ _ _ us hl => match us, hl with | [_, _, _], _ => rfl
  have T__law_hash : Std K mg "_law_hash" s__law_hash ["seed", "index"] := std_mk X G a34 l34 c34 k34 fun _ _ _ _ _ _ us hl => match us, hl with | [_, _], _ => rfl
  have T__law_random : Std K mg "_law_random" s__law_random ["generator", "bound"] := std_mk X G a35 l35 c35 k35 fun _ _ _ _ _ _ us hl => match us, hl with | [_, _], _ => rfl
  have T__law_cell : Std K mg "_law_cell" s__law_cell ["script", "index"] := std_mk X G a36 l36 c36 k36 fun _ _ _ _ _ _ us hl => match us, hl with | [_, _], _ => rfl
  have T__law_generator : Std K mg "_law_generator" s__law_generator ["script", "index"] := std_mk X G a37 l37 c37 k37 fun _ _ _ _ _ _ us hl => match us, hl with | [_, _], _ => rfl
  have T__law_pick : Std K mg "_law_pick" s__law_pick ["generator", "things"] := std_mk X G a38 l38 c38 k38 fun _ _ _ _ _ _ us hl => match us, hl with | [_, _], _ => rfl
  have T__law_same : Std K mg "_law_same" s__law_same ["told", "due"] := std_mk X G a39 l39 c39 k39 fun _ _ _ _ _ _ us hl => match us, hl with | [_, _], _ => rfl
  have T__law_rallies : Std K mg "_law_rallies" s__law_rallies ["generator", "many"] := std_mk X G a40 l40 c40 k40 fun _ _ _ _ _ _ us hl => match us, hl with | [_, _], _ => rfl
  have T__law_tennis : Std K mg "_law_tennis" s__law_tennis ["sets"] := std_mk X G a41 l41 c41 k41 fun _ _ _ _ _ _ us hl => match us, hl with | [_], _ => rfl
  have T__law_tennis_behind : Std K mg "_law_tennis_behind" s__law_tennis_behind ["sets", "first", "rallies"] := std_mk X G a42 l42 c42 k42 fun _ _ _ _ _ _ us hl => match us, hl with | [_, _, _], _ => rfl
  have T__law_tennis_right : Std K mg "_law_tennis_right" s__law_tennis_right ["generator"] := std_mk X G a43 l43 c43 k43 fun _ _ _ _ _ _ us hl => match us, hl with | [_], _ => rfl
  have T__law_table_tennis : Std K mg "_law_table_tennis" s__law_table_tennis ["first", "rallies"] := std_mk X G a44 l44 c44 k44 fun _ _ _ _ _ _ us hl => match us, hl with | [_, _], _ => rfl
  have T__law_quick_right : Std K mg "_law_quick_right" s__law_quick_right ["generator"] := std_mk X G a45 l45 c45 k45 fun _ _ _ _ _ _ us hl => match us, hl with | [_], _ => rfl
  have T__law_volley_right : Std K mg "_law_volley_right" s__law_volley_right ["generator"] := std_mk X G a46 l46 c46 k46 fun _ _ _ _ _ _ us hl => match us, hl with | [_], _ => rfl
  have T__law_squash_right : Std K mg "_law_squash_right" s__law_squash_right ["generator"] := std_mk X G a47 l47 c47 k47 fun _ _ _ _ _ _ us hl => match us, hl with | [_], _ => rfl
  have z : Zc K mg := ⟨PySem.W.mg_none_of X G z1, PySem.W.mg_none_of X G z2, PySem.W.mg_none_of X G z3, PySem.W.mg_none_of X G z4, PySem.W.mg_none_of X G z5, PySem.W.mg_none_of X G z6, PySem.W.mg_none_of X G z7, PySem.W.mg_none_of X G z8, PySem.W.mg_none_of X G z9, PySem.W.mg_none_of X G z10, PySem.W.mg_none_of X G z11, PySem.W.mg_none_of X G z12, PySem.W.mg_none_of X G z13, globI X G z14, globL [("on", t15_0), ("turns", t15_1), ("winner", t15_2), ("loser", t15_3)] X G z15 y15⟩
  have y : Yc P K mg := ⟨yall, xcls_mk (st := i_InvalidRule) X G na0 xa0 xb0 xc0 xd0 xe0 xf0 xg0 xh0 xi0 xj0 xsup xtop it_InvalidRule (fun _ _ _ _ _ _ _ _ _ _ _ => ⟨_, rfl, rfl⟩), xcls_mk (st := i_InvalidSide) X G na1 xa1 xb1 xc1 xd1 xe1 xf1 xg1 xh1 xi1 xj1 xsup xtop it_InvalidSide (fun _ _ _ _ _ _ _ _ _ _ _ => ⟨_, rfl, rfl⟩), xcls_mk (st := i_InvalidRallies) X G na2 xa2 xb2 xc2 xd2 xe2 xf2 xg2 xh2 xi2 xj2 xsup xtop it_InvalidRallies (fun _ _ _ _ _ _ _ _ _ _ _ => ⟨_, rfl, rfl⟩), xcls_mk (st := i_Ended) X G na3 xa3 xb3 xc3 xd3 xe3 xf3 xg3 xh3 xi3 xj3 xsup xtop it_Ended (fun _ _ _ _ _ _ _ _ _ _ _ => ⟨_, rfl, rfl⟩)⟩
  exact ⟨_, caK K, fun s u => .of_eq rfl, fun base _ _ => all_defs z y T_is_whole T_is_count T_is_between T_is_side T_are_rallies T_is_word T_is_order T_are_numbers_of_race T_is_score T_is_special T_are_specials T_is_rule_within T_is_rule T_check_rule T_check_side T_check_rallies T_unit_of T_begun T_is_won T_next_turn T_led_race T_led T_server_in T_scores_in T_led_by T_check_match T_behind T_going_on T_winner_after T_server_after T_last_score T_scores_after T_servers_of T__law_hash T__law_random T__law_cell T__law_generator T__law_pick T__law_same T__law_rallies T__law_tennis T__law_tennis_behind T__law_tennis_right T__law_table_tennis T__law_quick_right T__law_volley_right T__law_squash_right (fun_mk (st := s_law) l48 c48 k48)⟩
end K07
set_option maxHeartbeats 4000000
open PySem PySem.W PyProof.Rows
set_option maxHeartbeats 0 in
theorem PySem.Challenge.cw_anyserve_k07_whole_known_games_holds : PySem.Challenge.rw_anyserve_k07_whole_known_games.Holds := by
  w_on; o_law; k_head; (case hw => w_witness2)
  k_fill
  refine DL.walk_D (l := PySem.Challenge.rw_anyserve_k07_whole_known_games) (n := 63) (k := 39) (x := "script") (g := K07.g_law) rfl (by decide) rfl ⟨rfl, by decide, by decide⟩ (fun w h Y => PySem.W.kIn_of Y) ?F K07.law_ok
  case F =>
    intro w mg fa h KX G hmg
    refine' K07.all_mk KX G hmg ?a1 ?l1 ?c1 ?k1 ?a2 ?l2 ?c2 ?k2 ?a3 ?l3 ?c3 ?k3 ?a4 ?l4 ?c4 ?k4 ?a5 ?l5 ?c5 ?k5 ?a6 ?l6 ?c6 ?k6 ?a7 ?l7 ?c7 ?k7 ?a8 ?l8 ?c8 ?k8 ?a9 ?l9 ?c9 ?k9 ?a10 ?l10 ?c10 ?k10 ?a11 ?l11 ?c11 ?k11 ?a12 ?l12 ?c12 ?k12 ?a13 ?l13 ?c13 ?k13 ?a14 ?l14 ?c14 ?k14 ?a15 ?l15 ?c15 ?k15 ?a16 ?l16 ?c16 ?k16 ?a17 ?l17 ?c17 ?k17 ?a18 ?l18 ?c18 ?k18 ?a19 ?l19 ?c19 ?k19 ?a20 ?l20 ?c20 ?k20 ?a21 ?l21 ?c21 ?k21 ?a22 ?l22 ?c22 ?k22 ?a23 ?l23 ?c23 ?k23 ?a24 ?l24 ?c24 ?k24 ?a25 ?l25 ?c25 ?k25 ?a26 ?l26 ?c26 ?k26 ?a27 ?l27 ?c27 ?k27 ?a28 ?l28 ?c28 ?k28 ?a29 ?l29 ?c29 ?k29 ?a30 ?l30 ?c30 ?k30 ?a31 ?l31 ?c31 ?k31 ?a32 ?l32 ?c32 ?k32 ?a33 ?l33 ?c33 ?k33 ?a34 ?l34 ?c34 ?k34 ?a35 ?l35 ?c35 ?k35 ?a36 ?l36 ?c36 ?k36 ?a37 ?l37 ?c37 ?k37 ?a38 ?l38 ?c38 ?k38 ?a39 ?l39 ?c39 ?k39 ?a40 ?l40 ?c40 ?k40 ?a41 ?l41 ?c41 ?k41 ?a42 ?l42 ?c42 ?k42 ?a43 ?l43 ?c43 ?k43 ?a44 ?l44 ?c44 ?k44 ?a45 ?l45 ?c45 ?k45 ?a46 ?l46 ?c46 ?k46 ?a47 ?l47 ?c47 ?k47 ?a48 ?l48 ?c48 ?k48 ?z1 ?z2 ?z3 ?z4 ?z5 ?z6 ?z7 ?z8 ?z9 ?z10 ?z11 ?z12 ?z13 ?z14 ?z15 ?y15 ?na0 ?xa0 ?xb0 ?xc0 ?xd0 ?xe0 ?xf0 ?xg0 ?xh0 ?xi0 ?xj0 ?xini0 ?na1 ?xa1 ?xb1 ?xc1 ?xd1 ?xe1 ?xf1 ?xg1 ?xh1 ?xi1 ?xj1 ?xini1 ?na2 ?xa2 ?xb2 ?xc2 ?xd2 ?xe2 ?xf2 ?xg2 ?xh2 ?xi2 ?xj2 ?xini2 ?na3 ?xa3 ?xb3 ?xc3 ?xd3 ?xe3 ?xf3 ?xg3 ?xh3 ?xi3 ?xj3 ?xini3 ?yall ?xsup ?xtop
    (case a1 => k_is)
    (case l1 => k_is)
    (case c1 => k_is)
    (case k1 => k_is)
    (case a2 => k_is)
    (case l2 => k_is)
    (case c2 => k_is)
    (case k2 => k_is)
    (case a3 => k_is)
    (case l3 => k_is)
    (case c3 => k_is)
    (case k3 => k_is)
    (case a4 => k_is)
    (case l4 => k_is)
    (case c4 => k_is)
    (case k4 => k_is)
    (case a5 => k_is)
    (case l5 => k_is)
    (case c5 => k_is)
    (case k5 => k_is)
    (case a6 => k_is)
    (case l6 => k_is)
    (case c6 => k_is)
    (case k6 => k_is)
    (case a7 => k_is)
    (case l7 => k_is)
    (case c7 => k_is)
    (case k7 => k_is)
    (case a8 => k_is)
    (case l8 => k_is)
    (case c8 => k_is)
    (case k8 => k_is)
    (case a9 => k_is)
    (case l9 => k_is)
    (case c9 => k_is)
    (case k9 => k_is)
    (case a10 => k_is)
    (case l10 => k_is)
    (case c10 => k_is)
    (case k10 => k_is)
    (case a11 => k_is)
    (case l11 => k_is)
    (case c11 => k_is)
    (case k11 => k_is)
    (case a12 => k_is)
    (case l12 => k_is)
    (case c12 => k_is)
    (case k12 => k_is)
    (case a13 => k_is)
    (case l13 => k_is)
    (case c13 => k_is)
    (case k13 => k_is)
    (case a14 => k_is)
    (case l14 => k_is)
    (case c14 => k_is)
    (case k14 => k_is)
    (case a15 => k_is)
    (case l15 => k_is)
    (case c15 => k_is)
    (case k15 => k_is)
    (case a16 => k_is)
    (case l16 => k_is)
    (case c16 => k_is)
    (case k16 => k_is)
    (case a17 => k_is)
    (case l17 => k_is)
    (case c17 => k_is)
    (case k17 => k_is)
    (case a18 => k_is)
    (case l18 => k_is)
    (case c18 => k_is)
    (case k18 => k_is)
    (case a19 => k_is)
    (case l19 => k_is)
    (case c19 => k_is)
    (case k19 => k_is)
    (case a20 => k_is)
    (case l20 => k_is)
    (case c20 => k_is)
    (case k20 => k_is)
    (case a21 => k_is)
    (case l21 => k_is)
    (case c21 => k_is)
    (case k21 => k_is)
    (case a22 => k_is)
    (case l22 => k_is)
    (case c22 => k_is)
    (case k22 => k_is)
    (case a23 => k_is)
    (case l23 => k_is)
    (case c23 => k_is)
    (case k23 => k_is)
    (case a24 => k_is)
    (case l24 => k_is)
    (case c24 => k_is)
    (case k24 => k_is)
    (case a25 => k_is)
    (case l25 => k_is)
    (case c25 => k_is)
    (case k25 => k_is)
    (case a26 => k_is)
    (case l26 => k_is)
    (case c26 => k_is)
    (case k26 => k_is)
    (case a27 => k_is)
    (case l27 => k_is)
    (case c27 => k_is)
    (case k27 => k_is)
    (case a28 => k_is)
    (case l28 => k_is)
    (case c28 => k_is)
    (case k28 => k_is)
    (case a29 => k_is)
    (case l29 => k_is)
    (case c29 => k_is)
    (case k29 => k_is)
    (case a30 => k_is)
    (case l30 => k_is)
    (case c30 => k_is)
    (case k30 => k_is)
    (case a31 => k_is)
    (case l31 => k_is)
    (case c31 => k_is)
    (case k31 => k_is)
    (case a32 => k_is)
    (case l32 => k_is)
    (case c32 => k_is)
    (case k32 => k_is)
    (case a33 => k_is)
    (case l33 => k_is)
    (case c33 => k_is)
    (case k33 => k_is)
    (case a34 => k_is)
    (case l34 => k_is)
    (case c34 => k_is)
    (case k34 => k_is)
    (case a35 => k_is)
    (case l35 => k_is)
    (case c35 => k_is)
    (case k35 => k_is)
    (case a36 => k_is)
    (case l36 => k_is)
    (case c36 => k_is)
    (case k36 => k_is)
    (case a37 => k_is)
    (case l37 => k_is)
    (case c37 => k_is)
    (case k37 => k_is)
    (case a38 => k_is)
    (case l38 => k_is)
    (case c38 => k_is)
    (case k38 => k_is)
    (case a39 => k_is)
    (case l39 => k_is)
    (case c39 => k_is)
    (case k39 => k_is)
    (case a40 => k_is)
    (case l40 => k_is)
    (case c40 => k_is)
    (case k40 => k_is)
    (case a41 => k_is)
    (case l41 => k_is)
    (case c41 => k_is)
    (case k41 => k_is)
    (case a42 => k_is)
    (case l42 => k_is)
    (case c42 => k_is)
    (case k42 => k_is)
    (case a43 => k_is)
    (case l43 => k_is)
    (case c43 => k_is)
    (case k43 => k_is)
    (case a44 => k_is)
    (case l44 => k_is)
    (case c44 => k_is)
    (case k44 => k_is)
    (case a45 => k_is)
    (case l45 => k_is)
    (case c45 => k_is)
    (case k45 => k_is)
    (case a46 => k_is)
    (case l46 => k_is)
    (case c46 => k_is)
    (case k46 => k_is)
    (case a47 => k_is)
    (case l47 => k_is)
    (case c47 => k_is)
    (case k47 => k_is)
    (case a48 => k_is)
    (case l48 => k_is)
    (case c48 => k_is)
    (case k48 => k_is)
    (case z1 => k_is)
    (case z2 => k_is)
    (case z3 => k_is)
    (case z4 => k_is)
    (case z5 => k_is)
    (case z6 => k_is)
    (case z7 => k_is)
    (case z8 => k_is)
    (case z9 => k_is)
    (case z10 => k_is)
    (case z11 => k_is)
    (case z12 => k_is)
    (case z13 => k_is)
    (case z14 => k_is)
    (case z15 => k_is)
    (case y15 => k_is)
    (case na0 => k_is)
    (case xini0 => k_is)
    (case xa0 => k_is)
    (case xc0 => k_is)
    (case xd0 => k_is)
    (case xe0 => k_is)
    (case xh0 => k_is)
    (case xi0 => k_is)
    (case xb0 => decide +kernel)
    (case xf0 => rfl)
    (case xg0 => rfl)
    (case xj0 => kernel_rfl)
    (case na1 => k_is)
    (case xini1 => k_is)
    (case xa1 => k_is)
    (case xc1 => k_is)
    (case xd1 => k_is)
    (case xe1 => k_is)
    (case xh1 => k_is)
    (case xi1 => k_is)
    (case xb1 => decide +kernel)
    (case xf1 => rfl)
    (case xg1 => rfl)
    (case xj1 => kernel_rfl)
    (case na2 => k_is)
    (case xini2 => k_is)
    (case xa2 => k_is)
    (case xc2 => k_is)
    (case xd2 => k_is)
    (case xe2 => k_is)
    (case xh2 => k_is)
    (case xi2 => k_is)
    (case xb2 => decide +kernel)
    (case xf2 => rfl)
    (case xg2 => rfl)
    (case xj2 => kernel_rfl)
    (case na3 => k_is)
    (case xini3 => k_is)
    (case xa3 => k_is)
    (case xc3 => k_is)
    (case xd3 => k_is)
    (case xe3 => k_is)
    (case xh3 => k_is)
    (case xi3 => k_is)
    (case xb3 => decide +kernel)
    (case xf3 => rfl)
    (case xg3 => rfl)
    (case xj3 => kernel_rfl)
    (case yall => kernel_rfl)
    (case xsup => k_is)
    (case xtop => kernel_rfl)
