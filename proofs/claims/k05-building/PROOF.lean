import PyProof.Rows.All
import Wide.All
import OpenK.AllK
import Wide.FinOn
import HandS.ForMost
import HandS.ForExc
import HandS.EndTab
import HandS.IsInst
import HandS.Zip
import HandS.SortInts
import HandS.TupMul
import HandS.TupAny
import HandS.Conv
import HandS.Wide
import KE.DataEq
import HandS.SetFor
import HandS.ExcOwn
import HandS.WordsExc
import HandS.ExcField
import KE.KExcSuper
import HandS.ExcInit
import HandS.AnyAll
import HandS.GenOver
import HandS.Lambda
import PyProof.ConsumeS
import KE.DataMinMax
import KE.DataCmp
import HandS.Small
import HandS.Dict
import HandS.WordsDict
import HandS.EndOwn
import KE.KNestM
import PySem.Challenge.RW_organranks_k05_whole_building
import KE.DatumOrd
set_option Elab.async false
set_option linter.all false
set_option maxRecDepth 100000
set_option maxHeartbeats 2000000
/-! A calculus of data over the hand layer: what an expression of the text gives, told of plain data. -/
namespace OR
open PySem PySem.Spec PyProof.Rows L2
abbrev D := PyData
/-! ### heaps: what stays -/
/-- all that H tells stays in H', but the addresses W and the tables of code objects -/
def Mv (W : List Addr) (H H' : Hp) : Prop := ∀ b o, b ∉ W → H b = some o → (∀ ps, o ≠ .tbl ps) → H' b = some o
abbrev Ke : Hp → Hp → Prop := Mv []
/-- H without the addresses M -/
def fz (M : List Addr) (H : Hp) : Hp := fun a => if a ∈ M then none else H a
theorem fz_out {M : List Addr} {H : Hp} {a : Addr} (h : a ∉ M) : fz M H a = H a := if_neg h
theorem fz_some {M : List Addr} {H : Hp} {a : Addr} {o : HO} (h : fz M H a = some o) : a ∉ M ∧ H a = some o := by
  unfold fz at h
  by_cases q : a ∈ M
  · rw [if_pos q] at h; cases h
  · rw [if_neg q] at h; exact ⟨q, h⟩
theorem Mv.refl {W : List Addr} {H : Hp} : Mv W H H := fun _ _ _ e _ => e
theorem Mv.trans {W : List Addr} {H H1 H2 : Hp} (a : Mv W H H1) (b : Mv W H1 H2) : Mv W H H2 := fun c o hc e n => b c o hc (a c o hc e n) n
theorem Mv.mono {W W' : List Addr} {H H' : Hp} (a : Mv W H H') (h : ∀ b, b ∈ W → b ∈ W') : Mv W' H H' := fun c o hc e n => a c o (fun z => hc (h c z)) e n
theorem Ke.mv {W : List Addr} {H H' : Hp} (a : Ke H H') : Mv W H H' := Mv.mono a fun _ z => by simp at z
theorem Ke.new {H : Hp} {p : Addr} {o : HO} (h : H p = none) : Ke H (upd H p o) := fun b u _ e _ => by
  rw [upd_ne (ne_of_none e h)]; exact e
theorem Mv.write {W : List Addr} {H : Hp} {p : Addr} {o : HO} (h : p ∈ W) : Mv W H (upd H p o) := fun b u hb e _ => by
  rw [upd_ne (show b ≠ p from fun z => hb (by rw [z]; exact h))]; exact e
theorem Mv.fz {W M : List Addr} {H H' : Hp} (a : Mv W H H') (h : ∀ b, b ∈ W → b ∈ M) : Ke (fz M H) (OR.fz M H') := fun b o _ e n => by
  obtain ⟨h1, h2⟩ := fz_some e
  rw [fz_out h1]
  exact a b o (fun z => h1 (h b z)) h2 n
theorem fz_less {M M' : List Addr} {H : Hp} (h : ∀ b, b ∈ M' → b ∈ M ∨ H b = none) : Ke (fz M H) (fz M' H) := fun b o _ e _ => by
  obtain ⟨h1, h2⟩ := fz_some e
  rw [fz_out fun z => ?_]
  · exact h2
  · rcases h b z with q | q
    · exact h1 q
    · rw [q] at h2; cases h2
theorem extN_ke {H H' : Hp} (h : LamX.ExtN H H') : Ke H H' := fun b o _ e n => h b o e n
theorem ke_extN {H H' : Hp} (h : Ke H H') : LamX.ExtN H H' := fun b o e n => h b o (by simp) e n

/-! ### data -/
theorem sqL_ke {K : PySem.W.Frag} {H H' : Hp} {a : Addr} {xs : List V} (e : Ke H H') (h : SqL K H a xs) : SqL K H' a xs := by
  rcases h with (h | ⟨o, h⟩) | h
  · exact .inl (.inl (e _ _ (by simp) h fun _ z => by cases z))
  · exact .inl (.inr ⟨o, e _ _ (by simp) h fun _ z => by cases z⟩)
  · exact .inr h
theorem sqT_ke {K : PySem.W.Frag} {H H' : Hp} {a : Addr} {xs : List V} (e : Ke H H') (h : SqT K H a xs) : SqT K H' a xs := by
  rcases h with (h | ⟨o, h⟩) | h
  · exact .inl (.inl (e _ _ (by simp) h fun _ z => by cases z))
  · exact .inl (.inr ⟨o, e _ _ (by simp) h fun _ z => by cases z⟩)
  · exact .inr h
mutual
theorem dp_ke {K : PySem.W.Frag} {H H' : Hp} (e : Ke H H') : ∀ {d : PyData} {v : V}, Dp K H v d → Dp K H' v d
  | _, _, .non => .non
  | _, _, .bl b => .bl b
  | _, _, .int i => .int i
  | _, _, .str x => .str x
  | _, _, .lst h a => .lst (sqL_ke e h) (dpAll_ke e a)
  | _, _, .tup h a => .tup (sqT_ke e h) (dpAll_ke e a)
theorem dpAll_ke {K : PySem.W.Frag} {H H' : Hp} (e : Ke H H') : ∀ {ds : List PyData} {vs : List V}, DpAll K H vs ds → DpAll K H' vs ds
  | _, _, .nil => .nil
  | _, _, .cons h a => .cons (dp_ke e h) (dpAll_ke e a)
end
theorem dpAll_length {K : PySem.W.Frag} {H : Hp} : ∀ {vs : List V} {ds : List PyData}, DpAll K H vs ds → vs.length = ds.length
  | _, _, .nil => rfl
  | _, _, .cons _ a => congrArg (· + 1) (dpAll_length a)
theorem dpAll_get {K : PySem.W.Frag} {H : Hp} : ∀ {vs : List V} {ds : List PyData} {i : Nat} {d : PyData}, DpAll K H vs ds → ds[i]? = some d → ∃ v, vs[i]? = some v ∧ Dp K H v d
  | _, _, i, d, .nil, e => by simp at e
  | _, _, 0, d, .cons h _, e => by
    simp at e; subst e; exact ⟨_, rfl, h⟩
  | _, _, i + 1, d, .cons _ a, e => by
    obtain ⟨v, h1, h2⟩ := dpAll_get (i := i) a (by simpa using e)
    exact ⟨v, by simpa using h1, h2⟩
theorem dpAll_get' {K : PySem.W.Frag} {H : Hp} : ∀ {vs : List V} {ds : List PyData} {i : Nat} {v : V}, DpAll K H vs ds → vs[i]? = some v → ∃ d, ds[i]? = some d ∧ Dp K H v d
  | _, _, i, d, .nil, e => by simp at e
  | _, _, 0, d, .cons h _, e => by
    simp at e; subst e; exact ⟨_, rfl, h⟩
  | _, _, i + 1, d, .cons _ a, e => by
    obtain ⟨v, h1, h2⟩ := dpAll_get' (i := i) a (by simpa using e)
    exact ⟨v, by simpa using h1, h2⟩
theorem dpAll_append {K : PySem.W.Frag} {H : Hp} : ∀ {vs ws : List V} {ds es : List PyData}, DpAll K H vs ds → DpAll K H ws es → DpAll K H (vs ++ ws) (ds ++ es)
  | _, _, _, _, .nil, b => b
  | _, _, _, _, .cons h a, b => .cons h (dpAll_append a b)
theorem dpAll_ints {K : PySem.W.Frag} {H : Hp} : ∀ ns : List Int, DpAll K H (ns.map V.int) (ns.map PyData.int)
  | [] => .nil
  | n :: ns => .cons (.int n) (dpAll_ints ns)
theorem dpAll_ints' {K : PySem.W.Frag} {H : Hp} : ∀ {ns : List Int} {vs : List V}, DpAll K H vs (ns.map PyData.int) → vs = ns.map V.int
  | [], _, h => by cases h; rfl
  | n :: ns, _, h => by
    cases h with
    | cons h1 h2 => cases h1; rw [dpAll_ints' h2]; rfl
theorem dpAll_bls' {K : PySem.W.Frag} {H : Hp} : ∀ {ns : List Bool} {vs : List V}, DpAll K H vs (ns.map PyData.bool) → vs = ns.map V.bl
  | [], _, h => by cases h; rfl
  | n :: ns, _, h => by
    cases h with
    | cons h1 h2 => cases h1; rw [dpAll_bls' h2]; rfl
theorem dpAll_strs' {K : PySem.W.Frag} {H : Hp} : ∀ {ns : List Str} {vs : List V}, DpAll K H vs (ns.map PyData.str) → vs = ns.map V.str
  | [], _, h => by cases h; rfl
  | n :: ns, _, h => by
    cases h with
    | cons h1 h2 => cases h1; rw [dpAll_strs' h2]; rfl
theorem dpAll_strs {K : PySem.W.Frag} {H : Hp} : ∀ ns : List Str, DpAll K H (ns.map V.str) (ns.map PyData.str)
  | [] => .nil
  | n :: ns => .cons (.str n) (dpAll_strs ns)
theorem dp_bl {K : PySem.W.Frag} {H : Hp} {v : V} {b : Bool} (h : Dp K H v (.bool b)) : v = .bl b := by cases h; rfl
theorem dp_int {K : PySem.W.Frag} {H : Hp} {v : V} {b : Int} (h : Dp K H v (.int b)) : v = .int b := by cases h; rfl
theorem dp_str {K : PySem.W.Frag} {H : Hp} {v : V} {b : Str} (h : Dp K H v (.str b)) : v = .str b := by cases h; rfl
theorem dp_non {K : PySem.W.Frag} {H : Hp} {v : V} (h : Dp K H v .none) : v = .non := by cases h; rfl
theorem dp_tup {K : PySem.W.Frag} {H : Hp} {v : V} {ds : List PyData} (h : Dp K H v (.tuple ds)) : ∃ a xs, v = .ref a ∧ SqT K H a xs ∧ DpAll K H xs ds := by
  cases h with
  | tup h a => exact ⟨_, _, rfl, h, a⟩
theorem dp_lst {K : PySem.W.Frag} {H : Hp} {v : V} {ds : List PyData} (h : Dp K H v (.list ds)) : ∃ a xs, v = .ref a ∧ SqL K H a xs ∧ DpAll K H xs ds := by
  cases h with
  | lst h a => exact ⟨_, _, rfl, h, a⟩

/-- what a slot holds: data, or a value told exactly -/
inductive SV where
  | dat (d : D) | val (v : V)
def SVr (K : PySem.W.Frag) (F : Hp) (v : V) : SV → Prop
  | .dat d => Dp K F v d
  | .val w => v = w
theorem svr_ke {K : PySem.W.Frag} {H H' : Hp} (e : Ke H H') {v : V} : ∀ {d : SV}, SVr K H v d → SVr K H' v d
  | .dat _, h => dp_ke e h
  | .val _, h => h
inductive SVs (K : PySem.W.Frag) (F : Hp) : List V → List SV → Prop
  | nil : SVs K F [] []
  | cons {v : V} {vs : List V} {d : SV} {ds : List SV} : SVr K F v d → SVs K F vs ds → SVs K F (v :: vs) (d :: ds)
theorem svs_ke {K : PySem.W.Frag} {H H' : Hp} (e : Ke H H') : ∀ {vs : List V} {ds : List SV}, SVs K H vs ds → SVs K H' vs ds
  | _, _, .nil => .nil
  | _, _, .cons h a => .cons (svr_ke e h) (svs_ke e a)
theorem svs_length {K : PySem.W.Frag} {H : Hp} : ∀ {vs : List V} {ds : List SV}, SVs K H vs ds → vs.length = ds.length
  | _, _, .nil => rfl
  | _, _, .cons _ a => congrArg (· + 1) (svs_length a)
theorem svs_get {K : PySem.W.Frag} {H : Hp} : ∀ {vs : List V} {ds : List SV} {i : Nat} {d : SV}, SVs K H vs ds → ds[i]? = some d → ∃ v, vs[i]? = some v ∧ SVr K H v d
  | _, _, i, d, .nil, e => by simp at e
  | _, _, 0, d, .cons h _, e => by
    simp at e; subst e; exact ⟨_, rfl, h⟩
  | _, _, i + 1, d, .cons _ a, e => by
    obtain ⟨v, h1, h2⟩ := svs_get (i := i) a (by simpa using e)
    exact ⟨v, by simpa using h1, h2⟩

/-! ### objects of one's own that change -/
inductive Ow where
  /-- a list of data -/
  | lst (ds : List D)
  /-- a list of slot values -/
  | vls (ds : List SV)
  /-- the dice of the law: three ints; so many rolls at most so far -/
  | dice (n : Nat)
  /-- an object told exactly -/
  | raw (o : HO)
  /-- an instance: its class, its fields -/
  | ins (C : Addr) (fs : List (Str × SV))
inductive FSr (K : PySem.W.Frag) (F : Hp) : List (Str × V) → List (Str × SV) → Prop
  | nil : FSr K F [] []
  | cons {n : Str} {v : V} {d : SV} {vs : List (Str × V)} {ds : List (Str × SV)} : SVr K F v d → FSr K F vs ds → FSr K F ((n, v) :: vs) ((n, d) :: ds)
theorem fsr_ke {K : PySem.W.Frag} {H H' : Hp} (e : Ke H H') : ∀ {vs : List (Str × V)} {ds : List (Str × SV)}, FSr K H vs ds → FSr K H' vs ds
  | _, _, .nil => .nil
  | _, _, .cons h a => .cons (svr_ke e h) (fsr_ke e a)
def OwAt (K : PySem.W.Frag) (F : Hp) (o : HO) : Ow → Prop
  | .lst ds => ∃ vs, o = .lst vs ∧ DpAll K F vs ds
  | .vls ds => ∃ vs, o = .lst vs ∧ SVs K F vs ds
  | .dice n => ∃ x y z : Int, o = .lst [.int x, .int y, .int z] ∧ 0 ≤ x ∧ 0 ≤ y ∧ y < 2147480009 ∧ 0 ≤ z ∧ z ≤ (n : Int)
  | .raw u => o = u ∧ (∀ ps, u ≠ .tbl ps) ∧ ∀ φ, u ≠ .ext φ
  | .ins C fs => ∃ dx vs, o = .ins C dx vs ∧ FSr K F vs fs
theorem owAt_ke {K : PySem.W.Frag} {H H' : Hp} (e : Ke H H') {o : HO} : ∀ {w : Ow}, OwAt K H o w → OwAt K H' o w
  | .lst _, ⟨vs, h1, h2⟩ => ⟨vs, h1, dpAll_ke e h2⟩
  | .vls _, ⟨vs, h1, h2⟩ => ⟨vs, h1, svs_ke e h2⟩
  | .dice _, h => h
  | .raw _, h => h
  | .ins _ _, ⟨dx, vs, h1, h2⟩ => ⟨dx, vs, h1, fsr_ke e h2⟩
theorem owAt_tbl {K : PySem.W.Frag} {H : Hp} {o : HO} : ∀ {w : Ow}, OwAt K H o w → ∀ ps, o ≠ .tbl ps
  | .lst _, ⟨_, h1, _⟩, _, z => by rw [h1] at z; cases z
  | .vls _, ⟨_, h1, _⟩, _, z => by rw [h1] at z; cases z
  | .dice _, ⟨_, _, _, h1, _⟩, _, z => by rw [h1] at z; cases z
  | .raw _, ⟨h1, h2, _⟩, ps, z => h2 ps (h1 ▸ z)
  | .ins _ _, ⟨_, _, h1, _⟩, _, z => by rw [h1] at z; cases z

theorem owAt_ext {K : PySem.W.Frag} {H : Hp} {o : HO} : ∀ {w : Ow}, OwAt K H o w → ∀ φ, o ≠ .ext φ
  | .lst _, ⟨_, h1, _⟩, _, z => by rw [h1] at z; cases z
  | .vls _, ⟨_, h1, _⟩, _, z => by rw [h1] at z; cases z
  | .dice _, ⟨_, _, _, h1, _⟩, _, z => by rw [h1] at z; cases z
  | .raw _, ⟨h1, _, h2⟩, φ, z => h2 φ (h1 ▸ z)
  | .ins _ _, ⟨_, _, h1, _⟩, _, z => by rw [h1] at z; cases z

abbrev Oty := List (Addr × Ow)
abbrev Gty := List (Option SV)
/-- a fact of what stays -/
structure Pn where
  p : PySem.W.Frag → Hp → Prop
  m : ∀ K H H', Ke H H' → p K H → p K H'
def pnV (v : V) (d : SV) : Pn := ⟨fun K F => SVr K F v d, fun _ _ _ e h => svr_ke e h⟩
def pnT (p : Addr) (us : List V) (ds : List D) : Pn := ⟨fun K F => SqT K F p us ∧ DpAll K F us ds, fun _ _ _ e h => ⟨sqT_ke e h.1, dpAll_ke e h.2⟩⟩
def pnL (p : Addr) (us : List V) (ds : List D) : Pn := ⟨fun K F => SqL K F p us ∧ DpAll K F us ds, fun _ _ _ e h => ⟨sqL_ke e h.1, dpAll_ke e h.2⟩⟩
/-- what stands around: the text's facts, the tables, the heap and the foreign objects at the entry, what may be written, what is pinned, what is locked, what may be raised -/
structure Cc where
  K : PySem.W.Frag
  T : List (Addr × Str)
  H0 : Hp
  M0 : List Addr
  W : List Addr
  Z : List Pn
  L : Oty
def mm (c : Cc) (O : Oty) : List Addr := c.M0 ++ (c.L.map (·.1) ++ O.map (·.1))
/-- the state, told of data: slots G, own objects O -/
structure S (c : Cc) (G : Gty) (O : Oty) (σ : L2.St) (H : Hp) : Prop where
  tb : LamX.Tabs c.T H
  mv : Mv c.W c.H0 H
  nd : (c.L.map (·.1) ++ O.map (·.1)).Nodup
  nw : ∀ p ∈ c.L.map (·.1) ++ O.map (·.1), p ∈ c.W ∨ ∀ o, c.H0 p = some o → ∃ ps, o = .tbl ps
  dj : ∀ p ∈ c.L.map (·.1) ++ O.map (·.1), p ∉ c.M0
  lk : ∀ p ∈ c.L, ∃ o, H p.1 = some o ∧ OwAt c.K (fz (mm c O) H) o p.2
  ow : ∀ p ∈ O, ∃ o, H p.1 = some o ∧ OwAt c.K (fz (mm c O) H) o p.2
  lv : ∀ a ∈ c.M0, ∃ o, H a = some o ∧ ∀ ps, o ≠ .tbl ps
  en : ∀ (i : Nat) (d : SV), G[i]? = some (some d) → ∃ v, σ[i]? = some (some v) ∧ SVr c.K (fz (mm c O) H) v d
  ln : G.length = σ.length
  pi : ∀ p ∈ c.Z, p.p c.K (fz (mm c O) H)
abbrev Cc.pn (c : Cc) (q : Pn) : Cc := { c with Z := q :: c.Z }
abbrev Cc.pin (c : Cc) (v : V) (d : SV) : Cc := c.pn (pnV v d)
abbrev Cc.lock (c : Cc) (p : Addr) (w : Ow) : Cc := { c with L := (p, w) :: c.L }
/-- the own objects' values as they stand now -/
abbrev S.F {c : Cc} {G : Gty} {O : Oty} {σ : L2.St} {H : Hp} (_ : S c G O σ H) : Hp := fz (mm c O) H
section
variable {c : Cc} {G : Gty} {O : Oty} {σ : L2.St} {H H' : Hp}
theorem ow_mm {p : Addr × Ow} (h : p ∈ O) : p.1 ∈ mm c O := List.mem_append_right _ (List.mem_append_right _ (List.mem_map.mpr ⟨p, h, rfl⟩))
theorem lk_mm {p : Addr × Ow} (h : p ∈ c.L) : p.1 ∈ mm c O := List.mem_append_right _ (List.mem_append_left _ (List.mem_map.mpr ⟨p, h, rfl⟩))
theorem S.there (s : S c G O σ H) : ∀ b ∈ mm c O, ∃ o, H b = some o ∧ ∀ ps, o ≠ .tbl ps := fun b hb => by
  rcases List.mem_append.mp hb with h | h
  · exact s.lv b h
  · rcases List.mem_append.mp h with h | h
    · obtain ⟨p, hp, e⟩ := List.mem_map.mp h
      rw [← e]
      obtain ⟨o, h1, h2⟩ := s.lk p hp
      exact ⟨o, h1, owAt_tbl h2⟩
    · obtain ⟨p, hp, e⟩ := List.mem_map.mp h
      rw [← e]
      obtain ⟨o, h1, h2⟩ := s.ow p hp
      exact ⟨o, h1, owAt_tbl h2⟩
/-- new things beside -/
theorem S.step (s : S c G O σ H) (k : Ke H H') (t : LamX.Tabs c.T H') : S c G O σ H' := by
  have kf : Ke (fz (mm c O) H) (fz (mm c O) H') := k.fz fun _ z => by simp at z
  refine ⟨t, s.mv.trans k.mv, s.nd, s.nw, s.dj, fun p hp => ?_, fun p hp => ?_, fun a ha => ?_, fun i d e => ?_, s.ln, fun p hp => p.m _ _ _ kf (s.pi p hp)⟩
  · obtain ⟨o, h1, h2⟩ := s.lk p hp
    exact ⟨o, k _ _ (by simp) h1 (owAt_tbl h2), owAt_ke kf h2⟩
  · obtain ⟨o, h1, h2⟩ := s.ow p hp
    exact ⟨o, k _ _ (by simp) h1 (owAt_tbl h2), owAt_ke kf h2⟩
  · obtain ⟨o, h1, h2⟩ := s.lv a ha
    exact ⟨o, k _ _ (by simp) h1 h2, h2⟩
  · obtain ⟨v, h1, h2⟩ := s.en i d e
    exact ⟨v, h1, svr_ke kf h2⟩
theorem tabs_new {T : List (Addr × Str)} {H : Hp} {p : Addr} {o : HO} (t : LamX.Tabs T H) (h : H p = none) : LamX.Tabs T (upd H p o) := t.ext fun b u e => by
  rw [upd_ne (ne_of_none e h)]; exact e
theorem S.new (s : S c G O σ H) {p : Addr} {o : HO} (h : H p = none) : S c G O σ (upd H p o) := s.step (.new h) (tabs_new s.tb h)
theorem S.out (s : S c G O σ H) {p : Addr} (h : H p = none) : p ∉ mm c O := fun z => by
  obtain ⟨o, h1, _⟩ := s.there p z
  rw [h] at h1; cases h1
theorem S.fresh (s : S c G O σ H) {p : Addr} (h : H p = none) : p ∈ c.W ∨ ∀ o, c.H0 p = some o → ∃ ps, o = .tbl ps := by
  by_cases hw : p ∈ c.W
  · exact .inl hw
  · refine .inr fun o e => ?_
    by_cases hn : ∃ ps, o = .tbl ps
    · exact hn
    · have q := s.mv p o hw e fun ps z => hn ⟨ps, z⟩
      rw [h] at q; cases q
theorem S.ke_new (s : S c G O σ H) {p : Addr} {o : HO} (h : H p = none) : Ke (fz (mm c O) H) (fz (mm c O) (upd H p o)) := Mv.fz (Ke.new h) fun _ z => by simp at z
/-- a pinned fact -/
theorem S.hold (s : S c G O σ H) {q : Pn} (h : q.p c.K (fz (mm c O) H)) : S (c.pn q) G O σ H :=
  ⟨s.tb, s.mv, s.nd, s.nw, s.dj, s.lk, s.ow, s.lv, s.en, s.ln, fun p hp => by
    rcases List.mem_cons.mp hp with e | hp
    · rw [e]; exact h
    · exact s.pi p hp⟩
theorem S.pin (s : S c G O σ H) {v : V} {d : SV} (h : SVr c.K (fz (mm c O) H) v d) : S (c.pin v d) G O σ H := s.hold h
theorem S.unpin {q : Pn} (s : S (c.pn q) G O σ H) : S c G O σ H :=
  ⟨s.tb, s.mv, s.nd, s.nw, s.dj, s.lk, s.ow, s.lv, s.en, s.ln, fun p hp => s.pi p (List.mem_cons_of_mem _ hp)⟩
theorem S.held {q : Pn} (s : S (c.pn q) G O σ H) : q.p c.K (fz (mm c O) H) := s.pi q List.mem_cons_self
theorem S.pinned {v : V} {d : SV} (s : S (c.pin v d) G O σ H) : SVr c.K (fz (mm c O) H) v d := s.held
theorem S.set (s : S c G O σ H) {v : V} {d : SV} (i : Nat) (h : SVr c.K (fz (mm c O) H) v d) : S c (G.set i (some d)) O (σ.set i (some v)) H :=
  ⟨s.tb, s.mv, s.nd, s.nw, s.dj, s.lk, s.ow, s.lv, fun j e hj => by
    by_cases q : i = j
    · subst q
      by_cases hl : i < G.length
      · rw [List.getElem?_set_self hl] at hj
        cases hj
        exact ⟨v, by rw [List.getElem?_set_self (s.ln ▸ hl)], h⟩
      · rw [List.getElem?_eq_none (by simpa using hl)] at hj
        cases hj
    · rw [List.getElem?_set_ne q] at hj
      obtain ⟨w, h1, h2⟩ := s.en j e hj
      exact ⟨w, by rw [List.getElem?_set_ne q]; exact h1, h2⟩, by rw [List.length_set, List.length_set, s.ln], s.pi⟩
/-- less is told of the slots -/
theorem S.weak (s : S c G O σ H) {G' : Gty} (hl : G'.length = G.length) (h : ∀ (i : Nat) (d : SV), G'[i]? = some (some d) → G[i]? = some (some d)) : S c G' O σ H :=
  ⟨s.tb, s.mv, s.nd, s.nw, s.dj, s.lk, s.ow, s.lv, fun i d e => s.en i d (h i d e), hl.trans s.ln, s.pi⟩
end
theorem tabs_write {T : List (Addr × Str)} {H : Hp} {p : Addr} {o o' : HO} (t : LamX.Tabs T H) (h : H p = some o) (h1 : ∀ ps, o ≠ .tbl ps) (h2 : ∀ φ, o ≠ .ext φ) : LamX.Tabs T (upd H p o') := fun q hq => by
  obtain ⟨ps, a1, a2, a3⟩ := t q hq
  refine ⟨ps, ?_, a2, fun pos cv hc => ?_⟩
  · rw [upd_ne fun z => ?_]
    · exact a1
    · rw [z, h] at a1
      exact h1 ps (Option.some.inj a1)
  · obtain ⟨e, e1, e2⟩ := a3 pos cv hc
    refine ⟨e, e1, ?_⟩
    rw [upd_ne fun z => ?_]
    · exact e2
    · rw [z, h] at e2
      exact h2 _ (Option.some.inj e2)
theorem map_set_fst {α β : Type} {l : List (α × β)} {i : Nat} {p : α} {w w' : β} (h : l[i]? = some (p, w)) : (l.set i (p, w')).map (·.1) = l.map (·.1) := by
  refine List.ext_getElem? fun j => ?_
  rw [List.getElem?_map, List.getElem?_map]
  by_cases e : i = j
  · subst e
    rw [List.getElem?_set_self (List.getElem?_eq_some_iff.mp h).1, h] <;> rfl
  · rw [List.getElem?_set_ne e]
theorem mm_set {c : Cc} {O : Oty} {i : Nat} {p : Addr} {w w' : Ow} (h : O[i]? = some (p, w)) : mm c (O.set i (p, w')) = mm c O := by
  unfold mm
  rw [map_set_fst h]
theorem fz_upd {M : List Addr} {H : Hp} {p : Addr} {o : HO} (h : p ∈ M) : fz M (upd H p o) = fz M H := by
  funext a
  unfold fz
  by_cases q : a ∈ M
  · rw [if_pos q, if_pos q]
  · rw [if_neg q, if_neg q, upd_ne fun z => q (by rw [z]; exact h)]
theorem nodup_at {O : Oty} {i j : Nat} {p : Addr} {w w' : Ow} (hn : (O.map (·.1)).Nodup) (h1 : O[i]? = some (p, w)) (h2 : O[j]? = some (p, w')) : i = j :=
  nd_ix hn (x := p) (by rw [List.getElem?_map, h1] <;> rfl) (by rw [List.getElem?_map, h2] <;> rfl)
section
variable {c : Cc} {G : Gty} {O : Oty} {σ : L2.St} {H H' : Hp}
theorem S.ndO (s : S c G O σ H) : (O.map (·.1)).Nodup := (List.nodup_append.mp s.nd).2.1
/-- an own object is written -/
theorem S.write (s : S c G O σ H) {i : Nat} {p : Addr} {w w' : Ow} {o' : HO} (h : O[i]? = some (p, w)) (hw : OwAt c.K (fz (mm c O) H) o' w') : S c G (O.set i (p, w')) σ (upd H p o') := by
  have hm : (p, w) ∈ O := List.mem_of_getElem? h
  obtain ⟨o, ho, how⟩ := s.ow _ hm
  have hp : p ∈ mm c O := ow_mm hm
  have ef : fz (mm c (O.set i (p, w'))) (upd H p o') = fz (mm c O) H := by rw [mm_set h, fz_upd hp]
  have em := map_set_fst (w' := w') h
  have npl : ∀ q ∈ c.L, q.1 ≠ p := fun q hq z => (List.nodup_append.mp s.nd).2.2 q.1 (List.mem_map.mpr ⟨q, hq, rfl⟩) p (List.mem_map.mpr ⟨_, hm, rfl⟩) z
  refine ⟨tabs_write s.tb ho (owAt_tbl how) (owAt_ext how), fun b u hb e n => ?_, by rw [em]; exact s.nd, by rw [em]; exact s.nw, by rw [em]; exact s.dj, fun q hq => ?_, fun q hq => ?_, fun a ha => ?_, fun j d e => ?_, s.ln, fun q hq => by rw [ef]; exact s.pi q hq⟩
  · by_cases z : b = p
    · subst z
      rcases s.nw b (List.mem_append_right _ (List.mem_map.mpr ⟨_, hm, rfl⟩)) with q | q
      · exact absurd q hb
      · obtain ⟨ps, q⟩ := q u e
        exact absurd q (n ps)
    · rw [upd_ne z]
      exact s.mv b u hb e n
  · rw [ef, upd_ne (npl q hq)]
    exact s.lk q hq
  · rw [ef]
    obtain ⟨j, hj⟩ := List.getElem?_of_mem hq
    by_cases z : i = j
    · subst z
      rw [List.getElem?_set_self (List.getElem?_eq_some_iff.mp h).1] at hj
      cases hj
      exact ⟨o', upd_same, hw⟩
    · rw [List.getElem?_set_ne z] at hj
      obtain ⟨u, h1, h2⟩ := s.ow q (List.mem_of_getElem? hj)
      refine ⟨u, ?_, h2⟩
      rw [upd_ne fun y => ?_]
      · exact h1
      · exact z (nodup_at s.ndO h (w' := q.2) (by rw [hj, ← y]))
  · by_cases z : a = p
    · rw [z]
      exact ⟨o', upd_same, owAt_tbl hw⟩
    · rw [upd_ne z]
      exact s.lv a ha
  · rw [ef]
    exact s.en j d e
theorem mm_add {p : Addr} {w : Ow} {b : Addr} (h : b ∈ mm c (O ++ [(p, w)])) : b ∈ mm c O ∨ b = p := by
  unfold mm at h ⊢
  rw [List.map_append, ← List.append_assoc, ← List.append_assoc] at h
  rcases List.mem_append.mp h with h | h
  · exact .inl (by rw [← List.append_assoc]; exact h)
  · exact .inr (by simpa using h)
theorem ke_add {p : Addr} {w : Ow} {o : HO} (h : H p = none) : Ke (fz (mm c O) H) (fz (mm c (O ++ [(p, w)])) (upd H p o)) := fun b u _ e n => by
  obtain ⟨h1, h2⟩ := fz_some e
  rw [fz_out fun z => ?_, upd_ne (ne_of_none h2 h)]
  · exact h2
  · rcases mm_add z with q | q
    · exact h1 q
    · rw [q, h] at h2; cases h2
/-- a new own object -/
theorem S.add (s : S c G O σ H) {p : Addr} {w : Ow} {o : HO} (h : H p = none) (hw : OwAt c.K (fz (mm c O) H) o w) : S c G (O ++ [(p, w)]) σ (upd H p o) := by
  have kf : Ke (fz (mm c O) H) (fz (mm c (O ++ [(p, w)])) (upd H p o)) := ke_add h
  have hp : p ∉ mm c O := s.out h
  have kn : Ke H (upd H p o) := .new h
  refine ⟨tabs_new s.tb h, s.mv.trans kn.mv, ?_, fun b hb => ?_, fun b hb => ?_, fun q hq => ?_, fun q hq => ?_, fun a ha => ?_, fun j d e => ?_, s.ln, fun q hq => q.m _ _ _ kf (s.pi q hq)⟩
  · rw [List.map_append, ← List.append_assoc]
    refine List.nodup_append.mpr ⟨s.nd, by simp, fun a ha b hb z => hp ?_⟩
    have e : b = p := by simpa using hb
    rw [← e, ← z]
    exact List.mem_append_right _ ha
  · rw [List.map_append, ← List.append_assoc] at hb
    rcases List.mem_append.mp hb with hb | hb
    · exact s.nw b hb
    · have e : b = p := by simpa using hb
      rw [e]
      exact s.fresh h
  · rw [List.map_append, ← List.append_assoc] at hb
    rcases List.mem_append.mp hb with hb | hb
    · exact s.dj b hb
    · have e : b = p := by simpa using hb
      rw [e]
      exact fun z => hp (List.mem_append_left _ z)
  · obtain ⟨u, h1, h2⟩ := s.lk q hq
    exact ⟨u, kn _ _ (by simp) h1 (owAt_tbl h2), owAt_ke kf h2⟩
  · rcases List.mem_append.mp hq with hq | hq
    · obtain ⟨u, h1, h2⟩ := s.ow q hq
      exact ⟨u, kn _ _ (by simp) h1 (owAt_tbl h2), owAt_ke kf h2⟩
    · have e : q = (p, w) := by simpa using hq
      rw [e]
      exact ⟨o, upd_same, owAt_ke kf hw⟩
  · obtain ⟨u, h1, h2⟩ := s.lv a ha
    exact ⟨u, kn _ _ (by simp) h1 h2, h2⟩
  · obtain ⟨v, h1, h2⟩ := s.en j d e
    exact ⟨v, h1, svr_ke kf h2⟩
theorem mm_erase {i : Nat} {b : Addr} (h : b ∈ mm c (O.eraseIdx i)) : b ∈ mm c O := by
  unfold mm at h ⊢
  rcases List.mem_append.mp h with h | h
  · exact List.mem_append_left _ h
  · rcases List.mem_append.mp h with h | h
    · exact List.mem_append_right _ (List.mem_append_left _ h)
    · obtain ⟨p, hp, e⟩ := List.mem_map.mp h
      exact List.mem_append_right _ (List.mem_append_right _ (List.mem_map.mpr ⟨p, List.mem_of_mem_eraseIdx hp, e⟩))
theorem ke_erase {i : Nat} : Ke (fz (mm c O) H) (fz (mm c (O.eraseIdx i)) H) := fz_less fun b hb => .inl (mm_erase hb)
/-- an own object is nobody's any more: it stays as it is -/
theorem S.drop (s : S c G O σ H) (i : Nat) : S c G (O.eraseIdx i) σ H := by
  have kf : Ke (fz (mm c O) H) (fz (mm c (O.eraseIdx i)) H) := ke_erase
  have sub : ((O.eraseIdx i).map (·.1)).Sublist (O.map (·.1)) := (List.eraseIdx_sublist O i).map _
  refine ⟨s.tb, s.mv, s.nd.sublist (List.Sublist.append (List.Sublist.refl _) sub), fun b hb => s.nw b ?_, fun b hb => s.dj b ?_, fun q hq => ?_, fun q hq => ?_, s.lv, fun j d e => ?_, s.ln, fun q hq => q.m _ _ _ kf (s.pi q hq)⟩
  · rcases List.mem_append.mp hb with hb | hb
    · exact List.mem_append_left _ hb
    · exact List.mem_append_right _ (sub.subset hb)
  · rcases List.mem_append.mp hb with hb | hb
    · exact List.mem_append_left _ hb
    · exact List.mem_append_right _ (sub.subset hb)
  · obtain ⟨u, h1, h2⟩ := s.lk q hq
    exact ⟨u, h1, owAt_ke kf h2⟩
  · obtain ⟨u, h1, h2⟩ := s.ow q (List.mem_of_mem_eraseIdx hq)
    exact ⟨u, h1, owAt_ke kf h2⟩
  · obtain ⟨v, h1, h2⟩ := s.en j d e
    exact ⟨v, h1, svr_ke kf h2⟩
/-- a list of one's own, dropped, is data -/
theorem S.freeze (s : S c G O σ H) {i : Nat} {p : Addr} {ds : List D} (h : O[i]? = some (p, .lst ds)) : SVr c.K (fz (mm c (O.eraseIdx i)) H) (.ref p) (.dat (.list ds)) := by
  obtain ⟨o, h1, vs, rfl, h2⟩ := s.ow _ (List.mem_of_getElem? h)
  refine Dp.lst (xs := vs) (SqL.of ?_) (dpAll_ke ke_erase h2)
  rw [fz_out]
  · exact h1
  · intro z
    have hlt := (List.getElem?_eq_some_iff.mp h).1
    unfold mm at z
    rcases List.mem_append.mp z with z | z
    · exact s.dj p (List.mem_append_right _ (List.mem_map.mpr ⟨_, List.mem_of_getElem? h, rfl⟩)) z
    · rcases List.mem_append.mp z with z | z
      · exact (List.nodup_append.mp s.nd).2.2 p z p (List.mem_map.mpr ⟨_, List.mem_of_getElem? h, rfl⟩) rfl
      · obtain ⟨q, hq, e⟩ := List.mem_map.mp z
        obtain ⟨j, hj⟩ := List.getElem?_of_mem hq
        rw [List.getElem?_eraseIdx] at hj
        by_cases hji : j < i
        · rw [if_pos hji] at hj
          have := nodup_at s.ndO h (w' := q.2) (by rw [hj, ← e])
          omega
        · rw [if_neg hji] at hj
          have := nodup_at s.ndO h (w' := q.2) (by rw [hj, ← e])
          omega
theorem mem_mm_lock {p : Addr} {w : Ow} {b : Addr} : b ∈ mm (c.lock p w) O ↔ b ∈ mm c (O ++ [(p, w)]) := by
  unfold mm
  simp only [List.mem_append, List.mem_map, List.map_cons, List.map_append, List.mem_cons, List.map_nil, List.not_mem_nil, or_false]
  constructor
  · rintro (h | (h | h) | h)
    · exact .inl h
    · exact .inr (.inr (.inr h))
    · exact .inr (.inl h)
    · exact .inr (.inr (.inl h))
  · rintro (h | h | h | h)
    · exact .inl h
    · exact .inr (.inl (.inr h))
    · exact .inr (.inr h)
    · exact .inr (.inl (.inl h))
theorem fz_congr {M M' : List Addr} {H : Hp} (h : ∀ b, b ∈ M ↔ b ∈ M') : fz M H = fz M' H := by
  funext a
  unfold fz
  by_cases q : a ∈ M
  · rw [if_pos q, if_pos ((h a).mp q)]
  · rw [if_neg q, if_neg fun z => q ((h a).mpr z)]
theorem fz_lock {p : Addr} {w : Ow} : fz (mm (c.lock p w) O) H = fz (mm c (O ++ [(p, w)])) H := fz_congr fun _ => mem_mm_lock
/-- the last own object is locked away, and taken out again -/
theorem S.hide {p : Addr} {w : Ow} (s : S c G (O ++ [(p, w)]) σ H) : S (c.lock p w) G O σ H := by
  have hm : ∀ b, b ∈ (p :: c.L.map (·.1)) ++ O.map (·.1) → b ∈ c.L.map (·.1) ++ (O ++ [(p, w)]).map (·.1) := fun b hb => by
    rw [List.map_append]
    rcases List.mem_append.mp hb with hb | hb
    · rcases List.mem_cons.mp hb with hb | hb
      · exact List.mem_append_right _ (List.mem_append_right _ (by simp [hb]))
      · exact List.mem_append_left _ hb
    · exact List.mem_append_right _ (List.mem_append_left _ hb)
  have perm : ((p :: c.L.map (·.1)) ++ O.map (·.1)).Perm (c.L.map (·.1) ++ (O ++ [(p, w)]).map (·.1)) := by
    rw [List.map_append, ← List.append_assoc]
    exact (List.perm_append_singleton p _).symm
  refine ⟨s.tb, s.mv, perm.nodup_iff.mpr s.nd, fun b hb => s.nw b (hm b hb), fun b hb => s.dj b (hm b hb), fun q hq => ?_, fun q hq => ?_, s.lv, fun j d e => ?_, s.ln, fun q hq => ?_⟩
  · rw [fz_lock]
    rcases List.mem_cons.mp hq with hq | hq
    · rw [hq]
      exact s.ow _ (List.mem_append_right _ (by simp))
    · exact s.lk q hq
  · rw [fz_lock]
    exact s.ow q (List.mem_append_left _ hq)
  · rw [fz_lock]
    exact s.en j d e
  · rw [fz_lock]
    exact s.pi q hq
theorem S.show {p : Addr} {w : Ow} (s : S (c.lock p w) G O σ H) : S c G (O ++ [(p, w)]) σ H := by
  have hm : ∀ b, b ∈ c.L.map (·.1) ++ (O ++ [(p, w)]).map (·.1) → b ∈ (p :: c.L.map (·.1)) ++ O.map (·.1) := fun b hb => by
    rw [List.map_append] at hb
    rcases List.mem_append.mp hb with hb | hb
    · exact List.mem_append_left _ (List.mem_cons_of_mem _ hb)
    · rcases List.mem_append.mp hb with hb | hb
      · exact List.mem_append_right _ hb
      · have e : b = p := by simpa using hb
        rw [e]
        exact List.mem_append_left _ List.mem_cons_self
  have perm : ((p :: c.L.map (·.1)) ++ O.map (·.1)).Perm (c.L.map (·.1) ++ (O ++ [(p, w)]).map (·.1)) := by
    rw [List.map_append, ← List.append_assoc]
    exact (List.perm_append_singleton p _).symm
  refine ⟨s.tb, s.mv, perm.nodup_iff.mp s.nd, fun b hb => s.nw b (hm b hb), fun b hb => s.dj b (hm b hb), fun q hq => ?_, fun q hq => ?_, s.lv, fun j d e => ?_, s.ln, fun q hq => ?_⟩
  · rw [← fz_lock]
    exact s.lk q (List.mem_cons_of_mem _ hq)
  · rw [← fz_lock]
    rcases List.mem_append.mp hq with hq | hq
    · exact s.ow q hq
    · have e : q = (p, w) := by simpa using hq
      rw [e]
      exact s.lk _ List.mem_cons_self
  · rw [← fz_lock]
    exact s.en j d e
  · rw [← fz_lock]
    exact s.pi q hq
end
end OR

set_option Elab.async false
set_option linter.all false
set_option maxRecDepth 100000
set_option maxHeartbeats 2000000
namespace OR
open PySem PySem.Spec PyProof.Rows L2
/-! ### expressions -/
section
variable (X : Cx) (c : Cc)
def wE (e : Expr) : TE := fun σ H Q => ∀ (pins : List (Addr × Obj)) (s : Shared), Inv X pins σ H s → wpAny (model X.prog X.w) X.A (eval e X.env) (EP X pins σ Q) X.xe s
def wT (e : Expr) : TT := fun σ H Q => ∀ (pins : List (Addr × Obj)) (s : Shared), Inv X pins σ H s → wpAny (model X.prog X.w) X.A (isTrue e X.env (eval e X.env)) (TP X pins σ Q) X.xe s
def wW (e : Expr) : TT := fun σ H Q => ∀ (whole : Sem Value) (pins : List (Addr × Obj)) (s : Shared), Inv X pins σ H s → wpAny (model X.prog X.w) X.A (isTrue e X.env whole) (TP X pins σ Q) X.xe s
def wA (es : List Expr) : TA := fun σ H Q => ∀ (pos : Pos) (pins : List (Addr × Obj)) (s : Shared), Inv X pins σ H s → wpAny (model X.prog X.w) X.A (spliced (backTo pos (starEach es X.env))) (AP X pins σ Q) X.xe s
def wS (st : Stmt) : TS := fun D σ H => ∀ (pins : List (Addr × Obj)) (s : Shared), Inv X pins σ H s → wpAny (model X.prog X.w) X.A (exec st X.env) (SP X pins D) X.xe s
def wSs (st : List Stmt) : TS := fun D σ H => ∀ (pins : List (Addr × Obj)) (s : Shared), Inv X pins σ H s → wpAny (model X.prog X.w) X.A (execs st X.env) (SP X pins D) X.xe s
/-- a two-place operation, whatever it asks -/
def wO (f : Value → Value → Sem Value) : R2 := fun x y H Q => ∀ (pins : List (Addr × Obj)) (s : Shared) (σ : L2.St) (v u : Value), Inv X pins σ H s → RelV x v → RelV y u → wpAny (model X.prog X.w) X.A (f v u) (EP X pins σ Q) X.xe s
/-- e gives some d, the own objects O', of which k holds -/
def EV (e : Expr) (G : Gty) (O : Oty) (k : SV → Oty → Prop) : Prop := ∀ (σ : L2.St) (H : Hp) (Q : VK), S c G O σ H → (∀ v d O' H', k d O' → S (c.pin v d) G O' σ H' → Q v H') → wE X e σ H Q
def TV (e : Expr) (G : Gty) (O : Oty) (k : Bool → Oty → Prop) : Prop := ∀ (σ : L2.St) (H : Hp) (Q : Bool → Hp → Prop), S c G O σ H → (∀ b O' H', k b O' → S c G O' σ H' → Q b H') → wT X e σ H Q
def WV (e : Expr) (G : Gty) (O : Oty) (k : Bool → Oty → Prop) : Prop := ∀ (σ : L2.St) (H : Hp) (Q : Bool → Hp → Prop), S c G O σ H → (∀ b O' H', k b O' → S c G O' σ H' → Q b H') → wW X e σ H Q
/-- an operation on values that are told -/
def OK2 (f : Value → Value → Sem Value) (d1 d2 : SV) (O : Oty) (k : SV → Oty → Prop) : Prop :=
  ∀ (G : Gty) (σ : L2.St) (H : Hp) (v1 v2 : V) (Q : VK), S ((c.pin v1 d1).pin v2 d2) G O σ H → (∀ v d O' H', k d O' → S (c.pin v d) G O' σ H' → Q v H') → wO X f v1 v2 H Q
end
inductive SVp (c : Cc) (O : Oty) (H : Hp) : List V → List SV → Prop
  | nil : SVp c O H [] []
  | cons {v : V} {vs : List V} {d : SV} {ds : List SV} : SVr c.K (fz (mm c O) H) v d → SVp c O H vs ds → SVp c O H (v :: vs) (d :: ds)
/-- several pins -/
abbrev Cc.pins (c : Cc) (Z : List Pn) : Cc := { c with Z := Z ++ c.Z }
section
variable (X : Cx) (c : Cc)
/-- arguments: k of all their values -/
def EA (es : List Expr) (G : Gty) (O : Oty) (k : List SV → Oty → Prop) : Prop := ∀ (σ : L2.St) (H : Hp) (Q : List V → Hp → Prop), S c G O σ H → (∀ vs ds O' H', k ds O' → S c G O' σ H' → SVs c.K (fz (mm c O') H') vs ds → Q vs H') → wA X es σ H Q
/-- a call of a built-in on told values -/
def CK (f : Value) (ds : List SV) (O : Oty) (k : SV → Oty → Prop) : Prop :=
  ∀ (G : Gty) (σ : L2.St) (H : Hp) (vs : List V) (us : List Value) (Q : VK) (pins : List (Addr × Obj)) (s : Shared), S c G O σ H → SVs c.K (fz (mm c O) H) vs ds → (∀ v d O' H', k d O' → S (c.pin v d) G O' σ H' → Q v H') →
    Inv X pins σ H s → Vals vs us → wpAny (model X.prog X.w) X.A (call f us) (EP X pins σ Q) X.xe s
end
section
variable {X : Cx} {c : Cc} {G : Gty} {O : Oty} {e a b : Expr} {es : List Expr} {pos : Pos} {k : SV → Oty → Prop}
theorem pe_w : PE X e (wE X e) := ⟨fun pins s _ _ _ I h => h pins s I⟩
theorem pt_w : PT X e (wT X e) := ⟨fun pins s _ _ _ I h => h pins s I⟩
theorem pw_w : PW X e (wW X e) := ⟨fun wh pins s _ _ _ I h => h wh pins s I⟩
theorem pa_w : PA X es (wA X es) := ⟨fun pos pins s _ _ _ I h => h pos pins s I⟩
theorem op_w {f : Value → Value → Sem Value} : OpR X f (wO X f) := fun pins s σ _ _ _ _ _ _ I r1 r2 h => h pins s σ _ _ I r1 r2
theorem wE_of {t : TE} (h : PE X e t) {σ : L2.St} {H : Hp} {Q : VK} (q : t σ H Q) : wE X e σ H Q := fun pins s I => h.run pins s σ H Q I q
theorem wT_of {t : TT} (h : PT X e t) {σ : L2.St} {H : Hp} {Q : Bool → Hp → Prop} (q : t σ H Q) : wT X e σ H Q := fun pins s I => h.run pins s σ H Q I q
theorem wW_of {t : TT} (h : PW X e t) {σ : L2.St} {H : Hp} {Q : Bool → Hp → Prop} (q : t σ H Q) : wW X e σ H Q := fun wh pins s I => h.run wh pins s σ H Q I q
theorem wA_of {t : TA} (h : PA X es t) {σ : L2.St} {H : Hp} {Q : List V → Hp → Prop} (q : t σ H Q) : wA X es σ H Q := fun pos pins s I => h.run pos pins s σ H Q I q
theorem wO_of {f : Value → Value → Sem Value} {r : R2} (h : OpR X f r) {x y : V} {H : Hp} {Q : VK} (q : r x y H Q) : wO X f x y H Q := fun pins s σ v u I r1 r2 => h pins s σ H x y v u Q I r1 r2 q
theorem EV.mono {k' : SV → Oty → Prop} (h : EV X c e G O k) (hk : ∀ d O', k d O' → k' d O') : EV X c e G O k' := fun σ H Q s q => h σ H Q s fun v d O' H' kk => q v d O' H' (hk d O' kk)
theorem S.kpin {v : V} {d : SV} {O : Oty} {σ : L2.St} {H : Hp} (s : S c G O σ H) (h : SVr c.K (fz (mm c O) H) v d) : S (c.pin v d) G O σ H := s.pin h
/-! names, constants -/
theorem ev_var (i : Nat) {x : Str} {d : SV} (hk : k d O) (hG : G[i]? = some (some d) := by rfl) (hN : X.N[i]? = some x := by rfl) (hv : Vis X.env.scope x := by first | exact Or.inl rfl | exact Or.inr (Or.inl rfl) | exact Or.inr (Or.inr rfl))
    (hd : (x == ("__debug__" : Str)) = false := by decide) (hcd : (x == ("__classdict__" : Str)) = false := by decide) : EV X c (.Name x pos) G O k := fun σ H Q s q => by
  obtain ⟨v, h1, h2⟩ := s.en i d hG
  exact wE_of (pe_var hN hv hd hcd) ⟨v, h1, q v d O H hk (s.pin h2)⟩
theorem ev_int {i : Int} {j : Nat} (hk : k (.dat (.int i)) O) : EV X c (.Constant (.int i) j pos) G O k := fun σ H Q s q => wE_of pe_int (q _ _ O H hk (s.pin (Dp.int i)))
theorem ev_bool {i : Bool} {j : Nat} (hk : k (.dat (.bool i)) O) : EV X c (.Constant (.bool i) j pos) G O k := fun σ H Q s q => wE_of pe_bl (q _ _ O H hk (s.pin (Dp.bl i)))
theorem ev_none {j : Nat} (hk : k (.dat .none) O) : EV X c (.Constant .none j pos) G O k := fun σ H Q s q => wE_of pe_non (q _ _ O H hk (s.pin Dp.non))
theorem ev_str {i : Str} {j : Nat} (hk : k (.dat (.str i)) O) : EV X c (.Constant (.str i) j pos) G O k := fun σ H Q s q => wE_of pe_str (q _ _ O H hk (s.pin (Dp.str i)))
/-- a module's int or text -/
theorem ev_gint {x : Str} {i : Int} {t : Tok} (hm : X.mg x = some (.int i t)) (hk : k (.dat (.int i)) O) (hg : Gl X x := by rfl) (hd : (x == ("__debug__" : Str)) = false := by decide) : EV X c (.Name x pos) G O k := fun σ H Q s q =>
  wE_of (pe_glob (v := .int i) hg hm ⟨t, rfl⟩ hd) (q _ _ O H hk (s.pin (Dp.int i)))
theorem ev_gstr {x z : Str} {t : Tok} (hm : X.mg x = some (.str z t)) (hk : k (.dat (.str z)) O) (hg : Gl X x := by rfl) (hd : (x == ("__debug__" : Str)) = false := by decide) : EV X c (.Name x pos) G O k := fun σ H Q s q =>
  wE_of (pe_glob (v := .str z) hg hm ⟨t, rfl⟩ hd) (q _ _ O H hk (s.pin (Dp.str z)))
/-- a built-in class as a value -/
theorem ev_type {x : Str} {n : String} (hm : X.mg x = none) (hv : bootBuiltins x = some (.type n)) (hk : k (.val (.ty n)) O) (hg : Gl X x := by rfl) (hn : x ≠ "__name__" := by decide) (hd : (x == ("__debug__" : Str)) = false := by decide) : EV X c (.Name x pos) G O k := fun σ H Q s q =>
  wE_of (pe_bltn (v := .ty n) hg hm hv rfl hn hd) (q _ _ O H hk (s.pin rfl))
/-! operators -/
theorem ev_bin {op : Operator} (h : EV X c a G O fun d1 O1 => ∀ v1, EV X (c.pin v1 d1) b G O1 fun d2 O2 => OK2 X c (binaryOp op) d1 d2 O2 k) : EV X c (.BinOp a op b pos) G O k := fun σ H Q s q => by
  refine wE_of (pe_op op_w pe_w pe_w) (h σ H _ s fun v1 d1 O1 H1 k1 s1 => ?_)
  refine k1 v1 σ H1 _ s1 fun v2 d2 O2 H2 k2 s2 => ?_
  exact k2 G σ H2 v1 v2 Q s2 q
theorem ev_cmp {op : CmpOp} (h : EV X c a G O fun d1 O1 => ∀ v1, EV X (c.pin v1 d1) b G O1 fun d2 O2 => OK2 X c (compareOp op) d1 d2 O2 k) (hm : behindInMarks op b = false := by first | exact nomark _ | rfl) : EV X c (.Compare a [op] [b] pos) G O k := fun σ H Q s q => by
  refine wE_of (pe_cmpR op_w pe_w pe_w hm) (h σ H _ s fun v1 d1 O1 H1 k1 s1 => ?_)
  refine k1 v1 σ H1 _ s1 fun v2 d2 O2 H2 k2 s2 => ?_
  exact k2 G σ H2 v1 v2 Q s2 q
/-- what is told of a test's value -/
def BK (k : Bool → Oty → Prop) : SV → Oty → Prop := fun d O => ∃ t, d = .dat (.bool t) ∧ k t O
theorem bk {kb : Bool → Oty → Prop} {t : Bool} (h : kb t O) : BK kb (.dat (.bool t)) O := ⟨t, rfl, h⟩
variable {kb : Bool → Oty → Prop}
theorem tv_cmp {op : CmpOp} (h : EV X c a G O fun d1 O1 => ∀ v1, EV X (c.pin v1 d1) b G O1 fun d2 O2 => OK2 X c (compareOp op) d1 d2 O2 (BK kb)) (hm : behindInMarks op b = false := by first | exact nomark _ | rfl) : TV X c (.Compare a [op] [b] pos) G O kb := fun σ H Q s q => by
  refine wT_of (pt_cmpR op_w pe_w pe_w hm) (h σ H _ s fun v1 d1 O1 H1 k1 s1 => ?_)
  refine k1 v1 σ H1 _ s1 fun v2 d2 O2 H2 k2 s2 => ?_
  refine k2 G σ H2 v1 v2 _ s2 fun v d O' H' hk hs => ?_
  obtain ⟨t, rfl, hk⟩ := hk
  have e : v = .bl t := dp_bl hs.pinned
  exact ⟨t, e, q t O' H' hk hs.unpin⟩
theorem tv_val (h : EV X c e G O (BK kb)) (he : ∀ whole, isTrue e X.env whole = (do let v ← whole; standAt e.pos; holding [v] (truthy v)) := by intro _; rfl) : TV X c e G O kb := fun σ H Q s q => by
  refine wT_of (pt_val pe_w he) (h σ H _ s fun v d O' H' hk hs => ?_)
  obtain ⟨t, rfl, hk⟩ := hk
  have e : v = .bl t := dp_bl hs.pinned
  exact ⟨t, e, q t O' H' hk hs.unpin⟩
theorem tv_not (h : TV X c a G O fun t O' => kb (!t) O') : TV X c (.UnaryOp .Not a pos) G O kb := fun σ H Q s q =>
  wT_of (pt_not pt_w) (h σ H _ s fun b O' H' hk hs => q (!b) O' H' hk hs)
theorem tv_w (h : WV X c e G O kb) : TV X c e G O kb := fun σ H Q s q => fun pins s' I => h σ H Q s q _ pins s' I
theorem wv_and1 (h : TV X c a G O kb) : WV X c (.BoolOp .And [a] pos) G O kb := fun σ H Q s q => wW_of (pw_and1 pt_w) (h σ H Q s q)
theorem wv_or1 (h : TV X c a G O kb) : WV X c (.BoolOp .Or [a] pos) G O kb := fun σ H Q s q => wW_of (pw_or1 pt_w) (h σ H Q s q)
variable {rest : List Expr}
theorem wv_and (h : TV X c a G O fun t O1 => if t = true then WV X c (.BoolOp .And (b :: rest) pos) G O1 kb else kb false O1) : WV X c (.BoolOp .And (a :: b :: rest) pos) G O kb := fun σ H Q s q => by
  refine wW_of (pw_and pt_w pw_w) (h σ H _ s fun t O' H' hk hs => ?_)
  cases t with
  | true => exact hk σ H' Q hs q
  | false => exact q false O' H' hk hs
theorem wv_or (h : TV X c a G O fun t O1 => if t = true then kb true O1 else WV X c (.BoolOp .Or (b :: rest) pos) G O1 kb) : WV X c (.BoolOp .Or (a :: b :: rest) pos) G O kb := fun σ H Q s q => by
  refine wW_of (pw_or pt_w pw_w) (h σ H _ s fun t O' H' hk hs => ?_)
  cases t with
  | false => exact hk σ H' Q hs q
  | true => exact q true O' H' hk hs
/-- and, or, not as values (bools) -/
theorem ev_one {op : BoolOp} (h : EV X c a G O k) : EV X c (.BoolOp op [a] pos) G O k := fun σ H Q s q => wE_of (pe_one pe_w) (h σ H Q s q)
theorem ev_and (h : EV X c a G O (BK fun t O1 => if t = true then EV X c (.BoolOp .And (b :: rest) pos) G O1 k else k (.dat (.bool false)) O1)) : EV X c (.BoolOp .And (a :: b :: rest) pos) G O k := fun σ H Q s q => by
  refine wE_of (pe_and pe_w pe_w) (h σ H _ s fun v d O' H' hk hs => ?_)
  obtain ⟨t, rfl, hk⟩ := hk
  have e : v = .bl t := dp_bl hs.pinned
  refine ⟨t, e, ?_⟩
  cases t with
  | true => exact hk σ H' Q hs.unpin q
  | false => exact q _ _ O' H' hk (hs.unpin.pin (Dp.bl false))
theorem ev_or (h : EV X c a G O (BK fun t O1 => if t = true then k (.dat (.bool true)) O1 else EV X c (.BoolOp .Or (b :: rest) pos) G O1 k)) : EV X c (.BoolOp .Or (a :: b :: rest) pos) G O k := fun σ H Q s q => by
  refine wE_of (pe_or pe_w pe_w) (h σ H _ s fun v d O' H' hk hs => ?_)
  obtain ⟨t, rfl, hk⟩ := hk
  have e : v = .bl t := dp_bl hs.pinned
  refine ⟨t, e, ?_⟩
  cases t with
  | false => exact hk σ H' Q hs.unpin q
  | true => exact q _ _ O' H' hk (hs.unpin.pin (Dp.bl true))
theorem ev_not (h : EV X c a G O (BK fun t O1 => k (.dat (.bool (!t))) O1)) : EV X c (.UnaryOp .Not a pos) G O k := fun σ H Q s q => by
  refine wE_of (pe_not pe_w) (h σ H _ s fun v d O' H' hk hs => ?_)
  obtain ⟨t, rfl, hk⟩ := hk
  have e : v = .bl t := dp_bl hs.pinned
  exact ⟨t, e, q _ _ O' H' hk (hs.unpin.pin (Dp.bl (!t)))⟩
theorem ev_if {t : Expr} (h : TV X c t G O fun r O1 => if r = true then EV X c a G O1 k else EV X c b G O1 k) : EV X c (.IfExp t a b pos) G O k := fun σ H Q s q => by
  refine wE_of (pe_ifExp pt_w pe_w pe_w) (h σ H _ s fun r O' H' hk hs => ?_)
  cases r with
  | true => exact hk σ H' Q hs q
  | false => exact hk σ H' Q hs q
/-- a < b < e -/
theorem ev_chain {op op' : CmpOp} {e : Expr} (h : EV X c a G O fun d1 O1 => ∀ v1, EV X (c.pin v1 d1) b G O1 fun d2 O2 => ∀ v2, OK2 X (c.pin v2 d2) (compareOp op) d1 d2 O2 (BK fun t O3 => if t = true then EV X (c.pin v2 d2) e G O3 fun d3 O4 => OK2 X c (compareOp op') d2 d3 O4 k else k (.dat (.bool false)) O3))
    (hm : lastMarks [op, op'] [b, e] = false := by with_unfolding_all rfl) : EV X c (.Compare a [op, op'] [b, e] pos) G O k := fun σ H Q s q => by
  refine wE_of (pe_chain op_w op_w pe_w pe_w pe_w hm) (h σ H _ s fun v1 d1 O1 H1 k1 s1 => ?_)
  refine k1 v1 σ H1 _ s1 fun v2 d2 O2 H2 k2 s2 => ?_
  refine k2 v2 G σ H2 v1 v2 _ ?_ fun v d O' H' hk hs => ?_
  · exact ((s2.unpin.unpin.pin s2.pinned).pin s2.unpin.pinned).pin s2.pinned
  · obtain ⟨t, rfl, hk⟩ := hk
    have e : v = .bl t := dp_bl hs.pinned
    refine ⟨t, e, ?_⟩
    cases t with
    | true =>
      refine hk σ H' _ hs.unpin fun v3 d3 O3 H3 k3 s3 => ?_
      exact k3 G σ H3 v2 v3 Q s3 q
    | false => exact q _ _ O' H' hk (hs.unpin.unpin.pin (Dp.bl false))
theorem tv_chain {op op' : CmpOp} {e : Expr} (h : EV X c a G O fun d1 O1 => ∀ v1, EV X (c.pin v1 d1) b G O1 fun d2 O2 => ∀ v2, OK2 X (c.pin v2 d2) (compareOp op) d1 d2 O2 (BK fun t O3 => if t = true then EV X (c.pin v2 d2) e G O3 fun d3 O4 => OK2 X c (compareOp op') d2 d3 O4 (BK kb) else kb false O3))
    (hm : lastMarks [op, op'] [b, e] = false := by with_unfolding_all rfl) : TV X c (.Compare a [op, op'] [b, e] pos) G O kb := fun σ H Q s q => by
  refine wT_of (pt_chain op_w op_w pe_w pe_w pe_w hm) (h σ H _ s fun v1 d1 O1 H1 k1 s1 => ?_)
  refine k1 v1 σ H1 _ s1 fun v2 d2 O2 H2 k2 s2 => ?_
  refine k2 v2 G σ H2 v1 v2 _ ?_ fun v d O' H' hk hs => ?_
  · exact ((s2.unpin.unpin.pin s2.pinned).pin s2.unpin.pinned).pin s2.pinned
  · obtain ⟨t, rfl, hk⟩ := hk
    have e : v = .bl t := dp_bl hs.pinned
    refine ⟨t, e, ?_⟩
    cases t with
    | true =>
      refine hk σ H' _ hs.unpin fun v3 d3 O3 H3 k3 s3 => ?_
      refine k3 G σ H3 v2 v3 _ s3 fun v d O5 H5 hk hs => ?_
      obtain ⟨t, rfl, hk⟩ := hk
      have e : v = .bl t := dp_bl hs.pinned
      exact ⟨t, e, q t O5 H5 hk hs.unpin⟩
    | false => exact ⟨false, rfl, q _ O' H' hk hs.unpin.unpin⟩
/-! ### arguments, displays -/
variable {ka : List SV → Oty → Prop}
theorem ea_nil (hk : ka [] O) : EA X c [] G O ka := fun σ H Q s q => wA_of pa_nil (q [] [] O H hk s .nil)
theorem svs_of_pins {v : V} {d : SV} {vs : List V} {ds : List SV} {H : Hp} (s : S (c.pin v d) G O σ H) (h : SVs c.K (fz (mm c O) H) vs ds) : SVs c.K (fz (mm c O) H) (v :: vs) (d :: ds) := .cons s.pinned h
theorem ea_cons (h : EV X c e G O fun d O1 => ∀ v, EA X (c.pin v d) es G O1 fun ds O2 => ka (d :: ds) O2) (hs : starEach (e :: es) X.env = (false, eval e X.env) :: starEach es X.env := by rfl) : EA X c (e :: es) G O ka := fun σ H Q s q => by
  refine wA_of (pa_cons pe_w pa_w hs) (h σ H _ s fun v d O1 H1 k1 s1 => ?_)
  exact k1 v σ H1 _ s1 fun vs ds O2 H2 k2 s2 r2 => q (v :: vs) (d :: ds) O2 H2 k2 s2.unpin (.cons s2.pinned r2)
/-- all arguments are data -/
def DKs (k : List D → Oty → Prop) : List SV → Oty → Prop := fun ds O => ∃ xs, ds = xs.map SV.dat ∧ k xs O
theorem dpAll_svs {K : PySem.W.Frag} {F : Hp} : ∀ {xs : List D} {vs : List V}, SVs K F vs (xs.map SV.dat) → DpAll K F vs xs
  | [], _, h => by cases h; exact .nil
  | x :: xs, _, h => by
    cases h with
    | cons h1 h2 => exact .cons h1 (dpAll_svs h2)
theorem svs_dpAll {K : PySem.W.Frag} {F : Hp} : ∀ {xs : List D} {vs : List V}, DpAll K F vs xs → SVs K F vs (xs.map SV.dat)
  | [], _, h => by cases h; exact .nil
  | x :: xs, _, h => by
    cases h with
    | cons h1 h2 => exact .cons h1 (svs_dpAll h2)
theorem line_small {n : Nat} (h : n ≤ 100000) : n ≤ sizeLine := Nat.le_trans h (by decide)
theorem S.newD (s : S c G O σ H) {p : Addr} {vs : List V} {xs : List D} (h : H p = none) (r : DpAll c.K (fz (mm c O) H) vs xs) : S (c.pin (.ref p) (.dat (.tuple xs))) G O σ (upd H p (.tup vs)) := by
  refine (s.new h).pin ?_
  refine Dp.tup (xs := vs) (SqT.of ?_) (dpAll_ke (s.ke_new h) r)
  rw [fz_out (s.out h), upd_same]
theorem S.newL (s : S c G O σ H) {p : Addr} {vs : List V} {xs : List D} (h : H p = none) (r : DpAll c.K (fz (mm c O) H) vs xs) : S (c.pin (.ref p) (.dat (.list xs))) G O σ (upd H p (.lst vs)) := by
  refine (s.new h).pin ?_
  refine Dp.lst (xs := vs) (SqL.of ?_) (dpAll_ke (s.ke_new h) r)
  rw [fz_out (s.out h), upd_same]
theorem ev_tup {x1 : Nat} (h : EA X c es G O (DKs fun xs O' => xs.length ≤ 100000 ∧ k (.dat (.tuple xs)) O')) : EV X c (.Tuple es x1 pos) G O k := fun σ H Q s q => by
  refine wE_of (pe_tup pa_w) (h σ H _ s fun vs ds O1 H1 k1 s1 r1 => ?_)
  obtain ⟨xs, rfl, hl, hk⟩ := k1
  have r := dpAll_svs r1
  exact ⟨line_small (by rw [dpAll_length r]; exact hl), fun p hp => q _ _ O1 _ hk (s1.newD hp r)⟩
/-- a list that nobody changes -/
theorem ev_lst (h : EA X c es G O (DKs fun xs O' => xs.length ≤ 100000 ∧ k (.dat (.list xs)) O')) : EV X c (.List es pos) G O k := fun σ H Q s q => by
  refine wE_of (pe_lst pa_w) (h σ H _ s fun vs ds O1 H1 k1 s1 r1 => ?_)
  obtain ⟨xs, rfl, hl, hk⟩ := k1
  have r := dpAll_svs r1
  exact ⟨line_small (by rw [dpAll_length r]; exact hl), fun p hp => q _ _ O1 _ hk (s1.newL hp r)⟩
/-- a list of one's own -/
theorem ev_lstO (h : EA X c es G O (DKs fun xs O' => xs.length ≤ 100000 ∧ ∀ p, k (.val (.ref p)) (O' ++ [(p, .lst xs)]))) : EV X c (.List es pos) G O k := fun σ H Q s q => by
  refine wE_of (pe_lst pa_w) (h σ H _ s fun vs ds O1 H1 k1 s1 r1 => ?_)
  obtain ⟨xs, rfl, hl, hk⟩ := k1
  have r := dpAll_svs r1
  exact ⟨line_small (by rw [dpAll_length r]; exact hl), fun p hp => q _ _ _ _ (hk p) ((s1.add (w := .lst xs) hp ⟨vs, rfl, r⟩).pin rfl)⟩
end
/-! ### calls of built-ins -/
section
variable (X : Cx) (c : Cc)
def wC (f : Value) : List V → Hp → VK → Prop := fun vs H Q => ∀ (pins : List (Addr × Obj)) (s : Shared) (σ : L2.St) (us : List Value), Inv X pins σ H s → Vals vs us → wpAny (model X.prog X.w) X.A (call f us) (EP X pins σ Q) X.xe s
/-- a call of a built-in on told values -/
def OKC (f : Value) (ds : List SV) (O : Oty) (k : SV → Oty → Prop) : Prop :=
  ∀ (G : Gty) (σ : L2.St) (H : Hp) (vs : List V) (Q : VK), S c G O σ H → SVs c.K (fz (mm c O) H) vs ds → (∀ v d O' H', k d O' → S (c.pin v d) G O' σ H' → Q v H') → wC X f vs H Q
end
section
variable {X : Cx} {c : Cc} {G : Gty} {O : Oty} {e a b : Expr} {es : List Expr} {pos p : Pos} {k : SV → Oty → Prop} {x : Str} {id T : String}
theorem cr_w {f : Value} : CallR X f (wC X f) := fun pins s σ _ _ us _ I r h => h pins s σ us I r
theorem wC_of {f : Value} {r : List V → Hp → VK → Prop} (h : CallR X f r) {vs : List V} {H : Hp} {Q : VK} (q : r vs H Q) : wC X f vs H Q := fun pins s σ us I rv => h pins s σ H vs us Q I rv q
theorem ev_callB (hm : X.mg x = none) (hv : bootBuiltins x = some (.builtin id)) (h : EA X c (e :: es) G O fun ds O' => OKC X c (.builtin id) ds O' k) (hg : Gl X x := by rfl) (hn : x ≠ "__name__" := by decide) (hdb : (x == ("__debug__" : Str)) = false := by decide)
    (he : starEach (e :: es) X.env = (false, eval e X.env) :: starEach es X.env := by rfl) (hpl : (backTo pos (starEach es X.env)).any (·.1) = false := by rfl) : EV X c (.Call (.Name x p) (e :: es) [] pos) G O k := fun σ H Q s q => by
  refine wE_of (pe_callB cr_w hg hm hv pa_w hn hdb he hpl) (h σ H _ s fun vs ds O1 H1 k1 s1 r1 => ?_)
  exact k1 G σ H1 vs Q s1 r1 q
theorem ev_callT (hm : X.mg x = none) (hv : bootBuiltins x = some (.type T)) (h : EA X c (e :: es) G O fun ds O' => OKC X c (.type T) ds O' k) (hg : Gl X x := by rfl) (hn : x ≠ "__name__" := by decide) (hdb : (x == ("__debug__" : Str)) = false := by decide)
    (he : starEach (e :: es) X.env = (false, eval e X.env) :: starEach es X.env := by rfl) (hpl : (backTo pos (starEach es X.env)).any (·.1) = false := by rfl) : EV X c (.Call (.Name x p) (e :: es) [] pos) G O k := fun σ H Q s q => by
  refine wE_of (pe_callTy cr_w hg hm hv pa_w hn hdb he hpl) (h σ H _ s fun vs ds O1 H1 k1 s1 r1 => ?_)
  exact k1 G σ H1 vs Q s1 r1 q
end
end OR

set_option Elab.async false
set_option linter.all false
set_option maxRecDepth 100000
set_option maxHeartbeats 2000000
namespace OR
open PySem PySem.Spec PyProof.Rows L2
section
variable {X : Cx} {c : Cc} {G : Gty} {O : Oty} {k : SV → Oty → Prop} {i j : Int} {d e : D}
theorem ok2_of {f : Value → Value → Sem Value} {r : R2} {d1 d2 : SV} (ho : OpR X f r) (h : ∀ (G : Gty) (σ : L2.St) (H : Hp) (v1 v2 : V) (Q : VK), S ((c.pin v1 d1).pin v2 d2) G O σ H → (∀ v d O' H', k d O' → S (c.pin v d) G O' σ H' → Q v H') → r v1 v2 H Q) :
    OK2 X c f d1 d2 O k := fun G σ H v1 v2 Q s q => wO_of ho (h G σ H v1 v2 Q s q)
theorem ok2_ii {f : Value → Value → Sem Value} {g : Int → Int → Int} (ho : OpR X f (rI0 fun i j => .int (g i j))) (hk : k (.dat (.int (g i j))) O) : OK2 X c f (.dat (.int i)) (.dat (.int j)) O k :=
  ok2_of ho fun G σ H v1 v2 Q s q => ⟨i, j, dp_int s.unpin.pinned, dp_int s.pinned, q _ _ O H hk (s.unpin.unpin.pin (Dp.int _))⟩
theorem ok2_ib {f : Value → Value → Sem Value} {g : Int → Int → Bool} (ho : OpR X f (rI0 fun i j => .bl (g i j))) (hk : k (.dat (.bool (g i j))) O) : OK2 X c f (.dat (.int i)) (.dat (.int j)) O k :=
  ok2_of ho fun G σ H v1 v2 Q s q => ⟨i, j, dp_int s.unpin.pinned, dp_int s.pinned, q _ _ O H hk (s.unpin.unpin.pin (Dp.bl _))⟩
theorem ok2_ic {f : Value → Value → Sem Value} {C : Int → Int → Prop} {g : Int → Int → Int} (ho : OpR X f (rI C fun i j => .int (g i j))) (hc : C i j) (hk : k (.dat (.int (g i j))) O) : OK2 X c f (.dat (.int i)) (.dat (.int j)) O k :=
  ok2_of ho fun G σ H v1 v2 Q s q => ⟨i, j, dp_int s.unpin.pinned, dp_int s.pinned, hc, q _ _ O H hk (s.unpin.unpin.pin (Dp.int _))⟩
theorem ok_add (hk : k (.dat (.int (i + j))) O) : OK2 X c (binaryOp .Add) (.dat (.int i)) (.dat (.int j)) O k := ok2_ii op_add hk
theorem ok_sub (hk : k (.dat (.int (i - j))) O) : OK2 X c (binaryOp .Sub) (.dat (.int i)) (.dat (.int j)) O k := ok2_ii op_sub hk
theorem ok_mul (hk : k (.dat (.int (i * j))) O) (h : CMul i j) : OK2 X c (binaryOp .Mult) (.dat (.int i)) (.dat (.int j)) O k := ok2_ic op_mul h hk
theorem ok_fdiv (hk : k (.dat (.int (i / j))) O) (h : 0 < j ∧ j < 1073741824) : OK2 X c (binaryOp .FloorDiv) (.dat (.int i)) (.dat (.int j)) O k := ok2_ic op_fdiv h hk
theorem ok_mod (hk : k (.dat (.int (i % j))) O) (h : 0 < j) : OK2 X c (binaryOp .Mod) (.dat (.int i)) (.dat (.int j)) O k := ok2_ic op_mod h hk
theorem ok_pow (hk : k (.dat (.int (i ^ j.toNat))) O) (h : CPow i j) : OK2 X c (binaryOp .Pow) (.dat (.int i)) (.dat (.int j)) O k := ok2_ic op_pow h hk
theorem ok_lt (hk : k (.dat (.bool (decide (i < j)))) O) : OK2 X c (compareOp .Lt) (.dat (.int i)) (.dat (.int j)) O k := ok2_ib op_lt hk
theorem ok_le (hk : k (.dat (.bool (decide (i ≤ j)))) O) : OK2 X c (compareOp .LtE) (.dat (.int i)) (.dat (.int j)) O k := ok2_ib op_le hk
theorem ok_gt (hk : k (.dat (.bool (decide (j < i)))) O) : OK2 X c (compareOp .Gt) (.dat (.int i)) (.dat (.int j)) O k := ok2_ib op_gt hk
theorem ok_ge (hk : k (.dat (.bool (decide (j ≤ i)))) O) : OK2 X c (compareOp .GtE) (.dat (.int i)) (.dat (.int j)) O k := ok2_ib op_ge hk
/-! == and != of data -/
theorem fz_ke {M : List Addr} {H : Hp} : Ke (fz M H) H := fun b o _ e _ => (fz_some e).2
mutual
theorem dp_plain {K : PySem.W.Frag} {H : Hp} : ∀ {d : PyData} {v : V}, Dp K H v d → d.plain = true
  | _, _, .non => rfl
  | _, _, .bl _ => rfl
  | _, _, .int _ => rfl
  | _, _, .str _ => rfl
  | _, _, .lst _ a => by
    show PyData.plainAll _ = true
    exact dpAll_plain a
  | _, _, .tup _ a => by
    show PyData.plainAll _ = true
    exact dpAll_plain a
theorem dpAll_plain {K : PySem.W.Frag} {H : Hp} : ∀ {d : List PyData} {v : List V}, DpAll K H v d → PyData.plainAll d = true
  | _, _, .nil => rfl
  | _, _, .cons h a => by
    show (PyData.plain _ && PyData.plainAll _) = true
    rw [dp_plain h, dpAll_plain a]
    rfl
end
/-- so deep at most -/
def Flat (d : D) : Prop := d.depth ≤ 60
theorem ok_eq (hk : k (.dat (.bool (PyData.eqv d e))) O) (hu : X.A.units + 64 < cLine) (hd : Flat d ∨ Flat e) (hK : X.K = c.K) : OK2 X c (compareOp .Eq) (.dat d) (.dat e) O k := fun G σ H v1 v2 Q s q pins s' σ' v u I r1 r2 => by
  have h1 : Dp X.K H v1 d := hK ▸ dp_ke fz_ke s.unpin.pinned
  have h2 : Dp X.K H v2 e := hK ▸ dp_ke fz_ke s.pinned
  obtain ⟨as, a1⟩ := Dp.reads I d v1 v h1 r1
  obtain ⟨bs, a2⟩ := Dp.reads I e v2 u h2 r2
  refine PySem.SeqAt.eq_plain a1 a2 (dp_plain h1) (dp_plain h2) ?_ ⟨.bl _, H, I, rfl, q _ _ O H hk (s.unpin.unpin.pin (Dp.bl _))⟩
  unfold Flat at hd
  omega
theorem ok_ne (hk : k (.dat (.bool (!PyData.eqv d e))) O) (hu : X.A.units + 64 < cLine) (hd : Flat d ∨ Flat e) (hK : X.K = c.K) : OK2 X c (compareOp .NotEq) (.dat d) (.dat e) O k := fun G σ H v1 v2 Q s q pins s' σ' v u I r1 r2 => by
  have h1 : Dp X.K H v1 d := hK ▸ dp_ke fz_ke s.unpin.pinned
  have h2 : Dp X.K H v2 e := hK ▸ dp_ke fz_ke s.pinned
  obtain ⟨as, a1⟩ := Dp.reads I d v1 v h1 r1
  obtain ⟨bs, a2⟩ := Dp.reads I e v2 u h2 r2
  refine PySem.SeqAt.ne_plain a1 a2 (dp_plain h1) (dp_plain h2) ?_ ⟨.bl _, H, I, rfl, q _ _ O H hk (s.unpin.unpin.pin (Dp.bl _))⟩
  unfold Flat at hd
  omega
variable {xs : List D}
theorem ok_inL (hk : k (.dat (.bool (xs.any fun y => PyData.eqv y d))) O) (hu : X.A.units + 64 < cLine) (hd : Flat d) (hK : X.K = c.K) : OK2 X c (compareOp .In) (.dat d) (.dat (.list xs)) O k := fun G σ H v1 v2 Q s q pins s' σ' v u I r1 r2 => by
  have h1 : Dp X.K H v1 d := hK ▸ dp_ke fz_ke s.unpin.pinned
  have h2 : Dp X.K H v2 (.list xs) := hK ▸ dp_ke fz_ke s.pinned
  obtain ⟨as, a1⟩ := Dp.reads I d v1 v h1 r1
  obtain ⟨bs, a2⟩ := Dp.reads I _ v2 u h2 r2
  refine PySem.SeqAt.in_list_data a2 a1 (dp_plain h2) (dp_plain h1) ?_ ⟨.bl _, H, I, rfl, q _ _ O H hk (s.unpin.unpin.pin (Dp.bl _))⟩
  unfold Flat at hd
  omega
theorem ok_inT (hk : k (.dat (.bool (xs.any fun y => PyData.eqv y d))) O) (hu : X.A.units + 64 < cLine) (hd : Flat d) (hK : X.K = c.K) : OK2 X c (compareOp .In) (.dat d) (.dat (.tuple xs)) O k := fun G σ H v1 v2 Q s q pins s' σ' v u I r1 r2 => by
  have h1 : Dp X.K H v1 d := hK ▸ dp_ke fz_ke s.unpin.pinned
  have h2 : Dp X.K H v2 (.tuple xs) := hK ▸ dp_ke fz_ke s.pinned
  obtain ⟨as, a1⟩ := Dp.reads I d v1 v h1 r1
  obtain ⟨bs, a2⟩ := Dp.reads I _ v2 u h2 r2
  refine PySem.SeqAt.in_tuple_data a2 a1 (dp_plain h2) (dp_plain h1) ?_ ⟨.bl _, H, I, rfl, q _ _ O H hk (s.unpin.unpin.pin (Dp.bl _))⟩
  unfold Flat at hd
  omega
theorem ok_niL (hk : k (.dat (.bool (!xs.any fun y => PyData.eqv y d))) O) (hu : X.A.units + 64 < cLine) (hd : Flat d) (hK : X.K = c.K) : OK2 X c (compareOp .NotIn) (.dat d) (.dat (.list xs)) O k := fun G σ H v1 v2 Q s q pins s' σ' v u I r1 r2 => by
  have h1 : Dp X.K H v1 d := hK ▸ dp_ke fz_ke s.unpin.pinned
  have h2 : Dp X.K H v2 (.list xs) := hK ▸ dp_ke fz_ke s.pinned
  obtain ⟨as, a1⟩ := Dp.reads I d v1 v h1 r1
  obtain ⟨bs, a2⟩ := Dp.reads I _ v2 u h2 r2
  refine PySem.SeqAt.notIn_list_data a2 a1 (dp_plain h2) (dp_plain h1) ?_ ⟨.bl _, H, I, rfl, q _ _ O H hk (s.unpin.unpin.pin (Dp.bl _))⟩
  unfold Flat at hd
  omega
theorem ok_niT (hk : k (.dat (.bool (!xs.any fun y => PyData.eqv y d))) O) (hu : X.A.units + 64 < cLine) (hd : Flat d) (hK : X.K = c.K) : OK2 X c (compareOp .NotIn) (.dat d) (.dat (.tuple xs)) O k := fun G σ H v1 v2 Q s q pins s' σ' v u I r1 r2 => by
  have h1 : Dp X.K H v1 d := hK ▸ dp_ke fz_ke s.unpin.pinned
  have h2 : Dp X.K H v2 (.tuple xs) := hK ▸ dp_ke fz_ke s.pinned
  obtain ⟨as, a1⟩ := Dp.reads I d v1 v h1 r1
  obtain ⟨bs, a2⟩ := Dp.reads I _ v2 u h2 r2
  refine PySem.SeqAt.notIn_tuple_data a2 a1 (dp_plain h2) (dp_plain h1) ?_ ⟨.bl _, H, I, rfl, q _ _ O H hk (s.unpin.unpin.pin (Dp.bl _))⟩
  unfold Flat at hd
  omega
/-! is None -/
def isNone : D → Bool
  | .none => true
  | _ => false
theorem dp_non_iff {K : PySem.W.Frag} {H : Hp} {v : V} (h : Dp K H v d) : decide (v = .non) = isNone d := by
  cases h <;> simp [isNone]
theorem ok_is (hk : k (.dat (.bool (isNone d))) O) : OK2 X c (compareOp .Is) (.dat d) (.dat .none) O k :=
  ok2_of op_isN fun G σ H v1 v2 Q s q => ⟨dp_non s.pinned, by rw [dp_non_iff s.unpin.pinned]; exact q _ _ O H hk (s.unpin.unpin.pin (Dp.bl _))⟩
theorem ok_isnot (hk : k (.dat (.bool (!isNone d))) O) : OK2 X c (compareOp .IsNot) (.dat d) (.dat .none) O k :=
  ok2_of op_notN fun G σ H v1 v2 Q s q => ⟨dp_non s.pinned, by rw [dp_non_iff s.unpin.pinned]; exact q _ _ O H hk (s.unpin.unpin.pin (Dp.bl _))⟩
/-! texts, tuples, lists -/
theorem ok_adds {x y : Str} (hk : k (.dat (.str (x ++ y))) O) (hl : x.length + y.length ≤ 100000) : OK2 X c (binaryOp .Add) (.dat (.str x)) (.dat (.str y)) O k :=
  ok2_of op_add_str fun G σ H v1 v2 Q s q => ⟨x, y, dp_str s.unpin.pinned, dp_str s.pinned, line_small hl, q _ _ O H hk (s.unpin.unpin.pin (Dp.str _))⟩
variable {ys : List D}
theorem ok_catT (hk : k (.dat (.tuple (xs ++ ys))) O) (hl : xs.length + ys.length ≤ 100000) (hK : X.K = c.K) : OK2 X c (binaryOp .Add) (.dat (.tuple xs)) (.dat (.tuple ys)) O k :=
  ok2_of op_catA fun G σ H v1 v2 Q s q => by
    obtain ⟨a, us, rfl, ha, da⟩ := dp_tup s.unpin.pinned
    obtain ⟨b, ws, rfl, hb, db⟩ := dp_tup s.pinned
    have la := dpAll_length da
    have lb := dpAll_length db
    refine ⟨a, b, us, ws, rfl, rfl, hK ▸ sqT_ke fz_ke ha, hK ▸ sqT_ke fz_ke hb, line_small (by omega), fun e => ?_, fun _ e => ?_, fun _ _ p hp => ?_⟩
    · subst e
      cases da
      exact q _ _ O H hk (s.unpin.unpin.pin (Dp.tup hb db))
    · subst e
      cases db
      rw [List.append_nil] at hk
      exact q _ _ O H hk (s.unpin.unpin.pin (Dp.tup ha da))
    · exact q _ _ O _ hk (s.unpin.unpin.newD hp (dpAll_append da db))
end
end OR

set_option Elab.async false
set_option linter.all false
set_option maxRecDepth 100000
set_option maxHeartbeats 2000000
namespace OR
open PySem PySem.Spec PyProof.Rows L2
/-! ### subscripts -/
def RK (c : Cc) (r : R2) (d1 d2 : SV) (O : Oty) (k : SV → Oty → Prop) : Prop :=
  ∀ (G : Gty) (σ : L2.St) (H : Hp) (v1 v2 : V) (Q : VK), S ((c.pin v1 d1).pin v2 d2) G O σ H → (∀ v d O' H', k d O' → S (c.pin v d) G O' σ H' → Q v H') → r v1 v2 H Q
theorem dpAll_atI {K : PySem.W.Frag} {F : Hp} {vs : List V} {ds : List D} {i : Int} {d : D} (h : DpAll K F vs ds) (e : atI ds i = some d) : ∃ v, atI vs i = some v ∧ Dp K F v d := by
  unfold atI at e ⊢
  rw [dpAll_length h]
  cases q : ixN ds.length i with
  | none => rw [q] at e; cases e
  | some j =>
    rw [q] at e
    obtain ⟨v, h1, h2⟩ := dpAll_get h (show ds[j]? = some d from e)
    exact ⟨v, h1, h2⟩
theorem atI_of {α : Type} {xs : List α} {i : Int} {v : α} (h0 : 0 ≤ i) (h : xs[i.toNat]? = some v) : atI xs i = some v := by
  obtain ⟨n, rfl⟩ := Int.eq_ofNat_of_zero_le h0
  exact atI_nat h
section
variable {X : Cx} {c : Cc} {G : Gty} {O : Oty} {e a b o : Expr} {es : List Expr} {pos : Pos} {k : SV → Oty → Prop} {i j : Int} {d : D} {xs ys : List D}
theorem ev_ix (h : EV X c a G O fun d1 O1 => ∀ v1, EV X (c.pin v1 d1) b G O1 fun d2 O2 => RK c (rIx X.K) d1 d2 O2 k) (hs : PlainIx b := by intro _ _; rfl) : EV X c (.Subscript a b pos) G O k := fun σ H Q s q => by
  refine wE_of (pe_ix ix_seq pe_w pe_w hs) (h σ H _ s fun v1 d1 O1 H1 k1 s1 => ?_)
  refine k1 v1 σ H1 _ s1 fun v2 d2 O2 H2 k2 s2 => ?_
  exact k2 G σ H2 v1 v2 Q s2 q
theorem ix_T {K : PySem.W.Frag} (ha : atI xs i = some d) (hk : k (.dat d) O) (hK : K = c.K := by rfl) : RK c (rIx K) (.dat (.tuple xs)) (.dat (.int i)) O k := fun G σ H v1 v2 Q s q => by
  obtain ⟨p, us, rfl, hp, hd⟩ := dp_tup s.unpin.pinned
  obtain ⟨v, h1, h2⟩ := dpAll_atI hd ha
  exact .inr (.inl ⟨p, us, i, v, rfl, dp_int s.pinned, hK ▸ sqT_ke fz_ke hp, h1, q _ _ O H hk (s.unpin.unpin.pin h2)⟩)
theorem ix_L {K : PySem.W.Frag} (ha : atI xs i = some d) (hk : k (.dat d) O) (hK : K = c.K := by rfl) : RK c (rIx K) (.dat (.list xs)) (.dat (.int i)) O k := fun G σ H v1 v2 Q s q => by
  obtain ⟨p, us, rfl, hp, hd⟩ := dp_lst s.unpin.pinned
  obtain ⟨v, h1, h2⟩ := dpAll_atI hd ha
  exact .inl ⟨p, us, i, v, rfl, dp_int s.pinned, hK ▸ sqL_ke fz_ke hp, h1, q _ _ O H hk (s.unpin.unpin.pin h2)⟩
theorem ix_S {K : PySem.W.Frag} {z : Str} {u : Nat} (ha : atI z.cps.toList i = some u) (hk : k (.dat (.str ⟨#[u]⟩)) O) (hl : z.length ≤ 100000) : RK c (rIx K) (.dat (.str z)) (.dat (.int i)) O k := fun G σ H v1 v2 Q s q =>
  .inr (.inr ⟨z, i, u, dp_str s.unpin.pinned, dp_int s.pinned, line_small hl, ha, q _ _ O H hk (s.unpin.unpin.pin (Dp.str _))⟩)
/-- of a list of one's own -/
theorem ix_O {K : PySem.W.Frag} {n : Nat} {p : Addr} (hO : O[n]? = some (p, .lst xs)) (ha : atI xs i = some d) (hk : k (.dat d) O) (hK : K = c.K := by rfl) : RK c (rIx K) (.val (.ref p)) (.dat (.int i)) O k := fun G σ H v1 v2 Q s q => by
  obtain ⟨w, h0, us, rfl, hd⟩ := s.unpin.unpin.ow _ (List.mem_of_getElem? hO)
  obtain ⟨v, h1, h2⟩ := dpAll_atI hd ha
  exact .inl ⟨p, us, i, v, s.unpin.pinned, dp_int s.pinned, SqL.of h0, h1, q _ _ O H hk (s.unpin.unpin.pin h2)⟩
/-! ### methods of built-ins -/
def TyD (c : Cc) (T : String) (d : SV) (O : Oty) : Prop := ∀ (G : Gty) (σ : L2.St) (H : Hp) (v : V), S (c.pin v d) G O σ H → tyV c.K T v H
def MK (c : Cc) (r : V → List V → Hp → VK → Prop) (d : SV) (ds : List SV) (O : Oty) (k : SV → Oty → Prop) : Prop :=
  ∀ (G : Gty) (σ : L2.St) (H : Hp) (v : V) (vs : List V) (Q : VK), S (c.pin v d) G O σ H → SVs c.K (fz (mm c O) H) vs ds → (∀ v d O' H', k d O' → S (c.pin v d) G O' σ H' → Q v H') → r v vs H Q
theorem tyD_str {z : Str} : TyD c "str" (.dat (.str z)) O := fun G σ H v s => by
  have e := dp_str s.pinned
  rw [e]
  exact rfl
theorem tyD_own {n : Nat} {p : Addr} (hO : O[n]? = some (p, .lst xs)) : TyD c "list" (.val (.ref p)) O := fun G σ H v s => by
  have e : v = .ref p := s.pinned
  rw [e]
  obtain ⟨w, h0, us, rfl, hd⟩ := s.unpin.ow _ (List.mem_of_getElem? hO)
  exact .inl ⟨rfl, us, SqL.of h0⟩
theorem tyD_list : TyD c "list" (.dat (.list xs)) O := fun G σ H v s => by
  obtain ⟨p, us, rfl, hp, hd⟩ := dp_lst s.pinned
  exact .inl ⟨rfl, us, sqL_ke fz_ke hp⟩
variable {name : Str} {apos : Pos} {T id : String} {r : V → List V → Hp → VK → Prop}
theorem ev_m (pa : PlainAttrs T) (slot : Slot T name id) (hty : typeOf (.builtin id) = pure (.type "method_descriptor")) (hm : MtR X id r)
    (h : EV X c o G O fun d1 O1 => TyD c T d1 O1 ∧ ∀ v1, EA X (c.pin v1 d1) (e :: es) G O1 fun ds O2 => MK c r d1 ds O2 k) (hK : X.K = c.K := by rfl)
    (hbase : attributeBase o name X.env (eval o X.env) = eval o X.env := by rfl)
    (hfew : ((backTo pos (starEach (e :: es) X.env)).all (fun x => !x.1) && (backToKw pos (keywordEach [] X.env)).all (fun x => x.1.isSome)
      && decide ((e :: es).length + ([] : List Keyword).length + (if ([] : List Keyword).isEmpty then 0 else 1) < 30)) = true := by rfl)
    (hline : (apos.endLine == pos.line) = true := by rfl) (hs : starEach (e :: es) X.env = (false, eval e X.env) :: starEach es X.env := by rfl) (hplain : (backTo pos (starEach es X.env)).any (·.1) = false := by rfl) :
    EV X c (.Call (.Attribute o name apos) (e :: es) [] pos) G O k := fun σ H Q s q => by
  refine wE_of (pe_bm pa slot hty hm pe_w pa_w hbase hfew hline hs hplain) (h σ H _ s fun v1 d1 O1 H1 k1 s1 => ⟨hK ▸ k1.1 G σ H1 v1 s1, ?_⟩)
  refine k1.2 v1 σ H1 _ s1 fun vs ds O2 H2 k2 s2 r2 => ?_
  exact k2 G σ H2 v1 vs Q s2 r2 q
theorem ev_m0 (pa : PlainAttrs T) (slot : Slot T name id) (hty : typeOf (.builtin id) = pure (.type "method_descriptor")) (hm : MtR X id r)
    (h : EV X c o G O fun d1 O1 => TyD c T d1 O1 ∧ MK c r d1 [] O1 k) (hK : X.K = c.K := by rfl)
    (hbase : attributeBase o name X.env (eval o X.env) = eval o X.env := by rfl) (hline : (apos.endLine == pos.line) = true := by rfl) :
    EV X c (.Call (.Attribute o name apos) [] [] pos) G O k := fun σ H Q s q => by
  refine wE_of (pe_bm0 pa slot hty hm pe_w hbase hline) (h σ H _ s fun v1 d1 O1 H1 k1 s1 => ⟨hK ▸ k1.1 G σ H1 v1 s1, ?_⟩)
  exact k1.2 G σ H1 v1 [] Q s1 .nil q
theorem mk_append {n : Nat} {p : Addr} (hO : O[n]? = some (p, .lst xs)) (hl : xs.length ≤ 100000) (hk : k (.dat .none) (O.set n (p, .lst (xs ++ [d])))) : MK c rAppend (.val (.ref p)) [.dat d] O k := fun G σ H v vs Q s rv q => by
  obtain ⟨w, h0, us, rfl, hd⟩ := s.unpin.ow _ (List.mem_of_getElem? hO)
  cases rv with
  | cons r1 r2 =>
    cases r2
    have e : v = .ref p := s.pinned
    have s1 := s.unpin.write (w' := .lst (xs ++ [d])) (o' := .lst (us ++ [_])) hO ⟨_, rfl, dpAll_append hd (.cons r1 .nil)⟩
    exact ⟨p, us, _, e, rfl, h0, Nat.lt_of_le_of_lt (by rw [dpAll_length hd]; exact hl) (by decide), q _ _ _ _ hk (s1.pin Dp.non)⟩
/-- a new list hung behind -/
theorem mk_extend {n m : Nat} {p p2 : Addr} (hO : O[n]? = some (p, .lst xs)) (hO2 : O[m]? = some (p2, .lst ys)) (hl : xs.length + ys.length ≤ 100000) (hk : k (.dat .none) (O.set n (p, .lst (xs ++ ys)))) : MK c rExtend (.val (.ref p)) [.val (.ref p2)] O k := fun G σ H v vs Q s rv q => by
  obtain ⟨w, h0, us, rfl, hd⟩ := s.unpin.ow _ (List.mem_of_getElem? hO)
  obtain ⟨w2, h02, us2, rfl, hd2⟩ := s.unpin.ow _ (List.mem_of_getElem? hO2)
  cases rv with
  | cons r1 r2 =>
    cases r2
    have e : v = .ref p := s.pinned
    cases (show _ = V.ref p2 from r1)
    have s1 := s.unpin.write (w' := .lst (xs ++ ys)) (o' := .lst (us ++ us2)) hO ⟨_, rfl, dpAll_append hd hd2⟩
    exact ⟨p, p2, us, us2, e, rfl, h0, h02, line_small (by rw [dpAll_length hd, dpAll_length hd2]; exact hl), q _ _ _ _ hk (s1.pin Dp.non)⟩
/-! ### built-in functions -/
theorem okc_of {f : Value} {r : List V → Hp → VK → Prop} {ds : List SV} (hc : CallR X f r) (h : ∀ (G : Gty) (σ : L2.St) (H : Hp) (vs : List V) (Q : VK), S c G O σ H → SVs c.K (fz (mm c O) H) vs ds → (∀ v d O' H', k d O' → S (c.pin v d) G O' σ H' → Q v H') → r vs H Q) : OKC X c f ds O k :=
  fun G σ H vs Q s rv q => wC_of hc (h G σ H vs Q s rv q)
theorem svs1 {K : PySem.W.Frag} {F : Hp} {vs : List V} {d : SV} (h : SVs K F vs [d]) : ∃ v, vs = [v] ∧ SVr K F v d := by
  cases h with
  | cons r1 r2 => cases r2; exact ⟨_, rfl, r1⟩
theorem svs2 {K : PySem.W.Frag} {F : Hp} {vs : List V} {d e : SV} (h : SVs K F vs [d, e]) : ∃ v w, vs = [v, w] ∧ SVr K F v d ∧ SVr K F w e := by
  cases h with
  | cons r1 r2 =>
    cases r2 with
    | cons r2 r3 => cases r3; exact ⟨_, _, rfl, r1, r2⟩
theorem len_L (hk : k (.dat (.int xs.length)) O) (hK : X.K = c.K := by rfl) : OKC X c (.builtin "len") [.dat (.list xs)] O k := okc_of call_len_seq fun G σ H vs Q s rv q => by
  obtain ⟨v, rfl, r⟩ := svs1 rv
  obtain ⟨p, us, rfl, hp, hd⟩ := dp_lst r
  have e := dpAll_length hd
  exact ⟨p, us, rfl, .inl (hK ▸ sqL_ke fz_ke hp), q _ _ O H hk (s.pin (by rw [e]; exact Dp.int _))⟩
theorem len_T (hk : k (.dat (.int xs.length)) O) (hK : X.K = c.K := by rfl) : OKC X c (.builtin "len") [.dat (.tuple xs)] O k := okc_of call_len_seq fun G σ H vs Q s rv q => by
  obtain ⟨v, rfl, r⟩ := svs1 rv
  obtain ⟨p, us, rfl, hp, hd⟩ := dp_tup r
  have e := dpAll_length hd
  exact ⟨p, us, rfl, .inr (hK ▸ sqT_ke fz_ke hp), q _ _ O H hk (s.pin (by rw [e]; exact Dp.int _))⟩
theorem len_O {n : Nat} {p : Addr} (hO : O[n]? = some (p, .lst xs)) (hk : k (.dat (.int xs.length)) O) : OKC X c (.builtin "len") [.val (.ref p)] O k := okc_of call_len_seq fun G σ H vs Q s rv q => by
  obtain ⟨v, rfl, r⟩ := svs1 rv
  cases (show v = .ref p from r)
  obtain ⟨w, h0, us, rfl, hd⟩ := s.ow _ (List.mem_of_getElem? hO)
  have e := dpAll_length hd
  exact ⟨p, us, rfl, .inl (SqL.of h0), q _ _ O H hk (s.pin (by rw [e]; exact Dp.int _))⟩
theorem len_S {z : Str} (hk : k (.dat (.int z.length)) O) (hl : z.length ≤ 100000) : OKC X c (.builtin "len") [.dat (.str z)] O k := okc_of call_len_str fun G σ H vs Q s rv q => by
  obtain ⟨v, rfl, r⟩ := svs1 rv
  exact ⟨z, by rw [dp_str r], line_small hl, q _ _ O H hk (s.pin (Dp.int _))⟩
theorem okc_abs (hk : k (.dat (.int (if i < 0 then -i else i))) O) : OKC X c (.builtin "abs") [.dat (.int i)] O k := okc_of call_abs fun G σ H vs Q s rv q => by
  obtain ⟨v, rfl, r⟩ := svs1 rv
  exact ⟨i, by rw [dp_int r], q _ _ O H hk (s.pin (Dp.int _))⟩
theorem okc_max2 (hc : X.calm = true) (hk : k (.dat (.int (if j > i then j else i))) O) : OKC X c (.builtin "max") [.dat (.int i), .dat (.int j)] O k := okc_of (call_max2 hc) fun G σ H vs Q s rv q => by
  obtain ⟨v, w, rfl, r1, r2⟩ := svs2 rv
  exact ⟨i, j, by rw [dp_int r1, dp_int r2], q _ _ O H hk (s.pin (Dp.int _))⟩
theorem okc_min2 (hc : X.calm = true) (hk : k (.dat (.int (if j < i then j else i))) O) : OKC X c (.builtin "min") [.dat (.int i), .dat (.int j)] O k := okc_of (call_min2 hc) fun G σ H vs Q s rv q => by
  obtain ⟨v, w, rfl, r1, r2⟩ := svs2 rv
  exact ⟨i, j, by rw [dp_int r1, dp_int r2], q _ _ O H hk (s.pin (Dp.int _))⟩
theorem okc_int (hk : k (.dat (.int i)) O) : OKC X c (.type "int") [.dat (.int i)] O k := okc_of call_int1 fun G σ H vs Q s rv q => by
  obtain ⟨v, rfl, r⟩ := svs1 rv
  exact .inl ⟨i, by rw [dp_int r], q _ _ O H hk (s.pin (Dp.int _))⟩
variable {ns : List Int} {bs : List Bool}
theorem okc_sum (hc : X.calm = true) (hk : k (.dat (.int ns.sum)) O) (hK : X.K = c.K := by rfl) : OKC X c (.builtin "sum") [.dat (.list (ns.map .int))] O k := okc_of (cr_sum hc) fun G σ H vs Q s rv q => by
  obtain ⟨v, rfl, r⟩ := svs1 rv
  obtain ⟨p, us, rfl, hp, hd⟩ := dp_lst r
  have e := dpAll_ints' hd
  exact ⟨p, ns, rfl, e ▸ (hK ▸ sqL_ke fz_ke hp), q _ _ O H hk (s.pin (Dp.int _))⟩
theorem okc_min (hc : X.calm = true) (h0 : 0 < ns.length) (hk : ∀ m, m ∈ ns → (∀ y, y ∈ ns → m ≤ y) → k (.dat (.int m)) O) (hK : X.K = c.K := by rfl) : OKC X c (.builtin "min") [.dat (.list (ns.map .int))] O k := okc_of (cr_min hc) fun G σ H vs Q s rv q => by
  obtain ⟨v, rfl, r⟩ := svs1 rv
  obtain ⟨p, us, rfl, hp, hd⟩ := dp_lst r
  have e := dpAll_ints' hd
  exact ⟨p, ns, rfl, e ▸ (hK ▸ sqL_ke fz_ke hp), h0, fun m hm hy => q _ _ O H (hk m hm hy) (s.pin (Dp.int _))⟩
theorem okc_all (hc : X.calm = true) (hk : k (.dat (.bool (bs.all _root_.id))) O) (hK : X.K = c.K := by rfl) : OKC X c (.builtin "all") [.dat (.list (bs.map .bool))] O k := okc_of (cr_all hc) fun G σ H vs Q s rv q => by
  obtain ⟨v, rfl, r⟩ := svs1 rv
  obtain ⟨p, us, rfl, hp, hd⟩ := dp_lst r
  have e := dpAll_bls' hd
  exact ⟨p, bs, rfl, e ▸ (hK ▸ sqL_ke fz_ke hp), q _ _ O H hk (s.pin (Dp.bl _))⟩
theorem okc_any (hc : X.calm = true) (hk : k (.dat (.bool (bs.any _root_.id))) O) (hK : X.K = c.K := by rfl) : OKC X c (.builtin "any") [.dat (.list (bs.map .bool))] O k := okc_of (cr_any hc) fun G σ H vs Q s rv q => by
  obtain ⟨v, rfl, r⟩ := svs1 rv
  obtain ⟨p, us, rfl, hp, hd⟩ := dp_lst r
  have e := dpAll_bls' hd
  exact ⟨p, bs, rfl, e ▸ (hK ▸ sqL_ke fz_ke hp), q _ _ O H hk (s.pin (Dp.bl _))⟩
theorem okc_sorted (hk : ∀ ns' : List Int, ns'.Perm ns → ns'.Pairwise (· ≤ ·) → k (.dat (.list (ns'.map .int))) O) (hK : X.K = c.K := by rfl) : OKC X c (.builtin "sorted") [.dat (.list (ns.map .int))] O k := okc_of cr_sortedI fun G σ H vs Q s rv q => by
  obtain ⟨v, rfl, r⟩ := svs1 rv
  obtain ⟨p, us, rfl, hp, hd⟩ := dp_lst r
  have e := dpAll_ints' hd
  exact ⟨p, ns, rfl, e ▸ (hK ▸ sqL_ke fz_ke hp), fun ns' p h1 h2 hp => q _ _ O _ (hk ns' h1 h2) (s.newL hp (dpAll_ints ns'))⟩
theorem okc_tupleL (hk : k (.dat (.tuple xs)) O) (hK : X.K = c.K := by rfl) : OKC X c (.type "tuple") [.dat (.list xs)] O k := okc_of call_tuple_of fun G σ H vs Q s rv q => by
  obtain ⟨v, rfl, r⟩ := svs1 rv
  obtain ⟨p, us, rfl, hp, hd⟩ := dp_lst r
  exact ⟨p, us, rfl, .inl ⟨hK ▸ sqL_ke fz_ke hp, fun l hl => q _ _ O _ hk (s.newD hl hd)⟩⟩
theorem okc_tupleO {n : Nat} {p : Addr} (hO : O[n]? = some (p, .lst xs)) (hk : k (.dat (.tuple xs)) O) : OKC X c (.type "tuple") [.val (.ref p)] O k := okc_of call_tuple_of fun G σ H vs Q s rv q => by
  obtain ⟨v, rfl, r⟩ := svs1 rv
  cases (show v = .ref p from r)
  obtain ⟨w, h0, us, rfl, hd⟩ := s.ow _ (List.mem_of_getElem? hO)
  exact ⟨p, us, rfl, .inl ⟨SqL.of h0, fun l hl => q _ _ O _ hk (s.newD hl hd)⟩⟩
theorem okc_tupleT (hk : k (.dat (.tuple xs)) O) (hK : X.K = c.K := by rfl) : OKC X c (.type "tuple") [.dat (.tuple xs)] O k := okc_of call_tuple_of fun G σ H vs Q s rv q => by
  obtain ⟨v, rfl, r⟩ := svs1 rv
  obtain ⟨p, us, rfl, hp, hd⟩ := dp_tup r
  exact ⟨p, us, rfl, .inr ⟨hK ▸ sqT_ke fz_ke hp, q _ _ O _ hk (s.pin (Dp.tup hp hd))⟩⟩
/-! isinstance -/
def tyN : D → String
  | .none => "NoneType"
  | .bool _ => "bool"
  | .int _ => "int"
  | .str _ => "str"
  | .list _ => "list"
  | .tuple _ => "tuple"
  | .dict _ => "dict"
theorem dp_tyX {K : PySem.W.Frag} {H : Hp} {v : V} {d : D} (h : Dp K H v d) : TyX K H v (.type (tyN d)) := by
  cases h with
  | non => exact .base .non
  | bl b => exact .base (.bl b)
  | int i => exact .base (.int i)
  | str x => exact .base (.str x)
  | lst hs _ =>
    rcases hs with (h | ⟨o, h⟩) | ⟨o, its, n, h1, h2, _⟩
    · exact .base (.lst h)
    · exact .base (.frz h)
    · exact .kList h1 h2
  | tup hs _ =>
    rcases hs with (h | ⟨o, h⟩) | ⟨o, its, n, h1, h2, _⟩
    · exact .base (.tup h)
    · exact .fTuple h
    · exact .kTuple h1 h2
def isI : D → Bool
  | .int _ | .bool _ => true
  | _ => false
def isB : D → Bool
  | .bool _ => true
  | _ => false
def isT : D → Bool
  | .tuple _ => true
  | _ => false
def isS : D → Bool
  | .str _ => true
  | _ => false
theorem isi {T : String} {b : Bool} (h : kitB (tyN d) T = some b) (hk : k (.dat (.bool b)) O) (hK : X.K = c.K := by rfl) : OKC X c (.builtin "isinstance") [.dat d, .val (.ty T)] O k := okc_of call_isi fun G σ H vs Q s rv q => by
  obtain ⟨v, w, rfl, r1, r2⟩ := svs2 rv
  cases (show w = .ty T from r2)
  exact ⟨v, _, _, _, b, rfl, .ty T, hK ▸ dp_tyX (dp_ke fz_ke r1), kit_ty h, q _ _ O H hk (s.pin (Dp.bl _))⟩
theorem isi_int (hk : k (.dat (.bool (isI d))) O) (hK : X.K = c.K := by rfl) : OKC X c (.builtin "isinstance") [.dat d, .val (.ty "int")] O k := isi (by cases d <;> kernel_rfl) hk hK
theorem isi_bool (hk : k (.dat (.bool (isB d))) O) (hK : X.K = c.K := by rfl) : OKC X c (.builtin "isinstance") [.dat d, .val (.ty "bool")] O k := isi (by cases d <;> kernel_rfl) hk hK
theorem isi_tuple (hk : k (.dat (.bool (isT d))) O) (hK : X.K = c.K := by rfl) : OKC X c (.builtin "isinstance") [.dat d, .val (.ty "tuple")] O k := isi (by cases d <;> kernel_rfl) hk hK
theorem isi_str (hk : k (.dat (.bool (isS d))) O) (hK : X.K = c.K := by rfl) : OKC X c (.builtin "isinstance") [.dat d, .val (.ty "str")] O k := isi (by cases d <;> kernel_rfl) hk hK
end
end OR

set_option Elab.async false
set_option linter.all false
set_option maxRecDepth 100000
set_option maxHeartbeats 2000000
namespace OR
open PySem PySem.Spec PyProof.Rows L2
/-! ### statements -/
/-- what is wanted behind a statement, told of data -/
structure Ko where
  nx : Gty → Oty → Prop
  rt : SV → Oty → Prop
  bk : Gty → Oty → Prop := fun _ _ => False
  ct : Gty → Oty → Prop := fun _ _ => False
def Ko.ends (κ : Ko) (c : Cc) : Ends where
  nx := fun σ H => ∃ G O, κ.nx G O ∧ S c G O σ H
  rt := fun v H => ∃ σ G O d, κ.rt d O ∧ S (c.pin v d) G O σ H
  bk := fun σ H => ∃ G O, κ.bk G O ∧ S c G O σ H
  ct := fun σ H => ∃ G O, κ.ct G O ∧ S c G O σ H
section
variable (X : Cx) (c : Cc)
def ST (st : Stmt) (G : Gty) (O : Oty) (κ : Ko) : Prop := ∀ (σ : L2.St) (H : Hp), S c G O σ H → wS X st (κ.ends c) σ H
def SS (st : List Stmt) (G : Gty) (O : Oty) (κ : Ko) : Prop := ∀ (σ : L2.St) (H : Hp), S c G O σ H → wSs X st (κ.ends c) σ H
/-- a reading that gives told values -/
def LV (te : TE) (c : Cc) (G : Gty) (O : Oty) (k : SV → Oty → Prop) : Prop := ∀ (σ : L2.St) (H : Hp) (Q : VK), S c G O σ H → (∀ v d O' H', k d O' → S (c.pin v d) G O' σ H' → Q v H') → te σ H Q
end
section
variable {X : Cx} {c : Cc} {G : Gty} {O : Oty} {e a b : Expr} {es : List Expr} {pos : Pos} {k : SV → Oty → Prop} {κ : Ko} {st : Stmt} {rest sts sts2 : List Stmt}
theorem ps_w : PS X st (wS X st) := ⟨fun pins s _ _ _ I h => h pins s I⟩
theorem pss_w : PSs X sts (wSs X sts) := ⟨fun pins s _ _ _ I h => h pins s I⟩
theorem wS_of {t : TS} (h : PS X st t) {σ : L2.St} {H : Hp} {D : Ends} (q : t D σ H) : wS X st D σ H := fun pins s I => h.run pins s σ H D I q
theorem wSs_of {t : TS} (h : PSs X sts t) {σ : L2.St} {H : Hp} {D : Ends} (q : t D σ H) : wSs X sts D σ H := fun pins s I => h.run pins s σ H D I q
theorem sp_mono {pins : List (Addr × Obj)} {D D' : Ends} {f : Flow} {s : Shared} (h : SP X pins D f s) (h1 : ∀ σ H, D.nx σ H → D'.nx σ H) (h2 : ∀ v H, D.rt v H → D'.rt v H) (h3 : ∀ σ H, D.bk σ H → D'.bk σ H) (h4 : ∀ σ H, D.ct σ H → D'.ct σ H) : SP X pins D' f s := by
  cases f with
  | next => obtain ⟨σ, H, I, q⟩ := h; exact ⟨σ, H, I, h1 _ _ q⟩
  | brk => obtain ⟨σ, H, I, q⟩ := h; exact ⟨σ, H, I, h3 _ _ q⟩
  | cont => obtain ⟨σ, H, I, q⟩ := h; exact ⟨σ, H, I, h4 _ _ q⟩
  | ret u => obtain ⟨v, σ, H, I, r, q⟩ := h; exact ⟨v, σ, H, I, r, h2 _ _ q⟩
theorem wS_mono {D D' : Ends} {σ : L2.St} {H : Hp} (h : wS X st D σ H) (h1 : ∀ σ H, D.nx σ H → D'.nx σ H) (h2 : ∀ v H, D.rt v H → D'.rt v H) (h3 : ∀ σ H, D.bk σ H → D'.bk σ H) (h4 : ∀ σ H, D.ct σ H → D'.ct σ H) : wS X st D' σ H :=
  fun pins s I => thn (h pins s I) fun f s' q => sp_mono q h1 h2 h3 h4
theorem wSs_mono {D D' : Ends} {σ : L2.St} {H : Hp} (h : wSs X sts D σ H) (h1 : ∀ σ H, D.nx σ H → D'.nx σ H) (h2 : ∀ v H, D.rt v H → D'.rt v H) (h3 : ∀ σ H, D.bk σ H → D'.bk σ H) (h4 : ∀ σ H, D.ct σ H → D'.ct σ H) : wSs X sts D' σ H :=
  fun pins s I => thn (h pins s I) fun f s' q => sp_mono q h1 h2 h3 h4
theorem ss_nil (h : κ.nx G O) : SS X c [] G O κ := fun σ H s => wSs_of pss_nil ⟨G, O, h, s⟩
theorem ss_cons (h : ST X c st G O { κ with nx := fun G' O' => SS X c rest G' O' κ }) : SS X c (st :: rest) G O κ := fun σ H s => by
  refine wSs_of (pss_cons ps_w pss_w) (wS_mono (h σ H s) (fun σ' H' q => ?_) (fun v H' q => q) (fun σ' H' q => q) fun σ' H' q => q)
  obtain ⟨G', O', h1, h2⟩ := q
  exact h1 σ' H' h2
theorem ss_one (h : ST X c st G O κ) : SS X c [st] G O κ := fun σ H s => wSs_of (pss_one ps_w) (h σ H s)
theorem st_pass (h : κ.nx G O) : ST X c (.Pass pos) G O κ := fun σ H s => wS_of ps_pass ⟨G, O, h, s⟩
theorem st_expr (h : EV X c e G O fun _ O' => κ.nx G O') (hs : swapsWith e none pos.line X.env = pure false := by rfl) : ST X c (.Expr e pos) G O κ := fun σ H s =>
  wS_of (ps_expr pe_w hs) (h σ H _ s fun v d O' H' hk hs => ⟨G, O', hk, hs.unpin⟩)
theorem st_doc {x : Str} {j : Nat} {pos' : Pos} (h : κ.nx G O) : ST X c (.Expr (.Constant (.str x) j pos) pos') G O κ := fun σ H s => wS_of ps_doc ⟨G, O, h, s⟩
theorem st_ret (h : EV X c e G O κ.rt) : ST X c (.Return (some e) pos) G O κ := fun σ H s => wS_of (ps_ret pe_w) (h σ H _ s fun v d O' H' hk hs => ⟨σ, G, O', d, hk, hs⟩)
theorem st_if {t : Expr} (h : TV X c t G O fun r O1 => if r = true then SS X c sts G O1 κ else SS X c sts2 G O1 κ) : ST X c (.If t sts sts2 pos) G O κ := fun σ H s => by
  refine wS_of (ps_if pt_w pss_w pss_w) (h σ H _ s fun r O' H' hk hs => ?_)
  cases r with
  | true => exact hk σ H' hs
  | false => exact hk σ H' hs
theorem st_set (i : Nat) {x : Str} {pos' : Pos} (hN : X.N.Nodup) (h : EV X c e G O fun d O' => κ.nx (G.set i (some d)) O') (hi : X.N[i]? = some x := by rfl) (hx : Loc X.env.scope x := by first | exact Or.inl rfl | exact Or.inr rfl)
    (hs : swapsWith e (some (.Name x pos')) pos.line X.env = pure false := by rfl) (hf : X.fn x = true ∨ X.env.scope.names.lookup x = some .local := by first | exact .inl rfl | exact .inr rfl) : ST X c (.Assign [.Name x pos'] e pos) G O κ := fun σ H s =>
  wS_of (ps_set hN hi hx pe_w hs hf) (h σ H _ s fun v d O' H' hk hs => ⟨_, O', hk, hs.unpin.set i hs.pinned⟩)
/-- a, b = x, y with plain local names -/
theorem st_par (i j : Nat) {x y : Str} {px py pt pt2 : Pos} {kt k2 : Nat} (hc : X.calm = true) (hN : X.N.Nodup) (h : EA X c [a, b] G O fun ds O' => ∃ d1 d2, ds = [d1, d2] ∧ κ.nx ((G.set i (some d1)).set j (some d2)) O')
    (hw : swappedStores [.Tuple [.Name x px, .Name y py] kt pt] (.Tuple [a, b] k2 pt2) X.env = pure (some [x, y]) := by rfl)
    (hi : X.N[i]? = some x := by rfl) (hj : X.N[j]? = some y := by rfl) (hij : i ≠ j := by decide)
    (hx : X.env.scope.names.lookup x = some .local := by rfl) (hy : X.env.scope.names.lookup y = some .local := by rfl)
    (hs : swapsWithSole [.Tuple [.Name x px, .Name y py] kt pt] (.Tuple [a, b] k2 pt2) pos.line X.env = pure false := by rfl) :
    ST X c (.Assign [.Tuple [.Name x px, .Name y py] kt pt] (.Tuple [a, b] k2 pt2) pos) G O κ := fun σ H s => by
  refine wS_of (ps_par hc hN hi hj hij hx hy pa_w hw hs) (h σ H _ s fun vs ds O' H' hk hs rv => ?_)
  obtain ⟨d1, d2, rfl, hk⟩ := hk
  obtain ⟨v, w, rfl, r1, r2⟩ := svs2 rv
  exact ⟨v, w, rfl, _, O', hk, (hs.set i r1).set j r2⟩
/-- an int's own += -/
theorem st_aug (i : Nat) {x : Str} {pos' : Pos} {op : Operator} {f : Int → Int → Int} {n : Int} (hop : PIp X op (ipI f)) (hN : X.N.Nodup) (hG : G[i]? = some (some (.dat (.int n))))
    (h : EV X c e G O fun d O' => ∃ m, d = .dat (.int m) ∧ κ.nx (G.set i (some (.dat (.int (f n m))))) O') (hi : X.N[i]? = some x := by rfl) (hx : Loc X.env.scope x := by first | exact Or.inl rfl | exact Or.inr rfl)
    (hf : X.fn x = true ∨ X.env.scope.names.lookup x = some .local := by first | exact .inl rfl | exact .inr rfl) : ST X c (.AugAssign (.Name x pos') op e pos) G O κ := fun σ H s => by
  obtain ⟨v, h1, h2⟩ := s.en i _ hG
  refine wS_of (ps_aug hN hi hx pe_w hop hf) ⟨v, h1, h σ H _ s fun w d O' H' hk hs => ?_⟩
  obtain ⟨m, rfl, hk⟩ := hk
  exact ⟨n, m, dp_int h2, dp_int hs.pinned, _, O', hk, hs.unpin.set i (Dp.int _)⟩
/-! ### targets -/
theorem st_asgTup {n : Nat} {targets : List Expr} {kt : Nat} {pt : Pos} {tg : TGs} (hc : X.calm = true) (hg : PGs X targets tg) (h : EV X c e G O fun d O' => ∃ xs, d = .dat (.tuple xs) ∧ xs.length = n ∧ ∀ v, ∀ (σ : L2.St) (H : Hp) (us : List V), S (c.pin v d) G O' σ H → DpAll c.K (fz (mm c O') H) us xs → tg us σ H fun σ' H' => ∃ G' O', κ.nx G' O' ∧ S c G' O' σ' H')
    (hK : X.K = c.K := by rfl) (hn : (assignEach targets X.env).length = n := by rfl) (hst : (assignEach targets X.env).findIdx? (·.1) = none := by rfl)
    (hs : swapsWithSole [.Tuple targets kt pt] e pos.line X.env = pure false := by rfl) (hw : swappedStores [.Tuple targets kt pt] e X.env = pure none := by rfl) : ST X c (.Assign [.Tuple targets kt pt] e pos) G O κ := fun σ H s => by
  refine wS_of (ps_asg pe_w (pg_tup hc hg hn hst) hs hw) (h σ H _ s fun v d O' H' hk hs => ?_)
  obtain ⟨xs, rfl, hl, hk⟩ := hk
  obtain ⟨p, us, rfl, hp, hd⟩ := dp_tup hs.pinned
  exact ⟨p, us, rfl, hK ▸ sqT_ke fz_ke hp, by rw [dpAll_length hd]; exact hl, hk _ σ H' us hs hd⟩
/-! ### for -/
def IS (c : Cc) (I : Gty → Oty → Prop) : L2.St → Hp → Prop := fun σ H => ∃ G O, I G O ∧ S c G O σ H
theorem S.skip {q r : Pn} {H : Hp} {σ : L2.St} (s : S ((c.pn q).pn r) G O σ H) : S (c.pn r) G O σ H :=
  ⟨s.tb, s.mv, s.nd, s.nw, s.dj, s.lk, s.ow, s.lv, s.en, s.ln, fun p hp => s.pi p (by
    rcases List.mem_cons.mp hp with e | hp
    · rw [e]; exact List.mem_cons_self
    · exact List.mem_cons_of_mem _ (List.mem_cons_of_mem _ hp))⟩
/-- the rest of a fact about a wider context -/
theorem ends_pn {q : Pn} {κ κ' : Ko} (h : κ.rt = κ'.rt) {w : V} {H : Hp} (r : (κ.ends (c.pn q)).rt w H) : (κ'.ends c).rt w H := by
  obtain ⟨σ, G, O, e, h2, h3⟩ := r
  exact ⟨σ, G, O, e, h ▸ h2, h3.skip⟩
variable {iter : Expr} {body : List Stmt} {x : Str} {px : Pos}
/-- over a tuple of data; I: what holds ahead of each turn -/
theorem st_forT (j : Nat) (I : Nat → Gty → Oty → Prop) (hp : PassesOwn (model X.prog X.w) X.A X.env X.xe) (hc : X.calm = true) (hN : X.N.Nodup)
    (h : EV X c iter G O fun d O1 => ∃ ds, d = .dat (.tuple ds) ∧ I 0 G O1 ∧
      (∀ q i dk G' O', ds[i]? = some dk → I i G' O' → SS X (c.pn q) body (G'.set j (some (.dat dk))) O' { nx := I (i + 1), ct := I (i + 1), bk := κ.nx, rt := κ.rt }) ∧ (∀ G' O', I ds.length G' O' → κ.nx G' O'))
    (hK : X.K = c.K := by rfl) (hi : X.N[j]? = some x := by rfl) (hx : Loc X.env.scope x := by first | exact Or.inl rfl | exact Or.inr rfl) (hf : X.fn x = true ∨ X.env.scope.names.lookup x = some .local := by first | exact .inl rfl | exact .inr rfl)
    (hs : ∀ x, foldedSetIterable iter X.env x = pure x := by intro _; rfl) : ST X c (.For (.Name x px) iter body [] pos) G O κ := fun σ H s => by
  refine wS_of (ps_for hp hc (pi_tup pe_w) (pg_name hN hi hx hf) pss_w hs) (h σ H _ s fun v d O1 H1 hk hs => ?_)
  obtain ⟨ds, rfl, h0, hb, he⟩ := hk
  obtain ⟨p, us, rfl, hp, hd⟩ := dp_tup hs.pinned
  have hs1 : S (c.pn (pnT p us ds)) G O1 σ H1 := hs.unpin.hold ⟨hp, hd⟩
  refine ⟨p, rfl, ⟨us, hK ▸ sqT_ke fz_ke hp⟩, for_tup (xs := us) (fun i => IS (c.pn (pnT p us ds)) (I i)) ⟨_, _, h0, hs1⟩ (fun i σ' H' _ ⟨G', O', _, hs'⟩ => hK ▸ sqT_ke fz_ke hs'.held.1) (fun i y σ' H' hy ⟨G', O', hI, hs'⟩ => ?_) (fun σ' H' ⟨G', O', hI, hs'⟩ => ⟨_, _, he _ _ (by rw [← dpAll_length hd]; exact hI), hs'.unpin⟩)⟩
  obtain ⟨dk, h1, h2⟩ := dpAll_get' hs'.held.2 hy
  exact wSs_mono (hb _ i dk G' O' h1 hI _ H' (hs'.set j h2)) (fun _ _ q => q) (fun w H q => ends_pn rfl q) (fun σ'' H'' ⟨G'', O'', q1, q2⟩ => ⟨G'', O'', q1, q2.unpin⟩) (fun _ _ q => q)
theorem st_forL (j : Nat) (I : Nat → Gty → Oty → Prop) (hp : PassesOwn (model X.prog X.w) X.A X.env X.xe) (hc : X.calm = true) (hN : X.N.Nodup)
    (h : EV X c iter G O fun d O1 => ∃ ds, d = .dat (.list ds) ∧ I 0 G O1 ∧
      (∀ q i dk G' O', ds[i]? = some dk → I i G' O' → SS X (c.pn q) body (G'.set j (some (.dat dk))) O' { nx := I (i + 1), ct := I (i + 1), bk := κ.nx, rt := κ.rt }) ∧ (∀ G' O', I ds.length G' O' → κ.nx G' O'))
    (hK : X.K = c.K := by rfl) (hi : X.N[j]? = some x := by rfl) (hx : Loc X.env.scope x := by first | exact Or.inl rfl | exact Or.inr rfl) (hf : X.fn x = true ∨ X.env.scope.names.lookup x = some .local := by first | exact .inl rfl | exact .inr rfl)
    (hs : ∀ x, foldedSetIterable iter X.env x = pure x := by intro _; rfl) : ST X c (.For (.Name x px) iter body [] pos) G O κ := fun σ H s => by
  refine wS_of (ps_for hp hc (pi_list pe_w) (pg_name hN hi hx hf) pss_w hs) (h σ H _ s fun v d O1 H1 hk hs => ?_)
  obtain ⟨ds, rfl, h0, hb, he⟩ := hk
  obtain ⟨p, us, rfl, hp, hd⟩ := dp_lst hs.pinned
  have hs1 : S (c.pn (pnL p us ds)) G O1 σ H1 := hs.unpin.hold ⟨hp, hd⟩
  refine ⟨p, rfl, ⟨us, hK ▸ sqL_ke fz_ke hp⟩, for_list (xs := us) (fun i => IS (c.pn (pnL p us ds)) (I i)) ⟨_, _, h0, hs1⟩ (fun i σ' H' _ ⟨G', O', _, hs'⟩ => hK ▸ sqL_ke fz_ke hs'.held.1) (fun i y σ' H' hy ⟨G', O', hI, hs'⟩ => ?_) (fun σ' H' ⟨G', O', hI, hs'⟩ => ⟨_, _, he _ _ (by rw [← dpAll_length hd]; exact hI), hs'.unpin⟩)⟩
  obtain ⟨dk, h1, h2⟩ := dpAll_get' hs'.held.2 hy
  exact wSs_mono (hb _ i dk G' O' h1 hI _ H' (hs'.set j h2)) (fun _ _ q => q) (fun w H q => ends_pn rfl q) (fun σ'' H'' ⟨G'', O'', q1, q2⟩ => ⟨G'', O'', q1, q2.unpin⟩) (fun _ _ q => q)
variable {p1 pc : Pos}
/-- for x in range(a) -/
theorem st_forR1 (j : Nat) (I : Nat → Gty → Oty → Prop) (hp : PassesOwn (model X.prog X.w) X.A X.env X.xe) (hc : X.calm = true) (hN : X.N.Nodup) (hm : X.mg "range" = none)
    (h : EA X c [a] G O fun ds O1 => ∃ n : Int, ds = [.dat (.int n)] ∧ -1000000000 ≤ n ∧ n ≤ 1000000000 ∧ I 0 G O1 ∧
      (∀ (i : Nat) G' O', (i : Int) < n → I i G' O' → SS X c body (G'.set j (some (.dat (.int i)))) O' { nx := I (i + 1), ct := I (i + 1), bk := κ.nx, rt := κ.rt }) ∧ (∀ G' O', I n.toNat G' O' → κ.nx G' O'))
    (hg : Gl X "range" := by rfl) (hi : X.N[j]? = some x := by rfl) (hx : Loc X.env.scope x := by first | exact Or.inl rfl | exact Or.inr rfl) (hf : X.fn x = true ∨ X.env.scope.names.lookup x = some .local := by first | exact .inl rfl | exact .inr rfl)
    (ha : starEach [a] X.env = [(false, eval a X.env)] := by rfl) (hs : ∀ x, foldedSetIterable (.Call (.Name "range" p1) [a] [] pc) X.env x = pure x := by intro _; rfl) : ST X c (.For (.Name x px) (.Call (.Name "range" p1) [a] [] pc) body [] pos) G O κ := fun σ H s => by
  refine wS_of (ps_for hp hc (pi_range1 hg hm pa_w ha) (pg_name hN hi hx hf) pss_w hs) (h σ H _ s fun vs ds O1 H1 hk hs rv => ?_)
  obtain ⟨n, rfl, hn1, hn2, h0, hb, he⟩ := hk
  obtain ⟨v, rfl, r⟩ := svs1 rv
  refine ⟨n, by rw [dp_int r], by omega, by omega, for_range (lo := 0) (n := n.toNat) (fun i => IS c (I i)) ⟨_, _, h0, hs⟩ (fun i σ' H' hi' ⟨G', O', hI, hs'⟩ => ?_) (fun σ' H' ⟨G', O', hI, hs'⟩ => ⟨_, _, he _ _ hI, hs'⟩)⟩
  have e0 : (0 : Int) + (i : Int) = (i : Int) := Int.zero_add _
  refine hb i G' O' (by omega) hI _ H' ?_
  rw [e0]
  exact hs'.set j (Dp.int _)
/-- for x in range(a, b) -/
theorem st_forR2 (j : Nat) (I : Nat → Gty → Oty → Prop) (hp : PassesOwn (model X.prog X.w) X.A X.env X.xe) (hc : X.calm = true) (hN : X.N.Nodup) (hm : X.mg "range" = none)
    (h : EA X c [a, b] G O fun ds O1 => ∃ l n : Int, ds = [.dat (.int l), .dat (.int n)] ∧ (-1000000000 ≤ l ∧ l ≤ 1000000000 ∧ -1000000000 ≤ n ∧ n ≤ 1000000000) ∧ I 0 G O1 ∧
      (∀ (i : Nat) G' O', l + (i : Int) < n → I i G' O' → SS X c body (G'.set j (some (.dat (.int (l + i))))) O' { nx := I (i + 1), ct := I (i + 1), bk := κ.nx, rt := κ.rt }) ∧ (∀ G' O', I (n - l).toNat G' O' → κ.nx G' O'))
    (hg : Gl X "range" := by rfl) (hi : X.N[j]? = some x := by rfl) (hx : Loc X.env.scope x := by first | exact Or.inl rfl | exact Or.inr rfl) (hf : X.fn x = true ∨ X.env.scope.names.lookup x = some .local := by first | exact .inl rfl | exact .inr rfl)
    (ha : starEach [a, b] X.env = [(false, eval a X.env), (false, eval b X.env)] := by rfl) (ha2 : starEach [b] X.env = [(false, eval b X.env)] := by rfl)
    (hs : ∀ x, foldedSetIterable (.Call (.Name "range" p1) [a, b] [] pc) X.env x = pure x := by intro _; rfl) : ST X c (.For (.Name x px) (.Call (.Name "range" p1) [a, b] [] pc) body [] pos) G O κ := fun σ H s => by
  refine wS_of (ps_for hp hc (pi_range2 hg hm pa_w ha ha2) (pg_name hN hi hx hf) pss_w hs) (h σ H _ s fun vs ds O1 H1 hk hs rv => ?_)
  obtain ⟨l, n, rfl, hn, h0, hb, he⟩ := hk
  obtain ⟨v, w, rfl, r, r'⟩ := svs2 rv
  refine ⟨l, n, by rw [dp_int r, dp_int r'], ⟨by omega, by omega, by omega, by omega⟩, for_range (lo := l) (n := (n - l).toNat) (fun i => IS c (I i)) ⟨_, _, h0, hs⟩ (fun i σ' H' hi' ⟨G', O', hI, hs'⟩ => ?_) (fun σ' H' ⟨G', O', hI, hs'⟩ => ⟨_, _, he _ _ hI, hs'⟩)⟩
  exact hb i G' O' (by omega) hI _ H' (hs'.set j (Dp.int _))
end
/-! ### comprehensions -/
section
variable {X : Cx} {c : Cc} {G : Gty} {O : Oty} {elt iter a b : Expr} {ifs : List Expr} {pos px p1 pc : Pos} {k : SV → Oty → Prop} {x : Str} {j : Nat} {scope : Scope}
def wTs (X : Cx) (ifs : List Expr) : TT := fun σ H Q => ∀ (pins : List (Addr × Obj)) (s : Shared), Inv X pins σ H s →
  wpAny (model X.prog X.w) X.A (forIn ifs true fun c r => if r = true then do let ok ← isTrue c X.env (eval c X.env); pure (ForInStep.yield ok) else pure (ForInStep.yield r)) (TP X pins σ Q) X.xe s
theorem pts_w : PTs X ifs (wTs X ifs) := ⟨fun pins s _ _ _ I h => h pins s I⟩
def LT (X : Cx) (c : Cc) (ifs : List Expr) (G : Gty) (O : Oty) (k : Bool → Oty → Prop) : Prop := ∀ (σ : L2.St) (H : Hp) (Q : Bool → Hp → Prop), S c G O σ H → (∀ b O' H', k b O' → S c G O' σ H' → Q b H') → wTs X ifs σ H Q
variable {kb : Bool → Oty → Prop}
theorem lt_nil (h : kb true O) : LT X c [] G O kb := fun σ H Q s q pins s' I => pts_nil.run pins s' σ H Q I (q true O H h s)
theorem lt_one {t : Expr} (h : TV X c t G O kb) : LT X c [t] G O kb := fun σ H Q s q pins s' I => (pts_one pt_w).run pins s' σ H Q I (h σ H Q s q)
/-- the block's context -/
abbrev blkX (X : Cx) (scope : Scope) (s : Shared) (H : Hp) (C : Addr) (cl : List (Str × Addr)) (fp : List Addr) : Cx := X.blk s H scope (compEnvC scope cl C X.env) fp
/-- over all blocks -/
def aE (X : Cx) (scope : Scope) (elt : Expr) : TE := fun σ H Q => ∀ (s : Shared) (H0 : Hp) (C : Addr) (cl : List (Str × Addr)) (fp : List Addr), wE (blkX X scope s H0 C cl fp) elt σ H Q
def aT (X : Cx) (scope : Scope) (ifs : List Expr) : TT := fun σ H Q => ∀ (s : Shared) (H0 : Hp) (C : Addr) (cl : List (Str × Addr)) (fp : List Addr), wTs (blkX X scope s H0 C cl fp) ifs σ H Q
theorem pe_a (s : Shared) (H : Hp) (C : Addr) (cl : List (Str × Addr)) (fp : List Addr) : PE (blkX X scope s H C cl fp) elt (aE X scope elt) := ⟨fun pins s' σ H' Q I h => h s H C cl fp pins s' I⟩
theorem pts_a (s : Shared) (H : Hp) (C : Addr) (cl : List (Str × Addr)) (fp : List Addr) : PTs (blkX X scope s H C cl fp) ifs (aT X scope ifs) := ⟨fun pins s' σ H' Q I h => h s H C cl fp pins s' I⟩
/-- one turn: an item is made, or left out -/
def Turn1 (X : Cx) (scope : Scope) (c : Cc) (ifs : List Expr) (elt : Expr) (G : Gty) (O : Oty) (acc : List D) (I : List D → Oty → Prop) : Prop :=
  ∀ (s : Shared) (H0 : Hp) (C : Addr) (cl : List (Str × Addr)) (fp : List Addr), LT (blkX X scope s H0 C cl fp) c ifs G O fun t O1 =>
    if t = true then ∀ (s : Shared) (H0 : Hp) (C : Addr) (cl : List (Str × Addr)) (fp : List Addr), EV (blkX X scope s H0 C cl fp) c elt G O1 fun d O2 => ∃ z, d = .dat z ∧ acc.length ≤ 100000 ∧ I (acc ++ [z]) O2 else I acc O1
theorem turn_ok {p : Addr} {acc : List D} {I : List D → Oty → Prop} {σ : L2.St} {H : Hp} {Pv : Hp → Prop} (s : S (c.lock p (.lst acc)) G O σ H) (h : Turn1 X scope (c.lock p (.lst acc)) ifs elt G O acc I)
    (hP : ∀ acc' O' H', I acc' O' → S (c.lock p (.lst acc')) G O' σ H' → Pv H') :
    aT X scope ifs σ H fun b H3 => if b = true then aE X scope elt σ H3 fun y H4 => ∃ acc, H4 p = some (.lst acc) ∧ acc.length < sizeLine ∧ Pv (upd H4 p (.lst (acc ++ [y]))) else Pv H3 := fun s0 H0 C cl fp => by
  refine h s0 H0 C cl fp σ H _ s fun b O1 H1 hk hs => ?_
  cases b with
  | false => exact hP _ _ _ hk hs
  | true =>
    intro s0 H0 C cl fp
    refine hk s0 H0 C cl fp σ H1 _ hs fun v d O2 H2 hk hs => ?_
    obtain ⟨z, rfl, hl, hI⟩ := hk
    have h3 : SVr c.K (fz (mm c (O2 ++ [(p, .lst acc)])) H2) v (.dat z) := by
      have q := hs.pinned
      rw [fz_lock] at q
      exact q
    have hs2 := hs.unpin.show
    obtain ⟨o, h1, us, rfl, hd⟩ := hs2.ow (p, .lst acc) (List.mem_append_right _ (by simp))
    have hn : (O2 ++ [(p, Ow.lst acc)])[O2.length]? = some (p, .lst acc) := by simp
    have s3 := hs2.write (w' := .lst (acc ++ [z])) (o' := .lst (us ++ [v])) hn ⟨_, rfl, dpAll_append hd (.cons h3 .nil)⟩
    have e : (O2 ++ [(p, Ow.lst acc)]).set O2.length (p, .lst (acc ++ [z])) = O2 ++ [(p, .lst (acc ++ [z]))] := by simp
    rw [e] at s3
    exact ⟨us, h1, Nat.lt_of_le_of_lt (by rw [dpAll_length hd]; exact hl) (by decide), hP _ _ _ hI s3.hide⟩
/-- the block's own name goes again -/
theorem S.unset {σ : L2.St} {H : Hp} {d : SV} {y : V} (hj : G[j]? = some none) (s : S c (G.set j (some d)) O (σ.set j (some y)) H) : S c G O σ H :=
  ⟨s.tb, s.mv, s.nd, s.nw, s.dj, s.lk, s.ow, s.lv, fun i d e => by
    by_cases q : j = i
    · subst q
      rw [hj] at e; cases e
    · obtain ⟨v, h1, h2⟩ := s.en i d (by rw [List.getElem?_set_ne q]; exact e)
      rw [List.getElem?_set_ne q] at h1
      exact ⟨v, h1, h2⟩, by have := s.ln; rwa [List.length_set, List.length_set] at this, s.pi⟩
theorem wipe1 {σ : L2.St} {j : Nat} {y : V} : L2.wipe ((L2.wipe σ [j]).set j (some y)) [j] = L2.wipe σ [j] := by
  show ((σ.set j none).set j (some y)).set j none = σ.set j none
  rw [List.set_set, List.set_set]
theorem wipe2 {σ : L2.St} {j : Nat} {y : V} : (L2.wipe σ [j]).set j (some y) = σ.set j (some y) := by
  show (σ.set j none).set j (some y) = _
  rw [List.set_set]
/-- one turn of a comprehension over one name -/
theorem lc_step {p : Addr} {acc : List D} {I : List D → Oty → Prop} {σ : L2.St} {H : Hp} {y : V} {d : D} {Pv : Hp → Prop} (hj : G[j]? = some none) (s : S (c.lock p (.lst acc)) G O σ H) (hy : SVr c.K (fz (mm (c.lock p (.lst acc)) O) H) y (.dat d))
    (ht : Turn1 X scope (c.lock p (.lst acc)) ifs elt (G.set j (some (.dat d))) O acc I) (hP : ∀ acc' O' H', I acc' O' → S (c.lock p (.lst acc')) G O' σ H' → Pv H') :
    gName j y (L2.wipe σ [j]) H fun σ2 H2 => L2.wipe σ2 [j] = L2.wipe σ [j] ∧ aT X scope ifs σ2 H2 fun b H3 => if b = true then aE X scope elt σ2 H3 fun y H4 => ∃ acc, H4 p = some (.lst acc) ∧ acc.length < sizeLine ∧ Pv (upd H4 p (.lst (acc ++ [y]))) else Pv H3 := by
  refine ⟨wipe1, ?_⟩
  rw [wipe2]
  exact turn_ok (s.set j hy) ht fun acc' O' H' hI hs => hP acc' O' H' hI (S.unset hj hs)
/-- what a comprehension over a tuple makes -/
theorem lv_T (I : Nat → List D → Oty → Prop) (hj : G[j]? = some none)
    (h : EV X c iter G O fun d O1 => ∃ ds, d = .dat (.tuple ds) ∧ I 0 [] O1 ∧
      (∀ q p i dk acc O2, ds[i]? = some dk → I i acc O2 → Turn1 X scope ((c.pn q).lock p (.lst acc)) ifs elt (G.set j (some (.dat dk))) O2 acc (I (i + 1))) ∧
      (∀ p acc O2, I ds.length acc O2 → k (.val (.ref p)) (O2 ++ [(p, .lst acc)]))) (hK : X.K = c.K := by rfl) :
    LV (tLc (iTup X.K (wE X iter)) (gName j) (aT X scope ifs) (aE X scope elt) [j]) c G O k := fun σ H Q s q => h σ H _ s fun v d O1 H1 hk hs => by
  obtain ⟨ds, rfl, h0, ht, he⟩ := hk
  obtain ⟨p, us, rfl, hp, hd⟩ := dp_tup hs.pinned
  have hs1 : S (c.pn (pnT p us ds)) G O1 σ H1 := hs.unpin.hold ⟨hp, hd⟩
  refine ⟨p, rfl, ⟨us, hK ▸ sqT_ke fz_ke hp⟩, fun Da hDa => ?_⟩
  refine lc_tup (xs := us) (fun i H' => ∃ acc O', I i acc O' ∧ S ((c.pn (pnT p us ds)).lock Da (.lst acc)) G O' σ H') ⟨[], O1, h0, (hs1.add (w := .lst []) hDa ⟨[], rfl, .nil⟩).hide⟩
    (fun i H' _ ⟨acc, O', _, hs'⟩ => hK ▸ sqT_ke fz_ke (S.held (c := c.lock Da (.lst acc)) (q := pnT p us ds) hs').1) (fun i y H' hy ⟨acc, O', hI, hs'⟩ => ?_) (fun H' ⟨acc, O', hI, hs'⟩ => q _ _ _ _ (he Da acc O' (by rw [← dpAll_length hd]; exact hI)) (hs'.show.unpin.pin rfl))
  obtain ⟨dk, h1, h2⟩ := dpAll_get' (S.held (c := c.lock Da (.lst acc)) (q := pnT p us ds) hs').2 hy
  exact lc_step hj hs' h2 (ht _ Da i dk acc O' h1 hI) fun acc' O2 H2 hI2 hs2 => ⟨acc', O2, hI2, hs2⟩
theorem lv_L (I : Nat → List D → Oty → Prop) (hj : G[j]? = some none)
    (h : EV X c iter G O fun d O1 => ∃ ds, d = .dat (.list ds) ∧ I 0 [] O1 ∧
      (∀ q p i dk acc O2, ds[i]? = some dk → I i acc O2 → Turn1 X scope ((c.pn q).lock p (.lst acc)) ifs elt (G.set j (some (.dat dk))) O2 acc (I (i + 1))) ∧
      (∀ p acc O2, I ds.length acc O2 → k (.val (.ref p)) (O2 ++ [(p, .lst acc)]))) (hK : X.K = c.K := by rfl) :
    LV (tLc (iList X.K (wE X iter)) (gName j) (aT X scope ifs) (aE X scope elt) [j]) c G O k := fun σ H Q s q => h σ H _ s fun v d O1 H1 hk hs => by
  obtain ⟨ds, rfl, h0, ht, he⟩ := hk
  obtain ⟨p, us, rfl, hp, hd⟩ := dp_lst hs.pinned
  have hs1 : S (c.pn (pnL p us ds)) G O1 σ H1 := hs.unpin.hold ⟨hp, hd⟩
  refine ⟨p, rfl, ⟨us, hK ▸ sqL_ke fz_ke hp⟩, fun Da hDa => ?_⟩
  refine lc_list (xs := us) (fun i H' => ∃ acc O', I i acc O' ∧ S ((c.pn (pnL p us ds)).lock Da (.lst acc)) G O' σ H') ⟨[], O1, h0, (hs1.add (w := .lst []) hDa ⟨[], rfl, .nil⟩).hide⟩
    (fun i H' _ ⟨acc, O', _, hs'⟩ => hK ▸ sqL_ke fz_ke (S.held (c := c.lock Da (.lst acc)) (q := pnL p us ds) hs').1) (fun i y H' hy ⟨acc, O', hI, hs'⟩ => ?_) (fun H' ⟨acc, O', hI, hs'⟩ => q _ _ _ _ (he Da acc O' (by rw [← dpAll_length hd]; exact hI)) (hs'.show.unpin.pin rfl))
  obtain ⟨dk, h1, h2⟩ := dpAll_get' (S.held (c := c.lock Da (.lst acc)) (q := pnL p us ds) hs').2 hy
  exact lc_step hj hs' h2 (ht _ Da i dk acc O' h1 hI) fun acc' O2 H2 hI2 hs2 => ⟨acc', O2, hI2, hs2⟩
theorem lv_R1 (I : Nat → List D → Oty → Prop) (hj : G[j]? = some none)
    (h : EA X c [a] G O fun ds O1 => ∃ n : Int, ds = [.dat (.int n)] ∧ -1000000000 ≤ n ∧ n ≤ 1000000000 ∧ I 0 [] O1 ∧
      (∀ p (i : Nat) acc O2, (i : Int) < n → I i acc O2 → Turn1 X scope (c.lock p (.lst acc)) ifs elt (G.set j (some (.dat (.int i)))) O2 acc (I (i + 1))) ∧
      (∀ p acc O2, I n.toNat acc O2 → k (.val (.ref p)) (O2 ++ [(p, .lst acc)]))) :
    LV (tLc (iRng1 (wA X [a])) (gName j) (aT X scope ifs) (aE X scope elt) [j]) c G O k := fun σ H Q s q => h σ H _ s fun vs ds O1 H1 hk hs rv => by
  obtain ⟨n, rfl, hn1, hn2, h0, ht, he⟩ := hk
  obtain ⟨v, rfl, r⟩ := svs1 rv
  refine ⟨n, by rw [dp_int r], by omega, by omega, fun Da hDa => ?_⟩
  refine lc_range (lo := 0) (n := n.toNat) (fun i H' => ∃ acc O', I i acc O' ∧ S (c.lock Da (.lst acc)) G O' σ H') ⟨[], O1, h0, (hs.add (w := .lst []) hDa ⟨[], rfl, .nil⟩).hide⟩
    (fun i H' hi ⟨acc, O', hI, hs'⟩ => ?_) (fun H' ⟨acc, O', hI, hs'⟩ => q _ _ _ _ (he Da acc O' hI) (hs'.show.pin rfl))
  have e0 : (0 : Int) + (i : Int) = (i : Int) := Int.zero_add _
  rw [e0]
  exact lc_step hj hs' (Dp.int _) (ht Da i acc O' (by omega) hI) fun acc' O2 H2 hI2 hs2 => ⟨acc', O2, hI2, hs2⟩
theorem lv_R2 (I : Nat → List D → Oty → Prop) (hj : G[j]? = some none)
    (h : EA X c [a, b] G O fun ds O1 => ∃ l n : Int, ds = [.dat (.int l), .dat (.int n)] ∧ (-1000000000 ≤ l ∧ l ≤ 1000000000 ∧ -1000000000 ≤ n ∧ n ≤ 1000000000) ∧ I 0 [] O1 ∧
      (∀ p (i : Nat) acc O2, l + (i : Int) < n → I i acc O2 → Turn1 X scope (c.lock p (.lst acc)) ifs elt (G.set j (some (.dat (.int (l + i))))) O2 acc (I (i + 1))) ∧
      (∀ p acc O2, I (n - l).toNat acc O2 → k (.val (.ref p)) (O2 ++ [(p, .lst acc)]))) :
    LV (tLc (iRng2 (wA X [a, b])) (gName j) (aT X scope ifs) (aE X scope elt) [j]) c G O k := fun σ H Q s q => h σ H _ s fun vs ds O1 H1 hk hs rv => by
  obtain ⟨l, n, rfl, hn, h0, ht, he⟩ := hk
  obtain ⟨v, w, rfl, r, r'⟩ := svs2 rv
  refine ⟨l, n, by rw [dp_int r, dp_int r'], ⟨by omega, by omega, by omega, by omega⟩, fun Da hDa => ?_⟩
  refine lc_range (lo := l) (n := (n - l).toNat) (fun i H' => ∃ acc O', I i acc O' ∧ S (c.lock Da (.lst acc)) G O' σ H') ⟨[], O1, h0, (hs.add (w := .lst []) hDa ⟨[], rfl, .nil⟩).hide⟩
    (fun i H' hi ⟨acc, O', hI, hs'⟩ => ?_) (fun H' ⟨acc, O', hI, hs'⟩ => q _ _ _ _ (he Da acc O' hI) (hs'.show.pin rfl))
  exact lc_step hj hs' (Dp.int _) (ht Da i acc O' (by omega) hI) fun acc' O2 H2 hI2 hs2 => ⟨acc', O2, hI2, hs2⟩
/-- the list as data that nobody changes -/
def Frz (k : SV → Oty → Prop) : SV → Oty → Prop := fun d O => ∃ p acc O2, d = .val (.ref p) ∧ O = O2 ++ [(p, .lst acc)] ∧ k (.dat (.list acc)) O2
theorem frz {p : Addr} {acc : List D} (h : k (.dat (.list acc)) O) : Frz k (.val (.ref p)) (O ++ [(p, .lst acc)]) := ⟨p, acc, O, rfl, rfl, h⟩
theorem lv_frz {te : TE} (h : LV te c G O (Frz k)) : LV te c G O k := fun σ H Q s q => h σ H Q s fun v d O' H' hk hs => by
  obtain ⟨p, acc, O2, rfl, rfl, hk⟩ := hk
  have e : v = .ref p := hs.pinned
  have hn : (O2 ++ [(p, Ow.lst acc)])[O2.length]? = some (p, .lst acc) := by simp
  have ee : (O2 ++ [(p, Ow.lst acc)]).eraseIdx O2.length = O2 := by
    rw [List.eraseIdx_append_of_length_le (Nat.le_refl _), Nat.sub_self]
    show O2 ++ [] = O2
    rw [List.append_nil]
  have s1 := hs.unpin.drop O2.length
  have s2 := hs.unpin.freeze hn
  rw [ee] at s1 s2
  rw [e]
  exact q _ _ _ _ hk (s1.pin s2)
/-- the same of an own list that an expression gives -/
theorem ev_frz {e : Expr} (h : EV X c e G O (Frz k)) : EV X c e G O k := fun σ H Q s q => lv_frz (te := wE X e) h σ H Q s q
variable {wi : TI}
/-- as a value -/
theorem ev_lc (hc : X.calm = true) (hN : X.N.Nodup) (hi : PI X (.Name x px) iter wi) (ok : BlkOk X.N X.env.scope scope [(x, j)]) (h : LV (tLc wi (gName j) (aT X scope ifs) (aE X scope elt) [j]) c G O k)
    (hg : ∀ (s : Shared) (H : Hp) (C : Addr) (cl : List (Str × Addr)) (fp : List Addr), PG (blkX X scope s H C cl fp) (.Name x px) (gName j)) (hs : ∀ x, foldedSetIterable iter X.env x = pure x := by intro _; rfl) :
    EV X c (.ListComp elt [⟨.Name x px, iter, ifs, 0⟩] scope pos) G O k := fun σ H Q s q =>
  wE_of (pe_lc (own := [(x, j)]) hc hN hi ok hg pts_a pe_a hs) (h σ H Q s q)
/-- y = [..] -/
theorem st_setLc {i : Nat} {y : Str} {py spos : Pos} {κ : Ko} (hc : X.calm = true) (hN : X.N.Nodup) (hsw : swapsWith (.ListComp elt [⟨.Name x px, iter, ifs, 0⟩] scope pos) (some (.Name y py)) spos.line X.env = pure true) (hi : PI X (.Name x px) iter wi) (ok : BlkOk X.N X.env.scope scope [(x, j)])
    (h : LV (tLc wi (gName j) (aT X scope ifs) (aE X scope elt) [j]) c G O fun d O' => κ.nx (G.set i (some d)) O') (hg : ∀ (s : Shared) (H : Hp) (C : Addr) (cl : List (Str × Addr)) (fp : List Addr), PG (blkX X scope s H C cl fp) (.Name x px) (gName j))
    (hy : X.N[i]? = some y := by rfl) (hyl : X.env.scope.names.lookup y = some .local := by rfl) (hs : ∀ x, foldedSetIterable iter X.env x = pure x := by intro _; rfl) :
    ST X c (.Assign [.Name y py] (.ListComp elt [⟨.Name x px, iter, ifs, 0⟩] scope pos) spos) G O κ := fun σ H s =>
  wS_of (ps_setLc (own := [(x, j)]) hc hN hy hyl hsw hi ok hg pts_a pe_a hs) (h σ H _ s fun v d O' H' hk hs => ⟨_, O', hk, hs.unpin.set i hs.pinned⟩)
end
end OR

set_option Elab.async false
set_option linter.all false
set_option maxRecDepth 100000
set_option maxHeartbeats 2000000
namespace OR
open PySem PySem.Spec PyProof.Rows L2
/-! ### the promises of defs -/
abbrev XKo := Addr → List (Str × V) → Prop
/-- what a def promises, told of data: the arguments, the own objects handed in, what is wanted of the result (the value, the handed-in objects, new own objects), what may be raised -/
abbrev RO := List SV → Oty → (SV → Oty → Oty → Prop) → XKo → Prop
abbrev c0 (K : PySem.W.Frag) (T : List (Addr × Str)) (H : Hp) (M : List Addr) (B : Oty) : Cc := ⟨K, T, H, M, B.map (·.1), [], []⟩
def spO (K : PySem.W.Frag) (T : List (Addr × Str)) (R : RO) : Sp := fun vs H Q E =>
  ∃ (M : List Addr) (ds : List SV) (B : Oty) (k : SV → Oty → Oty → Prop) (xk : XKo), S (c0 K T H M B) [] B [] H ∧ SVs K (fz (mm (c0 K T H M B) B) H) vs ds ∧ R ds B k xk ∧
    (∀ v d B' N H', k d B' N → B'.map (·.1) = B.map (·.1) → S ((c0 K T H M B).pin v d) [] (B' ++ N) [] H' → Q v H') ∧
    (∀ C dx fs H', xk C fs → Mv (B.map (·.1)) H H' → LamX.Tabs T H' → H' dx = some (.xd fs) → E (.ref C) (some dx) H')
section
variable {c : Cc} {G : Gty} {O : Oty} {σ : L2.St} {H H' : Hp}
abbrev outM (c : Cc) (A C : Oty) : List Addr := c.M0 ++ (c.L.map (·.1) ++ (A.map (·.1) ++ C.map (·.1)))
theorem mm_out {A B C : Oty} {b : Addr} : b ∈ mm (c0 c.K c.T H (outM c A C) B) B ↔ b ∈ mm c (A ++ (B ++ C)) := by
  simp only [mm, outM, List.mem_append, List.map_append, List.map_nil, List.not_mem_nil, false_or]
  constructor
  · rintro ((h | h | h | h) | h)
    · exact .inl h
    · exact .inr (.inl h)
    · exact .inr (.inr (.inl h))
    · exact .inr (.inr (.inr (.inr h)))
    · exact .inr (.inr (.inr (.inl h)))
  · rintro (h | h | h | h | h)
    · exact .inl (.inl h)
    · exact .inl (.inr (.inl h))
    · exact .inl (.inr (.inr (.inl h)))
    · exact .inr h
    · exact .inl (.inr (.inr (.inr h)))
theorem mem_in {A B C : Oty} {b : Addr} (h : b ∈ B.map (·.1)) : b ∈ mm c (A ++ (B ++ C)) := by
  simp only [mm, List.mem_append, List.map_append]
  exact .inr (.inr (.inr (.inl h)))
/-- the callee's entry -/
theorem S.enter {A B C : Oty} (s : S c G (A ++ (B ++ C)) σ H) : S (c0 c.K c.T H (outM c A C) B) [] B [] H := by
  have ef : fz (mm (c0 c.K c.T H (outM c A C) B) B) H = fz (mm c (A ++ (B ++ C))) H := fz_congr fun _ => mm_out
  have nd := s.nd
  rw [List.map_append, List.map_append] at nd
  have nB : (B.map (·.1)).Nodup := (List.nodup_append.mp (List.nodup_append.mp (List.nodup_append.mp nd).2.1).2.1).1
  refine ⟨s.tb, .refl, by simpa using nB, fun p hp => .inl (by simpa using hp), fun p hp hm => ?_, fun p hp => (by simp at hp), fun p hp => ?_, fun a ha => ?_, fun i d e => (by simp at e), rfl, fun p hp => (by simp at hp)⟩
  · have hB : p ∈ B.map (·.1) := by simpa using hp
    have hBO : p ∈ (A ++ (B ++ C)).map (·.1) := by simp only [List.map_append, List.mem_append]; exact .inr (.inl hB)
    have hm' : p ∈ outM c A C := hm
    rcases List.mem_append.mp hm' with h | h
    · exact s.dj p (List.mem_append_right _ hBO) h
    · rcases List.mem_append.mp h with h | h
      · exact (List.nodup_append.mp s.nd).2.2 p h p hBO rfl
      · have n2 := (List.nodup_append.mp nd).2.1
        rcases List.mem_append.mp h with h | h
        · exact (List.nodup_append.mp n2).2.2 p h p (List.mem_append_left _ hB) rfl
        · exact (List.nodup_append.mp (List.nodup_append.mp n2).2.1).2.2 p hB p h rfl
  · rw [ef]
    exact s.ow p (by simp [hp])
  · refine s.there a ?_
    unfold mm
    simp only [List.mem_append, List.map_append]
    have ha' : a ∈ outM c A C := ha
    unfold outM at ha'
    simp only [List.mem_append] at ha'
    rcases ha' with h | h | h | h
    · exact .inl h
    · exact .inr (.inl h)
    · exact .inr (.inr (.inl h))
    · exact .inr (.inr (.inr (.inr h)))
theorem enter_fz {A B C : Oty} : fz (mm (c0 c.K c.T H (outM c A C) B) B) H = fz (mm c (A ++ (B ++ C))) H := fz_congr fun _ => mm_out
theorem fst_eq {B B' : Oty} (h : B'.map (·.1) = B.map (·.1)) {p : Addr} : p ∈ B'.map (·.1) ↔ p ∈ B.map (·.1) := by rw [h]
theorem mv_out {A B C : Oty} (s : S c G (A ++ (B ++ C)) σ H) (m : Mv (B.map (·.1)) H H') : Mv c.W c.H0 H' := fun b o hb e n => by
  have h1 := s.mv b o hb e n
  refine m b o (fun z => ?_) h1 n
  rcases s.nw b (List.mem_append_right _ (by simp only [List.map_append, List.mem_append]; exact .inr (.inl z))) with q | q
  · exact hb q
  · obtain ⟨ps, q⟩ := q o e
    exact n ps q
/-- behind the callee -/
theorem S.back {A B B' C N : Oty} {v : V} {d : SV} (s : S c G (A ++ (B ++ C)) σ H) (hB : B'.map (·.1) = B.map (·.1)) (t : S ((c0 c.K c.T H (outM c A C) B).pin v d) [] (B' ++ N) [] H') :
    S (c.pin v d) G (A ++ (B' ++ C) ++ N) σ H' := by
  have m : Mv (B.map (·.1)) H H' := t.mv
  have nd := s.nd
  have tn : (B.map (·.1) ++ N.map (·.1)).Nodup := by
    have q := t.nd
    rw [List.map_append, hB] at q
    exact q
  have fN : ∀ p ∈ N.map (·.1), p ∉ mm c (A ++ (B ++ C)) := fun p hp hm => by
    have q := (mm_out (H := H)).mpr hm
    rcases List.mem_append.mp q with h | h
    · exact t.dj p (List.mem_append_right _ (by rw [List.map_append]; exact List.mem_append_right _ hp)) h
    · have h' : p ∈ B.map (·.1) := by simpa using h
      exact (List.nodup_append.mp tn).2.2 p h' p hp rfl
  have ef : fz (mm (c0 c.K c.T H (outM c A C) B) (B' ++ N)) H' = fz (mm c (A ++ (B' ++ C) ++ N)) H' := fz_congr fun b => by
    simp only [mm, outM, List.mem_append, List.map_append, List.map_nil, List.not_mem_nil, false_or]
    constructor
    · rintro ((h | h | h | h) | h | h)
      · exact .inl h
      · exact .inr (.inl h)
      · exact .inr (.inr (.inl (.inl h)))
      · exact .inr (.inr (.inl (.inr (.inr h))))
      · exact .inr (.inr (.inl (.inr (.inl h))))
      · exact .inr (.inr (.inr h))
    · rintro (h | h | (h | h | h) | h)
      · exact .inl (.inl h)
      · exact .inl (.inr (.inl h))
      · exact .inl (.inr (.inr (.inl h)))
      · exact .inr (.inl h)
      · exact .inl (.inr (.inr (.inr h)))
      · exact .inr (.inr h)
  have nwN : ∀ p ∈ N.map (·.1), ∀ o, H p = some o → ∃ ps, o = .tbl ps := fun p hp => by
    rcases t.nw p (List.mem_append_right _ (by rw [List.map_append]; exact List.mem_append_right _ hp)) with q | q
    · exact absurd rfl ((List.nodup_append.mp tn).2.2 p q p hp)
    · exact q
  have kf : Ke (fz (mm c (A ++ (B ++ C))) H) (fz (mm c (A ++ (B' ++ C) ++ N)) H') := fun b o _ e n => by
    obtain ⟨h1, h2⟩ := fz_some e
    have hb : b ∉ B.map (·.1) := fun z => h1 (mem_in z)
    rw [fz_out fun z => ?_]
    · exact m b o hb h2 n
    · rw [show mm c (A ++ (B' ++ C) ++ N) = c.M0 ++ (c.L.map (·.1) ++ (A ++ (B' ++ C) ++ N).map (·.1)) from rfl] at z
      have : b ∈ mm c (A ++ (B ++ C)) ∨ b ∈ N.map (·.1) := by
        simp only [mm, List.map_append, List.mem_append] at z ⊢
        rw [fst_eq hB] at z
        rcases z with h | h | (h | h | h) | h
        · exact .inl (.inl h)
        · exact .inl (.inr (.inl h))
        · exact .inl (.inr (.inr (.inl h)))
        · exact .inl (.inr (.inr (.inr (.inl h))))
        · exact .inl (.inr (.inr (.inr (.inr h))))
        · exact .inr h
      rcases this with q | q
      · exact h1 q
      · obtain ⟨ps, q⟩ := nwN b q o h2
        exact n ps q
  have em : (A ++ (B' ++ C) ++ N).map (·.1) = (A ++ (B ++ C)).map (·.1) ++ N.map (·.1) := by simp only [List.map_append, hB]
  have old : ∀ {p : Addr} {w : Ow}, p ∉ B.map (·.1) → (∃ o, H p = some o ∧ OwAt c.K (fz (mm c (A ++ (B ++ C))) H) o w) → ∃ o, H' p = some o ∧ OwAt c.K (fz (mm c (A ++ (B' ++ C) ++ N)) H') o w := fun hp ⟨o, h1, h2⟩ => ⟨o, m _ o hp h1 (owAt_tbl h2), owAt_ke kf h2⟩
  have nd2 := nd
  rw [List.map_append, List.map_append] at nd2
  have ndO := (List.nodup_append.mp nd2).2.1
  have mo := mv_out s m
  suffices base : S c G (A ++ (B' ++ C) ++ N) σ H' by
    refine base.pin ?_
    have q := t.pinned
    rw [← ef]
    exact q
  have t := t.unpin
  refine ⟨t.tb, mo, ?_, fun p hp => ?_, fun p hp => ?_, fun p hp => ?_, fun p hp => ?_, fun a ha => ?_, fun i e hi => ?_, s.ln, fun p hp => ?_⟩
  · rw [em, ← List.append_assoc]
    refine List.nodup_append.mpr ⟨nd, (List.nodup_append.mp tn).2.1, fun a ha b hb z => fN b hb ?_⟩
    rw [← z]
    exact List.mem_append_right _ ha
  · rw [em, ← List.append_assoc] at hp
    rcases List.mem_append.mp hp with hp | hp
    · exact s.nw p hp
    · by_cases hw : p ∈ c.W
      · exact .inl hw
      · refine .inr fun o e => ?_
        by_cases hn : ∃ ps, o = .tbl ps
        · exact hn
        · have h1 := s.mv p o hw e fun ps z => hn ⟨ps, z⟩
          exact nwN p hp o h1
  · rw [em, ← List.append_assoc] at hp
    rcases List.mem_append.mp hp with hp | hp
    · exact s.dj p hp
    · exact fun z => fN p hp (List.mem_append_left _ z)
  · refine old (fun z => ?_) (s.lk p hp)
    exact (List.nodup_append.mp nd2).2.2 p.1 (List.mem_map.mpr ⟨p, hp, rfl⟩) p.1 (List.mem_append_right _ (List.mem_append_left _ z)) rfl
  · rcases List.mem_append.mp hp with hp | hp
    · rcases List.mem_append.mp hp with hp | hp
      · refine old (fun z => ?_) (s.ow p (List.mem_append_left _ hp))
        exact (List.nodup_append.mp ndO).2.2 p.1 (List.mem_map.mpr ⟨p, hp, rfl⟩) p.1 (List.mem_append_left _ z) rfl
      · rcases List.mem_append.mp hp with hp | hp
        · rw [← ef]
          exact t.ow p (List.mem_append_left _ hp)
        · refine old (fun z => ?_) (s.ow p (List.mem_append_right _ (List.mem_append_right _ hp)))
          exact (List.nodup_append.mp (List.nodup_append.mp ndO).2.1).2.2 p.1 z p.1 (List.mem_map.mpr ⟨p, hp, rfl⟩) rfl
    · rw [← ef]
      exact t.ow p (List.mem_append_right _ hp)
  · obtain ⟨o, h1, h2⟩ := s.lv a ha
    refine ⟨o, m a o (fun z => ?_) h1 h2, h2⟩
    exact s.dj a (List.mem_append_right _ (by simp only [List.map_append, List.mem_append]; exact .inr (.inl z))) ha
  · obtain ⟨v, h1, h2⟩ := s.en i e hi
    exact ⟨v, h1, svr_ke kf h2⟩
  · exact p.m _ _ _ kf (s.pi p hp)
/-- behind a callee that let an exception out -/
theorem S.fail {A B C : Oty} (s : S c G (A ++ (B ++ C)) σ H) (m : Mv (B.map (·.1)) H H') (tb : LamX.Tabs c.T H') : S c G (A ++ C) σ H' := by
  have sub : ((A ++ C).map (·.1)).Sublist ((A ++ (B ++ C)).map (·.1)) := ((List.Sublist.refl A).append (List.sublist_append_right B C)).map _
  have sm : ∀ p ∈ (A ++ C), p ∈ A ++ (B ++ C) := fun p hp => ((List.Sublist.refl A).append (List.sublist_append_right B C)).subset hp
  have nd2 := s.nd
  rw [List.map_append, List.map_append] at nd2
  have ndO := (List.nodup_append.mp nd2).2.1
  have kf : Ke (fz (mm c (A ++ (B ++ C))) H) (fz (mm c (A ++ C)) H') := fun b o _ e n => by
    obtain ⟨h1, h2⟩ := fz_some e
    have hb : b ∉ B.map (·.1) := fun z => h1 (mem_in z)
    rw [fz_out fun z => h1 ?_]
    · exact m b o hb h2 n
    · unfold mm at z ⊢
      rcases List.mem_append.mp z with z | z
      · exact List.mem_append_left _ z
      · rcases List.mem_append.mp z with z | z
        · exact List.mem_append_right _ (List.mem_append_left _ z)
        · exact List.mem_append_right _ (List.mem_append_right _ (sub.subset z))
  have old : ∀ {p : Addr} {w : Ow}, p ∉ B.map (·.1) → (∃ o, H p = some o ∧ OwAt c.K (fz (mm c (A ++ (B ++ C))) H) o w) → ∃ o, H' p = some o ∧ OwAt c.K (fz (mm c (A ++ C)) H') o w := fun hp ⟨o, h1, h2⟩ => ⟨o, m _ o hp h1 (owAt_tbl h2), owAt_ke kf h2⟩
  refine ⟨tb, mv_out s m, s.nd.sublist ((List.Sublist.refl _).append sub), fun p hp => s.nw p ?_, fun p hp => s.dj p ?_, fun p hp => ?_, fun p hp => ?_, fun a ha => ?_, fun i e hi => ?_, s.ln, fun p hp => p.m _ _ _ kf (s.pi p hp)⟩
  · rcases List.mem_append.mp hp with hp | hp
    · exact List.mem_append_left _ hp
    · exact List.mem_append_right _ (sub.subset hp)
  · rcases List.mem_append.mp hp with hp | hp
    · exact List.mem_append_left _ hp
    · exact List.mem_append_right _ (sub.subset hp)
  · refine old (fun z => ?_) (s.lk p hp)
    exact (List.nodup_append.mp nd2).2.2 p.1 (List.mem_map.mpr ⟨p, hp, rfl⟩) p.1 (List.mem_append_right _ (List.mem_append_left _ z)) rfl
  · refine old (fun z => ?_) (s.ow p (sm p hp))
    rcases List.mem_append.mp hp with hp | hp
    · exact (List.nodup_append.mp ndO).2.2 p.1 (List.mem_map.mpr ⟨p, hp, rfl⟩) p.1 (List.mem_append_left _ z) rfl
    · exact (List.nodup_append.mp (List.nodup_append.mp ndO).2.1).2.2 p.1 z p.1 (List.mem_map.mpr ⟨p, hp, rfl⟩) rfl
  · obtain ⟨o, h1, h2⟩ := s.lv a ha
    refine ⟨o, m a o (fun z => ?_) h1 h2, h2⟩
    exact s.dj a (List.mem_append_right _ (by simp only [List.map_append, List.mem_append]; exact .inr (.inl z))) ha
  · obtain ⟨v, h1, h2⟩ := s.en i e hi
    exact ⟨v, h1, svr_ke kf h2⟩
end
/-- what may be raised here: of which class, which fields, at which slots and own objects -/
def Let (X : Cx) (c : Cc) (xk : Addr → List (Str × V) → Gty → Oty → Prop) : Prop :=
  ∃ W : WX, Takes X W ∧ ∀ C dx fs G O σ H, xk C fs G O → S c G O σ H → H dx = some (.xd fs) → W (.ref C) (some dx) σ H
def xno : Addr → List (Str × V) → Gty → Oty → Prop := fun _ _ _ _ => False
theorem let0 {X : Cx} {c : Cc} : Let X c xno := ⟨_, takes0, fun _ _ _ _ _ _ _ z => z.elim⟩
theorem Let.pn {X : Cx} {c : Cc} {xk : Addr → List (Str × V) → Gty → Oty → Prop} (h : Let X c xk) {q : Pn} : Let X (c.pn q) xk := by
  obtain ⟨W, h1, h2⟩ := h
  exact ⟨W, h1, fun C dx fs G O σ H a b e => h2 C dx fs G O σ H a b.unpin e⟩
/-- positional values and n keywords' values, in order -/
def kwG {α : Type} (n : Nat) (a b : List α) : List α := if b.length = n then a ++ b else []
/-- a def's promise under its name -/
structure CalO (P : Program) (w : World) (K : PySem.W.Frag) (mg : Str → Option Value) (base : Heap) (T : List (Addr × Str)) (k : Nat) (x : Str) (R : RO) (kss : List (List Str)) : Prop where
  ex : ∃ (f : Addr) (fd : FuncData) (ps : List Str), FnOk P w K mg base (L2.CX P w) k f fd ps (spO K T R) ∧ mg x = some (.ref f) ∧ PySem.W.keepIn K (.ref f) = true ∧ Binds K fd ps [] ∧ ∀ ks ∈ kss, KBinds K fd ps ks (kwG ks.length) (kwG ks.length)
section
variable {X : Cx} {c : Cc} {G : Gty} {O : Oty} {e : Expr} {es : List Expr} {pos p : Pos} {k : SV → Oty → Prop} {x : Str} {kk j : Nat} {R : RO} {kss : List (List Str)} {xk : Addr → List (Str × V) → Gty → Oty → Prop}
theorem svs_append {K : PySem.W.Frag} {F : Hp} : ∀ {vs ws : List V} {ds es : List SV}, SVs K F vs ds → SVs K F ws es → SVs K F (vs ++ ws) (ds ++ es)
  | [], _, [], _, .nil, b => b
  | _ :: _, _, _ :: _, _, .cons h a, b => .cons h (svs_append a b)
/-- what is wanted at a call -/
def CallK (X : Cx) (c : Cc) (R : RO) (ds : List SV) (G : Gty) (O : Oty) (k : SV → Oty → Prop) (xk : Addr → List (Str × V) → Gty → Oty → Prop) : Prop :=
  ∃ (A B C : Oty) (k' : SV → Oty → Oty → Prop) (xk' : XKo), O = A ++ (B ++ C) ∧ R ds B k' xk' ∧ (∀ d B' N, k' d B' N → B'.map (·.1) = B.map (·.1) → k d (A ++ (B' ++ C) ++ N)) ∧ ∀ C' fs, xk' C' fs → xk C' fs G (A ++ C)
theorem CallK.sp {ds : List SV} {σ : L2.St} {H : Hp} {vs : List V} {Q : VK} {W : WX} (h : CallK X c R ds G O k xk) (s : S c G O σ H) (r : SVs c.K (fz (mm c O) H) vs ds) (q : ∀ v d O' H', k d O' → S (c.pin v d) G O' σ H' → Q v H')
    (hw : ∀ C dx fs G O σ H, xk C fs G O → S c G O σ H → H dx = some (.xd fs) → W (.ref C) (some dx) σ H) : spO c.K c.T R vs H Q (WE W σ) := by
  obtain ⟨A, B, C, k', xk', rfl, hR, hk, hx⟩ := h
  refine ⟨outM c A C, ds, B, k', xk', s.enter, by rw [enter_fz]; exact r, hR, fun v d B' N H' kd e t => q v d _ H' (hk d B' N kd e) (s.back e t), fun C' dx fs H' hxk m tb ed => hw C' dx fs G (A ++ C) σ H' (hx C' fs hxk) (s.fail m tb) ed⟩
theorem CallK.sp' {K : PySem.W.Frag} (hK : K = c.K) {ds : List SV} {σ : L2.St} {H : Hp} {vs : List V} {Q : VK} {W : WX} (h : CallK X c R ds G O k xk) (s : S c G O σ H) (r : SVs c.K (fz (mm c O) H) vs ds) (q : ∀ v d O' H', k d O' → S (c.pin v d) G O' σ H' → Q v H')
    (hw : ∀ C dx fs G O σ H, xk C fs G O → S c G O σ H → H dx = some (.xd fs) → W (.ref C) (some dx) σ H) : spO K c.T R vs H Q (WE W σ) := by
  subst hK
  exact h.sp s r q hw
theorem ev_call (cal : CalO X.prog X.w X.K X.mg X.base c.T kk x R kss) (hr : Room j X.A) (hk : kk ≤ j) (lt : Let X c xk) (h : EA X c (e :: es) G O fun ds O1 => CallK X c R ds G O1 k xk) (hK : X.K = c.K := by rfl) (hg : Gl X x := by rfl)
    (hdb : (x == ("__debug__" : Str)) = false := by decide) (he : starEach (e :: es) X.env = (false, eval e X.env) :: starEach es X.env := by rfl) (hpl : (backTo pos (starEach es X.env)).any (·.1) = false := by rfl) :
    EV X c (.Call (.Name x p) (e :: es) [] pos) G O k := fun σ H Q s q => by
  obtain ⟨f, fd, ps, F, hm, kp, b, _⟩ := cal.ex
  obtain ⟨W, tk, hw⟩ := lt
  refine wE_of (pe_callS F (hr.mono hk) hg hm kp b (fun σ => passAt tk σ) pa_w hdb he hpl) (h σ H _ s fun vs ds O1 H1 hk hs rv => ?_)
  exact CallK.sp' (Q := Q) hK hk hs rv q hw
variable {kws : List Keyword} {ks : List Str}
def wK (X : Cx) (es : List Keyword) : TA := fun σ H Q => ∀ (pos : Pos) (pins : List (Addr × Obj)) (s : Shared), Inv X pins σ H s → wpAny (model X.prog X.w) X.A (evalAll ((backToKw pos (keywordEach es X.env)).map (·.2))) (AP X pins σ Q) X.xe s
end
end OR

set_option Elab.async false
set_option linter.all false
set_option maxRecDepth 100000
set_option maxHeartbeats 2000000
namespace OR
open PySem PySem.Spec PyProof.Rows L2
/-! ### keywords -/
section
variable {X : Cx} {c : Cc} {G : Gty} {O : Oty} {e a : Expr} {es : List Expr} {pos p : Pos} {k : SV → Oty → Prop} {x : Str} {kk j : Nat} {R : RO} {kss : List (List Str)} {xk : Addr → List (Str × V) → Gty → Oty → Prop} {kws : List Keyword} {ks : List Str} {kpos : Pos} {nm : Option Str}
def EK (X : Cx) (c : Cc) (es : List Keyword) (G : Gty) (O : Oty) (k : List SV → Oty → Prop) : Prop := ∀ (σ : L2.St) (H : Hp) (Q : List V → Hp → Prop), S c G O σ H → (∀ vs ds O' H', k ds O' → S c G O' σ H' → SVs c.K (fz (mm c O') H') vs ds → Q vs H') → wK X es σ H Q
theorem pk_w : PK X kws (wK X kws) := ⟨fun pos pins s _ _ _ I h => h pos pins s I⟩
theorem wK_of {t : TA} (h : PK X kws t) {σ : L2.St} {H : Hp} {Q : List V → Hp → Prop} (q : t σ H Q) : wK X kws σ H Q := fun pos pins s I => h.run pos pins s σ H Q I q
theorem ek_one (h : EV X c e G O fun d O' => ka [d] O') : EK X c [⟨nm, e, kpos⟩] G O ka := fun σ H Q s q =>
  wK_of (pk_cons pe_w pk_nil) (h σ H _ s fun v d O' H' hk hs => q [v] [d] O' H' hk hs.unpin (.cons hs.pinned .nil))
def tCallKS (n : Nat) (sp : Sp) (E : L2.St → XK) (t tk : TA) : TE := fun σ H Q => t σ H fun vs H1 => tk σ H1 fun zs H2 => zs.length = n ∧ sp (vs ++ zs) H2 Q (E σ)
theorem run_fnkS {CX : CXT} {f : Addr} {fd : FuncData} {ps : List Str} {sp : Sp} {E : L2.St → XK} {pins : List (Addr × Obj)} {σ : L2.St} {H : Hp} {s : Shared} {Q : VK} {us ws : List Value} {vs zs : List V} (F : FnOk X.prog X.w X.K X.mg X.base CX kk f fd ps sp) (hr : Room kk X.A) (hb : KBinds X.K fd ps ks (kwG ks.length) (kwG ks.length)) (hx : PassesAt CX X σ (E σ))
    (I : Inv X pins σ H s) (r : Vals vs us) (rz : Vals zs ws) (hn : zs.length = ks.length) (h : sp (vs ++ zs) H Q (E σ)) : wpAny (model X.prog X.w) X.A (call (.ref f) us (ks.zip ws)) (EP X pins σ Q) X.xe s := by
  have hn2 : ws.length = ks.length := by rw [← rz.length]; exact hn
  have e1 : kwG ks.length vs zs = vs ++ zs := if_pos hn
  have e2 : kwG ks.length us ws = us ++ ws := if_pos hn2
  have r2 := hb.rel r rz
  have b2 := hb.to s us ws I.kIn
  rw [e1, e2] at r2
  rw [e2] at b2
  have hl : (us ++ ws).length = ps.length := by rw [← r2.length]; exact F.len _ _ _ _ h
  refine wpAny_call (codeAny_mono (F.run X.A X.stack s H ⟨us, ks.zip ws⟩ (us ++ ws) (vs ++ zs) Q (E σ) hr I.env0 (b2 hl) r2 h) fun r s' hq => ?_)
  cases r with
  | error e => exact hx pins H s e s' I hq
  | ok fl =>
    cases fl with
    | ret u => exact I.after hq
    | next => exact False.elim hq
    | brk => exact False.elim hq
    | cont => exact False.elim hq
theorem pe_callKS {CX : CXT} {f : Addr} {fd : FuncData} {ps : List Str} {sp : Sp} {E : L2.St → XK} {t tk : TA} (F : FnOk X.prog X.w X.K X.mg X.base CX kk f fd ps sp) (hr : Room kk X.A) (hg : Gl X x) (hm : X.mg x = some (.ref f)) (hk : PySem.W.keepIn X.K (.ref f) = true) (hb : KBinds X.K fd ps ks (kwG ks.length) (kwG ks.length)) (hx : ∀ σ, PassesAt CX X σ (E σ))
    (ha : PA X (e :: es) t) (hkw : PK X kws tk) (hall : (backToKw pos (keywordEach kws X.env)).all (·.1.isSome) = true) (hks : (backToKw pos (keywordEach kws X.env)).filterMap (·.1) = ks)
    (hdb : (x == ("__debug__" : Str)) = false) (he : starEach (e :: es) X.env = (false, eval e X.env) :: starEach es X.env)
    (hpl : ((backTo pos (starEach (e :: es) X.env)).any (·.1) || (backToKw pos (keywordEach kws X.env)).any (·.1.isNone)) = false) :
    PE X (.Call (.Name x p) (e :: es) kws pos) (tCallKS ks.length sp E t tk) := by
  refine ⟨fun pins s σ H Q I h => ?_⟩
  refine wpAny_Call_Name_kw (ld_glob I hg hm ?_ hdb)
  refine PySem.W.callWith_KW (h₀ := X.base) I.ok.mod.kin hk hall (thn (ha.run pos pins s σ H _ I h) fun us s1 ⟨vs, H1, I1, r, q⟩ => ?_) hpl he
  refine thn (hkw.run pos pins s1 σ H1 _ I1 q) fun ws s2 ⟨zs, H2, I2, rz, q2⟩ => ⟨I2.kIn, ?_⟩
  rw [hks]
  exact run_fnkS F hr hb (hx σ) I2 r rz q2.1 q2.2
/-- the facts of F' lie in all later heaps: arguments told before the keywords -/
def pnVs (vs : List V) (ds : List SV) : Pn := ⟨fun K F => SVs K F vs ds, fun _ _ _ e h => svs_ke e h⟩
theorem ev_callK (cal : CalO X.prog X.w X.K X.mg X.base c.T kk x R kss) (hr : Room j X.A) (hk : kk ≤ j) (lt : Let X c xk) (hks : ks ∈ kss) (h : EA X c (e :: es) G O fun ds O1 => ∀ q, EK X (c.pn q) kws G O1 fun es O2 => es.length = ks.length ∧ CallK X c R (ds ++ es) G O2 k xk) (hK : X.K = c.K := by rfl) (hg : Gl X x := by rfl)
    (hall : (backToKw pos (keywordEach kws X.env)).all (·.1.isSome) = true := by rfl) (hks' : (backToKw pos (keywordEach kws X.env)).filterMap (·.1) = ks := by rfl)
    (hdb : (x == ("__debug__" : Str)) = false := by decide) (he : starEach (e :: es) X.env = (false, eval e X.env) :: starEach es X.env := by rfl)
    (hpl : ((backTo pos (starEach (e :: es) X.env)).any (·.1) || (backToKw pos (keywordEach kws X.env)).any (·.1.isNone)) = false := by rfl) :
    EV X c (.Call (.Name x p) (e :: es) kws pos) G O k := fun σ H Q s q => by
  obtain ⟨f, fd, ps, F, hm, kp, b, hkb⟩ := cal.ex
  obtain ⟨W, tk, hw⟩ := lt
  refine wE_of (pe_callKS F (hr.mono hk) hg hm kp (hkb ks hks) (fun σ => passAt tk σ) pa_w pk_w hall hks' hdb he hpl) (h σ H _ s fun vs ds O1 H1 hk hs rv => ?_)
  refine hk (pnVs vs ds) σ H1 _ (hs.hold rv) fun zs es O2 H2 k2 s2 r2 => ?_
  exact ⟨(svs_length r2).trans k2.1, CallK.sp' (Q := Q) hK k2.2 s2.unpin (svs_append s2.held r2) q hw⟩
/-! ### a def's body -/
/-- the ends of a body -/
def rtk (B : Oty) (k : SV → Oty → Oty → Prop) : SV → Oty → Prop := fun d O => ∃ B' N, O = B' ++ N ∧ B'.map (·.1) = B.map (·.1) ∧ k d B' N
theorem rtk0 {k : SV → Oty → Oty → Prop} {d : SV} (h : k d [] []) : rtk [] k d [] := ⟨[], [], rfl, rfl, h⟩
theorem rtk1 {k : SV → Oty → Oty → Prop} {d : SV} {B B' : Oty} (h : k d B' []) (e : B'.map (·.1) = B.map (·.1)) : rtk B k d B' := ⟨B', [], (List.append_nil _).symm, e, h⟩
theorem S.bare {v : V} {d : SV} {σ : L2.St} {H : Hp} (s : S (c.pin v d) G O σ H) : S (c.pin v d) [] O [] H :=
  ⟨s.tb, s.mv, s.nd, s.nw, s.dj, s.lk, s.ow, s.lv, fun i d e => (by simp at e), rfl, s.pi⟩
theorem svs_env {K : PySem.W.Frag} {F : Hp} : ∀ {vs : List V} {ds : List SV} (n : Nat) {i : Nat} {d : SV}, SVs K F vs ds → (ds.map some ++ List.replicate n none)[i]? = some (some d) → ∃ v, (vs.map some ++ List.replicate n none)[i]? = some (some v) ∧ SVr K F v d
  | [], _, n, i, d, .nil, e => by
    simp only [List.map_nil, List.nil_append, List.getElem?_replicate] at e
    split at e <;> cases e
  | v :: vs, d :: ds, n, 0, d', .cons h a, e => by
    simp at e
    subst e
    exact ⟨v, by simp, h⟩
  | v :: vs, d :: ds, n, i + 1, d', .cons h a, e => by
    obtain ⟨w, h1, h2⟩ := svs_env n (i := i) a (by simpa using e)
    exact ⟨w, by simpa using h1, h2⟩
variable {P : Program} {w : World} {K : PySem.W.Frag} {mg : Str → Option Value} {base : Heap} {T : List (Addr × Str)}
abbrev gst (N : List Str) (ds : List SV) : Gty := ds.map some ++ List.replicate (N.length - ds.length) none
abbrev bodyX (P : Program) (w : World) (K : PySem.W.Frag) (mg : Str → Option Value) (base : Heap) (N : List Str) (qual : Str) (st : Stmt) (f : Addr) (cdv : Value) (A : Around) (outer : List Env) (s : Shared) (H : Hp) (E : XK) : Cx :=
  cxOf (L2.CX P w) P w K mg base N qual (defScope st) f cdv A outer s H E
theorem okO {qual : Str} {st : Stmt} {f : Addr} {fd : FuncData} {N ps : List Str} (F : Fun K x qual st f fd) (sc : FnScope N ps (defScope st)) (len : ∀ ds B k xk, R ds B k xk → ds.length = ps.length)
    (hbody : ∀ (cdv : Value) (A : Around) (outer : List Env) (s : Shared) (H : Hp) (E : XK) (M : List Addr) (ds : List SV) (B : Oty) (k : SV → Oty → Oty → Prop) (xk : XKo), Room kk (bodyX P w K mg base N qual st f cdv A outer s H E).A →
      Let (bodyX P w K mg base N qual st f cdv A outer s H E) (c0 K T H M B) (fun C fs _ _ => xk C fs) → R ds B k xk →
      SS (bodyX P w K mg base N qual st f cdv A outer s H E) (c0 K T H M B) (defBody st) (gst N ds) B { nx := fun _ O => rtk B k (.dat .none) O, rt := rtk B k }) :
    FnOk P w K mg base (L2.CX P w) (kk + 1) f fd ps (spO K T R) := by
  have ll : ∀ vs H Q E, spO K T R vs H Q E → vs.length = ps.length := fun vs H Q E ⟨M, ds, B, k, xk, s, r, h, _⟩ => (svs_length r).trans (len _ _ _ _ h)
  refine F.okX sc ll fun cdv A outer s H vs Q E hr h => ?_
  have hl := ll vs H Q E h
  obtain ⟨M, ds, B, k, xk, s0, r, hR, hq, hx⟩ := h
  refine ⟨wSs _ _, pss_w, ?_⟩
  have hl2 := len _ _ _ _ hR
  have hs : S (c0 K T H M B) (gst N ds) B (L2.start N vs) H := ⟨s0.tb, s0.mv, s0.nd, s0.nw, s0.dj, s0.lk, s0.ow, s0.lv, fun i d e => by
      unfold L2.start
      rw [hl, ← hl2]
      exact svs_env _ r e, by
      unfold L2.start gst
      rw [hl, hl2, List.length_append, List.length_append, List.length_map, List.length_map, hl, hl2, List.length_replicate, List.length_replicate], s0.pi⟩
  refine wSs_mono (hbody cdv A outer s H E M ds B k xk hr ⟨_, takes_of rfl rfl rfl rfl, fun C dx fs G O σ H' z s1 ed => hx C dx fs H' z s1.mv s1.tb ed⟩ hR (L2.start N vs) H hs) (fun σ' H' ⟨G', O', q1, q2⟩ => ?_) (fun v H' ⟨σ', G', O', d, q1, q2⟩ => ?_) (fun _ _ q => ?_) (fun _ _ q => ?_)
  · obtain ⟨B', N', rfl, e, q1⟩ := q1
    exact hq .non (.dat .none) B' N' H' q1 e (q2.pin (v := .non) (d := .dat .none) Dp.non).bare
  · obtain ⟨B', N', rfl, e, q1⟩ := q1
    exact hq v d B' N' H' q1 e q2.bare
  · obtain ⟨_, _, z, _⟩ := q
    exact z
  · obtain ⟨_, _, z, _⟩ := q
    exact z
end
end OR

set_option Elab.async false
set_option linter.all false
set_option maxRecDepth 100000
set_option maxHeartbeats 4000000
/-! ### an own error whose __init__ says super().__init__('bad argument: ' + name), then self.name = name -/
namespace PySem
namespace OrX
open PySem.W PySem.Calls PyProof.Rows PySem.HandSPX
def iA (p1 p2 : Pos) : Arguments := { posonlyargs := [], args := [{ arg := "self", annotation := none, pos := p1 }, { arg := "name", annotation := none, pos := p2 }], vararg := none, kwonlyargs := [], kw_defaults := [], kwarg := none, defaults := [] }
def iB : List Stmt := [.Expr (.Call (.Attribute (.Call (.Name "super" ⟨5, 8, 5, 13⟩) [] [] ⟨5, 8, 5, 15⟩) "__init__" ⟨5, 8, 5, 24⟩)
    [.BinOp (.Constant (.str "bad argument: ") 0 ⟨5, 25, 5, 41⟩) .Add (.Name "name" ⟨5, 44, 5, 48⟩) ⟨5, 25, 5, 48⟩] [] ⟨5, 8, 5, 49⟩) ⟨5, 8, 5, 49⟩,
  .Assign [.Attribute (.Name "self" ⟨6, 8, 6, 12⟩) "name" ⟨6, 8, 6, 17⟩] (.Name "name" ⟨6, 20, 6, 24⟩) ⟨6, 8, 6, 24⟩]
def iS : Scope := { kind := .function, names := [(PySem.Str.ofString "self", .local), (PySem.Str.ofString "name", .local), (PySem.Str.ofString "__class__", .free), (PySem.Str.ofString "super", .globalImplicit)], isGenerator := false, isCoroutine := false, more := [] }
/-- what the written part says of BadArgument, at C, and of its __init__, at fI; cc: the cell of __class__; cda: its code object -/
structure BadTxt (P : Program) (K : Frag) (mg : Str → Option Value) (C fI : Addr) : Prop where
  gC : mg "BadArgument" = some (.ref C)
  sup : mg "super" = none
  cls : ∃ nm q N bs bm sn sub ab col dd k0 k1 k2 k3 k5, K.lookup C = some (excClassObj nm q C N bs bm true sn sub ab col dd k0 k1 k2 k3 k5 "ValueError.__new__") ∧ refsVE bm = true
  sa : findIn K (.ref C) "__setattr__" = some (some (.builtin "object.__setattr__"))
  ga : findIn K (.ref C) "__getattribute__" = some (some (.builtin "BaseException.__getattribute__"))
  gg : findIn K (.ref C) "__getattr__" = some none
  noN : findIn K (.ref C) "name" = some none
  iC : findIn K (.ref C) "__init__" = some (some (.ref fI))
  tC : typeIn K (.ref fI) = some (.type "function")
  kC : keepIn K (.ref C) = true
  exC : subIn K (.ref C) (.type "BaseException") = some true
  veC : subIn K (.ref C) (.type "ValueError") = some true
  tyC : typeIn K (.ref C) = some (.type "type")
  hdC : hasDictIn K C = true
  te : exmOne K (.ref C) (.ref C) = some true
  opq : nsIn K cStatics "thirdparty.any" = some none
  mro : mroIn K C (.ref C) = some true
  supI : ks_superIn K C C "__init__" = some (some (.builtin "ValueError.__init__"))
  top : (P.main.scope.names.lookup ("super" : Str)).isSome = false
  fn : ∃ (oc : Value) (od : Option Addr) (doc pm : Value) (an : Option Addr) (ct : Value) (osl : Array (Option Value)) (p1 p2 : Pos) (cc cda : Addr) (ccl cl : Value) (cdd cld : Option Addr) (ccs csl : Array (Option Value)) (vs : Array Value) (file : Str) (tf : Tok),
    K.lookup fI = some ⟨oc, od, .func (ksFn "__init__" "BadArgument.__init__" (iA p1 p2) iB iS .none .none doc pm an (.ref cda) ct cc), osl⟩ ∧ codeIn K (.ref cda) "BadArgument.__init__" = true ∧
    K.lookup cda = some ⟨ccl, cdd, .fields vs, ccs⟩ ∧ vs[2]? = some (.str file tf) ∧ ((P.main.file : Str) == file) = true ∧ K.lookup cc = some ⟨cl, cld, .cell (some (.ref C)), csl⟩
theorem one_size (v : Value) : [v].length ≤ sizeLine := by
  rw [sizeLine_eq]
  exact (by decide : 1 ≤ 16777216)
/-- what __init__ leaves of a fresh exception at x -/
structure InitEnd (h h' : Heap) (x C dx : Addr) (v : Value) : Prop where
  keep : ∀ b o, b ≠ x → h.get? b = some o → h'.get? b = some o
  obj : ∃ t1 : Addr, h'.get? x = some { cls := .ref C, dict := some dx, data := .fields #[.ref t1, .none, .none, .none, .bool false, .none] }
  dbig : h.objs.size ≤ dx
  dne : dx ≠ x
  ns : h'.Ns1 dx (fun y => if y = "name" then some v else none)
structure OwnMade (h h' : Heap) (e C d : Addr) (v : Value) : Prop where
  keep : ∀ b o, h.get? b = some o → h'.get? b = some o
  new : h.objs.size ≤ e
  obj : ∃ oe vs, h'.get? e = some oe ∧ oe.cls = .ref C ∧ oe.dict = some d ∧ oe.data = .fields vs ∧ vs[1]? = some .none
  dbig : h.objs.size ≤ d
  dne : d ≠ e
  ns : h'.Ns1 d (fun y => if y = "name" then some v else none)
section
variable {prog : Program} {w : World} {A : Around} {E : Value → Shared → Prop} {h : Heap} {g : Array GenState} {d : Drawn} {t : Nat} {os : OsState}
variable {nm q : Str} {C N : Addr} {bs bm : List Value} {hdct : Bool} {sn : List Str} {sub : List Value} {ab : Bool} {col : Option Bool} {dd : Option Addr} {k0 k1 k2 k3 k5 : Option Value}
theorem call_mw {u e t0 : Addr} {rest : List Value} {Q : Value → Shared → Prop}
    (hC : h.get? C = some (excClassObj nm q C N bs bm hdct sn sub ab col dd k0 k1 k2 k3 k5 "ValueError.__new__")) (he : h.get? e = some (HandSPX.excO C t0)) (hu : h.get? u = some (kxs_mw "ValueError.__init__" e)) (hrest : rest.length ≤ sizeLine)
    (hq : ∀ h' t1, (∀ b o, b ≠ e → h.get? b = some o → h'.get? b = some o) → h.objs.size ≤ h'.objs.size → h'.get? e = some (HandSPX.excO C t1) → Q .none ⟨h', g, d, t, os⟩) :
    wpAny (model prog w) A (call (.ref u) rest) Q E ⟨h, g, d, t, os⟩ := by
  refine wpAny_call (codeAny_of_tree ?_)
  show wpAny _ A.in1 (callAny (.ref u) ⟨rest, []⟩) _ _ _
  simp only [callAny]
  refine wpAny_bind (wpAny_load hu ?_)
  simp only [kxs_mw, show (Value.type "method-wrapper" == Value.type "method" || Value.type "method-wrapper" == Value.type "builtin_function_or_method" || Value.type "method-wrapper" == Value.type "method-wrapper") = true by decide, if_true]
  refine W.KFB.if_so (by decide) ?_
  refine wpAny_bind (check_bound_init F.excBase_ValueError.toExcCallFacts hC he rfl ?_)
  refine wpAny_bind (wpAny_pure (wpAny_pure ?_))
  refine ⟨Code.quiet_builtin _ (by decide +kernel), codeAny_builtin F.excBase_ValueError.initEntry ?_⟩
  rw [Around.under_plainId F.excBase_ValueError.init.plain _]
  wp_walk
  refine hq _ h.objs.size (fun b o hb ho => ?_) ?_ ?_
  · rw [Heap.get?_update_other _ _ (Ne.symm hb)]
    exact Heap.get?_push_of_some _ ho
  · simp
  · rw [Heap.get?_update_self _ (Heap.get?_push_of_some _ he) rfl]
    rfl
end
section
variable {prog : Program} {w : World} {A : Around} {E : Value → Shared → Prop} {R : Result → Shared → Prop} {s : Shared} {K : Frag} {mg : Str → Option Value} {C fI : Addr}
theorem ldN {M : Model} {s : Shared} {env : Env} {m : Str → Option Value} {x : Str} {pos : Pos} {v : Value} {Q : Value → Shared → Prop} {A : Around} {E : Value → Shared → Prop} (hn : s.heap.Ns env.locals m) (hv : m x = some v) (h : Q v s)
    (hk : env.scope.kind = .function := by rfl) (hl : env.kindOf x = some .local := by rfl) (hd : (x == ("__debug__" : Str)) = false := by decide) :
    wpAny M A (eval (.Name x pos) env) Q E s := wpAny_Name (wpAny_loadName_local hk hl hn hv h) hd
theorem bad_init (T : BadTxt prog K mg C fI) {x t0 : Addr} {z : Str} {tz : Tok} (hz : z.length ≤ 1000) (X : K.In s.heap) (hlim : s.heap.NoLimit) (hg : s.heap.Ns mainGlobals mg) (hb : ∃ mb, s.heap.Ns builtinsNs mb ∧ ∀ y : Str, y ≠ "__name__" → mb y = bootBuiltins y) (hx : s.heap.get? x = some (excO C t0)) (hnx : K.lookup x = none) (hroom : A.depth < recursionLimit)
    (hq : ∀ h' tk dx, InitEnd s.heap h' x C dx (.str z tz) → R (.ok (.ret .none)) { s with heap := h', toks := tk }) :
    codeAny (model prog w) A (.call (.ref fI) ⟨[.ref x, .str z tz], []⟩) R s := by
  obtain ⟨oc, od, doc, pm, an, ct, osl, p1, p2, cc, cda, ccl, cl, cdd, cld, ccs, csl, vs, file, tf, ho, hcd, hco, hvs, hfile, hcell⟩ := T.fn
  obtain ⟨nm, q, N, bs, bm, sn, sub, ab, col, dd, k0, k1, k2, k3, k5, hC, hbm⟩ := T.cls
  have hcl : clsIn K C = some { name := nm, bases := bs, mro := .ref C :: bm, ns := N, qualname := q, hasDict := true, slotNames := sn, subclasses := sub, abstract := ab, collection := col, hasDel := false } := by unfold clsIn; rw [hC] <;> rfl
  refine ks_codeAny_call_defAt (binds := [("self", .ref x), ("name", .str z tz)]) hroom (X _ _ ho) rfl hlim (codeRec_of X hcd) rfl (BindsTo.of_eq (by first | rfl | with_unfolding_all rfl)) (show ∀ y ∈ iS.names, y.2 ≠ .cell by decide) (fun y hy => by
    rcases List.mem_cons.mp hy with rfl | hy
    · rfl
    · rcases List.mem_cons.mp hy with rfl | hy
      · rfl
      · cases hy) fun h₁ hns k₁ => ?_
  have X₁ : K.In h₁ := X.keeps k₁
  have hx₁ := k₁ _ _ hx
  obtain ⟨mb, hb1, hb2⟩ := hb
  have hself : hns = hns := rfl
  refine ks_wpAt_execs_cons (ks_wpAt_Expr_any (ks_wpAt_MethodCall ?_))
  refine ks_wpAt_super_base (env := ksEnv "BadArgument.__init__" iS s.heap.objs.size fI (.ref cda) cc) rfl rfl (by decide) rfl (X₁ _ _ ho) rfl rfl rfl (X₁ _ _ hco) rfl hvs hfile T.top ?_
  refine ks_loadName_global rfl rfl (loadGlobal_builtin (hg.keeps k₁) T.sup (hb1.keeps k₁) ((hb2 _ (by decide +kernel)).trans (by kernel_rfl)) ⟨rfl, ?_⟩)
  refine wpAny_loadName_free rfl rfl rfl ⟨_, X₁ _ _ hcell, rfl⟩ ?_
  refine wpAny_loadName_local rfl rfl hns (v := .ref x) (by first | rfl | with_unfolding_all rfl | kernel_rfl) ?_
  refine ks_wpAny_isType_cls (X₁ _ _ hC) rfl ⟨rfl, ?_⟩
  refine ks_wpAny_call_super (X₁ _ _ hC) rfl hx₁ rfl (fun c e => by cases e) (looks_mroIn X₁ T.mro) (fun h₂ hso k₂ => ?_)
  have X₂ := X₁.keeps k₂
  have hx₂ := k₂ _ _ hx₁
  have hI : Looks (model prog w) h₂ (isInstance (.ref x) (.type "ValueError")) true := (InstAt.type (C := C) (od := none) ⟨hx₂, rfl, rfl, trivial⟩).andThen (looks_subIn X₂ T.veC)
  have hxC : x ≠ C := fun e => by rw [e, hC] at hnx; cases hnx
  have hsup := T.supI
  unfold ks_superIn at hsup
  rw [hcl] at hsup
  refine kxs_getMethod kxs_ValueError hso (looks_opaque X₂ T.opq) (l₀ := .ref C :: bm) ?_ rfl X₂ hsup hI hxC (by decide) ?_
  · exact fun A Q E s k q => wpAny_bind ((looks_clsIn X₂ hcl) A _ E s k (wpAny_pure q))
  have hmw : (h₂.push (kxs_mw "ValueError.__init__" x)).get? h₂.objs.size = some (kxs_mw "ValueError.__init__" x) := Heap.get?_push_at rfl rfl
  have k₃ : ∀ b o, h₂.get? b = some o → (h₂.push (kxs_mw "ValueError.__init__" x)).get? b = some o := fun b o e => Heap.get?_push_of_some _ e
  refine kxs_callWith (i := "ValueError.__init__") (x := x) rfl (evalArgs_plain ?_)
  refine spliced_cons (wpAny_BinOp (Constant_str ?_))
  refine ldN (v := .str z tz) (hns.keeps (fun b o e => k₃ b o (k₂ b o e))) (by first | rfl | with_unfolding_all rfl | kernel_rfl) ?_
  refine add_str (fun t5 tk5 => ?_) (by rw [sizeLine_eq]; exact Nat.le_trans (Nat.add_le_add (by decide +kernel : ("bad argument: " : Str).length ≤ 1000) hz) (by decide))
  refine spliced_nil ⟨hmw, ?_⟩
  refine call_mw (k₃ _ _ (k₂ _ _ (k₁ _ _ (X _ _ hC)))) (k₃ _ _ hx₂) hmw (one_size _) fun h₄ t1 k₄ sz₄ hx₄ => ?_
  have kall : ∀ b o, b ≠ x → h₁.get? b = some o → h₄.get? b = some o := fun b o hb e => k₄ b o hb (k₃ b o (k₂ b o e))
  have X₄ : K.In h₄ := fun a o e => kall a o (fun z => by rw [z, hnx] at e; cases e) (X₁ a o e)
  have hns₄ : h₄.Ns s.heap.objs.size (fun y => ([("self", Value.ref x), ("name", Value.str z tz)] : List (Str × Value)).reverse.lookup y) := by
    obtain ⟨oL, es, ep, hL, r⟩ := hns
    have xL : s.heap.objs.size ≠ x := Nat.ne_of_gt (Heap.lt_size hx)
    exact ⟨oL, es, ep, kall _ _ xL hL, r⟩
  show wpAt _ _ _ _ _ _ _
  refine wpAt_of_wpAny ?_
  refine wpAny_execs_cons (plainObj_wpAny_Assign_Attribute ?_)
  refine ldN (v := .str z tz) hns₄ (by first | rfl | with_unfolding_all rfl | kernel_rfl) (ldN (v := .ref x) hns₄ (by first | rfl | with_unfolding_all rfl | kernel_rfl) ?_)
  refine set_plain X₄ (ox := excO C t1) (od := none) ⟨hx₄, rfl, rfl, trivial⟩ T.sa ?_
  refine exc_osa X₄ hx₄ hcl (show refsVE (.ref C :: bm) = true from hbm) rfl T.noN (fun h₅ tk₅ dx k₅ dn dne hx₅ hn₅ => ?_)
  show wpAny _ _ (execs _ _) _ _ _
  have big : s.heap.objs.size ≤ h₄.objs.size := by
    have a1 : s.heap.objs.size < h₁.objs.size := hns.lt
    have a2 : h₁.objs.size < h₂.objs.size := Heap.lt_size hso
    have a3 : (h₂.push (kxs_mw "ValueError.__init__" x)).objs.size = h₂.objs.size + 1 := by simp
    have a4 : (h₂.push (kxs_mw "ValueError.__init__" x)).objs.size ≤ h₄.objs.size := sz₄
    omega
  exact wpAny_execs_nil (hq h₅ tk₅ dx ⟨fun b o hb e => k₅ b o hb (kall b o hb (k₁ b o e)), ⟨t1, hx₅⟩, Nat.le_trans big dn, dne, hn₅⟩)
theorem bad_made (T : BadTxt prog K mg C fI) {z : Str} {tz : Tok} (hz : z.length ≤ 1000) (X : K.In s.heap) (hlim : s.heap.NoLimit) (hg : s.heap.Ns mainGlobals mg) (hb : ∃ mb, s.heap.Ns builtinsNs mb ∧ ∀ y : Str, y ≠ "__name__" → mb y = bootBuiltins y) (hroom : A.depth + 1 < recursionLimit)
    (hq : ∀ h' tk e d, OwnMade s.heap h' e C d (.str z tz) → R (.ok (.ret (.ref e))) { s with heap := h', toks := tk }) :
    codeAny (model prog w) A (.call (.ref C) ⟨[.str z tz], []⟩) R s := by
  obtain ⟨nm, q, N, bs, bm, sn, sub, ab, col, dd, k0, k1, k2, k3, k5, hC, hbm⟩ := T.cls
  obtain ⟨hp, g, dr, tk, os⟩ := s
  have k : ∀ b o, hp.get? b = some o → ((hp.push (kdv_tup [.str z tz])).push (excO C hp.objs.size)).get? b = some o := fun b o e => Heap.get?_push_of_some _ (Heap.get?_push_of_some _ e)
  have hget : ((hp.push (kdv_tup [.str z tz])).push (excO C hp.objs.size)).get? (hp.objs.size + 1) = some (excO C hp.objs.size) := by heap_get
  have hnx : K.lookup (hp.objs.size + 1) = none := by
    cases e : K.lookup (hp.objs.size + 1) with
    | none => rfl
    | some o =>
      have z : hp.get? (hp.objs.size + 1) = some o := X _ _ e
      exact absurd (Nat.lt_of_succ_lt (Heap.lt_size z)) (Nat.lt_irrefl _)
  obtain ⟨mb, hb1, hb2⟩ := hb
  refine call_own F.excBase_ValueError (fun X => refsVE_contains X bm hbm) (X _ _ hC) (looks_findIn X T.iC) (fun self => bind_fn X self T.tC) (one_size _) ?_
  refine bad_init (s := ⟨(hp.push (kdv_tup [.str z tz])).push (excO C hp.objs.size), g, dr, tk, os⟩) T hz (X.keeps k) (hlim.keeps k) (hg.keeps k) ⟨mb, hb1.keeps k, hb2⟩ hget hnx ?_ fun h' tk' dx ⟨k', ⟨t1, hx⟩, dn, dne, hns⟩ => ?_
  · show A.depth + 1 < recursionLimit
    exact hroom
  · have old : ∀ b o, hp.get? b = some o → h'.get? b = some o := fun b o e => k' b o (Nat.ne_of_lt (Nat.lt_succ_of_lt (Heap.lt_size e))) (k b o e)
    have z : hp.objs.size + 1 + 1 ≤ dx := by
      first
        | (simpa only [Heap.size_push] using dn)
        | exact dn
        | (have q := dn; rw [Heap.size_push, Heap.size_push] at q; exact q)
    exact ⟨rfl, hq h' tk' (hp.objs.size + 1) dx ⟨old, Nat.le_succ _, ⟨_, _, hx, rfl, rfl, rfl, rfl⟩, Nat.le_trans (Nat.le_trans (Nat.le_succ _) (Nat.le_succ _)) z, dne, hns⟩⟩
end
end OrX
end PySem
namespace OR
open PySem PySem.Spec PyProof.Rows L2
theorem relO_name {v : V} {v' : Value} (r : RelV v v') (f : Str) : RelO (List.lookup f [(("name" : Str), v)]) (if f = "name" then some v' else none) := by
  by_cases hw : f = "name"
  · subst hw
    rw [if_pos rfl]
    have q : List.lookup ("name" : Str) [(("name" : Str), v)] = some v := by simp [List.lookup]
    rw [q]
    exact r
  · rw [if_neg hw]
    have qw : (f == ("name" : Str)) = false := by simpa using hw
    have q2 : List.lookup f [(("name" : Str), v)] = none := by simp [List.lookup, qw]
    rw [q2]
    trivial
section
variable {X : Cx} {C fI : Addr}
/-- BadArgument(e) -/
def tMkBad (C : Addr) (ta : TA) : L2.St → Hp → XK → Prop := fun σ H Q => ta σ H fun vs H1 => ∃ z : Str, vs = [.str z] ∧ z.length ≤ 1000 ∧ ∀ d, H1 d = none → Q (.ref C) (some d) (upd H1 d (.xd [(("name" : Str), .str z)]))
theorem pmk_bad {a : Expr} {ta : TA} {p pos : Pos} {k : Nat} (T : PySem.OrX.BadTxt X.prog X.K X.mg C fI) (hr : Room k X.A) (ha : PA X [a] ta) (hg : Gl X "BadArgument" := by rfl)
    (he : starEach (a :: []) X.env = (false, eval a X.env) :: starEach [] X.env := by rfl) (hpl : (backTo pos (starEach [] X.env)).any (·.1) = false := by rfl) :
    PMk X (.Call (.Name "BadArgument" p) [a] [] pos) (tMkBad C ta) := by
  intro pins s σ H Q I h
  refine wpAny_Call_Name_kw (ld_glob I hg T.gC ?_)
  refine PySem.W.callWith_K (h₀ := X.base) I.ok.mod.kin T.kC (thn (ha.run pos pins s σ H _ I h) fun us s1 hh => ?_) he hpl
  obtain ⟨vs, H1, I1, r1, z, ev, hz, q1⟩ := hh
  subst ev
  refine ⟨I1.kIn, ?_⟩
  cases r1 with
  | cons rv rn =>
    rename_i v' us'
    cases rn
    obtain ⟨tz, rfl⟩ := id rv
    show wpAny _ _ (call (.ref C) [.str z tz]) _ _ _
    have hlim := I1.nolimit
    obtain ⟨mb, hb1, hb2⟩ := I1.mod.blt
    have hb : ∃ mb, s1.heap.Ns builtinsNs mb ∧ ∀ y : Str, y ≠ "__name__" → mb y = bootBuiltins y := ⟨mb, hb1.keeps I1.bk, hb2⟩
    have hgl := I1.mod.glob.keeps I1.bk
    obtain ⟨hp, g, dr, tk, os⟩ := s1
    refine wpAny_call (PySem.OrX.bad_made T hz I1.kIn hlim hgl hb (by have := hr.dp; omega) fun h' tk' e d M => ?_)
    show MkP X pins σ Q (.ref e) ⟨h', g, dr, tk', os⟩
    obtain ⟨oe, fv, hoe, hc, hd, hdat, h1⟩ := M.obj
    have hns := M.ns
    obtain ⟨G', g1, g2⟩ := restrict h' fun b => decide (b ≠ e)
    have gk : ∀ b, b ≠ e → G'.get? b = h'.get? b := fun b hb => g1 b (decide_eq_true hb)
    have ge : G'.get? e = none := g2 e (by simp)
    have old : ∀ b o, hp.get? b = some o → G'.get? b = some o := fun b o q => (gk b (Nat.ne_of_lt (Nat.lt_of_lt_of_le (Heap.lt_size q) M.new))).trans (M.keep b o q)
    have ob : ObjOk X.prog X.w (upd H1 d (.xd [(("name" : Str), .str z)])) G' d (.xd [(("name" : Str), .str z)]) :=
      ⟨_, hns.at (fun o q => (gk d M.dne).trans q), fun f => relO_name rv f⟩
    have J : Inv X pins σ (upd H1 d (.xd [(("name" : Str), .str z)])) ⟨G', g, dr, tk', os⟩ := I1.laid (t' := tk') old M.dbig ob
    refine ⟨e, oe, fv, ⟨G', g, dr, tk', os⟩, _, .ref C, some d, rfl, J, fun b o q => ?_, ge, hoe, ⟨hc, hd⟩, hdat, h1, ?_, rfl, I1.bare, raises_own T.exC T.tyC, q1 d (I1.hok.fresh M.dbig)⟩
    · by_cases hb : b = e
      · have q' : G'.get? b = some o := q
        rw [hb, ge] at q'; cases q'
      · exact (gk b hb).symm.trans q
    · rw [upd_ne (Ne.symm M.dne)]
      exact I1.hok.fresh M.new
variable {c : Cc} {G : Gty} {O : Oty} {κ : Ko} {xk : Addr → List (Str × V) → Gty → Oty → Prop}
/-- raise BadArgument(e) -/
theorem st_bad {a : Expr} {p pos pos2 : Pos} {k : Nat} (hc : X.calm = true) (T : PySem.OrX.BadTxt X.prog X.K X.mg C fI) (hr : Room k X.A) (lt : Let X c xk)
    (h : EV X c a G O fun d O1 => ∃ z : Str, d = .dat (.str z) ∧ z.length ≤ 1000 ∧ xk C [(("name" : Str), .str z)] G O1) (hg : Gl X "BadArgument" := by rfl)
    (he : starEach (a :: []) X.env = (false, eval a X.env) :: starEach [] X.env := by rfl) (hpl : (backTo pos (starEach [] X.env)).any (·.1) = false := by rfl) :
    ST X c (.Raise (some (.Call (.Name "BadArgument" p) [a] [] pos)) none pos2) G O κ := fun σ H s => by
  obtain ⟨W, tk, hw⟩ := lt
  refine wS_of (ps_raise hc tk (pmk_bad T hr (pa_cons pe_w pa_nil he) hg he hpl)) (h σ H _ s fun v d O1 H1 hk hs => ?_)
  obtain ⟨z, rfl, hz, hk⟩ := hk
  have e : v = .str z := dp_str hs.pinned
  refine ⟨z, by rw [e], hz, fun d hd => hw C d _ G O1 σ _ hk (hs.unpin.new hd) upd_same⟩
/-- e.name in an except suite -/
def tNameBad (C : Addr) (a : Addr) (cls : Value) (d : Option Addr) (te : TE) : TE := fun σ H Q => te σ H fun x H1 => x = .ref a ∧ cls = .ref C ∧ ∃ (dd : Addr) (v : V), d = some dd ∧ H1 dd = some (.xd [(("name" : Str), v)]) ∧ Q v H1
theorem pe_nameBad {a : Addr} {oe : Obj} {cls : Value} {d : Option Addr} {pn : List (Addr × Obj)} {e : Expr} {te : TE} {pos : Pos} (T : PySem.OrX.BadTxt X.prog X.K X.mg C fI) (hz : Zc cls d oe) (hf : ∃ vs, oe.data = .fields vs) (he : PE (X.suite a ((a, oe) :: pn)) e te)
    (hb : attributeBase e "name" X.env (eval e X.env) = eval e X.env := by rfl) :
    PE (X.suite a ((a, oe) :: pn)) (.Attribute e "name" pos) (tNameBad C a cls d te) := by
  refine ⟨fun pins s σ H Q I h => ?_⟩
  refine attr_of hb (thn (he.run pins s σ H _ I h) fun u s1 hh => ?_)
  obtain ⟨x, H1, I1, rx, ex, ec, dd, v, ed, ea, q⟩ := hh
  subst ex
  obtain rfl : u = Value.ref a := rx
  subst ec
  subst ed
  obtain ⟨ha, _⟩ := I1.pin (a, oe) (List.mem_append_left _ List.mem_cons_self)
  obtain ⟨vs, hd⟩ := hf
  have hx : ObjOk X.prog X.w H1 s1.heap dd (.xd [(("name" : Str), v)]) := I1.hok dd _ ea
  obtain ⟨mA, hns, hr⟩ := hx
  obtain ⟨od, ho, hl⟩ := lookIn_ns hns
  have l : List.lookup ("name" : Str) [(("name" : Str), v)] = some v := by simp [List.lookup]
  obtain ⟨u, hu, ru⟩ := RelO.some_of (v := v) (o := mA "name") (by rw [← l]; exact hr "name")
  have J : PySem.W.InstAt s1.heap a oe C (some od) := ⟨ha, hz.1, by unfold PySem.W.notCls; rw [hd] <;> rfl, by rw [hz.2]; exact ho⟩
  exact HandSPX.exc_get I1.kIn J T.ga T.gg T.exC (PySem.W.findObj_own T.hdC T.noN rfl (by rw [hl, hu])) (handed_of ru) ⟨v, H1, I1.tok _, ru, q⟩
end
end OR

set_option Elab.async false
set_option linter.all false
set_option maxRecDepth 100000
set_option maxHeartbeats 2000000
namespace OR
open PySem PySem.Spec PyProof.Rows L2
/-! ### generator expressions -/
section
variable {X : Cx} {pins : List (Addr × Obj)} {σ : L2.St} {H : Hp} {s : Shared}
/-- the code object of a generator expression: new, or found in the table -/
theorem gen_code {T : List (Addr × Str)} {c P : Addr} {q : Str} {scope : Scope} {pos : Pos} {E : Value → Shared → Prop} {Q : Value → Shared → Prop} (I : Inv X pins σ H s) (TB : LamX.TabB X.base X.mg c P) (hcode : X.env.code = .ref c)
    (hm : (P, q) ∈ T) (hu : ∀ p ∈ T, p.1 = P → p.2 = q) (hT : LamX.Tabs T H)
    (h : ∀ (code : Value) (H1 : Hp) (h' : Heap) (tk : Nat), Inv X pins σ H1 { s with heap := h', toks := tk } → LamX.ExtN H H1 → LamX.Tabs T H1 → (∀ b, H b = none → b < s.heap.objs.size → H1 b = none) → s.heap.objs.size ≤ h'.objs.size → (∀ b o, b ≠ P → s.heap.get? b = some o → h'.get? b = some o) → Q code { s with heap := h', toks := tk }) :
    wpAny (model X.prog X.w) X.A (genexprCode X.env pos q scope) Q E s := by
  obtain ⟨ps, hP, ht, ha⟩ := hT _ hm
  have bP : s.heap.BuiltinsAt X.mg P := TB.bm.keeps I.bk
  have hP' : s.heap.get? P = some { cls := .none, data := .fields ps } := I.hok P _ hP
  have cd : PySem.W.CodeHd s.heap c P := TB.code.keeps I.bk
  cases hc : codeAmong pos ps.toList with
  | none =>
    refine wpAny_genexprCodeX hcode (cd.code hP' ht) (cd.tab hP') hc fun c' h' tk hx hge hlt hco' hrec htab' _ => ?_
    obtain ⟨c2, oc, vs, t, e2, hoc, hd, hv⟩ := hrec
    cases e2
    have nC : H c' = none := I.hok.fresh hge
    have I1 := LamX.inv_table (t' := tk) (more := #[rawInt pos.line, rawInt pos.col, .ref c']) I hP (fun b o hb e => hx b o hb e) htab'.2 hge ⟨oc, vs, t, hoc, hd, hv⟩
    have hE : LamX.ExtN H (upd (upd H P (.tbl (ps ++ #[rawInt pos.line, rawInt pos.col, .ref c']))) c' (LamX.CodeO c' q)) := fun b o e n => by
      rw [upd_ne (ne_of_none e nC), upd_ne (fun z => n ps (Option.some.inj (e.symm.trans (by rw [z]; exact hP))))]
      exact e
    have eL : (ps ++ #[rawInt pos.line, rawInt pos.col, .ref c']).toList = ps.toList ++ [rawInt pos.line, rawInt pos.col, .ref c'] := by simp
    refine h (.ref c') _ h' tk I1 hE (fun p hp => ?_) (fun b hb hlt' => ?_) (Nat.le_trans hge (Nat.le_of_lt hlt)) (fun b o hb e => hx b o hb e)
    · by_cases hb : p.1 = P
      · rw [hu p hp hb, hb]
        refine ⟨_, by rw [upd_ne (ne_of_none hP nC), upd_same], by rw [eL]; exact PySem.TriplesOk_snoc _ _ _ _ ht, fun p' cv hcv => ?_⟩
        rw [eL] at hcv
        rcases LamX.among_app _ ht hcv with z | z
        · obtain ⟨c0, e1, e2⟩ := ha p' cv z
          exact ⟨c0, e1, hE _ _ e2 LamX.codeO_ne⟩
        · exact ⟨c', z, upd_same⟩
      · obtain ⟨ps', a1, a2, a3⟩ := hT p hp
        refine ⟨ps', by rw [upd_ne (ne_of_none a1 nC), upd_ne hb]; exact a1, a2, fun p' cv hcv => ?_⟩
        obtain ⟨c0, e1, e2⟩ := a3 p' cv hcv
        exact ⟨c0, e1, hE _ _ e2 LamX.codeO_ne⟩
    · rw [upd_ne (Nat.ne_of_lt (Nat.lt_of_lt_of_le hlt' hge)), upd_ne (fun z => by rw [z, hP] at hb; cases hb)]
      exact hb
  | some cv =>
    refine wpAny_genexprCode_hit hcode (cd.code hP' ht) hc ?_
    exact h cv H s.heap s.toks I (LamX.ExtN.refl H) hT (fun b hb _ => hb) (Nat.le_refl _) fun b o _ e => e
end
/-- the generator expression's own scope: its one name x at the place j of N, the walked thing at «.0», captured names that the def has -/
structure GnOk (N : List Str) (sc scope : Scope) (x : Str) (j : Nat) : Prop where
  kind : scope.kind = .function
  co : scope.isCoroutine = false
  cell : ∀ y ∈ scope.names, y.2 ≠ .cell
  dot : scope.names.lookup (".0" : Str) = some NameKind.local
  loc : scope.names.lookup x = some .local
  ix : N[j]? = some x
  own : ∀ y ∈ scope.names, y.2 = .local → y.1 = x ∨ y.1 ∉ N
  free : ∀ y ∈ scope.names, y.2 = .free → sc.names.lookup y.1 = some .cell ∨ sc.names.lookup y.1 = some .free
def gnOkB (N : List Str) (sc scope : Scope) (x : Str) (j : Nat) : Bool :=
  decide (scope.kind = .function) && !scope.isCoroutine && scope.names.all (fun y => !decide (y.2 = .cell)) && decide (scope.names.lookup (".0" : Str) = some NameKind.local) && decide (scope.names.lookup x = some .local) && decide (N[j]? = some x) &&
    scope.names.all (fun y => !decide (y.2 = .local) || decide (y.1 = x) || decide (y.1 ∉ N)) && scope.names.all (fun y => !decide (y.2 = .free) || decide (sc.names.lookup y.1 = some .cell) || decide (sc.names.lookup y.1 = some .free))
theorem gnOk_by {N : List Str} {sc scope : Scope} {x : Str} {j : Nat} (h : gnOkB N sc scope x j = true) : GnOk N sc scope x j := by
  unfold gnOkB at h
  simp only [Bool.and_eq_true, Bool.or_eq_true, Bool.not_eq_true', decide_eq_true_eq, decide_eq_false_iff_not, List.all_eq_true] at h
  obtain ⟨⟨⟨⟨⟨⟨⟨h1, h2⟩, h3⟩, h4⟩, h5⟩, h6⟩, h7⟩, h8⟩ := h
  refine ⟨h1, h2, h3, h4, h5, h6, fun y hy e => ?_, fun y hy e => ?_⟩
  · rcases h7 y hy with (z | z) | z
    · exact absurd e z
    · exact .inl z
    · exact .inr z
  · rcases h8 y hy with (z | z) | z
    · exact absurd e z
    · exact .inl z
    · exact .inr z
/-- the context of a generator expression's frame -/
abbrev gnX (X : Cx) (A : Around) (s : Shared) (H : Hp) (scope : Scope) (code : Value) (bi : Addr) (fp : List Addr) : Cx :=
  { X with A := A, s_0 := s, H_0 := H, env := genEnv scope (cloFrom X.env.cells scope.names []) s.heap.objs.size code bi X.env, outer := X.stack, stack := genEnv scope (cloFrom X.env.cells scope.names []) s.heap.objs.size code bi X.env :: X.stack, ex := fp, fn := fun _ => false, calm := true, pn := [], xe := fun _ _ => False }
section
variable {X : Cx} {pins : List (Addr × Obj)} {σ : L2.St} {H : Hp} {s : Shared}
theorem gen_start {A : Around} {scope : Scope} {x : Str} {j : Nat} {code : Value} {fp : List Addr} {a : Addr} {oa : Obj} {h₁ : Heap} {g₁ : Array GenState} {tk : Nat} {m0 : Str → Option Value} (I : Inv X pins σ H s) (L : GnOk X.N X.env.scope scope x j) (hN : X.N.Nodup)
    (hfp : ∀ b ∈ fp, FpOk X pins H b ∧ b < s.heap.objs.size) (hd : A.handled = none) (hfr : A.frames = some (genEnv scope (cloFrom X.env.cells scope.names []) s.heap.objs.size code builtinsNs X.env :: X.stack))
    (hns : h₁.Ns s.heap.objs.size m0) (kp : ∀ b o, s.heap.get? b = some o → h₁.get? b = some o) (ha : h₁.get? a = some oa) (hna : s.heap.objs.size < a) (hda : ∀ v, oa.data ≠ .cell v) (hg : AllBare g₁) :
    Inv (gnX X A s H scope code builtinsNs fp) [(a, oa)] (L2.wipe σ [j]) H { s with heap := h₁, gens := g₁, toks := tk } := by
  have hfree : ∀ y ∈ scope.names, y.2 = .free → ∃ c, X.env.cells.lookup y.1 = some c := fun y hy e => by
    rcases L.free y hy e with k | k
    · exact I.ok.has _ (.inl k)
    · exact I.ok.has _ (.inr k)
  have cm : ∀ {y c}, (cloFrom X.env.cells scope.names []).lookup y = some c → X.env.cells.lookup y = some c := fun {y c} e => by
    rcases cloFrom_mem (PySem.mem_of_lookup e) with hm | ⟨h1, h2⟩
    · cases hm
    · obtain ⟨c1, hc⟩ := hfree _ h1 rfl
      have hc : X.env.cells.lookup y = some c1 := hc
      have e2 : c = c1 := by
        rw [h2, hc] <;> rfl
      rw [e2]
      exact hc
  have look : ∀ {y}, scope.names.lookup y = some .free → ∃ c, (cloFrom X.env.cells scope.names []).lookup y = some c := fun {y} hl => by
    have hy : (y, NameKind.free) ∈ scope.names := PySem.mem_of_lookup hl
    exact mem_lookup (cloFrom_has (cells := X.env.cells) (acc := []) hy)
  have cLt : ∀ {y c}, X.env.cells.lookup y = some c → c < s.heap.objs.size := fun {y c} e => by
    obtain ⟨w, z⟩ := I.cell _ _ e
    exact z.lt
  refine ⟨⟨I.ok.mod, L.kind, I.ok.glob, rfl, Nat.le_refl _, fun y z c e1 e2 => I.ok.inj y z c (cm e1) (cm e2), fun y hy => ?_, fun y c z _ => ?_, fun _ => hd, hfr, .inr ⟨rfl, rfl⟩, fun b hb => ⟨Nat.ne_of_lt (hfp b hb).2, fun y c e z => (hfp b hb).1.2.2.2.2.1 y c (cm e) z⟩,
      I.bs, Nat.le_trans I.ok.bsz I.sz, fun b o e hb => ?_, fun b hb z => ?_, I.stack, I.stkFree⟩,
    rfl, hg, Un.kept kp, ⟨_, hns, fun i y v e1 e2 e3 => ?_⟩, fun y c e => ?_, I.hok.fresh (Nat.le_refl _), fun y c e => I.freeC y c (cm e), fun q hq => ?_, I.hok.kept kp, by rw [L2.wipe_length]; exact I.len⟩
  · have hy : scope.names.lookup y = some .cell ∨ scope.names.lookup y = some .free := hy
    rcases hy with hy | hy
    · exact absurd rfl (L.cell _ (PySem.mem_of_lookup hy))
    · exact look hy
  · have z : false = true := z
    cases z
  · rcases (hfp b hb).1.2.2.2.1 with z | z
    · exact I.ok.noex b o e z
    · exact absurd (Nat.lt_of_lt_of_le (Heap.lt_size e) (Nat.le_trans I.ok.bsz z)) (Nat.lt_irrefl _)
  · rcases List.mem_cons.mp (I.stkSub b z) with z | z
    · exact (hfp b hb).1.2.1 z
    · exact (hfp b hb).1.2.2.1 z
  · obtain ⟨e2, hne⟩ := L2.wipe_some e2
    have e3 : Vis scope y := e3
    rcases e3 with k | k | k
    · rcases L.own _ (PySem.mem_of_lookup k) rfl with z | z
      · have z : y = x := z
        rw [z] at e1
        exact absurd (nd_ix hN e1 L.ix) (fun e => hne (by rw [e]; exact List.mem_singleton.mpr rfl))
      · exact absurd (List.mem_of_getElem? e1) z
    · exact absurd rfl (L.cell _ (PySem.mem_of_lookup k))
    · obtain ⟨m, hn, hl⟩ := I.loc
      have hvis : Vis X.env.scope y := (L.free _ (PySem.mem_of_lookup k) rfl).elim (fun k => .inr (.inl k)) (fun k => .inr (.inr k))
      obtain ⟨w', r, q⟩ := hl i y v e1 e2 hvis
      obtain ⟨c2, h2⟩ := look k
      refine ⟨w', r, .inr ⟨.inr k, c2, h2, ?_⟩⟩
      have c1 := cm h2
      rcases q with ⟨k', _⟩ | ⟨_, c3, e', z⟩
      · have k' : X.env.scope.names.lookup y = some .local := k'
        rcases L.free _ (PySem.mem_of_lookup k) rfl with k2 | k2 <;> rw [show X.env.scope.names.lookup y = _ from k2] at k' <;> cases k'
      · rw [c1] at e'
        cases e'
        exact z.keeps kp
  · obtain ⟨w', z⟩ := I.cell y c (cm e)
    exact ⟨w', z.keeps kp⟩
  · have e : q = (a, oa) := by simpa using hq
    rw [e]
    refine ⟨ha, I.hok.fresh (Nat.le_of_lt hna), Nat.ne_of_gt hna, fun z => ?_, hda⟩
    have z2 := I.stack.mem z
    obtain ⟨_, o, ho, _⟩ := z2
    exact Nat.lt_irrefl _ (Nat.lt_trans hna (Heap.lt_size ho))
end
/-- the around of a generator expression that a built-in walks -/
abbrev gnA (A : Around) (ge : Expr) (it : Value) (genv : Env) : Around := A.in1.in1.over (.compLoop ge 0 it .none genv) []
theorem gnA_frames {A : Around} {elt : Expr} {gs : List Comprehension} {scope : Scope} {pos : Pos} {it : Value} {genv : Env} {l : List Env} (h : A.frames = some l) : (gnA A (.GeneratorExp elt gs scope pos) it genv).frames = some (genv :: l) := by
  show pushEnvs [genv] (pushEnvs [] A.frames) = _
  rw [h]
  rfl
theorem gnA_room {A : Around} {elt : Expr} {gs : List Comprehension} {scope : Scope} {pos : Pos} {it : Value} {genv : Env} {k : Nat} (r : Room (k + 1) A) : Room k (gnA A (.GeneratorExp elt gs scope pos) it genv) := by
  have h1 := r.dp
  have h2 := r.un
  refine ⟨r.hd, ?_, ?_⟩
  · show A.depth + 0 + 1 + 3 * k + 5 < recursionLimit
    omega
  · show A.units + 1 + 1 + 0 + 3 + 16 * k + 200 < cLine
    omega
end OR

set_option Elab.async false
set_option linter.all false
set_option maxRecDepth 100000
set_option maxHeartbeats 2000000
namespace OR
open PySem PySem.Spec PyProof.Rows L2
/-- heaps grow; generators at rest -/
structure Wk (s s' : Shared) : Prop where
  os : s'.os = s.os
  bare : AllBare s'.gens
  keep : ∀ b o, s.heap.get? b = some o → s'.heap.get? b = some o
theorem Wk.trans {s s1 s2 : Shared} (a : Wk s s1) (b : Wk s1 s2) : Wk s s2 := ⟨b.os.trans a.os, b.bare, fun c o e => b.keep c o (a.keep c o e)⟩
theorem inv_wk {X : Cx} {pins : List (Addr × Obj)} {σ : L2.St} {H : Hp} {s s' : Shared} (I : Inv X pins σ H s) (w : Wk s s') : Inv X pins σ H s' :=
  I.call' (ch := []) w.os (Un.kept w.keep) (I.hok.kept w.keep) w.bare fun b hb => by simp at hb
theorem bare_set {s : Shared} {g : Nat} {x : GenState} (h : AllBare s.gens) (hx : x.bare = true) : AllBare (s.setGen g x).gens := fun y hy => by
  rcases Array.mem_or_eq_of_mem_setIfInBounds (show y ∈ s.gens.setIfInBounds g x from hy) with z | z
  · exact h y z
  · rw [z]; exact hx
theorem wk_set {s : Shared} {g : Nat} {x : GenState} (h : AllBare s.gens) (hx : x.bare = true) : Wk s (s.setGen g x) := ⟨rfl, bare_set h hx, fun _ _ e => e⟩
/-- what a generator of bools hands out; Z: what holds of each heap, F: what holds behind a False -/
def gY (Z : Heap → Prop) (F : Shared → Prop) : Protocol := fun m s₀ v s kap =>
  ∃ b : Bool, v = .bool b ∧ AllBare s.gens ∧ s₀.gens.size ≤ s.gens.size ∧ Z s.heap ∧ (b = true → ∀ s', Wk s s' → kap (.send .none) s') ∧ (b = false → ∀ s', Wk s s' → F s')
abbrev gR (T : Shared → Prop) : GenEnd := fun n s₀ r s => r = .ok .next ∧ (AllBare s.gens ∧ s₀.gens.size ≤ s.gens.size ∧ ∀ s', Wk s s' → T s')
abbrev no : Value → Shared → Prop := fun _ _ => False
section
variable {prog : Program} {w : World} {A : Around}
abbrev geE (elt tg iter : Expr) (scope : Scope) (pos : Pos) : Expr := .GeneratorExp elt [⟨tg, iter, [], 0⟩] scope pos
theorem gen_seg {elt tg iter : Expr} {scope : Scope} {pos : Pos} {it : Value} {genv : Env} {Z : Heap → Prop} {F T : Shared → Prop} (Iv : Nat → Shared → Prop) (hco : genv.scope.isCoroutine = false)
    (hw : ∀ n s s', Iv n s → Wk s s' → Iv n s')
    (step : ∀ n s, Iv n s → wpAny (model prog w) (A.over (.compLoop (geE elt tg iter scope pos) 0 it .none genv) []) (pyNext it) (fun r s₁ => match r with
      | none => AllBare s₁.gens ∧ ∀ s', Wk s₁ s' → T s'
      | some v => ∃ n', n = n' + 1 ∧ wpAny (model prog w) (A.over (.compLoop (geE elt tg iter scope pos) 0 it .none genv) []) (letOwnedTupleGo tg it v) (fun _ s₁' =>
          wpAny (model prog w) (A.over (.compLoop (geE elt tg iter scope pos) 0 it .none genv) []) (assign tg genv v) (fun _ s₂ =>
            wpAny (model prog w) (A.over (.compLoop (geE elt tg iter scope pos) 0 it .none genv) []) (eval elt genv) (fun y s₃ => ∃ b : Bool, y = .bool b ∧ AllBare s₃.gens ∧ Z s₃.heap ∧ (b = true → Iv n' s₃) ∧ (b = false → ∀ s', Wk s₃ s' → F s')) no s₂) no s₁') no s₁) no s) :
    ∀ (n : Nat) (s₀ s : Shared), Iv n s → s₀.gens.size ≤ s.gens.size →
      Seg (model prog w) A (gR T) (gY Z F) n s₀ (.compLoop (geE elt tg iter scope pos) 0 it .none genv) ((model prog w).den (.compLoop (geE elt tg iter scope pos) 0 it .none genv)) [] s := by
  have hy : ∀ v, yieldOut genv v = yieldValue v := fun v => by simp only [yieldOut, hco, Bool.false_eq_true, if_false]
  intro n
  induction n with
  | zero =>
    intro s₀ s hI hsz
    show Seg _ A _ _ _ s₀ _ ((compTurn (geE elt tg iter scope pos) 0 it .none genv).onRaise (leaving genv)) [] s
    rw [compTurn_gen, Sem.onRaise_eq_wrap]
    refine seg_bind_wrap (wpAny_standAt ?_)
    refine seg_bind_wrap (GenW.wpAny_gsz hsz (wpAny_mono (step 0 s hI) (fun r s₁ h₁ => ?_) fun _ _ z => z.elim))
    cases r with
    | none => exact fun hsz1 => seg_end (.ok .next) ⟨rfl, h₁.1, hsz1, h₁.2⟩
    | some v =>
      obtain ⟨n', e, _⟩ := h₁
      omega
  | succ n ih =>
    intro s₀ s hI hsz
    show Seg _ A _ _ _ s₀ _ ((compTurn (geE elt tg iter scope pos) 0 it .none genv).onRaise (leaving genv)) [] s
    rw [compTurn_gen, Sem.onRaise_eq_wrap]
    refine seg_bind_wrap (wpAny_standAt ?_)
    refine seg_bind_wrap (GenW.wpAny_gsz hsz (wpAny_mono (step (n + 1) s hI) (fun r s₁ h₁ => ?_) fun _ _ z => z.elim))
    cases r with
    | none => exact fun hsz1 => seg_end (.ok .next) ⟨rfl, h₁.1, hsz1, h₁.2⟩
    | some v =>
      obtain ⟨n', e, h₁⟩ := h₁
      have e : n = n' := by omega
      subst e
      intro hsz1
      refine seg_bind_wrap (GenW.wpAny_gsz hsz1 (wpAny_mono h₁ (fun _ s₁' h₁' hsz2 => ?_) fun _ _ z => z.elim))
      refine seg_bind_wrap (GenW.wpAny_gsz hsz2 (wpAny_mono h₁' (fun _ s₂ h₂ hsz3 => ?_) fun _ _ z => z.elim))
      refine seg_bind_wrap (m := forIn ([] : List Expr) true _) ?_
      rw [List.forIn_nil]
      refine wpAny_pure ?_
      simp only [if_true]
      simp only [hy]
      rw [Sem.bind_eq_wrap', Sem.bind_eq_wrap', Sem.wrap_wrap, Sem.wrap_wrap]
      refine seg_wrap (GenW.wpAny_gsz hsz3 (wpAny_mono h₂ (fun y s₃ h₃ hsz4 => ?_) fun _ _ z => z.elim))
      obtain ⟨b, rfl, hg, hZ, ht, hf⟩ := h₃
      refine seg_at (seg_yield rfl rfl rfl ⟨b, rfl, hg, hsz4, hZ, fun hb s' wk => ?_, hf⟩)
      exact seg_again rfl (ih s' s' (hw _ _ _ (ht hb) wk) (Nat.le_refl _))
theorem gen_seg0 {elt tg iter : Expr} {scope : Scope} {pos : Pos} {it : Value} {genv : Env} {Z : Heap → Prop} {F T : Shared → Prop} (Iv : Nat → Shared → Prop)
    (hself : ∀ n s (Q : Value → Shared → Prop), Iv n s → Q it s → wpAny (model prog w) (A.over (.compStart (geE elt tg iter scope pos) 0 it .none genv) []) (pyIter it) Q no s)
    (loop : ∀ (n : Nat) (s₀ s : Shared), Iv n s → s₀.gens.size ≤ s.gens.size →
      Seg (model prog w) A (gR T) (gY Z F) n s₀ (.compLoop (geE elt tg iter scope pos) 0 it .none genv) ((model prog w).den (.compLoop (geE elt tg iter scope pos) 0 it .none genv)) [] s)
    (n : Nat) (s₀ s : Shared) (hI : Iv n s) (hsz : s₀.gens.size ≤ s.gens.size) :
      Seg (model prog w) A (gR T) (gY Z F) n s₀ (.compStart (geE elt tg iter scope pos) 0 it .none genv) ((model prog w).den (.compStart (geE elt tg iter scope pos) 0 it .none genv)) [] s := by
  have lp := loop n s₀ s hI hsz
  show Seg _ A _ _ _ s₀ _ ((compStart (geE elt tg iter scope pos) 0 it .none genv).onRaise (leaving genv)) [] s
  unfold compStart
  rw [Sem.onRaise_eq_wrap]
  show Seg _ A _ _ _ s₀ _ ((ask >>= _).wrap _ _ _ _) [] s
  refine seg_bind_wrap (wpAny_askSetting ?_)
  split
  · exact seg_again rfl lp
  · refine seg_bind_wrap (wpAny_rule (seg_bind_wrap (wpAny_standAt (seg_bind_wrap (wpAny_mono (hself n s _ hI ?_) (fun _ _ q => q) fun _ _ z => z.elim)))))
    exact seg_again rfl lp
/-- the generator at a rests, n items to come -/
def GAt (prog : Program) (w : World) (A : Around) (a : Addr) (g : Nat) (T : Shared → Prop) (Z : Heap → Prop) (F : Shared → Prop) (n : Nat) (s : Shared) : Prop :=
  s.heap.IsGen a g ∧ s.heap.NoLimit ∧ AllBare s.gens ∧ ∃ gs, s.gens[g]? = some gs ∧ ∀ s' : Shared, Wk s s' → gs.Goes (model prog w) A.in1.in1 (gR T) (gY Z F) n (.send .none) s'
theorem all_loop {R : Result → Shared → Prop} {a : Addr} {g : Nat} {T : Shared → Prop} {Z : Heap → Prop} {F : Shared → Prop} (hh : A.handled = none) (hroom : A.depth < recursionLimit)
    (hZ : ∀ h, Z h → h.IsGen a g ∧ h.NoLimit) (hT : ∀ s, T s → R (.ok (.ret (.bool true))) s) (hF : ∀ s, F s → R (.ok (.ret (.bool false))) s) :
    ∀ (n : Nat) (s : Shared), GAt prog w A a g T Z F n s → codeAny (model prog w) A (.builtin "all.loop" ⟨[.ref a], []⟩) R s := by
  intro n
  induction n with
  | zero =>
    intro s ⟨hg, hl, hb, gs, hgs, hgo⟩
    refine codeAny_builtin PySem.F.entry_all_loop ?_
    rw [Around.under_plainId PySem.F.plain_all_loop _]
    show wpAny _ A.in1 (pyNext (.ref a) >>= _) _ _ s
    refine wpAny_bind (wpAny_pyNext_genexpQ (A := A.in1) (P := fun n s₀ s₁ => AllBare s₁.gens ∧ s₀.gens.size ≤ s₁.gens.size ∧ ∀ s', Wk s₁ s' → T s') hh hl hroom hg hgs (hgo _ (wk_set hb rfl)) (fun v s₁ gs' hgb hv => ?_) (fun s₁ hp h' hk => ?_))
    · obtain ⟨b, rfl, hb1, hsz, hz1, ht, hf⟩ := hv
      cases b with
      | true => exact (ht rfl s₁ ⟨rfl, hb1, fun _ _ e => e⟩).elim
      | false =>
        refine wpAny_bind (wpAny_holding (wpAny_truthy_bool ?_))
        refine wpAny_bind (wpAny_letGo ?_)
        simp only [Bool.false_eq_true, if_false]
        exact wpAny_bind (wpAny_rule (wpAny_pure (hF _ (hf rfl _ (wk_set hb1 hgb)))))
    · refine wpAny_bind (wpAny_rule (wpAny_pure ?_))
      exact hT _ (hp.2.2 _ ⟨rfl, bare_set hp.1 rfl, hk⟩)
  | succ n ih =>
    intro s ⟨hg, hl, hb, gs, hgs, hgo⟩
    have hlt : g < s.gens.size := by
      rcases Nat.lt_or_ge g s.gens.size with h' | h'
      · exact h'
      · rw [Array.getElem?_eq_none h'] at hgs; cases hgs
    refine codeAny_builtin PySem.F.entry_all_loop ?_
    rw [Around.under_plainId PySem.F.plain_all_loop _]
    show wpAny _ A.in1 (pyNext (.ref a) >>= _) _ _ s
    refine wpAny_bind (wpAny_pyNext_genexpQ (A := A.in1) (P := fun n s₀ s₁ => AllBare s₁.gens ∧ s₀.gens.size ≤ s₁.gens.size ∧ ∀ s', Wk s₁ s' → T s') hh hl hroom hg hgs (hgo _ (wk_set hb rfl)) (fun v s₁ gs' hgb hv => ?_) (fun s₁ hp h' hk => ?_))
    · obtain ⟨b, rfl, hb1, hsz, hz1, ht, hf⟩ := hv
      refine wpAny_bind (wpAny_holding (wpAny_truthy_bool ?_))
      refine wpAny_bind (wpAny_letGo ?_)
      cases b with
      | false =>
        simp only [Bool.false_eq_true, if_false]
        exact wpAny_bind (wpAny_rule (wpAny_pure (hF _ (hf rfl _ (wk_set hb1 hgb)))))
      | true =>
        simp only [if_true]
        refine wpAny_pure ⟨plainId_quiet PySem.F.plain_all_loop _, ih _ ?_⟩
        have hsz' : s.gens.size ≤ s₁.gens.size := by rw [GenW.setGen_size] at hsz; exact hsz
        refine ⟨(hZ _ hz1).1, (hZ _ hz1).2, bare_set hb1 hgb, gs', ?_, fun s' wk => ht rfl s' ((wk_set hb1 hgb).trans wk)⟩
        have : g < s₁.gens.size := Nat.lt_of_lt_of_le hlt hsz'
        simp [Shared.setGen, this]
    · refine wpAny_bind (wpAny_rule (wpAny_pure ?_))
      exact hT _ (hp.2.2 _ ⟨rfl, bare_set hp.1 rfl, hk⟩)
theorem call_all {a : Addr} {g n : Nat} {T : Shared → Prop} {Z : Heap → Prop} {F : Shared → Prop} {Q : Value → Shared → Prop} {E : Value → Shared → Prop} {s : Shared} (hh : A.handled = none) (hroom : A.depth < recursionLimit)
    (hZ : ∀ h, Z h → h.IsGen a g ∧ h.NoLimit) (hT : ∀ s, T s → Q (.bool true) s) (hF : ∀ s, F s → Q (.bool false) s) (hG : GAt prog w A a g T Z F n s) : wpAny (model prog w) A (call (.builtin "all") [.ref a]) Q E s := by
  refine call_function_tree PySem.F.kind_all PySem.F.plain_all PySem.F.entry_all (PySem.F.args_all1 _) ?_
  unfold Builtin.«all»
  refine wpAny_bind (m := oneArg "all" _) (wpAny_pure ?_)
  refine wpAny_bind (wpAny_pyIter_gen hG.1 ?_)
  exact wpAny_pure ⟨plainId_quiet PySem.F.plain_all_loop _, all_loop hh hroom hZ hT hF n s hG⟩
end
end OR

set_option Elab.async false
set_option linter.all false
set_option maxRecDepth 100000
set_option maxHeartbeats 2000000
namespace OR
open PySem PySem.Spec PyProof.Rows L2
section
variable {X : Cx}
/-- all(elt for x in iter) -/
def tAllG (T : List (Addr × Str)) (wi : TI) (te : TE) (j : Nat) : TE := fun σ H Q => wi σ H fun J H1 => LamX.Tabs T H1 ∧ ∀ H4, LamX.ExtN H1 H4 → LamX.Tabs T H4 → ∃ (W : Nat → Nat → Hp → Prop) (m0 : Nat), W 0 m0 H4 ∧
  ∀ i m H, W i m H → (J.stop i H ∧ Q (.bl true) H) ∨ (J.go i H ∧ ∃ m', m = m' + 1 ∧ ∀ x H', J.yld i H x H' → te ((L2.wipe σ [j]).set j (some x)) H' fun y H3 => ∃ b : Bool, y = .bl b ∧ if b = true then W (i + 1) m' H3 else Q (.bl false) H3)
theorem bare_push {gens : Array GenState} {g : GenState} (h : AllBare gens) (hg : g.bare = true) : AllBare (gens.push g) := h.push hg
theorem pe_allG {T : List (Addr × Str)} {c P : Addr} {elt iter : Expr} {x : Str} {px p pos gpos : Pos} {scope : Scope} {j k : Nat} {wi : TI} {te : TE}
    (hr : Room (k + 1) X.A) (hc : X.calm = true) (hN : X.N.Nodup) (hg : Gl X "all") (hm : X.mg "all" = none) (TB : LamX.TabB X.base X.mg c P) (hcode : X.env.code = .ref c) (hT1 : (P, X.env.qual ++ "<genexpr>") ∈ T) (hu : ∀ p ∈ T, p.1 = P → p.2 = X.env.qual ++ "<genexpr>")
    (L : GnOk X.N X.env.scope scope x j) (hi : PI X (.Name x px) iter wi) (he : ∀ (A : Around) (s : Shared) (H : Hp) (code : Value) (bi : Addr) (fp : List Addr), Room k A → PE (gnX X A s H scope code bi fp) elt te)
    (hs : ∀ v, genFold iter X.env v = pure v)
    (hst : starEach [geE elt (.Name x px) iter scope gpos] X.env = (false, eval (geE elt (.Name x px) iter scope gpos) X.env) :: starEach [] X.env := by rfl) :
    PE X (.Call (.Name "all" p) [geE elt (.Name x px) iter scope gpos] [] pos) (tAllG T wi te j) := by
  refine ⟨fun pins s σ H Q I h => ?_⟩
  refine wpAny_Call_Name_kw (ld_blt I hg hm (show bootBuiltins "all" = some (.builtin "all") by decide +kernel) ?_)
  refine PyProof.Rows.callWith_builtin1 ?_ hst (by rfl)
  rw [hst]
  show wpAny _ _ (spliced ((false, eval (geE elt (.Name x px) iter scope gpos) X.env) :: backTo pos (starEach [] X.env))) _ _ s
  refine Calls.spliced_cons ?_
  have hfree : ∀ y ∈ scope.names, y.2 = .free → ∃ c, X.env.cells.lookup y.1 = some c := fun y hy e => by
    rcases L.free y hy e with k | k
    · exact I.ok.has _ (.inl k)
    · exact I.ok.has _ (.inr k)
  refine wpAny_GeneratorExp_make L.co (closure_ok hfree) L.cell L.dot L.kind (by have := hr.dp; omega) ?_ hs
  refine thn (hi.run pins s σ H _ I h) fun xv s1 hx => thn hx fun itv s2 h2 => ?_
  obtain ⟨it, fp, tn, J, H2, rfl, I2, TU, st2, f2, hTb, q⟩ := h2
  refine ⟨I2.nolimit, ?_⟩
  refine gen_code I2 TB hcode hT1 hu hTb fun code H3 h3 tk I3 eN T3 keepN hsz keepH => ?_
  obtain ⟨bm, ob, e1, e2, e3, e4, e5, e6, e7, e8⟩ := TB.bm
  refine wpAny_builtinsFor (m := X.mg) (by rw [I3.ok.glob]; exact I3.mod.glob.keeps I3.bk) e1 e2 (I3.bk _ _ e5) e6 e7 e8 ?_
  obtain ⟨W, m0, w0, turn⟩ := q H3 eN T3
  have hP' : ∀ b ∈ fp, b ≠ P := fun b hb z => by
    have := (f2 b hb).1
    obtain ⟨ps, hP, _⟩ := hTb _ hT1
    rw [z, hP] at this
    cases this
  have szf : ∀ b ∈ fp, b < s2.heap.objs.size := fun b hb => by
    obtain ⟨o, e, _⟩ := TU.obj _ _ st2 b hb
    exact Heap.lt_size e
  have f3 : ∀ b ∈ fp, FpOk X pins H3 b ∧ b < h3.objs.size := fun b hb => ⟨⟨keepN b (f2 b hb).1 (szf b hb), (f2 b hb).2⟩, Nat.lt_of_lt_of_le (szf b hb) hsz⟩
  have st3 : tn 0 h3 := TU.keep _ _ _ st2 fun b hb o e => keepH b o (hP' b hb) e
  generalize hs4 : ({ s2 with heap := h3, toks := tk } : Shared) = s4 at I3 ⊢
  have h4 : s4.heap = h3 := by rw [← hs4]
  intro h' hn' hs'
  have f4 : ∀ b ∈ fp, FpOk X pins H3 b ∧ b < s4.heap.objs.size := fun b hb => by rw [h4]; exact f3 b hb
  have st4 : tn 0 s4.heap := by rw [h4]; exact st3
  have hszG : h'.objs.size = s4.heap.objs.size + 1 := by rw [hs'.1, Heap.size_push]
  have keep' : ∀ b o, s4.heap.get? b = some o → h'.get? b = some o := fun b o e => hs'.extBut b o (Nat.ne_of_lt (Heap.lt_size e)) (Heap.get?_push_of_some _ e)
  generalize hge : genEnv scope (cloFrom X.env.cells scope.names []) s4.heap.objs.size code builtinsNs X.env = genv
  generalize hoa : ({ cls := .type "generator", data := .fields #[.int s4.gens.size 0, .str "<genexpr>" (s4.toks + 1), .str (X.env.qual ++ "<genexpr>") (s4.toks + 1 + 1)] } : Obj) = oa
  generalize haa : h'.objs.size = a
  have keep5 : ∀ b o, s4.heap.get? b = some o → (h'.push oa).get? b = some o := fun b o e => Heap.get?_push_of_some _ (keep' b o e)
  have hget : (h'.push oa).get? a = some oa := by
    rw [← haa]
    exact Heap.get?_push_size _ (by rw [← hoa]; rfl)
  generalize hg5 : s4.gens.push (.fresh (.compStart (geE elt (.Name x px) iter scope gpos) 0 (.ref it) .none genv)) = g5
  have bare5 : AllBare g5 := by rw [← hg5]; exact I3.bare.push rfl
  have isg : ∀ h : Heap, h.get? a = some oa → h.IsGen a s4.gens.size := fun h e => ⟨oa, .str "<genexpr>" (s4.toks + 1), .str (X.env.qual ++ "<genexpr>") (s4.toks + 1 + 1), e, by rw [← hoa], by rw [← hoa], by rw [← hoa]⟩
  generalize hAg : gnA X.A (geE elt (.Name x px) iter scope gpos) (.ref it) genv = Ag
  have frA : Ag.frames = some (genv :: X.stack) := by rw [← hAg]; exact gnA_frames I3.ok.frames
  have rA : Room k Ag := by rw [← hAg]; exact gnA_room hr
  have Ig : Inv (gnX X Ag s4 H3 scope code builtinsNs fp) [(a, oa)] (L2.wipe σ [j]) H3 { s4 with heap := h'.push oa, gens := g5, toks := s4.toks + 1 + 1 + 1 } :=
    gen_start I3 L hN f4 rA.hd (by rw [frA, ← hge]) (hn'.push _) keep5 hget (by omega) (fun v e => by rw [← hoa] at e; cases e) bare5
  have nfp : ∀ b ∈ fp, H3 b = none := fun b hb => (f4 b hb).1.1
  have genvE : (gnX X Ag s4 H3 scope code builtinsNs fp).env = genv := hge
  have pe := he Ag s4 H3 code builtinsNs fp rA
  have pg : PG (gnX X Ag s4 H3 scope code builtinsNs fp) (.Name x px) (gName j) := pg_name (X := gnX X Ag s4 H3 scope code builtinsNs fp) hN L.ix (.inl L.loc) (.inr L.loc)
  have stat : ∀ {σ' : L2.St} {H' : Hp} {s' : Shared}, Inv (gnX X Ag s4 H3 scope code builtinsNs fp) [(a, oa)] σ' H' s' → (∀ b ∈ fp, H' b = none) → ∀ b ∈ fp, FpOk (gnX X Ag s4 H3 scope code builtinsNs fp) [(a, oa)] H' b := fun {σ' H' s'} I' hn b hb =>
    ⟨hn b hb, (I'.ok.exf b hb).1, I'.ok.exfs b hb, .inl hb, fun x c e => (I'.ok.exf b hb).2 x c e, fun p hp => by
      have e : p = (a, oa) := by simpa using hp
      rw [e]
      exact Nat.ne_of_gt (Nat.lt_trans (f4 b hb).2 (by omega))⟩
  have back : ∀ {pl : List (Addr × Obj)} {σ' : L2.St} {H' : Hp} {s' : Shared}, Inv (gnX X Ag s4 H3 scope code builtinsNs fp) pl σ' H' s' → Inv X pins σ H' s' := fun {pl σ' H' s'} I6 =>
    I3.call' (ch := fp) I6.os I6.base I6.hok I6.bare fun b hb => ⟨(f4 b hb).1.2.2.2.1, (f4 b hb).1.2.1, (f4 b hb).1.2.2.2.2.1, (f4 b hb).1.2.2.2.2.2⟩
  have hZ' : ∀ {pl : List (Addr × Obj)} {σ' : L2.St} {H' : Hp} {s' : Shared}, Inv (gnX X Ag s4 H3 scope code builtinsNs fp) ([(a, oa)] ++ pl) σ' H' s' → s'.heap.IsGen a s4.gens.size ∧ s'.heap.NoLimit := fun {pl σ' H' s'} I6 =>
    ⟨isg _ (I6.pin (a, oa) (by simp)).1, I6.nolimit⟩
  refine Calls.spliced_nil ?_
  refine call_all (prog := X.prog) (w := X.w) (A := X.A) (g := s4.gens.size) (n := m0) (T := fun s' => ∃ H', Inv X pins σ H' s' ∧ Q (.bl true) H') (Z := fun h => h.IsGen a s4.gens.size ∧ h.NoLimit) (F := fun s' => ∃ H', Inv X pins σ H' s' ∧ Q (.bl false) H')
    hr.hd hr.depth (fun _ z => z) (fun s' ⟨H', I', q'⟩ => ⟨.bl true, H', I', rfl, q'⟩) (fun s' ⟨H', I', q'⟩ => ⟨.bl false, H', I', rfl, q'⟩) ?_
  have Iv0 : ∃ i H', Inv (gnX X Ag s4 H3 scope code builtinsNs fp) [(a, oa)] (L2.wipe σ [j]) H' { s4 with heap := h'.push oa, gens := g5, toks := s4.toks + 1 + 1 + 1 } ∧ tn i (h'.push oa) ∧ (∀ b ∈ fp, H' b = none) ∧ W i m0 H' :=
    ⟨0, H3, Ig, TU.keep _ _ _ st4 fun b _ o e => keep5 b o e, nfp, w0⟩
  have hwk : ∀ (n : Nat) (s s' : Shared), (∃ i H', Inv (gnX X Ag s4 H3 scope code builtinsNs fp) [(a, oa)] (L2.wipe σ [j]) H' s ∧ tn i s.heap ∧ (∀ b ∈ fp, H' b = none) ∧ W i n H') → Wk s s' →
      (∃ i H', Inv (gnX X Ag s4 H3 scope code builtinsNs fp) [(a, oa)] (L2.wipe σ [j]) H' s' ∧ tn i s'.heap ∧ (∀ b ∈ fp, H' b = none) ∧ W i n H') := fun n s s' ⟨i, H', I', t', n', w'⟩ wk =>
    ⟨i, H', inv_wk I' wk, TU.keep _ _ _ t' fun b _ o e => wk.keep b o e, n', w'⟩
  refine ⟨isg _ hget, I3.nolimit.keeps keep5, bare5, .fresh (.compStart (geE elt (.Name x px) iter scope gpos) 0 (.ref it) .none genv), by rw [← hg5]; exact Array.getElem?_push_size .., fun s' wk => ⟨rfl, ?_⟩⟩
  refine gen_seg0 (A := X.A.in1.in1) (it := .ref it) (fun n s' => ∃ i H', Inv (gnX X Ag s4 H3 scope code builtinsNs fp) [(a, oa)] (L2.wipe σ [j]) H' s' ∧ tn i s'.heap ∧ (∀ b ∈ fp, H' b = none) ∧ W i n H') (fun n s Q ⟨i, H', I', t', _⟩ q => TU.self _ i s Q _ t' q) ?_ m0 s' s' (hwk _ _ _ Iv0 wk) (Nat.le_refl _)
  refine gen_seg (A := X.A.in1.in1) (it := .ref it) _ (by rw [← hge]; exact L.co) hwk ?_
  rw [show X.A.in1.in1.over (.compLoop (geE elt (.Name x px) iter scope gpos) 0 (.ref it) .none genv) [] = Ag from hAg]
  rintro n s5 ⟨i, H5, I5, st5, n5, w5⟩
  rcases turn i n H5 w5 with ⟨stop, qq⟩ | ⟨go, m', em, step⟩
  · have td := TU.done (gnX X Ag s4 H3 scope code builtinsNs fp) rfl rfl rfl rfl i [(a, oa)] s5 _ H5 (fun _ _ => False) I5 (stat I5 n5) st5 stop
    refine thnF td fun r s6 ⟨hr', I6⟩ => ?_
    subst hr'
    exact ⟨I6.bare, fun s' wk => ⟨H5, inv_wk (back I6) wk, qq⟩⟩
  · have ti := TU.item (gnX X Ag s4 H3 scope code builtinsNs fp) rfl rfl rfl rfl i [(a, oa)] s5 _ H5 (fun _ _ => False) I5 (stat I5 n5) st5 go
    refine thnF ti fun r s6 ⟨u, hr', h6⟩ => ?_
    subst hr'
    refine ⟨m', em, ?_⟩
    refine thnF h6 fun _ s7 ⟨y, H7, I7, r7, y7, st7, n7⟩ => ?_
    have I7' := I7.pinned (stat I7 n7) (TU.obj _ _ st7)
    have pgr := pg.run _ s7 _ H7 y u (fun σ' H' => σ' = (L2.wipe σ [j]).set j (some y) ∧ H' = H7) I7' r7 ⟨rfl, rfl⟩
    rw [genvE] at pgr
    refine thnF pgr fun _ s8 ⟨σ8, H8, I8, e8, e8'⟩ => ?_
    subst e8'
    subst e8
    have per := pe.run _ s8 _ H8 _ I8 (step y H8 y7)
    rw [genvE] at per
    refine thnF per fun v s10 ⟨yv, H10, I10, r10, b, eb, nx⟩ => ?_
    subst eb
    obtain rfl : v = Value.bool b := r10
    refine ⟨b, rfl, I10.bare, hZ' I10, fun hb => ?_, fun hb s' wk => ?_⟩
    · subst hb
      have pin' : ∀ b ∈ fp, ∀ o, s7.heap.get? b = some o → s10.heap.get? b = some o ∧ H10 b = none := fun b hb o e =>
        let z := I10.pin (b, o) (List.mem_append_right _ (List.mem_append_right _ (mem_pinsAt hb e)))
        ⟨z.1, z.2.1⟩
      refine ⟨i + 1, H10, (I10.unpinned (pins := [(a, oa)])).weak (by simp) (fun i' v' e => ?_), TU.keep _ _ _ st7 fun b hb o e => (pin' b hb o e).1, fun b hb => ?_, nx⟩
      · obtain ⟨e1, e2⟩ := L2.wipe_some e
        have e2 : j ≠ i' := fun z => e2 (by rw [z]; exact List.mem_singleton.mpr rfl)
        rw [List.getElem?_set_ne e2]
        exact e
      · obtain ⟨o, e, _⟩ := TU.obj _ _ st7 b hb
        exact (pin' b hb o e).2
    · subst hb
      exact ⟨H10, inv_wk (back I10) wk, nx⟩
end
end OR

set_option Elab.async false
set_option linter.all false
set_option maxRecDepth 100000
set_option maxHeartbeats 2000000
namespace OR
open PySem PySem.Spec PyProof.Rows L2
/-- the running def's own code object and its table: nothing but code of the name q is in it -/
def GT (X : Cx) (T : List (Addr × Str)) (q : Str) : Prop := ∃ c P, LamX.TabB X.base X.mg c P ∧ X.env.code = .ref c ∧ (P, X.env.qual ++ q) ∈ T ∧ ∀ p ∈ T, p.1 = P → p.2 = X.env.qual ++ q
/-- a def whose code object is at ca -/
structure FunC (K : PySem.W.Frag) (x qual : Str) (st : Stmt) (f : Addr) (fd : FuncData) (ca : Addr) : Prop where
  ex : ∃ (oc : Value) (od : Option Addr) (kV doc pm : Value) (an : Option Addr) (ct : Value) (osl : Array (Option Value)),
    fd = PySem.W.fnOf x qual (defArgs st) (defBody st) (defScope st) .none kV doc pm an (.ref ca) ct ∧ K.lookup f = some ⟨oc, od, .func fd, osl⟩ ∧ PySem.W.codeIn K (.ref ca) qual = true
  kp : PySem.W.keepIn K (.ref f) = true
theorem FunC.fn {K : PySem.W.Frag} {x qual : Str} {st : Stmt} {f : Addr} {fd : FuncData} {ca : Addr} (F : FunC K x qual st f fd ca) : Fun K x qual st f fd := by
  obtain ⟨oc, od, kV, doc, pm, an, ct, osl, h1, h2, h3⟩ := F.ex
  exact ⟨⟨oc, od, kV, doc, pm, an, .ref ca, ct, osl, h1, h2, h3⟩, F.kp⟩
section
variable {P : Program} {w : World} {K : PySem.W.Frag} {mg : Str → Option Value} {base : Heap} {T : List (Addr × Str)} {R : RO} {kk : Nat}
theorem S.gst {ds : List SV} {B : Oty} {H : Hp} {M : List Addr} {N : List Str} {vs : List V} (s0 : S (c0 K T H M B) [] B [] H) (r : SVs K (fz (mm (c0 K T H M B) B) H) vs ds) : S (c0 K T H M B) (gst N ds) B (L2.start N vs) H :=
  ⟨s0.tb, s0.mv, s0.nd, s0.nw, s0.dj, s0.lk, s0.ow, s0.lv, fun i d e => by
      unfold L2.start
      rw [svs_length r]
      exact svs_env _ r e, by
      unfold L2.start OR.gst
      rw [List.length_append, List.length_append, List.length_map, List.length_map, List.length_replicate, List.length_replicate, svs_length r], s0.pi⟩
theorem okOC {qual : Str} {st : Stmt} {f ca : Addr} {fd : FuncData} {N ps : List Str} (F : FunC K qual qual st f fd ca) (sc : FnScope N ps (defScope st)) (len : ∀ ds B k xk, R ds B k xk → ds.length = ps.length)
    (hbody : ∀ (A : Around) (outer : List Env) (s : Shared) (H : Hp) (E : XK) (M : List Addr) (ds : List SV) (B : Oty) (k : SV → Oty → Oty → Prop) (xk : XKo), Room kk (bodyX P w K mg base N qual st f (.ref ca) A outer s H E).A →
      Let (bodyX P w K mg base N qual st f (.ref ca) A outer s H E) (c0 K T H M B) (fun C fs _ _ => xk C fs) → R ds B k xk →
      SS (bodyX P w K mg base N qual st f (.ref ca) A outer s H E) (c0 K T H M B) (defBody st) (gst N ds) B { nx := fun _ O => rtk B k (.dat .none) O, rt := rtk B k }) :
    FnOk P w K mg base (L2.CX P w) (kk + 1) f fd ps (spO K T R) := by
  have ll : ∀ vs H Q E, spO K T R vs H Q E → vs.length = ps.length := fun vs H Q E ⟨M, ds, B, k, xk, s, r, h, _⟩ => (svs_length r).trans (len _ _ _ _ h)
  obtain ⟨oc, od, kV, doc, pm, an, ct, osl, rfl, lk, hcd⟩ := F.ex
  refine fn_of lk hcd sc ll fun A outer s H vs Q E hr h => ?_
  obtain ⟨M, ds, B, k, xk, s0, r, hR, hq, hx⟩ := h
  refine ⟨wSs _ _, pss_w, ?_⟩
  refine wSs_mono (hbody A outer s H E M ds B k xk hr ⟨_, takes_of rfl rfl rfl rfl, fun C dx fs G O σ H' z s1 ed => hx C dx fs H' z s1.mv s1.tb ed⟩ hR (L2.start N vs) H (s0.gst r)) (fun σ' H' ⟨G', O', q1, q2⟩ => ?_) (fun v H' ⟨σ', G', O', d, q1, q2⟩ => ?_) (fun _ _ q => ?_) (fun _ _ q => ?_)
  · obtain ⟨B', N', rfl, e, q1⟩ := q1
    exact hq .non (.dat .none) B' N' H' q1 e (q2.pin (v := .non) (d := .dat .none) Dp.non).bare
  · obtain ⟨B', N', rfl, e, q1⟩ := q1
    exact hq v d B' N' H' q1 e q2.bare
  · obtain ⟨_, _, z, _⟩ := q
    exact z
  · obtain ⟨_, _, z, _⟩ := q
    exact z
end
/-! ### all(..) of a generator expression -/
section
variable {X : Cx} {c : Cc} {G : Gty} {O : Oty} {elt iter a b : Expr} {pos p px gpos p1 pc : Pos} {k : SV → Oty → Prop} {x : Str} {j kk : Nat} {scope : Scope}
/-- over all frames of the generator -/
def aG (X : Cx) (scope : Scope) (elt : Expr) (kk : Nat) : TE := fun σ H Q => ∀ (A : Around) (s : Shared) (H0 : Hp) (code : Value) (bi : Addr) (fp : List Addr), Room kk A → wE (gnX X A s H0 scope code bi fp) elt σ H Q
theorem pe_g (A : Around) (s : Shared) (H0 : Hp) (code : Value) (bi : Addr) (fp : List Addr) (hr : Room kk A) : PE (gnX X A s H0 scope code bi fp) elt (aG X scope elt kk) := ⟨fun pins s' σ H' Q I h => h A s H0 code bi fp hr pins s' I⟩
theorem S.wiped {σ : L2.St} {H : Hp} (hj : G[j]? = some none) (s : S c G O σ H) : S c G O (L2.wipe σ [j]) H :=
  ⟨s.tb, s.mv, s.nd, s.nw, s.dj, s.lk, s.ow, s.lv, fun i d e => by
    obtain ⟨v, h1, h2⟩ := s.en i d e
    refine ⟨v, ?_, h2⟩
    show (σ.set j none)[i]? = _
    rw [List.getElem?_set_ne fun z => by rw [z, e] at hj; cases hj]
    exact h1, by rw [L2.wipe_length]; exact s.ln, s.pi⟩
theorem S.unwipe {σ : L2.St} {H : Hp} {y : V} {d : SV} {O0 : Oty} {H0 : Hp} (hj : G[j]? = some none) (s0 : S c G O0 σ H0) (s : S c (G.set j (some d)) O ((L2.wipe σ [j]).set j (some y)) H) : S c G O σ H :=
  ⟨s.tb, s.mv, s.nd, s.nw, s.dj, s.lk, s.ow, s.lv, fun i d e => by
    have hji : j ≠ i := fun z => by rw [z, e] at hj; cases hj
    obtain ⟨v, h1, h2⟩ := s.en i d (by rw [List.getElem?_set_ne hji]; exact e)
    refine ⟨v, ?_, h2⟩
    have h1 : ((σ.set j none).set j (some y))[i]? = some (some v) := h1
    rw [List.getElem?_set_ne hji, List.getElem?_set_ne hji] at h1
    exact h1, s0.ln, s.pi⟩
theorem ke_tbl {H H' : Hp} (h : LamX.ExtN H H') : Ke H H' := extN_ke h
/-- one element -/
theorem el_step {σ : L2.St} {H : Hp} {y : V} {d : SV} {pb : Bool} {Q : VK} (hj : G[j]? = some none) (s : S c G O σ H) (hy : SVr c.K (fz (mm c O) H) y d)
    (he : ∀ (A : Around) (s : Shared) (H0 : Hp) (code : Value) (bi : Addr) (fp : List Addr), Room kk A → EV (gnX X A s H0 scope code bi fp) c elt (G.set j (some d)) O fun d' O2 => d' = .dat (.bool pb) ∧ O2 = O)
    (hq : ∀ H', S c G O σ H' → Q (.bl pb) H') : aG X scope elt kk ((L2.wipe σ [j]).set j (some y)) H Q := fun A s1 H0 code bi fp hr => by
  refine he A s1 H0 code bi fp hr _ H _ ((s.wiped hj).set j hy) fun v d' O' H' ⟨e1, e2⟩ hs => ?_
  subst e1
  subst e2
  have e : v = .bl pb := dp_bl hs.pinned
  rw [e]
  exact hq H' (S.unwipe hj s hs.unpin)
theorem ev_allT (p' : D → Bool) (hr : Room (kk + 1) X.A) (hc : X.calm = true) (hN : X.N.Nodup) (hm : X.mg "all" = none) (gt : GT X c.T "<genexpr>") (L : GnOk X.N X.env.scope scope x j) (hj : G[j]? = some none)
    (h : EV X c iter G O fun d O1 => ∃ ds, d = .dat (.tuple ds) ∧ (∀ (q : Pn) (i : Nat) (dk : D), ds[i]? = some dk → ∀ (A : Around) (s : Shared) (H0 : Hp) (code : Value) (bi : Addr) (fp : List Addr), Room kk A → EV (gnX X A s H0 scope code bi fp) (c.pn q) elt (G.set j (some (.dat dk))) O1 fun d' O2 => d' = .dat (.bool (p' dk)) ∧ O2 = O1) ∧ k (.dat (.bool (ds.all p'))) O1)
    (hK : X.K = c.K := by rfl) (hg : Gl X "all" := by rfl) (hs : ∀ v, genFold iter X.env v = pure v := by intro _; rfl)
    (hst : starEach [geE elt (.Name x px) iter scope gpos] X.env = (false, eval (geE elt (.Name x px) iter scope gpos) X.env) :: starEach [] X.env := by rfl) :
    EV X c (.Call (.Name "all" p) [geE elt (.Name x px) iter scope gpos] [] pos) G O k := fun σ H Q s q => by
  obtain ⟨cc, P, TB, hcode, hT1, hu⟩ := gt
  refine wE_of (pe_allG hr hc hN hg hm TB hcode hT1 hu L (pi_tup pe_w) (fun A s H code bi fp hr => pe_g A s H code bi fp hr) hs hst) ?_
  refine h σ H _ s fun v d O1 H1 hk hs => ?_
  obtain ⟨ds, rfl, he, hkk⟩ := hk
  obtain ⟨pp, us, rfl, hp, hd⟩ := dp_tup hs.pinned
  have hs1 : S (c.pn (pnT pp us ds)) G O1 σ H1 := hs.unpin.hold ⟨hp, hd⟩
  refine ⟨pp, rfl, ⟨us, hK ▸ sqT_ke fz_ke hp⟩, hs1.tb, fun H4 eN T4 => ?_⟩
  have hs4 : S (c.pn (pnT pp us ds)) G O1 σ H4 := hs1.step (ke_tbl eN) T4
  have hl := dpAll_length hd
  refine ⟨fun i m H => m = ds.length - i ∧ i ≤ ds.length ∧ (ds.take i).all p' = true ∧ S (c.pn (pnT pp us ds)) G O1 σ H, ds.length, ⟨by simp, Nat.zero_le _, rfl, hs4⟩, fun i m H ⟨em, hi, hpre, hs'⟩ => ?_⟩
  have hq := hs'.held
  have hT : SqT X.K H pp us := hK ▸ sqT_ke fz_ke hq.1
  by_cases hlt : i < ds.length
  · obtain ⟨y, hy⟩ : ∃ y, us[i]? = some y := ⟨us[i]'(by omega), List.getElem?_eq_getElem _⟩
    obtain ⟨dk, h1, h2⟩ := dpAll_get' hq.2 hy
    refine .inr ⟨⟨us, y, hT, hy⟩, ds.length - (i + 1), by omega, fun x' H' hyl => ?_⟩
    obtain ⟨e1, e2⟩ := hyl
    subst e1
    have e3 : us[i]? = some x' := e2 us hT
    rw [hy] at e3
    cases e3
    refine el_step (d := .dat dk) hj hs' h2 (he _ i dk h1) fun H' hs'' => ⟨p' dk, rfl, ?_⟩
    have ht : (ds.take (i + 1)).all p' = ((ds.take i).all p' && p' dk) := by
      rw [List.take_add_one, h1]
      simp
    cases hb : p' dk with
    | true =>
      rw [if_pos rfl]
      exact ⟨rfl, hlt, by rw [ht, hpre, hb]; rfl, hs''⟩
    | false =>
      rw [if_neg Bool.false_ne_true]
      have hf : ds.all p' = false := by
        rw [List.all_eq_false]
        exact ⟨dk, List.mem_of_getElem? h1, by rw [hb]; simp⟩
      rw [hf] at hkk
      exact q _ _ O1 H' hkk (hs''.unpin.pin (Dp.bl false))
  · have e : i = ds.length := by omega
    refine .inl ⟨⟨us, hT, by omega⟩, ?_⟩
    rw [e, List.take_length] at hpre
    rw [hpre] at hkk
    exact q _ _ O1 H hkk (hs'.unpin.pin (Dp.bl true))
/-- all(elt for x in range(a, b)) -/
theorem ev_allR2 (p' : Int → Bool) (hr : Room (kk + 1) X.A) (hc : X.calm = true) (hN : X.N.Nodup) (hm : X.mg "all" = none) (hmr : X.mg "range" = none) (gt : GT X c.T "<genexpr>") (L : GnOk X.N X.env.scope scope x j) (hj : G[j]? = some none)
    (h : EA X c [a, b] G O fun ds O1 => ∃ l n : Int, ds = [.dat (.int l), .dat (.int n)] ∧ (-1000000000 ≤ l ∧ l ≤ 1000000000 ∧ -1000000000 ≤ n ∧ n ≤ 1000000000) ∧
      (∀ (i : Nat), l + (i : Int) < n → ∀ (A : Around) (s : Shared) (H0 : Hp) (code : Value) (bi : Addr) (fp : List Addr), Room kk A → EV (gnX X A s H0 scope code bi fp) c elt (G.set j (some (.dat (.int (l + i))))) O1 fun d' O2 => d' = .dat (.bool (p' (l + i))) ∧ O2 = O1) ∧
      k (.dat (.bool ((List.range (n - l).toNat).all fun i => p' (l + i)))) O1)
    (hg : Gl X "all" := by rfl) (hgr : Gl X "range" := by rfl) (ha : starEach [a, b] X.env = [(false, eval a X.env), (false, eval b X.env)] := by rfl) (ha2 : starEach [b] X.env = [(false, eval b X.env)] := by rfl) (hs : ∀ v, genFold (.Call (.Name "range" p1) [a, b] [] pc) X.env v = pure v := by intro _; rfl)
    (hst : starEach [geE elt (.Name x px) (.Call (.Name "range" p1) [a, b] [] pc) scope gpos] X.env = (false, eval (geE elt (.Name x px) (.Call (.Name "range" p1) [a, b] [] pc) scope gpos) X.env) :: starEach [] X.env := by rfl) :
    EV X c (.Call (.Name "all" p) [geE elt (.Name x px) (.Call (.Name "range" p1) [a, b] [] pc) scope gpos] [] pos) G O k := fun σ H Q s q => by
  obtain ⟨cc, P, TB, hcode, hT1, hu⟩ := gt
  refine wE_of (pe_allG hr hc hN hg hm TB hcode hT1 hu L (pi_range2 hgr hmr pa_w ha ha2) (fun A s H code bi fp hr => pe_g A s H code bi fp hr) hs hst) ?_
  refine h σ H _ s fun vs ds O1 H1 hk hs rv => ?_
  obtain ⟨l, n, rfl, hn, he, hkk⟩ := hk
  obtain ⟨v, w, rfl, r, r'⟩ := svs2 rv
  refine ⟨l, n, by rw [dp_int r, dp_int r'], ⟨by omega, by omega, by omega, by omega⟩, hs.tb, fun H4 eN T4 => ?_⟩
  have hs4 : S c G O1 σ H4 := hs.step (ke_tbl eN) T4
  refine ⟨fun i m H => m = (n - l).toNat - i ∧ i ≤ (n - l).toNat ∧ ((List.range i).all fun i => p' (l + i)) = true ∧ S c G O1 σ H, (n - l).toNat, ⟨by simp, Nat.zero_le _, rfl, hs4⟩, fun i m H ⟨em, hi, hpre, hs'⟩ => ?_⟩
  by_cases hlt : i < (n - l).toNat
  · refine .inr ⟨hlt, (n - l).toNat - (i + 1), by omega, fun x' H' hyl => ?_⟩
    obtain ⟨e1, e2⟩ := hyl
    subst e1
    subst e2
    refine el_step (d := .dat (.int (l + i))) hj hs' (Dp.int _) (he i (by omega)) fun H' hs'' => ⟨p' (l + i), rfl, ?_⟩
    cases hb : p' (l + i) with
    | true =>
      rw [if_pos rfl]
      exact ⟨rfl, hlt, by rw [List.range_succ, List.all_append, hpre]; simp [hb], hs''⟩
    | false =>
      rw [if_neg Bool.false_ne_true]
      have hf : ((List.range (n - l).toNat).all fun i => p' (l + i)) = false := by
        rw [List.all_eq_false]
        exact ⟨i, List.mem_range.mpr hlt, by simp [hb]⟩
      rw [hf] at hkk
      exact q _ _ O1 H' hkk (hs''.pin (Dp.bl false))
  · have e : i = (n - l).toNat := by omega
    refine .inl ⟨by show (n - l).toNat ≤ i; omega, ?_⟩
    rw [e] at hpre
    rw [hpre] at hkk
    exact q _ _ O1 H hkk (hs'.pin (Dp.bl true))
end
end OR

set_option Elab.async false
set_option linter.all false
set_option maxRecDepth 100000
set_option maxHeartbeats 2000000
namespace OR
open PySem PySem.Spec PyProof.Rows L2
/-! ### _law_refused(lambda: ..) -/
theorem takes_len {X : Cx} {W : WX} (tk : Takes X W) : Takes X (fun cls d σ H => σ.length = X.N.length → W cls d σ H) := fun u s' ⟨a, B, sI, pins, σ, H, cls, d, e, I, nb, up, sky, na, os, ag, w⟩ =>
  tk u s' ⟨a, B, sI, pins, σ, H, cls, d, e, I, nb, up, sky, na, os, ag, w I.len⟩
/-- try: a() / except C as e: return e.name / return ret -/
def TTref (K : PySem.W.Frag) (C : Addr) (ret : Str) : (XK → Hp → VK → Prop) → Hp → VK → Prop := fun tl H Q =>
  tl (fun cls d H' => ∃ b, PySem.W.exmOne K cls (.ref C) = some b ∧ (b = true → cls = .ref C ∧ ∃ (dd : Addr) (v : V), d = some dd ∧ H' dd = some (.xd [(("name" : Str), v)]) ∧ Q v H') ∧ (b = false → False)) H (fun _ H' => Q (.str ret) H')
theorem ref_gives {X : Cx} {C fI : Addr} {x q ret : Str} {sg : Scope} {g : Addr} {cdg : Value} {j : Nat} {p1 p2 p3 p4 p5 p6 p7 p8 p9 p10 p11 : Pos} (T : PySem.OrX.BadTxt X.prog X.K X.mg C fI)
    (hge : sg.names.lookup ("BadArgument" : Str) = some .globalImplicit) (hle : sg.names.lookup ("e" : Str) = some .local) :
    LamX.GivesTo X ["call", "e"] x sg g cdg [.Try [.Expr (.Call (.Name "call" p1) [] [] p2) p3] [.ExceptHandler (some (.Name "BadArgument" p4)) (some "e") [.Return (some (.Attribute (.Name "e" p5) "name" p6)) p7] p8] [] [] p9, .Return (some (.Constant (.str ret) j p10)) p11] "call" q (TTref X.K C ret) := by
  intro f c' s H Q tl act hc h
  have hgl : Gl (cxOf C8.CX0 X.prog X.w X.K X.mg X.base ["call", "e"] x sg g cdg X.A X.stack s H C8.E0).nox "BadArgument" := hge
  refine ⟨_, pss_cons (ps_try_as (X := (cxOf C8.CX0 X.prog X.w X.K X.mg X.base ["call", "e"] x sg g cdg X.A X.stack s H C8.E0).nox) (i := 1) (c := .ref C)
      (tb := fun W D σ H => ∃ Ech : XK, (∀ cls d σ' H', σ'.length = 2 → Ech cls d H' → W cls d σ' H') ∧ σ[0]? = some (some (.ref f)) ∧ H c' = some (LamX.CodeO c' q) ∧ tl Ech H (fun _ H' => D.nx σ H'))
      (ts := fun a cls d => tRet (tNameBad C a cls d (tVar 1)))
      rfl rfl (show (["call", "e"] : List Str).Nodup by decide) rfl hle ⟨hgl, by decide, .inl T.gC⟩ takes0 (fun W pn xe tk _ => ?_) (fun a oe cls d pn hz hf => pss_one (ps_ret (pe_nameBad (X := (cxOf C8.CX0 X.prog X.w X.K X.mg X.base ["call", "e"] x sg g cdg X.A X.stack s H C8.E0).nox) T hz hf (pe_var (i := 1) rfl (Or.inl hle)))))) (pss_one (ps_ret pe_str)), ?_⟩
  · refine ⟨fun pins s' σ H' D I h' => ?_⟩
    obtain ⟨Ech, hW, h1, h2, h3⟩ := h'
    have hp := act (fun cls d σ' H' => σ'.length = 2 → W cls d σ' H') pn xe Ech p1 p2 (takes_len tk) fun cls d σ' H' z hl => hW cls d σ' H' hl z
    have hq := pss_one (ps_expr (pos := p3) hp (by rfl))
    exact hq.run pins s' σ H' D I ⟨h1, h2, h3⟩
  · refine ⟨fun cls d H' => ∃ b, PySem.W.exmOne X.K cls (.ref C) = some b ∧ (b = true → cls = .ref C ∧ ∃ (dd : Addr) (v : V), d = some dd ∧ H' dd = some (.xd [(("name" : Str), v)]) ∧ Q v H') ∧ (b = false → False), fun cls d σ' H' hl ⟨b, e1, e2, e3⟩ => ⟨b, e1, fun hb a _ => ?_, fun hb => e3 hb⟩, rfl, hc, ?_⟩
    · obtain ⟨ec, dd, v, ed, eh, eq⟩ := e2 hb
      exact ⟨_, by rw [List.getElem?_set_self (by omega)], rfl, ec, dd, v, ed, eh, eq⟩
    · exact h
/-- the law's own def of that form -/
structure RefO (P : Program) (K : PySem.W.Frag) (mg : Str → Option Value) (st : Stmt) (g C : Addr) : Prop where
  mgg : mg "_law_refused" = some (.ref g)
  kp : PySem.W.keepIn K (.ref g) = true
  ex : ∃ (oc : Value) (od : Option Addr) (kV doc pm : Value) (an : Option Addr) (cdv ct : Value) (osl : Array (Option Value)),
    K.lookup g = some ⟨oc, od, .func (PySem.W.fnOf "_law_refused" "_law_refused" (defArgs st) (defBody st) (defScope st) .none kV doc pm an cdv ct), osl⟩ ∧ PySem.W.codeIn K cdv "_law_refused" = true ∧ L2.Binds K (PySem.W.fnOf "_law_refused" "_law_refused" (defArgs st) (defBody st) (defScope st) .none kV doc pm an cdv ct) ["call"] []
  sc : FnScope ["call", "e"] ["call"] (defScope st)
  gv : ∀ (X : Cx) (q : Str) (cdg : Value), X.prog = P → X.K = K → X.mg = mg → LamX.GivesTo X ["call", "e"] "_law_refused" (defScope st) g cdg (defBody st) "call" q (TTref K C "")
  te : PySem.W.exmOne K (.ref C) (.ref C) = some true
/-- what is known of the slots -/
def pnG (G : Gty) (σ : L2.St) : Pn := ⟨fun K F => ∀ (i : Nat) (d : SV), G[i]? = some (some d) → ∃ v, σ[i]? = some (some v) ∧ SVr K F v d, fun _ _ _ e h i d g => by
  obtain ⟨v, h1, h2⟩ := h i d g
  exact ⟨v, h1, svr_ke e h2⟩⟩
section
variable {X : Cx} {c : Cc} {G : Gty} {O : Oty} {body : Expr} {params : Arguments} {pos p lpos : Pos} {k : SV → Oty → Prop} {kk : Nat} {scope : Scope} {st : Stmt} {g C : Addr}
theorem ev_refused (hr : Room (kk + 2) X.A) (gt : GT X c.T "<lambda>") (RF : RefO X.prog X.K X.mg st g C) (L : LamX.LamS X.env.scope scope)
    (h : ∀ (q : Pn) (A : Around) (outer : List Env) (s : Shared) (H : Hp) (E : XK) (f c' : Addr), Room kk (A.deeper (LamX.lamEnv X scope s.heap.objs.size f c')) →
      Let (LamX.lamCx X A outer s H E scope f c') (c.pn q) (fun C' fs _ O' => C' = C ∧ ∃ nm : Str, fs = [(("name" : Str), .str nm)] ∧ k (.dat (.str nm)) O') →
      EV (LamX.lamCx X A outer s H E scope f c') (c.pn q) body G O fun _ O' => k (.dat (.str "")) O')
    (hg : Gl X "_law_refused" := by rfl) (hdef : defaultsOf params X.env = ([], []) := by rfl)
    (hbind : ∀ (q : Str) (cl : List (Str × Addr)) (pm cv ctv : Value), bindArgs (PySem.W.kla_fn "<lambda>" q params body scope cl pm cv ctv) ⟨[], []⟩ = pure [] := by intros; rfl) :
    EV X c (.Call (.Name "_law_refused" p) [.Lambda params body scope lpos] [] pos) G O k := fun σ H Q s q => by
  obtain ⟨cc, P, TB, hcode, hT1, hu⟩ := gt
  obtain ⟨oc, od, kV, doc, pm, an, cdv, ct, osl, lk, hcd, hb⟩ := RF.ex
  have hva : Vis (defScope st) "call" := by
    rcases RF.sc.par "call" (by simp) with z | z
    · exact .inl z
    · exact .inr (.inl z)
  refine wE_of (LamX.pe_lamcall (t := fun E σ H Q => ∀ (A : Around) (outer : List Env) (s : Shared) (H0 : Hp) (f c' : Addr), Room kk (A.deeper (LamX.lamEnv X scope s.heap.objs.size f c')) → wE (LamX.lamCx X A outer s H0 E scope f c') body σ H Q)
    hg RF.mgg RF.kp lk hcd hb RF.sc rfl hva (RF.gv X _ cdv rfl rfl rfl) TB hcode hT1 hu hr L hdef hbind (fun A outer s H E f c' hr' => ⟨fun pins s' σ' H' Q' I h' => h' A outer s H f c' hr' pins s' I⟩)) ?_
  refine ⟨s.tb, fun H1 eN T1 => ?_⟩
  have s1 : S c G O σ H1 := s.step (ke_tbl eN) T1
  have s2 : S (c.pn (pnG G σ)) G O σ H1 := s1.hold (fun i d e => s1.en i d e)
  intro A outer s' H0 f c' hr'
  refine h (pnG G σ) A outer s' H0 _ f c' hr' ⟨_, takes_of rfl rfl rfl rfl, fun C' dx fs G' O' σ' H' z hs hd => ?_⟩ σ H1 _ s2 fun v d O' H' hk hs => q _ _ O' H' hk (hs.unpin.unpin.pin (Dp.str _))
  obtain ⟨rfl, nm, rfl, hk⟩ := z
  refine ⟨true, RF.te, fun _ => ⟨rfl, dx, .str nm, rfl, hd, q _ (.dat (.str nm)) O' H' hk ?_⟩, fun z => nomatch z⟩
  have hh := hs.held
  have hs' := hs.unpin
  have hs3 : S c G O' σ H' := ⟨hs'.tb, hs'.mv, hs'.nd, hs'.nw, hs'.dj, hs'.lk, hs'.ow, hs'.lv, hh, s.ln, hs'.pi⟩
  exact hs3.pin (Dp.str _)
end
end OR

set_option Elab.async false
set_option linter.all false
set_option maxRecDepth 100000
set_option maxHeartbeats 2000000
namespace OR
open PySem PySem.Spec PyProof.Rows L2
mutual
theorem reads_uniq {h : Heap} : ∀ (d d' : PyData) (v : Value) (as bs : List Addr), d.plain = true → Reads h v d as → Reads h v d' bs → d = d'
  | .none, _, _, _, _, _, r, r' => by cases r; cases r'; rfl
  | .bool b, _, _, _, _, _, r, r' => by cases r; cases r'; rfl
  | .int b, _, _, _, _, _, r, r' => by cases r; cases r'; rfl
  | .str b, _, _, _, _, _, r, r' => by cases r; cases r'; rfl
  | .list xs, _, _, _, _, hp, r, r' => by
    cases r with
    | list e1 e2 e3 ra =>
      cases r' with
      | list f1 f2 f3 rb =>
        rw [e1] at f1; cases f1
        rw [e3] at f3; cases f3
        rw [readsAll_uniq xs _ _ _ _ hp ra rb]
      | tuple f1 f2 f3 rb => rw [e1] at f1; cases f1; rw [e2] at f2; exact absurd (Value.type.inj f2) (by decide)
      | dict f1 f2 f3 rb => rw [e1] at f1; cases f1; rw [e2] at f2; exact absurd (Value.type.inj f2) (by decide)
  | .tuple xs, _, _, _, _, hp, r, r' => by
    cases r with
    | tuple e1 e2 e3 ra =>
      cases r' with
      | tuple f1 f2 f3 rb =>
        rw [e1] at f1; cases f1
        rw [e3] at f3; cases f3
        rw [readsAll_uniq xs _ _ _ _ hp ra rb]
      | list f1 f2 f3 rb => rw [e1] at f1; cases f1; rw [e2] at f2; exact absurd (Value.type.inj f2) (by decide)
      | dict f1 f2 f3 rb => rw [e1] at f1; cases f1; rw [e2] at f2; exact absurd (Value.type.inj f2) (by decide)
  | .dict _, _, _, _, _, hp, _, _ => by cases hp
theorem readsAll_uniq {h : Heap} : ∀ (ds ds' : List PyData) (vs : List Value) (as bs : List Addr), PyData.plainAll ds = true → ReadsAll h vs ds as → ReadsAll h vs ds' bs → ds = ds'
  | [], _, _, _, _, _, r, r' => by cases r; cases r'; rfl
  | d :: ds, _, _, _, _, hp, r, r' => by
    cases r with
    | cons r1 r2 =>
      cases r' with
      | cons s1 s2 =>
        have hp : (d.plain && PyData.plainAll ds) = true := hp
        rw [Bool.and_eq_true] at hp
        rw [reads_uniq d _ _ _ _ hp.1 r1 s1, readsAll_uniq ds _ _ _ _ hp.2 r2 s2]
end
section
variable {X : Cx} {c : Cc} {G : Gty} {O : Oty} {e a b o : Expr} {es : List Expr} {pos pos' p p2 : Pos} {k : SV → Oty → Prop} {i j : Int} {d : D} {xs ys : List D} {κ : Ko}
/-! ### max, min, < of data -/
theorem alike_ints (n : Int) (ns : List Int) : PySem.W.AlikeAll ((n :: ns).map PyData.int) := by
  refine ⟨fun x hx y hy => ?_, fun x hx => ?_⟩
  · obtain ⟨a, _, rfl⟩ := List.mem_map.mp hx
    obtain ⟨b, _, rfl⟩ := List.mem_map.mp hy
    rfl
  · obtain ⟨a, _, rfl⟩ := List.mem_map.mp hx
    exact fun z => by cases z
theorem depth_ints : ∀ ns : List Int, PyData.depthAll (ns.map PyData.int) ≤ 1
  | [] => by simp [PyData.depthAll]
  | n :: ns => by
    have := depth_ints ns
    simp only [List.map_cons, PyData.depthAll, PyData.depth]
    omega
theorem okc_maxT {n : Int} {ns : List Int} (hc : X.calm = true) (hu : X.A.units + 64 < cLine) (hk : k (.dat (.int (ns.foldl max n))) O) (hK : X.K = c.K := by rfl) : OKC X c (.builtin "max") [.dat (.tuple ((n :: ns).map .int))] O k := fun G σ H vs Q s rv q pins s' σ' us I r => by
  obtain ⟨v, rfl, rd⟩ := svs1 rv
  have h1 : Dp X.K H v (.tuple ((n :: ns).map .int)) := hK ▸ dp_ke fz_ke rd
  obtain ⟨p, ws, rfl, hp, hd⟩ := dp_tup h1
  obtain ⟨u, rfl, ru⟩ := vals1 r
  cases ru
  obtain ⟨its, r2, pt, _⟩ := I.tuple hp
  obtain ⟨as, ra⟩ := Dp.readsAll I ((n :: ns).map PyData.int) ws its hd r2
  refine PySem.W.max_tuple_data (I.ok.hd hc) pt (as := as) (by simpa using ra) (alike_ints n ns) ?_ fun i v h' tk bs hv hr hk' => ?_
  · have := depth_ints (n :: ns)
    simp only [List.map_cons] at this ⊢
    omega
  · rw [PySem.W.maxD_ints] at hr
    cases hr with
    | int _ t => exact ⟨.int _, H, I.kept hk', ⟨_, rfl⟩, q _ _ O H hk (s.pin (Dp.int _))⟩
theorem okc_minD {x : D} (hc : X.calm = true) (hu : X.A.units + 64 < cLine) (hd : PyData.depthAll (x :: xs) ≤ 60) (ha : PySem.W.AlikeAll (x :: xs)) (hk : k (.dat (PySem.W.minD x xs)) O) (hK : X.K = c.K := by rfl) : OKC X c (.builtin "min") [.dat (.list (x :: xs))] O k := fun G σ H vs Q s rv q pins s' σ' us I r => by
  obtain ⟨v, rfl, rd⟩ := svs1 rv
  have h1 : Dp X.K H v (.list (x :: xs)) := hK ▸ dp_ke fz_ke rd
  obtain ⟨p, ws, rfl, hp, hd'⟩ := dp_lst rd
  have hp' : SqL X.K H p ws := hK ▸ sqL_ke fz_ke hp
  have hd2 : DpAll X.K H ws (x :: xs) := hK ▸ dpAll_ke fz_ke hd'
  obtain ⟨u, rfl, ru⟩ := vals1 r
  cases ru
  obtain ⟨its, r2, pt, _⟩ := I.list hp'
  obtain ⟨as, ra⟩ := Dp.readsAll I (x :: xs) ws its hd2 r2
  refine PySem.W.min_list_data (I.ok.hd hc) pt.isList (as := as) (by simpa using ra) ha (by omega) fun i v h' tk bs hv hr hk' => ?_
  have hv' : its[i]? = some v := by simpa using hv
  have hi : i < its.length := (List.getElem?_eq_some_iff.mp hv').1
  obtain ⟨wv, hw⟩ : ∃ wv, ws[i]? = some wv := ⟨ws[i]'(by rw [r2.length]; exact hi), List.getElem?_eq_getElem _⟩
  obtain ⟨u2, hu2, ru2⟩ := r2.get hw
  rw [hv'] at hu2
  cases hu2
  obtain ⟨di, e1, e2⟩ := dpAll_get' hd' hw
  have I' : Inv X pins σ' H { s' with heap := h', toks := tk } := I.kept hk'
  obtain ⟨cs, rc⟩ := Dp.reads I di wv v (hK ▸ dp_ke fz_ke e2) ru2
  have eq : di = PySem.W.minD x xs := reads_uniq di _ v cs bs (dp_plain e2) (PySem.W.reads_keeps hk' rc) hr
  rw [eq] at e2
  exact ⟨wv, H, I', ru2, q _ _ O H hk (s.pin e2)⟩
theorem ok_ltD {d e : D} (hk : k (.dat (.bool (PySem.W.dataLt d e))) O) (ha : PySem.W.alike d e = true) (hn : d ≠ .none) (hu : X.A.units + 64 < cLine) (hd : Flat d ∨ Flat e) (hK : X.K = c.K := by rfl) : OK2 X c (compareOp .Lt) (.dat d) (.dat e) O k := fun G σ H v1 v2 Q s q pins s' σ' v u I r1 r2 => by
  have h1 : Dp X.K H v1 d := hK ▸ dp_ke fz_ke s.unpin.pinned
  have h2 : Dp X.K H v2 e := hK ▸ dp_ke fz_ke s.pinned
  obtain ⟨as, a1⟩ := Dp.reads I d v1 v h1 r1
  obtain ⟨bs, a2⟩ := Dp.reads I e v2 u h2 r2
  refine PySem.W.lt_data a1 a2 ha hn ?_ ⟨.bl _, H, I, rfl, q _ _ O H hk (s.unpin.unpin.pin (Dp.bl _))⟩
  unfold Flat at hd
  omega
/-! ### list.index of ints -/
theorem mk_index {ns : List Int} {n : Int} {j : Nat} {v1 : SV} (hj : ns[j]? = some n) (hno : ∀ m, m < j → ns[m]? ≠ some n) (hk : k (.dat (.int j)) O) (hK : X.K = c.K := by rfl) : MK c (rIndex X.K) (.dat (.list (ns.map .int))) [.dat (.int n)] O k := fun G σ H v vs Q s rv q => by
  obtain ⟨p, us, rfl, hp, hd⟩ := dp_lst s.pinned
  obtain ⟨w, rfl, rw'⟩ := svs1 rv
  have e := dpAll_ints' hd
  subst e
  have ew : w = .int n := dp_int rw'
  subst ew
  refine ⟨p, ns.map V.int, .int n, j, .int n, rfl, rfl, hK ▸ sqL_ke fz_ke hp, rfl, ?_, by rw [List.getElem?_map, hj]; rfl, by simp [eqV], fun m z hm hz => ?_, q _ _ O H hk (s.unpin.pin (Dp.int _))⟩
  · rw [List.all_eq_true]
    intro z hz
    obtain ⟨y, _, rfl⟩ := List.mem_map.mp hz
    rfl
  · rw [List.getElem?_map] at hz
    cases hy : ns[m]? with
    | none => rw [hy] at hz; cases hz
    | some y =>
      rw [hy] at hz
      cases hz
      have : y ≠ n := fun z => hno m hm (by rw [hy, z])
      simp [eqV, this]
/-! ### len(set(t)) of a tuple of ints -/
theorem call_lenSet : True := trivial
theorem ev_lenSet (hc : X.calm = true) (hm : X.mg "len" = none) (hm2 : X.mg "set" = none)
    (h : EV X c a G O fun d O1 => ∃ ns : List Int, d = .dat (.tuple (ns.map .int)) ∧ ns.length ≤ 1000 ∧ ∀ L : List Int, L.Nodup → (∀ z, z ∈ L ↔ z ∈ ns) → k (.dat (.int L.length)) O1) (hK : X.K = c.K := by rfl)
    (hg : Gl X "len" := by rfl) (hg2 : Gl X "set" := by rfl) (na : starEach [a] X.env = (false, eval a X.env) :: starEach [] X.env := by rfl) :
    EV X c (.Call (.Name "len" p) [.Call (.Name "set" p2) [a] [] pos] [] pos') G O k := fun σ H Q s q pins s' I => by
  refine Call_ (ld_blt I hg hm PySem.boot_len ?_)
  refine PyProof.Rows.callWith_builtin1 (PyProof.Rows.args_cons ?_ rfl) rfl rfl
  refine Call_ (ld_blt I hg2 hm2 PyProof.Rows.boot_set ?_)
  refine PyProof.Rows.callWith_type1 (PyProof.Rows.args_cons (thn (pe_w.run pins s' σ H (fun v H1 => ∃ ns : List Int, ∃ O1, S (c.pin v (.dat (.tuple (ns.map .int)))) G O1 σ H1 ∧ ns.length ≤ 1000 ∧ ∀ L : List Int, L.Nodup → (∀ z, z ∈ L ↔ z ∈ ns) → k (.dat (.int L.length)) O1) I (h σ H _ s fun v d O' H' ⟨ns, e, hl, hk⟩ hs => ⟨ns, O', e ▸ hs, hl, hk⟩)) fun v s1 ⟨x, H1, I1, r1, q1⟩ => PyProof.Rows.args_nil ?_) na) na rfl
  obtain ⟨ns, O1, hs, hl, hk⟩ := q1
  obtain ⟨pp, us, rfl, hp, hd⟩ := dp_tup hs.pinned
  have e := dpAll_ints' hd
  subst e
  cases r1
  obtain ⟨its, r, pt, hz⟩ := I1.tuple (show SqT X.K H1 pp (ns.map V.int) from hK ▸ sqT_ke fz_ke hp)
  have hi : IntsAre its.toArray.toList ns := ints_of_vals r
  refine call_set_tupI ns (I1.ok.hd hc) (show s1.heap.IsTuple pp its.toArray from pt) hi (by unfold scanBound; omega) fun h' tk cn R1 hcn kp => ?_
  refine PyProof.Rows.args_nil ?_
  obtain ⟨oo, es, ep, t, ho, hex, hdt, g, nd, hm3, hb, hf, hn, hr, hl2⟩ := R1
  have I2 : Inv X pins σ H1 { s1 with heap := h', toks := tk } := I1.kept kp
  have hkk := hk (es.toList.map keyOf) nd fun z => by rw [← hm3 z]; simp
  rw [List.length_map, Array.length_toList] at hkk
  exact call_len_set ho hex hdt hf (by rw [hn] <;> omega) ⟨.int es.size, H1, I2.tok _, ⟨_, rfl⟩, q _ _ O1 H1 hkk (hs.unpin.pin (Dp.int _))⟩
/-! ### (n,) * m -/
theorem ok_repT {m : Int} (hk : k (.dat (.tuple (List.replicate m.toNat xs).flatten)) O) (hne : xs ≠ []) (h1 : 2 ≤ m) (h2 : m ≤ 1000) (hl : xs.length ≤ 1000) (hK : X.K = c.K := by rfl) : OK2 X c (binaryOp .Mult) (.dat (.tuple xs)) (.dat (.int m)) O k :=
  ok2_of op_repT fun G σ H v1 v2 Q s q => by
    obtain ⟨p, us, rfl, hp, hd⟩ := dp_tup s.unpin.pinned
    refine ⟨p, m, us, rfl, dp_int s.pinned, hK ▸ sqT_ke fz_ke hp, fun z => ?_, h1, h2, by rw [dpAll_length hd]; exact hl, fun pp hpp => q _ _ O _ hk (s.unpin.unpin.newD hpp ?_)⟩
    · subst z
      cases hd
      exact hne rfl
    · have hd : DpAll c.K (fz (mm c O) H) us xs := hd
      generalize m.toNat = n
      induction n with
      | zero => exact .nil
      | succ n ih => rw [List.replicate_succ, List.replicate_succ, List.flatten_cons, List.flatten_cons]; exact dpAll_append hd ih
/-! ### slices and sums of lists -/
theorem dpAll_drop {K : PySem.W.Frag} {F : Hp} : ∀ {vs : List V} {ds : List D} (n : Nat), DpAll K F vs ds → DpAll K F (vs.drop n) (ds.drop n)
  | _, _, 0, h => h
  | _, _, n + 1, .nil => .nil
  | _, _, n + 1, .cons _ h => dpAll_drop n h
theorem dpAll_take {K : PySem.W.Frag} {F : Hp} : ∀ {vs : List V} {ds : List D} (n : Nat), DpAll K F vs ds → DpAll K F (vs.take n) (ds.take n)
  | _, _, 0, h => .nil
  | _, _, n + 1, .nil => .nil
  | _, _, n + 1, .cons h1 h => .cons h1 (dpAll_take n h)
/-- xs[:n] of a list: an own list -/
theorem ev_slLO {n : Int} {pn : Nat} {ps : Pos} (h0 : 0 ≤ n) (h : EV X c a G O fun d O1 => ∃ xs, d = .dat (.list xs) ∧ ∀ p, k (.val (.ref p)) (O1 ++ [(p, .lst (xs.take n.toNat))])) (hK : X.K = c.K := by rfl) :
    EV X c (.Subscript a (.Slice none (some (.Constant (.int n) pn ps)) none p2) pos) G O k := fun σ H Q s q => by
  refine wE_of (pe_slice sl_list pe_w po_none (po_some pe_int)) (h σ H _ s fun v d O1 H1 hk hs => ?_)
  obtain ⟨xs, rfl, hk⟩ := hk
  obtain ⟨p, us, rfl, hp, hd⟩ := dp_lst hs.pinned
  refine ⟨n, rfl, p, us, rfl, hK ▸ sqL_ke fz_ke hp, fun pp hpp => q _ _ _ _ (hk pp) ?_⟩
  have hs1 := hs.unpin
  have e1 : L2.cutV us none (some n) = us.take n.toNat := by
    unfold L2.cutV
    have a0 : HT.sIx us.length 0 none = 0 := rfl
    have a1 : HT.sIx us.length us.length (some n) = min n.toNat us.length := by
      unfold HT.sIx
      simp only
      split <;> omega
    rw [a0, a1, List.drop_zero, Nat.sub_zero]
    by_cases hh : n.toNat ≤ us.length
    · rw [Nat.min_eq_left hh]
    · rw [Nat.min_eq_right (by omega), List.take_of_length_le (Nat.le_refl _), List.take_of_length_le (by omega)]
  rw [e1]
  exact (hs1.add (w := .lst (xs.take n.toNat)) hpp ⟨us.take n.toNat, rfl, dpAll_take _ hd⟩).pin rfl
/-- own + own: a new own list -/
theorem ok_catO {n m : Nat} {p1 p2 : Addr} (h1 : O[n]? = some (p1, .lst xs)) (h2 : O[m]? = some (p2, .lst ys)) (hl : xs.length + ys.length ≤ 100000) (hk : ∀ p, k (.val (.ref p)) (O ++ [(p, .lst (xs ++ ys))])) : OK2 X c (binaryOp .Add) (.val (.ref p1)) (.val (.ref p2)) O k :=
  ok2_of op_cat fun G σ H v1 v2 Q s q => by
    have s0 := s.unpin.unpin
    obtain ⟨w, ha, us, rfl, hd⟩ := s0.ow _ (List.mem_of_getElem? h1)
    obtain ⟨w2, hb, us2, rfl, hd2⟩ := s0.ow _ (List.mem_of_getElem? h2)
    have e1 : v1 = .ref p1 := s.unpin.pinned
    have e2 : v2 = .ref p2 := s.pinned
    refine ⟨p1, p2, us, us2, e1, e2, ha, hb, line_small (by rw [dpAll_length hd, dpAll_length hd2]; exact hl), fun pp hpp => q _ _ _ _ (hk pp) ?_⟩
    exact (s0.add (w := .lst (xs ++ ys)) hpp ⟨us ++ us2, rfl, dpAll_append hd hd2⟩).pin rfl
end
end OR

set_option Elab.async false
set_option linter.all false
set_option maxRecDepth 100000
set_option maxHeartbeats 2000000
namespace OR
open PySem PySem.Spec PyProof.Rows L2
theorem dpAll_set {K : PySem.W.Frag} {F : Hp} {v : V} {z : D} (hz : Dp K F v z) : ∀ {vs : List V} {ds : List D} (j : Nat), DpAll K F vs ds → DpAll K F (vs.set j v) (ds.set j z)
  | _, _, _, .nil => by simp; exact .nil
  | _, _, 0, .cons _ b => .cons hz b
  | _, _, j + 1, .cons a b => .cons a (dpAll_set hz j b)
section
variable {X : Cx} {c : Cc} {G : Gty} {O : Oty} {e a b o i : Expr} {es : List Expr} {pos pos' p p2 : Pos} {k : SV → Oty → Prop} {xs ys : List D} {κ : Ko}
/-- o[i] = e, o an own list -/
theorem st_setI (h : EV X c e G O fun d O1 => ∃ z, d = .dat z ∧ ∀ v1, EV X (c.pin v1 (.dat z)) o G O1 fun d2 O2 => ∀ v2, EV X ((c.pin v1 (.dat z)).pin v2 d2) i G O2 fun d3 O3 => ∃ (n : Nat) (p : Addr) (xs : List D) (kk : Int) (j : Nat), d2 = .val (.ref p) ∧ d3 = .dat (.int kk) ∧ O3[n]? = some (p, .lst xs) ∧ ixN xs.length kk = some j ∧ κ.nx G (O3.set n (p, .lst (xs.set j z))))
    (ha : ∀ v, assign (.Subscript o i pos) X.env v = (do
      let ov ← holding [v] (eval o X.env)
      let iv ← holding [v, ov] (eval i X.env)
      standAt pos
      holding [v, ov, iv] (setItem ov iv v)
      release [v, ov, iv] []) := by intro _; rfl)
    (hs : swapsWithSole [.Subscript o i pos] e pos'.line X.env = pure false := by rfl) (hw : swappedStores [.Subscript o i pos] e X.env = pure none := by rfl) (h1 : (assignEach [.Subscript o i pos] X.env).map (·.2) = [assign (.Subscript o i pos) X.env] := by rfl) :
    ST X c (.Assign [.Subscript o i pos] e pos') G O κ := fun σ H s => by
  refine wS_of (ps_asg pe_w (pg_sub pe_w pe_w set_list ha) hs hw h1) (h σ H _ s fun v d O1 H1 hk hs => ?_)
  obtain ⟨z, rfl, hk⟩ := hk
  refine hk v σ H1 _ hs fun v2 d2 O2 H2 k2 s2 => ?_
  refine k2 v2 σ H2 _ s2 fun v3 d3 O3 H3 k3 s3 => ?_
  obtain ⟨n, p, xs, kk, j, rfl, rfl, hO, hj, hk⟩ := k3
  have s4 := s3.unpin.unpin
  have hz := s4.pinned
  have s5 := s4.unpin
  obtain ⟨w, h0, us, rfl, hd⟩ := s5.ow _ (List.mem_of_getElem? hO)
  have e2 : v2 = .ref p := s3.unpin.pinned
  have hset : DpAll c.K (fz (mm c O3) H3) (us.set j v) (xs.set j z) := dpAll_set hz j hd
  exact ⟨p, us, kk, j, e2, dp_int s3.pinned, h0, by rw [dpAll_length hd]; exact hj, G, _, hk, s5.write (w' := .lst (xs.set j z)) hO ⟨_, rfl, hset⟩⟩
/-! ### dicts with ints as keys, all values True -/
abbrev dKs (ns : List Int) : Ow := .raw (.dK (ns.map fun n => ((.inl n : Key), V.bl true)))
theorem ev_dnew (hk : ∀ p, k (.val (.ref p)) (O ++ [(p, dKs [])])) : EV X c (.Dict [] [] pos) G O k := fun σ H Q s q =>
  wE_of pe_dnewK fun p hp => q _ _ _ _ (hk p) ((s.add (w := dKs []) hp ⟨rfl, (fun ps z => by cases z), (fun φ z => by cases z)⟩).pin rfl)
theorem put_dKs (ns : List Int) (m : Int) : putK (ns.map fun n => ((.inl n : Key), V.bl true)) (.inl m) (V.bl true) = (if m ∈ ns then ns else ns ++ [m]).map fun n => ((.inl n : Key), V.bl true) := by
  unfold putK
  have e : ((ns.map fun n => ((.inl n : Key), V.bl true)).any fun kv => decide (kv.1 = (.inl m : Key))) = decide (m ∈ ns) := by
    rw [List.any_map, Bool.eq_iff_iff, List.any_eq_true, decide_eq_true_eq]
    constructor
    · rintro ⟨x, hx, h⟩
      simp only [Function.comp, decide_eq_true_eq, Sum.inl.injEq] at h
      rw [← h]; exact hx
    · intro h
      exact ⟨m, h, by simp⟩
  rw [e]
  by_cases h : m ∈ ns
  · rw [if_pos (by simpa using h), if_pos h, List.map_map]
    refine List.map_congr_left fun n _ => ?_
    simp only [Function.comp]
    split <;> rfl
  · rw [if_neg (by simpa using h), if_neg h, List.map_append]
    rfl
/-- d[i] = True -/
theorem st_dput (hu : X.A.units + 1 < cLine) (h : EV X c e G O fun d O1 => d = .dat (.bool true) ∧ EV X c o G O1 fun d2 O2 => ∀ v2, EV X (c.pin v2 d2) i G O2 fun d3 O3 => ∃ (n : Nat) (p : Addr) (ns : List Int) (m : Int), d2 = .val (.ref p) ∧ d3 = .dat (.int m) ∧ O3[n]? = some (p, dKs ns) ∧ ns.length ≤ 100000 ∧ κ.nx G (O3.set n (p, dKs (if m ∈ ns then ns else ns ++ [m]))))
    (hs : swapsWith e (some (.Subscript o i pos')) pos.line X.env = pure false := by rfl) : ST X c (.Assign [.Subscript o i pos'] e pos) G O κ := fun σ H s => by
  refine wS_of (ps_dput hu pe_w pe_w pe_w hs) (h σ H _ s fun v d O1 H1 hk hs => ?_)
  obtain ⟨rfl, hk⟩ := hk
  have ev : v = .bl true := dp_bl hs.pinned
  subst ev
  refine hk σ H1 _ hs.unpin fun v2 d2 O2 H2 k2 s2 => ?_
  refine k2 v2 σ H2 _ s2 fun v3 d3 O3 H3 k3 s3 => ?_
  obtain ⟨n, p, ns, m, rfl, rfl, hO, hl, hk⟩ := k3
  have s5 := s3.unpin.unpin
  obtain ⟨w, h0, hw, _⟩ := s5.ow _ (List.mem_of_getElem? hO)
  subst hw
  have e2 : v2 = .ref p := s3.unpin.pinned
  have e3 : v3 = .int m := dp_int s3.pinned
  refine ⟨p, _, e2, by rw [e3]; exact DPut.k (k := .inl m) h0 (by rw [List.length_map]; exact Nat.lt_of_le_of_lt hl (by decide)), G, _, hk, ?_⟩
  rw [put_dKs]
  exact s5.write (w' := dKs (if m ∈ ns then ns else ns ++ [m])) hO ⟨rfl, (fun ps z => by cases z), (fun φ z => by cases z)⟩
theorem len_dK {n : Nat} {p : Addr} {ns : List Int} (hO : O[n]? = some (p, dKs ns)) (hk : k (.dat (.int ns.length)) O) : OKC X c (.builtin "len") [.val (.ref p)] O k := okc_of call_lenD fun G σ H vs Q s rv q => by
  obtain ⟨v, rfl, r⟩ := svs1 rv
  cases (show v = .ref p from r)
  obtain ⟨w, h0, hw, _⟩ := s.ow _ (List.mem_of_getElem? hO)
  subst hw
  refine ⟨p, _, rfl, h0, ?_⟩
  rw [List.length_map]
  exact q _ _ O H hk (s.pin (Dp.int _))
/-! ### the dice -/
theorem getElem?_append_mid {A C : Oty} {x : Addr × Ow} : (A ++ (x :: C))[A.length]? = some x := by simp
/-- the dice told -/
theorem S.dice {n : Nat} {p : Addr} {m : Nat} {σ : L2.St} {H : Hp} (hO : O[n]? = some (p, .dice m)) (s : S c G O σ H) : ∃ x y z : Int, (0 ≤ x ∧ 0 ≤ y ∧ y < 2147480009 ∧ 0 ≤ z ∧ z ≤ (m : Int)) ∧ S c G (O.set n (p, .lst [.int x, .int y, .int z])) σ H := by
  obtain ⟨w, h0, x, y, z, rfl, hx⟩ := s.ow _ (List.mem_of_getElem? hO)
  refine ⟨x, y, z, hx, ?_⟩
  have h1 := s.write (w' := .lst [.int x, .int y, .int z]) (o' := .lst [.int x, .int y, .int z]) hO ⟨_, rfl, dpAll_ints [x, y, z]⟩
  have e : upd H p (.lst [.int x, .int y, .int z]) = H := by
    funext b
    by_cases hb : b = p
    · rw [hb, upd_same, h0]
    · rw [upd_ne hb]
  rwa [e] at h1
theorem S.undice {n : Nat} {p : Addr} {m : Nat} {x y z : Int} {σ : L2.St} {H : Hp} (hO : O[n]? = some (p, .lst [.int x, .int y, .int z])) (h : 0 ≤ x ∧ 0 ≤ y ∧ y < 2147480009 ∧ 0 ≤ z ∧ z ≤ (m : Int)) (s : S c G O σ H) : S c G (O.set n (p, .dice m)) σ H := by
  obtain ⟨w, h0, vs, rfl, hd⟩ := s.ow _ (List.mem_of_getElem? hO)
  have e0 := dpAll_ints' (ns := [x, y, z]) hd
  have h1 := s.write (w' := .dice m) (o' := .lst [.int x, .int y, .int z]) hO ⟨x, y, z, rfl, h⟩
  have e : upd H p (.lst [.int x, .int y, .int z]) = H := by
    funext b
    by_cases hb : b = p
    · rw [hb, upd_same, h0, e0]; rfl
    · rw [upd_ne hb]
  rwa [e] at h1
/-- a body that gets the dice -/
theorem ss_dice {n m : Nat} {p : Addr} {sts : List Stmt} (hO : O[n]? = some (p, .dice m))
    (h : ∀ x y z : Int, (0 ≤ x ∧ 0 ≤ y ∧ y < 2147480009 ∧ 0 ≤ z ∧ z ≤ (m : Int)) → SS X c sts G (O.set n (p, .lst [.int x, .int y, .int z])) κ) : SS X c sts G O κ := fun σ H s => by
  obtain ⟨x, y, z, hx, s1⟩ := s.dice hO
  exact h x y z hx σ H s1
/-- an expression that gives the dice back -/
theorem ev_undice {n m : Nat} {p : Addr} (h : EV X c e G O fun d O' => ∃ x y z : Int, O'[n]? = some (p, .lst [.int x, .int y, .int z]) ∧ (0 ≤ x ∧ 0 ≤ y ∧ y < 2147480009 ∧ 0 ≤ z ∧ z ≤ (m : Int)) ∧ k d (O'.set n (p, .dice m))) : EV X c e G O k := fun σ H Q s q => by
  refine h σ H Q s fun v d O' H' ⟨x, y, z, hO, hx, hk⟩ hs => q v d _ H' hk ?_
  exact S.undice (c := c.pin v d) hO hx hs
/-! ### [elt for x, y in zip(a, b)] -/
theorem wipe2_len {σ : L2.St} {j1 j2 : Nat} : (L2.wipe σ [j1, j2]).length = σ.length := L2.wipe_length σ _
theorem S.wiped2 {j1 j2 : Nat} {σ : L2.St} {H : Hp} (h1 : G[j1]? = some none) (h2 : G[j2]? = some none) (s : S c G O σ H) : S c G O (L2.wipe σ [j1, j2]) H :=
  ⟨s.tb, s.mv, s.nd, s.nw, s.dj, s.lk, s.ow, s.lv, fun i d e => by
    obtain ⟨v, a1, a2⟩ := s.en i d e
    refine ⟨v, ?_, a2⟩
    show ((σ.set j2 none).set j1 none)[i]? = _
    have n1 : j1 ≠ i := fun z => by rw [z, e] at h1; cases h1
    have n2 : j2 ≠ i := fun z => by rw [z, e] at h2; cases h2
    rw [List.getElem?_set_ne n1, List.getElem?_set_ne n2]
    exact a1, by rw [L2.wipe_length]; exact s.ln, s.pi⟩
theorem S.unwipe2 {j1 j2 : Nat} {σ : L2.St} {H : Hp} {y1 y2 : V} {d1 d2 : SV} (h1 : G[j1]? = some none) (h2 : G[j2]? = some none) (s0 : G.length = σ.length) (s : S c ((G.set j1 (some d1)).set j2 (some d2)) O (((L2.wipe σ [j1, j2]).set j1 (some y1)).set j2 (some y2)) H) : S c G O σ H :=
  ⟨s.tb, s.mv, s.nd, s.nw, s.dj, s.lk, s.ow, s.lv, fun i d e => by
    have n1 : j1 ≠ i := fun z => by rw [z, e] at h1; cases h1
    have n2 : j2 ≠ i := fun z => by rw [z, e] at h2; cases h2
    obtain ⟨v, a1, a2⟩ := s.en i d (by rw [List.getElem?_set_ne n2, List.getElem?_set_ne n1]; exact e)
    refine ⟨v, ?_, a2⟩
    have a1 : (((((σ.set j2 none).set j1 none).set j1 (some y1))).set j2 (some y2))[i]? = some (some v) := a1
    rw [List.getElem?_set_ne n2, List.getElem?_set_ne n1, List.getElem?_set_ne n1, List.getElem?_set_ne n2] at a1
    exact a1, s0, s.pi⟩
/-- one turn over two names; elements and items are told -/
theorem lv_Z {elt : Expr} {scope : Scope} (j1 j2 : Nat) (hj : j1 ≠ j2) (h1 : G[j1]? = some none) (h2 : G[j2]? = some none) (I : Nat → List D → Oty → Prop)
    (h : EA X c [a, b] G O fun ds O1 => ∃ xs ys : List D, ds = [.dat (.list xs), .dat (.list ys)] ∧ xs.length = ys.length ∧ I 0 [] O1 ∧
      (∀ (q : Pn) p i dx dy acc O2, xs[i]? = some dx → ys[i]? = some dy → I i acc O2 → Turn1 X scope ((c.pn q).lock p (.lst acc)) [] elt ((G.set j1 (some (.dat dx))).set j2 (some (.dat dy))) O2 acc (I (i + 1))) ∧
      (∀ p acc O2, I xs.length acc O2 → k (.val (.ref p)) (O2 ++ [(p, .lst acc)]))) (hK : X.K = c.K := by rfl) :
    LV (tLc (iZip X.K (wA X [a, b])) (gTup X.K 2 (gCons (gName j1) (gCons (gName j2) gNil))) (aT X scope []) (aE X scope elt) [j1, j2]) c G O k := fun σ H Q s q => h σ H _ s fun vs ds O1 H1 hk hs rv => by
  obtain ⟨xs, ys, rfl, hl, h0, ht, he⟩ := hk
  obtain ⟨v, w, rfl, r1, r2⟩ := svs2 rv
  obtain ⟨pa, us, rfl, hp, hd⟩ := dp_lst r1
  obtain ⟨pb, ws, rfl, hp2, hd2⟩ := dp_lst r2
  have l1 := dpAll_length hd
  have l2 := dpAll_length hd2
  let qq : Pn := ⟨fun K F => (SqL K F pa us ∧ DpAll K F us xs) ∧ (SqL K F pb ws ∧ DpAll K F ws ys), fun _ _ _ e h => ⟨⟨sqL_ke e h.1.1, dpAll_ke e h.1.2⟩, ⟨sqL_ke e h.2.1, dpAll_ke e h.2.2⟩⟩⟩
  have hs1 : S (c.pn qq) G O1 σ H1 := hs.hold ⟨⟨hp, hd⟩, ⟨hp2, hd2⟩⟩
  refine ⟨pa, pb, us, ws, rfl, hK ▸ sqL_ke fz_ke hp, hK ▸ sqL_ke fz_ke hp2, fun Da hDa => ?_⟩
  refine ⟨fun i m H => m = us.length - i ∧ i ≤ us.length ∧ ∃ acc O', I i acc O' ∧ S ((c.pn qq).lock Da (.lst acc)) G O' σ H, ⟨us.length, by simp, Nat.zero_le _, [], O1, h0, (hs1.add (w := .lst []) hDa ⟨[], rfl, .nil⟩).hide⟩, fun i m H ⟨em, hi, acc, O', hI, hs'⟩ => ?_⟩
  have hq : ((SqL c.K _ pa us ∧ DpAll c.K _ us xs) ∧ (SqL c.K _ pb ws ∧ DpAll c.K _ ws ys)) := S.held (c := c.lock Da (.lst acc)) (q := qq) hs'
  have qx : SqL X.K H pa us := hK ▸ sqL_ke fz_ke hq.1.1
  have qy : SqL X.K H pb ws := hK ▸ sqL_ke fz_ke hq.2.1
  by_cases hlt : i < us.length
  · have hx : us[i]? = some us[i] := List.getElem?_eq_getElem hlt
    have hlt2 : i < ws.length := by omega
    have hy : ws[i]? = some ws[i] := List.getElem?_eq_getElem hlt2
    obtain ⟨dx, e1, e2⟩ := dpAll_get' hq.1.2 hx
    obtain ⟨dy, f1, f2⟩ := dpAll_get' hq.2.2 hy
    refine .inr ⟨⟨us, ws, _, _, qx, qy, hx, hy⟩, fun H' => ∃ acc O', I (i + 1) acc O' ∧ S ((c.pn qq).lock Da (.lst acc)) G O' σ H', fun H' p' => ⟨us.length - (i + 1), by omega, rfl, hlt, p'⟩, fun v H' y => ?_⟩
    obtain ⟨T, x', y', rfl, hT, rfl, g1, g2⟩ := y
    have gx := g1 us qx
    have gy := g2 ws qy
    rw [hx] at gx; cases gx
    rw [hy] at gy; cases gy
    have kf := hs'.ke_new (o := .tup [us[i], ws[i]]) hT
    have hs2 := hs'.new (o := .tup [us[i], ws[i]]) hT
    refine ⟨T, [us[i], ws[i]], rfl, SqT.of upd_same, rfl, us[i], [ws[i]], rfl, ws[i], [], rfl, rfl, ?_⟩
    have hs3 := ((hs2.wiped2 h1 h2).set (v := us[i]) (d := .dat dx) j1 (dp_ke kf e2)).set (v := ws[i]) (d := .dat dy) j2 (dp_ke kf f2)
    refine ⟨?_, ?_⟩
    · show ((((((σ.set j2 none).set j1 none).set j1 (some us[i]))).set j2 (some ws[i])).set j2 none).set j1 none = (σ.set j2 none).set j1 none
      refine List.ext_getElem? fun m => ?_
      by_cases z1 : j1 = m <;> by_cases z2 : j2 = m <;> simp [List.getElem?_set, z1, z2]
    · exact turn_ok hs3 (ht qq Da i dx dy acc O' e1 f1 hI) fun acc' O2 H2 hI2 hs4 => ⟨acc', O2, hI2, S.unwipe2 h1 h2 hs2.ln hs4⟩
  · have e : i = us.length := by omega
    subst e
    rw [l1] at hI
    exact .inl ⟨⟨us, ws, qx, qy, Or.inl (Nat.le_refl _)⟩, q _ _ _ _ (he Da acc O' hI) (hs'.show.unpin.pin rfl)⟩
/-- as a value -/
theorem ev_lcZ {elt iter : Expr} {scope : Scope} {x y : Str} {px py pt : Pos} {kt j1 j2 : Nat} {wi : TI} {g : TG} (hc : X.calm = true) (hN : X.N.Nodup) (hi : PI X (.Tuple [.Name x px, .Name y py] kt pt) iter wi) (ok : BlkOk X.N X.env.scope scope [(x, j1), (y, j2)]) (h : LV (tLc wi g (aT X scope []) (aE X scope elt) [j1, j2]) c G O k)
    (hg : ∀ (s : Shared) (H : Hp) (C : Addr) (cl : List (Str × Addr)) (fp : List Addr), PG (blkX X scope s H C cl fp) (.Tuple [.Name x px, .Name y py] kt pt) g) (hs : ∀ x, foldedSetIterable iter X.env x = pure x := by intro _; rfl) :
    EV X c (.ListComp elt [⟨.Tuple [.Name x px, .Name y py] kt pt, iter, [], 0⟩] scope pos) G O k := fun σ H Q s q =>
  wE_of (pe_lc (own := [(x, j1), (y, j2)]) hc hN hi ok hg pts_a pe_a hs) (h σ H Q s q)
end
end OR

set_option Elab.async false
set_option linter.all false
set_option maxRecDepth 100000
set_option maxHeartbeats 2000000
namespace OR
open PySem PySem.Spec PyProof.Rows L2
section
variable {X : Cx} {c : Cc} {G : Gty} {O : Oty} {e a b o i : Expr} {es : List Expr} {pos pos' p p2 apos : Pos} {k : SV → Oty → Prop} {xs ys : List D} {κ : Ko}
theorem ev_isi (hm : X.mg "isinstance" = none) (h : EA X c (e :: es) G O fun ds O' => OKC X c (.builtin "isinstance") ds O' k) (hg : Gl X "isinstance" := by rfl) (he : starEach (e :: es) X.env = (false, eval e X.env) :: starEach es X.env := by rfl) (hpl : (backTo pos (starEach es X.env)).any (·.1) = false := by rfl) : EV X c (.Call (.Name "isinstance" p) (e :: es) [] pos) G O k :=
  ev_callB hm (by decide +kernel) h hg (by decide) (by decide) he hpl
theorem ev_len (hm : X.mg "len" = none) (h : EA X c (e :: es) G O fun ds O' => OKC X c (.builtin "len") ds O' k) (hg : Gl X "len" := by rfl) (he : starEach (e :: es) X.env = (false, eval e X.env) :: starEach es X.env := by rfl) (hpl : (backTo pos (starEach es X.env)).any (·.1) = false := by rfl) : EV X c (.Call (.Name "len" p) (e :: es) [] pos) G O k :=
  ev_callB hm (by decide +kernel) h hg (by decide) (by decide) he hpl
theorem ev_max (hm : X.mg "max" = none) (h : EA X c (e :: es) G O fun ds O' => OKC X c (.builtin "max") ds O' k) (hg : Gl X "max" := by rfl) (he : starEach (e :: es) X.env = (false, eval e X.env) :: starEach es X.env := by rfl) (hpl : (backTo pos (starEach es X.env)).any (·.1) = false := by rfl) : EV X c (.Call (.Name "max" p) (e :: es) [] pos) G O k :=
  ev_callB hm (by decide +kernel) h hg (by decide) (by decide) he hpl
theorem ev_min (hm : X.mg "min" = none) (h : EA X c (e :: es) G O fun ds O' => OKC X c (.builtin "min") ds O' k) (hg : Gl X "min" := by rfl) (he : starEach (e :: es) X.env = (false, eval e X.env) :: starEach es X.env := by rfl) (hpl : (backTo pos (starEach es X.env)).any (·.1) = false := by rfl) : EV X c (.Call (.Name "min" p) (e :: es) [] pos) G O k :=
  ev_callB hm (by decide +kernel) h hg (by decide) (by decide) he hpl
theorem ev_sum (hm : X.mg "sum" = none) (h : EA X c (e :: es) G O fun ds O' => OKC X c (.builtin "sum") ds O' k) (hg : Gl X "sum" := by rfl) (he : starEach (e :: es) X.env = (false, eval e X.env) :: starEach es X.env := by rfl) (hpl : (backTo pos (starEach es X.env)).any (·.1) = false := by rfl) : EV X c (.Call (.Name "sum" p) (e :: es) [] pos) G O k :=
  ev_callB hm (by decide +kernel) h hg (by decide) (by decide) he hpl
theorem ev_allL (hm : X.mg "all" = none) (h : EA X c (e :: es) G O fun ds O' => OKC X c (.builtin "all") ds O' k) (hg : Gl X "all" := by rfl) (he : starEach (e :: es) X.env = (false, eval e X.env) :: starEach es X.env := by rfl) (hpl : (backTo pos (starEach es X.env)).any (·.1) = false := by rfl) : EV X c (.Call (.Name "all" p) (e :: es) [] pos) G O k :=
  ev_callB hm (by decide +kernel) h hg (by decide) (by decide) he hpl
theorem ev_abs (hm : X.mg "abs" = none) (h : EA X c (e :: es) G O fun ds O' => OKC X c (.builtin "abs") ds O' k) (hg : Gl X "abs" := by rfl) (he : starEach (e :: es) X.env = (false, eval e X.env) :: starEach es X.env := by rfl) (hpl : (backTo pos (starEach es X.env)).any (·.1) = false := by rfl) : EV X c (.Call (.Name "abs" p) (e :: es) [] pos) G O k :=
  ev_callB hm (by decide +kernel) h hg (by decide) (by decide) he hpl
theorem ev_sorted (hm : X.mg "sorted" = none) (h : EA X c (e :: es) G O fun ds O' => OKC X c (.builtin "sorted") ds O' k) (hg : Gl X "sorted" := by rfl) (he : starEach (e :: es) X.env = (false, eval e X.env) :: starEach es X.env := by rfl) (hpl : (backTo pos (starEach es X.env)).any (·.1) = false := by rfl) : EV X c (.Call (.Name "sorted" p) (e :: es) [] pos) G O k :=
  ev_callB hm (by decide +kernel) h hg (by decide) (by decide) he hpl
theorem ev_tupleC (hm : X.mg "tuple" = none) (h : EA X c (e :: es) G O fun ds O' => OKC X c (.type "tuple") ds O' k) (hg : Gl X "tuple" := by rfl) (he : starEach (e :: es) X.env = (false, eval e X.env) :: starEach es X.env := by rfl) (hpl : (backTo pos (starEach es X.env)).any (·.1) = false := by rfl) : EV X c (.Call (.Name "tuple" p) (e :: es) [] pos) G O k :=
  ev_callT hm (by decide +kernel) h hg (by decide) (by decide) he hpl
theorem ev_intC (hm : X.mg "int" = none) (h : EA X c (e :: es) G O fun ds O' => OKC X c (.type "int") ds O' k) (hg : Gl X "int" := by rfl) (he : starEach (e :: es) X.env = (false, eval e X.env) :: starEach es X.env := by rfl) (hpl : (backTo pos (starEach es X.env)).any (·.1) = false := by rfl) : EV X c (.Call (.Name "int" p) (e :: es) [] pos) G O k :=
  ev_callT hm (by decide +kernel) h hg (by decide) (by decide) he hpl
theorem ev_tInt (hm : X.mg "int" = none) (hk : k (.val (.ty "int")) O) (hg : Gl X "int" := by rfl) : EV X c (.Name "int" pos) G O k := ev_type hm (by decide +kernel) hk hg (by decide) (by decide)
theorem ev_tBool (hm : X.mg "bool" = none) (hk : k (.val (.ty "bool")) O) (hg : Gl X "bool" := by rfl) : EV X c (.Name "bool" pos) G O k := ev_type hm (by decide +kernel) hk hg (by decide) (by decide)
theorem ev_tStr (hm : X.mg "str" = none) (hk : k (.val (.ty "str")) O) (hg : Gl X "str" := by rfl) : EV X c (.Name "str" pos) G O k := ev_type hm (by decide +kernel) hk hg (by decide) (by decide)
theorem ev_tTup (hm : X.mg "tuple" = none) (hk : k (.val (.ty "tuple")) O) (hg : Gl X "tuple" := by rfl) : EV X c (.Name "tuple" pos) G O k := ev_type hm (by decide +kernel) hk hg (by decide) (by decide)
/-- f(a) -/
theorem ea1 {ka : List SV → Oty → Prop} (h : EV X c a G O fun d O' => ka [d] O') (hs : starEach [a] X.env = (false, eval a X.env) :: starEach [] X.env := by rfl) : EA X c [a] G O ka := ea_cons (h.mono fun d O' hk v => ea_nil hk) hs
/-- own.append(e) -/
theorem ev_append (h : EV X c o G O fun d1 O1 => ∃ (n : Nat) (pp : Addr) (xs : List D), d1 = .val (.ref pp) ∧ O1[n]? = some (pp, .lst xs) ∧ ∀ v1, EV X (c.pin v1 d1) a G O1 fun d2 O2 => ∃ z : D, d2 = .dat z ∧ O2[n]? = some (pp, .lst xs) ∧ xs.length ≤ 100000 ∧ k (.dat .none) (O2.set n (pp, .lst (xs ++ [z]))))
    (hK : X.K = c.K := by rfl)
    (hbase : attributeBase o "append" X.env (eval o X.env) = eval o X.env := by rfl)
    (hfew : ((backTo pos (starEach [a] X.env)).all (fun x => !x.1) && (backToKw pos (keywordEach [] X.env)).all (fun x => x.1.isSome)
      && decide (([a] : List Expr).length + ([] : List Keyword).length + (if ([] : List Keyword).isEmpty then 0 else 1) < 30)) = true := by rfl)
    (hline : (apos.endLine == pos.line) = true := by rfl) (hs : starEach [a] X.env = (false, eval a X.env) :: starEach [] X.env := by rfl) (hplain : (backTo pos (starEach [] X.env)).any (·.1) = false := by rfl) :
    EV X c (.Call (.Attribute o "append" apos) [a] [] pos) G O k := by
  refine ev_m PySem.F.plainAttrs_list PySem.F.slot_list_append PySem.F.type_list_append mt_append (h.mono fun d1 O1 ⟨n, pp, xs, e1, e2, hk⟩ => ?_) hK hbase hfew hline hs hplain
  subst e1
  refine ⟨tyD_own e2, fun v1 => ea1 ((hk v1).mono fun d2 O2 ⟨z, e3, e4, e5, e6⟩ => ?_) hs⟩
  subst e3
  exact mk_append e4 e5 e6
/-- own.extend(own2) -/
theorem ev_extend (h : EV X c o G O fun d1 O1 => ∃ (n : Nat) (pp : Addr) (xs : List D), d1 = .val (.ref pp) ∧ O1[n]? = some (pp, .lst xs) ∧ ∀ v1, EV X (c.pin v1 d1) a G O1 fun d2 O2 => ∃ (m : Nat) (pq : Addr) (ys : List D), d2 = .val (.ref pq) ∧ O2[n]? = some (pp, .lst xs) ∧ O2[m]? = some (pq, .lst ys) ∧ xs.length + ys.length ≤ 100000 ∧ k (.dat .none) (O2.set n (pp, .lst (xs ++ ys))))
    (hK : X.K = c.K := by rfl)
    (hbase : attributeBase o "extend" X.env (eval o X.env) = eval o X.env := by rfl)
    (hfew : ((backTo pos (starEach [a] X.env)).all (fun x => !x.1) && (backToKw pos (keywordEach [] X.env)).all (fun x => x.1.isSome)
      && decide (([a] : List Expr).length + ([] : List Keyword).length + (if ([] : List Keyword).isEmpty then 0 else 1) < 30)) = true := by rfl)
    (hline : (apos.endLine == pos.line) = true := by rfl) (hs : starEach [a] X.env = (false, eval a X.env) :: starEach [] X.env := by rfl) (hplain : (backTo pos (starEach [] X.env)).any (·.1) = false := by rfl) :
    EV X c (.Call (.Attribute o "extend" apos) [a] [] pos) G O k := by
  refine ev_m PySem.F.plainAttrs_list PySem.F.slot_list_extend PySem.F.type_list_extend mt_extend (h.mono fun d1 O1 ⟨n, pp, xs, e1, e2, hk⟩ => ?_) hK hbase hfew hline hs hplain
  subst e1
  refine ⟨tyD_own e2, fun v1 => ea1 ((hk v1).mono fun d2 O2 ⟨m, pq, ys, e3, e4, e5, e6, e7⟩ => ?_) hs⟩
  subst e3
  exact mk_extend e4 e5 e6 e7
/-- ints.index(int) -/
theorem ev_index (h : EV X c o G O fun d1 O1 => ∃ ns : List Int, d1 = .dat (.list (ns.map .int)) ∧ ∀ v1, EV X (c.pin v1 d1) a G O1 fun d2 O2 => ∃ (z : Int) (j : Nat), d2 = .dat (.int z) ∧ ns[j]? = some z ∧ (∀ m, m < j → ns[m]? ≠ some z) ∧ k (.dat (.int j)) O2)
    (hK : X.K = c.K := by rfl)
    (hbase : attributeBase o "index" X.env (eval o X.env) = eval o X.env := by rfl)
    (hfew : ((backTo pos (starEach [a] X.env)).all (fun x => !x.1) && (backToKw pos (keywordEach [] X.env)).all (fun x => x.1.isSome)
      && decide (([a] : List Expr).length + ([] : List Keyword).length + (if ([] : List Keyword).isEmpty then 0 else 1) < 30)) = true := by rfl)
    (hline : (apos.endLine == pos.line) = true := by rfl) (hs : starEach [a] X.env = (false, eval a X.env) :: starEach [] X.env := by rfl) (hplain : (backTo pos (starEach [] X.env)).any (·.1) = false := by rfl) :
    EV X c (.Call (.Attribute o "index" apos) [a] [] pos) G O k := by
  refine ev_m PySem.F.plainAttrs_list PySem.F.slot_list_index PySem.F.type_list_index mt_index (h.mono fun d1 O1 ⟨ns, e1, hk⟩ => ?_) hK hbase hfew hline hs hplain
  subst e1
  refine ⟨tyD_list, fun v1 => ea1 ((hk v1).mono fun d2 O2 ⟨z, j, e3, e4, e5, e6⟩ => ?_) hs⟩
  subst e3
  exact mk_index (v1 := .dat .none) e4 e5 e6 hK
/-! ### calls of defs that take data and change nothing -/
variable {R : RO} {kk j : Nat} {x : Str} {kss : List (List Str)} {xk : Addr → List (Str × V) → Gty → Oty → Prop}
theorem callP {ds : List SV} (h : R ds [] (fun d B' N => B' = [] ∧ N = [] ∧ k d O) (fun C' fs => xk C' fs G O)) : CallK X c R ds G O k xk := by
  refine ⟨O, [], [], _, _, by simp, h, fun d B' N ⟨e1, e2, hk⟩ _ => ?_, fun C' fs hx => by simpa using hx⟩
  subst e1
  subst e2
  simpa using hk
end
end OR

set_option Elab.async false
set_option linter.all false
set_option maxRecDepth 100000
set_option maxHeartbeats 2000000
namespace OR
open PySem PySem.Spec PyProof.Rows L2
section
variable {X : Cx} {c : Cc} {G : Gty} {O : Oty} {e a b o i elt : Expr} {es : List Expr} {pos pos' p p2 apos : Pos} {k : SV → Oty → Prop} {xs ys acc : List D} {κ : Ko} {scope : Scope} {I : List D → Oty → Prop}
/-- an own object is let go -/
theorem ev_drop (i : Nat) (h : EV X c e G O fun d O' => k d (O'.eraseIdx i)) : EV X c e G O k := fun σ H Q s q => h σ H Q s fun v d O' H' hk hs => q v d _ H' hk (S.drop (c := c.pin v d) hs i)
theorem turn0 (h : ∀ (s : Shared) (H0 : Hp) (C : Addr) (cl : List (Str × Addr)) (fp : List Addr), EV (blkX X scope s H0 C cl fp) c elt G O fun d O2 => ∃ z, d = .dat z ∧ acc.length ≤ 100000 ∧ I (acc ++ [z]) O2) : Turn1 X scope c [] elt G O acc I := fun s H0 C cl fp => by
  refine lt_nil ?_
  rw [if_pos rfl]
  exact h
theorem turn1t {t : Expr} (h : ∀ (s : Shared) (H0 : Hp) (C : Addr) (cl : List (Str × Addr)) (fp : List Addr), TV (blkX X scope s H0 C cl fp) c t G O fun b O1 =>
      if b = true then ∀ (s : Shared) (H0 : Hp) (C : Addr) (cl : List (Str × Addr)) (fp : List Addr), EV (blkX X scope s H0 C cl fp) c elt G O1 fun d O2 => ∃ z, d = .dat z ∧ acc.length ≤ 100000 ∧ I (acc ++ [z]) O2 else I acc O1) : Turn1 X scope c [t] elt G O acc I := fun s H0 C cl fp => lt_one (h s H0 C cl fp)
theorem ifb {b : Bool} {A B : Prop} (h1 : b = true → A) (h2 : b = false → B) : if b = true then A else B := by
  cases b with
  | true => exact h1 rfl
  | false => exact h2 rfl
/-- x = e, where e gives an own list that nobody changes from now on -/
theorem take_next {α : Type} {l : List α} {i : Nat} {x : α} (h : l[i]? = some x) : l.take (i + 1) = l.take i ++ [x] := by
  rw [List.take_add_one, h]; rfl
theorem flat_le {α β : Type} (f : α → List β) (l : List α) (i : Nat) : ((l.take i).flatMap f).length ≤ (l.flatMap f).length := by
  have h : (l.take i).flatMap f ++ (l.drop i).flatMap f = l.flatMap f := by rw [← List.flatMap_append, List.take_append_drop]
  rw [← h, List.length_append]
  omega
/-! ### comprehensions over one name, put together -/
variable {x : Str} {px p1 pc : Pos} {iter : Expr} {ifs : List Expr}
theorem pg_own {j : Nat} (hN : X.N.Nodup) (ok : BlkOk X.N X.env.scope scope [(x, j)]) (hl : (relS scope X.env.scope).names.lookup x = some .local ∨ ((relS scope X.env.scope).names.lookup x = some .cell ∧ (scope.names.lookup x == some .cell) = true)) (s : Shared) (H : Hp) (C : Addr) (cl : List (Str × Addr)) (fp : List Addr) : PG (blkX X scope s H C cl fp) (.Name x px) (gName j) :=
  by
  rcases hl with hl | ⟨hl, hf⟩
  · exact pg_name (X := blkX X scope s H C cl fp) hN (ok.ix (x, j) (by simp)) (.inl hl) (.inr hl)
  · exact pg_name (X := blkX X scope s H C cl fp) hN (ok.ix (x, j) (by simp)) (.inr hl) (.inl hf)
theorem ev_lcT (j : Nat) (I : Nat → List D → Oty → Prop) (hc : X.calm = true) (hN : X.N.Nodup) (ok : BlkOk X.N X.env.scope scope [(x, j)])
    (h : EV X c iter G O fun d O1 => ∃ ds, d = .dat (.tuple ds) ∧ I 0 [] O1 ∧
      (∀ q p i dk acc O2, ds[i]? = some dk → I i acc O2 → Turn1 X scope ((c.pn q).lock p (.lst acc)) ifs elt (G.set j (some (.dat dk))) O2 acc (I (i + 1))) ∧
      (∀ p acc O2, I ds.length acc O2 → k (.val (.ref p)) (O2 ++ [(p, .lst acc)]))) (hj : G[j]? = some none := by rfl) (hl : (relS scope X.env.scope).names.lookup x = some .local ∨ ((relS scope X.env.scope).names.lookup x = some .cell ∧ (scope.names.lookup x == some .cell) = true) := by first | exact .inl rfl | exact .inr ⟨rfl, rfl⟩) (hK : X.K = c.K := by rfl) (hs : ∀ x, foldedSetIterable iter X.env x = pure x := by intro _; rfl) :
    EV X c (.ListComp elt [⟨.Name x px, iter, ifs, 0⟩] scope pos) G O k := ev_lc hc hN (pi_tup pe_w) ok (lv_T I hj h hK) (pg_own hN ok hl) hs
theorem ev_lcL (j : Nat) (I : Nat → List D → Oty → Prop) (hc : X.calm = true) (hN : X.N.Nodup) (ok : BlkOk X.N X.env.scope scope [(x, j)])
    (h : EV X c iter G O fun d O1 => ∃ ds, d = .dat (.list ds) ∧ I 0 [] O1 ∧
      (∀ q p i dk acc O2, ds[i]? = some dk → I i acc O2 → Turn1 X scope ((c.pn q).lock p (.lst acc)) ifs elt (G.set j (some (.dat dk))) O2 acc (I (i + 1))) ∧
      (∀ p acc O2, I ds.length acc O2 → k (.val (.ref p)) (O2 ++ [(p, .lst acc)]))) (hj : G[j]? = some none := by rfl) (hl : (relS scope X.env.scope).names.lookup x = some .local ∨ ((relS scope X.env.scope).names.lookup x = some .cell ∧ (scope.names.lookup x == some .cell) = true) := by first | exact .inl rfl | exact .inr ⟨rfl, rfl⟩) (hK : X.K = c.K := by rfl) (hs : ∀ x, foldedSetIterable iter X.env x = pure x := by intro _; rfl) :
    EV X c (.ListComp elt [⟨.Name x px, iter, ifs, 0⟩] scope pos) G O k := ev_lc hc hN (pi_list pe_w) ok (lv_L I hj h hK) (pg_own hN ok hl) hs
theorem ev_lcR1 (j : Nat) (I : Nat → List D → Oty → Prop) (hc : X.calm = true) (hN : X.N.Nodup) (hm : X.mg "range" = none) (ok : BlkOk X.N X.env.scope scope [(x, j)])
    (h : EA X c [a] G O fun ds O1 => ∃ n : Int, ds = [.dat (.int n)] ∧ -1000000000 ≤ n ∧ n ≤ 1000000000 ∧ I 0 [] O1 ∧
      (∀ p (i : Nat) acc O2, (i : Int) < n → I i acc O2 → Turn1 X scope (c.lock p (.lst acc)) ifs elt (G.set j (some (.dat (.int i)))) O2 acc (I (i + 1))) ∧
      (∀ p acc O2, I n.toNat acc O2 → k (.val (.ref p)) (O2 ++ [(p, .lst acc)]))) (hj : G[j]? = some none := by rfl) (hl : (relS scope X.env.scope).names.lookup x = some .local ∨ ((relS scope X.env.scope).names.lookup x = some .cell ∧ (scope.names.lookup x == some .cell) = true) := by first | exact .inl rfl | exact .inr ⟨rfl, rfl⟩) (hg : Gl X "range" := by rfl) (ha : starEach [a] X.env = [(false, eval a X.env)] := by rfl) (hs : ∀ x, foldedSetIterable (.Call (.Name "range" p1) [a] [] pc) X.env x = pure x := by intro _; rfl) :
    EV X c (.ListComp elt [⟨.Name x px, .Call (.Name "range" p1) [a] [] pc, ifs, 0⟩] scope pos) G O k := ev_lc hc hN (pi_range1 hg hm pa_w ha) ok (lv_R1 I hj h) (pg_own hN ok hl) hs
theorem ev_lcR2 (j : Nat) (I : Nat → List D → Oty → Prop) (hc : X.calm = true) (hN : X.N.Nodup) (hm : X.mg "range" = none) (ok : BlkOk X.N X.env.scope scope [(x, j)])
    (h : EA X c [a, b] G O fun ds O1 => ∃ l n : Int, ds = [.dat (.int l), .dat (.int n)] ∧ (-1000000000 ≤ l ∧ l ≤ 1000000000 ∧ -1000000000 ≤ n ∧ n ≤ 1000000000) ∧ I 0 [] O1 ∧
      (∀ p (i : Nat) acc O2, l + (i : Int) < n → I i acc O2 → Turn1 X scope (c.lock p (.lst acc)) ifs elt (G.set j (some (.dat (.int (l + i))))) O2 acc (I (i + 1))) ∧
      (∀ p acc O2, I (n - l).toNat acc O2 → k (.val (.ref p)) (O2 ++ [(p, .lst acc)]))) (hj : G[j]? = some none := by rfl) (hl : (relS scope X.env.scope).names.lookup x = some .local ∨ ((relS scope X.env.scope).names.lookup x = some .cell ∧ (scope.names.lookup x == some .cell) = true) := by first | exact .inl rfl | exact .inr ⟨rfl, rfl⟩) (hg : Gl X "range" := by rfl) (ha : starEach [a, b] X.env = [(false, eval a X.env), (false, eval b X.env)] := by rfl) (ha2 : starEach [b] X.env = [(false, eval b X.env)] := by rfl) (hs : ∀ x, foldedSetIterable (.Call (.Name "range" p1) [a, b] [] pc) X.env x = pure x := by intro _; rfl) :
    EV X c (.ListComp elt [⟨.Name x px, .Call (.Name "range" p1) [a, b] [] pc, ifs, 0⟩] scope pos) G O k := ev_lc hc hN (pi_range2 hg hm pa_w ha ha2) ok (lv_R2 I hj h) (pg_own hN ok hl) hs
theorem EA.mono {kk kk' : List SV → Oty → Prop} (h : EA X c es G O kk) (hk : ∀ d O', kk d O' → kk' d O') : EA X c es G O kk' := fun σ H Q s q => h σ H Q s fun vs ds O' H' z => q vs ds O' H' (hk ds O' z)
/-! ### y = [..], frozen -/
variable {y : Str} {py spos : Pos}
theorem st_lcR1 (i j : Nat) (I : Nat → List D → Oty → Prop) (hc : X.calm = true) (hN : X.N.Nodup) (hm : X.mg "range" = none) (ok : BlkOk X.N X.env.scope scope [(x, j)])
    (h : EA X c [a] G O fun ds O1 => ∃ n : Int, ds = [.dat (.int n)] ∧ -1000000000 ≤ n ∧ n ≤ 1000000000 ∧ I 0 [] O1 ∧
      (∀ p (i : Nat) acc O2, (i : Int) < n → I i acc O2 → Turn1 X scope (c.lock p (.lst acc)) ifs elt (G.set j (some (.dat (.int i)))) O2 acc (I (i + 1))) ∧
      (∀ acc O2, I n.toNat acc O2 → κ.nx (G.set i (some (.dat (.list acc)))) O2))
    (hsw : swapsWith (.ListComp elt [⟨.Name x px, .Call (.Name "range" p1) [a] [] pc, ifs, 0⟩] scope pos) (some (.Name y py)) spos.line X.env = pure true := by exact L2.sw_true rfl rfl rfl rfl)
    (hj : G[j]? = some none := by rfl) (hl : (relS scope X.env.scope).names.lookup x = some .local ∨ ((relS scope X.env.scope).names.lookup x = some .cell ∧ (scope.names.lookup x == some .cell) = true) := by first | exact .inl rfl | exact .inr ⟨rfl, rfl⟩) (hg : Gl X "range" := by rfl) (ha : starEach [a] X.env = [(false, eval a X.env)] := by rfl) (hs : ∀ x, foldedSetIterable (.Call (.Name "range" p1) [a] [] pc) X.env x = pure x := by intro _; rfl)
    (hy : X.N[i]? = some y := by rfl) (hyl : X.env.scope.names.lookup y = some .local := by rfl) :
    ST X c (.Assign [.Name y py] (.ListComp elt [⟨.Name x px, .Call (.Name "range" p1) [a] [] pc, ifs, 0⟩] scope pos) spos) G O κ :=
  st_setLc (i := i) (wi := iRng1 (wA X [a])) hc hN hsw (pi_range1 hg hm pa_w ha) ok (lv_frz (lv_R1 I hj (EA.mono h fun ds O1 ⟨n, h1, h2, h3, h4, h5, h6⟩ => ⟨n, h1, h2, h3, h4, h5, fun p acc O2 q => frz (h6 acc O2 q)⟩))) (pg_own hN ok hl) hy hyl hs
theorem st_lcL (i j : Nat) (I : Nat → List D → Oty → Prop) (hc : X.calm = true) (hN : X.N.Nodup) (ok : BlkOk X.N X.env.scope scope [(x, j)])
    (h : EV X c iter G O fun d O1 => ∃ ds, d = .dat (.list ds) ∧ I 0 [] O1 ∧
      (∀ q p i dk acc O2, ds[i]? = some dk → I i acc O2 → Turn1 X scope ((c.pn q).lock p (.lst acc)) ifs elt (G.set j (some (.dat dk))) O2 acc (I (i + 1))) ∧
      (∀ acc O2, I ds.length acc O2 → κ.nx (G.set i (some (.dat (.list acc)))) O2))
    (hsw : swapsWith (.ListComp elt [⟨.Name x px, iter, ifs, 0⟩] scope pos) (some (.Name y py)) spos.line X.env = pure true := by exact L2.sw_true rfl rfl rfl rfl)
    (hj : G[j]? = some none := by rfl) (hl : (relS scope X.env.scope).names.lookup x = some .local ∨ ((relS scope X.env.scope).names.lookup x = some .cell ∧ (scope.names.lookup x == some .cell) = true) := by first | exact .inl rfl | exact .inr ⟨rfl, rfl⟩) (hK : X.K = c.K := by rfl) (hs : ∀ x, foldedSetIterable iter X.env x = pure x := by intro _; rfl)
    (hy : X.N[i]? = some y := by rfl) (hyl : X.env.scope.names.lookup y = some .local := by rfl) :
    ST X c (.Assign [.Name y py] (.ListComp elt [⟨.Name x px, iter, ifs, 0⟩] scope pos) spos) G O κ :=
  st_setLc (i := i) (wi := iList X.K (wE X iter)) hc hN hsw (pi_list pe_w) ok (lv_frz (lv_L I hj (h.mono fun d O1 ⟨n, h1, h4, h5, h6⟩ => ⟨n, h1, h4, h5, fun p acc O2 q => frz (h6 acc O2 q)⟩) hK)) (pg_own hN ok hl) hy hyl hs
end
end OR

set_option Elab.async false
set_option linter.all false
set_option maxRecDepth 100000
set_option maxHeartbeats 2000000
namespace OR
open PySem PySem.Spec PyProof.Rows L2
section
variable {X : Cx} {c : Cc} {G : Gty} {O : Oty} {e a b elt : Expr} {pos pos' p1 pc : Pos} {k : SV → Oty → Prop} {κ : Ko} {scope : Scope} {x y : Str} {px py pt : Pos} {kt : Nat}
/-- x, y = e, where e gives a pair of data -/
theorem st_un2 (i j : Nat) (hc : X.calm = true) (hN : X.N.Nodup) (h : EV X c e G O fun d O' => ∃ z1 z2 : D, d = .dat (.tuple [z1, z2]) ∧ κ.nx ((G.set i (some (.dat z1))).set j (some (.dat z2))) O')
    (hK : X.K = c.K := by rfl) (hi : X.N[i]? = some x := by rfl) (hj : X.N[j]? = some y := by rfl)
    (hx : Loc X.env.scope x := by first | exact Or.inl rfl | exact Or.inr rfl) (hy : Loc X.env.scope y := by first | exact Or.inl rfl | exact Or.inr rfl)
    (hf : X.fn x = true ∨ X.env.scope.names.lookup x = some .local := by first | exact .inl rfl | exact .inr rfl) (hf2 : X.fn y = true ∨ X.env.scope.names.lookup y = some .local := by first | exact .inl rfl | exact .inr rfl)
    (hn : (assignEach [.Name x px, .Name y py] X.env).length = 2 := by rfl) (hst : (assignEach [.Name x px, .Name y py] X.env).findIdx? (·.1) = none := by rfl)
    (hs : swapsWithSole [.Tuple [.Name x px, .Name y py] kt pt] e pos.line X.env = pure false := by rfl) (hw : swappedStores [.Tuple [.Name x px, .Name y py] kt pt] e X.env = pure none := by rfl) :
    ST X c (.Assign [.Tuple [.Name x px, .Name y py] kt pt] e pos) G O κ := by
  refine st_asgTup (n := 2) hc (pgs_cons (pg_name hN hi hx hf) (pgs_cons (pg_name hN hj hy hf2) pgs_nil)) (h.mono fun d O' ⟨z1, z2, ed, hk⟩ => ⟨[z1, z2], ed, rfl, fun v σ H us s hd => ?_⟩) hK hn hst hs hw
  subst ed
  cases hd with
  | cons h1 hd =>
    cases hd with
    | cons h2 hd =>
      cases hd with
      | nil => exact ⟨_, _, rfl, _, _, rfl, rfl, _, O', hk, (s.unpin.set (d := .dat z1) i h1).set (d := .dat z2) j h2⟩
/-- over two lists side by side -/
theorem ev_zip (j1 j2 : Nat) (I : Nat → List D → Oty → Prop) (hc : X.calm = true) (hN : X.N.Nodup) (hm : X.mg "zip" = none) (ok : BlkOk X.N X.env.scope scope [(x, j1), (y, j2)])
    (h : EA X c [a, b] G O fun ds O1 => ∃ xs ys : List D, ds = [.dat (.list xs), .dat (.list ys)] ∧ xs.length = ys.length ∧ I 0 [] O1 ∧
      (∀ (q : Pn) p i dx dy acc O2, xs[i]? = some dx → ys[i]? = some dy → I i acc O2 → Turn1 X scope ((c.pn q).lock p (.lst acc)) [] elt ((G.set j1 (some (.dat dx))).set j2 (some (.dat dy))) O2 acc (I (i + 1))) ∧
      (∀ p acc O2, I xs.length acc O2 → k (.val (.ref p)) (O2 ++ [(p, .lst acc)])))
    (hj : j1 ≠ j2 := by decide) (h1 : G[j1]? = some none := by rfl) (h2 : G[j2]? = some none := by rfl) (hK : X.K = c.K := by rfl) (hg : Gl X "zip" := by rfl)
    (hl1 : (relS scope X.env.scope).names.lookup x = some .local := by rfl) (hl2 : (relS scope X.env.scope).names.lookup y = some .local := by rfl)
    (he : starEach [a, b] X.env = (false, eval a X.env) :: starEach [b] X.env := by rfl) (hpl : (backTo pc (starEach [b] X.env)).any (·.1) = false := by rfl)
    (hn : ∀ (s : Shared) (H : Hp) (C : Addr) (cl : List (Str × Addr)) (fp : List Addr), (assignEach [.Name x px, .Name y py] (blkX X scope s H C cl fp).env).length = 2 := by intros; rfl)
    (hst : ∀ (s : Shared) (H : Hp) (C : Addr) (cl : List (Str × Addr)) (fp : List Addr), (assignEach [.Name x px, .Name y py] (blkX X scope s H C cl fp).env).findIdx? (·.1) = none := by intros; rfl)
    (hs : ∀ x, foldedSetIterable (.Call (.Name "zip" p1) [a, b] [] pc) X.env x = pure x := by intro _; rfl) :
    EV X c (.ListComp elt [⟨.Tuple [.Name x px, .Name y py] kt pt, .Call (.Name "zip" p1) [a, b] [] pc, [], 0⟩] scope pos) G O k :=
  ev_lcZ hc hN (pi_zip hg hm pa_w he hpl) ok (lv_Z j1 j2 hj h1 h2 I h hK) (fun s H C cl fp => pg_tup (X := blkX X scope s H C cl fp) hc (pgs_cons (pg_name (X := blkX X scope s H C cl fp) hN (ok.ix (x, j1) (by simp)) (.inl hl1) (.inr hl1)) (pgs_cons (pg_name (X := blkX X scope s H C cl fp) hN (ok.ix (y, j2) (by simp)) (.inl hl2) (.inr hl2)) pgs_nil)) (hn s H C cl fp) (hst s H C cl fp)) hs
/-- -e -/
theorem ev_neg (h : EV X c a G O fun d O' => ∃ n : Int, d = .dat (.int n) ∧ k (.dat (.int (-n))) O') : EV X c (.UnaryOp .USub a pos) G O k := fun σ H Q s q => by
  refine wE_of (pe_un un_neg pe_w) (h σ H _ s fun v d O' H' hk hs => ?_)
  obtain ⟨n, rfl, hk⟩ := hk
  exact ⟨n, dp_int hs.pinned, q _ _ O' H' hk (hs.unpin.pin (Dp.int (-n)))⟩
/-- an own list that nobody changes from now on -/
theorem ss_frz {sts : List Stmt} {p : Addr} {xs : List D} (i n : Nat) (hG : G[i]? = some (some (.val (.ref p)))) (hO : O[n]? = some (p, .lst xs)) (h : SS X c sts (G.set i (some (.dat (.list xs)))) (O.eraseIdx n) κ) : SS X c sts G O κ := fun σ H s => by
  obtain ⟨v, h1, h2⟩ := s.en i _ hG
  have ev : v = .ref p := h2
  subst ev
  have s3 := (s.drop n).set (d := .dat (.list xs)) i (s.freeze hO)
  have e : σ.set i (some (.ref p)) = σ := by
    refine List.ext_getElem? fun m => ?_
    by_cases z : i = m
    · subst z
      rw [h1, List.getElem?_set_self (List.getElem?_eq_some_iff.mp h1).1]
    · rw [List.getElem?_set_ne z]
  rw [e] at s3
  exact h σ H s3
end
theorem atI_last {α : Type} {xs : List α} {v : α} (h : xs.getLast? = some v) : atI xs (-1) = some v := by
  rw [List.getLast?_eq_getElem?] at h
  have hl : 0 < xs.length := by
    cases xs with
    | nil => simp at h
    | cons a l => simp
  unfold atI ixN
  rw [if_neg (by omega), if_pos (by omega)]
  show xs[_]? = some v
  rw [← h]
  congr 1
  omega
end OR

set_option Elab.async false
set_option linter.all false
set_option maxRecDepth 100000
set_option maxHeartbeats 2000000
namespace OR
open PySem PySem.Spec PyProof.Rows L2
/-! ### the ends: what the written part says of defs -/
structure DefAt (K : PySem.W.Frag) (x : Str) (st : Stmt) (f : Addr) : Prop where
  nm : PySem.W.nsIn K mainGlobals x = some (some (.ref f))
  fn : ∃ (oc : Value) (od : Option Addr) (kV doc pm : Value) (an : Option Addr) (cdv ct : Value) (osl : Array (Option Value)),
    K.lookup f = some ⟨oc, od, .func (PySem.W.fnOf x x (defArgs st) (defBody st) (defScope st) .none kV doc pm an cdv ct), osl⟩ ∧ PySem.W.codeIn K cdv x = true
  kp : PySem.W.keepIn K (.ref f) = true
/-- .. whose own code object is at ca, its table at P -/
structure DefAtC (K : PySem.W.Frag) (x : Str) (st : Stmt) (f ca P : Addr) : Prop where
  nm : PySem.W.nsIn K mainGlobals x = some (some (.ref f))
  fn : ∃ (oc : Value) (od : Option Addr) (kV doc pm : Value) (an : Option Addr) (ct : Value) (osl : Array (Option Value)),
    K.lookup f = some ⟨oc, od, .func (PySem.W.fnOf x x (defArgs st) (defBody st) (defScope st) .none kV doc pm an (.ref ca) ct), osl⟩ ∧ PySem.W.codeIn K (.ref ca) x = true
  kp : PySem.W.keepIn K (.ref f) = true
  ob : ∃ (e : Value) (dd : Option Addr) (vs : Array Value) (sl : Array (Option Value)), K.lookup ca = some ⟨e, dd, .fields vs, sl⟩ ∧ vs[11]? = some (.ref P)
  hd : PySem.W.codeHdIn K ca P = true
  no : K.lookup P = none
section
variable {K : PySem.W.Frag} {x : Str} {st : Stmt} {f ca P : Addr} {mg : Str → Option Value} {h : Heap} {T : List (Addr × Str)} {prog : Program} {w : World} {base : Heap} {kk : Nat} {R : RO} {ps : List Str} {kss : List (List Str)}
theorem DefAt.at (D : DefAt K x st f) (X : K.In h) (G : h.Ns mainGlobals mg) : mg x = some (.ref f) := PySem.W.mg_of X G D.nm
theorem DefAt.fd (D : DefAt K x st f) : ∃ fd, Fun K x x st f fd := by
  obtain ⟨oc, od, kV, doc, pm, an, cdv, ct, osl, l, c⟩ := D.fn
  exact ⟨_, fun_mk l c D.kp⟩
theorem DefAtC.fd (D : DefAtC K x st f ca P) : ∃ fd, FunC K x x st f fd ca := by
  obtain ⟨oc, od, kV, doc, pm, an, ct, osl, l, c⟩ := D.fn
  exact ⟨_, ⟨oc, od, kV, doc, pm, an, ct, osl, rfl, l, c⟩, D.kp⟩
theorem DefAtC.def (D : DefAtC K x st f ca P) : DefAt K x st f := by
  obtain ⟨oc, od, kV, doc, pm, an, ct, osl, l, c⟩ := D.fn
  exact ⟨D.nm, ⟨oc, od, kV, doc, pm, an, _, ct, osl, l, c⟩, D.kp⟩
theorem DefAtC.own (D : DefAtC K x st f ca P) (o : LamX.OwnTab K f h) : h.get? P = some { cls := .none, data := .fields #[] } := by
  obtain ⟨oc, od, kV, doc, pm, an, ct, osl, l, c⟩ := D.fn
  obtain ⟨e, dd, vs, sl, l2, hv⟩ := D.ob
  exact o ca P _ _ e dd vs sl l rfl rfl l2 hv
/-- bindings by place -/
abbrev Plc (x : Str) (st : Stmt) (ps : List Str) : Prop := ∀ (kV doc pm : Value) (an : Option Addr) (cdv ct : Value) (us : List Value), us.length = ps.length → bindArgs (PySem.W.fnOf x x (defArgs st) (defBody st) (defScope st) .none kV doc pm an cdv ct) ⟨us, []⟩ = pure (ps.zip us)
/-- bindings with one keyword -/
abbrev Kw1 (x : Str) (st : Stmt) (ps : List Str) (kw : Str) : Prop := ∀ (kV doc pm : Value) (an : Option Addr) (cdv ct : Value) (us : List Value) (z : Value), us.length + 1 = ps.length → bindArgs (PySem.W.fnOf x x (defArgs st) (defBody st) (defScope st) .none kV doc pm an cdv ct) ⟨us, [(kw, z)]⟩ = pure (ps.zip (us ++ [z]))
theorem vals_add {vs zs : List V} {us ws : List Value} (r : Vals vs us) (rz : Vals zs ws) : Vals (vs ++ zs) (us ++ ws) := by
  induction r with
  | nil => exact rz
  | cons h _ ih => exact .cons h ih
theorem kwG_vals {n : Nat} {vs zs : List V} {us ws : List Value} (r : Vals vs us) (rz : Vals zs ws) : Vals (kwG n vs zs) (kwG n us ws) := by
  unfold kwG
  rw [rz.length]
  split
  · exact vals_add r rz
  · exact .nil
theorem kw1_binds {fd : FuncData} {kw : Str} (F : Fun K x x st f fd) (hp : ps ≠ []) (hb : Kw1 x st ps kw) : KBinds K fd ps [kw] (kwG [kw].length) (kwG [kw].length) := by
  obtain ⟨oc, od, kV, doc, pm, an, cdv, ct, osl, rfl, lk, hcd⟩ := F.ex
  refine ⟨fun s us ws X hl => ?_, fun r rz => kwG_vals r rz⟩
  unfold kwG at hl ⊢
  split at hl
  · rename_i h1
    rw [if_pos h1]
    match ws, h1 with
    | [z], _ => exact .of_eq (hb kV doc pm an cdv ct us z (by simpa using hl))
  · exact absurd (List.length_eq_zero_iff.mp hl.symm) hp
theorem cal_mk (D : DefAt K x st f) (X : K.In h) (G : h.Ns mainGlobals mg) (hb : Plc x st ps) (F : ∀ fd, Fun K x x st f fd → FnOk prog w K mg base (L2.CX prog w) kk f fd ps (spO K T R)) : CalO prog w K mg base T kk x R [] := by
  obtain ⟨fd, F0⟩ := D.fd
  exact ⟨f, fd, ps, F fd F0, D.at X G, D.kp, F0.binds hb, fun ks hk => by simp at hk⟩
theorem cal_kw (kw : Str) (D : DefAt K x st f) (X : K.In h) (G : h.Ns mainGlobals mg) (hp : ps ≠ []) (hb : Plc x st ps) (hb2 : Kw1 x st ps kw) (F : ∀ fd, Fun K x x st f fd → FnOk prog w K mg base (L2.CX prog w) kk f fd ps (spO K T R)) : CalO prog w K mg base T kk x R [[kw]] := by
  obtain ⟨fd, F0⟩ := D.fd
  refine ⟨f, fd, ps, F fd F0, D.at X G, D.kp, F0.binds hb, fun ks hk => ?_⟩
  rw [List.mem_singleton] at hk
  subst hk
  exact kw1_binds F0 hp hb2
theorem cal_c (D : DefAtC K x st f ca P) (X : K.In h) (G : h.Ns mainGlobals mg) (hb : Plc x st ps) (F : ∀ fd, FunC K x x st f fd ca → FnOk prog w K mg base (L2.CX prog w) kk f fd ps (spO K T R)) : CalO prog w K mg base T kk x R [] := by
  obtain ⟨fd, F0⟩ := D.fd
  exact ⟨f, fd, ps, F fd F0, D.def.at X G, D.kp, F0.fn.binds hb, fun ks hk => by simp at hk⟩
theorem CalO.less (c : CalO prog w K mg base T kk x R kss) : CalO prog w K mg base T kk x R [] := by
  obtain ⟨f, fd, ps, h1, h2, h3, h4, _⟩ := c.ex
  exact ⟨f, fd, ps, h1, h2, h3, h4, fun ks hk => by simp at hk⟩
theorem fz_nil (H : Hp) : fz [] H = H := funext fun b => fz_out (by simp)
/-- the law's promise, asked of a script -/
theorem law_sp {H : Hp} {a : Addr} {ns : List Int} (hT : LamX.Tabs T H) (hS : SqL K H a (ns.map V.int)) (hR : R [.dat (.list (ns.map .int))] [] (fun d _ _ => d = .dat (.bool true)) fun _ _ => False) : spO K T R [.ref a] H (fun v _ => v = .bl true) fun _ _ _ => False := by
  refine ⟨[], [.dat (.list (ns.map .int))], [], _, _, ⟨hT, fun _ _ _ e _ => e, by simp, by simp, by simp, by simp, by simp, by simp, by simp, rfl, by simp⟩, .cons ?_ .nil, hR, fun v d B' N H' hd _ s => ?_, fun _ _ _ _ z => z.elim⟩
  · show Dp K (fz [] H) (.ref a) _
    rw [fz_nil]
    exact .lst hS (dpAll_ints ns)
  · have hv := s.pinned
    subst hd
    exact dp_bl hv
end
/-- the end of a law whose defs hold generator expressions and lambdas: all tables of the text's defs are empty ahead of the call -/
theorem walk_all {l : PySem.W.OpenLaw} {n k : Nat} {q : Program} {loose : List Str} {XP : (Str → Option Value) → Heap → Prop} {YP : World → Heap → Prop} {d : DefRec} {K : Params → PySem.W.Frag} {x : Str} {P : Program}
    (hn : l.most = some n)
    (hn2 : n ≤ sizeLine)
    (hdf : d.params.defaults = [])
    (hr : Room k callerA)
    (hY : ∀ w h, YP w h → (K w.params).In h)
    (F : ∀ (w : World) (mg : Str → Option Value) (fa : Addr) (h : Heap), (K w.params).In h → h.Ns mainGlobals mg → mg d.name = some (.ref fa) → (∀ (y : Str) (f : Addr), ((recsOf q).any fun e => e.name == y) = true → mg y = some (.ref f) → LamX.OwnTab (K w.params) f h) → LamX.LawAtS l w (K w.params) (L2.CX P w) k n x mg fa h) :
    PySem.W.WalkO q loose XP YP l.row.toRowW d [] fun f vs => PySem.call f vs := by
  refine Att.attach_callB hn hdf ?_
  intro w s₀ s₁ mg mb fa o pm cd doc a vs ns G Y ho hd hcd hmg hobj hints hlen hbits hg
  have X1 := hY w _ Y
  have own : ∀ (y : Str) (f : Addr), ((recsOf q).any fun e => e.name == y) = true → mg y = some (.ref f) → LamX.OwnTab (K w.params) f s₁.heap := by
    intro y f hy hf c P o1 fd1 e dd vs1 sl k1 k2 k3 k4 k5
    obtain ⟨r, hm, hn1⟩ := List.any_eq_true.mp hy
    obtain ⟨a', o', fd', c', P', h1, h2, h3, h4, _, ⟨oc, vc, e1, _, e3, e4⟩, hP⟩ := G.T.tab r hm
    rw [beq_iff_eq.mp hn1, hf] at h1
    cases h1
    rw [X1 _ _ k1] at h2
    cases h2
    rw [k2] at h3
    cases h3
    rw [k3] at h4
    cases h4
    rw [X1 _ _ k4] at e1
    cases e1
    cases e3
    rw [k5] at e4
    cases e4
    exact hP
  obtain ⟨fd, cs, sp, hT, nT, C, hb, hsp, hF⟩ := F w mg fa s₁.heap X1 G.T.g hmg own
  refine LamX.law_callTs X1 G.T.g G.T.b G.T.builtins G.T.nolimit hg hT nT C G.T.bmain hobj hints (Nat.le_trans hlen hn2) hr hF hb ?_ ?_
  · exact fun H hH hS => hsp H a ns hlen hbits hH hS
  · rintro H e s' ⟨_, _, _, _, _, _, _, _, _, _, _, _, z⟩
    exact z
end OR

set_option Elab.async false
set_option linter.all false
set_option maxRecDepth 100000
set_option maxHeartbeats 2000000
namespace K5
open PySem PySem.Spec PyProof.Rows L2 OR
def top (i : Nat) : Stmt := PySem.Challenge.pw_organranks_k05_whole_building.main.body.getD i (.Pass ⟨0, 0, 0, 0⟩)
abbrev PG : Program := PySem.Challenge.pw_organranks_k05_whole_building
/-- what the module's top tells: no built-in is hidden, the constants -/
structure Top (K : PySem.W.Frag) (mg : Str → Option Value) : Prop where
  isi : mg "isinstance" = none
  int : mg "int" = none
  bool : mg "bool" = none
  tuple : mg "tuple" = none
  len : mg "len" = none
  all : mg "all" = none
  range : mg "range" = none
  max : mg "max" = none
  min : mg "min" = none
  sum : mg "sum" = none
  set : mg "set" = none
  abs : mg "abs" = none
  zip : mg "zip" = none
  sorted : mg "sorted" = none
  wishes : ∃ t, mg "MOST_WISHES" = some (.int 6 t)
  move : ∃ t, mg "MOST_MOVE" = some (.int 60 t)
  keys : ∃ t, mg "MOST_KEYS" = some (.int 100 t)
theorem ifb {b : Bool} {A B : Prop} (h1 : b = true → A) (h2 : b = false → B) : if b = true then A else B := by
  cases b with
  | true => exact h1 rfl
  | false => exact h2 rfl
section
variable {w : World} {K : PySem.W.Frag} {mg : Str → Option Value} {base : Heap} {T : List (Addr × Str)} {C fI : Addr}
/-! ### is_integer -/
def isN (d : D) : Bool := isI d && !isB d
theorem isN_int {d : D} (h : isN d = true) : ∃ n, d = .int n := by
  cases d <;> simp [isN, isI, isB] at h ⊢
def R_isint : RO := fun ds B k xk => ∃ d : D, ds = [.dat d] ∧ B = [] ∧ k (.dat (.bool (isN d))) [] []
theorem sc_isint : FnScope ["value"] ["value"] (defScope (top 3)) := ⟨rfl, rfl, rfl, by decide +kernel, rfl, by decide +kernel, by decide +kernel⟩
theorem ok_isint {f : Addr} {fd : FuncData} (F : Fun K "is_integer" "is_integer" (top 3) f fd) (Tp : Top K mg) : FnOk PG w K mg base (L2.CX PG w) 1 f fd ["value"] (spO K T R_isint) := by
  refine okO F sc_isint (fun ds B k xk h => by obtain ⟨d, rfl, _⟩ := h; rfl) fun cdv A outer s H E M ds B k xk hr lt h => ?_
  obtain ⟨d, rfl, rfl, hk⟩ := h
  refine ss_one (st_ret (ev_and (ev_isi Tp.isi (ea_cons (ev_var 0 fun v => ea1 (ev_tInt Tp.int (isi_int (bk (ifb (fun e1 => ev_one (ev_not (ev_isi Tp.isi (ea_cons (ev_var 0 fun v => ea1 (ev_tBool Tp.bool (isi_bool (bk ?_)))))))) (fun e1 => ?_))))))))))
  · refine rtk0 ?_
    have h := hk
    unfold isN at h
    rw [e1] at h
    exact h
  · refine rtk0 ?_
    have h := hk
    unfold isN at h
    rw [e1] at h
    exact h
/-! ### need_integer -/
def okI : D → Int → Int → Bool
  | .int n, lo, hi => decide (lo ≤ n) && decide (n ≤ hi)
  | _, _, _ => false
def R_needint (C : Addr) : RO := fun ds B k xk => ∃ (d : D) (nm : Str) (lo hi : Int), ds = [.dat d, .dat (.str nm), .dat (.int lo), .dat (.int hi)] ∧ nm.length ≤ 1000 ∧ B = [] ∧ (okI d lo hi = true → k (.dat .none) [] []) ∧ (okI d lo hi = false → xk C [(("name" : Str), .str nm)])
theorem sc_needint : FnScope ["value", "name", "least", "most"] ["value", "name", "least", "most"] (defScope (top 4)) := ⟨rfl, rfl, rfl, by decide +kernel, rfl, by decide +kernel, by decide +kernel⟩
theorem ok_needint {f : Addr} {fd : FuncData} (F : Fun K "need_integer" "need_integer" (top 4) f fd) (BT : PySem.OrX.BadTxt PG K mg C fI) (c1 : CalO PG w K mg base T 1 "is_integer" R_isint []) :
    FnOk PG w K mg base (L2.CX PG w) 2 f fd ["value", "name", "least", "most"] (spO K T (R_needint C)) := by
  refine okO F sc_needint (fun ds B k xk h => by obtain ⟨d, nm, lo, hi, rfl, _⟩ := h; rfl) fun cdv A outer s H E M ds B k xk hr lt h => ?_
  obtain ⟨d, nm, lo, hi, rfl, hnm, rfl, hk, hx⟩ := h
  have hX : ∀ n, d = .int n → okI d lo hi = (decide (lo ≤ n) && decide (n ≤ hi)) := fun n e => by rw [e]; rfl
  refine ss_one <| st_if <| tv_w <| wv_or <| tv_not <| tv_val <| ev_call c1 hr (Nat.le_refl _) lt <| ea1 <| ev_var 0 <| callP ⟨d, rfl, rfl, rfl, rfl, bk ?_⟩
  refine ifb (fun e1 => ?_) fun e1 => ?_
  · refine ss_one (st_bad rfl BT hr lt (ev_var 1 ⟨nm, rfl, hnm, hx ?_⟩))
    cases d <;> first | rfl | (simp [isN, isI, isB] at e1)
  · obtain ⟨n, hn⟩ := isN_int (d := d) (by simpa using e1)
    have hXn := hX n hn
    subst hn
    refine wv_or (tv_cmp (ev_var 0 fun v => ev_var 2 (ok_lt (bk ?_))))
    refine ifb (fun e2 => ?_) fun e2 => ?_
    · refine ss_one (st_bad rfl BT hr lt (ev_var 1 ⟨nm, rfl, hnm, hx ?_⟩))
      rw [hXn]
      simp only [decide_eq_true_eq] at e2
      simp
      omega
    · refine wv_or1 (tv_cmp (ev_var 0 fun v => ev_var 3 (ok_gt (bk ?_))))
      refine ifb (fun e3 => ?_) fun e3 => ?_
      · refine ss_one (st_bad rfl BT hr lt (ev_var 1 ⟨nm, rfl, hnm, hx ?_⟩))
        rw [hXn]
        simp only [decide_eq_true_eq] at e3
        simp
        omega
      · refine ss_nil (rtk0 (hk ?_))
        rw [hXn]
        simp only [decide_eq_false_iff_not] at e2 e3
        simp
        omega
end
end K5

set_option Elab.async false
set_option linter.all false
set_option maxRecDepth 100000
set_option maxHeartbeats 2000000
namespace K5
open PySem PySem.Spec PyProof.Rows L2 OR
section
variable {w : World} {K : PySem.W.Frag} {mg : Str → Option Value} {base : Heap} {T : List (Addr × Str)} {C fI : Addr}
theorem okI_int {d : D} {lo hi : Int} (h : okI d lo hi = true) : ∃ n, d = .int n ∧ lo ≤ n ∧ n ≤ hi := by
  cases d <;> simp [okI] at h ⊢
  exact h
theorem okI_N {d : D} {lo hi : Int} (h : isN d = false) : okI d lo hi = false := by
  cases d <;> first | rfl | (simp [isN, isI, isB] at h)
theorem ints_of_all : ∀ {xs : List D} {lo hi : Int}, xs.all (fun x => okI x lo hi) = true → ∃ ns : List Int, xs = ns.map .int ∧ ∀ n ∈ ns, lo ≤ n ∧ n ≤ hi
  | [], _, _, _ => ⟨[], rfl, fun _ h => by simp at h⟩
  | x :: xs, lo, hi, h => by
    rw [List.all_cons, Bool.and_eq_true] at h
    obtain ⟨n, rfl, h1, h2⟩ := okI_int h.1
    obtain ⟨ns, rfl, h3⟩ := ints_of_all h.2
    exact ⟨n :: ns, rfl, fun m hm => by
      rcases List.mem_cons.mp hm with e | e
      · rw [e]; exact ⟨h1, h2⟩
      · exact h3 m e⟩
/-! ### are_wishes -/
def leD : D → D → Bool
  | .int x, .int y => decide (x ≤ y)
  | _, _ => false
def ascD (xs : List D) : Bool := (List.range (xs.length - 1)).all fun i => leD (xs.getD i .none) (xs.getD (i + 1) .none)
def awS : D → Bool
  | .tuple xs => decide (xs.length ≤ 6) && xs.all (fun x => okI x 0 60) && ascD xs
  | _ => false
def R_wishes : RO := fun ds B k xk => ∃ d : D, ds = [.dat d] ∧ B = [] ∧ k (.dat (.bool (awS d))) [] []
theorem sc_wishes : FnScope ["value", "one", "at"] ["value"] (defScope (top 9)) := ⟨rfl, rfl, rfl, by decide +kernel, rfl, by decide +kernel, by decide +kernel⟩
theorem ok_wishes {f ca P : Addr} {fd : FuncData} (F : FunC K "are_wishes" "are_wishes" (top 9) f fd ca) (Tp : Top K mg) (TB : LamX.TabB base mg ca P) (hT : (P, ("are_wishes" : Str) ++ ".<locals>." ++ "<genexpr>") ∈ T) (hu : ∀ p ∈ T, p.1 = P → p.2 = ("are_wishes" : Str) ++ ".<locals>." ++ "<genexpr>")
    (c1 : CalO PG w K mg base T 1 "is_integer" R_isint []) : FnOk PG w K mg base (L2.CX PG w) 3 f fd ["value"] (spO K T R_wishes) := by
  obtain ⟨t1, g1⟩ := Tp.wishes
  obtain ⟨t2, g2⟩ := Tp.move
  refine okOC F sc_wishes (fun ds B k xk h => by obtain ⟨d, rfl, _⟩ := h; rfl) fun A outer s H E M ds B k xk hr lt h => ?_
  obtain ⟨d, rfl, rfl, hk⟩ := h
  have gt : GT (bodyX PG w K mg base ["value", "one", "at"] "are_wishes" (top 9) f (.ref ca) A outer s H E) T "<genexpr>" := ⟨ca, P, TB, rfl, hT, hu⟩
  refine ss_cons <| st_if <| tv_w <| wv_or <| tv_not <| tv_val <| ev_isi Tp.isi <| ea_cons <| ev_var 0 fun v => ea1 <| ev_tTup Tp.tuple <| isi_tuple <| bk ?_
  refine ifb (fun e1 => ?_) fun e1 => ?_
  · refine ss_one <| st_ret <| ev_bool <| rtk0 ?_
    have : awS d = false := by cases d <;> first | rfl | (simp [isT] at e1)
    rw [this] at hk
    exact hk
  · obtain ⟨xs, rfl⟩ : ∃ xs, d = .tuple xs := by cases d <;> simp [isT] at e1 ⊢
    refine wv_or1 <| tv_cmp <| ev_len Tp.len <| ea1 <| ev_var 0 <| len_T fun v => ev_gint g1 <| ok_gt <| bk ?_
    refine ifb (fun e2 => ?_) fun e2 => ?_
    · refine ss_one <| st_ret <| ev_bool <| rtk0 ?_
      have : awS (.tuple xs) = false := by
        simp only [decide_eq_true_eq] at e2
        have : ¬ xs.length ≤ 6 := by omega
        simp [awS, this]
      rw [this] at hk
      exact hk
    · have h6 : xs.length ≤ 6 := by
        simp only [decide_eq_false_iff_not] at e2
        omega
      refine ss_nil ?_
      refine ss_cons <| st_if <| tv_not <| tv_val <| ev_allT (kk := 1) (j := 1) (fun d => okI d 0 60) hr rfl sc_wishes.nd Tp.all gt (gnOk_by (by kernel_rfl)) rfl <| ev_var 0 ⟨xs, rfl, fun q i dk hd A s H0 code bi fp hr' => ?_, bk ?_⟩
      · refine ev_and <| ev_call c1 hr' (Nat.le_refl _) let0 <| ea1 <| ev_var 1 <| callP ⟨dk, rfl, rfl, rfl, rfl, bk <| ifb (fun e3 => ?_) fun e3 => ⟨?_, rfl⟩⟩
        · obtain ⟨n, rfl⟩ := isN_int e3
          refine ev_one <| ev_chain <| ev_int fun v1 => ev_var 1 fun v2 => ok_le <| bk <| ifb (fun e4 => ?_) fun e4 => ⟨?_, rfl⟩
          · refine ev_gint g2 <| ok_le ⟨?_, rfl⟩
            show SV.dat (.bool _) = SV.dat (.bool (decide (0 ≤ n) && decide (n ≤ 60)))
            rw [e4]
            rfl
          · show SV.dat (.bool _) = SV.dat (.bool (decide (0 ≤ n) && decide (n ≤ 60)))
            rw [e4]
            rfl
        · rw [okI_N e3]
      · refine ifb (fun e3 => ?_) fun e3 => ?_
        · refine ss_one <| st_ret <| ev_bool <| rtk0 ?_
          have : awS (.tuple xs) = false := by
            have e3' : xs.all (fun x => okI x 0 60) = false := by simpa using e3
            simp [awS, e3']
          rw [this] at hk
          exact hk
        · have e3' : xs.all (fun x => okI x 0 60) = true := by simpa using e3
          obtain ⟨ns, rfl, hns⟩ := ints_of_all e3'
          refine ss_nil ?_
          have hlen : (ns.map PyData.int).length = ns.length := List.length_map ..
          refine ss_one <| st_ret <| ev_allR2 (kk := 1) (j := 2) (fun z => leD ((ns.map PyData.int).getD (z - 1).toNat .none) ((ns.map PyData.int).getD z.toNat .none)) hr rfl sc_wishes.nd Tp.all Tp.range gt (gnOk_by (by kernel_rfl)) rfl <| ea_cons <| ev_int fun v => ea1 <| ev_len Tp.len <| ea1 <| ev_var 0 <| len_T ?_
          refine ⟨_, _, rfl, ⟨by decide, by decide, by omega, by omega⟩, fun i hi A s H0 code bi fp hr' => ?_, rtk0 ?_⟩
          · have hi' : i + 1 < ns.length := by rw [hlen] at hi; omega
            have g0 : ns[i]? = some ns[i] := List.getElem?_eq_getElem _
            have g3 : ns[i + 1]? = some ns[i + 1] := List.getElem?_eq_getElem _
            have a0 : (ns.map PyData.int)[((1 : Int) + (i : Int) - 1).toNat]? = some (.int ns[i]) := by
              rw [show ((1 : Int) + (i : Int) - 1).toNat = i by omega, List.getElem?_map, g0]; rfl
            have a1 : (ns.map PyData.int)[((1 : Int) + (i : Int)).toNat]? = some (.int ns[i + 1]) := by
              rw [show ((1 : Int) + (i : Int)).toNat = i + 1 by omega, List.getElem?_map, g3]; rfl
            refine ev_cmp <| ev_ix <| ev_var 0 fun v => ev_bin <| ev_var 2 fun v => ev_int <| ok_sub <| ix_T (atI_of (by omega) a0) fun v => ev_ix <| ev_var 0 fun v => ev_var 2 <| ix_T (atI_of (by omega) a1) <| ok_le ⟨?_, rfl⟩
            rw [List.getD_eq_getElem?_getD, List.getD_eq_getElem?_getD, a0, a1]
            rfl
          · have : awS (.tuple (ns.map .int)) = (List.range (((ns.map PyData.int).length : Int) - 1).toNat).all fun i => leD ((ns.map PyData.int).getD ((1 : Int) + (i : Int) - 1).toNat .none) ((ns.map PyData.int).getD ((1 : Int) + (i : Int)).toNat .none) := by
              show (decide ((ns.map PyData.int).length ≤ 6) && (ns.map PyData.int).all (fun x => okI x 0 60) && ascD (ns.map PyData.int)) = _
              rw [e3', decide_eq_true h6]
              unfold ascD
              rw [show (((ns.map PyData.int).length : Int) - 1).toNat = (ns.map PyData.int).length - 1 by omega, Bool.true_and, Bool.true_and]
              congr 1
              funext i
              rw [show ((1 : Int) + (i : Int) - 1).toNat = i by omega, show ((1 : Int) + (i : Int)).toNat = i + 1 by omega]
            rw [this] at hk
            exact hk
end
end K5

set_option Elab.async false
set_option linter.all false
set_option maxRecDepth 100000
set_option maxHeartbeats 2000000
namespace K5
open PySem PySem.Spec PyProof.Rows L2 OR
/-! ### the plain functions -/
abbrev iT (l : List Int) : D := .tuple (l.map .int)
abbrev iL (l : List Int) : D := .list (l.map .int)
abbrev lL (l : List (List Int)) : D := .list (l.map iT)
def nbS (dk dw dg : D) : Option Str := if okI dk 1 100 = true then (if awS dw = true then (if okI dg 0 100 = true then none else some "gap") else some "wishes") else some "keys"
def pipesStep (ks : Int) (s : Int × Int) (m : Int) : Int × Int := (s.1 + (m + ks - (if s.2 > m then s.2 else m)), m + ks)
def pipesF (ks : Int) (ms : List Int) : Int := (ms.foldl (pipesStep ks) (0, 0)).1
def wAt (ws : List Int) (i : Int) : Int := ws.getD i.toNat 0
def canF (ws ls : List Int) (g : Int) : Bool := (List.range (ls.length - 1)).all fun i => decide (g ≤ wAt ws (wAt ls (1 + (i : Int))) - wAt ws (wAt ls (1 + (i : Int) - 1)))
def topI : List Int → Int
  | [] => 0
  | n :: ns => ns.foldl max n + 1
def kids (row : List Int) : List (List Int) := (List.range (topI row + 1).toNat).map fun (o : Nat) => row ++ [(o : Int)]
def sharesF : Nat → List (List Int)
  | 0 => [[]]
  | n + 1 => (sharesF n).flatMap kids
theorem shares_len : ∀ n, n ≤ 4 → (sharesF n).length ≤ 100 := by
  intro n hn
  have : ∀ m : Fin 5, (sharesF m.1).length ≤ 100 := by decide +kernel
  exact this ⟨n, by omega⟩
theorem shares_top : ∀ n, n ≤ 4 → ∀ row ∈ sharesF n, 0 ≤ topI row ∧ topI row ≤ 4 ∧ row.length = n := by
  intro n hn
  have : ∀ m : Fin 5, ∀ row ∈ sharesF m.1, 0 ≤ topI row ∧ topI row ≤ 4 ∧ row.length = m.1 := by decide +kernel
  exact this ⟨n, by omega⟩
section
variable {w : World} {K : PySem.W.Frag} {mg : Str → Option Value} {base : Heap} {T : List (Addr × Str)} {C fI : Addr}
/-! ### need_build -/
def R_need (C : Addr) : RO := fun ds B k xk => ∃ dk dw dg : D, ds = [.dat dk, .dat dw, .dat dg] ∧ B = [] ∧ (nbS dk dw dg = none → k (.dat .none) [] []) ∧ (∀ nm, nbS dk dw dg = some nm → xk C [(("name" : Str), .str nm)])
theorem sc_need : FnScope ["keys", "wishes", "gap"] ["keys", "wishes", "gap"] (defScope (top 10)) := ⟨rfl, rfl, rfl, by decide +kernel, rfl, by decide +kernel, by decide +kernel⟩
theorem ok_need {f : Addr} {fd : FuncData} (F : Fun K "need_build" "need_build" (top 10) f fd) (Tp : Top K mg) (BT : PySem.OrX.BadTxt PG K mg C fI) (c1 : CalO PG w K mg base T 2 "need_integer" (R_needint C) []) (c2 : CalO PG w K mg base T 3 "are_wishes" R_wishes []) :
    FnOk PG w K mg base (L2.CX PG w) 4 f fd ["keys", "wishes", "gap"] (spO K T (R_need C)) := by
  obtain ⟨t1, g1⟩ := Tp.keys
  refine okO F sc_need (fun ds B k xk h => by obtain ⟨dk, dw, dg, rfl, _⟩ := h; rfl) fun cdv A outer s H E M ds B k xk hr lt h => ?_
  obtain ⟨dk, dw, dg, rfl, rfl, hk, hx⟩ := h
  refine ss_cons <| st_expr <| ev_call c1 hr (by decide) lt <| ea_cons <| ev_var 0 fun v => ea_cons <| ev_str fun v => ea_cons <| ev_int fun v => ea1 <| ev_gint g1 <| callP ⟨dk, "keys", 1, 100, rfl, by decide, rfl, fun e1 => ⟨rfl, rfl, ?_⟩, fun e1 => hx "keys" (by simp [nbS, e1])⟩
  refine ss_cons <| st_if <| tv_not <| tv_val <| ev_call c2 hr (by decide) lt <| ea1 <| ev_var 1 <| callP ⟨dw, rfl, rfl, rfl, rfl, bk <| ifb (fun e2 => ?_) fun e2 => ss_nil ?_⟩
  · refine ss_one <| st_bad rfl BT hr lt <| ev_str ⟨"wishes", rfl, by decide, hx "wishes" ?_⟩
    have e2 : awS dw = false := by simpa using e2
    simp [nbS, e1, e2]
  · have e2 : awS dw = true := by simpa using e2
    refine ss_one <| st_expr <| ev_call c1 hr (by decide) lt <| ea_cons <| ev_var 2 fun v => ea_cons <| ev_str fun v => ea_cons <| ev_int fun v => ea1 <| ev_gint g1 <| callP ⟨dg, "gap", 0, 100, rfl, by decide, rfl, fun e3 => ⟨rfl, rfl, rtk0 (hk (by simp [nbS, e1, e2, e3]))⟩, fun e3 => hx "gap" (by simp [nbS, e1, e2, e3])⟩
/-! ### pipes_for -/
def R_pipes : RO := fun ds B k xk => ∃ (ks : Int) (ms : List Int), ds = [.dat (.int ks), .dat (iL ms)] ∧ B = [] ∧ k (.dat (.int (pipesF ks ms))) [] []
theorem sc_pipes : FnScope ["keys", "moves", "found", "end", "move"] ["keys", "moves"] (defScope (top 11)) := ⟨rfl, rfl, rfl, by decide +kernel, rfl, by decide +kernel, by decide +kernel⟩
theorem ok_pipes {f : Addr} {fd : FuncData} (F : Fun K "pipes_for" "pipes_for" (top 11) f fd) (Tp : Top K mg) : FnOk PG w K mg base (L2.CX PG w) 1 f fd ["keys", "moves"] (spO K T R_pipes) := by
  refine okO F sc_pipes (fun ds B k xk h => by obtain ⟨dk, dw, rfl, _⟩ := h; rfl) fun cdv A outer s H E M ds B k xk hr lt h => ?_
  obtain ⟨ks, ms, rfl, rfl, hk⟩ := h
  refine ss_cons <| st_set 2 sc_pipes.nd <| ev_int ?_
  refine ss_cons <| st_set 3 sc_pipes.nd <| ev_int ?_
  refine ss_cons <| st_forL 4 (fun i G O => O = [] ∧ ∃ g4, G = [some (.dat (.int ks)), some (.dat (iL ms)), some (.dat (.int ((ms.take i).foldl (pipesStep ks) (0, 0)).1)), some (.dat (.int ((ms.take i).foldl (pipesStep ks) (0, 0)).2)), g4]) (passes_of rfl) rfl sc_pipes.nd <| ev_var 1 ⟨ms.map .int, rfl, ⟨rfl, none, rfl⟩, ?_, ?_⟩
  · rintro q i dk G' O' hd ⟨rfl, g4, rfl⟩
    rw [List.getElem?_map] at hd
    obtain ⟨m, hm, rfl⟩ := Option.map_eq_some_iff.mp hd
    have et : (ms.take (i + 1)).foldl (pipesStep ks) (0, 0) = pipesStep ks ((ms.take i).foldl (pipesStep ks) (0, 0)) m := by
      rw [take_next hm, List.foldl_append]; rfl
    refine ss_cons <| st_aug 2 ip_add sc_pipes.nd rfl <| ev_bin <| ev_bin <| ev_var 4 fun v => ev_var 0 <| ok_add fun v => ev_max Tp.max <| ea_cons <| ev_var 4 fun v => ea1 <| ev_var 3 <| okc_max2 rfl <| ok_sub ⟨_, rfl, ?_⟩
    refine ss_one <| st_set 3 sc_pipes.nd <| ev_bin <| ev_var 4 fun v => ev_var 0 <| ok_add ⟨rfl, some (.dat (.int m)), ?_⟩
    rw [et]
    rfl
  · rintro G' O' ⟨rfl, g4, rfl⟩
    rw [List.length_map, List.take_length]
    exact ss_one <| st_ret <| ev_var 2 <| rtk0 hk
/-! ### can_share -/
def R_can : RO := fun ds B k xk => ∃ (ws ls : List Int) (g : Int), ds = [.dat (iT ws), .dat (iT ls), .dat (.int g)] ∧ B = [] ∧ (∀ l ∈ ls, 0 ≤ l ∧ l < ws.length) ∧ ls.length ≤ 10 ∧ k (.dat (.bool (canF ws ls g))) [] []
theorem sc_can : FnScope ["wishes", "lot", "gap", "at"] ["wishes", "lot", "gap"] (defScope (top 12)) := ⟨rfl, rfl, rfl, by decide +kernel, rfl, by decide +kernel, by decide +kernel⟩
theorem at_int {ls : List Int} {z : Int} (h0 : 0 ≤ z) (h : z < ls.length) : (ls.map PyData.int)[z.toNat]? = some (.int (ls.getD z.toNat 0)) := by
  have hz : z.toNat < ls.length := by omega
  rw [List.getElem?_map, List.getElem?_eq_getElem hz, List.getD_eq_getElem?_getD, List.getElem?_eq_getElem hz]
  rfl
theorem getD_mem {ls : List Int} {i : Nat} (h : i < ls.length) : ls.getD i 0 ∈ ls := by
  rw [List.getD_eq_getElem?_getD, List.getElem?_eq_getElem h]
  exact List.getElem_mem h
theorem wAt_mem {ls : List Int} {z : Int} (h0 : 0 ≤ z) (h : z < ls.length) : wAt ls z ∈ ls := getD_mem (by omega)
theorem atIi {ls : List Int} {z : Int} (h0 : 0 ≤ z) (h : z < ls.length) : atI (ls.map PyData.int) z = some (.int (wAt ls z)) := atI_of h0 (at_int h0 h)
theorem ok_can {f : Addr} {fd : FuncData} (F : Fun K "can_share" "can_share" (top 12) f fd) (Tp : Top K mg) : FnOk PG w K mg base (L2.CX PG w) 2 f fd ["wishes", "lot", "gap"] (spO K T R_can) := by
  refine okO F sc_can (fun ds B k xk h => by obtain ⟨dk, dw, _, rfl, _⟩ := h; rfl) fun cdv A outer s H E M ds B k xk hr lt h => ?_
  obtain ⟨ws, ls, g, rfl, rfl, hl, hn, hk⟩ := h
  refine ss_one <| st_ret <| ev_allL Tp.all <| ea1 <| ev_frz <| ev_lcR2 3 (fun i acc O => O = [] ∧ acc = ((List.range i).map fun (i : Nat) => decide (g ≤ wAt ws (wAt ls (1 + (i : Int))) - wAt ws (wAt ls (1 + (i : Int) - 1)))).map PyData.bool) rfl sc_can.nd Tp.range (blkOk_by (by kernel_rfl)) <| ea_cons <| ev_int fun v => ea1 <| ev_len Tp.len <| ea1 <| ev_var 1 <| len_T ?_
  have hlm : (ls.map PyData.int).length = ls.length := List.length_map ..
  refine ⟨1, _, rfl, ⟨by decide, by decide, by omega, by omega⟩, ⟨rfl, rfl⟩, ?_, ?_⟩
  · rintro p i acc O2 hi ⟨rfl, rfl⟩
    rw [hlm] at hi
    have a1 := atIi (ls := ls) (z := 1 + (i : Int)) (by omega) (by omega)
    have a0 := atIi (ls := ls) (z := 1 + (i : Int) - 1) (by omega) (by omega)
    have m1 := hl _ (wAt_mem (ls := ls) (z := 1 + (i : Int)) (by omega) (by omega))
    have m0 := hl _ (wAt_mem (ls := ls) (z := 1 + (i : Int) - 1) (by omega) (by omega))
    have b1 := atIi m1.1 m1.2
    have b0 := atIi m0.1 m0.2
    refine turn0 fun s H0 C cl fp => ev_cmp <| ev_bin <| ev_ix <| ev_var 0 fun v => ev_ix <| ev_var 1 fun v => ev_var 3 <| ix_T a1 <| ix_T b1 fun v => ev_ix <| ev_var 0 fun v => ev_ix <| ev_var 1 fun v => ev_bin <| ev_var 3 fun v => ev_int <| ok_sub <| ix_T a0 <| ix_T b0 <| ok_sub fun v => ev_var 2 <| ok_ge ⟨_, rfl, ?_, rfl, ?_⟩
    · rw [List.length_map, List.length_map, List.length_range]; omega
    · rw [List.range_succ, List.map_append, List.map_append]
      rfl
  · rintro p acc O2 ⟨rfl, rfl⟩
    refine frz <| okc_all rfl <| rtk0 ?_
    rw [hlm, show ((ls.length : Int) - 1).toNat = ls.length - 1 by omega, List.all_map]
    exact hk
/-! ### all_shares -/
def R_shares : RO := fun ds B k xk => ∃ (n : Nat), ds = [.dat (.int n)] ∧ B = [] ∧ n ≤ 4 ∧ k (.dat (lL (sharesF n))) [] []
theorem sc_shares : FnScope ["many", "rows", "turn", "longer", "row", "top", "own"] ["many"] (defScope (top 13)) := ⟨rfl, rfl, rfl, by decide +kernel, rfl, by decide +kernel, by decide +kernel⟩
theorem ok_shares {f : Addr} {fd : FuncData} (F : Fun K "all_shares" "all_shares" (top 13) f fd) (Tp : Top K mg) : FnOk PG w K mg base (L2.CX PG w) 2 f fd ["many"] (spO K T R_shares) := by
  refine okO F sc_shares (fun ds B k xk h => by obtain ⟨dk, rfl, _⟩ := h; rfl) fun cdv A outer s H E M ds B k xk hr lt h => ?_
  obtain ⟨n, rfl, rfl, hn, hk⟩ := h
  refine ss_cons <| st_set 1 sc_shares.nd <| ev_lst <| ea1 <| ev_tup <| ea_nil ⟨[], rfl, by simp, ⟨[.tuple []], rfl, by simp, ?_⟩⟩
  refine ss_cons <| st_forR1 2 (fun i G O => O = [] ∧ ∃ g2 g3 g4 g5, G = [some (.dat (.int n)), some (.dat (lL (sharesF i))), g2, g3, g4, g5, none]) (passes_of rfl) rfl sc_shares.nd Tp.range <| ea1 <| ev_var 0 ⟨n, rfl, by omega, by omega, ⟨rfl, _, _, _, _, rfl⟩, ?_, ?_⟩
  · rintro i G' O' hi ⟨rfl, g2, g3, g4, g5, rfl⟩
    refine ss_cons <| st_set 3 sc_shares.nd <| ev_lstO <| ea_nil ⟨[], rfl, by simp, fun pl => ?_⟩
    refine ss_cons <| st_forL 4 (fun i' G O => ∃ g4 g5, G = [some (.dat (.int n)), some (.dat (lL (sharesF i))), some (.dat (.int i)), some (.val (.ref pl)), g4, g5, none] ∧ O = [(pl, .lst (((sharesF i).take i').flatMap kids |>.map iT))]) (passes_of rfl) rfl sc_shares.nd <| ev_var 1 ⟨(sharesF i).map iT, rfl, ⟨_, _, rfl, rfl⟩, ?_, ?_⟩
    · rintro q i' dk G' O' hd ⟨g4, g5, rfl, rfl⟩
      rw [List.getElem?_map] at hd
      obtain ⟨row, hm, rfl⟩ := Option.map_eq_some_iff.mp hd
      have hrow := shares_top i (by omega) row (List.mem_of_getElem? hm)
      have h1 := shares_len i (by omega)
      have h2 := flat_le kids (sharesF i) i'
      have h3 := shares_len (i + 1) (by omega)
      have h4 : (sharesF (i + 1)).length = ((sharesF i).flatMap kids).length := rfl
      have key : EV (bodyX PG w K mg base ["many", "rows", "turn", "longer", "row", "top", "own"] "all_shares" (top 13) f cdv A outer s H E) ((c0 K T H M []).pn q) (match defBody (top 13) with | [_, .For _ _ [_, .For _ _ [.Assign _ e _, _] _ _, _] _ _, _] => e | _ => .Constant .none 0 ⟨0, 0, 0, 0⟩)
          [some (.dat (.int n)), some (.dat (lL (sharesF i))), some (.dat (.int i)), some (.val (.ref pl)), some (.dat (iT row)), g5, none] [(pl, .lst (((sharesF i).take i').flatMap kids |>.map iT))] fun d O' => d = .dat (.int (topI row)) ∧ O' = [(pl, .lst (((sharesF i).take i').flatMap kids |>.map iT))] := by
        cases row with
        | nil =>
          refine ev_if <| tv_cmp <| ev_len Tp.len <| ea1 <| ev_var 4 <| len_T fun v => ev_int <| ok_gt <| bk <| ifb (fun e1 => ?_) fun e1 => ev_int ⟨rfl, rfl⟩
          simp at e1
        | cons z zs =>
          refine ev_if <| tv_cmp <| ev_len Tp.len <| ea1 <| ev_var 4 <| len_T fun v => ev_int <| ok_gt <| bk <| ifb (fun e1 => ev_bin <| ev_max Tp.max <| ea1 <| ev_var 4 <| okc_maxT rfl hr.units fun v => ev_int <| ok_add ⟨rfl, rfl⟩) fun e1 => ?_
          simp only [List.length_map, List.length_cons, decide_eq_false_iff_not] at e1
          omega
      refine ss_cons <| st_set 5 sc_shares.nd <| key.mono fun d O1 ⟨ed, eO⟩ => ?_
      subst ed
      subst eO
      refine ss_one <| st_expr <| ev_drop 1 <| ev_extend <| ev_var 3 ⟨0, pl, _, rfl, rfl, fun v => ev_lcR1 6 (fun m acc O => O = [(pl, .lst (((sharesF i).take i').flatMap kids |>.map iT))] ∧ acc = ((List.range m).map fun (o : Nat) => iT (row ++ [(o : Int)]))) rfl sc_shares.nd Tp.range (blkOk_by (by kernel_rfl)) <| ea1 <| ev_bin <| ev_var 5 fun v => ev_int <| ok_add ⟨topI row + 1, rfl, by omega, by omega, ⟨rfl, rfl⟩, ?_, ?_⟩⟩
      · rintro p m acc O2 hm' ⟨rfl, rfl⟩
        refine turn0 fun s H0 C cl fp => ev_bin <| ev_var 4 fun v => ev_tup <| ea1 <| ev_var 6 ⟨[.int m], rfl, by simp, ok_catT ⟨_, rfl, ?_, rfl, ?_⟩ ?_ rfl⟩
        · rw [List.length_map, List.length_range]; omega
        · rw [List.range_succ, List.map_append]
          show _ = _ ++ [iT (row ++ [(m : Int)])]
          unfold iT
          rw [List.map_append]
          rfl
        · rw [List.length_map]
          show row.length + 1 ≤ 100000
          omega
      · rintro p acc O2 ⟨rfl, rfl⟩
        have e2 : ((List.range (topI row + 1).toNat).map fun (o : Nat) => iT (row ++ [(o : Int)])) = (kids row).map iT := by
          unfold kids
          rw [List.map_map]
          rfl
        rw [e2]
        have e3 : (((sharesF i).take (i' + 1)).flatMap kids).map iT = (((sharesF i).take i').flatMap kids).map iT ++ (kids row).map iT := by
          rw [take_next hm, List.flatMap_append, List.map_append]
          simp
        refine ⟨1, p, _, rfl, rfl, rfl, ?_, ⟨_, _, rfl, ?_⟩⟩
        · have h5 := flat_le kids (sharesF i) (i' + 1)
          have h6 := congrArg List.length e3
          rw [List.length_append, List.length_map] at h6
          omega
        · rw [e3]
          rfl
    · rintro G' O' ⟨g4, g5, rfl, rfl⟩
      rw [List.length_map, List.take_length]
      refine ss_one <| st_set 1 sc_shares.nd <| ev_frz <| ev_var 3 ⟨pl, _, [], rfl, rfl, rfl, _, _, _, _, rfl⟩
  · rintro G' O' ⟨rfl, g2, g3, g4, g5, rfl⟩
    exact ss_one <| st_ret <| ev_var 1 <| rtk0 hk
end
end K5

set_option Elab.async false
set_option linter.all false
set_option maxRecDepth 100000
set_option maxHeartbeats 2000000
namespace K5
open PySem PySem.Spec PyProof.Rows L2 OR
def idxF (row : List Int) (o : Int) : List Int := ((List.range row.length).filter fun (a : Nat) => decide (wAt row (a : Int) = o)).map fun (a : Nat) => (a : Int)
def lotsF (row : List Int) : List (List Int) := (List.range (topI row).toNat).map fun (o : Nat) => idxF row (o : Int)
theorem idx_range {row : List Int} {o z : Int} (h : z ∈ idxF row o) : 0 ≤ z ∧ z < row.length := by
  obtain ⟨a, ha, rfl⟩ := List.mem_map.mp h
  have := List.mem_range.mp (List.mem_filter.mp ha).1
  omega
theorem lots_range {row ls : List Int} (h : ls ∈ lotsF row) : (∀ z ∈ ls, 0 ≤ z ∧ z < row.length) ∧ ls.length ≤ row.length := by
  obtain ⟨o, _, rfl⟩ := List.mem_map.mp h
  refine ⟨fun z hz => idx_range hz, ?_⟩
  unfold idxF
  rw [List.length_map]
  exact Nat.le_trans (List.length_filter_le _ _) (by simp)
def costF (ks : Int) (ws : List Int) (lots : List (List Int)) : Int := (lots.map fun lot => pipesF ks (lot.map (wAt ws))).sum
section
variable {w : World} {K : PySem.W.Frag} {mg : Str → Option Value} {base : Heap} {T : List (Addr × Str)} {C fI : Addr}
/-! ### lots_of -/
def R_lots : RO := fun ds B k xk => ∃ (row : List Int), ds = [.dat (iT row)] ∧ B = [] ∧ 0 ≤ topI row ∧ topI row ≤ 10 ∧ row.length ≤ 10 ∧ k (.dat (lL (lotsF row))) [] []
theorem sc_lots : FnScope ["row", "many", "at", "own"] ["row"] (defScope (top 14)) := ⟨rfl, rfl, rfl, by decide +kernel, rfl, by decide +kernel, by decide +kernel⟩
theorem ok_lots {f : Addr} {fd : FuncData} (F : Fun K "lots_of" "lots_of" (top 14) f fd) (Tp : Top K mg) : FnOk PG w K mg base (L2.CX PG w) 2 f fd ["row"] (spO K T R_lots) := by
  refine okO F sc_lots (fun ds B k xk h => by obtain ⟨dk, rfl, _⟩ := h; rfl) fun cdv A outer s H E M ds B k xk hr lt h => ?_
  obtain ⟨row, rfl, rfl, ht0, ht1, hn, hk⟩ := h
  have key : EV (bodyX PG w K mg base ["row", "many", "at", "own"] "lots_of" (top 14) f cdv A outer s H E) (c0 K T H M []) (match defBody (top 14) with | [.Assign _ e _, _] => e | _ => .Constant .none 0 ⟨0, 0, 0, 0⟩)
      [some (.dat (iT row)), none, none, none] [] fun d O' => d = .dat (.int (topI row)) ∧ O' = [] := by
    cases row with
    | nil =>
      refine ev_if <| tv_cmp <| ev_len Tp.len <| ea1 <| ev_var 0 <| len_T fun v => ev_int <| ok_gt <| bk <| ifb (fun e1 => ?_) fun e1 => ev_int ⟨rfl, rfl⟩
      simp at e1
    | cons z zs =>
      refine ev_if <| tv_cmp <| ev_len Tp.len <| ea1 <| ev_var 0 <| len_T fun v => ev_int <| ok_gt <| bk <| ifb (fun e1 => ev_bin <| ev_max Tp.max <| ea1 <| ev_var 0 <| okc_maxT rfl hr.units fun v => ev_int <| ok_add ⟨rfl, rfl⟩) fun e1 => ?_
      simp only [List.length_map, List.length_cons, decide_eq_false_iff_not] at e1
      omega
  refine ss_cons <| st_set 1 sc_lots.nd <| key.mono fun d O1 ⟨ed, eO⟩ => ?_
  subst ed
  subst eO
  refine ss_one <| st_ret <| ev_frz <| ev_lcR1 3 (fun m acc O => O = [] ∧ acc = ((List.range m).map fun (o : Nat) => iT (idxF row (o : Int)))) rfl sc_lots.nd Tp.range (blkOk_by (by kernel_rfl)) <| ea1 <| ev_var 1 ⟨topI row, rfl, by omega, by omega, ⟨rfl, rfl⟩, ?_, ?_⟩
  · rintro p m acc O2 hm ⟨rfl, rfl⟩
    refine turn0 fun s H0 C cl fp => ev_tupleC Tp.tuple <| ea1 <| ev_frz <| ev_lcR1 2 (fun i acc O => O = [] ∧ acc = ((((List.range i).filter fun (a : Nat) => decide (wAt row (a : Int) = (m : Int))).map fun (a : Nat) => (a : Int)).map PyData.int)) rfl sc_lots.nd Tp.range (blkOk_by (by kernel_rfl)) <| ea1 <| ev_len Tp.len <| ea1 <| ev_var 0 <| len_T ?_
    have hlm : (row.map PyData.int).length = row.length := List.length_map ..
    refine ⟨_, rfl, by omega, by omega, ⟨rfl, rfl⟩, ?_, ?_⟩
    · rintro p i acc O2 hi ⟨rfl, rfl⟩
      rw [hlm] at hi
      have a1 := atIi (ls := row) (z := (i : Int)) (by omega) (by omega)
      refine turn1t fun s H0 C cl fp => tv_cmp <| ev_ix <| ev_var 0 fun v => ev_var 2 <| ix_T a1 fun v => ev_var 3 <| ok_eq (bk <| ifb (fun e1 => ?_) fun e1 => ?_) hr.units (.inl (by show PyData.depth _ ≤ 60; simp [PyData.depth])) rfl
      · intro s H0 C cl fp
        refine ev_var 2 ⟨_, rfl, ?_, rfl, ?_⟩
        · rw [List.length_map, List.length_map]
          exact Nat.le_trans (List.length_filter_le _ _) (by simp; omega)
        · have e1' : wAt row (i : Int) = (m : Int) := by simpa [PyData.eqv] using e1
          rw [List.range_succ, List.filter_append, List.map_append, List.map_append]
          simp [e1']
      · have e1' : ¬ wAt row (i : Int) = (m : Int) := by simpa [PyData.eqv] using e1
        refine ⟨rfl, ?_⟩
        rw [List.range_succ, List.filter_append]
        simp [e1']
    · rintro p acc O2 ⟨rfl, rfl⟩
      refine frz <| okc_tupleL ⟨_, rfl, ?_, rfl, ?_⟩
      · rw [List.length_map, List.length_range]; omega
      · rw [List.range_succ, List.map_append]
        show _ = _ ++ [iT (idxF row (m : Int))]
        unfold idxF
        rw [hlm]
        rfl
  · rintro p acc O2 ⟨rfl, rfl⟩
    refine frz <| rtk0 ?_
    have : (lotsF row).map iT = (List.range (topI row).toNat).map fun (o : Nat) => iT (idxF row (o : Int)) := by
      unfold lotsF
      rw [List.map_map]
      rfl
    show k (.dat (.list _)) [] []
    rw [← this]
    exact hk
/-! ### cost_of -/
def R_cost : RO := fun ds B k xk => ∃ (ks : Int) (ws : List Int) (lots : List (List Int)), ds = [.dat (.int ks), .dat (iT ws), .dat (lL lots)] ∧ B = [] ∧ (∀ ls ∈ lots, (∀ z ∈ ls, 0 ≤ z ∧ z < ws.length) ∧ ls.length ≤ 10) ∧ lots.length ≤ 10 ∧ k (.dat (.int (costF ks ws lots))) [] []
theorem sc_cost : FnScope ["keys", "wishes", "lots", "at", "lot"] ["keys", "wishes", "lots"] (defScope (top 15)) := ⟨rfl, rfl, rfl, by decide +kernel, rfl, by decide +kernel, by decide +kernel⟩
theorem ok_cost {f : Addr} {fd : FuncData} (F : Fun K "cost_of" "cost_of" (top 15) f fd) (Tp : Top K mg) (c1 : CalO PG w K mg base T 1 "pipes_for" R_pipes []) : FnOk PG w K mg base (L2.CX PG w) 3 f fd ["keys", "wishes", "lots"] (spO K T R_cost) := by
  refine okO F sc_cost (fun ds B k xk h => by obtain ⟨dk, _, _, rfl, _⟩ := h; rfl) fun cdv A outer s H E M ds B k xk hr lt h => ?_
  obtain ⟨ks, ws, lots, rfl, rfl, hl, hn, hk⟩ := h
  refine ss_one <| st_ret <| ev_sum Tp.sum <| ea1 <| ev_frz <| ev_lcL 4 (fun i acc O => O = [] ∧ acc = ((lots.take i).map fun lot => pipesF ks (lot.map (wAt ws))).map PyData.int) rfl sc_cost.nd (blkOk_by (by kernel_rfl)) <| ev_var 2 ⟨lots.map iT, rfl, ⟨rfl, rfl⟩, ?_, ?_⟩
  · rintro q p i dk acc O2 hd ⟨rfl, rfl⟩
    rw [List.getElem?_map] at hd
    obtain ⟨lot, hm, rfl⟩ := Option.map_eq_some_iff.mp hd
    have hlot := hl lot (List.mem_of_getElem? hm)
    refine turn0 fun s H0 C cl fp => ev_call c1 hr (by decide) let0 <| ea_cons <| ev_var 0 fun v => ea1 <| ev_frz <| ev_lcT 3 (fun i acc O => O = [] ∧ acc = ((lot.take i).map (wAt ws)).map PyData.int) rfl sc_cost.nd (blkOk_by (by kernel_rfl)) <| ev_var 4 ⟨lot.map .int, rfl, ⟨rfl, rfl⟩, ?_, ?_⟩
    · rintro q p i' dk acc O2 hd ⟨rfl, rfl⟩
      rw [List.getElem?_map] at hd
      obtain ⟨z, hz, rfl⟩ := Option.map_eq_some_iff.mp hd
      have hzr := hlot.1 z (List.mem_of_getElem? hz)
      have a1 := atIi (ls := ws) hzr.1 hzr.2
      refine turn0 fun s H0 C cl fp => ev_ix <| ev_var 1 fun v => ev_var 3 <| ix_T a1 ⟨_, rfl, ?_, rfl, ?_⟩
      · rw [List.length_map, List.length_map, List.length_take]; omega
      · rw [take_next hz, List.map_append, List.map_append]; rfl
    · rintro p acc O2 ⟨rfl, rfl⟩
      rw [show (lot.map PyData.int).length = lot.length from List.length_map .., List.take_length]
      refine frz <| callP ⟨ks, lot.map (wAt ws), rfl, rfl, rfl, rfl, _, rfl, ?_, rfl, ?_⟩
      · rw [List.length_map, List.length_map, List.length_take]; omega
      · rw [take_next hm, List.map_append, List.map_append]; rfl
  · rintro p acc O2 ⟨rfl, rfl⟩
    rw [List.length_map, List.take_length]
    exact frz <| okc_sum rfl <| rtk0 hk
end
end K5

set_option Elab.async false
set_option linter.all false
set_option maxRecDepth 100000
set_option maxHeartbeats 2000000
namespace K5
open PySem PySem.Spec PyProof.Rows L2 OR
def okLots (ws : List Int) (g : Int) (lots : List (List Int)) : Bool := lots.all fun ls => canF ws ls g
abbrev Best := Int × List (List Int)
def bestStep (ks : Int) (ws : List Int) (g : Int) (b : Best) (row : List Int) : Best :=
  if okLots ws g (lotsF row) = true then (if costF ks ws (lotsF row) < b.1 then (costF ks ws (lotsF row), lotsF row) else b) else b
def bestF (ks : Int) (ws : List Int) (g : Int) : Best := (sharesF ws.length).foldl (bestStep ks ws g) (ks * ws.length + 1, [])
def pD (b : Best) : D := .tuple [.int b.1, lL b.2]
/-- told lots that a loop may hold -/
def Fit (n : Nat) (lots : List (List Int)) : Prop := (∀ ls ∈ lots, (∀ z ∈ ls, 0 ≤ z ∧ z < (n : Int)) ∧ ls.length ≤ 10) ∧ lots.length ≤ 10
theorem fit_lots {n : Nat} (hn : n ≤ 4) {row : List Int} (h : row ∈ sharesF n) : Fit n (lotsF row) := by
  obtain ⟨h0, h1, h2⟩ := shares_top n hn row h
  refine ⟨fun ls hls => ?_, ?_⟩
  · obtain ⟨a, b⟩ := lots_range hls
    rw [h2] at a b
    exact ⟨a, by omega⟩
  · unfold lotsF
    rw [List.length_map, List.length_range]
    omega
theorem best_fit {ks : Int} {ws : List Int} {g : Int} : ∀ (rows : List (List Int)) (b : Best), (∀ row ∈ rows, Fit ws.length (lotsF row)) → Fit ws.length b.2 → Fit ws.length (rows.foldl (bestStep ks ws g) b).2
  | [], _, _, h => h
  | r :: rs, b, hr, h => by
    refine best_fit rs _ (fun row hrow => hr row (List.mem_cons_of_mem _ hrow)) ?_
    unfold bestStep
    split
    · split
      · exact hr r List.mem_cons_self
      · exact h
    · exact h
theorem fit_nil (n : Nat) : Fit n [] := ⟨fun _ h => by simp at h, by simp⟩
theorem bestF_fit {ks : Int} {ws : List Int} {g : Int} (hn : ws.length ≤ 4) : Fit ws.length (bestF ks ws g).2 := best_fit _ _ (fun row h => fit_lots hn h) (fit_nil _)
section
variable {w : World} {K : PySem.W.Frag} {mg : Str → Option Value} {base : Heap} {T : List (Addr × Str)} {C fI : Addr}
/-! ### best_lots -/
def R_best : RO := fun ds B k xk => ∃ (ks : Int) (ws : List Int) (g : Int), ds = [.dat (.int ks), .dat (iT ws), .dat (.int g)] ∧ B = [] ∧ 1 ≤ ks ∧ ks ≤ 100 ∧ ws.length ≤ 4 ∧ k (.dat (lL (bestF ks ws g).2)) [] []
theorem sc_best : FnScope ["keys", "wishes", "gap", "best", "row", "lots", "cost", "lot"] ["keys", "wishes", "gap"] (defScope (top 17)) := ⟨rfl, rfl, rfl, by decide +kernel, rfl, by decide +kernel, by decide +kernel⟩
theorem cmul_small {i j : Int} (h0 : 0 ≤ i) (h1 : i ≤ 1000) : CMul i j := .inl ⟨by omega, by omega⟩
theorem ok_best {f : Addr} {fd : FuncData} (F : Fun K "best_lots" "best_lots" (top 17) f fd) (Tp : Top K mg) (c1 : CalO PG w K mg base T 2 "all_shares" R_shares []) (c2 : CalO PG w K mg base T 2 "lots_of" R_lots [])
    (c3 : CalO PG w K mg base T 2 "can_share" R_can []) (c4 : CalO PG w K mg base T 3 "cost_of" R_cost []) : FnOk PG w K mg base (L2.CX PG w) 5 f fd ["keys", "wishes", "gap"] (spO K T R_best) := by
  refine okO F sc_best (fun ds B k xk h => by obtain ⟨dk, _, _, rfl, _⟩ := h; rfl) fun cdv A outer s H E M ds B k xk hr lt h => ?_
  obtain ⟨ks, ws, g, rfl, rfl, hk1, hk2, hn, hk⟩ := h
  have hlm : (ws.map PyData.int).length = ws.length := List.length_map ..
  have hmul : CMul ks ((ws.map PyData.int).length : Int) := cmul_small (by omega) (by omega)
  refine ss_cons <| st_set 3 sc_best.nd <| ev_tup <| ea_cons <| ev_bin <| ev_bin <| ev_var 0 fun v => ev_len Tp.len <| ea1 <| ev_var 1 <| len_T <| ok_mul (fun v => ev_int <| ok_add fun v => ea1 <| ev_lst <| ea_nil ⟨[], rfl, by simp, ⟨[_, _], rfl, by simp, ?_⟩⟩) hmul
  rw [hlm]
  refine ss_cons <| st_forL 4 (fun i G O => O = [] ∧ ∃ g4 g5 g6, G = [some (.dat (.int ks)), some (.dat (iT ws)), some (.dat (.int g)), some (.dat (pD (((sharesF ws.length).take i).foldl (bestStep ks ws g) (ks * ws.length + 1, [])))), g4, g5, g6, none]) (passes_of rfl) rfl sc_best.nd <| ev_call c1 hr (by decide) lt <| ea1 <| ev_len Tp.len <| ea1 <| ev_var 1 <| len_T <| callP ⟨ws.length, by rw [hlm], rfl, hn, rfl, rfl, (sharesF ws.length).map iT, rfl, ⟨rfl, _, _, _, rfl⟩, ?_, ?_⟩
  · rintro q i dk G' O' hd ⟨rfl, g4, g5, g6, rfl⟩
    rw [List.getElem?_map] at hd
    obtain ⟨row, hm, rfl⟩ := Option.map_eq_some_iff.mp hd
    have hrow := shares_top _ hn row (List.mem_of_getElem? hm)
    have hfit := fit_lots hn (List.mem_of_getElem? hm)
    have et : ((sharesF ws.length).take (i + 1)).foldl (bestStep ks ws g) (ks * ws.length + 1, []) = bestStep ks ws g (((sharesF ws.length).take i).foldl (bestStep ks ws g) (ks * ws.length + 1, [])) row := by
      rw [take_next hm, List.foldl_append]; rfl
    generalize ((sharesF ws.length).take i).foldl (bestStep ks ws g) (ks * ws.length + 1, []) = b at et ⊢
    refine ss_cons <| st_set 5 sc_best.nd <| ev_call c2 hr (by decide) let0 <| ea1 <| ev_var 4 <| callP ⟨row, rfl, rfl, hrow.1, by omega, by omega, rfl, rfl, ?_⟩
    refine ss_one <| st_if <| tv_val <| ev_allL Tp.all <| ea1 <| ev_frz <| ev_lcL 7 (fun m acc O => O = [] ∧ acc = (((lotsF row).take m).map fun ls => canF ws ls g).map PyData.bool) rfl sc_best.nd (blkOk_by (by kernel_rfl)) <| ev_var 5 ⟨(lotsF row).map iT, rfl, ⟨rfl, rfl⟩, ?_, ?_⟩
    · rintro q p m dk acc O2 hd ⟨rfl, rfl⟩
      rw [List.getElem?_map] at hd
      obtain ⟨ls, hls, rfl⟩ := Option.map_eq_some_iff.mp hd
      have hl := hfit.1 ls (List.mem_of_getElem? hls)
      refine turn0 fun s H0 C cl fp => ev_call c3 hr (by decide) let0 <| ea_cons <| ev_var 1 fun v => ea_cons <| ev_var 7 fun v => ea1 <| ev_var 2 <| callP ⟨ws, ls, g, rfl, rfl, hl.1, hl.2, rfl, rfl, _, rfl, ?_, rfl, ?_⟩
      · have := hfit.2
        rw [List.length_map, List.length_map, List.length_take]; omega
      · rw [take_next hls, List.map_append, List.map_append]; rfl
    · rintro p acc O2 ⟨rfl, rfl⟩
      rw [show ((lotsF row).map iT).length = (lotsF row).length from List.length_map .., List.take_length]
      refine frz <| okc_all rfl <| bk ?_
      rw [List.all_map]
      have hall : ((lotsF row).all (_root_.id ∘ fun ls => canF ws ls g)) = okLots ws g (lotsF row) := rfl
      rw [hall]
      refine ifb (fun e1 => ?_) fun e1 => ?_
      · refine ss_cons <| st_set 6 sc_best.nd <| ev_call c4 hr (by decide) let0 <| ea_cons <| ev_var 0 fun v => ea_cons <| ev_var 1 fun v => ea1 <| ev_var 5 <| callP ⟨ks, ws, lotsF row, rfl, rfl, hfit.1, hfit.2, rfl, rfl, ?_⟩
        refine ss_one <| st_if <| tv_cmp <| ev_var 6 fun v => ev_ix <| ev_var 3 fun v => ev_int <| ix_T (xs := [.int b.1, lL b.2]) (i := 0) rfl <| ok_lt <| bk <| ifb (fun e2 => ?_) fun e2 => ?_
        · refine ss_one <| st_set 3 sc_best.nd <| ev_tup <| ea_cons <| ev_var 6 fun v => ea1 <| ev_var 5 ⟨[.int (costF ks ws (lotsF row)), lL (lotsF row)], rfl, by simp, ⟨rfl, some (.dat (iT row)), some (.dat (lL (lotsF row))), some (.dat (.int (costF ks ws (lotsF row)))), ?_⟩⟩
          rw [et]
          unfold bestStep
          rw [if_pos e1, if_pos (by simpa using e2)]
          rfl
        · refine ss_nil ⟨rfl, some (.dat (iT row)), some (.dat (lL (lotsF row))), some (.dat (.int (costF ks ws (lotsF row)))), ?_⟩
          rw [et]
          unfold bestStep
          rw [if_pos e1, if_neg (by simpa using e2)]
          rfl
      · refine ss_nil ⟨rfl, some (.dat (iT row)), some (.dat (lL (lotsF row))), g6, ?_⟩
        rw [et]
        unfold bestStep
        rw [if_neg (by rw [e1]; decide)]
        rfl
  · rintro G' O' ⟨rfl, g4, g5, g6, rfl⟩
    rw [List.length_map, List.take_length]
    exact ss_one <| st_ret <| ev_ix <| ev_var 3 fun v => ev_int <| ix_T (xs := [.int (bestF ks ws g).1, lL (bestF ks ws g).2]) (i := 1) rfl <| rtk0 hk
/-! ### fewest_pipes, best_ranks, saved -/
/-- a def that asks need_build first: refused, or a result of good arguments -/
def R_ask (C : Addr) (res : Int → List Int → Int → D) : RO := fun ds B k xk => ∃ dk dw dg : D, ds = [.dat dk, .dat dw, .dat dg] ∧ B = [] ∧
  ((∃ nm, nbS dk dw dg = some nm ∧ xk C [(("name" : Str), .str nm)]) ∨ (∃ (ks : Int) (ws : List Int) (g : Int), dk = .int ks ∧ dw = iT ws ∧ dg = .int g ∧ nbS dk dw dg = none ∧ ws.length ≤ 4 ∧ k (.dat (res ks ws g)) [] []))
theorem nb_none {ks g : Int} {ws : List Int} (h : nbS (.int ks) (iT ws) (.int g) = none) : (1 ≤ ks ∧ ks ≤ 100) ∧ (0 ≤ g ∧ g ≤ 100) := by
  unfold nbS at h
  by_cases e1 : okI (.int ks) 1 100 = true
  · rw [if_pos e1] at h
    by_cases e2 : awS (iT ws) = true
    · rw [if_pos e2] at h
      by_cases e3 : okI (.int g) 0 100 = true
      · obtain ⟨n, hn, a, b⟩ := okI_int e1
        obtain ⟨m, hm, a', b'⟩ := okI_int e3
        cases hn
        cases hm
        exact ⟨⟨a, b⟩, ⟨a', b'⟩⟩
      · rw [if_neg e3] at h; cases h
    · rw [if_neg e2] at h; cases h
  · rw [if_neg e1] at h; cases h
theorem sc_few : FnScope ["keys", "wishes", "gap"] ["keys", "wishes", "gap"] (defScope (top 16)) := ⟨rfl, rfl, rfl, by decide +kernel, rfl, by decide +kernel, by decide +kernel⟩
theorem sc_rnk : FnScope ["keys", "wishes", "gap"] ["keys", "wishes", "gap"] (defScope (top 18)) := ⟨rfl, rfl, rfl, by decide +kernel, rfl, by decide +kernel, by decide +kernel⟩
theorem sc_sav : FnScope ["keys", "wishes", "gap"] ["keys", "wishes", "gap"] (defScope (top 19)) := ⟨rfl, rfl, rfl, by decide +kernel, rfl, by decide +kernel, by decide +kernel⟩
theorem ok_few {f : Addr} {fd : FuncData} (F : Fun K "fewest_pipes" "fewest_pipes" (top 16) f fd) (c1 : CalO PG w K mg base T 4 "need_build" (R_need C) []) (c2 : CalO PG w K mg base T 5 "best_lots" R_best []) (c3 : CalO PG w K mg base T 3 "cost_of" R_cost []) :
    FnOk PG w K mg base (L2.CX PG w) 6 f fd ["keys", "wishes", "gap"] (spO K T (R_ask C fun ks ws g => .int (costF ks ws (bestF ks ws g).2))) := by
  refine okO F sc_few (fun ds B k xk h => by obtain ⟨dk, dw, dg, rfl, _⟩ := h; rfl) fun cdv A outer s H E M ds B k xk hr lt h => ?_
  obtain ⟨dk, dw, dg, rfl, rfl, h⟩ := h
  refine ss_cons <| st_expr <| ev_call c1 hr (by decide) lt <| ea_cons <| ev_var 0 fun v => ea_cons <| ev_var 1 fun v => ea1 <| ev_var 2 <| callP ⟨dk, dw, dg, rfl, rfl, fun e => ?_, fun nm e => ?_⟩
  · rcases h with ⟨nm, e', _⟩ | ⟨ks, ws, g, rfl, rfl, rfl, _, hn, hk⟩
    · rw [e] at e'; cases e'
    · obtain ⟨⟨h1, h2⟩, _⟩ := nb_none e
      have hf := bestF_fit (ks := ks) (g := g) hn
      exact ⟨rfl, rfl, ss_one <| st_ret <| ev_call c3 hr (by decide) let0 <| ea_cons <| ev_var 0 fun v => ea_cons <| ev_var 1 fun v => ea1 <| ev_call c2 hr (by decide) let0 <| ea_cons <| ev_var 0 fun v => ea_cons <| ev_var 1 fun v => ea1 <| ev_var 2 <| callP ⟨ks, ws, g, rfl, rfl, h1, h2, hn, rfl, rfl, callP ⟨ks, ws, _, rfl, rfl, hf.1, hf.2, rfl, rfl, rtk0 hk⟩⟩⟩
  · rcases h with ⟨nm', e', hx⟩ | ⟨ks, ws, g, rfl, rfl, rfl, e', _⟩
    · rw [e] at e'; cases e'
      exact hx
    · rw [e] at e'; cases e'
theorem ok_rnk {f : Addr} {fd : FuncData} (F : Fun K "best_ranks" "best_ranks" (top 18) f fd) (Tp : Top K mg) (c1 : CalO PG w K mg base T 4 "need_build" (R_need C) []) (c2 : CalO PG w K mg base T 5 "best_lots" R_best []) :
    FnOk PG w K mg base (L2.CX PG w) 6 f fd ["keys", "wishes", "gap"] (spO K T (R_ask C fun ks ws g => .tuple ((bestF ks ws g).2.map iT))) := by
  refine okO F sc_rnk (fun ds B k xk h => by obtain ⟨dk, dw, dg, rfl, _⟩ := h; rfl) fun cdv A outer s H E M ds B k xk hr lt h => ?_
  obtain ⟨dk, dw, dg, rfl, rfl, h⟩ := h
  refine ss_cons <| st_expr <| ev_call c1 hr (by decide) lt <| ea_cons <| ev_var 0 fun v => ea_cons <| ev_var 1 fun v => ea1 <| ev_var 2 <| callP ⟨dk, dw, dg, rfl, rfl, fun e => ?_, fun nm e => ?_⟩
  · rcases h with ⟨nm, e', _⟩ | ⟨ks, ws, g, rfl, rfl, rfl, _, hn, hk⟩
    · rw [e] at e'; cases e'
    · obtain ⟨⟨h1, h2⟩, _⟩ := nb_none e
      exact ⟨rfl, rfl, ss_one <| st_ret <| ev_tupleC Tp.tuple <| ea1 <| ev_call c2 hr (by decide) let0 <| ea_cons <| ev_var 0 fun v => ea_cons <| ev_var 1 fun v => ea1 <| ev_var 2 <| callP ⟨ks, ws, g, rfl, rfl, h1, h2, hn, rfl, rfl, okc_tupleL <| rtk0 hk⟩⟩
  · rcases h with ⟨nm', e', hx⟩ | ⟨ks, ws, g, rfl, rfl, rfl, e', _⟩
    · rw [e] at e'; cases e'
      exact hx
    · rw [e] at e'; cases e'
theorem ok_sav {f : Addr} {fd : FuncData} (F : Fun K "saved" "saved" (top 19) f fd) (Tp : Top K mg) (c1 : CalO PG w K mg base T 4 "need_build" (R_need C) []) (c2 : CalO PG w K mg base T 5 "best_lots" R_best []) (c3 : CalO PG w K mg base T 3 "cost_of" R_cost []) :
    FnOk PG w K mg base (L2.CX PG w) 6 f fd ["keys", "wishes", "gap"] (spO K T (R_ask C fun ks ws g => .int (ks * (ws.length : Int) - costF ks ws (bestF ks ws g).2))) := by
  refine okO F sc_sav (fun ds B k xk h => by obtain ⟨dk, dw, dg, rfl, _⟩ := h; rfl) fun cdv A outer s H E M ds B k xk hr lt h => ?_
  obtain ⟨dk, dw, dg, rfl, rfl, h⟩ := h
  refine ss_cons <| st_expr <| ev_call c1 hr (by decide) lt <| ea_cons <| ev_var 0 fun v => ea_cons <| ev_var 1 fun v => ea1 <| ev_var 2 <| callP ⟨dk, dw, dg, rfl, rfl, fun e => ?_, fun nm e => ?_⟩
  · rcases h with ⟨nm, e', _⟩ | ⟨ks, ws, g, rfl, rfl, rfl, _, hn, hk⟩
    · rw [e] at e'; cases e'
    · obtain ⟨⟨h1, h2⟩, _⟩ := nb_none e
      have hf := bestF_fit (ks := ks) (g := g) hn
      have hlm : (ws.map PyData.int).length = ws.length := List.length_map ..
      have hmul : CMul ks ((ws.map PyData.int).length : Int) := cmul_small (by omega) (by omega)
      refine ⟨rfl, rfl, ss_one <| st_ret <| ev_bin <| ev_bin <| ev_var 0 fun v => ev_len Tp.len <| ea1 <| ev_var 1 <| len_T <| ok_mul (fun v => ev_call c3 hr (by decide) let0 <| ea_cons <| ev_var 0 fun v => ea_cons <| ev_var 1 fun v => ea1 <| ev_call c2 hr (by decide) let0 <| ea_cons <| ev_var 0 fun v => ea_cons <| ev_var 1 fun v => ea1 <| ev_var 2 <| callP ⟨ks, ws, g, rfl, rfl, h1, h2, hn, rfl, rfl, callP ⟨ks, ws, _, rfl, rfl, hf.1, hf.2, rfl, rfl, ok_sub <| rtk0 ?_⟩⟩) hmul⟩
      rw [hlm]
      exact hk
  · rcases h with ⟨nm', e', hx⟩ | ⟨ks, ws, g, rfl, rfl, rfl, e', _⟩
    · rw [e] at e'; cases e'
      exact hx
    · rw [e] at e'; cases e'
end
end K5

set_option Elab.async false
set_option linter.all false
set_option maxRecDepth 100000
set_option maxHeartbeats 2000000
namespace K5
open PySem PySem.Spec PyProof.Rows L2 OR
abbrev P2 := Int × Int
def pLt (p q : P2) : Bool := if p.1 = q.1 then decide (p.2 < q.2) else decide (p.1 < q.1)
def dP (p : P2) : D := .tuple [.int p.1, .int p.2]
theorem dP_lt (p q : P2) : PySem.W.dataLt (dP p) (dP q) = pLt p q := PySem.W.DatumOrd.lt_eq (α := Int × Int) p q
theorem dP_alike (p q : P2) : PySem.W.alike (dP p) (dP q) = true := PySem.W.DatumOrd.alike (α := Int × Int) p q
def fewStep (ks : Int) (ws : List Int) (g : Int) (b : Option P2) (row : List Int) : Option P2 :=
  if okLots ws g (lotsF row) = true then (match b with
    | none => some (((lotsF row).length : Int), costF ks ws (lotsF row))
    | some p => if pLt (((lotsF row).length : Int), costF ks ws (lotsF row)) p = true then some (((lotsF row).length : Int), costF ks ws (lotsF row)) else some p) else b
def fewF (ks : Int) (ws : List Int) (g : Int) : Option P2 := (sharesF ws.length).foldl (fewStep ks ws g) none
def oP : Option P2 → D
  | none => .none
  | some p => dP p
def gapStep (ks : Int) (ws : List Int) (pi : Int) (b : Option Int) (g : Nat) : Option Int := if costF ks ws (bestF ks ws (g : Int)).2 ≤ pi then some (g : Int) else b
def gapF (ks : Int) (ws : List Int) (pi : Int) : Option Int := (List.range 101).foldl (gapStep ks ws pi) none
def oI : Option Int → D
  | none => .none
  | some n => .int n
section
variable {w : World} {K : PySem.W.Frag} {mg : Str → Option Value} {base : Heap} {T : List (Addr × Str)} {C fI : Addr}
/-! ### fewest_ranks -/
theorem sc_fwr : FnScope ["keys", "wishes", "gap", "best", "row", "lots", "told", "lot"] ["keys", "wishes", "gap"] (defScope (top 20)) := ⟨rfl, rfl, rfl, by decide +kernel, rfl, by decide +kernel, by decide +kernel⟩
theorem ok_fwr {f : Addr} {fd : FuncData} (F : Fun K "fewest_ranks" "fewest_ranks" (top 20) f fd) (Tp : Top K mg) (c0' : CalO PG w K mg base T 4 "need_build" (R_need C) []) (c1 : CalO PG w K mg base T 2 "all_shares" R_shares []) (c2 : CalO PG w K mg base T 2 "lots_of" R_lots [])
    (c3 : CalO PG w K mg base T 2 "can_share" R_can []) (c4 : CalO PG w K mg base T 3 "cost_of" R_cost []) : FnOk PG w K mg base (L2.CX PG w) 5 f fd ["keys", "wishes", "gap"] (spO K T (R_ask C fun ks ws g => oP (fewF ks ws g))) := by
  refine okO F sc_fwr (fun ds B k xk h => by obtain ⟨dk, _, _, rfl, _⟩ := h; rfl) fun cdv A outer s H E M ds B k xk hr lt h => ?_
  obtain ⟨dk, dw, dg, rfl, rfl, h⟩ := h
  refine ss_cons <| st_expr <| ev_call c0' hr (by decide) lt <| ea_cons <| ev_var 0 fun v => ea_cons <| ev_var 1 fun v => ea1 <| ev_var 2 <| callP ⟨dk, dw, dg, rfl, rfl, fun e => ⟨rfl, rfl, ?_⟩, fun nm e => ?_⟩
  · rcases h with ⟨nm, e', _⟩ | ⟨ks, ws, g, rfl, rfl, rfl, _, hn, hk⟩
    · rw [e] at e'; cases e'
    · have hlm : (ws.map PyData.int).length = ws.length := List.length_map ..
      refine ss_cons <| st_set 3 sc_fwr.nd <| ev_none ?_
      refine ss_cons <| st_forL 4 (fun i G O => O = [] ∧ ∃ g4 g5 g6, G = [some (.dat (.int ks)), some (.dat (iT ws)), some (.dat (.int g)), some (.dat (oP (((sharesF ws.length).take i).foldl (fewStep ks ws g) none))), g4, g5, g6, none]) (passes_of rfl) rfl sc_fwr.nd <| ev_call c1 hr (by decide) let0 <| ea1 <| ev_len Tp.len <| ea1 <| ev_var 1 <| len_T <| callP ⟨ws.length, by rw [hlm], rfl, hn, rfl, rfl, (sharesF ws.length).map iT, rfl, ⟨rfl, _, _, _, rfl⟩, ?_, ?_⟩
      · rintro q i dk G' O' hd ⟨rfl, g4, g5, g6, rfl⟩
        rw [List.getElem?_map] at hd
        obtain ⟨row, hm, rfl⟩ := Option.map_eq_some_iff.mp hd
        have hrow := shares_top _ hn row (List.mem_of_getElem? hm)
        have hfit := fit_lots hn (List.mem_of_getElem? hm)
        have et : ((sharesF ws.length).take (i + 1)).foldl (fewStep ks ws g) none = fewStep ks ws g (((sharesF ws.length).take i).foldl (fewStep ks ws g) none) row := by
          rw [take_next hm, List.foldl_append]; rfl
        generalize ((sharesF ws.length).take i).foldl (fewStep ks ws g) none = b at et ⊢
        have hll : ((lotsF row).map iT).length = (lotsF row).length := List.length_map ..
        refine ss_cons <| st_set 5 sc_fwr.nd <| ev_call c2 hr (by decide) let0 <| ea1 <| ev_var 4 <| callP ⟨row, rfl, rfl, hrow.1, by omega, by omega, rfl, rfl, ?_⟩
        refine ss_one <| st_if <| tv_val <| ev_allL Tp.all <| ea1 <| ev_frz <| ev_lcL 7 (fun m acc O => O = [] ∧ acc = (((lotsF row).take m).map fun ls => canF ws ls g).map PyData.bool) rfl sc_fwr.nd (blkOk_by (by kernel_rfl)) <| ev_var 5 ⟨(lotsF row).map iT, rfl, ⟨rfl, rfl⟩, ?_, ?_⟩
        · rintro q p m dk acc O2 hd ⟨rfl, rfl⟩
          rw [List.getElem?_map] at hd
          obtain ⟨ls, hls, rfl⟩ := Option.map_eq_some_iff.mp hd
          have hl := hfit.1 ls (List.mem_of_getElem? hls)
          refine turn0 fun s H0 C cl fp => ev_call c3 hr (by decide) let0 <| ea_cons <| ev_var 1 fun v => ea_cons <| ev_var 7 fun v => ea1 <| ev_var 2 <| callP ⟨ws, ls, g, rfl, rfl, hl.1, hl.2, rfl, rfl, _, rfl, ?_, rfl, ?_⟩
          · have := hfit.2
            rw [List.length_map, List.length_map, List.length_take]; omega
          · rw [take_next hls, List.map_append, List.map_append]; rfl
        · rintro p acc O2 ⟨rfl, rfl⟩
          rw [hll, List.take_length]
          refine frz <| okc_all rfl <| bk ?_
          rw [List.all_map]
          have hall : ((lotsF row).all (_root_.id ∘ fun ls => canF ws ls g)) = okLots ws g (lotsF row) := rfl
          rw [hall]
          refine ifb (fun e1 => ?_) fun e1 => ?_
          · refine ss_cons <| st_set 6 sc_fwr.nd <| ev_tup <| ea_cons <| ev_len Tp.len <| ea1 <| ev_var 5 <| len_L fun v => ea1 <| ev_call c4 hr (by decide) let0 <| ea_cons <| ev_var 0 fun v => ea_cons <| ev_var 1 fun v => ea1 <| ev_var 5 <| callP ⟨ks, ws, lotsF row, rfl, rfl, hfit.1, hfit.2, rfl, rfl, [_, _], rfl, by simp, ?_⟩
            rw [hll]
            refine ss_one <| st_if <| tv_w <| wv_or <| tv_cmp <| ev_var 3 fun v => ev_none <| ok_is <| bk ?_
            cases b with
            | none =>
              rw [if_pos rfl]
              refine ss_one <| st_set 3 sc_fwr.nd <| ev_var 6 ⟨rfl, some (.dat (iT row)), some (.dat (lL (lotsF row))), some (.dat (dP (((lotsF row).length : Int), costF ks ws (lotsF row)))), ?_⟩
              rw [et]
              unfold fewStep
              rw [if_pos e1]
              rfl
            | some p =>
              rw [if_neg (show ¬ isNone (oP (some p)) = true from by simp [oP, dP, isNone])]
              refine wv_or1 <| tv_cmp <| ev_var 6 fun v => ev_var 3 <| ok_ltD (e := dP p) (bk ?_) (dP_alike (((lotsF row).length : Int), costF ks ws (lotsF row)) p) (fun z => by cases z) hr.units (.inr (by show PyData.depth _ ≤ 60; simp [dP, PyData.depth, PyData.depthAll])) rfl
              rw [show PySem.W.dataLt _ (dP p) = pLt (((lotsF row).length : Int), costF ks ws (lotsF row)) p from dP_lt _ p]
              refine ifb (fun e2 => ?_) fun e2 => ?_
              · refine ss_one <| st_set 3 sc_fwr.nd <| ev_var 6 ⟨rfl, some (.dat (iT row)), some (.dat (lL (lotsF row))), some (.dat (dP (((lotsF row).length : Int), costF ks ws (lotsF row)))), ?_⟩
                rw [et]
                unfold fewStep
                rw [if_pos e1]
                dsimp only
                rw [if_pos e2]
                rfl
              · refine ss_nil ⟨rfl, some (.dat (iT row)), some (.dat (lL (lotsF row))), some (.dat (dP (((lotsF row).length : Int), costF ks ws (lotsF row)))), ?_⟩
                rw [et]
                unfold fewStep
                rw [if_pos e1]
                dsimp only
                rw [if_neg (by rw [e2]; decide)]
                rfl
          · refine ss_nil ⟨rfl, some (.dat (iT row)), some (.dat (lL (lotsF row))), g6, ?_⟩
            rw [et]
            unfold fewStep
            rw [if_neg (by rw [e1]; decide)]
            rfl
      · rintro G' O' ⟨rfl, g4, g5, g6, rfl⟩
        rw [List.length_map, List.take_length]
        exact ss_one <| st_ret <| ev_var 3 <| rtk0 hk
  · rcases h with ⟨nm', e', hx⟩ | ⟨ks, ws, g, rfl, rfl, rfl, e', _⟩
    · rw [e] at e'; cases e'
      exact hx
    · rw [e] at e'; cases e'
/-! ### greatest_gap -/
def ngS (dk dw dp : D) : Option Str := if okI dk 1 100 = true then (if awS dw = true then (if okI dp 0 600 = true then none else some "pipes") else some "wishes") else some "keys"
def R_gap (C : Addr) : RO := fun ds B k xk => ∃ dk dw dp : D, ds = [.dat dk, .dat dw, .dat dp] ∧ B = [] ∧
  ((∃ nm, ngS dk dw dp = some nm ∧ xk C [(("name" : Str), .str nm)]) ∨ (∃ (ks : Int) (ws : List Int) (pi : Int), dk = .int ks ∧ dw = iT ws ∧ dp = .int pi ∧ ngS dk dw dp = none ∧ ws.length ≤ 4 ∧ k (.dat (oI (gapF ks ws pi))) [] []))
theorem sc_gap : FnScope ["keys", "wishes", "pipes", "found", "gap"] ["keys", "wishes", "pipes"] (defScope (top 21)) := ⟨rfl, rfl, rfl, by decide +kernel, rfl, by decide +kernel, by decide +kernel⟩
theorem ok_gap {f : Addr} {fd : FuncData} (F : Fun K "greatest_gap" "greatest_gap" (top 21) f fd) (Tp : Top K mg) (BT : PySem.OrX.BadTxt PG K mg C fI) (c1 : CalO PG w K mg base T 2 "need_integer" (R_needint C) []) (c2 : CalO PG w K mg base T 3 "are_wishes" R_wishes []) (c3 : CalO PG w K mg base T 5 "best_lots" R_best []) (c4 : CalO PG w K mg base T 3 "cost_of" R_cost []) :
    FnOk PG w K mg base (L2.CX PG w) 6 f fd ["keys", "wishes", "pipes"] (spO K T (R_gap C)) := by
  obtain ⟨t1, g1⟩ := Tp.keys
  obtain ⟨t2, g2⟩ := Tp.wishes
  refine okO F sc_gap (fun ds B k xk h => by obtain ⟨dk, _, _, rfl, _⟩ := h; rfl) fun cdv A outer s H E M ds B k xk hr lt h => ?_
  obtain ⟨dk, dw, dp, rfl, rfl, h⟩ := h
  have bad : ∀ nm, ngS dk dw dp = some nm → xk C [(("name" : Str), .str nm)] := fun nm e => by
    rcases h with ⟨nm', e', hx⟩ | ⟨ks, ws, g, rfl, rfl, rfl, e', _⟩
    · rw [e] at e'; cases e'; exact hx
    · rw [e] at e'; cases e'
  refine ss_cons <| st_expr <| ev_call c1 hr (by decide) lt <| ea_cons <| ev_var 0 fun v => ea_cons <| ev_str fun v => ea_cons <| ev_int fun v => ea1 <| ev_gint g1 <| callP ⟨dk, "keys", 1, 100, rfl, by decide, rfl, fun e1 => ⟨rfl, rfl, ?_⟩, fun e1 => bad "keys" (by simp [ngS, e1])⟩
  refine ss_cons <| st_if <| tv_not <| tv_val <| ev_call c2 hr (by decide) let0 <| ea1 <| ev_var 1 <| callP ⟨dw, rfl, rfl, rfl, rfl, bk <| ifb (fun e2 => ?_) fun e2 => ss_nil ?_⟩
  · refine ss_one <| st_bad rfl BT hr lt <| ev_str ⟨"wishes", rfl, by decide, bad "wishes" ?_⟩
    have e2 : awS dw = false := by simpa using e2
    simp [ngS, e1, e2]
  · have e2 : awS dw = true := by simpa using e2
    have hmul : CMul 100 6 := cmul_small (by omega) (by omega)
    refine ss_cons <| st_expr <| ev_call c1 hr (by decide) lt <| ea_cons <| ev_var 2 fun v => ea_cons <| ev_str fun v => ea_cons <| ev_int fun v => ea1 <| ev_bin <| ev_gint g1 fun v => ev_gint g2 <| ok_mul (callP ⟨dp, "pipes", 0, 600, rfl, by decide, rfl, fun e3 => ⟨rfl, rfl, ?_⟩, fun e3 => bad "pipes" (by simp [ngS, e1, e2, e3])⟩) hmul
    rcases h with ⟨nm', e', _⟩ | ⟨ks, ws, pi, rfl, rfl, rfl, _, hn, hk⟩
    · simp [ngS, e1, e2, e3] at e'
    · obtain ⟨z, hz, hk1, hk2⟩ := okI_int e1
      cases hz
      refine ss_cons <| st_set 3 sc_gap.nd <| ev_none ?_
      refine ss_cons <| st_forR1 4 (fun i G O => O = [] ∧ ∃ g4, G = [some (.dat (.int ks)), some (.dat (iT ws)), some (.dat (.int pi)), some (.dat (oI ((List.range i).foldl (gapStep ks ws pi) none))), g4]) (passes_of rfl) rfl sc_gap.nd Tp.range <| ea1 <| ev_bin <| ev_gint g1 fun v => ev_int <| ok_add ⟨101, rfl, by decide, by decide, ⟨rfl, _, rfl⟩, ?_, ?_⟩
      · rintro i G' O' hi ⟨rfl, g4, rfl⟩
        have et : (List.range (i + 1)).foldl (gapStep ks ws pi) none = gapStep ks ws pi ((List.range i).foldl (gapStep ks ws pi) none) i := by
          rw [List.range_succ, List.foldl_append]; rfl
        have hf := bestF_fit (ks := ks) (g := (i : Int)) hn
        refine ss_one <| st_if <| tv_cmp <| ev_call c4 hr (by decide) let0 (ea_cons <| ev_var 0 fun v => ea_cons <| ev_var 1 fun v => ea1 <| ev_call c3 hr (by decide) let0 <| ea_cons <| ev_var 0 fun v => ea_cons <| ev_var 1 fun v => ea1 <| ev_var 4 <| callP ⟨ks, ws, (i : Int), rfl, rfl, hk1, hk2, hn, rfl, rfl, callP ⟨ks, ws, _, rfl, rfl, hf.1, hf.2, rfl, rfl, fun v => ev_var 2 <| ok_le <| bk <| ifb (fun e4 => ?_) fun e4 => ?_⟩⟩)
        · refine ss_one <| st_set 3 sc_gap.nd <| ev_var 4 ⟨rfl, some (.dat (.int i)), ?_⟩
          rw [et]
          unfold gapStep
          rw [if_pos (by simpa using e4)]
          rfl
        · refine ss_nil ⟨rfl, some (.dat (.int i)), ?_⟩
          rw [et]
          unfold gapStep
          rw [if_neg (by simpa using e4)]
          rfl
      · rintro G' O' ⟨rfl, g4, rfl⟩
        exact ss_one <| st_ret <| ev_var 3 <| rtk0 hk
end
end K5

set_option Elab.async false
set_option linter.all false
set_option maxRecDepth 100000
set_option maxHeartbeats 2000000
namespace K5
open PySem PySem.Spec PyProof.Rows L2 OR
section
variable {w : World} {K : PySem.W.Frag} {mg : Str → Option Value} {base : Heap} {T : List (Addr × Str)} {C fI : Addr}
theorem cmul_small2 {i j : Int} (h0 : 0 ≤ i) (h1 : i ≤ 2000000) : CMul i j := .inl ⟨by omega, by omega⟩
theorem ev_undiceN {X : Cx} {c : Cc} {G : Gty} {O : Oty} {e : Expr} {k : SV → Oty → Prop} {n m : Nat} (h : EV X c e G O fun d O' => ∃ (p : Addr) (x y z : Int), O'[n]? = some (p, .lst [.int x, .int y, .int z]) ∧ (0 ≤ x ∧ 0 ≤ y ∧ y < 2147480009 ∧ 0 ≤ z ∧ z ≤ (m : Int)) ∧ k d (O'.set n (p, .dice m))) : EV X c e G O k := fun σ H Q s q => by
  refine h σ H Q s fun v d O' H' ⟨p, x, y, z, hO, hx, hk⟩ hs => q v d _ H' hk ?_
  exact S.undice (c := c.pin v d) hO hx hs
/-! ### _law_roll -/
def R_roll : RO := fun ds B k xk => ∃ (p : Addr) (many : Int) (n : Nat), ds = [.val (.ref p), .dat (.int many)] ∧ B = [(p, .dice n)] ∧ 0 < many ∧ many ≤ 1000000 ∧ n ≤ 1000000 ∧ ∀ r : Int, 0 ≤ r → r < many → k (.dat (.int r)) [(p, .dice (n + 1))] []
theorem sc_roll : FnScope ["dice", "many", "found"] ["dice", "many"] (defScope (top 24)) := ⟨rfl, rfl, rfl, by decide +kernel, rfl, by decide +kernel, by decide +kernel⟩
theorem ok_roll {f : Addr} {fd : FuncData} (F : Fun K "_law_roll" "_law_roll" (top 24) f fd) (Tp : Top K mg) : FnOk PG w K mg base (L2.CX PG w) 1 f fd ["dice", "many"] (spO K T R_roll) := by
  refine okO F sc_roll (fun ds B k xk h => by obtain ⟨p, m, n, rfl, _⟩ := h; rfl) fun cdv A outer s H E M ds B k xk hr lt h => ?_
  obtain ⟨p, m, n, rfl, rfl, hm0, hm1, hn, hk⟩ := h
  refine ss_dice (n := 0) rfl fun x y z hx => ?_
  refine ss_cons <| st_if <| tv_cmp <| ev_ix <| ev_var 0 fun v => ev_int <| ix_O (n := 0) (xs := [.int x, .int y, .int z]) rfl rfl fun v => ev_int <| ok_gt <| bk <| ifb (fun e1 => ?_) fun e1 => ss_nil ?_
  · refine ss_cons <| st_set 2 sc_roll.nd <| ev_bin <| ev_intC Tp.int <| ea1 <| ev_ix <| ev_var 0 fun v => ev_int <| ix_O (n := 0) (xs := [.int x, .int y, .int z]) rfl rfl <| okc_int fun v => ev_var 1 <| ok_mod ?_ hm0
    refine ss_cons <| st_setI <| ev_bin <| ev_ix <| ev_var 0 fun v => ev_int <| ix_O (n := 0) (xs := [.int x, .int y, .int z]) rfl rfl fun v => ev_var 1 <| ok_fdiv ⟨.int (x / m), rfl, fun v1 => ev_var 0 fun v2 => ev_int ⟨0, p, [.int x, .int y, .int z], 0, 0, rfl, rfl, rfl, rfl, ?_⟩⟩ ⟨hm0, by omega⟩
    refine ss_one <| st_ret <| ev_undice (n := 0) (p := p) (m := n + 1) <| ev_var 2 ⟨x / m, y, z, rfl, ?_, rtk1 (hk _ (Int.emod_nonneg _ (by omega)) (Int.emod_lt_of_pos _ hm0)) rfl⟩
    exact ⟨Int.ediv_nonneg hx.1 (by omega), hx.2.1, hx.2.2.1, hx.2.2.2.1, by omega⟩
  · have hz : CMul (z + 1) (z + 1) := cmul_small2 (by omega) (by omega)
    have hz2 : CMul ((z + 1) * (z + 1)) 1009 := .inr ⟨by decide, by decide⟩
    have hy : CMul y 52501 := .inr ⟨by decide, by decide⟩
    refine ss_cons <| st_setI <| ev_bin <| ev_ix <| ev_var 0 fun v => ev_int <| ix_O (n := 0) (xs := [.int x, .int y, .int z]) rfl rfl fun v => ev_int <| ok_add ⟨.int (z + 1), rfl, fun v1 => ev_var 0 fun v2 => ev_int ⟨0, p, [.int x, .int y, .int z], 2, 2, rfl, rfl, rfl, rfl, ?_⟩⟩
    refine ss_cons <| st_setI <| ev_bin <| ev_intC Tp.int <| ea1 <| ev_bin <| ev_bin <| ev_bin <| ev_ix <| ev_var 0 fun v => ev_int <| ix_O (n := 0) (xs := [.int x, .int y, .int (z + 1)]) rfl rfl fun v => ev_int <| ok_mul (fun v => ev_bin <| ev_bin <| ev_ix <| ev_var 0 fun v => ev_int <| ix_O (n := 0) (xs := [.int x, .int y, .int (z + 1)]) rfl rfl fun v => ev_ix <| ev_var 0 fun v => ev_int <| ix_O (n := 0) (xs := [.int x, .int y, .int (z + 1)]) rfl rfl <| ok_mul (fun v => ev_int <| ok_mul (ok_add fun v => ev_int <| ok_add <| okc_int fun v => ev_int <| ok_mod ⟨_, rfl, fun v1 => ev_var 0 fun v2 => ev_int ⟨0, p, [.int x, .int y, .int (z + 1)], 1, 1, rfl, rfl, rfl, rfl, ?_⟩⟩ (by decide)) hz2) hz) hy
    have hm : 0 ≤ (y * 52501 + (z + 1) * (z + 1) * 1009 + 77) % 2147480009 ∧ (y * 52501 + (z + 1) * (z + 1) * 1009 + 77) % 2147480009 < 2147480009 := ⟨Int.emod_nonneg _ (by decide), Int.emod_lt_of_pos _ (by decide)⟩
    generalize hq : (y * 52501 + (z + 1) * (z + 1) * 1009 + 77) % 2147480009 = q at hm ⊢
    refine ss_one <| st_ret <| ev_undice (n := 0) (p := p) (m := n + 1) <| ev_bin <| ev_intC Tp.int <| ea1 <| ev_bin <| ev_ix <| ev_var 0 fun v => ev_int <| ix_O (n := 0) (xs := [.int x, .int q, .int (z + 1)]) rfl rfl fun v => ev_int <| ok_fdiv (okc_int fun v => ev_var 1 <| ok_mod ⟨x, q, z + 1, rfl, ⟨hx.1, hm.1, hm.2, by omega, by omega⟩, rtk1 (hk _ (Int.emod_nonneg _ (by omega)) (Int.emod_lt_of_pos _ hm0)) rfl⟩ hm0) (by decide)
/-! ### _law_pick -/
def R_pick : RO := fun ds B k xk => ∃ (p : Addr) (xs : List D) (n : Nat), ds = [.val (.ref p), .dat (.list xs)] ∧ B = [(p, .dice n)] ∧ 0 < xs.length ∧ xs.length ≤ 1000 ∧ n ≤ 1000000 ∧ ∀ d ∈ xs, k (.dat d) [(p, .dice (n + 1))] []
theorem sc_pick : FnScope ["dice", "things"] ["dice", "things"] (defScope (top 25)) := ⟨rfl, rfl, rfl, by decide +kernel, rfl, by decide +kernel, by decide +kernel⟩
theorem ok_pick {f : Addr} {fd : FuncData} (F : Fun K "_law_pick" "_law_pick" (top 25) f fd) (Tp : Top K mg) (c1 : CalO PG w K mg base T 1 "_law_roll" R_roll []) : FnOk PG w K mg base (L2.CX PG w) 2 f fd ["dice", "things"] (spO K T R_pick) := by
  refine okO F sc_pick (fun ds B k xk h => by obtain ⟨p, m, n, rfl, _⟩ := h; rfl) fun cdv A outer s H E M ds B k xk hr lt h => ?_
  obtain ⟨p, xs, n, rfl, rfl, h0, h1, hn, hk⟩ := h
  refine ss_one <| st_ret <| ev_ix <| ev_var 1 fun v => ev_call c1 hr (Nat.le_refl _) let0 <| ea_cons <| ev_var 0 fun v => ea1 <| ev_len Tp.len <| ea1 <| ev_var 1 <| len_L ⟨[], [(p, .dice n)], [], fun d B' N => ∃ r : Int, d = .dat (.int r) ∧ 0 ≤ r ∧ r < xs.length ∧ B' = [(p, .dice (n + 1))] ∧ N = [], fun _ _ => False, rfl, ⟨p, xs.length, n, rfl, rfl, by omega, by omega, hn, fun r a b => ⟨r, rfl, a, b, rfl, rfl⟩⟩, ?_, fun _ _ z => z.elim⟩
  rintro d B' N ⟨r, rfl, a, b, rfl, rfl⟩ _
  have hlt : r.toNat < xs.length := by omega
  exact ix_L (atI_of a (List.getElem?_eq_getElem hlt)) (rtk1 (hk _ (List.getElem_mem hlt)) rfl)
/-! ### _law_dice -/
def R_ldice : RO := fun ds B k xk => ∃ (script : List Int) (spot : Int), ds = [.dat (iL script), .dat (.int spot)] ∧ B = [] ∧ 0 ≤ spot ∧ spot ≤ 100 ∧ script.length ≤ 1000 ∧ ∀ p, k (.val (.ref p)) [] [(p, .dice 0)]
theorem sc_ldice : FnScope ["script", "spot", "own", "mixed", "cell"] ["script", "spot"] (defScope (top 23)) := ⟨rfl, rfl, rfl, by decide +kernel, rfl, by decide +kernel, by decide +kernel⟩
theorem ok_ldice {f : Addr} {fd : FuncData} (F : Fun K "_law_dice" "_law_dice" (top 23) f fd) (Tp : Top K mg) : FnOk PG w K mg base (L2.CX PG w) 1 f fd ["script", "spot"] (spO K T R_ldice) := by
  refine okO F sc_ldice (fun ds B k xk h => by obtain ⟨p, m, rfl, _⟩ := h; rfl) fun cdv A outer s H E M ds B k xk hr lt h => ?_
  obtain ⟨script, spot, rfl, rfl, h0, h1, hn, hk⟩ := h
  have hlm : (script.map PyData.int).length = script.length := List.length_map ..
  have hmul : ∀ i : Int, CMul 733 i := fun i => .inl ⟨by decide, by decide⟩
  have hmul2 : ∀ i : Int, CMul 7907 i := fun i => .inl ⟨by decide, by decide⟩
  have hmul3 : ∀ i : Int, CMul i 48271 := fun i => .inr ⟨by decide, by decide⟩
  have key : EV (bodyX PG w K mg base ["script", "spot", "own", "mixed", "cell"] "_law_dice" (top 23) f cdv A outer s H E) (c0 K T H M []) (match defBody (top 23) with | [.Assign _ e _, _, _, _] => e | _ => .Constant .none 0 ⟨0, 0, 0, 0⟩)
      [some (.dat (iL script)), some (.dat (.int spot)), none, none, none] [] fun d O' => (∃ o : Int, d = .dat (.int o)) ∧ O' = [] := by
    refine ev_if <| tv_cmp <| ev_var 1 fun v => ev_len Tp.len <| ea1 <| ev_var 0 <| len_L <| ok_lt <| bk <| ifb (fun e1 => ?_) fun e1 => ev_bin <| ev_bin <| ev_int fun v => ev_var 1 <| ok_mul (fun v => ev_int <| ok_add ⟨⟨_, rfl⟩, rfl⟩) (hmul _)
    have e1' : spot < script.length := by simpa using e1
    exact ev_ix <| ev_var 0 fun v => ev_var 1 <| ix_L (atIi h0 e1') ⟨⟨_, rfl⟩, rfl⟩
  refine ss_cons <| st_set 2 sc_ldice.nd <| key.mono fun d O1 ⟨⟨own, ed⟩, eO⟩ => ?_
  subst ed
  subst eO
  refine ss_cons <| st_set 3 sc_ldice.nd <| ev_bin <| ev_int fun v => ev_bin <| ev_int fun v => ev_var 1 <| ok_mul (ok_add ?_) (hmul2 _)
  refine ss_cons <| st_forL 4 (fun i G O => ∃ p1 p2 w1 w2 g4 m, G = [some (.dat (iL script)), some (.dat (.int spot)), some (.dat (.int own)), some (.dat (.int m)), g4] ∧ O = [(p1, .lst w1), (p2, .lst w2)] ∧ 0 ≤ m ∧ m < 2147480009) (passes_of rfl) rfl sc_ldice.nd <| ev_frz <| ev_bin <| ev_slLO (by decide) <| ev_var 0 ⟨script.map .int, rfl, fun p1 v => ev_lstO <| ea1 <| ev_var 2 ⟨[.int own], rfl, by simp, fun p2 => ok_catO (n := 0) (m := 1) rfl rfl ?_ fun p3 => ⟨p3, _, [(p1, .lst ((script.map .int).take 6)), (p2, .lst [.int own])], rfl, rfl, (script.take 6 ++ [own]).map .int, ?_, ⟨p1, p2, _, _, _, _, rfl, rfl, by omega, by omega⟩, ?_, ?_⟩⟩⟩
  · rw [List.length_take, hlm]; simp; omega
  · rw [List.map_append, List.map_take]; rfl
  · rintro q i dk G' O' hd ⟨p1, p2, w1, w2, g4, m, rfl, rfl, a, b⟩
    rw [List.getElem?_map] at hd
    obtain ⟨z, hz, rfl⟩ := Option.map_eq_some_iff.mp hd
    exact ss_one <| st_set 3 sc_ldice.nd <| ev_bin <| ev_intC Tp.int <| ea1 <| ev_bin <| ev_bin <| ev_var 3 fun v => ev_int <| ok_mul (fun v => ev_bin <| ev_intC Tp.int <| ea1 <| ev_var 4 <| okc_int fun v => ev_int <| ok_mod (ok_add <| okc_int fun v => ev_int <| ok_mod ⟨p1, p2, w1, w2, _, _, rfl, rfl, Int.emod_nonneg _ (by decide), Int.emod_lt_of_pos _ (by decide)⟩ (by decide)) (by decide)) (hmul3 _)
  · rintro G' O' ⟨p1, p2, w1, w2, g4, m, rfl, rfl, a, b⟩
    have hpow : CPow 10 16 := by unfold CPow; decide
    have key2 : EV (bodyX PG w K mg base ["script", "spot", "own", "mixed", "cell"] "_law_dice" (top 23) f cdv A outer s H E) (c0 K T H M []) (match defBody (top 23) with | [_, _, _, .Return (some (.List (e :: _) _)) _] => e | _ => .Constant .none 0 ⟨0, 0, 0, 0⟩)
        [some (.dat (iL script)), some (.dat (.int spot)), some (.dat (.int own)), some (.dat (.int m)), g4] [(p1, .lst w1), (p2, .lst w2)] fun d O' => (∃ o : Int, 0 ≤ o ∧ d = .dat (.int o)) ∧ O' = [(p1, .lst w1), (p2, .lst w2)] := by
      have ab : EV (bodyX PG w K mg base ["script", "spot", "own", "mixed", "cell"] "_law_dice" (top 23) f cdv A outer s H E) (c0 K T H M []) (match defBody (top 23) with | [_, _, _, .Return (some (.List (.IfExp _ e _ _ :: _) _)) _] => e | _ => .Constant .none 0 ⟨0, 0, 0, 0⟩)
          [some (.dat (iL script)), some (.dat (.int spot)), some (.dat (.int own)), some (.dat (.int m)), g4] [(p1, .lst w1), (p2, .lst w2)] fun d O' => (∃ o : Int, 0 ≤ o ∧ d = .dat (.int o)) ∧ O' = [(p1, .lst w1), (p2, .lst w2)] := by
        refine ev_abs Tp.abs <| ea1 <| ev_var 2 <| okc_abs ⟨⟨_, ?_, rfl⟩, rfl⟩
        split <;> omega
      refine ev_if <| tv_w <| wv_or <| tv_cmp <| ev_var 2 fun v => ev_int <| ok_lt <| bk <| ifb (fun e1 => ?_) fun e1 => wv_or1 <| tv_cmp <| ev_var 2 fun v => ev_bin <| ev_int fun v => ev_int <| ok_pow (ok_ge <| bk <| ifb (fun e2 => ?_) fun e2 => ev_int ⟨⟨0, by decide, rfl⟩, rfl⟩) hpow
      · exact ab
      · exact ab
    refine ss_one <| st_ret <| ev_drop 0 <| ev_drop 0 <| ev_undiceN (n := 2) (m := 0) <| ev_lstO <| ea_cons <| key2.mono fun d O1 ⟨⟨o, ho, ed⟩, eO⟩ v => ?_
    subst ed
    subst eO
    refine ea_cons <| ev_var 3 fun v => ea1 <| ev_int ⟨[.int o, .int m, .int 0], rfl, by simp, fun p => ⟨p, o, m, 0, rfl, ⟨ho, a, b, by decide, by decide⟩, [], [(p, .dice 0)], rfl, rfl, hk p⟩⟩
end
end K5

set_option Elab.async false
set_option linter.all false
set_option maxRecDepth 100000
set_option maxHeartbeats 2000000
namespace K5
open PySem PySem.Spec PyProof.Rows L2 OR
/-! ### the law's own way to count -/
def ins (ns : List Int) (m : Int) : List Int := if m ∈ ns then ns else ns ++ [m]
def placeOne (ks : Int) (ws : List Int) (ns : List Int) (z : Int) : List Int := (List.range ks.toNat).foldl (fun ns (key : Nat) => ins ns (wAt ws z + (key : Int))) ns
def placesF (ks : Int) (ws : List Int) (lot : List Int) : List Int := lot.foldl (placeOne ks ws) []
def countF (ks : Int) (ws : List Int) (lots : List (List Int)) : Int := lots.foldl (fun n lot => n + ((placesF ks ws lot).length : Int)) 0
theorem ins_len (ns : List Int) (m : Int) : (ins ns m).length ≤ ns.length + 1 := by
  unfold ins
  split
  · omega
  · simp
theorem insN_len (f : Nat → Int) : ∀ (j : Nat) (ns : List Int), ((List.range j).foldl (fun ns key => ins ns (f key)) ns).length ≤ ns.length + j
  | 0, ns => by simp
  | j + 1, ns => by
    rw [List.range_succ, List.foldl_append]
    have h1 := insN_len f j ns
    have h2 := ins_len ((List.range j).foldl (fun ns key => ins ns (f key)) ns) (f j)
    simp only [List.foldl_cons, List.foldl_nil]
    omega
theorem place_len (ks : Int) (ws : List Int) : ∀ (lot : List Int) (ns : List Int), (lot.foldl (placeOne ks ws) ns).length ≤ ns.length + lot.length * ks.toNat
  | [], ns => by simp
  | z :: lot, ns => by
    have h1 := place_len ks ws lot (placeOne ks ws ns z)
    have h2 : (placeOne ks ws ns z).length ≤ ns.length + ks.toNat := insN_len (fun key => wAt ws z + (key : Int)) ks.toNat ns
    rw [List.foldl_cons, List.length_cons, Nat.succ_mul]
    omega
section
variable {w : World} {K : PySem.W.Frag} {mg : Str → Option Value} {base : Heap} {T : List (Addr × Str)} {C fI : Addr}
/-! ### _law_pipes -/
def R_lpipes : RO := fun ds B k xk => ∃ (ks : Int) (ws : List Int) (lots : List (List Int)), ds = [.dat (.int ks), .dat (iT ws), .dat (.tuple (lots.map iT))] ∧ B = [] ∧ 0 ≤ ks ∧ ks ≤ 100 ∧ (∀ ls ∈ lots, (∀ z ∈ ls, 0 ≤ z ∧ z < ws.length) ∧ ls.length ≤ 10) ∧ k (.dat (.int (countF ks ws lots))) [] []
theorem sc_lpipes : FnScope ["keys", "wishes", "lots", "count", "lot", "places", "at", "key"] ["keys", "wishes", "lots"] (defScope (top 28)) := ⟨rfl, rfl, rfl, by decide +kernel, rfl, by decide +kernel, by decide +kernel⟩
theorem ok_lpipes {f : Addr} {fd : FuncData} (F : Fun K "_law_pipes" "_law_pipes" (top 28) f fd) (Tp : Top K mg) : FnOk PG w K mg base (L2.CX PG w) 1 f fd ["keys", "wishes", "lots"] (spO K T R_lpipes) := by
  refine okO F sc_lpipes (fun ds B k xk h => by obtain ⟨p, m, n, rfl, _⟩ := h; rfl) fun cdv A outer s H E M ds B k xk hr lt h => ?_
  obtain ⟨ks, ws, lots, rfl, rfl, h0, h1, hl, hk⟩ := h
  refine ss_cons <| st_set 3 sc_lpipes.nd <| ev_int ?_
  refine ss_cons <| st_forT 4 (fun i G O => O = [] ∧ ∃ g4 g5 g6 g7, G = [some (.dat (.int ks)), some (.dat (iT ws)), some (.dat (.tuple (lots.map iT))), some (.dat (.int (countF ks ws (lots.take i)))), g4, g5, g6, g7]) (passes_of rfl) rfl sc_lpipes.nd <| ev_var 2 ⟨lots.map iT, rfl, ⟨rfl, _, _, _, _, rfl⟩, ?_, ?_⟩
  · rintro q i dk G' O' hd ⟨rfl, g4, g5, g6, g7, rfl⟩
    rw [List.getElem?_map] at hd
    obtain ⟨lot, hm, rfl⟩ := Option.map_eq_some_iff.mp hd
    have hlot := hl lot (List.mem_of_getElem? hm)
    refine ss_cons <| st_set 5 sc_lpipes.nd <| ev_dnew fun pd => ?_
    refine ss_cons <| st_forT 6 (fun a G O => O = [(pd, dKs ((lot.take a).foldl (placeOne ks ws) []))] ∧ ∃ g6 g7, G = [some (.dat (.int ks)), some (.dat (iT ws)), some (.dat (.tuple (lots.map iT))), some (.dat (.int (countF ks ws (lots.take i)))), some (.dat (iT lot)), some (.val (.ref pd)), g6, g7]) (passes_of rfl) rfl sc_lpipes.nd <| ev_var 4 ⟨lot.map .int, rfl, ⟨rfl, _, _, rfl⟩, ?_, ?_⟩
    · rintro q a dz G' O' hd ⟨rfl, g6, g7, rfl⟩
      rw [List.getElem?_map] at hd
      obtain ⟨z, hz, rfl⟩ := Option.map_eq_some_iff.mp hd
      have hzr := hlot.1 z (List.mem_of_getElem? hz)
      have a1 := atIi (ls := ws) hzr.1 hzr.2
      have hlen := place_len ks ws (lot.take a) []
      have hlen2 : (lot.take a).length ≤ 10 := by rw [List.length_take]; omega
      have hlen3 : (lot.take a).length * ks.toNat ≤ 10 * 100 := Nat.mul_le_mul hlen2 (by omega)
      generalize hns : (lot.take a).foldl (placeOne ks ws) [] = ns at hlen
      refine ss_one <| st_forR1 7 (fun j G O => O = [(pd, dKs ((List.range j).foldl (fun ns (key : Nat) => ins ns (wAt ws z + (key : Int))) ns))] ∧ ∃ g7, G = [some (.dat (.int ks)), some (.dat (iT ws)), some (.dat (.tuple (lots.map iT))), some (.dat (.int (countF ks ws (lots.take i)))), some (.dat (iT lot)), some (.val (.ref pd)), some (.dat (.int z)), g7]) (passes_of rfl) rfl sc_lpipes.nd Tp.range <| ea1 <| ev_var 0 ⟨ks, rfl, by omega, by omega, ⟨by rw [← hns]; rfl, g7, rfl⟩, ?_, ?_⟩
      · rintro j G' O' hj ⟨rfl, g7, rfl⟩
        have hl2 := insN_len (fun key => wAt ws z + (key : Int)) j ns
        refine ss_one <| st_dput (by have := hr.units; omega) <| ev_bool ⟨rfl, ev_var 5 fun v2 => ev_bin <| ev_ix <| ev_var 1 fun v => ev_var 6 <| ix_T a1 fun v => ev_var 7 <| ok_add ⟨0, pd, _, _, rfl, rfl, rfl, ?_, ?_⟩⟩
        · simp only [List.length_nil] at hlen
          omega
        · refine ⟨?_, some (.dat (.int j)), rfl⟩
          rw [List.range_succ, List.foldl_append]
          rfl
      · rintro G' O' ⟨rfl, g7, rfl⟩
        refine ⟨?_, some (.dat (.int z)), g7, rfl⟩
        rw [take_next hz, List.foldl_append, hns]
        rfl
    · rintro G' O' ⟨rfl, g6, g7, rfl⟩
      rw [List.length_map, List.take_length]
      refine ss_one <| st_set 3 sc_lpipes.nd <| ev_drop 0 <| ev_bin <| ev_var 3 fun v => ev_len Tp.len <| ea1 <| ev_var 5 <| len_dK (n := 0) rfl <| ok_add ⟨rfl, some (.dat (iT lot)), some (.val (.ref pd)), g6, g7, ?_⟩
      rw [take_next hm]
      unfold countF
      rw [List.foldl_append]
      rfl
  · rintro G' O' ⟨rfl, g4, g5, g6, g7, rfl⟩
    rw [List.length_map, List.take_length]
    exact ss_one <| st_ret <| ev_var 3 <| rtk0 hk
/-! ### law -/
def R_right : RO := fun ds B k xk => ∃ (p : Addr), ds = [.val (.ref p)] ∧ B = [(p, .dice 0)] ∧ ∀ n, k (.dat (.bool true)) [(p, .dice n)] []
def R_law : RO := fun ds B k xk => ∃ (script : List Int), ds = [.dat (iL script)] ∧ B = [] ∧ script.length ≤ 1000 ∧ k (.dat (.bool true)) [] []
theorem sc_law : FnScope ["script", "spot"] ["script"] (defScope (top 30)) := ⟨rfl, rfl, rfl, by decide +kernel, rfl, by decide +kernel, by decide +kernel⟩
theorem ok_law {f : Addr} {fd : FuncData} {kr : Nat} (F : Fun K "law" "law" (top 30) f fd) (Tp : Top K mg) (c1 : CalO PG w K mg base T 1 "_law_dice" R_ldice []) (c2 : CalO PG w K mg base T (kr + 1) "_law_right" R_right []) : FnOk PG w K mg base (L2.CX PG w) (kr + 2) f fd ["script"] (spO K T R_law) := by
  refine okO F sc_law (fun ds B k xk h => by obtain ⟨p, rfl, _⟩ := h; rfl) fun cdv A outer s H E M ds B k xk hr lt h => ?_
  obtain ⟨script, rfl, rfl, h0, hk⟩ := h
  have hlm : (script.map PyData.int).length = script.length := List.length_map ..
  refine ss_cons <| st_forR1 1 (fun i G O => O = [] ∧ ∃ g1, G = [some (.dat (iL script)), g1]) (passes_of rfl) rfl sc_law.nd Tp.range <| ea1 <| ev_max Tp.max <| ea_cons <| ev_int fun v => ea1 <| ev_min Tp.min <| ea_cons <| ev_int fun v => ea1 <| ev_len Tp.len <| ea1 <| ev_var 0 <| len_L <| okc_min2 rfl <| okc_max2 rfl ?_
  rw [hlm]
  generalize hq : (if (script.length : Int) < 5 then (script.length : Int) else 5) = q
  have hq5 : q ≤ 5 ∧ 0 ≤ q := by rw [← hq]; split <;> omega
  generalize hn : (if q > 1 then q else 1) = n
  have hn5 : n ≤ 5 ∧ 1 ≤ n := by rw [← hn]; split <;> omega
  refine ⟨n, rfl, by omega, by omega, ⟨rfl, none, rfl⟩, ?_, ?_⟩
  · rintro i G' O' hi ⟨rfl, g1, rfl⟩
    refine ss_one <| st_if <| tv_not <| tv_val <| ev_drop 0 <| ev_call c2 hr (Nat.le_refl _) let0 <| ea1 <| ev_call c1 hr (by omega) let0 <| ea_cons <| ev_var 0 fun v => ea1 <| ev_var 1 ⟨[], [], [], fun d B' N => ∃ p, d = .val (.ref p) ∧ B' = [] ∧ N = [(p, .dice 0)], fun _ _ => False, rfl, ⟨script, i, rfl, rfl, by omega, by omega, h0, fun p => ⟨p, rfl, rfl, rfl⟩⟩, ?_, fun _ _ z => z.elim⟩
    rintro d B' N ⟨p, rfl, rfl, rfl⟩ _
    refine ⟨[], [(p, .dice 0)], [], fun d B' N => d = .dat (.bool true) ∧ (∃ n, B' = [(p, .dice n)]) ∧ N = [], fun _ _ => False, rfl, ⟨p, rfl, rfl, fun n => ⟨rfl, ⟨n, rfl⟩, rfl⟩⟩, ?_, fun _ _ z => z.elim⟩
    rintro d B' N ⟨rfl, ⟨n, rfl⟩, rfl⟩ _
    refine bk ?_
    exact ss_nil ⟨rfl, _, rfl⟩
  · rintro G' O' ⟨rfl, g1, rfl⟩
    exact ss_one <| st_ret <| ev_bool <| rtk0 hk
end
end K5

set_option Elab.async false
set_option linter.all false
set_option maxRecDepth 100000
set_option maxHeartbeats 4000000
namespace K5
open PySem PySem.Spec PyProof.Rows L2 OR
theorem shares_mem : ∀ n, n ≤ 4 → ∀ row ∈ sharesF n, (∀ z ∈ row, 0 ≤ z ∧ z < topI row) ∧ ∀ o : Nat, o < (topI row).toNat → (o : Int) ∈ row := by
  intro n hn
  have h1 : ∀ m : Fin 5, ∀ row ∈ sharesF m.1, (∀ z ∈ row, 0 ≤ z ∧ z < topI row) := by decide +kernel
  have h2 : ∀ m : Fin 5, ∀ row ∈ sharesF m.1, ∀ o ∈ List.range (topI row).toNat, (o : Int) ∈ row := by decide +kernel
  exact fun row hr => ⟨h1 ⟨n, by omega⟩ row hr, fun o ho => h2 ⟨n, by omega⟩ row hr o (List.mem_range.mpr ho)⟩
theorem card_top {n : Nat} (hn : n ≤ 4) {row : List Int} (h : row ∈ sharesF n) {L : List Int} (nd : L.Nodup) (hm : ∀ z, z ∈ L ↔ z ∈ row) : (L.length : Int) = topI row := by
  obtain ⟨h1, h2⟩ := shares_mem n hn row h
  have h0 := (shares_top n hn row h).1
  have nd2 : ((List.range (topI row).toNat).map fun (o : Nat) => (o : Int)).Nodup := by
    refine List.Pairwise.map _ (fun a b (h : a ≠ b) => ?_) List.nodup_range
    intro e
    exact h (by omega)
  have hp : L.Perm ((List.range (topI row).toNat).map fun (o : Nat) => (o : Int)) := by
    rw [List.perm_ext_iff_of_nodup nd nd2]
    intro z
    rw [hm z, List.mem_map]
    constructor
    · intro hz
      have := h1 z hz
      exact ⟨z.toNat, List.mem_range.mpr (by omega), by omega⟩
    · rintro ⟨o, ho, rfl⟩
      exact h2 o (List.mem_range.mp ho)
  have := hp.length_eq
  rw [List.length_map, List.length_range] at this
  omega
def nearB (ws : List Int) (g one other : Int) : Bool := decide (one < other) && decide (wAt ws other - wAt ws one < g)
def cntF (ws : List Int) (g : Int) (lot : List Int) (one : Int) : Int := ((lot.filter (nearB ws g one)).length : Int)
def closeLot (ws : List Int) (g : Int) (c : Int) (lot : List Int) : Int := lot.foldl (fun c one => c + cntF ws g lot one) c
def closeF (ws : List Int) (g : Int) (lots : List (List Int)) : Int := lots.foldl (closeLot ws g) 0
def waysF (ws : List Int) (g : Int) : List (List (List Int)) := ((sharesF ws.length).filter fun row => decide (closeF ws g (lotsF row) = 0)).map lotsF
def tL (lots : List (List Int)) : D := .tuple (lots.map iT)
section
variable {w : World} {K : PySem.W.Frag} {mg : Str → Option Value} {base : Heap} {T : List (Addr × Str)} {C fI : Addr}
def R_ways : RO := fun ds B k xk => ∃ (ws : List Int) (g : Int), ds = [.dat (iT ws), .dat (.int g)] ∧ B = [] ∧ ws.length ≤ 4 ∧ k (.dat (.list ((waysF ws g).map tL))) [] []
abbrev Nw : List Str := ["wishes", "gap", "rows", "turn", "longer", "row", "found", "lots", "close", "lot", "one", "own", "at", "other"]
theorem sc_ways : FnScope Nw ["wishes", "gap"] (defScope (top 27)) := ⟨rfl, rfl, rfl, by decide +kernel, rfl, by decide +kernel, by decide +kernel⟩
theorem ok_ways {f : Addr} {fd : FuncData} (F : Fun K "_law_ways" "_law_ways" (top 27) f fd) (Tp : Top K mg) : FnOk PG w K mg base (L2.CX PG w) 2 f fd ["wishes", "gap"] (spO K T R_ways) := by
  refine okO F sc_ways (fun ds B k xk h => by obtain ⟨p, m, rfl, _⟩ := h; rfl) fun cdv A outer s H E M ds B k xk hr lt h => ?_
  obtain ⟨ws, g, rfl, rfl, hn, hk⟩ := h
  have hlm : (ws.map PyData.int).length = ws.length := List.length_map ..
  refine ss_cons <| st_set 2 sc_ways.nd <| ev_lst <| ea1 <| ev_tup <| ea_nil ⟨[], rfl, by simp, ⟨[.tuple []], rfl, by simp, ?_⟩⟩
  refine ss_cons <| st_forR1 3 (fun i G O => O = [] ∧ ∃ g3 g4 g5, G = [some (.dat (iT ws)), some (.dat (.int g)), some (.dat (lL (sharesF i))), g3, g4, g5, none, none, none, none, none, none, none, none]) (passes_of rfl) rfl sc_ways.nd Tp.range <| ea1 <| ev_len Tp.len <| ea1 <| ev_var 0 <| len_T ?_
  rw [hlm]
  refine ⟨ws.length, rfl, by omega, by omega, ⟨rfl, none, none, none, rfl⟩, ?_, ?_⟩
  · rintro i G' O' hi ⟨rfl, g3, g4, g5, rfl⟩
    refine ss_cons <| st_set 4 sc_ways.nd <| ev_lstO <| ea_nil ⟨[], rfl, by simp, fun pl => ?_⟩
    refine ss_cons <| st_forL 5 (fun i' G O => ∃ pl g5, G = [some (.dat (iT ws)), some (.dat (.int g)), some (.dat (lL (sharesF i))), some (.dat (.int i)), some (.val (.ref pl)), g5, none, none, none, none, none, none, none, none] ∧ O = [(pl, .lst (((sharesF i).take i').flatMap kids |>.map iT))]) (passes_of rfl) rfl sc_ways.nd <| ev_var 2 ⟨(sharesF i).map iT, rfl, ⟨pl, _, rfl, rfl⟩, ?_, ?_⟩
    · rintro q i' dk G' O' hd ⟨pl, g5, rfl, rfl⟩
      rw [List.getElem?_map] at hd
      obtain ⟨row, hm, rfl⟩ := Option.map_eq_some_iff.mp hd
      have hmem := List.mem_of_getElem? hm
      have hrow := shares_top i (by omega) row hmem
      have h1 := shares_len i (by omega)
      have h2 := flat_le kids (sharesF i) i'
      have h3 := shares_len (i + 1) (by omega)
      have h4 : (sharesF (i + 1)).length = ((sharesF i).flatMap kids).length := rfl
      refine ss_one <| st_set 4 sc_ways.nd <| ev_drop 0 <| ev_drop 0 <| ev_bin <| ev_var 4 fun v => ev_lcR1 11 (fun m acc O => O = [(pl, .lst (((sharesF i).take i').flatMap kids |>.map iT))] ∧ acc = ((List.range m).map fun (o : Nat) => iT (row ++ [(o : Int)]))) rfl sc_ways.nd Tp.range (blkOk_by (by kernel_rfl)) <| ea1 <| ev_bin <| ev_lenSet rfl Tp.len Tp.set <| ev_var 5 ⟨row, rfl, by omega, fun L nd hL v => ev_int <| ok_add ⟨(L.length : Int) + 1, rfl, ?_, ?_, ⟨rfl, rfl⟩, ?_, ?_⟩⟩
      · have := card_top (by omega) hmem nd hL; omega
      · have := card_top (by omega) hmem nd hL; omega
      · rintro p m acc O2 hm' ⟨rfl, rfl⟩
        have := card_top (by omega) hmem nd hL
        refine turn0 fun s H0 C cl fp => ev_bin <| ev_var 5 fun v => ev_tup <| ea1 <| ev_var 11 ⟨[.int m], rfl, by simp, ok_catT ⟨_, rfl, ?_, rfl, ?_⟩ ?_ rfl⟩
        · rw [List.length_map, List.length_range]; omega
        · rw [List.range_succ, List.map_append]
          show _ = _ ++ [iT (row ++ [(m : Int)])]
          unfold iT
          rw [List.map_append]
          rfl
        · rw [List.length_map]
          show row.length + 1 ≤ 100000
          omega
      · rintro p acc O2 ⟨rfl, rfl⟩
        rw [card_top (by omega) hmem nd hL]
        have e2 : ((List.range (topI row + 1).toNat).map fun (o : Nat) => iT (row ++ [(o : Int)])) = (kids row).map iT := by
          unfold kids
          rw [List.map_map]
          rfl
        rw [e2]
        have e3 : (((sharesF i).take (i' + 1)).flatMap kids).map iT = (((sharesF i).take i').flatMap kids).map iT ++ (kids row).map iT := by
          rw [take_next hm, List.flatMap_append, List.map_append]
          simp
        refine ok_catO (n := 0) (m := 1) rfl rfl ?_ fun pn => ⟨pn, some (.dat (iT row)), rfl, ?_⟩
        · have h5 := flat_le kids (sharesF i) (i' + 1)
          have h6 := congrArg List.length e3
          rw [List.length_append, List.length_map] at h6
          omega
        · rw [e3]
          rfl
    · rintro G' O' ⟨pl, g5, rfl, rfl⟩
      rw [List.length_map, List.take_length]
      refine ss_one <| st_set 2 sc_ways.nd <| ev_frz <| ev_var 4 ⟨pl, _, [], rfl, rfl, rfl, _, _, _, rfl⟩
  · rintro G' O' ⟨rfl, g3, g4, g5, rfl⟩
    refine ss_cons <| st_set 6 sc_ways.nd <| ev_lstO <| ea_nil ⟨[], rfl, by simp, fun pf => ?_⟩
    refine ss_cons <| st_forL 5 (fun i G O => ∃ g5 g7 g8 g9 g10, G = [some (.dat (iT ws)), some (.dat (.int g)), some (.dat (lL (sharesF ws.length))), g3, g4, g5, some (.val (.ref pf)), g7, g8, g9, g10, none, none, none] ∧ O = [(pf, .lst (((((sharesF ws.length).take i).filter fun row => decide (closeF ws g (lotsF row) = 0)).map lotsF).map tL))]) (passes_of rfl) rfl sc_ways.nd <| ev_var 2 ⟨(sharesF ws.length).map iT, rfl, ⟨_, _, _, _, _, rfl, rfl⟩, ?_, ?_⟩
    · rintro q i dk G' O' hd ⟨g5, g7, g8, g9, g10, rfl, rfl⟩
      rw [List.getElem?_map] at hd
      obtain ⟨row, hm, rfl⟩ := Option.map_eq_some_iff.mp hd
      have hmem := List.mem_of_getElem? hm
      have hrow := shares_top ws.length hn row hmem
      have hfit := fit_lots hn hmem
      have hlr : (row.map PyData.int).length = row.length := List.length_map ..
      have hll : ((lotsF row).map iT).length = (lotsF row).length := List.length_map ..
      have hacc : (((((sharesF ws.length).take i).filter fun row => decide (closeF ws g (lotsF row) = 0)).map lotsF).map tL).length ≤ 100000 := by
        have h1 := shares_len ws.length hn
        rw [List.length_map, List.length_map]
        refine Nat.le_trans (List.length_filter_le _ _) ?_
        rw [List.length_take]
        omega
      have et : ((((sharesF ws.length).take (i + 1)).filter fun row => decide (closeF ws g (lotsF row) = 0)).map lotsF).map tL = ((((sharesF ws.length).take i).filter fun row => decide (closeF ws g (lotsF row) = 0)).map lotsF).map tL ++ (if closeF ws g (lotsF row) = 0 then [tL (lotsF row)] else []) := by
        rw [take_next hm, List.filter_append, List.map_append, List.map_append]
        congr 1
        by_cases e : closeF ws g (lotsF row) = 0 <;> simp [e]
      generalize hA : ((((sharesF ws.length).take i).filter fun row => decide (closeF ws g (lotsF row) = 0)).map lotsF).map tL = acc0 at et hacc ⊢
      refine ss_cons <| st_lcR1 7 11 (fun m acc O => O = [(pf, .lst acc0)] ∧ acc = ((List.range m).map fun (o : Nat) => iT (idxF row (o : Int)))) rfl sc_ways.nd Tp.range (blkOk_by (by kernel_rfl)) <| ea1 <| ev_lenSet rfl Tp.len Tp.set <| ev_var 5 ⟨row, rfl, by omega, fun L nd hL => ⟨(L.length : Int), rfl, ?_, ?_, ⟨rfl, rfl⟩, ?_, ?_⟩⟩
      · have := card_top hn hmem nd hL; omega
      · have := card_top hn hmem nd hL; omega
      · rintro p m acc O2 hm' ⟨rfl, rfl⟩
        have hct := card_top hn hmem nd hL
        refine turn0 fun s H0 C cl fp => ev_tupleC Tp.tuple <| ea1 <| ev_frz <| ev_lcR1 12 (fun i acc O => O = [(pf, .lst acc0)] ∧ acc = ((((List.range i).filter fun (a : Nat) => decide (wAt row (a : Int) = (m : Int))).map fun (a : Nat) => (a : Int)).map PyData.int)) rfl sc_ways.nd Tp.range (blkOk_by (by kernel_rfl)) <| ea1 <| ev_len Tp.len <| ea1 <| ev_var 5 <| len_T ?_
        refine ⟨_, rfl, by omega, by omega, ⟨rfl, rfl⟩, ?_, ?_⟩
        · rintro p i acc O2 hi ⟨rfl, rfl⟩
          rw [hlr] at hi
          have a1 := atIi (ls := row) (z := (i : Int)) (by omega) (by omega)
          refine turn1t fun s H0 C cl fp => tv_cmp <| ev_ix <| ev_var 5 fun v => ev_var 12 <| ix_T a1 fun v => ev_var 11 <| ok_eq (bk <| ifb (fun e1 => ?_) fun e1 => ?_) hr.units (.inl (by show PyData.depth _ ≤ 60; simp [PyData.depth])) rfl
          · intro s H0 C cl fp
            refine ev_var 12 ⟨_, rfl, ?_, rfl, ?_⟩
            · rw [List.length_map, List.length_map]
              exact Nat.le_trans (List.length_filter_le _ _) (by simp; omega)
            · have e1' : wAt row (i : Int) = (m : Int) := by simpa [PyData.eqv] using e1
              rw [List.range_succ, List.filter_append, List.map_append, List.map_append]
              simp [e1']
          · have e1' : ¬ wAt row (i : Int) = (m : Int) := by simpa [PyData.eqv] using e1
            refine ⟨rfl, ?_⟩
            rw [List.range_succ, List.filter_append]
            simp [e1']
        · rintro p acc O2 ⟨rfl, rfl⟩
          refine frz <| okc_tupleL ⟨_, rfl, ?_, rfl, ?_⟩
          · rw [List.length_map, List.length_range]; omega
          · rw [List.range_succ, List.map_append]
            show _ = _ ++ [iT (idxF row (m : Int))]
            unfold idxF
            rw [hlr]
            rfl
      · rintro acc O2 ⟨rfl, rfl⟩
        rw [card_top hn hmem nd hL]
        have el : ((List.range (topI row).toNat).map fun (o : Nat) => iT (idxF row (o : Int))) = (lotsF row).map iT := by
          unfold lotsF
          rw [List.map_map]
          rfl
        rw [el]
        refine ss_cons <| st_set 8 sc_ways.nd <| ev_int ?_
        refine ss_cons <| st_forL 9 (fun a G O => ∃ g9 g10, G = [some (.dat (iT ws)), some (.dat (.int g)), some (.dat (lL (sharesF ws.length))), g3, g4, some (.dat (iT row)), some (.val (.ref pf)), some (.dat (lL (lotsF row))), some (.dat (.int (((lotsF row).take a).foldl (closeLot ws g) 0))), g9, g10, none, none, none] ∧ O = [(pf, .lst acc0)]) (passes_of rfl) rfl sc_ways.nd <| ev_var 7 ⟨(lotsF row).map iT, rfl, ⟨_, _, rfl, rfl⟩, ?_, ?_⟩
        · rintro q a dl G' O' hd ⟨g9, g10, rfl, rfl⟩
          rw [List.getElem?_map] at hd
          obtain ⟨lot, hlot, rfl⟩ := Option.map_eq_some_iff.mp hd
          have hlr2 := hfit.1 lot (List.mem_of_getElem? hlot)
          rw [take_next hlot, List.foldl_append]
          generalize ((lotsF row).take a).foldl (closeLot ws g) 0 = cc
          refine ss_one <| st_forT 10 (fun b G O => ∃ g10, G = [some (.dat (iT ws)), some (.dat (.int g)), some (.dat (lL (sharesF ws.length))), g3, g4, some (.dat (iT row)), some (.val (.ref pf)), some (.dat (lL (lotsF row))), some (.dat (.int ((lot.take b).foldl (fun c one => c + cntF ws g lot one) cc))), some (.dat (iT lot)), g10, none, none, none] ∧ O = [(pf, .lst acc0)]) (passes_of rfl) rfl sc_ways.nd <| ev_var 9 ⟨lot.map .int, rfl, ⟨g10, rfl, rfl⟩, ?_, ?_⟩
          · rintro q b dz G' O' hd ⟨g10, rfl, rfl⟩
            rw [List.getElem?_map] at hd
            obtain ⟨one, hone, rfl⟩ := Option.map_eq_some_iff.mp hd
            have ho := hlr2.1 one (List.mem_of_getElem? hone)
            have a1 := atIi (ls := ws) ho.1 ho.2
            rw [take_next hone, List.foldl_append]
            generalize (lot.take b).foldl (fun c one => c + cntF ws g lot one) cc = c2
            refine ss_one <| st_set 8 sc_ways.nd <| ev_bin <| ev_var 8 fun v => ev_len Tp.len <| ea1 <| ev_frz <| ev_lcT 13 (fun m acc O => O = [(pf, .lst acc0)] ∧ acc = (((lot.take m).filter (nearB ws g one)).map fun _ => PyData.int 1)) rfl sc_ways.nd (blkOk_by (by kernel_rfl)) <| ev_var 9 ⟨lot.map .int, rfl, ⟨rfl, rfl⟩, ?_, ?_⟩
            · rintro q p m dk acc O2 hd ⟨rfl, rfl⟩
              rw [List.getElem?_map] at hd
              obtain ⟨oth, hoth, rfl⟩ := Option.map_eq_some_iff.mp hd
              have ho2 := hlr2.1 oth (List.mem_of_getElem? hoth)
              have a2 := atIi (ls := ws) ho2.1 ho2.2
              have ef : ∀ bb, nearB ws g one oth = bb → ((lot.take (m + 1)).filter (nearB ws g one)).map (fun _ => PyData.int 1) = ((lot.take m).filter (nearB ws g one)).map (fun _ => PyData.int 1) ++ (if bb = true then [PyData.int 1] else []) := fun bb e => by
                rw [take_next hoth, List.filter_append, List.map_append]
                congr 1
                cases bb <;> simp [e]
              refine turn1t fun s H0 C cl fp => tv_w <| wv_and <| tv_cmp <| ev_var 10 fun v => ev_var 13 <| ok_lt <| bk <| ifb (fun e1 => ?_) fun e1 => ?_
              · refine wv_and1 <| tv_cmp <| ev_bin <| ev_ix <| ev_var 0 fun v => ev_var 13 <| ix_T a2 fun v => ev_ix <| ev_var 0 fun v => ev_var 10 <| ix_T a1 <| ok_sub fun v => ev_var 1 <| ok_lt <| bk <| ifb (fun e2 => ?_) fun e2 => ?_
                · intro s H0 C cl fp
                  refine ev_int ⟨_, rfl, ?_, rfl, ?_⟩
                  · rw [List.length_map]
                    refine Nat.le_trans (List.length_filter_le _ _) ?_
                    rw [List.length_take]; omega
                  · rw [ef true (by unfold nearB; rw [e1, e2]; rfl)]
                    rfl
                · refine ⟨rfl, ?_⟩
                  rw [ef false (by unfold nearB; rw [e1, e2]; rfl)]
                  simp
              · rw [if_neg Bool.false_ne_true]
                refine ⟨rfl, ?_⟩
                rw [ef false (by unfold nearB; rw [e1]; rfl)]
                simp
            · rintro p acc O2 ⟨rfl, rfl⟩
              rw [show (lot.map PyData.int).length = lot.length from List.length_map .., List.take_length]
              refine frz <| len_L <| ok_add ⟨some (.dat (.int one)), ?_, rfl⟩
              rw [List.length_map]
              rfl
          · rintro G' O' ⟨g10, rfl, rfl⟩
            rw [show (lot.map PyData.int).length = lot.length from List.length_map .., List.take_length]
            exact ⟨some (.dat (iT lot)), g10, rfl, rfl⟩
        · rintro G' O' ⟨g9, g10, rfl, rfl⟩
          rw [hll, List.take_length]
          refine ss_one <| st_if <| tv_cmp <| ev_var 8 fun v => ev_int <| ok_eq (bk <| ifb (fun e1 => ?_) fun e1 => ?_) hr.units (.inr (by show PyData.depth _ ≤ 60; simp [PyData.depth])) rfl
          · have e1' : closeF ws g (lotsF row) = 0 := by simpa [PyData.eqv, closeF] using e1
            refine ss_one <| st_expr <| ev_append <| ev_var 6 ⟨0, pf, acc0, rfl, rfl, fun v1 => ev_tupleC Tp.tuple <| ea1 <| ev_var 7 <| okc_tupleL ⟨tL (lotsF row), rfl, rfl, hacc, some (.dat (iT row)), some (.dat (lL (lotsF row))), some (.dat (.int ((lotsF row).foldl (closeLot ws g) 0))), g9, g10, rfl, ?_⟩⟩
            rw [et, if_pos e1']
            rfl
          · have e1' : ¬ closeF ws g (lotsF row) = 0 := by simpa [PyData.eqv, closeF] using e1
            refine ss_nil ⟨some (.dat (iT row)), some (.dat (lL (lotsF row))), some (.dat (.int ((lotsF row).foldl (closeLot ws g) 0))), g9, g10, rfl, ?_⟩
            rw [et, if_neg e1', List.append_nil]
    · rintro G' O' ⟨g5, g7, g8, g9, g10, rfl, rfl⟩
      rw [List.length_map, List.take_length]
      exact ss_one <| st_ret <| ev_frz <| ev_var 6 ⟨pf, _, [], rfl, rfl, rtk0 hk⟩
end
end K5

set_option Elab.async false
set_option linter.all false
set_option maxRecDepth 100000
set_option maxHeartbeats 4000000
namespace K5
open PySem PySem.Spec PyProof.Rows L2 OR
/-! ### what the law asks, told plainly -/
abbrev Costs (ks : Int) (ws : List Int) (g : Int) : List Int := (waysF ws g).map (countF ks ws)
def bestC (ks : Int) (ws : List Int) (g : Int) : Int := costF ks ws (bestF ks ws g).2
def GoodW (ws : List Int) : Prop := ws.length ≤ 4 ∧ ws.Pairwise (· ≤ ·) ∧ ∀ z ∈ ws, 0 ≤ z ∧ z ≤ 15
def goodF (ks : Int) (ws : List Int) (pi : Int) (n : Nat) : List Int := ((List.range n).filter fun (o : Nat) => decide (bestC ks ws (o : Int) ≤ pi)).map fun (o : Nat) => (o : Int)
def dueF (l : List Int) : Option Int := if l.length = 0 then none else if (19 : Int) ∈ l then some 100 else l.getLast?
structure Plain : Prop where
  aw : ∀ ws, GoodW ws → awS (iT ws) = true
  pos : ∀ ws g, GoodW ws → 0 ≤ g → 0 < (waysF ws g).length ∧ (waysF ws g).length ≤ 100
  low : ∀ ks ws g m, GoodW ws → 1 ≤ ks → ks ≤ 12 → 0 ≤ g → m ∈ Costs ks ws g → (∀ y ∈ Costs ks ws g, m ≤ y) → m = bestC ks ws g ∧ ∃ j : Nat, (Costs ks ws g)[j]? = some m ∧ (∀ i : Nat, i < j → (Costs ks ws g)[i]? ≠ some m) ∧ (waysF ws g)[j]? = some (bestF ks ws g).2
  few : ∀ ks ws g x xs, GoodW ws → 1 ≤ ks → ks ≤ 12 → 0 ≤ g → ((waysF ws g).map fun l => ((l.length : Int), countF ks ws l)) = x :: xs → fewF ks ws g = some (PySem.W.minOf (α := Int × Int) x xs)
  gap : ∀ ks ws pi, GoodW ws → 1 ≤ ks → ks ≤ 12 → gapF ks ws pi = dueF (goodF ks ws pi 20)
theorem ways_fit {ws : List Int} {g : Int} (hn : ws.length ≤ 4) : ∀ lots ∈ waysF ws g, Fit ws.length lots := by
  intro lots h
  obtain ⟨row, hr, rfl⟩ := List.mem_map.mp h
  exact fit_lots hn (List.mem_filter.mp hr).1
theorem depth_iT (l : List Int) : (iT l).depth ≤ 2 := by
  show PyData.depthAll _ + 1 ≤ 2
  have := depth_ints l
  omega
theorem depth_all2 : ∀ l : List (List Int), PyData.depthAll (l.map iT) ≤ 2
  | [] => by simp [PyData.depthAll]
  | x :: xs => by
    have h1 := depth_iT x
    have h2 := depth_all2 xs
    show max (iT x).depth (PyData.depthAll (xs.map iT)) ≤ 2
    omega
theorem flat_tL (l : List (List Int)) : Flat (tL l) := by
  show PyData.depthAll (l.map iT) + 1 ≤ 60
  have := depth_all2 l
  omega
theorem flat_int (n : Int) : Flat (.int n) := by show PyData.depth _ ≤ 60; simp [PyData.depth]
theorem flat_dP (p : P2) : Flat (dP p) := by show PyData.depth _ ≤ 60; simp [dP, PyData.depth, PyData.depthAll]
theorem flat_none : Flat .none := by show PyData.depth _ ≤ 60; simp [PyData.depth]
theorem eqv_int (a b : Int) : PyData.eqv (.int a) (.int b) = decide (a = b) := by
  by_cases h : a = b <;> simp [PyData.eqv, h]
section
variable {w : World} {K : PySem.W.Frag} {mg : Str → Option Value} {base : Heap} {T : List (Addr × Str)} {C fI : Addr}
theorem callRoll {X : Cx} {c : Cc} {G : Gty} {k : SV → Oty → Prop} {xk : Addr → List (Str × V) → Gty → Oty → Prop} {p : Addr} {n : Nat} {R : Oty} {m : Int} (h0 : 0 < m) (h1 : m ≤ 1000000) (hn : n ≤ 1000000) (hk : ∀ r : Int, 0 ≤ r → r < m → k (.dat (.int r)) ((p, .dice (n + 1)) :: R)) : CallK X c R_roll [.val (.ref p), .dat (.int m)] G ((p, .dice n) :: R) k xk := by
  refine ⟨[], [(p, .dice n)], R, fun d B' N => ∃ r : Int, d = .dat (.int r) ∧ 0 ≤ r ∧ r < m ∧ B' = [(p, .dice (n + 1))] ∧ N = [], fun _ _ => False, rfl, ⟨p, m, n, rfl, rfl, h0, h1, hn, fun r a b => ⟨r, rfl, a, b, rfl, rfl⟩⟩, ?_, fun _ _ z => z.elim⟩
  rintro d B' N ⟨r, rfl, a, b, rfl, rfl⟩ _
  have := hk r a b
  simpa using this
theorem callPick {X : Cx} {c : Cc} {G : Gty} {k : SV → Oty → Prop} {xk : Addr → List (Str × V) → Gty → Oty → Prop} {p : Addr} {n : Nat} {R : Oty} {xs : List D} (h0 : 0 < xs.length) (h1 : xs.length ≤ 1000) (hn : n ≤ 1000000) (hk : ∀ d ∈ xs, k (.dat d) ((p, .dice (n + 1)) :: R)) : CallK X c R_pick [.val (.ref p), .dat (.list xs)] G ((p, .dice n) :: R) k xk := by
  refine ⟨[], [(p, .dice n)], R, fun d B' N => ∃ r ∈ xs, d = .dat r ∧ B' = [(p, .dice (n + 1))] ∧ N = [], fun _ _ => False, rfl, ⟨p, xs, n, rfl, rfl, h0, h1, hn, fun r a => ⟨r, a, rfl, rfl, rfl⟩⟩, ?_, fun _ _ z => z.elim⟩
  rintro d B' N ⟨r, a, rfl, rfl, rfl⟩ _
  have := hk r a
  simpa using this
abbrev Nr : List Str := ["dice", "keys", "gap", "wishes", "turn", "ways", "costs", "lots", "cost", "pipes", "good", "own", "due", "bad", "told"]
theorem sc_right : FnScope Nr ["dice"] (defScope (top 29)) := ⟨rfl, rfl, rfl, by decide +kernel, rfl, by decide +kernel, by decide +kernel⟩
structure Cals (w : World) (K : PySem.W.Frag) (mg : Str → Option Value) (base : Heap) (T : List (Addr × Str)) (C : Addr) : Prop where
  roll : CalO PG w K mg base T 1 "_law_roll" R_roll []
  ways : CalO PG w K mg base T 2 "_law_ways" R_ways []
  pick : CalO PG w K mg base T 2 "_law_pick" R_pick []
  lpip : CalO PG w K mg base T 1 "_law_pipes" R_lpipes []
  wish : CalO PG w K mg base T 3 "are_wishes" R_wishes []
  few : CalO PG w K mg base T 6 "fewest_pipes" (R_ask C fun ks ws g => .int (costF ks ws (bestF ks ws g).2)) [["gap"]]
  rnk : CalO PG w K mg base T 6 "best_ranks" (R_ask C fun ks ws g => .tuple ((bestF ks ws g).2.map iT)) [["gap"]]
  sav : CalO PG w K mg base T 6 "saved" (R_ask C fun ks ws g => .int (ks * (ws.length : Int) - costF ks ws (bestF ks ws g).2)) [["gap"]]
  fwr : CalO PG w K mg base T 5 "fewest_ranks" (R_ask C fun ks ws g => oP (fewF ks ws g)) [["gap"]]
  gap : CalO PG w K mg base T 6 "greatest_gap" (R_gap C) [["pipes"]]
theorem askOk {X : Cx} {c : Cc} {G : Gty} {O : Oty} {k : SV → Oty → Prop} {xk : Addr → List (Str × V) → Gty → Oty → Prop} {res : Int → List Int → Int → D} {ks g : Int} {ws : List Int} (h : nbS (.int ks) (iT ws) (.int g) = none) (hn : ws.length ≤ 4) (hk : k (.dat (res ks ws g)) O) : CallK X c (R_ask C res) [.dat (.int ks), .dat (iT ws), .dat (.int g)] G O k xk :=
  callP ⟨_, _, _, rfl, rfl, .inr ⟨ks, ws, g, rfl, rfl, rfl, h, hn, rfl, rfl, hk⟩⟩
theorem askNo {X : Cx} {c : Cc} {G : Gty} {O : Oty} {k : SV → Oty → Prop} {xk : Addr → List (Str × V) → Gty → Oty → Prop} {res : Int → List Int → Int → D} {dk dw dg : D} {nm : Str} (h : nbS dk dw dg = some nm) (hk : xk C [(("name" : Str), .str nm)] G O) : CallK X c (R_ask C res) [.dat dk, .dat dw, .dat dg] G O k xk :=
  callP ⟨_, _, _, rfl, rfl, .inl ⟨nm, h, hk⟩⟩
end
end K5

set_option Elab.async false
set_option linter.all false
set_option maxRecDepth 100000
set_option maxHeartbeats 8000000
namespace K5
open PySem PySem.Spec PyProof.Rows L2 OR
theorem good_nb {ks g : Int} {ws : List Int} (pl : Plain) (hg : GoodW ws) (h1 : 1 ≤ ks) (h2 : ks ≤ 12) (h3 : 0 ≤ g) (h4 : g ≤ 100) : nbS (.int ks) (iT ws) (.int g) = none := by
  have a := pl.aw ws hg
  unfold nbS
  rw [if_pos (show okI (.int ks) 1 100 = true by simp [okI]; omega), if_pos a, if_pos (show okI (.int g) 0 100 = true by simp [okI]; omega)]
def badsD : List D := [.none, .list [.int 1], .tuple [.int 2, .int 1], .tuple [.int (-1)], .tuple [.int 61], .tuple [.int 0, .int 0, .int 0, .int 0, .int 0, .int 0, .int 0], .tuple [.bool true]]
theorem bads_aw : ∀ d ∈ badsD, awS d = false := by
  intro d hd
  simp only [badsD, List.mem_cons, List.not_mem_nil, or_false] at hd
  rcases hd with rfl | rfl | rfl | rfl | rfl | rfl | rfl <;> decide +kernel
theorem eqv_refl_ints : ∀ l : List Int, PyData.eqvAll (l.map PyData.int) (l.map PyData.int) = true
  | [] => by simp [PyData.eqvAll]
  | x :: xs => by
    have := eqv_refl_ints xs
    simp [PyData.eqvAll, PyData.eqv, this]
theorem eqv_refl_all : ∀ l : List (List Int), PyData.eqvAll (l.map iT) (l.map iT) = true
  | [] => by simp [PyData.eqvAll]
  | x :: xs => by
    have h1 := eqv_refl_all xs
    have h2 := eqv_refl_ints x
    simp [PyData.eqvAll, PyData.eqv, h1, h2]
theorem eqv_refl_lots (l : List (List Int)) : PyData.eqv (tL l) (tL l) = true := by
  have := eqv_refl_all l
  unfold tL
  simp [PyData.eqv, this]
theorem depth_dPs : ∀ l : List P2, PyData.depthAll (l.map dP) ≤ 60
  | [] => by simp [PyData.depthAll]
  | x :: xs => by
    have h1 : (dP x).depth ≤ 60 := flat_dP x
    have h2 := depth_dPs xs
    show max (dP x).depth (PyData.depthAll (xs.map dP)) ≤ 60
    omega
theorem alike_dPs (l : List P2) : PySem.W.AlikeAll (l.map dP) := PySem.W.alikeAll_datum (α := Int × Int) l
theorem minD_dP (x : P2) (xs : List P2) : PySem.W.minD (dP x) (xs.map dP) = dP (PySem.W.minOf (α := Int × Int) x xs) := PySem.W.minD_map (α := Int × Int) x xs
theorem flat_oI : ∀ o : Option Int, Flat (oI o)
  | none => flat_none
  | some n => flat_int n
theorem eqv_oI : ∀ o : Option Int, PyData.eqv (oI o) (oI o) = true
  | none => by simp [oI, PyData.eqv]
  | some n => by simp [oI, PyData.eqv]
section
variable {w : World} {K : PySem.W.Frag} {mg : Str → Option Value} {base : Heap} {T : List (Addr × Str)} {C fI : Addr}
theorem ok_right {f ca P g : Addr} {fd : FuncData} (pl : Plain) (F : FunC K "_law_right" "_law_right" (top 29) f fd ca) (Tp : Top K mg) (TB : LamX.TabB base mg ca P) (hT : (P, ("_law_right" : Str) ++ ".<locals>." ++ "<lambda>") ∈ T) (hu : ∀ p ∈ T, p.1 = P → p.2 = ("_law_right" : Str) ++ ".<locals>." ++ "<lambda>")
    (RF : RefO PG K mg (top 26) g C) (cs : Cals w K mg base T C) : FnOk PG w K mg base (L2.CX PG w) 9 f fd ["dice"] (spO K T R_right) := by
  refine okOC F sc_right (fun ds B k xk h => by obtain ⟨d, rfl, _⟩ := h; rfl) fun A outer s H E M ds B k xk hr lt h => ?_
  obtain ⟨p, rfl, rfl, hk⟩ := h
  have gt : GT (bodyX PG w K mg base Nr "_law_right" (top 29) f (.ref ca) A outer s H E) T "<lambda>" := ⟨ca, P, TB, rfl, hT, hu⟩
  refine ss_cons <| st_un2 1 2 rfl sc_right.nd <| ev_tup <| ea_cons <| ev_bin <| ev_int fun v => ev_call cs.roll hr (by decide) let0 <| ea_cons <| ev_var 0 fun v => ea1 <| ev_int <| callRoll (by decide) (by decide) (by decide) fun r1 a1 b1 => ok_add fun v => ea1 <| ev_call cs.roll hr (by decide) let0 <| ea_cons <| ev_var 0 fun v => ea1 <| ev_int <| callRoll (by decide) (by decide) (by decide) fun g ag bg => ⟨[.int (1 + r1), .int g], rfl, by simp, .int (1 + r1), .int g, rfl, ?_⟩
  obtain ⟨ks, hks⟩ : ∃ ks, ks = 1 + r1 := ⟨_, rfl⟩
  rw [← hks]
  have ak : 1 ≤ ks := by omega
  have bkk : ks ≤ 12 := by omega
  clear hks a1 b1
  refine ss_cons <| st_set 3 sc_right.nd <| ev_tupleC Tp.tuple <| ea1 <| ev_sorted Tp.sorted <| ea1 <| ev_frz <| ev_lcR1 4 (fun m acc O => ∃ (n : Nat) (zs : List Int), O = [(p, .dice n)] ∧ acc = zs.map .int ∧ n ≤ 10 + m ∧ zs.length = m ∧ ∀ z ∈ zs, 0 ≤ z ∧ z ≤ 15) rfl sc_right.nd Tp.range (blkOk_by (by kernel_rfl)) <| ea1 <| ev_call cs.roll hr (by decide) let0 <| ea_cons <| ev_var 0 fun v => ea1 <| ev_int <| callRoll (by decide) (by decide) (by decide) fun l al bl => ⟨l, rfl, by omega, by omega, ⟨3, [], rfl, rfl, by omega, rfl, by simp⟩, ?_, ?_⟩
  · rintro p' m acc O2 hm ⟨n, zs, rfl, rfl, hn, hl, hz⟩
    refine turn0 fun s H0 C cl fp => ev_call cs.roll hr (by decide) let0 <| ea_cons <| ev_var 0 fun v => ea1 <| ev_int <| callRoll (by decide) (by decide) (by omega) fun r a b => ⟨.int r, rfl, ?_, n + 1, zs ++ [r], rfl, by simp, by omega, by simp [hl], ?_⟩
    · rw [List.length_map, hl]; omega
    · intro z hz'
      rcases List.mem_append.mp hz' with q | q
      · exact hz z q
      · obtain rfl := List.mem_singleton.mp q
        omega
  rintro p' acc O2 ⟨n, zs, rfl, rfl, hn, hl, hz⟩
  refine frz <| okc_sorted fun ws hp hs => okc_tupleL ?_
  have hgw : GoodW ws := ⟨by rw [hp.length_eq, hl]; omega, hs, fun z hz' => hz z (hp.subset hz')⟩
  have hn : n ≤ 20 := by omega
  clear hz hl hp hs zs
  have hw := pl.pos ws g hgw ag
  have nb := good_nb pl hgw ak bkk ag (by omega)
  have hfit := ways_fit (ws := ws) (g := g) hgw.1
  have hlw : ((waysF ws g).map tL).length = (waysF ws g).length := List.length_map ..
  refine ss_cons <| st_set 5 sc_right.nd <| ev_call cs.ways hr (by decide) let0 <| ea_cons <| ev_var 3 fun v => ea1 <| ev_var 2 <| callP ⟨ws, g, rfl, rfl, hgw.1, rfl, rfl, ?_⟩
  refine ss_cons <| st_lcL 6 7 (fun m acc O => O = [(p, .dice n)] ∧ acc = ((((waysF ws g).take m).map (countF ks ws)).map PyData.int)) rfl sc_right.nd (blkOk_by (by kernel_rfl)) <| ev_var 5 ⟨(waysF ws g).map tL, rfl, ⟨rfl, rfl⟩, ?_, ?_⟩
  · rintro q p' i dk acc O2 hd ⟨rfl, rfl⟩
    rw [List.getElem?_map] at hd
    obtain ⟨lots, hlots, rfl⟩ := Option.map_eq_some_iff.mp hd
    have hf := hfit lots (List.mem_of_getElem? hlots)
    refine turn0 fun s H0 C cl fp => ev_call cs.lpip hr (by decide) let0 <| ea_cons <| ev_var 1 fun v => ea_cons <| ev_var 3 fun v => ea1 <| ev_var 7 <| callP ⟨ks, ws, lots, rfl, rfl, by omega, by omega, hf.1, rfl, rfl, .int (countF ks ws lots), rfl, ?_, rfl, ?_⟩
    · rw [List.length_map, List.length_map, List.length_take]; omega
    · rw [take_next hlots, List.map_append, List.map_append]; rfl
  rintro acc O2 ⟨rfl, rfl⟩
  rw [hlw, List.take_length]
  have hlc : 0 < (Costs ks ws g).length := by rw [List.length_map]; exact hw.1
  have low := fun m => pl.low ks ws g m hgw ak bkk ag
  refine ss_cons <| st_if <| tv_w <| wv_or <| tv_cmp <| ev_callK cs.few hr (by decide) let0 (List.mem_singleton_self _) <| ea_cons <| ev_var 1 fun v => ea1 <| ev_var 3 fun q => ek_one <| ev_var 2 ⟨rfl, askOk nb hgw.1 fun v => ev_min Tp.min <| ea1 <| ev_var 6 <| okc_min rfl hlc fun m hm1 hm2 => ok_ne (bk ?_) hr.units (.inl (flat_int _)) rfl⟩
  obtain ⟨em, _⟩ := low m hm1 hm2
  rw [eqv_int, em]
  refine ifb (fun z => by simp [bestC] at z) fun _ => ?_
  refine wv_or1 <| tv_cmp <| ev_callK cs.rnk hr (by decide) let0 (List.mem_singleton_self _) <| ea_cons <| ev_var 1 fun v => ea1 <| ev_var 3 fun q => ek_one <| ev_var 2 ⟨rfl, askOk nb hgw.1 fun v => ev_ix <| ev_var 5 fun v => ev_index <| ev_var 6 ⟨Costs ks ws g, rfl, fun v1 => ev_min Tp.min <| ea1 <| ev_var 6 <| okc_min rfl hlc fun m hm1 hm2 => ?_⟩⟩
  obtain ⟨em, j, j1, j2, j3⟩ := low m hm1 hm2
  refine ⟨m, j, rfl, j1, j2, ix_L (atI_of (v := tL (bestF ks ws g).2) (by omega) ?_) <| ok_ne (bk ?_) hr.units (.inl (flat_tL _)) rfl⟩
  · rw [Int.toNat_natCast, List.getElem?_map, j3]; rfl
  have e1 : PyData.eqv (.tuple ((bestF ks ws g).2.map iT)) (tL (bestF ks ws g).2) = true := eqv_refl_lots _
  rw [e1]
  refine ss_nil ?_
  have hmul : CMul ks (((ws.map PyData.int).length : Nat) : Int) := cmul_small (by omega) (by omega)
  refine ss_cons <| st_if <| tv_w <| wv_or <| tv_cmp <| ev_callK cs.sav hr (by decide) let0 (List.mem_singleton_self _) <| ea_cons <| ev_var 1 fun v => ea1 <| ev_var 3 fun q => ek_one <| ev_var 2 ⟨rfl, askOk nb hgw.1 fun v => ev_bin <| ev_bin <| ev_var 1 fun v => ev_len Tp.len <| ea1 <| ev_var 3 <| len_T <| ok_mul (fun v => ev_min Tp.min <| ea1 <| ev_var 6 <| okc_min rfl hlc fun m hm1 hm2 => ok_sub <| ok_ne (bk ?_) hr.units (.inl (flat_int _)) rfl) hmul⟩
  obtain ⟨em, _⟩ := low m hm1 hm2
  rw [eqv_int, em, List.length_map]
  refine ifb (fun z => by simp [bestC] at z) fun _ => ?_
  refine wv_or1 <| tv_not <| tv_val <| ev_call cs.wish hr (by decide) let0 <| ea1 <| ev_var 3 <| callP ⟨iT ws, rfl, rfl, rfl, rfl, bk ?_⟩
  rw [pl.aw ws hgw]
  refine ss_nil ?_
  refine ss_cons <| st_if <| tv_cmp <| ev_callK cs.fwr hr (by decide) let0 (List.mem_singleton_self _) <| ea_cons <| ev_var 1 fun v => ea1 <| ev_var 3 fun q => ek_one <| ev_var 2 ⟨rfl, askOk nb hgw.1 fun v => ev_min Tp.min <| ea1 <| ev_frz <| ev_zip 7 8 (fun m acc O => O = [(p, .dice n)] ∧ acc = (((waysF ws g).take m).map fun l => dP ((l.length : Int), countF ks ws l))) rfl sc_right.nd Tp.zip (blkOk_by (by kernel_rfl)) <| ea_cons <| ev_var 5 fun v => ea1 <| ev_var 6 ⟨(waysF ws g).map tL, (Costs ks ws g).map .int, rfl, by simp, ⟨rfl, rfl⟩, ?_, ?_⟩⟩
  · rintro q p' i dx dy acc O2 hd1 hd2 ⟨rfl, rfl⟩
    rw [List.getElem?_map] at hd1
    obtain ⟨lots, hlots, rfl⟩ := Option.map_eq_some_iff.mp hd1
    rw [List.getElem?_map, List.getElem?_map, hlots] at hd2
    simp only [Option.map_some, Option.some.injEq] at hd2
    subst hd2
    refine turn0 fun s H0 C cl fp => ev_tup <| ea_cons <| ev_len Tp.len <| ea1 <| ev_var 7 <| len_T fun v => ea1 <| ev_var 8 ⟨[.int (lots.map iT).length, .int (countF ks ws lots)], rfl, by simp, dP ((lots.length : Int), countF ks ws lots), ?_, ?_, rfl, ?_⟩
    · rw [List.length_map]; rfl
    · rw [List.length_map, List.length_take]; omega
    · rw [take_next hlots, List.map_append]; rfl
  rintro p' acc O2 ⟨rfl, rfl⟩
  rw [hlw, List.take_length]
  obtain ⟨x, xs, hx⟩ : ∃ x xs, ((waysF ws g).map fun l => ((l.length : Int), countF ks ws l)) = x :: xs := by
    cases e : waysF ws g with
    | nil => rw [e] at hw; simp at hw
    | cons a l => exact ⟨_, _, rfl⟩
  have hx2 : ((waysF ws g).map fun l => dP ((l.length : Int), countF ks ws l)) = dP x :: xs.map dP := by
    have := congrArg (List.map dP) hx
    rw [List.map_map] at this
    exact this
  rw [hx2]
  refine frz <| okc_minD rfl hr.units (depth_dPs (x :: xs)) (alike_dPs (x :: xs)) <| ok_ne (bk ?_) hr.units (.inr (by rw [minD_dP]; exact flat_dP _)) rfl
  rw [minD_dP, pl.few ks ws g x xs hgw ak bkk ag hx]
  have e2 : ∀ q, PyData.eqv (oP (some q)) (dP q) = true := fun q => by simp [oP, dP, PyData.eqv, PyData.eqvAll]
  rw [e2]
  refine ss_nil ?_
  clear e1 e2 hx hx2 x xs
  refine ss_cons <| st_par 9 10 rfl sc_right.nd <| ea_cons <| ev_call cs.roll hr (by decide) let0 <| ea_cons <| ev_var 0 fun v => ea1 <| ev_int <| callRoll (by decide) (by decide) (by omega) fun pi api bpi v => ea1 <| ev_lstO <| ea_nil ⟨[], rfl, by simp, fun pg => ⟨.dat (.int pi), .val (.ref pg), rfl, ?_⟩⟩
  refine ss_cons <| st_forR1 11 (fun i G O => O = [(p, .dice (n + 1)), (pg, .lst ((goodF ks ws pi i).map .int))] ∧ ∃ g11, G = [some (.val (.ref p)), some (.dat (.int ks)), some (.dat (.int g)), some (.dat (iT ws)), none, some (.dat (.list ((waysF ws g).map tL))), some (.dat (iL (Costs ks ws g))), none, none, some (.dat (.int pi)), some (.val (.ref pg)), g11, none, none, none]) (passes_of rfl) rfl sc_right.nd Tp.range <| ea1 <| ev_int ⟨20, rfl, by omega, by omega, ⟨rfl, none, rfl⟩, ?_, ?_⟩
  · rintro i G' O' hi ⟨rfl, g11, rfl⟩
    have hw' := pl.pos ws (i : Int) hgw (by omega)
    have hfit' := ways_fit (ws := ws) (g := (i : Int)) hgw.1
    have hlw' : ((waysF ws (i : Int)).map tL).length = (waysF ws (i : Int)).length := List.length_map ..
    have hlc' : 0 < (Costs ks ws (i : Int)).length := by rw [List.length_map]; exact hw'.1
    refine ss_one <| st_if <| tv_cmp <| ev_min Tp.min <| ea1 <| ev_frz <| ev_lcL 7 (fun m acc O => O = [(p, .dice (n + 1)), (pg, .lst ((goodF ks ws pi i).map .int))] ∧ acc = ((((waysF ws (i : Int)).take m).map (countF ks ws)).map PyData.int)) rfl sc_right.nd (blkOk_by (by kernel_rfl)) <| ev_call cs.ways hr (by decide) let0 <| ea_cons <| ev_var 3 fun v => ea1 <| ev_var 11 <| callP ⟨ws, i, rfl, rfl, hgw.1, rfl, rfl, (waysF ws (i : Int)).map tL, rfl, ⟨rfl, rfl⟩, ?_, ?_⟩
    · rintro q p' i' dk acc O2 hd ⟨rfl, rfl⟩
      rw [List.getElem?_map] at hd
      obtain ⟨lots, hlots, rfl⟩ := Option.map_eq_some_iff.mp hd
      have hf := hfit' lots (List.mem_of_getElem? hlots)
      refine turn0 fun s H0 C cl fp => ev_call cs.lpip hr (by decide) let0 <| ea_cons <| ev_var 1 fun v => ea_cons <| ev_var 3 fun v => ea1 <| ev_var 7 <| callP ⟨ks, ws, lots, rfl, rfl, by omega, by omega, hf.1, rfl, rfl, .int (countF ks ws lots), rfl, ?_, rfl, ?_⟩
      · rw [List.length_map, List.length_map, List.length_take]; omega
      · rw [take_next hlots, List.map_append, List.map_append]; rfl
    · rintro p' acc O2 ⟨rfl, rfl⟩
      rw [hlw', List.take_length]
      refine frz <| okc_min rfl hlc' fun m hm1 hm2 v => ev_var 9 <| ok_le <| bk ?_
      obtain ⟨em, _⟩ := pl.low ks ws (i : Int) m hgw ak bkk (by omega) hm1 hm2
      have hgl : (goodF ks ws pi i).length ≤ 100000 := by
        unfold goodF
        rw [List.length_map]
        exact Nat.le_trans (List.length_filter_le _ _) (by simp; omega)
      refine ifb (fun e => ?_) fun e => ?_
      · refine ss_one <| st_expr <| ev_append <| ev_var 10 ⟨1, pg, (goodF ks ws pi i).map .int, rfl, rfl, fun v1 => ev_var 11 ⟨.int i, rfl, rfl, by rw [List.length_map]; exact hgl, ?_, some (.dat (.int i)), rfl⟩⟩
        have e3 : goodF ks ws pi (i + 1) = goodF ks ws pi i ++ [(i : Int)] := by
          rw [em] at e
          unfold goodF
          rw [List.range_succ, List.filter_append, List.map_append]
          simp [of_decide_eq_true e]
        rw [e3, List.map_append]
        rfl
      · refine ss_nil ⟨?_, some (.dat (.int i)), rfl⟩
        have e3 : goodF ks ws pi (i + 1) = goodF ks ws pi i := by
          rw [em] at e
          unfold goodF
          rw [List.range_succ, List.filter_append, List.map_append]
          simp [of_decide_eq_false e]
        rw [e3]
  rintro G' O' ⟨rfl, g11, rfl⟩
  have hgap := pl.gap ks ws pi hgw ak bkk
  generalize hgd : goodF ks ws pi (20 : Int).toNat = gd
  have hgd' : goodF ks ws pi 20 = gd := hgd
  rw [hgd'] at hgap
  clear hgd hgd'
  refine ss_frz 10 1 rfl rfl ?_
  have key : EV (bodyX PG w K mg base Nr "_law_right" (top 29) f (.ref ca) A outer s H E) (c0 K T H M [(p, .dice 0)]) (match defBody (top 29) with | [_, _, _, _, _, _, _, _, _, .Assign _ e _, _, _, _, _] => e | _ => .Constant .none 0 ⟨0, 0, 0, 0⟩)
      [some (.val (.ref p)), some (.dat (.int ks)), some (.dat (.int g)), some (.dat (iT ws)), none, some (.dat (.list ((waysF ws g).map tL))), some (.dat (iL (Costs ks ws g))), none, none, some (.dat (.int pi)), some (.dat (iL gd)), g11, none, none, none] [(p, .dice (n + 1))] fun d O' => d = .dat (oI (dueF gd)) ∧ O' = [(p, .dice (n + 1))] := by
    refine ev_if <| tv_cmp <| ev_len Tp.len <| ea1 <| ev_var 10 <| len_L fun v => ev_int <| ok_eq (bk ?_) hr.units (.inl (flat_int _)) rfl
    rw [eqv_int, List.length_map]
    refine ifb (fun e => ev_none ⟨?_, rfl⟩) fun e => ?_
    · have e' := of_decide_eq_true e
      have : gd.length = 0 := by omega
      unfold dueF
      rw [if_pos this]
      rfl
    · have e' := of_decide_eq_false e
      have hne : ¬ gd.length = 0 := by omega
      refine ev_if <| tv_cmp <| ev_int fun v => ev_var 10 <| ok_inL (bk ?_) hr.units (flat_int _) rfl
      have ei : ((gd.map PyData.int).any fun y => PyData.eqv y (.int 19)) = decide ((19 : Int) ∈ gd) := by
        rw [List.any_map]
        rw [Bool.eq_iff_iff, List.any_eq_true, decide_eq_true_eq]
        constructor
        · rintro ⟨x, hx, hxe⟩
          have : x = 19 := by simpa [eqv_int] using hxe
          rwa [this] at hx
        · intro hx
          exact ⟨19, hx, by simp [eqv_int]⟩
      rw [ei]
      refine ifb (fun e2 => ev_int ⟨?_, rfl⟩) fun e2 => ?_
      · unfold dueF
        rw [if_neg hne, if_pos (of_decide_eq_true e2)]
        rfl
      · obtain ⟨z, hz⟩ : ∃ z, gd.getLast? = some z := by
          cases h : gd.getLast? with
          | none => rw [List.getLast?_eq_none_iff] at h; rw [h] at hne; simp at hne
          | some z => exact ⟨z, rfl⟩
        refine ev_ix <| ev_var 10 fun v => ev_neg <| ev_int ⟨1, rfl, ix_L (d := .int z) ?_ ⟨?_, rfl⟩⟩
        · exact atI_last (by rw [List.getLast?_map, hz]; rfl)
        · unfold dueF
          rw [if_neg hne, if_neg (of_decide_eq_false e2), hz]
          rfl
  refine ss_cons <| st_set 12 sc_right.nd <| key.mono fun d O1 ⟨ed, eO⟩ => ?_
  subst ed
  subst eO
  have ng : ngS (.int ks) (iT ws) (.int pi) = none := by
    unfold ngS
    rw [if_pos (show okI (.int ks) 1 100 = true by simp [okI]; omega), if_pos (pl.aw ws hgw), if_pos (show okI (.int pi) 0 600 = true by simp [okI]; omega)]
  refine ss_cons <| st_if <| tv_cmp <| ev_callK cs.gap hr (by decide) let0 (List.mem_singleton_self _) <| ea_cons <| ev_var 1 fun v => ea1 <| ev_var 3 fun q => ek_one <| ev_var 9 ⟨rfl, callP ⟨_, _, _, rfl, rfl, .inr ⟨ks, ws, pi, rfl, rfl, rfl, ng, hgw.1, rfl, rfl, fun v => ev_var 12 <| ok_ne (bk ?_) hr.units (.inr (flat_oI _)) rfl⟩⟩⟩
  rw [hgap, eqv_oI]
  refine ss_nil ?_
  clear hgap key
  generalize dueF gd = due
  refine ss_cons <| st_set 13 sc_right.nd <| ev_call cs.pick hr (by decide) let0 <| ea_cons <| ev_var 0 fun v => ea1 <| ev_lst <| ea_cons <| ev_none fun v => ea_cons <| ev_lst <| ea1 <| ev_int ⟨[.int 1], rfl, by simp, fun v => ea_cons <| ev_tup <| ea_cons <| ev_int fun v => ea1 <| ev_int ⟨[.int 2, .int 1], rfl, by simp, fun v => ea_cons <| ev_tup <| ea1 <| ev_neg <| ev_int ⟨1, rfl, [.int (-1)], rfl, by simp, fun v => ea_cons <| ev_tup <| ea1 <| ev_int ⟨[.int 61], rfl, by simp, fun v => ea_cons <| ev_bin <| ev_tup <| ea1 <| ev_int ⟨[.int 0], rfl, by simp, fun v => ev_int <| ok_repT (fun v => ea1 <| ev_tup <| ea1 <| ev_bool ⟨[.bool true], rfl, by simp, badsD, rfl, by simp [badsD], callPick (by simp [badsD]) (by simp [badsD]) (by omega) fun bad hbad => ?_⟩) (by simp) (by decide) (by decide) (by simp)⟩⟩⟩⟩⟩
  have hb := bads_aw bad hbad
  have n1 : nbS (.int 0) .none .none = some ("keys" : Str) := rfl
  have n2 : nbS (.int ks) bad .none = some ("wishes" : Str) := by
    unfold nbS
    rw [if_pos (show okI (.int ks) 1 100 = true by simp [okI]; omega), if_neg (by rw [hb]; decide)]
  have n3 : nbS (.int ks) (iT ws) (.int 101) = some ("gap" : Str) := by
    unfold nbS
    rw [if_pos (show okI (.int ks) 1 100 = true by simp [okI]; omega), if_pos (pl.aw ws hgw)]
    rfl
  have n4 : nbS (.int 101) (iT ws) (.int 0) = some ("keys" : Str) := rfl
  have n5 : nbS (.int ks) (iT ws) (.int (-1)) = some ("gap" : Str) := by
    unfold nbS
    rw [if_pos (show okI (.int ks) 1 100 = true by simp [okI]; omega), if_pos (pl.aw ws hgw)]
    rfl
  have n6 : ngS (.int ks) bad (.int 0) = some ("wishes" : Str) := by
    unfold ngS
    rw [if_pos (show okI (.int ks) 1 100 = true by simp [okI]; omega), if_neg (by rw [hb]; decide)]
  have n7 : ngS (.int ks) (iT ws) (.int 601) = some ("pipes" : Str) := by
    unfold ngS
    rw [if_pos (show okI (.int ks) 1 100 = true by simp [okI]; omega), if_pos (pl.aw ws hgw)]
    rfl
  refine ss_cons <| st_set 14 sc_right.nd <| ev_lst <| ea_cons <| ev_refused (kk := 6) hr gt RF (LamX.lamS_by (by kernel_rfl)) fun q A' o' s' H' E' f' c' hq lq => ev_call cs.few hq (by decide) lq <| ea_cons <| ev_int fun v => ea_cons <| ev_none fun v => ea1 <| ev_none <| askNo n1 ⟨rfl, "keys", rfl, fun v => ?_⟩
  refine ea_cons <| ev_refused (kk := 6) hr gt RF (LamX.lamS_by (by kernel_rfl)) fun q A' o' s' H' E' f' c' hq lq => ev_call cs.few hq (by decide) lq <| ea_cons <| ev_var 1 fun v => ea_cons <| ev_var 13 fun v => ea1 <| ev_none <| askNo n2 ⟨rfl, "wishes", rfl, fun v => ?_⟩
  refine ea_cons <| ev_refused (kk := 6) hr gt RF (LamX.lamS_by (by kernel_rfl)) fun q A' o' s' H' E' f' c' hq lq => ev_call cs.rnk hq (by decide) lq <| ea_cons <| ev_var 1 fun v => ea_cons <| ev_var 3 fun v => ea1 <| ev_int <| askNo n3 ⟨rfl, "gap", rfl, fun v => ?_⟩
  refine ea_cons <| ev_refused (kk := 6) hr gt RF (LamX.lamS_by (by kernel_rfl)) fun q A' o' s' H' E' f' c' hq lq => ev_call cs.sav hq (by decide) lq <| ea_cons <| ev_int fun v => ea_cons <| ev_var 3 fun v => ea1 <| ev_int <| askNo n4 ⟨rfl, "keys", rfl, fun v => ?_⟩
  refine ea_cons <| ev_refused (kk := 6) hr gt RF (LamX.lamS_by (by kernel_rfl)) fun q A' o' s' H' E' f' c' hq lq => ev_call cs.fwr hq (by decide) lq <| ea_cons <| ev_var 1 fun v => ea_cons <| ev_var 3 fun v => ea1 <| ev_neg <| ev_int ⟨1, rfl, askNo n5 ⟨rfl, "gap", rfl, fun v => ?_⟩⟩
  refine ea_cons <| ev_refused (kk := 6) hr gt RF (LamX.lamS_by (by kernel_rfl)) fun q A' o' s' H' E' f' c' hq lq => ev_call cs.gap hq (by decide) lq <| ea_cons <| ev_var 1 fun v => ea_cons <| ev_var 13 fun v => ea1 <| ev_int <| callP ⟨_, _, _, rfl, rfl, .inl ⟨"wishes", n6, rfl, "wishes", rfl, fun v => ?_⟩⟩
  refine ea1 <| ev_refused (kk := 6) hr gt RF (LamX.lamS_by (by kernel_rfl)) fun q A' o' s' H' E' f' c' hq lq => ev_call cs.gap hq (by decide) lq <| ea_cons <| ev_var 1 fun v => ea_cons <| ev_var 3 fun v => ea1 <| ev_int <| callP ⟨_, _, _, rfl, rfl, .inl ⟨"pipes", n7, rfl, "pipes", rfl, ?_⟩⟩
  refine ⟨[.str "keys", .str "wishes", .str "gap", .str "keys", .str "gap", .str "wishes", .str "pipes"], rfl, by simp, ?_⟩
  refine ss_one <| st_ret <| ev_and <| ev_cmp <| ev_var 14 fun v => ev_lst <| ea_cons <| ev_str fun v => ea_cons <| ev_str fun v => ea_cons <| ev_str fun v => ea_cons <| ev_str fun v => ea_cons <| ev_str fun v => ea_cons <| ev_str fun v => ea1 <| ev_str ⟨[.str "keys", .str "wishes", .str "gap", .str "keys", .str "gap", .str "wishes", .str "pipes"], rfl, by simp, ok_eq (bk ?_) hr.units (.inl ?_) rfl⟩
  · have e : PyData.eqv (.list [.str "keys", .str "wishes", .str "gap", .str "keys", .str "gap", .str "wishes", .str "pipes"]) (.list [.str "keys", .str "wishes", .str "gap", .str "keys", .str "gap", .str "wishes", .str "pipes"]) = true := by decide +kernel
    rw [e, if_pos rfl]
    refine ev_one <| ev_not <| ev_call cs.wish hr (by decide) let0 <| ea1 <| ev_var 13 <| callP ⟨bad, rfl, rfl, rfl, rfl, bk ?_⟩
    rw [hb]
    exact rtk1 (hk _) rfl
  · show PyData.depth _ ≤ 60
    simp [PyData.depth, PyData.depthAll]
end
end K5

set_option Elab.async false
set_option linter.all false
set_option maxRecDepth 100000
set_option maxHeartbeats 2000000
namespace K5
open PySem PySem.Spec PyProof.Rows L2 OR
/-! ### lots with ascending places -/
theorem idx_pairwise (row : List Int) (o : Int) : (idxF row o).Pairwise (· < ·) := by
  unfold idxF
  rw [List.pairwise_map]
  refine List.Pairwise.imp (R := fun (a b : Nat) => a < b) (fun h => by omega) ?_
  exact List.Pairwise.filter _ List.pairwise_lt_range
theorem wAt_mono {ws : List Int} (hs : ws.Pairwise (· ≤ ·)) {a b : Int} (h0 : 0 ≤ a) (h1 : a ≤ b) (h2 : b < ws.length) : wAt ws a ≤ wAt ws b := by
  unfold wAt
  rw [List.getD_eq_getElem?_getD, List.getD_eq_getElem?_getD, List.getElem?_eq_getElem (by omega), List.getElem?_eq_getElem (by omega)]
  simp only [Option.getD_some]
  by_cases e : a.toNat = b.toNat
  · simp only [e]; omega
  · exact List.pairwise_iff_getElem.mp hs _ _ _ _ (by omega)
/-- within a lot of ascending places: near pairs are there iff near neighbours are -/
theorem can_iff {ws lot : List Int} {g : Int} (hs : ws.Pairwise (· ≤ ·)) (hl : lot.Pairwise (· < ·)) (hr : ∀ z ∈ lot, 0 ≤ z ∧ z < ws.length) (hg : 0 ≤ g) :
    canF ws lot g = true ↔ ∀ i j, i < j → ∀ (hj : j < lot.length) (hi : i < lot.length), g ≤ wAt ws lot[j] - wAt ws lot[i] := by
  unfold canF
  rw [List.all_eq_true]
  have el : ∀ i (h : i < lot.length), wAt lot (i : Int) = lot[i] := fun i h => by
    unfold wAt
    rw [List.getD_eq_getElem?_getD, Int.toNat_natCast, List.getElem?_eq_getElem h]; rfl
  constructor
  · intro h i j hij hj hi
    have h1 := h (j - 1) (List.mem_range.mpr (by omega))
    have h1 := of_decide_eq_true h1
    have e1 : (1 + ((j - 1 : Nat) : Int)) = (j : Int) := by omega
    have e2 : (1 + ((j - 1 : Nat) : Int) - 1) = ((j - 1 : Nat) : Int) := by omega
    rw [e2, e1, el j hj, el (j - 1) (by omega)] at h1
    have hm : lot[i] ≤ lot[j - 1] := by
      by_cases e : i = j - 1
      · simp only [← e]; omega
      · exact Int.le_of_lt (List.pairwise_iff_getElem.mp hl _ _ _ _ (by omega))
    have := wAt_mono hs (hr _ (List.getElem_mem hi)).1 hm (hr _ (List.getElem_mem (by omega))).2
    omega
  · intro h i hi
    have hi' := List.mem_range.mp hi
    have := h i (i + 1) (by omega) (by omega) (by omega)
    rw [decide_eq_true_eq]
    have e1 : (1 + (i : Int)) = ((i + 1 : Nat) : Int) := by omega
    have e2 : (1 + (i : Int) - 1) = (i : Int) := by omega
    rw [e2, e1, el (i + 1) (by omega), el i (by omega)]
    exact this
theorem cnt_zero {ws lot : List Int} {g one : Int} : cntF ws g lot one = 0 ↔ ∀ o ∈ lot, nearB ws g one o = false := by
  unfold cntF
  rw [show ((((lot.filter (nearB ws g one)).length : Nat) : Int) = 0) ↔ (lot.filter (nearB ws g one)) = [] from by
    constructor
    · intro h
      exact List.length_eq_zero_iff.mp (by omega)
    · intro h
      rw [h]; rfl]
  rw [List.filter_eq_nil_iff]
  exact ⟨fun h o ho => by simpa using h o ho, fun h o ho => by simp [h o ho]⟩
theorem cnt_nonneg {ws lot : List Int} {g one : Int} : 0 ≤ cntF ws g lot one := by unfold cntF; omega
theorem foldl_add_zero {α : Type} (f : α → Int) (hf : ∀ a, 0 ≤ f a) : ∀ (l : List α) (c : Int), 0 ≤ c → c ≤ l.foldl (fun c a => c + f a) c ∧ (l.foldl (fun c a => c + f a) c = 0 ↔ c = 0 ∧ ∀ a ∈ l, f a = 0)
  | [], c, h => by simp
  | a :: l, c, h => by
    have ih := foldl_add_zero f hf l (c + f a) (by have := hf a; omega)
    have := hf a
    rw [List.foldl_cons]
    refine ⟨by omega, ?_⟩
    rw [ih.2]
    constructor
    · rintro ⟨h1, h2⟩
      refine ⟨by omega, fun b hb => ?_⟩
      rcases List.mem_cons.mp hb with rfl | hb
      · omega
      · exact h2 b hb
    · rintro ⟨h1, h2⟩
      exact ⟨by rw [h1, h2 a List.mem_cons_self]; rfl, fun b hb => h2 b (List.mem_cons_of_mem _ hb)⟩
theorem close_zero {ws : List Int} {g : Int} (lots : List (List Int)) : closeF ws g lots = 0 ↔ ∀ lot ∈ lots, ∀ one ∈ lot, ∀ o ∈ lot, nearB ws g one o = false := by
  have e : closeF ws g lots = lots.foldl (fun c lot => c + lot.foldl (fun c one => c + cntF ws g lot one) 0) 0 := by
    unfold closeF
    have : ∀ (l : List (List Int)) (c : Int), l.foldl (closeLot ws g) c = l.foldl (fun c lot => c + lot.foldl (fun c one => c + cntF ws g lot one) 0) c := by
      intro l
      induction l with
      | nil => intro c; rfl
      | cons a l ih =>
        intro c
        rw [List.foldl_cons, List.foldl_cons, ih]
        congr 1
        unfold closeLot
        have : ∀ (l : List Int) (c d : Int), l.foldl (fun c one => c + cntF ws g a one) (c + d) = c + l.foldl (fun c one => c + cntF ws g a one) d := by
          intro l
          induction l with
          | nil => intro c d; rfl
          | cons b l ih => intro c d; rw [List.foldl_cons, List.foldl_cons, ← ih, Int.add_assoc]
        have := this a c 0
        rwa [Int.add_zero] at this
    exact this _ _
  rw [e]
  have hnn : ∀ lot : List Int, 0 ≤ lot.foldl (fun c one => c + cntF ws g lot one) 0 := fun lot => (foldl_add_zero _ (fun a => cnt_nonneg) lot 0 (by omega)).1
  rw [(foldl_add_zero (fun lot : List Int => lot.foldl (fun c one => c + cntF ws g lot one) 0) hnn lots 0 (by omega)).2]
  constructor
  · rintro ⟨_, h⟩ lot hl one ho o ho'
    have := ((foldl_add_zero _ (fun a => cnt_nonneg) lot 0 (by omega)).2.mp (h lot hl)).2 one ho
    exact cnt_zero.mp this o ho'
  · intro h
    exact ⟨rfl, fun lot hl => (foldl_add_zero _ (fun a => cnt_nonneg) lot 0 (by omega)).2.mpr ⟨rfl, fun one ho => cnt_zero.mpr (h lot hl one ho)⟩⟩
theorem near_can {ws lot : List Int} {g : Int} (hs : ws.Pairwise (· ≤ ·)) (hl : lot.Pairwise (· < ·)) (hr : ∀ z ∈ lot, 0 ≤ z ∧ z < ws.length) (hg : 0 ≤ g) :
    canF ws lot g = true ↔ ∀ one ∈ lot, ∀ o ∈ lot, nearB ws g one o = false := by
  rw [can_iff hs hl hr hg]
  constructor
  · intro h one h1 o h2
    obtain ⟨i, hi, rfl⟩ := List.mem_iff_getElem.mp h1
    obtain ⟨j, hj, rfl⟩ := List.mem_iff_getElem.mp h2
    unfold nearB
    by_cases hlt : lot[i] < lot[j]
    · have hij : i < j := by
        rcases Nat.lt_trichotomy i j with z | z | z
        · exact z
        · subst z; omega
        · have := List.pairwise_iff_getElem.mp hl _ _ hj hi z; omega
      have := h i j hij hj hi
      simp
      omega
    · simp
      omega
  · intro h i j hij hj hi
    have h1 := List.pairwise_iff_getElem.mp hl _ _ hi hj hij
    have := h _ (List.getElem_mem hi) _ (List.getElem_mem hj)
    unfold nearB at this
    simp at this
    have := this h1
    omega
/-- a row's lots -/
theorem lots_asc {row : List Int} : ∀ lot ∈ lotsF row, lot.Pairwise (· < ·) ∧ ∀ z ∈ lot, 0 ≤ z ∧ z < row.length := by
  intro lot h
  obtain ⟨o, _, rfl⟩ := List.mem_map.mp h
  exact ⟨idx_pairwise _ _, fun z hz => idx_range hz⟩
theorem ok_close {ws row : List Int} {g : Int} (hs : ws.Pairwise (· ≤ ·)) (hr : row.length = ws.length) (hg : 0 ≤ g) : okLots ws g (lotsF row) = decide (closeF ws g (lotsF row) = 0) := by
  rw [Bool.eq_iff_iff, decide_eq_true_eq, close_zero]
  unfold okLots
  rw [List.all_eq_true]
  constructor
  · intro h lot hl
    have := lots_asc lot hl
    rw [hr] at this
    exact (near_can hs this.1 this.2 hg).mp (h lot hl)
  · intro h lot hl
    have := lots_asc lot hl
    rw [hr] at this
    exact (near_can hs this.1 this.2 hg).mpr (h lot hl)
end K5

set_option Elab.async false
set_option linter.all false
set_option maxRecDepth 100000
set_option maxHeartbeats 2000000
namespace K5
open PySem PySem.Spec PyProof.Rows L2 OR
/-! ### pipes counted place by place -/
theorem ins_mem (ns : List Int) (m x : Int) : x ∈ ins ns m ↔ x ∈ ns ∨ x = m := by
  unfold ins
  split
  · rename_i h
    exact ⟨.inl, fun z => z.elim id fun e => e ▸ h⟩
  · simp
theorem key_mem (m : Int) (ns : List Int) : ∀ (j : Nat) (x : Int), x ∈ (List.range j).foldl (fun ns (key : Nat) => ins ns (m + (key : Int))) ns ↔ x ∈ ns ∨ (m ≤ x ∧ x < m + (j : Int))
  | 0, x => by simp; omega
  | j + 1, x => by
    rw [List.range_succ, List.foldl_append]
    simp only [List.foldl_cons, List.foldl_nil]
    rw [ins_mem, key_mem m ns j x]
    constructor
    · rintro ((h | h) | h)
      · exact .inl h
      · exact .inr (by omega)
      · exact .inr (by omega)
    · rintro (h | h)
      · exact .inl (.inl h)
      · by_cases e : x = m + (j : Int)
        · exact .inr e
        · exact .inl (.inr (by omega))
def mx (e m : Int) : Int := if e > m then e else m
theorem key_len {m e : Int} {ns : List Int} (h1 : ∀ x ∈ ns, x < e) (h2 : ∀ x, m ≤ x → x < e → x ∈ ns) : ∀ (j : Nat), ((((List.range j).foldl (fun ns (key : Nat) => ins ns (m + (key : Int))) ns).length : Nat) : Int) = (ns.length : Int) + (if mx e m < m + (j : Int) then m + (j : Int) - mx e m else 0)
  | 0 => by
    have : ¬ mx e m < m + ((0 : Nat) : Int) := by unfold mx; split <;> omega
    rw [if_neg this]
    simp
  | j + 1 => by
    have ih := key_len h1 h2 j
    rw [List.range_succ, List.foldl_append]
    simp only [List.foldl_cons, List.foldl_nil]
    generalize hf : (List.range j).foldl (fun ns (key : Nat) => ins ns (m + (key : Int))) ns = fs at ih
    have hm : m + (j : Int) ∈ fs ↔ m + (j : Int) < e := by
      rw [← hf, key_mem]
      constructor
      · rintro (h | h)
        · exact h1 _ h
        · omega
      · intro h
        exact .inl (h2 _ (by omega) h)
    unfold ins
    by_cases hlt : m + (j : Int) < e
    · rw [if_pos (hm.mpr hlt), ih]
      congr 1
      have : mx e m = e := by unfold mx; rw [if_pos (by omega)]
      rw [this]
      split <;> split <;> omega
    · rw [if_neg (fun z => hlt (hm.mp z)), List.length_append, List.length_singleton]
      have : mx e m ≤ m + (j : Int) := by unfold mx; split <;> omega
      push_cast
      rw [ih]
      split <;> split <;> omega
theorem pipes_places {ks : Int} {ws : List Int} (hk : 1 ≤ ks) : ∀ (lot : List Int) (ns : List Int) (e : Int), (lot.map (wAt ws)).Pairwise (· ≤ ·) → (∀ x ∈ ns, x < e) → (∀ z ∈ lot, (∀ x, wAt ws z ≤ x → x < e → x ∈ ns) ∧ e ≤ wAt ws z + ks) →
    (((lot.foldl (placeOne ks ws) ns).length : Nat) : Int) = ((lot.map (wAt ws)).foldl (pipesStep ks) ((ns.length : Int), e)).1
  | [], ns, e, _, _, _ => rfl
  | z :: lot, ns, e, hp, h1, h2 => by
    rw [List.foldl_cons, List.map_cons, List.foldl_cons]
    rw [List.map_cons, List.pairwise_cons] at hp
    obtain ⟨a1, a2⟩ := h2 z List.mem_cons_self
    have hlen := key_len h1 a1 ks.toNat
    have hks : ((ks.toNat : Nat) : Int) = ks := by omega
    have hlen2 : (((placeOne ks ws ns z).length : Nat) : Int) = (ns.length : Int) + (wAt ws z + ks - mx e (wAt ws z)) := by
      show ((((List.range ks.toNat).foldl (fun ns (key : Nat) => ins ns (wAt ws z + (key : Int))) ns).length : Nat) : Int) = _
      rw [hlen, hks]
      congr 1
      have : mx e (wAt ws z) ≤ wAt ws z + ks := by unfold mx; split <;> omega
      split <;> omega
    have hstep : pipesStep ks ((ns.length : Int), e) (wAt ws z) = (((placeOne ks ws ns z).length : Int), wAt ws z + ks) := by
      rw [hlen2]
      rfl
    rw [hstep]
    refine pipes_places hk lot (placeOne ks ws ns z) (wAt ws z + ks) hp.2 (fun x hx => ?_) fun y hy => ⟨fun x hx1 hx2 => ?_, ?_⟩
    · rcases (key_mem _ _ _ _).mp hx with h | h
      · have := h1 x h; omega
      · omega
    · refine (key_mem _ _ _ _).mpr (.inr ?_)
      have := hp.1 _ (List.mem_map_of_mem hy)
      omega
    · have := hp.1 _ (List.mem_map_of_mem hy)
      omega
theorem pipes_count {ks : Int} {ws lot : List Int} (hk : 1 ≤ ks) (hp : (lot.map (wAt ws)).Pairwise (· ≤ ·)) (h0 : ∀ z ∈ lot, 0 ≤ wAt ws z) : pipesF ks (lot.map (wAt ws)) = ((placesF ks ws lot).length : Int) := by
  unfold pipesF placesF
  rw [pipes_places hk lot [] 0 hp (fun x hx => by simp at hx) fun z hz => ⟨fun x a b => by have := h0 z hz; omega, by have := h0 z hz; omega⟩]
  rfl
theorem count_sum {ks : Int} {ws : List Int} : ∀ (lots : List (List Int)) (c : Int), lots.foldl (fun n lot => n + ((placesF ks ws lot).length : Int)) c = c + (lots.map fun lot => ((placesF ks ws lot).length : Int)).sum
  | [], c => by simp
  | a :: l, c => by
    rw [List.foldl_cons, count_sum l, List.map_cons, List.sum_cons, Int.add_assoc]
theorem cost_count {ks : Int} {ws row : List Int} (hk : 1 ≤ ks) (hw : GoodW ws) (hr : row.length = ws.length) : countF ks ws (lotsF row) = costF ks ws (lotsF row) := by
  unfold countF costF
  rw [count_sum, Int.zero_add]
  congr 1
  refine List.map_congr_left fun lot hl => ?_
  obtain ⟨a1, a2⟩ := lots_asc lot hl
  rw [hr] at a2
  rw [pipes_count hk ?_ fun z hz => ?_]
  · rw [List.pairwise_map]
    refine List.Pairwise.imp_of_mem (fun {a b} ha hb h => ?_) a1
    exact wAt_mono hw.2.1 (a2 a ha).1 (Int.le_of_lt h) (a2 b hb).2
  · exact (hw.2.2 _ (wAt_mem (a2 z hz).1 (a2 z hz).2)).1
/-! ### the ways -/
theorem own_row (n : Nat) (hn : n ≤ 4) : ∃ row ∈ sharesF n, lotsF row = (List.range n).map fun (i : Nat) => [(i : Int)] := by
  have : ∀ m : Fin 5, ∃ row ∈ sharesF m.1, lotsF row = (List.range m.1).map fun (i : Nat) => [(i : Int)] := by decide +kernel
  exact this ⟨n, by omega⟩
theorem own_ok (ws : List Int) (g : Int) (n : Nat) : okLots ws g ((List.range n).map fun (i : Nat) => [(i : Int)]) = true := by
  unfold okLots
  rw [List.all_eq_true]
  intro lot h
  obtain ⟨i, _, rfl⟩ := List.mem_map.mp h
  rfl
theorem own_cost {ks : Int} {ws : List Int} (hw : GoodW ws) : ∀ n, n ≤ ws.length → costF ks ws ((List.range n).map fun (i : Nat) => [(i : Int)]) = ks * n
  | 0, _ => by simp [costF]
  | n + 1, h => by
    have ih := own_cost (ks := ks) hw n (by omega)
    have hz := hw.2.2 _ (wAt_mem (ls := ws) (z := (n : Int)) (by omega) (by omega))
    unfold costF at ih ⊢
    rw [List.range_succ, List.map_append, List.map_append, List.sum_append, ih]
    have : pipesF ks ([(n : Int)].map (wAt ws)) = ks := by
      show 0 + (wAt ws n + ks - (if (0 : Int) > wAt ws n then 0 else wAt ws n)) = ks
      rw [if_neg (by omega)]
      omega
    simp only [List.map_cons, List.map_nil, List.sum_cons, List.sum_nil] at this ⊢
    rw [this]
    push_cast
    rw [Int.mul_add]
    omega
theorem ways_ok {ws : List Int} {g : Int} (hw : GoodW ws) (hg : 0 ≤ g) : waysF ws g = ((sharesF ws.length).filter fun row => okLots ws g (lotsF row)).map lotsF := by
  unfold waysF
  congr 1
  refine List.filter_congr fun row hr => ?_
  rw [ok_close hw.2.1 (shares_top _ hw.1 row hr).2.2 hg]
theorem pos_ways {ws : List Int} {g : Int} (hw : GoodW ws) (hg : 0 ≤ g) : 0 < (waysF ws g).length ∧ (waysF ws g).length ≤ 100 := by
  rw [ways_ok hw hg]
  obtain ⟨row, h1, h2⟩ := own_row ws.length hw.1
  have hm : row ∈ (sharesF ws.length).filter fun row => okLots ws g (lotsF row) := List.mem_filter.mpr ⟨h1, by rw [h2]; exact own_ok ..⟩
  rw [List.length_map]
  exact ⟨List.length_pos_of_mem hm, Nat.le_trans (List.length_filter_le _ _) (shares_len _ hw.1)⟩
theorem costs_eq {ks : Int} {ws : List Int} {g : Int} (hw : GoodW ws) (hk : 1 ≤ ks) : Costs ks ws g = (waysF ws g).map (costF ks ws) := by
  refine List.map_congr_left fun lots h => ?_
  obtain ⟨row, hr, rfl⟩ := List.mem_map.mp h
  exact cost_count hk hw (shares_top _ hw.1 row (List.mem_filter.mp hr).1).2.2
def bst (ks : Int) (ws : List Int) (b : Best) (lots : List (List Int)) : Best := if costF ks ws lots < b.1 then (costF ks ws lots, lots) else b
theorem best_fold {ks : Int} {ws : List Int} {g : Int} : ∀ (rows : List (List Int)) (b : Best), rows.foldl (bestStep ks ws g) b = ((rows.filter fun row => okLots ws g (lotsF row)).map lotsF).foldl (bst ks ws) b
  | [], b => rfl
  | r :: rows, b => by
    rw [List.foldl_cons, best_fold rows]
    unfold bestStep
    by_cases h : okLots ws g (lotsF r) = true
    · rw [if_pos h, List.filter_cons_of_pos (by simpa using h), List.map_cons, List.foldl_cons]
      rfl
    · rw [if_neg h, List.filter_cons_of_neg (by simpa using h)]
theorem bst_first {ks : Int} {ws : List Int} : ∀ (L : List (List (List Int))) (b : Best), (L.foldl (bst ks ws) b = b ∧ ∀ l ∈ L, b.1 ≤ costF ks ws l) ∨
    ∃ j : Nat, L[j]? = some (L.foldl (bst ks ws) b).2 ∧ (L.foldl (bst ks ws) b).1 = costF ks ws (L.foldl (bst ks ws) b).2 ∧ (L.foldl (bst ks ws) b).1 < b.1 ∧ (∀ (i : Nat) l, i < j → L[i]? = some l → (L.foldl (bst ks ws) b).1 < costF ks ws l) ∧ ∀ l ∈ L, (L.foldl (bst ks ws) b).1 ≤ costF ks ws l
  | [], b => .inl ⟨rfl, fun l h => by simp at h⟩
  | a :: L, b => by
    rw [List.foldl_cons]
    by_cases h : costF ks ws a < b.1
    · have e : bst ks ws b a = (costF ks ws a, a) := by unfold bst; rw [if_pos h]
      rw [e]
      rcases bst_first L (costF ks ws a, a) with ⟨h1, h2⟩ | ⟨j, j1, j2, j3, j4, j5⟩
      · refine .inr ⟨0, by rw [h1]; rfl, by rw [h1], by rw [h1]; exact h, fun i l hi => by omega, fun l hl => ?_⟩
        rw [h1]
        rcases List.mem_cons.mp hl with rfl | hl
        · exact Int.le_refl _
        · exact h2 l hl
      · refine .inr ⟨j + 1, by simpa using j1, j2, by have : _ < costF ks ws a := j3; omega, fun i l hi hl => ?_, fun l hl => ?_⟩
        · cases i with
          | zero =>
            simp at hl
            subst hl
            exact j3
          | succ i => exact j4 i l (by omega) (by simpa using hl)
        · rcases List.mem_cons.mp hl with rfl | hl
          · exact Int.le_of_lt j3
          · exact j5 l hl
    · have e : bst ks ws b a = b := by unfold bst; rw [if_neg h]
      rw [e]
      rcases bst_first L b with ⟨h1, h2⟩ | ⟨j, j1, j2, j3, j4, j5⟩
      · refine .inl ⟨h1, fun l hl => ?_⟩
        rcases List.mem_cons.mp hl with rfl | hl
        · omega
        · exact h2 l hl
      · refine .inr ⟨j + 1, by simpa using j1, j2, j3, fun i l hi hl => ?_, fun l hl => ?_⟩
        · cases i with
          | zero =>
            simp at hl
            subst hl
            omega
          | succ i => exact j4 i l (by omega) (by simpa using hl)
        · rcases List.mem_cons.mp hl with rfl | hl
          · omega
          · exact j5 l hl
theorem best_first {ks : Int} {ws : List Int} {g : Int} (hw : GoodW ws) (hk : 1 ≤ ks) (hg : 0 ≤ g) : ∃ j : Nat, (waysF ws g)[j]? = some (bestF ks ws g).2 ∧ (∀ (i : Nat) l, i < j → (waysF ws g)[i]? = some l → bestC ks ws g < costF ks ws l) ∧ ∀ l ∈ waysF ws g, bestC ks ws g ≤ costF ks ws l := by
  have e := best_fold (ks := ks) (ws := ws) (g := g) (sharesF ws.length) (ks * ws.length + 1, [])
  rw [← ways_ok hw hg] at e
  have e' : bestF ks ws g = (waysF ws g).foldl (bst ks ws) (ks * ws.length + 1, []) := e
  obtain ⟨row, h1, h2⟩ := own_row ws.length hw.1
  have hm : lotsF row ∈ waysF ws g := by
    rw [ways_ok hw hg]
    exact List.mem_map_of_mem (List.mem_filter.mpr ⟨h1, by rw [h2]; exact own_ok ..⟩)
  have hc : costF ks ws (lotsF row) = ks * ws.length := by rw [h2]; exact own_cost hw _ (Nat.le_refl _)
  rcases bst_first (waysF ws g) (ks * ws.length + 1, []) with ⟨_, h⟩ | ⟨j, j1, j2, j3, j4, j5⟩
  · have : ks * (ws.length : Int) + 1 ≤ costF ks ws (lotsF row) := h _ hm
    omega
  · rw [← e'] at j1 j2 j4 j5
    unfold bestC
    rw [← j2]
    exact ⟨j, j1, j4, j5⟩
theorem low_best {ks : Int} {ws : List Int} {g m : Int} (hw : GoodW ws) (hk : 1 ≤ ks) (hg : 0 ≤ g) (h1 : m ∈ Costs ks ws g) (h2 : ∀ y ∈ Costs ks ws g, m ≤ y) : m = bestC ks ws g ∧ ∃ j : Nat, (Costs ks ws g)[j]? = some m ∧ (∀ i : Nat, i < j → (Costs ks ws g)[i]? ≠ some m) ∧ (waysF ws g)[j]? = some (bestF ks ws g).2 := by
  obtain ⟨j, j1, j2, j3⟩ := best_first (ks := ks) hw hk hg
  rw [costs_eq hw hk] at h1 h2 ⊢
  have hm : bestC ks ws g ∈ (waysF ws g).map (costF ks ws) := List.mem_map_of_mem (List.mem_of_getElem? j1)
  obtain ⟨l, hl, el⟩ := List.mem_map.mp h1
  have e : m = bestC ks ws g := by
    have a := h2 _ hm
    have b := j3 l hl
    omega
  subst e
  refine ⟨rfl, j, by rw [List.getElem?_map, j1]; rfl, fun i hi h => ?_, j1⟩
  rw [List.getElem?_map] at h
  obtain ⟨l', hl', e'⟩ := Option.map_eq_some_iff.mp h
  have := j2 i l' hi hl'
  omega
/-! ### the fewest ranks -/
abbrev pr (ks : Int) (ws : List Int) (l : List (List Int)) : P2 := ((l.length : Int), costF ks ws l)
def fst2 (ks : Int) (ws : List Int) (b : Option P2) (l : List (List Int)) : Option P2 := match b with
  | none => some (pr ks ws l)
  | some p => if pLt (pr ks ws l) p = true then some (pr ks ws l) else some p
theorem few_fold {ks : Int} {ws : List Int} {g : Int} : ∀ (rows : List (List Int)) (b : Option P2), rows.foldl (fewStep ks ws g) b = ((rows.filter fun row => okLots ws g (lotsF row)).map lotsF).foldl (fst2 ks ws) b
  | [], b => rfl
  | r :: rows, b => by
    rw [List.foldl_cons, few_fold rows]
    unfold fewStep
    by_cases h : okLots ws g (lotsF r) = true
    · rw [if_pos h, List.filter_cons_of_pos (by simpa using h), List.map_cons, List.foldl_cons]
      rfl
    · rw [if_neg h, List.filter_cons_of_neg (by simpa using h)]
theorem few_some {ks : Int} {ws : List Int} : ∀ (L : List (List (List Int))) (p : P2), L.foldl (fst2 ks ws) (some p) = some ((L.map (pr ks ws)).foldl (fun a y => if pLt y a = true then y else a) p)
  | [], p => rfl
  | a :: L, p => by
    rw [List.foldl_cons, List.map_cons, List.foldl_cons, ← few_some L]
    congr 1
    show (if pLt (pr ks ws a) p = true then some (pr ks ws a) else some p) = _
    split <;> rfl
theorem lt_pLt (p q : P2) : PySem.W.DatumOrd.lt p q = pLt p q := ((PySem.W.DatumOrd.lt_eq (α := Int × Int) p q).symm.trans (dP_lt p q))
theorem few_min {ks : Int} {ws : List Int} {g : Int} {x : P2} {xs : List P2} (hw : GoodW ws) (hk : 1 ≤ ks) (hg : 0 ≤ g) (h : ((waysF ws g).map fun l => ((l.length : Int), countF ks ws l)) = x :: xs) : fewF ks ws g = some (PySem.W.minOf (α := Int × Int) x xs) := by
  have hp : ((waysF ws g).map fun l => ((l.length : Int), countF ks ws l)) = (waysF ws g).map (pr ks ws) := by
    refine List.map_congr_left fun lots h => ?_
    obtain ⟨row, hr, rfl⟩ := List.mem_map.mp h
    rw [cost_count hk hw (shares_top _ hw.1 row (List.mem_filter.mp hr).1).2.2]
  rw [hp] at h
  have e := few_fold (ks := ks) (ws := ws) (g := g) (sharesF ws.length) none
  rw [← ways_ok hw hg] at e
  have e' : fewF ks ws g = (waysF ws g).foldl (fst2 ks ws) none := e
  rw [e']
  cases hL : waysF ws g with
  | nil => rw [hL] at h; cases h
  | cons a L =>
    rw [hL, List.map_cons] at h
    injection h with h1 h2
    rw [List.foldl_cons]
    show L.foldl (fst2 ks ws) (some (pr ks ws a)) = _
    rw [few_some, h1, h2]
    unfold PySem.W.minOf
    congr 2
/-! ### the greatest gap -/
theorem good_succ (ks : Int) (ws : List Int) (pi : Int) (n : Nat) : goodF ks ws pi (n + 1) = goodF ks ws pi n ++ (if bestC ks ws (n : Int) ≤ pi then [(n : Int)] else []) := by
  unfold goodF
  rw [List.range_succ, List.filter_append, List.map_append]
  congr 1
  by_cases h : bestC ks ws (n : Int) ≤ pi <;> simp [h]
theorem gap_last (ks : Int) (ws : List Int) (pi : Int) : ∀ n : Nat, (List.range n).foldl (gapStep ks ws pi) none = (goodF ks ws pi n).getLast?
  | 0 => rfl
  | n + 1 => by
    rw [List.range_succ, List.foldl_append, gap_last ks ws pi n, good_succ]
    show gapStep ks ws pi _ n = _
    unfold gapStep
    by_cases h : bestC ks ws (n : Int) ≤ pi
    · rw [if_pos h, if_pos (show costF ks ws (bestF ks ws (n : Int)).2 ≤ pi from h), List.getLast?_append]
      rfl
    · rw [if_neg h, if_neg (show ¬ costF ks ws (bestF ks ws (n : Int)).2 ≤ pi from h), List.append_nil]
theorem can_far {ws lot : List Int} {g : Int} (hw : GoodW ws) (hr : ∀ z ∈ lot, 0 ≤ z ∧ z < ws.length) (hg : 16 ≤ g) : canF ws lot g = canF ws lot 16 := by
  unfold canF
  rw [Bool.eq_iff_iff, List.all_eq_true, List.all_eq_true]
  have key : ∀ i ∈ List.range (lot.length - 1), wAt ws (wAt lot (1 + (i : Int))) - wAt ws (wAt lot (1 + (i : Int) - 1)) ≤ 15 := by
    intro i hi
    have hi' := List.mem_range.mp hi
    have m1 := hr _ (wAt_mem (ls := lot) (z := 1 + (i : Int)) (by omega) (by omega))
    have m0 := hr _ (wAt_mem (ls := lot) (z := 1 + (i : Int) - 1) (by omega) (by omega))
    have n1 := hw.2.2 _ (wAt_mem m1.1 m1.2)
    have n0 := hw.2.2 _ (wAt_mem m0.1 m0.2)
    omega
  constructor
  · intro h i hi
    have a := key i hi
    have b := of_decide_eq_true (h i hi)
    omega
  · intro h i hi
    have a := key i hi
    have b := of_decide_eq_true (h i hi)
    omega
theorem best_far {ks : Int} {ws : List Int} {g : Int} (hw : GoodW ws) (hg : 16 ≤ g) : bestC ks ws g = bestC ks ws 16 := by
  unfold bestC bestF
  congr 2
  have : ∀ (rows : List (List Int)) (b : Best), (∀ row ∈ rows, row.length = ws.length) → rows.foldl (bestStep ks ws g) b = rows.foldl (bestStep ks ws 16) b := by
    intro rows
    induction rows with
    | nil => intro b _; rfl
    | cons r rows ih =>
      intro b h
      rw [List.foldl_cons, List.foldl_cons, ih _ fun row hr => h row (List.mem_cons_of_mem _ hr)]
      congr 1
      unfold bestStep
      have : okLots ws g (lotsF r) = okLots ws 16 (lotsF r) := by
        unfold okLots
        rw [Bool.eq_iff_iff, List.all_eq_true, List.all_eq_true]
        have hl := fun lot (hl : lot ∈ lotsF r) => can_far (g := g) hw (by have := (lots_asc lot hl).2; rw [h r List.mem_cons_self] at this; exact this) hg
        exact ⟨fun z lot hm => by rw [← hl lot hm]; exact z lot hm, fun z lot hm => by rw [hl lot hm]; exact z lot hm⟩
      rw [this]
  exact this _ _ fun row hr => (shares_top _ hw.1 row hr).2.2
theorem good_far {ks : Int} {ws : List Int} {pi : Int} (hw : GoodW ws) (h : ¬ bestC ks ws 16 ≤ pi) : ∀ j : Nat, goodF ks ws pi (20 + j) = goodF ks ws pi 20
  | 0 => rfl
  | j + 1 => by
    rw [← Nat.add_assoc, good_succ, good_far hw h j, best_far hw (by omega), if_neg h, List.append_nil]
theorem mem_good {ks : Int} {ws : List Int} {pi : Int} {n : Nat} {z : Nat} : (z : Int) ∈ goodF ks ws pi n ↔ z < n ∧ bestC ks ws (z : Int) ≤ pi := by
  unfold goodF
  rw [List.mem_map]
  constructor
  · rintro ⟨o, ho, e⟩
    obtain ⟨h1, h2⟩ := List.mem_filter.mp ho
    have : o = z := by omega
    subst this
    exact ⟨List.mem_range.mp h1, of_decide_eq_true h2⟩
  · rintro ⟨h1, h2⟩
    exact ⟨z, List.mem_filter.mpr ⟨List.mem_range.mpr h1, by simpa using h2⟩, rfl⟩
theorem gap_due {ks : Int} {ws : List Int} {pi : Int} (hw : GoodW ws) : gapF ks ws pi = dueF (goodF ks ws pi 20) := by
  unfold gapF
  rw [gap_last]
  by_cases h : bestC ks ws 16 ≤ pi
  · have h19 : (19 : Int) ∈ goodF ks ws pi 20 := (mem_good (z := 19)).mpr ⟨by omega, by rw [show ((19 : Nat) : Int) = 19 from rfl, best_far hw (by omega)]; exact h⟩
    have h100 : goodF ks ws pi 101 = goodF ks ws pi 100 ++ [(100 : Int)] := by
      rw [good_succ ks ws pi 100, if_pos (by rw [best_far hw (by omega)]; exact h)]
      rfl
    rw [h100, List.getLast?_append]
    unfold dueF
    have : ¬ (goodF ks ws pi 20).length = 0 := fun z => by
      rw [List.length_eq_zero_iff.mp z] at h19
      simp at h19
    rw [if_neg this, if_pos h19]
    rfl
  · have h19 : ¬ (19 : Int) ∈ goodF ks ws pi 20 := fun z => by
      have := (mem_good (z := 19)).mp z
      rw [show ((19 : Nat) : Int) = 19 from rfl, best_far hw (by omega)] at this
      exact h this.2
    rw [show (101 : Nat) = 20 + 81 from rfl, good_far hw h 81]
    unfold dueF
    rw [if_neg h19]
    split
    · rename_i z
      rw [List.length_eq_zero_iff.mp z]
      rfl
    · rfl
/-! ### good wishes -/
theorem aw_good {ws : List Int} (hw : GoodW ws) : awS (iT ws) = true := by
  have gd : ∀ i (h : i < ws.length), (ws.map PyData.int).getD i .none = .int ws[i] := fun i h => by
    rw [List.getD_eq_getElem?_getD, List.getElem?_map, List.getElem?_eq_getElem h]; rfl
  show (decide ((ws.map PyData.int).length ≤ 6) && (ws.map PyData.int).all (fun x => okI x 0 60) && ascD (ws.map PyData.int)) = true
  rw [Bool.and_eq_true, Bool.and_eq_true, List.length_map, List.all_map]
  refine ⟨⟨by have := hw.1; simp; omega, ?_⟩, ?_⟩
  · rw [List.all_eq_true]
    intro z hz
    have := hw.2.2 z hz
    simp [okI]
    omega
  · unfold ascD
    rw [List.all_eq_true, List.length_map]
    intro i hi
    have hi' := List.mem_range.mp hi
    rw [gd i (by omega), gd (i + 1) (by omega)]
    have := List.pairwise_iff_getElem.mp hw.2.1 i (i + 1) (by omega) (by omega) (by omega)
    simp [leD]
    exact this
theorem plain : Plain where
  aw := fun ws h => aw_good h
  pos := fun ws g h hg => pos_ways h hg
  low := fun ks ws g m h h1 h2 hg => low_best h h1 hg
  few := fun ks ws g x xs h h1 h2 hg => few_min h h1 hg
  gap := fun ks ws pi h h1 h2 => gap_due h
end K5

set_option Elab.async false
set_option linter.all false
set_option maxRecDepth 100000
set_option maxHeartbeats 4000000
namespace K5
open PySem PySem.Spec PyProof.Rows L2 OR
/-! ### what the written part says -/
structure TopIn (K : PySem.W.Frag) : Prop where
  n_isinstance : PySem.W.nsIn K mainGlobals "isinstance" = some none
  n_int : PySem.W.nsIn K mainGlobals "int" = some none
  n_bool : PySem.W.nsIn K mainGlobals "bool" = some none
  n_tuple : PySem.W.nsIn K mainGlobals "tuple" = some none
  n_len : PySem.W.nsIn K mainGlobals "len" = some none
  n_all : PySem.W.nsIn K mainGlobals "all" = some none
  n_range : PySem.W.nsIn K mainGlobals "range" = some none
  n_max : PySem.W.nsIn K mainGlobals "max" = some none
  n_min : PySem.W.nsIn K mainGlobals "min" = some none
  n_sum : PySem.W.nsIn K mainGlobals "sum" = some none
  n_set : PySem.W.nsIn K mainGlobals "set" = some none
  n_abs : PySem.W.nsIn K mainGlobals "abs" = some none
  n_zip : PySem.W.nsIn K mainGlobals "zip" = some none
  n_sorted : PySem.W.nsIn K mainGlobals "sorted" = some none
  n_super : PySem.W.nsIn K mainGlobals "super" = some none
  c_MOST_WISHES : ∃ t, PySem.W.nsIn K mainGlobals "MOST_WISHES" = some (some (.int 6 t))
  c_MOST_MOVE : ∃ t, PySem.W.nsIn K mainGlobals "MOST_MOVE" = some (some (.int 60 t))
  c_MOST_KEYS : ∃ t, PySem.W.nsIn K mainGlobals "MOST_KEYS" = some (some (.int 100 t))
theorem TopIn.top {K : PySem.W.Frag} {h : Heap} {mg : Str → Option Value} (t : TopIn K) (X : K.In h) (G : h.Ns mainGlobals mg) : Top K mg where
  isi := PySem.W.mg_none_of X G t.n_isinstance
  int := PySem.W.mg_none_of X G t.n_int
  bool := PySem.W.mg_none_of X G t.n_bool
  tuple := PySem.W.mg_none_of X G t.n_tuple
  len := PySem.W.mg_none_of X G t.n_len
  all := PySem.W.mg_none_of X G t.n_all
  range := PySem.W.mg_none_of X G t.n_range
  max := PySem.W.mg_none_of X G t.n_max
  min := PySem.W.mg_none_of X G t.n_min
  sum := PySem.W.mg_none_of X G t.n_sum
  set := PySem.W.mg_none_of X G t.n_set
  abs := PySem.W.mg_none_of X G t.n_abs
  zip := PySem.W.mg_none_of X G t.n_zip
  sorted := PySem.W.mg_none_of X G t.n_sorted
  wishes := let ⟨u, e⟩ := t.c_MOST_WISHES; ⟨u, PySem.W.mg_of X G e⟩
  move := let ⟨u, e⟩ := t.c_MOST_MOVE; ⟨u, PySem.W.mg_of X G e⟩
  keys := let ⟨u, e⟩ := t.c_MOST_KEYS; ⟨u, PySem.W.mg_of X G e⟩
structure DefsIn (K : PySem.W.Frag) : Prop where
  d3 : ∃ f, DefAt K "is_integer" (top 3) f
  d4 : ∃ f, DefAt K "need_integer" (top 4) f
  d10 : ∃ f, DefAt K "need_build" (top 10) f
  d11 : ∃ f, DefAt K "pipes_for" (top 11) f
  d12 : ∃ f, DefAt K "can_share" (top 12) f
  d13 : ∃ f, DefAt K "all_shares" (top 13) f
  d14 : ∃ f, DefAt K "lots_of" (top 14) f
  d15 : ∃ f, DefAt K "cost_of" (top 15) f
  d16 : ∃ f, DefAt K "fewest_pipes" (top 16) f
  d17 : ∃ f, DefAt K "best_lots" (top 17) f
  d18 : ∃ f, DefAt K "best_ranks" (top 18) f
  d19 : ∃ f, DefAt K "saved" (top 19) f
  d20 : ∃ f, DefAt K "fewest_ranks" (top 20) f
  d21 : ∃ f, DefAt K "greatest_gap" (top 21) f
  d23 : ∃ f, DefAt K "_law_dice" (top 23) f
  d24 : ∃ f, DefAt K "_law_roll" (top 24) f
  d25 : ∃ f, DefAt K "_law_pick" (top 25) f
  d26 : ∃ f, DefAt K "_law_refused" (top 26) f
  d27 : ∃ f, DefAt K "_law_ways" (top 27) f
  d28 : ∃ f, DefAt K "_law_pipes" (top 28) f
  d30 : ∃ f, DefAt K "law" (top 30) f
  dc : ∃ f ca P f2 ca2 P2, DefAtC K "are_wishes" (top 9) f ca P ∧ DefAtC K "_law_right" (top 29) f2 ca2 P2 ∧ P ≠ P2
theorem b3 : Plc "is_integer" (top 3) ["value"] := fun _ _ _ _ _ _ us hl => match us, hl with | [_], _ => rfl
theorem b4 : Plc "need_integer" (top 4) ["value", "name", "least", "most"] := fun _ _ _ _ _ _ us hl => match us, hl with | [_, _, _, _], _ => rfl
theorem b10 : Plc "need_build" (top 10) ["keys", "wishes", "gap"] := fun _ _ _ _ _ _ us hl => match us, hl with | [_, _, _], _ => rfl
theorem b11 : Plc "pipes_for" (top 11) ["keys", "moves"] := fun _ _ _ _ _ _ us hl => match us, hl with | [_, _], _ => rfl
theorem b12 : Plc "can_share" (top 12) ["wishes", "lot", "gap"] := fun _ _ _ _ _ _ us hl => match us, hl with | [_, _, _], _ => rfl
theorem b13 : Plc "all_shares" (top 13) ["many"] := fun _ _ _ _ _ _ us hl => match us, hl with | [_], _ => rfl
theorem b14 : Plc "lots_of" (top 14) ["row"] := fun _ _ _ _ _ _ us hl => match us, hl with | [_], _ => rfl
theorem b15 : Plc "cost_of" (top 15) ["keys", "wishes", "lots"] := fun _ _ _ _ _ _ us hl => match us, hl with | [_, _, _], _ => rfl
theorem b16 : Plc "fewest_pipes" (top 16) ["keys", "wishes", "gap"] := fun _ _ _ _ _ _ us hl => match us, hl with | [_, _, _], _ => rfl
theorem b17 : Plc "best_lots" (top 17) ["keys", "wishes", "gap"] := fun _ _ _ _ _ _ us hl => match us, hl with | [_, _, _], _ => rfl
theorem b18 : Plc "best_ranks" (top 18) ["keys", "wishes", "gap"] := fun _ _ _ _ _ _ us hl => match us, hl with | [_, _, _], _ => rfl
theorem b19 : Plc "saved" (top 19) ["keys", "wishes", "gap"] := fun _ _ _ _ _ _ us hl => match us, hl with | [_, _, _], _ => rfl
theorem b20 : Plc "fewest_ranks" (top 20) ["keys", "wishes", "gap"] := fun _ _ _ _ _ _ us hl => match us, hl with | [_, _, _], _ => rfl
theorem b21 : Plc "greatest_gap" (top 21) ["keys", "wishes", "pipes"] := fun _ _ _ _ _ _ us hl => match us, hl with | [_, _, _], _ => rfl
theorem b23 : Plc "_law_dice" (top 23) ["script", "spot"] := fun _ _ _ _ _ _ us hl => match us, hl with | [_, _], _ => rfl
theorem b24 : Plc "_law_roll" (top 24) ["dice", "many"] := fun _ _ _ _ _ _ us hl => match us, hl with | [_, _], _ => rfl
theorem b25 : Plc "_law_pick" (top 25) ["dice", "things"] := fun _ _ _ _ _ _ us hl => match us, hl with | [_, _], _ => rfl
theorem b26 : Plc "_law_refused" (top 26) ["call"] := fun _ _ _ _ _ _ us hl => match us, hl with | [_], _ => rfl
theorem b27 : Plc "_law_ways" (top 27) ["wishes", "gap"] := fun _ _ _ _ _ _ us hl => match us, hl with | [_, _], _ => rfl
theorem b28 : Plc "_law_pipes" (top 28) ["keys", "wishes", "lots"] := fun _ _ _ _ _ _ us hl => match us, hl with | [_, _, _], _ => rfl
theorem b30 : Plc "law" (top 30) ["script"] := fun _ _ _ _ _ _ us hl => match us, hl with | [_], _ => rfl
theorem b9 : Plc "are_wishes" (top 9) ["value"] := fun _ _ _ _ _ _ us hl => match us, hl with | [_], _ => rfl
theorem b29 : Plc "_law_right" (top 29) ["dice"] := fun _ _ _ _ _ _ us hl => match us, hl with | [_], _ => rfl
theorem kb16 : Kw1 "fewest_pipes" (top 16) ["keys", "wishes", "gap"] "gap" := fun _ _ _ _ _ _ us z hl => match us, hl with | [_, _], _ => rfl
theorem kb18 : Kw1 "best_ranks" (top 18) ["keys", "wishes", "gap"] "gap" := fun _ _ _ _ _ _ us z hl => match us, hl with | [_, _], _ => rfl
theorem kb19 : Kw1 "saved" (top 19) ["keys", "wishes", "gap"] "gap" := fun _ _ _ _ _ _ us z hl => match us, hl with | [_, _], _ => rfl
theorem kb20 : Kw1 "fewest_ranks" (top 20) ["keys", "wishes", "gap"] "gap" := fun _ _ _ _ _ _ us z hl => match us, hl with | [_, _], _ => rfl
theorem kb21 : Kw1 "greatest_gap" (top 21) ["keys", "wishes", "pipes"] "pipes" := fun _ _ _ _ _ _ us z hl => match us, hl with | [_, _], _ => rfl
theorem sc_ref : FnScope ["call", "e"] ["call"] (defScope (top 26)) := ⟨rfl, rfl, rfl, by decide +kernel, rfl, by decide +kernel, by decide +kernel⟩
theorem ref_mk {K : PySem.W.Frag} {h : Heap} {mg : Str → Option Value} {g C fI : Addr} (X : K.In h) (G : h.Ns mainGlobals mg) (BT : PySem.OrX.BadTxt PG K mg C fI) (D : DefAt K "_law_refused" (top 26) g) : RefO PG K mg (top 26) g C := by
  obtain ⟨oc, od, kV, doc, pm, an, cdv, ct, osl, l, c⟩ := D.fn
  refine ⟨D.at X G, D.kp, ⟨oc, od, kV, doc, pm, an, cdv, ct, osl, l, c, .all (b26 kV doc pm an cdv ct)⟩, sc_ref, fun X' q cdg e1 e2 e3 => ?_, BT.te⟩
  obtain ⟨prog, w, K', mg', A, stack, N, env, base, gs, os, s0, xe, fn, calm⟩ := X'
  cases e1
  cases e2
  cases e3
  exact ref_gives BT rfl rfl
def nmA : Str := ("are_wishes" : Str) ++ ".<locals>." ++ "<genexpr>"
def nmR : Str := ("_law_right" : Str) ++ ".<locals>." ++ "<lambda>"
theorem ends {K : PySem.W.Frag} {w : World} {h : Heap} {mg : Str → Option Value} {fa : Addr} (X : K.In h) (G : h.Ns mainGlobals mg) (hfa : mg "law" = some (.ref fa)) (t : TopIn K) (ds : DefsIn K) (bt : ∃ C fI, PySem.OrX.BadTxt PG K mg C fI)
    (own : ∀ (y : Str) (f : Addr), y = "are_wishes" ∨ y = "_law_right" → mg y = some (.ref f) → LamX.OwnTab K f h) (l : PySem.W.OpenLaw) (hl : l.prog = PG) : LamX.LawAtS l w K (L2.CX PG w) 10 63 "script" mg fa h := by
  obtain ⟨C, fI, BT⟩ := bt
  have Tp := t.top X G
  obtain ⟨f3, D3⟩ := ds.d3
  obtain ⟨f4, D4⟩ := ds.d4
  obtain ⟨f10, D10⟩ := ds.d10
  obtain ⟨f11, D11⟩ := ds.d11
  obtain ⟨f12, D12⟩ := ds.d12
  obtain ⟨f13, D13⟩ := ds.d13
  obtain ⟨f14, D14⟩ := ds.d14
  obtain ⟨f15, D15⟩ := ds.d15
  obtain ⟨f16, D16⟩ := ds.d16
  obtain ⟨f17, D17⟩ := ds.d17
  obtain ⟨f18, D18⟩ := ds.d18
  obtain ⟨f19, D19⟩ := ds.d19
  obtain ⟨f20, D20⟩ := ds.d20
  obtain ⟨f21, D21⟩ := ds.d21
  obtain ⟨f23, D23⟩ := ds.d23
  obtain ⟨f24, D24⟩ := ds.d24
  obtain ⟨f25, D25⟩ := ds.d25
  obtain ⟨f26, D26⟩ := ds.d26
  obtain ⟨f27, D27⟩ := ds.d27
  obtain ⟨f28, D28⟩ := ds.d28
  obtain ⟨f30, D30⟩ := ds.d30
  obtain ⟨f9, ca9, P9, f29, ca29, P29, D9, D29, hne⟩ := ds.dc
  have ow9 := D9.own (own _ f9 (.inl rfl) (D9.def.at X G))
  have ow29 := D29.own (own _ f29 (.inr rfl) (D29.def.at X G))
  have e := hfa.symm.trans (D30.at X G)
  cases e
  obtain ⟨fd30, F30⟩ := D30.fd
  have F30' := F30
  obtain ⟨oc, od, kV, doc, pm, an, cdv, ct, osl, rfl, lk, hcd⟩ := F30.ex
  have mem : ∀ {p : Addr × Addr} {A : Addr × Addr → Prop}, A (ca9, P9) → A (ca29, P29) → p ∈ [(ca9, P9), (ca29, P29)] → A p := fun h1 h2 hp => by
    rcases List.mem_cons.mp hp with rfl | hp
    · exact h1
    · obtain rfl := List.mem_singleton.mp hp
      exact h2
  refine ⟨_, [(ca9, P9), (ca29, P29)], spO K [(P9, nmA), (P29, nmR)] R_law, fun p hp => mem (A := fun p => h.get? p.2 = some { cls := .none, data := .fields #[] }) ow9 ow29 hp, fun p hp => mem (A := fun p => K.lookup p.2 = none) D9.no D29.no hp, fun p hp => mem (A := fun p => PySem.W.CodeHd h p.1 p.2) (PySem.W.codeHd_of_K X D9.hd) (PySem.W.codeHd_of_K X D29.hd) hp, fun s u => .of_eq (b30 kV doc pm an cdv ct [u] rfl), fun H a ns hn hb hT hS => law_sp (fun p hp => ?_) hS ⟨ns, rfl, rfl, by omega, rfl⟩, fun base KX GX TB => ?_⟩
  · rcases List.mem_cons.mp hp with rfl | hp
    · exact LamX.TabS.nil (hT (ca9, P9) (by simp))
    · obtain rfl := List.mem_singleton.mp hp
      exact LamX.TabS.nil (hT (ca29, P29) (by simp))
  rw [hl]
  let T : List (Addr × Str) := [(P9, nmA), (P29, nmR)]
  have tb9 := TB (ca9, P9) (by simp)
  have tb29 := TB (ca29, P29) (by simp)
  have hT9 : (P9, nmA) ∈ T := List.mem_cons_self
  have hT29 : (P29, nmR) ∈ T := List.mem_cons_of_mem _ List.mem_cons_self
  have hu9 : ∀ p ∈ T, p.1 = P9 → p.2 = nmA := fun p hp e => by
    rcases List.mem_cons.mp hp with rfl | hp
    · rfl
    · obtain rfl := List.mem_singleton.mp hp
      exact absurd e.symm hne
  have hu29 : ∀ p ∈ T, p.1 = P29 → p.2 = nmR := fun p hp e => by
    rcases List.mem_cons.mp hp with rfl | hp
    · exact absurd e hne
    · obtain rfl := List.mem_singleton.mp hp
      rfl
  have c3 : CalO PG w K mg base T 1 "is_integer" R_isint [] := cal_mk D3 X G b3 fun fd F => ok_isint F Tp
  have c4 : CalO PG w K mg base T 2 "need_integer" (R_needint C) [] := cal_mk D4 X G b4 fun fd F => ok_needint F BT c3
  have c9 : CalO PG w K mg base T 3 "are_wishes" R_wishes [] := cal_c D9 X G b9 fun fd F => ok_wishes F Tp tb9 hT9 hu9 c3
  have c10 : CalO PG w K mg base T 4 "need_build" (R_need C) [] := cal_mk D10 X G b10 fun fd F => ok_need F Tp BT c4 c9
  have c11 : CalO PG w K mg base T 1 "pipes_for" R_pipes [] := cal_mk D11 X G b11 fun fd F => ok_pipes F Tp
  have c12 : CalO PG w K mg base T 2 "can_share" R_can [] := cal_mk D12 X G b12 fun fd F => ok_can F Tp
  have c13 : CalO PG w K mg base T 2 "all_shares" R_shares [] := cal_mk D13 X G b13 fun fd F => ok_shares F Tp
  have c14 : CalO PG w K mg base T 2 "lots_of" R_lots [] := cal_mk D14 X G b14 fun fd F => ok_lots F Tp
  have c15 : CalO PG w K mg base T 3 "cost_of" R_cost [] := cal_mk D15 X G b15 fun fd F => ok_cost F Tp c11
  have c17 : CalO PG w K mg base T 5 "best_lots" R_best [] := cal_mk D17 X G b17 fun fd F => ok_best F Tp c13 c14 c12 c15
  have c16 := cal_kw "gap" D16 X G (by simp) b16 kb16 fun fd F => ok_few (w := w) (base := base) (T := T) F c10 c17 c15
  have c18 := cal_kw "gap" D18 X G (by simp) b18 kb18 fun fd F => ok_rnk (w := w) (base := base) (T := T) F Tp c10 c17
  have c19 := cal_kw "gap" D19 X G (by simp) b19 kb19 fun fd F => ok_sav (w := w) (base := base) (T := T) F Tp c10 c17 c15
  have c20 := cal_kw "gap" D20 X G (by simp) b20 kb20 fun fd F => ok_fwr (w := w) (base := base) (T := T) F Tp c10 c13 c14 c12 c15
  have c21 := cal_kw "pipes" D21 X G (by simp) b21 kb21 fun fd F => ok_gap (w := w) (base := base) (T := T) F Tp BT c4 c9 c17 c15
  have c23 : CalO PG w K mg base T 1 "_law_dice" R_ldice [] := cal_mk D23 X G b23 fun fd F => ok_ldice F Tp
  have c24 : CalO PG w K mg base T 1 "_law_roll" R_roll [] := cal_mk D24 X G b24 fun fd F => ok_roll F Tp
  have c25 : CalO PG w K mg base T 2 "_law_pick" R_pick [] := cal_mk D25 X G b25 fun fd F => ok_pick F Tp c24
  have c27 : CalO PG w K mg base T 2 "_law_ways" R_ways [] := cal_mk D27 X G b27 fun fd F => ok_ways F Tp
  have c28 : CalO PG w K mg base T 1 "_law_pipes" R_lpipes [] := cal_mk D28 X G b28 fun fd F => ok_lpipes F Tp
  have RF := ref_mk X G BT D26
  have c29 : CalO PG w K mg base T 9 "_law_right" R_right [] := cal_c D29 X G b29 fun fd F => ok_right plain F Tp tb29 hT29 hu29 RF ⟨c24, c27, c25, c28, c9, c16, c18, c19, c20, c21⟩
  exact ok_law (kr := 8) F30' Tp c23 c29
end K5

open PySem PySem.W PyProof.Rows
set_option Elab.async false
set_option linter.all false
namespace K5
/-- an error of one's own class is what its class's clause names -/
theorem exm_own {K : Frag} {S : Addr} (h1 : subIn K (.ref S) (.type "BaseException") = some true) (h2 : isClsIn K S = true) (h3 : typeIn K (.ref S) = some (.type "type")) (h4 : subIn K (.ref S) (.ref S) = some true) : exmOne K (.ref S) (.ref S) = some true := by
  have h2' : (clsIn K S).isSome = true := h2
  unfold exmOne
  rw [h1]
  unfold kitCls
  simp [h2', h3, h4]
end K5
set_option maxRecDepth 100000 in
set_option maxHeartbeats 8000000 in
theorem PySem.Challenge.cw_organranks_k05_whole_building_holds : PySem.Challenge.rw_organranks_k05_whole_building.Holds := by
  w_on; o_law; k_head; (case hw => w_witness2)
  k_fill
  refine OR.walk_all (l := PySem.Challenge.rw_organranks_k05_whole_building) (n := 63) (k := 10) (x := "script") (P := K5.PG) rfl (by decide) rfl ⟨rfl, by decide, by decide⟩ (fun w h Y => km_in_of Y) ?_
  intro w mg fa h KX G hmg own
  refine K5.ends KX G hmg ?t ?ds ?bt (fun y f hy hf => own y f ?_ hf) _ rfl
  case t => exact ⟨by k_is, by k_is, by k_is, by k_is, by k_is, by k_is, by k_is, by k_is, by k_is, by k_is, by k_is, by k_is, by k_is, by k_is, by k_is, ⟨_, by k_is⟩, ⟨_, by k_is⟩, ⟨_, by k_is⟩⟩
  case ds =>
    constructor
    · exact ⟨_, by k_is, ⟨_, _, _, _, _, _, _, _, _, by k_is, by k_is⟩, by k_is⟩
    · exact ⟨_, by k_is, ⟨_, _, _, _, _, _, _, _, _, by k_is, by k_is⟩, by k_is⟩
    · exact ⟨_, by k_is, ⟨_, _, _, _, _, _, _, _, _, by k_is, by k_is⟩, by k_is⟩
    · exact ⟨_, by k_is, ⟨_, _, _, _, _, _, _, _, _, by k_is, by k_is⟩, by k_is⟩
    · exact ⟨_, by k_is, ⟨_, _, _, _, _, _, _, _, _, by k_is, by k_is⟩, by k_is⟩
    · exact ⟨_, by k_is, ⟨_, _, _, _, _, _, _, _, _, by k_is, by k_is⟩, by k_is⟩
    · exact ⟨_, by k_is, ⟨_, _, _, _, _, _, _, _, _, by k_is, by k_is⟩, by k_is⟩
    · exact ⟨_, by k_is, ⟨_, _, _, _, _, _, _, _, _, by k_is, by k_is⟩, by k_is⟩
    · exact ⟨_, by k_is, ⟨_, _, _, _, _, _, _, _, _, by k_is, by k_is⟩, by k_is⟩
    · exact ⟨_, by k_is, ⟨_, _, _, _, _, _, _, _, _, by k_is, by k_is⟩, by k_is⟩
    · exact ⟨_, by k_is, ⟨_, _, _, _, _, _, _, _, _, by k_is, by k_is⟩, by k_is⟩
    · exact ⟨_, by k_is, ⟨_, _, _, _, _, _, _, _, _, by k_is, by k_is⟩, by k_is⟩
    · exact ⟨_, by k_is, ⟨_, _, _, _, _, _, _, _, _, by k_is, by k_is⟩, by k_is⟩
    · exact ⟨_, by k_is, ⟨_, _, _, _, _, _, _, _, _, by k_is, by k_is⟩, by k_is⟩
    · exact ⟨_, by k_is, ⟨_, _, _, _, _, _, _, _, _, by k_is, by k_is⟩, by k_is⟩
    · exact ⟨_, by k_is, ⟨_, _, _, _, _, _, _, _, _, by k_is, by k_is⟩, by k_is⟩
    · exact ⟨_, by k_is, ⟨_, _, _, _, _, _, _, _, _, by k_is, by k_is⟩, by k_is⟩
    · exact ⟨_, by k_is, ⟨_, _, _, _, _, _, _, _, _, by k_is, by k_is⟩, by k_is⟩
    · exact ⟨_, by k_is, ⟨_, _, _, _, _, _, _, _, _, by k_is, by k_is⟩, by k_is⟩
    · exact ⟨_, by k_is, ⟨_, _, _, _, _, _, _, _, _, by k_is, by k_is⟩, by k_is⟩
    · exact ⟨_, by k_is, ⟨_, _, _, _, _, _, _, _, _, by k_is, by k_is⟩, by k_is⟩
    · exact ⟨_, _, _, _, _, _, ⟨by k_is, ⟨_, _, _, _, _, _, _, _, by k_is, by k_is⟩, by k_is, ⟨_, _, _, _, by k_is, rfl⟩, by kernel_rfl, by kernel_rfl⟩, ⟨by k_is, ⟨_, _, _, _, _, _, _, _, by k_is, by k_is⟩, by k_is, ⟨_, _, _, _, by k_is, rfl⟩, by kernel_rfl, by kernel_rfl⟩, by decide⟩
  case bt =>
    refine ⟨_, _, ⟨mg_of KX G (by k_is), mg_none_of KX G (by k_is), ⟨_, _, _, _, _, _, _, _, _, _, _, _, _, _, _, by k_is, by decide +kernel⟩, by k_is, by k_is, by k_is, by k_is, by k_is, by k_is, by k_is, by k_is, by k_is, by k_is, by k_is, K5.exm_own (by k_is) (by k_is) (by k_is) (by k_is), by k_is, by k_is, by kernel_rfl, rfl,
      ⟨_, _, _, _, _, _, _, _, _, _, _, _, _, _, _, _, _, _, _, _, by k_is, by k_is, by k_is, rfl, by decide +kernel, by k_is⟩⟩⟩
  · rcases hy with rfl | rfl
    · kernel_rfl
    · kernel_rfl
