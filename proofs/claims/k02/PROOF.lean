import PyProof.Rows.All
import Wide.All
import OpenK.AllK
import Wide.FinOn
import HandS.ForMost
import HandS.Evl
import HandS.IsInst
import HandS.Style
import HandS.Set
import HandS.Strs
import HandS.More
import PyProof.StrBlock2
import PyProof.Rows.SortShellAny
import PySem.Challenge.RW_whoholds_k02_names_boxes_slots
set_option Elab.async false
set_option linter.all false
set_option maxRecDepth 100000
set_option maxHeartbeats 4000000
/-! Dl: what a reading evaluates to, told as data (PyData), with some mutable objects hidden. -/
namespace Dl
open PySem L2
abbrev Fg := PySem.W.Frag
abbrev Ex := Evl.Ex

/-! ### heaps with some addresses hidden -/
def hide (M : List Addr) (H : Hp) : Hp := fun b => if b ∈ M then none else H b
theorem hide_in {M : List Addr} {H : Hp} {b : Addr} (h : b ∈ M) : hide M H b = none := if_pos h
theorem hide_out {M : List Addr} {H : Hp} {b : Addr} (h : b ∉ M) : hide M H b = H b := if_neg h
theorem hide_some {M : List Addr} {H : Hp} {b : Addr} {o : HO} (h : hide M H b = some o) : b ∉ M ∧ H b = some o := by
  by_cases e : b ∈ M
  · rw [hide_in e] at h; cases h
  · rw [hide_out e] at h; exact ⟨e, h⟩
theorem hide_nil {H : Hp} : hide [] H = H := by funext b; exact if_neg (by simp)
theorem hide_ex {M : List Addr} {H : Hp} : Ex (hide M H) H := fun _ _ h => (hide_some h).2
theorem ex_hide {M : List Addr} {H H' : Hp} (e : Ex H H') : Ex (hide M H) (hide M H') := fun b o h => by
  obtain ⟨h1, h2⟩ := hide_some h
  rw [hide_out h1]; exact e b o h2
theorem ex_hide_more {M N : List Addr} {H : Hp} (h : ∀ b, b ∈ M → b ∈ N) : Ex (hide N H) (hide M H) := fun b o q => by
  obtain ⟨h1, h2⟩ := hide_some q
  rw [hide_out fun m => h1 (h b m)]; exact h2
theorem hide_upd {M : List Addr} {H : Hp} {l : Addr} {o : HO} (h : l ∈ M) : hide M (upd H l o) = hide M H := by
  funext b
  by_cases e : b ∈ M
  · rw [hide_in e, hide_in e]
  · rw [hide_out e, hide_out e, upd_ne (fun z => e (by rw [z]; exact h))]
/-- a new object hidden at once -/
theorem hide_new {M : List Addr} {H : Hp} {l : Addr} {o : HO} (h : H l = none) : hide (l :: M) (upd H l o) = hide M H := by
  funext b
  by_cases e : b = l
  · subst e
    rw [hide_in (List.mem_cons_self)]
    by_cases m : b ∈ M
    · rw [hide_in m]
    · rw [hide_out m, h]
  · by_cases m : b ∈ M
    · rw [hide_in (List.mem_cons_of_mem _ m), hide_in m]
    · rw [hide_out (fun z => (List.mem_cons.mp z).elim e m), hide_out m, upd_ne e]
def Lv (M : List Addr) (H : Hp) : Prop := ∀ m ∈ M, H m ≠ none
theorem Lv.nil {H : Hp} : Lv [] H := fun _ h => by simp at h
theorem Lv.cons {M : List Addr} {H : Hp} {m : Addr} {o : HO} (h : H m = some o) (l : Lv M H) : Lv (m :: M) H := fun b hb => by
  rcases List.mem_cons.mp hb with z | z
  · rw [z, h]; exact fun q => nomatch q
  · exact l b z
theorem Lv.ex {M : List Addr} {H H' : Hp} (l : Lv M H) (e : Ex H H') : Lv M H' := fun m hm => by
  cases q : H m with
  | none => exact absurd q (l m hm)
  | some o => rw [e m o q]; exact fun z => nomatch z
theorem Lv.upd {M : List Addr} {H : Hp} {a : Addr} {o : HO} (l : Lv M H) : Lv M (upd H a o) := fun m hm => by
  by_cases e : m = a
  · rw [e, upd_same]; exact fun z => nomatch z
  · rw [upd_ne e]; exact l m hm
theorem Lv.fresh {M : List Addr} {H : Hp} {p : Addr} (l : Lv M H) (h : H p = none) : p ∉ M := fun m => l p m h

/-! ### data: every list and tuple in it is tracked -/
mutual
inductive Dq (H : Hp) : V → PyData → Prop
  | non : Dq H .non .none
  | bl (b : Bool) : Dq H (.bl b) (.bool b)
  | int (i : Int) : Dq H (.int i) (.int i)
  | str (x : Str) : Dq H (.str x) (.str x)
  | lst {a : Addr} {xs : List V} {ds : List PyData} : H a = some (.lst xs) → DqAll H xs ds → Dq H (.ref a) (.list ds)
  | tup {a : Addr} {xs : List V} {ds : List PyData} : H a = some (.tup xs) → DqAll H xs ds → Dq H (.ref a) (.tuple ds)
inductive DqAll (H : Hp) : List V → List PyData → Prop
  | nil : DqAll H [] []
  | cons {v : V} {vs : List V} {d : PyData} {ds : List PyData} : Dq H v d → DqAll H vs ds → DqAll H (v :: vs) (d :: ds)
end
mutual
theorem dq_mono {H H' : Hp} (e : Ex H H') : ∀ (d : PyData) (v : V), Dq H v d → Dq H' v d
  | .none, _, h => by cases h; exact .non
  | .bool _, _, h => by cases h; exact .bl _
  | .int _, _, h => by cases h; exact .int _
  | .str _, _, h => by cases h; exact .str _
  | .list ds, _, h => by
    cases h with
    | lst hs ha => exact .lst (e _ _ hs) (dqAll_mono e ds _ ha)
  | .tuple ds, _, h => by
    cases h with
    | tup hs ha => exact .tup (e _ _ hs) (dqAll_mono e ds _ ha)
  | .dict _, _, h => by cases h
theorem dqAll_mono {H H' : Hp} (e : Ex H H') : ∀ (ds : List PyData) (vs : List V), DqAll H vs ds → DqAll H' vs ds
  | [], _, h => by cases h; exact .nil
  | d :: ds, _, h => by
    cases h with
    | cons h1 h2 => exact .cons (dq_mono e d _ h1) (dqAll_mono e ds _ h2)
end
mutual
theorem dq_dp {K : Fg} {H : Hp} : ∀ (d : PyData) (v : V), Dq H v d → Dp K H v d
  | .none, _, h => by cases h; exact .non
  | .bool _, _, h => by cases h; exact .bl _
  | .int _, _, h => by cases h; exact .int _
  | .str _, _, h => by cases h; exact .str _
  | .list ds, _, h => by
    cases h with
    | lst hs ha => exact .lst (.inl (.inl hs)) (dqAll_dp ds _ ha)
  | .tuple ds, _, h => by
    cases h with
    | tup hs ha => exact .tup (.inl (.inl hs)) (dqAll_dp ds _ ha)
  | .dict _, _, h => by cases h
theorem dqAll_dp {K : Fg} {H : Hp} : ∀ (ds : List PyData) (vs : List V), DqAll H vs ds → DpAll K H vs ds
  | [], _, h => by cases h; exact .nil
  | d :: ds, _, h => by
    cases h with
    | cons h1 h2 => exact .cons (dq_dp d _ h1) (dqAll_dp ds _ h2)
end
theorem Dq.mono {H H' : Hp} {d : PyData} {v : V} (h : Dq H v d) (e : Ex H H') : Dq H' v d := dq_mono e d v h
theorem DqAll.mono {H H' : Hp} {ds : List PyData} {vs : List V} (h : DqAll H vs ds) (e : Ex H H') : DqAll H' vs ds := dqAll_mono e ds vs h
theorem Dq.dp {K : Fg} {H : Hp} {d : PyData} {v : V} (h : Dq H v d) : Dp K H v d := dq_dp d v h
theorem DqAll.len {H : Hp} : ∀ {vs : List V} {ds : List PyData}, DqAll H vs ds → vs.length = ds.length
  | _, _, .nil => rfl
  | _, _, .cons _ h => by rw [List.length_cons, List.length_cons, DqAll.len h]
theorem DqAll.get {H : Hp} : ∀ {vs : List V} {ds : List PyData} {i : Nat} {d : PyData}, DqAll H vs ds → ds[i]? = some d → ∃ v, vs[i]? = some v ∧ Dq H v d
  | _, _, _, _, .nil, h => by simp at h
  | _, _, 0, _, .cons h1 _, h => by simp at h; subst h; exact ⟨_, rfl, h1⟩
  | _, _, i + 1, _, .cons _ h2, h => by
    obtain ⟨v, q1, q2⟩ := DqAll.get (i := i) h2 (by simpa using h)
    exact ⟨v, by simpa using q1, q2⟩
theorem DqAll.getV {H : Hp} : ∀ {vs : List V} {ds : List PyData} {i : Nat} {v : V}, DqAll H vs ds → vs[i]? = some v → ∃ d, ds[i]? = some d ∧ Dq H v d
  | _, _, _, _, .nil, h => by simp at h
  | _, _, 0, _, .cons h1 _, h => by simp at h; subst h; exact ⟨_, rfl, h1⟩
  | _, _, i + 1, _, .cons _ h2, h => by
    obtain ⟨v, q1, q2⟩ := DqAll.getV (i := i) h2 (by simpa using h)
    exact ⟨v, by simpa using q1, q2⟩
theorem DqAll.append {H : Hp} : ∀ {vs ws : List V} {ds es : List PyData}, DqAll H vs ds → DqAll H ws es → DqAll H (vs ++ ws) (ds ++ es)
  | _, _, _, _, .nil, h => h
  | _, _, _, _, .cons h1 h2, h => .cons h1 (DqAll.append h2 h)
theorem DqAll.snoc {H : Hp} {vs : List V} {v : V} {ds : List PyData} {d : PyData} (h : DqAll H vs ds) (h1 : Dq H v d) : DqAll H (vs ++ [v]) (ds ++ [d]) := h.append (.cons h1 .nil)
theorem DqAll.drop {H : Hp} : ∀ {vs : List V} {ds : List PyData} (n : Nat), DqAll H vs ds → DqAll H (vs.drop n) (ds.drop n)
  | _, _, 0, h => h
  | _, _, _ + 1, .nil => .nil
  | _, _, n + 1, .cons _ h => DqAll.drop n h
theorem DqAll.take {H : Hp} : ∀ {vs : List V} {ds : List PyData} (n : Nat), DqAll H vs ds → DqAll H (vs.take n) (ds.take n)
  | _, _, 0, _ => .nil
  | _, _, _ + 1, .nil => .nil
  | _, _, n + 1, .cons h1 h => .cons h1 (DqAll.take n h)
theorem DqAll.strs {H : Hp} : ∀ {vs : List V} {ss : List Str}, DqAll H vs (ss.map PyData.str) → vs = ss.map V.str
  | _, [], h => by cases h; rfl
  | _, s :: ss, h => by
    cases h with
    | cons h1 h2 => cases h1; rw [DqAll.strs h2]; rfl
theorem DqAll.ofStrs {H : Hp} : ∀ (ss : List Str), DqAll H (ss.map V.str) (ss.map PyData.str)
  | [] => .nil
  | s :: ss => .cons (.str s) (DqAll.ofStrs ss)
theorem DqAll.ints {H : Hp} : ∀ {vs : List V} {ss : List Int}, DqAll H vs (ss.map PyData.int) → vs = ss.map V.int
  | _, [], h => by cases h; rfl
  | _, s :: ss, h => by
    cases h with
    | cons h1 h2 => cases h1; rw [DqAll.ints h2]; rfl
theorem DqAll.ofInts {H : Hp} : ∀ (ss : List Int), DqAll H (ss.map V.int) (ss.map PyData.int)
  | [] => .nil
  | s :: ss => .cons (.int s) (DqAll.ofInts ss)
theorem DqAll.rep {H : Hp} {vs : List V} {ds : List PyData} (h : DqAll H vs ds) : ∀ n : Nat, DqAll H (List.replicate n vs).flatten (List.replicate n ds).flatten
  | 0 => .nil
  | n + 1 => by
    rw [List.replicate_succ, List.replicate_succ, List.flatten_cons, List.flatten_cons]
    exact h.append (DqAll.rep h n)
theorem Dq.str' {H : Hp} {v : V} {s : Str} (h : Dq H v (.str s)) : v = .str s := by cases h; rfl
theorem Dq.int' {H : Hp} {v : V} {s : Int} (h : Dq H v (.int s)) : v = .int s := by cases h; rfl
theorem Dq.bool' {H : Hp} {v : V} {s : Bool} (h : Dq H v (.bool s)) : v = .bl s := by cases h; rfl
theorem Dq.none' {H : Hp} {v : V} (h : Dq H v .none) : v = .non := by cases h; rfl
theorem Dq.list' {H : Hp} {v : V} {ds : List PyData} (h : Dq H v (.list ds)) : ∃ a xs, v = .ref a ∧ H a = some (.lst xs) ∧ DqAll H xs ds := by
  cases h with
  | lst h1 h2 => exact ⟨_, _, rfl, h1, h2⟩
theorem Dq.tup' {H : Hp} {v : V} {ds : List PyData} (h : Dq H v (.tuple ds)) : ∃ a xs, v = .ref a ∧ H a = some (.tup xs) ∧ DqAll H xs ds := by
  cases h with
  | tup h1 h2 => exact ⟨_, _, rfl, h1, h2⟩

abbrev Dv (M : List Addr) (H : Hp) (v : V) (d : PyData) : Prop := Dq (hide M H) v d
abbrev Da (M : List Addr) (H : Hp) (vs : List V) (ds : List PyData) : Prop := DqAll (hide M H) vs ds

/-! ### effects: what an evaluation may do to the heap; P is what it changes -/
structure Eff (P : List Addr) (E : Hp → Hp → Prop) : Prop where
  rf : ∀ H, E H H
  tr : ∀ {H H1 H2}, E H H1 → E H1 H2 → E H H2
  ex : ∀ {H H'}, Ex H H' → E H H'
  mu : ∀ {H H' p o}, E H H' → H p = none → H' p ≠ none → E H (upd H' p o)
  bs : ∀ {H H'}, E H H' → Ex (hide P H) (hide P H')
  lv : ∀ {H H'}, E H H' → ∀ m, H m ≠ none → H' m ≠ none
theorem Eff.pure : Eff [] Ex where
  rf := Evl.Ex.refl
  tr := Evl.Ex.trans
  ex := id
  mu := fun e h _ => Evl.Ex.mut e h
  bs := ex_hide
  lv := fun {H H'} e m h => by
    cases q : H m with
    | none => exact absurd q h
    | some o => rw [e m o q]; exact fun z => nomatch z
section
variable {K : Fg} {P M : List Addr} {E : Hp → Hp → Prop} {σ : L2.St} {H H' H1 : Hp} {ta tb tc te : TE} {v : V} {d : PyData} {ds : List PyData} {vs : List V}
theorem Eff.bsM (F : Eff P E) (hP : ∀ p, p ∈ P → p ∈ M) (e : E H H') : Ex (hide M H) (hide M H') := fun b o h => by
  obtain ⟨h1, h2⟩ := hide_some h
  have q := F.bs e b o (by rw [hide_out fun z => h1 (hP b z)]; exact h2)
  rw [hide_out h1]; exact (hide_some q).2
theorem Eff.lvM (F : Eff P E) (l : Lv M H) (e : E H H') : Lv M H' := fun m hm => F.lv e m (l m hm)
/-- what is not the effect's own stays exactly -/
theorem Eff.keep (F : Eff P E) {b : Addr} {o : HO} (e : E H H') (hb : b ∉ P) (h : H b = some o) : H' b = some o :=
  (hide_some (F.bs e b o (by rw [hide_out hb]; exact h))).2
theorem Eff.fresh (F : Eff P E) {p : Addr} (e : E H H') (h : H' p = none) : H p = none := by
  cases q : H p with
  | none => rfl
  | some o => exact absurd h (F.lv e p (by rw [q]; exact fun z => nomatch z))

def EvS (M : List Addr) (E : Hp → Hp → Prop) (te : TE) (σ : L2.St) (H : Hp) (S : PyData → Prop) : Prop :=
  ∀ H1, E H H1 → Lv M H1 → ∀ Q : VK, (∀ v H2 d, E H1 H2 → S d → Dv M H2 v d → Q v H2) → te σ H1 Q
def EaS (M : List Addr) (E : Hp → Hp → Prop) (ta : TA) (σ : L2.St) (H : Hp) (S : List PyData → Prop) : Prop :=
  ∀ H1, E H H1 → Lv M H1 → ∀ Q : List V → Hp → Prop, (∀ vs H2 ds, E H1 H2 → S ds → Da M H2 vs ds → Q vs H2) → ta σ H1 Q
def EtS (M : List Addr) (E : Hp → Hp → Prop) (tt : TT) (σ : L2.St) (H : Hp) (S : Bool → Prop) : Prop :=
  ∀ H1, E H H1 → Lv M H1 → ∀ Q : Bool → Hp → Prop, (∀ b H2, E H1 H2 → S b → Q b H2) → tt σ H1 Q
abbrev EvD (M : List Addr) (E : Hp → Hp → Prop) (te : TE) (σ : L2.St) (H : Hp) (d : PyData) : Prop := EvS M E te σ H (fun x => x = d)
abbrev EaD (M : List Addr) (E : Hp → Hp → Prop) (te : TA) (σ : L2.St) (H : Hp) (ds : List PyData) : Prop := EaS M E te σ H (fun x => x = ds)
abbrev EtD (M : List Addr) (E : Hp → Hp → Prop) (tt : TT) (σ : L2.St) (H : Hp) (b : Bool) : Prop := EtS M E tt σ H (fun x => x = b)

/-- the setting: an effect, its own objects among the hidden ones -/
structure Set (P M : List Addr) (E : Hp → Hp → Prop) : Prop where
  F : Eff P E
  sub : ∀ p, p ∈ P → p ∈ M
theorem Set.pure : Set [] M Ex := ⟨Eff.pure, fun _ h => by simp at h⟩
theorem Set.dv (T : Set P M E) (h : Dv M H v d) (e : E H H') : Dv M H' v d := Dq.mono h (T.F.bsM T.sub e)
theorem Set.da (T : Set P M E) (h : Da M H vs ds) (e : E H H') : Da M H' vs ds := DqAll.mono h (T.F.bsM T.sub e)

theorem EvS.mono {S S' : PyData → Prop} (h : EvS M E te σ H S) (hs : ∀ d, S d → S' d) : EvS M E te σ H S' := fun H1 e l Q q => h H1 e l Q fun v H2 d e2 s hd => q v H2 d e2 (hs d s) hd
theorem EvS.at {S : PyData → Prop} (T : Set P M E) (h : EvS M E te σ H S) (e : E H H') : EvS M E te σ H' S := fun H1 e1 l Q q => h H1 (T.F.tr e e1) l Q q
theorem EtS.mono {tt : TT} {S S' : Bool → Prop} (h : EtS M E tt σ H S) (hs : ∀ d, S d → S' d) : EtS M E tt σ H S' := fun H1 e l Q q => h H1 e l Q fun v H2 e2 s => q v H2 e2 (hs v s)
theorem EvS.is {d d' : PyData} (h : EvD M E te σ H d) (e : d = d') : EvD M E te σ H d' := e ▸ h
theorem EtS.is {tt : TT} {b b' : Bool} (h : EtD M E tt σ H b) (e : b = b') : EtD M E tt σ H b' := e ▸ h

/-! ### expressions -/
theorem es_var (T : Set P M E) {i : Nat} (h : σ[i]? = some (some v)) (hd : Dv M H v d) : EvD M E (tVar i) σ H d := fun H1 e _ Q q => ⟨v, h, q v H1 d (T.F.rf H1) rfl (T.dv hd e)⟩
theorem es_int (T : Set P M E) {i : Int} : EvD M E (tC (.int i)) σ H (.int i) := fun H1 _ _ Q q => q _ H1 _ (T.F.rf H1) rfl (.int i)
theorem es_str (T : Set P M E) {i : Str} : EvD M E (tC (.str i)) σ H (.str i) := fun H1 _ _ Q q => q _ H1 _ (T.F.rf H1) rfl (.str i)
theorem es_bl (T : Set P M E) {i : Bool} : EvD M E (tC (.bl i)) σ H (.bool i) := fun H1 _ _ Q q => q _ H1 _ (T.F.rf H1) rfl (.bl i)
theorem es_non (T : Set P M E) : EvD M E (tC .non) σ H .none := fun H1 _ _ Q q => q _ H1 _ (T.F.rf H1) rfl .non

/-- a rule on values, told as data -/
def RS (M : List Addr) (E : Hp → Hp → Prop) (r : R2) (d1 d2 : PyData) (S : PyData → Prop) : Prop :=
  ∀ x y H, Lv M H → Dv M H x d1 → Dv M H y d2 → ∀ Q : VK, (∀ v H2 d, E H H2 → S d → Dv M H2 v d → Q v H2) → r x y H Q
theorem RS.mono {r : R2} {d1 d2 : PyData} {S S' : PyData → Prop} (h : RS M E r d1 d2 S) (hs : ∀ d, S d → S' d) : RS M E r d1 d2 S' := fun x y H l hx hy Q q => h x y H l hx hy Q fun v H2 d e s hd => q v H2 d e (hs d s) hd
theorem es_op {S1 S2 S : PyData → Prop} {r : R2} (T : Set P M E) (ha : EvS M E ta σ H S1) (hb : EvS M E tb σ H S2) (hr : ∀ d1 d2, S1 d1 → S2 d2 → RS M E r d1 d2 S) : EvS M E (tOp r ta tb) σ H S := fun H1 e l Q q =>
  ha H1 e l _ fun x H2 d1 e2 s1 hd1 => hb H2 (T.F.tr e e2) (T.F.lvM l e2) _ fun y H3 d2 e3 s2 hd2 =>
    hr d1 d2 s1 s2 x y H3 (T.F.lvM (T.F.lvM l e2) e3) (T.dv hd1 e3) hd2 Q fun v H4 d e4 s hd => q v H4 d (T.F.tr (T.F.tr e2 e3) e4) s hd
theorem ed_op {d1 d2 : PyData} {S : PyData → Prop} {r : R2} (T : Set P M E) (ha : EvD M E ta σ H d1) (hb : EvD M E tb σ H d2) (hr : RS M E r d1 d2 S) : EvS M E (tOp r ta tb) σ H S :=
  es_op T ha hb fun x y hx hy => by subst hx; subst hy; exact hr
theorem rs_I0 (T : Set P M E) {g : Int → Int → Int} {i j : Int} : RS M E (rI0 fun i j => .int (g i j)) (.int i) (.int j) (fun x => x = .int (g i j)) := fun x y H _ hx hy Q q => by
  rw [Dq.int' hx, Dq.int' hy]; exact ⟨i, j, rfl, rfl, q _ H _ (T.F.rf H) rfl (.int _)⟩
theorem rs_B0 (T : Set P M E) {g : Int → Int → Bool} {i j : Int} : RS M E (rI0 fun i j => .bl (g i j)) (.int i) (.int j) (fun x => x = .bool (g i j)) := fun x y H _ hx hy Q q => by
  rw [Dq.int' hx, Dq.int' hy]; exact ⟨i, j, rfl, rfl, q _ H _ (T.F.rf H) rfl (.bl _)⟩
theorem rs_I (T : Set P M E) {C : Int → Int → Prop} {g : Int → Int → Int} {i j : Int} (hc : C i j) : RS M E (rI C fun i j => .int (g i j)) (.int i) (.int j) (fun x => x = .int (g i j)) := fun x y H _ hx hy Q q => by
  rw [Dq.int' hx, Dq.int' hy]; exact ⟨i, j, rfl, rfl, hc, q _ H _ (T.F.rf H) rfl (.int _)⟩
/-- == of flat data -/
def scalD : PyData → PyData → Option Bool
  | .int i, .int j => some (decide (i = j))
  | .str i, .str j => some (decide (i = j))
  | .bool i, .bool j => some (decide (i = j))
  | _, _ => none
theorem rs_eq (T : Set P M E) {d1 d2 : PyData} {b : Bool} (h : scalD d1 d2 = some b) : RS M E rEq d1 d2 (fun x => x = .bool b) := fun x y H _ hx hy Q q => by
  match d1, d2, h with
  | .int i, .int j, h =>
    have e : decide (i = j) = b := Option.some.inj h
    rw [Dq.int' hx, Dq.int' hy]; refine ⟨rfl, q _ H _ (T.F.rf H) rfl ?_⟩; rw [← e]; simp only [V.int.injEq]; exact .bl _
  | .str i, .str j, h =>
    have e : decide (i = j) = b := Option.some.inj h
    rw [Dq.str' hx, Dq.str' hy]; refine ⟨rfl, q _ H _ (T.F.rf H) rfl ?_⟩; rw [← e]; simp only [V.str.injEq]; exact .bl _
  | .bool i, .bool j, h =>
    have e : decide (i = j) = b := Option.some.inj h
    rw [Dq.bool' hx, Dq.bool' hy]; refine ⟨rfl, q _ H _ (T.F.rf H) rfl ?_⟩; rw [← e]; simp only [V.bl.injEq]; exact .bl _
theorem rs_ne (T : Set P M E) {d1 d2 : PyData} {b : Bool} (h : scalD d1 d2 = some b) : RS M E rNe d1 d2 (fun x => x = .bool (!b)) := fun x y H _ hx hy Q q => by
  match d1, d2, h with
  | .int i, .int j, h =>
    have e : decide (i = j) = b := Option.some.inj h
    rw [Dq.int' hx, Dq.int' hy]; refine ⟨rfl, q _ H _ (T.F.rf H) rfl ?_⟩; rw [← e]; simp only [V.int.injEq]; exact .bl _
  | .str i, .str j, h =>
    have e : decide (i = j) = b := Option.some.inj h
    rw [Dq.str' hx, Dq.str' hy]; refine ⟨rfl, q _ H _ (T.F.rf H) rfl ?_⟩; rw [← e]; simp only [V.str.injEq]; exact .bl _
  | .bool i, .bool j, h =>
    have e : decide (i = j) = b := Option.some.inj h
    rw [Dq.bool' hx, Dq.bool' hy]; refine ⟨rfl, q _ H _ (T.F.rf H) rfl ?_⟩; rw [← e]; simp only [V.bl.injEq]; exact .bl _
/-- == of data -/
theorem rs_eqD (T : Set P M E) {d1 d2 : PyData} (h1 : SeqAt.shaped d1 = true) (h2 : SeqAt.shaped d2 = true) : RS M E (rEqD K) d1 d2 (fun x => x = .bool (PyData.eqv d1 d2)) := fun x y H _ hx hy Q q =>
  ⟨d1, d2, (hx.mono hide_ex).dp, (hy.mono hide_ex).dp, h1, h2, q _ H _ (T.F.rf H) rfl (.bl _)⟩
theorem rs_neD (T : Set P M E) {d1 d2 : PyData} (h1 : SeqAt.shaped d1 = true) (h2 : SeqAt.shaped d2 = true) : RS M E (rNeD K) d1 d2 (fun x => x = .bool (!PyData.eqv d1 d2)) := fun x y H _ hx hy Q q =>
  ⟨d1, d2, (hx.mono hide_ex).dp, (hy.mono hide_ex).dp, h1, h2, q _ H _ (T.F.rf H) rfl (.bl _)⟩
theorem atI_map {α β : Type} {f : α → β} {xs : List α} {i : Int} {x : α} (h : atI xs i = some x) : atI (xs.map f) i = some (f x) := by
  unfold atI at h ⊢
  rw [List.length_map]
  cases e : ixN xs.length i with
  | none => rw [e] at h; cases h
  | some j =>
    rw [e] at h
    show (xs.map f)[j]? = some (f x)
    rw [List.getElem?_map]
    have h : xs[j]? = some x := h
    rw [h]; rfl
theorem atI_all {H : Hp} {i : Int} (h : DqAll H vs ds) (ha : atI ds i = some d) : ∃ v, atI vs i = some v ∧ Dq H v d := by
  unfold atI at ha ⊢
  rw [DqAll.len h]
  cases e : ixN ds.length i with
  | none => rw [e] at ha; cases ha
  | some j =>
    rw [e] at ha
    exact DqAll.get (i := j) h ha
theorem rs_ixT (T : Set P M E) {i : Int} (h : atI ds i = some d) : RS M E (rIxT K) (.tuple ds) (.int i) (fun x => x = d) := fun x y H _ hx hy Q q => by
  obtain ⟨a, xs, rfl, hs, ha⟩ := Dq.tup' hx
  obtain ⟨v, h1, h2⟩ := atI_all ha h
  rw [Dq.int' hy]; exact ⟨a, xs, i, v, rfl, rfl, SqT.of (hide_ex _ _ hs), h1, q _ H _ (T.F.rf H) rfl h2⟩
theorem rs_ixL (T : Set P M E) {i : Int} (h : atI ds i = some d) : RS M E (rIxL K) (.list ds) (.int i) (fun x => x = d) := fun x y H _ hx hy Q q => by
  obtain ⟨a, xs, rfl, hs, ha⟩ := Dq.list' hx
  obtain ⟨v, h1, h2⟩ := atI_all ha h
  rw [Dq.int' hy]; exact ⟨a, xs, i, v, rfl, rfl, SqL.of (hide_ex _ _ hs), h1, q _ H _ (T.F.rf H) rfl h2⟩
theorem rs_ixS (T : Set P M E) {s : Str} {i : Int} {c : Nat} (hl : s.length ≤ sizeLine) (h : atI s.cps.toList i = some c) : RS M E rIxS (.str s) (.int i) (fun x => x = .str ⟨#[c]⟩) := fun x y H _ hx hy Q q => by
  rw [Dq.str' hx, Dq.int' hy]; exact ⟨s, i, c, rfl, rfl, hl, h, q _ H _ (T.F.rf H) rfl (.str _)⟩
theorem rs_addS (T : Set P M E) {s t : Str} (hl : s.length + t.length ≤ sizeLine) : RS M E (fun x y H Q => ∃ i j, x = .str i ∧ y = .str j ∧ i.length + j.length ≤ sizeLine ∧ Q (.str (i ++ j)) H) (.str s) (.str t) (fun x => x = .str (s ++ t)) := fun x y H _ hx hy Q q => by
  rw [Dq.str' hx, Dq.str' hy]; exact ⟨s, t, rfl, rfl, hl, q _ H _ (T.F.rf H) rfl (.str _)⟩

theorem ea_nil (T : Set P M E) : EaD M E tNil σ H [] := fun H1 _ _ Q q => q [] H1 [] (T.F.rf H1) rfl .nil
theorem ea_cons {S1 : PyData → Prop} {S2 S : List PyData → Prop} {tr : TA} (T : Set P M E) (h : EvS M E ta σ H S1) (hr : EaS M E tr σ H S2) (hs : ∀ d ds, S1 d → S2 ds → S (d :: ds)) : EaS M E (tCons ta tr) σ H S := fun H1 e l Q q =>
  h H1 e l _ fun x H2 d e2 s1 hd => hr H2 (T.F.tr e e2) (T.F.lvM l e2) _ fun xs H3 ds e3 s2 hds => q (x :: xs) H3 (d :: ds) (T.F.tr e2 e3) (hs d ds s1 s2) (.cons (T.dv hd e3) hds)
theorem ead_cons {tr : TA} (T : Set P M E) (h : EvD M E ta σ H d) (hr : EaD M E tr σ H ds) : EaD M E (tCons ta tr) σ H (d :: ds) := ea_cons T h hr fun _ _ h1 h2 => by rw [h1, h2]
theorem new_dv_tup {p : Addr} (l : Lv M H) (hp : H p = none) (h : Da M H vs ds) : Dv M (upd H p (.tup vs)) (.ref p) (.tuple ds) := by
  have hn : p ∉ M := l.fresh hp
  refine .tup (by rw [hide_out hn]; exact upd_same) (DqAll.mono h (ex_hide (Evl.Ex.new hp)))
theorem new_dv_lst {p : Addr} (l : Lv M H) (hp : H p = none) (h : Da M H vs ds) : Dv M (upd H p (.lst vs)) (.ref p) (.list ds) := by
  have hn : p ∉ M := l.fresh hp
  refine .lst (by rw [hide_out hn]; exact upd_same) (DqAll.mono h (ex_hide (Evl.Ex.new hp)))
theorem es_tup {S : List PyData → Prop} {t : TA} (T : Set P M E) (h : EaS M E t σ H S) (hl : ∀ ds, S ds → ds.length ≤ sizeLine) : EvS M E (tTup t) σ H (fun x => ∃ ds, x = .tuple ds ∧ S ds) := fun H1 e l Q q =>
  h H1 e l _ fun xs H2 ds e2 s hd => ⟨by rw [DqAll.len hd]; exact hl ds s, fun p hp => q _ _ (.tuple ds) (T.F.tr e2 (T.F.ex (Evl.Ex.new hp))) ⟨ds, rfl, s⟩ (new_dv_tup (T.F.lvM l e2) hp hd)⟩
theorem ed_tup {t : TA} (T : Set P M E) (h : EaD M E t σ H ds) (hl : ds.length ≤ sizeLine := by decide) : EvD M E (tTup t) σ H (.tuple ds) := (es_tup T h (fun _ z => z ▸ hl)).mono fun _ ⟨_, h1, h2⟩ => by rw [h1, h2]
theorem es_lst {S : List PyData → Prop} {t : TA} (T : Set P M E) (h : EaS M E t σ H S) (hl : ∀ ds, S ds → ds.length ≤ sizeLine) : EvS M E (tLst t) σ H (fun x => ∃ ds, x = .list ds ∧ S ds) := fun H1 e l Q q =>
  h H1 e l _ fun xs H2 ds e2 s hd => ⟨by rw [DqAll.len hd]; exact hl ds s, fun p hp => q _ _ (.list ds) (T.F.tr e2 (T.F.ex (Evl.Ex.new hp))) ⟨ds, rfl, s⟩ (new_dv_lst (T.F.lvM l e2) hp hd)⟩
theorem ed_lst {t : TA} (T : Set P M E) (h : EaD M E t σ H ds) (hl : ds.length ≤ sizeLine := by decide) : EvD M E (tLst t) σ H (.list ds) := (es_lst T h (fun _ z => z ▸ hl)).mono fun _ ⟨_, h1, h2⟩ => by rw [h1, h2]

/-! ### calls -/
/-- a call on values told as data -/
def RC (M : List Addr) (E : Hp → Hp → Prop) (r : List V → Hp → VK → Prop) (ds : List PyData) (S : PyData → Prop) : Prop :=
  ∀ vs H, Lv M H → Da M H vs ds → ∀ Q : VK, (∀ v H2 d, E H H2 → S d → Dv M H2 v d → Q v H2) → r vs H Q
theorem es_cb {r : List V → Hp → VK → Prop} {S1 : List PyData → Prop} {S : PyData → Prop} {t : TA} (T : Set P M E) (h : EaS M E t σ H S1) (hr : ∀ ds, S1 ds → RC M E r ds S) : EvS M E (tCB r t) σ H S := fun H1 e l Q q =>
  h H1 e l _ fun vs H2 ds e2 s hd => hr ds s vs H2 (T.F.lvM l e2) hd Q fun v H3 d e3 s3 hd3 => q v H3 d (T.F.tr e2 e3) s3 hd3
theorem ed_cb {r : List V → Hp → VK → Prop} {S : PyData → Prop} {t : TA} (T : Set P M E) (h : EaD M E t σ H ds) (hr : RC M E r ds S) : EvS M E (tCB r t) σ H S := es_cb T h fun x hx => by subst hx; exact hr
/-- a call of a def by its promise on values -/
def SC (M : List Addr) (E : Hp → Hp → Prop) (sp : Sp) (dvs : List V) (ds : List PyData) (S : PyData → Prop) : Prop :=
  ∀ vs H, Lv M H → Da M H vs ds → ∀ (Q : VK) (X : XK), (∀ v H2 d, E H H2 → S d → Dv M H2 v d → Q v H2) → sp (vs ++ dvs) H Q X
theorem es_call {sp : Sp} {dvs : List V} {X : XK} {S1 : List PyData → Prop} {S : PyData → Prop} {t : TA} (T : Set P M E) (h : EaS M E t σ H S1) (hr : ∀ ds, S1 ds → SC M E sp dvs ds S) : EvS M E (tCall sp dvs X t) σ H S := fun H1 e l Q q =>
  h H1 e l _ fun vs H2 ds e2 s hd => hr ds s vs H2 (T.F.lvM l e2) hd Q X fun v H3 d e3 s3 hd3 => q v H3 d (T.F.tr e2 e3) s3 hd3
theorem ed_call {sp : Sp} {dvs : List V} {X : XK} {S : PyData → Prop} {t : TA} (T : Set P M E) (h : EaD M E t σ H ds) (hr : SC M E sp dvs ds S) : EvS M E (tCall sp dvs X t) σ H S := es_call T h fun x hx => by subst hx; exact hr
theorem rc_lenL (T : Set P M E) : RC M E (fun xs H Q => ∃ p ys, xs = [.ref p] ∧ (SqL K H p ys ∨ SqT K H p ys) ∧ Q (.int ys.length) H) [.list ds] (fun x => x = .int ds.length) := fun vs H _ ha Q q => by
  cases ha with
  | cons h1 h2 =>
    cases h2
    obtain ⟨a, xs, rfl, hs, hx⟩ := Dq.list' h1
    exact ⟨a, xs, rfl, .inl (SqL.of (hide_ex _ _ hs)), q _ H _ (T.F.rf H) (by rw [DqAll.len hx]) (.int _)⟩

/-! ### tests -/
theorem et_test {S : Bool → Prop} (T : Set P M E) (h : EvS M E te σ H (fun x => ∃ b, x = .bool b ∧ S b)) : EtS M E (tTest te) σ H S := fun H1 e l Q q =>
  h H1 e l _ fun v H2 d e2 ⟨b, hb, s⟩ hd => ⟨b, by rw [hb] at hd; exact Dq.bool' hd, q b H2 e2 s⟩
theorem etd_test {b : Bool} (T : Set P M E) (h : EvD M E te σ H (.bool b)) : EtD M E (tTest te) σ H b := et_test T (h.mono fun x hx => ⟨b, hx, rfl⟩)
theorem etd_B {b : Bool} (T : Set P M E) (h : EvD M E te σ H (.bool b)) : EtD M E (tB te) σ H b := fun H1 e l Q q =>
  h H1 e l _ fun v H2 d e2 hb hd => ⟨b, by rw [hb] at hd; exact Dq.bool' hd, q b H2 e2 rfl⟩
theorem et_not {t : TT} {S : Bool → Prop} (h : EtS M E t σ H S) : EtS M E (tNot t) σ H (fun b => S (!b)) := fun H1 e l Q q => h H1 e l _ fun b H2 e2 s => q (!b) H2 e2 (by show S (!!b); rw [Bool.not_not]; exact s)
theorem etd_not {t : TT} {b : Bool} (h : EtD M E t σ H b) : EtD M E (tNot t) σ H (!b) := (et_not h).mono fun x hx => by rw [← hx, Bool.not_not]
theorem etd_and {t u : TT} {a b : Bool} (T : Set P M E) (h1 : EtD M E t σ H a) (h2 : a = true → EtD M E u σ H b) : EtD M E (tAnd t u) σ H (a && b) := fun H1 e l Q q => h1 H1 e l _ fun c H2 e2 hc => by
  subst hc
  cases c with
  | true =>
    show u σ H2 Q
    exact h2 rfl H2 (T.F.tr e e2) (T.F.lvM l e2) Q fun b' H3 e3 hb => q b' H3 (T.F.tr e2 e3) (by rw [hb]; rfl)
  | false =>
    show Q false H2
    exact q false H2 e2 rfl
theorem etd_or {t u : TT} {a b : Bool} (T : Set P M E) (h1 : EtD M E t σ H a) (h2 : a = false → EtD M E u σ H b) : EtD M E (tOr t u) σ H (a || b) := fun H1 e l Q q => h1 H1 e l _ fun c H2 e2 hc => by
  subst hc
  cases c with
  | true =>
    show Q true H2
    exact q true H2 e2 rfl
  | false =>
    show u σ H2 Q
    exact h2 rfl H2 (T.F.tr e e2) (T.F.lvM l e2) Q fun b' H3 e3 hb => q b' H3 (T.F.tr e2 e3) (by rw [hb]; rfl)

/-! ### statements: something behind -/
variable {D : Ends} {tz tu tw : TS} {t : TT} {i : Nat}
theorem q_asg {S : PyData → Prop} {i : Nat} (T : Set P M E) (l : Lv M H) (h : EvS M E te σ H S) (k : ∀ v H1 d, E H H1 → Lv M H1 → S d → Dv M H1 v d → tz D (σ.set i (some v)) H1) : tSeq (tAsg te (gName i)) tz D σ H :=
  h H (T.F.rf H) l _ fun v H2 d e s hd => k v H2 d e (T.F.lvM l e) s hd
theorem q_asgD {i : Nat} (T : Set P M E) (l : Lv M H) (h : EvD M E te σ H d) (k : ∀ v H1, E H H1 → Lv M H1 → Dv M H1 v d → tz D (σ.set i (some v)) H1) : tSeq (tAsg te (gName i)) tz D σ H :=
  q_asg T l h fun v H1 d e l s hd => k v H1 e l (s ▸ hd)
theorem s_asgD {i : Nat} (T : Set P M E) (l : Lv M H) (h : EvD M E te σ H d) (k : ∀ v H1, E H H1 → Lv M H1 → Dv M H1 v d → D.nx (σ.set i (some v)) H1) : tAsg te (gName i) D σ H :=
  h H (T.F.rf H) l _ fun v H2 d e s hd => k v H2 e (T.F.lvM l e) (s ▸ hd)
theorem s_retD (T : Set P M E) (l : Lv M H) (h : EvD M E te σ H d) (k : ∀ v H1, E H H1 → Lv M H1 → Dv M H1 v d → D.rt v H1) : tRet te D σ H := h H (T.F.rf H) l _ fun v H2 d e s hd => k v H2 e (T.F.lvM l e) (s ▸ hd)
theorem q_ifD {b : Bool} (T : Set P M E) (l : Lv M H) (h : EtD M E t σ H b) (h1 : b = true → ∀ H1, E H H1 → Lv M H1 → tu { D with nx := tz D } σ H1) (h2 : b = false → ∀ H1, E H H1 → Lv M H1 → tw { D with nx := tz D } σ H1) : tSeq (tIfS t tu tw) tz D σ H :=
  h H (T.F.rf H) l _ fun b H2 e s => by
    subst s
    cases b with
    | true => exact h1 rfl H2 e (T.F.lvM l e)
    | false => exact h2 rfl H2 e (T.F.lvM l e)
theorem s_ifD {b : Bool} (T : Set P M E) (l : Lv M H) (h : EtD M E t σ H b) (h1 : b = true → ∀ H1, E H H1 → Lv M H1 → tu D σ H1) (h2 : b = false → ∀ H1, E H H1 → Lv M H1 → tw D σ H1) : tIfS t tu tw D σ H :=
  h H (T.F.rf H) l _ fun b H2 e s => by
    subst s
    cases b with
    | true => exact h1 rfl H2 e (T.F.lvM l e)
    | false => exact h2 rfl H2 e (T.F.lvM l e)
/-- if without else -/
theorem q_whenD {b : Bool} (T : Set P M E) (l : Lv M H) (h : EtD M E t σ H b) (h1 : b = true → ∀ H1, E H H1 → Lv M H1 → tu { D with nx := tz D } σ H1) (h2 : b = false → ∀ H1, E H H1 → Lv M H1 → tz D σ H1) : tSeq (tIfS t tu tNext) tz D σ H :=
  q_ifD T l h h1 h2
theorem s_whenD {b : Bool} (T : Set P M E) (l : Lv M H) (h : EtD M E t σ H b) (h1 : b = true → ∀ H1, E H H1 → Lv M H1 → tu D σ H1) (h2 : b = false → ∀ H1, E H H1 → Lv M H1 → D.nx σ H1) : tIfS t tu tNext D σ H :=
  s_ifD T l h h1 h2
theorem q_if {S : Bool → Prop} (T : Set P M E) (l : Lv M H) (h : EtS M E t σ H S) (h1 : S true → ∀ H1, E H H1 → Lv M H1 → tu { D with nx := tz D } σ H1) (h2 : S false → ∀ H1, E H H1 → Lv M H1 → tw { D with nx := tz D } σ H1) : tSeq (tIfS t tu tw) tz D σ H :=
  h H (T.F.rf H) l _ fun b H2 e s => by
    cases b with
    | true => exact h1 s H2 e (T.F.lvM l e)
    | false => exact h2 s H2 e (T.F.lvM l e)
theorem s_if {S : Bool → Prop} (T : Set P M E) (l : Lv M H) (h : EtS M E t σ H S) (h1 : S true → ∀ H1, E H H1 → Lv M H1 → tu D σ H1) (h2 : S false → ∀ H1, E H H1 → Lv M H1 → tw D σ H1) : tIfS t tu tw D σ H :=
  h H (T.F.rf H) l _ fun b H2 e s => by
    cases b with
    | true => exact h1 s H2 e (T.F.lvM l e)
    | false => exact h2 s H2 e (T.F.lvM l e)
theorem s_ret {S : PyData → Prop} (T : Set P M E) (l : Lv M H) (h : EvS M E te σ H S) (k : ∀ v H1 d, E H H1 → Lv M H1 → S d → Dv M H1 v d → D.rt v H1) : tRet te D σ H := h H (T.F.rf H) l _ fun v H2 d e s hd => k v H2 d e (T.F.lvM l e) s hd
/-- xs.append(e), xs a hidden list l whose items are data -/
theorem s_app {K : Fg} {S : PyData → Prop} {l : Addr} {xs : List V} (T : Set P M E) (lv : Lv M H) (hl : H l = some (.lst xs)) (hm : l ∈ M) (hp : l ∉ P) (hz : xs.length < 1000000) (ha : ta = tVar i) (hi : σ[i]? = some (some (.ref l))) (h : EvS M E te σ H S)
    (k : ∀ v H1 d, E H H1 → Lv M H1 → H1 l = some (.lst xs) → S d → Dv M H1 v d → Lv M (upd H1 l (.lst (xs ++ [v]))) → Dv M (upd H1 l (.lst (xs ++ [v]))) v d → D.nx σ (upd H1 l (.lst (xs ++ [v])))) : tDrop (tBM K "list" rAppend ta (tCons te tNil)) D σ H := by
  subst ha
  exact ⟨.ref l, hi, .inl ⟨rfl, xs, SqL.of hl⟩, h H (T.F.rf H) lv _ fun v H1 d e s hd => ⟨l, xs, v, rfl, rfl, T.F.keep e hp hl, Nat.lt_of_lt_of_le hz (by decide), k v H1 d e (T.F.lvM lv e) (T.F.keep e hp hl) s hd (T.F.lvM lv e).upd (by unfold Dv; rw [hide_upd hm]; exact hd)⟩⟩
theorem s_next (h : D.nx σ H) : tNext D σ H := h
theorem g_name {i : Nat} {v : V} {Q : L2.St → Hp → Prop} (h : Q (σ.set i (some v)) H) : gName i v σ H Q := h
/-- a statement, something behind -/
theorem q_cut2 (h : tu { D with nx := tz D } σ H) : tSeq tu tz D σ H := h
/-- x = [..], whatever the items are -/
theorem q_asgLst {i : Nat} {ta : TA} (h : ta σ H fun xs H1 => xs.length ≤ sizeLine ∧ ∀ l, H1 l = none → tz D (σ.set i (some (.ref l))) (upd H1 l (.lst xs))) : tSeq (tAsg (tLst ta) (gName i)) tz D σ H := h
/-- x = [] -/
theorem q_newL {i : Nat} (k : ∀ l, H l = none → tz D (σ.set i (some (.ref l))) (upd H l (.lst []))) : tSeq (tAsg (tLst tNil) (gName i)) tz D σ H := ⟨Nat.zero_le _, k⟩
theorem q_newK {i : Nat} (k : ∀ l, H l = none → tz D (σ.set i (some (.ref l))) (upd H l (.dK []))) : tSeq (tAsg tDNewK (gName i)) tz D σ H := k
theorem q_newT {i : Nat} (k : ∀ l, H l = none → tz D (σ.set i (some (.ref l))) (upd H l (.dT []))) : tSeq (tAsg tDNewT (gName i)) tz D σ H := k
/-- a loop, something behind -/
theorem q_for {wi : TI} {g : TG} (h : tFor wi g tu { D with nx := tz D } σ H) : tSeq (tFor wi g tu) tz D σ H := h
theorem q_drop {S : PyData → Prop} (T : Set P M E) (l : Lv M H) (h : EvS M E te σ H S) (k : ∀ H1, E H H1 → Lv M H1 → tz D σ H1) : tSeq (tDrop te) tz D σ H := h H (T.F.rf H) l _ fun v H2 d e s hd => k H2 e (T.F.lvM l e)
end

/-! ### a def to be called: it keeps its promise, its name holds it -/
structure Callee (P : Program) (w : World) (K : Fg) (mg : Str → Option Value) (base : Heap) (x : Str) (k : Nat) (ps : List Str) (sp : Sp) : Prop where
  ex : ∃ (f : Addr) (fd : FuncData), FnOk P w K mg base CX0 k f fd ps sp ∧ mg x = some (.ref f) ∧ PySem.W.keepIn K (.ref f) = true ∧ Binds K fd ps []
section
variable {X : Cx} {x : Str} {k j : Nat} {ps : List Str} {sp : Sp} {e : Expr} {es : List Expr} {t : TA} {p pos : Pos}
theorem pe_callC (C : Callee X.prog X.w X.K X.mg X.base x k ps sp) (hr : Room k X.A) (hg : Gl X x) (ha : PA X (e :: es) t) (hdb : (x == ("__debug__" : Str)) = false := by decide)
    (he : starEach (e :: es) X.env = (false, eval e X.env) :: starEach es X.env := by rfl) (hpl : (backTo pos (starEach es X.env)).any (·.1) = false := by rfl) : PE X (.Call (.Name x p) (e :: es) [] pos) (tCall sp [] E0 t) := by
  obtain ⟨f, fd, F, hm, hk, hb⟩ := C.ex
  exact pe_call F hr hg hm hk hb .nil pass0 ha hdb he hpl
end

/-- no name of the module stands before these built-ins -/
structure Tb (mg : Str → Option Value) : Prop where
  m_len : mg "len" = none
  m_range : mg "range" = none
  m_str : mg "str" = none
  m_int : mg "int" = none
  m_tuple : mg "tuple" = none
  m_list : mg "list" = none
  m_dict : mg "dict" = none
  m_set : mg "set" = none
  m_sorted : mg "sorted" = none
  m_isinstance : mg "isinstance" = none
  m_repr : mg "repr" = none
  m_all : mg "all" = none
  m_enumerate : mg "enumerate" = none
  m_zip : mg "zip" = none
  m_ord : mg "ord" = none
  m_min : mg "min" = none
  m_bool : mg "bool" = none
end Dl

/-! Dx: further rules: a text times an int. -/
namespace Dl
open PySem PySem.Spec PyProof.Rows L2
theorem sz_add {a b : Nat} (ha : a ≤ 1000000) (hb : b ≤ 1000000) : a + b ≤ sizeLine := Nat.le_trans (Nat.add_le_add ha hb) (by decide)
theorem sz_mul {a b : Nat} (ha : a ≤ 1000) (hb : b ≤ 1000) : a * b ≤ sizeLine := Nat.le_trans (Nat.mul_le_mul ha hb) (by decide)
theorem sz_le {a : Nat} (ha : a ≤ 1000000) : a ≤ sizeLine := Nat.le_trans ha (by decide)
theorem sz_lit {a : Nat} (h : Nat.ble a 1000000 = true) : a ≤ sizeLine := Nat.le_trans (Nat.le_of_ble_eq_true h) (by decide)
theorem list_sz {α : Type} {l : List α} (h : Nat.ble l.length 1000000 = true) : l.length ≤ sizeLine := sz_lit h
theorem one_len (c : Nat) {n : Nat} (h : 1 ≤ n) : (Str.mk #[c]).length ≤ n := h
theorem str_app (a b : Str) : (a ++ b).length = a.length + b.length := Array.size_append
theorem add_half {a b n : Nat} (ha : a ≤ n / 2) (hb : b ≤ n / 2) : a + b ≤ n := by omega
section
variable {X : Cx}
theorem mulOk {z : Str} {n : Int} (h1 : -(2 ^ 63) ≤ n) (h2 : n < 2 ^ 63) (h : z.length * n.toNat ≤ sizeLine) : MulOk z n := by
  refine ⟨?_, fun h3 h4 => ?_, fun h3 h4 => ?_⟩
  · rw [decide_eq_false (by omega), decide_eq_false (by omega)]; rfl
  · have h5 : (z.length : Int) * n ≤ 2 ^ 63 - 1 := by
      have h6 : ((z.length * n.toNat : Nat) : Int) = (z.length : Int) * n := by rw [Int.natCast_mul, Int.toNat_of_nonneg (by omega)]
      have h7 : sizeLine = 16777216 := sizeLine_eq
      rw [← h6]; omega
    have h8 : (z.length : Int) ≤ (2 ^ 63 - 1) / n := Int.le_ediv_of_mul_le (by omega) h5
    omega
  · unfold Builtin.Str.tooLong
    exact decide_eq_false (by omega)
def rRepS : R2 := fun x y H Q => ∃ z k, x = .str z ∧ y = .int k ∧ -(2 ^ 63) ≤ k ∧ k < 2 ^ 63 ∧ z.length * k.toNat ≤ sizeLine ∧ Q (.str (Txt.mul z k)) H
theorem op_repS : OpR X (binaryOp .Mult) rRepS := by
  intro pins s σ H x y v u Q I rx ry h
  obtain ⟨z, k, rfl, rfl, h1, h2, hz, q⟩ := h
  obtain ⟨t, rfl⟩ := rx
  obtain ⟨t', rfl⟩ := ry
  exact SB.mul (mulOk h1 h2 hz) fun t2 k2 => ⟨.str _, H, I.tok _, ⟨_, rfl⟩, q⟩
theorem foldl_rep (a : Array Nat) : ∀ (n : Nat) (b : Array Nat), ((List.replicate n a).foldl (· ++ ·) b).toList = b.toList ++ (List.replicate n a.toList).flatten
  | 0, b => by simp
  | n + 1, b => by
    rw [List.replicate_succ, List.foldl_cons, foldl_rep a n, List.replicate_succ, List.flatten_cons, Array.toList_append, List.append_assoc]
theorem mul_list {z : Str} {k : Int} : (Txt.mul z k).cps.toList = (List.replicate k.toNat z.cps.toList).flatten := by
  unfold Txt.mul
  split
  · rename_i h
    have : k.toNat = 0 := by omega
    rw [this]; rfl
  · split
    · rename_i h1 h2
      rcases Bool.or_eq_true_iff.mp h2 with h3 | h3
      · have : k = 1 := by simpa using h3
        subst this
        show z.cps.toList = (List.replicate 1 z.cps.toList).flatten
        simp
      · have h4 : z.cps.toList = [] := by
          have h5 : z.length = 0 := by simpa using h3
          have : z.cps.size = 0 := h5
          exact List.eq_nil_of_length_eq_zero (by rw [Array.length_toList]; exact this)
        rw [h4]
        simp
    · show ((List.replicate k.toNat z.cps).foldl (· ++ ·) #[]).toList = _
      rw [foldl_rep]; simp
theorem mul_len {z : Str} {k : Int} : (Txt.mul z k).length = z.length * k.toNat := by
  have h := congrArg List.length (mul_list (z := z) (k := k))
  rw [Array.length_toList, List.length_flatten] at h
  show (Txt.mul z k).cps.size = z.cps.size * k.toNat
  rw [h]; simp [Nat.mul_comm]
theorem mul_le {z : Str} {k : Int} {n : Nat} (h1 : z.length ≤ 100) (h2 : k ≤ 100) (h : 10000 ≤ n) : (Txt.mul z k).length ≤ n := by
  rw [mul_len]
  exact Nat.le_trans (Nat.mul_le_mul h1 (show k.toNat ≤ 100 by omega)) h
theorem strOk_iff {z : Str} : PyData.strOk z = true ↔ ∀ c ∈ z.cps.toList, c < 0x110000 := by
  unfold PyData.strOk
  rw [← Array.all_toList, List.all_eq_true]
  exact ⟨fun h c hc => of_decide_eq_true (h c hc), fun h c hc => decide_eq_true (h c hc)⟩
theorem strOk_app {a b : Str} (ha : PyData.strOk a = true) (hb : PyData.strOk b = true) : PyData.strOk (a ++ b) = true := strOk_iff.2 fun c hc => by
  have e : (a ++ b).cps.toList = a.cps.toList ++ b.cps.toList := Array.toList_append
  rw [e] at hc
  rcases List.mem_append.mp hc with z | z
  · exact strOk_iff.1 ha c z
  · exact strOk_iff.1 hb c z
theorem strOk_mul {a : Str} {k : Int} (ha : PyData.strOk a = true) : PyData.strOk (Txt.mul a k) = true := strOk_iff.2 fun c hc => by
  rw [mul_list] at hc
  obtain ⟨l, hl, h⟩ := List.mem_flatten.mp hc
  rw [List.eq_of_mem_replicate hl] at h
  exact strOk_iff.1 ha c h
theorem strOk_one {c : Nat} (h : c < 0x110000) : PyData.strOk ⟨#[c]⟩ = true := strOk_iff.2 fun d hd => by
  have : d = c := by simpa using hd
  rw [this]; exact h
end
section
variable {K : Fg} {P M : List Addr} {E : Hp → Hp → Prop} {σ : L2.St} {H H' H1 : Hp} {ta tb tc te : TE} {v : V} {d : PyData} {ds es : List PyData} {vs : List V}
theorem ed_neg (T : Set P M E) {i : Int} : EvD M E (tUn (rU fun i => .int (-i)) (tC (.int i))) σ H (.int (-i)) := fun H1 _ _ Q q => ⟨i, rfl, q _ H1 _ (T.F.rf H1) rfl (.int _)⟩
theorem rs_repS (T : Set P M E) {z : Str} {k : Int} (h1 : -(2 ^ 63) ≤ k) (h2 : k < 2 ^ 63) (hz : z.length * k.toNat ≤ sizeLine) : RS M E rRepS (.str z) (.int k) (fun x => x = .str (Txt.mul z k)) := fun x y H _ hx hy Q q => by
  rw [Dq.str' hx, Dq.int' hy]; exact ⟨z, k, rfl, rfl, h1, h2, hz, q _ H _ (T.F.rf H) rfl (.str _)⟩
theorem rs_cat (T : Set P M E) (hl : ds.length + es.length ≤ sizeLine) : RS M E rCat (.list ds) (.list es) (fun x => x = .list (ds ++ es)) := fun x y H l hx hy Q q => by
  obtain ⟨a, xs, rfl, hs, ha⟩ := Dq.list' hx
  obtain ⟨b, ys, rfl, ht, hb⟩ := Dq.list' hy
  exact ⟨a, b, xs, ys, rfl, rfl, hide_ex _ _ hs, hide_ex _ _ ht, by rw [ha.len, hb.len]; exact hl, fun p hp => q _ _ _ (T.F.ex (Evl.Ex.new hp)) rfl (new_dv_lst l hp (ha.append hb))⟩
theorem rs_rep (T : Set P M E) {k : Int} (h1 : -(2 ^ 63) ≤ k) (h2 : k < 2 ^ 63) (hl : ds.length * k.toNat ≤ sizeLine) : RS M E rRep (.list ds) (.int k) (fun x => x = .list (List.replicate k.toNat ds).flatten) := fun x y H l hx hy Q q => by
  obtain ⟨a, xs, rfl, hs, ha⟩ := Dq.list' hx
  rw [Dq.int' hy]
  exact ⟨a, k, xs, rfl, rfl, hide_ex _ _ hs, h1, h2, by rw [ha.len]; exact hl, fun p hp => q _ _ _ (T.F.ex (Evl.Ex.new hp)) rfl (new_dv_lst l hp (ha.rep _))⟩
theorem rc_lenT (T : Set P M E) : RC M E (fun xs H Q => ∃ p ys, xs = [.ref p] ∧ (SqL K H p ys ∨ SqT K H p ys) ∧ Q (.int ys.length) H) [.tuple ds] (fun x => x = .int ds.length) := fun vs H _ ha Q q => by
  cases ha with
  | cons h1 h2 =>
    cases h2
    obtain ⟨a, xs, rfl, hs, hx⟩ := Dq.tup' h1
    exact ⟨a, xs, rfl, .inr (SqT.of (hide_ex _ _ hs)), q _ H _ (T.F.rf H) (by rw [DqAll.len hx]) (.int _)⟩
theorem rc_lenS (T : Set P M E) {z : Str} (hz : z.length ≤ sizeLine) : RC M E (fun xs H Q => ∃ z, xs = [.str z] ∧ z.length ≤ sizeLine ∧ Q (.int z.length) H) [.str z] (fun x => x = .int z.length) := fun vs H _ ha Q q => by
  cases ha with
  | cons h1 h2 =>
    cases h2
    rw [Dq.str' h1]
    exact ⟨z, rfl, hz, q _ H _ (T.F.rf H) rfl (.int _)⟩
theorem rc_strInt (T : Set P M E) {i : Int} (hi : i.natAbs.log2 < 1920) : RC M E (fun xs H Q => ∃ i, xs = [.int i] ∧ i.natAbs.log2 < 1920 ∧ Q (.str (toString i)) H) [.int i] (fun x => x = .str (toString i)) := fun vs H _ ha Q q => by
  cases ha with
  | cons h1 h2 =>
    cases h2
    rw [Dq.int' h1]
    exact ⟨i, rfl, hi, q _ H _ (T.F.rf H) rfl (.str _)⟩
end
end Dl

/-! Ds: set(texts), sorted(set of texts), sorted(texts) and sorted(dict of texts) of any size. -/
namespace Ds
open PySem PySem.Spec PyProof.Rows L2
/-- an entry of a set of texts, and its text -/
def tx (e : Int × Value) : Str := match e.2 with | .str k _ => k | _ => Str.empty
def IsTx (w : World) (e : Int × Value) : Prop := ∃ k tk, e.2 = Value.str k tk ∧ e.1 = hashStr w k
abbrev setObj (b : Bool) : Obj := { cls := .type "set", dict := none, data := .set #[] 0 (.fresh 0 0 b) }
/-- the set at a has just the texts of L, each once; it can be walked -/
def SetM (w : World) (h : Heap) (a : Addr) (L : List Str) : Prop := ∃ o es ep t, h.get? a = some o ∧ o.ExactSet ∧ o.data = .set es ep t ∧ (∀ e ∈ es.toList, IsTx w e) ∧ (es.toList.map tx).Nodup ∧
  (∀ k, k ∈ es.toList.map tx ↔ k ∈ L) ∧ es.size ≤ L.length ∧ t.fits es.size = true ∧ Ris t.place.toList ∧ (w.params.followText "set-order" = true ∨ t.led = true)
section
variable {P : Program} {w : World} {h h' : Heap} {a : Addr} {L : List Str}
theorem SetM.at (R : SetM w h a L) (k : ∀ o, h.get? a = some o → h'.get? a = some o) : SetM w h' a L := let ⟨o, es, ep, t, ho, r⟩ := R; ⟨o, es, ep, t, k o ho, r⟩
theorem SetM.same {L' : List Str} (R : SetM w h a L) (m : ∀ k, k ∈ L ↔ k ∈ L') (n : L.length ≤ L'.length) : SetM w h a L' :=
  let ⟨o, es, ep, t, ho, h1, h2, h3, h4, h5, h6, h7⟩ := R; ⟨o, es, ep, t, ho, h1, h2, h3, h4, fun k => (h5 k).trans (m k), Nat.le_trans h6 n, h7⟩
theorem isTx_elems {l : List (Int × Value)} (g : ∀ e ∈ l, IsTx w e) : ElemsOf (PySem.strKind P w) l := fun e he => by
  obtain ⟨k, tk, q1, q2⟩ := g e he
  exact ⟨⟨k, by rw [q1]; exact strKind_is P w k tk, q2⟩, by rw [q1]; rfl⟩
theorem isTx_is {e : Int × Value} (g : IsTx w e) (k : Str) : (PySem.strKind P w).is k e.2 = true ↔ tx e = k := by
  obtain ⟨z, tk, q, _⟩ := g
  unfold tx
  rw [q]
  show Value.isStrOf k (.str z tk) = true ↔ z = k
  constructor
  · intro c
    obtain ⟨t, q2⟩ := Value.isStrOf_shape c
    injection q2
  · rintro rfl
    simp [Value.isStrOf]
theorem tx_mem {l : List (Int × Value)} (g : ∀ e ∈ l, IsTx w e) (k : Str) : k ∈ l.map tx ↔ ∃ e ∈ l, (PySem.strKind P w).is k e.2 = true := by
  rw [List.mem_map]
  exact ⟨fun ⟨e, he, q⟩ => ⟨e, he, (isTx_is (g e he) k).2 q⟩, fun ⟨e, he, q⟩ => ⟨e, he, (isTx_is (g e he) k).1 q⟩⟩
end
section
variable {P : Program} {w : World} {A : Around} {E : Value → Shared → Prop} {s : Shared} {a : Addr} {L : List Str}
/-- behind the laying of a new entry: the store, and the table made larger where it is too full -/
theorem lay_tail {g : Bool → Sem Unit} (hg : ∀ (b : Bool) (z : Shared) (Q' : Unit → Shared → Prop), Q' () z → wpAny (model P w) A (g b) Q' E z) {o : Obj} {es : Array (Int × Value)} {ep : Nat} {t : SetTable} (ho : s.heap.get? a = some o) (hx : o.ExactSet)
    (hd : o.data = .set es ep t) {fs : Array (Int × Value)} {u : SetTable} {N : List Str} (g1 : ∀ e ∈ fs.toList, IsTx w e) (nd : (fs.toList.map tx).Nodup) (m : ∀ k, k ∈ fs.toList.map tx ↔ k ∈ N) (hn : fs.size ≤ N.length) (hb : fs.size < scanBound)
    (hf : u.fits fs.size = true) (hr : Ris u.place.toList) (hl : w.params.followText "set-order" = true ∨ u.led = true) {dm : Bool} {R : Option Bool → Shared → Prop} (hR : ∀ h', Heap.SameBut a s.heap h' → SetM w h' a N → R (some true) { s with heap := h' }) :
    wpAny (model P w) A (do
      storeSet a fs u
      if (!dm && u.tooFull) = true then do
        g (relayAll u fs (SetTable.grown fs.size)).2.2
        storeSet a (relayAll u fs (SetTable.grown fs.size)).1 (relayAll u fs (SetTable.grown fs.size)).2.1
        pure (some true)
      else pure (some true)) R E s := by
  refine wpAny_bind (wpAny_storeSet_of ho hd ?_ (fits_of_scanBound hb))
  have at1 := store_at (es' := fs) (t' := u) ho hd
  have sb := Heap.SameBut.update s.heap a (Obj.putSet fs u)
  split
  · have p1 := relayAll_perm u fs (SetTable.grown fs.size)
    have p2 := relayAll_fits u fs (SetTable.grown fs.size)
    have p3 := relayAll_ris u fs (SetTable.grown fs.size)
    have p4 := relayAll_led u fs (SetTable.grown fs.size)
    generalize relayAll u fs (SetTable.grown fs.size) = Z at p1 p2 p3 p4 ⊢
    obtain ⟨ks, v, gave⟩ := Z
    dsimp only at p1 p2 p3 p4 ⊢
    have sz : ks.size = fs.size := by rw [← Array.length_toList, p1.length_eq, Array.length_toList]
    refine wpAny_bind (hg _ _ _ (wpAny_bind (wpAny_storeSet_of at1 rfl ?_ (fits_of_scanBound (by rw [sz]; exact hb)))))
    have at2 := store_at (es' := ks) (t' := v) at1 rfl
    exact wpAny_pure (hR _ (sb.trans (Heap.SameBut.update _ a _)) ⟨_, ks, _, v, at2, hx, rfl, fun e he => g1 e (p1.mem_iff.mp he), (p1.map tx).nodup_iff.mpr nd, fun k => (p1.map tx).mem_iff.trans (m k), by rw [sz]; exact hn, p2, p3, hl.imp id fun z => by rw [p4]; exact z⟩)
  · exact wpAny_pure (hR _ sb ⟨_, fs, _, u, at1, hx, rfl, g1, nd, m, hn, hf, hr, hl⟩)
/-- one text put in -/
theorem add_one {k : Str} {tk : Tok} {Q : Bool → Shared → Prop} (R : SetM w s.heap a L) (room : L.length + 1 < scanBound) (hQ : ∀ b h', Heap.SameBut a s.heap h' → SetM w h' a (L ++ [k]) → Q b { s with heap := h' }) :
    wpAny (model P w) A (setAddHashed a (.str k tk) ((PySem.strKind P w).hash k)) Q E s := by
  obtain ⟨o, es, ep, t, ho, hx, hd, g, nd, m, hn, hf, hr, hl⟩ := R
  have key := strKind_is P w k tk
  have sc : (Value.str k tk).scannable = true := rfl
  have el : ElemsOf (PySem.strKind P w) es.toList := isTx_elems g
  have bd : es.size < scanBound := by omega
  unfold setAddHashed setAddHashedIn
  refine wpAny_holding (wpAny_bind (wpAny_setState_of ho hd hf ?_))
  dsimp only
  rw [byScan_of sc bd el]
  simp only [↓reduceIte]
  unfold setAddByScan
  refine wpAny_bind (wpAny_bind (wpAny_rule (wpAny_bind (wpAny_setScan_of key ho hd hf el ?_))))
  cases fi : List.findIdx? (fun e => (PySem.strKind P w).is k e.2) es.toList with
  | some j =>
    dsimp only
    obtain ⟨hj, pj, _⟩ := List.findIdx?_eq_some_iff_getElem.mp fi
    have kin : k ∈ L := (m k).1 ((tx_mem (P := P) (w := w) g k).2 ⟨es.toList[j], List.getElem_mem hj, pj⟩)
    refine wpAny_pure (wpAny_pure (hQ _ s.heap (Heap.SameBut.refl a s.heap) ⟨o, es, ep, t, ho, hx, hd, g, nd, fun i => ?_, by rw [List.length_append]; omega, hf, hr, hl⟩))
    rw [m i, List.mem_append, List.mem_singleton]
    exact ⟨.inl, fun z => z.elim id fun e => e ▸ kin⟩
  | none =>
    dsimp only
    have out : k ∉ es.toList.map tx := fun z => by
      obtain ⟨e, he, q⟩ := (tx_mem (P := P) (w := w) g k).1 z
      have c := List.findIdx?_eq_none_iff.mp fi e he
      rw [q] at c
      cases c
    have gave0 : ∀ (b : Bool) {z : Shared} {Q' : Unit → Shared → Prop}, Q' () z → wpAny (model P w) A (match b with | true => rule "set.scan.the-table-gave-way" | false => pure ()) Q' E z :=
      fun b z Q' q => by cases b <;> first | exact wpAny_pure q | exact wpAny_rule q
    have p1 := layNew_perm t es ((PySem.strKind P w).hash k) (.str k tk)
    have p2 := layNew_fits t es ((PySem.strKind P w).hash k) (.str k tk)
    have p3 := layNew_ris t es ((PySem.strKind P w).hash k) (.str k tk) hr
    have p4 := layNew_led t es ((PySem.strKind P w).hash k) (.str k tk)
    generalize layNew t es ((PySem.strKind P w).hash k) (.str k tk) = Z at p1 p2 p3 p4 ⊢
    obtain ⟨fs, u, dm, gave⟩ := Z
    dsimp only at p1 p2 p3 p4 ⊢
    rw [Array.toList_push] at p1
    have pc : fs.toList.Perm (((PySem.strKind P w).hash k, Value.str k tk) :: es.toList) := p1.trans (List.perm_append_singleton _ _)
    have pk : (fs.toList.map tx).Perm (k :: es.toList.map tx) := pc.map tx
    have g1 : ∀ e ∈ fs.toList, IsTx w e := fun e he => by
      rcases List.mem_cons.mp (pc.mem_iff.mp he) with z | z
      · rw [z]; exact ⟨k, tk, rfl, rfl⟩
      · exact g e z
    have nd1 : (fs.toList.map tx).Nodup := pk.nodup_iff.mpr (List.nodup_cons.mpr ⟨out, nd⟩)
    have m1 : ∀ i, i ∈ fs.toList.map tx ↔ i ∈ L ++ [k] := fun i => by
      rw [pk.mem_iff, List.mem_cons, m i, List.mem_append, List.mem_singleton]
      exact Or.comm
    have sz : fs.size = es.size + 1 := by rw [← Array.length_toList, pc.length_eq, List.length_cons, Array.length_toList]
    have n1 : fs.size ≤ (L ++ [k]).length := by rw [List.length_append, List.length_singleton]; omega
    have b1 : fs.size < scanBound := by omega
    have hl1 : w.params.followText "set-order" = true ∨ u.led = true := hl.imp id fun z => by rw [p4]; exact z
    refine wpAny_bind (gave0 _ ?_)
    split
    · refine wpAny_bind ?_
      rw [hashByValue_scannable 8 sc]
      refine wpAny_pure (lay_tail ?_ ho hx hd g1 nd1 m1 n1 b1 ?_ ?_ ?_ ?_)
      · intro b z Q' q; cases b <;> first | exact wpAny_pure q | exact wpAny_rule q
      · first | (split <;> first | exact p2 | exact SetTable.fits_plain_off p2) | exact p2
      · first | (split <;> exact p3) | exact p3
      · first | (split <;> exact hl1) | exact hl1
      · intro h' sb r; dsimp only; exact wpAny_pure (hQ _ h' sb r)
    · refine wpAny_bind (wpAny_pure ?_)
      simp only [↓reduceIte]
      refine lay_tail ?_ ho hx hd g1 nd1 m1 n1 b1 p2 p3 hl1 ?_
      · intro b z Q' q; cases b <;> first | exact wpAny_pure q | exact wpAny_rule q
      · intro h' sb r; dsimp only; exact wpAny_pure (hQ _ h' sb r)
end
section
variable {prog : Program} {w : World} {A : Around} {R : Result → Shared → Prop} {I : Addr} {fp wr : List Addr} {G : Array GenState → Array GenState → Prop} {n : Nat} {P : Nat → Value → Prop} {St : Nat → Shared → Prop}
/-- all that a walk over texts gives, put in -/
theorem fill (W : WalksS prog w A.in1 I fp wr G n P St) (S : Addr) (hSf : S ∉ fp) (xs : List Str) (hsz : xs.length = n) (hb : n + 1 < scanBound) (hval : ∀ i v, P i v → ∃ t, v = .str (xs.getD i Str.empty) t) :
    ∀ (k i : Nat) (s : Shared), n - i = k → i ≤ n → St i s → SetM w s.heap S (xs.take i) → (∀ s', Moved (S :: wr) G s s' → SetM w s'.heap S xs → R (.ok (.ret .none)) s') →
      codeAny (model prog w) A (.builtin "set.update.loop" ⟨[.ref S, .ref I], []⟩) R s := by
  have hSw : S ∉ wr := fun h => hSf (W.sub _ h)
  have up : ∀ b ∈ wr, b ∈ S :: wr := fun b hb => List.mem_cons_of_mem _ hb
  intro k
  induction k with
  | zero =>
    intro i s hk hi hst hS hR
    obtain rfl : i = n := by omega
    refine codeAny_builtin PyProof.Rows.F.entry_set_update_loop ?_
    rw [Around.under_plainId PyProof.Rows.F.plain_set_update_loop _]
    refine wpAny_bind (m := pyNext (.ref I)) (W.done s _ _ hst fun s' hm => ?_)
    refine wpAny_pure (hR s' (hm.mono up) ?_)
    rw [List.take_of_length_le (by omega)] at hS
    exact hS.at fun o ho => hm.heap S o hSw ho
  | succ k ih =>
    intro i s hk hi hst hS hR
    have lt : i < n := by omega
    refine codeAny_builtin PyProof.Rows.F.entry_set_update_loop ?_
    rw [Around.under_plainId PyProof.Rows.F.plain_set_update_loop _]
    refine wpAny_bind (m := pyNext (.ref I)) (W.item i s _ _ lt hst fun v s' hP hst' hm => ?_)
    obtain ⟨t, rfl⟩ := hval i v hP
    have hS' : SetM w s'.heap S (xs.take i) := hS.at fun o ho => hm.heap S o hSw ho
    refine wpAny_bind (m := holding [Value.str (xs.getD i Str.empty) t] (setAdd S (.str (xs.getD i Str.empty) t))) (wpAny_holding ?_)
    unfold setAdd
    refine wpAny_holding (wpAny_bind ((PySem.strKind prog w).pyHash (k := xs.getD i Str.empty) (strKind_is _ _ _ _) ?_))
    refine add_one (s := { s' with toks := s'.toks + 1 }) hS' (by rw [List.length_take]; omega) fun bb h' sb hS2 => ?_
    have hSi : SetM w h' S (xs.take (i + 1)) := by
      have e : xs.take (i + 1) = xs.take i ++ [xs.getD i Str.empty] := by
        rw [List.take_add_one, List.getElem?_eq_getElem (by omega), List.getD_eq_getElem?_getD, List.getElem?_eq_getElem (by omega)]
        rfl
      rw [e]; exact hS2
    refine wpAny_pure ⟨plainId_quiet PyProof.Rows.F.plain_set_update_loop _, ih (i + 1) _ (by omega) lt (W.frame _ s' _ _ hst' (Nat.le_succ _) fun b hb o e => ?_) hSi fun s'' m2 hS'' => ?_⟩
    · rw [sb.2 b (fun q : b = S => hSf (q ▸ hb))]; exact e
    · refine hR s'' (Moved.trans W.gtrans ((hm.mono up).then_heap (Nat.le_succ _) fun b o hb e => ?_) m2) hS''
      rw [sb.2 b (fun q : b = S => hb (q ▸ List.mem_cons_self))]; exact e
end
section
variable {prog : Program} {w : World} {A : Around} {E : Value → Shared → Prop} {s : Shared}
theorem new_led (a : Value) {Q₁ : Value → Shared → Prop} (h : Q₁ (.ref s.heap.objs.size) { s with heap := s.heap.push (setObj (!w.params.followText "set-order")) }) :
    codeAny (model prog w) A (.call (.builtin "set.__new__") ⟨[.type "set", a], []⟩) (wants Q₁ E) s := by
  refine codeAny_of_tree (show wpAny _ A.in1 (do checkBuiltinCall "set.__new__" ⟨[.type "set", a], []⟩; again (.builtin "set.__new__" ⟨[.type "set", a], []⟩)) _ _ s from ?_)
  refine wpAny_bind (wpAny_of_eq (PySem.F.newCall_set_1 a) (wpAny_pure ⟨plainId_quiet PySem.F.plain_set_new _, codeAny_builtin PySem.F.entry_set_new ?_⟩))
  rw [Around.under_plainId PySem.F.plain_set_new _]
  unfold Builtin.«set.__new__» Builtin.Frozenset.newClass
  have hsub := sub_set_self
  obtain ⟨hp, g, d, tk, os⟩ := s
  dsimp only
  wp_walk
  refine wpAny_askSetting (wpAny_pure ?_)
  dsimp only
  simp only [newObj]
  exact wpAny_bind (wpAny_alloc (wpAny_pure (wpAny_pure h)))
theorem fresh_ok (h : Heap) (w : World) : SetM w (h.push (setObj (!w.params.followText "set-order"))) h.objs.size [] :=
  ⟨_, #[], 0, _, Heap.get?_push_size _ rfl, ⟨rfl, rfl, rfl⟩, rfl, (fun e he => by simp at he), by simp, fun k => by simp, Nat.le_refl _, rfl, List.Pairwise.nil, by
    show _ ∨ (!w.params.followText "set-order") = true
    cases w.params.followText "set-order"
    · exact .inr rfl
    · exact .inl rfl⟩
/-- set(list of texts) -/
theorem call_set {l : Addr} {items : Array Value} {xs : List Str} {Q : Value → Shared → Prop} (hh : A.handled = none) (hl : s.heap.IsList l items) (hi : StrsAre items.toList xs) (hb : xs.length + 1 < scanBound)
    (h : ∀ (h' : Heap) (tk : Nat), SetM w h' s.heap.objs.size xs → (∀ b o, b < s.heap.objs.size → s.heap.get? b = some o → h'.get? b = some o) → Q (.ref s.heap.objs.size) { s with heap := h', toks := tk }) :
    wpAny (model prog w) A (call (.type "set") [.ref l]) Q E s := by
  obtain ⟨c, tl, hmro⟩ := PySem.F.called_set.mro
  have hmade := PySem.F.called_set.made
  have hsub := PySem.F.called_set.sub
  refine wpAny_call (codeAny_of_tree (show wpAny _ _ (callAny (.type "set") _) _ _ _ from ?_))
  refine wpAny_pure ⟨Code.quiet_builtin _ (by decide +kernel), codeAny_builtin PySem.F.entry_type_call ?_⟩
  rw [Around.under_plain (weight_type_call_type "set" [.ref l] []) rfl]
  have c1 := PySem.F.called_set.notType
  have c2 := PySem.F.called_set.canCreate
  have c3 := PySem.F.typeCall_set_1 (.ref l)
  repeat (any_goals (first | assumption | wp_step))
  refine codeAny_mono (new_led (.ref l) (E := E) (Q₁ := fun obj z => obj = .ref s.heap.objs.size ∧ z = { s with heap := s.heap.push (setObj (!w.params.followText "set-order")) }) ⟨rfl, rfl⟩) fun r z hr => ?_
  have fresh := fresh_ok s.heap w
  generalize (!w.params.followText "set-order") = led at hr fresh
  cases r with
  | error e => exact hr
  | ok fl =>
    cases fl with
    | ret obj =>
      obtain ⟨rfl, rfl⟩ := hr
      have at0 : (s.heap.push (setObj led)).get? s.heap.objs.size = some (setObj led) := Heap.get?_push_size _ rfl
      have ty0 : Shared.TypeIs { s with heap := s.heap.push (setObj led) } (.ref s.heap.objs.size) "set" := ⟨_, at0, rfl⟩
      have i1 := PySem.F.called_set.init.lookup
      have i2 := PySem.F.called_set.init.bind (.ref s.heap.objs.size)
      repeat (any_goals (first | assumption | wp_step))
      refine codeAny_mono (codeAny_call_builtin (R := wants (fun r z => r = .none ∧ ∃ h' tk, z = { s with heap := h', toks := tk } ∧ SetM w h' s.heap.objs.size xs ∧ (∀ b o, b < s.heap.objs.size → s.heap.get? b = some o → h'.get? b = some o)) E)
        PySem.F.called_set.init.plain PySem.F.entry_set_init (check_set_init_1 ty0 ?_)) fun r2 z2 hr2 => ?_
      · obtain ⟨ol, hol, hcl, nl, hdl⟩ := hl
        obtain ⟨ocls, odict, odata, oslots⟩ := ol
        simp only at hcl hdl
        subst hcl; subst hdl
        have atl : (s.heap.push (setObj led)).get? l = some { cls := .type "list", dict := odict, data := .seq items nl, slots := oslots } := Heap.get?_push_of_some _ hol
        have k1 := PySem.F.sub_list_set
        have k2 := PySem.F.sub_list_frozenset
        have k3 : (Value.type "list" == Value.type "dict") = false := by decide
        have isl : (s.heap.push (setObj led)).IsList l items := ⟨_, atl, rfl, nl, rfl⟩
        unfold Builtin.«set.__init__» noKeywords Builtin.Frozenset.updateFrom
        generalize hPI : pyIter = PI
        wp_walk
        subst hPI
        refine wpAny_pyIter_list isl (wpAny_bind (wpAny_runValue ?_))
        have lt0 : l < s.heap.objs.size := Heap.lt_size hol
        have hh3 : A.in1.in1.in1.handled = none := by simp [hh]
        have sz1 : (s.heap.push (setObj led)).objs.size = s.heap.objs.size + 1 := Heap.size_push _ _
        have ne1 : l ≠ (s.heap.push (setObj led)).objs.size := by rw [sz1]; exact Nat.ne_of_lt (Nat.lt_succ_of_lt lt0)
        have ne2 : s.heap.objs.size ∉ [(s.heap.push (setObj led)).objs.size, l] := by
          rw [sz1]; simp only [List.mem_cons, List.not_mem_nil, or_false, not_or]
          exact ⟨Nat.ne_of_lt (Nat.lt_succ_self _), Nat.ne_of_gt lt0⟩
        have lsz : xs.length = items.size := by rw [← StrsAre.len_eq hi, Array.length_toList]
        refine fill ((Walks.list hh3 _ l ne1 items).toS) s.heap.objs.size ne2 xs lsz (by rw [← lsz]; exact hb) (fun i v hv => SS.strs_at hi i v (by rw [Array.getElem?_toList]; exact hv)) (items.size - 0) 0 _ (by omega) (Nat.zero_le _)
          ⟨⟨_, Heap.get?_push_size _ rfl, rfl, rfl⟩, (isl.push _)⟩ ?hS0 ?hR
        case hS0 => exact fresh.at fun o ho => Heap.get?_push_of_some _ ho
        case hR =>
          intro z hm hS'
          obtain ⟨h', g', d', tk', os'⟩ := z
          obtain rfl : g' = s.gens := hm.gens
          obtain rfl : d' = s.drawn := hm.drawn
          obtain rfl : os' = s.os := hm.os
          show wpAny _ _ _ _ _ _
          refine wpAny_pure (show wpAny _ _ (ret Value.none) _ _ _ from wpAny_pure ⟨rfl, h', tk', rfl, hS', fun b o hb e => ?_⟩)
          have n1 : b ≠ s.heap.objs.size := Nat.ne_of_lt hb
          have n2 : b ≠ (s.heap.push (setObj led)).objs.size := by rw [sz1]; exact Nat.ne_of_lt (Nat.lt_succ_of_lt hb)
          exact hm.heap b o (by simp only [List.mem_cons, List.mem_singleton, List.not_mem_nil, or_false, not_or]; exact ⟨n1, n2⟩) (Heap.get?_push_of_some _ (Heap.get?_push_of_some _ e))
      · cases r2 with
        | error e => exact hr2
        | ok f2 =>
          cases f2 with
          | ret r =>
            obtain ⟨rfl, h', tk, rfl, hS', hk'⟩ := hr2
            repeat (any_goals (first | assumption | wp_step))
            exact h _ _ hS' hk'
          | _ => exact hr2.elim
    | _ => exact hr.elim
end
end Ds

/-! Ds2: the rules over the layer, and the rising list of some texts. -/
namespace Ds
open PySem PySem.Spec PyProof.Rows L2
def SetH (w : World) (a : Addr) (L : List Str) : HO := .ext fun h => SetM w h a L
section
variable {X : Cx}
theorem setH_new {w : World} {P : Program} {H : Hp} {h : Heap} {a : Addr} {L : List Str} (R : SetM w h a L) : ObjOk P w H h a (SetH w a L) :=
  ⟨R, let ⟨o, _, _, _, ho, _⟩ := R; ⟨o, ho⟩, fun _ _ p k => p.at k⟩
def rSetL (K : PySem.W.Frag) (w : World) : List V → Hp → VK → Prop := fun vs H Q => ∃ (a : Addr) (xs : List Str), vs = [V.ref a] ∧ SqL K H a (xs.map V.str) ∧ xs.length < 4000 ∧ ∀ p, H p = none → Q (.ref p) (upd H p (SetH w p xs))
theorem cr_setL (hc : X.calm = true) : CallR X (.type "set") (rSetL X.K X.w) := by
  intro pins s σ H vs us Q I r h
  obtain ⟨a, xs, rfl, hs, hz, q⟩ := h
  obtain ⟨its, rv, hl, _⟩ := I.list hs
  rw [Vals.ref1 r]
  have hb : xs.length + 1 < scanBound := by show xs.length + 1 < 4096; omega
  refine call_set (I.ok.hd hc) hl.isList rv.strs hb fun h' tk R k => ?_
  have k' : ∀ b o, s.heap.get? b = some o → h'.get? b = some o := fun b o e => k b o (Heap.lt_size e) e
  exact ⟨.ref _, upd H s.heap.objs.size (SetH X.w s.heap.objs.size xs), I.laid (t' := tk) k' (Nat.le_refl _) (setH_new R), rfl, q _ (I.hok.fresh (Nat.le_refl _))⟩
/-- the one sorted list of some texts, each once -/
def Rises (ys L : List Str) : Prop := sortedS ys = true ∧ ys.Nodup ∧ ∀ k, k ∈ ys ↔ k ∈ L
def rSortSetS (w : World) : List V → Hp → VK → Prop := fun vs H Q => ∃ (a : Addr) (L : List Str), vs = [V.ref a] ∧ H a = some (SetH w a L) ∧ L.length < 4000 ∧ ∀ ys p, Rises ys L → H p = none → Q (.ref p) (upd H p (.lst (ys.map V.str)))
theorem txs_at : ∀ (l : List (Int × Value)), (∀ e ∈ l, ∃ k tk, e.2 = Value.str k tk) → StrsAre (l.map (·.2)) (l.map tx)
  | [], _ => .nil
  | e :: l, h => by
    obtain ⟨k, tk, q⟩ := h e List.mem_cons_self
    have q2 : tx e = k := by unfold tx; rw [q]
    rw [List.map_cons, List.map_cons, q2, q]
    exact .cons k tk (txs_at l fun z hz => h z (List.mem_cons_of_mem _ hz))
theorem strs_perm {us vs : List Value} {xs : List Str} (h : StrsAre us xs) (p : vs.Perm us) : ∃ ys, StrsAre vs ys ∧ ys.Perm xs := by
  induction p generalizing xs with
  | nil => exact ⟨xs, h, .refl _⟩
  | @cons x l1 l2 _ ih =>
    cases h with
    | cons y t h' =>
      obtain ⟨ys, a, b⟩ := ih h'
      exact ⟨y :: ys, .cons y t a, b.cons y⟩
  | swap x y l =>
    cases h with
    | cons a ta h' =>
      cases h' with
      | cons b tb h'' => exact ⟨_, .cons b tb (.cons a ta h''), .swap ..⟩
  | trans _ _ ih1 ih2 =>
    obtain ⟨ys, a, b⟩ := ih2 h
    obtain ⟨zs, c, d⟩ := ih1 a
    exact ⟨zs, c, d.trans b⟩
theorem cr_sortedSetS (hc : X.calm = true) : CallR X (.builtin "sorted") (rSortSetS X.w) := by
  intro pins s σ H vs us Q I r h
  obtain ⟨a, L, rfl, ha, hz, q⟩ := h
  rw [Vals.ref1 r]
  obtain ⟨o, es, ep, t, ho, hx, hd, g, nd, m, hn, hf, hr, hl⟩ := (I.hok a _ ha).1
  have bd : es.size < scanBound := by show es.size < 4096; omega
  refine Calls.call_function_entry PyProof.Rows.kind_sorted PyProof.Rows.plain_sorted PyProof.Rows.entry_sorted (PyProof.Rows.args_sorted1 _) ?_
  unfold Builtin.«sorted»
  refine wpAny_bind (m := checkCount "sorted" 1 1 _) (wpAny_pure ?_)
  refine wpAny_bind (collect_set (A := X.A.in1) (I.ok.hd hc) ⟨o, ho, hx.1, hd⟩ hf bd hr hl fun s1 out k1 sz g1 o1 pm => ?_)
  obtain ⟨ss, hS, pS⟩ := strs_perm (txs_at es.toList fun e he => let ⟨k, tk, h1, _⟩ := g e he; ⟨k, tk, h1⟩) pm
  have hal : out.length = es.size := by rw [pm.length_eq, List.length_map, Array.length_toList]
  have hL : out.length ≤ sizeLine := by rw [hal]; exact fits_of_scanBound bd
  refine wpAny_bind (wpAny_newList ?_ hL)
  have hoL : (s1.heap.push (seqObj "list" out.toArray 0)).get? s1.heap.objs.size = some (seqObj "list" out.toArray 0) := Heap.get?_push_size _ rfl
  refine wpAny_bind (wpAny_holding (wpAny_call_entry PyProof.Rows.slot_list_sort ⟨_, hoL, rfl⟩ PyProof.Rows.entry_list_sort
    (list_sort_treeKAny strKind_oneLt hoL hS.keysOf (fun v1 v2 rest e => keyKind_strs (by rw [← e]; exact hS)) hL fun st' hp hs => ⟨_, rfl, ?_⟩) (PyProof.Rows.args_list_sort _)))
  obtain ⟨ys, q1, q2, q3⟩ := sorted_out_str hS hp hs
  obtain ⟨c, hat⟩ := PyProof.Rows.sortedHeap_at (vs := out) (out := (arrOf st').map (·.2)) hoL
  have pY : ys.Perm (es.toList.map tx) := q2.trans pS
  have hlen : (ys.map V.str).length ≤ sizeLine := by
    rw [List.length_map, pY.length_eq, List.length_map, Array.length_toList, ← hal]; exact hL
  have hp0 : s.heap.objs.size ≤ s1.heap.objs.size := sz
  have hn0 : H s1.heap.objs.size = none := I.hok.fresh hp0
  have kk : ∀ b u, s.heap.get? b = some u → (PyProof.Rows.sortedHeap (s1.heap.push (seqObj "list" out.toArray 0)) s1.heap.objs.size out ((arrOf st').map (·.2))).get? b = some u := fun b u e => by
    have e1 := k1 b u e
    have lt := Heap.lt_size e1
    rw [PyProof.Rows.sortedHeap_old (Nat.ne_of_lt lt) (by rw [size_push']; exact Nat.lt_succ_of_lt lt)]
    exact Heap.get?_push_of_some _ e1
  refine wpAny_pure ⟨_, rfl, .ref s1.heap.objs.size, upd H s1.heap.objs.size (.lst (ys.map V.str)), ?_, rfl, q ys _ ⟨q3, pY.nodup_iff.mpr nd, fun k => pY.mem_iff.trans (m k)⟩ hn0⟩
  have J : Inv X pins σ (upd H s1.heap.objs.size (.lst (ys.map V.str))) { s with heap := PyProof.Rows.sortedHeap (s1.heap.push (seqObj "list" out.toArray 0)) s1.heap.objs.size out ((arrOf st').map (·.2)), gens := s1.gens, drawn := s1.drawn, toks := s1.toks } :=
    I.call (ch := []) (Un.laid kk hp0 hn0) (I.hok.laid kk hp0 ⟨hlen, ((arrOf st').map (·.2)).toList, c, vals_of_strs q1, by rw [Array.toArray_toList]; exact hat⟩) (by rw [g1]; exact I.bare) (fun _ z => nomatch z)
  have e : ({ s1 with heap := PyProof.Rows.sortedHeap (s1.heap.push (seqObj "list" out.toArray 0)) s1.heap.objs.size out ((arrOf st').map (·.2)) } : Shared) = { s with heap := PyProof.Rows.sortedHeap (s1.heap.push (seqObj "list" out.toArray 0)) s1.heap.objs.size out ((arrOf st').map (·.2)), gens := s1.gens, drawn := s1.drawn, toks := s1.toks } := by
    cases s1
    cases s
    cases o1
    rfl
  rw [e]
  exact J
/-- sorted(texts), any number -/
def rSortedSA (K : PySem.W.Frag) : List V → Hp → VK → Prop := fun vs H Q => ∃ (a : Addr) (xs : List Str), vs = [V.ref a] ∧ SqL K H a (xs.map V.str) ∧ ∀ (ys : List Str) (p : Addr), ys.Perm xs → sortedS ys = true → H p = none → Q (.ref p) (upd H p (.lst (ys.map V.str)))
theorem cr_sortedSA : CallR X (.builtin "sorted") (rSortedSA X.K) := by
  intro pins s σ H vs us Q I r h
  obtain ⟨a, xs, rfl, hs, q⟩ := h
  obtain ⟨its, rv, hl, hz⟩ := I.list hs
  rw [Vals.ref1 r]
  have l0 := rv.length
  rw [List.length_map] at l0 hz
  refine PyProof.Rows.sorted_strsAny hl.isList rv.strs (by rw [← l0]; exact hz) fun out ys q1 q2 q3 => ?_
  obtain ⟨ep, hat⟩ := PyProof.Rows.sortedAll_at s.heap its out
  have hlen : (ys.map V.str).length ≤ sizeLine := by rw [List.length_map, q2.length_eq]; exact hz
  exact ⟨.ref _, upd H (s.heap.objs.size + 1) (.lst (ys.map V.str)), I.laid (t' := s.toks) (fun _ _ => PyProof.Rows.sortedAll_old) (Nat.le_succ _) ⟨hlen, out.toList, ep, vals_of_strs q1, hat⟩, rfl, q ys _ q2 q3 (I.hok.fresh (Nat.le_succ _))⟩
/-- sorted(dict), its keys texts, any number -/
def rSortedDS : List V → Hp → VK → Prop := fun xs H Q => ∃ (a : Addr) (kvs : List (Key × V)) (ks : List Str), xs = [.ref a] ∧ Rd H a (.dK kvs) ∧ kvs.map (·.1) = ks.map Sum.inr ∧ ∀ ys p, ys.Perm ks → sortedS ys = true → H p = none → Q (.ref p) (upd H p (.lst (ys.map V.str)))
theorem cr_sortedDS (hc : X.calm = true) : CallR X (.builtin "sorted") rSortedDS := by
  intro pins s σ H xs us Q I r q
  obtain ⟨a, kvs, ks, rfl, hd, hks, q⟩ := q
  obtain ⟨u, rfl, rx⟩ := vals1 r
  cases rx
  obtain ⟨z, lo, vs, rel, dd⟩ := dk_rd I.hok hd
  obtain ⟨ep, hat⟩ := dd.dictAt
  have hkeys : vs.map (·.1) = ks.map Sum.inr := rel.keys.symm.trans hks
  have hl : vs.length = ks.length := by
    have e := congrArg List.length hkeys
    rwa [List.length_map, List.length_map] at e
  have h16 : vs.length ≤ sizeLine := by rw [← rel.length]; exact z
  refine Calls.call_function_entry PyProof.Rows.kind_sorted PyProof.Rows.plain_sorted PyProof.Rows.entry_sorted (PyProof.Rows.args_sorted1 _) ?_
  unfold Builtin.«sorted»
  refine wpAny_bind (m := checkCount "sorted" 1 1 _) (wpAny_pure (wpAny_bind (PySem.W.kdu_collect (A := X.A.in1) (PySem.W.kdl_dict (knd := mixKind X.prog X.w) (kvs := vs) (ep := ep) lo) (I.ok.hd hc) hat h16 fun h' tk acc hk hacc => ?_)))
  have hal : acc.toList.length = ks.length := by rw [Array.length_toList, hacc.1, hl]
  have hS : StrsAre acc.toList ks := strs_at hal fun j v e => by
    obtain ⟨k, x, e1, e2⟩ := hacc.2 j v (by rw [← Array.getElem?_toList]; exact e)
    have e3 : (vs.map (·.1))[j]? = some k := by rw [List.getElem?_map, e1]; rfl
    rw [hkeys, List.getElem?_map] at e3
    cases e4 : ks[j]? with
    | none => rw [e4] at e3; cases e3
    | some y =>
      rw [e4] at e3
      obtain rfl : Sum.inr y = k := Option.some.inj e3
      obtain ⟨t, ev⟩ := Value.isStrOf_shape (x := y) (v := v) e2
      exact ⟨y, t, rfl, ev⟩
  have I1 : Inv X pins σ H { s with heap := h', toks := tk } := I.kept hk
  have hL : acc.toList.length ≤ sizeLine := by rw [hal, ← hl]; exact h16
  refine wpAny_bind (wpAny_newList ?_ hL)
  have hoL : (h'.push (seqObj "list" acc.toList.toArray 0)).get? h'.objs.size = some (seqObj "list" acc.toList.toArray 0) := Heap.get?_push_size _ rfl
  show wpAny _ _ _ _ _ { s with heap := h'.push (seqObj "list" acc.toList.toArray 0), toks := tk }
  refine wpAny_bind (wpAny_holding (wpAny_call_entry PyProof.Rows.slot_list_sort ⟨_, hoL, rfl⟩ PyProof.Rows.entry_list_sort
    (list_sort_treeKAny strKind_oneLt (s := { s with heap := h'.push (seqObj "list" acc.toList.toArray 0), toks := tk }) hoL hS.keysOf (fun v1 v2 rest e => keyKind_strs (by rw [← e]; exact hS)) hL fun st' hp hs => ⟨_, rfl, ?_⟩) (PyProof.Rows.args_list_sort _)))
  obtain ⟨ys, q1, q2, q3⟩ := sorted_out_str hS hp hs
  obtain ⟨c, hat'⟩ := PyProof.Rows.sortedHeap_at (vs := acc.toList) (out := (arrOf st').map (·.2)) hoL
  have hlen : (ys.map V.str).length ≤ sizeLine := by rw [List.length_map, q2.length_eq, ← hl]; exact h16
  refine wpAny_pure ⟨_, rfl, .ref h'.objs.size, upd H h'.objs.size (.lst (ys.map V.str)), I1.laid (t' := tk) (fun b u e => ?_) (Nat.le_refl _)
    (show ObjOk X.prog X.w _ _ _ (.lst (ys.map V.str)) from ⟨hlen, ((arrOf st').map (·.2)).toList, c, vals_of_strs q1, by rw [Array.toArray_toList]; exact hat'⟩), rfl, q ys _ q2 q3 (I1.hok.fresh (Nat.le_refl _))⟩
  have hb : b < h'.objs.size := Heap.lt_size e
  rw [PyProof.Rows.sortedHeap_old (Nat.ne_of_lt hb) (by rw [size_push']; exact Nat.lt_succ_of_lt hb)]
  exact Heap.get?_push_of_some _ e
end
end Ds

/-! Rise: the rising list of some texts, as a function. -/
namespace Ds
open PySem PySem.Spec PyProof.Rows L2
def leS (a b : Str) : Bool := decide (a.cps.toList ≤ b.cps.toList)
theorem str_ext {a b : Str} (h : a.cps.toList = b.cps.toList) : a = b := by
  cases a; cases b
  exact congrArg Str.mk (Array.ext' h)
theorem leS_total (a b : Str) : (leS a b || leS b a) = true := by
  unfold leS
  rcases List.le_total (a.cps.toList) (b.cps.toList) with h | h
  · rw [decide_eq_true h]; rfl
  · rw [decide_eq_true h]; exact Bool.or_true _
theorem leS_trans (a b c : Str) (h1 : leS a b = true) (h2 : leS b c = true) : leS a c = true := by
  unfold leS at *
  exact decide_eq_true (List.le_trans (of_decide_eq_true h1) (of_decide_eq_true h2))
theorem leS_anti {a b : Str} (h1 : leS a b = true) (h2 : leS b a = true) : a = b :=
  str_ext (List.le_antisymm (of_decide_eq_true h1) (of_decide_eq_true h2))
theorem ltCps_le (a b : List Nat) : ltCps a b = false ↔ b ≤ a := by
  rw [ltCps_eq]
  rw [decide_eq_false_iff_not]
  exact List.not_lt
theorem rising_pair : ∀ (p : Str) (l : List Str), risingS p l = true → (p :: l).Pairwise (fun a b => leS a b = true)
  | p, [], _ => List.pairwise_singleton _ _
  | p, x :: r, h => by
    have h : (!ltCps x.cps.toList p.cps.toList && risingS x r) = true := h
    rw [Bool.and_eq_true, Bool.not_eq_true'] at h
    have ih := rising_pair x r h.2
    have h1 : leS p x = true := decide_eq_true ((ltCps_le _ _).1 h.1)
    refine List.pairwise_cons.mpr ⟨fun y hy => ?_, ih⟩
    rcases List.mem_cons.mp hy with z | z
    · rw [z]; exact h1
    · exact leS_trans _ _ _ h1 ((List.pairwise_cons.mp ih).1 y z)
theorem sorted_pair {l : List Str} (h : sortedS l = true) : l.Pairwise (fun a b => leS a b = true) := by
  cases l with
  | nil => exact .nil
  | cons x r => exact rising_pair x r h
theorem pair_sorted {l : List Str} (h : l.Pairwise (fun a b => leS a b = true)) : sortedS l = true := sortedS_of_pairwise l (h.imp fun {a b} q => (ltCps_le _ _).2 (of_decide_eq_true q))
def rise (L : List Str) : List Str := L.eraseDups.mergeSort leS
theorem perm_of_nodup {α : Type} [DecidableEq α] : ∀ {xs ys : List α}, xs.Nodup → ys.Nodup → (∀ k, k ∈ xs ↔ k ∈ ys) → xs.Perm ys
  | [], ys, _, _, h => by
    cases ys with
    | nil => exact .nil
    | cons y r => exact absurd ((h y).2 List.mem_cons_self) (by simp)
  | x :: xs, ys, h1, h2, h => by
    have hx : x ∈ ys := (h x).1 List.mem_cons_self
    have p1 : ys.Perm (x :: ys.erase x) := List.perm_cons_erase hx
    refine (List.Perm.cons x (perm_of_nodup (List.nodup_cons.mp h1).2 (h2.erase x) fun k => ?_)).trans p1.symm
    rw [h2.mem_erase_iff]
    constructor
    · intro hk
      exact ⟨fun e => (List.nodup_cons.mp h1).1 (e ▸ hk), (h k).1 (List.mem_cons_of_mem _ hk)⟩
    · rintro ⟨hk, hk2⟩
      rcases List.mem_cons.mp ((h k).2 hk2) with z | z
      · exact absurd z hk
      · exact z
theorem rise_pair (L : List Str) : (rise L).Pairwise (fun a b => leS a b = true) := List.pairwise_mergeSort leS_trans leS_total _
theorem rise_perm (L : List Str) : (rise L).Perm L.eraseDups := List.mergeSort_perm _ _
theorem eraseDups_nodup (L : List Str) : L.eraseDups.Nodup := by
  have : ∀ (n : Nat) (l : List Str), l.length ≤ n → l.eraseDups.Nodup := by
    intro n
    induction n with
    | zero =>
      intro l h
      cases l with
      | nil => exact List.nodup_nil
      | cons _ _ => simp at h
    | succ n ih =>
      intro l h
      cases l with
      | nil => exact List.nodup_nil
      | cons x r =>
        rw [List.eraseDups_cons]
        have h1 := List.length_filter_le (fun b => !b == x) r
        refine List.nodup_cons.mpr ⟨fun m => ?_, ih _ (by rw [List.length_cons] at h; omega)⟩
        have m2 := List.mem_filter.mp (List.mem_eraseDups.mp m)
        simp at m2
  exact this _ L (Nat.le_refl _)
theorem rise_nodup (L : List Str) : (rise L).Nodup := (rise_perm L).nodup_iff.mpr (eraseDups_nodup L)
theorem rise_mem {L : List Str} {k : Str} : k ∈ rise L ↔ k ∈ L := (rise_perm L).mem_iff.trans List.mem_eraseDups
theorem rise_rises (L : List Str) : Rises (rise L) L := ⟨pair_sorted (rise_pair L), rise_nodup L, fun _ => rise_mem⟩
theorem eq_of_pairs {xs ys : List Str} (p : xs.Perm ys) (h1 : xs.Pairwise (fun a b => leS a b = true)) (h2 : ys.Pairwise (fun a b => leS a b = true)) : xs = ys :=
  List.Perm.eq_of_pairwise (le := fun a b => leS a b = true) (fun a b _ _ => leS_anti) h1 h2 p
theorem Rises.eq {ys L : List Str} (h : Rises ys L) : ys = rise L :=
  eq_of_pairs (perm_of_nodup h.2.1 (rise_nodup L) fun k => (h.2.2 k).trans rise_mem.symm) (sorted_pair h.1) (rise_pair L)
theorem rise_congr {L L' : List Str} (h : ∀ k, k ∈ L ↔ k ∈ L') : rise L = rise L' := by
  have : Rises (rise L) L' := ⟨pair_sorted (rise_pair L), rise_nodup L, fun k => rise_mem.trans (h k)⟩
  exact this.eq
theorem rise_len (L : List Str) : (rise L).length ≤ L.length := by
  have : ∀ (n : Nat) (l : List Str), l.length ≤ n → l.eraseDups.length ≤ l.length := by
    intro n
    induction n with
    | zero => intro l h; cases l with
      | nil => exact Nat.le_refl _
      | cons _ _ => simp at h
    | succ n ih =>
      intro l h
      cases l with
      | nil => exact Nat.le_refl _
      | cons x r =>
        rw [List.eraseDups_cons, List.length_cons, List.length_cons]
        have h1 := List.length_filter_le (fun b => !b == x) r
        have h2 := ih (r.filter fun b => !b == x) (by rw [List.length_cons] at h; omega)
        omega
  rw [(rise_perm L).length_eq]
  exact this _ L (Nat.le_refl _)
theorem perm_rise {ys L : List Str} (p : ys.Perm L) (s : sortedS ys = true) (n : L.Nodup) : ys = rise L := (show Rises ys L from ⟨s, p.nodup_iff.mpr n, fun _ => p.mem_iff⟩).eq
end Ds

/-! Dk: loops and comprehensions told as data. -/
namespace Dl
open PySem PySem.Spec PyProof.Rows L2
section
variable {K : Fg} {P M : List Addr} {E : Hp → Hp → Prop} {σ : L2.St} {H H' H1 : Hp} {ta tb tc te : TE} {v : V} {d : PyData} {ds es : List PyData} {vs : List V}
theorem Set.more (T : Set P M E) (D : Addr) : Set P (D :: M) E := ⟨T.F, fun p hp => List.mem_cons_of_mem _ (T.sub p hp)⟩
theorem Eff.ofEx {F : Eff P E} {H H' : Hp} (e : Ex H H') : E H H' := F.ex e
/-- what stood, with a new hidden object beside it -/
theorem Set.dvMore (T : Set P M E) {D : Addr} (hD : H D = none) (h : Dv M H v d) (e : E H H') : Dv (D :: M) H' v d := by
  refine Dq.mono h fun b o q => ?_
  have q2 := T.F.bsM T.sub e b o q
  obtain ⟨b1, b2⟩ := hide_some q
  have : b ∉ D :: M := fun m => by
    rcases List.mem_cons.mp m with z | z
    · rw [z, hD] at b2; cases b2
    · exact b1 z
  rw [hide_out this]; exact (hide_some q2).2

/-- [te for x in src if tt], over a tuple -/
theorem es_lcT {tl : TE } {tt : TT} {j : Nat} {own : List Nat} (T : Set P M E) (h : EvD M E tl σ H (.tuple ds)) (hz : ds.length ≤ 100000) (hw : ∀ x, wipe ((wipe σ own).set j (some x)) own = wipe σ own)
    (S : Nat → List PyData → Prop) (f : Nat → PyData → Bool) (h0 : S 0 [])
    (ht : ∀ (i : Nat) d x D acc H0 H', E H H0 → H0 D = none → E H0 H' → ds[i]? = some d → S i acc → Lv (D :: M) H' → Dv (D :: M) H' x d → EtD (D :: M) E tt ((wipe σ own).set j (some x)) H' (f i d))
    (he : ∀ (i : Nat) d x D acc H0 H', E H H0 → H0 D = none → E H0 H' → ds[i]? = some d → S i acc → Lv (D :: M) H' → Dv (D :: M) H' x d → f i d = true → EvS (D :: M) E te ((wipe σ own).set j (some x)) H' (fun r => S (i + 1) (acc ++ [r])))
    (hno : ∀ (i : Nat) d acc, ds[i]? = some d → S i acc → f i d = false → S (i + 1) acc) :
    EvS M E (tLc (iTup K tl) (gName j) tt te own) σ H (fun r => ∃ es, r = .list es ∧ S ds.length es) := fun H1 e l Q q =>
  h H1 e l _ fun v H2 d0 e1 hd0 hv => by
    subst hd0
    have l2 := T.F.lvM l e1
    obtain ⟨a, xs, rfl, ha, hds⟩ := Dq.tup' hv
    have key : ∀ (i : Nat) (x : V) (d : PyData) (H' : Hp) D, H2 D = none → ds[i]? = some d → Dv M H2 x d → (E H2 H' ∧ ∃ acc accd, H' D = some (.lst acc) ∧ DqAll (hide (D :: M) H') acc accd ∧ S i accd ∧ accd.length ≤ i) →
        wipe ((wipe σ own).set j (some x)) own = wipe σ own ∧ tt ((wipe σ own).set j (some x)) H' fun b H3 => if b = true then te ((wipe σ own).set j (some x)) H3 fun y H4 => ∃ acc, H4 D = some (.lst acc) ∧ acc.length < sizeLine ∧
          (E H2 (upd H4 D (.lst (acc ++ [y]))) ∧ ∃ acc' accd, (upd H4 D (.lst (acc ++ [y]))) D = some (.lst acc') ∧ DqAll (hide (D :: M) (upd H4 D (.lst (acc ++ [y])))) acc' accd ∧ S (i + 1) accd ∧ accd.length ≤ i + 1)
          else (E H2 H3 ∧ ∃ acc accd, H3 D = some (.lst acc) ∧ DqAll (hide (D :: M) H3) acc accd ∧ S (i + 1) accd ∧ accd.length ≤ i + 1) := by
      rintro i x d H' D hD hi hx ⟨e2, acc, accd, a1, a2, a3, a4⟩
      have lD : D ∉ M := l2.fresh hD
      have lP : D ∉ P := fun z => lD (T.sub D z)
      have TD := T.more D
      have l3 : Lv (D :: M) H' := Lv.cons a1 (T.F.lvM l2 e2)
      have hx' : Dv (D :: M) H' x d := T.dvMore hD hx e2
      have eH2 := T.F.tr e e1
      refine ⟨hw x, ?_⟩
      refine ht i d x D accd H2 H' eH2 hD e2 hi a3 l3 hx' H' (T.F.rf H') l3 _ fun b H3 e3 hb => ?_
      subst hb
      have k3 := T.F.keep e3 lP a1
      cases hf : f i d with
      | true =>
        show te ((wipe σ own).set j (some x)) H3 _
        refine he i d x D accd H2 H' eH2 hD e2 hi a3 l3 hx' hf H3 e3 (TD.F.lvM l3 e3) _ fun y H4 r e4 s4 hy => ?_
        have k4 := T.F.keep e4 lP k3
        refine ⟨acc, k4, ?_, T.F.mu (T.F.tr e2 (T.F.tr e3 e4)) hD (by rw [k4]; exact fun z => nomatch z), _, _, upd_same, ?_, s4, ?_⟩
        · rw [a2.len]; have := (show i < 1000000 by have := (List.getElem?_eq_some_iff.mp hi).1; omega); exact Nat.lt_of_le_of_lt a4 (Nat.lt_of_lt_of_le this (by decide : 1000000 ≤ sizeLine))
        · rw [hide_upd List.mem_cons_self]
          exact (a2.mono (TD.F.bsM TD.sub (T.F.tr e3 e4))).snoc hy
        · rw [List.length_append, List.length_singleton]; omega
      | false =>
        exact ⟨T.F.tr e2 e3, acc, accd, k3, a2.mono (TD.F.bsM TD.sub e3), hno i d accd hi a3 hf, by omega⟩
    refine ⟨a, rfl, ⟨xs, SqT.of (hide_some ha).2⟩, fun D hD => lc_tup (xs := xs) (fun i H' => E H2 H' ∧ ∃ acc accd, H' D = some (.lst acc) ∧ DqAll (hide (D :: M) H') acc accd ∧ S i accd ∧ accd.length ≤ i) ⟨T.F.ex (Evl.Ex.new hD), [], [], upd_same, .nil, h0, Nat.le_refl _⟩ (fun i H' _ p => SqT.of (hide_some (T.F.bsM T.sub p.1 a _ ha)).2) (fun i x H' hi p => ?_) (fun H' p => by
        obtain ⟨e2, acc, accd, a1, a2, a3, _⟩ := p
        rw [hds.len] at a3
        refine q _ H' (.list accd) (T.F.tr e1 e2) ⟨accd, rfl, a3⟩ (.lst (by rw [hide_out (l2.fresh hD)]; exact a1) (a2.mono (ex_hide_more fun b hb => List.mem_cons_of_mem _ hb))))⟩
    · obtain ⟨d, hd, hx⟩ := hds.getV hi
      exact key i x d H' D hD hd hx p
/-- [te for x in src if tt], over a list -/
theorem es_lcL {tl : TE } {tt : TT} {j : Nat} {own : List Nat} (T : Set P M E) (h : EvD M E tl σ H (.list ds)) (hz : ds.length ≤ 100000) (hw : ∀ x, wipe ((wipe σ own).set j (some x)) own = wipe σ own)
    (S : Nat → List PyData → Prop) (f : Nat → PyData → Bool) (h0 : S 0 [])
    (ht : ∀ (i : Nat) d x D acc H0 H', E H H0 → H0 D = none → E H0 H' → ds[i]? = some d → S i acc → Lv (D :: M) H' → Dv (D :: M) H' x d → EtD (D :: M) E tt ((wipe σ own).set j (some x)) H' (f i d))
    (he : ∀ (i : Nat) d x D acc H0 H', E H H0 → H0 D = none → E H0 H' → ds[i]? = some d → S i acc → Lv (D :: M) H' → Dv (D :: M) H' x d → f i d = true → EvS (D :: M) E te ((wipe σ own).set j (some x)) H' (fun r => S (i + 1) (acc ++ [r])))
    (hno : ∀ (i : Nat) d acc, ds[i]? = some d → S i acc → f i d = false → S (i + 1) acc) :
    EvS M E (tLc (iList K tl) (gName j) tt te own) σ H (fun r => ∃ es, r = .list es ∧ S ds.length es) := fun H1 e l Q q =>
  h H1 e l _ fun v H2 d0 e1 hd0 hv => by
    subst hd0
    have l2 := T.F.lvM l e1
    obtain ⟨a, xs, rfl, ha, hds⟩ := Dq.list' hv
    have key : ∀ (i : Nat) (x : V) (d : PyData) (H' : Hp) D, H2 D = none → ds[i]? = some d → Dv M H2 x d → (E H2 H' ∧ ∃ acc accd, H' D = some (.lst acc) ∧ DqAll (hide (D :: M) H') acc accd ∧ S i accd ∧ accd.length ≤ i) →
        wipe ((wipe σ own).set j (some x)) own = wipe σ own ∧ tt ((wipe σ own).set j (some x)) H' fun b H3 => if b = true then te ((wipe σ own).set j (some x)) H3 fun y H4 => ∃ acc, H4 D = some (.lst acc) ∧ acc.length < sizeLine ∧
          (E H2 (upd H4 D (.lst (acc ++ [y]))) ∧ ∃ acc' accd, (upd H4 D (.lst (acc ++ [y]))) D = some (.lst acc') ∧ DqAll (hide (D :: M) (upd H4 D (.lst (acc ++ [y])))) acc' accd ∧ S (i + 1) accd ∧ accd.length ≤ i + 1)
          else (E H2 H3 ∧ ∃ acc accd, H3 D = some (.lst acc) ∧ DqAll (hide (D :: M) H3) acc accd ∧ S (i + 1) accd ∧ accd.length ≤ i + 1) := by
      rintro i x d H' D hD hi hx ⟨e2, acc, accd, a1, a2, a3, a4⟩
      have lD : D ∉ M := l2.fresh hD
      have lP : D ∉ P := fun z => lD (T.sub D z)
      have TD := T.more D
      have l3 : Lv (D :: M) H' := Lv.cons a1 (T.F.lvM l2 e2)
      have hx' : Dv (D :: M) H' x d := T.dvMore hD hx e2
      have eH2 := T.F.tr e e1
      refine ⟨hw x, ?_⟩
      refine ht i d x D accd H2 H' eH2 hD e2 hi a3 l3 hx' H' (T.F.rf H') l3 _ fun b H3 e3 hb => ?_
      subst hb
      have k3 := T.F.keep e3 lP a1
      cases hf : f i d with
      | true =>
        show te ((wipe σ own).set j (some x)) H3 _
        refine he i d x D accd H2 H' eH2 hD e2 hi a3 l3 hx' hf H3 e3 (TD.F.lvM l3 e3) _ fun y H4 r e4 s4 hy => ?_
        have k4 := T.F.keep e4 lP k3
        refine ⟨acc, k4, ?_, T.F.mu (T.F.tr e2 (T.F.tr e3 e4)) hD (by rw [k4]; exact fun z => nomatch z), _, _, upd_same, ?_, s4, ?_⟩
        · rw [a2.len]; have := (show i < 1000000 by have := (List.getElem?_eq_some_iff.mp hi).1; omega); exact Nat.lt_of_le_of_lt a4 (Nat.lt_of_lt_of_le this (by decide : 1000000 ≤ sizeLine))
        · rw [hide_upd List.mem_cons_self]
          exact (a2.mono (TD.F.bsM TD.sub (T.F.tr e3 e4))).snoc hy
        · rw [List.length_append, List.length_singleton]; omega
      | false =>
        exact ⟨T.F.tr e2 e3, acc, accd, k3, a2.mono (TD.F.bsM TD.sub e3), hno i d accd hi a3 hf, by omega⟩
    refine ⟨a, rfl, ⟨xs, SqL.of (hide_some ha).2⟩, fun D hD => lc_list (xs := xs) (fun i H' => E H2 H' ∧ ∃ acc accd, H' D = some (.lst acc) ∧ DqAll (hide (D :: M) H') acc accd ∧ S i accd ∧ accd.length ≤ i) ⟨T.F.ex (Evl.Ex.new hD), [], [], upd_same, .nil, h0, Nat.le_refl _⟩ (fun i H' _ p => SqL.of (hide_some (T.F.bsM T.sub p.1 a _ ha)).2) (fun i x H' hi p => ?_) (fun H' p => by
        obtain ⟨e2, acc, accd, a1, a2, a3, _⟩ := p
        rw [hds.len] at a3
        refine q _ H' (.list accd) (T.F.tr e1 e2) ⟨accd, rfl, a3⟩ (.lst (by rw [hide_out (l2.fresh hD)]; exact a1) (a2.mono (ex_hide_more fun b hb => List.mem_cons_of_mem _ hb))))⟩
    · obtain ⟨d, hd, hx⟩ := hds.getV hi
      exact key i x d H' D hD hd hx p
/-- [te for x in src if tt], over a range -/
theorem es_lcR {tl : TA } {tt : TT} {j : Nat} {own : List Nat} (T : Set P M E) {m : Int} (h : EaD M E tl σ H [.int m]) (hz : 0 ≤ m ∧ m ≤ 100000) (hw : ∀ x, wipe ((wipe σ own).set j (some x)) own = wipe σ own)
    (S : Nat → List PyData → Prop) (f : Nat → PyData → Bool) (h0 : S 0 [])
    (ht : ∀ (i : Nat) d x D acc H0 H', E H H0 → H0 D = none → E H0 H' → ((i : Int) < m ∧ d = .int (i : Int)) → S i acc → Lv (D :: M) H' → Dv (D :: M) H' x d → EtD (D :: M) E tt ((wipe σ own).set j (some x)) H' (f i d))
    (he : ∀ (i : Nat) d x D acc H0 H', E H H0 → H0 D = none → E H0 H' → ((i : Int) < m ∧ d = .int (i : Int)) → S i acc → Lv (D :: M) H' → Dv (D :: M) H' x d → f i d = true → EvS (D :: M) E te ((wipe σ own).set j (some x)) H' (fun r => S (i + 1) (acc ++ [r])))
    (hno : ∀ (i : Nat) d acc, ((i : Int) < m ∧ d = .int (i : Int)) → S i acc → f i d = false → S (i + 1) acc) :
    EvS M E (tLc (iRng1 tl) (gName j) tt te own) σ H (fun r => ∃ es, r = .list es ∧ S m.toNat es) := fun H1 e l Q q =>
  h H1 e l _ fun vs H2 d0 e1 hd0 hv => by
    subst hd0
    have l2 := T.F.lvM l e1
    have hv : vs = [V.int m] := DqAll.ints (ss := [m]) hv
    subst hv
    have key : ∀ (i : Nat) (x : V) (d : PyData) (H' : Hp) D, H2 D = none → ((i : Int) < m ∧ d = .int (i : Int)) → Dv M H2 x d → (E H2 H' ∧ ∃ acc accd, H' D = some (.lst acc) ∧ DqAll (hide (D :: M) H') acc accd ∧ S i accd ∧ accd.length ≤ i) →
        wipe ((wipe σ own).set j (some x)) own = wipe σ own ∧ tt ((wipe σ own).set j (some x)) H' fun b H3 => if b = true then te ((wipe σ own).set j (some x)) H3 fun y H4 => ∃ acc, H4 D = some (.lst acc) ∧ acc.length < sizeLine ∧
          (E H2 (upd H4 D (.lst (acc ++ [y]))) ∧ ∃ acc' accd, (upd H4 D (.lst (acc ++ [y]))) D = some (.lst acc') ∧ DqAll (hide (D :: M) (upd H4 D (.lst (acc ++ [y])))) acc' accd ∧ S (i + 1) accd ∧ accd.length ≤ i + 1)
          else (E H2 H3 ∧ ∃ acc accd, H3 D = some (.lst acc) ∧ DqAll (hide (D :: M) H3) acc accd ∧ S (i + 1) accd ∧ accd.length ≤ i + 1) := by
      rintro i x d H' D hD hi hx ⟨e2, acc, accd, a1, a2, a3, a4⟩
      have lD : D ∉ M := l2.fresh hD
      have lP : D ∉ P := fun z => lD (T.sub D z)
      have TD := T.more D
      have l3 : Lv (D :: M) H' := Lv.cons a1 (T.F.lvM l2 e2)
      have hx' : Dv (D :: M) H' x d := T.dvMore hD hx e2
      have eH2 := T.F.tr e e1
      refine ⟨hw x, ?_⟩
      refine ht i d x D accd H2 H' eH2 hD e2 hi a3 l3 hx' H' (T.F.rf H') l3 _ fun b H3 e3 hb => ?_
      subst hb
      have k3 := T.F.keep e3 lP a1
      cases hf : f i d with
      | true =>
        show te ((wipe σ own).set j (some x)) H3 _
        refine he i d x D accd H2 H' eH2 hD e2 hi a3 l3 hx' hf H3 e3 (TD.F.lvM l3 e3) _ fun y H4 r e4 s4 hy => ?_
        have k4 := T.F.keep e4 lP k3
        refine ⟨acc, k4, ?_, T.F.mu (T.F.tr e2 (T.F.tr e3 e4)) hD (by rw [k4]; exact fun z => nomatch z), _, _, upd_same, ?_, s4, ?_⟩
        · rw [a2.len]; have := (show i < 1000000 by have := hi.1; omega); exact Nat.lt_of_le_of_lt a4 (Nat.lt_of_lt_of_le this (by decide : 1000000 ≤ sizeLine))
        · rw [hide_upd List.mem_cons_self]
          exact (a2.mono (TD.F.bsM TD.sub (T.F.tr e3 e4))).snoc hy
        · rw [List.length_append, List.length_singleton]; omega
      | false =>
        exact ⟨T.F.tr e2 e3, acc, accd, k3, a2.mono (TD.F.bsM TD.sub e3), hno i d accd hi a3 hf, by omega⟩
    refine ⟨m, rfl, by omega, by omega, fun D hD => lc_range (lo := 0) (n := m.toNat) (fun i H' => E H2 H' ∧ ∃ acc accd, H' D = some (.lst acc) ∧ DqAll (hide (D :: M) H') acc accd ∧ S i accd ∧ accd.length ≤ i) ⟨T.F.ex (Evl.Ex.new hD), [], [], upd_same, .nil, h0, Nat.le_refl _⟩ (fun i H' hi p => ?_) (fun H' p => by
        obtain ⟨e2, acc, accd, a1, a2, a3, _⟩ := p
        refine q _ H' (.list accd) (T.F.tr e1 e2) ⟨accd, rfl, a3⟩ (.lst (by rw [hide_out (l2.fresh hD)]; exact a1) (a2.mono (ex_hide_more fun b hb => List.mem_cons_of_mem _ hb))))⟩
    · have e0 : (0 : Int) + (i : Int) = (i : Int) := Int.zero_add _
      rw [e0]
      exact key i (.int (i : Int)) (.int (i : Int)) H' D hD ⟨by omega, rfl⟩ (.int _) p
/-! ### an item of a list, by what all items are -/
theorem at_some {α : Type} {l : List α} {i : Int} (h0 : 0 ≤ i) (h1 : i < (l.length : Int)) : ∃ j, ∃ h : j < l.length, i = (j : Int) ∧ atI l i = some l[j] := by
  refine ⟨i.toNat, by omega, by omega, ?_⟩
  have := atI_nat (xs := l) (j := i.toNat) (v := l[i.toNat]'(by omega)) (List.getElem?_eq_getElem (by omega))
  rw [show ((i.toNat : Nat) : Int) = i by omega] at this
  exact this
theorem es_ixAll {Pd : PyData → Prop} {i : Int} (T : Set P M E) (h : EvD M E ta σ H (.list ds)) (hi : EvD M E tb σ H (.int i)) (h0 : 0 ≤ i) (h1 : i < (ds.length : Int)) (hall : ∀ d ∈ ds, Pd d) : EvS M E (tOp (rIxL K) ta tb) σ H Pd := by
  obtain ⟨j, hj, _, e⟩ := at_some h0 h1
  exact (ed_op T h hi (rs_ixL T e)).mono fun d hd => by rw [hd]; exact hall _ (List.getElem_mem hj)
theorem rc_tupleL (T : Set P M E) : RC M E (fun xs H Q => ∃ p ys, xs = [.ref p] ∧ ((SqL K H p ys ∧ ∀ l, H l = none → Q (.ref l) (upd H l (.tup ys))) ∨ (SqT K H p ys ∧ Q (.ref p) H))) [.list ds] (fun x => x = .tuple ds) := fun vs H l ha Q q => by
  cases ha with
  | cons h1 h2 =>
    cases h2
    obtain ⟨a, xs, rfl, hs, hx⟩ := Dq.list' h1
    exact ⟨a, xs, rfl, .inl ⟨SqL.of (hide_ex _ _ hs), fun t ht => q _ _ _ (T.F.ex (Evl.Ex.new ht)) rfl (new_dv_tup l ht hx)⟩⟩
theorem rc_tupleT (T : Set P M E) : RC M E (fun xs H Q => ∃ p ys, xs = [.ref p] ∧ ((SqL K H p ys ∧ ∀ l, H l = none → Q (.ref l) (upd H l (.tup ys))) ∨ (SqT K H p ys ∧ Q (.ref p) H))) [.tuple ds] (fun x => x = .tuple ds) := fun vs H l ha Q q => by
  cases ha with
  | cons h1 h2 =>
    cases h2
    have h1' := h1
    obtain ⟨a, xs, rfl, hs, hx⟩ := Dq.tup' h1
    exact ⟨a, xs, rfl, .inr ⟨SqT.of (hide_ex _ _ hs), q _ H _ (T.F.rf H) rfl h1'⟩⟩
theorem rc_listL (T : Set P M E) : RC M E (fun xs H Q => ∃ p ys, xs = [.ref p] ∧ (SqL K H p ys ∨ SqT K H p ys) ∧ ∀ l, H l = none → Q (.ref l) (upd H l (.lst ys))) [.list ds] (fun x => x = .list ds) := fun vs H l ha Q q => by
  cases ha with
  | cons h1 h2 =>
    cases h2
    obtain ⟨a, xs, rfl, hs, hx⟩ := Dq.list' h1
    exact ⟨a, xs, rfl, .inl (SqL.of (hide_ex _ _ hs)), fun t ht => q _ _ _ (T.F.ex (Evl.Ex.new ht)) rfl (new_dv_lst l ht hx)⟩
theorem rc_listT (T : Set P M E) : RC M E (fun xs H Q => ∃ p ys, xs = [.ref p] ∧ (SqL K H p ys ∨ SqT K H p ys) ∧ ∀ l, H l = none → Q (.ref l) (upd H l (.lst ys))) [.tuple ds] (fun x => x = .list ds) := fun vs H l ha Q q => by
  cases ha with
  | cons h1 h2 =>
    cases h2
    obtain ⟨a, xs, rfl, hs, hx⟩ := Dq.tup' h1
    exact ⟨a, xs, rfl, .inr (SqT.of (hide_ex _ _ hs)), fun t ht => q _ _ _ (T.F.ex (Evl.Ex.new ht)) rfl (new_dv_lst l ht hx)⟩
/-! ### for -/
variable {D : Ends} {g : TG} {tw : TS}
theorem s_forT {tl : TE} (T : Set P M E) (l : Lv M H) (h : EvD M E tl σ H (.tuple ds)) (k : ∀ H1, E H H1 → Lv M H1 → ∃ Pv : Nat → L2.St → Hp → Prop, Pv 0 σ H1 ∧ (∀ i σ' H', Pv i σ' H' → Ex (hide M H1) (hide M H')) ∧
    (∀ i x d σ' H', ds[i]? = some d → Dv M H' x d → Pv i σ' H' → g x σ' H' fun σ2 H2 => tw { D with nx := Pv (i + 1), ct := Pv (i + 1), bk := D.nx } σ2 H2) ∧ (∀ σ' H', Pv ds.length σ' H' → D.nx σ' H')) : tFor (iTup K tl) g tw D σ H :=
  h H (T.F.rf H) l _ fun v H2 d0 e1 hd0 hv => by
    subst hd0
    obtain ⟨a, xs, rfl, ha, hds⟩ := Dq.tup' hv
    obtain ⟨Pv, p0, pk, ps, pd⟩ := k H2 e1 (T.F.lvM l e1)
    refine ⟨a, rfl, ⟨xs, SqT.of (hide_some ha).2⟩, for_tup (xs := xs) Pv p0 (fun i σ' H' _ p => SqT.of (hide_some (pk i σ' H' p a _ ha)).2) (fun i x σ' H' hi p => ?_) (fun σ' H' p => ?_)⟩
    · obtain ⟨d, hd, hx⟩ := hds.getV hi
      exact ps i x d σ' H' hd (hx.mono (pk i σ' H' p)) p
    · rw [hds.len] at p
      exact pd σ' H' p
theorem s_forL {tl : TE} (T : Set P M E) (l : Lv M H) (h : EvD M E tl σ H (.list ds)) (k : ∀ H1, E H H1 → Lv M H1 → ∃ Pv : Nat → L2.St → Hp → Prop, Pv 0 σ H1 ∧ (∀ i σ' H', Pv i σ' H' → Ex (hide M H1) (hide M H')) ∧
    (∀ i x d σ' H', ds[i]? = some d → Dv M H' x d → Pv i σ' H' → g x σ' H' fun σ2 H2 => tw { D with nx := Pv (i + 1), ct := Pv (i + 1), bk := D.nx } σ2 H2) ∧ (∀ σ' H', Pv ds.length σ' H' → D.nx σ' H')) : tFor (iList K tl) g tw D σ H :=
  h H (T.F.rf H) l _ fun v H2 d0 e1 hd0 hv => by
    subst hd0
    obtain ⟨a, xs, rfl, ha, hds⟩ := Dq.list' hv
    obtain ⟨Pv, p0, pk, ps, pd⟩ := k H2 e1 (T.F.lvM l e1)
    refine ⟨a, rfl, ⟨xs, SqL.of (hide_some ha).2⟩, for_list (xs := xs) Pv p0 (fun i σ' H' _ p => SqL.of (hide_some (pk i σ' H' p a _ ha)).2) (fun i x σ' H' hi p => ?_) (fun σ' H' p => ?_)⟩
    · obtain ⟨d, hd, hx⟩ := hds.getV hi
      exact ps i x d σ' H' hd (hx.mono (pk i σ' H' p)) p
    · rw [hds.len] at p
      exact pd σ' H' p
theorem s_forR {tl : TA} {m : Int} (T : Set P M E) (l : Lv M H) (h : EaD M E tl σ H [.int m]) (hm : m ≤ 100000) (k : ∀ H1, E H H1 → Lv M H1 → ∃ Pv : Nat → L2.St → Hp → Prop, Pv 0 σ H1 ∧
    (∀ (i : Nat) σ' H', (i : Int) < m → Pv i σ' H' → g (.int (i : Int)) σ' H' fun σ2 H2 => tw { D with nx := Pv (i + 1), ct := Pv (i + 1), bk := D.nx } σ2 H2) ∧ (∀ σ' H', Pv m.toNat σ' H' → D.nx σ' H')) (hlo : -100000 ≤ m := by omega) : tFor (iRng1 tl) g tw D σ H :=
  h H (T.F.rf H) l _ fun vs H2 d0 e1 hd0 hv => by
    subst hd0
    have hv : vs = [V.int m] := DqAll.ints (ss := [m]) hv
    subst hv
    obtain ⟨Pv, p0, ps, pd⟩ := k H2 e1 (T.F.lvM l e1)
    refine ⟨m, rfl, by omega, by omega, for_range (lo := 0) (n := m.toNat) Pv p0 (fun i σ' H' hi p => ?_) pd⟩
    have e0 : (0 : Int) + (i : Int) = (i : Int) := Int.zero_add _
    rw [e0]
    exact ps i σ' H' (by omega) p
end
end Dl

/-! Dd: dicts with text keys, sets and sorts told as data. -/
namespace Dl
open PySem PySem.Spec PyProof.Rows L2 Ds
section
variable {K : Fg} {P M : List Addr} {E : Hp → Hp → Prop} {σ : L2.St} {H H' H1 : Hp} {ta tb tc td ty tv te : TE} {v : V} {d : PyData} {ds es : List PyData} {vs : List V} {D : Ends} {tz tu tw : TS} {i : Nat}
/-- d[k] = v, d a hidden dict with text keys -/
theorem s_dput {S : PyData → Prop} {a : Addr} {kvs : List (Key × V)} {k : Str} (T : Set P M E) (lv : Lv M H) (hd : H a = some (.dK kvs)) (hM : a ∈ M) (hP : a ∉ P) (hi : σ[i]? = some (some (.ref a))) (hl : kvs.length < 1000000) (hk : EvD M E ty σ H (.str k)) (hv : EvS M E tv σ H S)
    (q : ∀ v H1 d, E H H1 → Lv M H1 → H1 a = some (.dK kvs) → S d → Dv M H1 v d → Dv M (upd H1 a (.dK (putK kvs (Sum.inr k) v))) v d → D.nx σ (upd H1 a (.dK (putK kvs (Sum.inr k) v)))) : sDPut (tVar i) ty tv D σ H :=
  hv H (T.F.rf H) lv _ fun v H1 d e1 s hd1 => ⟨.ref a, hi, hk H1 e1 (T.F.lvM lv e1) _ fun y H2 d2 e2 s2 hd2 => by
    subst s2
    rw [Dq.str' hd2]
    have h2 := T.F.keep (T.F.tr e1 e2) hP hd
    refine ⟨a, _, rfl, DPut.k (k := Sum.inr k) h2 (Nat.lt_of_lt_of_le hl (by decide)), q v H2 d (T.F.tr e1 e2) (T.F.lvM lv (T.F.tr e1 e2)) h2 s (T.dv hd1 e2) ?_⟩
    unfold Dv
    rw [hide_upd hM]
    exact T.dv hd1 e2⟩
theorem putK_in {kvs : List (Key × V)} {k : Key} {v : V} (h : k ∈ kvs.map (·.1)) : (putK kvs k v).map (·.1) = kvs.map (·.1) := by
  obtain ⟨p, hp, e⟩ := List.mem_map.mp h
  unfold putK
  rw [if_pos (List.any_eq_true.mpr ⟨p, hp, decide_eq_true e⟩), List.map_map]
  refine List.map_congr_left fun p _ => ?_
  show (if p.1 = k then (p.1, v) else p).1 = p.1
  split <;> rfl
theorem putK_out {kvs : List (Key × V)} {k : Key} {v : V} (h : k ∉ kvs.map (·.1)) : (putK kvs k v).map (·.1) = kvs.map (·.1) ++ [k] := by
  unfold putK
  rw [if_neg fun a => h (by obtain ⟨p, hp, e⟩ := List.any_eq_true.mp a; exact List.mem_map.mpr ⟨p, hp, of_decide_eq_true e⟩), List.map_append]
  rfl
/-- the keys are the texts ks, each once -/
def TextKeys (kvs : List (Key × V)) (ks : List Str) : Prop := kvs.map (·.1) = ks.map Sum.inr ∧ ks.Nodup
theorem TextKeys.put {kvs : List (Key × V)} {ks : List Str} (h : TextKeys kvs ks) (k : Str) (v : V) : ∃ ks', TextKeys (putK kvs (Sum.inr k) v) ks' ∧ ∀ x, x ∈ ks' ↔ x ∈ ks ∨ x = k := by
  have hm : (Sum.inr k : Key) ∈ kvs.map (·.1) ↔ k ∈ ks := by
    rw [h.1, List.mem_map]
    exact ⟨fun ⟨x, hx, e⟩ => Sum.inr.inj e ▸ hx, fun hx => ⟨k, hx, rfl⟩⟩
  by_cases hk : k ∈ ks
  · refine ⟨ks, ⟨(putK_in (hm.2 hk)).trans h.1, h.2⟩, fun x => ⟨.inl, fun z => z.elim id fun e => e ▸ hk⟩⟩
  · refine ⟨ks ++ [k], ⟨by rw [putK_out fun z => hk (hm.1 z), h.1, List.map_append]; rfl, ?_⟩, fun x => by rw [List.mem_append, List.mem_singleton]⟩
    exact nd_snoc h.2 hk
/-- what a call gives that makes a new list of texts -/
def RL (r : List V → Hp → VK → Prop) (vs : List V) (H : Hp) (ys : List Str) : Prop := ∀ Q : VK, (∀ p H', H p = none → Ex H H' → H' p = some (.lst (ys.map V.str)) → Q (.ref p) H') → r vs H Q
theorem rl_sortedDS {a : Addr} {kvs : List (Key × V)} {ks : List Str} (ha : H a = some (.dK kvs)) (hk : TextKeys kvs ks) : RL rSortedDS [.ref a] H (rise ks) := fun Q q =>
  ⟨a, kvs, ks, rfl, .inl ha, hk.1, fun ys p pm so hp => by
    rw [perm_rise pm so hk.2]
    exact q p _ hp (Evl.Ex.new hp) upd_same⟩
/-- sorted(set(te)) -/
theorem es_sortedSet {w : World} {S : PyData → Prop} (T : Set P M E) (h : EvS M E te σ H (fun d => ∃ xs : List Str, d = .list (xs.map PyData.str) ∧ xs.length < 4000 ∧ S (.list ((rise xs).map PyData.str)))) :
    EvS M E (tCB (rSortSetS w) (tCons (tCB (rSetL K w) (tCons te tNil)) tNil)) σ H S := fun H1 e l Q q =>
  h H1 e l _ fun v H2 d e2 ⟨xs, hd, hz, s⟩ hv => by
    subst hd
    obtain ⟨a, us, rfl, ha, hu⟩ := Dq.list' hv
    have hus := hu.strs
    subst hus
    refine ⟨a, xs, rfl, SqL.of (hide_ex _ _ ha), hz, fun p hp => ⟨p, xs, rfl, upd_same, hz, fun ys r hy hr => ?_⟩⟩
    have l2 := T.F.lvM l e2
    have hr2 : H2 r = none := by
      have : r ≠ p := fun z => by rw [z, upd_same] at hr; cases hr
      rw [upd_ne this] at hr; exact hr
    rw [hy.eq]
    have ex2 : Ex H2 (upd (upd H2 p (SetH w p xs)) r (.lst ((rise xs).map V.str))) := (Evl.Ex.new hp).trans (Evl.Ex.new hr)
    refine q _ _ _ (T.F.tr e2 (T.F.ex ex2)) s (.lst (by rw [hide_out (l2.fresh hr2)]; exact upd_same) (DqAll.ofStrs _))
/-- return sorted(set(te)): a new list -/
theorem r_sortedSet {w : World} {xs : List Str} (T : Set P M E) (lv : Lv M H) (h : EvD M E te σ H (.list (xs.map PyData.str))) (hz : xs.length < 4000) {Q : VK} (q : ∀ p H', H p = none → E H H' → H' p = some (.lst ((rise xs).map V.str)) → Q (.ref p) H') :
    tCB (rSortSetS w) (tCons (tCB (rSetL K w) (tCons te tNil)) tNil) σ H Q :=
  h H (T.F.rf H) lv _ fun v H2 d e2 hd hv => by
    subst hd
    obtain ⟨a, us, rfl, ha, hu⟩ := Dq.list' hv
    have hus := hu.strs
    subst hus
    refine ⟨a, xs, rfl, SqL.of (hide_ex _ _ ha), hz, fun p hp => ⟨p, xs, rfl, upd_same, hz, fun ys r hy hr => ?_⟩⟩
    have hr2 : H2 r = none := by
      have : r ≠ p := fun z => by rw [z, upd_same] at hr; cases hr
      rw [upd_ne this] at hr; exact hr
    rw [hy.eq]
    have ex2 : Ex H2 (upd (upd H2 p (SetH w p xs)) r (.lst ((rise xs).map V.str))) := (Evl.Ex.new hp).trans (Evl.Ex.new hr)
    exact q _ _ (T.F.fresh e2 hr2) (T.F.tr e2 (T.F.ex ex2)) upd_same
theorem inV_strs (x : Str) : ∀ ss : List Str, inV (.str x) (ss.map V.str) = decide (x ∈ ss)
  | [] => rfl
  | s :: ss => by
    have ih := inV_strs x ss
    unfold inV at ih ⊢
    rw [List.map_cons, List.any_cons, ih]
    have : eqV (.str s) (.str x) = decide (s = x) := rfl
    rw [this]
    by_cases e : s = x
    · subst e; simp
    · have e' : ¬ x = s := fun z => e z.symm
      simp [e, e']
theorem flat_all (ss : List Str) : (ss.map V.str).all flatV = true := by
  rw [List.all_map]
  exact List.all_eq_true.mpr fun _ _ => rfl
theorem rs_inT (T : Set P M E) {x : Str} {ss : List Str} {neg : Bool} (hd : d = .tuple (ss.map PyData.str)) : RS M E (rIn K neg) (.str x) d (fun r => r = .bool (if neg then !decide (x ∈ ss) else decide (x ∈ ss))) := fun u y H _ hx hy Q q => by
  subst hd
  obtain ⟨a, xs, rfl, hs, ha⟩ := Dq.tup' hy
  have hxs := ha.strs
  subst hxs
  rw [Dq.str' hx]
  refine ⟨a, ss.map V.str, rfl, .inr (SqT.of (hide_ex _ _ hs)), rfl, flat_all ss, ?_⟩
  rw [inV_strs]
  exact q _ H _ (T.F.rf H) rfl (.bl _)
theorem rs_inL (T : Set P M E) {x : Str} {ss : List Str} {neg : Bool} (hd : d = .list (ss.map PyData.str)) : RS M E (rIn K neg) (.str x) d (fun r => r = .bool (if neg then !decide (x ∈ ss) else decide (x ∈ ss))) := fun u y H _ hx hy Q q => by
  subst hd
  obtain ⟨a, xs, rfl, hs, ha⟩ := Dq.list' hy
  have hxs := ha.strs
  subst hxs
  rw [Dq.str' hx]
  refine ⟨a, ss.map V.str, rfl, .inl (SqL.of (hide_ex _ _ hs)), rfl, flat_all ss, ?_⟩
  rw [inV_strs]
  exact q _ H _ (T.F.rf H) rfl (.bl _)
end
/-! ### isinstance -/
def tagD : PyData → String
  | .none => "NoneType" | .bool _ => "bool" | .int _ => "int" | .str _ => "str" | .list _ => "list" | .tuple _ => "tuple" | .dict _ => "dict"
theorem tyOfD {K : Fg} {H : Hp} {v : V} : ∀ {d : PyData}, Dq H v d → TyX K H v (.type (tagD d))
  | .none, h => by cases h; exact .base .non
  | .bool _, h => by cases h; exact .base (.bl _)
  | .int _, h => by cases h; exact .base (.int _)
  | .str _, h => by cases h; exact .base (.str _)
  | .list _, h => by
    cases h with
    | lst h _ => exact .base (.lst h)
  | .tuple _, h => by
    cases h with
    | tup h _ => exact .base (.tup h)
  | .dict _, h => by cases h
section
variable {K : Fg} {P M : List Addr} {E : Hp → Hp → Prop} {σ : L2.St} {H : Hp} {te : TE} {d : PyData}
theorem es_isi {T : String} {b : Bool} (S : Set P M E) (h : EvD M E te σ H d) (hk : kitB (tagD d) T = some b) : EvD M E (tCB (rIsi K) (tCons te (tCons (tC (.ty T)) tNil))) σ H (.bool b) := fun H1 e l Q q =>
  h H1 e l _ fun v H2 d2 e2 hd hv => by
    subst hd
    exact ⟨v, .ty T, _, _, b, rfl, .ty T, tyOfD (hv.mono hide_ex), kit_ty hk, q _ H2 _ e2 rfl (.bl b)⟩
end
/-! ### the rules that name what is written, with K given -/
section
variable {X : Cx} {o e : Expr} {es : List Expr} {to : TE} {t : TA} {apos cpos : Pos}
theorem ixT (K : Fg) (h : X.K = K := by rfl) : IxR X (rIxT K) := by subst h; exact ix_tup
theorem ixL (K : Fg) (h : X.K = K := by rfl) : IxR X (rIxL K) := by subst h; exact ix_list
theorem slL (K : Fg) (h : X.K = K := by rfl) : SlR X (rSlL K) := by subst h; exact sl_list
theorem slT (K : Fg) (h : X.K = K := by rfl) : SlR X (rSlT K) := by subst h; exact sl_tup
theorem inSeq (K : Fg) (h : X.K = K := by rfl) : OpR X (compareOp .In) (rIn K false) := by subst h; exact op_in_seq
theorem notInSeq (K : Fg) (h : X.K = K := by rfl) : OpR X (compareOp .NotIn) (rIn K true) := by subst h; exact op_notIn_seq
theorem eqD (K : Fg) (hu : X.A.units + 64 < cLine) (h : X.K = K := by rfl) : OpR X (compareOp .Eq) (rEqD K) := by subst h; exact op_eqD hu
theorem neD (K : Fg) (hu : X.A.units + 64 < cLine) (h : X.K = K := by rfl) : OpR X (compareOp .NotEq) (rNeD K) := by subst h; exact op_neD hu
theorem catT (K : Fg) (h : X.K = K := by rfl) : OpR X (binaryOp .Add) (rCatT K) := by subst h; exact op_catT
abbrev rLenQ (K : Fg) : List V → Hp → VK → Prop := fun xs H Q => ∃ p ys, xs = [.ref p] ∧ (SqL K H p ys ∨ SqT K H p ys) ∧ Q (.int ys.length) H
abbrev rListQ (K : Fg) : List V → Hp → VK → Prop := fun xs H Q => ∃ p ys, xs = [.ref p] ∧ (SqL K H p ys ∨ SqT K H p ys) ∧ ∀ l, H l = none → Q (.ref l) (upd H l (.lst ys))
abbrev rTupQ (K : Fg) : List V → Hp → VK → Prop := fun xs H Q => ∃ p ys, xs = [.ref p] ∧ ((SqL K H p ys ∧ ∀ l, H l = none → Q (.ref l) (upd H l (.tup ys))) ∨ (SqT K H p ys ∧ Q (.ref p) H))
theorem lenQ (K : Fg) (h : X.K = K := by rfl) : CallR X (.builtin "len") (rLenQ K) := by subst h; exact call_len_seq
theorem listQ (K : Fg) (h : X.K = K := by rfl) : CallR X (.type "list") (rListQ K) := by subst h; exact call_list_of
theorem tupQ (K : Fg) (h : X.K = K := by rfl) : CallR X (.type "tuple") (rTupQ K) := by subst h; exact call_tuple_of
theorem setQ (K : Fg) (w : World) (hc : X.calm = true) (h : X.K = K := by rfl) (h2 : X.w = w := by rfl) : CallR X (.type "set") (rSetL K w) := by subst h; subst h2; exact cr_setL hc
theorem sortSetQ (w : World) (hc : X.calm = true) (h2 : X.w = w := by rfl) : CallR X (.builtin "sorted") (rSortSetS w) := by subst h2; exact cr_sortedSetS hc
theorem sortQ (K : Fg) (h : X.K = K := by rfl) : CallR X (.builtin "sorted") (rSortedSA K) := by subst h; exact cr_sortedSA
theorem isiQ (K : Fg) (h : X.K = K := by rfl) : CallR X (.builtin "isinstance") (rIsi K) := by subst h; exact call_isi
theorem isiTQ (K : Fg) (h : X.K = K := by rfl) : CallR X (.builtin "isinstance") (rIsiT K) := by subst h; exact call_isiT
theorem allQ (K : Fg) (hc : X.calm = true) (h : X.K = K := by rfl) : CallR X (.builtin "all") (rAll K) := by subst h; exact cr_all hc
theorem piL (K : Fg) {tg l : Expr} {tl : TE} (hl : PE X l tl) (h : X.K = K := by rfl) : PI X tg l (iList K tl) := by subst h; exact pi_list hl
theorem piT (K : Fg) {tg l : Expr} {tl : TE} (hl : PE X l tl) (h : X.K = K := by rfl) : PI X tg l (iTup K tl) := by subst h; exact pi_tup hl
end
end Dl

namespace Wh
open PySem PySem.Spec PyProof.Rows L2 Dl
def topS (i : Nat) : Stmt := PySem.Challenge.pw_whoholds_k02_names_boxes_slots.main.body.getD i (.Pass ⟨0, 0, 0, 0⟩)
end Wh
namespace Wh
open PySem L2 Dl Ds
/-! ### rows and programs, as data -/
inductive Row where
  | new (x b : Str) | move (x y : Str) | put (x s y : Str) | take (x s y : Str)
  deriving DecidableEq
def Row.word : Row → Str
  | .new _ _ => "new" | .move _ _ => "move" | .put _ _ _ => "put" | .take _ _ _ => "take"
def Row.fst : Row → Str
  | .new x _ => x | .move x _ => x | .put x _ _ => x | .take x _ _ => x
def Row.snd : Row → Str
  | .new _ b => b | .move _ y => y | .put _ s _ => s | .take _ s _ => s
def Row.last : Row → Str
  | .new _ b => b | .move _ y => y | .put _ _ y => y | .take _ _ y => y
def Row.items : Row → List PyData
  | .new x b => [.str "new", .str x, .str b]
  | .move x y => [.str "move", .str x, .str y]
  | .put x s y => [.str "put", .str x, .str s, .str y]
  | .take x s y => [.str "take", .str x, .str s, .str y]
abbrev dRow (r : Row) : PyData := .tuple r.items
theorem Row.at0 (r : Row) : atI r.items 0 = some (.str r.word) := by cases r <;> rfl
theorem Row.at1 (r : Row) : atI r.items 1 = some (.str r.fst) := by cases r <;> rfl
theorem Row.at2 (r : Row) : atI r.items 2 = some (.str r.snd) := by cases r <;> rfl
theorem Row.atL (r : Row) : atI r.items (-1) = some (.str r.last) := by cases r <;> rfl
def Row.isNew : Row → Bool | .new _ _ => true | _ => false
def Row.isMove : Row → Bool | .move _ _ => true | _ => false
def Row.isPut : Row → Bool | .put _ _ _ => true | _ => false
def Row.isTake : Row → Bool | .take _ _ _ => true | _ => false
theorem Row.word_new (r : Row) : decide (r.word = "new") = r.isNew := match r with
  | .new _ _ => (by decide +kernel : decide (("new" : Str) = "new") = true)
  | .move _ _ => (by decide +kernel : decide (("move" : Str) = "new") = false)
  | .put _ _ _ => (by decide +kernel : decide (("put" : Str) = "new") = false)
  | .take _ _ _ => (by decide +kernel : decide (("take" : Str) = "new") = false)
theorem Row.word_move (r : Row) : decide (r.word = "move") = r.isMove := match r with
  | .new _ _ => (by decide +kernel : decide (("new" : Str) = "move") = false)
  | .move _ _ => (by decide +kernel : decide (("move" : Str) = "move") = true)
  | .put _ _ _ => (by decide +kernel : decide (("put" : Str) = "move") = false)
  | .take _ _ _ => (by decide +kernel : decide (("take" : Str) = "move") = false)
theorem Row.word_put (r : Row) : decide (r.word = "put") = r.isPut := match r with
  | .new _ _ => (by decide +kernel : decide (("new" : Str) = "put") = false)
  | .move _ _ => (by decide +kernel : decide (("move" : Str) = "put") = false)
  | .put _ _ _ => (by decide +kernel : decide (("put" : Str) = "put") = true)
  | .take _ _ _ => (by decide +kernel : decide (("take" : Str) = "put") = false)
theorem Row.word_take (r : Row) : decide (r.word = "take") = r.isTake := match r with
  | .new _ _ => (by decide +kernel : decide (("new" : Str) = "take") = false)
  | .move _ _ => (by decide +kernel : decide (("move" : Str) = "take") = false)
  | .put _ _ _ => (by decide +kernel : decide (("put" : Str) = "take") = false)
  | .take _ _ _ => (by decide +kernel : decide (("take" : Str) = "take") = true)
abbrev dProg (p : List Row) : PyData := .tuple (p.map dRow)
abbrev dStrs (ws : List Str) : PyData := .list (ws.map PyData.str)
def RowIn (nms bxs sls : List Str) : Row → Prop
  | .new x b => x ∈ nms ∧ b ∈ bxs
  | .move x y => x ∈ nms ∧ y ∈ nms
  | .put x s y => x ∈ nms ∧ s ∈ sls ∧ y ∈ nms
  | .take x s y => x ∈ nms ∧ s ∈ sls ∧ y ∈ nms
/-- the names, boxes, slots of a row -/
def Row.nms (r : Row) : List Str := if r.isNew then [r.fst] else [r.fst, r.last]
def Row.bxs (r : Row) : List Str := if r.isNew then [r.snd] else []
def Row.sls (r : Row) : List Str := if r.isPut || r.isTake then [r.snd] else []
def nameL (p : List Row) : List Str := p.flatMap Row.nms
def boxL (p : List Row) : List Str := p.flatMap Row.bxs
def slotL (p : List Row) : List Str := p.flatMap Row.sls
theorem prog_at {p : List Row} {i : Nat} {d : PyData} (h : (p.map dRow)[i]? = some d) : ∃ r, d = dRow r ∧ p[i]? = some r := by
  rw [List.getElem?_map] at h
  cases e : p[i]? with
  | none => rw [e] at h; cases h
  | some r => rw [e] at h; exact ⟨r, (Option.some.inj h).symm, rfl⟩
theorem take_succ' {α : Type} {p : List α} {i : Nat} {r : α} (h : p[i]? = some r) : p.take (i + 1) = p.take i ++ [r] := by rw [List.take_add_one, h]; rfl
end Wh
namespace Wh
open PySem PySem.Spec PyProof.Rows L2 Dl
section
variable {P : Program} {w : World} {K : Fg} {mg : Str → Option Value} {base : Heap} {f : Addr} {fd : FuncData}
/-! ### the pen -/
def PenAt (K : Fg) (H : Hp) (p sa : Addr) (ns : List Int) : Prop := ∃ a c : Int, H p = some (.lst [.ref sa, .int a, .int c]) ∧ 0 ≤ a ∧ 0 ≤ c ∧ SqL K (hide [p] H) sa (ns.map V.int)
def Exp (K : Fg) (p sa : Addr) (ns : List Int) (H H' : Hp) : Prop := Ex (hide [p] H) (hide [p] H') ∧ (H p ≠ none → H' p ≠ none) ∧ (PenAt K H p sa ns → PenAt K H' p sa ns)
theorem Exp.eff {p sa : Addr} {ns : List Int} : Eff [p] (Exp K p sa ns) where
  rf := fun H => ⟨Evl.Ex.refl _, id, id⟩
  tr := fun a b => ⟨a.1.trans b.1, fun h => b.2.1 (a.2.1 h), fun h => b.2.2 (a.2.2 h)⟩
  ex := fun {H H'} e => ⟨ex_hide e, fun h => by
    cases q : H p with
    | none => exact absurd q h
    | some o => rw [e p o q]; exact (fun z => nomatch z), fun ⟨a, c, h, h1, h2, h3⟩ => ⟨a, c, e _ _ h, h1, h2, Evl.ex_l (ex_hide e) h3⟩⟩
  mu := fun {H H' q o} e h hn => by
    have e1 : Ex (hide [p] H) (hide [p] (upd H' q o)) := by
      by_cases z : q = p
      · subst z; rw [hide_upd List.mem_cons_self]; exact e.1
      · intro b u hb
        obtain ⟨b1, b2⟩ := hide_some hb
        have b3 : b ≠ q := ne_of_none b2 h
        rw [hide_out b1, upd_ne b3]
        have b4 := e.1 b u hb
        rw [hide_out b1] at b4; exact b4
    refine ⟨e1, fun hp => ?_, fun ⟨a, c, h1, h2, h3, h4⟩ => ?_⟩
    · by_cases z : p = q
      · rw [z, upd_same]; exact fun z => nomatch z
      · rw [upd_ne z]; exact e.2.1 hp
    · have z : p ≠ q := ne_of_none h1 h
      obtain ⟨a', c', g1, g2, g3, _⟩ := e.2.2 ⟨a, c, h1, h2, h3, h4⟩
      exact ⟨a', c', by rw [upd_ne z]; exact g1, g2, g3, Evl.ex_l e1 h4⟩
  bs := fun e => e.1
  lv := fun {H H'} e m h => by
    by_cases z : m = p
    · rw [z]; rw [z] at h; exact e.2.1 h
    · cases q : H m with
      | none => exact absurd q h
      | some o =>
        have g := e.1 m o (by rw [hide_out (by simpa using z)]; exact q)
        rw [(hide_some g).2]; exact fun z => nomatch z
/-- the pen's fields stored anew -/
theorem Exp.put {p sa : Addr} {ns : List Int} {H : Hp} {a c : Int} (h0 : PenAt K H p sa ns) (ha : 0 ≤ a) (hc : 0 ≤ c) : Exp K p sa ns H (upd H p (.lst [.ref sa, .int a, .int c])) := by
  obtain ⟨a0, c0, h1, h2, h3, h4⟩ := h0
  refine ⟨by rw [hide_upd List.mem_cons_self]; exact Evl.Ex.refl _, fun _ => by rw [upd_same]; exact (fun z => nomatch z), fun _ => ⟨a, c, upd_same, ha, hc, ?_⟩⟩
  rw [hide_upd List.mem_cons_self]; exact h4

/-! ### _law_fill -/
def spFill : Sp := fun vs H Q _ => ∃ c a : Int, vs = [.int c, .int a] ∧ ∀ r : Int, 0 ≤ r → Q (.int r) H
abbrev st_fill : Stmt := (topS 5)
abbrev nm_fill : List Str := ["_law_cell", "_law_at", "_law_x"]
theorem sc_fill : FnScope nm_fill ["_law_cell", "_law_at"] (defScope st_fill) := ⟨rfl, rfl, rfl, by decide +kernel, rfl, by decide +kernel, by decide +kernel⟩
theorem mod_lt31 {x m : Int} (h0 : 0 < m) (h : m ≤ 2147483647) : 0 ≤ x % m ∧ x % m < 2147483647 := ⟨Int.emod_nonneg _ (by omega), by have := Int.emod_lt_of_pos x h0; omega⟩
theorem ok_fill (F : Fun K "_law_fill" "_law_fill" st_fill f fd) (T : Tb mg) : FnOk P w K mg base CX0 1 f fd ["_law_cell", "_law_at"] spFill := by
  have sc := sc_fill
  let nm := nm_fill; let st := st_fill
  refine F.ok sc_fill (fun vs H Q E h => ?_) (fun cdv A outer s H vs Q E hr h => ?_)
  · obtain ⟨c, a, rfl, _⟩ := h; rfl
  · obtain ⟨c, a, rfl, q⟩ := h
    refine ⟨_, (pss_cons (ps_if (pt_cmpR op_ge (pv 0) (pe_op op_pow pe_int pe_int) (nomark _))
 (pss_one (ps_ret (pv 0)))
 pss_nil)
 (pss_cons (ps_set (i := 2) sc.nd rfl (Or.inl rfl) (pe_op op_mod (pe_op op_add (pe_op op_add (pe_op op_mul (pe_op op_mod (pv 0) pe_int) pe_int) (pe_op op_mul (pv 1) pe_int)) pe_int) pe_int))
 (pss_cons (ps_set (i := 2) sc.nd rfl (Or.inl rfl) (pe_op op_mod (pe_op op_add (pe_op op_add (pe_op op_mul (pv 2) (pv 2)) (pe_op op_mul pe_int (pv 2))) (pv 1)) pe_int))
 (pss_one (ps_ret (pe_op op_add (pe_op op_mul (pv 2) pe_int) (pe_op op_mod (pe_op op_add (pe_op op_mul (pv 2) (pv 2)) (pe_op op_mul pe_int (pv 1))) pe_int))))))), ?_⟩
    refine ⟨_, rfl, _, _, rfl, rfl, ⟨by decide, by decide, by decide⟩, _, _, rfl, rfl, _, rfl, ite2 (fun hc => ?_) (fun hc => ?_)⟩
    · have hc' := of_decide_eq_true hc
      refine ⟨_, rfl, q c (Int.le_trans (by decide) hc')⟩
    · refine ⟨_, rfl, _, _, rfl, rfl, (by show (0 : Int) < 2147483647; decide), _, _, rfl, rfl, .inr ⟨by decide, by decide⟩, _, rfl, _, _, rfl, rfl, .inr ⟨by decide, by decide⟩, _, _, rfl, rfl, _, _, rfl, rfl, _, _, rfl, rfl, (by show (0 : Int) < 2147483629; decide), ?_⟩
      generalize hx : (c % 2147483647 * 48271 + a * 69621 + 11) % 2147483629 = x
      have bx := mod_lt31 (x := c % 2147483647 * 48271 + a * 69621 + 11) (m := 2147483629) (by decide) (by decide)
      rw [hx] at bx
      refine ⟨_, rfl, _, rfl, _, _, rfl, rfl, .inl ⟨by omega, by omega⟩, _, rfl, _, _, rfl, rfl, .inl ⟨by decide, by decide⟩, _, _, rfl, rfl, _, rfl, _, _, rfl, rfl, _, _, rfl, rfl, (by show (0 : Int) < 2147483587; decide), ?_⟩
      generalize hy : (x * x + 48271 * x + a) % 2147483587 = y
      have bY := mod_lt31 (x := x * x + 48271 * x + a) (m := 2147483587) (by decide) (by decide)
      rw [hy] at bY
      refine ⟨_, rfl, _, _, rfl, rfl, .inr ⟨by decide, by decide⟩, _, rfl, _, rfl, _, _, rfl, rfl, .inl ⟨by omega, by omega⟩, _, rfl, _, _, rfl, rfl, .inl ⟨by decide, by decide⟩, _, _, rfl, rfl, _, _, rfl, rfl, (by show (0 : Int) < 2147483579; decide), _, _, rfl, rfl, q _ ?_⟩
      have b3 := mod_lt31 (x := y * y + 69621 * a) (m := 2147483579) (by decide) (by decide)
      have b4 : 0 ≤ y * 2147483579 := Int.mul_nonneg bY.1 (by decide)
      omega
/-! ### _law_next -/
abbrev st_next : Stmt := (topS 6)
abbrev nm_next : List Str := ["_law_pen", "_law_many", "_law_at", "_law_cell", "_law_found"]
theorem sc_next : FnScope nm_next ["_law_pen", "_law_many"] (defScope st_next) := ⟨rfl, rfl, rfl, by decide +kernel, rfl, by decide +kernel, by decide +kernel⟩
def spNext (K : Fg) : Sp := fun vs H Q _ => ∃ (p sa : Addr) (ns : List Int) (m : Int), vs = [.ref p, .int m] ∧ 0 < m ∧ m < 1073741824 ∧ PenAt K H p sa ns ∧ ∀ (n : Int) H', 0 ≤ n → n < m → Exp K p sa ns H H' → PenAt K H' p sa ns → Q (.int n) H'
theorem get_ints {ns : List Int} {i : Int} (h0 : 0 ≤ i) (h1 : i < (ns.map V.int).length) : ∃ z, atI (ns.map V.int) i = some (.int z) := by
  rw [List.length_map] at h1
  obtain ⟨j, rfl⟩ : ∃ j : Nat, i = (j : Int) := ⟨i.toNat, by omega⟩
  have hj : j < ns.length := by omega
  exact ⟨ns[j], atI_nat (by rw [List.getElem?_map, List.getElem?_eq_getElem hj]; rfl)⟩
theorem ok_next (F : Fun K "_law_next" "_law_next" st_next f fd) (T : Tb mg) (C__law_fill : Callee P w K mg base "_law_fill" 1 ["_law_cell", "_law_at"] spFill) : FnOk P w K mg base CX0 2 f fd ["_law_pen", "_law_many"] (spNext K) := by
  have sc := sc_next
  let nm := nm_next; let st := st_next
  refine F.ok sc_next (fun vs H Q E h => ?_) (fun cdv A outer s H vs Q E hr h => ?_)
  · obtain ⟨p, sa, ns, m, rfl, _⟩ := h; rfl
  · obtain ⟨p, sa, ns, m, rfl, m0, m1, hp, q⟩ := h
    refine ⟨_, (Evl.pss_cut (ps_if (pt_cmpR op_lt (pe_ix (ixL K) (pv 0) pe_int (fun _ _ => rfl)) (pv 1) (nomark _))
 (pss_cons (ps_set (i := 2) sc.nd rfl (Or.inl rfl) (pe_ix (ixL K) (pv 0) pe_int (fun _ _ => rfl)))
 (pss_cons (ps_set (i := 3) sc.nd rfl (Or.inl rfl) pe_int)
 (Evl.pss_cut (ps_if (pt_cmpR op_lt (pv 2) (pe_callB (lenQ K) (by rfl) T.m_len (by decide +kernel) (pa_cons (pe_ix (ixL K) (pv 0) pe_int (fun _ _ => rfl)) pa_nil)) (nomark _))
 (pss_one (ps_set (i := 3) sc.nd rfl (Or.inl rfl) (pe_ix (ixL K) (pe_ix (ixL K) (pv 0) pe_int (fun _ _ => rfl)) (pv 2) (fun _ _ => rfl))))
 (pss_one (ps_if (pt_cmpR op_gt (pe_callB (lenQ K) (by rfl) T.m_len (by decide +kernel) (pa_cons (pe_ix (ixL K) (pv 0) pe_int (fun _ _ => rfl)) pa_nil)) pe_int (nomark _))
 (pss_one (ps_set (i := 3) sc.nd rfl (Or.inl rfl) (pe_op op_add (pe_op op_mod (pe_ix (ixL K) (pe_ix (ixL K) (pv 0) pe_int (fun _ _ => rfl)) (pe_op op_mod (pe_op op_mul (pv 2) pe_int) (pe_callB (lenQ K) (by rfl) T.m_len (by decide +kernel) (pa_cons (pe_ix (ixL K) (pv 0) pe_int (fun _ _ => rfl)) pa_nil))) (fun _ _ => rfl)) pe_int) (pe_op op_mul (pv 2) pe_int))))
 pss_nil)))
 (pss_cons (ps_asg (pe_op op_add (pv 2) pe_int) (pg_sub (pv 0) pe_int set_list))
 (pss_one (ps_asg (pe_callC C__law_fill (hr.mono (by decide)) (by rfl) (pa_cons (pv 3) (pa_cons (pv 2) pa_nil))) (pg_sub (pv 0) pe_int set_list)))))))
 pss_nil)
 (pss_cons (ps_set (i := 4) sc.nd rfl (Or.inl rfl) (pe_op op_mod (pe_ix (ixL K) (pv 0) pe_int (fun _ _ => rfl)) (pv 1)))
 (pss_cons (ps_asg (pe_op op_fdiv (pe_ix (ixL K) (pv 0) pe_int (fun _ _ => rfl)) (pv 1)) (pg_sub (pv 0) pe_int set_list))
 (pss_one (ps_ret (pv 4)))))), ?_⟩
    have hp0 := hp
    obtain ⟨a, c, h1, h2, h3, h4⟩ := hp
    have i0 : ∀ x y z : V, atI [x, y, z] 0 = some x := fun _ _ _ => rfl
    have i1 : ∀ x y z : V, atI [x, y, z] 1 = some y := fun _ _ _ => rfl
    have i2 : ∀ x y z : V, atI [x, y, z] 2 = some z := fun _ _ _ => rfl
    refine ⟨fun σ H1 => ∃ x2 x3, σ = [some (.ref p), some (.int m), x2, x3, none] ∧ PenAt K H1 p sa ns ∧ Exp K p sa ns H H1, ?_, ?_⟩
    · refine ⟨_, rfl, p, _, _, _, rfl, rfl, SqL.of h1, i2 _ _ _, _, rfl, _, _, rfl, rfl, _, rfl, ite2 (fun hc => ?_) (fun hc => ?_)⟩
      · refine ⟨_, rfl, p, _, _, _, rfl, rfl, SqL.of h1, i1 _ _ _, ?_⟩
        refine ⟨fun σ H1 => ∃ z : Int, σ = [some (.ref p), some (.int m), some (.int a), some (.int z), none] ∧ H1 = H, ?_, ?_⟩
        · have hs : SqL K H sa (ns.map V.int) := Evl.ex_l hide_ex h4
          refine ⟨_, rfl, _, rfl, p, _, _, _, rfl, rfl, SqL.of h1, i0 _ _ _, sa, _, rfl, .inl hs, _, _, rfl, rfl, _, rfl, ite2 (fun hb => ?_) (fun hb => ?_)⟩
          · obtain ⟨z, hz⟩ := get_ints h2 (of_decide_eq_true hb)
            exact ⟨_, rfl, p, _, _, _, rfl, rfl, SqL.of h1, i0 _ _ _, _, rfl, sa, _, _, _, rfl, rfl, hs, hz, z, rfl, rfl⟩
          · refine ⟨_, rfl, p, _, _, _, rfl, rfl, SqL.of h1, i0 _ _ _, sa, _, rfl, .inl hs, _, _, rfl, rfl, _, rfl, ite2 (fun hd => ?_) (fun hd => ?_)⟩
            · have hd' := of_decide_eq_true hd
              obtain ⟨z, hz⟩ := get_ints (ns := ns) (i := a * 7 % ((ns.map V.int).length : Int)) (Int.emod_nonneg _ (by omega)) (Int.emod_lt_of_pos _ hd')
              exact ⟨_, rfl, p, _, _, _, rfl, rfl, SqL.of h1, i0 _ _ _, _, rfl, _, _, rfl, rfl, .inr ⟨by decide, by decide⟩, _, rfl, p, _, _, _, rfl, rfl, SqL.of h1, i0 _ _ _, sa, _, rfl, .inl hs, _, _, rfl, rfl, hd', sa, _, _, _, rfl, rfl, hs, hz, _, _, rfl, rfl, (by show (0 : Int) < 1000003; decide), _, rfl, _, _, rfl, rfl, .inr ⟨by decide, by decide⟩, _, _, rfl, rfl, _, rfl, rfl⟩
            · exact ⟨0, rfl, rfl⟩
        · rintro σ' H' ⟨z, rfl, rfl⟩
          refine ⟨_, rfl, _, _, rfl, rfl, _, rfl, p, _, _, _, rfl, rfl, h1, rfl, ?_⟩
          refine ⟨_, rfl, _, rfl, z, a, rfl, fun r hr0 => ?_⟩
          refine ⟨_, rfl, p, _, _, _, rfl, rfl, upd_same, rfl, ?_⟩
          have e1 := Exp.put (a := a + 1) (c := r) hp0 (by omega) hr0
          rw [upd_upd]
          exact ⟨_, _, rfl, e1.2.2 hp0, e1⟩
      · exact ⟨none, none, rfl, hp0, Exp.eff.rf H⟩
    · rintro σ' H' ⟨x2, x3, rfl, hp1, e1⟩
      have hp2 := hp1
      obtain ⟨a', c', g1, g2, g3, g4⟩ := hp1
      refine ⟨_, rfl, p, _, _, _, rfl, rfl, SqL.of g1, i2 _ _ _, _, rfl, _, _, rfl, rfl, m0, ?_⟩
      refine ⟨_, rfl, p, _, _, _, rfl, rfl, SqL.of g1, i2 _ _ _, _, rfl, _, _, rfl, rfl, ⟨m0, m1⟩, _, rfl, p, _, _, _, rfl, rfl, g1, rfl, ?_⟩
      have e2 := Exp.put (a := a') (c := c' / m) hp2 g2 (Int.ediv_nonneg g3 (by omega))
      exact ⟨_, rfl, q _ _ (Int.emod_nonneg _ (by omega)) (Int.emod_lt_of_pos _ m0) (Exp.eff.tr e1 e2) (e2.2.2 hp2)⟩
theorem es_next {M : List Addr} {p sa : Addr} {ns : List Int} {σ : L2.St} {H : Hp} {i : Nat} {tm : TE} {m : Int} {X : XK} (T : Set [p] M (Exp K p sa ns)) (h : σ[i]? = some (some (.ref p))) (hp : PenAt K H p sa ns) (h0 : 0 < m) (h1 : m < 1073741824) (hm : EvD M (Exp K p sa ns) tm σ H (.int m)) :
    EvS M (Exp K p sa ns) (tCall (spNext K) [] X (tCons (tVar i) (tCons tm tNil))) σ H (fun d => ∃ n, d = .int n ∧ 0 ≤ n ∧ n < m) := fun H1 e l Q q =>
  ⟨.ref p, h, hm H1 e l _ fun v H2 d e2 hd hv => by
    subst hd
    rw [Dq.int' hv]
    exact ⟨p, sa, ns, m, rfl, h0, h1, (T.F.tr e e2).2.2 hp, fun n H3 n0 n1 e3 _ => q _ H3 _ (T.F.tr e2 e3) ⟨n, rfl, n0, n1⟩ (.int n)⟩⟩
/-- some[next(pen, len(some))] -/
theorem es_pick {M : List Addr} {p sa : Addr} {ns : List Int} {σ : L2.St} {H : Hp} {i : Nat} {ta tm : TE} {ds : List PyData} {Pd : PyData → Prop} {X : XK} (T : Set [p] M (Exp K p sa ns)) (h : σ[i]? = some (some (.ref p))) (hp : PenAt K H p sa ns) (ha : EvD M (Exp K p sa ns) ta σ H (.list ds))
    (hm : EvD M (Exp K p sa ns) tm σ H (.int (ds.length : Int))) (h0 : 0 < ds.length) (h1 : ds.length < 1073741824) (hall : ∀ d ∈ ds, Pd d) :
    EvS M (Exp K p sa ns) (tOp (rIxL K) ta (tCall (spNext K) [] X (tCons (tVar i) (tCons tm tNil)))) σ H Pd :=
  es_op T ha (es_next T h hp (by omega) (by omega) hm) fun d1 d2 hd1 ⟨n, hd2, n0, n1⟩ => by
    subst hd1; subst hd2
    obtain ⟨j, hj, _, e⟩ := at_some n0 n1
    exact (rs_ixL T e).mono fun d hd => by rw [hd]; exact hall _ (List.getElem_mem hj)
end
end Wh
open Dl
local macro_rules | `(tactic| walk_at "len") => `(tactic| first
  | (with_reducible assumption) | omega
  | (simp only [List.length_cons, List.length_nil, List.length_append, List.length_replicate, List.length_flatten, List.map_replicate, List.sum_replicate_nat]; first | omega | decide)
  | (with_reducible refine one_len _ ?_; decide)
  | (rw [str_app]; refine add_half ?_ ?_ <;> walk_at "len")
  | (with_reducible refine mul_le ?_ ?_ ?_ <;> walk_at "len")
  | decide +kernel | skip)
local macro_rules | `(tactic| walk_at "side") => `(tactic| first
  | (guard_target =~ PySem.PyData; skip) | (guard_target =~ List PySem.PyData; skip) | (guard_target =~ Nat; skip) | (guard_target =~ Int; skip) | (guard_target =~ PySem.Str; skip)
  | (with_reducible rfl) | (with_reducible assumption) | omega
  | (with_reducible refine list_sz ?_; rfl)
  | (with_reducible refine sz_add ?_ ?_ <;> walk_at "len") | (with_reducible refine sz_mul ?_ ?_ <;> walk_at "len") | (with_reducible refine sz_le ?_ <;> walk_at "len")
  | decide | skip)
local macro_rules | `(tactic| walk_at "fact") => `(tactic| first | (with_reducible assumption) | exact Dq.int _ | exact Dq.str _ | exact Dq.bl _ | exact Dq.non)
local macro_rules | `(tactic| walk_at "neg") => `(tactic| exact ed_neg (by with_reducible assumption))
local macro_rules | `(tactic| walk_at "ev") => `(tactic| first
  | (guard_target =~ PySem.PyData; skip)
  | (guard_target =~ List PySem.PyData; skip)
  | (with_reducible exact es_int (by with_reducible assumption)) | (with_reducible exact es_str (by with_reducible assumption)) | (with_reducible exact es_bl (by with_reducible assumption)) | (with_reducible exact es_non (by with_reducible assumption))
  | (with_reducible exact ea_nil (by with_reducible assumption))
  | ((with_reducible refine' es_var (by with_reducible assumption) (v := ?v) ?h ?d); (case h => rfl); (case d => walk_at "fact"))
  | ((with_reducible refine' ead_cons (by with_reducible assumption) ?_ ?_) <;> walk_at "ev")
  | ((with_reducible refine' ed_tup (by with_reducible assumption) ?_ ?_) <;> walk_at "ev")
  | ((with_reducible refine' ed_lst (by with_reducible assumption) ?_ ?_) <;> walk_at "ev")
  | ((with_reducible refine' ed_op (by with_reducible assumption) ?_ ?_ ?_) <;> walk_at "ev")
  | (with_reducible exact rs_I0 (by with_reducible assumption)) | (with_reducible exact rs_B0 (by with_reducible assumption))
  | ((with_reducible refine' rs_I (by with_reducible assumption) ?_) <;> walk_at "side")
  | ((with_reducible refine' rs_ixT (by with_reducible assumption) ?_) <;> walk_at "side") | ((with_reducible refine' rs_ixL (by with_reducible assumption) ?_) <;> walk_at "side")
  | ((with_reducible refine' rs_ixS (by with_reducible assumption) ?_ ?_) <;> walk_at "side")
  | ((with_reducible refine' rs_addS (by with_reducible assumption) ?_) <;> walk_at "side") | ((with_reducible refine' rs_cat (by with_reducible assumption) ?_) <;> walk_at "side")
  | ((with_reducible refine' rs_repS (by with_reducible assumption) ?_ ?_ ?_) <;> walk_at "side") | ((with_reducible refine' rs_rep (by with_reducible assumption) ?_ ?_ ?_) <;> walk_at "side")
  | ((with_reducible refine' rs_eq (by with_reducible assumption) ?_) <;> walk_at "side") | ((with_reducible refine' rs_ne (by with_reducible assumption) ?_) <;> walk_at "side")
  | ((with_reducible refine' ed_cb (by with_reducible assumption) ?_ ?_) <;> walk_at "ev")
  | (with_reducible exact rc_lenL (by with_reducible assumption)) | (with_reducible exact rc_lenT (by with_reducible assumption))
  | ((with_reducible refine' rc_strInt (by with_reducible assumption) ?_) <;> walk_at "side")
  | ((with_reducible refine' etd_test (by with_reducible assumption) ?_) <;> walk_at "ev")
  | ((with_reducible refine' etd_not ?_) <;> walk_at "ev")
  | walk_at "side")
namespace Wh
open PySem PySem.Spec PyProof.Rows L2 Dl
section
variable {P : Program} {w : World} {K : Fg} {mg : Str → Option Value} {base : Heap} {f : Addr} {fd : FuncData}
/-! ### _law_words -/
abbrev st_words : Stmt := (topS 7)
abbrev nm_words : List Str := ["_law_pen", "_law_many", "_law_way", "_law_own", "_law_letters", "_law_signs", "_law_one", "_law_two", "_law_found", "_law_k", "_law_some"]
theorem sc_words : FnScope nm_words ["_law_pen", "_law_many"] (defScope st_words) := ⟨rfl, rfl, rfl, by decide +kernel, rfl, by decide +kernel, by decide +kernel⟩
abbrev OkS (x : Str) : Prop := x.length ≤ 60 ∧ PyData.strOk x = true
abbrev Short (ws : List Str) : Prop := ∀ x ∈ ws, OkS x
def spWords (K : Fg) : Sp := fun vs H Q _ => ∃ (M : List Addr) (p sa : Addr) (ns : List Int) (m : Int), vs = [.ref p, .int m] ∧ Lv M H ∧ p ∈ M ∧ 0 < m ∧ m ≤ 20 ∧ PenAt K H p sa ns ∧
  ∀ (ws : List Str) v H', (ws.length : Int) = m → Short ws → Exp K p sa ns H H' → Dv M H' v (dStrs ws) → Q v H'
def ownW : List Str := ["new", "move", "put", "take", "slot", "name", "box", "call", "a", "a2", "news", "none"]
abbrev ownL : List PyData := [.str "new", .str "move", .str "put", .str "take", .str "slot", .str "name", .str "box", .str "call", .str "a", .str "a2", .str "news", .str "none"]
theorem ownL_all : ∀ d ∈ ownL, ∃ x : Str, d = .str x ∧ OkS x := by
  have h : ownL = ownW.map PyData.str := rfl
  intro d hd
  rw [h] at hd
  obtain ⟨x, hx, rfl⟩ := List.mem_map.mp hd
  exact ⟨x, rfl, (by decide +kernel : ∀ x ∈ ownW, x.length ≤ 60 ∧ PyData.strOk x = true) x hx⟩
theorem at_str {z : Str} {i : Int} (h0 : 0 ≤ i) (h1 : i < (z.length : Int)) : ∃ c, atI z.cps.toList i = some c ∧ c ∈ z.cps.toList := by
  obtain ⟨j, rfl⟩ : ∃ j : Nat, i = (j : Int) := ⟨i.toNat, by omega⟩
  have hj : j < z.cps.toList.length := by rw [Array.length_toList]; have : z.length = z.cps.size := rfl; omega
  exact ⟨z.cps.toList[j], atI_nat (List.getElem?_eq_getElem hj), List.getElem_mem hj⟩
theorem str_small {k : Nat} (h : k < 100) : (Str.ofString (toString (k : Int))).length ≤ 2 := by
  have key : ∀ i : Fin 100, (Str.ofString (toString ((i.val : Nat) : Int))).length ≤ 2 := by decide +kernel
  exact key ⟨k, h⟩
theorem str_ok {k : Nat} (h : k < 100) : PyData.strOk (Str.ofString (toString (k : Int))) = true := by
  have key : ∀ i : Fin 100, PyData.strOk (Str.ofString (toString ((i.val : Nat) : Int))) = true := by decide +kernel
  exact key ⟨k, h⟩
theorem log_small {k : Nat} (h : k < 100) : ((k : Int)).natAbs.log2 < 1920 := by
  have : ((k : Int)).natAbs = k := by omega
  rw [this]
  have h1 : k.log2 < 100 := by
    by_cases e : k = 0
    · subst e; decide
    · exact (Nat.log2_lt e).mpr (Nat.lt_of_lt_of_le h (by decide))
  omega
theorem ok_words (F : Fun K "_law_words" "_law_words" st_words f fd) (T : Tb mg) (C__law_next : Callee P w K mg base "_law_next" 2 ["_law_pen", "_law_many"] (spNext K)) : FnOk P w K mg base CX0 3 f fd ["_law_pen", "_law_many"] (spWords K) := by
  have sc := sc_words
  let nm := nm_words; let st := st_words
  refine F.ok sc_words (fun vs H Q E h => ?_) (fun cdv A outer s H vs Q E hr h => ?_)
  · obtain ⟨M, p, sa, ns, m, rfl, _⟩ := h; rfl
  · obtain ⟨M, p, sa, ns, m, rfl, l, hpM, m0, m1, hp, q⟩ := h
    refine ⟨_, (pss_cons (ps_set (i := 2) sc.nd rfl (Or.inl rfl) (pe_callC C__law_next (hr.mono (by decide)) (by rfl) (pa_cons (pv 0) (pa_cons pe_int pa_nil))))
 (pss_cons (ps_set (i := 3) sc.nd rfl (Or.inl rfl) (pe_lst (pa_cons pe_str (pa_cons pe_str (pa_cons pe_str (pa_cons pe_str (pa_cons pe_str (pa_cons pe_str (pa_cons pe_str (pa_cons pe_str (pa_cons pe_str (pa_cons pe_str (pa_cons pe_str (pa_cons pe_str pa_nil))))))))))))))
 (pss_cons (ps_set (i := 4) sc.nd rfl (Or.inl rfl) pe_str)
 (pss_cons (ps_set (i := 5) sc.nd rfl (Or.inl rfl) (pe_op op_add_str (pv 4) pe_str))
 (pss_cons (ps_set (i := 6) sc.nd rfl (Or.inl rfl) (pe_ix ix_str (pv 4) (pe_callC C__law_next (hr.mono (by decide)) (by rfl) (pa_cons (pv 0) (pa_cons pe_int pa_nil))) (fun _ _ => rfl)))
 (pss_cons (ps_set (i := 7) sc.nd rfl (Or.inl rfl) (pe_ix ix_str (pv 5) (pe_callC C__law_next (hr.mono (by decide)) (by rfl) (pa_cons (pv 0) (pa_cons pe_int pa_nil))) (fun _ _ => rfl)))
 (pss_cons (ps_set (i := 8) sc.nd rfl (Or.inl rfl) (pe_lst pa_nil))
 (pss_cons (ps_for PassesOwn.never rfl (pi_range1 (by rfl) T.m_range (pa_cons (pv 1) pa_nil)) (pg_name (i := 9) sc.nd rfl (Or.inl rfl))
 (pss_cons (ps_set (i := 10) sc.nd rfl (Or.inl rfl) (pe_lst (pa_cons (pe_ix ix_str (pv 4) (pv 9) (fun _ _ => rfl)) (pa_cons (pe_op op_add_str pe_str (pe_callTy call_str_int (by rfl) T.m_str (by decide +kernel) (pa_cons (pv 9) pa_nil))) (pa_cons (pe_op op_repS pe_str (pe_op op_add (pv 9) pe_int)) (pa_cons (pe_op op_add_str (pe_op op_add_str (pv 6) (pv 7)) (pe_callTy call_str_int (by rfl) T.m_str (by decide +kernel) (pa_cons (pv 9) pa_nil))) pa_nil))))))
 (pss_cons (ps_set (i := 10) sc.nd rfl (Or.inl rfl) (pe_op op_cat (pv 10) (pe_lst (pa_cons (pe_op op_add_str pe_str (pe_ix ix_str (pv 4) (pe_op op_sub pe_int (pv 9)) (fun _ _ => rfl))) (pa_cons (pe_op op_add_str (pe_op op_add_str (pe_op op_add_str (pe_op op_repS (pv 6) pe_int) (pv 7)) (pe_callTy call_str_int (by rfl) T.m_str (by decide +kernel) (pa_cons (pv 9) pa_nil))) pe_str) pa_nil)))))
 (pss_cons (ps_set (i := 10) sc.nd rfl (Or.inl rfl) (pe_op op_cat (pv 10) (pe_lst (pa_cons (pe_ix (ixL K) (pe_op op_cat (pv 3) (pe_op op_rep (pe_lst (pa_cons (pe_op op_add_str pe_str (pe_callTy call_str_int (by rfl) T.m_str (by decide +kernel) (pa_cons (pv 9) pa_nil))) pa_nil)) pe_int)) (pv 9) (fun _ _ => rfl)) (pa_cons (pe_op op_add_str pe_str (pe_op op_repS pe_str (pv 9))) pa_nil)))))
 (pss_one (ps_expr (pe_bm PySem.F.plainAttrs_list PySem.F.slot_list_append PySem.F.type_list_append mt_append (pv 8) (pa_cons (pe_ix (ixL K) (pv 10) (pv 2) (fun _ _ => rfl)) pa_nil))))))))
 (pss_one (ps_ret (pv 8))))))))))), ?_⟩
    have S : Dl.Set [p] M (Exp K p sa ns) := ⟨Exp.eff, fun a h => by rw [List.mem_singleton.mp h]; exact hpM⟩
    refine q_asg S l (es_next S rfl hp (by decide) (by decide) (es_int S)) fun v2 H2 d2 e2 l2 ⟨way, hd2, w0, w1⟩ hv2 => ?_
    subst hd2; cases Dq.int' hv2
    have p2 := e2.2.2 hp
    refine q_asgD S l2 (by walk_at "ev") fun v3 H3 e3 l3 hv3 => ?_

    refine q_asgD S l3 (by walk_at "ev") fun v4 H4 e4 l4 hv4 => ?_
    cases Dq.str' hv4
    refine q_asgD S l4 (by walk_at "ev") fun v5 H5 e5 l5 hv5 => ?_
    cases Dq.str' hv5
    have p5 : PenAt K H5 p sa ns := e5.2.2 (e4.2.2 (e3.2.2 p2))
    refine q_asg S l5 (es_op S (es_var S rfl (S.dv hv4 e5)) (es_next S rfl p5 (by decide) (by decide) (es_int S)) (S := fun d => ∃ c, d = .str ⟨#[c]⟩ ∧ c < 0x110000) fun x y hx ⟨n, hy, n0, n1⟩ => ?_) fun v6 H6 d6 e6 l6 ⟨c6, hd6, ok6⟩ hv6 => ?_
    · subst hx; subst hy
      obtain ⟨c, hc, hcm⟩ := at_str (z := "abcdefghijklmnopqrstuvwxyz") n0 (Int.lt_of_lt_of_le n1 (by decide +kernel))
      exact (rs_ixS S (by decide +kernel) hc).mono fun _ z => ⟨c, z, strOk_iff.1 (by decide +kernel : PyData.strOk ("abcdefghijklmnopqrstuvwxyz" : Str) = true) c hcm⟩
    subst hd6; cases Dq.str' hv6
    have p6 := e6.2.2 p5
    refine q_asg S l6 (es_op S (es_var S rfl (S.dv hv5 e6)) (es_next S rfl p6 (by decide) (by decide) (es_int S)) (S := fun d => ∃ c, d = .str ⟨#[c]⟩ ∧ c < 0x110000) fun x y hx ⟨n, hy, n0, n1⟩ => ?_) fun v7 H7 d7 e7 l7 ⟨c7, hd7, ok7⟩ hv7 => ?_
    · subst hx; subst hy
      obtain ⟨c, hc, hcm⟩ := at_str (z := "abcdefghijklmnopqrstuvwxyz" ++ "0123456789.") n0 (Int.lt_of_lt_of_le n1 (by decide +kernel))
      exact (rs_ixS S (by decide +kernel) hc).mono fun _ z => ⟨c, z, strOk_iff.1 (by decide +kernel : PyData.strOk (("abcdefghijklmnopqrstuvwxyz" : Str) ++ "0123456789.") = true) c hcm⟩
    subst hd7; cases Dq.str' hv7
    have p7 := e7.2.2 p6
    have g3 := S.dv (S.dv (S.dv (S.dv hv3 e4) e5) e6) e7
    have E7 : Exp K p sa ns H H7 := S.F.tr (S.F.tr (S.F.tr (S.F.tr (S.F.tr e2 e3) e4) e5) e6) e7
    -- found = []
    refine q_newL fun a ha => ?_
    have S8 := S.more a
    have lP : a ∉ [p] := fun z => l7.fresh ha (S.sub a z)
    have lM := l7.fresh ha
    refine q_for (s_forR S8 (Lv.cons upd_same l7.upd) (by walk_at "ev") (by omega) fun H9 e9 l9 => ?_)
    have a9 : H9 a = some (.lst []) := S8.F.keep e9 lP upd_same
    have E9 : Exp K p sa ns H7 H9 := S.F.tr (S.F.ex (Evl.Ex.new ha)) e9
    refine ⟨fun i σ' H' => ∃ w9 w10 ws, σ' = [some (.ref p), some (.int m), some (.int way), some v3, some (.str "abcdefghijklmnopqrstuvwxyz"), some (.str ("abcdefghijklmnopqrstuvwxyz" ++ "0123456789.")), some (.str ⟨#[c6]⟩), some (.str ⟨#[c7]⟩), some (.ref a), w9, w10] ∧
      Exp K p sa ns H7 H' ∧ H' a = some (.lst (ws.map V.str)) ∧ ws.length = i ∧ Short ws, ⟨none, none, [], rfl, E9, a9, rfl, fun _ h => by simp at h⟩, ?_, ?_⟩
    · rintro i σ' H' hi ⟨w9, w10, ws, rfl, E', a', hl, hs⟩
      refine g_name ?_
      have hi20 : i < 20 := by omega
      have l' : Lv (a :: M) H' := Lv.cons a' (S.F.lvM l7 E')
      have o3 := S.dvMore ha g3 E'
      have k1 := str_small (k := i) (by omega)
      have k2 := log_small (k := i) (by omega)
      have k3 := str_ok (k := i) (by omega)
      obtain ⟨c, hc, hcm⟩ := at_str (z := "abcdefghijklmnopqrstuvwxyz") (i := (i : Int)) (by omega) (Int.lt_of_lt_of_le (show (i : Int) < 26 by omega) (by decide +kernel))
      obtain ⟨c', hc', hcm'⟩ := at_str (z := "abcdefghijklmnopqrstuvwxyz") (i := 25 - (i : Int)) (by omega) (Int.lt_of_lt_of_le (show 25 - (i : Int) < 26 by omega) (by decide +kernel))
      refine q_asgD S8 l' (by walk_at "ev") fun v10 H10 e10 l10 hv10 => ?_
      refine q_asgD S8 l10 (by walk_at "ev") fun v11 H11 e11 l11 hv11 => ?_
      have o11 := S8.dv (S8.dv o3 e10) e11
      have hown : ∃ x : Str, atI (ownL ++ (List.replicate (Int.toNat 20) [PyData.str ("w" ++ (Str.ofString (toString (i : Int))))]).flatten) (i : Int) = some (.str x) ∧ OkS x := by
        obtain ⟨j, hj, e1, e2⟩ := at_some (l := ownL ++ (List.replicate (Int.toNat 20) [PyData.str ("w" ++ (Str.ofString (toString (i : Int))))]).flatten) (i := (i : Int)) (by omega) (by
          rw [List.length_append]
          simp only [List.length_cons, List.length_nil, List.length_replicate, List.length_flatten, List.map_replicate, List.sum_replicate_nat, ownL]
          omega)
        rw [e2]
        have hall : ∀ d ∈ ownL ++ (List.replicate (Int.toNat 20) [PyData.str ("w" ++ (Str.ofString (toString (i : Int))))]).flatten, ∃ x : Str, d = .str x ∧ OkS x := by
          intro d hd
          rcases List.mem_append.mp hd with hd | hd
          · exact ownL_all d hd
          · obtain ⟨q, hq, hd⟩ := List.mem_flatten.mp hd
            rw [List.eq_of_mem_replicate hq] at hd
            rw [List.mem_singleton.mp hd]
            refine ⟨_, rfl, ?_, strOk_app (by decide +kernel) k3⟩
            rw [str_app]
            have : (Str.ofString "w").length = 1 := by decide +kernel
            omega
        obtain ⟨x, hx, hx2⟩ := hall _ (List.getElem_mem hj)
        exact ⟨x, by rw [hx], hx2⟩
      obtain ⟨xo, hxo, hxo2⟩ := hown
      have okA : PyData.strOk ("abcdefghijklmnopqrstuvwxyz" : Str) = true := by decide +kernel
      have okc := strOk_iff.1 okA c hcm
      have okc' := strOk_iff.1 okA c' hcm'
      refine q_asgD S8 l11 (by walk_at "ev") fun v12 H12 e12 l12 hv12 => ?_
      have EE : Exp K p sa ns H' H12 := S.F.tr (S.F.tr e10 e11) e12
      have a12 := S.F.keep EE lP a'
      refine s_app (S := fun d => ∃ x : Str, d = .str x ∧ OkS x) S8 l12 a12 List.mem_cons_self lP (by rw [List.length_map]; omega) rfl rfl ?_ fun v H13 d e13 l13 a13 ⟨x, hd, hx⟩ hv l14 hv' => ?_
      · refine es_ixAll S8 (es_var S8 rfl hv12) (es_var S8 (d := .int way) rfl (.int _)) w0 (by simp only [List.length_append, List.length_cons, List.length_nil]; omega) ?_
        have z1 : ∀ c : Nat, (Str.mk #[c]).length = 1 := fun _ => rfl
        have z2 : (Str.ofString "v").length = 1 := by decide +kernel
        have z3 : (Str.ofString "n").length = 1 := by decide +kernel
        have z4 : (Str.ofString "r.").length = 2 := by decide +kernel
        have z5 : (Str.ofString ".").length = 1 := by decide +kernel
        have z6 : (Str.ofString "a").length = 1 := by decide +kernel
        have z7 : (Str.ofString ".a").length = 2 := by decide +kernel
        intro d hd
        simp only [List.mem_append, List.mem_cons, List.not_mem_nil, or_false] at hd
        rcases hd with ((rfl | rfl | rfl | rfl) | (rfl | rfl)) | (rfl | rfl)
        all_goals
          refine ⟨_, rfl, ?_, ?_⟩
          · have hxo3 := hxo2.1
            try simp only [str_app, mul_len, z1, z2, z3, z4, z5, z6, z7]
            omega
        · exact strOk_one okc
        · exact strOk_app (by decide +kernel) k3
        · exact strOk_mul (by decide +kernel)
        · exact strOk_app (strOk_app (strOk_one ok6) (strOk_one ok7)) k3
        · exact strOk_app (by decide +kernel) (strOk_one okc')
        · exact strOk_app (strOk_app (strOk_app (strOk_mul (strOk_one ok6)) (strOk_one ok7)) k3) (by decide +kernel)
        · exact hxo2.2
        · exact strOk_app (by decide +kernel) (strOk_mul (by decide +kernel))
      · subst hd; cases Dq.str' hv
        refine ⟨_, _, ws ++ [x], rfl, S.F.mu (S.F.tr (S.F.tr E' EE) e13) ha (by rw [a13]; exact fun z => nomatch z), ?_, by rw [List.length_append, hl]; rfl, fun y hy => ?_⟩
        · rw [upd_same, List.map_append]; rfl
        · rcases List.mem_append.mp hy with z | z
          · exact hs y z
          · rw [List.mem_singleton.mp z]; exact hx
    · rintro σ' H' ⟨w9, w10, ws, rfl, E', a', hl, hs⟩
      refine ⟨_, rfl, q ws _ H' (by omega) hs (S.F.tr E7 E') ?_⟩
      exact .lst (by rw [hide_out lM]; exact a') (DqAll.ofStrs ws)
end
end Wh
namespace Wh
open PySem PySem.Spec PyProof.Rows L2 Dl
section
variable {P : Program} {w : World} {K : Fg} {mg : Str → Option Value} {base : Heap} {f : Addr} {fd : FuncData}
/-! ### _law_row -/
abbrev st_row : Stmt := (topS 8)
abbrev nm_row : List Str := ["_law_pen", "_law_names", "_law_boxes", "_law_slots", "_law_way", "_law_x", "_law_y", "_law_box", "_law_slot"]
theorem sc_row : FnScope nm_row ["_law_pen", "_law_names", "_law_boxes", "_law_slots"] (defScope st_row) := ⟨rfl, rfl, rfl, by decide +kernel, rfl, by decide +kernel, by decide +kernel⟩
def spRow (K : Fg) : Sp := fun vs H Q _ => ∃ (M : List Addr) (p sa : Addr) (ns : List Int) (v1 v2 v3 : V) (nms bxs sls : List Str), vs = [.ref p, v1, v2, v3] ∧ Lv M H ∧ p ∈ M ∧ PenAt K H p sa ns ∧ Dv M H v1 (dStrs nms) ∧ Dv M H v2 (dStrs bxs) ∧ Dv M H v3 (dStrs sls) ∧
  (0 < nms.length ∧ nms.length ≤ 20) ∧ (0 < bxs.length ∧ bxs.length ≤ 20) ∧ (0 < sls.length ∧ sls.length ≤ 20) ∧ ∀ (r : Row) v H', RowIn nms bxs sls r → Exp K p sa ns H H' → Dv M H' v (dRow r) → Q v H'
theorem mem_strs {ws : List Str} : ∀ d ∈ ws.map PyData.str, ∃ x, d = .str x ∧ x ∈ ws := fun d hd => by
  obtain ⟨x, hx, rfl⟩ := List.mem_map.mp hd
  exact ⟨x, rfl, hx⟩
theorem ok_row (F : Fun K "_law_row" "_law_row" st_row f fd) (T : Tb mg) (C__law_next : Callee P w K mg base "_law_next" 2 ["_law_pen", "_law_many"] (spNext K)) : FnOk P w K mg base CX0 3 f fd ["_law_pen", "_law_names", "_law_boxes", "_law_slots"] (spRow K) := by
  have sc := sc_row
  let nm := nm_row; let st := st_row
  refine F.ok sc_row (fun vs H Q E h => ?_) (fun cdv A outer s H vs Q E hr h => ?_)
  · obtain ⟨M, p, sa, ns, v1, v2, v3, nms, bxs, sls, rfl, _⟩ := h; rfl
  · obtain ⟨M, p, sa, ns, v1, v2, v3, nms, bxs, sls, rfl, l, hpM, hp, h1, h2, h3, ⟨a1, b1⟩, ⟨a2, b2⟩, ⟨a3, b3⟩, q⟩ := h
    refine ⟨_, (pss_cons (ps_set (i := 4) sc.nd rfl (Or.inl rfl) (pe_callC C__law_next (hr.mono (by decide)) (by rfl) (pa_cons (pv 0) (pa_cons pe_int pa_nil))))
 (pss_cons (ps_set (i := 5) sc.nd rfl (Or.inl rfl) (pe_ix (ixL K) (pv 1) (pe_callC C__law_next (hr.mono (by decide)) (by rfl) (pa_cons (pv 0) (pa_cons (pe_callB (lenQ K) (by rfl) T.m_len (by decide +kernel) (pa_cons (pv 1) pa_nil)) pa_nil))) (fun _ _ => rfl)))
 (pss_cons (ps_set (i := 6) sc.nd rfl (Or.inl rfl) (pe_ix (ixL K) (pv 1) (pe_callC C__law_next (hr.mono (by decide)) (by rfl) (pa_cons (pv 0) (pa_cons (pe_callB (lenQ K) (by rfl) T.m_len (by decide +kernel) (pa_cons (pv 1) pa_nil)) pa_nil))) (fun _ _ => rfl)))
 (pss_cons (ps_set (i := 7) sc.nd rfl (Or.inl rfl) (pe_ix (ixL K) (pv 2) (pe_callC C__law_next (hr.mono (by decide)) (by rfl) (pa_cons (pv 0) (pa_cons (pe_callB (lenQ K) (by rfl) T.m_len (by decide +kernel) (pa_cons (pv 2) pa_nil)) pa_nil))) (fun _ _ => rfl)))
 (pss_cons (ps_set (i := 8) sc.nd rfl (Or.inl rfl) (pe_ix (ixL K) (pv 3) (pe_callC C__law_next (hr.mono (by decide)) (by rfl) (pa_cons (pv 0) (pa_cons (pe_callB (lenQ K) (by rfl) T.m_len (by decide +kernel) (pa_cons (pv 3) pa_nil)) pa_nil))) (fun _ _ => rfl)))
 (pss_cons (ps_if (pt_cmpR op_lt (pv 4) pe_int (nomark _))
 (pss_one (ps_ret (pe_tup (pa_cons pe_str (pa_cons (pv 5) (pa_cons (pv 7) pa_nil))))))
 pss_nil)
 (pss_cons (ps_if (pt_cmpR op_lt (pv 4) pe_int (nomark _))
 (pss_one (ps_ret (pe_tup (pa_cons pe_str (pa_cons (pv 5) (pa_cons (pv 6) pa_nil))))))
 pss_nil)
 (pss_one (ps_ret (pe_ix (ixL K) (pe_lst (pa_cons (pe_tup (pa_cons pe_str (pa_cons (pv 5) (pa_cons (pv 8) (pa_cons (pv 6) pa_nil))))) (pa_cons (pe_tup (pa_cons pe_str (pa_cons (pv 5) (pa_cons (pv 8) (pa_cons (pv 6) pa_nil))))) pa_nil))) (pe_op op_mod (pv 4) pe_int) (fun _ _ => rfl))))))))))), ?_⟩
    have S : Dl.Set [p] M (Exp K p sa ns) := ⟨Exp.eff, fun a h => by rw [List.mem_singleton.mp h]; exact hpM⟩
    have c1 : (nms.map PyData.str).length = nms.length := List.length_map _
    have c2 : (bxs.map PyData.str).length = bxs.length := List.length_map _
    have c3 : (sls.map PyData.str).length = sls.length := List.length_map _
    refine q_asg S l (es_next S rfl hp (by decide) (by decide) (es_int S)) fun v4 H4 d4 e4 l4 ⟨way, hd4, w0, w1⟩ hv4 => ?_
    subst hd4; cases Dq.int' hv4
    have h1 := S.dv h1 e4; have h2 := S.dv h2 e4; have h3 := S.dv h3 e4; have hp := e4.2.2 hp
    refine q_asg S l4 (es_pick S rfl hp (es_var S rfl h1) (by walk_at "ev") (by omega) (by omega) mem_strs) fun v5 H5 d5 e5 l5 ⟨x, hd5, hx⟩ hv5 => ?_
    subst hd5; cases Dq.str' hv5
    have h1 := S.dv h1 e5; have h2 := S.dv h2 e5; have h3 := S.dv h3 e5; have hp := e5.2.2 hp
    refine q_asg S l5 (es_pick S rfl hp (es_var S rfl h1) (by walk_at "ev") (by omega) (by omega) mem_strs) fun v6 H6 d6 e6 l6 ⟨y, hd6, hy⟩ hv6 => ?_
    subst hd6; cases Dq.str' hv6
    have h1 := S.dv h1 e6; have h2 := S.dv h2 e6; have h3 := S.dv h3 e6; have hp := e6.2.2 hp
    refine q_asg S l6 (es_pick S rfl hp (es_var S rfl h2) (by walk_at "ev") (by omega) (by omega) mem_strs) fun v7 H7 d7 e7 l7 ⟨b, hd7, hb⟩ hv7 => ?_
    subst hd7; cases Dq.str' hv7
    have h1 := S.dv h1 e7; have h2 := S.dv h2 e7; have h3 := S.dv h3 e7; have hp := e7.2.2 hp
    refine q_asg S l7 (es_pick S rfl hp (es_var S rfl h3) (by walk_at "ev") (by omega) (by omega) mem_strs) fun v8 H8 d8 e8 l8 ⟨z, hd8, hz⟩ hv8 => ?_
    subst hd8; cases Dq.str' hv8
    have E8 : Exp K p sa ns H H8 := S.F.tr (S.F.tr (S.F.tr (S.F.tr e4 e5) e6) e7) e8
    refine q_whenD S l8 (by walk_at "ev") (fun _ H9 e9 l9 => ?_) (fun _ H9 e9 l9 => ?_)
    · refine s_retD S l9 (by walk_at "ev") fun v H' e l hv => ?_
      exact q (.new x b) v H' ⟨hx, hb⟩ (S.F.tr (S.F.tr E8 e9) e) hv
    refine q_whenD S l9 (by walk_at "ev") (fun _ H10 e10 l10 => ?_) (fun _ H10 e10 l10 => ?_)
    · refine s_retD S l10 (by walk_at "ev") fun v H' e l hv => ?_
      exact q (.move x y) v H' ⟨hx, hy⟩ (S.F.tr (S.F.tr (S.F.tr E8 e9) e10) e) hv
    refine s_ret S l10 (es_ixAll S (ds := [.tuple [.str "put", .str x, .str z, .str y], .tuple [.str "take", .str x, .str z, .str y]]) (i := way % 2) (Pd := fun d => ∃ r, d = dRow r ∧ RowIn nms bxs sls r) (by walk_at "ev") (by walk_at "ev") (by omega) (by show way % 2 < 2; omega) ?_) fun v H' d e l ⟨r, hd, hr⟩ hv => ?_
    · intro d hd
      simp only [List.mem_cons, List.not_mem_nil, or_false] at hd
      rcases hd with rfl | rfl
      · exact ⟨.put x z y, rfl, hx, hz, hy⟩
      · exact ⟨.take x z y, rfl, hx, hz, hy⟩
    · subst hd
      exact q r v H' hr (S.F.tr (S.F.tr (S.F.tr E8 e9) e10) e) hv
end
end Wh
namespace Wh
open PySem PySem.Spec PyProof.Rows L2 Dl
section
variable {P : Program} {w : World} {K : Fg} {mg : Str → Option Value} {base : Heap} {f : Addr} {fd : FuncData}
/-! ### _law_program -/
abbrev st_program : Stmt := (topS 9)
abbrev nm_program : List Str := ["_law_pen", "_law_most", "_law_many", "_law_sizes", "_law_names", "_law_boxes", "_law_slots", "_law_k"]
theorem sc_program : FnScope nm_program ["_law_pen", "_law_most"] (defScope st_program) := ⟨rfl, rfl, rfl, by decide +kernel, rfl, by decide +kernel, by decide +kernel⟩
def spProgram (K : Fg) : Sp := fun vs H Q _ => ∃ (M : List Addr) (p sa : Addr) (ns : List Int) (m : Int), vs = [.ref p, .int m] ∧ Lv M H ∧ p ∈ M ∧ PenAt K H p sa ns ∧ 0 ≤ m ∧ m ≤ 60 ∧
  ∀ (pr : List Row) (nms bxs sls : List Str) v H', (pr.length : Int) ≤ m → (∀ r ∈ pr, RowIn nms bxs sls r) → (nms.length ≤ 20 ∧ bxs.length ≤ 20 ∧ sls.length ≤ 20) → (Short nms ∧ Short bxs ∧ Short sls) → Exp K p sa ns H H' → Dv M H' v (dProg pr) → Q v H'
theorem es_words {M : List Addr} {p sa : Addr} {ns : List Int} {σ : L2.St} {H : Hp} {i : Nat} {tm : TE} {X : XK} (T : Set [p] M (Exp K p sa ns)) (h : σ[i]? = some (some (.ref p))) (hp : PenAt K H p sa ns)
    (hm : EvS M (Exp K p sa ns) tm σ H (fun d => ∃ m, d = .int m ∧ 0 < m ∧ m ≤ 20)) : EvS M (Exp K p sa ns) (tCall (spWords K) [] X (tCons (tVar i) (tCons tm tNil))) σ H (fun d => ∃ ws, d = dStrs ws ∧ (0 < ws.length ∧ ws.length ≤ 20) ∧ Short ws) := fun H1 e l Q q =>
  ⟨.ref p, h, hm H1 e l _ fun v H2 d e2 ⟨m, hd, m0, m1⟩ hv => by
    subst hd
    rw [Dq.int' hv]
    exact ⟨M, p, sa, ns, m, rfl, T.F.lvM l e2, T.sub p List.mem_cons_self, m0, m1, (T.F.tr e e2).2.2 hp, fun ws v H3 hl hs e3 hv => q _ H3 _ (T.F.tr e2 e3) ⟨ws, rfl, ⟨by omega, by omega⟩, hs⟩ hv⟩⟩
theorem es_row {M : List Addr} {p sa : Addr} {ns : List Int} {σ : L2.St} {H : Hp} {i1 i2 i3 i4 : Nat} {v1 v2 v3 : V} {nms bxs sls : List Str} {X : XK} (T : Set [p] M (Exp K p sa ns)) (h1 : σ[i1]? = some (some (.ref p))) (h2 : σ[i2]? = some (some v1)) (h3 : σ[i3]? = some (some v2)) (h4 : σ[i4]? = some (some v3))
    (hp : PenAt K H p sa ns) (g1 : Dv M H v1 (dStrs nms)) (g2 : Dv M H v2 (dStrs bxs)) (g3 : Dv M H v3 (dStrs sls)) (b1 : 0 < nms.length ∧ nms.length ≤ 20) (b2 : 0 < bxs.length ∧ bxs.length ≤ 20) (b3 : 0 < sls.length ∧ sls.length ≤ 20) :
    EvS M (Exp K p sa ns) (tCall (spRow K) [] X (tCons (tVar i1) (tCons (tVar i2) (tCons (tVar i3) (tCons (tVar i4) tNil))))) σ H (fun d => ∃ r, d = dRow r ∧ RowIn nms bxs sls r) := fun H1 e l Q q =>
  ⟨.ref p, h1, v1, h2, v2, h3, v3, h4, M, p, sa, ns, v1, v2, v3, nms, bxs, sls, rfl, l, T.sub p List.mem_cons_self, e.2.2 hp, T.dv g1 e, T.dv g2 e, T.dv g3 e, b1, b2, b3, fun r v H' hr e' hv => q v H' _ e' ⟨r, rfl, hr⟩ hv⟩
theorem ok_program (F : Fun K "_law_program" "_law_program" st_program f fd) (T : Tb mg) (C__law_next : Callee P w K mg base "_law_next" 2 ["_law_pen", "_law_many"] (spNext K)) (C__law_words : Callee P w K mg base "_law_words" 3 ["_law_pen", "_law_many"] (spWords K))
    (C__law_row : Callee P w K mg base "_law_row" 3 ["_law_pen", "_law_names", "_law_boxes", "_law_slots"] (spRow K)) : FnOk P w K mg base CX0 4 f fd ["_law_pen", "_law_most"] (spProgram K) := by
  have sc := sc_program
  let nm := nm_program; let st := st_program
  refine F.ok sc_program (fun vs H Q E h => ?_) (fun cdv A outer s H vs Q E hr h => ?_)
  · obtain ⟨M, p, sa, ns, m, rfl, _⟩ := h; rfl
  · obtain ⟨M, p, sa, ns, m, rfl, l, hpM, hp, m0, m1, q⟩ := h
    refine ⟨_, (pss_cons (ps_set (i := 2) sc.nd rfl (Or.inl rfl) (pe_callC C__law_next (hr.mono (by decide)) (by rfl) (pa_cons (pv 0) (pa_cons (pe_op op_add (pv 1) pe_int) pa_nil))))
 (pss_cons (ps_set (i := 3) sc.nd rfl (Or.inl rfl) (pe_ix (ixL K) (pe_lst (pa_cons (pe_lst (pa_cons pe_int (pa_cons pe_int (pa_cons pe_int pa_nil)))) (pa_cons (pe_lst (pa_cons pe_int (pa_cons pe_int (pa_cons pe_int pa_nil)))) (pa_cons (pe_lst (pa_cons pe_int (pa_cons pe_int (pa_cons pe_int pa_nil)))) (pa_cons (pe_lst (pa_cons pe_int (pa_cons pe_int (pa_cons pe_int pa_nil)))) (pa_cons (pe_lst (pa_cons pe_int (pa_cons pe_int (pa_cons pe_int pa_nil)))) (pa_cons (pe_lst (pa_cons pe_int (pa_cons pe_int (pa_cons pe_int pa_nil)))) pa_nil))))))) (pe_callC C__law_next (hr.mono (by decide)) (by rfl) (pa_cons (pv 0) (pa_cons pe_int pa_nil))) (fun _ _ => rfl)))
 (pss_cons (ps_set (i := 4) sc.nd rfl (Or.inr rfl) (pe_callC C__law_words (hr.mono (by decide)) (by rfl) (pa_cons (pv 0) (pa_cons (pe_op op_add pe_int (pe_callC C__law_next (hr.mono (by decide)) (by rfl) (pa_cons (pv 0) (pa_cons (pe_ix (ixL K) (pv 3) pe_int (fun _ _ => rfl)) pa_nil)))) pa_nil))))
 (pss_cons (ps_set (i := 5) sc.nd rfl (Or.inr rfl) (pe_callC C__law_words (hr.mono (by decide)) (by rfl) (pa_cons (pv 0) (pa_cons (pe_op op_add pe_int (pe_callC C__law_next (hr.mono (by decide)) (by rfl) (pa_cons (pv 0) (pa_cons (pe_ix (ixL K) (pv 3) pe_int (fun _ _ => rfl)) pa_nil)))) pa_nil))))
 (pss_cons (ps_set (i := 6) sc.nd rfl (Or.inr rfl) (pe_callC C__law_words (hr.mono (by decide)) (by rfl) (pa_cons (pv 0) (pa_cons (pe_op op_add pe_int (pe_callC C__law_next (hr.mono (by decide)) (by rfl) (pa_cons (pv 0) (pa_cons (pe_ix (ixL K) (pv 3) pe_int (fun _ _ => rfl)) pa_nil)))) pa_nil))))
 (pss_one (ps_ret (pe_callTy (tupQ K) (by rfl) T.m_tuple (by decide +kernel) (pa_cons (pe_lc (own := [("_law_k", 7)]) (g := gName 7) (by rfl) sc.nd (pi_range1 (by rfl) T.m_range (pa_cons (pv 2) pa_nil)) (blkOk_by (N := nm) (sc := defScope st) (by decide +kernel)) (fun _ _ _ _ _ => (pg_name (i := 7) sc.nd rfl (Or.inl rfl))) (fun _ _ _ _ _ => pts_nil) (fun _ _ _ _ _ => (pe_callC C__law_row (hr.mono (by decide)) (by rfl) (pa_cons (pv 0) (pa_cons (pv 4) (pa_cons (pv 5) (pa_cons (pv 6) pa_nil))))))) pa_nil))))))))), ?_⟩
    have S : Dl.Set [p] M (Exp K p sa ns) := ⟨Exp.eff, fun a h => by rw [List.mem_singleton.mp h]; exact hpM⟩
    refine q_asg S l (es_next (m := m + 1) S rfl hp (by omega) (by omega) (by walk_at "ev")) fun v2 H2 d2 e2 l2 ⟨many, hd2, w0, w1⟩ hv2 => ?_
    subst hd2; cases Dq.int' hv2
    have hp2 := e2.2.2 hp
    refine q_asg S l2 (S := fun d => ∃ a b c : Int, d = .list [.int a, .int b, .int c] ∧ (0 < a ∧ a ≤ 20) ∧ (0 < b ∧ b ≤ 20) ∧ (0 < c ∧ c ≤ 20))
      (es_op S (by walk_at "ev") (es_next S rfl hp2 (by decide) (by decide) (es_int S)) fun x y hx ⟨n, hy, n0, n1⟩ => ?_) fun v3 H3 d3 e3 l3 ⟨a, b, c, hd3, ha, hb, hc⟩ hv3 => ?_
    · subst hx; subst hy
      obtain ⟨j, hj, _, e⟩ := at_some (l := [PyData.list [.int 6, .int 4, .int 3], .list [.int 6, .int 4, .int 3], .list [.int 6, .int 4, .int 3], .list [.int 6, .int 4, .int 3], .list [.int 20, .int 10, .int 6], .list [.int 4, .int 20, .int 3]]) n0 (by show n < 6; exact n1)
      refine (rs_ixL S e).mono fun d hd => ?_
      have hall : ∀ d ∈ [PyData.list [.int 6, .int 4, .int 3], .list [.int 6, .int 4, .int 3], .list [.int 6, .int 4, .int 3], .list [.int 6, .int 4, .int 3], .list [.int 20, .int 10, .int 6], .list [.int 4, .int 20, .int 3]],
          ∃ a b c : Int, d = .list [.int a, .int b, .int c] ∧ (0 < a ∧ a ≤ 20) ∧ (0 < b ∧ b ≤ 20) ∧ (0 < c ∧ c ≤ 20) := by
        intro d hd
        simp only [List.mem_cons, List.not_mem_nil, or_false] at hd
        rcases hd with rfl | rfl | rfl | rfl | rfl | rfl
        all_goals exact ⟨_, _, _, rfl, by decide, by decide, by decide⟩
      rw [hd]
      exact hall _ (List.getElem_mem hj)
    subst hd3
    have hp3 := e3.2.2 hp2
    have i0 : atI [PyData.int a, .int b, .int c] 0 = some (.int a) := rfl
    have i1 : atI [PyData.int a, .int b, .int c] 1 = some (.int b) := rfl
    have i2 : atI [PyData.int a, .int b, .int c] 2 = some (.int c) := rfl
    refine q_asg S l3 (es_words S rfl hp3 (es_op S (es_int S) (es_next S rfl hp3 ha.1 (by omega) (by walk_at "ev")) fun x y hx ⟨n, hy, n0, n1⟩ => by
      subst hx; subst hy; exact (rs_I0 S).mono fun d hd => ⟨1 + n, hd, by omega, by omega⟩)) fun v4 H4 d4 e4 l4 ⟨nms, hd4, hn, sn⟩ hv4 => ?_
    subst hd4
    have hp4 := e4.2.2 hp3
    have hv3 := S.dv hv3 e4
    refine q_asg S l4 (es_words S rfl hp4 (es_op S (es_int S) (es_next S rfl hp4 hb.1 (by omega) (by walk_at "ev")) fun x y hx ⟨n, hy, n0, n1⟩ => by
      subst hx; subst hy; exact (rs_I0 S).mono fun d hd => ⟨1 + n, hd, by omega, by omega⟩)) fun v5 H5 d5 e5 l5 ⟨bxs, hd5, hbx, sb⟩ hv5 => ?_
    subst hd5
    have hp5 := e5.2.2 hp4
    have hv3 := S.dv hv3 e5; have hv4 := S.dv hv4 e5
    refine q_asg S l5 (es_words S rfl hp5 (es_op S (es_int S) (es_next S rfl hp5 hc.1 (by omega) (by walk_at "ev")) fun x y hx ⟨n, hy, n0, n1⟩ => by
      subst hx; subst hy; exact (rs_I0 S).mono fun d hd => ⟨1 + n, hd, by omega, by omega⟩)) fun v6 H6 d6 e6 l6 ⟨sls, hd6, hsl, ss⟩ hv6 => ?_
    subst hd6
    have hp6 := e6.2.2 hp5
    have hv4 := S.dv hv4 e6; have hv5 := S.dv hv5 e6
    have E6 : Exp K p sa ns H H6 := S.F.tr (S.F.tr (S.F.tr (S.F.tr e2 e3) e4) e5) e6
    refine s_ret S l6 (S := fun d => ∃ pr : List Row, d = dProg pr ∧ (pr.length : Int) ≤ m ∧ ∀ r ∈ pr, RowIn nms bxs sls r) (es_cb S (S1 := fun ds => ∃ rs : List Row, ds = [.list (rs.map dRow)] ∧ (rs.length : Int) ≤ m ∧ ∀ r ∈ rs, RowIn nms bxs sls r)
      (ea_cons S (es_lcR S (m := many) (by walk_at "ev") (by omega) (fun _ => rfl) (fun i acc => ∃ rs : List Row, acc = rs.map dRow ∧ rs.length = i ∧ ∀ r ∈ rs, RowIn nms bxs sls r) (fun _ _ => true) ⟨[], rfl, rfl, fun _ h => by simp at h⟩ ?_ ?_ ?_) (ea_nil S) ?_) ?_)
      fun v H' d e l ⟨pr, hd, hl, hr⟩ hv => ?_
    · intro i d x D acc H0 H' _ _ _ _ _ _ _ H1 e1 l1 Q q
      exact q true H1 (S.F.rf H1) rfl
    · intro i d x D acc H0 H' e0 hD e1 hi ⟨rs, ha, hl, hr⟩ lD hx _
      subst ha
      have SD := S.more D
      have e01 := S.F.tr e0 e1
      refine (es_row SD rfl rfl rfl rfl (e01.2.2 hp6) (S.dvMore hD (S.dv hv4 e0) e1) (S.dvMore hD (S.dv hv5 e0) e1) (S.dvMore hD (S.dv hv6 e0) e1) hn hbx hsl).mono fun d ⟨r, hd, hr'⟩ => ⟨rs ++ [r], ?_, ?_, ?_⟩
      · rw [hd, List.map_append]; rfl
      · rw [List.length_append, hl]; rfl
      · intro y hy
        rcases List.mem_append.mp hy with z | z
        · exact hr y z
        · rw [List.mem_singleton.mp z]; exact hr'
    · intro i d acc _ _ h; cases h
    · rintro d ds ⟨es, h1, rs, h2, h3, h4⟩ h5
      subst h5; subst h2
      exact ⟨rs, by rw [h1], by omega, h4⟩
    · rintro ds ⟨rs, h1, h2, h3⟩
      subst h1
      intro vs H l ha Q q
      exact rc_tupleL S vs H l ha Q fun v H2 d e hd hv => q v H2 d e ⟨rs, hd, h2, h3⟩ hv
    · subst hd
      exact q pr nms bxs sls v H' hl hr ⟨hn.2, hbx.2, hsl.2⟩ ⟨sn, sb, ss⟩ (S.F.tr E6 e) hv
end
end Wh
namespace Wh
open PySem L2 Dl Ds
theorem lay_strs : ∀ {ws : List Str}, (∀ x ∈ ws, PyData.strOk x = true) → PyData.canLayAll0 (ws.map PyData.str) = true
  | [], _ => rfl
  | x :: ws, h => by
    show (PyData.strOk x && PyData.canLayAll0 (ws.map PyData.str)) = true
    rw [h x List.mem_cons_self, lay_strs fun y hy => h y (List.mem_cons_of_mem _ hy)]; rfl
theorem depth_strs : ∀ (ws : List Str), PyData.depthAll (ws.map PyData.str) = 0
  | [] => rfl
  | x :: ws => by
    show max 0 (PyData.depthAll (ws.map PyData.str)) = 0
    rw [depth_strs ws]; rfl
end Wh
namespace Wh
open PySem PySem.Spec PyProof.Rows L2 Dl Ds
section
variable {P : Program} {w : World} {K : Fg} {mg : Str → Option Value} {base : Heap} {f : Addr} {fd : FuncData}
theorem es_program {M : List Addr} {p sa : Addr} {ns : List Int} {σ : L2.St} {H : Hp} {i : Nat} {tm : TE} {X : XK} {B : Int} (T : Set [p] M (Exp K p sa ns)) (h : σ[i]? = some (some (.ref p))) (hp : PenAt K H p sa ns)
    (hm : EvS M (Exp K p sa ns) tm σ H (fun d => ∃ m, d = .int m ∧ 0 ≤ m ∧ m ≤ 60 ∧ m ≤ B)) : EvS M (Exp K p sa ns) (tCall (spProgram K) [] X (tCons (tVar i) (tCons tm tNil))) σ H
      (fun d => ∃ (pr : List Row) (nms bxs sls : List Str), d = dProg pr ∧ ((pr.length : Int) ≤ 60 ∧ (pr.length : Int) ≤ B) ∧ (∀ r ∈ pr, RowIn nms bxs sls r) ∧ (nms.length ≤ 20 ∧ bxs.length ≤ 20 ∧ sls.length ≤ 20) ∧ (Short nms ∧ Short bxs ∧ Short sls)) := fun H1 e l Q q =>
  ⟨.ref p, h, hm H1 e l _ fun v H2 d e2 ⟨m, hd, m0, m1, m2⟩ hv => by
    subst hd
    rw [Dq.int' hv]
    exact ⟨M, p, sa, ns, m, rfl, T.F.lvM l e2, T.sub p List.mem_cons_self, (T.F.tr e e2).2.2 hp, m0, m1, fun pr nms bxs sls v H3 hl hr hn hs e3 hv => q _ H3 _ (T.F.tr e2 e3) ⟨pr, nms, bxs, sls, rfl, ⟨by omega, by omega⟩, hr, hn, hs⟩ hv⟩⟩
/-- the pen, as the law makes it -/
theorem pen_new {H : Hp} {p sa : Addr} {ns : List Int} (hp : H p = none) (hS : SqL K H sa (ns.map V.int)) : PenAt K (upd H p (.lst [.ref sa, .int 0, .int 0])) p sa ns := by
  refine ⟨0, 0, upd_same, Int.le_refl _, Int.le_refl _, ?_⟩
  rw [hide_upd List.mem_cons_self]
  exact Evl.ex_l (fun b o h => by rw [hide_out (by simp; exact ne_of_none h hp)]; exact h) hS
theorem rows_ok {pr : List Row} {nms bxs sls : List Str} (hr : ∀ r ∈ pr, RowIn nms bxs sls r) (hs : Short nms ∧ Short bxs ∧ Short sls) : (∀ x ∈ nameL pr, OkS x) ∧ (∀ x ∈ boxL pr, OkS x) ∧ (∀ x ∈ slotL pr, OkS x) := by
  refine ⟨fun x hx => ?_, fun x hx => ?_, fun x hx => ?_⟩
  · obtain ⟨r, h1, h2⟩ := List.mem_flatMap.mp hx
    have h3 := hr r h1
    unfold Row.nms at h2
    cases r <;> simp [Row.isNew, Row.fst, Row.last] at h2 <;> simp [RowIn] at h3
    · rw [h2]; exact hs.1 _ h3.1
    · rcases h2 with z | z <;> rw [z]
      · exact hs.1 _ h3.1
      · exact hs.1 _ h3.2
    · rcases h2 with z | z <;> rw [z]
      · exact hs.1 _ h3.1
      · exact hs.1 _ h3.2.2
    · rcases h2 with z | z <;> rw [z]
      · exact hs.1 _ h3.1
      · exact hs.1 _ h3.2.2
  · obtain ⟨r, h1, h2⟩ := List.mem_flatMap.mp hx
    have h3 := hr r h1
    unfold Row.bxs at h2
    cases r <;> simp [Row.isNew, Row.snd] at h2 <;> simp [RowIn] at h3
    rw [h2]; exact hs.2.1 _ h3.2
  · obtain ⟨r, h1, h2⟩ := List.mem_flatMap.mp hx
    have h3 := hr r h1
    unfold Row.sls at h2
    cases r <;> simp [Row.isPut, Row.isTake, Row.snd] at h2 <;> simp [RowIn] at h3
    · rw [h2]; exact hs.2.2 _ h3.2.1
    · rw [h2]; exact hs.2.2 _ h3.2.1
end
end Wh
namespace Wh
open PySem PySem.Spec PyProof.Rows L2 Dl Ds
section
variable {P : Program} {w : World} {K : Fg} {mg : Str → Option Value} {base : Heap} {f : Addr} {fd : FuncData}
/-! ### names_of, boxes_of, slots_of -/
abbrev st_names_of : Stmt := (topS 1)
abbrev nm_names_of : List Str := ["program", "found", "row"]
theorem sc_names_of : FnScope nm_names_of ["program"] (defScope st_names_of) := ⟨rfl, rfl, rfl, by decide +kernel, rfl, by decide +kernel, by decide +kernel⟩
/-- a promise: of a program a new list of the texts g -/
def spTexts (g : List Row → List Str) : Sp := fun vs H Q _ => ∃ (M : List Addr) (v : V) (p : List Row), vs = [v] ∧ Lv M H ∧ Dv M H v (dProg p) ∧ p.length ≤ 1000 ∧ ∀ l H', H l = none → Ex H H' → H' l = some (.lst ((rise (g p)).map V.str)) → Q (.ref l) H'
theorem nameL_snoc (p : List Row) (r : Row) : nameL (p ++ [r]) = nameL p ++ r.nms := by unfold nameL; rw [List.flatMap_append]; simp
theorem ok_names_of (F : Fun K "names_of" "names_of" st_names_of f fd) (T : Tb mg) : FnOk P w K mg base CX0 1 f fd ["program"] (spTexts nameL) := by
  have sc := sc_names_of
  let nm := nm_names_of; let st := st_names_of
  refine F.ok sc_names_of (fun vs H Q E h => ?_) (fun cdv A outer s H vs Q E hr h => ?_)
  · obtain ⟨M, v, p, rfl, _⟩ := h; rfl
  · obtain ⟨M, v, p, rfl, lv, hv, hp, q⟩ := h
    refine ⟨_, (pss_cons (ps_set (i := 1) sc.nd rfl (Or.inl rfl) pe_dnewK)
 (pss_cons (ps_for PassesOwn.never rfl (piT K (pv 0)) (pg_name (i := 2) sc.nd rfl (Or.inl rfl))
 (pss_cons (ps_dput (hu_of hr) (pv 1) (pe_ix (ixT K) (pv 2) pe_int (fun _ _ => rfl)) pe_bl rfl)
 (pss_one (ps_if (pt_cmpR op_ne (pe_ix (ixT K) (pv 2) pe_int (fun _ _ => rfl)) pe_str (nomark _))
 (pss_one (ps_dput (hu_of hr) (pv 1) (pe_ix (ixT K) (pv 2) (pe_un un_neg pe_int) (fun _ _ => rfl)) pe_bl rfl))
 pss_nil))))
 (pss_one (ps_ret (pe_callB (cr_sortedDS rfl) (by rfl) T.m_sorted (by decide +kernel) (pa_cons (pv 1) pa_nil)))))), ?_⟩
    have S : Dl.Set [] M Ex := Set.pure
    refine q_newK fun a ha => ?_
    have S1 := S.more a
    have aM : a ∈ a :: M := List.mem_cons_self
    have hv1 : Dv (a :: M) (upd H a (.dK [])) v (dProg p) := S.dvMore ha hv (Evl.Ex.new ha)
    refine q_for (s_forT S1 (Lv.cons upd_same lv.upd) (es_var S1 rfl hv1) fun H1 e1 l1 => ?_)
    refine ⟨fun i σ' H' => ∃ x2 kvs ks, σ' = [some v, some (.ref a), x2] ∧ Ex (hide (a :: M) H1) (hide (a :: M) H') ∧ Ex H H' ∧ H' a = some (.dK kvs) ∧ kvs.length ≤ 2 * i ∧ TextKeys kvs ks ∧ (∀ k, k ∈ ks ↔ k ∈ nameL (p.take i)) ∧ Lv (a :: M) H',
      ⟨none, [], [], rfl, Evl.Ex.refl _, (Evl.Ex.new ha).trans e1, e1 _ _ upd_same, Nat.zero_le _, ⟨rfl, List.nodup_nil⟩, fun k => Iff.rfl, l1⟩, fun i σ' H' ⟨_, _, _, _, h, _⟩ => h, ?_, ?_⟩
    · rintro i x d σ' H' hd hx ⟨x2, kvs, ks, rfl, g1, g2, g3, g4, g5, g6, l'⟩
      obtain ⟨r, rfl, hr'⟩ := prog_at hd
      have hi : i < p.length := (List.getElem?_eq_some_iff.mp hr').1
      refine g_name ?_
      refine q_cut2 (s_dput (k := r.fst) S1 l' g3 aM (by simp) rfl (by omega) (ed_op S1 (es_var S1 rfl hx) (es_int S1) (rs_ixT S1 r.at1)) (es_bl S1) fun u H2 d2 e2 l2 b2 hd2 hu hu2 => ?_)
      subst hd2; cases Dq.bool' hu
      obtain ⟨ks1, t1, m1⟩ := g5.put r.fst (.bl true)
      have len1 := length_putK kvs (Sum.inr r.fst) (.bl true)
      have x2' : Ex (hide (a :: M) H') (hide (a :: M) (upd H2 a (.dK (putK kvs (Sum.inr r.fst) (.bl true))))) := by rw [hide_upd aM]; exact ex_hide e2
      have l2' : Lv (a :: M) (upd H2 a (.dK (putK kvs (Sum.inr r.fst) (.bl true)))) := l2.upd
      have hx2 := hx.mono x2'
      have ex2 : Ex H (upd H2 a (.dK (putK kvs (Sum.inr r.fst) (.bl true)))) := Evl.Ex.mut (g2.trans e2) ha
      have nmt : nameL (p.take (i + 1)) = nameL (p.take i) ++ r.nms := by rw [take_succ' hr', nameL_snoc]
      refine s_whenD S1 l2' (etd_test S1 (ed_op S1 (ed_op S1 (es_var S1 rfl hx2) (es_int S1) (rs_ixT S1 r.at0)) (es_str S1) (rs_ne S1 rfl))) (fun hb H3 e3 l3 => ?_) (fun hb H3 e3 l3 => ?_)
      · have hn : r.isNew = false := by rw [← r.word_new]; simpa using hb
        have h3 := e3 _ _ (upd_same (H := H2) (a := a) (o := .dK (putK kvs (Sum.inr r.fst) (.bl true))))
        refine s_dput (k := r.last) S1 l3 h3 aM (by simp) rfl (by omega) (ed_op S1 (es_var S1 rfl (S1.dv hx2 e3)) (by walk_at "neg") (rs_ixT S1 r.atL)) (es_bl S1) fun u H4 d4 e4 l4 b4 hd4 hu hu4 => ?_
        subst hd4; cases Dq.bool' hu
        obtain ⟨ks2, t2, m2⟩ := t1.put r.last (.bl true)
        have len2 := length_putK (putK kvs (Sum.inr r.fst) (.bl true)) (Sum.inr r.last) (.bl true)
        refine ⟨_, _, ks2, rfl, g1.trans (x2'.trans ((ex_hide (e3.trans e4)).trans (by rw [hide_upd (H := H4) aM]; exact Evl.Ex.refl _))), Evl.Ex.mut (ex2.trans (e3.trans e4)) ha, upd_same, by omega, t2, fun k => ?_, l4.upd⟩
        rw [m2, m1, g6, nmt]
        unfold Row.nms
        rw [hn]
        simp only [List.mem_append, List.mem_cons, List.not_mem_nil, or_false, Bool.false_eq_true, if_false]
        exact or_assoc
      · have hn : r.isNew = true := by rw [← r.word_new]; simpa using hb
        refine ⟨_, _, ks1, rfl, g1.trans (x2'.trans (ex_hide e3)), ex2.trans e3, e3 _ _ upd_same, by omega, t1, fun k => ?_, l3⟩
        rw [m1, g6, nmt]
        unfold Row.nms
        rw [hn]
        simp only [List.mem_append, List.mem_cons, List.not_mem_nil, or_false, if_true]
    · rintro σ' H' ⟨x2, kvs, ks, rfl, g1, g2, g3, g4, g5, g6, l'⟩
      refine ⟨.ref a, rfl, rl_sortedDS g3 g5 _ fun l H2 hl e2 h2 => ?_⟩
      rw [rise_congr (L' := nameL p) fun k => by rw [g6, List.take_of_length_le (by rw [List.length_map]; exact Nat.le_refl _)]] at h2
      exact q l H2 (Evl.fresh_back g2 hl) (g2.trans e2) h2
theorem boxL_snoc (p : List Row) (r : Row) : boxL (p ++ [r]) = boxL p ++ r.bxs := by unfold boxL; rw [List.flatMap_append]; simp
theorem slotL_snoc (p : List Row) (r : Row) : slotL (p ++ [r]) = slotL p ++ r.sls := by unfold slotL; rw [List.flatMap_append]; simp
theorem nameL_len (p : List Row) : (nameL p).length ≤ 2 * p.length := by
  induction p with
  | nil => exact Nat.le_refl _
  | cons r p ih =>
    show (r.nms ++ nameL p).length ≤ 2 * (p.length + 1)
    rw [List.length_append]
    have : r.nms.length ≤ 2 := by unfold Row.nms; split <;> simp
    omega
theorem boxL_len (p : List Row) : (boxL p).length ≤ p.length := by
  induction p with
  | nil => exact Nat.le_refl _
  | cons r p ih =>
    show (r.bxs ++ boxL p).length ≤ p.length + 1
    rw [List.length_append]
    have : r.bxs.length ≤ 1 := by unfold Row.bxs; split <;> simp
    omega
theorem slotL_len (p : List Row) : (slotL p).length ≤ p.length := by
  induction p with
  | nil => exact Nat.le_refl _
  | cons r p ih =>
    show (r.sls ++ slotL p).length ≤ p.length + 1
    rw [List.length_append]
    have : r.sls.length ≤ 1 := by unfold Row.sls; split <;> simp
    omega
abbrev st_boxes_of : Stmt := (topS 2)
abbrev nm_boxes_of : List Str := ["program", "row"]
theorem sc_boxes_of : FnScope nm_boxes_of ["program"] (defScope st_boxes_of) := ⟨rfl, rfl, rfl, by decide +kernel, rfl, by decide +kernel, by decide +kernel⟩
theorem ok_boxes_of (F : Fun K "boxes_of" "boxes_of" st_boxes_of f fd) (T : Tb mg) : FnOk P w K mg base CX0 1 f fd ["program"] (spTexts boxL) := by
  have sc := sc_boxes_of
  let nm := nm_boxes_of; let st := st_boxes_of
  refine F.ok sc_boxes_of (fun vs H Q E h => ?_) (fun cdv A outer s H vs Q E hr h => ?_)
  · obtain ⟨M, v, p, rfl, _⟩ := h; rfl
  · obtain ⟨M, v, p, rfl, lv, hv, hp, q⟩ := h
    refine ⟨_, (pss_one (ps_ret (pe_callB (sortSetQ w rfl) (by rfl) T.m_sorted (by decide +kernel) (pa_cons (pe_callTy (setQ K w rfl) (by rfl) T.m_set (by decide +kernel) (pa_cons (pe_lc (own := [("row", 1)]) (g := gName 1) (by rfl) sc.nd (piT K (pv 0)) (blkOk_by (N := nm) (sc := defScope st) (by decide +kernel)) (fun _ _ _ _ _ => (pg_name (i := 1) sc.nd rfl (Or.inl rfl))) (fun _ _ _ _ _ => (pts_one (pt_cmpR op_eq (pe_ix (ixT K) (pv 1) pe_int (fun _ _ => rfl)) pe_str (nomark _)))) (fun _ _ _ _ _ => (pe_ix (ixT K) (pv 1) pe_int (fun _ _ => rfl)))) pa_nil)) pa_nil)))), ?_⟩
    have S : Dl.Set [] M Ex := Set.pure
    refine r_sortedSet (xs := boxL p) S lv ((es_lcT S (ds := p.map dRow) (es_var S rfl hv) (by rw [List.length_map]; omega) (fun _ => rfl) (fun i acc => acc = (boxL (p.take i)).map PyData.str) (fun i _ => match p[i]? with | some r => r.isNew | none => false) rfl ?_ ?_ ?_).mono ?_)
      (by have := boxL_len p; omega) q
    · intro i d x D acc H0 H' _ _ _ hi _ lD hx
      obtain ⟨r, rfl, hr'⟩ := prog_at hi
      have SD := S.more D
      rw [hr']
      exact etd_test SD (ed_op SD (ed_op SD (es_var SD rfl hx) (es_int SD) (rs_ixT SD r.at0)) (es_str SD) (rs_eq SD (by show some (decide (r.word = "new")) = _; rw [r.word_new])))
    · intro i d x D acc H0 H' _ _ _ hi ha lD hx hf
      obtain ⟨r, rfl, hr'⟩ := prog_at hi
      have SD := S.more D
      rw [hr'] at hf
      refine (ed_op SD (es_var SD rfl hx) (es_int SD) (rs_ixT SD r.at2)).mono fun z hz => ?_
      rw [hz, ha, take_succ' hr', boxL_snoc]
      unfold Row.bxs
      rw [show r.isNew = true from hf, List.map_append]
      rfl
    · intro i d acc hi ha hf
      obtain ⟨r, rfl, hr'⟩ := prog_at hi
      rw [hr'] at hf
      rw [ha, take_succ' hr', boxL_snoc]
      unfold Row.bxs
      rw [show r.isNew = false from hf]
      simp
    · rintro z ⟨es, h1, h2⟩
      rw [h1, h2, List.take_of_length_le (by rw [List.length_map]; exact Nat.le_refl _)]
abbrev st_slots_of : Stmt := (topS 3)
abbrev nm_slots_of : List Str := ["program", "row"]
theorem sc_slots_of : FnScope nm_slots_of ["program"] (defScope st_slots_of) := ⟨rfl, rfl, rfl, by decide +kernel, rfl, by decide +kernel, by decide +kernel⟩
theorem ok_slots_of (F : Fun K "slots_of" "slots_of" st_slots_of f fd) (T : Tb mg) : FnOk P w K mg base CX0 1 f fd ["program"] (spTexts slotL) := by
  have sc := sc_slots_of
  let nm := nm_slots_of; let st := st_slots_of
  refine F.ok sc_slots_of (fun vs H Q E h => ?_) (fun cdv A outer s H vs Q E hr h => ?_)
  · obtain ⟨M, v, p, rfl, _⟩ := h; rfl
  · obtain ⟨M, v, p, rfl, lv, hv, hp, q⟩ := h
    refine ⟨_, (pss_one (ps_ret (pe_callB (sortSetQ w rfl) (by rfl) T.m_sorted (by decide +kernel) (pa_cons (pe_callTy (setQ K w rfl) (by rfl) T.m_set (by decide +kernel) (pa_cons (pe_lc (own := [("row", 1)]) (g := gName 1) (by rfl) sc.nd (piT K (pv 0)) (blkOk_by (N := nm) (sc := defScope st) (by decide +kernel)) (fun _ _ _ _ _ => (pg_name (i := 1) sc.nd rfl (Or.inl rfl))) (fun _ _ _ _ _ => (pts_one (pt_cmpR (inSeq K) (pe_ix (ixT K) (pv 1) pe_int (fun _ _ => rfl)) (pe_tup (pa_cons pe_str (pa_cons pe_str pa_nil))) (by rfl)))) (fun _ _ _ _ _ => (pe_ix (ixT K) (pv 1) pe_int (fun _ _ => rfl)))) pa_nil)) pa_nil)))), ?_⟩
    have S : Dl.Set [] M Ex := Set.pure
    refine r_sortedSet (xs := slotL p) S lv ((es_lcT S (ds := p.map dRow) (es_var S rfl hv) (by rw [List.length_map]; omega) (fun _ => rfl) (fun i acc => acc = (slotL (p.take i)).map PyData.str) (fun i _ => match p[i]? with | some r => r.isPut || r.isTake | none => false) rfl ?_ ?_ ?_).mono ?_)
      (by have := slotL_len p; omega) q
    · intro i d x D acc H0 H' _ _ _ hi _ lD hx
      obtain ⟨r, rfl, hr'⟩ := prog_at hi
      have SD := S.more D
      rw [hr']
      refine etd_test SD (ed_op SD (ed_op SD (es_var SD rfl hx) (es_int SD) (rs_ixT SD r.at0)) (ed_tup SD (ead_cons SD (es_str SD) (ead_cons SD (es_str SD) (ea_nil SD)))) ((rs_inT SD (ss := ["put", "take"]) rfl).mono fun z hz => ?_))
      rw [hz]
      show PyData.bool (decide (r.word ∈ (["put", "take"] : List Str))) = .bool (r.isPut || r.isTake)
      rw [← r.word_put, ← r.word_take]
      simp
    · intro i d x D acc H0 H' _ _ _ hi ha lD hx hf
      obtain ⟨r, rfl, hr'⟩ := prog_at hi
      have SD := S.more D
      rw [hr'] at hf
      refine (ed_op SD (es_var SD rfl hx) (es_int SD) (rs_ixT SD r.at2)).mono fun z hz => ?_
      rw [hz, ha, take_succ' hr', slotL_snoc]
      unfold Row.sls
      rw [show (r.isPut || r.isTake) = true from hf, List.map_append]
      rfl
    · intro i d acc hi ha hf
      obtain ⟨r, rfl, hr'⟩ := prog_at hi
      rw [hr'] at hf
      rw [ha, take_succ' hr', slotL_snoc]
      unfold Row.sls
      rw [show (r.isPut || r.isTake) = false from hf]
      simp
    · rintro z ⟨es, h1, h2⟩
      rw [h1, h2, List.take_of_length_le (by rw [List.length_map]; exact Nat.le_refl _)]
end
end Wh
namespace Wh
open PySem PySem.Spec PyProof.Rows L2 Dl Ds
section
variable {P : Program} {w : World} {K : Fg} {mg : Str → Option Value} {base : Heap} {f : Addr} {fd : FuncData}
/-! ### _law_due -/
abbrev st_due : Stmt := (topS 10)
abbrev nm_due : List Str := ["_law_told", "_law_names", "_law_boxes", "_law_slots", "_law_row_here", "_law_one"]
theorem sc_due : FnScope nm_due ["_law_told"] (defScope st_due) := ⟨rfl, rfl, rfl, by decide +kernel, rfl, by decide +kernel, by decide +kernel⟩
abbrev dThree (p : List Row) : PyData := .list [dStrs (rise (nameL p)), dStrs (rise (boxL p)), dStrs (rise (slotL p))]
def spDue : Sp := fun vs H Q _ => ∃ (M : List Addr) (v : V) (p : List Row), vs = [v] ∧ Lv M H ∧ Dv M H v (dProg p) ∧ p.length ≤ 1000 ∧ ∀ u H', Ex H H' → Dv M H' u (dThree p) → Q u H'
theorem rs_rowNew {M : List Addr} {σ : L2.St} {H : Hp} {i : Nat} {x : V} {r : Row} (S : Dl.Set [] M Ex) (hi : σ[i]? = some (some x)) (hx : Dv M H x (dRow r)) : EtD M Ex (tTest (tOp rEq (tOp (rIxT K) (tVar i) (tC (.int 0))) (tC (.str "new")))) σ H r.isNew :=
  etd_test S (ed_op S (ed_op S (es_var S hi hx) (es_int S) (rs_ixT S r.at0)) (es_str S) (rs_eq S (by show some (decide (r.word = "new")) = _; rw [r.word_new])))
theorem ok_due (F : Fun K "_law_due" "_law_due" st_due f fd) (T : Tb mg) : FnOk P w K mg base CX0 1 f fd ["_law_told"] spDue := by
  have sc := sc_due
  let nm := nm_due; let st := st_due
  refine F.ok sc_due (fun vs H Q E h => ?_) (fun cdv A outer s H vs Q E hr h => ?_)
  · obtain ⟨M, v, p, rfl, _⟩ := h; rfl
  · obtain ⟨M, v, p, rfl, lv, hv, hp, q⟩ := h
    refine ⟨_, (pss_cons (ps_par3 (i := 1) (j := 2) (l := 3) (by rfl) sc.nd rfl rfl rfl (by decide) (by decide) (by decide) rfl rfl rfl (pa_cons (pe_lst pa_nil) (pa_cons (pe_lst pa_nil) (pa_cons (pe_lst pa_nil) pa_nil))) (by rfl))
 (pss_cons (ps_for PassesOwn.never rfl (piT K (pv 0)) (pg_name (i := 4) sc.nd rfl (Or.inl rfl))
 (pss_cons (ps_expr (pe_bm PySem.F.plainAttrs_list PySem.F.slot_list_append PySem.F.type_list_append mt_append (pv 1) (pa_cons (pe_ix (ixT K) (pv 4) pe_int (fun _ _ => rfl)) pa_nil)))
 (Evl.pss_cut (ps_if (pt_cmpR op_eq (pe_ix (ixT K) (pv 4) pe_int (fun _ _ => rfl)) pe_str (nomark _))
 (pss_one (ps_expr (pe_bm PySem.F.plainAttrs_list PySem.F.slot_list_append PySem.F.type_list_append mt_append (pv 2) (pa_cons (pe_ix (ixT K) (pv 4) pe_int (fun _ _ => rfl)) pa_nil))))
 (pss_one (ps_expr (pe_bm PySem.F.plainAttrs_list PySem.F.slot_list_append PySem.F.type_list_append mt_append (pv 1) (pa_cons (pe_ix (ixT K) (pv 4) (pe_un un_neg pe_int) (fun _ _ => rfl)) pa_nil)))))
 (pss_one (ps_if (pt_cmpR (inSeq K) (pe_ix (ixT K) (pv 4) pe_int (fun _ _ => rfl)) (pe_tup (pa_cons pe_str (pa_cons pe_str pa_nil))) (by rfl))
 (pss_one (ps_expr (pe_bm PySem.F.plainAttrs_list PySem.F.slot_list_append PySem.F.type_list_append mt_append (pv 3) (pa_cons (pe_ix (ixT K) (pv 4) pe_int (fun _ _ => rfl)) pa_nil))))
 pss_nil)))))
 (pss_one (ps_ret (pe_lc (own := [("_law_one", 5)]) (g := gName 5) (by rfl) sc.nd (piL K (pe_lst (pa_cons (pv 1) (pa_cons (pv 2) (pa_cons (pv 3) pa_nil))))) (blkOk_by (N := nm) (sc := defScope st) (by decide +kernel)) (fun _ _ _ _ _ => (pg_name (i := 5) sc.nd rfl (Or.inl rfl))) (fun _ _ _ _ _ => pts_nil) (fun _ _ _ _ _ => (pe_callB (sortSetQ w rfl) (by rfl) T.m_sorted (by decide +kernel) (pa_cons (pe_callTy (setQ K w rfl) (by rfl) T.m_set (by decide +kernel) (pa_cons (pv 5) pa_nil)) pa_nil)))))))), ?_⟩
    have S : Dl.Set [] M Ex := Set.pure
    -- the three lists
    refine ⟨Nat.zero_le _, fun a ha => ⟨Nat.zero_le _, fun b hb => ⟨Nat.zero_le _, fun c hc => ⟨_, _, _, rfl, ?_⟩⟩⟩⟩
    have hab : b ≠ a := fun z => by rw [z, upd_same] at hb; cases hb
    have hb0 : H b = none := by rw [upd_ne hab] at hb; exact hb
    have hcb : c ≠ b := fun z => by rw [z, upd_same] at hc; cases hc
    have hc1 : upd H a (.lst []) c = none := by rw [upd_ne hcb] at hc; exact hc
    have hca : c ≠ a := fun z => by rw [z, upd_same] at hc1; cases hc1
    have hc0 : H c = none := by rw [upd_ne hca] at hc1; exact hc1
    have X0 : Ex H (upd (upd (upd H a (.lst [])) b (.lst [])) c (.lst [])) := ((Evl.Ex.new ha).trans (Evl.Ex.new hb)).trans (Evl.Ex.new hc)
    have A0 : (upd (upd (upd H a (.lst [])) b (.lst [])) c (.lst [])) a = some (.lst []) := by rw [upd_ne hca.symm, upd_ne hab.symm, upd_same]
    have B0 : (upd (upd (upd H a (.lst [])) b (.lst [])) c (.lst [])) b = some (.lst []) := by rw [upd_ne hcb.symm, upd_same]
    have C0 : (upd (upd (upd H a (.lst [])) b (.lst [])) c (.lst [])) c = some (.lst []) := upd_same
    generalize upd (upd (upd H a (.lst [])) b (.lst [])) c (.lst []) = H0 at *
    dsimp only
    have S3 : Dl.Set [] (c :: b :: a :: M) Ex := Set.pure
    have aM : a ∈ c :: b :: a :: M := by simp
    have bM : b ∈ c :: b :: a :: M := by simp
    have cM : c ∈ c :: b :: a :: M := by simp
    have up : ∀ {H' d} {x : V}, Ex H H' → Dv M H x d → Dv (c :: b :: a :: M) H' x d := fun {H' d x} e h => Dq.mono h fun z o hz => by
      obtain ⟨z1, z2⟩ := hide_some hz
      have : z ∉ c :: b :: a :: M := fun m => by
        simp only [List.mem_cons] at m
        rcases m with m | m | m | m
        · rw [m, hc0] at z2; cases z2
        · rw [m, hb0] at z2; cases z2
        · rw [m, ha] at z2; cases z2
        · exact z1 m
      rw [hide_out this]; exact e _ _ z2
    have L0 : Lv (c :: b :: a :: M) H0 := Lv.cons C0 (Lv.cons B0 (Lv.cons A0 (lv.ex X0)))
    refine q_for (s_forT S3 L0 (es_var S3 (v := v) rfl (up X0 hv)) fun H1 e1 l1 => ?_)
    have keepE : ∀ {H' : Hp} {l : Addr} {o : HO}, l ∈ c :: b :: a :: M → Ex (hide (c :: b :: a :: M) H1) (hide (c :: b :: a :: M) H') → Ex (hide (c :: b :: a :: M) H1) (hide (c :: b :: a :: M) (upd H' l o)) := fun {H' l o} hl e => by rw [hide_upd hl]; exact e
    refine ⟨fun i σ' H' => ∃ x4 x5, σ' = [some v, some (.ref a), some (.ref b), some (.ref c), x4, x5] ∧ Ex (hide (c :: b :: a :: M) H1) (hide (c :: b :: a :: M) H') ∧ Ex H H' ∧ H' a = some (.lst ((nameL (p.take i)).map V.str)) ∧
        H' b = some (.lst ((boxL (p.take i)).map V.str)) ∧ H' c = some (.lst ((slotL (p.take i)).map V.str)) ∧ Lv (c :: b :: a :: M) H' ∧ (nameL (p.take i)).length ≤ 2 * i,
      ⟨none, none, rfl, Evl.Ex.refl _, X0.trans e1, e1 _ _ A0, e1 _ _ B0, e1 _ _ C0, l1, Nat.le_refl _⟩, fun i σ' H' ⟨_, _, _, h, _⟩ => h, ?_, ?_⟩
    · rintro i x d σ' H' hd hx ⟨x4, x5, rfl, g1, g2, ga, gb, gc, l', glen⟩
      obtain ⟨r, rfl, hr'⟩ := prog_at hd
      have hi : i < p.length := (List.getElem?_eq_some_iff.mp hr').1
      have tk := take_succ' hr'
      have lenB := boxL_len (p.take i)
      have lenS := slotL_len (p.take i)
      have lenT : (p.take i).length ≤ 1000 := by rw [List.length_take]; omega
      refine g_name ?_
      refine q_cut2 (s_app S3 l' ga aM (by simp) (by rw [List.length_map]; omega) rfl rfl (ed_op S3 (es_var S3 rfl hx) (es_int S3) (rs_ixT S3 r.at1)) fun u H2 d2 e2 l2 a2 hd2 hu l2' hu' => ?_)
      subst hd2; cases Dq.str' hu
      have hx2 : Dv (c :: b :: a :: M) (upd H2 a (.lst ((nameL (p.take i)).map V.str ++ [V.str r.fst]))) x (dRow r) := by unfold Dv; rw [hide_upd aM]; exact S3.dv hx e2
      have b2 : (upd H2 a (.lst ((nameL (p.take i)).map V.str ++ [V.str r.fst]))) b = some (.lst ((boxL (p.take i)).map V.str)) := by rw [upd_ne hab]; exact e2 _ _ gb
      have c2 : (upd H2 a (.lst ((nameL (p.take i)).map V.str ++ [V.str r.fst]))) c = some (.lst ((slotL (p.take i)).map V.str)) := by rw [upd_ne hca]; exact e2 _ _ gc
      have a2' : (upd H2 a (.lst ((nameL (p.take i)).map V.str ++ [V.str r.fst]))) a = some (.lst ((nameL (p.take i)).map V.str ++ [V.str r.fst])) := upd_same
      have G1 := keepE (o := .lst ((nameL (p.take i)).map V.str ++ [V.str r.fst])) aM (g1.trans (ex_hide e2))
      have G2 := Evl.Ex.mut (o := .lst ((nameL (p.take i)).map V.str ++ [V.str r.fst])) (g2.trans e2) ha
      generalize upd H2 a (.lst ((nameL (p.take i)).map V.str ++ [V.str r.fst])) = H3 at *
      -- new: the box; else the last name
      refine ⟨fun σ2 H4 => σ2 = [some v, some (.ref a), some (.ref b), some (.ref c), some x, x5] ∧ Ex (hide (c :: b :: a :: M) H1) (hide (c :: b :: a :: M) H4) ∧ Ex H H4 ∧ H4 a = some (.lst ((nameL (p.take (i + 1))).map V.str)) ∧
        H4 b = some (.lst ((boxL (p.take (i + 1))).map V.str)) ∧ H4 c = some (.lst ((slotL (p.take i)).map V.str)) ∧ Lv (c :: b :: a :: M) H4 ∧ Dv (c :: b :: a :: M) H4 x (dRow r), ?_, ?_⟩
      · refine s_ifD S3 l2' (rs_rowNew S3 rfl hx2) (fun hb2 H4 e4 l4 => ?_) (fun hb2 H4 e4 l4 => ?_)
        · refine s_app S3 l4 (e4 _ _ b2) bM (by simp) (by rw [List.length_map]; omega) rfl rfl (ed_op S3 (es_var S3 rfl (S3.dv hx2 e4)) (es_int S3) (rs_ixT S3 r.at2)) fun u H5 d5 e5 l5 b5 hd5 hu l5' hu' => ?_
          subst hd5; cases Dq.str' hu
          refine ⟨rfl, keepE bM (G1.trans (ex_hide (e4.trans e5))), Evl.Ex.mut (G2.trans (e4.trans e5)) hb0, ?_, ?_, ?_, l5', ?_⟩
          · rw [upd_ne hab.symm, tk, nameL_snoc]
            unfold Row.nms
            rw [hb2, List.map_append]
            exact (e4.trans e5) _ _ a2'
          · rw [upd_same, tk, boxL_snoc]
            unfold Row.bxs
            rw [hb2, List.map_append]
            rfl
          · rw [upd_ne hcb]; exact (e4.trans e5) _ _ c2
          · unfold Dv; rw [hide_upd bM]; exact S3.dv hx2 (e4.trans e5)
        · refine s_app S3 l4 (e4 _ _ a2') aM (by simp) (by rw [List.length_append, List.length_map, List.length_singleton]; omega) rfl rfl (ed_op S3 (es_var S3 rfl (S3.dv hx2 e4)) (ed_neg S3) (rs_ixT S3 r.atL)) fun u H5 d5 e5 l5 b5 hd5 hu l5' hu' => ?_
          subst hd5; cases Dq.str' hu
          refine ⟨rfl, keepE aM (G1.trans (ex_hide (e4.trans e5))), Evl.Ex.mut (G2.trans (e4.trans e5)) ha, ?_, ?_, ?_, l5', ?_⟩
          · rw [upd_same, tk, nameL_snoc]
            unfold Row.nms
            rw [hb2, List.map_append, List.append_assoc]
            rfl
          · rw [upd_ne hab, tk, boxL_snoc]
            unfold Row.bxs
            rw [hb2, List.map_append]
            simp only [Bool.false_eq_true, if_false, List.map_nil, List.append_nil]
            exact (e4.trans e5) _ _ b2
          · rw [upd_ne hca]; exact (e4.trans e5) _ _ c2
          · unfold Dv; rw [hide_upd aM]; exact S3.dv hx2 (e4.trans e5)
      · rintro σ2 H4 ⟨rfl, k1, k2, ka, kb, kc, l4, hx4⟩
        have lenN : (nameL (p.take (i + 1))).length ≤ 2 * (i + 1) := by
          rw [tk, nameL_snoc, List.length_append]
          have : r.nms.length ≤ 2 := by unfold Row.nms; split <;> simp
          omega
        refine s_whenD S3 l4 (b := r.isPut || r.isTake) (etd_test S3 (ed_op S3 (ed_op S3 (es_var S3 rfl hx4) (es_int S3) (rs_ixT S3 r.at0)) (ed_tup S3 (ead_cons S3 (es_str S3) (ead_cons S3 (es_str S3) (ea_nil S3)))) ((rs_inT S3 (ss := ["put", "take"]) rfl).mono fun z hz => ?_))) (fun hb2 H5 e5 l5 => ?_) (fun hb2 H5 e5 l5 => ?_)
        · rw [hz]
          show PyData.bool (decide (r.word ∈ (["put", "take"] : List Str))) = .bool (r.isPut || r.isTake)
          rw [← r.word_put, ← r.word_take]
          simp
        · refine s_app S3 l5 (e5 _ _ kc) cM (by simp) (by rw [List.length_map]; omega) rfl rfl (ed_op S3 (es_var S3 rfl (S3.dv hx4 e5)) (es_int S3) (rs_ixT S3 r.at2)) fun u H6 d6 e6 l6 b6 hd6 hu l6' hu' => ?_
          subst hd6; cases Dq.str' hu
          refine ⟨_, _, rfl, keepE cM (k1.trans (ex_hide (e5.trans e6))), Evl.Ex.mut (k2.trans (e5.trans e6)) hc0, ?_, ?_, ?_, l6', lenN⟩
          · rw [upd_ne hca.symm]; exact (e5.trans e6) _ _ ka
          · rw [upd_ne hcb.symm]; exact (e5.trans e6) _ _ kb
          · rw [upd_same, tk, slotL_snoc]
            unfold Row.sls
            rw [hb2, List.map_append]
            rfl
        · refine ⟨_, _, rfl, k1.trans (ex_hide e5), k2.trans e5, e5 _ _ ka, e5 _ _ kb, ?_, l5, lenN⟩
          rw [tk, slotL_snoc]
          unfold Row.sls
          rw [hb2, List.map_append]
          simp only [Bool.false_eq_true, if_false, List.map_nil, List.append_nil]
          exact e5 _ _ kc
    · rintro σ' H' ⟨x4, x5, rfl, g1, g2, ga, gb, gc, l', glen⟩
      have full : p.take (p.map dRow).length = p := List.take_of_length_le (by rw [List.length_map]; exact Nat.le_refl _)
      rw [full] at ga gb gc glen
      have lM : Lv M H' := lv.ex g2
      have da : ∀ {l : Addr} {ws : List Str}, H l = none → H' l = some (.lst (ws.map V.str)) → Dv M H' (.ref l) (dStrs ws) := fun {l ws} hl h => .lst (by rw [hide_out (lv.fresh hl)]; exact h) (DqAll.ofStrs ws)
      have fa := da ha ga; have fb := da hb0 gb; have fc := da hc0 gc
      refine s_ret S lM (S := fun d => d = dThree p) ((es_lcL S (ds := [dStrs (nameL p), dStrs (boxL p), dStrs (slotL p)]) (ed_lst S (ead_cons S (es_var S rfl fa) (ead_cons S (es_var S rfl fb) (ead_cons S (es_var S rfl fc) (ea_nil S)))) (by show 3 ≤ sizeLine; decide)) (by show 3 ≤ 100000; decide) (fun _ => rfl)
        (fun i acc => acc = [dStrs (rise (nameL p)), dStrs (rise (boxL p)), dStrs (rise (slotL p))].take i) (fun _ _ => true) rfl ?_ ?_ ?_).mono ?_) fun u H2 d e2 l2 hd hu => ?_
      · intro i d x D acc H0 H'' _ _ _ _ _ _ _ H1 e1 l1 Q q
        exact q true H1 (Evl.Ex.refl _) rfl
      · intro i d x D acc H0 H'' _ _ _ hi hacc lD hx _
        have SD := S.more D
        have lb := boxL_len p
        have ls := slotL_len p
        match i, hi with
        | 0, hi =>
          obtain rfl := Option.some.inj hi
          exact es_sortedSet SD ((es_var SD rfl hx).mono fun z hz => ⟨nameL p, hz, by rw [List.length_map] at glen; omega, by rw [hacc]; rfl⟩)
        | 1, hi =>
          obtain rfl := Option.some.inj hi
          exact es_sortedSet SD ((es_var SD rfl hx).mono fun z hz => ⟨boxL p, hz, by omega, by rw [hacc]; rfl⟩)
        | 2, hi =>
          obtain rfl := Option.some.inj hi
          exact es_sortedSet SD ((es_var SD rfl hx).mono fun z hz => ⟨slotL p, hz, by omega, by rw [hacc]; rfl⟩)
        | i + 3, hi => exact absurd hi (by simp)
      · intro i d acc _ _ h; cases h
      · rintro z ⟨es, h1, h2⟩
        rw [h1, h2]; rfl
      · subst hd
        exact q u H2 (g2.trans e2) hu
end
end Wh
namespace Wh
open PySem PySem.Spec PyProof.Rows L2 Dl Ds
section
variable {P : Program} {w : World} {K : Fg} {mg : Str → Option Value} {base : Heap} {f : Addr} {fd : FuncData}
/-! ### law -/
abbrev st_law : Stmt := (topS 11)
abbrev nm_law : List Str := ["script", "_law_pen", "_law_k", "_law_told", "_law_turn", "_law_found", "_law_one"]
theorem sc_law : FnScope nm_law ["script"] (defScope st_law) := ⟨rfl, rfl, rfl, by decide +kernel, rfl, by decide +kernel, by decide +kernel⟩
def spLaw (K : Fg) : Sp := fun vs H Q _ => ∃ (a : Addr) (ns : List Int), vs = [.ref a] ∧ SqL K H a (ns.map V.int) ∧ ns.length ≤ 63 ∧ ∀ H', Q (.bl true) H'
theorem three_shaped {pr : List Row} (h : (∀ x ∈ nameL pr, OkS x) ∧ (∀ x ∈ boxL pr, OkS x) ∧ (∀ x ∈ slotL pr, OkS x)) : SeqAt.shaped (dThree pr) = true := by
  have l1 : PyData.canLayAll0 ((rise (nameL pr)).map PyData.str) = true := lay_strs fun x hx => (h.1 x (rise_mem.1 hx)).2
  have l2 : PyData.canLayAll0 ((rise (boxL pr)).map PyData.str) = true := lay_strs fun x hx => (h.2.1 x (rise_mem.1 hx)).2
  have l3 : PyData.canLayAll0 ((rise (slotL pr)).map PyData.str) = true := lay_strs fun x hx => (h.2.2 x (rise_mem.1 hx)).2
  have c : PyData.canLay0 (dThree pr) = true := by
    show (PyData.canLayAll0 ((rise (nameL pr)).map PyData.str) && (PyData.canLayAll0 ((rise (boxL pr)).map PyData.str) && (PyData.canLayAll0 ((rise (slotL pr)).map PyData.str) && true))) = true
    rw [l1, l2, l3]; rfl
  have d : (dThree pr).depth ≤ 64 := by
    show max (PyData.depthAll ((rise (nameL pr)).map PyData.str) + 1) (max (PyData.depthAll ((rise (boxL pr)).map PyData.str) + 1) (max (PyData.depthAll ((rise (slotL pr)).map PyData.str) + 1) 0)) + 1 ≤ 64
    rw [depth_strs, depth_strs, depth_strs]; decide
  unfold SeqAt.shaped
  rw [c, decide_eq_true d]; rfl
theorem es_due {M : List Addr} {σ : L2.St} {H : Hp} {i : Nat} {v : V} {pr : List Row} {X : XK} (T : Set [] M Ex) (h : σ[i]? = some (some v)) (hv : Dv M H v (dProg pr)) (hl : pr.length ≤ 1000) : EvD M Ex (tCall spDue [] X (tCons (tVar i) tNil)) σ H (dThree pr) := fun H1 e l Q q =>
  ⟨v, h, M, v, pr, rfl, l, T.dv hv e, hl, fun u H2 e2 hu => q u H2 _ e2 rfl hu⟩
theorem ok_law (F : Fun K "law" "law" st_law f fd) (T : Tb mg) (C__law_program : Callee P w K mg base "_law_program" 4 ["_law_pen", "_law_most"] (spProgram K)) (C_names_of : Callee P w K mg base "names_of" 1 ["program"] (spTexts nameL))
    (C_boxes_of : Callee P w K mg base "boxes_of" 1 ["program"] (spTexts boxL)) (C_slots_of : Callee P w K mg base "slots_of" 1 ["program"] (spTexts slotL)) (C__law_due : Callee P w K mg base "_law_due" 1 ["_law_told"] spDue) : FnOk P w K mg base CX0 5 f fd ["script"] (spLaw K) := by
  have sc := sc_law
  let nm := nm_law; let st := st_law
  refine F.ok sc_law (fun vs H Q E h => ?_) (fun cdv A outer s H vs Q E hr h => ?_)
  · obtain ⟨a, ns, rfl, _⟩ := h; rfl
  · obtain ⟨sa, ns, rfl, hS, hlen, q⟩ := h
    refine ⟨_, (pss_cons (ps_set (i := 1) sc.nd rfl (Or.inl rfl) (pe_lst (pa_cons (pv 0) (pa_cons pe_int (pa_cons pe_int pa_nil)))))
 (pss_cons (ps_for PassesOwn.never rfl (pi_range1 (by rfl) T.m_range (pa_cons pe_int pa_nil)) (pg_name (i := 2) sc.nd rfl (Or.inl rfl))
 (pss_cons (ps_set (i := 3) sc.nd rfl (Or.inl rfl) (pe_callC C__law_program (hr.mono (by decide)) (by rfl) (pa_cons (pv 1) (pa_cons (pe_ix (ixL K) (pe_lst (pa_cons pe_int (pa_cons pe_int pa_nil))) (pe_op op_mod (pv 2) pe_int) (fun _ _ => rfl)) pa_nil))))
 (pss_one (ps_for PassesOwn.never rfl (pi_range1 (by rfl) T.m_range (pa_cons pe_int pa_nil)) (pg_name (i := 4) sc.nd rfl (Or.inl rfl))
 (pss_cons (ps_set (i := 5) sc.nd rfl (Or.inl rfl) (pe_lst (pa_cons (pe_callC C_names_of (hr.mono (by decide)) (by rfl) (pa_cons (pv 3) pa_nil)) (pa_cons (pe_callC C_boxes_of (hr.mono (by decide)) (by rfl) (pa_cons (pv 3) pa_nil)) (pa_cons (pe_callC C_slots_of (hr.mono (by decide)) (by rfl) (pa_cons (pv 3) pa_nil)) pa_nil)))))
 (pss_cons (ps_if (PW.pt (pw_or (pt_cmpR (neD K hr.units) (pv 5) (pe_callC C__law_due (hr.mono (by decide)) (by rfl) (pa_cons (pv 3) pa_nil)) (nomark _)) (pw_or1 (pt_cmpR (inSeq K) pe_bl (pe_lc (own := [("_law_one", 6)]) (g := gName 6) (by rfl) sc.nd (piL K (pv 5)) (blkOk_by (N := nm) (sc := defScope st) (by decide +kernel)) (fun _ _ _ _ _ => (pg_name (i := 6) sc.nd rfl (Or.inl rfl))) (fun _ _ _ _ _ => pts_nil) (fun _ _ _ _ _ => (pe_callB (isiQ K) (by rfl) T.m_isinstance (by decide +kernel) (pa_cons (pv 6) (pa_cons (pe_bltn (v := .ty "list") (by rfl) T.m_list (by decide +kernel) rfl) pa_nil))))) (by rfl)))))
 (pss_one (ps_ret pe_bl))
 pss_nil)
 (pss_one (ps_for PassesOwn.never rfl (piL K (pv 5)) (pg_name (i := 6) sc.nd rfl (Or.inl rfl))
 (pss_cons (ps_expr (pe_bm PySem.F.plainAttrs_list PySem.F.slot_list_append PySem.F.type_list_append mt_append (pv 6) (pa_cons pe_str pa_nil)))
 (pss_one (ps_expr (pe_bm0 PySem.F.plainAttrs_list PySem.F.slot_list_reverse PySem.F.type_list_reverse mt_reverse (pv 6)))))))))))))
 (pss_one (ps_ret pe_bl)))), ?_⟩
    refine q_asgLst ⟨_, rfl, (by show 3 ≤ sizeLine; decide), fun p hp => ?_⟩
    have pen0 := pen_new (K := K) hp hS
    have S : Dl.Set [p] [p] (Exp K p sa ns) := ⟨Exp.eff, fun a h => h⟩
    have S0 : Dl.Set [] [p] Ex := Set.pure
    refine q_for (s_forR (m := 4) S (Lv.cons upd_same Lv.nil) (by walk_at "ev") (by decide) fun H1 e1 l1 => ?_)
    refine ⟨fun i σ' H' => ∃ x2 x3 x4 x5 x6, σ' = [some (.ref sa), some (.ref p), x2, x3, x4, x5, x6] ∧ PenAt K H' p sa ns ∧ Lv [p] H', ⟨none, none, none, none, none, rfl, e1.2.2 pen0, l1⟩, ?_, ?_⟩
    · rintro i σ' H' hi ⟨x2, x3, x4, x5, x6, rfl, hpen, l'⟩
      refine g_name ?_
      refine q_asg S l' (es_program (B := 60) S rfl hpen (es_ixAll S (ds := [.int 30, .int 60]) (i := (i : Int) % 2) (by walk_at "ev") (by walk_at "ev") (by omega) (by show (i : Int) % 2 < 2; omega) (fun d hd => ?_))) fun vt H2 d2 e2 l2 ⟨pr, nms, bxs, sls, hd2, ⟨hl, _⟩, hrow, _, hsh⟩ hvt => ?_
      · simp only [List.mem_cons, List.not_mem_nil, or_false] at hd
        rcases hd with rfl | rfl
        · exact ⟨30, rfl, by decide, by decide, by decide⟩
        · exact ⟨60, rfl, by decide, by decide, by decide⟩
      subst hd2
      have hl' : pr.length ≤ 1000 := by omega
      have okp := rows_ok hrow hsh
      have sh := three_shaped okp
      have pen2 := e2.2.2 hpen
      refine s_forR (m := 2) S0 l2 (by walk_at "ev") (by decide) fun Ht et lt => ?_
      refine ⟨fun j σ' H' => ∃ x4 x5 x6, σ' = [some (.ref sa), some (.ref p), some (.int (i : Int)), some vt, x4, x5, x6] ∧ Ex Ht H', ⟨_, _, _, rfl, Evl.Ex.refl _⟩, ?_, ?_⟩
      · rintro j σ' H' hj ⟨x4, x5, x6, rfl, ex⟩
        refine g_name ?_
        have l3 : Lv [p] H' := lt.ex ex
        have hv3 : Dv [p] H' vt (dProg pr) := S0.dv (S0.dv hvt et) ex
        refine q_asgLst ⟨vt, rfl, [p], vt, pr, rfl, l3, hv3, hl', fun n H4 hn e4 h4 => ⟨vt, rfl, [p], vt, pr, rfl, l3.ex e4, S0.dv hv3 e4, hl', fun b H5 hb e5 h5 => ⟨vt, rfl, [p], vt, pr, rfl, (l3.ex e4).ex e5, S0.dv (S0.dv hv3 e4) e5, hl', fun c H6 hc e6 h6 => ⟨(by show 3 ≤ sizeLine; decide), fun l hl0 => ?_⟩⟩⟩⟩
        have e46 : Ex H4 H6 := e5.trans e6
        have E6 : Ex H' H6 := e4.trans e46
        have n6 := e46 _ _ h4
        have b6 := e6 _ _ h5
        have lv6 : Lv [p] H6 := l3.ex E6
        have E7 : Ex H6 (upd H6 l (.lst [.ref n, .ref b, .ref c])) := Evl.Ex.new hl0
        have n7 := E7 _ _ n6; have b7 := E7 _ _ b6; have c7 := E7 _ _ h6
        have l7 : (upd H6 l (.lst [.ref n, .ref b, .ref c])) l = some (.lst [.ref n, .ref b, .ref c]) := upd_same
        have lv7 : Lv [p] (upd H6 l (.lst [.ref n, .ref b, .ref c])) := lv6.upd
        have np : n ∉ [p] := l3.fresh hn
        have bp : b ∉ [p] := (l3.ex e4).fresh hb
        have cp : c ∉ [p] := (l3.ex (e4.trans e5)).fresh hc
        have lp : l ∉ [p] := lv6.fresh hl0
        have nl : n ≠ l := ne_of_none n6 hl0
        have bl : b ≠ l := ne_of_none b6 hl0
        have cl : c ≠ l := ne_of_none h6 hl0
        have n0 : Ht n = none := Evl.fresh_back ex hn
        have b0 : Ht b = none := Evl.fresh_back (ex.trans e4) hb
        have c0 : Ht c = none := Evl.fresh_back (ex.trans (e4.trans e5)) hc
        have l0 : Ht l = none := Evl.fresh_back (ex.trans E6) hl0
        have X7 : Ex Ht (upd H6 l (.lst [.ref n, .ref b, .ref c])) := ex.trans (E6.trans E7)
        have hv7 : Dv [p] (upd H6 l (.lst [.ref n, .ref b, .ref c])) vt (dProg pr) := S0.dv hv3 (E6.trans E7)
        generalize upd H6 l (.lst [.ref n, .ref b, .ref c]) = H7 at *
        have df : Dv [p] H7 (.ref l) (dThree pr) := .lst (by rw [hide_out lp]; exact l7) (.cons (.lst (by rw [hide_out np]; exact n7) (DqAll.ofStrs _)) (.cons (.lst (by rw [hide_out bp]; exact b7) (DqAll.ofStrs _)) (.cons (.lst (by rw [hide_out cp]; exact c7) (DqAll.ofStrs _)) .nil)))
        refine q_whenD S0 lv7 (b := false) ((etd_or S0 (a := false) (b := false) ((etd_test S0 (ed_op S0 (es_var S0 rfl df) (es_due S0 rfl hv7 hl') (rs_neD S0 sh sh))).is (by rw [SeqAt.eqv_refl _ (SeqAt.canLay_of_shaped sh)]; rfl)) fun _ => ?_)) (fun h => nomatch h) (fun _ H8 e8 l8 => ?_)
        · refine etd_test S0 (es_op S0 (S1 := fun d => d = .bool false) (S2 := fun d => d = .list [.bool true, .bool true, .bool true]) (es_bl S0) ((es_lcL S0 (ds := [dStrs (rise (nameL pr)), dStrs (rise (boxL pr)), dStrs (rise (slotL pr))]) (es_var S0 rfl df) (by show 3 ≤ 100000; decide) (fun _ => rfl)
            (fun i acc => acc = List.replicate i (PyData.bool true)) (fun _ _ => true) rfl ?_ ?_ ?_).mono fun z ⟨es, h1, h2⟩ => by rw [h1, h2]; rfl) fun d1 d2 h1 h2 => ?_)
          · intro i d x D acc H0 H'' _ _ _ _ _ _ _ H1 e1 l1 Q q
            exact q true H1 (Evl.Ex.refl _) rfl
          · intro i d x D acc H0 H'' _ _ _ hi hacc lD hx _
            have SD := S0.more D
            have hk : kitB (tagD d) "list" = some true := by
              have hd : d ∈ [dStrs (rise (nameL pr)), dStrs (rise (boxL pr)), dStrs (rise (slotL pr))] := List.mem_of_getElem? hi
              simp only [List.mem_cons, List.not_mem_nil, or_false] at hd
              rcases hd with rfl | rfl | rfl <;> exact (by decide +kernel : kitB "list" "list" = some true)
            exact (es_isi SD (es_var SD rfl hx) hk).mono fun z hz => by rw [hz, hacc, List.replicate_succ']
          · intro i d acc _ _ h; cases h
          · subst h1; subst h2
            intro x y H0 _ hx hy Q q
            obtain ⟨a, xs, rfl, hs, ha⟩ := Dq.list' hy
            rw [Dq.bool' hx]
            cases ha with
            | cons g1 ha => cases ha with
              | cons g2 ha => cases ha with
                | cons g3 ha =>
                  cases ha
                  rw [Dq.bool' g1, Dq.bool' g2, Dq.bool' g3] at hs
                  exact ⟨a, _, rfl, .inl (SqL.of (hide_ex _ _ hs)), rfl, rfl, q _ H0 _ (Evl.Ex.refl _) rfl (.bl _)⟩
        · -- the lists changed
          have n8 := e8 _ _ n7; have b8 := e8 _ _ b7; have c8 := e8 _ _ c7; have l8' := e8 _ _ l7
          refine ⟨_, rfl, l, rfl, ⟨_, SqL.of l8'⟩, for_list (K := K) (a := l) (xs := [.ref n, .ref b, .ref c]) (fun j σ2 H2 => ∃ x4 x6, σ2 = [some (.ref sa), some (.ref p), some (.int (i : Int)), some vt, x4, some (.ref l), x6] ∧ Ex Ht H2 ∧ H2 l = some (.lst [.ref n, .ref b, .ref c]) ∧
            ∀ y, y = n ∨ y = b ∨ y = c → ∃ xs : List V, H2 y = some (.lst xs) ∧ xs.length ≤ 5000 + j) ⟨_, _, rfl, X7.trans e8, l8', ?_⟩ (fun i σ H _ ⟨_, _, _, _, h, _⟩ => SqL.of h) ?_ ?_⟩
          · have r1 := rise_len (nameL pr)
            have r2 := rise_len (boxL pr)
            have r3 := rise_len (slotL pr)
            have k1 := nameL_len pr
            have k2 := boxL_len pr
            have k3 := slotL_len pr
            rintro y (rfl | rfl | rfl)
            · exact ⟨_, n8, by rw [List.length_map]; omega⟩
            · exact ⟨_, b8, by rw [List.length_map]; omega⟩
            · exact ⟨_, c8, by rw [List.length_map]; omega⟩
          · rintro j x σ2 H2 hx ⟨x4, x6, rfl, g1, g2, g3⟩
            have hj3 : j < 3 := (List.getElem?_eq_some_iff.mp hx).1
            obtain ⟨y, rfl, hy⟩ : ∃ y, x = .ref y ∧ (y = n ∨ y = b ∨ y = c) := by
              match j, hx with
              | 0, hx => exact ⟨n, (Option.some.inj hx).symm, .inl rfl⟩
              | 1, hx => exact ⟨b, (Option.some.inj hx).symm, .inr (.inl rfl)⟩
              | 2, hx => exact ⟨c, (Option.some.inj hx).symm, .inr (.inr rfl)⟩
              | j + 3, hx => exact absurd hx (by simp)
            obtain ⟨xs, hxs, hlx⟩ := g3 y hy
            have y0 : Ht y = none := by rcases hy with rfl | rfl | rfl <;> assumption
            have yl : l ≠ y := by rcases hy with rfl | rfl | rfl <;> exact Ne.symm (by assumption)
            refine ⟨_, rfl, .inl ⟨rfl, _, SqL.of hxs⟩, y, xs, .str "zz", rfl, rfl, hxs, Nat.lt_of_le_of_lt hlx (by show 5000 + j < sizeLine; have : sizeLine = 16777216 := sizeLine_eq; omega), ?_⟩
            refine ⟨_, rfl, .inl ⟨rfl, _, SqL.of upd_same⟩, y, _, rfl, rfl, upd_same, ?_⟩
            rw [upd_upd]
            refine ⟨_, _, rfl, Evl.Ex.mut g1 y0, by rw [upd_ne yl]; exact g2, fun z hz => ?_⟩
            by_cases hzy : z = y
            · subst hzy
              exact ⟨_, upd_same, by rw [List.length_reverse, List.length_append, List.length_singleton]; omega⟩
            · obtain ⟨ys, q1, q2⟩ := g3 z hz
              exact ⟨ys, by rw [upd_ne hzy]; exact q1, by omega⟩
          · rintro σ2 H2 ⟨x4, x6, rfl, g1, _⟩
            exact ⟨_, _, _, rfl, g1⟩
      · rintro σ' H' ⟨x4, x5, x6, rfl, ex⟩
        exact ⟨_, _, _, _, _, rfl, (Exp.eff.ex (et.trans ex)).2.2 pen2, l2.ex (et.trans ex)⟩
    · rintro σ' H' _
      exact q H'
end
end Wh
namespace Wh
open PySem PySem.Spec PyProof.Rows L2 Dl Ds
theorem all_mk {l : PySem.W.OpenLaw} {w : World} {K : Fg} {h : Heap} {mg : Str → Option Value} {fa f0 f1 f2 f3 f4 f5 f6 f7 f8 f9 : Addr} (X : K.In h) (G : h.Ns mainGlobals mg) (hfa : mg "law" = some (.ref fa))
    {od0 an0 od1 an1 od2 an2 od3 an3 od4 an4 od5 an5 od6 an6 od7 an7 od8 an8 od9 an9 : Option Addr} {sl0 sl1 sl2 sl3 sl4 sl5 sl6 sl7 sl8 sl9 : Array (Option Value)} {oc0 kV0 dc0 pm0 cd0 ct0 oc1 kV1 dc1 pm1 cd1 ct1 oc2 kV2 dc2 pm2 cd2 ct2 oc3 kV3 dc3 pm3 cd3 ct3 oc4 kV4 dc4 pm4 cd4 ct4 oc5 kV5 dc5 pm5 cd5 ct5 oc6 kV6 dc6 pm6 cd6 ct6 oc7 kV7 dc7 pm7 cd7 ct7 oc8 kV8 dc8 pm8 cd8 ct8 oc9 kV9 dc9 pm9 cd9 ct9 : Value}
    (a0 : PySem.W.nsIn K mainGlobals "_law_fill" = some (some (.ref f0)))
    (l0 : K.lookup f0 = some ⟨oc0, od0, .func (PySem.W.fnOf "_law_fill" "_law_fill" (defArgs st_fill) (defBody st_fill) (defScope st_fill) .none kV0 dc0 pm0 an0 cd0 ct0), sl0⟩)
    (c0 : PySem.W.codeIn K cd0 "_law_fill" = true)
    (k0 : PySem.W.keepIn K (.ref f0) = true)
    (a1 : PySem.W.nsIn K mainGlobals "_law_next" = some (some (.ref f1)))
    (l1 : K.lookup f1 = some ⟨oc1, od1, .func (PySem.W.fnOf "_law_next" "_law_next" (defArgs st_next) (defBody st_next) (defScope st_next) .none kV1 dc1 pm1 an1 cd1 ct1), sl1⟩)
    (c1 : PySem.W.codeIn K cd1 "_law_next" = true)
    (k1 : PySem.W.keepIn K (.ref f1) = true)
    (a2 : PySem.W.nsIn K mainGlobals "_law_words" = some (some (.ref f2)))
    (l2 : K.lookup f2 = some ⟨oc2, od2, .func (PySem.W.fnOf "_law_words" "_law_words" (defArgs st_words) (defBody st_words) (defScope st_words) .none kV2 dc2 pm2 an2 cd2 ct2), sl2⟩)
    (c2 : PySem.W.codeIn K cd2 "_law_words" = true)
    (k2 : PySem.W.keepIn K (.ref f2) = true)
    (a3 : PySem.W.nsIn K mainGlobals "_law_row" = some (some (.ref f3)))
    (l3 : K.lookup f3 = some ⟨oc3, od3, .func (PySem.W.fnOf "_law_row" "_law_row" (defArgs st_row) (defBody st_row) (defScope st_row) .none kV3 dc3 pm3 an3 cd3 ct3), sl3⟩)
    (c3 : PySem.W.codeIn K cd3 "_law_row" = true)
    (k3 : PySem.W.keepIn K (.ref f3) = true)
    (a4 : PySem.W.nsIn K mainGlobals "_law_program" = some (some (.ref f4)))
    (l4 : K.lookup f4 = some ⟨oc4, od4, .func (PySem.W.fnOf "_law_program" "_law_program" (defArgs st_program) (defBody st_program) (defScope st_program) .none kV4 dc4 pm4 an4 cd4 ct4), sl4⟩)
    (c4 : PySem.W.codeIn K cd4 "_law_program" = true)
    (k4 : PySem.W.keepIn K (.ref f4) = true)
    (a5 : PySem.W.nsIn K mainGlobals "names_of" = some (some (.ref f5)))
    (l5 : K.lookup f5 = some ⟨oc5, od5, .func (PySem.W.fnOf "names_of" "names_of" (defArgs st_names_of) (defBody st_names_of) (defScope st_names_of) .none kV5 dc5 pm5 an5 cd5 ct5), sl5⟩)
    (c5 : PySem.W.codeIn K cd5 "names_of" = true)
    (k5 : PySem.W.keepIn K (.ref f5) = true)
    (a6 : PySem.W.nsIn K mainGlobals "boxes_of" = some (some (.ref f6)))
    (l6 : K.lookup f6 = some ⟨oc6, od6, .func (PySem.W.fnOf "boxes_of" "boxes_of" (defArgs st_boxes_of) (defBody st_boxes_of) (defScope st_boxes_of) .none kV6 dc6 pm6 an6 cd6 ct6), sl6⟩)
    (c6 : PySem.W.codeIn K cd6 "boxes_of" = true)
    (k6 : PySem.W.keepIn K (.ref f6) = true)
    (a7 : PySem.W.nsIn K mainGlobals "slots_of" = some (some (.ref f7)))
    (l7 : K.lookup f7 = some ⟨oc7, od7, .func (PySem.W.fnOf "slots_of" "slots_of" (defArgs st_slots_of) (defBody st_slots_of) (defScope st_slots_of) .none kV7 dc7 pm7 an7 cd7 ct7), sl7⟩)
    (c7 : PySem.W.codeIn K cd7 "slots_of" = true)
    (k7 : PySem.W.keepIn K (.ref f7) = true)
    (a8 : PySem.W.nsIn K mainGlobals "_law_due" = some (some (.ref f8)))
    (l8 : K.lookup f8 = some ⟨oc8, od8, .func (PySem.W.fnOf "_law_due" "_law_due" (defArgs st_due) (defBody st_due) (defScope st_due) .none kV8 dc8 pm8 an8 cd8 ct8), sl8⟩)
    (c8 : PySem.W.codeIn K cd8 "_law_due" = true)
    (k8 : PySem.W.keepIn K (.ref f8) = true)
    (a9 : PySem.W.nsIn K mainGlobals "law" = some (some (.ref f9)))
    (l9 : K.lookup f9 = some ⟨oc9, od9, .func (PySem.W.fnOf "law" "law" (defArgs st_law) (defBody st_law) (defScope st_law) .none kV9 dc9 pm9 an9 cd9 ct9), sl9⟩)
    (c9 : PySem.W.codeIn K cd9 "law" = true)
    (k9 : PySem.W.keepIn K (.ref f9) = true)
    (z_len : PySem.W.nsIn K mainGlobals "len" = some none)
    (z_range : PySem.W.nsIn K mainGlobals "range" = some none)
    (z_str : PySem.W.nsIn K mainGlobals "str" = some none)
    (z_int : PySem.W.nsIn K mainGlobals "int" = some none)
    (z_tuple : PySem.W.nsIn K mainGlobals "tuple" = some none)
    (z_list : PySem.W.nsIn K mainGlobals "list" = some none)
    (z_dict : PySem.W.nsIn K mainGlobals "dict" = some none)
    (z_set : PySem.W.nsIn K mainGlobals "set" = some none)
    (z_sorted : PySem.W.nsIn K mainGlobals "sorted" = some none)
    (z_isinstance : PySem.W.nsIn K mainGlobals "isinstance" = some none)
    (z_repr : PySem.W.nsIn K mainGlobals "repr" = some none)
    (z_all : PySem.W.nsIn K mainGlobals "all" = some none)
    (z_enumerate : PySem.W.nsIn K mainGlobals "enumerate" = some none)
    (z_zip : PySem.W.nsIn K mainGlobals "zip" = some none)
    (z_ord : PySem.W.nsIn K mainGlobals "ord" = some none)
    (z_min : PySem.W.nsIn K mainGlobals "min" = some none)
    (z_bool : PySem.W.nsIn K mainGlobals "bool" = some none)
    : ∃ fd : FuncData, (∀ (s : Shared) (v : Value), BindsTo s fd ⟨[v], []⟩ [("script", v)]) ∧ ∀ base : Heap, K.In base → base.Ns mainGlobals mg → FnOk l.prog w K mg base CX0 5 fa fd ["script"] (spLaw K) := by
  have e := hfa.symm.trans (PySem.W.mg_of X G a9)
  cases e
  have T : Tb mg := ⟨PySem.W.mg_none_of X G z_len, PySem.W.mg_none_of X G z_range, PySem.W.mg_none_of X G z_str, PySem.W.mg_none_of X G z_int, PySem.W.mg_none_of X G z_tuple, PySem.W.mg_none_of X G z_list, PySem.W.mg_none_of X G z_dict, PySem.W.mg_none_of X G z_set, PySem.W.mg_none_of X G z_sorted, PySem.W.mg_none_of X G z_isinstance, PySem.W.mg_none_of X G z_repr, PySem.W.mg_none_of X G z_all, PySem.W.mg_none_of X G z_enumerate, PySem.W.mg_none_of X G z_zip, PySem.W.mg_none_of X G z_ord, PySem.W.mg_none_of X G z_min, PySem.W.mg_none_of X G z_bool⟩
  have F0 := fun_mk (st := st_fill) l0 c0 k0
  have b0 := F0.binds (ps := ["_law_cell", "_law_at"]) fun _ _ _ _ _ _ us hl => match us, hl with | [_, _], _ => rfl
  have F1 := fun_mk (st := st_next) l1 c1 k1
  have b1 := F1.binds (ps := ["_law_pen", "_law_many"]) fun _ _ _ _ _ _ us hl => match us, hl with | [_, _], _ => rfl
  have F2 := fun_mk (st := st_words) l2 c2 k2
  have b2 := F2.binds (ps := ["_law_pen", "_law_many"]) fun _ _ _ _ _ _ us hl => match us, hl with | [_, _], _ => rfl
  have F3 := fun_mk (st := st_row) l3 c3 k3
  have b3 := F3.binds (ps := ["_law_pen", "_law_names", "_law_boxes", "_law_slots"]) fun _ _ _ _ _ _ us hl => match us, hl with | [_, _, _, _], _ => rfl
  have F4 := fun_mk (st := st_program) l4 c4 k4
  have b4 := F4.binds (ps := ["_law_pen", "_law_most"]) fun _ _ _ _ _ _ us hl => match us, hl with | [_, _], _ => rfl
  have F5 := fun_mk (st := st_names_of) l5 c5 k5
  have b5 := F5.binds (ps := ["program"]) fun _ _ _ _ _ _ us hl => match us, hl with | [_], _ => rfl
  have F6 := fun_mk (st := st_boxes_of) l6 c6 k6
  have b6 := F6.binds (ps := ["program"]) fun _ _ _ _ _ _ us hl => match us, hl with | [_], _ => rfl
  have F7 := fun_mk (st := st_slots_of) l7 c7 k7
  have b7 := F7.binds (ps := ["program"]) fun _ _ _ _ _ _ us hl => match us, hl with | [_], _ => rfl
  have F8 := fun_mk (st := st_due) l8 c8 k8
  have b8 := F8.binds (ps := ["_law_told"]) fun _ _ _ _ _ _ us hl => match us, hl with | [_], _ => rfl
  have F9 := fun_mk (st := st_law) l9 c9 k9
  refine ⟨PySem.W.fnOf "law" "law" (defArgs st_law) (defBody st_law) (defScope st_law) .none kV9 dc9 pm9 an9 cd9 ct9, fun s v => .of_eq rfl, fun base _ _ => ?_⟩
  have C0 : Callee l.prog w K mg base "_law_fill" 1 ["_law_cell", "_law_at"] (spFill) := ⟨⟨f0, _, ok_fill F0 T , PySem.W.mg_of X G a0, k0, b0⟩⟩
  have C1 : Callee l.prog w K mg base "_law_next" 2 ["_law_pen", "_law_many"] (spNext K) := ⟨⟨f1, _, ok_next F1 T C0, PySem.W.mg_of X G a1, k1, b1⟩⟩
  have C2 : Callee l.prog w K mg base "_law_words" 3 ["_law_pen", "_law_many"] (spWords K) := ⟨⟨f2, _, ok_words F2 T C1, PySem.W.mg_of X G a2, k2, b2⟩⟩
  have C3 : Callee l.prog w K mg base "_law_row" 3 ["_law_pen", "_law_names", "_law_boxes", "_law_slots"] (spRow K) := ⟨⟨f3, _, ok_row F3 T C1, PySem.W.mg_of X G a3, k3, b3⟩⟩
  have C4 : Callee l.prog w K mg base "_law_program" 4 ["_law_pen", "_law_most"] (spProgram K) := ⟨⟨f4, _, ok_program F4 T C1 C2 C3, PySem.W.mg_of X G a4, k4, b4⟩⟩
  have C5 : Callee l.prog w K mg base "names_of" 1 ["program"] (spTexts nameL) := ⟨⟨f5, _, ok_names_of F5 T , PySem.W.mg_of X G a5, k5, b5⟩⟩
  have C6 : Callee l.prog w K mg base "boxes_of" 1 ["program"] (spTexts boxL) := ⟨⟨f6, _, ok_boxes_of F6 T , PySem.W.mg_of X G a6, k6, b6⟩⟩
  have C7 : Callee l.prog w K mg base "slots_of" 1 ["program"] (spTexts slotL) := ⟨⟨f7, _, ok_slots_of F7 T , PySem.W.mg_of X G a7, k7, b7⟩⟩
  have C8 : Callee l.prog w K mg base "_law_due" 1 ["_law_told"] (spDue) := ⟨⟨f8, _, ok_due F8 T , PySem.W.mg_of X G a8, k8, b8⟩⟩
  exact ok_law F9 T C4 C5 C6 C7 C8
end Wh
open PySem PySem.W PyProof.Rows in
set_option maxHeartbeats 0 in
theorem PySem.Challenge.cw_whoholds_k02_names_boxes_slots_holds : PySem.Challenge.rw_whoholds_k02_names_boxes_slots.Holds := by
  w_on; o_law; k_head; (case hw => w_witness2)
  k_fill
  refine L2.walk_of (l := PySem.Challenge.rw_whoholds_k02_names_boxes_slots) (n := 63) (k := 5) (x := "script") (CX := fun _ => L2.CX0) (sp := fun w => Wh.spLaw _) rfl (by decide) rfl ⟨rfl, by decide, by decide⟩ (fun w h Y => PySem.W.kIn_of Y) ?F (fun _ _ a ns hl _ hS => ⟨a, ns, rfl, hS, hl, fun _ => rfl⟩) (fun _ _ _ _ _ z => z)
  case F =>
    intro w mg fa h KX G hmg
    refine' Wh.all_mk KX G hmg ?a0 ?l0 ?c0 ?k0 ?a1 ?l1 ?c1 ?k1 ?a2 ?l2 ?c2 ?k2 ?a3 ?l3 ?c3 ?k3 ?a4 ?l4 ?c4 ?k4 ?a5 ?l5 ?c5 ?k5 ?a6 ?l6 ?c6 ?k6 ?a7 ?l7 ?c7 ?k7 ?a8 ?l8 ?c8 ?k8 ?a9 ?l9 ?c9 ?k9 ?z_len ?z_range ?z_str ?z_int ?z_tuple ?z_list ?z_dict ?z_set ?z_sorted ?z_isinstance ?z_repr ?z_all ?z_enumerate ?z_zip ?z_ord ?z_min ?z_bool
    (case a0 => k_is)
    (case l0 => k_is)
    (case c0 => k_is)
    (case k0 => k_is)
    (case a1 => k_is)
    (case l1 => k_is)
    (case c1 => k_is)
    (case k1 => k_is)
    (case a2 => k_is)
    (case l2 => k_is)
    (case c2 => k_is)
    (case k2 => k_is)
    (case a3 => k_is)
    (case l3 => k_is)
    (case c3 => k_is)
    (case k3 => k_is)
    (case a4 => k_is)
    (case l4 => k_is)
    (case c4 => k_is)
    (case k4 => k_is)
    (case a5 => k_is)
    (case l5 => k_is)
    (case c5 => k_is)
    (case k5 => k_is)
    (case a6 => k_is)
    (case l6 => k_is)
    (case c6 => k_is)
    (case k6 => k_is)
    (case a7 => k_is)
    (case l7 => k_is)
    (case c7 => k_is)
    (case k7 => k_is)
    (case a8 => k_is)
    (case l8 => k_is)
    (case c8 => k_is)
    (case k8 => k_is)
    (case a9 => k_is)
    (case l9 => k_is)
    (case c9 => k_is)
    (case k9 => k_is)
    (case z_len => k_is)
    (case z_range => k_is)
    (case z_str => k_is)
    (case z_int => k_is)
    (case z_tuple => k_is)
    (case z_list => k_is)
    (case z_dict => k_is)
    (case z_set => k_is)
    (case z_sorted => k_is)
    (case z_isinstance => k_is)
    (case z_repr => k_is)
    (case z_all => k_is)
    (case z_enumerate => k_is)
    (case z_zip => k_is)
    (case z_ord => k_is)
    (case z_min => k_is)
    (case z_bool => k_is)
