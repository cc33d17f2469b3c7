import PyProof.Rows.All
import Wide.All
import OpenK.AllK
import Wide.FinOn
import HandS.ForMost
import HandS.Deep
import HandS.Zip
import HandS.Conv
import HandS.IsInst
import HandS.Style
import HandS.TupAny
import HandS.Flow
import HandS.Defaults
import KE.DataCmp
import KE.DataMinMax
import KE.DataIsa
import KE.SortData
import KE.SortKeyHeap
import HandS.SortKw
import HandS.Lambda
import HandS.EndTab
import KE.GoesZip
import KE.GoesMore
import HandS.HeadWalk
import KE.KStateDown
import HandS.Ends
import HandS.More
import HandS.Words
import HandS.WordsExc
import HandS.Head0
import HandS.Head1
import HandS.Head2
import HandS.HeadEnd
import HandS.HeadHook1
import HandS.HeadHook2
import HandS.HeadHook3
import HandS.HeadHook4
import PySem.Challenge.RW_boxlayers_k86_whole_papers
set_option Elab.async false
set_option linter.all false
set_option maxRecDepth 100000
/-! A layer of plain data over the hand layer: an expression, a block or a def that only makes new things is told by what its values are as data, and composes without a reading. -/
namespace Bx
open PySem L2 PySem.SeqAt
open PySem.W (alike alikeAll dataLt)

/-! ### what a slot holds -/
/-- data; a dict from ints to data; a class's or def's object is none of these -/
inductive Sl where
  | d (x : PyData)
  | dc (kvs : List (Int × PyData))
  /-- just this value, whatever stands there -/
  | v (x : V)
  /-- an instance of the class at C and what its attributes hold: data, or a dict from ints -/
  | ob (C : Addr) (fs : List (Str × (PyData ⊕ List (Int × PyData))))
abbrev Ev := List (Option Sl)
variable {K : PySem.W.Frag} {H H' H1 H2 : Hp}
theorem sameT {a : Addr} {xs : List V} (e : Same H H') (h : SqT K H a xs) : SqT K H' a xs := by
  rcases h with (h | ⟨o, h⟩) | h
  · exact .inl (.inl (e _ _ h))
  · exact .inl (.inr ⟨o, e _ _ h⟩)
  · exact .inr h
mutual
theorem dpMono (e : Same H H') : ∀ {v : V} {d : PyData}, Dp K H v d → Dp K H' v d
  | _, _, .non => .non
  | _, _, .bl b => .bl b
  | _, _, .int i => .int i
  | _, _, .str x => .str x
  | _, _, .lst s a => .lst (e.seq s) (dpAllMono e a)
  | _, _, .tup s a => .tup (sameT e s) (dpAllMono e a)
theorem dpAllMono (e : Same H H') : ∀ {vs : List V} {ds : List PyData}, DpAll K H vs ds → DpAll K H' vs ds
  | _, _, .nil => .nil
  | _, _, .cons h t => .cons (dpMono e h) (dpAllMono e t)
end
theorem dpAllLen : ∀ {vs : List V} {ds : List PyData}, DpAll K H vs ds → vs.length = ds.length
  | _, _, .nil => rfl
  | _, _, .cons _ t => congrArg (· + 1) (dpAllLen t)
theorem dpAllAt : ∀ {vs : List V} {ds : List PyData}, DpAll K H vs ds → ∀ {i : Nat} {d : PyData}, ds[i]? = some d → ∃ v, vs[i]? = some v ∧ Dp K H v d
  | _, _, .nil, _, _, h => by simp at h
  | _, _, .cons h t, 0, d, e => by
    simp at e
    subst e
    exact ⟨_, rfl, h⟩
  | _, _, .cons h t, i + 1, d, e => by
    obtain ⟨v, h1, h2⟩ := dpAllAt t (i := i) (d := d) (by simpa using e)
    exact ⟨v, by simpa using h1, h2⟩
theorem dpAllAt' : ∀ {vs : List V} {ds : List PyData}, DpAll K H vs ds → ∀ {i : Nat} {v : V}, vs[i]? = some v → ∃ d, ds[i]? = some d ∧ Dp K H v d
  | _, _, .nil, _, _, h => by simp at h
  | _, _, .cons h t, 0, d, e => by
    simp at e
    subst e
    exact ⟨_, rfl, h⟩
  | _, _, .cons h t, i + 1, d, e => by
    obtain ⟨v, h1, h2⟩ := dpAllAt' t (i := i) (v := d) (by simpa using e)
    exact ⟨v, by simpa using h1, h2⟩
theorem dpAllApp : ∀ {vs ws : List V} {ds es : List PyData}, DpAll K H vs ds → DpAll K H ws es → DpAll K H (vs ++ ws) (ds ++ es)
  | _, _, _, _, .nil, h => h
  | _, _, _, _, .cons a t, h => .cons a (dpAllApp t h)
theorem dpAllTake : ∀ {vs : List V} {ds : List PyData} (n : Nat), DpAll K H vs ds → DpAll K H (vs.take n) (ds.take n)
  | _, _, 0, _ => by simpa using DpAll.nil
  | _, _, n + 1, .nil => .nil
  | _, _, n + 1, .cons a t => .cons a (dpAllTake n t)
theorem dpAllDrop : ∀ {vs : List V} {ds : List PyData} (n : Nat), DpAll K H vs ds → DpAll K H (vs.drop n) (ds.drop n)
  | _, _, 0, h => h
  | _, _, n + 1, .nil => .nil
  | _, _, n + 1, .cons a t => dpAllDrop n t
/-- what a value is as data is one thing -/
theorem dpTup {a : Addr} {ds : List PyData} (h : Dp K H (.ref a) (.tuple ds)) : ∃ xs, SqT K H a xs ∧ DpAll K H xs ds := by
  cases h with
  | tup s a => exact ⟨_, s, a⟩
theorem dpLst {a : Addr} {ds : List PyData} (h : Dp K H (.ref a) (.list ds)) : ∃ xs, SqL K H a xs ∧ DpAll K H xs ds := by
  cases h with
  | lst s a => exact ⟨_, s, a⟩
theorem dpTupR {v : V} {ds : List PyData} (h : Dp K H v (.tuple ds)) : ∃ a xs, v = .ref a ∧ SqT K H a xs ∧ DpAll K H xs ds := by
  cases h with
  | tup s a => exact ⟨_, _, rfl, s, a⟩
theorem dpLstR {v : V} {ds : List PyData} (h : Dp K H v (.list ds)) : ∃ a xs, v = .ref a ∧ SqL K H a xs ∧ DpAll K H xs ds := by
  cases h with
  | lst s a => exact ⟨_, _, rfl, s, a⟩
theorem dpInt {v : V} {i : Int} (h : Dp K H v (.int i)) : v = .int i := by cases h; rfl
theorem dpBl {v : V} {i : Bool} (h : Dp K H v (.bool i)) : v = .bl i := by cases h; rfl
theorem dpStr {v : V} {i : Str} (h : Dp K H v (.str i)) : v = .str i := by cases h; rfl
theorem dpNon {v : V} (h : Dp K H v .none) : v = .non := by cases h; rfl
/-- no list in it -/
def noL : PyData → Bool
  | .list _ => false
  | .dict _ => false
  | .tuple ds => noLs ds
  | _ => true
where noLs : List PyData → Bool
  | [] => true
  | d :: ds => noL d && noLs ds
theorem noLs_of {ds : List PyData} (h : ∀ d ∈ ds, noL d = true) : noL.noLs ds = true := by
  induction ds with
  | nil => rfl
  | cons d r ih =>
    show (noL d && noL.noLs r) = true
    rw [h d (List.mem_cons_self ..), ih fun d hd => h d (List.mem_cons_of_mem _ hd)]
    rfl
mutual
/-- data without lists leans on tuples alone -/
theorem dpTups (e : ∀ b xs, (H b = some (.tup xs) → H' b = some (.tup xs)) ∧ ∀ o, H b = some (.frz o (.tup xs)) → H' b = some (.frz o (.tup xs))) : ∀ {v : V} {d : PyData}, noL d = true → Dp K H v d → Dp K H' v d
  | _, _, _, .non => .non
  | _, _, _, .bl b => .bl b
  | _, _, _, .int i => .int i
  | _, _, _, .str x => .str x
  | _, _, h, .lst s a => by cases h
  | _, _, h, .tup s a => .tup (by
      rcases s with (s | ⟨o, s⟩) | s
      · exact .inl (.inl ((e _ _).1 s))
      · exact .inl (.inr ⟨o, (e _ _).2 _ s⟩)
      · exact .inr s) (dpTupsAll e h a)
theorem dpTupsAll (e : ∀ b xs, (H b = some (.tup xs) → H' b = some (.tup xs)) ∧ ∀ o, H b = some (.frz o (.tup xs)) → H' b = some (.frz o (.tup xs))) : ∀ {vs : List V} {ds : List PyData}, noL.noLs ds = true → DpAll K H vs ds → DpAll K H' vs ds
  | _, _, _, .nil => .nil
  | _, _, h, .cons a t => .cons (dpTups e (Bool.and_eq_true_iff.mp (show (_ && _) = true from h)).1 a) (dpTupsAll e (Bool.and_eq_true_iff.mp (show (_ && _) = true from h)).2 t)
end
/-- a store at a list, an object .. leaves data without lists -/
theorem dpStore {L : Addr} {o o' : HO} {v : V} {d : PyData} (hL : H L = some o) (ht : ∀ xs, o ≠ .tup xs) (hz : ∀ u w, o ≠ .frz u w) (n : noL d = true) (h : Dp K H v d) : Dp K (upd H L o') v d :=
  dpTups (fun b xs => ⟨fun e => by
    rw [upd_ne (fun q => by rw [q, hL] at e; exact ht xs (Option.some.inj e))]
    exact e, fun u e => by
    rw [upd_ne (fun q => by rw [q, hL] at e; exact hz u _ (Option.some.inj e))]
    exact e⟩) n h
theorem dpStoreAll {L : Addr} {o o' : HO} {vs : List V} {ds : List PyData} (hL : H L = some o) (ht : ∀ xs, o ≠ .tup xs) (hz : ∀ u w, o ≠ .frz u w) (n : noL.noLs ds = true) (h : DpAll K H vs ds) : DpAll K (upd H L o') vs ds :=
  dpTupsAll (fun b xs => ⟨fun e => by
    rw [upd_ne (fun q => by rw [q, hL] at e; exact ht xs (Option.some.inj e))]
    exact e, fun u e => by
    rw [upd_ne (fun q => by rw [q, hL] at e; exact hz u _ (Option.some.inj e))]
    exact e⟩) n h

theorem sameNew {p : Addr} {o : HO} (h : H p = none) : Same H (upd H p o) := fun b u e => by
  rw [upd_ne (ne_of_none e h)]
  exact e

/-! ### held -/
def DcP (K : PySem.W.Frag) (H : Hp) : List (Int × PyData) → List (Key × V) → Prop := Paired fun p q => q.1 = Sum.inl p.1 ∧ Dp K H q.2 p.2
def HeldF (K : PySem.W.Frag) (H : Hp) (v : V) : PyData ⊕ List (Int × PyData) → Prop
  | .inl x => Dp K H v x
  | .inr kvs => ∃ a ws, v = .ref a ∧ H a = some (.dK ws) ∧ DcP K H kvs ws
def HeldFs (K : PySem.W.Frag) (H : Hp) : List (Str × (PyData ⊕ List (Int × PyData))) → List (Str × V) → Prop := Paired fun g u => u.1 = g.1 ∧ HeldF K H u.2 g.2
def HeldV (K : PySem.W.Frag) (H : Hp) (v : V) : Sl → Prop
  | .ob C fs => ∃ a dx us, v = .ref a ∧ H a = some (.ins C dx us) ∧ HeldFs K H fs us
  | .d x => Dp K H v x
  | .dc kvs => ∃ a ws, v = .ref a ∧ H a = some (.dK ws) ∧ DcP K H kvs ws
  | .v x => v = x
theorem DcP.mono (e : Same H H') {kvs : List (Int × PyData)} {ws : List (Key × V)} (h : DcP K H kvs ws) : DcP K H' kvs ws := Paired.mapP h fun _ _ ⟨a, b⟩ => ⟨a, dpMono e b⟩
theorem HeldF.mono (e : Same H H') {v : V} : ∀ {w : PyData ⊕ List (Int × PyData)}, HeldF K H v w → HeldF K H' v w
  | .inl _, h => dpMono e h
  | .inr _, ⟨a, ws, h1, h2, h3⟩ => ⟨a, ws, h1, e _ _ h2, h3.mono e⟩
theorem HeldFs.mono (e : Same H H') {fs : List (Str × (PyData ⊕ List (Int × PyData)))} {us : List (Str × V)} (h : HeldFs K H fs us) : HeldFs K H' fs us := Paired.mapP h fun _ _ ⟨a, b⟩ => ⟨a, b.mono e⟩
theorem HeldV.mono (e : Same H H') {v : V} : ∀ {w : Sl}, HeldV K H v w → HeldV K H' v w
  | .d _, h => dpMono e h
  | .dc _, ⟨a, ws, h1, h2, h3⟩ => ⟨a, ws, h1, e _ _ h2, h3.mono e⟩
  | .v _, h => h
  | .ob _ _, ⟨a, dx, us, h1, h2, h3⟩ => ⟨a, dx, us, h1, e _ _ h2, h3.mono e⟩
structure Held (K : PySem.W.Frag) (H : Hp) (σ : L2.St) (ρ : Ev) : Prop where
  len : σ.length = ρ.length
  at_ : ∀ (i : Nat) (w : Sl), ρ[i]? = some (some w) → ∃ v, σ[i]? = some (some v) ∧ HeldV K H v w
theorem Held.mono (e : Same H H') {σ : L2.St} {ρ : Ev} (h : Held K H σ ρ) : Held K H' σ ρ := ⟨h.len, fun i w q => let ⟨v, a, b⟩ := h.at_ i w q; ⟨v, a, b.mono e⟩⟩
theorem Held.set {σ : L2.St} {ρ : Ev} (h : Held K H σ ρ) (i : Nat) {v : V} {w : Sl} (q : HeldV K H v w) : Held K H (σ.set i (some v)) (ρ.set i (some w)) := by
  refine ⟨by simpa using h.len, fun j u e => ?_⟩
  by_cases hj : i = j
  · subst hj
    have hi : i < ρ.length := by
      have := (List.getElem?_eq_some_iff.mp e).1
      simpa using this
    rw [List.getElem?_set_self hi] at e
    cases e
    exact ⟨v, List.getElem?_set_self (by rw [h.len]; exact hi), q⟩
  · rw [List.getElem?_set_ne hj] at e ⊢
    exact h.at_ j u e
/-- less is known -/
theorem Held.weak {σ : L2.St} {ρ ρ' : Ev} (h : Held K H σ ρ) (hl : ρ'.length = ρ.length) (w : ∀ (i : Nat) x, ρ'[i]? = some (some x) → ρ[i]? = some (some x)) : Held K H σ ρ' := ⟨h.len.trans hl.symm, fun i x e => h.at_ i x (w i x e)⟩
/-- a slot forgotten -/
theorem Held.setN {σ : L2.St} {ρ : Ev} (h : Held K H σ ρ) (i : Nat) (o : Option V) : Held K H (σ.set i o) (ρ.set i none) := by
  refine ⟨by simpa using h.len, fun j u e => ?_⟩
  by_cases hj : i = j
  · subst hj
    have hi : i < ρ.length := by
      have := (List.getElem?_eq_some_iff.mp e).1
      simpa using this
    rw [List.getElem?_set_self hi] at e
    cases e
  · rw [List.getElem?_set_ne hj] at e ⊢
    exact h.at_ j u e
def HeldVs (K : PySem.W.Frag) (H : Hp) : List V → List Sl → Prop := Paired fun v w => HeldV K H v w
theorem HeldVs.mono (e : Same H H') {vs : List V} {ws : List Sl} (h : HeldVs K H vs ws) : HeldVs K H' vs ws := Paired.mapP h fun _ _ q => q.mono e
theorem held_start : ∀ {vs : List V} {ws : List Sl} {N : List Str}, HeldVs K H vs ws → vs.length ≤ N.length → Held K H (L2.start N vs) (ws.map some ++ List.replicate (N.length - vs.length) none) := by
  intro vs ws N h hl
  have e : vs.length = ws.length := Paired.length h
  refine ⟨by simp [L2.start]; omega, fun i w q => ?_⟩
  by_cases hi : i < ws.length
  · rw [List.getElem?_append_left (by simpa using hi)] at q
    have gt : ∀ {vs : List V} {ws : List Sl}, HeldVs K H vs ws → ∀ (i : Nat) (w : Sl), ws[i]? = some w → ∃ v, vs[i]? = some v ∧ HeldV K H v w := by
      intro vs ws h
      induction h with
      | nil => intro i w q; simp at q
      | cons a t ih =>
        intro i w q
        cases i with
        | zero => simp at q; subst q; exact ⟨_, rfl, a⟩
        | succ i => simpa using ih i w (by simpa using q)
    have q' : ws[i]? = some w := by
      rw [List.getElem?_map] at q
      cases z : ws[i]? with
      | none => rw [z] at q; cases q
      | some u => rw [z] at q; simpa using q
    obtain ⟨v, h1, h2⟩ := gt h i w q'
    refine ⟨v, ?_, h2⟩
    unfold L2.start
    rw [List.getElem?_append_left (by simp; omega), List.getElem?_map, h1]
    rfl
  · rw [List.getElem?_append_right (by simpa using hi)] at q
    have := List.getElem?_eq_some_iff.mp q
    obtain ⟨z, q⟩ := this
    rw [List.getElem_replicate] at q
    cases q

/-! ### readings -/
/-- in the slots ρ the value is w; nothing that stood is touched -/
def tD (K : PySem.W.Frag) (ρ : Ev) (w : Sl) : TE := fun σ H Q => Held K H σ ρ ∧ ∀ v H', Same H H' → HeldV K H' v w → Q v H'
def tDs (K : PySem.W.Frag) (ρ : Ev) (ws : List Sl) : TA := fun σ H Q => Held K H σ ρ ∧ ∀ vs H', Same H H' → HeldVs K H' vs ws → Q vs H'
def tDT (K : PySem.W.Frag) (ρ : Ev) (b : Bool) : TT := fun σ H Q => Held K H σ ρ ∧ ∀ H', Same H H' → Q b H'
/-- how a block ends -/
inductive Out where
  | ret (w : Sl)
  | nxt (ρ : Ev)
  | brk (ρ : Ev)
  | cnt (ρ : Ev)
def Out.want (K : PySem.W.Frag) (D : Ends) (H : Hp) : Out → Prop
  | .ret w => ∀ v H', Same H H' → HeldV K H' v w → D.rt v H'
  | .nxt ρ => ∀ σ H', Same H H' → Held K H' σ ρ → D.nx σ H'
  | .brk ρ => ∀ σ H', Same H H' → Held K H' σ ρ → D.bk σ H'
  | .cnt ρ => ∀ σ H', Same H H' → Held K H' σ ρ → D.ct σ H'
def tDS (K : PySem.W.Frag) (ρ : Ev) (o : Out) : TS := fun D σ H => Held K H σ ρ ∧ o.want K D H
theorem Out.want.mono {D : Ends} (e : Same H H') : ∀ {o : Out}, o.want K D H → o.want K D H'
  | .ret _, h => fun v H2 s q => h v H2 (e.trans s) q
  | .nxt _, h => fun v H2 s q => h v H2 (e.trans s) q
  | .brk _, h => fun v H2 s q => h v H2 (e.trans s) q
  | .cnt _, h => fun v H2 s q => h v H2 (e.trans s) q

section
variable {X : Cx} {e a b c : Expr} {es : List Expr} {t t' : TE} {ρ : Ev} {w u z : Sl} {pos : Pos}
theorem peI (h : PE X e t) (i : ∀ σ H Q, t' σ H Q → t σ H Q) : PE X e t' := ⟨fun pins s σ H Q I q => h.run pins s σ H Q I (i _ _ _ q)⟩
theorem ptI {t t' : TT} (h : PT X e t) (i : ∀ σ H Q, t' σ H Q → t σ H Q) : PT X e t' := ⟨fun pins s σ H Q I q => h.run pins s σ H Q I (i _ _ _ q)⟩
theorem pwI {t t' : TT} (h : PW X e t) (i : ∀ σ H Q, t' σ H Q → t σ H Q) : PW X e t' := ⟨fun wh pins s σ H Q I q => h.run wh pins s σ H Q I (i _ _ _ q)⟩
theorem paI {t t' : TA} (h : PA X es t) (i : ∀ σ H Q, t' σ H Q → t σ H Q) : PA X es t' := ⟨fun p pins s σ H Q I q => h.run p pins s σ H Q I (i _ _ _ q)⟩
theorem psI {st : Stmt} {t t' : TS} (h : PS X st t) (i : ∀ D σ H, t' D σ H → t D σ H) : PS X st t' := ⟨fun pins s σ H Q I q => h.run pins s σ H Q I (i _ _ _ q)⟩
theorem pssI {st : List Stmt} {t t' : TS} (h : PSs X st t) (i : ∀ D σ H, t' D σ H → t D σ H) : PSs X st t' := ⟨fun pins s σ H Q I q => h.run pins s σ H Q I (i _ _ _ q)⟩
/-- the weakest reading -/
def wE (X : Cx) (e : Expr) : TE := fun σ H Q => ∃ t, PE X e t ∧ t σ H Q
theorem pe_w : PE X e (wE X e) := ⟨fun pins s σ H Q I ⟨t, h, q⟩ => h.run pins s σ H Q I q⟩
def wT (X : Cx) (e : Expr) : TT := fun σ H Q => ∃ t, PT X e t ∧ t σ H Q
theorem pt_w : PT X e (wT X e) := ⟨fun pins s σ H Q I ⟨t, h, q⟩ => h.run pins s σ H Q I q⟩
def wS (X : Cx) (st : List Stmt) : TS := fun D σ H => ∃ t, PSs X st t ∧ t D σ H
theorem pss_w {st : List Stmt} : PSs X st (wS X st) := ⟨fun pins s σ H Q I ⟨t, h, q⟩ => h.run pins s σ H Q I q⟩

/-! ### names, constants -/
theorem pd_name {i : Nat} {x : Str} (h : ρ[i]? = some (some w)) (hN : X.N[i]? = some x) (hv : Vis X.env.scope x) (hd : (x == ("__debug__" : Str)) = false) (hcd : (x == ("__classdict__" : Str)) = false) : PE X (.Name x pos) (tD X.K ρ w) :=
  peI (pe_var hN hv hd hcd) fun σ H Q ⟨hh, q⟩ => let ⟨v, h1, h2⟩ := hh.at_ i w h; ⟨v, h1, q v H (Same.refl H) h2⟩
theorem pd_c {v : V} (h : PE X e (tC v)) (q : ∀ H, HeldV X.K H v w) : PE X e (tD X.K ρ w) := peI h fun σ H Q ⟨_, k⟩ => k v H (Same.refl H) (q H)
theorem pd_int {i j} : PE X (.Constant (.int i) j pos) (tD X.K ρ (.d (.int i))) := pd_c pe_int fun _ => Dp.int i
theorem pd_bl {i j} : PE X (.Constant (.bool i) j pos) (tD X.K ρ (.d (.bool i))) := pd_c pe_bl fun _ => Dp.bl i
theorem pd_str {i j} : PE X (.Constant (.str i) j pos) (tD X.K ρ (.d (.str i))) := pd_c pe_str fun _ => Dp.str i
theorem pd_non {j} : PE X (.Constant .none j pos) (tD X.K ρ (.d .none)) := pd_c pe_non fun _ => Dp.non
/-- a constant tuple of the module -/
theorem pd_glob {x : Str} {g : Addr} {xs : List V} {ds : List PyData} (hg : Gl X x) (hm : X.mg x = some (.ref g)) (h : ∀ H, SqT X.K H g xs) (hd : ∀ H, DpAll X.K H xs ds) (hdb : (x == ("__debug__" : Str)) = false := by decide) : PE X (.Name x pos) (tD X.K ρ (.d (.tuple ds))) :=
  pd_c (pe_glob hg hm (v := .ref g) rfl hdb) fun H => Dp.tup (h H) (hd H)

/-! ### operations by values -/
def rD (K : PySem.W.Frag) (a b w : Sl) : R2 := fun x y H Q => HeldV K H x a ∧ HeldV K H y b ∧ ∀ v H', Same H H' → HeldV K H' v w → Q v H'
theorem orI {f : Value → Value → Sem Value} {r r' : R2} (h : OpR X f r) (i : ∀ x y H Q, r' x y H Q → r x y H Q) : OpR X f r' := fun pins s σ H x y v u Q I rx ry q => h pins s σ H x y v u Q I rx ry (i _ _ _ _ q)
theorem crI {f : Value} {r r' : List V → Hp → VK → Prop} (h : CallR X f r) (i : ∀ x H Q, r' x H Q → r x H Q) : CallR X f r' := fun pins s σ H x v Q I rx q => h pins s σ H x v Q I rx (i _ _ _ q)
/-- an operation that leaves the heap and gives data -/
theorem or0 {f : Value → Value → Sem Value} {a b w : Sl} (h : OpR X f fun x y H Q => HeldV X.K H x a ∧ HeldV X.K H y b ∧ ∀ v, HeldV X.K H v w → Q v H) : OpR X f (rD X.K a b w) :=
  orI h fun x y H Q ⟨p, q, k⟩ => ⟨p, q, fun v hv => k v H (Same.refl H) hv⟩
theorem pd_op {op : Operator} (ho : OpR X (binaryOp op) (rD X.K w u z)) (ha : PE X a (tD X.K ρ w)) (hb : PE X b (tD X.K ρ u)) : PE X (.BinOp a op b pos) (tD X.K ρ z) :=
  peI (pe_op ho ha hb) fun σ H Q ⟨h, k⟩ => ⟨h, fun x H1 s1 q1 => ⟨h.mono s1, fun y H2 s2 q2 => ⟨q1.mono s2, q2, fun v H' s3 q3 => k v H' ((s1.trans s2).trans s3) q3⟩⟩⟩
theorem pd_cmp {op : CmpOp} (ho : OpR X (compareOp op) (rD X.K w u z)) (ha : PE X a (tD X.K ρ w)) (hb : PE X b (tD X.K ρ u)) (hm : behindInMarks op b = false) : PE X (.Compare a [op] [b] pos) (tD X.K ρ z) :=
  peI (pe_cmpR ho ha hb hm) fun σ H Q ⟨h, k⟩ => ⟨h, fun x H1 s1 q1 => ⟨h.mono s1, fun y H2 s2 q2 => ⟨q1.mono s2, q2, fun v H' s3 q3 => k v H' ((s1.trans s2).trans s3) q3⟩⟩⟩
theorem pt_b {x : Bool} (h : PE X e (tD X.K ρ (.d (.bool x)))) (he : ∀ whole, isTrue e X.env whole = (do let v ← whole; standAt e.pos; holding [v] (truthy v)) := by intro _; rfl) : PT X e (tDT X.K ρ x) :=
  ptI (pt_val h he) fun σ H Q ⟨hh, k⟩ => ⟨hh, fun v H' s q => ⟨x, dpBl q, k H' s⟩⟩
theorem ptd_cmp {op : CmpOp} {x : Bool} (ho : OpR X (compareOp op) (rD X.K w u (.d (.bool x)))) (ha : PE X a (tD X.K ρ w)) (hb : PE X b (tD X.K ρ u)) (hm : behindInMarks op b = false) : PT X (.Compare a [op] [b] pos) (tDT X.K ρ x) :=
  ptI (pt_cmpR ho ha hb hm) fun σ H Q ⟨h, k⟩ => ⟨h, fun p H1 s1 q1 => ⟨h.mono s1, fun y H2 s2 q2 => ⟨q1.mono s2, q2, fun v H' s3 q3 => ⟨x, dpBl q3, k H' ((s1.trans s2).trans s3)⟩⟩⟩⟩
theorem pd_un {op : UnaryOp} (ho : UnR X (unaryOp op) (fun x H Q => HeldV X.K H x w ∧ ∀ v H', Same H H' → HeldV X.K H' v z → Q v H')) (ha : PE X a (tD X.K ρ w)) : PE X (.UnaryOp op a pos) (tD X.K ρ z) :=
  peI (pe_un ho ha) fun σ H Q ⟨h, k⟩ => ⟨h, fun x H1 s1 q1 => ⟨q1, fun v H' s3 q3 => k v H' (s1.trans s3) q3⟩⟩

/-! ### ints -/
theorem od_i0 {f : Value → Value → Sem Value} {g : Int → Int → V} {i j : Int} {w : Sl} (h : OpR X f (rI0 g)) (q : ∀ H, HeldV X.K H (g i j) w) : OpR X f (rD X.K (.d (.int i)) (.d (.int j)) w) :=
  orI h fun x y H Q ⟨hx, hy, k⟩ => ⟨i, j, dpInt hx, dpInt hy, k _ H (Same.refl H) (q H)⟩
theorem od_i {f : Value → Value → Sem Value} {C : Int → Int → Prop} {g : Int → Int → V} {i j : Int} {w : Sl} (h : OpR X f (rI C g)) (c : C i j) (q : ∀ H, HeldV X.K H (g i j) w) : OpR X f (rD X.K (.d (.int i)) (.d (.int j)) w) :=
  orI h fun x y H Q ⟨hx, hy, k⟩ => ⟨i, j, dpInt hx, dpInt hy, c, k _ H (Same.refl H) (q H)⟩
theorem od_add {i j : Int} : OpR X (binaryOp .Add) (rD X.K (.d (.int i)) (.d (.int j)) (.d (.int (i + j)))) := od_i0 op_add fun _ => Dp.int _
theorem od_sub {i j : Int} : OpR X (binaryOp .Sub) (rD X.K (.d (.int i)) (.d (.int j)) (.d (.int (i - j)))) := od_i0 op_sub fun _ => Dp.int _
theorem od_mul {i j : Int} (c : CMul i j) : OpR X (binaryOp .Mult) (rD X.K (.d (.int i)) (.d (.int j)) (.d (.int (i * j)))) := od_i op_mul c fun _ => Dp.int _
theorem od_fdiv {i j : Int} (c : CDiv i j) : OpR X (binaryOp .FloorDiv) (rD X.K (.d (.int i)) (.d (.int j)) (.d (.int (i / j)))) := od_i op_fdiv c fun _ => Dp.int _
theorem od_mod {i j : Int} (c : 0 < j) : OpR X (binaryOp .Mod) (rD X.K (.d (.int i)) (.d (.int j)) (.d (.int (i % j)))) := od_i op_mod c fun _ => Dp.int _
theorem od_pow {i j : Int} (c : CPow i j) : OpR X (binaryOp .Pow) (rD X.K (.d (.int i)) (.d (.int j)) (.d (.int (i ^ j.toNat)))) := od_i op_pow c fun _ => Dp.int _
theorem od_lt {i j : Int} : OpR X (compareOp .Lt) (rD X.K (.d (.int i)) (.d (.int j)) (.d (.bool (decide (i < j))))) := od_i0 op_lt fun _ => Dp.bl _
theorem od_le {i j : Int} : OpR X (compareOp .LtE) (rD X.K (.d (.int i)) (.d (.int j)) (.d (.bool (decide (i ≤ j))))) := od_i0 op_le fun _ => Dp.bl _
theorem od_gt {i j : Int} : OpR X (compareOp .Gt) (rD X.K (.d (.int i)) (.d (.int j)) (.d (.bool (decide (j < i))))) := od_i0 op_gt fun _ => Dp.bl _
theorem od_ge {i j : Int} : OpR X (compareOp .GtE) (rD X.K (.d (.int i)) (.d (.int j)) (.d (.bool (decide (j ≤ i))))) := od_i0 op_ge fun _ => Dp.bl _
/-- == of data -/
theorem od_eq {x y : PyData} (hu : X.A.units + 64 < cLine) (hx : shaped x = true) (hy : shaped y = true) : OpR X (compareOp .Eq) (rD X.K (.d x) (.d y) (.d (.bool (PyData.eqv x y)))) :=
  orI (op_eqD hu) fun _ _ H Q ⟨p, q, k⟩ => ⟨x, y, p, q, hx, hy, k _ H (Same.refl H) (Dp.bl _)⟩
theorem od_ne {x y : PyData} (hu : X.A.units + 64 < cLine) (hx : shaped x = true) (hy : shaped y = true) : OpR X (compareOp .NotEq) (rD X.K (.d x) (.d y) (.d (.bool (!PyData.eqv x y)))) :=
  orI (op_neD hu) fun _ _ H Q ⟨p, q, k⟩ => ⟨x, y, p, q, hx, hy, k _ H (Same.refl H) (Dp.bl _)⟩
theorem od_eqI {i j : Int} (hu : X.A.units + 64 < cLine) : OpR X (compareOp .Eq) (rD X.K (.d (.int i)) (.d (.int j)) (.d (.bool (decide (i = j))))) := by
  have h := od_eq (X := X) (x := .int i) (y := .int j) hu rfl rfl
  have e : PyData.eqv (.int i) (.int j) = decide (i = j) := by simp only [PyData.eqv]; rw [Bool.eq_iff_iff, beq_iff_eq, decide_eq_true_eq]
  rw [e] at h
  exact h
def isNone : PyData → Bool
  | .none => true
  | _ => false
theorem dpNone {v : V} {x : PyData} (h : Dp K H v x) : decide (v = .non) = isNone x := by
  cases h <;> rfl
theorem od_isN {x : PyData} : OpR X (compareOp .Is) (rD X.K (.d x) (.d .none) (.d (.bool (isNone x)))) :=
  orI op_isN fun _ _ H Q ⟨p, q, k⟩ => ⟨dpNon q, by rw [dpNone p]; exact k _ H (Same.refl H) (Dp.bl _)⟩
theorem od_notN {x : PyData} : OpR X (compareOp .IsNot) (rD X.K (.d x) (.d .none) (.d (.bool (!isNone x)))) :=
  orI op_notN fun _ _ H Q ⟨p, q, k⟩ => ⟨dpNon q, by rw [dpNone p]; exact k _ H (Same.refl H) (Dp.bl _)⟩
theorem od_isB {x y : Bool} : OpR X (compareOp .Is) (rD X.K (.d (.bool x)) (.d (.bool y)) (.d (.bool (decide (x = y))))) :=
  orI op_isBl fun _ _ H Q ⟨p, q, k⟩ => ⟨x, y, dpBl p, dpBl q, k _ H (Same.refl H) (Dp.bl _)⟩
theorem od_notB {x y : Bool} : OpR X (compareOp .IsNot) (rD X.K (.d (.bool x)) (.d (.bool y)) (.d (.bool (!decide (x = y))))) :=
  orI op_notBl fun _ _ H Q ⟨p, q, k⟩ => ⟨x, y, dpBl p, dpBl q, k _ H (Same.refl H) (Dp.bl _)⟩
/-- < and > of data that are alike -/
theorem od_ltD {x y : PyData} (ha : alike x y = true) (hn : x ≠ .none) (hu : X.A.units + min x.depth y.depth < cLine) : OpR X (compareOp .Lt) (rD X.K (.d x) (.d y) (.d (.bool (dataLt x y)))) := by
  intro pins s σ H p q v u Q I rx ry ⟨hp, hq, k⟩
  obtain ⟨as, r1⟩ := Dp.reads I _ _ _ hp rx
  obtain ⟨bs, r2⟩ := Dp.reads I _ _ _ hq ry
  exact PySem.W.lt_data r1 r2 ha hn hu ⟨.bl _, H, I, rfl, k _ H (Same.refl H) (Dp.bl _)⟩
theorem od_gtD {x y : PyData} (ha : alike x y = true) (hn : x ≠ .none) (hu : X.A.units + min x.depth y.depth < cLine) : OpR X (compareOp .Gt) (rD X.K (.d x) (.d y) (.d (.bool (dataLt y x)))) := by
  intro pins s σ H p q v u Q I rx ry ⟨hp, hq, k⟩
  obtain ⟨as, r1⟩ := Dp.reads I _ _ _ hp rx
  obtain ⟨bs, r2⟩ := Dp.reads I _ _ _ hq ry
  exact PySem.W.gt_data r1 r2 ha hn hu ⟨.bl _, H, I, rfl, k _ H (Same.refl H) (Dp.bl _)⟩
theorem ud_neg {i : Int} : UnR X (unaryOp .USub) (fun x H Q => HeldV X.K H x (.d (.int i)) ∧ ∀ v H', Same H H' → HeldV X.K H' v (.d (.int (-i))) → Q v H') :=
  fun pins s σ H x v Q I rx ⟨h, k⟩ => un_neg pins s σ H x v Q I rx ⟨i, dpInt h, k _ H (Same.refl H) (Dp.int _)⟩
end
end Bx
/-! A list that is put aside: what is run meanwhile leaves it, and what is made meanwhile doesn't lean on it. -/
namespace Bx
open PySem L2 PySem.SeqAt
/-- the heap without what stands at L -/
def msk (L : Addr) (H : Hp) : Hp := fun b => if b = L then none else H b
section
variable {L : Addr} {H H' B : Hp} {o : HO} {xs : List V} {K : PySem.W.Frag}
theorem msk_at : msk L H L = none := by unfold msk; rw [if_pos rfl]
theorem msk_ne {b : Addr} (h : b ≠ L) : msk L H b = H b := by unfold msk; rw [if_neg h]
theorem msk_le : Same (msk L H) H := fun b o e => by
  by_cases h : b = L
  · subst h; rw [msk_at] at e; cases e
  · rw [msk_ne h] at e; exact e
theorem upd_msk (h : H L = some o) : upd (msk L H) L o = H := by
  funext b
  by_cases q : b = L
  · subst q; rw [upd_same, h]
  · rw [upd_ne q, msk_ne q]
theorem msk_upd (h : B L = none) : msk L (upd B L o) = B := by
  funext b
  by_cases q : b = L
  · subst q; rw [msk_at, h]
  · rw [msk_ne q, upd_ne q]
theorem msk_upd2 : msk L (upd H L o) = msk L H := by
  funext b
  by_cases q : b = L
  · subst q; rw [msk_at, msk_at]
  · rw [msk_ne q, msk_ne q, upd_ne q]
theorem step_msk {H2 B' : Hp} {u : HO} (hL : H L = some u) (st : (B' = msk L H ∧ H2 = H) ∨ ∃ T o, H T = none ∧ B' = upd (msk L H) T o ∧ H2 = upd H T o) : B' = msk L H2 := by
  rcases st with ⟨rfl, rfl⟩ | ⟨T, o, hT, rfl, rfl⟩
  · rfl
  · have nT : L ≠ T := fun q => by rw [← q, hL] at hT; cases hT
    funext b
    by_cases hb : b = L
    · subst hb; rw [msk_at, upd_ne nT, msk_at]
    · rw [msk_ne hb]
      by_cases hbT : b = T
      · subst hbT; rw [upd_same, upd_same]
      · rw [upd_ne hbT, upd_ne hbT, msk_ne hb]
end
section
variable {X : Cx} {pins : List (Addr × Obj)} {σ : L2.St} {H H' : Hp} {s s' : Shared} {L : Addr} {xs : List V}
/-- the list as it stands in the state -/
def LObj (xs : List V) (o : Obj) : Prop := xs.length ≤ sizeLine ∧ ∃ its n, Vals xs its ∧ o = { cls := .type "list", data := .seq its.toArray n }
theorem objOk_less {P : Program} {w : World} {H' : Hp} {h : Heap} {a : Addr} (ho : ∀ b, H b = some (.own a) → H' b = some (.own a)) (ht : ∀ b xs, H b = some (.tup xs) → H' b = some (.tup xs)) {u : HO} (x : ObjOk P w H h a u) : ObjOk P w H' h a u :=
  x.stay (fun _ _ _ e => e) ho ht
/-- what is never asked of an untracked address -/
theorem Inv.aside (I : Inv X pins σ H s) (hL : H L = some (.lst xs)) : ∃ o, LObj xs o ∧ Inv X (pins ++ [(L, o)]) σ (msk L H) s ∧ (∀ u, X.s_0.heap.get? L = some u → X.H_0 L = none → L ∈ X.ex) ∧ ∀ p ∈ X.pn ++ pins, p.1 ≠ L := by
  obtain ⟨z, its, n, rv, hg⟩ := I.hok L _ hL
  have ne : ∀ {b : Addr} {u : HO}, H b = some u → u ≠ .lst xs → b ≠ L := fun {b u} e d q => by
    rw [q, hL] at e
    exact d (Option.some.inj e).symm
  have nL : L ≠ X.env.locals := fun q => by
    have := I.free
    rw [← q, hL] at this
    cases this
  have h0 : ∀ u, X.s_0.heap.get? L = some u → X.H_0 L = none → L ∈ X.ex := fun u e n => by
    by_cases hx : L ∈ X.ex
    · exact hx
    · have := I.base.free L u e n hx
      rw [hL] at this
      cases this
  refine ⟨_, ⟨z, its, n, rv, rfl⟩, ⟨I.ok, I.os, I.bare, ⟨I.base.keep, I.base.slot, fun b u e n hx => ?_, I.base.there, fun b ys e => ?_, fun b u ys e => ?_, fun b ps e => ?_⟩, I.loc, I.cell, ?_, fun x c e => ?_, fun p hp => ?_, fun b u e => ?_, I.len⟩, h0, fun p hp q => ?_⟩
  · have := I.base.free b u e n hx
    by_cases q : b = L
    · subst q; exact msk_at
    · rw [msk_ne q]; exact this
  · have := I.base.tups b ys e
    rw [msk_ne (ne this (fun q => nomatch q))]
    exact this
  · have := I.base.frzs b u ys e
    rw [msk_ne (ne this (fun q => nomatch q))]
    exact this
  · obtain ⟨more, this⟩ := I.base.tbls b ps e
    exact ⟨more, by rw [msk_ne (ne this (fun q => nomatch q))]; exact this⟩
  · rw [msk_ne nL.symm]; exact I.free
  · have := I.freeC x c e
    rw [msk_ne (fun q => by rw [q, hL] at this; cases this)]
    exact this
  · rw [← List.append_assoc] at hp
    rcases List.mem_append.mp hp with hp | hp
    · obtain ⟨e, n, a, b, d⟩ := I.pin p hp
      exact ⟨e, by rw [msk_ne (fun q => by rw [q, hL] at n; cases n)]; exact n, a, b, d⟩
    · have := List.mem_singleton.mp hp
      subst this
      refine ⟨hg, msk_at, nL, fun hf => ?_, fun v q => nomatch q⟩
      obtain ⟨_, u, hu, _⟩ := I.ok.funs.mem hf
      have := h0 u hu (I.ok.frf L hf)
      exact I.ok.exfs L this hf
  · by_cases q : b = L
    · subst q; rw [msk_at] at e; cases e
    · rw [msk_ne q] at e
      exact objOk_less (fun c hc => by rw [msk_ne (ne hc (fun z => nomatch z))]; exact hc) (fun c ys hc => by rw [msk_ne (ne hc (fun z => nomatch z))]; exact hc) (I.hok b u e)
  · have := (I.pin p hp).2.1
    rw [q, hL] at this
    cases this
theorem Inv.back {o : Obj} (I : Inv X (pins ++ [(L, o)]) σ H s) (hO : LObj xs o) (h0 : ∀ u, X.s_0.heap.get? L = some u → X.H_0 L = none → L ∈ X.ex) (hp0 : ∀ p ∈ X.pn ++ pins, p.1 ≠ L) : H L = none ∧ Inv X pins σ (upd H L (.lst xs)) s := by
  obtain ⟨z, its, n, rv, rfl⟩ := hO
  obtain ⟨hg, hn, nL, _, _⟩ := I.pin (L, _) (List.mem_append_right _ (List.mem_append_right _ (List.mem_singleton.mpr rfl)))
  have ne : ∀ {b : Addr} {u : HO}, H b = some u → b ≠ L := fun {b u} e q => by rw [q, hn] at e; cases e
  refine ⟨hn, ⟨I.ok, I.os, I.bare, ⟨I.base.keep, I.base.slot, fun b u e m hx => ?_, I.base.there, fun b ys e => ?_, fun b u ys e => ?_, fun b ps e => ?_⟩, I.loc, I.cell, ?_, fun x c e => ?_, fun p hp => ?_, fun b u e => ?_, I.len⟩⟩
  · by_cases q : b = L
    · subst q; exact absurd (h0 u e m) hx
    · rw [upd_ne q]; exact I.base.free b u e m hx
  · have := I.base.tups b ys e
    rw [upd_ne (ne this)]; exact this
  · have := I.base.frzs b u ys e
    rw [upd_ne (ne this)]; exact this
  · obtain ⟨more, this⟩ := I.base.tbls b ps e
    exact ⟨more, by rw [upd_ne (ne this)]; exact this⟩
  · rw [upd_ne nL.symm]; exact I.free
  · have hc := I.freeC x c e
    obtain ⟨v, u, hu, hd⟩ := I.cell x c e
    rw [upd_ne (fun q => by
      rw [q] at hu
      have := hg.symm.trans hu
      cases this
      cases hd)]
    exact hc
  · obtain ⟨e, m, a, b, d⟩ := I.pin p (by
      rcases List.mem_append.mp hp with hp | hp
      · exact List.mem_append_left _ hp
      · exact List.mem_append_right _ (List.mem_append_left _ hp))
    exact ⟨e, by rw [upd_ne (hp0 p hp)]; exact m, a, b, d⟩
  · by_cases q : b = L
    · subst q
      rw [upd_same] at e
      cases e
      exact ⟨z, its, n, rv, hg⟩
    · rw [upd_ne q] at e
      exact objOk_less (fun c hc => by rw [upd_ne (ne hc)]; exact hc) (fun c ys hc => by rw [upd_ne (ne hc)]; exact hc) (I.hok b u e)
/-! ### the rules -/
def frE (L : Addr) (t : TE) : TE := fun σ H Q => ∃ xs, H L = some (.lst xs) ∧ t σ (msk L H) fun v H' => H' L = none → Q v (upd H' L (.lst xs))
theorem pe_fr {e : Expr} {t : TE} (h : PE X e t) (L : Addr) : PE X e (frE L t) := by
  refine ⟨fun pins s σ H Q I ⟨xs, hL, q⟩ => ?_⟩
  obtain ⟨o, hO, I1, h0, hp⟩ := Inv.aside I hL
  refine thn (h.run _ s σ _ _ I1 q) fun u s1 ⟨v, H1, I2, r, q1⟩ => ?_
  obtain ⟨hn, I3⟩ := Inv.back I2 hO h0 hp
  exact ⟨v, _, I3, r, q1 hn⟩
def frT (L : Addr) (t : TT) : TT := fun σ H Q => ∃ xs, H L = some (.lst xs) ∧ t σ (msk L H) fun v H' => H' L = none → Q v (upd H' L (.lst xs))
theorem pt_fr {e : Expr} {t : TT} (h : PT X e t) (L : Addr) : PT X e (frT L t) := by
  refine ⟨fun pins s σ H Q I ⟨xs, hL, q⟩ => ?_⟩
  obtain ⟨o, hO, I1, h0, hp⟩ := Inv.aside I hL
  refine thn (h.run _ s σ _ _ I1 q) fun u s1 ⟨H1, I2, q1⟩ => ?_
  obtain ⟨hn, I3⟩ := Inv.back I2 hO h0 hp
  exact ⟨_, I3, q1 hn⟩
theorem pts_fr {ifs : List Expr} {t : TT} (h : PTs X ifs t) (L : Addr) : PTs X ifs (frT L t) := by
  refine ⟨fun pins s σ H Q I ⟨xs, hL, q⟩ => ?_⟩
  obtain ⟨o, hO, I1, h0, hp⟩ := Inv.aside I hL
  refine thn (h.run _ s σ _ _ I1 q) fun u s1 ⟨H1, I2, q1⟩ => ?_
  obtain ⟨hn, I3⟩ := Inv.back I2 hO h0 hp
  exact ⟨_, I3, q1 hn⟩
def frA (L : Addr) (t : TA) : TA := fun σ H Q => ∃ xs, H L = some (.lst xs) ∧ t σ (msk L H) fun v H' => H' L = none → Q v (upd H' L (.lst xs))
theorem pa_fr {es : List Expr} {t : TA} (h : PA X es t) (L : Addr) : PA X es (frA L t) := by
  refine ⟨fun pos pins s σ H Q I ⟨xs, hL, q⟩ => ?_⟩
  obtain ⟨o, hO, I1, h0, hp⟩ := Inv.aside I hL
  refine thn (h.run _ _ s σ _ _ I1 q) fun u s1 ⟨v, H1, I2, r, q1⟩ => ?_
  obtain ⟨hn, I3⟩ := Inv.back I2 hO h0 hp
  exact ⟨v, _, I3, r, q1 hn⟩
def frG (L : Addr) (t : TG) : TG := fun v σ H Q => ∃ xs, H L = some (.lst xs) ∧ t v σ (msk L H) fun σ' H' => H' L = none → Q σ' (upd H' L (.lst xs))
theorem pg_fr {tg : Expr} {t : TG} (h : PG X tg t) (L : Addr) : PG X tg (frG L t) := by
  refine ⟨fun pins s σ H v u Q I r ⟨xs, hL, q⟩ => ?_⟩
  obtain ⟨o, hO, I1, h0, hp⟩ := Inv.aside I hL
  refine thn (h.run _ s σ _ v u _ I1 r q) fun _ s1 ⟨σ1, H1, I2, q1⟩ => ?_
  obtain ⟨hn, I3⟩ := Inv.back I2 hO h0 hp
  exact ⟨σ1, _, I3, q1 hn⟩
def Ends.aside (L : Addr) (xs : List V) (D : Ends) : Ends where
  nx := fun σ H => H L = none → D.nx σ (upd H L (.lst xs))
  rt := fun v H => H L = none → D.rt v (upd H L (.lst xs))
  bk := fun σ H => H L = none → D.bk σ (upd H L (.lst xs))
  ct := fun σ H => H L = none → D.ct σ (upd H L (.lst xs))
def frS (L : Addr) (t : TS) : TS := fun D σ H => ∃ xs, H L = some (.lst xs) ∧ t (Ends.aside L xs D) σ (msk L H)
theorem sp_fr {D : Ends} {o : Obj} {fl : Flow} (hO : LObj xs o) (h0 : ∀ u, X.s_0.heap.get? L = some u → X.H_0 L = none → L ∈ X.ex) (hp : ∀ p ∈ X.pn ++ pins, p.1 ≠ L) (h : SP X (pins ++ [(L, o)]) (Ends.aside L xs D) fl s) : SP X pins D fl s := by
  cases fl with
  | next =>
    obtain ⟨σ', H', I, q⟩ := h
    obtain ⟨hn, I3⟩ := Inv.back I hO h0 hp
    exact ⟨σ', _, I3, q hn⟩
  | brk =>
    obtain ⟨σ', H', I, q⟩ := h
    obtain ⟨hn, I3⟩ := Inv.back I hO h0 hp
    exact ⟨σ', _, I3, q hn⟩
  | cont =>
    obtain ⟨σ', H', I, q⟩ := h
    obtain ⟨hn, I3⟩ := Inv.back I hO h0 hp
    exact ⟨σ', _, I3, q hn⟩
  | ret u =>
    obtain ⟨v, σ', H', I, r, q⟩ := h
    obtain ⟨hn, I3⟩ := Inv.back I hO h0 hp
    exact ⟨v, σ', _, I3, r, q hn⟩
theorem ps_fr {st : Stmt} {t : TS} (h : PS X st t) (L : Addr) : PS X st (frS L t) := by
  refine ⟨fun pins s σ H D I ⟨xs, hL, q⟩ => ?_⟩
  obtain ⟨o, hO, I1, h0, hp⟩ := Inv.aside I hL
  exact thn (h.run _ s σ _ _ I1 q) fun fl s1 q1 => sp_fr hO h0 hp q1
theorem pss_fr {st : List Stmt} {t : TS} (h : PSs X st t) (L : Addr) : PSs X st (frS L t) := by
  refine ⟨fun pins s σ H D I ⟨xs, hL, q⟩ => ?_⟩
  obtain ⟨o, hO, I1, h0, hp⟩ := Inv.aside I hL
  exact thn (h.run _ s σ _ _ I1 q) fun fl s1 q1 => sp_fr hO h0 hp q1
def frI (L : Addr) (t : TI) : TI := fun σ H R => ∃ xs, H L = some (.lst xs) ∧ t σ (msk L H) fun J H' => H' L = none → R J (upd H' L (.lst xs))
theorem pi_fr {tg iter : Expr} {t : TI} (h : PI X tg iter t) (L : Addr) : PI X tg iter (frI L t) := by
  refine ⟨fun pins s σ H R I ⟨xs, hL, q⟩ => ?_⟩
  obtain ⟨o, hO, I1, h0, hp⟩ := Inv.aside I hL
  refine thn (h.run _ s σ _ _ I1 q) fun u s1 h1 => thn h1 fun itv s2 ⟨it, fp, tn, J, H2, e, I2, T, st, f2, q2⟩ => ?_
  obtain ⟨hn, I3⟩ := Inv.back I2 hO h0 hp
  obtain ⟨hg, _⟩ := I2.pin (L, o) (List.mem_append_right _ (List.mem_append_right _ (List.mem_singleton.mpr rfl)))
  refine ⟨it, fp, tn, J, _, e, I3, T, st, fun b hb => ?_, q2 hn⟩
  obtain ⟨a1, a2, a3, a4, a5, a6⟩ := f2 b hb
  have hbL : b ≠ L := fun q => a6 (L, o) (List.mem_append_right _ (List.mem_append_right _ (List.mem_singleton.mpr rfl))) q.symm
  refine ⟨by rw [upd_ne hbL]; exact a1, a2, a3, a4, a5, fun p hp' => a6 p ?_⟩
  rcases List.mem_append.mp hp' with z | z
  · exact List.mem_append_left _ z
  · exact List.mem_append_right _ (List.mem_append_left _ z)
end
end Bx
namespace Bx
open PySem L2 PySem.SeqAt
open PySem.W (alike alikeAll dataLt dataLe EachIs AllAlike Sortable)
variable {K : PySem.W.Frag} {H H' H1 H2 : Hp}
section
variable {X : Cx} {e a b c : Expr} {es : List Expr} {t t' : TE} {ρ : Ev} {w u z : Sl} {pos : Pos}
/-! ### lists of arguments, displays -/
theorem pds_nil : PA X [] (tDs X.K ρ []) := paI pa_nil fun σ H Q ⟨_, k⟩ => k [] H (Same.refl H) .nil
theorem pds_cons {ws : List Sl} (ha : PE X e (tD X.K ρ w)) (hr : PA X es (tDs X.K ρ ws)) (hs : starEach (e :: es) X.env = (false, eval e X.env) :: starEach es X.env := by rfl) : PA X (e :: es) (tDs X.K ρ (w :: ws)) :=
  paI (pa_cons ha hr hs) fun σ H Q ⟨h, k⟩ => ⟨h, fun v H1 s1 q1 => ⟨h.mono s1, fun vs H2 s2 q2 => k (v :: vs) H2 (s1.trans s2) (.cons (q1.mono s2) q2)⟩⟩
theorem heldVs_dp : ∀ {vs : List V} {ds : List PyData}, HeldVs K H vs (ds.map Sl.d) → DpAll K H vs ds
  | _, [], .nil => .nil
  | _, d :: ds, .cons h t => .cons h (heldVs_dp t)
theorem dp_heldVs : ∀ {vs : List V} {ds : List PyData}, DpAll K H vs ds → HeldVs K H vs (ds.map Sl.d)
  | _, _, .nil => .nil
  | _, _, .cons h t => .cons h (dp_heldVs t)
theorem HeldVs.len {vs : List V} {ws : List Sl} (h : HeldVs K H vs ws) : vs.length = ws.length := Paired.length h
theorem pd_tup {x1} {ds : List PyData} (h : PA X es (tDs X.K ρ (ds.map Sl.d))) (hz : ds.length ≤ 100) : PE X (.Tuple es x1 pos) (tD X.K ρ (.d (.tuple ds))) :=
  peI (pe_tup h) fun σ H Q ⟨hh, k⟩ => ⟨hh, fun vs H1 s1 q1 => ⟨by
    have := q1.len
    rw [List.length_map] at this
    rw [this]
    exact Nat.le_trans hz (by decide), fun p hp => k (.ref p) _ (s1.trans (sameNew hp)) (Dp.tup (SqT.of upd_same) (dpAllMono (sameNew hp) (heldVs_dp q1)))⟩⟩
theorem pd_lst {ds : List PyData} (h : PA X es (tDs X.K ρ (ds.map Sl.d))) (hz : ds.length ≤ 100) : PE X (.List es pos) (tD X.K ρ (.d (.list ds))) :=
  peI (pe_lst h) fun σ H Q ⟨hh, k⟩ => ⟨hh, fun vs H1 s1 q1 => ⟨by
    have := q1.len
    rw [List.length_map] at this
    rw [this]
    exact Nat.le_trans hz (by decide), fun p hp => k (.ref p) _ (s1.trans (sameNew hp)) (Dp.lst (SqL.of upd_same) (dpAllMono (sameNew hp) (heldVs_dp q1)))⟩⟩
/-! ### an item, a slice, a sum of two -/
def rowOf : PyData → Option (List PyData)
  | .tuple ds => some ds
  | .list ds => some ds
  | _ => none
theorem dpAllIx {vs : List V} {ds : List PyData} (h : DpAll K H vs ds) {i : Int} {d : PyData} (e : atI ds i = some d) : ∃ v, atI vs i = some v ∧ Dp K H v d := by
  unfold atI at e ⊢
  rw [dpAllLen h]
  cases q : ixN ds.length i with
  | none => rw [q] at e; cases e
  | some j =>
    rw [q] at e
    exact dpAllAt h e
theorem ird_seq {x : PyData} {ds : List PyData} {i : Int} {d : PyData} (hr : rowOf x = some ds) (e : atI ds i = some d) : IxR X (rD X.K (.d x) (.d (.int i)) (.d d)) := by
  intro value slice pins s σ H xx y v u Q I rx ry ⟨hx, hy, k⟩ hs
  have hy' := dpInt hy
  subst hy'
  cases x with
  | tuple es =>
    cases hr
    obtain ⟨a, xs, rfl, h1, h2⟩ := dpTupR hx
    obtain ⟨v, q1, q2⟩ := dpAllIx h2 e
    exact ix_tup value slice pins s σ H _ _ _ u Q I rx ry ⟨a, xs, i, v, rfl, rfl, h1, q1, k v H (Same.refl H) q2⟩ hs
  | list es =>
    cases hr
    obtain ⟨a, xs, rfl, h1, h2⟩ := dpLstR hx
    obtain ⟨v, q1, q2⟩ := dpAllIx h2 e
    exact ix_list value slice pins s σ H _ _ _ u Q I rx ry ⟨a, xs, i, v, rfl, rfl, h1, q1, k v H (Same.refl H) q2⟩ hs
  | _ => cases hr
theorem pd_ix {x : PyData} {ds : List PyData} {i : Int} {d : PyData} (hr : rowOf x = some ds) (e : atI ds i = some d) (ha : PE X a (tD X.K ρ (.d x))) (hb : PE X b (tD X.K ρ (.d (.int i)))) (hs : PlainIx b) : PE X (.Subscript a b pos) (tD X.K ρ (.d d)) :=
  peI (pe_ix (ird_seq (X := X) hr e) ha hb hs) fun σ H Q ⟨h, k⟩ => ⟨h, fun x H1 s1 q1 => ⟨h.mono s1, fun y H2 s2 q2 => ⟨q1.mono s2, q2, fun v H' s3 q3 => k v H' ((s1.trans s2).trans s3) q3⟩⟩⟩
/-- the items of x[lo:hi] -/
def cutD {α : Type} (xs : List α) (lo hi : Option Int) : List α := (xs.drop (HT.sIx xs.length 0 lo)).take (HT.sIx xs.length xs.length hi - HT.sIx xs.length 0 lo)
theorem dpAllCut {vs : List V} {ds : List PyData} (h : DpAll K H vs ds) (lo hi : Option Int) : DpAll K H (cutV vs lo hi) (cutD ds lo hi) := by
  unfold cutV cutD
  rw [dpAllLen h]
  exact dpAllTake _ (dpAllDrop _ h)
def PDO (X : Cx) (ρ : Ev) (e : Option Expr) (i : Option Int) : Prop := PO X e fun σ H Q => Held X.K H σ ρ ∧ ∀ H', Same H H' → Q i H'
theorem pdo_none : PDO X ρ none none := by
  have h := po_none (X := X)
  refine ⟨fun pins s σ H Q I q => h.run pins s σ H Q I ?_⟩
  exact q.2 H (Same.refl H)
theorem pdo_some {i : Int} (ha : PE X e (tD X.K ρ (.d (.int i)))) : PDO X ρ (some e) (some i) := by
  have h := po_some ha
  refine ⟨fun pins s σ H Q I q => h.run pins s σ H Q I ?_⟩
  exact ⟨q.1, fun v H' s1 q1 => ⟨i, dpInt q1, q.2 H' s1⟩⟩
theorem pd_slT {ds : List PyData} {lo hi : Option Expr} {l h : Option Int} {p2 : Pos} (he : PE X e (tD X.K ρ (.d (.tuple ds)))) (hl : PDO X ρ lo l) (hu : PDO X ρ hi h) : PE X (.Subscript e (.Slice lo hi none p2) pos) (tD X.K ρ (.d (.tuple (cutD ds l h)))) :=
  peI (pe_slice sl_tupA he hl hu) fun σ H Q ⟨hh, k⟩ => ⟨hh, fun v H1 s1 q1 => ⟨hh.mono s1, fun H2 s2 => ⟨hh.mono (s1.trans s2), fun H3 s3 => by
    obtain ⟨a, xs, rfl, h1, h2⟩ := dpTupR (q1.mono (s2.trans s3))
    have ss := (s1.trans s2).trans s3
    refine ⟨a, xs, rfl, h1, fun hw => ?_, fun hw p hp => ?_⟩
    · have e1 : cutV xs l h = xs := by
        unfold cutV
        rw [hw.1, hw.2]
        simp
      have := dpAllCut h2 l h
      rw [e1] at this
      exact k (.ref a) H3 ss (Dp.tup h1 this)
    · exact k (.ref p) _ (ss.trans (sameNew hp)) (Dp.tup (SqT.of upd_same) (dpAllMono (sameNew hp) (dpAllCut h2 l h)))⟩⟩⟩
theorem pd_slL {ds : List PyData} {lo hi : Option Expr} {l h : Option Int} {p2 : Pos} (he : PE X e (tD X.K ρ (.d (.list ds)))) (hl : PDO X ρ lo l) (hu : PDO X ρ hi h) : PE X (.Subscript e (.Slice lo hi none p2) pos) (tD X.K ρ (.d (.list (cutD ds l h)))) :=
  peI (pe_slice sl_list he hl hu) fun σ H Q ⟨hh, k⟩ => ⟨hh, fun v H1 s1 q1 => ⟨hh.mono s1, fun H2 s2 => ⟨hh.mono (s1.trans s2), fun H3 s3 => by
    obtain ⟨a, xs, rfl, h1, h2⟩ := dpLstR (q1.mono (s2.trans s3))
    exact ⟨a, xs, rfl, h1, fun p hp => k (.ref p) _ (((s1.trans s2).trans s3).trans (sameNew hp)) (Dp.lst (SqL.of upd_same) (dpAllMono (sameNew hp) (dpAllCut h2 l h)))⟩⟩⟩⟩
theorem dpAllNil {vs : List V} {ds : List PyData} (h : DpAll K H vs ds) : vs = [] ↔ ds = [] := by
  cases h <;> simp
theorem od_catT {ds es : List PyData} (hz : ds.length + es.length ≤ 100000) : OpR X (binaryOp .Add) (rD X.K (.d (.tuple ds)) (.d (.tuple es)) (.d (.tuple (ds ++ es)))) :=
  orI op_catA fun x y H Q ⟨hx, hy, k⟩ => by
    obtain ⟨a, xs, rfl, h1, h2⟩ := dpTupR hx
    obtain ⟨b, ys, rfl, h3, h4⟩ := dpTupR hy
    have hzz : xs.length + ys.length ≤ sizeLine := by
      rw [dpAllLen h2, dpAllLen h4, sizeLine_eq]
      omega
    refine ⟨a, b, xs, ys, rfl, rfl, h1, h3, hzz, fun q => ?_, fun _ q => ?_, fun _ _ p hp => ?_⟩
    · have := (dpAllNil h2).mp q
      subst this
      exact k _ H (Same.refl H) hy
    · have := (dpAllNil h4).mp q
      subst this
      rw [List.append_nil] at k
      exact k _ H (Same.refl H) hx
    · exact k _ _ (sameNew hp) (Dp.tup (SqT.of upd_same) (dpAllMono (sameNew hp) (dpAllApp h2 h4)))
theorem od_catL {ds es : List PyData} (hz : ds.length + es.length ≤ 100000) : OpR X (binaryOp .Add) (rD X.K (.d (.list ds)) (.d (.list es)) (.d (.list (ds ++ es)))) := by
  intro pins s σ H x y v u Q I rx ry ⟨hx, hy, k⟩
  obtain ⟨a, xs, rfl, h1, h2⟩ := dpLstR hx
  obtain ⟨b, ys, rfl, h3, h4⟩ := dpLstR hy
  have hzz : xs.length + ys.length ≤ sizeLine := by
    rw [dpAllLen h2, dpAllLen h4, sizeLine_eq]
    omega
  cases rx
  cases ry
  obtain ⟨its, r1, p1, _⟩ := I.list h1
  obtain ⟨its2, r2, p2, _⟩ := I.list h3
  obtain ⟨⟨cls, dd, data, sl⟩, ho, hc, n, hd⟩ := p1.isList
  obtain ⟨⟨cls2, dd2, data2, sl2⟩, ho2, hc2, n2, hd2⟩ := p2.isList
  simp only at hc hd hc2 hd2
  subst hc hd hc2 hd2
  have e : its.toArray ++ its2.toArray = (its ++ its2).toArray := by simp
  have hl1 := r1.length
  have hl2 := r2.length
  refine PySem.concat_meets ⟨_, ho, rfl⟩ ⟨_, ho2, rfl⟩ PySem.noFill_list_add PySem.seq_list_add PySem.F.slot_list_add PySem.F.entry_list_add (PySem.F.args_list_add_2 _ _) (PyProof.Rows.list_addW a b its.toArray its2.toArray n n2 dd dd2 sl sl2 (by simp only [List.size_toArray]; omega)) ⟨ho, ho2, ?_⟩
  rw [e]
  have hf : H s.heap.objs.size = none := I.hok.fresh (Nat.le_refl _)
  exact ⟨.ref s.heap.objs.size, upd H s.heap.objs.size (.lst (xs ++ ys)), I.laid (t' := s.toks) (o := .lst (xs ++ ys)) (fun b ob q => Heap.get?_push_of_some _ q) (Nat.le_refl _) ⟨by rw [List.length_append]; exact hzz, _, 0, r1.append r2, Heap.get?_push_size _ rfl⟩, rfl, k _ _ (sameNew hf) (Dp.lst (SqL.of upd_same) (dpAllMono (sameNew hf) (dpAllApp h2 h4)))⟩
end
end Bx
/-! max of three -/
namespace Bx3
open PySem PySem.W
variable {prog : Program} {w : World} {A : Around} {E : Value → Shared → Prop} {s : Shared}
theorem argsMax3 (a b c : Value) : argsOk "max" ⟨[a, b, c], []⟩ := by unfold argsOk; kernel_rfl
theorem max3 {a b c : Int} {t u v : Tok} {Q : Value → Shared → Prop} (hh : A.handled = none) (hu : A.units + 8 < cLine)
    (h : ∀ (h' : Heap) (tk : Nat) (x : Tok), (∀ b o, s.heap.get? b = some o → h'.get? b = some o) → Q (.int (max a (max b c)) x) { s with heap := h', toks := tk }) :
    wpAny (model prog w) A (call (.builtin "max") [.int a t, .int b u, .int c v]) Q E s := by
  refine call_function_tree F.kind_max F.plain_max F.entry_max (argsMax3 _ _ _) ?_
  show wpAny (model prog w) A.in1 (Builtin.Builtins.bindParams "max" ["key", "default"] 0 ⟨[], []⟩ >>= _) _ _ s
  have noKw : Builtin.Builtins.bindParams "max" ["key", "default"] 0 ⟨[], []⟩ = pure [none, none] := rfl
  refine wpAny_bind (wpAny_of_eq noKw ?_)
  show wpAny (model prog w) A.in1 (newTuple [.int a t, .int b u, .int c v] >>= _) _ _ s
  refine wpAny_bind (wpAny_newObj_type ?_)
  have hT : (s.heap.push { cls := .type "tuple", data := .seq #[.int a t, .int b u, .int c v] }).IsTuple s.heap.objs.size #[.int a t, .int b u, .int c v] := ⟨_, Heap.get?_push_size _ rfl, rfl, 0, rfl⟩
  have hr : ReadsAll (s.heap.push { cls := .type "tuple", data := .seq #[.int a t, .int b u, .int c v] }) (#[Value.int a t, .int b u, .int c v] : Array Value).toList [.int a, .int b, .int c] _ := .cons (.int a t) (.cons (.int b u) (.cons (.int c v) .nil))
  have hal : AlikeAll [PyData.int a, .int b, .int c] := ⟨fun x hx y hy => by
    simp only [List.mem_cons, List.not_mem_nil, or_false] at hx hy
    rcases hx with rfl | rfl | rfl <;> rcases hy with rfl | rfl | rfl <;> rfl, fun x hx => by
    simp only [List.mem_cons, List.not_mem_nil, or_false] at hx
    rcases hx with rfl | rfl | rfl <;> exact fun q => nomatch q⟩
  refine wpAny_bind (iter_tupleW (A := A.in1) hh hT fun s₂ e W st hfp hw hk => ?_)
  refine wpAny_bind (wpAny_newObj_type ?_)
  have big : s₂.heap.objs.size ∉ [(s.heap.push { cls := .type "tuple", data := .seq #[Value.int a t, .int b u, .int c v] }).objs.size, s.heap.objs.size] := fun hm => absurd (hfp _ hm) (Nat.lt_irrefl _)
  rw [show (toString "max" ++ toString ".loop" : String) = "max.loop" by decide]
  refine wpAny_pure ⟨plainId_quiet F.plain_max_loop _, codeAny_max_loop_firstH W _ hw _ (cmpIn_gt (s := { s with heap := s.heap.push { cls := .type "tuple", data := .seq #[.int a t, .int b u, .int c v] } }) (A := A.in1) hr hal (by show A.units + 1 + (max 0 (max 0 (max 0 0))) < _; omega)) s₂.heap.objs.size big (fresh_in hk) _ (by show 0 < 3; decide) (fun b o e => Heap.get?_push_of_some _ (hk b o e)) (W.frame 0 s₂ _ s₂.toks st (Nat.le_refl _) fun b _ o e => Heap.get?_push_of_some _ e) (Heap.get?_push_size _ rfl) fun r s' hP hm => ?_⟩
  obtain ⟨h', tk, rfl, hk'⟩ := moved_old e rfl (Moved.drop_new (tk := s₂.toks) hm (Nat.le_refl _))
  have e2 := (argBest_fold (fun a b => dataLt b a) PyData.none (.int a) [.int b, .int c] 2 (Nat.le_refl _)).2
  obtain ⟨bs, rr, _, _, _⟩ := readsAll_atA hr _ r hP
  have e1 : ([PyData.int a, .int b, .int c] : List PyData).getD (argBest (fun i j => dataLt (([PyData.int a, .int b, .int c] : List PyData).getD j .none) (([PyData.int a, .int b, .int c] : List PyData).getD i .none)) 2) .none = maxD (.int a) [.int b, .int c] := e2
  have e3 : maxD (.int a) [.int b, .int c] = .int (max a (max b c)) := by
    rw [show ([.int b, .int c] : List PyData) = ([b, c] : List Int).map .int from rfl, maxD_ints]
    show PyData.int (max (max a b) c) = _
    rw [Int.max_assoc]
  have rr' : Reads (s.heap.push { cls := .type "tuple", data := .seq #[.int a t, .int b u, .int c v] }) r (.int (max a (max b c))) bs := by
    rw [← e3, ← e1]
    exact rr
  cases rr' with
  | int _ x => exact h h' tk x fun b o eb => hk' b o (Heap.get?_push_of_some _ eb)
end Bx3
namespace Bx
open PySem L2 PySem.SeqAt
open PySem.W (alike alikeAll dataLt dataLe EachIs AllAlike Sortable)
variable {K : PySem.W.Frag} {H H' H1 H2 : Hp}
/-! ### what is walked -/
/-- nothing is new, or one object, in both heaps -/
def Step (B H B' H' : Hp) : Prop := (B' = B ∧ H' = H) ∨ ∃ T o, H T = none ∧ B' = upd B T o ∧ H' = upd H T o
theorem Step.h {B B' : Hp} (s : Step B H B' H') : Same H H' := by
  rcases s with ⟨_, rfl⟩ | ⟨T, o, h, _, rfl⟩
  · exact Same.refl _
  · exact sameNew h
theorem Step.b {B B' : Hp} (s : Step B H B' H') (q : Same B H) : Same B B' := by
  rcases s with ⟨rfl, _⟩ | ⟨T, o, h, rfl, _⟩
  · exact Same.refl _
  · exact sameNew (q.free h)
theorem Step.bh {B B' : Hp} (s : Step B H B' H') (q : Same B H) : Same B' H' := by
  rcases s with ⟨rfl, rfl⟩ | ⟨T, o, h, rfl, rfl⟩
  · exact q
  · intro b u e
    by_cases hb : b = T
    · subst hb
      rw [upd_same] at e ⊢
      exact e
    · rw [upd_ne hb] at e ⊢
      exact q b u e
theorem Step.same {B' : Hp} (s : Step H H B' H') : B' = H' := by
  rcases s with ⟨rfl, rfl⟩ | ⟨T, o, h, rfl, rfl⟩ <;> rfl
/-- the data that come, one a turn, wherever all of B stands -/
structure Its (K : PySem.W.Frag) (J : It) (B : Hp) (ds : List PyData) : Prop where
  go : ∀ (i : Nat) H, Same B H → i < ds.length → J.go i H
  stop : ∀ H, Same B H → J.stop ds.length H
  yld : ∀ (i : Nat) H x H' B', Same B B' → Same B' H → J.yld i H x H' → ∀ d, ds[i]? = some d → ∃ B2, Step B' H B2 H' ∧ Dp K B2 x d
theorem Its.mono {J : It} {B B' : Hp} {ds : List PyData} (h : Its K J B ds) (s : Same B B') : Its K J B' ds :=
  ⟨fun i H q => h.go i H (s.trans q), fun H q => h.stop H (s.trans q), fun i H x H' B2 q => h.yld i H x H' B2 (s.trans q)⟩
def tI (K : PySem.W.Frag) (ρ : Ev) (ds : List PyData) : TI := fun σ H R => Held K H σ ρ ∧ ∀ J H1, Same H H1 → Its K J H1 ds → R J H1
section
variable {X : Cx} {tg e e2 iter : Expr} {ρ : Ev} {ds es : List PyData} {pos : Pos}
theorem piI {wi wi' : TI} (h : PI X tg iter wi) (i : ∀ σ H R, wi' σ H R → wi σ H R) : PI X tg iter wi' := ⟨fun pins s σ H R I q => h.run pins s σ H R I (i _ _ _ q)⟩
theorem its_list {a : Addr} {xs : List V} (h1 : SqL K H a xs) (h2 : DpAll K H xs ds) : Its K (Itl K a) H ds := by
  have hl := dpAllLen h2
  refine ⟨fun i H2 s hi => ?_, fun H2 s => ⟨xs, s.seq h1, by omega⟩, fun i H2 x H' B2 s q ⟨e, y⟩ d hd => ?_⟩
  · have : i < xs.length := by omega
    exact ⟨xs, xs[i], s.seq h1, by simp [this]⟩
  · subst e
    obtain ⟨v, q1, q2⟩ := dpAllAt h2 hd
    have := y xs ((s.trans q).seq h1)
    rw [q1] at this
    cases this
    exact ⟨B2, .inl ⟨rfl, rfl⟩, dpMono s q2⟩
theorem its_tup {a : Addr} {xs : List V} (h1 : SqT K H a xs) (h2 : DpAll K H xs ds) : Its K (Itt K a) H ds := by
  have hl := dpAllLen h2
  refine ⟨fun i H2 s hi => ?_, fun H2 s => ⟨xs, sameT s h1, by omega⟩, fun i H2 x H' B2 s q ⟨e, y⟩ d hd => ?_⟩
  · have : i < xs.length := by omega
    exact ⟨xs, xs[i], sameT s h1, by simp [this]⟩
  · subst e
    obtain ⟨v, q1, q2⟩ := dpAllAt h2 hd
    have := y xs (sameT (s.trans q) h1)
    rw [q1] at this
    cases this
    exact ⟨B2, .inl ⟨rfl, rfl⟩, dpMono s q2⟩
theorem pid_list (h : PE X e (tD X.K ρ (.d (.list ds)))) : PI X tg e (tI X.K ρ ds) :=
  piI (pi_list h) fun σ H R ⟨hh, k⟩ => ⟨hh, fun v H1 s q => by
    obtain ⟨a, xs, rfl, h1, h2⟩ := dpLstR q
    exact ⟨a, rfl, ⟨xs, h1⟩, k _ _ s (its_list h1 h2)⟩⟩
theorem pid_tup (h : PE X e (tD X.K ρ (.d (.tuple ds)))) : PI X tg e (tI X.K ρ ds) :=
  piI (pi_tup h) fun σ H R ⟨hh, k⟩ => ⟨hh, fun v H1 s q => by
    obtain ⟨a, xs, rfl, h1, h2⟩ := dpTupR q
    exact ⟨a, rfl, ⟨xs, h1⟩, k _ _ s (its_tup h1 h2)⟩⟩
def rngD (n : Nat) : List PyData := (List.range n).map fun (i : Nat) => PyData.int (i : Int)
theorem pid_range {p : Pos} {n : Nat} (hg : Gl X "range") (hm : X.mg "range" = none) (ha : PE X e (tD X.K ρ (.d (.int n)))) (hn : n < 2 ^ 62) (hs : starEach [e] X.env = [(false, eval e X.env)] := by rfl) : PI X tg (.Call (.Name "range" p) [e] [] pos) (tI X.K ρ (rngD n)) :=
  piI (pi_range1 hg hm (pa_cons ha pa_nil hs) hs) fun σ H R ⟨hh, k⟩ => ⟨hh, fun v H1 s q => by
    have := dpInt q
    subst this
    refine ⟨(n : Int), rfl, by omega, by omega, k _ _ s ⟨fun i H2 _ hi => ?_, fun H2 _ => ?_, fun i H2 x H' B2 _ _ ⟨e1, e2⟩ d hd => ?_⟩⟩
    · simp only [rngD, List.length_map, List.length_range] at hi
      show i < ((n : Int) - 0).toNat
      omega
    · simp only [rngD, List.length_map, List.length_range]
      show ((n : Int) - 0).toNat ≤ n
      omega
    · subst e1 e2
      have hl : i < n := by
        have := (List.getElem?_eq_some_iff.mp hd).1
        simpa [rngD] using this
      simp [rngD, hl] at hd
      subst hd
      refine ⟨B2, .inl ⟨rfl, rfl⟩, ?_⟩
      rw [Int.zero_add]
      exact Dp.int _⟩
/-- zip -/
def zipD (ds es : List PyData) : List PyData := List.zipWith (fun x y => PyData.tuple [x, y]) ds es
theorem zipD_at {i : Nat} {d : PyData} (h : (zipD ds es)[i]? = some d) : ∃ x y, ds[i]? = some x ∧ es[i]? = some y ∧ d = .tuple [x, y] := by
  unfold zipD at h
  rw [List.getElem?_zipWith] at h
  cases hx : ds[i]? with
  | none => rw [hx] at h; simp at h
  | some x =>
    cases hy : es[i]? with
    | none => rw [hx, hy] at h; simp at h
    | some y =>
      rw [hx, hy] at h
      exact ⟨x, y, rfl, rfl, by simpa using h.symm⟩
theorem dpPair {x y : V} {T : Addr} {dx dy : PyData} (hT : H T = none) (h1 : Dp K H x dx) (h2 : Dp K H y dy) : Dp K (upd H T (.tup [x, y])) (.ref T) (.tuple [dx, dy]) :=
  .tup (SqT.of upd_same) (.cons (dpMono (sameNew hT) h1) (.cons (dpMono (sameNew hT) h2) .nil))
theorem its_zipL {a b : Addr} {xs ys : List V} (h1 : SqL K H a xs) (h2 : DpAll K H xs ds) (h3 : SqL K H b ys) (h4 : DpAll K H ys es) : Its K (Itz K a b) H (zipD ds es) := by
  have l1 := dpAllLen h2
  have l2 := dpAllLen h4
  have hz : (zipD ds es).length = min ds.length es.length := by simp [zipD]
  refine ⟨fun i H2 s hi => ?_, fun H2 s => ⟨xs, ys, s.seq h1, s.seq h3, by omega⟩, fun i H2 x H' B2 s qq q d hd => ?_⟩
  · have i1 : i < xs.length := by omega
    have i2 : i < ys.length := by omega
    exact ⟨xs, ys, xs[i], ys[i], s.seq h1, s.seq h3, by simp [i1], by simp [i2]⟩
  · obtain ⟨T, x', y', rfl, hT, rfl, f1, f2⟩ := q
    obtain ⟨dx, dy, e1, e2, rfl⟩ := zipD_at hd
    obtain ⟨v, q1, q2⟩ := dpAllAt h2 e1
    obtain ⟨v', q3, q4⟩ := dpAllAt h4 e2
    have z1 := f1 xs ((s.trans qq).seq h1)
    have z2 := f2 ys ((s.trans qq).seq h3)
    rw [q1] at z1
    rw [q3] at z2
    cases z1
    cases z2
    exact ⟨_, .inr ⟨T, _, hT, rfl, rfl⟩, dpPair (qq.free hT) (dpMono s q2) (dpMono s q4)⟩
theorem its_zipT {a b : Addr} {xs ys : List V} (h1 : SqT K H a xs) (h2 : DpAll K H xs ds) (h3 : SqT K H b ys) (h4 : DpAll K H ys es) : Its K (RZ.ItzT K a b) H (zipD ds es) := by
  have l1 := dpAllLen h2
  have l2 := dpAllLen h4
  have hz : (zipD ds es).length = min ds.length es.length := by simp [zipD]
  refine ⟨fun i H2 s hi => ?_, fun H2 s => ⟨xs, ys, sameT s h1, sameT s h3, by omega⟩, fun i H2 x H' B2 s qq q d hd => ?_⟩
  · have i1 : i < xs.length := by omega
    have i2 : i < ys.length := by omega
    exact ⟨xs, ys, xs[i], ys[i], sameT s h1, sameT s h3, by simp [i1], by simp [i2]⟩
  · obtain ⟨T, x', y', rfl, hT, rfl, f1, f2⟩ := q
    obtain ⟨dx, dy, e1, e2, rfl⟩ := zipD_at hd
    obtain ⟨v, q1, q2⟩ := dpAllAt h2 e1
    obtain ⟨v', q3, q4⟩ := dpAllAt h4 e2
    have z1 := f1 xs (sameT (s.trans qq) h1)
    have z2 := f2 ys (sameT (s.trans qq) h3)
    rw [q1] at z1
    rw [q3] at z2
    cases z1
    cases z2
    exact ⟨_, .inr ⟨T, _, hT, rfl, rfl⟩, dpPair (qq.free hT) (dpMono s q2) (dpMono s q4)⟩
section
variable {p tpos : Pos} {elts : List Expr} {kk : Nat}
theorem pid_zipL (hg : Gl X "zip") (hm : X.mg "zip" = none) (h1 : PE X e (tD X.K ρ (.d (.list ds)))) (h2 : PE X e2 (tD X.K ρ (.d (.list es)))) (hs : starEach [e, e2] X.env = (false, eval e X.env) :: starEach [e2] X.env := by rfl) (hs2 : starEach [e2] X.env = (false, eval e2 X.env) :: starEach [] X.env := by rfl)
    (hpl : (backTo pos (starEach [e2] X.env)).any (·.1) = false := by rfl) : PI X (.Tuple elts kk tpos) (.Call (.Name "zip" p) [e, e2] [] pos) (tI X.K ρ (zipD ds es)) :=
  piI (RZ.pi_zipA hg hm (pa_cons h1 (pa_cons h2 pa_nil hs2) hs) hs hpl) fun σ H R ⟨hh, k⟩ => ⟨hh, fun v H1 s1 q1 => ⟨hh.mono s1, fun v2 H2 s2 q2 => by
    obtain ⟨a, xs, rfl, p1, p2⟩ := dpLstR (q1.mono s2)
    obtain ⟨b, ys, rfl, p3, p4⟩ := dpLstR q2
    exact ⟨a, b, xs, ys, rfl, .inl ⟨p1, p3, k _ _ (s1.trans s2) (its_zipL p1 p2 p3 p4)⟩⟩⟩⟩
theorem pid_zipT (hg : Gl X "zip") (hm : X.mg "zip" = none) (h1 : PE X e (tD X.K ρ (.d (.tuple ds)))) (h2 : PE X e2 (tD X.K ρ (.d (.tuple es)))) (hs : starEach [e, e2] X.env = (false, eval e X.env) :: starEach [e2] X.env := by rfl) (hs2 : starEach [e2] X.env = (false, eval e2 X.env) :: starEach [] X.env := by rfl)
    (hpl : (backTo pos (starEach [e2] X.env)).any (·.1) = false := by rfl) : PI X (.Tuple elts kk tpos) (.Call (.Name "zip" p) [e, e2] [] pos) (tI X.K ρ (zipD ds es)) :=
  piI (RZ.pi_zipA hg hm (pa_cons h1 (pa_cons h2 pa_nil hs2) hs) hs hpl) fun σ H R ⟨hh, k⟩ => ⟨hh, fun v H1 s1 q1 => ⟨hh.mono s1, fun v2 H2 s2 q2 => by
    obtain ⟨a, xs, rfl, p1, p2⟩ := dpTupR (q1.mono s2)
    obtain ⟨b, ys, rfl, p3, p4⟩ := dpTupR q2
    exact ⟨a, b, xs, ys, rfl, .inr ⟨p1, p3, k _ _ (s1.trans s2) (its_zipT p1 p2 p3 p4)⟩⟩⟩⟩
end
end
/-! ### targets -/
/-- only the slots at vs are touched, behind it ρ' is held -/
def tG (K : PySem.W.Frag) (ρ : Ev) (d : PyData) (ρ' : Ev) (vs : List Nat) : TG := fun v σ H Q => Held K H σ ρ ∧ Dp K H v d ∧ ∀ σ', Held K H σ' ρ' → σ'.length = σ.length → (∀ j, j ∉ vs → σ'[j]? = σ[j]?) → Q σ' H
def tGs (K : PySem.W.Frag) (ρ : Ev) (ds : List PyData) (ρ' : Ev) (vs : List Nat) : TGs := fun xs σ H Q => Held K H σ ρ ∧ DpAll K H xs ds ∧ ∀ σ', Held K H σ' ρ' → σ'.length = σ.length → (∀ j, j ∉ vs → σ'[j]? = σ[j]?) → Q σ' H
section
variable {X : Cx} {e tg : Expr} {es : List Expr} {ρ ρ1 ρ' : Ev} {d : PyData} {ds : List PyData} {pos : Pos} {vs ws : List Nat}
theorem pgI {t t' : TG} (h : PG X tg t) (i : ∀ v σ H Q, t' v σ H Q → t v σ H Q) : PG X tg t' := ⟨fun pins s σ H v u Q I r q => h.run pins s σ H v u Q I r (i _ _ _ _ q)⟩
theorem pgsI {t t' : TGs} (h : PGs X es t) (i : ∀ v σ H Q, t' v σ H Q → t v σ H Q) : PGs X es t' := ⟨fun pins s σ H v u Q I r q => h.run pins s σ H v u Q I r (i _ _ _ _ q)⟩
theorem gd_name {i : Nat} {x : Str} (hN : X.N.Nodup) (hi : X.N[i]? = some x) (hx : Loc X.env.scope x) (hf : X.fn x = true ∨ X.env.scope.names.lookup x = some .local) : PG X (.Name x pos) (tG X.K ρ d (ρ.set i (some (.d d))) [i]) :=
  pgI (pg_name hN hi hx hf) fun v σ H Q ⟨h, q, k⟩ => k _ (h.set i (w := .d d) q) (by simp) fun j hj => by
    rw [List.getElem?_set_ne (fun e => hj (by simp [e]))]
theorem gds_nil : PGs X [] (tGs X.K ρ [] ρ []) :=
  pgsI pgs_nil fun v σ H Q ⟨h, q, k⟩ => by
    cases q
    exact ⟨rfl, k σ h rfl fun _ _ => rfl⟩
theorem gds_cons (h1 : PG X e (tG X.K ρ d ρ1 vs)) (h2 : PGs X es (tGs X.K ρ1 ds ρ' ws)) (hs : (assignEach (e :: es) X.env).map (·.2) = assign e X.env :: (assignEach es X.env).map (·.2) := by rfl) : PGs X (e :: es) (tGs X.K ρ (d :: ds) ρ' (vs ++ ws)) :=
  pgsI (pgs_cons h1 h2 hs) fun v σ H Q ⟨h, q, k⟩ => by
    cases q with
    | cons q1 q2 =>
      refine ⟨_, _, rfl, h, q1, fun σ1 g1 g2 g3 => ⟨g1, q2, fun σ2 f1 f2 f3 => k σ2 f1 (f2.trans g2) fun j hj => ?_⟩⟩
      simp only [List.mem_append, not_or] at hj
      rw [f3 j hj.2, g3 j hj.1]
theorem gd_tup {k n : Nat} (hc : X.calm = true) (h : PGs X es (tGs X.K ρ ds ρ' vs)) (hl : ds.length = n) (hn : (assignEach es X.env).length = n := by rfl) (hst : (assignEach es X.env).findIdx? (·.1) = none := by rfl) : PG X (.Tuple es k pos) (tG X.K ρ (.tuple ds) ρ' vs) :=
  pgI (pg_tup hc h hn hst) fun v σ H Q ⟨hh, q, k⟩ => by
    obtain ⟨a, xs, rfl, h1, h2⟩ := dpTupR q
    exact ⟨a, xs, rfl, h1, (dpAllLen h2).trans hl, hh, h2, k⟩
/-- a, b = e -/
theorem pds_asg {tg e : Expr} {x : PyData} (he : PE X e (tD X.K ρ (.d x))) (hg : PG X tg (tG X.K ρ x ρ' vs)) (hs : swapsWithSole [tg] e pos.line X.env = pure false := by rfl) (hw : swappedStores [tg] e X.env = pure none := by rfl)
    (h1 : (assignEach [tg] X.env).map (·.2) = [assign tg X.env] := by rfl) : PS X (.Assign [tg] e pos) (tDS X.K ρ (.nxt ρ')) :=
  psI (ps_asg he hg hs hw h1) fun D σ H ⟨h, k⟩ => ⟨h, fun v H1 s1 q1 => ⟨h.mono s1, q1, fun σ' f _ _ => k σ' H1 s1 f⟩⟩
theorem pds_set {i : Nat} {x : Str} {e : Expr} {w : Sl} {pos' : Pos} (hN : X.N.Nodup) (hi : X.N[i]? = some x) (hx : Loc X.env.scope x) (he : PE X e (tD X.K ρ w)) (hs : swapsWith e (some (.Name x pos')) pos.line X.env = pure false) (hf : X.fn x = true ∨ X.env.scope.names.lookup x = some .local) :
    PS X (.Assign [.Name x pos'] e pos) (tDS X.K ρ (.nxt (ρ.set i (some w)))) :=
  psI (ps_set hN hi hx he hs hf) fun D σ H ⟨h, k⟩ => ⟨h, fun v H1 s1 q1 => k _ H1 s1 ((h.mono s1).set i q1)⟩
end
/-! ### comprehensions -/
theorem wipe_ext {σ1 σ2 : L2.St} {vs : List Nat} (hl : σ1.length = σ2.length) (h : ∀ j, j ∉ vs → σ1[j]? = σ2[j]?) : wipe σ1 vs = wipe σ2 vs := by
  have at_ : ∀ (σ : L2.St) (ws : List Nat) (j : Nat), (wipe σ ws)[j]? = if j ∈ ws ∧ j < σ.length then some none else σ[j]? := by
    intro σ ws
    induction ws with
    | nil => intro j; simp [wipe]
    | cons v vs ih =>
      intro j
      show ((wipe σ vs).set v none)[j]? = _
      by_cases hj : v = j
      · subst hj
        by_cases hlt : v < σ.length
        · rw [List.getElem?_set_self (by rw [wipe_length]; exact hlt)]
          simp [hlt]
        · rw [List.getElem?_eq_none (by simp [wipe_length]; omega)]
          simp [hlt]
      · rw [List.getElem?_set_ne hj, ih]
        have : (j ∈ v :: vs ∧ j < σ.length) ↔ (j ∈ vs ∧ j < σ.length) := by
          simp only [List.mem_cons]
          constructor
          · rintro ⟨a | a, b⟩
            · exact absurd a.symm hj
            · exact ⟨a, b⟩
          · rintro ⟨a, b⟩
            exact ⟨.inr a, b⟩
        simp only [this]
  apply List.ext_getElem?
  intro j
  rw [at_, at_, hl]
  by_cases hj : j ∈ vs
  · by_cases hlt : j < σ2.length
    · simp [hj, hlt]
    · rw [if_neg (by simp [hlt]), if_neg (by simp [hlt]), List.getElem?_eq_none (by omega), List.getElem?_eq_none (by omega)]
  · rw [if_neg (by simp [hj]), if_neg (by simp [hj])]
    exact h j hj
theorem wipe_wipe (σ : L2.St) (vs : List Nat) : wipe (wipe σ vs) vs = wipe σ vs := by
  refine wipe_ext (wipe_length σ vs) fun j hj => ?_
  induction vs with
  | nil => rfl
  | cons v vs ih =>
    simp only [List.mem_cons, not_or] at hj
    show ((wipe σ vs).set v none)[j]? = _
    rw [List.getElem?_set_ne (fun e => hj.1 e.symm)]
    exact ih hj.2
/-- the slots of a block's own names forgotten -/
def wipeE (ρ : Ev) : List Nat → Ev
  | [] => ρ
  | v :: vs => (wipeE ρ vs).set v none
theorem held_wipe {σ : L2.St} {ρ : Ev} (h : Held K H σ ρ) : ∀ vs, Held K H (wipe σ vs) (wipeE ρ vs)
  | [] => h
  | v :: vs => (held_wipe h vs).setN v none
section
variable {X : Cx} {elt tg iter : Expr} {ifs : List Expr} {scope : Scope} {own : List (Str × Nat)} {pos : Pos} {ρ : Ev} {α : Type}
/-- in each block of this comprehension -/
abbrev InBlk (X : Cx) (scope : Scope) (P : Cx → Prop) : Prop := ∀ (s : Shared) (H : Hp) (C : Addr) (cl : List (Str × Addr)) (fp : List Addr), P (X.blk s H scope (compEnvC scope cl C X.env) fp)
theorem ptsI {t t' : TT} {Y : Cx} (h : PTs Y ifs t) (i : ∀ σ H Q, t' σ H Q → t σ H Q) : PTs Y ifs t' := ⟨fun pins s σ H Q I q => h.run pins s σ H Q I (i _ _ _ q)⟩
/-- what a turn is to show -/
structure LcTurn (X : Cx) (scope : Scope) (tg : Expr) (ifs : List Expr) (elt : Expr) (ρ : Ev) (own : List Nat) (d : PyData) (keep : Bool) (y : PyData) : Prop where
  ex : ∃ (ρ' : Ev) (vs : List Nat), (∀ j ∈ vs, j ∈ own) ∧ InBlk X scope (fun Y => PG Y tg (tG X.K (wipeE ρ own) d ρ' vs)) ∧ InBlk X scope (fun Y => PTs Y ifs (tDT X.K ρ' keep)) ∧ (keep = true → InBlk X scope (fun Y => PE Y elt (tD X.K ρ' (.d y))))
theorem lc_read (vs0 : List Nat) (xs : List α) (enc : α → PyData) (p : α → Bool) (g : α → PyData)
    (turn : ∀ x ∈ xs, LcTurn X scope tg ifs elt ρ vs0 (enc x) (p x) (g x)) (hz : xs.length ≤ 100000) :
    ∃ (G : TG) (T : TT) (E : TE), InBlk X scope (fun Y => PG Y tg G) ∧ InBlk X scope (fun Y => PTs Y ifs T) ∧ InBlk X scope (fun Y => PE Y elt E) ∧ ∀ σ H Q, tD X.K ρ (.d (.list ((xs.filter p).map g))) σ H Q → tLc (tI X.K ρ (xs.map enc)) G T E vs0 σ H Q := by
  -- readings that serve every turn
  let G : TG := fun v σ H Q => ∃ t, InBlk X scope (fun Y => PG Y tg t) ∧ t v σ H Q
  let T : TT := fun σ H Q => ∃ t, InBlk X scope (fun Y => PTs Y ifs t) ∧ t σ H Q
  let E : TE := fun σ H Q => ∃ t, InBlk X scope (fun Y => PE Y elt t) ∧ t σ H Q
  have hG : InBlk X scope (fun Y => PG Y tg G) := fun s H C cl fp => ⟨fun pins s' σ H' v u Q I r ⟨t, h, q⟩ => (h s H C cl fp).run pins s' σ H' v u Q I r q⟩
  have hT : InBlk X scope (fun Y => PTs Y ifs T) := fun s H C cl fp => ⟨fun pins s' σ H' Q I ⟨t, h, q⟩ => (h s H C cl fp).run pins s' σ H' Q I q⟩
  have hE : InBlk X scope (fun Y => PE Y elt E) := fun s H C cl fp => ⟨fun pins s' σ H' Q I ⟨t, h, q⟩ => (h s H C cl fp).run pins s' σ H' Q I q⟩
  refine ⟨G, T, E, hG, hT, hE, fun σ H Q ⟨hh, k⟩ => ⟨hh, fun J H1 s1 its D hD => ?_⟩⟩
  let out (i : Nat) : List PyData := ((xs.take i).filter p).map g
  have outL : ∀ i, i < xs.length → (out i).length < sizeLine := fun i hi => by
    have h1 : (out i).length ≤ xs.length := by
      show (((xs.take i).filter p).map g).length ≤ _
      rw [List.length_map]
      exact Nat.le_trans (List.length_filter_le _ _) (by rw [List.length_take]; exact Nat.min_le_right _ _)
    rw [sizeLine_eq]
    omega
  let Pv (i : Nat) (H : Hp) : Prop := Same H1 (msk D H) ∧ ∃ vs, H D = some (.lst vs) ∧ DpAll X.K (msk D H) vs (out i)
  refine ⟨fun i m H => m = xs.length - i ∧ i ≤ xs.length ∧ Pv i H, ⟨xs.length, by omega, Nat.zero_le _, by rw [msk_upd hD]; exact Same.refl _, [], upd_same, .nil⟩, ?_⟩
  rintro i m H2 ⟨rfl, hle, sm, vs, hDv, hvs⟩
  have smH : Same H1 H2 := sm.trans msk_le
  by_cases hlt : i < xs.length
  · refine .inr ⟨its.go i H2 smH (by rw [List.length_map]; exact hlt), Pv (i + 1), fun H' p' => ⟨xs.length - (i + 1), by omega, rfl, hlt, p'⟩, fun x H3 y => ?_⟩
    have hx : (xs.map enc)[i]? = some (enc xs[i]) := by simp [hlt]
    obtain ⟨B3, st3, dx⟩ := its.yld i H2 x H3 (msk D H2) sm msk_le y _ hx
    have hD3 : H3 D = some (.lst vs) := st3.h _ _ hDv
    have s23 : Same (msk D H2) (msk D H3) := by rw [← step_msk hDv st3]; exact st3.b msk_le
    rw [step_msk hDv st3] at dx
    obtain ⟨ρ', ws, hw, tG1, tT1, tE1⟩ := (turn xs[i] (List.getElem_mem hlt)).ex
    have hh3 : Held X.K (msk D H3) (wipe σ vs0) (wipeE ρ vs0) := held_wipe (hh.mono (s1.trans (sm.trans s23))) _
    refine ⟨frG D (tG X.K (wipeE ρ vs0) (enc xs[i]) ρ' ws), fun s H C cl fp => pg_fr (tG1 s H C cl fp) D, vs, hD3, hh3, dx, fun σ' g1 g2 g3 _ => ?_⟩
    rw [upd_msk hD3]
    refine ⟨?_, frT D (tDT X.K ρ' (p xs[i])), fun s H C cl fp => pts_fr (tT1 s H C cl fp) D, vs, hD3, g1, fun H4 s4 n4 => ?_⟩
    · rw [wipe_ext (g2) (fun j hj => g3 j fun hm => hj (hw j hm)), wipe_wipe]
    · have s14 : Same H1 H4 := sm.trans (s23.trans s4)
      have step : ∀ q, p xs[i] = q → out (i + 1) = out i ++ (if q = true then [g xs[i]] else []) := fun q hq => by
        show ((xs.take (i + 1)).filter p).map g = _
        rw [List.take_succ_eq_append_getElem hlt, List.filter_append, List.map_append]
        congr 1
        cases q with
        | true => simp [hq]
        | false => simp [hq]
      cases hp : p xs[i] with
      | false =>
        refine iteF ⟨by rw [msk_upd n4]; exact s14, vs, upd_same, ?_⟩
        have := step false hp
        rw [if_neg (by simp), List.append_nil] at this
        rw [this, msk_upd n4]
        exact dpAllMono (s23.trans s4) hvs
      | true =>
        refine iteT ⟨frE D (tD X.K ρ' (.d (g xs[i]))), fun s H C cl fp => pe_fr (tE1 hp s H C cl fp) D, vs, upd_same, ?_, fun v H5 s5 dv n5 => ⟨vs, upd_same, by rw [dpAllLen hvs]; exact outL i hlt, ?_⟩⟩
        · rw [msk_upd n4]; exact g1.mono s4
        · rw [msk_upd n4] at s5
          refine ⟨by rw [upd_upd, msk_upd n5]; exact s14.trans s5, vs ++ [v], upd_same, ?_⟩
          have := step true hp
          rw [if_pos rfl] at this
          rw [this, upd_upd, msk_upd n5]
          exact dpAllApp (dpAllMono (s23.trans (s4.trans s5)) hvs) (.cons dv .nil)
  · have hi : i = xs.length := by omega
    subst hi
    have st := its.stop H2 smH
    rw [List.length_map] at st
    refine .inl ⟨st, k (.ref D) H2 (s1.trans smH) (Dp.lst (SqL.of hDv) ?_)⟩
    have e1 : out xs.length = (xs.filter p).map g := by
      show ((xs.take xs.length).filter p).map g = _
      rw [List.take_length]
    rw [← e1]
    exact dpAllMono msk_le hvs
theorem pd_lcF (hc : X.calm = true) (hN : X.N.Nodup) (xs : List α) (enc : α → PyData) (p : α → Bool) (g : α → PyData) (hi : PI X tg iter (tI X.K ρ (xs.map enc))) (ok : BlkOk X.N X.env.scope scope own)
    (turn : ∀ x ∈ xs, LcTurn X scope tg ifs elt ρ (own.map (·.2)) (enc x) (p x) (g x)) (hz : xs.length ≤ 100000) (hs : ∀ x, foldedSetIterable iter X.env x = pure x) :
    PE X (.ListComp elt [⟨tg, iter, ifs, 0⟩] scope pos) (tD X.K ρ (.d (.list ((xs.filter p).map g)))) := by
  obtain ⟨G, T, E, hG, hT, hE, q⟩ := lc_read (X := X) (own.map (·.2)) xs enc p g turn hz
  exact peI (pe_lc hc hN hi ok hG hT hE hs) q
/-- name = [..] -/
theorem pds_lcF {i : Nat} {y : Str} {py spos : Pos} (hc : X.calm = true) (hN : X.N.Nodup) (hy : X.N[i]? = some y) (hyl : X.env.scope.names.lookup y = some .local)
    (hsw : swapsWith (.ListComp elt [⟨tg, iter, ifs, 0⟩] scope pos) (some (.Name y py)) spos.line X.env = pure true) (xs : List α) (enc : α → PyData) (p : α → Bool) (g : α → PyData) (hi : PI X tg iter (tI X.K ρ (xs.map enc))) (ok : BlkOk X.N X.env.scope scope own)
    (turn : ∀ x ∈ xs, LcTurn X scope tg ifs elt ρ (own.map (·.2)) (enc x) (p x) (g x)) (hz : xs.length ≤ 100000) (hs : ∀ x, foldedSetIterable iter X.env x = pure x) :
    PS X (.Assign [.Name y py] (.ListComp elt [⟨tg, iter, ifs, 0⟩] scope pos) spos) (tDS X.K ρ (.nxt (ρ.set i (some (.d (.list ((xs.filter p).map g))))))) := by
  obtain ⟨G, T, E, hG, hT, hE, q⟩ := lc_read (X := X) (own.map (·.2)) xs enc p g turn hz
  exact psI (ps_setLc hc hN hy hyl hsw hi ok hG hT hE hs) fun D σ H ⟨h, k⟩ => q σ H _ ⟨h, fun v H' s hv => k _ H' s ((h.mono s).set i hv)⟩
theorem filter_yes (xs : List α) : xs.filter (fun _ => true) = xs := by simp
/-- without tests -/
theorem pd_lc (hc : X.calm = true) (hN : X.N.Nodup) (xs : List α) (enc : α → PyData) (g : α → PyData) (hi : PI X tg iter (tI X.K ρ (xs.map enc))) (ok : BlkOk X.N X.env.scope scope own)
    (turn : ∀ x ∈ xs, ∃ (ρ' : Ev) (vs : List Nat), (∀ j ∈ vs, j ∈ own.map (·.2)) ∧ InBlk X scope (fun Y => PG Y tg (tG X.K (wipeE ρ (own.map (·.2))) (enc x) ρ' vs)) ∧ InBlk X scope (fun Y => PE Y elt (tD X.K ρ' (.d (g x)))))
    (hz : xs.length ≤ 100000) (hs : ∀ x, foldedSetIterable iter X.env x = pure x) : PE X (.ListComp elt [⟨tg, iter, [], 0⟩] scope pos) (tD X.K ρ (.d (.list (xs.map g)))) := by
  have h := pd_lcF (pos := pos) (ifs := []) hc hN xs enc (fun _ => true) g hi ok (fun x hx => by
    obtain ⟨ρ', vs, h1, h2, h3⟩ := turn x hx
    exact ⟨ρ', vs, h1, h2, fun s H C cl fp => ptsI pts_nil fun σ H Q ⟨_, k⟩ => k H (Same.refl H), fun _ => h3⟩) hz hs
  rw [filter_yes] at h
  exact h
theorem pds_lc {i : Nat} {y : Str} {py spos : Pos} (hc : X.calm = true) (hN : X.N.Nodup) (hy : X.N[i]? = some y) (hyl : X.env.scope.names.lookup y = some .local)
    (hsw : swapsWith (.ListComp elt [⟨tg, iter, [], 0⟩] scope pos) (some (.Name y py)) spos.line X.env = pure true) (xs : List α) (enc : α → PyData) (g : α → PyData) (hi : PI X tg iter (tI X.K ρ (xs.map enc))) (ok : BlkOk X.N X.env.scope scope own)
    (turn : ∀ x ∈ xs, ∃ (ρ' : Ev) (vs : List Nat), (∀ j ∈ vs, j ∈ own.map (·.2)) ∧ InBlk X scope (fun Y => PG Y tg (tG X.K (wipeE ρ (own.map (·.2))) (enc x) ρ' vs)) ∧ InBlk X scope (fun Y => PE Y elt (tD X.K ρ' (.d (g x)))))
    (hz : xs.length ≤ 100000) (hs : ∀ x, foldedSetIterable iter X.env x = pure x) : PS X (.Assign [.Name y py] (.ListComp elt [⟨tg, iter, [], 0⟩] scope pos) spos) (tDS X.K ρ (.nxt (ρ.set i (some (.d (.list (xs.map g))))))) := by
  have h := pds_lcF (pos := pos) (ifs := []) hc hN hy hyl hsw xs enc (fun _ => true) g hi ok (fun x hx => by
    obtain ⟨ρ', vs, h1, h2, h3⟩ := turn x hx
    exact ⟨ρ', vs, h1, h2, fun s H C cl fp => ptsI pts_nil fun σ H Q ⟨_, k⟩ => k H (Same.refl H), fun _ => h3⟩) hz hs
  rw [filter_yes] at h
  exact h
end
end Bx
namespace Bx
open PySem L2 PySem.SeqAt
open PySem.W (alike alikeAll dataLt dataLe EachIs AllAlike Sortable)
variable {K : PySem.W.Frag} {H H' H1 H2 : Hp}
/-! ### statements -/
section
variable {X : Cx} {e c tg iter : Expr} {st : Stmt} {sts a b body : List Stmt} {ρ ρ' : Ev} {o : Out} {w : Sl} {pos : Pos}
theorem pds_nxt : PSs X [] (tDS X.K ρ (.nxt ρ)) := pssI pss_nil fun D σ H ⟨h, k⟩ => k σ H (Same.refl H) h
/-- a statement behind which it goes on -/
theorem pds_seq (h1 : PS X st (tDS X.K ρ (.nxt ρ'))) (h2 : PSs X sts (tDS X.K ρ' o)) : PSs X (st :: sts) (tDS X.K ρ o) :=
  pssI (pss_cons h1 h2) fun D σ H ⟨h, k⟩ => ⟨h, fun σ' H' s q => ⟨q, k.mono s⟩⟩
/-- a statement behind which nothing comes -/
theorem pds_end (h1 : PS X st (tDS X.K ρ o)) (ho : ∀ ρ', o ≠ .nxt ρ') : PSs X (st :: sts) (tDS X.K ρ o) :=
  pssI (pss_cons h1 pss_never) fun D σ H ⟨h, k⟩ => ⟨h, by
    cases o with
    | nxt ρ' => exact absurd rfl (ho ρ')
    | ret w => exact k
    | brk ρ' => exact k
    | cnt ρ' => exact k⟩
theorem pds_one (h1 : PS X st (tDS X.K ρ o)) : PSs X [st] (tDS X.K ρ o) := pssI (pss_one h1) fun D σ H h => h
theorem pds_ret (he : PE X e (tD X.K ρ w)) : PS X (.Return (some e) pos) (tDS X.K ρ (.ret w)) := psI (ps_ret he) fun D σ H ⟨h, k⟩ => ⟨h, fun v H' s q => k v H' s q⟩
theorem pds_brk : PS X (.Break pos) (tDS X.K ρ (.brk ρ)) := psI ps_break fun D σ H ⟨h, k⟩ => k σ H (Same.refl H) h
theorem pds_cnt : PS X (.Continue pos) (tDS X.K ρ (.cnt ρ)) := psI ps_continue fun D σ H ⟨h, k⟩ => k σ H (Same.refl H) h
theorem pds_if {x : Bool} (hc : PT X c (tDT X.K ρ x)) (ha : x = true → PSs X a (tDS X.K ρ o)) (hb : x = false → PSs X b (tDS X.K ρ o)) : PS X (.If c a b pos) (tDS X.K ρ o) :=
  psI (ps_if hc pss_w pss_w) fun D σ H ⟨h, k⟩ => ⟨h, fun H' s => by
    cases x with
    | true => exact iteT ⟨_, ha rfl, h.mono s, k.mono s⟩
    | false => exact iteF ⟨_, hb rfl, h.mono s, k.mono s⟩⟩
/-- name op= e -/
theorem pds_aug {i : Nat} {x : Str} {op : Operator} {pos' : Pos} {u z : Sl} (hi' : ρ[i]? = some (some u)) (hN : X.N.Nodup) (hi : X.N[i]? = some x) (hx : Loc X.env.scope x) (he : PE X e (tD X.K ρ w)) (ho : PIp X op (rD X.K u w z))
    (hf : X.fn x = true ∨ X.env.scope.names.lookup x = some .local) : PS X (.AugAssign (.Name x pos') op e pos) (tDS X.K ρ (.nxt (ρ.set i (some z)))) :=
  psI (ps_aug hN hi hx he ho hf) fun D σ H ⟨h, k⟩ => by
    obtain ⟨v, e1, e2⟩ := h.at_ i u hi'
    exact ⟨v, e1, h, fun y H1 s1 q1 => ⟨e2.mono s1, q1, fun v' H' s' q' => k _ H' (s1.trans s') ((h.mono (s1.trans s')).set i q')⟩⟩
theorem ipd_add {i j : Int} : PIp X .Add (rD X.K (.d (.int i)) (.d (.int j)) (.d (.int (i + j)))) := by
  intro pins s σ H x y v u Q I rx ry ⟨hx, hy, k⟩
  exact ip_add pins s σ H x y v u Q I rx ry ⟨i, j, dpInt hx, dpInt hy, k _ H (Same.refl H) (Dp.int _)⟩
/-! ### for over data -/
/-- the whole loop, turn by turn -/
inductive Loop (X : Cx) (tg : Expr) (body : List Stmt) : List PyData → Ev → Out → Prop where
  | done {ρ : Ev} : Loop X tg body [] ρ (.nxt ρ)
  | next {d : PyData} {ds : List PyData} {ρ ρ1 ρ2 : Ev} {vs : List Nat} {o : Out} : PG X tg (tG X.K ρ d ρ1 vs) → (PSs X body (tDS X.K ρ1 (.nxt ρ2)) ∨ PSs X body (tDS X.K ρ1 (.cnt ρ2))) → Loop X tg body ds ρ2 o → Loop X tg body (d :: ds) ρ o
  | ret {d : PyData} {ds : List PyData} {ρ ρ1 : Ev} {vs : List Nat} {w : Sl} : PG X tg (tG X.K ρ d ρ1 vs) → PSs X body (tDS X.K ρ1 (.ret w)) → Loop X tg body (d :: ds) ρ (.ret w)
  | brk {d : PyData} {ds : List PyData} {ρ ρ1 ρ2 : Ev} {vs : List Nat} : PG X tg (tG X.K ρ d ρ1 vs) → PSs X body (tDS X.K ρ1 (.brk ρ2)) → Loop X tg body (d :: ds) ρ (.nxt ρ2)
/-- less known in a loop's slots -/
theorem Loop.out {ds : List PyData} (h : Loop X tg body ds ρ o) : (∃ w, o = .ret w) ∨ ∃ ρ', o = .nxt ρ' := by
  induction h with
  | done => exact .inr ⟨_, rfl⟩
  | next _ _ _ ih => exact ih
  | ret _ _ => exact .inl ⟨_, rfl⟩
  | brk _ _ => exact .inr ⟨_, rfl⟩
theorem pds_for {ds : List PyData} (hp : PassesOwn (model X.prog X.w) X.A X.env X.xe) (hc : X.calm = true) (hi : PI X tg iter (tI X.K ρ ds)) (hl : Loop X tg body ds ρ o) (hs : ∀ x, foldedSetIterable iter X.env x = pure x) : PS X (.For tg iter body [] pos) (tDS X.K ρ o) := by
  let G : TG := fun v σ H Q => ∃ t, PG X tg t ∧ t v σ H Q
  have hG : PG X tg G := ⟨fun pins s' σ H' v u Q I r ⟨t, h, q⟩ => h.run pins s' σ H' v u Q I r q⟩
  refine psI (ps_for hp hc hi hG pss_w hs) fun D σ H ⟨hh, k⟩ => ⟨hh, fun J H1 s1 its => ?_⟩
  let Pv (i : Nat) (σ : L2.St) (H : Hp) : Prop := Same H1 H ∧ ∃ ρ', Held X.K H σ ρ' ∧ Loop X tg body (ds.drop i) ρ' o
  refine ⟨fun i m σ H => m = ds.length - i ∧ i ≤ ds.length ∧ Pv i σ H, ⟨ds.length, by omega, Nat.zero_le _, Same.refl _, ρ, hh.mono s1, hl⟩, ?_⟩
  rintro i m σ2 H2 ⟨rfl, hle, sm, ρ2, h2, lp⟩
  by_cases hlt : i < ds.length
  · refine .inr ⟨its.go i H2 sm hlt, Pv (i + 1), fun σ' H' p' => ⟨ds.length - (i + 1), by omega, rfl, hlt, p'⟩, fun x H3 y => ?_⟩
    obtain ⟨B3, st3, dx⟩ := its.yld i H2 x H3 H2 sm (Same.refl _) y _ (List.getElem?_eq_getElem hlt)
    have s3 := st3.h
    rw [st3.same] at dx
    rw [List.drop_eq_getElem_cons hlt] at lp
    have hw := k.mono (s1.trans (sm.trans s3))
    cases lp with
    | next g bd r =>
      refine ⟨_, g, h2.mono s3, dx, fun σ' g1 _ _ => ?_⟩
      rcases bd with bd | bd
      · exact ⟨_, bd, g1, fun σ4 H4 s4 h4 => ⟨sm.trans (s3.trans s4), _, h4, r⟩⟩
      · exact ⟨_, bd, g1, fun σ4 H4 s4 h4 => ⟨sm.trans (s3.trans s4), _, h4, r⟩⟩
    | ret g bd => exact ⟨_, g, h2.mono s3, dx, fun σ' g1 _ _ => ⟨_, bd, g1, fun v H4 s4 q => hw v H4 s4 q⟩⟩
    | brk g bd => exact ⟨_, g, h2.mono s3, dx, fun σ' g1 _ _ => ⟨_, bd, g1, fun v H4 s4 q => hw v H4 s4 q⟩⟩
  · have hi : i = ds.length := by omega
    subst hi
    rw [List.drop_length] at lp
    cases lp
    exact .inl ⟨its.stop H2 sm, k σ2 H2 (s1.trans sm) h2⟩
end
/-! ### defs -/
/-- a def that makes data of data: from ws comes w wherever R says so -/
def spR (K : PySem.W.Frag) (R : List Sl → Sl → Prop) : Sp := fun vs H Q _ => ∃ ws w, HeldVs K H vs ws ∧ R ws w ∧ ∀ v H', Same H H' → HeldV K H' v w → Q v H'
structure Ctx where
  P : Program
  w : World
  K : PySem.W.Frag
  mg : Str → Option Value
  base : Heap
/-- the module's name x holds a def that keeps the promise sp -/
structure HasS (C : Ctx) (x : Str) (k : Nat) (sp : Sp) : Prop where
  ex : ∃ (f : Addr) (fd : FuncData) (ps : List Str), C.mg x = some (.ref f) ∧ PySem.W.keepIn C.K (.ref f) = true ∧ Binds C.K fd ps [] ∧ FnOk C.P C.w C.K C.mg C.base CX0 k f fd ps sp
abbrev Has (C : Ctx) (x : Str) (k : Nat) (R : List Sl → Sl → Prop) : Prop := HasS C x k (spR C.K R)
/-- where one stands in a def of the module C -/
structure At (C : Ctx) (X : Cx) : Prop where
  p : X.prog = C.P
  w : X.w = C.w
  k : X.K = C.K
  m : X.mg = C.mg
  b : X.base = C.base
section
variable {C : Ctx} {X : Cx} {x : Str} {k j : Nat} {R : List Sl → Sl → Prop} {e : Expr} {es : List Expr} {ρ : Ev} {w : Sl} {ws : List Sl} {p pos : Pos} {sp : Sp}
/-- a call of a def by its name, any promise -/
theorem pe_has {t : TA} (at_ : At C X) (h : HasS C x k sp) (hr : Room k X.A) (hg : Gl X x) (ha : PA X (e :: es) t) (hdb : (x == ("__debug__" : Str)) = false) (he : starEach (e :: es) X.env = (false, eval e X.env) :: starEach es X.env := by rfl) (hpl : (backTo pos (starEach es X.env)).any (·.1) = false := by rfl) :
    PE X (.Call (.Name x p) (e :: es) [] pos) (tCall sp [] E0 t) := by
  obtain ⟨h1, h2, h3, h4, h5⟩ := at_
  obtain ⟨f, fd, ps, m, kp, b, F⟩ := h.ex
  obtain ⟨P, w, K, mg, base⟩ := C
  simp only at h1 h2 h3 h4 h5 m kp b F
  subst h1 h2 h3 h4 h5
  exact pe_call F hr hg m kp b .nil pass0 ha hdb he hpl
theorem pd_call (at_ : At C X) (h : Has C x k R) (hr : Room k X.A) (hg : Gl X x) (ha : PA X (e :: es) (tDs X.K ρ ws)) (hR : R ws w) (hdb : (x == ("__debug__" : Str)) = false) (he : starEach (e :: es) X.env = (false, eval e X.env) :: starEach es X.env := by rfl) (hpl : (backTo pos (starEach es X.env)).any (·.1) = false := by rfl) :
    PE X (.Call (.Name x p) (e :: es) [] pos) (tD X.K ρ w) :=
  peI (pe_has at_ h hr hg ha hdb he hpl) fun σ H Q ⟨hh, q⟩ => ⟨hh, fun vs H1 s1 hv => by
    show spR C.K R (vs ++ []) H1 Q E0
    rw [List.append_nil]
    refine ⟨ws, w, ?_, hR, fun v H' s' hv' => ?_⟩
    · rw [← at_.k]
      exact hv
    · rw [← at_.k] at hv'
      exact q v H' (s1.trans s') hv'⟩
/-- a def's own promise, from its body -/
theorem has_of {y : Str} {st : Stmt} {qual : Str} {f : Addr} {fd : FuncData} {N ps : List Str} (F : FunD C.K x qual (defArgs st) (defBody st) (defScope st) [] [] f fd) (mg : C.mg y = some (.ref f)) (S : FnScope N ps (defScope st)) (hl : ps.length ≤ N.length)
    (hb : ∀ (kV doc pm : Value) (an : Option Addr) (cdv ct : Value) (us : List Value), us.length = ps.length → bindArgs (PySem.W.fnOf x qual (defArgs st) (defBody st) (defScope st) .none kV doc pm an cdv ct) ⟨us, []⟩ = pure (ps.zip us))
    (len : ∀ ws w, R ws w → ws.length = ps.length)
    (body : ∀ (X : Cx) (ws : List Sl) (w : Sl), At C X → Room k X.A → R ws w → (∃ (cdv : Value) (A : Around) (outer : List Env) (s : Shared) (H : Hp) (E : XK), X = (cxOf CX0 C.P C.w C.K C.mg C.base N qual (defScope st) f cdv A outer s H E).nox) →
      PSs X (defBody st) (tDS X.K (ws.map some ++ List.replicate (N.length - ps.length) none) (.ret w))) : Has C y (k + 1) R := by
  refine ⟨f, fd, ps, mg, F.kp, F.bindsN hb, F.ok S (fun vs H Q E h => ?_) fun cdv A outer s H vs Q E hr h => ?_⟩
  · obtain ⟨ws, w, h1, h2, _⟩ := h
    exact h1.len.trans (len ws w h2)
  · obtain ⟨ws, w, h1, h2, q⟩ := h
    have hlv := h1.len
    have hlw := len ws w h2
    have B := body (cxOf CX0 C.P C.w C.K C.mg C.base N qual (defScope st) f cdv A outer s H E).nox ws w ⟨rfl, rfl, rfl, rfl, rfl⟩ hr h2 ⟨cdv, A, outer, s, H, E, rfl⟩
    refine ⟨_, B.nox, ?_, fun v H' s' hv => q v H' s' hv⟩
    have hs := held_start (N := N) h1 (by omega)
    rw [hlv, hlw] at hs
    exact hs
end
end Bx
namespace Bx
open PySem L2 PySem.SeqAt
open PySem.W (alike alikeAll dataLt dataLe EachIs AllAlike Sortable)
variable {K : PySem.W.Frag} {H H' H1 H2 : Hp}
def rDs (K : PySem.W.Frag) (ws : List Sl) (w : Sl) : List V → Hp → VK → Prop := fun xs H Q => HeldVs K H xs ws ∧ ∀ v H', Same H H' → HeldV K H' v w → Q v H'
theorem held1 {xs : List V} {w : Sl} (h : HeldVs K H xs [w]) : ∃ x, xs = [x] ∧ HeldV K H x w := by
  cases h with
  | cons a t => cases t; exact ⟨_, rfl, a⟩
theorem held2 {xs : List V} {w u : Sl} (h : HeldVs K H xs [w, u]) : ∃ x y, xs = [x, y] ∧ HeldV K H x w ∧ HeldV K H y u := by
  cases h with
  | cons a t =>
    obtain ⟨y, rfl, b⟩ := held1 t
    exact ⟨_, _, rfl, a, b⟩
theorem held3 {xs : List V} {w u z : Sl} (h : HeldVs K H xs [w, u, z]) : ∃ x y v, xs = [x, y, v] ∧ HeldV K H x w ∧ HeldV K H y u ∧ HeldV K H v z := by
  cases h with
  | cons a t =>
    obtain ⟨y, v, rfl, b, c⟩ := held2 t
    exact ⟨_, _, _, rfl, a, b, c⟩
theorem dpInts : ∀ {ns : List Int} {vs : List V}, DpAll K H vs (ns.map PyData.int) → vs = ns.map V.int
  | [], _, .nil => rfl
  | n :: ns, _, .cons h t => by rw [dpInt h, dpInts t]; rfl
theorem intsDp : ∀ (ns : List Int), DpAll K H (ns.map V.int) (ns.map PyData.int)
  | [] => .nil
  | n :: ns => .cons (.int n) (intsDp ns)
theorem dpBools : ∀ {ns : List Bool} {vs : List V}, DpAll K H vs (ns.map PyData.bool) → vs = ns.map V.bl
  | [], _, .nil => rfl
  | n :: ns, _, .cons h t => by rw [dpBl h, dpBools t]; rfl
section
variable {X : Cx} {x : Str} {p pos : Pos} {e e2 : Expr} {es : List Expr} {id T : String} {ρ : Ev} {ws : List Sl} {w : Sl}
theorem pd_callB (hc : CallR X (.builtin id) (rDs X.K ws w)) (hg : Gl X x) (hm : X.mg x = none) (hv : bootBuiltins x = some (.builtin id)) (ha : PA X (e :: es) (tDs X.K ρ ws)) (hn : x ≠ "__name__") (hdb : (x == ("__debug__" : Str)) = false)
    (he : starEach (e :: es) X.env = (false, eval e X.env) :: starEach es X.env := by rfl) (hpl : (backTo pos (starEach es X.env)).any (·.1) = false := by rfl) : PE X (.Call (.Name x p) (e :: es) [] pos) (tD X.K ρ w) :=
  peI (pe_callB hc hg hm hv ha hn hdb he hpl) fun σ H Q ⟨hh, k⟩ => ⟨hh, fun vs H1 s1 q1 => ⟨q1, fun v H' s' q' => k v H' (s1.trans s') q'⟩⟩
theorem pd_callT (hc : CallR X (.type T) (rDs X.K ws w)) (hg : Gl X x) (hm : X.mg x = none) (hv : bootBuiltins x = some (.type T)) (ha : PA X (e :: es) (tDs X.K ρ ws)) (hn : x ≠ "__name__") (hdb : (x == ("__debug__" : Str)) = false)
    (he : starEach (e :: es) X.env = (false, eval e X.env) :: starEach es X.env := by rfl) (hpl : (backTo pos (starEach es X.env)).any (·.1) = false := by rfl) : PE X (.Call (.Name x p) (e :: es) [] pos) (tD X.K ρ w) :=
  peI (pe_callTy hc hg hm hv ha hn hdb he hpl) fun σ H Q ⟨hh, k⟩ => ⟨hh, fun vs H1 s1 q1 => ⟨q1, fun v H' s' q' => k v H' (s1.trans s') q'⟩⟩
theorem cd_len {d : PyData} {ds : List PyData} (hr : rowOf d = some ds) : CallR X (.builtin "len") (rDs X.K [.d d] (.d (.int ds.length))) :=
  crI call_len_seq fun xs H Q ⟨h, k⟩ => by
    obtain ⟨x, rfl, hx⟩ := held1 h
    cases d with
    | tuple es =>
      cases hr
      obtain ⟨a, ys, rfl, h1, h2⟩ := dpTupR hx
      exact ⟨a, ys, rfl, .inr h1, by rw [dpAllLen h2]; exact k _ H (Same.refl H) (Dp.int _)⟩
    | list es =>
      cases hr
      obtain ⟨a, ys, rfl, h1, h2⟩ := dpLstR hx
      exact ⟨a, ys, rfl, .inl h1, by rw [dpAllLen h2]; exact k _ H (Same.refl H) (Dp.int _)⟩
    | _ => cases hr
theorem cd_all (hc : X.calm = true) {bs : List Bool} : CallR X (.builtin "all") (rDs X.K [.d (.list (bs.map .bool))] (.d (.bool (bs.all _root_.id)))) :=
  crI (cr_all hc) fun xs H Q ⟨h, k⟩ => by
    obtain ⟨x, rfl, hx⟩ := held1 h
    obtain ⟨a, ys, rfl, h1, h2⟩ := dpLstR hx
    have := dpBools h2
    subst this
    exact ⟨a, bs, rfl, h1, k _ H (Same.refl H) (Dp.bl _)⟩
theorem cd_any (hc : X.calm = true) {bs : List Bool} : CallR X (.builtin "any") (rDs X.K [.d (.list (bs.map .bool))] (.d (.bool (bs.any _root_.id)))) :=
  crI (cr_any hc) fun xs H Q ⟨h, k⟩ => by
    obtain ⟨x, rfl, hx⟩ := held1 h
    obtain ⟨a, ys, rfl, h1, h2⟩ := dpLstR hx
    have := dpBools h2
    subst this
    exact ⟨a, bs, rfl, h1, k _ H (Same.refl H) (Dp.bl _)⟩
theorem cd_sum (hc : X.calm = true) {ns : List Int} : CallR X (.builtin "sum") (rDs X.K [.d (.list (ns.map .int))] (.d (.int ns.sum))) :=
  crI (cr_sum hc) fun xs H Q ⟨h, k⟩ => by
    obtain ⟨x, rfl, hx⟩ := held1 h
    obtain ⟨a, ys, rfl, h1, h2⟩ := dpLstR hx
    have := dpInts h2
    subst this
    exact ⟨a, ns, rfl, h1, k _ H (Same.refl H) (Dp.int _)⟩
/-- the least of some numbers -/
def leastI : List Int → Int
  | [] => 0
  | n :: ns => ns.foldl min n
def mostI : List Int → Int
  | [] => 0
  | n :: ns => ns.foldl max n
theorem foldl_min_le : ∀ (ns : List Int) (n : Int), ns.foldl min n ≤ n ∧ ∀ y ∈ ns, ns.foldl min n ≤ y
  | [], n => ⟨Int.le_refl _, fun _ h => nomatch h⟩
  | m :: ns, n => by
    obtain ⟨h1, h2⟩ := foldl_min_le ns (min n m)
    refine ⟨Int.le_trans h1 (Int.min_le_left _ _), fun y hy => ?_⟩
    rcases List.mem_cons.mp hy with rfl | hy
    · exact Int.le_trans h1 (Int.min_le_right _ _)
    · exact h2 y hy
theorem foldl_min_mem : ∀ (ns : List Int) (n : Int), ns.foldl min n = n ∨ ns.foldl min n ∈ ns
  | [], n => .inl rfl
  | m :: ns, n => by
    show ns.foldl min (min n m) = n ∨ _
    rcases foldl_min_mem ns (min n m) with h | h
    · by_cases q : n ≤ m
      · left; show ns.foldl min (min n m) = n; rw [h]; exact Int.min_eq_left q
      · right; show ns.foldl min (min n m) ∈ _; rw [h, Int.min_eq_right (by omega)]; exact List.mem_cons_self ..
    · exact .inr (List.mem_cons_of_mem _ h)
theorem leastI_le {ns : List Int} {y : Int} (h : y ∈ ns) : leastI ns ≤ y := by
  cases ns with
  | nil => cases h
  | cons n ns =>
    obtain ⟨h1, h2⟩ := foldl_min_le ns n
    rcases List.mem_cons.mp h with rfl | h
    · exact h1
    · exact h2 y h
theorem leastI_mem {ns : List Int} (h : ns ≠ []) : leastI ns ∈ ns := by
  cases ns with
  | nil => exact absurd rfl h
  | cons n ns =>
    rcases foldl_min_mem ns n with q | q
    · show ns.foldl min n ∈ _
      rw [q]; exact List.mem_cons_self ..
    · exact List.mem_cons_of_mem _ q
theorem foldl_max_ge : ∀ (ns : List Int) (n : Int), n ≤ ns.foldl max n ∧ ∀ y ∈ ns, y ≤ ns.foldl max n
  | [], n => ⟨Int.le_refl _, fun _ h => nomatch h⟩
  | m :: ns, n => by
    obtain ⟨h1, h2⟩ := foldl_max_ge ns (max n m)
    refine ⟨Int.le_trans (Int.le_max_left _ _) h1, fun y hy => ?_⟩
    rcases List.mem_cons.mp hy with rfl | hy
    · exact Int.le_trans (Int.le_max_right _ _) h1
    · exact h2 y hy
theorem foldl_max_mem : ∀ (ns : List Int) (n : Int), ns.foldl max n = n ∨ ns.foldl max n ∈ ns
  | [], n => .inl rfl
  | m :: ns, n => by
    show ns.foldl max (max n m) = n ∨ _
    rcases foldl_max_mem ns (max n m) with h | h
    · by_cases q : m ≤ n
      · left; show ns.foldl max (max n m) = n; rw [h]; exact Int.max_eq_left q
      · right; show ns.foldl max (max n m) ∈ _; rw [h, Int.max_eq_right (by omega)]; exact List.mem_cons_self ..
    · exact .inr (List.mem_cons_of_mem _ h)
theorem mostI_ge {ns : List Int} {y : Int} (h : y ∈ ns) : y ≤ mostI ns := by
  cases ns with
  | nil => cases h
  | cons n ns =>
    obtain ⟨h1, h2⟩ := foldl_max_ge ns n
    rcases List.mem_cons.mp h with rfl | h
    · exact h1
    · exact h2 y h
theorem mostI_mem {ns : List Int} (h : ns ≠ []) : mostI ns ∈ ns := by
  cases ns with
  | nil => exact absurd rfl h
  | cons n ns =>
    rcases foldl_max_mem ns n with q | q
    · show ns.foldl max n ∈ _
      rw [q]; exact List.mem_cons_self ..
    · exact List.mem_cons_of_mem _ q
theorem cd_min (hc : X.calm = true) {ns : List Int} (hn : ns ≠ []) : CallR X (.builtin "min") (rDs X.K [.d (.list (ns.map .int))] (.d (.int (leastI ns)))) :=
  crI (cr_min hc) fun xs H Q ⟨h, k⟩ => by
    obtain ⟨x, rfl, hx⟩ := held1 h
    obtain ⟨a, ys, rfl, h1, h2⟩ := dpLstR hx
    have := dpInts h2
    subst this
    refine ⟨a, ns, rfl, h1, List.length_pos_iff.mpr hn, fun m hm hle => ?_⟩
    have : m = leastI ns := Int.le_antisymm (hle _ (leastI_mem hn)) (leastI_le hm)
    subst this
    exact k _ H (Same.refl H) (Dp.int _)
theorem cd_max (hc : X.calm = true) {ns : List Int} (hn : ns ≠ []) : CallR X (.builtin "max") (rDs X.K [.d (.list (ns.map .int))] (.d (.int (mostI ns)))) :=
  crI (cr_max hc) fun xs H Q ⟨h, k⟩ => by
    obtain ⟨x, rfl, hx⟩ := held1 h
    obtain ⟨a, ys, rfl, h1, h2⟩ := dpLstR hx
    have := dpInts h2
    subst this
    refine ⟨a, ns, rfl, h1, List.length_pos_iff.mpr hn, fun m hm hle => ?_⟩
    have : m = mostI ns := Int.le_antisymm (mostI_ge hm) (hle _ (mostI_mem hn))
    subst this
    exact k _ H (Same.refl H) (Dp.int _)
theorem cd_max3 (hc : X.calm = true) (hu : X.A.units + 8 < cLine) {a b c : Int} : CallR X (.builtin "max") (rDs X.K [.d (.int a), .d (.int b), .d (.int c)] (.d (.int (max a (max b c))))) := by
  intro pins s σ H xs us Q I r ⟨h, k⟩
  obtain ⟨x, y, z, rfl, hx, hy, hz⟩ := held3 h
  have := dpInt hx
  have := dpInt hy
  have := dpInt hz
  subst x y z
  cases r with
  | cons r1 r =>
    obtain ⟨u, w', rfl, r2, r3⟩ := vals2 r
    obtain ⟨t1, rfl⟩ := r1
    obtain ⟨t2, rfl⟩ := r2
    obtain ⟨t3, rfl⟩ := r3
    exact Bx3.max3 (I.ok.hd hc) hu fun h' tk t hk => ⟨.int (max a (max b c)), H, I.kept hk, ⟨_, rfl⟩, k _ H (Same.refl H) (Dp.int _)⟩
theorem cd_max2 (hc : X.calm = true) {a b : Int} : CallR X (.builtin "max") (rDs X.K [.d (.int a), .d (.int b)] (.d (.int (max a b)))) :=
  crI (call_max2 hc) fun xs H Q ⟨h, k⟩ => by
    obtain ⟨x, y, rfl, hx, hy⟩ := held2 h
    rw [dpInt hx, dpInt hy]
    refine ⟨a, b, rfl, ?_⟩
    have : (if b > a then b else a) = max a b := by
      by_cases q : b > a
      · rw [if_pos q, Int.max_eq_right (by omega)]
      · rw [if_neg q, Int.max_eq_left (by omega)]
    rw [this]
    exact k _ H (Same.refl H) (Dp.int _)
theorem cd_min2 (hc : X.calm = true) {a b : Int} : CallR X (.builtin "min") (rDs X.K [.d (.int a), .d (.int b)] (.d (.int (min a b)))) :=
  crI (call_min2 hc) fun xs H Q ⟨h, k⟩ => by
    obtain ⟨x, y, rfl, hx, hy⟩ := held2 h
    rw [dpInt hx, dpInt hy]
    refine ⟨a, b, rfl, ?_⟩
    have : (if b < a then b else a) = min a b := by
      by_cases q : b < a
      · rw [if_pos q, Int.min_eq_right (by omega)]
      · rw [if_neg q, Int.min_eq_left (by omega)]
    rw [this]
    exact k _ H (Same.refl H) (Dp.int _)
theorem cd_abs {a : Int} : CallR X (.builtin "abs") (rDs X.K [.d (.int a)] (.d (.int (a.natAbs : Int)))) :=
  crI call_abs fun xs H Q ⟨h, k⟩ => by
    obtain ⟨x, rfl, hx⟩ := held1 h
    rw [dpInt hx]
    refine ⟨a, rfl, ?_⟩
    have : (if a < 0 then -a else a) = (a.natAbs : Int) := by
      by_cases q : a < 0
      · rw [if_pos q]; omega
      · rw [if_neg q]; omega
    rw [this]
    exact k _ H (Same.refl H) (Dp.int _)
def b2 (b : Bool) : Int := if b then 1 else 0
theorem cd_intB {b : Bool} : CallR X (.type "int") (rDs X.K [.d (.bool b)] (.d (.int (b2 b)))) :=
  crI call_int1 fun xs H Q ⟨h, k⟩ => by
    obtain ⟨x, rfl, hx⟩ := held1 h
    rw [dpBl hx]
    exact .inr ⟨b, rfl, k _ H (Same.refl H) (Dp.int _)⟩
theorem cd_tup {d : PyData} {ds : List PyData} (hr : rowOf d = some ds) : CallR X (.type "tuple") (rDs X.K [.d d] (.d (.tuple ds))) :=
  crI call_tuple_of fun xs H Q ⟨h, k⟩ => by
    obtain ⟨x, rfl, hx⟩ := held1 h
    cases d with
    | tuple es =>
      cases hr
      obtain ⟨a, ys, rfl, h1, h2⟩ := dpTupR hx
      exact ⟨a, ys, rfl, .inr ⟨h1, k _ H (Same.refl H) hx⟩⟩
    | list es =>
      cases hr
      obtain ⟨a, ys, rfl, h1, h2⟩ := dpLstR hx
      exact ⟨a, ys, rfl, .inl ⟨h1, fun l hl => k _ _ (sameNew hl) (Dp.tup (SqT.of upd_same) (dpAllMono (sameNew hl) h2))⟩⟩
    | _ => cases hr
theorem cd_lst {d : PyData} {ds : List PyData} (hr : rowOf d = some ds) : CallR X (.type "list") (rDs X.K [.d d] (.d (.list ds))) :=
  crI call_list_of fun xs H Q ⟨h, k⟩ => by
    obtain ⟨x, rfl, hx⟩ := held1 h
    cases d with
    | tuple es =>
      cases hr
      obtain ⟨a, ys, rfl, h1, h2⟩ := dpTupR hx
      exact ⟨a, ys, rfl, .inr h1, fun l hl => k _ _ (sameNew hl) (Dp.lst (SqL.of upd_same) (dpAllMono (sameNew hl) h2))⟩
    | list es =>
      cases hr
      obtain ⟨a, ys, rfl, h1, h2⟩ := dpLstR hx
      exact ⟨a, ys, rfl, .inl h1, fun l hl => k _ _ (sameNew hl) (Dp.lst (SqL.of upd_same) (dpAllMono (sameNew hl) h2))⟩
    | _ => cases hr
/-! ### sorted -/
theorem eachIs_of {H : Hp} {s : Shared} : ∀ {xs : List V} {ds : List PyData} {us : List Value}, DpAll K H xs ds → Vals xs us → EachIs (fun u d => ∃ x, RelV x u ∧ Dp K H x d) us ds
  | _, _, _, .nil, .nil => .nil
  | _, _, _, .cons h t, .cons r rr => .cons ⟨_, r, h⟩ (eachIs_of (s := s) t rr)
theorem of_eachIs : ∀ {us : List Value} {ds : List PyData}, EachIs (fun u d => ∃ x, RelV x u ∧ Dp K H x d) us ds → ∃ xs : List V, Vals xs us ∧ DpAll K H xs ds
  | _, _, .nil => ⟨[], .nil, .nil⟩
  | _, _, .cons ⟨x, r, h⟩ t => let ⟨xs, q1, q2⟩ := of_eachIs t; ⟨x :: xs, .cons r q1, .cons h q2⟩
def sortD (ds : List PyData) : List PyData := ds.mergeSort (dataLe false fun d => d)
theorem cd_sorted {ds : List PyData} (hal : AllAlike ds) (hk : Sortable ds) (hu : ∀ d ∈ ds, X.A.units + 2 + d.depth < cLine) : CallR X (.builtin "sorted") (rDs X.K [.d (.list ds)] (.d (.list (sortD ds)))) := by
  intro pins s σ H xs us Q I r ⟨h, k⟩
  obtain ⟨x, rfl, hx⟩ := held1 h
  obtain ⟨a, ys, rfl, h1, h2⟩ := dpLstR hx
  obtain ⟨u, rfl, ru⟩ := vals1 r
  cases ru
  obtain ⟨its, rv, pl, hz⟩ := I.list h1
  have hl := rv.length
  have hd := dpAllLen h2
  have e := eachIs_of (s := s) h2 rv
  refine PySem.W.sorted_data (enc := fun d => d) (bs := ds) pl.isList e (e.mono fun u d ⟨x, r, hp⟩ => Dp.reads I d x u hp r) (by simpa using hal) (by simpa using hk) (by omega) hu fun out ho eo => ?_
  obtain ⟨zs, rz, dz⟩ := of_eachIs eo
  obtain ⟨ep, he'⟩ := PyProof.Rows.sortedAll_at s.heap its (List.toArray out)
  have hf : H (s.heap.objs.size + 1) = none := I.hok.fresh (Nat.le_succ _)
  have hlen : zs.length ≤ sizeLine := by
    rw [dpAllLen dz, List.length_mergeSort]
    omega
  exact ⟨.ref _, upd H (s.heap.objs.size + 1) (.lst zs), I.laid (t' := s.toks) (fun _ _ => PyProof.Rows.sortedAll_old) (Nat.le_succ _) ⟨hlen, _, ep, rz, he'⟩, rfl, k _ _ (sameNew hf) (Dp.lst (SqL.of upd_same) (dpAllMono (sameNew hf) dz))⟩
end
end Bx
namespace Bx
open PySem L2 PySem.SeqAt
open PySem.W (alike alikeAll dataLt dataLe EachIs AllAlike Sortable)
variable {K : PySem.W.Frag} {H H' H1 H2 : Hp}
section
variable {X : Cx} {x : Str} {p pos : Pos} {e a b c : Expr} {rest es : List Expr} {ρ : Ev} {w u : Sl}
/-! ### and, or, not, a if c else b -/
theorem pd_one {op} (h : PE X a (tD X.K ρ w)) : PE X (.BoolOp op [a] pos) (tD X.K ρ w) := pe_one h
theorem pd_and {k : Bool} {y : Bool} (ha : PE X a (tD X.K ρ (.d (.bool k)))) (hb : k = true → PE X (.BoolOp .And (b :: rest) pos) (tD X.K ρ (.d (.bool y)))) : PE X (.BoolOp .And (a :: b :: rest) pos) (tD X.K ρ (.d (.bool (k && y)))) :=
  peI (pe_and ha pe_w) fun σ H Q ⟨h, q⟩ => ⟨h, fun v H1 s1 q1 => ⟨k, dpBl q1, by
    cases k with
    | true => exact iteT ⟨_, hb rfl, h.mono s1, fun v H' s' q' => q v H' (s1.trans s') q'⟩
    | false => exact iteF (q _ H1 s1 (Dp.bl _))⟩⟩
theorem pd_or {k : Bool} {y : Bool} (ha : PE X a (tD X.K ρ (.d (.bool k)))) (hb : k = false → PE X (.BoolOp .Or (b :: rest) pos) (tD X.K ρ (.d (.bool y)))) : PE X (.BoolOp .Or (a :: b :: rest) pos) (tD X.K ρ (.d (.bool (k || y)))) :=
  peI (pe_or ha pe_w) fun σ H Q ⟨h, q⟩ => ⟨h, fun v H1 s1 q1 => ⟨k, dpBl q1, by
    cases k with
    | false => exact iteF ⟨_, hb rfl, h.mono s1, fun v H' s' q' => q v H' (s1.trans s') q'⟩
    | true => exact iteT (q _ H1 s1 (Dp.bl _))⟩⟩
theorem pd_not {k : Bool} (ha : PE X a (tD X.K ρ (.d (.bool k)))) : PE X (.UnaryOp .Not a pos) (tD X.K ρ (.d (.bool (!k)))) :=
  peI (pe_not ha) fun σ H Q ⟨h, q⟩ => ⟨h, fun v H1 s1 q1 => ⟨k, dpBl q1, q _ H1 s1 (Dp.bl _)⟩⟩
def wW (X : Cx) (e : Expr) : TT := fun σ H Q => ∃ t, PW X e t ∧ t σ H Q
theorem pw_w : PW X e (wW X e) := ⟨fun wh pins s σ H Q I ⟨t, h, q⟩ => h.run wh pins s σ H Q I q⟩
/-- the same as tests -/
theorem pwd_and1 {k : Bool} (ha : PT X a (tDT X.K ρ k)) : PW X (.BoolOp .And [a] pos) (tDT X.K ρ k) := pw_and1 ha
theorem pwd_or1 {k : Bool} (ha : PT X a (tDT X.K ρ k)) : PW X (.BoolOp .Or [a] pos) (tDT X.K ρ k) := pw_or1 ha
theorem pwd_and {k y : Bool} (ha : PT X a (tDT X.K ρ k)) (hb : k = true → PW X (.BoolOp .And (b :: rest) pos) (tDT X.K ρ y)) : PW X (.BoolOp .And (a :: b :: rest) pos) (tDT X.K ρ (k && y)) :=
  pwI (pw_and ha pw_w) fun σ H Q ⟨h, q⟩ => ⟨h, fun H1 s1 => by
    cases k with
    | true => exact iteT ⟨_, hb rfl, h.mono s1, fun H' s' => q H' (s1.trans s')⟩
    | false => exact iteF (q H1 s1)⟩
theorem pwd_or {k y : Bool} (ha : PT X a (tDT X.K ρ k)) (hb : k = false → PW X (.BoolOp .Or (b :: rest) pos) (tDT X.K ρ y)) : PW X (.BoolOp .Or (a :: b :: rest) pos) (tDT X.K ρ (k || y)) :=
  pwI (pw_or ha pw_w) fun σ H Q ⟨h, q⟩ => ⟨h, fun H1 s1 => by
    cases k with
    | false => exact iteF ⟨_, hb rfl, h.mono s1, fun H' s' => q H' (s1.trans s')⟩
    | true => exact iteT (q H1 s1)⟩
theorem ptd_not {k : Bool} (ha : PT X a (tDT X.K ρ k)) : PT X (.UnaryOp .Not a pos) (tDT X.K ρ (!k)) :=
  ptI (pt_not ha) fun σ H Q ⟨h, q⟩ => ⟨h, fun H1 s1 => q H1 s1⟩
theorem ptd_w {k : Bool} (h : PW X e (tDT X.K ρ k)) : PT X e (tDT X.K ρ k) := h.pt
theorem pd_ifE {k : Bool} (hc : PT X c (tDT X.K ρ k)) (ha : k = true → PE X a (tD X.K ρ w)) (hb : k = false → PE X b (tD X.K ρ w)) : PE X (.IfExp c a b pos) (tD X.K ρ w) :=
  peI (pe_ifExp hc pe_w pe_w) fun σ H Q ⟨h, q⟩ => ⟨h, fun H1 s1 => by
    cases k with
    | true => exact iteT ⟨_, ha rfl, h.mono s1, fun v H' s' q' => q v H' (s1.trans s') q'⟩
    | false => exact iteF ⟨_, hb rfl, h.mono s1, fun v H' s' q' => q v H' (s1.trans s') q'⟩⟩
/-- a op b op' c -/
theorem pd_chain {op op' : CmpOp} {k y : Bool} {z : Sl} (ho : OpR X (compareOp op) (rD X.K w u (.d (.bool k)))) (ho' : OpR X (compareOp op') (rD X.K u z (.d (.bool y)))) (ha : PE X a (tD X.K ρ w)) (hb : PE X b (tD X.K ρ u)) (hc : PE X c (tD X.K ρ z))
    (hm : lastMarks [op, op'] [b, c] = false) : PE X (.Compare a [op, op'] [b, c] pos) (tD X.K ρ (.d (.bool (k && y)))) :=
  peI (pe_chain ho ho' ha hb hc hm) fun σ H Q ⟨h, q⟩ => ⟨h, fun v H1 s1 q1 => ⟨h.mono s1, fun v2 H2 s2 q2 => ⟨q1.mono s2, q2, fun v3 H3 s3 q3 => by
    have e := dpBl q3
    subst e
    refine ⟨k, rfl, ?_⟩
    cases k with
    | true => exact iteT ⟨h.mono ((s1.trans s2).trans s3), fun v4 H4 s4 q4 => ⟨q2.mono (s3.trans s4), q4, fun v5 H5 s5 q5 => q v5 H5 ((((s1.trans s2).trans s3).trans s4).trans s5) q5⟩⟩
    | false => exact iteF (q _ H3 ((s1.trans s2).trans s3) (Dp.bl _))⟩⟩⟩
/-! ### in -/
theorem od_in {d x : PyData} {ds : List PyData} (hr : rowOf d = some ds) (hx : x.canLay0 = true) (hd : PyData.canLayAll0 ds = true) (hu : X.A.units + 1 + min (PyData.depthAll ds) x.depth < cLine) :
    OpR X (compareOp .In) (rD X.K (.d x) (.d d) (.d (.bool (ds.any fun y => PyData.eqv y x)))) := by
  intro pins s σ H p q v u Q I rx ry ⟨hp, hq, k⟩
  obtain ⟨as, r1⟩ := Dp.reads I _ _ _ hp rx
  obtain ⟨bs, r2⟩ := Dp.reads I _ _ _ hq ry
  cases d with
  | tuple es =>
    cases hr
    exact in_tuple_reads r2 r1 hd hx hu ⟨.bl _, H, I, rfl, k _ H (Same.refl H) (Dp.bl _)⟩
  | list es =>
    cases hr
    exact in_list_reads r2 r1 hd hx hu ⟨.bl _, H, I, rfl, k _ H (Same.refl H) (Dp.bl _)⟩
  | _ => cases hr
theorem od_notIn {d x : PyData} {ds : List PyData} (hr : rowOf d = some ds) (hx : x.canLay0 = true) (hd : PyData.canLayAll0 ds = true) (hu : X.A.units + 1 + min (PyData.depthAll ds) x.depth < cLine) :
    OpR X (compareOp .NotIn) (rD X.K (.d x) (.d d) (.d (.bool (!ds.any fun y => PyData.eqv y x)))) := by
  intro pins s σ H p q v u Q I rx ry ⟨hp, hq, k⟩
  obtain ⟨as, r1⟩ := Dp.reads I _ _ _ hp rx
  obtain ⟨bs, r2⟩ := Dp.reads I _ _ _ hq ry
  cases d with
  | tuple es =>
    cases hr
    exact notIn_tuple_reads r2 r1 hd hx hu ⟨.bl _, H, I, rfl, k _ H (Same.refl H) (Dp.bl _)⟩
  | list es =>
    cases hr
    exact notIn_list_reads r2 r1 hd hx hu ⟨.bl _, H, I, rfl, k _ H (Same.refl H) (Dp.bl _)⟩
  | _ => cases hr
/-! ### dicts from ints -/
theorem dcLook : ∀ {kvs : List (Int × PyData)} {ws : List (Key × V)}, DcP K H kvs ws → ∀ n : Int, (kvs.lookup n = none → valV ws (Sum.inl n) = none) ∧ ∀ d, kvs.lookup n = some d → ∃ v, valV ws (Sum.inl n) = some v ∧ Dp K H v d
  | _, _, .nil, n => ⟨fun _ => rfl, fun d h => by cases h⟩
  | (m, d') :: kvs, q :: ws, .cons ⟨h1, h2⟩ t, n => by
    have ih := dcLook t n
    by_cases e : n = m
    · subst e
      refine ⟨fun h => ?_, fun d h => ?_⟩
      · simp [List.lookup_cons] at h
      · simp [List.lookup_cons] at h
        subst h
        exact ⟨q.2, valV_pos h1, h2⟩
    · have ne : (n == m) = false := by simpa using e
      have nk : ¬ q.1 = Sum.inl n := fun z => e (by rw [h1] at z; exact (Sum.inl.inj z).symm)
      rw [List.lookup_cons, ne, valV_neg nk]
      exact ih
theorem pd_dget {kvs : List (Int × PyData)} {n : Int} {d : PyData} (hu : X.A.units + 1 < cLine) (ho : PE X a (tD X.K ρ (.dc kvs))) (hi : PE X b (tD X.K ρ (.d (.int n)))) (hl : kvs.lookup n = some d) (hs : NoSl b) : PE X (.Subscript a b pos) (tD X.K ρ (.d d)) :=
  peI (pe_dget hu ho hi hs) fun σ H Q ⟨h, q⟩ => ⟨h, fun v H1 s1 q1 => ⟨h.mono s1, fun v2 H2 s2 q2 => by
    obtain ⟨D, ws, rfl, hD, hw⟩ := q1.mono s2
    have := dpInt q2
    subst this
    obtain ⟨v, h1, h2⟩ := (dcLook hw n).2 d hl
    exact ⟨D, v, rfl, by rw [← h1]; exact DGet.k (k := Sum.inl n) hD, q v H2 (s1.trans s2) h2⟩⟩⟩
theorem dcHas {kvs : List (Int × PyData)} {ws : List (Key × V)} (h : DcP K H kvs ws) (n : Int) : (valV ws (Sum.inl n)).isSome = (kvs.lookup n).isSome := by
  cases e : kvs.lookup n with
  | none => rw [(dcLook h n).1 e]; rfl
  | some d =>
    obtain ⟨v, h1, _⟩ := (dcLook h n).2 d e
    rw [h1]; rfl
theorem pd_din {kvs : List (Int × PyData)} {n : Int} (hu : X.A.units + 1 < cLine) (hi : PE X a (tD X.K ρ (.d (.int n)))) (ho : PE X b (tD X.K ρ (.dc kvs))) (hm : behindInMarks .In b = false) : PE X (.Compare a [.In] [b] pos) (tD X.K ρ (.d (.bool (kvs.lookup n).isSome))) :=
  peI (pe_cmp (pc_din hu hi ho) hm) fun σ H Q ⟨h, q⟩ => ⟨h, fun v H1 s1 q1 => ⟨h.mono s1, fun v2 H2 s2 q2 => by
    obtain ⟨D, ws, rfl, hD, hw⟩ := q2
    have := dpInt q1
    subst this
    exact ⟨D, _, rfl, DGet.k (k := Sum.inl n) hD, by rw [dcHas hw]; exact q _ H2 (s1.trans s2) (Dp.bl _)⟩⟩⟩
theorem ptd_din {kvs : List (Int × PyData)} {n : Int} (hu : X.A.units + 1 < cLine) (hi : PE X a (tD X.K ρ (.d (.int n)))) (ho : PE X b (tD X.K ρ (.dc kvs))) (hm : behindInMarks .In b = false) : PT X (.Compare a [.In] [b] pos) (tDT X.K ρ (kvs.lookup n).isSome) :=
  ptI (pt_cmp (pc_din hu hi ho) hm) fun σ H Q ⟨h, q⟩ => ⟨h, fun v H1 s1 q1 => ⟨h.mono s1, fun v2 H2 s2 q2 => by
    obtain ⟨D, ws, rfl, hD, hw⟩ := q2
    have := dpInt q1
    subst this
    exact ⟨D, _, rfl, DGet.k (k := Sum.inl n) hD, _, rfl, by rw [dcHas hw]; exact q H2 (s1.trans s2)⟩⟩⟩
theorem merge_nd : ∀ (more acc : List (Key × V)), ((acc ++ more).map (·.1)).Nodup → mergeK acc more = acc ++ more
  | [], acc, _ => by simp [mergeK]
  | kv :: more, acc, h => by
    have hn : valV acc kv.1 = none := by
      unfold valV
      rw [Option.map_eq_none_iff, List.find?_eq_none]
      intro q hq
      simp only [decide_eq_true_eq]
      intro e
      rw [List.map_append, List.map_cons, List.nodup_append] at h
      exact h.2.2 q.1 (List.mem_map.mpr ⟨q, hq, rfl⟩) kv.1 (List.mem_cons_self ..) e
    show mergeK (putK acc kv.1 kv.2) more = _
    rw [putK_new _ hn]
    have e : acc ++ kv :: more = (acc ++ [(kv.1, kv.2)]) ++ more := by simp
    rw [e] at h ⊢
    exact merge_nd more _ h
/-- the pairs that make a dict -/
def pairsD (kvs : List (Int × PyData)) : List PyData := kvs.map fun p => .tuple [.int p.1, p.2]
theorem pairs_split : ∀ {kvs : List (Int × PyData)} {xs : List V}, DpAll K H xs (pairsD kvs) → ∃ (ps : List Addr) (ws : List (Key × V)), xs = ps.map V.ref ∧ Paired (fun p kv => SqT K H p [kV kv.1, kv.2]) ps ws ∧ DcP K H kvs ws ∧ ws.map (·.1) = kvs.map fun p => Sum.inl p.1
  | [], _, .nil => ⟨[], [], rfl, .nil, .nil, rfl⟩
  | (n, d) :: kvs, _, .cons h t => by
    obtain ⟨ps, ws, rfl, q1, q2, q3⟩ := pairs_split t
    obtain ⟨a, ys, rfl, h1, h2⟩ := dpTupR h
    cases h2 with
    | cons hn h2 =>
      cases h2 with
      | cons hd h2 =>
        cases h2
        have := dpInt hn
        subst this
        exact ⟨a :: ps, (Sum.inl n, _) :: ws, rfl, .cons h1 q1, .cons ⟨rfl, hd⟩ q2, by simp [q3]⟩
theorem cd_dict (hc : X.calm = true) {kvs : List (Int × PyData)} (hn : (kvs.map (·.1)).Nodup) : CallR X (.type "dict") (rDs X.K [.d (.list (pairsD kvs))] (.dc kvs)) :=
  crI (call_dictP hc) fun xs H Q ⟨h, k⟩ => by
    obtain ⟨x, rfl, hx⟩ := held1 h
    obtain ⟨a, ys, rfl, h1, h2⟩ := dpLstR hx
    obtain ⟨ps, ws, rfl, q1, q2, q3⟩ := pairs_split h2
    refine ⟨a, ps, ws, rfl, h1, q1, fun p hp => k _ _ (sameNew hp) ⟨p, ws, rfl, ?_, q2.mono (sameNew hp)⟩⟩
    rw [upd_same, merge_nd ws [] ?_, List.nil_append]
    rw [List.nil_append, q3]
    have : (kvs.map fun p => (Sum.inl p.1 : Key)) = (kvs.map (·.1)).map Sum.inl := by simp
    rw [this]
    exact List.Pairwise.map _ (fun a b h z => h (Sum.inl.inj z)) hn
/-! ### isinstance -/
theorem pd_isi {T : String} {d : PyData} {y : Bool} {p1 p2 pos : Pos} {x : Str} (hg : Gl X "isinstance") (hm : X.mg "isinstance" = none) (ha : PE X a (tD X.K ρ (.d d))) (hgT : Gl X x) (hmT : X.mg x = none) (hvT : bootBuiltins x = some (.type T)) (hnT : x ≠ "__name__") (hdT : (x == ("__debug__" : Str)) = false)
    (rule : ∀ (s : Shared) (u : Value) (as : List Addr) (Q : Value → Shared → Prop), Reads s.heap u d as → (∀ tk, Q (.bool y) { s with toks := tk }) → wpAny (model X.prog X.w) X.A (call (.builtin "isinstance") [u, .type T]) Q X.xe s)
    (he : starEach [a, .Name x p2] X.env = (false, eval a X.env) :: starEach [.Name x p2] X.env := by rfl) (he2 : starEach [.Name x p2] X.env = (false, eval (.Name x p2) X.env) :: starEach [] X.env := by rfl) (hpl : (backTo pos (starEach [.Name x p2] X.env)).any (·.1) = false := by rfl) :
    PE X (.Call (.Name "isinstance" p1) [a, .Name x p2] [] pos) (tD X.K ρ (.d (.bool y))) := by
  have hT : PE X (.Name x p2) (tC (.ty T)) := pe_bltn hgT hmT hvT rfl hnT hdT
  have hc : CallR X (.builtin "isinstance") (fun vs H Q => ∃ v, vs = [v, .ty T] ∧ Dp X.K H v d ∧ Q (.bl y) H) := by
    intro pins s σ H vs us Q I r ⟨v, e, hd, q⟩
    subst e
    obtain ⟨u, w', rfl, r1, r2⟩ := vals2 r
    cases r2
    obtain ⟨as, rr⟩ := Dp.reads I d v u hd r1
    exact rule s u as _ rr fun tk => ⟨.bl y, H, I.tok tk, rfl, q⟩
  exact peI (pe_callB hc hg hm PyProof.Rows.boot_isinstance (pa_cons ha (pa_cons hT pa_nil he2) he) (by decide) (by decide) he hpl) fun σ H Q ⟨h, q⟩ => ⟨h, fun v H1 s1 q1 => ⟨v, rfl, q1, q _ H1 s1 (Dp.bl _)⟩⟩
theorem pd_isInt {d : PyData} {p1 p2 pos : Pos} (hg : Gl X "isinstance") (hm : X.mg "isinstance" = none) (ha : PE X a (tD X.K ρ (.d d))) (hgT : Gl X "int") (hmT : X.mg "int" = none)
    (he : starEach [a, .Name "int" p2] X.env = (false, eval a X.env) :: starEach [.Name "int" p2] X.env := by rfl) :
    PE X (.Call (.Name "isinstance" p1) [a, .Name "int" p2] [] pos) (tD X.K ρ (.d (.bool d.isInt))) :=
  pd_isi hg hm ha hgT hmT PyProof.Rows.boot_int (by decide) (by decide) (fun s u as Q r h => PySem.W.isinstance_int_data r fun tk _ => h tk) he
theorem pd_isBool {d : PyData} {p1 p2 pos : Pos} (hg : Gl X "isinstance") (hm : X.mg "isinstance" = none) (ha : PE X a (tD X.K ρ (.d d))) (hgT : Gl X "bool") (hmT : X.mg "bool" = none)
    (he : starEach [a, .Name "bool" p2] X.env = (false, eval a X.env) :: starEach [.Name "bool" p2] X.env := by rfl) :
    PE X (.Call (.Name "isinstance" p1) [a, .Name "bool" p2] [] pos) (tD X.K ρ (.d (.bool d.isBool))) :=
  pd_isi hg hm ha hgT hmT PyProof.Rows.boot_bool (by decide) (by decide) (fun s u as Q r h => PySem.W.isinstance_bool_data r fun tk _ => h tk) he
theorem pd_isTup {d : PyData} {p1 p2 pos : Pos} (hg : Gl X "isinstance") (hm : X.mg "isinstance" = none) (ha : PE X a (tD X.K ρ (.d d))) (hgT : Gl X "tuple") (hmT : X.mg "tuple" = none)
    (he : starEach [a, .Name "tuple" p2] X.env = (false, eval a X.env) :: starEach [.Name "tuple" p2] X.env := by rfl) :
    PE X (.Call (.Name "isinstance" p1) [a, .Name "tuple" p2] [] pos) (tD X.K ρ (.d (.bool d.isTuple))) :=
  pd_isi hg hm ha hgT hmT PyProof.Rows.boot_tuple (by decide) (by decide) (fun s u as Q r h => PySem.W.isinstance_tuple_data r fun tk _ => h tk) he
theorem pd_isStr {d : PyData} {p1 p2 pos : Pos} (hg : Gl X "isinstance") (hm : X.mg "isinstance" = none) (ha : PE X a (tD X.K ρ (.d d))) (hgT : Gl X "str") (hmT : X.mg "str" = none)
    (he : starEach [a, .Name "str" p2] X.env = (false, eval a X.env) :: starEach [.Name "str" p2] X.env := by rfl) :
    PE X (.Call (.Name "isinstance" p1) [a, .Name "str" p2] [] pos) (tD X.K ρ (.d (.bool d.isStr))) :=
  pd_isi hg hm ha hgT hmT PyProof.Rows.boot_str (by decide) (by decide) (fun s u as Q r h => PySem.W.isinstance_str_data r fun tk _ => h tk) he
end
end Bx
/-! A list of the def's own that grows: it stands in slot i, its items as data; all else is data that don't lean on it. -/
namespace Bx
open PySem L2 PySem.SeqAt
/-- the slots, the list itself by its address -/
abbrev wi (ρ : Ev) (i : Nat) (L : Addr) : Ev := ρ.set i (some (.v (.ref L)))
structure Own (K : PySem.W.Frag) (i : Nat) (ρ : Ev) (ds : List PyData) (L : Addr) (σ : L2.St) (H : Hp) : Prop where
  ex : ∃ vs, H L = some (.lst vs) ∧ DpAll K (msk L H) vs ds
  held : Held K (msk L H) σ (wi ρ i L)
  lt : i < ρ.length
inductive OutO where
  | ret (w : Sl)
  | nxt (ρ : Ev) (ds : List PyData)
def OutO.want (K : PySem.W.Frag) (i : Nat) (L : Addr) (D : Ends) (H : Hp) : OutO → Prop
  | .ret w => ∀ v H', Same (msk L H) H' → HeldV K H' v w → D.rt v H'
  | .nxt ρ ds => ∀ σ H', Same (msk L H) (msk L H') → Own K i ρ ds L σ H' → D.nx σ H'
def tOS (K : PySem.W.Frag) (i : Nat) (ρ : Ev) (ds : List PyData) (o : OutO) : TS := fun D σ H => ∃ L, Own K i ρ ds L σ H ∧ o.want K i L D H
theorem OutO.want.mono {K : PySem.W.Frag} {i : Nat} {L : Addr} {D : Ends} {H H' : Hp} (e : Same (msk L H) (msk L H')) : ∀ {o : OutO}, o.want K i L D H → o.want K i L D H'
  | .ret _, h => fun v H2 s q => h v H2 (e.trans s) q
  | .nxt _ _, h => fun v H2 s q => h v H2 (e.trans s) q
theorem Own.slot {K : PySem.W.Frag} {i : Nat} {ρ : Ev} {ds : List PyData} {L : Addr} {σ : L2.St} {H : Hp} (h : Own K i ρ ds L σ H) : σ[i]? = some (some (.ref L)) := by
  obtain ⟨v, e, q⟩ := h.held.at_ i (.v (.ref L)) (List.getElem?_set_self h.lt)
  have : v = .ref L := q
  rw [e, this]
section
variable {X : Cx} {i : Nat} {ρ ρ' : Ev} {ds ds' : List PyData} {o : OutO} {st : Stmt} {sts rest : List Stmt} {e c tg iter : Expr} {w : Sl} {pos : Pos}
theorem same_upd {L : Addr} {H : Hp} {o : HO} (h : H L = none) : Same H (upd H L o) := sameNew h
/-- a new list at a name -/
theorem own_new {x : Str} {pos' p : Pos} (hN : X.N.Nodup) (hi : X.N[i]? = some x) (hx : Loc X.env.scope x) (hl : i < ρ.length) (h : PSs X rest (tOS X.K i ρ [] (.ret w))) (hs : swapsWith (.List [] p) (some (.Name x pos')) pos.line X.env = pure false := by rfl)
    (hf : X.fn x = true ∨ X.env.scope.names.lookup x = some .local := by first | exact Or.inl rfl | exact Or.inr rfl) : PSs X (.Assign [.Name x pos'] (.List [] p) pos :: rest) (tDS X.K ρ (.ret w)) :=
  pssI (pss_cons (ps_set hN hi hx (pe_lst pa_nil) hs hf) h) fun D σ H ⟨hh, k⟩ => ⟨by show 0 ≤ sizeLine; decide, fun p hp => ⟨p, ⟨⟨[], upd_same, by rw [msk_upd hp]; exact .nil⟩, by rw [msk_upd hp]; exact hh.set i rfl, hl⟩, fun v H' s q => k v H' (by rw [msk_upd hp] at s; exact s) q⟩⟩
theorem own_seq (h1 : PS X st (tOS X.K i ρ ds (.nxt ρ' ds'))) (h2 : PSs X sts (tOS X.K i ρ' ds' o)) : PSs X (st :: sts) (tOS X.K i ρ ds o) :=
  pssI (pss_cons h1 h2) fun D σ H ⟨L, h, k⟩ => ⟨L, h, fun σ' H' s q => ⟨L, q, k.mono s⟩⟩
theorem own_one (h1 : PS X st (tOS X.K i ρ ds o)) : PSs X [st] (tOS X.K i ρ ds o) := pssI (pss_one h1) fun D σ H h => h
theorem own_nil : PSs X [] (tOS X.K i ρ ds (.nxt ρ ds)) := pssI pss_nil fun D σ H ⟨L, h, k⟩ => k σ H (Same.refl _) h
/-- what doesn't touch the list -/
theorem own_pure (h : ∀ L, PS X st (tDS X.K (wi ρ i L) (.nxt (wi ρ' i L)))) (hl : ρ'.length = ρ.length) : PS X st (tOS X.K i ρ ds (.nxt ρ' ds)) :=
  ⟨fun pins s σ H D I ⟨L, hO, k⟩ => by
    obtain ⟨vs, hL, hd⟩ := hO.ex
    refine (ps_fr (h L) L).run pins s σ H D I ⟨vs, hL, hO.held, fun σ' H' sm q hn => k σ' _ ?_ ⟨⟨vs, upd_same, ?_⟩, ?_, by rw [hl]; exact hO.lt⟩⟩
    · rw [msk_upd hn]; exact sm
    · rw [msk_upd hn]; exact dpAllMono sm hd
    · rw [msk_upd hn]; exact q⟩
theorem own_pures (h : ∀ L, PSs X sts (tDS X.K (wi ρ i L) (.nxt (wi ρ' i L)))) (hl : ρ'.length = ρ.length) : PSs X sts (tOS X.K i ρ ds (.nxt ρ' ds)) :=
  ⟨fun pins s σ H D I ⟨L, hO, k⟩ => by
    obtain ⟨vs, hL, hd⟩ := hO.ex
    refine (pss_fr (h L) L).run pins s σ H D I ⟨vs, hL, hO.held, fun σ' H' sm q hn => k σ' _ ?_ ⟨⟨vs, upd_same, ?_⟩, ?_, by rw [hl]; exact hO.lt⟩⟩
    · rw [msk_upd hn]; exact sm
    · rw [msk_upd hn]; exact dpAllMono sm hd
    · rw [msk_upd hn]; exact q⟩
theorem own_ret (h : ∀ L, PSs X sts (tDS X.K (wi ρ i L) (.ret w))) : PSs X sts (tOS X.K i ρ ds (.ret w)) :=
  ⟨fun pins s σ H D I ⟨L, hO, k⟩ => by
    obtain ⟨vs, hL, hd⟩ := hO.ex
    refine (pss_fr (h L) L).run pins s σ H D I ⟨vs, hL, hO.held, fun v H' sm q hn => k v _ (sm.trans (same_upd hn)) (q.mono (same_upd hn))⟩⟩
/-- from here on the list is data -/
theorem own_data (h : PSs X sts (tDS X.K (ρ.set i (some (.d (.list ds)))) (.ret w))) : PSs X sts (tOS X.K i ρ ds (.ret w)) :=
  pssI h fun D σ H ⟨L, hO, k⟩ => by
    obtain ⟨vs, hL, hd⟩ := hO.ex
    have sm : Same (msk L H) H := msk_le
    refine ⟨?_, fun v H' s q => k v H' (sm.trans s) q⟩
    have h1 := (hO.held.mono sm).set i (v := .ref L) (w := .d (.list ds)) (Dp.lst (SqL.of hL) (dpAllMono sm hd))
    have e1 : (wi ρ i L).set i (some (.d (.list ds))) = ρ.set i (some (.d (.list ds))) := by simp [wi]
    have e2 : σ.set i (some (.ref L)) = σ := by
      have hs := hO.slot
      apply List.ext_getElem?
      intro j
      by_cases hj : i = j
      · subst hj
        rw [List.getElem?_set_self (List.getElem?_eq_some_iff.mp hs).1, hs]
      · rw [List.getElem?_set_ne hj]
    rw [e1, e2] at h1
    exact h1
theorem own_if {a b : List Stmt} {k : Bool} (hc : ∀ L, PT X c (tDT X.K (wi ρ i L) k)) (ha : k = true → PSs X a (tOS X.K i ρ ds o)) (hb : k = false → PSs X b (tOS X.K i ρ ds o)) : PS X (.If c a b pos) (tOS X.K i ρ ds o) :=
  ⟨fun pins s σ H D I ⟨L, hO, q⟩ => by
    obtain ⟨vs, hL, hd⟩ := hO.ex
    refine (ps_if (pt_fr (hc L) L) pss_w pss_w).run pins s σ H D I ⟨vs, hL, hO.held, fun H' sm hn => ?_⟩
    have hO' : Own X.K i ρ ds L σ (upd H' L (.lst vs)) := ⟨⟨vs, upd_same, by rw [msk_upd hn]; exact dpAllMono sm hd⟩, by rw [msk_upd hn]; exact hO.held.mono sm, hO.lt⟩
    have sm' : Same (msk L H) (msk L (upd H' L (.lst vs))) := by rw [msk_upd hn]; exact sm
    cases k with
    | true => exact iteT ⟨_, ha rfl, L, hO', q.mono sm'⟩
    | false => exact iteF ⟨_, hb rfl, L, hO', q.mono sm'⟩⟩
/-- x.append(e) -/
theorem own_app {x : Str} {y : PyData} {p1 apos cpos pos : Pos} (hi : X.N[i]? = some x) (hv : Vis X.env.scope x) (he : ∀ L, PE X e (tD X.K (wi ρ i L) (.d y))) (hz : ds.length < 100000) (hd : (x == ("__debug__" : Str)) = false := by decide) (hcd : (x == ("__classdict__" : Str)) = false := by decide)
    (hs : swapsWith (.Call (.Attribute (.Name x p1) "append" apos) [e] [] cpos) none pos.line X.env = pure false := by rfl)
    (hbase : attributeBase (.Name x p1) "append" X.env (eval (.Name x p1) X.env) = eval (.Name x p1) X.env := by rfl)
    (hfew : ((backTo cpos (starEach [e] X.env)).all (fun x => !x.1) && (backToKw cpos (keywordEach [] X.env)).all (fun x => x.1.isSome) && decide ([e].length + ([] : List Keyword).length + (if ([] : List Keyword).isEmpty then 0 else 1) < 30)) = true := by rfl)
    (hline : (apos.endLine == cpos.line) = true := by rfl) (he1 : starEach [e] X.env = (false, eval e X.env) :: starEach [] X.env := by rfl) (hplain : (backTo cpos (starEach [] X.env)).any (·.1) = false := by rfl) :
    PS X (.Expr (.Call (.Attribute (.Name x p1) "append" apos) [e] [] cpos) pos) (tOS X.K i ρ ds (.nxt ρ (ds ++ [y]))) :=
  ⟨fun pins s σ H D I ⟨L, hO, k⟩ => by
    obtain ⟨vs, hL, hdd⟩ := hO.ex
    refine (ps_expr (pe_bm PySem.F.plainAttrs_list PySem.F.slot_list_append PySem.F.type_list_append mt_append (pe_var hi hv hd hcd) (pa_cons (pe_fr (he L) L) pa_nil he1) hbase hfew hline he1 hplain) hs).run pins s σ H D I
      ⟨_, hO.slot, .inl ⟨rfl, vs, SqL.of hL⟩, vs, hL, hO.held, fun v H' sm q hn => ⟨L, vs, v, rfl, rfl, upd_same, by rw [dpAllLen hdd, sizeLine_eq]; omega, k σ _ ?_ ⟨⟨vs ++ [v], upd_same, ?_⟩, ?_, hO.lt⟩⟩⟩
    · rw [upd_upd, msk_upd hn]; exact sm
    · rw [upd_upd, msk_upd hn]; exact dpAllApp (dpAllMono sm hdd) (.cons q .nil)
    · rw [upd_upd, msk_upd hn]; exact hO.held.mono sm⟩
/-- x.extend(list(e)) -/
theorem own_ext {x : Str} {y : PyData} {ys : List PyData} {p1 p2 p3 apos cpos pos : Pos} (hi : X.N[i]? = some x) (hv : Vis X.env.scope x) (hg : Gl X "list") (hm : X.mg "list" = none) (he : ∀ L, PE X e (tD X.K (wi ρ i L) (.d y))) (hr : rowOf y = some ys) (hz : ds.length + ys.length < 100000) (hd : (x == ("__debug__" : Str)) = false := by decide) (hcd : (x == ("__classdict__" : Str)) = false := by decide)
    (hs : swapsWith (.Call (.Attribute (.Name x p1) "extend" apos) [.Call (.Name "list" p2) [e] [] p3] [] cpos) none pos.line X.env = pure false := by rfl)
    (hbase : attributeBase (.Name x p1) "extend" X.env (eval (.Name x p1) X.env) = eval (.Name x p1) X.env := by rfl)
    (hfew : ((backTo cpos (starEach [.Call (.Name "list" p2) [e] [] p3] X.env)).all (fun x => !x.1) && (backToKw cpos (keywordEach [] X.env)).all (fun x => x.1.isSome) && decide ([Expr.Call (.Name "list" p2) [e] [] p3].length + ([] : List Keyword).length + (if ([] : List Keyword).isEmpty then 0 else 1) < 30)) = true := by rfl)
    (hline : (apos.endLine == cpos.line) = true := by rfl) (he1 : starEach [e] X.env = (false, eval e X.env) :: starEach [] X.env := by rfl) (hplain : (backTo cpos (starEach [] X.env)).any (·.1) = false := by rfl) (hplain3 : (backTo p3 (starEach [] X.env)).any (·.1) = false := by rfl)
    (he2 : starEach [.Call (.Name "list" p2) [e] [] p3] X.env = (false, eval (.Call (.Name "list" p2) [e] [] p3) X.env) :: starEach [] X.env := by rfl) :
    PS X (.Expr (.Call (.Attribute (.Name x p1) "extend" apos) [.Call (.Name "list" p2) [e] [] p3] [] cpos) pos) (tOS X.K i ρ ds (.nxt ρ (ds ++ ys))) :=
  ⟨fun pins s σ H D I ⟨L, hO, k⟩ => by
    obtain ⟨vs, hL, hdd⟩ := hO.ex
    refine (ps_expr (pe_bm PySem.F.plainAttrs_list PySem.F.slot_list_extend PySem.F.type_list_extend mt_extend (pe_var hi hv hd hcd) (pa_cons (pe_callTy call_list_of hg hm PyProof.Rows.boot_list (pa_cons (pe_fr (he L) L) pa_nil he1) (by decide) (by decide) he1 hplain3) pa_nil he2) hbase hfew hline he2 hplain) hs).run pins s σ H D I
      ⟨_, hO.slot, .inl ⟨rfl, vs, SqL.of hL⟩, vs, hL, hO.held, fun v H' sm q hn => ?_⟩
    have fin : ∀ (a : Addr) (zs : List V), v = .ref a → (SqL X.K H' a zs ∨ SqT X.K H' a zs) → DpAll X.K H' zs ys → (SqL X.K (upd H' L (.lst vs)) a zs ∨ SqT X.K (upd H' L (.lst vs)) a zs) ∧ ∀ l, (upd H' L (.lst vs)) l = none → rExtend (.ref L) [.ref l] (upd (upd H' L (.lst vs)) l (.lst zs)) (fun _ H1 => D.nx σ H1) := by
      intro a zs e1 h1 h2
      refine ⟨?_, fun l hl => ?_⟩
      · rcases h1 with h1 | h1
        · exact .inl ((same_upd hn).seq h1)
        · exact .inr (sameT (same_upd hn) h1)
      · have nl : L ≠ l := fun z => by rw [← z, upd_same] at hl; cases hl
        have hl' : H' l = none := by rw [upd_ne nl.symm] at hl; exact hl
        refine ⟨L, l, vs, zs, rfl, rfl, by rw [upd_ne nl, upd_same], upd_same, by rw [dpAllLen hdd, dpAllLen h2, sizeLine_eq]; omega, k σ _ ?_ ?_⟩
        · rw [msk_upd2]
          refine sm.trans fun b u eb => ?_
          have hb : b ≠ L := ne_of_none eb hn
          have hb2 : b ≠ l := ne_of_none eb hl'
          rw [msk_ne hb, upd_ne hb2, upd_ne hb]
          exact eb
        · have s2 : Same H' (msk L (upd (upd (upd H' L (.lst vs)) l (.lst zs)) L (.lst (vs ++ zs)))) := by
            rw [msk_upd2]
            intro b u eb
            have hb : b ≠ L := ne_of_none eb hn
            have hb2 : b ≠ l := ne_of_none eb hl'
            rw [msk_ne hb, upd_ne hb2, upd_ne hb]
            exact eb
          exact ⟨⟨vs ++ zs, upd_same, dpAllApp (dpAllMono (sm.trans s2) hdd) (dpAllMono s2 h2)⟩, hO.held.mono (sm.trans s2), hO.lt⟩
    cases y with
    | tuple es =>
      cases hr
      obtain ⟨a, zs, e1, h1, h2⟩ := dpTupR q
      obtain ⟨f1, f2⟩ := fin a zs e1 (.inr h1) h2
      exact ⟨a, zs, by rw [e1], f1, f2⟩
    | list es =>
      cases hr
      obtain ⟨a, zs, e1, h1, h2⟩ := dpLstR q
      obtain ⟨f1, f2⟩ := fin a zs e1 (.inl h1) h2
      exact ⟨a, zs, by rw [e1], f1, f2⟩
    | _ => cases hr⟩
/-- less is known -/
def Less (ρ' ρ : Ev) : Prop := ρ'.length = ρ.length ∧ ∀ (j : Nat) x, ρ'[j]? = some (some x) → ρ[j]? = some (some x)
theorem Less.set {ρ' ρ : Ev} (h : Less ρ' ρ) (i : Nat) (z : Option Sl) : Less (ρ'.set i z) (ρ.set i z) := by
  refine ⟨by simp [h.1], fun j x e => ?_⟩
  by_cases hj : i = j
  · subst hj
    have hlt : i < ρ'.length := by
      have := (List.getElem?_eq_some_iff.mp e).1
      simpa using this
    rw [List.getElem?_set_self hlt] at e
    rw [List.getElem?_set_self (by rw [← h.1]; exact hlt)]
    exact e
  · rw [List.getElem?_set_ne hj] at e ⊢
    exact h.2 j x e
theorem Own.less {K : PySem.W.Frag} {L : Addr} {σ : L2.St} {H : Hp} (h : Own K i ρ ds L σ H) (l : Less ρ' ρ) : Own K i ρ' ds L σ H :=
  ⟨h.ex, h.held.weak (l.set i _).1 (l.set i _).2, by rw [l.1]; exact h.lt⟩
theorem own_less (l : Less ρ' ρ) (h : PSs X sts (tOS X.K i ρ' ds o)) : PSs X sts (tOS X.K i ρ ds o) := pssI h fun D σ H ⟨L, hO, k⟩ => ⟨L, hO.less l, k⟩
/-- a loop whose turns may let the list grow -/
inductive LoopO (X : Cx) (i : Nat) (tg : Expr) (body : List Stmt) : List PyData → Ev → List PyData → OutO → Prop where
  | done {ρ : Ev} {ds : List PyData} : LoopO X i tg body [] ρ ds (.nxt ρ ds)
  | next {d : PyData} {xs ds ds2 : List PyData} {ρ ρ1 ρ2 ρ3 : Ev} {vs : List Nat} {o : OutO} : (∀ L, PG X tg (tG X.K (wi ρ i L) d (wi ρ1 i L) vs)) → ρ1.length = ρ.length → PSs X body (tOS X.K i ρ1 ds (.nxt ρ2 ds2)) → Less ρ3 ρ2 → LoopO X i tg body xs ρ3 ds2 o → LoopO X i tg body (d :: xs) ρ ds o
  | ret {d : PyData} {xs ds : List PyData} {ρ ρ1 : Ev} {vs : List Nat} {w : Sl} : (∀ L, PG X tg (tG X.K (wi ρ i L) d (wi ρ1 i L) vs)) → ρ1.length = ρ.length → PSs X body (tOS X.K i ρ1 ds (.ret w)) → LoopO X i tg body (d :: xs) ρ ds (.ret w)
theorem own_for {body : List Stmt} {xs : List PyData} (hp : PassesOwn (model X.prog X.w) X.A X.env X.xe) (hc : X.calm = true) (hi : ∀ L, PI X tg iter (tI X.K (wi ρ i L) xs)) (hl : LoopO X i tg body xs ρ ds o) (hs : ∀ x, foldedSetIterable iter X.env x = pure x) : PS X (.For tg iter body [] pos) (tOS X.K i ρ ds o) := by
  let G : TG := fun v σ H Q => ∃ t, PG X tg t ∧ t v σ H Q
  have hG : PG X tg G := ⟨fun pins s' σ H' v u Q I r ⟨t, h, q⟩ => h.run pins s' σ H' v u Q I r q⟩
  refine ⟨fun pins s σ H D I ⟨L, hO, k⟩ => ?_⟩
  obtain ⟨vs, hL, hd⟩ := hO.ex
  refine (ps_for hp hc (pi_fr (hi L) L) hG pss_w hs).run pins s σ H D I ⟨vs, hL, hO.held, fun J H1 s1 its hn => ?_⟩
  let Pv (n : Nat) (σ : L2.St) (H2 : Hp) : Prop := Same H1 (msk L H2) ∧ ∃ ρ' ds', Own X.K i ρ' ds' L σ H2 ∧ LoopO X i tg body (xs.drop n) ρ' ds' o
  refine ⟨fun n m σ H => m = xs.length - n ∧ n ≤ xs.length ∧ Pv n σ H, ⟨xs.length, by omega, Nat.zero_le _, by rw [msk_upd hn]; exact Same.refl _, ρ, ds, ⟨⟨vs, upd_same, by rw [msk_upd hn]; exact dpAllMono s1 hd⟩, by rw [msk_upd hn]; exact hO.held.mono s1, hO.lt⟩, hl⟩, ?_⟩
  rintro n m σ2 H2 ⟨rfl, hle, sm, ρ2, ds2, o2, lp⟩
  have smH : Same H1 H2 := sm.trans msk_le
  by_cases hlt : n < xs.length
  · refine .inr ⟨its.go n H2 smH hlt, Pv (n + 1), fun σ' H' p' => ⟨xs.length - (n + 1), by omega, rfl, hlt, p'⟩, fun x H3 y => ?_⟩
    obtain ⟨B3, st3, dx⟩ := its.yld n H2 x H3 (msk L H2) sm msk_le y _ (List.getElem?_eq_getElem hlt)
    obtain ⟨ws, hL2, hd2⟩ := o2.ex
    have hL3 : H3 L = some (.lst ws) := st3.h _ _ hL2
    have s23 : Same (msk L H2) (msk L H3) := by rw [← step_msk hL2 st3]; exact st3.b msk_le
    rw [step_msk hL2 st3] at dx
    have hk := k.mono (H' := H3) (s1.trans (sm.trans s23))
    rw [List.drop_eq_getElem_cons hlt] at lp
    have own1 : ∀ {ρ1 : Ev} {σ' : L2.St}, ρ1.length = ρ2.length → Held X.K (msk L H3) σ' (wi ρ1 i L) → H3 = upd (msk L H3) L (.lst ws) ∧ Own X.K i ρ1 ds2 L σ' H3 := fun {ρ1 σ'} hl1 h1 =>
      ⟨(upd_msk hL3).symm, ⟨ws, hL3, dpAllMono s23 hd2⟩, h1, by rw [hl1]; exact o2.lt⟩
    cases lp with
    | next g hl1 bd l r =>
      refine ⟨_, pg_fr (g L) L, ws, hL3, o2.held.mono s23, dx, fun σ' g1 _ _ hnn => ?_⟩
      obtain ⟨e3, o3⟩ := own1 hl1 g1
      rw [← e3]
      exact ⟨_, bd, L, o3, fun σ4 H4 s4 o4 => ⟨sm.trans (s23.trans s4), _, _, o4.less l, r⟩⟩
    | ret g hl1 bd =>
      refine ⟨_, pg_fr (g L) L, ws, hL3, o2.held.mono s23, dx, fun σ' g1 _ _ hnn => ?_⟩
      obtain ⟨e3, o3⟩ := own1 hl1 g1
      rw [← e3]
      exact ⟨_, bd, L, o3, fun v H4 s4 q => hk v H4 s4 q⟩
  · have hi : n = xs.length := by omega
    subst hi
    rw [List.drop_length] at lp
    cases lp
    exact .inl ⟨its.stop H2 smH, k σ2 H2 (s1.trans sm) o2⟩
end
end Bx
/-! short words: operands first, side conditions found -/
namespace Bx
open PySem L2 PySem.SeqAt
section
variable {X : Cx} {x : Str} {a b e : Expr} {rest es : List Expr} {ρ : Ev} {w u z w' : Sl} {pos p : Pos}
theorem pd_eq (h : PE X e (tD X.K ρ w)) (q : w = w') : PE X e (tD X.K ρ w') := q ▸ h
theorem nm (i : Nat) (h : ρ[i]? = some (some w) := by rfl) (hN : X.N[i]? = some x := by rfl) (hv : Vis X.env.scope x := by first | exact Or.inl rfl | exact Or.inr (Or.inl rfl) | exact Or.inr (Or.inr rfl)) (hd : (x == ("__debug__" : Str)) = false := by decide) (hcd : (x == ("__classdict__" : Str)) = false := by decide) :
    PE X (.Name x pos) (tD X.K ρ w) := pd_name h hN hv hd hcd
theorem ix (k : Nat) {d : PyData} {x : PyData} {ds : List PyData} {j : Nat} (ha : PE X a (tD X.K ρ (.d x))) (hr : rowOf x = some ds := by rfl) (e : ds[k]? = some d := by rfl) : PE X (.Subscript a (.Constant (.int (k : Int)) j p) pos) (tD X.K ρ (.d d)) :=
  pd_ix hr (atI_nat e) ha pd_int (fun _ _ => rfl)
theorem cmp {op : CmpOp} (ha : PE X a (tD X.K ρ w)) (hb : PE X b (tD X.K ρ u)) (ho : OpR X (compareOp op) (rD X.K w u z)) (hm : behindInMarks op b = false := by first | exact nobehind _ (by decide) (by decide) | rfl) : PE X (.Compare a [op] [b] pos) (tD X.K ρ z) := pd_cmp ho ha hb hm
theorem cmpT {op : CmpOp} {k : Bool} (ha : PE X a (tD X.K ρ w)) (hb : PE X b (tD X.K ρ u)) (ho : OpR X (compareOp op) (rD X.K w u (.d (.bool k)))) (hm : behindInMarks op b = false := by first | exact nobehind _ (by decide) (by decide) | rfl) : PT X (.Compare a [op] [b] pos) (tDT X.K ρ k) := ptd_cmp ho ha hb hm
theorem bop {op : Operator} (ha : PE X a (tD X.K ρ w)) (hb : PE X b (tD X.K ρ u)) (ho : OpR X (binaryOp op) (rD X.K w u z)) : PE X (.BinOp a op b pos) (tD X.K ρ z) := pd_op ho ha hb
end
end Bx
/-! values with a Lean type, as data -/
namespace Bx
open PySem L2 PySem.SeqAt
open PySem.W (alike alikeAll dataLt dataLe EachIs AllAlike Sortable)
class Enc (α : Type) [DecidableEq α] where
  enc : α → PyData
  nol : ∀ a, noL (enc a) = true
  lay : ∀ a, (enc a).canLay0 = true
  dep : Nat
  dep_le : ∀ a, (enc a).depth ≤ dep
  eqv : ∀ a b, PyData.eqv (enc a) (enc b) = decide (a = b)
abbrev en {α : Type} [DecidableEq α] [Enc α] (a : α) : PyData := Enc.enc a
/-- as what a slot holds -/
abbrev ed {α : Type} [DecidableEq α] [Enc α] (a : α) : Sl := .d (Enc.enc a)
theorem beqd {α : Type} [BEq α] [LawfulBEq α] [DecidableEq α] (a b : α) : (a == b) = decide (a = b) := by
  rw [Bool.eq_iff_iff, beq_iff_eq, decide_eq_true_eq]
instance : Enc Int where
  enc := .int
  nol _ := rfl
  lay _ := rfl
  dep := 0
  dep_le _ := Nat.le_refl _
  eqv a b := by simp only [PyData.eqv]; exact beqd a b
instance : Enc Bool where
  enc := .bool
  nol _ := rfl
  lay _ := rfl
  dep := 0
  dep_le _ := Nat.le_refl _
  eqv a b := by simp only [PyData.eqv]; exact beqd a b
instance : Enc (Option Int) where
  enc
    | none => .none
    | some i => .int i
  nol a := by cases a <;> rfl
  lay a := by cases a <;> rfl
  dep := 0
  dep_le a := by cases a <;> exact Nat.le_refl _
  eqv a b := by
    cases a <;> cases b <;> simp [PyData.eqv, beqd]
section
variable {α β : Type} [DecidableEq α] [Enc α] [DecidableEq β] [Enc β]
instance : Enc (α × β) where
  enc p := .tuple [en p.1, en p.2]
  nol p := by
    show (noL (en p.1) && (noL (en p.2) && true)) = true
    rw [Enc.nol, Enc.nol]; rfl
  lay p := by
    show ((en p.1).canLay0 && ((en p.2).canLay0 && true)) = true
    rw [Enc.lay, Enc.lay]; rfl
  dep := max (Enc.dep α) (Enc.dep β) + 1
  dep_le p := by
    have h1 : (en p.1).depth ≤ _ := Enc.dep_le p.1
    have h2 : (en p.2).depth ≤ _ := Enc.dep_le p.2
    show max (en p.1).depth (max (en p.2).depth 0) + 1 ≤ _
    omega
  eqv p q := by
    show PyData.eqvAll [en p.1, en p.2] [en q.1, en q.2] = _
    simp only [PyData.eqvAll, Enc.eqv, Bool.and_true]
    obtain ⟨a, b⟩ := p
    obtain ⟨c, d⟩ := q
    by_cases h1 : a = c <;> by_cases h2 : b = d <;> simp [h1, h2]
theorem layAll (xs : List α) : PyData.canLayAll0 (xs.map Enc.enc) = true := by
  induction xs with
  | nil => rfl
  | cons x xs ih =>
    show ((en x).canLay0 && PyData.canLayAll0 (xs.map Enc.enc)) = true
    rw [Enc.lay, ih]; rfl
theorem depAll (xs : List α) : PyData.depthAll (xs.map Enc.enc) ≤ Enc.dep α := by
  induction xs with
  | nil => exact Nat.zero_le _
  | cons x xs ih =>
    have h : (en x).depth ≤ _ := Enc.dep_le x
    show max (en x).depth (PyData.depthAll (xs.map Enc.enc)) ≤ _
    omega
theorem eqvAllE (xs ys : List α) : PyData.eqvAll (xs.map Enc.enc) (ys.map Enc.enc) = decide (xs = ys) := by
  induction xs generalizing ys with
  | nil => cases ys <;> simp [PyData.eqvAll]
  | cons x xs ih =>
    cases ys with
    | nil => simp [PyData.eqvAll]
    | cons y ys =>
      show (PyData.eqv (en x) (en y) && PyData.eqvAll (xs.map Enc.enc) (ys.map Enc.enc)) = _
      rw [Enc.eqv, ih]
      by_cases h1 : x = y <;> by_cases h2 : xs = ys <;> simp [h1, h2]
theorem nolsE (xs : List α) : noL.noLs (xs.map Enc.enc) = true := noLs_of fun d hd => by
  obtain ⟨x, _, rfl⟩ := List.mem_map.mp hd
  exact Enc.nol x
/-- a row is a tuple -/
instance : Enc (List α) where
  enc xs := .tuple (xs.map Enc.enc)
  nol xs := nolsE xs
  lay xs := layAll xs
  dep := Enc.dep α + 1
  dep_le xs := by
    have := depAll xs
    show PyData.depthAll (xs.map Enc.enc) + 1 ≤ _
    omega
  eqv xs ys := eqvAllE xs ys
theorem shapedE (a : α) (h : Enc.dep α ≤ 64) : shaped (en a) = true := by
  unfold shaped
  rw [Enc.lay, Bool.true_and, decide_eq_true_eq]
  exact Nat.le_trans (Enc.dep_le a) h
/-- a list of such -/
theorem shapedL (xs : List α) (h : Enc.dep α < 64) : shaped (.list (xs.map Enc.enc)) = true := by
  unfold shaped
  have h1 : (PyData.list (xs.map Enc.enc)).canLay0 = true := layAll xs
  have h2 := depAll xs
  rw [h1, Bool.true_and, decide_eq_true_eq]
  show PyData.depthAll (xs.map Enc.enc) + 1 ≤ 64
  omega
section
variable {X : Cx}
theorem od_eqE {a b : α} (hu : X.A.units + 64 < cLine) (h : Enc.dep α ≤ 64 := by decide) : OpR X (compareOp .Eq) (rD X.K (.d (en a)) (.d (en b)) (.d (.bool (decide (a = b))))) := by
  have q := od_eq (X := X) hu (shapedE a h) (shapedE b h)
  rw [Enc.eqv] at q
  exact q
theorem od_neE {a b : α} (hu : X.A.units + 64 < cLine) (h : Enc.dep α ≤ 64 := by decide) : OpR X (compareOp .NotEq) (rD X.K (.d (en a)) (.d (en b)) (.d (.bool (!decide (a = b))))) := by
  have q := od_ne (X := X) hu (shapedE a h) (shapedE b h)
  rw [Enc.eqv] at q
  exact q
theorem od_eqL {a b : List α} (hu : X.A.units + 64 < cLine) (h : Enc.dep α < 64 := by decide) : OpR X (compareOp .Eq) (rD X.K (.d (.list (a.map Enc.enc))) (.d (.list (b.map Enc.enc))) (.d (.bool (decide (a = b))))) := by
  have q := od_eq (X := X) hu (shapedL a h) (shapedL b h)
  have e : PyData.eqv (.list (a.map Enc.enc)) (.list (b.map Enc.enc)) = decide (a = b) := eqvAllE a b
  rw [e] at q
  exact q
theorem od_neL {a b : List α} (hu : X.A.units + 64 < cLine) (h : Enc.dep α < 64 := by decide) : OpR X (compareOp .NotEq) (rD X.K (.d (.list (a.map Enc.enc))) (.d (.list (b.map Enc.enc))) (.d (.bool (!decide (a = b))))) := by
  have q := od_ne (X := X) hu (shapedL a h) (shapedL b h)
  have e : PyData.eqv (.list (a.map Enc.enc)) (.list (b.map Enc.enc)) = decide (a = b) := eqvAllE a b
  rw [e] at q
  exact q
theorem anyE (a : α) (xs : List α) : ((xs.map Enc.enc).any fun y => PyData.eqv y (en a)) = decide (a ∈ xs) := by
  induction xs with
  | nil => simp
  | cons x xs ih =>
    rw [List.map_cons, List.any_cons, ih, Enc.eqv]
    by_cases h : x = a
    · simp [h]
    · have h' : ¬ a = x := fun e => h e.symm
      simp [h, h']
theorem od_inE {a : α} {xs : List α} {d : PyData} (hr : rowOf d = some (xs.map Enc.enc)) (hu : X.A.units + 64 < cLine) (h : Enc.dep α < 60 := by decide) : OpR X (compareOp .In) (rD X.K (.d (en a)) (.d d) (.d (.bool (decide (a ∈ xs))))) := by
  have h1 := depAll xs
  have h2 := Enc.dep_le a
  have q := od_in (X := X) hr (Enc.lay a) (layAll xs) (by
    have h3 : min (PyData.depthAll (xs.map Enc.enc)) (en a).depth ≤ PyData.depthAll (xs.map Enc.enc) := Nat.min_le_left _ _
    omega)
  rw [anyE] at q
  exact q
end
end
/-! ### the things of this program -/
abbrev OI := Option Int
abbrev End := Option (Int × Bool)
abbrev Span := End × End
abbrev Box := List Span
abbrev Place := List Int
abbrev PP := OI × OI
abbrev Plain := List PP
abbrev Bnd := List (Int × Int)
def encEnd : End → PyData
  | none => .none
  | some (n, b) => .tuple [.int n, .bool b]
def encSpan (s : Span) : PyData := .tuple [encEnd s.1, encEnd s.2]
def encBox (b : Box) : PyData := .tuple (b.map encSpan)
structure Thing where
  name : Int
  place : Place
  worth : Int
  deriving DecidableEq, Inhabited
def encThing (t : Thing) : PyData := .tuple [.int t.name, en t.place, .int t.worth]
structure House where
  d : Nat
  things : List Thing
def encHouse (h : House) : PyData := .tuple [.int h.d, .tuple (h.things.map encThing)]
/-- bounds as a plain box -/
def pl (b : Bnd) : Plain := b.map fun p => (some p.1, some p.2)
theorem en_pl (b : Bnd) : en (pl b) = en b := by
  show PyData.tuple ((b.map fun p => (some p.1, some p.2)).map Enc.enc) = .tuple (b.map Enc.enc)
  rw [List.map_map]
  rfl
inductive Tr where
  | lf (n : Int) (b : Bnd)
  | nd (ns : List Int) (b : Bnd) (l h : Tr)
  deriving DecidableEq
def Tr.names : Tr → List Int
  | .lf n _ => [n]
  | .nd ns _ _ _ => ns
def Tr.bnd : Tr → Bnd
  | .lf _ b => b
  | .nd _ b _ _ => b
def Tr.height : Tr → Nat
  | .lf _ _ => 0
  | .nd _ _ l h => max l.height h.height + 1
def encTr : Tr → PyData
  | .lf n b => .tuple [en [n], en b, .none, .none]
  | .nd ns b l h => .tuple [en ns, en b, encTr l, encTr h]
def encOT : Option Tr → PyData
  | none => .none
  | some t => encTr t
/-- the four items of a tree -/
def trRow : Tr → List PyData
  | .lf n b => [en [n], en b, .none, .none]
  | .nd ns b l h => [en ns, en b, encTr l, encTr h]
theorem encTr_row (t : Tr) : encTr t = .tuple (trRow t) := by cases t <;> rfl
theorem trRow_at (t : Tr) : (trRow t)[0]? = some (en t.names) ∧ (trRow t)[1]? = some (en t.bnd) := by cases t <;> exact ⟨rfl, rfl⟩
theorem noL_end (e : End) : noL (encEnd e) = true := by
  cases e with
  | none => rfl
  | some q => rfl
theorem noL_span (s : Span) : noL (encSpan s) = true := by
  show (noL (encEnd s.1) && (noL (encEnd s.2) && true)) = true
  rw [noL_end, noL_end]; rfl
theorem noL_map {α : Type} (f : α → PyData) (xs : List α) (h : ∀ x ∈ xs, noL (f x) = true) : noL (.tuple (xs.map f)) = true := noLs_of fun d hd => by
  obtain ⟨x, hx, rfl⟩ := List.mem_map.mp hd
  exact h x hx
theorem noL_box (b : Box) : noL (encBox b) = true := noL_map _ _ fun s _ => noL_span s
theorem noL_thing (t : Thing) : noL (encThing t) = true := by
  show (true && (noL (en t.place) && (true && true))) = true
  rw [Enc.nol]; rfl
theorem noL_house (h : House) : noL (encHouse h) = true := by
  show (true && (noL (.tuple (h.things.map encThing)) && true)) = true
  rw [noL_map _ _ fun t _ => noL_thing t]; rfl
theorem noL_tr : ∀ t : Tr, noL (encTr t) = true
  | .lf n b => by
    show (noL (en [n]) && (noL (en b) && (true && (true && true)))) = true
    rw [Enc.nol, Enc.nol]; rfl
  | .nd ns b l h => by
    show (noL (en ns) && (noL (en b) && (noL (encTr l) && (noL (encTr h) && true)))) = true
    rw [Enc.nol, Enc.nol, noL_tr l, noL_tr h]; rfl
theorem noL_ot (t : Option Tr) : noL (encOT t) = true := by
  cases t with
  | none => rfl
  | some t => exact noL_tr t
end Bx
/-! the program's text by places; how its defs are told -/
namespace Bx
open PySem L2 PySem.SeqAt
def top (i : Nat) : Stmt := PySem.Challenge.pw_boxlayers_k86_whole_papers.main.body.getD i (.Pass ⟨0, 0, 0, 0⟩)
abbrev Fd (K : PySem.W.Frag) (x qual : Str) (st : Stmt) (f : Addr) (fd : FuncData) : Prop := FunD K x qual (defArgs st) (defBody st) (defScope st) [] [] f fd
/-- what a def gives of what -/
def Rf {A : Type} (pre : A → Prop) (args : A → List Sl) (out : A → Sl) : List Sl → Sl → Prop := fun ws w => ∃ a, pre a ∧ ws = args a ∧ w = out a
structure Blt (C : Ctx) : Prop where
  abs : C.mg "abs" = none
  all : C.mg "all" = none
  any : C.mg "any" = none
  bool : C.mg "bool" = none
  dict : C.mg "dict" = none
  int : C.mg "int" = none
  isi : C.mg "isinstance" = none
  len : C.mg "len" = none
  list : C.mg "list" = none
  max : C.mg "max" = none
  min : C.mg "min" = none
  range : C.mg "range" = none
  sorted : C.mg "sorted" = none
  str : C.mg "str" = none
  sum : C.mg "sum" = none
  tuple : C.mg "tuple" = none
  zip : C.mg "zip" = none
/-- the module's name x holds the tuple (1, 0) -/
def HasE (C : Ctx) (x : Str) : Prop := ∃ g, C.mg x = some (.ref g) ∧ ∀ H, SqT C.K H g [.int 1, .int 0]
/-- a context of a def's body -/
def InDef (C : Ctx) (N : List Str) (qual : Str) (sc : Scope) (f : Addr) (X : Cx) : Prop := ∃ (cdv : Value) (A : Around) (outer : List Env) (s : Shared) (H : Hp) (E : XK), X = (cxOf CX0 C.P C.w C.K C.mg C.base N qual sc f cdv A outer s H E).nox
section
variable {C : Ctx} {X : Cx} {x : Str} {j k : Nat} {ρ : Ev} {p pos : Pos} {e : Expr} {es : List Expr}
theorem has_fn {y : Str} {A : Type} {pre : A → Prop} {args : A → List Sl} {out : A → Sl} {st : Stmt} {qual : Str} {f : Addr} {fd : FuncData} {N ps : List Str} (ρ0 : A → Ev) (F : Fd C.K x qual st f fd) (mg : C.mg y = some (.ref f)) (S : FnScope N ps (defScope st)) (hl : ps.length ≤ N.length)
    (hb : ∀ (kV doc pm : Value) (an : Option Addr) (cdv ct : Value) (us : List Value), us.length = ps.length → bindArgs (PySem.W.fnOf x qual (defArgs st) (defBody st) (defScope st) .none kV doc pm an cdv ct) ⟨us, []⟩ = pure (ps.zip us))
    (len : ∀ a, (args a).length = ps.length) (h0 : ∀ a, (args a).map some ++ List.replicate (N.length - ps.length) none = ρ0 a)
    (body : ∀ (X : Cx) (a : A), At C X → Room k X.A → pre a → InDef C N qual (defScope st) f X → PSs X (defBody st) (tDS X.K (ρ0 a) (.ret (out a)))) : Has C y (k + 1) (Rf pre args out) := by
  refine has_of F mg S hl hb (fun ws w ⟨a, _, h, _⟩ => by rw [h]; exact len a) fun X ws w at_ hr ⟨a, hp, h1, h2⟩ hX => ?_
  rw [h1, h2, h0]
  exact body X a at_ hr hp hX
/-- a call of such -/
theorem cl {A : Type} {pre : A → Prop} {args : A → List Sl} {out : A → Sl} (h : Has C x k (Rf pre args out)) (a : A) (at_ : At C X) (hr : Room j X.A) (ha : PA X (e :: es) (tDs X.K ρ (args a))) (hp : pre a := by trivial) (hj : k ≤ j := by decide) (hg : Gl X x := by rfl) (hdb : (x == ("__debug__" : Str)) = false := by decide)
    (he : starEach (e :: es) X.env = (false, eval e X.env) :: starEach es X.env := by rfl) (hpl : (backTo pos (starEach es X.env)).any (·.1) = false := by rfl) : PE X (.Call (.Name x p) (e :: es) [] pos) (tD X.K ρ (out a)) :=
  pd_call at_ h (hr.mono hj) hg ha ⟨a, hp, rfl, rfl⟩ hdb he hpl
theorem At.no (at_ : At C X) {y : Str} (h : C.mg y = none) : X.mg y = none := by rw [at_.m]; exact h
/-- a call of a built-in function, of a built-in type -/
theorem cb {id : String} {ws : List Sl} {w : Sl} (at_ : At C X) (hm : C.mg x = none) (hc : CallR X (.builtin id) (rDs X.K ws w)) (ha : PA X (e :: es) (tDs X.K ρ ws)) (hg : Gl X x := by rfl) (hv : bootBuiltins x = some (.builtin id) := by decide +kernel) (hn : x ≠ "__name__" := by decide) (hdb : (x == ("__debug__" : Str)) = false := by decide)
    (he : starEach (e :: es) X.env = (false, eval e X.env) :: starEach es X.env := by rfl) (hpl : (backTo pos (starEach es X.env)).any (·.1) = false := by rfl) : PE X (.Call (.Name x p) (e :: es) [] pos) (tD X.K ρ w) := pd_callB hc hg (at_.no hm) hv ha hn hdb he hpl
theorem ct {T : String} {ws : List Sl} {w : Sl} (at_ : At C X) (hm : C.mg x = none) (hc : CallR X (.type T) (rDs X.K ws w)) (ha : PA X (e :: es) (tDs X.K ρ ws)) (hg : Gl X x := by rfl) (hv : bootBuiltins x = some (.type T) := by decide +kernel) (hn : x ≠ "__name__" := by decide) (hdb : (x == ("__debug__" : Str)) = false := by decide)
    (he : starEach (e :: es) X.env = (false, eval e X.env) :: starEach es X.env := by rfl) (hpl : (backTo pos (starEach es X.env)).any (·.1) = false := by rfl) : PE X (.Call (.Name x p) (e :: es) [] pos) (tD X.K ρ w) := pd_callT hc hg (at_.no hm) hv ha hn hdb he hpl
theorem a0 : PA X [] (tDs X.K ρ []) := pds_nil
theorem a1 {w : Sl} (ha : PE X e (tD X.K ρ w)) (hs : starEach [e] X.env = (false, eval e X.env) :: starEach [] X.env := by rfl) : PA X [e] (tDs X.K ρ [w]) := pds_cons ha pds_nil hs
theorem a2 {e2 : Expr} {w u : Sl} (h1 : PE X e (tD X.K ρ w)) (h2 : PE X e2 (tD X.K ρ u)) (hs : starEach [e, e2] X.env = (false, eval e X.env) :: starEach [e2] X.env := by rfl) (hs2 : starEach [e2] X.env = (false, eval e2 X.env) :: starEach [] X.env := by rfl) : PA X [e, e2] (tDs X.K ρ [w, u]) := pds_cons h1 (a1 h2 hs2) hs
theorem a3 {e2 e3 : Expr} {w u z : Sl} (h1 : PE X e (tD X.K ρ w)) (h2 : PE X e2 (tD X.K ρ u)) (h3 : PE X e3 (tD X.K ρ z)) (hs : starEach [e, e2, e3] X.env = (false, eval e X.env) :: starEach [e2, e3] X.env := by rfl) (hs2 : starEach [e2, e3] X.env = (false, eval e2 X.env) :: starEach [e3] X.env := by rfl) (hs3 : starEach [e3] X.env = (false, eval e3 X.env) :: starEach [] X.env := by rfl) :
    PA X [e, e2, e3] (tDs X.K ρ [w, u, z]) := pds_cons h1 (a2 h2 h3 hs2 hs3) hs
theorem a4 {e2 e3 e4 : Expr} {w u z y : Sl} (h1 : PE X e (tD X.K ρ w)) (h2 : PE X e2 (tD X.K ρ u)) (h3 : PE X e3 (tD X.K ρ z)) (h4 : PE X e4 (tD X.K ρ y)) (hs : starEach [e, e2, e3, e4] X.env = (false, eval e X.env) :: starEach [e2, e3, e4] X.env := by rfl) (hs2 : starEach [e2, e3, e4] X.env = (false, eval e2 X.env) :: starEach [e3, e4] X.env := by rfl)
    (hs3 : starEach [e3, e4] X.env = (false, eval e3 X.env) :: starEach [e4] X.env := by rfl) (hs4 : starEach [e4] X.env = (false, eval e4 X.env) :: starEach [] X.env := by rfl) : PA X [e, e2, e3, e4] (tDs X.K ρ [w, u, z, y]) := pds_cons h1 (a3 h2 h3 h4 hs2 hs3 hs4) hs
/-- a constant of the module -/
theorem glE {x : Str} (at_ : At C X) (h : HasE C x) (hg : Gl X x := by rfl) (hdb : (x == ("__debug__" : Str)) = false := by decide) : PE X (.Name x pos) (tD X.K ρ (.d (.tuple [.int 1, .int 0]))) := by
  obtain ⟨g, h1, h2⟩ := h
  refine pd_glob (g := g) (xs := [.int 1, .int 0]) hg (by rw [at_.m]; exact h1) (fun H => by rw [at_.k]; exact h2 H) (fun H => .cons (.int 1) (.cons (.int 0) .nil)) hdb
/-- stores, blocks -/
theorem st {x : Str} {e : Expr} {w : Sl} {pos' : Pos} (i : Nat) (he : PE X e (tD X.K ρ w)) (hN : X.N.Nodup) (hi : X.N[i]? = some x := by rfl) (hx : Loc X.env.scope x := by first | exact Or.inl rfl | exact Or.inr rfl) (hs : swapsWith e (some (.Name x pos')) pos.line X.env = pure false := by rfl)
    (hf : X.fn x = true ∨ X.env.scope.names.lookup x = some .local := by first | exact Or.inl rfl | exact Or.inr rfl) : PS X (.Assign [.Name x pos'] e pos) (tDS X.K ρ (.nxt (ρ.set i (some w)))) := pds_set hN hi hx he hs hf
/-- a name of a target -/
theorem gn {x : Str} {d : PyData} (i : Nat) (hN : X.N.Nodup) (hi : X.N[i]? = some x := by rfl) (hx : Loc X.env.scope x := by first | exact Or.inl rfl | exact Or.inr rfl) (hf : X.fn x = true ∨ X.env.scope.names.lookup x = some .local := by first | exact Or.inl rfl | exact Or.inr rfl) : PG X (.Name x pos) (tG X.K ρ d (ρ.set i (some (.d d))) [i]) := gd_name hN hi hx hf
theorem cmps {xs : List Expr} {scope : Scope} : True := trivial
theorem seq {st : Stmt} {sts : List Stmt} {ρ' : Ev} {o : Out} (h1 : PS X st (tDS X.K ρ (.nxt ρ'))) (h2 : PSs X sts (tDS X.K ρ' o)) : PSs X (st :: sts) (tDS X.K ρ o) := pds_seq h1 h2
theorem pd_setEq {sts : List Stmt} {ρ ρ' : Ev} {o : Out} (h : PSs X sts (tDS X.K ρ o)) (q : ρ = ρ') : PSs X sts (tDS X.K ρ' o) := q ▸ h
theorem ifT {c : Expr} {a b : List Stmt} {o : Out} (hc : PT X c (tDT X.K ρ true)) (ha : PSs X a (tDS X.K ρ o)) : PS X (.If c a b pos) (tDS X.K ρ o) := pds_if hc (fun _ => ha) (fun h => nomatch h)
theorem ifF {c : Expr} {a b : List Stmt} {o : Out} (hc : PT X c (tDT X.K ρ false)) (hb : PSs X b (tDS X.K ρ o)) : PS X (.If c a b pos) (tDS X.K ρ o) := pds_if hc (fun h => nomatch h) (fun _ => hb)
/-- if c: .. return: the rest only where c isn't so -/
theorem ifR {c : Expr} {a rest : List Stmt} {w : Sl} {k : Bool} (hc : PT X c (tDT X.K ρ k)) (ha : k = true → PSs X a (tDS X.K ρ (.ret w))) (hb : k = false → PSs X rest (tDS X.K ρ (.ret w))) : PSs X (.If c a [] pos :: rest) (tDS X.K ρ (.ret w)) := by
  cases k with
  | true => exact pds_end (ifT hc (ha rfl)) (fun _ h => nomatch h)
  | false => exact pds_seq (ifF hc pds_nxt) (hb rfl)
theorem rt {e : Expr} {w : Sl} {rest : List Stmt} (h : PE X e (tD X.K ρ w)) : PSs X (.Return (some e) pos :: rest) (tDS X.K ρ (.ret w)) := pds_end (pds_ret h) (fun _ h => nomatch h)
theorem t1 {k : Nat} {a : Expr} {x : PyData} (h1 : PE X a (tD X.K ρ (.d x))) (hs : starEach [a] X.env = (false, eval a X.env) :: starEach [] X.env := by rfl) : PE X (.Tuple [a] k pos) (tD X.K ρ (.d (.tuple [x]))) := pd_tup (ds := [x]) (a1 h1 hs) (Nat.le_of_ble_eq_true rfl)
theorem t2 {k : Nat} {a b : Expr} {x y : PyData} (h1 : PE X a (tD X.K ρ (.d x))) (h2 : PE X b (tD X.K ρ (.d y))) (hs : starEach [a, b] X.env = (false, eval a X.env) :: starEach [b] X.env := by rfl) (hs2 : starEach [b] X.env = (false, eval b X.env) :: starEach [] X.env := by rfl) : PE X (.Tuple [a, b] k pos) (tD X.K ρ (.d (.tuple [x, y]))) := pd_tup (ds := [x, y]) (a2 h1 h2 hs hs2) (Nat.le_of_ble_eq_true rfl)
theorem t3 {k : Nat} {a b c : Expr} {x y z : PyData} (h1 : PE X a (tD X.K ρ (.d x))) (h2 : PE X b (tD X.K ρ (.d y))) (h3 : PE X c (tD X.K ρ (.d z))) (hs : starEach [a, b, c] X.env = (false, eval a X.env) :: starEach [b, c] X.env := by rfl) (hs2 : starEach [b, c] X.env = (false, eval b X.env) :: starEach [c] X.env := by rfl) (hs3 : starEach [c] X.env = (false, eval c X.env) :: starEach [] X.env := by rfl) :
    PE X (.Tuple [a, b, c] k pos) (tD X.K ρ (.d (.tuple [x, y, z]))) := pd_tup (ds := [x, y, z]) (a3 h1 h2 h3 hs hs2 hs3) (Nat.le_of_ble_eq_true rfl)
theorem t4 {k : Nat} {a b c e : Expr} {x y z u : PyData} (h1 : PE X a (tD X.K ρ (.d x))) (h2 : PE X b (tD X.K ρ (.d y))) (h3 : PE X c (tD X.K ρ (.d z))) (h4 : PE X e (tD X.K ρ (.d u))) (hs : starEach [a, b, c, e] X.env = (false, eval a X.env) :: starEach [b, c, e] X.env := by rfl) (hs2 : starEach [b, c, e] X.env = (false, eval b X.env) :: starEach [c, e] X.env := by rfl)
    (hs3 : starEach [c, e] X.env = (false, eval c X.env) :: starEach [e] X.env := by rfl) (hs4 : starEach [e] X.env = (false, eval e X.env) :: starEach [] X.env := by rfl) : PE X (.Tuple [a, b, c, e] k pos) (tD X.K ρ (.d (.tuple [x, y, z, u]))) := pd_tup (ds := [x, y, z, u]) (a4 h1 h2 h3 h4 hs hs2 hs3 hs4) (Nat.le_of_ble_eq_true rfl)
theorem t0 {k : Nat} : PE X (.Tuple [] k pos) (tD X.K ρ (.d (.tuple []))) := pd_tup (ds := []) a0 (by decide)
theorem l0 : PE X (.List [] pos) (tD X.K ρ (.d (.list []))) := pd_lst (ds := []) a0 (by decide)
theorem l1 {a : Expr} {x : PyData} (h1 : PE X a (tD X.K ρ (.d x))) (hs : starEach [a] X.env = (false, eval a X.env) :: starEach [] X.env := by rfl) : PE X (.List [a] pos) (tD X.K ρ (.d (.list [x]))) := pd_lst (ds := [x]) (a1 h1 hs) (Nat.le_of_ble_eq_true rfl)
theorem ptEq {c : Expr} {k k' : Bool} (h : PT X c (tDT X.K ρ k)) (q : k = k') : PT X c (tDT X.K ρ k') := q ▸ h
/-- a, b = x, y -/
theorem par {x y : Str} {a b : Expr} {px py pt : Pos} {kt k2 : Nat} {pt2 : Pos} {w u : Sl} (i j : Nat) (ha : PA X [a, b] (tDs X.K ρ [w, u])) (hN : X.N.Nodup) (hij : i ≠ j := by decide) (hi : X.N[i]? = some x := by rfl) (hj : X.N[j]? = some y := by rfl)
    (hx : X.env.scope.names.lookup x = some .local := by rfl) (hy : X.env.scope.names.lookup y = some .local := by rfl) (hw : swappedStores [.Tuple [.Name x px, .Name y py] kt pt] (.Tuple [a, b] k2 pt2) X.env = pure (some [x, y]) := by rfl)
    (hs : swapsWithSole [.Tuple [.Name x px, .Name y py] kt pt] (.Tuple [a, b] k2 pt2) pos.line X.env = pure false := by rfl) (hc : X.calm = true := by rfl) :
    PS X (.Assign [.Tuple [.Name x px, .Name y py] kt pt] (.Tuple [a, b] k2 pt2) pos) (tDS X.K ρ (.nxt ((ρ.set i (some w)).set j (some u)))) :=
  psI (ps_par hc hN hi hj hij hx hy ha hw hs) fun D σ H ⟨h, k⟩ => ⟨h, fun vs H1 s1 q => by
    obtain ⟨v, v', rfl, q1, q2⟩ := held2 q
    exact ⟨v, v', rfl, k _ H1 s1 (((h.mono s1).set i q1).set j q2)⟩⟩
theorem zipD_map {α β : Type} (f : α → PyData) (g : β → PyData) : ∀ (xs : List α) (ys : List β), zipD (xs.map f) (ys.map g) = (xs.zip ys).map fun p => .tuple [f p.1, g p.2]
  | [], _ => rfl
  | _ :: _, [] => rfl
  | x :: xs, y :: ys => by
    have ih := zipD_map f g xs ys
    show PyData.tuple [f x, g y] :: zipD (xs.map f) (ys.map g) = _
    rw [ih]
    rfl
/-- all(..), any(..) of tests -/
theorem cd_allF {α : Type} (hc : X.calm = true) (xs : List α) (q : α → Bool) : CallR X (.builtin "all") (rDs X.K [.d (.list (xs.map fun x => .bool (q x)))] (.d (.bool (xs.all q)))) := by
  have h := cd_all (X := X) hc (bs := xs.map q)
  rw [List.map_map, List.all_map] at h
  exact h
theorem cd_anyF {α : Type} (hc : X.calm = true) (xs : List α) (q : α → Bool) : CallR X (.builtin "any") (rDs X.K [.d (.list (xs.map fun x => .bool (q x)))] (.d (.bool (xs.any q)))) := by
  have h := cd_any (X := X) hc (bs := xs.map q)
  rw [List.map_map, List.any_map] at h
  exact h
theorem cd_sumF {α : Type} (hc : X.calm = true) (xs : List α) (q : α → Int) : CallR X (.builtin "sum") (rDs X.K [.d (.list (xs.map fun x => .int (q x)))] (.d (.int (xs.map q).sum))) := by
  have h := cd_sum (X := X) hc (ns := xs.map q)
  rw [List.map_map] at h
  exact h
/-! ### lists that grow -/
theorem Less.nil : Less [] [] := ⟨rfl, fun _ _ e => e⟩
theorem Less.keep {a : Option Sl} {ρ' ρ : Ev} (h : Less ρ' ρ) : Less (a :: ρ') (a :: ρ) := ⟨by simp [h.1], fun j x e => by
  cases j with
  | zero => exact e
  | succ j => simpa using h.2 j x (by simpa using e)⟩
theorem Less.drop {a : Option Sl} {ρ' ρ : Ev} (h : Less ρ' ρ) : Less (none :: ρ') (a :: ρ) := ⟨by simp [h.1], fun j x e => by
  cases j with
  | zero => simp at e
  | succ j => simpa using h.2 j x (by simpa using e)⟩
theorem Less.refl : ∀ ρ : Ev, Less ρ ρ := fun ρ => ⟨rfl, fun _ _ e => e⟩
theorem loopO_map {α : Type} {i : Nat} {tg : Expr} {body : List Stmt} (xs : List α) (enc : α → PyData) (g : α → List PyData) (N : Nat)
    (turn : ∀ x ∈ xs, ∀ ds : List PyData, ds.length + (g x).length ≤ N → ∃ (ρ1 ρ2 : Ev) (vs : List Nat), (∀ L, PG X tg (tG X.K (wi ρ i L) (enc x) (wi ρ1 i L) vs)) ∧ ρ1.length = ρ.length ∧ PSs X body (tOS X.K i ρ1 ds (.nxt ρ2 (ds ++ g x))) ∧ Less ρ ρ2) :
    ∀ acc : List PyData, (acc ++ xs.flatMap g).length ≤ N → LoopO X i tg body (xs.map enc) ρ acc (.nxt ρ (acc ++ xs.flatMap g)) := by
  induction xs with
  | nil =>
    intro acc _
    rw [List.flatMap_nil, List.append_nil]
    exact .done
  | cons x xs ih =>
    intro acc h
    rw [List.flatMap_cons, ← List.append_assoc] at h ⊢
    have h2 : acc.length + (g x).length ≤ N := by
      rw [List.length_append, List.length_append] at h
      omega
    obtain ⟨ρ1, ρ2, vs, t1, t2, t3, t4⟩ := turn x (List.mem_cons_self ..) acc h2
    exact .next t1 t2 t3 t4 (ih (fun y hy => turn y (List.mem_cons_of_mem _ hy)) (acc ++ g x) h)
theorem flatOne {α β : Type} (f : α → β) : ∀ xs : List α, xs.flatMap (fun x => [f x]) = xs.map f
  | [] => rfl
  | x :: xs => by rw [List.flatMap_cons, flatOne f xs]; rfl
/-- one item a turn -/
theorem loopO_one {α : Type} {i : Nat} {tg : Expr} {body : List Stmt} (xs : List α) (enc g : α → PyData) (hz : xs.length ≤ 50000)
    (turn : ∀ x ∈ xs, ∀ ds : List PyData, ds.length < 100000 → ∃ (ρ1 ρ2 : Ev) (vs : List Nat), (∀ L, PG X tg (tG X.K (wi ρ i L) (enc x) (wi ρ1 i L) vs)) ∧ ρ1.length = ρ.length ∧ PSs X body (tOS X.K i ρ1 ds (.nxt ρ2 (ds ++ [g x]))) ∧ Less ρ ρ2) :
    LoopO X i tg body (xs.map enc) ρ [] (.nxt ρ (xs.map g)) := by
  have h := loopO_map (X := X) (ρ := ρ) (i := i) (tg := tg) (body := body) xs enc (fun x => [g x]) 50000 (fun x hx ds hd => turn x hx ds (by
    have : ([g x] : List PyData).length = 1 := rfl
    omega)) [] (by rw [List.nil_append, flatOne, List.length_map]; exact hz)
  rw [List.nil_append, flatOne] at h
  exact h
theorem forO {i : Nat} {o : OutO} {tg iter : Expr} {body : List Stmt} {ds : List PyData} {xs : List PyData} {pos : Pos} (hi : ∀ L, PI X tg iter (tI X.K (wi ρ i L) xs)) (hl : LoopO X i tg body xs ρ ds o) (hp : PassesOwn (model X.prog X.w) X.A X.env X.xe := by exact PassesOwn.never) (hc : X.calm = true := by rfl) (hs : ∀ x, foldedSetIterable iter X.env x = pure x := by intro _; rfl) : PS X (.For tg iter body [] pos) (tOS X.K i ρ ds o) := own_for hp hc hi hl hs
theorem app {x : Str} {i : Nat} {e : Expr} {ds : List PyData} {y : PyData} {p1 apos cpos pos : Pos} (he : ∀ L, PE X e (tD X.K (wi ρ i L) (.d y))) (hz : ds.length < 100000) (hi : X.N[i]? = some x := by rfl) (hv : Vis X.env.scope x := by first | exact Or.inl rfl | exact Or.inr (Or.inl rfl) | exact Or.inr (Or.inr rfl)) (hd : (x == ("__debug__" : Str)) = false := by decide) (hcd : (x == ("__classdict__" : Str)) = false := by decide)
    (hs : swapsWith (.Call (.Attribute (.Name x p1) "append" apos) [e] [] cpos) none pos.line X.env = pure false := by rfl)
    (hbase : attributeBase (.Name x p1) "append" X.env (eval (.Name x p1) X.env) = eval (.Name x p1) X.env := by rfl)
    (hfew : ((backTo cpos (starEach [e] X.env)).all (fun x => !x.1) && (backToKw cpos (keywordEach [] X.env)).all (fun x => x.1.isSome) && decide ([e].length + ([] : List Keyword).length + (if ([] : List Keyword).isEmpty then 0 else 1) < 30)) = true := by rfl)
    (hline : (apos.endLine == cpos.line) = true := by rfl) (he1 : starEach [e] X.env = (false, eval e X.env) :: starEach [] X.env := by rfl) (hplain : (backTo cpos (starEach [] X.env)).any (·.1) = false := by rfl) :
    PS X (.Expr (.Call (.Attribute (.Name x p1) "append" apos) [e] [] cpos) pos) (tOS X.K i ρ ds (.nxt ρ (ds ++ [y]))) := own_app hi hv he hz hd hcd hs hbase hfew hline he1 hplain
theorem newL {x : Str} {pos' p pos : Pos} {rest : List Stmt} {w : Sl} (i : Nat) (hN : X.N.Nodup) (h : PSs X rest (tOS X.K i ρ [] (.ret w))) (hl : i < ρ.length := by exact Nat.le_of_ble_eq_true rfl) (hi : X.N[i]? = some x := by rfl) (hx : Loc X.env.scope x := by first | exact Or.inl rfl | exact Or.inr rfl) (hs : swapsWith (.List [] p) (some (.Name x pos')) pos.line X.env = pure false := by rfl)
    (hf : X.fn x = true ∨ X.env.scope.names.lookup x = some .local := by first | exact Or.inl rfl | exact Or.inr rfl) : PSs X (.Assign [.Name x pos'] (.List [] p) pos :: rest) (tDS X.K ρ (.ret w)) := own_new hN hi hx hl h hs hf
end
end Bx
namespace Bx
open PySem L2 PySem.SeqAt
theorem At.blk {C : Ctx} {X : Cx} (h : At C X) {s : Shared} {H : Hp} {sc : Scope} {ce : Env} {fp : List Addr} : At C (X.blk s H sc ce fp) := ⟨h.p, h.w, h.k, h.m, h.b⟩
section
variable {C : Ctx} {f : Addr} {fd : FuncData}
/-! ### what they say -/
def fitsLow : End → Int → Bool
  | none, _ => true
  | some (m, b), n => decide (m < n) || (decide (n = m) && b)
def fitsHigh : End → Int → Bool
  | none, _ => true
  | some (m, b), n => decide (n < m) || (decide (n = m) && b)
def fitsSpan (s : Span) (n : Int) : Bool := fitsLow s.1 n && fitsHigh s.2 n
def fitsB (b : Box) (p : Place) : Bool := (b.zip p).all fun q => fitsSpan q.1 q.2
def plainSpan (s : Span) : PP := (s.1.map fun e => e.1 + b2 (!e.2), s.2.map fun e => e.1 - b2 (!e.2))
def crossed : PP → Bool
  | (some a, some b) => decide (b < a)
  | _ => false
def eE : PP := (some 1, some 0)
def plainOf (ps : Plain) : Plain := if ps.any crossed then ps.map fun _ => eE else ps
def plainBox (b : Box) : Plain := plainOf (b.map plainSpan)
def greaterOf : OI → OI → OI
  | none, o => o
  | some a, none => some a
  | some a, some b => if a < b then some b else some a
def lesserOf : OI → OI → OI
  | none, o => o
  | some a, none => some a
  | some a, some b => if b < a then some b else some a
/-! ### 2 to 5 -/
abbrev RfitsLow := Rf (A := End × Int) (fun _ => True) (fun a => [.d (encEnd a.1), .d (.int a.2)]) (fun a => .d (.bool (fitsLow a.1 a.2)))
abbrev RfitsHigh := Rf (A := End × Int) (fun _ => True) (fun a => [.d (encEnd a.1), .d (.int a.2)]) (fun a => .d (.bool (fitsHigh a.1 a.2)))
theorem sc2 : FnScope ["low", "number"] ["low", "number"] (defScope (top 2)) := ⟨rfl, rfl, rfl, by decide +kernel, rfl, by decide +kernel, by decide +kernel⟩
theorem ok_fits_low (F : Fd C.K "fits_low" "fits_low" (top 2) f fd) (m : C.mg "fits_low" = some (.ref f)) : Has C "fits_low" 1 RfitsLow := by
  refine has_fn (fun a => [some (.d (encEnd a.1)), some (.d (.int a.2))]) F m sc2 (by decide) (fun _ _ _ _ _ _ us hl => match us, hl with | [_, _], _ => rfl) (fun _ => rfl) (fun _ => rfl) fun X a at_ hr _ ⟨cdv, A, outer, s, H, E, hX⟩ => ?_
  obtain ⟨low, n⟩ := a
  have hu : X.A.units + 64 < cLine := hr.units
  subst hX
  refine pds_one (pds_ret ?_)
  cases low with
  | none => exact pd_eq (pd_or (y := true) (cmp (nm 0) pd_non od_isN) (fun h => by exact nomatch (show true = false from h))) rfl
  | some q => exact pd_eq (pd_or (cmp (nm 0) pd_non od_isN) (fun _ => pd_or (cmp (nm 1) (ix 0 (nm 0)) od_gt) (fun _ => pd_one (pd_and (cmp (nm 1) (ix 0 (nm 0)) (od_eqI hu)) (fun _ => pd_one (ix 1 (nm 0))))))) rfl
theorem sc3 : FnScope ["high", "number"] ["high", "number"] (defScope (top 3)) := ⟨rfl, rfl, rfl, by decide +kernel, rfl, by decide +kernel, by decide +kernel⟩
theorem ok_fits_high (F : Fd C.K "fits_high" "fits_high" (top 3) f fd) (m : C.mg "fits_high" = some (.ref f)) : Has C "fits_high" 1 RfitsHigh := by
  refine has_fn (fun a => [some (.d (encEnd a.1)), some (.d (.int a.2))]) F m sc3 (by decide) (fun _ _ _ _ _ _ us hl => match us, hl with | [_, _], _ => rfl) (fun _ => rfl) (fun _ => rfl) fun X a at_ hr _ ⟨cdv, A, outer, s, H, E, hX⟩ => ?_
  obtain ⟨low, n⟩ := a
  have hu : X.A.units + 64 < cLine := hr.units
  subst hX
  refine pds_one (pds_ret ?_)
  cases low with
  | none => exact pd_eq (pd_or (y := true) (cmp (nm 0) pd_non od_isN) (fun h => by exact nomatch (show true = false from h))) rfl
  | some q => exact pd_eq (pd_or (cmp (nm 0) pd_non od_isN) (fun _ => pd_or (cmp (nm 1) (ix 0 (nm 0)) od_lt) (fun _ => pd_one (pd_and (cmp (nm 1) (ix 0 (nm 0)) (od_eqI hu)) (fun _ => pd_one (ix 1 (nm 0))))))) rfl
abbrev RfitsSpan := Rf (A := Span × Int) (fun _ => True) (fun a => [.d (encSpan a.1), .d (.int a.2)]) (fun a => .d (.bool (fitsSpan a.1 a.2)))
theorem sc4 : FnScope ["span", "number"] ["span", "number"] (defScope (top 4)) := ⟨rfl, rfl, rfl, by decide +kernel, rfl, by decide +kernel, by decide +kernel⟩
theorem ok_fits_span (F : Fd C.K "fits_span" "fits_span" (top 4) f fd) (m : C.mg "fits_span" = some (.ref f)) (h1 : Has C "fits_low" 1 RfitsLow) (h2 : Has C "fits_high" 1 RfitsHigh) : Has C "fits_span" 2 RfitsSpan := by
  refine has_fn (fun a => [some (.d (encSpan a.1)), some (.d (.int a.2))]) F m sc4 (by decide) (fun _ _ _ _ _ _ us hl => match us, hl with | [_, _], _ => rfl) (fun _ => rfl) (fun _ => rfl) fun X a at_ hr _ ⟨cdv, A, outer, s, H, E, hX⟩ => ?_
  subst hX
  refine pds_one (pds_ret ?_)
  exact pd_and (cl h1 (a.1.1, a.2) at_ hr (a2 (ix 0 (nm 0)) (nm 1))) (fun _ => pd_one (cl h2 (a.1.2, a.2) at_ hr (a2 (ix 1 (nm 0)) (nm 1))))
abbrev Rfits := Rf (A := Box × Place) (fun a => a.1.length ≤ 100) (fun a => [.d (encBox a.1), ed a.2]) (fun a => .d (.bool (fitsB a.1 a.2)))
abbrev N5 : List Str := ["box", "place", "span", "number"]
theorem sc5 : FnScope N5 ["box", "place"] (defScope (top 5)) := ⟨rfl, rfl, rfl, by decide +kernel, rfl, by decide +kernel, by decide +kernel⟩
theorem ok_fits (B : Blt C) (F : Fd C.K "fits" "fits" (top 5) f fd) (m : C.mg "fits" = some (.ref f)) (h1 : Has C "fits_span" 2 RfitsSpan) : Has C "fits" 3 Rfits := by
  refine has_fn (fun a => [some (.d (encBox a.1)), some (ed a.2), none, none]) F m sc5 (by decide) (fun _ _ _ _ _ _ us hl => match us, hl with | [_, _], _ => rfl) (fun _ => rfl) (fun _ => rfl) fun X a at_ hr hp ⟨cdv, A, outer, s, H, E, hX⟩ => ?_
  obtain ⟨b, p⟩ := a
  subst hX
  refine pds_one (pds_ret (cb at_ B.all (cd_allF rfl (b.zip p) fun q => fitsSpan q.1 q.2) (a1 ?_)))
  refine pd_lc rfl sc5.nd (b.zip p) (fun q => .tuple [encSpan q.1, .int q.2]) _ (own := [("span", 2), ("number", 3)]) ?_ (blkOk_by (N := N5) (sc := defScope (top 5)) (by decide +kernel)) (fun q _ => ?_) ?_ (by intro _; rfl)
  · rw [← zipD_map]
    exact pid_zipT rfl (at_.no B.zip) (nm 0) (nm 1)
  · exact ⟨_, _, by decide, fun s H C cl fp => gd_tup rfl (gds_cons (gn 2 sc5.nd) (gds_cons (gn 3 sc5.nd) gds_nil)) rfl, fun s H C' c' fp => cl h1 (q.1, q.2) at_.blk hr (a2 (nm 2) (nm 3))⟩
  · rw [List.length_zip]
    have : b.length ≤ 100 := hp
    omega
/-! ### 6 to 9 -/
abbrev RplainSpan := Rf (A := Span) (fun _ => True) (fun a => [.d (encSpan a)]) (fun a => ed (plainSpan a))
abbrev N6 : List Str := ["span", "low", "high", "least", "greatest"]
theorem sc6 : FnScope N6 ["span"] (defScope (top 6)) := ⟨rfl, rfl, rfl, by decide +kernel, rfl, by decide +kernel, by decide +kernel⟩
theorem ok_plain_span (B : Blt C) (F : Fd C.K "plain_span" "plain_span" (top 6) f fd) (m : C.mg "plain_span" = some (.ref f)) : Has C "plain_span" 1 RplainSpan := by
  refine has_fn (fun a => [some (.d (encSpan a)), none, none, none, none]) F m sc6 (by decide) (fun _ _ _ _ _ _ us hl => match us, hl with | [_], _ => rfl) (fun _ => rfl) (fun _ => rfl) fun X a at_ hr _ ⟨cdv, A, outer, s, H, E, hX⟩ => ?_
  obtain ⟨lo, hi⟩ := a
  subst hX
  refine seq (pds_asg (nm 0) (gd_tup rfl (gds_cons (gn 1 sc6.nd) (gds_cons (gn 2 sc6.nd) gds_nil)) rfl)) (seq (pds_asg (t2 pd_non pd_non) (gd_tup rfl (gds_cons (gn 3 sc6.nd) (gds_cons (gn 4 sc6.nd) gds_nil)) rfl)) ?_)
  cases lo with
  | none =>
    refine seq (ifF (cmpT (nm 1) pd_non od_notN) pds_nxt) ?_
    cases hi with
    | none => exact seq (ifF (cmpT (nm 2) pd_non od_notN) pds_nxt) (rt (t2 (nm 3) (nm 4)))
    | some q => exact seq (ifT (cmpT (nm 2) pd_non od_notN) (pds_one (st 4 (bop (ix 0 (nm 2)) (ct at_ B.int cd_intB (a1 (pd_not (ix 1 (nm 2))))) od_sub) sc6.nd))) (rt (t2 (nm 3) (nm 4)))
  | some r =>
    refine seq (ifT (cmpT (nm 1) pd_non od_notN) (pds_one (st 3 (bop (ix 0 (nm 1)) (ct at_ B.int cd_intB (a1 (pd_not (ix 1 (nm 1))))) od_add) sc6.nd))) ?_
    cases hi with
    | none => exact seq (ifF (cmpT (nm 2) pd_non od_notN) pds_nxt) (rt (t2 (nm 3) (nm 4)))
    | some q => exact seq (ifT (cmpT (nm 2) pd_non od_notN) (pds_one (st 4 (bop (ix 0 (nm 2)) (ct at_ B.int cd_intB (a1 (pd_not (ix 1 (nm 2))))) od_sub) sc6.nd))) (rt (t2 (nm 3) (nm 4)))
abbrev RisCrossed := Rf (A := PP) (fun _ => True) (fun a => [ed a]) (fun a => .d (.bool (crossed a)))
theorem sc7 : FnScope ["pair"] ["pair"] (defScope (top 7)) := ⟨rfl, rfl, rfl, by decide +kernel, rfl, by decide +kernel, by decide +kernel⟩
theorem ok_is_crossed (F : Fd C.K "is_crossed" "is_crossed" (top 7) f fd) (m : C.mg "is_crossed" = some (.ref f)) : Has C "is_crossed" 1 RisCrossed := by
  refine has_fn (fun a => [some (ed a)]) F m sc7 (by decide) (fun _ _ _ _ _ _ us hl => match us, hl with | [_], _ => rfl) (fun _ => rfl) (fun _ => rfl) fun X a at_ hr _ ⟨cdv, A, outer, s, H, E, hX⟩ => ?_
  obtain ⟨lo, hi⟩ := a
  subst hX
  refine pds_one (pds_ret ?_)
  cases lo with
  | none => exact pd_eq (pd_and (k := false) (y := true) (cmp (ix 0 (nm 0)) pd_non od_notN) (fun h => nomatch h)) rfl
  | some r =>
    cases hi with
    | none => exact pd_eq (pd_and (cmp (ix 0 (nm 0)) pd_non od_notN) (fun _ => pd_and (k := false) (y := true) (cmp (ix 1 (nm 0)) pd_non od_notN) (fun h => nomatch h))) rfl
    | some q => exact pd_eq (pd_and (cmp (ix 0 (nm 0)) pd_non od_notN) (fun _ => pd_and (cmp (ix 1 (nm 0)) pd_non od_notN) (fun _ => pd_one (cmp (ix 0 (nm 0)) (ix 1 (nm 0)) od_gt)))) rfl
abbrev RplainOf := Rf (A := Plain) (fun a => a.length ≤ 100) (fun a => [.d (.list (a.map Enc.enc))]) (fun a => ed (plainOf a))
abbrev N8 : List Str := ["pairs", "pair"]
theorem sc8 : FnScope N8 ["pairs"] (defScope (top 8)) := ⟨rfl, rfl, rfl, by decide +kernel, rfl, by decide +kernel, by decide +kernel⟩
theorem ok_plain_of (B : Blt C) (Z : HasE C "EMPTY_boxes") (F : Fd C.K "plain_of" "plain_of" (top 8) f fd) (m : C.mg "plain_of" = some (.ref f)) (h1 : Has C "is_crossed" 1 RisCrossed) : Has C "plain_of" 2 RplainOf := by
  refine has_fn (fun a => [some (.d (.list (a.map Enc.enc))), none]) F m sc8 (by decide) (fun _ _ _ _ _ _ us hl => match us, hl with | [_], _ => rfl) (fun _ => rfl) (fun _ => rfl) fun X ps at_ hr hp ⟨cdv, A, outer, s, H, E, hX⟩ => ?_
  have hz : ps.length ≤ 100000 := Nat.le_trans hp (by decide)
  subst hX
  refine ifR (k := ps.any crossed) (pt_b (cb at_ B.any (cd_anyF rfl ps crossed) (a1 ?_))) (fun h => rt ?_) (fun h => rt ?_)
  · exact pd_lc rfl sc8.nd ps Enc.enc _ (own := [("pair", 1)]) (pid_list (nm 0)) (blkOk_by (N := N8) (sc := defScope (top 8)) (by decide +kernel)) (fun q _ => ⟨_, _, by decide, fun s H C cl fp => gn 1 sc8.nd, fun s H C' c' fp => cl h1 q at_.blk hr (a1 (nm 1))⟩) hz (by intro _; rfl)
  · refine pd_eq (ct at_ B.tuple (cd_tup rfl) (a1 (pd_lc rfl sc8.nd ps Enc.enc (fun _ => en eE) (own := [("pair", 1)]) (pid_list (nm 0)) (blkOk_by (N := N8) (sc := defScope (top 8)) (by decide +kernel)) (fun q _ => ⟨_, _, by decide, fun s H C cl fp => gn 1 sc8.nd, fun s H C' c' fp => glE at_.blk Z⟩) hz (by intro _; rfl)))) ?_
    unfold plainOf
    rw [if_pos h]
    show Sl.d (.tuple (ps.map fun _ => en eE)) = .d (.tuple ((ps.map fun _ => eE).map Enc.enc))
    rw [List.map_map]
    rfl
  · refine pd_eq (ct at_ B.tuple (cd_tup rfl) (a1 (nm 0))) ?_
    unfold plainOf
    rw [if_neg (by simp [h])]
    rfl
abbrev RplainBox := Rf (A := Box) (fun a => a.length ≤ 100) (fun a => [.d (encBox a)]) (fun a => ed (plainBox a))
abbrev N9 : List Str := ["box", "span"]
theorem sc9 : FnScope N9 ["box"] (defScope (top 9)) := ⟨rfl, rfl, rfl, by decide +kernel, rfl, by decide +kernel, by decide +kernel⟩
theorem ok_plain_box (F : Fd C.K "plain_box" "plain_box" (top 9) f fd) (m : C.mg "plain_box" = some (.ref f)) (h1 : Has C "plain_span" 1 RplainSpan) (h2 : Has C "plain_of" 2 RplainOf) : Has C "plain_box" 3 RplainBox := by
  refine has_fn (fun a => [some (.d (encBox a)), none]) F m sc9 (by decide) (fun _ _ _ _ _ _ us hl => match us, hl with | [_], _ => rfl) (fun _ => rfl) (fun _ => rfl) fun X b at_ hr hp ⟨cdv, A, outer, s, H, E, hX⟩ => ?_
  subst hX
  refine rt (cl h2 (b.map plainSpan) at_ hr (a1 ?_) (by rw [List.length_map]; exact hp))
  rw [List.map_map]
  exact pd_lc rfl sc9.nd b encSpan (fun s => en (plainSpan s)) (own := [("span", 1)]) (pid_tup (nm 0)) (blkOk_by (N := N9) (sc := defScope (top 9)) (by decide +kernel)) (fun q _ => ⟨_, _, by decide, fun s H C cl fp => gn 1 sc9.nd, fun s H C' c' fp => cl h1 q at_.blk hr (a1 (nm 1))⟩) (Nat.le_trans hp (by decide)) (by intro _; rfl)
/-! ### 10, 11 -/
abbrev RgreaterOf := Rf (A := OI × OI) (fun _ => True) (fun a => [ed a.1, ed a.2]) (fun a => ed (greaterOf a.1 a.2))
theorem sc10 : FnScope ["one", "other"] ["one", "other"] (defScope (top 10)) := ⟨rfl, rfl, rfl, by decide +kernel, rfl, by decide +kernel, by decide +kernel⟩
theorem ok_greater_of (F : Fd C.K "greater_of" "greater_of" (top 10) f fd) (m : C.mg "greater_of" = some (.ref f)) : Has C "greater_of" 1 RgreaterOf := by
  refine has_fn (fun a => [some (ed a.1), some (ed a.2)]) F m sc10 (by decide) (fun _ _ _ _ _ _ us hl => match us, hl with | [_, _], _ => rfl) (fun _ => rfl) (fun _ => rfl) fun X a at_ hr _ ⟨cdv, A, outer, s, H, E, hX⟩ => ?_
  obtain ⟨lo, hi⟩ := a
  subst hX
  cases lo with
  | none => exact ifR (k := true) (ptd_w (pwd_or (k := true) (y := true) (cmpT (nm 0) pd_non od_isN) (fun h => nomatch h))) (fun _ => rt (nm 1)) (fun h => nomatch h)
  | some r =>
    cases hi with
    | none => exact ifR (k := false) (ptd_w (pwd_or (k := false) (cmpT (nm 0) pd_non od_isN) (fun _ => pwd_or1 (ptd_w (pwd_and (k := false) (y := true) (cmpT (nm 1) pd_non od_notN) (fun h => nomatch h)))))) (fun h => nomatch h) (fun _ => rt (nm 0))
    | some q =>
      refine ifR (ptd_w (pwd_or (cmpT (nm 0) pd_non od_isN) (fun _ => pwd_or1 (ptd_w (pwd_and (cmpT (nm 1) pd_non od_notN) (fun _ => pwd_and1 (cmpT (nm 1) (nm 0) od_gt))))))) (fun h => rt (pd_eq (nm 1) ?_)) (fun h => rt (pd_eq (nm 0) ?_))
      · have h' : r < q := by simpa [isNone] using h
        show Sl.d (en (some q)) = .d (en (if r < q then some q else some r))
        rw [if_pos h']
      · have h' : ¬ r < q := by simpa [isNone] using h
        show Sl.d (en (some r)) = .d (en (if r < q then some q else some r))
        rw [if_neg h']
abbrev RlesserOf := Rf (A := OI × OI) (fun _ => True) (fun a => [ed a.1, ed a.2]) (fun a => ed (lesserOf a.1 a.2))
theorem sc11 : FnScope ["one", "other"] ["one", "other"] (defScope (top 11)) := ⟨rfl, rfl, rfl, by decide +kernel, rfl, by decide +kernel, by decide +kernel⟩
theorem ok_lesser_of (F : Fd C.K "lesser_of" "lesser_of" (top 11) f fd) (m : C.mg "lesser_of" = some (.ref f)) : Has C "lesser_of" 1 RlesserOf := by
  refine has_fn (fun a => [some (ed a.1), some (ed a.2)]) F m sc11 (by decide) (fun _ _ _ _ _ _ us hl => match us, hl with | [_, _], _ => rfl) (fun _ => rfl) (fun _ => rfl) fun X a at_ hr _ ⟨cdv, A, outer, s, H, E, hX⟩ => ?_
  obtain ⟨lo, hi⟩ := a
  subst hX
  cases lo with
  | none => exact ifR (k := true) (ptd_w (pwd_or (k := true) (y := true) (cmpT (nm 0) pd_non od_isN) (fun h => nomatch h))) (fun _ => rt (nm 1)) (fun h => nomatch h)
  | some r =>
    cases hi with
    | none => exact ifR (k := false) (ptd_w (pwd_or (k := false) (cmpT (nm 0) pd_non od_isN) (fun _ => pwd_or1 (ptd_w (pwd_and (k := false) (y := true) (cmpT (nm 1) pd_non od_notN) (fun h => nomatch h)))))) (fun h => nomatch h) (fun _ => rt (nm 0))
    | some q =>
      refine ifR (ptd_w (pwd_or (cmpT (nm 0) pd_non od_isN) (fun _ => pwd_or1 (ptd_w (pwd_and (cmpT (nm 1) pd_non od_notN) (fun _ => pwd_and1 (cmpT (nm 1) (nm 0) od_lt))))))) (fun h => rt (pd_eq (nm 1) ?_)) (fun h => rt (pd_eq (nm 0) ?_))
      · have h' : q < r := by simpa [isNone] using h
        show Sl.d (en (some q)) = .d (en (if q < r then some q else some r))
        rw [if_pos h']
      · have h' : ¬ q < r := by simpa [isNone] using h
        show Sl.d (en (some r)) = .d (en (if q < r then some q else some r))
        rw [if_neg h']
/-! ### 12 to 15 -/
def common (a b : Plain) : Plain := plainOf ((a.zip b).map fun q => (greaterOf q.1.1 q.2.1, lesserOf q.1.2 q.2.2))
abbrev Rcommon := Rf (A := Plain × Plain) (fun a => a.1.length ≤ 100) (fun a => [ed a.1, ed a.2]) (fun a => ed (common a.1 a.2))
abbrev N12 : List Str := ["one", "other", "pairs", "mine", "its"]
theorem sc12 : FnScope N12 ["one", "other"] (defScope (top 12)) := ⟨rfl, rfl, rfl, by decide +kernel, rfl, by decide +kernel, by decide +kernel⟩
theorem ok_common (B : Blt C) (F : Fd C.K "common" "common" (top 12) f fd) (m : C.mg "common" = some (.ref f)) (h1 : Has C "greater_of" 1 RgreaterOf) (h2 : Has C "lesser_of" 1 RlesserOf) (h3 : Has C "plain_of" 2 RplainOf) : Has C "common" 3 Rcommon := by
  refine has_fn (fun a => [some (ed a.1), some (ed a.2), none, none, none]) F m sc12 (by decide) (fun _ _ _ _ _ _ us hl => match us, hl with | [_, _], _ => rfl) (fun _ => rfl) (fun _ => rfl) fun X a at_ hr hp ⟨cdv, A, outer, s, H, E, hX⟩ => ?_
  obtain ⟨a, b⟩ := a
  have hz : (a.zip b).length ≤ 100 := by
    have : a.length ≤ 100 := hp
    rw [List.length_zip]
    omega
  subst hX
  refine newL 2 sc12.nd (own_seq (forO (fun L => ?_) (loopO_one (a.zip b) (fun q => .tuple [en q.1, en q.2]) (fun q => en (greaterOf q.1.1 q.2.1, lesserOf q.1.2 q.2.2)) (by omega) fun q hq ds hd => ?_)) (own_data ?_))
  · rw [← zipD_map]
    exact pid_zipT rfl (at_.no B.zip) (nm 0) (nm 1)
  · refine ⟨[some (ed a), some (ed b), none, some (ed q.1), some (ed q.2)], _, _, fun L => gd_tup rfl (gds_cons (gn 3 sc12.nd) (gds_cons (gn 4 sc12.nd) gds_nil)) rfl, rfl, own_one (app (fun L => ?_) hd), .keep (.keep (.keep (.drop (.drop .nil))))⟩
    exact t2 (cl h1 (q.1.1, q.2.1) at_ hr (a2 (ix 0 (nm 3)) (ix 0 (nm 4)))) (cl h2 (q.1.2, q.2.2) at_ hr (a2 (ix 1 (nm 3)) (ix 1 (nm 4))))
  · refine rt (cl h3 ((a.zip b).map fun q => (greaterOf q.1.1 q.2.1, lesserOf q.1.2 q.2.2)) at_ hr (a1 (pd_eq (nm 2) ?_)) (by rw [List.length_map]; exact hz))
    rw [List.map_map]
    rfl
def liesWithin (b : Bnd) (p : Plain) : Bool := decide (common (pl b) p = pl b)
def lieApart (b : Bnd) (p : Plain) : Bool := decide (common (pl b) p = (pl b).map fun _ => eE)
abbrev RliesWithin := Rf (A := Bnd × Plain) (fun a => a.1.length ≤ 100) (fun a => [ed a.1, ed a.2]) (fun a => .d (.bool (liesWithin a.1 a.2)))
theorem sc13 : FnScope ["one", "other"] ["one", "other"] (defScope (top 13)) := ⟨rfl, rfl, rfl, by decide +kernel, rfl, by decide +kernel, by decide +kernel⟩
theorem pl_len (b : Bnd) : (pl b).length = b.length := List.length_map _
theorem ok_lies_within (F : Fd C.K "lies_within" "lies_within" (top 13) f fd) (m : C.mg "lies_within" = some (.ref f)) (h1 : Has C "common" 3 Rcommon) : Has C "lies_within" 4 RliesWithin := by
  refine has_fn (fun a => [some (ed (pl a.1)), some (ed a.2)]) F m sc13 (by decide) (fun _ _ _ _ _ _ us hl => match us, hl with | [_, _], _ => rfl) (fun _ => rfl) (fun a => by show [some (Sl.d (en a.1)), some (ed a.2)] = [some (Sl.d (en (pl a.1))), some (ed a.2)]; rw [en_pl]) fun X a at_ hr hp ⟨cdv, A, outer, s, H, E, hX⟩ => ?_
  have hu : X.A.units + 64 < cLine := hr.units
  subst hX
  exact rt (cmp (cl h1 (pl a.1, a.2) at_ hr (a2 (nm 0) (nm 1)) (by rw [pl_len]; exact hp)) (nm 0) (od_eqE hu))
abbrev RlieApart := Rf (A := Bnd × Plain) (fun a => a.1.length ≤ 100) (fun a => [ed a.1, ed a.2]) (fun a => .d (.bool (lieApart a.1 a.2)))
abbrev N14 : List Str := ["one", "other", "pair"]
theorem sc14 : FnScope N14 ["one", "other"] (defScope (top 14)) := ⟨rfl, rfl, rfl, by decide +kernel, rfl, by decide +kernel, by decide +kernel⟩
theorem ok_lie_apart (B : Blt C) (Z : HasE C "EMPTY_boxes") (F : Fd C.K "lie_apart" "lie_apart" (top 14) f fd) (m : C.mg "lie_apart" = some (.ref f)) (h1 : Has C "common" 3 Rcommon) : Has C "lie_apart" 4 RlieApart := by
  refine has_fn (fun a => [some (ed (pl a.1)), some (ed a.2), none]) F m sc14 (by decide) (fun _ _ _ _ _ _ us hl => match us, hl with | [_, _], _ => rfl) (fun _ => rfl) (fun a => by show [some (Sl.d (en a.1)), some (ed a.2), none] = [some (Sl.d (en (pl a.1))), some (ed a.2), none]; rw [en_pl]) fun X a at_ hr hp ⟨cdv, A, outer, s, H, E, hX⟩ => ?_
  have hu : X.A.units + 64 < cLine := hr.units
  have hp' : (pl a.1).length ≤ 100 := by rw [pl_len]; exact hp
  subst hX
  refine rt (cmp (cl h1 (pl a.1, a.2) at_ hr (a2 (nm 0) (nm 1)) hp') (pd_eq (w := .d (.tuple ((pl a.1).map fun _ => en eE))) (ct at_ B.tuple (cd_tup rfl) (a1 (pd_lc rfl sc14.nd (pl a.1) Enc.enc (fun _ => en eE) (own := [("pair", 2)]) (pid_tup (nm 0)) (blkOk_by (N := N14) (sc := defScope (top 14)) (by decide +kernel)) (fun q _ => ⟨_, _, by decide, fun s H C cl fp => gn 2 sc14.nd, fun s H C' c' fp => glE at_.blk Z⟩) (Nat.le_trans hp' (by decide)) (by intro _; rfl)))) (w' := ed ((pl a.1).map fun _ => eE)) ?_) (od_eqE hu))
  show Sl.d (.tuple ((pl a.1).map fun _ => en eE)) = .d (.tuple (((pl a.1).map fun _ => eE).map Enc.enc))
  rw [List.map_map]
  rfl
/-! ### 15 -/
def col (ps : List Place) (i : Nat) : List Int := ps.map fun p => p.getD i 0
def boundsOf (ps : List Place) : Bnd := (List.range (ps.headD []).length).map fun i => (leastI (col ps i), mostI (col ps i))
structure PlacesOk (ps : List Place) : Prop where
  ne : ps ≠ []
  len : ∀ p ∈ ps, p.length = (ps.headD []).length
  many : ps.length ≤ 1000
  few : (ps.headD []).length ≤ 100
def stVal : Stmt → Expr
  | .Assign _ v _ => v
  | _ => .Constant .none 0 ⟨0, 0, 0, 0⟩
def lcScope : Expr → Scope
  | .ListComp _ _ sc _ => sc
  | _ => { kind := .function, names := [], isGenerator := false, isCoroutine := false }
abbrev Rbounds := Rf (A := List Place) PlacesOk (fun a => [.d (.list (a.map Enc.enc))]) (fun a => ed (boundsOf a))
abbrev N15 : List Str := ["places", "rows", "i", "place", "row"]
theorem sc15 : FnScope N15 ["places"] (defScope (top 15)) := ⟨rfl, rfl, rfl, by decide +kernel, rfl, by decide +kernel, by decide +kernel⟩
theorem at_place {p : Place} {i : Nat} (h : i < p.length) : atI (p.map Enc.enc) (i : Int) = some (en (p.getD i 0)) := atI_nat (by
  rw [List.getElem?_map, List.getElem?_eq_getElem h]
  simp [List.getD, h])
theorem ok_bounds (B : Blt C) (F : Fd C.K "bounds" "bounds" (top 15) f fd) (m : C.mg "bounds" = some (.ref f)) : Has C "bounds" 1 Rbounds := by
  refine has_fn (fun a => [some (.d (.list (a.map Enc.enc))), none, none, none, none]) F m sc15 (by decide) (fun _ _ _ _ _ _ us hl => match us, hl with | [_], _ => rfl) (fun _ => rfl) (fun a => rfl) fun X ps at_ hr hp ⟨cdv, A, outer, s, H, E, hX⟩ => ?_
  obtain ⟨ne, hlen, hmany, hfew⟩ := hp
  obtain ⟨p, rest, rfl⟩ : ∃ p rest, ps = p :: rest := by
    cases ps with
    | nil => exact absurd rfl ne
    | cons p rest => exact ⟨p, rest, rfl⟩
  subst hX
  have hn : p.length ≤ 100 := hfew
  refine seq (pds_lc (i := 1) rfl sc15.nd rfl rfl (sw_true rfl rfl rfl (by decide +kernel)) (List.range p.length) (fun (i : Nat) => .int (i : Int)) (fun (i : Nat) => .list ((col (p :: rest) i).map Enc.enc)) (own := [("i", 2)]) ?_ (blkOk_by (N := N15) (sc := defScope (top 15)) (by decide +kernel)) (fun i hi => ⟨_, _, by decide, fun s H C cl fp => gn 2 sc15.nd, fun s H C' c' fp => ?_⟩) (by rw [List.length_range]; omega) (by intro _; rfl)) ?_
  · refine pid_range rfl (at_.no B.range) (pd_eq (cb at_ B.len (cd_len rfl) (a1 (ix 0 (nm 0)))) ?_) (by omega)
    rw [List.length_map]
  · have hip : i < p.length := List.mem_range.mp hi
    refine pd_eq (pd_lc rfl sc15.nd (p :: rest) Enc.enc (fun q => .int (q.getD i 0)) (own := [("place", 3)]) (pid_list (nm 0)) (blkOk_by (N := N15) (sc := relS (lcScope (stVal ((defBody (top 15)).getD 0 (.Pass ⟨0, 0, 0, 0⟩)))) (defScope (top 15))) (by decide +kernel)) (fun q hq => ⟨_, _, by decide, fun s H C cl fp => gn 3 sc15.nd, fun s H C2 c2 fp2 => pd_ix rfl (at_place (by rw [hlen q hq]; exact hip)) (nm 3) (nm 2) (fun _ _ => rfl)⟩) (Nat.le_trans hmany (by decide)) (by intro _; rfl)) ?_
    unfold col
    rw [List.map_map]
    rfl
  · refine rt (pd_eq (ct at_ B.tuple (cd_tup rfl) (a1 (pd_lc rfl sc15.nd (List.range p.length) (fun (i : Nat) => .list ((col (p :: rest) i).map Enc.enc)) (fun (i : Nat) => en (leastI (col (p :: rest) i), mostI (col (p :: rest) i))) (own := [("row", 4)]) (pid_list (nm 1)) (blkOk_by (N := N15) (sc := defScope (top 15)) (by decide +kernel)) (fun i _ => ⟨_, _, by decide, fun s H C cl fp => gn 4 sc15.nd, fun s H C2 c2 fp2 => t2 (cb at_.blk B.min (cd_min (ns := col (p :: rest) i) rfl (by simp [col])) (a1 (nm 4))) (cb at_.blk B.max (cd_max (ns := col (p :: rest) i) rfl (by simp [col])) (a1 (nm 4)))⟩) (by rw [List.length_range]; omega) (by intro _; rfl)))) ?_)
    unfold boundsOf
    show Sl.d (.tuple _) = .d (.tuple (List.map Enc.enc _))
    rw [List.map_map]
    rfl
end
end Bx
/-! sorted(.., key=..): a key's code told exactly, the heap alone grows -/
namespace Bx
open PySem PySem.Spec PyProof.Rows L2 PySem.SeqAt
open PySem.W (alike alikeAll dataLt dataLe EachIs AllAlike Sortable KeyPure)
def Grow (s s' : Shared) : Prop := ∃ h' tk, s' = { s with heap := h', toks := tk } ∧ ∀ b o, s.heap.get? b = some o → h'.get? b = some o
theorem Grow.refl (s : Shared) : Grow s s := ⟨s.heap, s.toks, rfl, fun _ _ e => e⟩
theorem Grow.trans {s s1 s2 : Shared} (a : Grow s s1) (b : Grow s1 s2) : Grow s s2 := by
  obtain ⟨h, t, rfl, k⟩ := a
  obtain ⟨h2, t2, rfl, k2⟩ := b
  exact ⟨h2, t2, rfl, fun c o e => k2 c o (k c o e)⟩
theorem Grow.tok (s : Shared) (t : Nat) : Grow s { s with toks := t } := ⟨s.heap, t, rfl, fun _ _ e => e⟩
theorem Grow.old {s s' : Shared} (g : Grow s s') : ∀ b o, s.heap.get? b = some o → s'.heap.get? b = some o := by
  obtain ⟨h, t, rfl, k⟩ := g
  exact k
mutual
/-- data without lists is read without addresses -/
theorem reads_noL : ∀ {h : Heap} {v : Value} {d : PyData} {as : List Addr}, noL d = true → Reads h v d as → Reads h v d []
  | _, _, _, _, _, .none => .none
  | _, _, _, _, _, .bool b => .bool b
  | _, _, _, _, _, .int i t => .int i t
  | _, _, _, _, _, .str x t => .str x t
  | _, _, _, _, n, .list _ _ _ _ => by cases n
  | _, _, _, _, n, .tuple a b c r => .tuple a b c (readsAll_noL n r)
  | _, _, _, _, n, .dict _ _ _ _ _ => by cases n
theorem readsAll_noL : ∀ {h : Heap} {vs : List Value} {ds : List PyData} {as : List Addr}, noL.noLs ds = true → ReadsAll h vs ds as → ReadsAll h vs ds []
  | _, _, _, _, _, .nil => .nil
  | _, _, _, _, n, .cons a b => .cons (as := []) (bs := []) (reads_noL (Bool.and_eq_true_iff.mp (show (_ && _) = true from n)).1 a) (readsAll_noL (Bool.and_eq_true_iff.mp (show (_ && _) = true from n)).2 b)
end
section
variable {prog : Program} {w : World} {A : Around} {E : Value → Shared → Prop} {env : Env} {s0 : Shared} {e a b : Expr} {d x y : PyData} {pos p : Pos} {j k : Nat}
/-- wherever s0 has grown, e makes d and the heap grows -/
def KE (prog : Program) (w : World) (A : Around) (E : Value → Shared → Prop) (env : Env) (s0 : Shared) (e : Expr) (d : PyData) : Prop :=
  ∀ s, Grow s0 s → wpAny (model prog w) A (eval e env) (fun v s' => Grow s s' ∧ Reads s'.heap v d []) E s
theorem ke_local {n : Str} {m : Str → Option Value} {v : Value} (hk : env.scope.kind = .function) (hl : env.kindOf n = some .local) (hn : s0.heap.Ns env.locals m) (hv : m n = some v) (hr : Reads s0.heap v d []) (hd : (n == ("__debug__" : Str)) = false := by decide) : KE prog w A E env s0 (.Name n pos) d :=
  fun s g => wpAny_Name (wpAny_loadName_local hk hl (hn.keeps g.old) hv ⟨Grow.refl s, PyProof.Rows.Reads.keeps g.old hr⟩) hd
theorem ke_free {n : Str} {c : Addr} {v : Value} (hk : env.scope.kind = .function) (hl : env.kindOf n = some .free) (hc : env.cells.lookup n = some c) (hv : s0.heap.IsCell c (some v)) (hr : Reads s0.heap v d []) (hd : (n == ("__debug__" : Str)) = false := by decide) (hcd : (n == ("__classdict__" : Str)) = false := by decide) : KE prog w A E env s0 (.Name n pos) d :=
  fun s g => wpAny_Name (wpAny_loadName_free hk hl hc (let ⟨o, ho, hd⟩ := hv; ⟨o, g.old _ _ ho, hd⟩) ⟨Grow.refl s, PyProof.Rows.Reads.keeps g.old hr⟩ hcd) hd
theorem ke_int {i : Int} : KE prog w A E env s0 (.Constant (.int i) j pos) (.int i) := fun s g => wpAny_Constant_int ⟨Grow.tok s _, .int _ _⟩
theorem ke_neg {i : Int} (ha : KE prog w A E env s0 a (.int i)) : KE prog w A E env s0 (.UnaryOp .USub a pos) (.int (-i)) := fun s g =>
  UnaryOp_ (wpAny_mono (ha s g) (fun v s1 ⟨g1, r⟩ => by
    cases r
    exact neg_int ⟨g1.trans (Grow.tok s1 _), .int _ _⟩) fun _ _ x => x)
theorem readsAt : ∀ {h : Heap} {vs : List Value} {ds : List PyData}, ReadsAll h vs ds [] → ∀ {k : Nat} {d : PyData}, ds[k]? = some d → ∃ v, vs[k]? = some v ∧ Reads h v d [] := by
  intro h vs ds
  induction ds generalizing vs with
  | nil => intro r k d e; simp at e
  | cons x xs ih =>
    intro r k d e
    generalize hz : ([] : List Addr) = zs at r
    cases r with
    | cons r1 r2 =>
      rename_i as bs
      have h1 : as = [] := by cases as with
        | nil => rfl
        | cons _ _ => cases hz
      have h2 : bs = [] := by rw [h1] at hz; exact hz.symm
      subst h1 h2
      cases k with
      | zero => simp at e; subst e; exact ⟨_, rfl, r1⟩
      | succ k => simpa using ih r2 (k := k) (d := d) (by simpa using e)
theorem ke_ixG {ds : List PyData} (ha : KE prog w A E env s0 a (.tuple ds)) (hb : KE prog w A E env s0 b (.int (k : Int))) (e : ds[k]? = some d) (hk : k < 2 ^ 62) (hs : PlainIx b) : KE prog w A E env s0 (.Subscript a b pos) d := fun s g =>
  Subscript_ (wpAny_mono (ha s g) (fun v s1 ⟨g1, r⟩ => wpAny_mono (hb s1 (g.trans g1)) (fun u s2 ⟨g2, r2⟩ => by
    cases r2
    cases r with
    | tuple h1 h2 h3 h4 =>
      obtain ⟨v, q1, q2⟩ := readsAt h4 e
      have ht : IsTup s2.heap _ _ := ⟨_, g2.old _ _ h1, h2, _, h3⟩
      rw [Array.getElem?_toList] at q1
      have hlt : k < _ := (Array.getElem?_eq_some_iff.mp q1).1
      refine subscriptTail_builtinR (x := v) ht.typeIs slot_tuple_getitem.lookup (getItem_tuple (j := k) ht (by omega) (by omega) ?_ q1 ⟨rfl, g1.trans g2, PyProof.Rows.Reads.keeps g2.old q2⟩) (hs _ _)
      unfold seqIndex?
      simp
      omega) fun _ _ x => x) fun _ _ x => x)
theorem ke_ix (k : Nat) {ds : List PyData} (ha : KE prog w A E env s0 a (.tuple ds)) (e : ds[k]? = some d := by rfl) (hk : k < 2 ^ 62 := by decide) : KE prog w A E env s0 (.Subscript a (.Constant (.int (k : Int)) j p) pos) d :=
  ke_ixG ha ke_int e hk (fun _ _ => rfl)
theorem ke_tup2 (ha : KE prog w A E env s0 a x) (hb : KE prog w A E env s0 b y) (hsp : ∀ p, backTo p (starEach [a, b] env) = [(false, eval a env), (false, eval b env)] := by intro _; rfl) : KE prog w A E env s0 (.Tuple [a, b] k pos) (.tuple [x, y]) := fun s g => by
  refine wpAny_Tuple_spliced ?_
  rw [hsp]
  refine Calls.spliced_cons (wpAny_mono (ha s g) (fun v s1 ⟨g1, r1⟩ => ?_) fun _ _ x => x)
  refine Calls.spliced_cons (wpAny_mono (hb s1 (g.trans g1)) (fun u s2 ⟨g2, r2⟩ => ?_) fun _ _ x => x)
  refine Calls.spliced_nil ⟨by show 2 ≤ sizeLine; decide, (g1.trans g2).trans ⟨_, _, rfl, fun b o e => Heap.get?_push_of_some _ e⟩, ?_⟩
  exact .tuple (Heap.get?_push_size _ rfl) rfl rfl (.cons (as := []) (bs := []) (PyProof.Rows.Reads.keeps (fun b o e => Heap.get?_push_of_some _ (g2.old _ _ e)) r1) (.cons (as := []) (bs := []) (PyProof.Rows.Reads.keeps (fun b o e => Heap.get?_push_of_some _ e) r2) .nil))
end
end Bx
namespace Bx
open PySem PySem.Spec PyProof.Rows L2 PySem.SeqAt
open PySem.W (alike alikeAll dataLt dataLe EachIs AllAlike Sortable KeyPure)
section
variable {X : Cx} {pins : List (Addr × Obj)} {σ : L2.St} {H : Hp} {s : Shared} {α : Type}
theorem eachIs_enc {enc : α → PyData} : ∀ {ys : List V} {us : List Value} {xs : List α}, DpAll X.K H ys (xs.map enc) → Vals ys us → EachIs (fun u x => ∃ y, RelV y u ∧ Dp X.K H y (enc x)) us xs
  | _, _, [], .nil, .nil => .nil
  | _, _, _ :: _, .cons h t, .cons r q => .cons ⟨_, r, h⟩ (eachIs_enc t q)
theorem of_eachEnc {enc : α → PyData} : ∀ {us : List Value} {xs : List α}, EachIs (fun u x => ∃ y, RelV y u ∧ Dp X.K H y (enc x)) us xs → ∃ ys, Vals ys us ∧ DpAll X.K H ys (xs.map enc)
  | _, _, .nil => ⟨[], .nil, .nil⟩
  | _, _, .cons ⟨y, r, h⟩ t => let ⟨ys, a, b⟩ := of_eachEnc t; ⟨y :: ys, .cons r a, .cons h b⟩
/-- sorted(xs, key=f), f's code told exactly -/
theorem sorted_key_run {enc key : α → PyData} {xs : List α} {a : Addr} {ys : List V} {f : Addr} {Q : VK} (I : Inv X pins σ H s) (h1 : SqL X.K H a ys) (h2 : DpAll X.K H ys (xs.map enc)) (hal : AllAlike (xs.map key)) (hk : Sortable (xs.map key)) (hu : ∀ x ∈ xs, X.A.units + 2 + (key x).depth < cLine) (hn : ∀ x ∈ xs, noL (enc x) = true)
    (turn : ∀ x ∈ xs, ∀ (v : Value) (s1 : Shared), Grow s s1 → Reads s1.heap v (enc x) [] → wpAny (model X.prog X.w) X.A.in1.in1 (call (.ref f) [v]) (fun v s' => Grow s1 s' ∧ Reads s'.heap v (key x) []) (fun _ _ => False) s1)
    (q : ∀ (p : Addr) (zs : List V), H p = none → DpAll X.K H zs ((xs.mergeSort (dataLe false key)).map enc) → Q (.ref p) (upd H p (.lst zs))) :
    wpAny (model X.prog X.w) X.A (call (.builtin "sorted") [.ref a] [(Str.ofString "key", .ref f)]) (EP X pins σ Q) X.xe s := by
  obtain ⟨its, rv, pl, hz⟩ := I.list h1
  have hl := rv.length
  have hd := dpAllLen h2
  rw [List.length_map] at hd
  refine PySem.W.sorted_key_data (b := false) key pl.isList (eachIs_enc h2 rv) hal hk (by omega) hu (ksk_s1 _ _) (fun _ => ksk_l1 _ _) (fun _ => ksk_t1 _ _) (fun v x ⟨y, r, hx⟩ hm h tk kp => ?_) fun out c h' tk kp hfr hD ho eo => ?_
  · obtain ⟨as, rd⟩ := Dp.reads I _ _ _ hx r
    have g : Grow s { s with heap := h, toks := tk } := ⟨h, tk, rfl, kp⟩
    refine wpAny_mono (turn x hm v _ g (PyProof.Rows.Reads.keeps kp (reads_noL (hn x hm) rd))) (fun v' s' ⟨g', r'⟩ => ?_) fun _ _ z => z
    obtain ⟨h2, t2, rfl, k2⟩ := g'
    exact ⟨h2, t2, rfl, k2, r'⟩
  · obtain ⟨zs, rz, dz⟩ := of_eachEnc eo
    have hf : H (s.heap.objs.size + 1) = none := I.hok.fresh (Nat.le_succ _)
    have hlen : zs.length ≤ sizeLine := by
      rw [dpAllLen dz, List.length_map, List.length_mergeSort]
      omega
    refine ⟨.ref _, upd H (s.heap.objs.size + 1) (.lst zs), I.laid (t' := tk) kp (Nat.le_succ _) ⟨hlen, _, c, rz, hD⟩, rfl, q _ _ hf dz⟩
/-- a def of one parameter that returns e -/
theorem key_def {prog : Program} {w : World} {A : Around} {K : PySem.W.Frag} {x qual pn : Str} {params : Arguments} {e : Expr} {scope : Scope} {f : Addr} {fd : FuncData} {rp : Pos} {d k : PyData} {v : Value} {s : Shared} (F : FunD K x qual params [.Return (some e) rp] scope [] [] f fd) (S : FnScope [pn] [pn] scope)
    (hb : ∀ (kV doc pm : Value) (an : Option Addr) (cdv ct : Value) (u : Value), bindArgs (PySem.W.fnOf x qual params [.Return (some e) rp] scope .none kV doc pm an cdv ct) ⟨[u], []⟩ = pure [(pn, u)])
    (hk : scope.kind = .function) (hc : ∀ y ∈ scope.names, y.2 ≠ .cell) (hl : scope.names.lookup pn = some .local) (hr : A.depth < recursionLimit) (KX : K.In s.heap) (lim : s.heap.NoLimit) (r : Reads s.heap v d [])
    (he : ∀ (A' : Around) (env : Env) (s0 : Shared) (m : Str → Option Value), env.scope = scope → s0.heap.Ns env.locals m → m pn = some v → Reads s0.heap v d [] → KE prog w A' (fun _ _ => False) env s0 e k) :
    wpAny (model prog w) A (call (.ref f) [v]) (fun v s' => Grow s s' ∧ Reads s'.heap v k []) (fun _ _ => False) s := by
  obtain ⟨oc, od, dV, kV, doc, pm, an, cdv, ct, osl, rfl, lk, hcd, dfl, _⟩ := F.ex
  obtain rfl : dV = .none := by
    rcases dfl with ⟨_, h⟩ | ⟨h, _⟩
    · exact h
    · exact absurd rfl h
  refine wpAny_call (codeAny_call_function hr (KX _ _ lk) rfl S.co S.gen rfl (PySem.W.codeRec_of KX hcd) ?_)
  rw [hb]
  refine wpAny_pure (wpAny_newFunctionEnv hc (fun y hy => ?_) (fun h₁ hns hsb => ⟨lim.fresh _ hsb, codeAny_func ?_⟩) hk)
  · rw [List.mem_singleton.mp hy]
    exact hl
  · have kp : ∀ b o, s.heap.get? b = some o → h₁.get? b = some o := fun b o e => hsb.extBut b o (Nat.ne_of_lt (Heap.lt_size e)) (Heap.get?_push_of_some _ e)
    have g1 : Grow s { s with heap := h₁, toks := s.toks + ([(pn, v)] : List (Str × Value)).length } := ⟨_, _, rfl, kp⟩
    refine wpAny_execs_cons (wpAny_Return_some (wpAny_mono (he _ _ { s with heap := h₁, toks := s.toks + ([(pn, v)] : List (Str × Value)).length } _ rfl hns ?_ (PyProof.Rows.Reads.keeps kp r) _ (Grow.refl _)) (fun v' s' ⟨g, r'⟩ => ⟨g1.trans g, r'⟩) fun _ _ z => z.elim))
    simp [List.lookup_cons]
/-- a lambda of one parameter -/
theorem key_lam {prog : Program} {w : World} {A : Around} {qual pn : Str} {params : Arguments} {e : Expr} {scope : Scope} {f c' : Addr} {cl : List (Str × Addr)} {pm ctv : Value} {d k : PyData} {v : Value} {s : Shared} (ho : s.heap.get? f = some (PySem.W.kla_obj "<lambda>" qual params e scope cl pm c' ctv)) (hcd : s.heap.CodeRec (.ref c') qual)
    (hb : bindArgs (PySem.W.kla_fn "<lambda>" qual params e scope cl pm (.ref c') ctv) ⟨[v], []⟩ = pure [(pn, v)]) (hco : scope.isCoroutine = false) (hgen : scope.isGenerator = false)
    (hk : scope.kind = .function) (hc : ∀ y ∈ scope.names, y.2 ≠ .cell) (hl : scope.names.lookup pn = some .local) (hr : A.depth < recursionLimit) (lim : s.heap.NoLimit) (r : Reads s.heap v d [])
    (he : ∀ (A' : Around) (env : Env) (s0 : Shared) (m : Str → Option Value), env.scope = scope → env.cells = cl → Grow s s0 → s0.heap.Ns env.locals m → m pn = some v → Reads s0.heap v d [] → KE prog w A' (fun e' s' => wpAny (model prog w) A' (leaving env e') (fun _ _ => False) (fun _ _ => False) s') env s0 e k) :
    wpAny (model prog w) A (call (.ref f) [v]) (fun v s' => Grow s s' ∧ Reads s'.heap v k []) (fun _ _ => False) s := by
  refine wpAny_call (PySem.W.kla_callFunE hr ho rfl hco hgen rfl hcd ?_)
  rw [hb]
  refine wpAny_pure (wpAny_newFunctionEnv hc (fun y hy => ?_) (fun h₁ hns hsb => ⟨lim.fresh _ hsb, PySem.W.kla_codeExpr ?_⟩) hk)
  · rw [List.mem_singleton.mp hy]
    exact hl
  · have kp : ∀ b o, s.heap.get? b = some o → h₁.get? b = some o := fun b o e => hsb.extBut b o (Nat.ne_of_lt (Heap.lt_size e)) (Heap.get?_push_of_some _ e)
    have g1 : Grow s { s with heap := h₁, toks := s.toks + ([(pn, v)] : List (Str × Value)).length } := ⟨_, _, rfl, kp⟩
    refine wpAny_mono (he _ _ { s with heap := h₁, toks := s.toks + ([(pn, v)] : List (Str × Value)).length } _ rfl rfl g1 hns ?_ (PyProof.Rows.Reads.keeps kp r) _ (Grow.refl _)) (fun v' s' ⟨g, r'⟩ => ⟨g1.trans g, r'⟩) fun _ _ z => z
    simp [List.lookup_cons]
end
/-! ### sorted(e, key=f), f a def -/
section
variable {X : Cx} {α : Type} {e : Expr} {ρ : Ev} {p p2 kp pos : Pos} {f : Addr} {x : Str}
theorem pd_sortedK {enc key : α → PyData} {xs : List α} (hg : Gl X "sorted") (hm : X.mg "sorted" = none) (ha : PE X e (tD X.K ρ (.d (.list (xs.map enc))))) (hgf : Gl X x) (hmf : X.mg x = some (.ref f)) (hal : AllAlike (xs.map key)) (hk : Sortable (xs.map key)) (hu : ∀ x ∈ xs, X.A.units + 2 + (key x).depth < cLine) (hn : ∀ x ∈ xs, noL (enc x) = true)
    (turn : ∀ (pins : List (Addr × Obj)) (σ : L2.St) (H : Hp) (s : Shared), Inv X pins σ H s → ∀ x ∈ xs, ∀ (v : Value) (s1 : Shared), Grow s s1 → Reads s1.heap v (enc x) [] → wpAny (model X.prog X.w) X.A.in1.in1 (call (.ref f) [v]) (fun v s' => Grow s1 s' ∧ Reads s'.heap v (key x) []) (fun _ _ => False) s1)
    (hdx : (x == ("__debug__" : Str)) = false := by decide) (hs1 : starEach [e] X.env = (false, eval e X.env) :: starEach [] X.env := by rfl) (he : backTo pos (starEach [e] X.env) = (false, eval e X.env) :: backTo pos (starEach [] X.env) := by rfl) (hpl : (backTo pos (starEach [e] X.env)).any (·.1) = false := by rfl)
    (hall : (backToKw pos (keywordEach [⟨some "key", .Name x p2, kp⟩] X.env)).all (·.1.isSome) = true := by rfl) (hnone : (backToKw pos (keywordEach [⟨some "key", .Name x p2, kp⟩] X.env)).any (·.1.isNone) = false := by rfl) (hks : (backToKw pos (keywordEach [⟨some "key", .Name x p2, kp⟩] X.env)).filterMap (·.1) = [Str.ofString "key"] := by rfl) :
    PE X (.Call (.Name "sorted" p) [e] [⟨some "key", .Name x p2, kp⟩] pos) (tD X.K ρ (.d (.list ((xs.mergeSort (dataLe false key)).map enc)))) := by
  have hc : CallRK X (.builtin "sorted") [Str.ofString "key"] (fun vs zs H Q => ∃ (a : Addr) (ys : List V), vs = [.ref a] ∧ zs = [.ref f] ∧ SqL X.K H a ys ∧ DpAll X.K H ys (xs.map enc) ∧ ∀ (p : Addr) (zs : List V), H p = none → DpAll X.K H zs ((xs.mergeSort (dataLe false key)).map enc) → Q (.ref p) (upd H p (.lst zs))) := by
    intro pins s σ H vs zs us ws Q I r rz ⟨a, ys, e1, e2, h1, h2, q⟩
    subst e1 e2
    obtain rfl := Vals.ref1 r
    obtain rfl := Vals.ref1 rz
    exact sorted_key_run I h1 h2 hal hk hu hn (turn pins σ H s I) q
  refine peI (pe_callBK hc hg hm PyProof.Rows.boot_sorted (pa_cons ha pa_nil hs1) (pk_cons (pe_glob hgf hmf (v := .ref f) rfl hdx) pk_nil) (by decide) (by decide) he hpl hall hnone hks) fun σ H Q ⟨hh, k⟩ => ⟨hh, fun v H1 s1 q1 => ?_⟩
  obtain ⟨a, ys, rfl, h1, h2⟩ := dpLstR q1
  exact ⟨a, ys, rfl, rfl, h1, h2, fun p zs hp hz => k _ _ (s1.trans (sameNew hp)) (Dp.lst (SqL.of upd_same) (dpAllMono (sameNew hp) hz))⟩
end
end Bx
namespace Bx
open PySem L2 PySem.SeqAt
open PySem.W (alike alikeAll dataLt dataLe EachIs AllAlike Sortable)
section
variable {C : Ctx} {f : Addr} {fd : FuncData}

/-! ### what houses and answers say -/
def stepsD (p q : Place) : Int := ((p.zip q).map fun x => ((x.1 - x.2).natAbs : Int)).sum
def thingsIn (h : House) (b : Box) : List Thing := h.things.filter fun t => fitsB b t.place
def namesOf (ts : List Thing) : List Int := ts.map (·.name)
def bestLe (t u : Thing) : Bool := decide (-t.worth < -u.worth ∨ (-t.worth = -u.worth ∧ t.name ≤ u.name))
def bestFirst (ts : List Thing) : List Thing := ts.mergeSort bestLe
def nearLe (p : Place) (t u : Thing) : Bool := decide (stepsD t.place p < stepsD u.place p ∨ (stepsD t.place p = stepsD u.place p ∧ t.name ≤ u.name))
def nearestFirst (ts : List Thing) (p : Place) : List Thing := ts.mergeSort (nearLe p)
structure HouseOk (h : House) : Prop where
  d1 : 1 ≤ h.d
  d4 : h.d ≤ 4
  many : h.things.length ≤ 30
  len : ∀ t ∈ h.things, t.place.length = h.d
  nd : (h.things.map (·.name)).Pairwise (· < ·)
structure BoxOk (h : House) (b : Box) : Prop where
  len : b.length = h.d
structure ThingsOk (ts : List Thing) : Prop where
  many : ts.length ≤ 30
  few : ∀ t ∈ ts, t.place.length ≤ 4
  nd : (ts.map (·.name)).Nodup
theorem HouseOk.things {h : House} (H : HouseOk h) : ThingsOk h.things := ⟨H.many, fun t ht => by rw [H.len t ht]; exact H.d4, H.nd.imp fun h => Int.ne_of_lt h⟩
theorem ThingsOk.sub {ts us : List Thing} (H : ThingsOk ts) (s : us.Sublist ts) : ThingsOk us := ⟨Nat.le_trans s.length_le H.many, fun t ht => H.few t (s.subset ht), (s.map _).nodup H.nd⟩
theorem ThingsOk.filter {ts : List Thing} (H : ThingsOk ts) (p : Thing → Bool) : ThingsOk (ts.filter p) := H.sub List.filter_sublist
theorem pts1 {Y : Cx} {c : Expr} {ρ : Ev} {k : Bool} (h : PT Y c (tDT Y.K ρ k)) : PTs Y [c] (tDT Y.K ρ k) := pts_one h
theorem ix_thing (t : Thing) : rowOf (encThing t) = some [.int t.name, en t.place, .int t.worth] := rfl
abbrev Rsteps := Rf (A := Place × Place) (fun a => a.1.length ≤ 100) (fun a => [ed a.1, ed a.2]) (fun a => .d (.int (stepsD a.1 a.2)))
abbrev N17 : List Str := ["one", "other", "number", "its"]
theorem sc17 : FnScope N17 ["one", "other"] (defScope (top 17)) := ⟨rfl, rfl, rfl, by decide +kernel, rfl, by decide +kernel, by decide +kernel⟩
theorem ok_steps (F : Fd C.K "steps" "steps" (top 17) f fd) (m : C.mg "steps" = some (.ref f)) (B : Blt C) : Has C "steps" 1 Rsteps := by
  refine has_fn (fun a => [some (ed a.1), some (ed a.2), none, none]) F m sc17 (by decide) (fun _ _ _ _ _ _ us hl => match us, hl with | [_, _], _ => rfl) (fun _ => rfl) (fun _ => rfl) fun X a at_ hr hp ⟨cdv, A, outer, s, H, E, hX⟩ => ?_
  have hu : X.A.units + 64 < cLine := hr.units
  subst hX
  obtain ⟨p, q⟩ := a
  refine pds_one (pds_ret (cb at_ B.sum (cd_sumF rfl (p.zip q) fun x => ((x.1 - x.2).natAbs : Int)) (a1 ?_)))
  refine pd_lc rfl sc17.nd (p.zip q) (fun q => .tuple [.int q.1, .int q.2]) _ (own := [("number", 2), ("its", 3)]) ?_ (blkOk_by (N := N17) (sc := defScope (top 17)) (by decide +kernel)) (fun q _ => ?_) ?_ (by intro _; rfl)
  · rw [← zipD_map]
    exact pid_zipT rfl (at_.no B.zip) (nm 0) (nm 1)
  · exact ⟨_, _, by decide, fun s H C cl fp => gd_tup rfl (gds_cons (gn 2 sc17.nd) (gds_cons (gn 3 sc17.nd) gds_nil)) rfl, fun s H C' c' fp => cb at_.blk B.abs cd_abs (a1 (bop (nm 2) (nm 3) od_sub))⟩
  · rw [List.length_zip]
    have : p.length ≤ 100 := hp
    omega
abbrev Rthings_in := Rf (A := House × Box) (fun a => a.1.things.length ≤ 1000 ∧ a.2.length ≤ 100) (fun a => [.d (encHouse a.1), .d (encBox a.2)]) (fun a => .d (.list ((thingsIn a.1 a.2).map encThing)))
abbrev N19 : List Str := ["house", "box", "thing"]
theorem sc19 : FnScope N19 ["house", "box"] (defScope (top 19)) := ⟨rfl, rfl, rfl, by decide +kernel, rfl, by decide +kernel, by decide +kernel⟩
theorem ok_things_in (F : Fd C.K "things_in" "things_in" (top 19) f fd) (m : C.mg "things_in" = some (.ref f)) (h1 : Has C "fits" 3 Rfits) : Has C "things_in" 4 Rthings_in := by
  refine has_fn (fun a => [some (.d (encHouse a.1)), some (.d (encBox a.2)), none]) F m sc19 (by decide) (fun _ _ _ _ _ _ us hl => match us, hl with | [_, _], _ => rfl) (fun _ => rfl) (fun _ => rfl) fun X a at_ hr hp ⟨cdv, A, outer, s, H, E, hX⟩ => ?_
  have hu : X.A.units + 64 < cLine := hr.units
  subst hX
  obtain ⟨h, b⟩ := a
  obtain ⟨hp1, hp2⟩ := hp
  refine rt (pd_lcF rfl sc19.nd h.things encThing (fun t => fitsB b t.place) encThing (own := [("thing", 2)]) (pid_tup (ix 1 (nm 0))) (blkOk_by (N := N19) (sc := defScope (top 19)) (by decide +kernel)) (fun t _ => ⟨_, _, by decide, fun s H C cl fp => gn 2 sc19.nd, fun s H C' c' fp => pts1 (pt_b (cl h1 (b, t.place) at_.blk hr (a2 (nm 1) (ix 1 (nm 2))) hp2)), fun _ s H C' c' fp => nm 2⟩) (Nat.le_trans hp1 (by decide)) (by intro _; rfl))
abbrev Rfitting := Rf (A := House × Box) (fun a => a.1.things.length ≤ 1000 ∧ a.2.length ≤ 100) (fun a => [.d (encHouse a.1), .d (encBox a.2)]) (fun a => ed (namesOf (thingsIn a.1 a.2)))
abbrev N20 : List Str := ["house", "box", "thing"]
theorem sc20 : FnScope N20 ["house", "box"] (defScope (top 20)) := ⟨rfl, rfl, rfl, by decide +kernel, rfl, by decide +kernel, by decide +kernel⟩
theorem ok_fitting (F : Fd C.K "fitting" "fitting" (top 20) f fd) (m : C.mg "fitting" = some (.ref f)) (B : Blt C) (h1 : Has C "things_in" 4 Rthings_in) : Has C "fitting" 5 Rfitting := by
  refine has_fn (fun a => [some (.d (encHouse a.1)), some (.d (encBox a.2)), none]) F m sc20 (by decide) (fun _ _ _ _ _ _ us hl => match us, hl with | [_, _], _ => rfl) (fun _ => rfl) (fun _ => rfl) fun X a at_ hr hp ⟨cdv, A, outer, s, H, E, hX⟩ => ?_
  have hu : X.A.units + 64 < cLine := hr.units
  subst hX
  obtain ⟨h, b⟩ := a
  have hl : (thingsIn h b).length ≤ 100000 := Nat.le_trans (List.length_filter_le _ _) (Nat.le_trans hp.1 (by decide))
  refine rt (pd_eq (ct at_ B.tuple (cd_tup rfl) (a1 (pd_lc rfl sc20.nd (thingsIn h b) encThing (fun t => en t.name) (own := [("thing", 2)]) (pid_list (cl h1 (h, b) at_ hr (a2 (nm 0) (nm 1)) hp)) (blkOk_by (N := N20) (sc := defScope (top 20)) (by decide +kernel)) (fun t _ => ⟨_, _, by decide, fun s H C cl fp => gn 2 sc20.nd, fun s H C' c' fp => ix 0 (nm 2)⟩) hl (by intro _; rfl)))) ?_)
  show Sl.d (.tuple _) = .d (.tuple (List.map Enc.enc _))
  rw [namesOf, List.map_map]
  rfl
abbrev Rnames_of := Rf (A := List Thing) (fun a => a.length ≤ 1000) (fun a => [.d (.list (a.map encThing))]) (fun a => ed (namesOf a))
abbrev N25 : List Str := ["things", "thing"]
theorem sc25 : FnScope N25 ["things"] (defScope (top 25)) := ⟨rfl, rfl, rfl, by decide +kernel, rfl, by decide +kernel, by decide +kernel⟩
theorem ok_names_of_answers (F : Fd C.K "names_of" "names_of" (top 25) f fd) (m : C.mg "names_of_answers" = some (.ref f)) (B : Blt C) : Has C "names_of_answers" 1 Rnames_of := by
  refine has_fn (fun a => [some (.d (.list (a.map encThing))), none]) F m sc25 (by decide) (fun _ _ _ _ _ _ us hl => match us, hl with | [_], _ => rfl) (fun _ => rfl) (fun _ => rfl) fun X a at_ hr hp ⟨cdv, A, outer, s, H, E, hX⟩ => ?_
  have hu : X.A.units + 64 < cLine := hr.units
  subst hX
  refine rt (pd_eq (ct at_ B.tuple (cd_tup rfl) (a1 (pd_lc rfl sc25.nd a encThing (fun t => en t.name) (own := [("thing", 1)]) (pid_list (nm 0)) (blkOk_by (N := N25) (sc := defScope (top 25)) (by decide +kernel)) (fun t _ => ⟨_, _, by decide, fun s H C cl fp => gn 1 sc25.nd, fun s H C' c' fp => ix 0 (nm 1)⟩) (Nat.le_trans hp (by decide)) (by intro _; rfl)))) ?_)
  show Sl.d (.tuple _) = .d (.tuple (List.map Enc.enc _))
  rw [namesOf, List.map_map]
  rfl

/-! ### 28 -/
def bestKey (t : Thing) : PyData := .tuple [.int (-t.worth), .int t.name]
theorem bestLe_eq : dataLe false bestKey = bestLe := PySem.W.dataLe_ii (β := Thing) (fun t => -t.worth) (fun t => t.name)
theorem sc24 : FnScope ["thing"] ["thing"] (defScope (top 24)) := ⟨rfl, rfl, rfl, by decide +kernel, rfl, by decide +kernel, by decide +kernel⟩
theorem in2 {A : Around} {s : Shared} : A.in1.in1.depth = A.depth := rfl
theorem grow_in {K : PySem.W.Frag} {s s' : Shared} (h : K.In s.heap) (g : Grow s s') : K.In s'.heap := h.keeps g.old
theorem grow_lim {s s' : Shared} (h : s.heap.NoLimit) (g : Grow s s') : s'.heap.NoLimit := h.keeps g.old
theorem turn24 {X : Cx} {k : Nat} (F : Fd X.K "by_worth_down" "by_worth_down" (top 24) f fd) (hr : Room k X.A) (pins : List (Addr × Obj)) (σ : L2.St) (H : Hp) (s : Shared) (I : L2.Inv X pins σ H s) (t : Thing) (v : Value) (s1 : Shared) (g : Grow s s1) (r : Reads s1.heap v (encThing t) []) :
    wpAny (model X.prog X.w) X.A.in1.in1 (call (.ref f) [v]) (fun v s' => Grow s1 s' ∧ Reads s'.heap v (bestKey t) []) (fun _ _ => False) s1 := by
  refine key_def (pn := "thing") F sc24 (fun _ _ _ _ _ _ _ => rfl) rfl (by decide +kernel) rfl (by rw [in2 (s := s1)]; exact hr.depth) (grow_in I.kIn g) (grow_lim I.nolimit g) r fun A' env s0 m hs hn hm hrd => ?_
  have hl : env.kindOf "thing" = some .local := by
    unfold Env.kindOf
    rw [hs]
    rfl
  have hk : env.scope.kind = .function := by rw [hs]; rfl
  exact ke_tup2 (ke_neg (ke_ix 2 (ke_local hk hl hn hm hrd))) (ke_ix 0 (ke_local hk hl hn hm hrd))
abbrev Rbest_first := Rf (A := List Thing) (fun a => True) (fun a => [.d (.list (a.map encThing))]) (fun a => .d (.list ((bestFirst a).map encThing)))
abbrev N28 : List Str := ["things"]
theorem sc28 : FnScope N28 ["things"] (defScope (top 28)) := ⟨rfl, rfl, rfl, by decide +kernel, rfl, by decide +kernel, by decide +kernel⟩
theorem ok_best_first (F : Fd C.K "best_first" "best_first" (top 28) f fd) (m : C.mg "best_first" = some (.ref f)) (B : Blt C) {g : Addr} {gd : FuncData} (G : Fd C.K "by_worth_down" "by_worth_down" (top 24) g gd) (mg : C.mg "by_worth_down" = some (.ref g)) : Has C "best_first" 4 Rbest_first := by
  refine has_fn (fun a => [some (.d (.list (a.map encThing)))]) F m sc28 (by decide) (fun _ _ _ _ _ _ us hl => match us, hl with | [_], _ => rfl) (fun _ => rfl) (fun _ => rfl) fun X a at_ hr hp ⟨cdv, A, outer, s, H, E, hX⟩ => ?_
  have hu : X.A.units + 64 < cLine := hr.units
  subst hX
  have e : bestFirst a = a.mergeSort (dataLe false bestKey) := by rw [bestLe_eq]; rfl
  rw [e]
  refine rt (pd_sortedK (key := bestKey) (xs := a) rfl (at_.no B.sorted) (nm 0) rfl (by rw [at_.m]; exact mg) (AllAlike.of fun _ _ => by simp [alike, alikeAll, bestKey]) (Sortable.tuples fun _ => ⟨_, _, rfl⟩) (fun t _ => ?_) (fun t _ => noL_thing t) fun pins σ H' s' I t _ v s1 g1 r => turn24 (by rw [at_.k]; exact G) hr pins σ H' s' I t v s1 g1 r)
  have hd : (bestKey t).depth = 1 := by simp [bestKey, PyData.depth, PyData.depthAll]
  omega

/-! ### 29 -/
def triple (p : Place) (t : Thing) : PyData := .tuple [.int (stepsD t.place p), .int t.name, encThing t]
theorem alike_thing (t u : Thing) : alike (encThing t) (encThing u) = true := by
  have h : alike (en t.place) (en u.place) = true := by
    show alikeAll (t.place.map .int) (u.place.map .int) = true
    exact PySem.W.alike_ints _ _
  simp only [encThing, alike, alikeAll, h, Bool.and_self]
theorem depth_thing (t : Thing) : (encThing t).depth ≤ 2 := by
  have h : PyData.depthAll (t.place.map .int) + 1 ≤ 1 := Enc.dep_le t.place
  show max 0 (max (PyData.depthAll (t.place.map .int) + 1) (max 0 0)) + 1 ≤ 2
  omega
theorem triple_lt {a b c e : Int} {x y : PyData} (h : ¬(a = c ∧ b = e)) : dataLt (.tuple [.int a, .int b, x]) (.tuple [.int c, .int e, y]) = decide (a < c ∨ (a = c ∧ b < e)) := by
  rw [PySem.W.dataLt_tuple, PySem.W.dataLt_cons (by rfl)]
  by_cases h1 : a = c
  · subst h1
    have e1 : PyData.eqv (.int a) (.int a) = true := by simp [PyData.eqv]
    rw [if_pos e1, PySem.W.dataLt_cons (by rfl)]
    by_cases h2 : b = e
    · exact absurd ⟨rfl, h2⟩ h
    · have e2 : ¬ PyData.eqv (.int b) (.int e) = true := by simp [PyData.eqv, h2]
      rw [if_neg e2, PySem.W.dataLt_int]
      simp
  · have e2 : ¬ PyData.eqv (.int a) (.int c) = true := by simp [PyData.eqv, h1]
    rw [if_neg e2, PySem.W.dataLt_int]
    simp [h1]
theorem dataLt_irr (x : PyData) : dataLt x x = false := by
  unfold dataLt
  exact PyProof.Rows.lex_irrefl _
theorem name_inj {ts : List Thing} (h : (ts.map (·.name)).Nodup) {t u : Thing} (ht : t ∈ ts) (hu : u ∈ ts) (e : t.name = u.name) : t = u := by
  induction ts with
  | nil => cases ht
  | cons x xs ih =>
    rw [List.map_cons, List.nodup_cons] at h
    obtain ⟨h1, h2⟩ := h
    rcases List.mem_cons.mp ht with q1 | q1 <;> rcases List.mem_cons.mp hu with q2 | q2
    · rw [q1, q2]
    · exact absurd (List.mem_map.mpr ⟨u, q2, by rw [← e, q1]⟩) h1
    · exact absurd (List.mem_map.mpr ⟨t, q1, by rw [e, q2]⟩) h1
    · exact ih h2 q1 q2
theorem near_le {ts : List Thing} (p : Place) (h : (ts.map (·.name)).Nodup) {t u : Thing} (ht : t ∈ ts) (hu : u ∈ ts) : nearLe p t u = dataLe false (fun d => d) (triple p t) (triple p u) := by
  show _ = !dataLt (triple p u) (triple p t)
  by_cases e : t = u
  · subst e
    rw [dataLt_irr]
    simp [nearLe]
  · have hn : t.name ≠ u.name := fun q => e (name_inj h ht hu q)
    unfold triple
    rw [triple_lt (by intro ⟨_, q⟩; exact hn q.symm)]
    unfold nearLe
    rw [Bool.eq_iff_iff]
    simp only [decide_eq_true_eq, Bool.not_eq_true', decide_eq_false_iff_not]
    omega
theorem sort_near {ts : List Thing} (p : Place) (h : (ts.map (·.name)).Nodup) : sortD (ts.map (triple p)) = (nearestFirst ts p).map (triple p) := by
  unfold sortD nearestFirst
  exact (List.map_mergeSort (r := nearLe p) (s := dataLe false fun d => d) (f := triple p) (l := ts) fun t ht u hu => near_le p h ht hu).symm
abbrev Rnearest_first := Rf (A := List Thing × Place) (fun a => ThingsOk a.1) (fun a => [.d (.list (a.1.map encThing)), ed a.2]) (fun a => .d (.list ((nearestFirst a.1 a.2).map encThing)))
abbrev N29 : List Str := ["things", "place", "rows", "thing", "far", "name"]
theorem sc29 : FnScope N29 ["things", "place"] (defScope (top 29)) := ⟨rfl, rfl, rfl, by decide +kernel, rfl, by decide +kernel, by decide +kernel⟩
theorem ok_nearest_first (F : Fd C.K "nearest_first" "nearest_first" (top 29) f fd) (m : C.mg "nearest_first" = some (.ref f)) (B : Blt C) (h1 : Has C "steps" 1 Rsteps) : Has C "nearest_first" 4 Rnearest_first := by
  refine has_fn (fun a => [some (.d (.list (a.1.map encThing))), some (ed a.2), none, none, none, none]) F m sc29 (by decide) (fun _ _ _ _ _ _ us hl => match us, hl with | [_, _], _ => rfl) (fun _ => rfl) (fun _ => rfl) fun X a at_ hr hp ⟨cdv, A, outer, s, H, E, hX⟩ => ?_
  have hu : X.A.units + 64 < cLine := hr.units
  subst hX
  obtain ⟨ts, p⟩ := a
  have hz : ts.length ≤ 100000 := Nat.le_trans hp.many (by decide)
  have hs : (nearestFirst ts p).length ≤ 100000 := by unfold nearestFirst; rw [List.length_mergeSort]; exact hz
  refine seq (st 2 (pd_eq (cb at_ B.sorted (cd_sorted (ds := ts.map (triple p)) (AllAlike.of fun t u => ?_) (Sortable.tuples fun _ => ⟨_, _, rfl⟩) (fun d hd => ?_)) (a1 (pd_lc rfl sc29.nd ts encThing (triple p) (own := [("thing", 3)]) (pid_list (nm 0)) (blkOk_by (N := N29) (sc := defScope (top 29)) (by decide +kernel)) (fun t ht => ⟨_, _, by decide, fun s H C cl fp => gn 3 sc29.nd, fun s H C' c' fp => t3 (cl h1 (t.place, p) at_.blk hr (a2 (ix 1 (nm 3)) (nm 1)) (Nat.le_trans (hp.few t ht) (by decide))) (ix 0 (nm 3)) (nm 3)⟩) hz (by intro _; rfl)))) (congrArg (fun z => Sl.d (.list z)) (sort_near p hp.nd))) sc29.nd) (rt ?_)
  · simp only [triple, alike, alikeAll, alike_thing, Bool.and_self]
  · obtain ⟨t, _, rfl⟩ := List.mem_map.mp hd
    have h := depth_thing t
    have h2 : (triple p t).depth ≤ 3 := by
      simp only [triple, PyData.depth, PyData.depthAll]
      omega
    omega
  · exact pd_lc rfl sc29.nd (nearestFirst ts p) (triple p) encThing (own := [("far", 4), ("name", 5), ("thing", 3)]) (pid_list (nm 2)) (blkOk_by (N := N29) (sc := defScope (top 29)) (by decide +kernel)) (fun t ht => ⟨_, _, by decide, fun s H C cl fp => gd_tup rfl (gds_cons (gn 4 sc29.nd) (gds_cons (gn 5 sc29.nd) (gds_cons (gn 3 sc29.nd) gds_nil))) rfl, fun s H C' c' fp => nm 3⟩) hs (by intro _; rfl)

/-! ### 31, 32 -/
inductive Kind where
  | best
  | near (p : Place)
def Kind.far (k : Kind) (t : Thing) : Int := match k with
  | .best => -t.worth
  | .near p => stepsD t.place p
def kindLe (k : Kind) (t u : Thing) : Bool := decide (k.far t < k.far u ∨ (k.far t = k.far u ∧ t.name ≤ u.name))
def sortedBy (k : Kind) (ts : List Thing) : List Thing := ts.mergeSort (kindLe k)
def encKind : Kind → PyData
  | .best => .tuple [.str "best"]
  | .near p => .tuple [.str "near", en p]
def encAsk (k : Kind) (b : Box) : PyData := match k with
  | .best => .tuple [.str "best", encBox b, .int 400]
  | .near p => .tuple [.str "near", encBox b, en p, .int 400]
theorem od_eqS {X : Cx} {a b : Str} {k : Bool} (hu : X.A.units + 64 < cLine) (e : PyData.eqv (.str a) (.str b) = k := by decide +kernel) (h1 : shaped (.str a) = true := by decide +kernel) (h2 : shaped (.str b) = true := by decide +kernel) : OpR X (compareOp .Eq) (rD X.K (.d (.str a)) (.d (.str b)) (.d (.bool k))) := by
  have q := od_eq (X := X) (x := .str a) (y := .str b) hu h1 h2
  rw [e] at q
  exact q
theorem cut400 {α : Type} (xs : List α) (h : xs.length ≤ 400) : cutD xs none (some 400) = xs := by
  have h1 : HT.sIx xs.length xs.length (some 400) = xs.length := by
    unfold HT.sIx
    simp
    omega
  have h2 : HT.sIx xs.length 0 none = 0 := rfl
  unfold cutD
  rw [h1, h2]
  simp
theorem seqE {X : Cx} {st : Stmt} {sts : List Stmt} {ρ : Ev} {w : Sl} (h1 : PS X st (tDS X.K ρ (.ret w))) : PSs X (st :: sts) (tDS X.K ρ (.ret w)) := pds_end h1 fun _ h => nomatch h
abbrev Ranswer_of := Rf (A := List Thing × Kind × Box) (fun a => ThingsOk a.1) (fun a => [.d (.list (a.1.map encThing)), .d (encAsk a.2.1 a.2.2)]) (fun a => ed (namesOf (sortedBy a.2.1 a.1)))
abbrev N31 : List Str := ["things", "ask", "word", "thing"]
theorem sc31 : FnScope N31 ["things", "ask"] (defScope (top 31)) := ⟨rfl, rfl, rfl, by decide +kernel, rfl, by decide +kernel, by decide +kernel⟩
theorem ok_answer_of (F : Fd C.K "answer_of" "answer_of" (top 31) f fd) (m : C.mg "answer_of" = some (.ref f)) (h1 : Has C "names_of_answers" 1 Rnames_of) (h2 : Has C "best_first" 4 Rbest_first) (h3 : Has C "nearest_first" 4 Rnearest_first) : Has C "answer_of" 5 Ranswer_of := by
  refine has_fn (fun a => [some (.d (.list (a.1.map encThing))), some (.d (encAsk a.2.1 a.2.2)), none, none]) F m sc31 (by decide) (fun _ _ _ _ _ _ us hl => match us, hl with | [_, _], _ => rfl) (fun _ => rfl) (fun _ => rfl) fun X a at_ hr hp ⟨cdv, A, outer, s, H, E, hX⟩ => ?_
  have hu : X.A.units + 64 < cLine := hr.units
  subst hX
  obtain ⟨ts, k, b⟩ := a
  have hb : (bestFirst ts).length ≤ 30 := by unfold bestFirst; rw [List.length_mergeSort]; exact hp.many
  have hn : ∀ p, (nearestFirst ts p).length ≤ 30 := fun p => by unfold nearestFirst; rw [List.length_mergeSort]; exact hp.many
  cases k with
  | best =>
    refine seq (st 2 (ix 0 (nm 1)) sc31.nd) ?_
    refine seq (ifF (cmpT (nm 2) pd_str (od_eqS hu)) pds_nxt) ?_
    refine seq (ifF (cmpT (nm 2) pd_str (od_eqS hu)) pds_nxt) ?_
    refine seq (ifF (cmpT (nm 2) pd_str (od_eqS hu)) pds_nxt) ?_
    refine seq (ifF (cmpT (nm 2) pd_str (od_eqS hu)) pds_nxt) ?_
    refine seq (ifF (cmpT (nm 2) pd_str (od_eqS hu)) pds_nxt) ?_
    refine seq (ifF (cmpT (nm 2) pd_str (od_eqS hu)) pds_nxt) ?_
    refine seqE (ifT (cmpT (nm 2) pd_str (od_eqS hu)) (rt (cl h1 (bestFirst ts) at_ hr (a1 (pd_eq (pd_slL (cl h2 ts at_ hr (a1 (nm 0)) trivial) pdo_none (pdo_some (ix 2 (nm 1)))) ?_)) (Nat.le_trans hb (by decide)))))
    rw [cut400 _ (by rw [List.length_map]; omega)]
  | near p =>
    refine seq (st 2 (ix 0 (nm 1)) sc31.nd) ?_
    refine seq (ifF (cmpT (nm 2) pd_str (od_eqS hu)) pds_nxt) ?_
    refine seq (ifF (cmpT (nm 2) pd_str (od_eqS hu)) pds_nxt) ?_
    refine seq (ifF (cmpT (nm 2) pd_str (od_eqS hu)) pds_nxt) ?_
    refine seq (ifF (cmpT (nm 2) pd_str (od_eqS hu)) pds_nxt) ?_
    refine seq (ifF (cmpT (nm 2) pd_str (od_eqS hu)) pds_nxt) ?_
    refine seq (ifF (cmpT (nm 2) pd_str (od_eqS hu)) pds_nxt) ?_
    refine seq (ifF (cmpT (nm 2) pd_str (od_eqS hu)) pds_nxt) ?_
    refine rt (cl h1 (nearestFirst ts p) at_ hr (a1 (pd_eq (pd_slL (cl h3 (ts, p) at_ hr (a2 (nm 0) (ix 2 (nm 1))) hp) pdo_none (pdo_some (ix 3 (nm 1)))) ?_)) (Nat.le_trans (hn p) (by decide)))
    rw [cut400 _ (by rw [List.length_map]; exact Nat.le_trans (hn p) (by decide))]
abbrev Ranswer := Rf (A := House × Kind × Box) (fun a => HouseOk a.1 ∧ BoxOk a.1 a.2.2) (fun a => [.d (encHouse a.1), .d (encAsk a.2.1 a.2.2)]) (fun a => ed (namesOf (sortedBy a.2.1 (thingsIn a.1 a.2.2))))
abbrev N32 : List Str := ["house", "ask"]
theorem sc32 : FnScope N32 ["house", "ask"] (defScope (top 32)) := ⟨rfl, rfl, rfl, by decide +kernel, rfl, by decide +kernel, by decide +kernel⟩
theorem ok_answer (F : Fd C.K "answer" "answer" (top 32) f fd) (m : C.mg "answer" = some (.ref f)) (h1 : Has C "things_in" 4 Rthings_in) (h2 : Has C "answer_of" 5 Ranswer_of) : Has C "answer" 6 Ranswer := by
  refine has_fn (fun a => [some (.d (encHouse a.1)), some (.d (encAsk a.2.1 a.2.2))]) F m sc32 (by decide) (fun _ _ _ _ _ _ us hl => match us, hl with | [_, _], _ => rfl) (fun _ => rfl) (fun _ => rfl) fun X a at_ hr hp ⟨cdv, A, outer, s, H, E, hX⟩ => ?_
  have hu : X.A.units + 64 < cLine := hr.units
  subst hX
  obtain ⟨h, k, b⟩ := a
  obtain ⟨hp1, hp2⟩ := hp
  have hm : h.things.length ≤ 1000 ∧ b.length ≤ 100 := ⟨Nat.le_trans hp1.many (by decide), by rw [hp2.len]; exact Nat.le_trans hp1.d4 (by decide)⟩
  cases k with
  | best => exact rt (cl h2 (thingsIn h b, .best, b) at_ hr (a2 (cl h1 (h, b) at_ hr (a2 (nm 0) (ix 1 (nm 1))) hm) (nm 1)) (hp1.things.filter _))
  | near p => exact rt (cl h2 (thingsIn h b, .near p, b) at_ hr (a2 (cl h1 (h, b) at_ hr (a2 (nm 0) (ix 1 (nm 1))) hm) (nm 1)) (hp1.things.filter _))
end
end Bx
/-! zip of a list and a tuple -/
namespace Bx
open PySem PySem.Spec PyProof.Rows L2 PySem.SeqAt
/-- a pair a turn, the one item of the list at a, the other of the tuple at b -/
def Izm (K : PySem.W.Frag) (a b : Addr) : It where
  go := fun i H => ∃ (xs ys : List V) (x y : V), SqL K H a xs ∧ SqT K H b ys ∧ xs[i]? = some x ∧ ys[i]? = some y
  yld := fun i H v H' => ∃ T x y, v = .ref T ∧ H T = none ∧ H' = upd H T (.tup [x, y]) ∧ (∀ xs, SqL K H a xs → xs[i]? = some x) ∧ ∀ ys, SqT K H b ys → ys[i]? = some y
  stop := fun i H => ∃ xs ys : List V, SqL K H a xs ∧ SqT K H b ys ∧ i = min xs.length ys.length
structure ZmSt (z TI TO i1 i2 a b : Addr) (i : Nat) (h : Heap) : Prop where
  z : IsZip h z TI TO .none
  ti : IsPair h TI (.ref i1) (.ref i2)
  to : ∃ x y, IsPair h TO x y
  one : h.IsListIter i1 a i
  two : h.IsTupleIter i2 b i
theorem zm_sep {z TI TO i1 i2 a b : Addr} (D : ZipApart z TI TO i1 i2 a b) : ZipSep2 z TI TO i1 i2 [i1, a] [i2, b] where
  TIz := D.TIz
  TOz := D.TOz
  TITO := D.TITO
  TIi1 := D.TIi1
  mem1 := by simp
  zf1 := by simp [D.i1z.symm, D.l1z.symm]
  Tf1 := by simp [D.TOi1, D.l1TO.symm]
  TIi2 := D.TIi2
  mem2 := by simp
  zf2 := by simp [D.i2z.symm, D.l2z.symm]
  Tf2 := by simp [D.TOi2, D.l2TO.symm]
  sep1_2 := by simp [D.i12, D.l2i1.symm]
  sep2_1 := by simp [D.i12.symm, D.l1i2.symm]
theorem zm_turn {P : Program} {w : World} {K : PySem.W.Frag} {elts : List Expr} {kk : Nat} {tpos : Pos} {a b z TI TO i1 i2 : Addr} (D : ZipApart z TI TO i1 i2 a b) : Turn P w K (.Tuple elts kk tpos) (Izm K a b) [z, TI, TO, i1, i2] z (ZmSt z TI TO i1 i2 a b) where
  mem := List.mem_cons_self ..
  obj := fun i h st c hc => by
    obtain ⟨hz, hTI, ⟨x, y, hTO⟩, ⟨o1, e1, _, d1⟩, ⟨o2, e2, _, d2⟩⟩ := st
    simp only [List.mem_cons, List.not_mem_nil, or_false] at hc
    rcases hc with rfl | rfl | rfl | rfl | rfl
    · exact ⟨_, hz, nofun⟩
    · exact ⟨_, hTI, nofun⟩
    · exact ⟨_, hTO, nofun⟩
    · exact ⟨o1, e1, by rw [d1]; nofun⟩
    · exact ⟨o2, e2, by rw [d2]; nofun⟩
  keep := fun i h h' st k => ⟨k z (by simp) _ st.z, k TI (by simp) _ st.ti, let ⟨x, y, q⟩ := st.to; ⟨x, y, k TO (by simp) _ q⟩, st.one.at fun o q => k i1 (by simp) o q, st.two.at fun o q => k i2 (by simp) o q⟩
  self := fun A i s Q E st h => wpAny_pyIter_zip st.z h
  item := fun X hP hw hK hc i pins s σ H E I hf st hg => by
    subst hP hw hK
    obtain ⟨xs, ys, x, y, qx, qy, hx, hy⟩ := hg
    obtain ⟨its, rv, p, _⟩ := I.list qx
    obtain ⟨its2, rv2, p2, _⟩ := I.tuple qy
    obtain ⟨x0, y0, hTO⟩ := st.to
    have hh := I.ok.hd hc
    have l1 := rv.length
    have l2 := rv2.length
    have i1l := (List.getElem?_eq_some_iff.mp hx).1
    have i2l := (List.getElem?_eq_some_iff.mp hy).1
    have hzl : z < s.heap.objs.size := Heap.lt_size st.z
    have big : ∀ c ∈ [z, TI, TO, i1, i2], c < s.heap.objs.size := fun c hm => by
      simp only [List.mem_cons, List.not_mem_nil, or_false] at hm
      rcases hm with rfl | rfl | rfl | rfl | rfl
      · exact hzl
      · exact Heap.lt_size st.ti
      · exact Heap.lt_size hTO
      · obtain ⟨_, e, _⟩ := st.one; exact Heap.lt_size e
      · obtain ⟨_, e, _⟩ := st.two; exact Heap.lt_size e
    refine wpAny_pyNext_zipD2_item (zm_sep D) (Draws.list (show X.A.in1.handled = none from hh) i1 a D.l1i1 its.toArray) (Draws.tuple (show X.A.in1.handled = none from hh) i2 b D.l2i2 its2.toArray) st.z st.ti hTO ⟨st.one, p.isList⟩ ⟨st.two, p2⟩ (by simp; omega) (by simp; omega)
      fun u1 u2 h' tk e1 e2 z' TO' st1 st2 hT hsz hk => ⟨_, rfl, wpAny_letOwnedTupleGo_zip (s := { s with heap := h', toks := tk }) z' fun h2 z2 sb => ?_⟩
    obtain ⟨v1, f1, r1⟩ := rv.get hx
    obtain ⟨v2, f2, r2⟩ := rv2.get hy
    have e1' : its[i]? = some u1 := by simpa using e1
    have e2' : its2[i]? = some u2 := by simpa using e2
    rw [f1] at e1'
    rw [f2] at e2'
    cases e1'
    cases e2'
    have nz : ∀ {c : Addr}, c ≠ z → h2.get? c = h'.get? c := fun {c} q => sb.2 c q
    have hT2 : h2.get? s.heap.objs.size = some { cls := .type "tuple", data := .seq #[u1, u2] } := (nz (Nat.ne_of_gt hzl)).trans hT
    have new : ObjOk X.prog X.w (upd H s.heap.objs.size (.tup [x, y])) h2 s.heap.objs.size (.tup [x, y]) := ⟨by show 2 ≤ sizeLine; decide, [u1, u2], .cons r1 (.cons r2 .nil), ⟨_, hT2, rfl, _, rfl⟩⟩
    have kp : ∀ c o, c ∉ [z, TI, TO, i1, i2] → s.heap.get? c = some o → h2.get? c = some o := fun c o hb q => by
      simp only [List.mem_cons, List.not_mem_nil, or_false, not_or] at hb
      exact (nz hb.1).trans (hk c o hb.1 hb.2.2.1 hb.2.2.2.1 hb.2.2.2.2 q)
    refine ⟨.ref s.heap.objs.size, _, I.turnedNew (t' := tk) (ch := [z, TI, TO, i1, i2]) kp hf (Nat.le_refl _) new, rfl, ⟨_, x, y, rfl, I.hok.fresh (Nat.le_refl _), rfl, fun l hl => ?_, fun l hl => ?_⟩, ⟨z2, ?_, ⟨u1, u2, ?_⟩, ?_, ?_⟩, fun c hm => ?_⟩
    · rw [I.list_inj hl qx]; exact hx
    · rw [I.tuple_inj hl qy]; exact hy
    · exact (nz D.TIz).trans (hk _ _ D.TIz D.TITO D.TIi1 D.TIi2 st.ti)
    · exact (nz D.TOz).trans TO'
    · exact st1.1.at fun o q => (nz D.i1z).trans q
    · exact st2.1.at fun o q => (nz D.i2z).trans q
    · rw [upd_ne (Nat.ne_of_lt (big c hm))]
      exact (hf c hm).1
  done := fun X hP hw hK hc i pins s σ H E I hf st hg => by
    subst hP hw hK
    obtain ⟨xs, ys, qx, qy, he⟩ := hg
    obtain ⟨its, rv, p, _⟩ := I.list qx
    obtain ⟨its2, rv2, p2, _⟩ := I.tuple qy
    obtain ⟨x0, y0, hTO⟩ := st.to
    have hh := I.ok.hd hc
    have l1 := rv.length
    have l2 := rv2.length
    refine wpAny_pyNext_zipD2_end (zm_sep D) (Draws.list (show X.A.in1.handled = none from hh) i1 a D.l1i1 its.toArray) (Draws.tuple (show X.A.in1.handled = none from hh) i2 b D.l2i2 its2.toArray) st.z st.ti hTO ⟨st.one, p.isList⟩ ⟨st.two, p2⟩ (by simp; omega) (by simp; omega) (by simp; omega)
      fun h' tk hk => ⟨rfl, I.turnedL (t' := tk) (ch := [z, TI, TO, i1, i2]) (fun c o hb q => ?_) hf⟩
    simp only [List.mem_cons, List.not_mem_nil, or_false, not_or] at hb
    exact hk c o hb.1 hb.2.2.1 hb.2.2.2.1 hb.2.2.2.2 q
/-! ### the call -/
abbrev zm1 (h : Heap) (a : Addr) : Heap := h.push { cls := .type "list_iterator", data := .fields #[.ref a, .int 0 0] }
abbrev zm2 (h : Heap) (a b : Addr) : Heap := (zm1 h a).push { cls := .type "tuple_iterator", data := .fields #[.ref b, .int 0 0] }
abbrev zm3 (h : Heap) (a b : Addr) : Heap := (zm2 h a b).push { cls := .type "tuple", data := .seq #[.ref h.objs.size, .ref (zm1 h a).objs.size] }
abbrev zm4 (h : Heap) (a b : Addr) : Heap := (zm3 h a b).push { cls := .type "tuple", data := .seq #[.none, .none] }
abbrev zm5 (h : Heap) (a b : Addr) : Heap := (zm4 h a b).push { cls := .type "zip", data := .fields #[.none, .bool false, .bool false, .ref (zm2 h a b).objs.size, .ref (zm3 h a b).objs.size] }
theorem zm_new (a b : Addr) (xs ys : Array Value) : Meets (Builtin.«zip.__new__» ⟨[.type "zip", .ref a, .ref b], []⟩) (fun _ R s => s.heap.IsList a xs ∧ s.heap.IsTuple b ys ∧ R (.ok (.ret (.ref (zm4 s.heap a b).objs.size))) { s with heap := zm5 s.heap a b }) :=
  .of_wp fun prog w A R s h => by
    obtain ⟨hp, g, d, tk, os⟩ := s
    obtain ⟨ha, hb, h⟩ := h
    have hsub := sub_zip
    have hL1 : Heap.IsList (Shared.heap ⟨hp, g, d, tk, os⟩) a xs := ha
    have hL2 : Heap.IsTuple (Shared.heap ⟨hp.push { cls := .type "list_iterator", data := .fields #[.ref a, .int 0 0] }, g, d, tk, os⟩) b ys := Heap.IsTuple.push hb _
    wp_walk using wpAny_pyIter_list hL1, wpAny_pyIter_tuple hL2
    exact ⟨_, rfl, h⟩
theorem zm_call {prog : Program} {w : World} {A : Around} {E : Value → Shared → Prop} {s : Shared} {a b : Addr} {xs ys : Array Value} {Q : Value → Shared → Prop} (ha : s.heap.IsList a xs) (hb : s.heap.IsTuple b ys)
    (h : ∀ h', ZmSt (s.heap.objs.size + 4) (s.heap.objs.size + 2) (s.heap.objs.size + 3) s.heap.objs.size (s.heap.objs.size + 1) a b 0 h' → (∀ c o, s.heap.get? c = some o → h'.get? c = some o) → Q (.ref (s.heap.objs.size + 4)) { s with heap := h' }) :
    wpAny (model prog w) A (call (.type "zip") [.ref a, .ref b]) Q E s := by
  refine callType_new F.called_zip (by decide) (F.typeCall_zip_2 _ _) (F.newCall_zip_2 _ _) (fun obj => F.args_object_init_3 obj _ _) F.entry_zip_new (zm_new a b xs ys) ⟨ha, hb, ?_⟩
  have s1 : (zm1 s.heap a).objs.size = s.heap.objs.size + 1 := Heap.size_push ..
  have s2 : (zm2 s.heap a b).objs.size = s.heap.objs.size + 2 := by rw [Heap.size_push, s1]
  have s3 : (zm3 s.heap a b).objs.size = s.heap.objs.size + 3 := by rw [Heap.size_push, s2]
  have s4 : (zm4 s.heap a b).objs.size = s.heap.objs.size + 4 := by rw [Heap.size_push, s3]
  have e5 : (zm5 s.heap a b).get? (zm4 s.heap a b).objs.size = some _ := Heap.get?_push_size _ rfl
  have e4 : (zm5 s.heap a b).get? (zm3 s.heap a b).objs.size = some _ := Heap.get?_push_of_some _ (Heap.get?_push_size _ rfl)
  have e3 : (zm5 s.heap a b).get? (zm2 s.heap a b).objs.size = some _ := Heap.get?_push_of_some _ (Heap.get?_push_of_some _ (Heap.get?_push_size _ rfl))
  have e2 : (zm5 s.heap a b).get? (zm1 s.heap a).objs.size = some _ := Heap.get?_push_of_some _ (Heap.get?_push_of_some _ (Heap.get?_push_of_some _ (Heap.get?_push_size _ rfl)))
  have e1 : (zm5 s.heap a b).get? s.heap.objs.size = some _ := Heap.get?_push_of_some _ (Heap.get?_push_of_some _ (Heap.get?_push_of_some _ (Heap.get?_push_of_some _ (Heap.get?_push_size _ rfl))))
  show _ ∧ _
  rw [s2, s3, s4] at e5
  rw [s1, s2] at e3
  rw [s3] at e4
  rw [s1] at e2
  rw [s4]
  exact ⟨⟨_, e5, rfl⟩, h _ ⟨e5, e3, ⟨_, _, e4⟩, ⟨_, e1, rfl, rfl⟩, ⟨_, e2, rfl, rfl⟩⟩ fun c o x => Heap.get?_push_of_some _ (Heap.get?_push_of_some _ (Heap.get?_push_of_some _ (Heap.get?_push_of_some _ (Heap.get?_push_of_some _ x))))⟩
section
variable {X : Cx} {e e2 : Expr} {ρ : Ev} {ds es : List PyData} {p pos tpos : Pos} {elts : List Expr} {kk : Nat}
theorem its_zipM {K : PySem.W.Frag} {H : Hp} {a b : Addr} {xs ys : List V} (h1 : SqL K H a xs) (h2 : DpAll K H xs ds) (h3 : SqT K H b ys) (h4 : DpAll K H ys es) : Its K (Izm K a b) H (zipD ds es) := by
  have l1 := dpAllLen h2
  have l2 := dpAllLen h4
  have hz : (zipD ds es).length = min ds.length es.length := by simp [zipD]
  refine ⟨fun i H2 s hi => ?_, fun H2 s => ⟨xs, ys, s.seq h1, sameT s h3, by omega⟩, fun i H2 x H' B2 s qq q d hd => ?_⟩
  · have i1 : i < xs.length := by omega
    have i2 : i < ys.length := by omega
    exact ⟨xs, ys, xs[i], ys[i], s.seq h1, sameT s h3, by simp [i1], by simp [i2]⟩
  · obtain ⟨T, x', y', rfl, hT, rfl, f1, f2⟩ := q
    obtain ⟨dx, dy, e1, e2, rfl⟩ := zipD_at hd
    obtain ⟨v, q1, q2⟩ := dpAllAt h2 e1
    obtain ⟨v', q3, q4⟩ := dpAllAt h4 e2
    have z1 := f1 xs ((s.trans qq).seq h1)
    have z2 := f2 ys (sameT (s.trans qq) h3)
    rw [q1] at z1
    rw [q3] at z2
    cases z1
    cases z2
    exact ⟨_, .inr ⟨T, _, hT, rfl, rfl⟩, dpPair (qq.free hT) (dpMono s q2) (dpMono s q4)⟩
/-- zip(a list, a tuple) -/
theorem pid_zipM (hg : Gl X "zip") (hm : X.mg "zip" = none) (h1 : PE X e (tD X.K ρ (.d (.list ds)))) (h2 : PE X e2 (tD X.K ρ (.d (.tuple es)))) (hs : starEach [e, e2] X.env = (false, eval e X.env) :: starEach [e2] X.env := by rfl) (hs2 : starEach [e2] X.env = (false, eval e2 X.env) :: starEach [] X.env := by rfl)
    (hpl : (backTo pos (starEach [e2] X.env)).any (·.1) = false := by rfl) : PI X (.Tuple elts kk tpos) (.Call (.Name "zip" p) [e, e2] [] pos) (tI X.K ρ (zipD ds es)) := by
  have ha : PA X [e, e2] (tDs X.K ρ [.d (.list ds), .d (.tuple es)]) := pds_cons h1 (pds_cons h2 pds_nil hs2) hs
  refine ⟨fun pins s σ H R I ⟨hh, k⟩ => ?_⟩
  refine PyProof.Rows.Call_ (ld_blt I hg hm PyProof.Rows.boot_zip (PyProof.Rows.callWith_type1 (thn (ha.run pos pins s σ H (fun vs H1 => HeldVs X.K H1 vs [.d (.list ds), .d (.tuple es)] ∧ Same H H1) I ⟨hh, fun vs H1 s1 q => ⟨q, s1⟩⟩) fun us s1 ⟨vs, H1, I1, r1, q1, sm⟩ => ?_) hs hpl))
  obtain ⟨v1, v2, rfl, w1, w2⟩ := held2 q1
  obtain ⟨a, xs, rfl, p1, p2⟩ := dpLstR w1
  obtain ⟨b, ys, rfl, p3, p4⟩ := dpTupR w2
  obtain ⟨u1, u2, rfl, r1, r2⟩ := vals2 r1
  cases r1
  cases r2
  obtain ⟨its, rv, t1, _⟩ := I1.list p1
  obtain ⟨its2, rv2, t2, _⟩ := I1.tuple p3
  obtain ⟨o1, ho1, _⟩ := id t1
  obtain ⟨o2, ho2, _⟩ := id t2
  refine zm_call t1.isList t2 fun h' st hk => wpAny_pyIter_zip st.z ?_
  refine ⟨_, [s1.heap.objs.size + 4, s1.heap.objs.size + 2, s1.heap.objs.size + 3, s1.heap.objs.size, s1.heap.objs.size + 1], _, _, H1, rfl, I1.kept (t' := s1.toks) hk, zm_turn (PySem.W.ktu_apart s1.heap.objs.size a b t1.lt (Heap.lt_size ho2)), st, fun c hm => ?_, k _ _ sm (its_zipM p1 p2 p3 p4)⟩
  have hle : s1.heap.objs.size ≤ c := by
    simp only [List.mem_cons, List.not_mem_nil, or_false] at hm
    rcases hm with rfl | rfl | rfl | rfl | rfl
    · exact Nat.le_add_right _ _
    · exact Nat.le_add_right _ _
    · exact Nat.le_add_right _ _
    · exact Nat.le_refl _
    · exact Nat.le_add_right _ _
  exact I1.fpOk hle (I1.hok.fresh hle)
end
end Bx
namespace Bx
open PySem L2 PySem.SeqAt
open PySem.W (alike alikeAll dataLt dataLe EachIs AllAlike Sortable)
section
variable {C : Ctx} {f : Addr} {fd : FuncData}

/-! ### what covers say -/
def liesOut (b : Bnd) (p : Plain) (i : Nat) (side : Bool) : Bool :=
  if p.getD i (none, none) = eE then true else
  match side with
  | false => match (p.getD i (none, none)).1 with
    | none => false
    | some l => decide ((b.getD i (0, 0)).2 < l)
  | true => match (p.getD i (none, none)).2 with
    | none => false
    | some g => decide (g < (b.getD i (0, 0)).1)
inductive Part where
  | inn (path : List Bool)
  | out (path : List Bool) (i : Nat) (side : Bool)
  | far (path : List Bool)
  deriving DecidableEq
def Part.path : Part → List Bool
  | .inn p => p
  | .out p _ _ => p
  | .far p => p
def sideI (s : Bool) : Int := if s then 1 else 0
def encPath (p : List Bool) : PyData := .tuple (p.map fun s => .int (sideI s))
def encPart : Part → PyData
  | .inn p => .tuple [encPath p, .str "in"]
  | .out p i s => .tuple [encPath p, .str "out", .int (i : Int), .int (sideI s)]
  | .far p => .tuple [encPath p, .str "far"]
/-- the first way to lie out -/
def outAt (b : Bnd) (p : Plain) : Option (Nat × Bool) := ((List.range p.length).flatMap fun i => [(i, false), (i, true)]).find? fun x => liesOut b p x.1 x.2
def outPart (b : Bnd) (p : Plain) (path : List Bool) : Part := match outAt b p with
  | some (i, s) => .out path i s
  | none => .inn path
def Tr.leaf : Tr → Bool
  | .lf _ _ => true
  | .nd _ _ _ _ => false
def Tr.child : Tr → Bool → Option Tr
  | .lf _ _, _ => none
  | .nd _ _ l h, s => some (if s then h else l)
def Tr.all (P : Tr → Prop) : Tr → Prop
  | .lf n b => P (.lf n b)
  | .nd ns b l h => P (.nd ns b l h) ∧ l.all P ∧ h.all P
def Tr.leaves : Tr → Nat
  | .lf _ _ => 1
  | .nd _ _ l h => l.leaves + h.leaves
def partsAlong (p : Plain) : Tr → List Bool → List Part
  | .lf n b, path => if lieApart b p then [outPart b p path] else [.inn path]
  | .nd ns b l h, path => if lieApart b p then [outPart b p path] else if liesWithin b p then [.inn path] else partsAlong p l (path ++ [false]) ++ partsAlong p h (path ++ [true])
theorem partsAlong_len (p : Plain) : ∀ (t : Tr) (path : List Bool), (partsAlong p t path).length ≤ t.leaves
  | .lf n b, path => by unfold partsAlong; split <;> exact Nat.le_refl _
  | .nd ns b l h, path => by
    have h1 := partsAlong_len p l (path ++ [false])
    have h2 := partsAlong_len p h (path ++ [true])
    have h3 : ∀ t : Tr, 1 ≤ t.leaves := fun t => by induction t with
      | lf _ _ => exact Nat.le_refl _
      | nd _ _ l h i1 i2 => show 1 ≤ l.leaves + h.leaves; omega
    have h4 := h3 l
    unfold partsAlong
    show _ ≤ l.leaves + h.leaves
    split
    · show 1 ≤ _; omega
    · split
      · show 1 ≤ _; omega
      · rw [List.length_append]; omega
/-- what the walk down a tree asks -/
structure Down (p : Plain) (t : Tr) : Prop where
  len : t.bnd.length = p.length
  out : lieApart t.bnd p = true → (outAt t.bnd p).isSome = true
  end_ : t.leaf = true → lieApart t.bnd p = true ∨ liesWithin t.bnd p = true
theorem Tr.all_self {P : Tr → Prop} {t : Tr} (h : t.all P) : P t := by
  cases t with
  | lf _ _ => exact h
  | nd _ _ _ _ => exact h.1
theorem tr_row (t : Tr) : rowOf (encTr t) = some (trRow t) := by rw [encTr_row]; rfl
def treeAt : Option Tr → List Bool → Option Tr
  | t, [] => t
  | none, _ :: _ => none
  | some t, s :: r => treeAt (t.child s) r
def coverD (ot : Option Tr) (b : Box) : List Part := match ot with
  | none => []
  | some t => partsAlong (plainBox b) t []
theorem rowPlain (p : Plain) : rowOf (en p) = some (p.map Enc.enc) := rfl
theorem ix_row {α : Type} [DecidableEq α] [Enc α] {xs : List α} {i : Nat} {d : α} (h : i < xs.length) : atI (xs.map Enc.enc) (i : Int) = some (en (xs.getD i d)) := atI_nat (by
  rw [List.getElem?_map, List.getElem?_eq_getElem h]
  simp [List.getD, h])
abbrev Rlies_out := Rf (A := Bnd × Plain × Nat × Bool) (fun a => a.2.2.1 < a.1.length ∧ a.2.2.1 < a.2.1.length) (fun a => [ed a.1, ed a.2.1, .d (.int (a.2.2.1 : Int)), .d (.int (sideI a.2.2.2))]) (fun a => .d (.bool (liesOut a.1 a.2.1 a.2.2.1 a.2.2.2)))
abbrev N35 : List Str := ["bounds", "plain", "i", "side", "least", "greatest"]
theorem sc35 : FnScope N35 ["bounds", "plain", "i", "side"] (defScope (top 35)) := ⟨rfl, rfl, rfl, by decide +kernel, rfl, by decide +kernel, by decide +kernel⟩
theorem ok_lies_out (F : Fd C.K "lies_out" "lies_out" (top 35) f fd) (m : C.mg "lies_out" = some (.ref f)) (Z : HasE C "EMPTY_covers") : Has C "lies_out" 1 Rlies_out := by
  refine has_fn (fun a => [some (ed a.1), some (ed a.2.1), some (.d (.int (a.2.2.1 : Int))), some (.d (.int (sideI a.2.2.2))), none, none]) F m sc35 (by decide) (fun _ _ _ _ _ _ us hl => match us, hl with | [_, _, _, _], _ => rfl) (fun _ => rfl) (fun _ => rfl) fun X a at_ hr hp ⟨cdv, A, outer, s, H, E, hX⟩ => ?_
  have hu : X.A.units + 64 < cLine := hr.units
  subst hX
  obtain ⟨b, p, i, side⟩ := a
  obtain ⟨hb, hp⟩ := hp
  have hpl : ∀ {X : Cx} {a b : Expr} {pos : Pos} {ρ : Ev}, PE X a (tD X.K ρ (ed p)) → PE X b (tD X.K ρ (.d (.int (i : Int)))) → PlainIx b → PE X (.Subscript a b pos) (tD X.K ρ (ed (p.getD i (none, none)))) := fun ha hb hs => pd_ix (rowPlain p) (ix_row hp) ha hb hs
  have hbl : ∀ {X : Cx} {a b' : Expr} {pos : Pos} {ρ : Ev}, PE X a (tD X.K ρ (ed b)) → PE X b' (tD X.K ρ (.d (.int (i : Int)))) → PlainIx b' → PE X (.Subscript a b' pos) (tD X.K ρ (ed (b.getD i (0, 0)))) := fun ha hb' hs => pd_ix (ds := b.map Enc.enc) rfl (ix_row hb) ha hb' hs
  refine seq (pds_asg (hpl (nm 1) (nm 2) (fun _ _ => rfl)) (gd_tup rfl (gds_cons (gn 4 sc35.nd) (gds_cons (gn 5 sc35.nd) gds_nil)) rfl)) ?_
  refine ifR (k := decide (p.getD i (none, none) = eE)) (cmpT (hpl (nm 1) (nm 2) (fun _ _ => rfl)) (glE at_ Z) (od_eqE (b := eE) hu)) (fun h => rt (pd_eq pd_bl ?_)) (fun h => ?_)
  · have h' := of_decide_eq_true h
    unfold liesOut
    rw [if_pos h']
  · have h' := of_decide_eq_false h
    show PSs _ _ (tDS _ _ (.ret (.d (.bool (liesOut b p i side)))))
    unfold liesOut
    rw [if_neg h']
    cases side with
    | false =>
      refine seqE (ifT (cmpT (nm 3) pd_int (od_eqI hu)) (rt ?_))
      cases e : (p.getD i (none, none)).1 with
      | none => exact pd_eq (pd_and (k := false) (y := true) (cmp (nm 4) pd_non od_notN) (fun h => nomatch h)) rfl
      | some l => exact pd_eq (pd_and (k := true) (cmp (nm 4 (w := .d (en (some l)))) pd_non od_notN) (fun _ => pd_one (cmp (ix 1 (hbl (nm 0) (nm 2) (fun _ _ => rfl))) (nm 4 (w := .d (en (some l)))) od_lt))) rfl
    | true =>
      refine seq (ifF (cmpT (nm 3) pd_int (od_eqI hu)) pds_nxt) (rt ?_)
      cases e : (p.getD i (none, none)).2 with
      | none => exact pd_eq (pd_and (k := false) (y := true) (cmp (nm 5) pd_non od_notN) (fun h => nomatch h)) rfl
      | some l => exact pd_eq (pd_and (k := true) (cmp (nm 5 (w := .d (en (some l)))) pd_non od_notN) (fun _ => pd_one (cmp (ix 0 (hbl (nm 0) (nm 2) (fun _ _ => rfl))) (nm 5 (w := .d (en (some l)))) od_gt))) rfl

section
variable {X : Cx} {a : Expr} {ρ : Ev} {j : Nat} {p pos : Pos} {t : Tr}
theorem ixT0 (h : PE X a (tD X.K ρ (.d (encTr t)))) : PE X (.Subscript a (.Constant (.int 0) j p) pos) (tD X.K ρ (ed t.names)) := pd_ix (tr_row t) (atI_nat (j := 0) (trRow_at t).1) h pd_int (fun _ _ => rfl)
theorem ixT1 (h : PE X a (tD X.K ρ (.d (encTr t)))) : PE X (.Subscript a (.Constant (.int 1) j p) pos) (tD X.K ρ (ed t.bnd)) := pd_ix (tr_row t) (atI_nat (j := 1) (trRow_at t).2) h pd_int (fun _ _ => rfl)
end
abbrev Rout_part := Rf (A := Tr × Plain × List Bool) (fun a => (outAt a.1.bnd a.2.1).isSome = true ∧ a.1.bnd.length = a.2.1.length ∧ a.2.1.length ≤ 100) (fun a => [.d (encTr a.1), ed a.2.1, .d (encPath a.2.2)]) (fun a => .d (encPart (outPart a.1.bnd a.2.1 a.2.2)))
abbrev N36 : List Str := ["tree", "plain", "path", "i", "side"]
theorem sc36 : FnScope N36 ["tree", "plain", "path"] (defScope (top 36)) := ⟨rfl, rfl, rfl, by decide +kernel, rfl, by decide +kernel, by decide +kernel⟩
theorem ok_out_part (F : Fd C.K "out_part" "out_part" (top 36) f fd) (m : C.mg "out_part" = some (.ref f)) (B : Blt C) (h1 : Has C "lies_out" 1 Rlies_out) : Has C "out_part" 2 Rout_part := by
  refine has_fn (fun a => [some (.d (encTr a.1)), some (ed a.2.1), some (.d (encPath a.2.2)), none, none]) F m sc36 (by decide) (fun _ _ _ _ _ _ us hl => match us, hl with | [_, _, _], _ => rfl) (fun _ => rfl) (fun _ => rfl) fun X a at_ hr hp ⟨cdv, A, outer, s, H, E, hX⟩ => ?_
  have hu : X.A.units + 64 < cLine := hr.units
  subst hX
  obtain ⟨t, p, path⟩ := a
  obtain ⟨hs, hb, hp⟩ := hp
  simp only at hs hb hp
  obtain ⟨⟨i0, s0⟩, hf⟩ := Option.isSome_iff_exists.mp hs
  refine pds_end ?_ (fun _ h => nomatch h)
  refine pds_for (ds := rngD p.length) PassesOwn.never rfl (pid_range rfl (at_.no B.range) (pd_eq (cb at_ B.len (cd_len (ds := p.map Enc.enc) rfl) (a1 (nm 1))) (by rw [List.length_map])) (by omega)) ?_ (by intro _; rfl)
  show Loop _ _ _ _ _ (.ret (.d (encPart (outPart t.bnd p path))))
  unfold outPart
  rw [hf]
  unfold outAt at hf
  have hl : ∀ i ∈ List.range p.length, i < p.length := fun i hi => List.mem_range.mp hi
  unfold rngD
  revert hl hf
  generalize List.range p.length = is
  suffices hh : ∀ (x y : Option Sl), (is.flatMap fun i => [(i, false), (i, true)]).find? (fun x => liesOut t.bnd p x.1 x.2) = some (i0, s0) → (∀ i ∈ is, i < p.length) → Loop _ _ _ (is.map fun (i : Nat) => PyData.int (i : Int)) [some (.d (encTr t)), some (ed p), some (.d (encPath path)), x, y] (.ret (.d (encPart (.out path i0 s0)))) from hh none none
  induction is with
  | nil => intro x y hf; cases hf
  | cons i is ih =>
    intro x y hf hl
    have hi := hl i (List.mem_cons_self ..)
    rw [List.flatMap_cons] at hf
    cases e1 : liesOut t.bnd p i false with
    | true =>
      have q : (i, false) = (i0, s0) := by simpa [List.find?_cons, e1] using hf
      obtain ⟨q1, q2⟩ := Prod.mk.inj q
      subst q1 q2
      exact .ret (gn 3 sc36.nd) (pds_one (pds_for PassesOwn.never rfl (pid_tup (t2 pd_int pd_int)) (.ret (gn 4 sc36.nd) (pds_one (ifT (ptEq (pt_b (cl h1 (t.bnd, p, i, false) at_ hr (a4 (ixT1 (nm 0)) (nm 1) (nm 3) (nm 4)) ⟨by rw [hb]; exact hi, hi⟩)) e1) (rt (t4 (nm 2) pd_str (nm 3) (nm 4)))))) (by intro _; rfl)))
    | false =>
      cases e2 : liesOut t.bnd p i true with
      | true =>
        have q : (i, true) = (i0, s0) := by simpa [List.find?_cons, e1, e2] using hf
        obtain ⟨q1, q2⟩ := Prod.mk.inj q
        subst q1 q2
        exact .ret (gn 3 sc36.nd) (pds_one (pds_for PassesOwn.never rfl (pid_tup (t2 pd_int pd_int)) (.next (gn 4 sc36.nd) (.inl (pds_one (ifF (ptEq (pt_b (cl h1 (t.bnd, p, i, false) at_ hr (a4 (ixT1 (nm 0)) (nm 1) (nm 3) (nm 4)) ⟨by rw [hb]; exact hi, hi⟩)) e1) pds_nxt))) (.ret (gn 4 sc36.nd) (pds_one (ifT (ptEq (pt_b (cl h1 (t.bnd, p, i, true) at_ hr (a4 (ixT1 (nm 0)) (nm 1) (nm 3) (nm 4)) ⟨by rw [hb]; exact hi, hi⟩)) e2) (rt (t4 (nm 2) pd_str (nm 3) (nm 4))))))) (by intro _; rfl)))
      | false =>
        have q : (is.flatMap fun i => [(i, false), (i, true)]).find? (fun x => liesOut t.bnd p x.1 x.2) = some (i0, s0) := by simpa [List.find?_cons, e1, e2] using hf
        exact .next (gn 3 sc36.nd) (.inl (pds_one (pds_for PassesOwn.never rfl (pid_tup (t2 pd_int pd_int)) (.next (gn 4 sc36.nd) (.inl (pds_one (ifF (ptEq (pt_b (cl h1 (t.bnd, p, i, false) at_ hr (a4 (ixT1 (nm 0)) (nm 1) (nm 3) (nm 4)) ⟨by rw [hb]; exact hi, hi⟩)) e1) pds_nxt))) (.next (gn 4 sc36.nd) (.inl (pds_one (ifF (ptEq (pt_b (cl h1 (t.bnd, p, i, true) at_ hr (a4 (ixT1 (nm 0)) (nm 1) (nm 3) (nm 4)) ⟨by rw [hb]; exact hi, hi⟩)) e2) pds_nxt))) .done)) (by intro _; rfl)))) (ih _ _ q fun j hj => hl j (List.mem_cons_of_mem _ hj))

/-! ### 37, 38 -/
abbrev Rparts_along (n : Nat) := Rf (A := Tr × Plain × List Bool) (fun a => a.1.height ≤ n ∧ a.1.all (Down a.2.1) ∧ a.2.1.length ≤ 100 ∧ a.1.leaves ≤ 1000 ∧ a.2.2.length + n ≤ 1000) (fun a => [.d (encTr a.1), ed a.2.1, .d (encPath a.2.2)]) (fun a => .d (.list ((partsAlong a.2.1 a.1 a.2.2).map encPart)))
theorem sc37 : FnScope ["tree", "plain", "path"] ["tree", "plain", "path"] (defScope (top 37)) := ⟨rfl, rfl, rfl, by decide +kernel, rfl, by decide +kernel, by decide +kernel⟩
theorem path_snoc (p : List Bool) (s : Bool) : PyData.tuple (p.map (fun s => PyData.int (sideI s)) ++ [.int (sideI s)]) = encPath (p ++ [s]) := by
  unfold encPath
  rw [List.map_append]
  rfl
theorem ok_parts_along (F : Fd C.K "parts_along" "parts_along" (top 37) f fd) (m : C.mg "parts_along" = some (.ref f)) (h1 : Has C "lie_apart" 4 RlieApart) (h2 : Has C "lies_within" 4 RliesWithin) (h3 : Has C "out_part" 2 Rout_part) : ∀ n, Has C "parts_along" (n + 5) (Rparts_along n) := by
  intro n
  induction n with
  | zero =>
    refine has_fn (fun a => [some (.d (encTr a.1)), some (ed a.2.1), some (.d (encPath a.2.2))]) F m sc37 (by decide) (fun _ _ _ _ _ _ us hl => match us, hl with | [_, _, _], _ => rfl) (fun _ => rfl) (fun _ => rfl) fun X a at_ hr hp ⟨cdv, A, outer, s, H, E, hX⟩ => ?_
    obtain ⟨t, p, path⟩ := a
    obtain ⟨hh, hd, hl, hv, hz⟩ := hp
    simp only at hh hd hl hv hz
    have D := Tr.all_self hd
    have hb : t.bnd.length ≤ 100 := by rw [D.len]; exact hl
    subst hX
    cases t with
    | nd ns b l h => exact absurd hh (by simp [Tr.height])
    | lf n b =>
      refine ifR (k := lieApart b p) (pt_b (cl h1 (b, p) at_ hr (a2 (ixT1 (t := .lf n b) (nm 0)) (nm 1)) hb)) (fun e => rt (pd_eq (l1 (cl h3 (.lf n b, p, path) at_ hr (a3 (nm 0) (nm 1) (nm 2)) ⟨D.out e, D.len, hl⟩)) ?_)) (fun e => ?_)
      · show _ = Sl.d (.list ((partsAlong p (.lf n b) path).map encPart))
        unfold partsAlong
        rw [if_pos e]
        rfl
      · have e2 : liesWithin b p = true := (D.end_ rfl).resolve_left (by rw [show lieApart (Tr.lf n b).bnd p = false from e]; simp)
        refine ifR (k := true) (ptEq (pt_b (cl h2 (b, p) at_ hr (a2 (ixT1 (t := .lf n b) (nm 0)) (nm 1)) hb)) e2) (fun _ => rt (pd_eq (l1 (t2 (nm 2) pd_str)) ?_)) (fun h => nomatch h)
        show _ = Sl.d (.list ((partsAlong p (.lf n b) path).map encPart))
        unfold partsAlong
        rw [if_neg (by simp [e])]
        rfl
  | succ n ih =>
    refine has_fn (fun a => [some (.d (encTr a.1)), some (ed a.2.1), some (.d (encPath a.2.2))]) F m sc37 (by decide) (fun _ _ _ _ _ _ us hl => match us, hl with | [_, _, _], _ => rfl) (fun _ => rfl) (fun _ => rfl) fun X a at_ hr hp ⟨cdv, A, outer, s, H, E, hX⟩ => ?_
    obtain ⟨t, p, path⟩ := a
    obtain ⟨hh, hd, hl, hv, hz⟩ := hp
    simp only at hh hd hl hv hz
    have D := Tr.all_self hd
    have hb : t.bnd.length ≤ 100 := by rw [D.len]; exact hl
    have j4 : 4 ≤ n + 5 := by omega
    have j2 : 2 ≤ n + 5 := by omega
    subst hX
    cases t with
    | lf n b =>
      refine ifR (k := lieApart b p) (pt_b (cl h1 (b, p) at_ hr (a2 (ixT1 (t := .lf n b) (nm 0)) (nm 1)) hb j4)) (fun e => rt (pd_eq (l1 (cl h3 (.lf n b, p, path) at_ hr (a3 (nm 0) (nm 1) (nm 2)) ⟨D.out e, D.len, hl⟩ j2)) ?_)) (fun e => ?_)
      · show _ = Sl.d (.list ((partsAlong p (.lf n b) path).map encPart))
        unfold partsAlong
        rw [if_pos e]
        rfl
      · have e2 : liesWithin b p = true := (D.end_ rfl).resolve_left (by rw [show lieApart (Tr.lf n b).bnd p = false from e]; simp)
        refine ifR (k := true) (ptEq (pt_b (cl h2 (b, p) at_ hr (a2 (ixT1 (t := .lf n b) (nm 0)) (nm 1)) hb j4)) e2) (fun _ => rt (pd_eq (l1 (t2 (nm 2) pd_str)) ?_)) (fun h => nomatch h)
        show _ = Sl.d (.list ((partsAlong p (.lf n b) path).map encPart))
        unfold partsAlong
        rw [if_neg (by simp [e])]
        rfl
    | nd ns b l h =>
      have hh' : max l.height h.height + 1 ≤ n + 1 := hh
      have hv' : l.leaves + h.leaves ≤ 1000 := hv
      have z1 := partsAlong_len p l (path ++ [false])
      have z2 := partsAlong_len p h (path ++ [true])
      refine ifR (k := lieApart b p) (pt_b (cl h1 (b, p) at_ hr (a2 (ixT1 (t := .nd ns b l h) (nm 0)) (nm 1)) hb j4)) (fun e => rt (pd_eq (l1 (cl h3 (.nd ns b l h, p, path) at_ hr (a3 (nm 0) (nm 1) (nm 2)) ⟨D.out e, D.len, hl⟩ j2)) ?_)) (fun e => ?_)
      · show _ = Sl.d (.list ((partsAlong p (.nd ns b l h) path).map encPart))
        unfold partsAlong
        rw [if_pos e]
        rfl
      · refine ifR (k := liesWithin b p) (pt_b (cl h2 (b, p) at_ hr (a2 (ixT1 (t := .nd ns b l h) (nm 0)) (nm 1)) hb j4)) (fun e2 => rt (pd_eq (l1 (t2 (nm 2) pd_str)) ?_)) (fun e2 => rt (pd_eq (bop (cl ih (l, p, path ++ [false]) at_ hr (a3 (ix 2 (nm 0)) (nm 1) (pd_eq (bop (nm 2) (t1 pd_int) (od_catT (ds := path.map fun s => .int (sideI s)) ?_)) (congrArg Sl.d (path_snoc path false)))) ?_ (by omega))
          (cl ih (h, p, path ++ [true]) at_ hr (a3 (ix 3 (nm 0)) (nm 1) (pd_eq (bop (nm 2) (t1 pd_int) (od_catT (ds := path.map fun s => .int (sideI s)) ?_)) (congrArg Sl.d (path_snoc path true)))) ?_ (by omega)) (od_catL ?_)) ?_))
        · show _ = Sl.d (.list ((partsAlong p (.nd ns b l h) path).map encPart))
          unfold partsAlong
          rw [if_neg (by simp [e]), if_pos e2]
          rfl
        · simp; omega
        · exact ⟨by show l.height ≤ n; omega, hd.2.1, hl, by show l.leaves ≤ 1000; omega, by simp; omega⟩
        · simp; omega
        · exact ⟨by show h.height ≤ n; omega, hd.2.2, hl, by show h.leaves ≤ 1000; omega, by simp; omega⟩
        · rw [List.length_map, List.length_map]; show (partsAlong p l (path ++ [false])).length + (partsAlong p h (path ++ [true])).length ≤ _; omega
        · show _ = Sl.d (.list ((partsAlong p (.nd ns b l h) path).map encPart))
          rw [← List.map_append]
          conv => rhs; unfold partsAlong
          rw [if_neg (by simp [e]), if_neg (by simp [e2])]
structure TrOk (t : Tr) : Prop where
  high : t.height ≤ 40
  many : t.leaves ≤ 100
structure BoxLen (b : Box) (t : Tr) : Prop where
  len : b.length ≤ 100
  down : t.all (Down (plainBox b))
theorem plain_len (b : Box) : (plainBox b).length = b.length := by
  unfold plainBox plainOf
  split <;> simp
abbrev Rcover := Rf (A := House × Option Tr × Box) (fun a => ∀ t, a.2.1 = some t → TrOk t ∧ BoxLen a.2.2 t) (fun a => [.d (encHouse a.1), .d (encOT a.2.1), .d (encBox a.2.2)]) (fun a => .d (.tuple ((coverD a.2.1 a.2.2).map encPart)))
abbrev N38 : List Str := ["house", "tree", "box"]
theorem sc38 : FnScope N38 ["house", "tree", "box"] (defScope (top 38)) := ⟨rfl, rfl, rfl, by decide +kernel, rfl, by decide +kernel, by decide +kernel⟩
theorem ok_cover (F : Fd C.K "cover" "cover" (top 38) f fd) (m : C.mg "cover" = some (.ref f)) (B : Blt C) (h1 : Has C "plain_box" 3 RplainBox) (h2 : Has C "parts_along" 45 (Rparts_along 40)) : Has C "cover" 46 Rcover := by
  refine has_fn (fun a => [some (.d (encHouse a.1)), some (.d (encOT a.2.1)), some (.d (encBox a.2.2))]) F m sc38 (by decide) (fun _ _ _ _ _ _ us hl => match us, hl with | [_, _, _], _ => rfl) (fun _ => rfl) (fun _ => rfl) fun X a at_ hr hp ⟨cdv, A, outer, s, H, E, hX⟩ => ?_
  have hu : X.A.units + 64 < cLine := hr.units
  subst hX
  obtain ⟨h, ot, b⟩ := a
  cases ot with
  | none => exact ifR (k := true) (cmpT (nm 1) pd_non od_isN) (fun _ => rt t0) (fun h => nomatch h)
  | some t =>
    obtain ⟨ht, hb⟩ := hp t rfl
    refine ifR (k := false) (ptEq (cmpT (nm 1) pd_non od_isN) ?_) (fun h => nomatch h) (fun _ => rt (ct at_ B.tuple (cd_tup rfl) (a1 (cl h2 (t, plainBox b, []) at_ hr (a3 (nm 1) (cl h1 b at_ hr (a1 (nm 2)) hb.len) t0) ⟨ht.high, hb.down, by rw [plain_len]; exact hb.len, Nat.le_trans ht.many (by decide), by show 0 + 40 ≤ 1000; decide⟩))))
    cases t <;> rfl

theorem isNone_tr (t : Tr) : isNone (encTr t) = false := by cases t <;> rfl
theorem ix_child (t : Tr) (s : Bool) : atI (trRow t) (2 + sideI s) = some (encOT (t.child s)) := by
  cases t <;> cases s <;> rfl

/-- a loop and what comes behind it, up to the end -/
inductive LoopR (X : Cx) (tg : Expr) (body rest : List Stmt) : List PyData → Ev → Sl → Prop where
  | done {ρ : Ev} {w : Sl} : PSs X rest (tDS X.K ρ (.ret w)) → LoopR X tg body rest [] ρ w
  | next {d : PyData} {ds : List PyData} {ρ ρ1 ρ2 : Ev} {vs : List Nat} {w : Sl} : PG X tg (tG X.K ρ d ρ1 vs) → PSs X body (tDS X.K ρ1 (.nxt ρ2)) → LoopR X tg body rest ds ρ2 w → LoopR X tg body rest (d :: ds) ρ w
  | ret {d : PyData} {ds : List PyData} {ρ ρ1 : Ev} {vs : List Nat} {w : Sl} : PG X tg (tG X.K ρ d ρ1 vs) → PSs X body (tDS X.K ρ1 (.ret w)) → LoopR X tg body rest (d :: ds) ρ w
theorem LoopR.to {X : Cx} {tg : Expr} {body rest : List Stmt} {ds : List PyData} {ρ : Ev} {w : Sl} (h : LoopR X tg body rest ds ρ w) : Loop X tg body ds ρ (.ret w) ∨ ∃ ρ', Loop X tg body ds ρ (.nxt ρ') ∧ PSs X rest (tDS X.K ρ' (.ret w)) := by
  induction h with
  | done h => exact .inr ⟨_, .done, h⟩
  | next g b _ ih =>
    rcases ih with ih | ⟨ρ', i1, i2⟩
    · exact .inl (.next g (.inl b) ih)
    · exact .inr ⟨ρ', .next g (.inl b) i1, i2⟩
  | ret g b => exact .inl (.ret g b)
theorem forR {X : Cx} {tg iter : Expr} {body rest : List Stmt} {ds : List PyData} {ρ : Ev} {w : Sl} {pos : Pos} (hi : PI X tg iter (tI X.K ρ ds)) (hl : LoopR X tg body rest ds ρ w) (hp : PassesOwn (model X.prog X.w) X.A X.env X.xe := by exact PassesOwn.never) (hc : X.calm = true := by rfl) (hs : ∀ x, foldedSetIterable iter X.env x = pure x := by intro _; rfl) :
    PSs X (.For tg iter body [] pos :: rest) (tDS X.K ρ (.ret w)) := by
  rcases hl.to with h | ⟨ρ', h, r⟩
  · exact pds_end (pds_for hp hc hi h hs) (fun _ h => nomatch h)
  · exact pds_seq (pds_for hp hc hi h hs) r
abbrev Rtree_at := Rf (A := Option Tr × List Bool) (fun a => True) (fun a => [.d (encOT a.1), .d (encPath a.2)]) (fun a => .d (encOT (treeAt a.1 a.2)))
abbrev N39 : List Str := ["tree", "path", "step"]
theorem sc39 : FnScope N39 ["tree", "path"] (defScope (top 39)) := ⟨rfl, rfl, rfl, by decide +kernel, rfl, by decide +kernel, by decide +kernel⟩
theorem ok_tree_at (F : Fd C.K "tree_at" "tree_at" (top 39) f fd) (m : C.mg "tree_at" = some (.ref f))  : Has C "tree_at" 1 Rtree_at := by
  refine has_fn (fun a => [some (.d (encOT a.1)), some (.d (encPath a.2)), none]) F m sc39 (by decide) (fun _ _ _ _ _ _ us hl => match us, hl with | [_, _], _ => rfl) (fun _ => rfl) (fun _ => rfl) fun X a at_ hr hp ⟨cdv, A, outer, s, H, E, hX⟩ => ?_
  have hu : X.A.units + 64 < cLine := hr.units
  subst hX
  obtain ⟨ot, path⟩ := a
  refine forR (pid_tup (nm 1)) ?_
  suffices hh : ∀ (ps : List Bool) (ot : Option Tr) (z : Option Sl), LoopR _ _ _ _ (ps.map fun s => PyData.int (sideI s)) [some (.d (encOT ot)), some (.d (encPath path)), z] (.d (encOT (treeAt ot ps))) from hh path ot none
  intro ps
  induction ps with
  | nil => exact fun ot z => .done (rt (pd_eq (nm 0) (by cases ot <;> rfl)))
  | cons s r ih =>
    intro ot z
    cases ot with
    | none => exact .ret (gn 2 sc39.nd) (seqE (ifT (cmpT (nm 0) pd_non od_isN) (rt pd_non)))
    | some t => exact .next (gn 2 sc39.nd) (seq (ifF (ptEq (cmpT (nm 0) pd_non od_isN) (isNone_tr t)) pds_nxt) (pds_one (st 0 (pd_ix (tr_row t) (ix_child t s) (nm 0) (bop pd_int (nm 2) od_add) (fun _ _ => rfl)) sc39.nd))) (ih _ _)

theorem ptEqW {X : Cx} {c : Expr} {ρ : Ev} {k k' : Bool} (h : PW X c (tDT X.K ρ k)) (q : k = k') : PW X c (tDT X.K ρ k') := q ▸ h
/-! ### isinstance, short -/
section
variable {X : Cx} {a : Expr} {ρ : Ev} {d : PyData} {p1 p2 pos : Pos}
theorem isI {C : Ctx} (at_ : At C X) (B : Blt C) (ha : PE X a (tD X.K ρ (.d d))) (hg : Gl X "isinstance" := by rfl) (hgT : Gl X "int" := by rfl) (he : starEach [a, .Name "int" p2] X.env = (false, eval a X.env) :: starEach [.Name "int" p2] X.env := by rfl) : PE X (.Call (.Name "isinstance" p1) [a, .Name "int" p2] [] pos) (tD X.K ρ (.d (.bool d.isInt))) := pd_isInt hg (at_.no B.isi) ha hgT (at_.no B.int) he
theorem isB {C : Ctx} (at_ : At C X) (B : Blt C) (ha : PE X a (tD X.K ρ (.d d))) (hg : Gl X "isinstance" := by rfl) (hgT : Gl X "bool" := by rfl) (he : starEach [a, .Name "bool" p2] X.env = (false, eval a X.env) :: starEach [.Name "bool" p2] X.env := by rfl) : PE X (.Call (.Name "isinstance" p1) [a, .Name "bool" p2] [] pos) (tD X.K ρ (.d (.bool d.isBool))) := pd_isBool hg (at_.no B.isi) ha hgT (at_.no B.bool) he
theorem isT {C : Ctx} (at_ : At C X) (B : Blt C) (ha : PE X a (tD X.K ρ (.d d))) (hg : Gl X "isinstance" := by rfl) (hgT : Gl X "tuple" := by rfl) (he : starEach [a, .Name "tuple" p2] X.env = (false, eval a X.env) :: starEach [.Name "tuple" p2] X.env := by rfl) : PE X (.Call (.Name "isinstance" p1) [a, .Name "tuple" p2] [] pos) (tD X.K ρ (.d (.bool d.isTuple))) := pd_isTup hg (at_.no B.isi) ha hgT (at_.no B.tuple) he
theorem isS {C : Ctx} (at_ : At C X) (B : Blt C) (ha : PE X a (tD X.K ρ (.d d))) (hg : Gl X "isinstance" := by rfl) (hgT : Gl X "str" := by rfl) (he : starEach [a, .Name "str" p2] X.env = (false, eval a X.env) :: starEach [.Name "str" p2] X.env := by rfl) : PE X (.Call (.Name "isinstance" p1) [a, .Name "str" p2] [] pos) (tD X.K ρ (.d (.bool d.isStr))) := pd_isStr hg (at_.no B.isi) ha hgT (at_.no B.str) he
end
/-! ### 41 to 47 -/
def isOutD (p : Plain) (t : Tr) : Part → Bool
  | .out _ i s => decide (i < p.length) && liesOut t.bnd p i s
  | _ => false
def isInD (p : Plain) (t : Tr) : Part → Bool
  | .inn _ => liesWithin t.bnd p
  | _ => false
def sortI (ns : List Int) : List Int := ns.mergeSort fun a b => decide (a ≤ b)
def eachOnce (t : Tr) (us : List Tr) : Bool := decide (sortI (us.flatMap Tr.names) = t.names)
theorem sort_ints (ns : List Int) : sortD (ns.map .int) = (sortI ns).map .int := by
  unfold sortD sortI
  refine (List.map_mergeSort (r := fun a b => decide (a ≤ b)) (s := dataLe false fun d => d) (f := PyData.int) (l := ns) fun a _ b _ => ?_).symm
  show _ = !dataLt (.int b) (.int a)
  rw [PySem.W.dataLt_int, PySem.W.not_lt_int]
theorem cd_sortI {X : Cx} (hu : X.A.units + 64 < cLine) (ns : List Int) : CallR X (.builtin "sorted") (rDs X.K [.d (.list (ns.map .int))] (.d (.list ((sortI ns).map .int)))) := by
  have h := cd_sorted (X := X) (ds := ns.map .int) (AllAlike.of fun _ _ => by simp [alike]) (Sortable.others fun _ => ⟨nofun, nofun⟩) (fun d hd => by
    obtain ⟨n, _, rfl⟩ := List.mem_map.mp hd
    show X.A.units + 2 + 0 < cLine
    omega)
  rw [sort_ints] at h
  exact h
abbrev Ris_count := Rf (A := Int × Int) (fun a => True) (fun a => [.d (.int a.1), .d (.int a.2)]) (fun a => .d (.bool (decide (0 ≤ a.1) && decide (a.1 < a.2))))
abbrev N41 : List Str := ["thing", "many"]
theorem sc41 : FnScope N41 ["thing", "many"] (defScope (top 41)) := ⟨rfl, rfl, rfl, by decide +kernel, rfl, by decide +kernel, by decide +kernel⟩
theorem ok_is_count (F : Fd C.K "is_count" "is_count" (top 41) f fd) (m : C.mg "is_count" = some (.ref f)) (B : Blt C) : Has C "is_count" 1 Ris_count := by
  refine has_fn (fun a => [some (.d (.int a.1)), some (.d (.int a.2))]) F m sc41 (by decide) (fun _ _ _ _ _ _ us hl => match us, hl with | [_, _], _ => rfl) (fun _ => rfl) (fun _ => rfl) fun X a at_ hr hp ⟨cdv, A, outer, s, H, E, hX⟩ => ?_
  have hu : X.A.units + 64 < cLine := hr.units
  subst hX
  obtain ⟨i, n⟩ := a
  refine rt (pd_eq (pd_and (isI at_ B (nm 0)) (fun _ => pd_and (pd_not (isB at_ B (nm 0))) (fun _ => pd_one (pd_chain od_le od_lt pd_int (nm 0) (nm 1) rfl)))) ?_)
  rfl
abbrev Ris_path := Rf (A := List Bool) (fun a => a.length ≤ 1000) (fun a => [.d (encPath a)]) (fun a => .d (.bool true))
abbrev N42 : List Str := ["thing", "step"]
theorem sc42 : FnScope N42 ["thing"] (defScope (top 42)) := ⟨rfl, rfl, rfl, by decide +kernel, rfl, by decide +kernel, by decide +kernel⟩
theorem ok_is_path (F : Fd C.K "is_path" "is_path" (top 42) f fd) (m : C.mg "is_path" = some (.ref f)) (B : Blt C) (h1 : Has C "is_count" 1 Ris_count) : Has C "is_path" 2 Ris_path := by
  refine has_fn (fun a => [some (.d (encPath a)), none]) F m sc42 (by decide) (fun _ _ _ _ _ _ us hl => match us, hl with | [_], _ => rfl) (fun _ => rfl) (fun _ => rfl) fun X a at_ hr hp ⟨cdv, A, outer, s, H, E, hX⟩ => ?_
  have hu : X.A.units + 64 < cLine := hr.units
  subst hX
  have e : (a.all fun s => (decide (0 ≤ sideI s) && decide (sideI s < 2))) = true := List.all_eq_true.mpr fun s _ => by cases s <;> rfl
  refine rt (pd_eq (pd_and (isT at_ B (nm 0)) (fun _ => pd_one (cb at_ B.all (cd_allF rfl a fun s => (decide (0 ≤ sideI s) && decide (sideI s < 2))) (a1 (pd_lc rfl sc42.nd a (fun s => .int (sideI s)) _ (own := [("step", 1)]) (pid_tup (nm 0)) (blkOk_by (N := N42) (sc := defScope (top 42)) (by decide +kernel)) (fun q _ => ⟨_, _, by decide, fun s H C cl fp => gn 1 sc42.nd, fun s H C' c' fp => cl h1 (sideI q, 2) at_.blk hr (a2 (nm 1) pd_int)⟩) (Nat.le_trans hp (by decide)) (by intro _; rfl)))))) ?_)
  rw [e]
  rfl
abbrev Rthere := Rf (A := Tr × Part) (fun a => a.2.path.length ≤ 1000) (fun a => [.d (encTr a.1), .d (encPart a.2)]) (fun a => .d (encOT (treeAt (some a.1) a.2.path)))
abbrev N43 : List Str := ["tree", "part"]
theorem sc43 : FnScope N43 ["tree", "part"] (defScope (top 43)) := ⟨rfl, rfl, rfl, by decide +kernel, rfl, by decide +kernel, by decide +kernel⟩
theorem ok_there (F : Fd C.K "there" "there" (top 43) f fd) (m : C.mg "there" = some (.ref f)) (B : Blt C) (h1 : Has C "is_path" 2 Ris_path) (h2 : Has C "tree_at" 1 Rtree_at) : Has C "there" 3 Rthere := by
  refine has_fn (fun a => [some (.d (encTr a.1)), some (.d (encPart a.2))]) F m sc43 (by decide) (fun _ _ _ _ _ _ us hl => match us, hl with | [_, _], _ => rfl) (fun _ => rfl) (fun _ => rfl) fun X a at_ hr hp ⟨cdv, A, outer, s, H, E, hX⟩ => ?_
  have hu : X.A.units + 64 < cLine := hr.units
  subst hX
  obtain ⟨t, q⟩ := a
  cases q with
  | inn path =>
    refine ifR (k := false) (ptd_w (pwd_or (k := false) (ptEq (ptd_not (pt_b (isT at_ B (nm 1)))) rfl) (fun _ => pwd_or (k := false) (ptEq (cmpT (cb at_ B.len (cd_len (ds := [encPath path, .str "in"]) rfl) (a1 (nm 1))) (t2 pd_int pd_int) (od_notIn rfl rfl rfl (by show _ + 1 + min 0 0 < _; omega))) (by simp [PyData.eqv])) (fun _ => pwd_or1 (ptEq (ptd_not (pt_b (cl h1 path at_ hr (a1 (ix 0 (nm 1))) hp))) rfl))))) (fun h => nomatch h) (fun _ => ifR (k := false) (ptEq (ptd_not (pt_b (isS at_ B (ix 1 (nm 1))))) rfl) (fun h => nomatch h) (fun _ => rt (cl h2 (some t, path) at_ hr (a2 (nm 0) (ix 0 (nm 1))))))
  | out path i side =>
    refine ifR (k := false) (ptd_w (pwd_or (k := false) (ptEq (ptd_not (pt_b (isT at_ B (nm 1)))) rfl) (fun _ => pwd_or (k := false) (ptEq (cmpT (cb at_ B.len (cd_len (ds := [encPath path, .str "out", .int i, .int (sideI side)]) rfl) (a1 (nm 1))) (t2 pd_int pd_int) (od_notIn rfl rfl rfl (by show _ + 1 + min 0 0 < _; omega))) (by simp [PyData.eqv])) (fun _ => pwd_or1 (ptEq (ptd_not (pt_b (cl h1 path at_ hr (a1 (ix 0 (nm 1))) hp))) rfl))))) (fun h => nomatch h) (fun _ => ifR (k := false) (ptEq (ptd_not (pt_b (isS at_ B (ix 1 (nm 1))))) rfl) (fun h => nomatch h) (fun _ => rt (cl h2 (some t, path) at_ hr (a2 (nm 0) (ix 0 (nm 1))))))
  | far path =>
    refine ifR (k := false) (ptd_w (pwd_or (k := false) (ptEq (ptd_not (pt_b (isT at_ B (nm 1)))) rfl) (fun _ => pwd_or (k := false) (ptEq (cmpT (cb at_ B.len (cd_len (ds := [encPath path, .str "far"]) rfl) (a1 (nm 1))) (t2 pd_int pd_int) (od_notIn rfl rfl rfl (by show _ + 1 + min 0 0 < _; omega))) (by simp [PyData.eqv])) (fun _ => pwd_or1 (ptEq (ptd_not (pt_b (cl h1 path at_ hr (a1 (ix 0 (nm 1))) hp))) rfl))))) (fun h => nomatch h) (fun _ => ifR (k := false) (ptEq (ptd_not (pt_b (isS at_ B (ix 1 (nm 1))))) rfl) (fun h => nomatch h) (fun _ => rt (cl h2 (some t, path) at_ hr (a2 (nm 0) (ix 0 (nm 1))))))

theorem strNe {X : Cx} {a b : Str} {k : Bool} (hu : X.A.units + 64 < cLine) (e : (!PyData.eqv (.str a) (.str b)) = k := by decide +kernel) (h1 : shaped (.str a) = true := by decide +kernel) (h2 : shaped (.str b) = true := by decide +kernel) : OpR X (compareOp .NotEq) (rD X.K (.d (.str a)) (.d (.str b)) (.d (.bool k))) := by
  have q := od_ne (X := X) (x := .str a) (y := .str b) hu h1 h2
  rw [e] at q
  exact q
theorem intNe {X : Cx} {a b : Int} (hu : X.A.units + 64 < cLine) : OpR X (compareOp .NotEq) (rD X.K (.d (.int a)) (.d (.int b)) (.d (.bool (!decide (a = b))))) := by
  have h := od_ne (X := X) (x := .int a) (y := .int b) hu rfl rfl
  have e : PyData.eqv (.int a) (.int b) = decide (a = b) := by simp only [PyData.eqv]; rw [Bool.eq_iff_iff, beq_iff_eq, decide_eq_true_eq]
  rw [e] at h
  exact h
abbrev Ris_out := Rf (A := Plain × Tr × Part) (fun a => a.2.1.bnd.length = a.1.length) (fun a => [ed a.1, .d (encTr a.2.1), .d (encPart a.2.2)]) (fun a => .d (.bool (isOutD a.1 a.2.1 a.2.2)))
abbrev N44 : List Str := ["plain", "tree", "part"]
theorem sc44 : FnScope N44 ["plain", "tree", "part"] (defScope (top 44)) := ⟨rfl, rfl, rfl, by decide +kernel, rfl, by decide +kernel, by decide +kernel⟩
theorem ok_is_out (F : Fd C.K "is_out" "is_out" (top 44) f fd) (m : C.mg "is_out" = some (.ref f)) (B : Blt C) (h1 : Has C "is_count" 1 Ris_count) (h2 : Has C "lies_out" 1 Rlies_out) : Has C "is_out" 2 Ris_out := by
  refine has_fn (fun a => [some (ed a.1), some (.d (encTr a.2.1)), some (.d (encPart a.2.2))]) F m sc44 (by decide) (fun _ _ _ _ _ _ us hl => match us, hl with | [_, _, _], _ => rfl) (fun _ => rfl) (fun _ => rfl) fun X a at_ hr hp ⟨cdv, A, outer, s, H, E, hX⟩ => ?_
  have hu : X.A.units + 64 < cLine := hr.units
  subst hX
  obtain ⟨p, t, q⟩ := a
  cases q with
  | inn path => exact ifR (k := true) (ptd_w (pwd_or (k := true) (y := true) (ptEq (cmpT (cb at_ B.len (cd_len (ds := [encPath path, .str "in"]) rfl) (a1 (nm 2))) pd_int (intNe hu)) rfl) (fun h => nomatch h))) (fun _ => rt pd_bl) (fun h => nomatch h)
  | far path => exact ifR (k := true) (ptd_w (pwd_or (k := true) (y := true) (ptEq (cmpT (cb at_ B.len (cd_len (ds := [encPath path, .str "far"]) rfl) (a1 (nm 2))) pd_int (intNe hu)) rfl) (fun h => nomatch h))) (fun _ => rt pd_bl) (fun h => nomatch h)
  | out path i side =>
    have hl : t.bnd.length = p.length := hp
    have hs : (decide (0 ≤ sideI side) && decide (sideI side < 2)) = true := by cases side <;> rfl
    refine ifR (k := !decide (i < p.length)) (ptd_w (ptEqW (pwd_or (ptEq (cmpT (cb at_ B.len (cd_len (ds := [encPath path, .str "out", .int i, .int (sideI side)]) rfl) (a1 (nm 2))) pd_int (intNe hu)) (show _ = false from rfl)) (fun _ => pwd_or (cmpT (ix 1 (nm 2)) pd_str (strNe (k := false) hu)) (fun _ => pwd_or (ptd_not (pt_b (cl h1 ((i : Int), (p.length : Int)) at_ hr (a2 (ix 2 (nm 2)) (pd_eq (cb at_ B.len (cd_len (ds := p.map Enc.enc) rfl) (a1 (nm 0))) (by rw [List.length_map])))))) (fun _ => pwd_or1 (ptEq (ptd_not (pt_b (cl h1 (sideI side, 2) at_ hr (a2 (ix 3 (nm 2)) pd_int)))) (show _ = false by simp only [hs]; rfl)))))) ?_)) (fun e => rt (pd_eq pd_bl ?_)) (fun e => rt (pd_eq (cl h2 (t.bnd, p, i, side) at_ hr (a4 (ixT1 (nm 1)) (nm 0) (ix 2 (nm 2)) (ix 3 (nm 2))) ?_) ?_))
    · simp
    · have e' : ¬ i < p.length := by simpa using e
      show Sl.d (.bool false) = .d (.bool (decide (i < p.length) && liesOut t.bnd p i side))
      simp [e']
    · have e' : i < p.length := by simpa using e
      exact ⟨by rw [hl]; exact e', e'⟩
    · have e' : i < p.length := by simpa using e
      show Sl.d (.bool (liesOut t.bnd p i side)) = .d (.bool (decide (i < p.length) && liesOut t.bnd p i side))
      simp [e']
abbrev Ris_in := Rf (A := Plain × Tr × Part) (fun a => a.2.1.bnd.length ≤ 100) (fun a => [ed a.1, .d (encTr a.2.1), .d (encPart a.2.2)]) (fun a => .d (.bool (isInD a.1 a.2.1 a.2.2)))
abbrev N45 : List Str := ["plain", "tree", "part"]
theorem sc45 : FnScope N45 ["plain", "tree", "part"] (defScope (top 45)) := ⟨rfl, rfl, rfl, by decide +kernel, rfl, by decide +kernel, by decide +kernel⟩
theorem ok_is_in (F : Fd C.K "is_in" "is_in" (top 45) f fd) (m : C.mg "is_in" = some (.ref f)) (B : Blt C) (h1 : Has C "lies_within" 4 RliesWithin) : Has C "is_in" 5 Ris_in := by
  refine has_fn (fun a => [some (ed a.1), some (.d (encTr a.2.1)), some (.d (encPart a.2.2))]) F m sc45 (by decide) (fun _ _ _ _ _ _ us hl => match us, hl with | [_, _, _], _ => rfl) (fun _ => rfl) (fun _ => rfl) fun X a at_ hr hp ⟨cdv, A, outer, s, H, E, hX⟩ => ?_
  have hu : X.A.units + 64 < cLine := hr.units
  subst hX
  obtain ⟨p, t, q⟩ := a
  cases q with
  | out path i side => exact rt (pd_eq (pd_and (y := true) (pd_eq (cmp (cb at_ B.len (cd_len (ds := [encPath path, .str "out", .int i, .int (sideI side)]) rfl) (a1 (nm 2))) pd_int (od_eqI hu)) (show _ = Sl.d (.bool false) from rfl)) (fun h => nomatch h)) rfl)
  | far path => exact rt (pd_eq (pd_and (pd_eq (cmp (cb at_ B.len (cd_len (ds := [encPath path, .str "far"]) rfl) (a1 (nm 2))) pd_int (od_eqI hu)) (show _ = Sl.d (.bool true) from rfl)) (fun _ => pd_and (k := false) (y := true) (cmp (ix 1 (nm 2)) pd_str (od_eqS hu)) (fun h => nomatch h))) rfl)
  | inn path => exact rt (pd_eq (pd_and (pd_eq (cmp (cb at_ B.len (cd_len (ds := [encPath path, .str "in"]) rfl) (a1 (nm 2))) pd_int (od_eqI hu)) (show _ = Sl.d (.bool true) from rfl)) (fun _ => pd_and (k := true) (cmp (ix 1 (nm 2)) pd_str (od_eqS hu)) (fun _ => pd_one (cl h1 (t.bnd, p) at_ hr (a2 (ixT1 (nm 1)) (nm 0)) hp)))) rfl)
end
end Bx
namespace Bx
open PySem L2 PySem.SeqAt
open PySem.W (alike alikeAll dataLt dataLe EachIs AllAlike Sortable)
section
variable {C : Ctx} {f : Addr} {fd : FuncData}

section
variable {X : Cx} {i : Nat} {ρ : Ev}
/-- x.extend(list(e)) -/
theorem ext {C : Ctx} {x : Str} {e : Expr} {ds ys : List PyData} {y : PyData} {p1 p2 p3 apos cpos pos : Pos} (at_ : At C X) (hm : C.mg "list" = none) (he : ∀ L, PE X e (tD X.K (wi ρ i L) (.d y))) (hr : rowOf y = some ys) (hz : ds.length + ys.length < 100000) (hi : X.N[i]? = some x := by rfl) (hv : Vis X.env.scope x := by first | exact Or.inl rfl | exact Or.inr (Or.inl rfl) | exact Or.inr (Or.inr rfl)) (hg : Gl X "list" := by rfl)
    (hd : (x == ("__debug__" : Str)) = false := by decide) (hcd : (x == ("__classdict__" : Str)) = false := by decide)
    (hs : swapsWith (.Call (.Attribute (.Name x p1) "extend" apos) [.Call (.Name "list" p2) [e] [] p3] [] cpos) none pos.line X.env = pure false := by rfl)
    (hbase : attributeBase (.Name x p1) "extend" X.env (eval (.Name x p1) X.env) = eval (.Name x p1) X.env := by rfl)
    (hfew : ((backTo cpos (starEach [.Call (.Name "list" p2) [e] [] p3] X.env)).all (fun x => !x.1) && (backToKw cpos (keywordEach [] X.env)).all (fun x => x.1.isSome) && decide ([Expr.Call (.Name "list" p2) [e] [] p3].length + ([] : List Keyword).length + (if ([] : List Keyword).isEmpty then 0 else 1) < 30)) = true := by rfl)
    (hline : (apos.endLine == cpos.line) = true := by rfl) (he1 : starEach [e] X.env = (false, eval e X.env) :: starEach [] X.env := by rfl) (hplain : (backTo cpos (starEach [] X.env)).any (·.1) = false := by rfl) (hplain3 : (backTo p3 (starEach [] X.env)).any (·.1) = false := by rfl)
    (he2 : starEach [.Call (.Name "list" p2) [e] [] p3] X.env = (false, eval (.Call (.Name "list" p2) [e] [] p3) X.env) :: starEach [] X.env := by rfl) :
    PS X (.Expr (.Call (.Attribute (.Name x p1) "extend" apos) [.Call (.Name "list" p2) [e] [] p3] [] cpos) pos) (tOS X.K i ρ ds (.nxt ρ (ds ++ ys))) := own_ext hi hv hg (at_.no hm) he hr hz hd hcd hs hbase hfew hline he1 hplain hplain3 he2
end
theorem flat_len {α β : Type} (f : α → List β) (n : Nat) : ∀ (xs : List α), (∀ x ∈ xs, (f x).length ≤ n) → (xs.flatMap f).length ≤ xs.length * n
  | [], _ => Nat.zero_le _
  | x :: xs, h => by
    have h1 := h x (List.mem_cons_self ..)
    have h2 := flat_len f n xs fun y hy => h y (List.mem_cons_of_mem _ hy)
    rw [List.flatMap_cons, List.length_append, List.length_cons, Nat.succ_mul]
    omega
theorem flat_map {α β γ : Type} (f : α → List β) (g : β → γ) (xs : List α) : (xs.flatMap f).map g = xs.flatMap fun x => (f x).map g := by
  induction xs with
  | nil => rfl
  | cons x xs ih => rw [List.flatMap_cons, List.flatMap_cons, List.map_append, ih]
abbrev Rhas_each_once := Rf (A := Tr × List Tr) (fun a => (a.2.flatMap Tr.names).length ≤ 50000) (fun a => [.d (encTr a.1), .d (.list (a.2.map encTr))]) (fun a => .d (.bool (eachOnce a.1 a.2)))
abbrev N46 : List Str := ["tree", "trees", "names", "one"]
theorem sc46 : FnScope N46 ["tree", "trees"] (defScope (top 46)) := ⟨rfl, rfl, rfl, by decide +kernel, rfl, by decide +kernel, by decide +kernel⟩
theorem ok_has_each_once (F : Fd C.K "has_each_once" "has_each_once" (top 46) f fd) (m : C.mg "has_each_once" = some (.ref f)) (B : Blt C) : Has C "has_each_once" 1 Rhas_each_once := by
  refine has_fn (fun a => [some (.d (encTr a.1)), some (.d (.list (a.2.map encTr))), none, none]) F m sc46 (by decide) (fun _ _ _ _ _ _ us hl => match us, hl with | [_, _], _ => rfl) (fun _ => rfl) (fun _ => rfl) fun X a at_ hr hp ⟨cdv, A, outer, s, H, E, hX⟩ => ?_
  have hu : X.A.units + 64 < cLine := hr.units
  subst hX
  obtain ⟨t, us⟩ := a
  have hp : (us.flatMap Tr.names).length ≤ 50000 := hp
  have e : us.flatMap (fun u => u.names.map PyData.int) = (us.flatMap Tr.names).map .int := (flat_map _ _ _).symm
  refine newL 2 sc46.nd (own_seq (forO (fun L => pid_list (nm 1)) (loopO_map us encTr (fun u => u.names.map PyData.int) 50000 (fun u hu ds hd => ?_) [] (by rw [List.nil_append, e, List.length_map]; exact hp))) (own_data ?_))
  · exact ⟨[some (.d (encTr t)), some (.d (.list (us.map encTr))), none, some (.d (encTr u))], _, _, fun L => gn 3 sc46.nd, rfl, own_one (ext at_ B.list (fun L => ixT0 (nm 3)) rfl (by omega)), .keep (.keep (.keep (.drop .nil)))⟩
  · rw [List.nil_append, e]
    exact rt (cmp (cb at_ B.sorted (cd_sortI hu _) (a1 (nm 2))) (ct at_ B.list (cd_lst rfl) (a1 (ixT0 (nm 0)))) (od_eqL hu))

def treesOf (t : Tr) (ps : List Part) : List (Option Tr) := ps.map fun q => treeAt (some t) q.path
def showsCover (ot : Option Tr) (b : Box) (ps : List Part) : Bool := match ot with
  | none => decide (ps.length = 0)
  | some t => if none ∈ treesOf t ps then false else (((treesOf t ps).filterMap id).zip ps).all (fun x => isInD (plainBox b) x.1 x.2 || isOutD (plainBox b) x.1 x.2) && eachOnce t ((treesOf t ps).filterMap id)
structure TrLook (d : Nat) (t : Tr) : Prop where
  few : d ≤ 100
  all : t.all fun u => u.bnd.length = d ∧ u.names.length ≤ 100
theorem all_at {P : Tr → Prop} : ∀ {path : List Bool} {t u : Tr}, t.all P → treeAt (some t) path = some u → u.all P := by
  intro path
  induction path with
  | nil => intro t u h e; cases e; exact h
  | cons s r ih =>
    intro t u h e
    cases t with
    | lf n b =>
      have e' : treeAt none r = some u := e
      cases r <;> cases e'
    | nd ns b l h' =>
      have e' : treeAt (some (if s then h' else l)) r = some u := e
      cases s with
      | false => exact ih h.2.1 e'
      | true => exact ih h.2.2 e'
theorem lay_tr : ∀ t : Tr, (encTr t).canLay0 = true
  | .lf n b => by
    show ((en [n]).canLay0 && ((en b).canLay0 && (true && (true && true)))) = true
    rw [Enc.lay, Enc.lay]; rfl
  | .nd ns b l h => by
    show ((en ns).canLay0 && ((en b).canLay0 && ((encTr l).canLay0 && ((encTr h).canLay0 && true)))) = true
    rw [Enc.lay, Enc.lay, lay_tr l, lay_tr h]; rfl
theorem lay_ots : ∀ ts : List (Option Tr), PyData.canLayAll0 (ts.map encOT) = true
  | [] => rfl
  | none :: ts => lay_ots ts
  | some t :: ts => by
    show ((encTr t).canLay0 && PyData.canLayAll0 (ts.map encOT)) = true
    rw [lay_tr, lay_ots ts]; rfl
theorem any_none : ∀ ts : List (Option Tr), ((ts.map encOT).any fun y => PyData.eqv y .none) = decide (none ∈ ts)
  | [] => by simp
  | none :: ts => by simp [encOT, PyData.eqv]
  | some t :: ts => by
    have e : PyData.eqv (encTr t) .none = false := by cases t <;> simp [encTr, PyData.eqv]
    rw [List.map_cons, List.any_cons, any_none ts]
    simp [encOT, e]
theorem od_noneIn {X : Cx} (hu : X.A.units + 64 < cLine) (ts : List (Option Tr)) : OpR X (compareOp .In) (rD X.K (.d .none) (.d (.list (ts.map encOT))) (.d (.bool (decide (none ∈ ts))))) := by
  have h := od_in (X := X) (d := .list (ts.map encOT)) (x := .none) rfl rfl (lay_ots ts) (by
    have : min (PyData.depthAll (ts.map encOT)) (PyData.none).depth ≤ 0 := Nat.min_le_right _ _
    omega)
  rw [any_none] at h
  exact h
theorem all_some : ∀ {ts : List (Option Tr)}, none ∉ ts → ts = (ts.filterMap id).map some
  | [], _ => rfl
  | none :: ts, h => absurd (List.mem_cons_self ..) h
  | some t :: ts, h => by
    have ih := all_some (ts := ts) fun q => h (List.mem_cons_of_mem _ q)
    show some t :: ts = some t :: (ts.filterMap id).map some
    rw [← ih]
theorem enc_some {ts : List (Option Tr)} (h : none ∉ ts) : ts.map encOT = (ts.filterMap id).map encTr := by
  have e := all_some h
  conv => lhs; rw [e, List.map_map]
  rfl
structure LookOk (d : Nat) (b : Box) (t : Tr) (ps : List Part) : Prop where
  look : TrLook d t
  box : b.length = d
  many : ps.length ≤ 200
  short : ∀ q ∈ ps, q.path.length ≤ 1000
theorem LookOk.sub {d : Nat} {b : Box} {t : Tr} {ps : List Part} (h : LookOk d b t ps) {u : Tr} (hu : u ∈ (treesOf t ps).filterMap id) : u.bnd.length = d ∧ u.names.length ≤ 100 := by
  obtain ⟨o, ho, e⟩ := List.mem_filterMap.mp hu
  obtain ⟨q, hq, rfl⟩ := List.mem_map.mp ho
  exact Tr.all_self (all_at h.look.all e)
theorem LookOk.names {d : Nat} {b : Box} {t : Tr} {ps : List Part} (h : LookOk d b t ps) : (((treesOf t ps).filterMap id).flatMap Tr.names).length ≤ 50000 := by
  have h1 := flat_len Tr.names 100 _ fun u hu => (h.sub (u := u) hu).2
  have h2 : ((treesOf t ps).filterMap id).length ≤ ps.length := Nat.le_trans (List.length_filterMap_le _ _) (by unfold treesOf; rw [List.length_map]; exact Nat.le_refl _)
  have h3 := h.many
  omega
abbrev Rshows_cover := Rf (A := House × Option Tr × Box × List Part) (fun a => ∀ t, a.2.1 = some t → ∃ d, LookOk d a.2.2.1 t a.2.2.2) (fun a => [.d (encHouse a.1), .d (encOT a.2.1), .d (encBox a.2.2.1), .d (.tuple (a.2.2.2.map encPart))]) (fun a => .d (.bool (showsCover a.2.1 a.2.2.1 a.2.2.2)))
abbrev N47 : List Str := ["house", "tree", "box", "thing", "plain", "trees", "one", "part"]
theorem sc47 : FnScope N47 ["house", "tree", "box", "thing"] (defScope (top 47)) := ⟨rfl, rfl, rfl, by decide +kernel, rfl, by decide +kernel, by decide +kernel⟩
theorem ok_shows_cover (F : Fd C.K "shows_cover" "shows_cover" (top 47) f fd) (m : C.mg "shows_cover" = some (.ref f)) (B : Blt C) (h1 : Has C "plain_box" 3 RplainBox) (h2 : Has C "there" 3 Rthere) (h3 : Has C "is_in" 5 Ris_in) (h4 : Has C "is_out" 2 Ris_out) (h5 : Has C "has_each_once" 1 Rhas_each_once) : Has C "shows_cover" 6 Rshows_cover := by
  refine has_fn (fun a => [some (.d (encHouse a.1)), some (.d (encOT a.2.1)), some (.d (encBox a.2.2.1)), some (.d (.tuple (a.2.2.2.map encPart))), none, none, none, none]) F m sc47 (by decide) (fun _ _ _ _ _ _ us hl => match us, hl with | [_, _, _, _], _ => rfl) (fun _ => rfl) (fun _ => rfl) fun X a at_ hr hp ⟨cdv, A, outer, s, H, E, hX⟩ => ?_
  have hu : X.A.units + 64 < cLine := hr.units
  subst hX
  obtain ⟨hs, ot, b, ps⟩ := a
  refine ifR (k := false) (ptEq (ptd_not (pt_b (isT at_ B (nm 3)))) rfl) (fun h => nomatch h) (fun _ => ?_)
  cases ot with
  | none => exact ifR (k := true) (cmpT (nm 1) pd_non od_isN) (fun _ => rt (pd_eq (cmp (cb at_ B.len (cd_len (ds := ps.map encPart) rfl) (a1 (nm 3))) pd_int (od_eqI hu)) (by rw [List.length_map]; show _ = Sl.d (.bool (decide (ps.length = 0))); simp))) (fun h => nomatch h)
  | some t =>
    obtain ⟨d, L⟩ := hp t rfl
    have hb : b.length ≤ 100 := by rw [L.box]; exact L.look.few
    have hpl : (plainBox b).length = d := by rw [plain_len]; exact L.box
    refine ifR (k := false) (ptEq (cmpT (nm 1) pd_non od_isN) (isNone_tr t)) (fun h => nomatch h) (fun _ => ?_)
    refine seq (st 4 (cl h1 b at_ hr (a1 (nm 2)) hb) sc47.nd) (seq (pds_lc (i := 5) rfl sc47.nd rfl rfl (sw_true rfl rfl rfl (by decide +kernel)) ps encPart (fun q => encOT (treeAt (some t) q.path)) (own := [("part", 7)]) (pid_tup (nm 3)) (blkOk_by (N := N47) (sc := defScope (top 47)) (by decide +kernel)) (fun q hq => ⟨_, _, by decide, fun s H C cl fp => gn 7 sc47.nd, fun s H C' c' fp => cl h2 (t, q) at_.blk hr (a2 (nm 1) (nm 7)) (L.short q hq)⟩) (Nat.le_trans L.many (by decide)) (by intro _; rfl)) ?_)
    have e5 : (ps.map fun q => encOT (treeAt (some t) q.path)) = (treesOf t ps).map encOT := by unfold treesOf; rw [List.map_map]; rfl
    rw [e5]
    refine ifR (k := decide (none ∈ treesOf t ps)) (cmpT pd_non (nm 5) (od_noneIn hu _)) (fun h => rt (pd_eq pd_bl ?_)) (fun h => ?_)
    · show _ = Sl.d (.bool (showsCover (some t) b ps))
      simp only [showsCover, of_decide_eq_true h, if_true]
    · have hn : none ∉ treesOf t ps := of_decide_eq_false h
      show PSs _ _ (tDS _ _ (.ret (.d (.bool (showsCover (some t) b ps)))))
      simp only [showsCover, if_neg hn]
      rw [enc_some hn]
      have hsub : ∀ u ∈ (treesOf t ps).filterMap id, u.bnd.length = d ∧ u.names.length ≤ 100 := fun u hu => L.sub hu
      have hnames := L.names
      revert hsub hnames
      generalize (treesOf t ps).filterMap id = us
      intro hsub hnames
      refine forR (ds := (us.zip ps).map fun x => .tuple [encTr x.1, encPart x.2]) (by rw [← zipD_map]; exact pid_zipM rfl (at_.no B.zip) (nm 5) (nm 3)) ?_
      have hz : ∀ x ∈ us.zip ps, x.1.bnd.length = d := fun x hx => (hsub x.1 (List.of_mem_zip (a := x.1) (b := x.2) hx).1).1
      revert hz
      generalize us.zip ps = zs
      suffices hh : ∀ (x y : Option Sl), (∀ x ∈ zs, x.1.bnd.length = d) → LoopR _ _ _ _ (zs.map fun x => .tuple [encTr x.1, encPart x.2]) [some (.d (encHouse hs)), some (.d (encTr t)), some (.d (encBox b)), some (.d (.tuple (ps.map encPart))), some (ed (plainBox b)), some (.d (.list (us.map encTr))), x, y] (.d (.bool ((zs.all fun x => isInD (plainBox b) x.1 x.2 || isOutD (plainBox b) x.1 x.2) && eachOnce t us))) from hh none none
      induction zs with
      | nil => exact fun x y _ => .done (rt (pd_eq (cl h5 (t, us) at_ hr (a2 (nm 1) (nm 5)) hnames) (by simp)))
      | cons z zs ih =>
        intro x y hz
        have hzl := hz z (List.mem_cons_self ..)
        have hl : z.1.bnd.length ≤ 100 := by rw [hzl]; exact L.look.few
        have hl2 : z.1.bnd.length = (plainBox b).length := by rw [hzl, hpl]
        cases e : isInD (plainBox b) z.1 z.2 || isOutD (plainBox b) z.1 z.2 with
        | false =>
          refine .ret (gd_tup rfl (gds_cons (gn 6 sc47.nd) (gds_cons (gn 7 sc47.nd) gds_nil)) rfl) (seqE (ifT (ptEq (ptd_w (pwd_and (ptd_not (pt_b (cl h3 (plainBox b, z.1, z.2) at_ hr (a3 (nm 4) (nm 6) (nm 7)) hl))) (fun _ => pwd_and1 (ptd_not (pt_b (cl h4 (plainBox b, z.1, z.2) at_ hr (a3 (nm 4) (nm 6) (nm 7)) hl2)))))) ?_) (rt (pd_eq pd_bl ?_))))
          · rw [← Bool.not_or, e]; rfl
          · simp [e]
        | true =>
          refine .next (gd_tup rfl (gds_cons (gn 6 sc47.nd) (gds_cons (gn 7 sc47.nd) gds_nil)) rfl) (seq (ifF (ptEq (ptd_w (pwd_and (ptd_not (pt_b (cl h3 (plainBox b, z.1, z.2) at_ hr (a3 (nm 4) (nm 6) (nm 7)) hl))) (fun _ => pwd_and1 (ptd_not (pt_b (cl h4 (plainBox b, z.1, z.2) at_ hr (a3 (nm 4) (nm 6) (nm 7)) hl2)))))) ?_) pds_nxt) pds_nxt) ?_
          · rw [← Bool.not_or, e]; rfl
          · have q := ih (some (.d (encTr z.1))) (some (.d (encPart z.2))) fun w hw => hz w (List.mem_cons_of_mem _ hw)
            rw [List.all_cons, e, Bool.true_and]
            exact q
end
end Bx
namespace Bx
open PySem L2 PySem.SeqAt
open PySem.W (alike alikeAll dataLt dataLe EachIs AllAlike Sortable)
section
variable {C : Ctx} {f : Addr} {fd : FuncData}

/-! ### what drawing says -/
def stepsTo (b : Bnd) (p : Place) : Int := ((b.zip p).map fun x => max 0 (max (x.1.1 - x.2) (x.2 - x.1.2))).sum
def rowAs (k : Bool) (ds : List PyData) : PyData := if k then .list ds else .tuple ds
def worthsD (h : House) : List (Int × PyData) := h.things.map fun t => (t.name, .int t.worth)
def worthOf (h : House) (n : Int) : Int := ((h.things.find? fun t => t.name = n).map (·.worth)).getD 0
def keyBy (h : House) (k : Kind) (t : Tr) : Int × Int := match k with
  | .near p => (stepsTo t.bnd p, t.names.headD 0)
  | .best => (0 - mostI (t.names.map (worthOf h)), t.names.headD 0)
theorem worths_look (h : House) (n : Int) (hm : n ∈ h.things.map (·.name)) : (worthsD h).lookup n = some (.int (worthOf h n)) := by
  unfold worthsD worthOf
  revert hm
  generalize h.things = ts
  induction ts with
  | nil => intro hm; cases hm
  | cons t ts ih =>
    intro hm
    rw [List.map_cons, List.lookup_cons, List.find?_cons]
    by_cases e : n = t.name
    · subst e; simp
    · have e2 : (n == t.name) = false := by simp [e]
      have e3 : decide (t.name = n) = false := by simp; exact fun q => e q.symm
      rw [e2]
      simp only [e3]
      refine ih ?_
      rcases List.mem_cons.mp hm with q | q
      · exact absurd q e
      · exact q
abbrev Rsteps_to := Rf (A := Bool × Bnd × Place) (fun a => a.2.1.length ≤ 100) (fun a => [.d (rowAs a.1 (a.2.1.map Enc.enc)), ed a.2.2]) (fun a => .d (.int (stepsTo a.2.1 a.2.2)))
abbrev N49 : List Str := ["bounds", "place", "total", "low", "high", "number"]
theorem sc49 : FnScope N49 ["bounds", "place"] (defScope (top 49)) := ⟨rfl, rfl, rfl, by decide +kernel, rfl, by decide +kernel, by decide +kernel⟩
theorem ok_steps_to (F : Fd C.K "steps_to" "steps_to" (top 49) f fd) (m : C.mg "steps_to" = some (.ref f)) (B : Blt C) : Has C "steps_to" 1 Rsteps_to := by
  refine has_fn (fun a => [some (.d (rowAs a.1 (a.2.1.map Enc.enc))), some (ed a.2.2), none, none, none, none]) F m sc49 (by decide) (fun _ _ _ _ _ _ us hl => match us, hl with | [_, _], _ => rfl) (fun _ => rfl) (fun _ => rfl) fun X a at_ hr hp ⟨cdv, A, outer, s, H, E, hX⟩ => ?_
  have hu : X.A.units + 64 < cLine := hr.units
  subst hX
  obtain ⟨k, b, p⟩ := a
  refine seq (st 2 pd_int sc49.nd) ?_
  refine forR (ds := (b.zip p).map fun x => .tuple [en x.1, .int x.2]) ?_ ?_
  · rw [← zipD_map]
    cases k with
    | false => exact pid_zipT rfl (at_.no B.zip) (nm 0) (nm 1)
    | true => exact pid_zipM rfl (at_.no B.zip) (nm 0) (nm 1)
  · unfold stepsTo
    generalize b.zip p = zs
    suffices hh : ∀ (acc : Int) (x y z : Option Sl), LoopR _ _ _ _ (zs.map fun x => .tuple [en x.1, .int x.2]) [some (.d (rowAs k (b.map Enc.enc))), some (ed p), some (.d (.int acc)), x, y, z] (.d (.int (acc + (zs.map fun x => max 0 (max (x.1.1 - x.2) (x.2 - x.1.2))).sum))) by
      have q := hh 0 none none none
      rw [Int.zero_add] at q
      exact q
    induction zs with
    | nil => exact fun acc x y z => .done (rt (pd_eq (nm 2) (by simp)))
    | cons w zs ih =>
      intro acc x y z
      rw [List.map_cons, List.map_cons, List.sum_cons, ← Int.add_assoc]
      exact .next (gd_tup rfl (gds_cons (gd_tup (ds := [.int w.1.1, .int w.1.2]) rfl (gds_cons (gn 3 sc49.nd) (gds_cons (gn 4 sc49.nd) gds_nil)) rfl) (gds_cons (gn 5 sc49.nd) gds_nil)) rfl) (pds_one (pds_aug (i := 2) rfl sc49.nd rfl (Or.inl rfl) (cb at_ B.max (cd_max3 rfl (by omega)) (a3 pd_int (bop (nm 3) (nm 5) od_sub) (bop (nm 5) (nm 4) od_sub))) ipd_add (Or.inr rfl))) (ih _ _ _ _)
abbrev Rworths_of := Rf (A := House) (fun a => HouseOk a) (fun a => [.d (encHouse a)]) (fun a => .dc (worthsD a))
abbrev N50 : List Str := ["house", "thing"]
theorem sc50 : FnScope N50 ["house"] (defScope (top 50)) := ⟨rfl, rfl, rfl, by decide +kernel, rfl, by decide +kernel, by decide +kernel⟩
theorem ok_worths_of (F : Fd C.K "worths_of" "worths_of" (top 50) f fd) (m : C.mg "worths_of" = some (.ref f)) (B : Blt C) : Has C "worths_of" 1 Rworths_of := by
  refine has_fn (fun a => [some (.d (encHouse a)), none]) F m sc50 (by decide) (fun _ _ _ _ _ _ us hl => match us, hl with | [_], _ => rfl) (fun _ => rfl) (fun _ => rfl) fun X a at_ hr hp ⟨cdv, A, outer, s, H, E, hX⟩ => ?_
  have hu : X.A.units + 64 < cLine := hr.units
  subst hX
  have hn : ((worthsD a).map (·.1)).Nodup := by
    have e : (worthsD a).map (·.1) = a.things.map (·.name) := by unfold worthsD; rw [List.map_map]; rfl
    rw [e]
    exact hp.things.nd
  refine rt (ct at_ B.dict (cd_dict rfl hn) (a1 (pd_eq (pd_lc rfl sc50.nd a.things encThing (fun t => .tuple [.int t.name, .int t.worth]) (own := [("thing", 1)]) (pid_tup (ix 1 (nm 0))) (blkOk_by (N := N50) (sc := defScope (top 50)) (by decide +kernel)) (fun t _ => ⟨_, _, by decide, fun s H C cl fp => gn 1 sc50.nd, fun s H C' c' fp => t2 (ix 0 (nm 1)) (ix 2 (nm 1))⟩) (Nat.le_trans hp.many (by decide)) (by intro _; rfl)) ?_)))
  unfold pairsD worthsD
  rw [List.map_map]
  rfl

structure NamesOk (h : House) (t : Tr) : Prop where
  ne : t.names ≠ []
  few : t.names.length ≤ 100
  sub : ∀ n ∈ t.names, n ∈ h.things.map (·.name)
  len : t.bnd.length ≤ 100
theorem cut2 (t : Tr) : cutD (trRow t) none (some 2) = [en t.names, en t.bnd] := by cases t <;> rfl
theorem head_at {ns : List Int} (h : ns ≠ []) : (ns.map (Enc.enc (α := Int)))[0]? = some (.int (ns.headD 0)) := by
  cases ns with
  | nil => exact absurd rfl h
  | cons n ns => rfl
theorem encTr_eq (t : Tr) : encTr t = .tuple (trRow t) := encTr_row t
abbrev Rkey_by := Rf (A := House × Tr × Kind) (fun a => NamesOk a.1 a.2.1) (fun a => [.dc (worthsD a.1), .d (encTr a.2.1), .d (encKind a.2.2)]) (fun a => ed (keyBy a.1 a.2.2 a.2.1))
abbrev N51 : List Str := ["worths", "tree", "kind", "names", "bounds", "name"]
theorem sc51 : FnScope N51 ["worths", "tree", "kind"] (defScope (top 51)) := ⟨rfl, rfl, rfl, by decide +kernel, rfl, by decide +kernel, by decide +kernel⟩
theorem ok_key_by_drawing (F : Fd C.K "key_by" "key_by" (top 51) f fd) (m : C.mg "key_by_drawing" = some (.ref f)) (B : Blt C) (h1 : Has C "steps_to" 1 Rsteps_to) : Has C "key_by_drawing" 2 Rkey_by := by
  refine has_fn (fun a => [some (.dc (worthsD a.1)), some (.d (encTr a.2.1)), some (.d (encKind a.2.2)), none, none, none]) F m sc51 (by decide) (fun _ _ _ _ _ _ us hl => match us, hl with | [_, _, _], _ => rfl) (fun _ => rfl) (fun _ => rfl) fun X a at_ hr hp ⟨cdv, A, outer, s, H, E, hX⟩ => ?_
  have hu : X.A.units + 64 < cLine := hr.units
  subst hX
  obtain ⟨h, t, k⟩ := a
  obtain ⟨ne, few, sub, len⟩ := hp
  refine seq (pds_asg (x := .tuple [en t.names, en t.bnd]) (pd_eq (pd_slT (ds := trRow t) (pd_eq (nm 1) (by rw [encTr_row])) pdo_none (pdo_some pd_int)) (by rw [cut2])) (gd_tup rfl (gds_cons (gn 3 sc51.nd) (gds_cons (gn 4 sc51.nd) gds_nil)) rfl)) ?_
  cases k with
  | near p =>
    refine seqE (ifT (cmpT (ix 0 (nm 2)) pd_str (od_eqS hu)) (rt ?_))
    exact t2 (cl h1 (false, t.bnd, p) at_ hr (a2 (nm 4) (ix 1 (nm 2))) len) (ix 0 (nm 3) rfl (head_at ne))
  | best =>
    refine seq (ifF (cmpT (ix 0 (nm 2)) pd_str (od_eqS hu)) pds_nxt) (rt ?_)
    refine t2 (bop pd_int (cb at_ B.max (cd_max (ns := t.names.map (worthOf h)) rfl (by simp [ne])) (a1 (pd_eq (pd_lc rfl sc51.nd t.names Enc.enc (fun n => .int (worthOf h n)) (own := [("name", 5)]) (pid_tup (nm 3)) (blkOk_by (N := N51) (sc := defScope (top 51)) (by decide +kernel)) (fun n hn => ⟨_, _, by decide, fun s H C cl fp => gn 5 sc51.nd, fun s H C' c' fp => pd_dget (Nat.lt_of_le_of_lt (Nat.add_le_add_left (by decide : 1 ≤ 64) _) hu) (nm 0) (nm 5) (worths_look h n (sub n hn)) (by exact fun _ _ => rfl)⟩) (Nat.le_trans few (by decide)) (by intro _; rfl)) (by rw [List.map_map]; rfl)))) od_sub) (ix 0 (nm 3) rfl (head_at ne))
end
end Bx
namespace Bx
open PySem L2 PySem.SeqAt
open PySem.W (alike alikeAll dataLt dataLe EachIs AllAlike Sortable)
section
variable {C : Ctx} {f : Addr} {fd : FuncData}

/-! ### what drawn papers' looks say -/
def thingsD (h : House) : List (Int × PyData) := h.things.map fun t => (t.name, encThing t)
def thingAt (h : House) (n : Int) : Thing := (h.things.find? fun t => t.name = n).getD default
def far0 (k : Kind) (t : Thing) : Int := match k with
  | .best => 0 - t.worth
  | .near p => stepsTo (t.place.map fun x => (x, x)) p
def keysTold (h : House) (k : Kind) (ns : List Int) : List (Int × Int) := ns.map fun n => (far0 k (thingAt h n), n)
def pairLt (a b : Int × Int) : Bool := decide (a.1 < b.1 ∨ (a.1 = b.1 ∧ a.2 < b.2))
def isFarD (h : House) (k : Kind) (keys : List (Int × Int)) (t : Tr) : Part → Bool
  | .far _ => decide (keys = []) || pairLt (keys.getLastD (0, 0)) (keyBy h k t)
  | _ => false
def takenHere (p : Plain) (x : Tr × Part) : Bool := isInD p x.1 x.2 && decide (x.1.names.length = 1)
def partsShow (h : House) (t : Tr) (b : Box) (k : Kind) (keys : List (Int × Int)) (ps : List Part) : Bool :=
  if none ∈ treesOf t ps then false
  else ((((treesOf t ps).filterMap id).zip ps).all fun x => takenHere (plainBox b) x || isOutD (plainBox b) x.1 x.2 || isFarD h k keys x.1 x.2) &&
    (decide (sortI (((((treesOf t ps).filterMap id).zip ps).filter (takenHere (plainBox b))).map fun x => x.1.names.headD 0) = sortI (keys.map (·.2))) && eachOnce t ((treesOf t ps).filterMap id))
def Part.isFar : Part → Bool
  | .far _ => true
  | _ => false
def showsDrawn (h : House) (ot : Option Tr) (b : Box) (k : Kind) (m : Int) (ns : List Int) (ps : List Part) : Bool :=
  if m < ns.length then false
  else if ((keysTold h k ns).zip ((keysTold h k ns).drop 1)).all (fun x => pairLt x.1 x.2) = false then false
  else match ot with
    | none => decide (ps.length = 0)
    | some t => partsShow h t b k (keysTold h k ns) ps && (decide ((ns.length : Int) = m) || !ps.any Part.isFar)
theorem things_look (h : House) (n : Int) (hm : n ∈ h.things.map (·.name)) : (thingsD h).lookup n = some (encThing (thingAt h n)) := by
  unfold thingsD thingAt
  revert hm
  generalize h.things = ts
  induction ts with
  | nil => intro hm; cases hm
  | cons t ts ih =>
    intro hm
    rw [List.map_cons, List.lookup_cons, List.find?_cons]
    by_cases e : n = t.name
    · subst e; simp
    · have e2 : (n == t.name) = false := by simp [e]
      have e3 : decide (t.name = n) = false := by simp; exact fun q => e q.symm
      rw [e2]
      simp only [e3]
      refine ih ?_
      rcases List.mem_cons.mp hm with q | q
      · exact absurd q e
      · exact q
theorem worths_has (h : House) (n : Int) : ((worthsD h).lookup n).isSome = decide (n ∈ h.things.map (·.name)) := by
  by_cases hm : n ∈ h.things.map (·.name)
  · rw [worths_look h n hm]; simp [hm]
  · have e : (worthsD h).lookup n = none := by
      unfold worthsD
      revert hm
      generalize h.things = ts
      induction ts with
      | nil => intro _; rfl
      | cons t ts ih =>
        intro hm
        have e2 : (n == t.name) = false := by simp; intro q; exact hm (by rw [q]; exact List.mem_cons_self ..)
        rw [List.map_cons, List.lookup_cons, e2]
        exact ih fun q => hm (List.mem_cons_of_mem _ q)
    rw [e]; simp [hm]
theorem last_at : ∀ (xs : List PyData) (d : PyData), xs ≠ [] → atI xs (-1) = some (xs.getLastD d) := by
  intro xs d h
  have hl : 0 < xs.length := List.length_pos_iff.mpr h
  have e : ixN xs.length (-1) = some (xs.length - 1) := by
    unfold ixN
    simp
    try omega
  unfold atI
  rw [e]
  show xs[xs.length - 1]? = _
  rw [← List.getLast?_eq_getElem?, List.getLast?_eq_some_getLast h, List.getLastD_eq_getLast?, List.getLast?_eq_some_getLast h]
  rfl
theorem lastD_map {α : Type} (f : α → PyData) (d : α) : ∀ xs : List α, (xs.map f).getLastD (f d) = f (xs.getLastD d) := by
  intro xs
  rw [List.getLastD_eq_getLast?, List.getLastD_eq_getLast?, List.getLast?_map]
  cases xs.getLast? <;> rfl
theorem pair_lt {X : Cx} (hu : X.A.units + 64 < cLine) (a b : Int × Int) : OpR X (compareOp .Lt) (rD X.K (ed a) (ed b) (.d (.bool (pairLt a b)))) := by
  have h := od_ltD (X := X) (x := en a) (y := en b) rfl nofun (by show X.A.units + min 1 1 < cLine; omega)
  have e : dataLt (en a) (en b) = pairLt a b := PySem.W.dataLt_ii a.1 a.2 b.1 b.2
  rw [e] at h
  exact h
theorem pair_gt {X : Cx} (hu : X.A.units + 64 < cLine) (a b : Int × Int) : OpR X (compareOp .Gt) (rD X.K (ed a) (ed b) (.d (.bool (pairLt b a)))) := by
  have h := od_gtD (X := X) (x := en a) (y := en b) rfl nofun (by show X.A.units + min 1 1 < cLine; omega)
  have e : dataLt (en b) (en a) = pairLt b a := PySem.W.dataLt_ii b.1 b.2 a.1 a.2
  rw [e] at h
  exact h
theorem cut1 {α : Type} (xs : List α) : cutD xs (some 1) none = xs.drop 1 := by
  have h1 : HT.sIx xs.length 0 (some 1) = min 1 xs.length := by
    unfold HT.sIx
    simp
  have h2 : HT.sIx xs.length xs.length none = xs.length := rfl
  unfold cutD
  rw [h1, h2]
  cases xs with
  | nil => rfl
  | cons x xs =>
    have : min 1 (x :: xs).length = 1 := by rw [List.length_cons]; omega
    rw [this]
    simp
abbrev Ris_name_of := Rf (A := House × Int) (fun a => True) (fun a => [.dc (worthsD a.1), .d (.int a.2)]) (fun a => .d (.bool (decide (a.2 ∈ a.1.things.map (·.name)))))
abbrev N56 : List Str := ["worths", "thing"]
theorem sc56 : FnScope N56 ["worths", "thing"] (defScope (top 56)) := ⟨rfl, rfl, rfl, by decide +kernel, rfl, by decide +kernel, by decide +kernel⟩
theorem ok_is_name_of (F : Fd C.K "is_name_of" "is_name_of" (top 56) f fd) (m : C.mg "is_name_of" = some (.ref f)) (B : Blt C) : Has C "is_name_of" 1 Ris_name_of := by
  refine has_fn (fun a => [some (.dc (worthsD a.1)), some (.d (.int a.2))]) F m sc56 (by decide) (fun _ _ _ _ _ _ us hl => match us, hl with | [_, _], _ => rfl) (fun _ => rfl) (fun _ => rfl) fun X a at_ hr hp ⟨cdv, A, outer, s, H, E, hX⟩ => ?_
  have hu : X.A.units + 64 < cLine := hr.units
  subst hX
  obtain ⟨h, n⟩ := a
  refine rt (pd_eq (pd_and (isI at_ B (nm 1)) (fun _ => pd_and (pd_not (isB at_ B (nm 1))) (fun _ => pd_one (pd_din (by omega) (nm 1) (nm 0) rfl)))) ?_)
  rw [worths_has]
  rfl
abbrev Rkeys_told := Rf (A := House × Kind × List Int) (fun a => HouseOk a.1 ∧ (∀ n ∈ a.2.2, n ∈ a.1.things.map (·.name)) ∧ (∀ n ∈ a.2.2, (thingAt a.1 n).place.length ≤ 100) ∧ a.2.2.length ≤ 1000) (fun a => [.d (encHouse a.1), .d (encKind a.2.1), ed a.2.2]) (fun a => .d (.list ((keysTold a.1 a.2.1 a.2.2).map Enc.enc)))
abbrev N57 : List Str := ["house", "kind", "names", "things", "keys", "name", "far", "thing", "number"]
theorem sc57 : FnScope N57 ["house", "kind", "names"] (defScope (top 57)) := ⟨rfl, rfl, rfl, by decide +kernel, rfl, by decide +kernel, by decide +kernel⟩
theorem ok_keys_told (F : Fd C.K "keys_told" "keys_told" (top 57) f fd) (m : C.mg "keys_told" = some (.ref f)) (B : Blt C) (h1 : Has C "steps_to" 1 Rsteps_to) : Has C "keys_told" 2 Rkeys_told := by
  refine has_fn (fun a => [some (.d (encHouse a.1)), some (.d (encKind a.2.1)), some (ed a.2.2), none, none, none, none, none, none]) F m sc57 (by decide) (fun _ _ _ _ _ _ us hl => match us, hl with | [_, _, _], _ => rfl) (fun _ => rfl) (fun _ => rfl) fun X a at_ hr hp ⟨cdv, A, outer, s, H, E, hX⟩ => ?_
  have hu : X.A.units + 64 < cLine := hr.units
  subst hX
  obtain ⟨h, k, ns⟩ := a
  obtain ⟨hp1, hp2, hp3, hq⟩ := hp
  simp only at hp1 hp2 hp3 hq
  have hn : ((thingsD h).map (·.1)).Nodup := by
    have e : (thingsD h).map (·.1) = h.things.map (·.name) := by unfold thingsD; rw [List.map_map]; rfl
    rw [e]
    exact hp1.things.nd
  refine seq (st 3 (ct at_ B.dict (cd_dict (kvs := thingsD h) rfl hn) (a1 (pd_eq (pd_lc rfl sc57.nd h.things encThing (fun t => .tuple [.int t.name, encThing t]) (own := [("thing", 7)]) (pid_tup (ix 1 (nm 0))) (blkOk_by (N := N57) (sc := defScope (top 57)) (by decide +kernel)) (fun t _ => ⟨_, _, by decide, fun s H C cl fp => gn 7 sc57.nd, fun s H C' c' fp => t2 (ix 0 (nm 7)) (nm 7)⟩) (Nat.le_trans hp1.many (by decide)) (by intro _; rfl)) ?_))) sc57.nd) ?_
  · unfold pairsD thingsD
    rw [List.map_map]
    rfl
  refine newL 4 sc57.nd (own_seq (forO (fun L => pid_tup (nm 2)) (loopO_one ns Enc.enc (fun n => en (far0 k (thingAt h n), n)) (by omega) fun n hn ds hd => ?_)) (own_data (rt (pd_eq (nm 4) ?_))))
  · have hm := hp2 n hn
    have hl := things_look h n hm
    have hpl : (thingAt h n).place.length ≤ 100 := hp3 n hn
    refine ⟨[some (.d (encHouse h)), some (.d (encKind k)), some (ed ns), some (.dc (thingsD h)), none, some (.d (.int n)), none, none, none], [some (.d (encHouse h)), some (.d (encKind k)), some (ed ns), some (.dc (thingsD h)), none, some (.d (.int n)), some (.d (.int (far0 k (thingAt h n)))), none, none], _, fun L => gn 5 sc57.nd, rfl, own_seq (ρ' := [some (.d (encHouse h)), some (.d (encKind k)), some (ed ns), some (.dc (thingsD h)), none, some (.d (.int n)), some (.d (.int (0 - (thingAt h n).worth))), none, none]) (own_pure (fun L => st 6 (bop pd_int (ix 2 (pd_dget (by omega) (nm 3) (nm 5) hl (by exact fun _ _ => rfl))) od_sub) sc57.nd) rfl) (own_seq (ρ' := [some (.d (encHouse h)), some (.d (encKind k)), some (ed ns), some (.dc (thingsD h)), none, some (.d (.int n)), some (.d (.int (far0 k (thingAt h n)))), none, none]) (own_pure (fun L => ?_) rfl) (own_one (app (fun L => t2 (nm 6) (nm 5)) hd))), .keep (.keep (.keep (.keep (.keep (.drop (.drop (.drop (.drop .nil))))))))⟩
    cases k with
    | best => exact ifF (cmpT (ix 0 (nm 1)) pd_str (od_eqS hu)) pds_nxt
    | near p =>
      refine ifT (cmpT (ix 0 (nm 1)) pd_str (od_eqS hu)) (pds_one (st 6 (cl h1 (true, (thingAt h n).place.map fun x => (x, x), p) at_ hr (a2 (pd_eq (pd_lc rfl sc57.nd (thingAt h n).place Enc.enc (fun x => .tuple [.int x, .int x]) (own := [("number", 8)]) (pid_tup (ix 1 (pd_dget (by omega) (nm 3) (nm 5) hl (by exact fun _ _ => rfl)))) (blkOk_by (N := N57) (sc := defScope (top 57)) (by decide +kernel)) (fun t _ => ⟨_, _, by decide, fun s H C cl fp => gn 8 sc57.nd, fun s H C' c' fp => t2 (nm 8) (nm 8)⟩) (Nat.le_trans hpl (by decide)) (by intro _; rfl)) ?_) (ix 1 (nm 1))) ?_) sc57.nd))
      · show Sl.d (.list _) = .d (.list (List.map Enc.enc _))
        rw [List.map_map]
        rfl
      · show (List.map _ _).length ≤ 100
        rw [List.length_map]; exact hpl
  · show Sl.d (.list _) = .d (.list (List.map Enc.enc _))
    unfold keysTold
    rw [List.map_map]
    rfl
abbrev Ris_far := Rf (A := House × Tr × Part × Kind × List (Int × Int)) (fun a => NamesOk a.1 a.2.1) (fun a => [.dc (worthsD a.1), .d (encTr a.2.1), .d (encPart a.2.2.1), .d (encKind a.2.2.2.1), .d (.list (a.2.2.2.2.map Enc.enc))]) (fun a => .d (.bool (isFarD a.1 a.2.2.2.1 a.2.2.2.2 a.2.1 a.2.2.1)))
abbrev N58 : List Str := ["worths", "tree", "part", "kind", "keys"]
theorem sc58 : FnScope N58 ["worths", "tree", "part", "kind", "keys"] (defScope (top 58)) := ⟨rfl, rfl, rfl, by decide +kernel, rfl, by decide +kernel, by decide +kernel⟩
theorem ok_is_far (F : Fd C.K "is_far" "is_far" (top 58) f fd) (m : C.mg "is_far" = some (.ref f)) (B : Blt C) (h1 : Has C "key_by_drawing" 2 Rkey_by) : Has C "is_far" 3 Ris_far := by
  refine has_fn (fun a => [some (.dc (worthsD a.1)), some (.d (encTr a.2.1)), some (.d (encPart a.2.2.1)), some (.d (encKind a.2.2.2.1)), some (.d (.list (a.2.2.2.2.map Enc.enc)))]) F m sc58 (by decide) (fun _ _ _ _ _ _ us hl => match us, hl with | [_, _, _, _, _], _ => rfl) (fun _ => rfl) (fun _ => rfl) fun X a at_ hr hp ⟨cdv, A, outer, s, H, E, hX⟩ => ?_
  have hu : X.A.units + 64 < cLine := hr.units
  subst hX
  obtain ⟨h, t, q, k, keys⟩ := a
  cases q with
  | out path i side => exact ifR (k := true) (ptd_w (pwd_or (k := true) (y := true) (ptEq (cmpT (cb at_ B.len (cd_len (ds := [encPath path, .str "out", .int i, .int (sideI side)]) rfl) (a1 (nm 2))) pd_int (intNe hu)) rfl) (fun h => nomatch h))) (fun _ => rt pd_bl) (fun h => nomatch h)
  | inn path => exact ifR (k := true) (ptd_w (pwd_or (k := false) (ptEq (cmpT (cb at_ B.len (cd_len (ds := [encPath path, .str "in"]) rfl) (a1 (nm 2))) pd_int (intNe hu)) rfl) (fun _ => pwd_or1 (cmpT (ix 1 (nm 2)) pd_str (strNe (k := true) hu))))) (fun _ => rt pd_bl) (fun h => nomatch h)
  | far path =>
    refine ifR (k := false) (ptd_w (pwd_or (k := false) (ptEq (cmpT (cb at_ B.len (cd_len (ds := [encPath path, .str "far"]) rfl) (a1 (nm 2))) pd_int (intNe hu)) rfl) (fun _ => pwd_or1 (cmpT (ix 1 (nm 2)) pd_str (strNe (k := false) hu))))) (fun h => nomatch h) (fun _ => rt ?_)
    refine pd_or (k := decide (keys = [])) (cmp (nm 4) l0 (od_eqL (b := ([] : List (Int × Int))) hu)) (fun e => pd_one (cmp (cl h1 (h, t, k) at_ hr (a3 (nm 0) (nm 1) (nm 3)) hp) (pd_ix (ds := keys.map Enc.enc) rfl ?_ (nm 4) (pd_un ud_neg pd_int) (fun _ _ => rfl)) (pair_gt hu (keyBy h k t) (keys.getLastD (0, 0)))))
    have e' : keys ≠ [] := of_decide_eq_false e
    rw [last_at _ (en ((0 : Int), (0 : Int))) (by simp [e']), lastD_map]
end
end Bx
namespace Bx
open PySem L2 PySem.SeqAt
open PySem.W (alike alikeAll dataLt dataLe EachIs AllAlike Sortable)
section
variable {C : Ctx} {f : Addr} {fd : FuncData}

section
variable {X : Cx} {i : Nat} {tg iter : Expr} {body rest : List Stmt} {st : Stmt} {sts : List Stmt} {ρ : Ev} {ds : List PyData} {w : Sl} {pos : Pos}
theorem own_end (h : PS X st (tOS X.K i ρ ds (.ret w))) : PSs X (st :: sts) (tOS X.K i ρ ds (.ret w)) := pssI (pss_cons h pss_never) fun D σ H ⟨L, hO, k⟩ => ⟨L, hO, k⟩
/-- a loop over which a list grows, and what comes behind it -/
inductive LoopQ (X : Cx) (i : Nat) (tg : Expr) (body rest : List Stmt) : List PyData → Ev → List PyData → Sl → Prop where
  | done {ρ : Ev} {ds : List PyData} {w : Sl} : PSs X rest (tOS X.K i ρ ds (.ret w)) → LoopQ X i tg body rest [] ρ ds w
  | next {d : PyData} {xs ds ds2 : List PyData} {ρ ρ1 ρ2 : Ev} {vs : List Nat} {w : Sl} : (∀ L, PG X tg (tG X.K (wi ρ i L) d (wi ρ1 i L) vs)) → ρ1.length = ρ.length → PSs X body (tOS X.K i ρ1 ds (.nxt ρ2 ds2)) → LoopQ X i tg body rest xs ρ2 ds2 w → LoopQ X i tg body rest (d :: xs) ρ ds w
  | ret {d : PyData} {xs ds : List PyData} {ρ ρ1 : Ev} {vs : List Nat} {w : Sl} : (∀ L, PG X tg (tG X.K (wi ρ i L) d (wi ρ1 i L) vs)) → ρ1.length = ρ.length → PSs X body (tOS X.K i ρ1 ds (.ret w)) → LoopQ X i tg body rest (d :: xs) ρ ds w
theorem LoopQ.to {xs : List PyData} (h : LoopQ X i tg body rest xs ρ ds w) : LoopO X i tg body xs ρ ds (.ret w) ∨ ∃ ρ' ds', LoopO X i tg body xs ρ ds (.nxt ρ' ds') ∧ PSs X rest (tOS X.K i ρ' ds' (.ret w)) := by
  induction h with
  | done h => exact .inr ⟨_, _, .done, h⟩
  | next g l b _ ih =>
    rcases ih with ih | ⟨ρ', ds', i1, i2⟩
    · exact .inl (.next g l b (Less.refl _) ih)
    · exact .inr ⟨ρ', ds', .next g l b (Less.refl _) i1, i2⟩
  | ret g l b => exact .inl (.ret g l b)
theorem forQ {xs : List PyData} (hi : ∀ L, PI X tg iter (tI X.K (wi ρ i L) xs)) (hl : LoopQ X i tg body rest xs ρ ds w) (hp : PassesOwn (model X.prog X.w) X.A X.env X.xe := by exact PassesOwn.never) (hc : X.calm = true := by rfl) (hs : ∀ x, foldedSetIterable iter X.env x = pure x := by intro _; rfl) :
    PSs X (.For tg iter body [] pos :: rest) (tOS X.K i ρ ds (.ret w)) := by
  rcases hl.to with h | ⟨ρ', ds', h, r⟩
  · exact own_end (own_for hp hc hi h hs)
  · exact own_seq (own_for hp hc hi h hs) r
end
structure ShowOk (h : House) (d : Nat) (b : Box) (t : Tr) (ps : List Part) : Prop where
  house : HouseOk h
  look : LookOk d b t ps
  names : t.all (NamesOk h)
theorem ShowOk.sub {h : House} {d : Nat} {b : Box} {t : Tr} {ps : List Part} (H : ShowOk h d b t ps) {u : Tr} (hu : u ∈ (treesOf t ps).filterMap id) : NamesOk h u := by
  obtain ⟨o, ho, e⟩ := List.mem_filterMap.mp hu
  obtain ⟨q, hq, rfl⟩ := List.mem_map.mp ho
  exact Tr.all_self (all_at H.names e)
theorem a5 {X : Cx} {ρ : Ev} {e e2 e3 e4 e5 : Expr} {w u z y v : Sl} (h1 : PE X e (tD X.K ρ w)) (h2 : PE X e2 (tD X.K ρ u)) (h3 : PE X e3 (tD X.K ρ z)) (h4 : PE X e4 (tD X.K ρ y)) (h5 : PE X e5 (tD X.K ρ v)) (hs : starEach [e, e2, e3, e4, e5] X.env = (false, eval e X.env) :: starEach [e2, e3, e4, e5] X.env := by rfl) (hs2 : starEach [e2, e3, e4, e5] X.env = (false, eval e2 X.env) :: starEach [e3, e4, e5] X.env := by rfl)
    (hs3 : starEach [e3, e4, e5] X.env = (false, eval e3 X.env) :: starEach [e4, e5] X.env := by rfl) (hs4 : starEach [e4, e5] X.env = (false, eval e4 X.env) :: starEach [e5] X.env := by rfl) (hs5 : starEach [e5] X.env = (false, eval e5 X.env) :: starEach [] X.env := by rfl) : PA X [e, e2, e3, e4, e5] (tDs X.K ρ [w, u, z, y, v]) := pds_cons h1 (a4 h2 h3 h4 h5 hs2 hs3 hs4 hs5) hs
theorem a6 {X : Cx} {ρ : Ev} {e e2 e3 e4 e5 e6 : Expr} {w u z y v x : Sl} (h1 : PE X e (tD X.K ρ w)) (h2 : PE X e2 (tD X.K ρ u)) (h3 : PE X e3 (tD X.K ρ z)) (h4 : PE X e4 (tD X.K ρ y)) (h5 : PE X e5 (tD X.K ρ v)) (h6 : PE X e6 (tD X.K ρ x)) (hs : starEach [e, e2, e3, e4, e5, e6] X.env = (false, eval e X.env) :: starEach [e2, e3, e4, e5, e6] X.env := by rfl) (hs2 : starEach [e2, e3, e4, e5, e6] X.env = (false, eval e2 X.env) :: starEach [e3, e4, e5, e6] X.env := by rfl)
    (hs3 : starEach [e3, e4, e5, e6] X.env = (false, eval e3 X.env) :: starEach [e4, e5, e6] X.env := by rfl) (hs4 : starEach [e4, e5, e6] X.env = (false, eval e4 X.env) :: starEach [e5, e6] X.env := by rfl) (hs5 : starEach [e5, e6] X.env = (false, eval e5 X.env) :: starEach [e6] X.env := by rfl) (hs6 : starEach [e6] X.env = (false, eval e6 X.env) :: starEach [] X.env := by rfl) : PA X [e, e2, e3, e4, e5, e6] (tDs X.K ρ [w, u, z, y, v, x]) := pds_cons h1 (a5 h2 h3 h4 h5 h6 hs2 hs3 hs4 hs5 hs6) hs
abbrev Rparts_show := Rf (A := House × Tr × Box × Kind × List (Int × Int) × List Part) (fun a => (∃ d, ShowOk a.1 d a.2.2.1 a.2.1 a.2.2.2.2.2) ∧ a.2.2.2.2.1.length ≤ 1000) (fun a => [.d (encHouse a.1), .d (encTr a.2.1), .d (encBox a.2.2.1), .d (encKind a.2.2.2.1), .d (.list (a.2.2.2.2.1.map Enc.enc)), .d (.tuple (a.2.2.2.2.2.map encPart))]) (fun a => .d (.bool (partsShow a.1 a.2.1 a.2.2.1 a.2.2.2.1 a.2.2.2.2.1 a.2.2.2.2.2)))
abbrev N59 : List Str := ["house", "tree", "box", "kind", "keys", "parts", "worths", "plain", "names", "trees", "taken", "one", "part", "far", "name"]
theorem sc59 : FnScope N59 ["house", "tree", "box", "kind", "keys", "parts"] (defScope (top 59)) := ⟨rfl, rfl, rfl, by decide +kernel, rfl, by decide +kernel, by decide +kernel⟩
theorem ok_parts_show (F : Fd C.K "parts_show" "parts_show" (top 59) f fd) (m : C.mg "parts_show" = some (.ref f)) (B : Blt C) (h1 : Has C "plain_box" 3 RplainBox) (h2 : Has C "there" 3 Rthere) (h3 : Has C "is_in" 5 Ris_in) (h4 : Has C "is_out" 2 Ris_out) (h5 : Has C "has_each_once" 1 Rhas_each_once) (h6 : Has C "is_far" 3 Ris_far) (h7 : Has C "worths_of" 1 Rworths_of) : Has C "parts_show" 6 Rparts_show := by
  refine has_fn (fun a => [some (.d (encHouse a.1)), some (.d (encTr a.2.1)), some (.d (encBox a.2.2.1)), some (.d (encKind a.2.2.2.1)), some (.d (.list (a.2.2.2.2.1.map Enc.enc))), some (.d (.tuple (a.2.2.2.2.2.map encPart))), none, none, none, none, none, none, none, none, none]) F m sc59 (by decide) (fun _ _ _ _ _ _ us hl => match us, hl with | [_, _, _, _, _, _], _ => rfl) (fun _ => rfl) (fun _ => rfl) fun X a at_ hr hp ⟨cdv, A, outer, s, H, E, hX⟩ => ?_
  have hu : X.A.units + 64 < cLine := hr.units
  subst hX
  obtain ⟨hs, t, b, k, keys, ps⟩ := a
  obtain ⟨⟨d, W⟩, hk⟩ := hp
  simp only at W hk
  have L := W.look
  have hb : b.length ≤ 100 := by rw [L.box]; exact L.look.few
  have hpl : (plainBox b).length = d := by rw [plain_len]; exact L.box
  refine seq (par 6 7 (a2 (cl h7 hs at_ hr (a1 (nm 0)) W.house) (cl h1 b at_ hr (a1 (nm 2)) hb)) sc59.nd) ?_
  refine seq (pds_lc (i := 8) rfl sc59.nd rfl rfl (sw_true rfl rfl rfl (by decide +kernel)) keys Enc.enc (fun q => .int q.2) (own := [("far", 13), ("name", 14)]) (pid_list (nm 4)) (blkOk_by (N := N59) (sc := defScope (top 59)) (by decide +kernel)) (fun q hq => ⟨_, _, by decide, fun s H C cl fp => gd_tup (ds := [.int q.1, .int q.2]) rfl (gds_cons (gn 13 sc59.nd) (gds_cons (gn 14 sc59.nd) gds_nil)) rfl, fun s H C' c' fp => nm 14⟩) (Nat.le_trans hk (by decide)) (by intro _; rfl)) ?_
  refine seq (pds_lc (i := 9) rfl sc59.nd rfl rfl (sw_true rfl rfl rfl (by decide +kernel)) ps encPart (fun q => encOT (treeAt (some t) q.path)) (own := [("part", 12)]) (pid_tup (nm 5)) (blkOk_by (N := N59) (sc := defScope (top 59)) (by decide +kernel)) (fun q hq => ⟨_, _, by decide, fun s H C cl fp => gn 12 sc59.nd, fun s H C' c' fp => cl h2 (t, q) at_.blk hr (a2 (nm 1) (nm 12)) (L.short q hq)⟩) (Nat.le_trans L.many (by decide)) (by intro _; rfl)) ?_
  have e5 : (ps.map fun q => encOT (treeAt (some t) q.path)) = (treesOf t ps).map encOT := by unfold treesOf; rw [List.map_map]; rfl
  rw [e5]
  refine ifR (k := decide (none ∈ treesOf t ps)) (cmpT pd_non (nm 9) (od_noneIn hu _)) (fun h => rt (pd_eq pd_bl ?_)) (fun h => ?_)
  · show _ = Sl.d (.bool (partsShow hs t b k keys ps))
    unfold partsShow
    rw [if_pos (of_decide_eq_true h)]
  have hn : none ∉ treesOf t ps := of_decide_eq_false h
  show PSs _ _ (tDS _ _ (.ret (.d (.bool (partsShow hs t b k keys ps)))))
  unfold partsShow
  rw [if_neg hn, enc_some hn]
  have hsub : ∀ u ∈ (treesOf t ps).filterMap id, u.bnd.length = d ∧ u.names.length ≤ 100 := fun u hu => L.sub hu
  have hsub2 : ∀ u ∈ (treesOf t ps).filterMap id, NamesOk hs u := fun u hu => W.sub hu
  have hnames := L.names
  have hlen : (((treesOf t ps).filterMap id).zip ps).length ≤ 200 := by rw [List.length_zip]; have := L.many; omega
  revert hsub hsub2 hnames hlen
  generalize (treesOf t ps).filterMap id = us
  intro hsub hsub2 hnames hlen
  have en8 : (keys.map fun q => PyData.int q.2) = (keys.map (·.2)).map .int := by rw [List.map_map]; rfl
  rw [en8]
  refine newL 10 sc59.nd (forQ (xs := (us.zip ps).map fun x => .tuple [encTr x.1, encPart x.2]) (fun L => by rw [← zipD_map]; exact pid_zipM rfl (at_.no B.zip) (nm 9) (nm 5)) ?_)
  have hz : ∀ x ∈ us.zip ps, x.1 ∈ us := fun x hx => (List.of_mem_zip (a := x.1) (b := x.2) hx).1
  revert hz hlen
  generalize us.zip ps = zs
  suffices hh : ∀ (x y : Option Sl) (acc : List Int), (∀ x ∈ zs, x.1 ∈ us) → acc.length + zs.length ≤ 200 → LoopQ _ 10 _ _ _ (zs.map fun x => .tuple [encTr x.1, encPart x.2]) [some (.d (encHouse hs)), some (.d (encTr t)), some (.d (encBox b)), some (.d (encKind k)), some (.d (.list (keys.map Enc.enc))), some (.d (.tuple (ps.map encPart))), some (.dc (worthsD hs)), some (ed (plainBox b)), some (.d (.list ((keys.map (·.2)).map .int))), some (.d (.list (us.map encTr))), none, x, y, none, none] (acc.map .int) (.d (.bool ((zs.all fun x => takenHere (plainBox b) x || isOutD (plainBox b) x.1 x.2 || isFarD hs k keys x.1 x.2) && (decide (sortI (acc ++ (zs.filter (takenHere (plainBox b))).map fun x => x.1.names.headD 0) = sortI (keys.map (·.2))) && eachOnce t us)))) from fun hl hz => hh none none [] hz (by simpa using hl)
  induction zs with
  | nil =>
    intro x y acc _ _
    refine .done (own_data (rt (pd_eq (pd_and (cmp (cb at_ B.sorted (cd_sortI hu acc) (a1 (nm 10))) (cb at_ B.sorted (cd_sortI hu (keys.map (·.2))) (a1 (nm 8))) (od_eqL hu)) (fun _ => pd_one (cl h5 (t, us) at_ hr (a2 (nm 1) (nm 9)) hnames))) ?_)))
    simp
  | cons z zs ih =>
    intro x y acc hz hal
    have hzu := hz z (List.mem_cons_self ..)
    have hzl := (hsub z.1 hzu).1
    have hno := hsub2 z.1 hzu
    have hl : z.1.bnd.length ≤ 100 := by rw [hzl]; exact L.look.few
    have hl2 : z.1.bnd.length = (plainBox b).length := by rw [hzl, hpl]
    have hal' : acc.length + (zs.length + 1) ≤ 200 := hal
    have hrest : ∀ x ∈ zs, x.1 ∈ us := fun w hw => hz w (List.mem_cons_of_mem _ hw)
    rw [List.all_cons, List.filter_cons]
    have ek : (isInD (plainBox b) z.1 z.2 && decide (((z.1.names.map (Enc.enc (α := Int))).length : Int) = 1)) = takenHere (plainBox b) z := by
      unfold takenHere
      rw [List.length_map]
      congr 1
      rw [decide_eq_decide]
      omega
    cases e1 : takenHere (plainBox b) z with
    | true =>
      have e1 := ek.trans e1
      refine .next (ds2 := (acc ++ [z.1.names.headD 0]).map .int) (ρ2 := [some (.d (encHouse hs)), some (.d (encTr t)), some (.d (encBox b)), some (.d (encKind k)), some (.d (.list (keys.map Enc.enc))), some (.d (.tuple (ps.map encPart))), some (.dc (worthsD hs)), some (ed (plainBox b)), some (.d (.list ((keys.map (·.2)).map .int))), some (.d (.list (us.map encTr))), none, some (.d (encTr z.1)), some (.d (encPart z.2)), none, none]) (ρ1 := [some (.d (encHouse hs)), some (.d (encTr t)), some (.d (encBox b)), some (.d (encKind k)), some (.d (.list (keys.map Enc.enc))), some (.d (.tuple (ps.map encPart))), some (.dc (worthsD hs)), some (ed (plainBox b)), some (.d (.list ((keys.map (·.2)).map .int))), some (.d (.list (us.map encTr))), none, some (.d (encTr z.1)), some (.d (encPart z.2)), none, none]) (fun L => gd_tup rfl (gds_cons (gn 11 sc59.nd) (gds_cons (gn 12 sc59.nd) gds_nil)) rfl) rfl (own_one (own_if (k := true) (fun L => (ptEq (ptd_w (pwd_and (pt_b (cl h3 (plainBox b, z.1, z.2) at_ hr (a3 (nm 7) (nm 11) (nm 12)) hl)) (fun _ => pwd_and1 (cmpT (cb at_ B.len (cd_len (ds := z.1.names.map Enc.enc) rfl) (a1 (ixT0 (nm 11)))) pd_int (od_eqI hu))))) e1)) (fun _ => own_one ?_) (fun h => nomatch h))) ?_
      · rw [List.map_append]
        exact app (fun L => ix 0 (ixT0 (nm 11)) rfl (head_at hno.ne)) (by rw [List.length_map]; omega)
      · have q := ih (some (.d (encTr z.1))) (some (.d (encPart z.2))) (acc ++ [z.1.names.headD 0]) hrest (by simp; omega)
        rw [if_pos rfl, List.map_cons, Bool.true_or, Bool.true_or, Bool.true_and]
        rw [List.append_assoc] at q
        exact q
    | false =>
      have e1 := ek.trans e1
      rw [Bool.false_or, if_neg (by simp)]
      cases e3 : isOutD (plainBox b) z.1 z.2 || isFarD hs k keys z.1 z.2 with
      | false =>
        have e2 : (!isOutD (plainBox b) z.1 z.2 && !isFarD hs k keys z.1 z.2) = true := by rw [← Bool.not_or, e3]; rfl
        exact .ret (ρ1 := [some (.d (encHouse hs)), some (.d (encTr t)), some (.d (encBox b)), some (.d (encKind k)), some (.d (.list (keys.map Enc.enc))), some (.d (.tuple (ps.map encPart))), some (.dc (worthsD hs)), some (ed (plainBox b)), some (.d (.list ((keys.map (·.2)).map .int))), some (.d (.list (us.map encTr))), none, some (.d (encTr z.1)), some (.d (encPart z.2)), none, none]) (fun L => gd_tup rfl (gds_cons (gn 11 sc59.nd) (gds_cons (gn 12 sc59.nd) gds_nil)) rfl) rfl (own_one (own_if (k := false) (fun L => (ptEq (ptd_w (pwd_and (pt_b (cl h3 (plainBox b, z.1, z.2) at_ hr (a3 (nm 7) (nm 11) (nm 12)) hl)) (fun _ => pwd_and1 (cmpT (cb at_ B.len (cd_len (ds := z.1.names.map Enc.enc) rfl) (a1 (ixT0 (nm 11)))) pd_int (od_eqI hu))))) e1)) (fun h => nomatch h) (fun _ => own_one (own_if (k := true) (fun L => (ptEq (ptd_w (pwd_and (ptd_not (pt_b (cl h4 (plainBox b, z.1, z.2) at_ hr (a3 (nm 7) (nm 11) (nm 12)) hl2))) (fun _ => pwd_and1 (ptd_not (pt_b (cl h6 (hs, z.1, z.2, k, keys) at_ hr (a5 (nm 6) (nm 11) (nm 12) (nm 3) (nm 4)) hno)))))) e2)) (fun _ => own_ret fun L => rt pd_bl) (fun h => nomatch h)))))
      | true =>
        have e2 : (!isOutD (plainBox b) z.1 z.2 && !isFarD hs k keys z.1 z.2) = false := by rw [← Bool.not_or, e3]; rfl
        refine .next (ds2 := acc.map .int) (ρ2 := [some (.d (encHouse hs)), some (.d (encTr t)), some (.d (encBox b)), some (.d (encKind k)), some (.d (.list (keys.map Enc.enc))), some (.d (.tuple (ps.map encPart))), some (.dc (worthsD hs)), some (ed (plainBox b)), some (.d (.list ((keys.map (·.2)).map .int))), some (.d (.list (us.map encTr))), none, some (.d (encTr z.1)), some (.d (encPart z.2)), none, none]) (ρ1 := [some (.d (encHouse hs)), some (.d (encTr t)), some (.d (encBox b)), some (.d (encKind k)), some (.d (.list (keys.map Enc.enc))), some (.d (.tuple (ps.map encPart))), some (.dc (worthsD hs)), some (ed (plainBox b)), some (.d (.list ((keys.map (·.2)).map .int))), some (.d (.list (us.map encTr))), none, some (.d (encTr z.1)), some (.d (encPart z.2)), none, none]) (fun L => gd_tup rfl (gds_cons (gn 11 sc59.nd) (gds_cons (gn 12 sc59.nd) gds_nil)) rfl) rfl (own_one (own_if (k := false) (fun L => (ptEq (ptd_w (pwd_and (pt_b (cl h3 (plainBox b, z.1, z.2) at_ hr (a3 (nm 7) (nm 11) (nm 12)) hl)) (fun _ => pwd_and1 (cmpT (cb at_ B.len (cd_len (ds := z.1.names.map Enc.enc) rfl) (a1 (ixT0 (nm 11)))) pd_int (od_eqI hu))))) e1)) (fun h => nomatch h) (fun _ => own_one (own_if (k := false) (fun L => (ptEq (ptd_w (pwd_and (ptd_not (pt_b (cl h4 (plainBox b, z.1, z.2) at_ hr (a3 (nm 7) (nm 11) (nm 12)) hl2))) (fun _ => pwd_and1 (ptd_not (pt_b (cl h6 (hs, z.1, z.2, k, keys) at_ hr (a5 (nm 6) (nm 11) (nm 12) (nm 3) (nm 4)) hno)))))) e2)) (fun h => nomatch h) (fun _ => own_nil))))) ?_
        rw [Bool.true_and]
        exact ih (some (.d (encTr z.1))) (some (.d (encPart z.2))) acc hrest (by omega)
end
end Bx
namespace Bx
open PySem L2 PySem.SeqAt
open PySem.W (alike alikeAll dataLt dataLe EachIs AllAlike Sortable)
section
variable {C : Ctx} {f : Addr} {fd : FuncData}

theorem thing_mem {h : House} {n : Int} (hm : n ∈ h.things.map (·.name)) : thingAt h n ∈ h.things ∧ (thingAt h n).name = n := by
  unfold thingAt
  revert hm
  generalize h.things = ts
  induction ts with
  | nil => intro hm; cases hm
  | cons t ts ih =>
    intro hm
    rw [List.find?_cons]
    by_cases e : n = t.name
    · subst e
      simp
    · have e3 : decide (t.name = n) = false := by simp; exact fun q => e q.symm
      simp only [e3]
      have q := ih ((List.mem_cons.mp hm).resolve_left e)
      exact ⟨List.mem_cons_of_mem _ q.1, q.2⟩
def Part.word : Part → Str
  | .inn _ => "in"
  | .out _ _ _ => "out"
  | .far _ => "far"
theorem word_far (q : Part) : PyData.eqv (.str q.word) (.str "far") = q.isFar := by
  cases q with
  | inn _ => show PyData.eqv (.str "in") (.str "far") = false; decide +kernel
  | out _ _ _ => show PyData.eqv (.str "out") (.str "far") = false; decide +kernel
  | far _ => show PyData.eqv (.str "far") (.str "far") = true; decide +kernel
theorem words_far : ∀ ps : List Part, ((ps.map fun q => PyData.str q.word).any fun y => PyData.eqv y (.str "far")) = ps.any Part.isFar
  | [] => rfl
  | q :: ps => by rw [List.map_cons, List.any_cons, List.any_cons, word_far, words_far ps]
theorem words_lay : ∀ ps : List Part, PyData.canLayAll0 (ps.map fun q => PyData.str q.word) = true
  | [] => rfl
  | q :: ps => by
    show ((PyData.str q.word).canLay0 && PyData.canLayAll0 (ps.map fun q => PyData.str q.word)) = true
    rw [words_lay ps, Bool.and_true]
    cases q with
    | inn _ => show (PyData.str "in").canLay0 = true; decide +kernel
    | out _ _ _ => show (PyData.str "out").canLay0 = true; decide +kernel
    | far _ => show (PyData.str "far").canLay0 = true; decide +kernel
theorem od_farNotIn {X : Cx} (hu : X.A.units + 64 < cLine) (ps : List Part) : OpR X (compareOp .NotIn) (rD X.K (.d (.str "far")) (.d (.list (ps.map fun q => PyData.str q.word))) (.d (.bool (!ps.any Part.isFar)))) := by
  have h := od_notIn (X := X) (d := .list (ps.map fun q => PyData.str q.word)) (x := .str "far") rfl (by decide +kernel) (words_lay ps) (by
    have : min (PyData.depthAll (ps.map fun q => PyData.str q.word)) (PyData.str "far").depth ≤ 0 := Nat.min_le_right _ _
    omega)
  rw [words_far] at h
  exact h
theorem od_farIn {X : Cx} (hu : X.A.units + 64 < cLine) (ps : List Part) : OpR X (compareOp .In) (rD X.K (.d (.str "far")) (.d (.list (ps.map fun q => PyData.str q.word))) (.d (.bool (ps.any Part.isFar)))) := by
  have h := od_in (X := X) (d := .list (ps.map fun q => PyData.str q.word)) (x := .str "far") rfl (by decide +kernel) (words_lay ps) (by
    have : min (PyData.depthAll (ps.map fun q => PyData.str q.word)) (PyData.str "far").depth ≤ 0 := Nat.min_le_right _ _
    omega)
  rw [words_far] at h
  exact h
section
variable {X : Cx} {ρ : Ev} {a : Expr} {j : Nat} {p pos : Pos}
theorem ixW {q : Part} (h : PE X a (tD X.K ρ (.d (encPart q)))) : PE X (.Subscript a (.Constant (.int 1) j p) pos) (tD X.K ρ (.d (.str q.word))) := by
  cases q with
  | inn path => exact ix 1 h
  | out path i s => exact ix 1 h
  | far path => exact ix 1 h
end
structure ShownOk (h : House) (ot : Option Tr) (b : Box) (ns : List Int) (ps : List Part) : Prop where
  house : HouseOk h
  sub : ∀ n ∈ ns, n ∈ h.things.map (·.name)
  few : ns.length ≤ 1000
  parts : ps.length ≤ 1000
  tree : ∀ t, ot = some t → ∃ d, ShowOk h d b t ps
abbrev Rshows_drawn := Rf (A := House × Option Tr × Box × Kind × Int × List Int × List Part) (fun a => ShownOk a.1 a.2.1 a.2.2.1 a.2.2.2.2.2.1 a.2.2.2.2.2.2) (fun a => [.d (encHouse a.1), .d (encOT a.2.1), .d (encBox a.2.2.1), .d (encKind a.2.2.2.1), .d (.int a.2.2.2.2.1), .d (.tuple [en a.2.2.2.2.2.1, .tuple (a.2.2.2.2.2.2.map encPart)])]) (fun a => .d (.bool (showsDrawn a.1 a.2.1 a.2.2.1 a.2.2.2.1 a.2.2.2.2.1 a.2.2.2.2.2.1 a.2.2.2.2.2.2)))
abbrev N60 : List Str := ["house", "tree", "box", "kind", "k", "thing", "names", "parts", "worths", "keys", "name", "one", "other", "part"]
theorem sc60 : FnScope N60 ["house", "tree", "box", "kind", "k", "thing"] (defScope (top 60)) := ⟨rfl, rfl, rfl, by decide +kernel, rfl, by decide +kernel, by decide +kernel⟩
theorem ok_shows_drawn (F : Fd C.K "shows_drawn" "shows_drawn" (top 60) f fd) (m : C.mg "shows_drawn" = some (.ref f)) (B : Blt C) (h1 : Has C "worths_of" 1 Rworths_of) (h2 : Has C "is_name_of" 1 Ris_name_of) (h3 : Has C "keys_told" 2 Rkeys_told) (h4 : Has C "parts_show" 6 Rparts_show) : Has C "shows_drawn" 7 Rshows_drawn := by
  refine has_fn (fun a => [some (.d (encHouse a.1)), some (.d (encOT a.2.1)), some (.d (encBox a.2.2.1)), some (.d (encKind a.2.2.2.1)), some (.d (.int a.2.2.2.2.1)), some (.d (.tuple [en a.2.2.2.2.2.1, .tuple (a.2.2.2.2.2.2.map encPart)])), none, none, none, none, none, none, none, none]) F m sc60 (by decide) (fun _ _ _ _ _ _ us hl => match us, hl with | [_, _, _, _, _, _], _ => rfl) (fun _ => rfl) (fun _ => rfl) fun X a at_ hr hp ⟨cdv, A, outer, s, H, E, hX⟩ => ?_
  have hu : X.A.units + 64 < cLine := hr.units
  subst hX
  obtain ⟨hs, ot, b, k, m, ns, ps⟩ := a
  obtain ⟨hh, hsub, few, hps, htr⟩ := hp
  simp only at hh hsub few hps htr
  have hall : (ns.all fun n => decide (n ∈ hs.things.map (·.name))) = true := List.all_eq_true.mpr fun n hn => decide_eq_true (hsub n hn)
  have hk : HouseOk hs ∧ (∀ n ∈ ns, n ∈ hs.things.map (·.name)) ∧ (∀ n ∈ ns, (thingAt hs n).place.length ≤ 100) ∧ ns.length ≤ 1000 := ⟨hh, hsub, fun n hn => by rw [hh.len _ (thing_mem (hsub n hn)).1]; exact Nat.le_trans hh.d4 (by decide), few⟩
  refine ifR (k := false) (ptd_w (pwd_or (k := false) (ptEq (ptd_not (pt_b (isT at_ B (nm 5)))) rfl) (fun _ => pwd_or1 (ptEq (cmpT (cb at_ B.len (cd_len (ds := [en ns, .tuple (ps.map encPart)]) rfl) (a1 (nm 5))) pd_int (intNe hu)) rfl)))) (fun h => nomatch h) (fun _ => ?_)
  refine seq (pds_asg (nm 5) (gd_tup rfl (gds_cons (gn 6 sc60.nd) (gds_cons (gn 7 sc60.nd) gds_nil)) rfl)) ?_
  refine ifR (k := false) (ptd_w (pwd_or (k := false) (ptEq (ptd_not (pt_b (isT at_ B (nm 6)))) rfl) (fun _ => pwd_or1 (ptEq (ptd_not (pt_b (isT at_ B (nm 7)))) rfl)))) (fun h => nomatch h) (fun _ => ?_)
  refine seq (st 8 (cl h1 hs at_ hr (a1 (nm 0)) hh) sc60.nd) ?_
  refine ifR (k := decide (m < (ns.length : Int))) (ptEq (ptd_w (pwd_or (ptd_not (pt_b (cb at_ B.all (cd_allF rfl ns fun n => decide (n ∈ hs.things.map (·.name))) (a1 (pd_lc rfl sc60.nd ns Enc.enc (fun n => .bool (decide (n ∈ hs.things.map (·.name)))) (own := [("name", 10)]) (pid_tup (nm 6)) (blkOk_by (N := N60) (sc := defScope (top 60)) (by decide +kernel)) (fun n hn => ⟨_, _, by decide, fun s H C cl fp => gn 10 sc60.nd, fun s H C' c' fp => cl h2 (hs, n) at_.blk hr (a2 (nm 8) (nm 10))⟩) (Nat.le_trans few (by decide)) (by intro _; rfl)))))) (fun _ => pwd_or1 (cmpT (cb at_ B.len (cd_len (ds := ns.map Enc.enc) rfl) (a1 (nm 6))) (nm 4) od_gt)))) ?_) (fun h => rt (pd_eq pd_bl ?_)) (fun h => ?_)
  · rw [hall, List.length_map]; rfl
  · show _ = Sl.d (.bool (showsDrawn hs ot b k m ns ps))
    unfold showsDrawn
    rw [if_pos (of_decide_eq_true h)]
  have hm : ¬ m < (ns.length : Int) := of_decide_eq_false h
  refine seq (st 9 (cl h3 (hs, k, ns) at_ hr (a3 (nm 0) (nm 3) (nm 6)) hk) sc60.nd) ?_
  show PSs _ _ (tDS _ _ (.ret (.d (.bool (showsDrawn hs ot b k m ns ps)))))
  unfold showsDrawn
  rw [if_neg hm]
  have hkl : (keysTold hs k ns).length ≤ 1000 := by unfold keysTold; rw [List.length_map]; exact few
  generalize keysTold hs k ns = keys at hkl ⊢
  have hzl : (keys.zip (keys.drop 1)).length ≤ 100000 := by rw [List.length_zip]; omega
  refine ifR (k := !(keys.zip (keys.drop 1)).all fun x => pairLt x.1 x.2) (ptd_not (pt_b (cb at_ B.all (cd_allF rfl (keys.zip (keys.drop 1)) fun x => pairLt x.1 x.2) (a1 (pd_lc rfl sc60.nd (keys.zip (keys.drop 1)) (fun x => .tuple [en x.1, en x.2]) (fun x => .bool (pairLt x.1 x.2)) (own := [("one", 11), ("other", 12)]) ?_ (blkOk_by (N := N60) (sc := defScope (top 60)) (by decide +kernel)) (fun x _ => ⟨_, _, by decide, fun s H C cl fp => gd_tup (ds := [en x.1, en x.2]) rfl (gds_cons (gn 11 sc60.nd) (gds_cons (gn 12 sc60.nd) gds_nil)) rfl, fun s H C' c' fp => cmp (nm 11) (nm 12) (pair_lt (by exact hu) x.1 x.2)⟩) hzl (by intro _; rfl)))))) (fun h => rt (pd_eq pd_bl ?_)) (fun h => ?_)
  · have e := zipD_map (Enc.enc (α := Int × Int)) (Enc.enc (α := Int × Int)) keys (keys.drop 1)
    have e2 : (keys.map Enc.enc).drop 1 = (keys.drop 1).map Enc.enc := (List.map_drop ..).symm
    show PI _ _ _ (tI _ _ ((keys.zip (keys.drop 1)).map fun x => .tuple [en x.1, en x.2]))
    rw [← e]
    exact pid_zipL rfl (at_.no B.zip) (nm 9) (pd_eq (pd_slL (nm 9) (pdo_some pd_int) pdo_none) (by rw [cut1, e2]))
  · rw [if_pos (by simpa using h)]
  rw [if_neg (by simpa using h)]
  cases ot with
  | none => exact ifR (k := true) (cmpT (nm 1) pd_non od_isN) (fun _ => rt (pd_eq (cmp (cb at_ B.len (cd_len (ds := ps.map encPart) rfl) (a1 (nm 7))) pd_int (od_eqI hu)) (by rw [List.length_map]; show _ = Sl.d (.bool (decide (ps.length = 0))); simp))) (fun h => nomatch h)
  | some t =>
    obtain ⟨d, S⟩ := htr t rfl
    refine ifR (k := false) (ptEq (cmpT (nm 1) pd_non od_isN) (isNone_tr t)) (fun h => nomatch h) (fun _ => ?_)
    refine ifR (ptd_not (pt_b (cl h4 (hs, t, b, k, keys, ps) at_ hr (a6 (nm 0) (nm 1) (nm 2) (nm 3) (nm 9) (nm 7)) ⟨⟨d, S⟩, hkl⟩))) (fun h => rt (pd_eq pd_bl ?_)) (fun h => rt (pd_eq (pd_or (cmp (cb at_ B.len (cd_len (ds := ns.map Enc.enc) rfl) (a1 (nm 6))) (nm 4) (od_eqI hu)) (fun _ => pd_one (cmp pd_str (pd_lc rfl sc60.nd ps encPart (fun q => .str q.word) (own := [("part", 13)]) (pid_tup (nm 7)) (blkOk_by (N := N60) (sc := defScope (top 60)) (by decide +kernel)) (fun q _ => ⟨_, _, by decide, fun s H C cl fp => gn 13 sc60.nd, fun s H C' c' fp => ixW (nm 13)⟩) (Nat.le_trans hps (by decide)) (by intro _; rfl)) (od_farNotIn hu ps)))) ?_))
    · have h' : partsShow hs t b k keys ps = false := by simpa using h
      show _ = Sl.d (.bool (partsShow hs t b k keys ps && (decide ((ns.length : Int) = m) || !ps.any Part.isFar)))
      rw [h']; rfl
    · have h' : partsShow hs t b k keys ps = true := by simpa using h
      show _ = Sl.d (.bool (partsShow hs t b k keys ps && (decide ((ns.length : Int) = m) || !ps.any Part.isFar)))
      rw [h', List.length_map]; rfl

/-! ### 62 -/
theorem od_inR {X : Cx} (hu : X.A.units + 64 < cLine) (a : List Int) (ws : List (List Int)) {k : Bool} (hk : k = true ↔ a ∈ ws) : OpR X (compareOp .In) (rD X.K (ed a) (ed ws) (.d (.bool k))) := by
  have q := od_inE (X := X) (a := a) (xs := ws) (d := en ws) rfl hu
  have e : ∀ (i : Decidable (a ∈ ws)), k = @decide (a ∈ ws) i := fun i => Bool.eq_iff_iff.mpr (hk.trans decide_eq_true_iff.symm)
  exact (e _) ▸ q
def partsDrawn (p : Plain) (ws : List (List Int)) : Tr → List Bool → List Part
  | .lf n b, path => if lieApart b p then [outPart b p path] else if [n] ∈ ws then [.far path] else [.inn path]
  | .nd ns b l h, path => if lieApart b p then [outPart b p path] else if ns ∈ ws then [.far path] else partsDrawn p ws l (path ++ [false]) ++ partsDrawn p ws h (path ++ [true])
theorem partsDrawn_len (p : Plain) (ws : List (List Int)) : ∀ (t : Tr) (path : List Bool), (partsDrawn p ws t path).length ≤ t.leaves
  | .lf n b, path => by
    unfold partsDrawn
    split
    · exact Nat.le_refl _
    · split <;> exact Nat.le_refl _
  | .nd ns b l h, path => by
    have h1 := partsDrawn_len p ws l (path ++ [false])
    have h2 := partsDrawn_len p ws h (path ++ [true])
    have h3 : ∀ t : Tr, 1 ≤ t.leaves := fun t => by induction t with
      | lf _ _ => exact Nat.le_refl _
      | nd _ _ l h i1 i2 => show 1 ≤ l.leaves + h.leaves; omega
    have h4 := h3 l
    unfold partsDrawn
    show _ ≤ l.leaves + h.leaves
    split
    · show 1 ≤ _; omega
    · split
      · show 1 ≤ _; omega
      · rw [List.length_append]; omega
structure DownD (p : Plain) (t : Tr) : Prop where
  len : t.bnd.length = p.length
  out : lieApart t.bnd p = true → (outAt t.bnd p).isSome = true
abbrev Rparts_drawn (n : Nat) := Rf (A := Tr × Plain × List (List Int) × List Bool) (fun a => a.1.height ≤ n ∧ a.1.all (DownD a.2.1) ∧ a.2.1.length ≤ 100 ∧ a.1.leaves ≤ 1000 ∧ a.2.2.2.length + n ≤ 1000) (fun a => [.d (encTr a.1), ed a.2.1, ed a.2.2.1, .d (encPath a.2.2.2)]) (fun a => .d (.list ((partsDrawn a.2.1 a.2.2.1 a.1 a.2.2.2).map encPart)))
theorem sc62 : FnScope ["tree", "plain", "waits", "path"] ["tree", "plain", "waits", "path"] (defScope (top 62)) := ⟨rfl, rfl, rfl, by decide +kernel, rfl, by decide +kernel, by decide +kernel⟩
theorem ok_parts_drawn (F : Fd C.K "parts_drawn" "parts_drawn" (top 62) f fd) (m : C.mg "parts_drawn" = some (.ref f)) (h1 : Has C "lie_apart" 4 RlieApart) (h3 : Has C "out_part" 2 Rout_part) : ∀ n, Has C "parts_drawn" (n + 5) (Rparts_drawn n) := by
  have first : ∀ (n : Nat) (rec : ∀ k, k + 1 = n → Has C "parts_drawn" (k + 5) (Rparts_drawn k)), Has C "parts_drawn" (n + 5) (Rparts_drawn n) := by
    intro n rec
    refine has_fn (fun a => [some (.d (encTr a.1)), some (ed a.2.1), some (ed a.2.2.1), some (.d (encPath a.2.2.2))]) F m sc62 (by decide) (fun _ _ _ _ _ _ us hl => match us, hl with | [_, _, _, _], _ => rfl) (fun _ => rfl) (fun _ => rfl) fun X a at_ hr hp ⟨cdv, A, outer, s, H, E, hX⟩ => ?_
    have hu : X.A.units + 64 < cLine := hr.units
    obtain ⟨t, p, ws, path⟩ := a
    obtain ⟨hh, hd, hl, hv, hz⟩ := hp
    simp only at hh hd hl hv hz
    have D := Tr.all_self hd
    have hb : t.bnd.length ≤ 100 := by rw [D.len]; exact hl
    have j4 : 4 ≤ n + 4 := by omega
    have j2 : 2 ≤ n + 4 := by omega
    subst hX
    cases t with
    | lf x b =>
      refine ifR (k := lieApart b p) (pt_b (cl h1 (b, p) at_ hr (a2 (ixT1 (t := .lf x b) (nm 0)) (nm 1)) hb j4)) (fun e => rt (pd_eq (l1 (cl h3 (.lf x b, p, path) at_ hr (a3 (nm 0) (nm 1) (nm 3)) ⟨D.out e, D.len, hl⟩ j2)) ?_)) (fun e => ?_)
      · show _ = Sl.d (.list ((partsDrawn p ws (.lf x b) path).map encPart))
        unfold partsDrawn
        rw [if_pos e]
        rfl
      · refine ifR (k := decide ([x] ∈ ws)) (cmpT (ixT0 (t := .lf x b) (nm 0)) (nm 2) (od_inR hu [x] ws decide_eq_true_iff)) (fun e2 => rt (pd_eq (l1 (t2 (nm 3) pd_str)) ?_)) (fun e2 => ifR (k := true) (cmpT (ix 2 (nm 0)) pd_non od_isN) (fun _ => rt (pd_eq (l1 (t2 (nm 3) pd_str)) ?_)) (fun h => nomatch h))
        · show _ = Sl.d (.list ((partsDrawn p ws (.lf x b) path).map encPart))
          unfold partsDrawn
          rw [if_neg (by simp [e]), if_pos (of_decide_eq_true e2)]
          rfl
        · show _ = Sl.d (.list ((partsDrawn p ws (.lf x b) path).map encPart))
          unfold partsDrawn
          rw [if_neg (by simp [e]), if_neg (of_decide_eq_false e2)]
          rfl
    | nd ns b l h =>
      have hh' : max l.height h.height + 1 ≤ n := hh
      have hv' : l.leaves + h.leaves ≤ 1000 := hv
      obtain ⟨k, rfl⟩ : ∃ k, n = k + 1 := ⟨n - 1, by omega⟩
      have ih := rec k rfl
      have z1 := partsDrawn_len p ws l (path ++ [false])
      have z2 := partsDrawn_len p ws h (path ++ [true])
      have hnl : isNone (encTr l) = false := isNone_tr l
      refine ifR (k := lieApart b p) (pt_b (cl h1 (b, p) at_ hr (a2 (ixT1 (t := .nd ns b l h) (nm 0)) (nm 1)) hb j4)) (fun e => rt (pd_eq (l1 (cl h3 (.nd ns b l h, p, path) at_ hr (a3 (nm 0) (nm 1) (nm 3)) ⟨D.out e, D.len, hl⟩ j2)) ?_)) (fun e => ?_)
      · show _ = Sl.d (.list ((partsDrawn p ws (.nd ns b l h) path).map encPart))
        unfold partsDrawn
        rw [if_pos e]
        rfl
      · refine ifR (k := decide (ns ∈ ws)) (cmpT (ixT0 (t := .nd ns b l h) (nm 0)) (nm 2) (od_inR hu ns ws decide_eq_true_iff)) (fun e2 => rt (pd_eq (l1 (t2 (nm 3) pd_str)) ?_)) (fun e2 => ifR (k := false) (ptEq (cmpT (ix 2 (nm 0)) pd_non od_isN) hnl) (fun h => nomatch h) (fun _ => rt (pd_eq (bop (cl ih (l, p, ws, path ++ [false]) at_ hr (a4 (ix 2 (nm 0)) (nm 1) (nm 2) (pd_eq (bop (nm 3) (t1 pd_int) (od_catT (ds := path.map fun s => .int (sideI s)) ?_)) (congrArg Sl.d (path_snoc path false)))) ?_ (by omega))
          (cl ih (h, p, ws, path ++ [true]) at_ hr (a4 (ix 3 (nm 0)) (nm 1) (nm 2) (pd_eq (bop (nm 3) (t1 pd_int) (od_catT (ds := path.map fun s => .int (sideI s)) ?_)) (congrArg Sl.d (path_snoc path true)))) ?_ (by omega)) (od_catL ?_)) ?_)))
        · show _ = Sl.d (.list ((partsDrawn p ws (.nd ns b l h) path).map encPart))
          unfold partsDrawn
          rw [if_neg (by simp [e]), if_pos (of_decide_eq_true e2)]
          rfl
        · simp; omega
        · exact ⟨by show l.height ≤ k; omega, hd.2.1, hl, by show l.leaves ≤ 1000; omega, by simp; omega⟩
        · simp; omega
        · exact ⟨by show h.height ≤ k; omega, hd.2.2, hl, by show h.leaves ≤ 1000; omega, by simp; omega⟩
        · rw [List.length_map, List.length_map]; show (partsDrawn p ws l (path ++ [false])).length + (partsDrawn p ws h (path ++ [true])).length ≤ _; omega
        · show _ = Sl.d (.list ((partsDrawn p ws (.nd ns b l h) path).map encPart))
          rw [← List.map_append]
          conv => rhs; unfold partsDrawn
          rw [if_neg (by simp [e]), if_neg (of_decide_eq_false e2)]
  intro n
  induction n with
  | zero => exact first 0 fun k e => absurd e (by omega)
  | succ n ih =>
    refine first (n + 1) fun k e => ?_
    obtain rfl : k = n := by omega
    exact ih
end
end Bx
/-! classes: an instance as it is made, its attributes read, its methods called -/
namespace Bx
open PySem L2 PySem.SeqAt
abbrev FV := PyData ⊕ List (Int × PyData)
def slF : FV → Sl
  | .inl x => .d x
  | .inr kvs => .dc kvs
def clBody : Stmt → List Stmt
  | .ClassDef (body := b) .. => b
  | _ => []
def meth (i j : Nat) : Stmt := (clBody (top i)).getD j (.Pass ⟨0, 0, 0, 0⟩)
theorem heldF_sl {K : PySem.W.Frag} {H : Hp} {v : V} : ∀ {w : FV}, HeldF K H v w → HeldV K H v (slF w)
  | .inl _, h => h
  | .inr _, h => h
theorem sl_heldF {K : PySem.W.Frag} {H : Hp} {v : V} : ∀ {w : FV}, HeldV K H v (slF w) → HeldF K H v w
  | .inl _, h => h
  | .inr _, h => h
theorem heldFs_look {K : PySem.W.Frag} {H : Hp} : ∀ {fs : List (Str × FV)} {us : List (Str × V)}, HeldFs K H fs us → ∀ (f : Str), (fs.lookup f = none → us.lookup f = none) ∧ ∀ w, fs.lookup f = some w → ∃ v, us.lookup f = some v ∧ HeldF K H v w
  | _, _, .nil, f => ⟨fun _ => rfl, fun _ h => by cases h⟩
  | (g, x) :: fs, (g', y) :: us, .cons ⟨h1, h2⟩ t, f => by
    obtain rfl : g' = g := h1
    have ih := heldFs_look t f
    rw [List.lookup_cons, List.lookup_cons]
    cases e : f == g' with
    | true => exact ⟨fun h => by simp at h, fun w h => ⟨y, rfl, by simp at h; subst h; exact h2⟩⟩
    | false => exact ih
theorem heldFs_len {K : PySem.W.Frag} {H : Hp} {fs : List (Str × FV)} {us : List (Str × V)} (h : HeldFs K H fs us) : fs.length = us.length := Paired.length h
theorem heldFs_snoc {K : PySem.W.Frag} {H : Hp} {f : Str} {v : V} {w : FV} (q : HeldF K H v w) : ∀ {fs : List (Str × FV)} {us : List (Str × V)}, HeldFs K H fs us → fs.lookup f = none → HeldFs K H (fs ++ [(f, w)]) (putF f v us)
  | _, _, .nil, _ => .cons ⟨rfl, q⟩ .nil
  | (g, x) :: fs, (g', y) :: us, .cons ⟨h1, h2⟩ t, l => by
    obtain rfl : g' = g := h1
    rw [List.lookup_cons] at l
    cases e : f == g' with
    | true => rw [e] at l; cases l
    | false =>
      rw [e] at l
      have ne : ¬ g' = f := fun z => by rw [z] at e; simp at e
      show HeldFs K H ((g', x) :: (fs ++ [(f, w)])) (if g' = f then (g', v) :: us else (g', y) :: putF f v us)
      rw [if_neg ne]
      exact .cons ⟨rfl, h2⟩ (heldFs_snoc q t l)
/-! ### what doesn't lean on an instance -/
section
variable {K : PySem.W.Frag} {H H' : Hp} {L : Addr}
theorem sqT_off {a : Addr} {xs : List V} (hL : ∀ ys, H L ≠ some (.tup ys)) (hz : ∀ o ys, H L ≠ some (.frz o (.tup ys))) (h : SqT K H a xs) : SqT K (msk L H) a xs := by
  rcases h with (h | ⟨o, h⟩) | h
  · exact .inl (.inl (by rw [msk_ne (fun q => hL xs (by rw [← q]; exact h))]; exact h))
  · exact .inl (.inr ⟨o, by rw [msk_ne (fun q => hz o xs (by rw [← q]; exact h))]; exact h⟩)
  · exact .inr h
theorem sqL_off {a : Addr} {xs : List V} (hL : ∀ ys, H L ≠ some (.lst ys)) (hz : ∀ o ys, H L ≠ some (.frz o (.lst ys))) (h : SqL K H a xs) : SqL K (msk L H) a xs := by
  rcases h with (h | ⟨o, h⟩) | h
  · exact .inl (.inl (by rw [msk_ne (fun q => hL xs (by rw [← q]; exact h))]; exact h))
  · exact .inl (.inr ⟨o, by rw [msk_ne (fun q => hz o xs (by rw [← q]; exact h))]; exact h⟩)
  · exact .inr h
/-- what stands at L is no list, no tuple, no dict -/
structure Off (H : Hp) (L : Addr) : Prop where
  t : ∀ ys, H L ≠ some (.tup ys)
  tz : ∀ o ys, H L ≠ some (.frz o (.tup ys))
  l : ∀ ys, H L ≠ some (.lst ys)
  lz : ∀ o ys, H L ≠ some (.frz o (.lst ys))
  d : ∀ ys, H L ≠ some (.dK ys)
theorem Off.ins {C dx : Addr} {us : List (Str × V)} (h : H L = some (.ins C dx us)) : Off H L := ⟨fun _ e => (by rw [h] at e; cases e), fun _ _ e => (by rw [h] at e; cases e), fun _ e => (by rw [h] at e; cases e), fun _ _ e => (by rw [h] at e; cases e), fun _ e => (by rw [h] at e; cases e)⟩
mutual
theorem dpOff (o : Off H L) : ∀ {v : V} {d : PyData}, Dp K H v d → Dp K (msk L H) v d
  | _, _, .non => .non
  | _, _, .bl b => .bl b
  | _, _, .int i => .int i
  | _, _, .str x => .str x
  | _, _, .lst s a => .lst (sqL_off o.l o.lz s) (dpAllOff o a)
  | _, _, .tup s a => .tup (sqT_off o.t o.tz s) (dpAllOff o a)
theorem dpAllOff (o : Off H L) : ∀ {vs : List V} {ds : List PyData}, DpAll K H vs ds → DpAll K (msk L H) vs ds
  | _, _, .nil => .nil
  | _, _, .cons h t => .cons (dpOff o h) (dpAllOff o t)
end
theorem heldFOff (o : Off H L) {v : V} : ∀ {w : FV}, HeldF K H v w → HeldF K (msk L H) v w
  | .inl _, h => dpOff o h
  | .inr _, ⟨a, ws, h1, h2, h3⟩ => ⟨a, ws, h1, by rw [msk_ne (fun q => o.d ws (by rw [← q]; exact h2))]; exact h2, Paired.mapP h3 fun _ _ ⟨a, b⟩ => ⟨a, dpOff o b⟩⟩
theorem heldFsOff (o : Off H L) {fs : List (Str × FV)} {us : List (Str × V)} (h : HeldFs K H fs us) : HeldFs K (msk L H) fs us := Paired.mapP h fun _ _ ⟨a, b⟩ => ⟨a, heldFOff o b⟩
def Sl.plain : Sl → Bool
  | .ob _ _ => false
  | _ => true
theorem heldVOff (o : Off H L) {v : V} : ∀ {w : Sl}, w.plain = true → HeldV K H v w → HeldV K (msk L H) v w
  | .d _, _, h => dpOff o h
  | .dc _, _, h => heldFOff (w := .inr _) o h
  | .v _, _, h => h
  | .ob _ _, h, _ => by cases h
theorem heldOff (o : Off H L) {σ : L2.St} {ρ : Ev} (hp : ∀ (i : Nat) w, ρ[i]? = some (some w) → w.plain = true) (h : Held K H σ ρ) : Held K (msk L H) σ ρ := ⟨h.len, fun i w q => let ⟨v, a, b⟩ := h.at_ i w q; ⟨v, a, heldVOff o (hp i w q) b⟩⟩
end
/-! ### attributes -/
section
variable {X : Cx} {e : Expr} {es : List Expr} {f m : Str} {pos apos : Pos} {ρ : Ev} {Cl : Addr} {fs : List (Str × FV)} {w : FV}
theorem pd_fld (c : Cls X.K Cl) (n : NoAttr X.K Cl f) (he : PE X e (tD X.K ρ (.ob Cl fs))) (l : fs.lookup f = some w := by rfl) (hb : attributeBase e f X.env (eval e X.env) = eval e X.env := by rfl) : PE X (.Attribute e f pos) (tD X.K ρ (slF w)) :=
  peI (pe_fld he hb) fun σ H Q ⟨h, k⟩ => ⟨h, fun v H1 s1 ⟨a, dx, us, e1, e2, e3⟩ => by
    obtain ⟨u, l1, l2⟩ := (heldFs_look e3 f).2 w l
    exact ⟨a, Cl, dx, us, u, e1, e2, c, n, l1, k u H1 s1 (heldF_sl l2)⟩⟩
structure HasM (C : Ctx) (Cl : Addr) (m : Str) (k : Nat) (sp : Sp) : Prop where
  ex : ∃ (f : Addr) (fd : FuncData) (ps : List Str), Meth C.K Cl m f ∧ Binds C.K fd ps [] ∧ FnOk C.P C.w C.K C.mg C.base CX0 k f fd ps sp
theorem pe_hasM {C : Ctx} {k : Nat} {sp : Sp} {o : Expr} {to : TE} {t : TA} {pl : Sem Bool} (at_ : At C X) (h : HasM C Cl m k sp) (c : Cls X.K Cl) (hr : Room k X.A) (he : PE X o to) (ha : PA X (e :: es) t) (hst : starEach (e :: es) X.env = (false, eval e X.env) :: starEach es X.env := by rfl) (hpl : (backTo pos (starEach es X.env)).any (·.1) = false := by rfl)
    (ht : eval (.Call (.Attribute o m apos) (e :: es) [] pos) X.env = (do
      let ov ← eval o X.env
      standAt apos.atName
      let (f, first) ← holding [ov] (getMethod ov m pl)
      callWith pos f first (backTo pos (starEach (e :: es) X.env)) (backToKw pos (keywordEach [] X.env))) := by rfl) :
    PE X (.Call (.Attribute o m apos) (e :: es) [] pos) (tMeth Cl m sp [] E0 to t) := by
  obtain ⟨h1, h2, h3, h4, h5⟩ := at_
  obtain ⟨f, fd, ps, M, b, F⟩ := h.ex
  obtain ⟨P, w, K, mg, base⟩ := C
  simp only at h1 h2 h3 h4 h5 M b F
  subst h1 h2 h3 h4 h5
  exact pe_meth he c M F hr b .nil pass0 ha hst hpl ht
theorem pe_hasM0 {C : Ctx} {k : Nat} {sp : Sp} {o : Expr} {to : TE} {pl : Sem Bool} (at_ : At C X) (h : HasM C Cl m k sp) (c : Cls X.K Cl) (hr : Room k X.A) (he : PE X o to)
    (ht : eval (.Call (.Attribute o m apos) [] [] pos) X.env = (do
      let ov ← eval o X.env
      standAt apos.atName
      let (f, first) ← holding [ov] (getMethod ov m pl)
      callWith pos f first (backTo pos (starEach [] X.env)) (backToKw pos (keywordEach [] X.env))) := by rfl) :
    PE X (.Call (.Attribute o m apos) [] [] pos) (tMeth Cl m sp [] E0 to tNil) := by
  obtain ⟨h1, h2, h3, h4, h5⟩ := at_
  obtain ⟨f, fd, ps, M, b, F⟩ := h.ex
  obtain ⟨P, w, K, mg, base⟩ := C
  simp only at h1 h2 h3 h4 h5 M b F
  subst h1 h2 h3 h4 h5
  exact pe_meth0 he c M F hr b .nil pass0 ht
/-- o.m(..) of a method that makes data of data -/
theorem pd_meth {C : Ctx} {k : Nat} {R : List Sl → Sl → Prop} {o : Expr} {ws : List Sl} {u : Sl} (at_ : At C X) (h : HasM C Cl m k (spR C.K R)) (c : Cls X.K Cl) (hr : Room k X.A) (he : PE X o (tD X.K ρ (.ob Cl fs))) (ha : PA X (e :: es) (tDs X.K ρ ws)) (hR : R (.ob Cl fs :: ws) u) (l : fs.lookup m = none := by rfl) {pl : Sem Bool}
    (hst : starEach (e :: es) X.env = (false, eval e X.env) :: starEach es X.env := by rfl) (hpl : (backTo pos (starEach es X.env)).any (·.1) = false := by rfl)
    (ht : eval (.Call (.Attribute o m apos) (e :: es) [] pos) X.env = (do
      let ov ← eval o X.env
      standAt apos.atName
      let (f, first) ← holding [ov] (getMethod ov m pl)
      callWith pos f first (backTo pos (starEach (e :: es) X.env)) (backToKw pos (keywordEach [] X.env))) := by rfl) :
    PE X (.Call (.Attribute o m apos) (e :: es) [] pos) (tD X.K ρ u) :=
  peI (pe_hasM (pl := pl) at_ h c hr he ha hst hpl ht) fun σ H Q ⟨hh, q⟩ => ⟨hh, fun v H1 s1 hv => by
    obtain ⟨a, dx, us, e1, e2, e3⟩ := id hv
    refine ⟨a, dx, us, e1, e2, (heldFs_look e3 m).1 l, hh.mono s1, fun vs H2 s2 hvs => ?_⟩
    show spR C.K R (v :: (vs ++ [])) H2 Q E0
    rw [List.append_nil]
    refine ⟨_, u, .cons ?_ ?_, hR, fun v' H' s' hv' => ?_⟩
    · rw [← at_.k]; exact hv.mono s2
    · rw [← at_.k]; exact hvs
    · rw [← at_.k] at hv'
      exact q v' H' ((s1.trans s2).trans s') hv'⟩
end
section
variable {C : Ctx} {x m : Str}
theorem hasM_fn {A : Type} {Cl : Addr} {pre : A → Prop} {args : A → List Sl} {out : A → Sl} {k : Nat} {st : Stmt} {qual : Str} {f : Addr} {fd : FuncData} {N ps : List Str} (ρ0 : A → Ev) (F : Fd C.K x qual st f fd) (mg : Meth C.K Cl m f) (S : FnScope N ps (defScope st)) (hl : ps.length ≤ N.length)
    (hb : ∀ (kV doc pm : Value) (an : Option Addr) (cdv ct : Value) (us : List Value), us.length = ps.length → bindArgs (PySem.W.fnOf x qual (defArgs st) (defBody st) (defScope st) .none kV doc pm an cdv ct) ⟨us, []⟩ = pure (ps.zip us))
    (len : ∀ a, (args a).length = ps.length) (h0 : ∀ a, (args a).map some ++ List.replicate (N.length - ps.length) none = ρ0 a)
    (body : ∀ (X : Cx) (a : A), At C X → Room k X.A → pre a → InDef C N qual (defScope st) f X → PSs X (defBody st) (tDS X.K (ρ0 a) (.ret (out a)))) : HasM C Cl m (k + 1) (spR C.K (Rf pre args out)) := by
  refine ⟨f, fd, ps, mg, F.bindsN hb, F.ok S (fun vs H Q E h => ?_) fun cdv A outer s H vs Q E hr h => ?_⟩
  · obtain ⟨ws, w, h1, ⟨a, _, h2, _⟩, _⟩ := h
    rw [h2] at h1
    exact h1.len.trans (len a)
  · obtain ⟨ws, w, h1, ⟨a, hp, h2, h3⟩, q⟩ := h
    subst h2 h3
    have hlv := h1.len
    have hlw := len a
    have B := body (cxOf CX0 C.P C.w C.K C.mg C.base N qual (defScope st) f cdv A outer s H E).nox a ⟨rfl, rfl, rfl, rfl, rfl⟩ hr hp ⟨cdv, A, outer, s, H, E, rfl⟩
    refine ⟨_, B.nox, ?_, fun v H' s' hv => q v H' s' hv⟩
    have hs := held_start (N := N) h1 (by omega)
    rw [hlv, hlw, h0] at hs
    exact hs
end
/-! ### an instance as it is made -/
/-- the object that slot 0 holds is being made: its attributes so far, the other slots -/
structure Ini (K : PySem.W.Frag) (Cl dx me : Addr) (fs : List (Str × FV)) (ρ : Ev) (σ : L2.St) (H : Hp) : Prop where
  ob : ∃ us, H me = some (.ins Cl dx us) ∧ HeldFs K (msk me H) fs us
  held : Held K (msk me H) σ ρ
def tNS (K : PySem.W.Frag) (Cl : Addr) (ρ : Addr → Ev) (fs : List (Str × FV)) (ρ' : Addr → Ev) (fs' : List (Str × FV)) : TS := fun D σ H => ∃ dx self, Ini K Cl dx self fs (ρ self) σ H ∧ ∀ σ' H', Same (msk self H) (msk self H') → Ini K Cl dx self fs' (ρ' self) σ' H' → D.nx σ' H'
section
variable {X : Cx} {st : Stmt} {sts : List Stmt} {e : Expr} {f x : Str} {p1 p2 pos : Pos} {ρ ρ1 ρ' : Addr → Ev} {Cl : Addr} {fs fs1 fs' : List (Str × FV)} {w : FV}
theorem ini_seq (h1 : PS X st (tNS X.K Cl ρ fs ρ1 fs1)) (h2 : PSs X sts (tNS X.K Cl ρ1 fs1 ρ' fs')) : PSs X (st :: sts) (tNS X.K Cl ρ fs ρ' fs') :=
  pssI (pss_cons h1 h2) fun D σ H ⟨dx, self, h, k⟩ => ⟨dx, self, h, fun σ' H' s q => ⟨dx, self, q, fun σ2 H2 s2 q2 => k σ2 H2 (s.trans s2) q2⟩⟩
theorem ini_one (h1 : PS X st (tNS X.K Cl ρ fs ρ' fs')) : PSs X [st] (tNS X.K Cl ρ fs ρ' fs') := pssI (pss_one h1) fun D σ H h => h
/-- self.f = e -/
theorem ini_set (c : Cls X.K Cl) (n : NoAttr X.K Cl f) (h0 : ∀ self, (ρ self)[0]? = some (some (.v (.ref self)))) (he : ∀ self, PE X e (tD X.K (ρ self) (slF w))) (hx : X.N[0]? = some x) (hv : Vis X.env.scope x) (hl : fs.lookup f = none := by rfl) (hz : fs.length < 1000 := by exact Nat.le_of_ble_eq_true rfl) (hd : (x == ("__debug__" : Str)) = false := by decide) (hcd : (x == ("__classdict__" : Str)) = false := by decide)
    (hs : swapsWith e (some (.Attribute (.Name x p1) f p2)) pos.line X.env = pure false := by rfl) : PS X (.Assign [.Attribute (.Name x p1) f p2] e pos) (tNS X.K Cl ρ fs ρ (fs ++ [(f, w)])) := by
  refine ⟨fun pins s σ H D I ⟨dx, self, ⟨⟨us, h1, h2⟩, h3⟩, k⟩ => ?_⟩
  refine (ps_fld (pe_var hx hv hd hcd) (he self) hs).run pins s σ H D I ⟨h3.mono msk_le, fun v H1 s1 q1 => ?_⟩
  obtain ⟨v0, e0, q0⟩ := h3.at_ 0 _ (h0 self)
  have q0 : v0 = .ref self := q0
  subst q0
  have hL1 : H1 self = some (.ins Cl dx us) := s1 _ _ h1
  have sm : Same (msk self H) (msk self H1) := fun b u e => by
    by_cases q : b = self
    · subst q; rw [msk_at] at e; cases e
    · rw [msk_ne q] at e ⊢; exact s1 b u e
  refine ⟨_, e0, self, Cl, dx, us, rfl, hL1, c, n, by rw [← heldFs_len h2]; exact hz, k σ _ (by rw [msk_upd2]; exact sm) ⟨⟨_, upd_same, ?_⟩, ?_⟩⟩
  · rw [msk_upd2]
    exact heldFs_snoc (heldFOff (Off.ins hL1) (sl_heldF q1)) (h2.mono sm) hl
  · rw [msk_upd2]
    exact h3.mono sm
end
end Bx
namespace Bx
open PySem L2 PySem.SeqAt
open PySem.W (alike alikeAll dataLt dataLe EachIs AllAlike Sortable)
section
variable {C : Ctx} {f : Addr} {fd : FuncData}

/-! ### what orders and turns say -/
def orderKey (t : Thing) (i : Nat) : List Int := t.place.drop i ++ t.place.take i ++ [t.name]
def pairK (i : Nat) (t : Thing) : PyData := .tuple [en (orderKey t i), encThing t]
def thingsBy (ts : List Thing) (i : Nat) : List Thing := ts.mergeSort fun a b => dataLe false (fun d => d) (pairK i a) (pairK i b)
theorem sort_by (ts : List Thing) (i : Nat) : sortD (ts.map (pairK i)) = (thingsBy ts i).map (pairK i) := by
  unfold sortD thingsBy
  exact (List.map_mergeSort (r := fun a b => dataLe false (fun d => d) (pairK i a) (pairK i b)) (s := dataLe false fun d => d) (f := pairK i) (l := ts) fun _ _ _ _ => rfl).symm
theorem cutFrom {α : Type} (xs : List α) (i : Nat) (h : i ≤ xs.length) : cutD xs (some (i : Int)) none = xs.drop i := by
  have h1 : HT.sIx xs.length 0 (some (i : Int)) = i := by
    have hn : ¬ (i : Int) < 0 := by omega
    unfold HT.sIx
    simp [hn]
    omega
  have h2 : HT.sIx xs.length xs.length none = xs.length := rfl
  unfold cutD
  rw [h1, h2, List.take_of_length_le (by rw [List.length_drop]; exact Nat.le_refl _)]
theorem cutTo {α : Type} (xs : List α) (i : Nat) (h : i ≤ xs.length) : cutD xs none (some (i : Int)) = xs.take i := by
  have h1 : HT.sIx xs.length xs.length (some (i : Int)) = i := by
    have hn : ¬ (i : Int) < 0 := by omega
    unfold HT.sIx
    simp [hn]
    omega
  have h2 : HT.sIx xs.length 0 none = 0 := rfl
  unfold cutD
  rw [h1, h2]
  simp
theorem alike_pairK (i : Nat) (t u : Thing) : alike (pairK i t) (pairK i u) = true := by
  have h : alike (en (orderKey t i)) (en (orderKey u i)) = true := by
    show alikeAll ((orderKey t i).map .int) ((orderKey u i).map .int) = true
    exact PySem.W.alike_ints _ _
  simp only [pairK, alike, alikeAll, h, alike_thing, Bool.and_self]
theorem depth_pairK (i : Nat) (t : Thing) : (pairK i t).depth ≤ 3 := by
  have h : PyData.depthAll ((orderKey t i).map .int) + 1 ≤ 1 := Enc.dep_le (orderKey t i)
  have h2 := depth_thing t
  show max (PyData.depthAll ((orderKey t i).map .int) + 1) (max (encThing t).depth 0) + 1 ≤ 3
  omega
abbrev Rorder_key := Rf (A := Thing × Nat) (fun a => a.2 ≤ a.1.place.length ∧ a.1.place.length ≤ 100) (fun a => [.d (encThing a.1), .d (.int (a.2 : Int))]) (fun a => ed (orderKey a.1 a.2))
abbrev N65 : List Str := ["thing", "i", "name", "place", "worth"]
theorem sc65 : FnScope N65 ["thing", "i"] (defScope (top 65)) := ⟨rfl, rfl, rfl, by decide +kernel, rfl, by decide +kernel, by decide +kernel⟩
theorem ok_key_by_orders (F : Fd C.K "key_by" "key_by" (top 65) f fd) (m : C.mg "key_by_orders" = some (.ref f))  : Has C "key_by_orders" 1 Rorder_key := by
  refine has_fn (fun a => [some (.d (encThing a.1)), some (.d (.int (a.2 : Int))), none, none, none]) F m sc65 (by decide) (fun _ _ _ _ _ _ us hl => match us, hl with | [_, _], _ => rfl) (fun _ => rfl) (fun _ => rfl) fun X a at_ hr hp ⟨cdv, A, outer, s, H, E, hX⟩ => ?_
  have hu : X.A.units + 64 < cLine := hr.units
  subst hX
  obtain ⟨t, i⟩ := a
  obtain ⟨h1, h2⟩ := hp
  simp only at h1 h2
  refine seq (pds_asg (x := encThing t) (nm 0) (gd_tup (ds := [.int t.name, en t.place, .int t.worth]) rfl (gds_cons (gn 2 sc65.nd) (gds_cons (gn 3 sc65.nd) (gds_cons (gn 4 sc65.nd) gds_nil))) rfl)) ?_
  have hz : (t.place.drop i ++ t.place.take i).length ≤ 1000 := by rw [List.length_append, List.length_drop, List.length_take]; omega
  have z1 : (t.place.drop i).length ≤ 100 := by rw [List.length_drop]; omega
  have z2 : (t.place.take i).length ≤ 100 := by rw [List.length_take]; omega
  refine rt (pd_eq (bop (bop (pd_eq (pd_slT (ds := t.place.map Enc.enc) (nm 3) (pdo_some (nm 1)) pdo_none) (show _ = Sl.d (.tuple ((t.place.drop i).map Enc.enc)) from ?_)) (pd_eq (pd_slT (ds := t.place.map Enc.enc) (nm 3) pdo_none (pdo_some (nm 1))) (show _ = Sl.d (.tuple ((t.place.take i).map Enc.enc)) from ?_)) (od_catT ?_)) (t1 (nm 2)) (od_catT ?_)) ?_)
  · rw [cutFrom _ i (by rw [List.length_map]; exact h1), List.map_drop]
  · rw [cutTo _ i (by rw [List.length_map]; exact h1), List.map_take]
  · rw [List.length_map, List.length_map]; omega
  · rw [List.length_append, List.length_map, List.length_map]
    show _ + 1 ≤ _
    omega
  · show _ = Sl.d (.tuple (List.map Enc.enc _))
    unfold orderKey
    rw [List.map_append, List.map_append]
    rfl
abbrev Rthings_by := Rf (A := List Thing × Nat) (fun a => a.1.length ≤ 1000 ∧ ∀ t ∈ a.1, a.2 ≤ t.place.length ∧ t.place.length ≤ 100) (fun a => [.d (.tuple (a.1.map encThing)), .d (.int (a.2 : Int))]) (fun a => .d (.list ((thingsBy a.1 a.2).map encThing)))
abbrev N67 : List Str := ["things", "i", "key", "thing"]
theorem sc67 : FnScope N67 ["things", "i"] (defScope (top 67)) := ⟨rfl, rfl, rfl, by decide +kernel, rfl, by decide +kernel, by decide +kernel⟩
theorem ok_things_by (F : Fd C.K "things_by" "things_by" (top 67) f fd) (m : C.mg "things_by" = some (.ref f)) (B : Blt C) (h1 : Has C "key_by_orders" 1 Rorder_key) : Has C "things_by" 4 Rthings_by := by
  refine has_fn (fun a => [some (.d (.tuple (a.1.map encThing))), some (.d (.int (a.2 : Int))), none, none]) F m sc67 (by decide) (fun _ _ _ _ _ _ us hl => match us, hl with | [_, _], _ => rfl) (fun _ => rfl) (fun _ => rfl) fun X a at_ hr hp ⟨cdv, A, outer, s, H, E, hX⟩ => ?_
  have hu : X.A.units + 64 < cLine := hr.units
  subst hX
  obtain ⟨ts, i⟩ := a
  obtain ⟨hz, hq⟩ := hp
  simp only at hz hq
  have hs : (thingsBy ts i).length ≤ 100000 := by unfold thingsBy; rw [List.length_mergeSort]; omega
  refine rt (pd_lc rfl sc67.nd (thingsBy ts i) (pairK i) encThing (own := [("key", 2), ("thing", 3)]) (pid_list (pd_eq (cb at_ B.sorted (cd_sorted (ds := ts.map (pairK i)) (AllAlike.of fun t u => alike_pairK i t u) (Sortable.tuples fun _ => ⟨_, _, rfl⟩) (fun d hd => ?_)) (a1 (pd_lc rfl sc67.nd ts encThing (pairK i) (own := [("thing", 3)]) (pid_tup (nm 0)) (blkOk_by (N := N67) (sc := defScope (top 67)) (by decide +kernel)) (fun t ht => ⟨_, _, by decide, fun s H C cl fp => gn 3 sc67.nd, fun s H C' c' fp => t2 (cl h1 (t, i) at_.blk hr (a2 (nm 3) (nm 1)) (hq t ht)) (nm 3)⟩) (by omega) (by intro _; rfl)))) (congrArg (fun z => Sl.d (.list z)) (sort_by ts i)))) (blkOk_by (N := N67) (sc := defScope (top 67)) (by decide +kernel)) (fun t ht => ⟨_, _, by decide, fun s H C cl fp => gd_tup (ds := [en (orderKey t i), encThing t]) rfl (gds_cons (gn 2 sc67.nd) (gds_cons (gn 3 sc67.nd) gds_nil)) rfl, fun s H C' c' fp => nm 3⟩) hs (by intro _; rfl))
  obtain ⟨t, _, rfl⟩ := List.mem_map.mp hd
  have := depth_pairK i t
  omega
abbrev Rnames_of2 := Rf (A := List Thing) (fun a => a.length ≤ 1000) (fun a => [.d (.list (a.map encThing))]) (fun a => ed (namesOf a))
abbrev N68 : List Str := ["things", "thing"]
theorem sc68 : FnScope N68 ["things"] (defScope (top 68)) := ⟨rfl, rfl, rfl, by decide +kernel, rfl, by decide +kernel, by decide +kernel⟩
theorem ok_names_of_orders (F : Fd C.K "names_of" "names_of" (top 68) f fd) (m : C.mg "names_of_orders" = some (.ref f)) (B : Blt C) : Has C "names_of_orders" 1 Rnames_of2 := by
  refine has_fn (fun a => [some (.d (.list (a.map encThing))), none]) F m sc68 (by decide) (fun _ _ _ _ _ _ us hl => match us, hl with | [_], _ => rfl) (fun _ => rfl) (fun _ => rfl) fun X a at_ hr hp ⟨cdv, A, outer, s, H, E, hX⟩ => ?_
  have hu : X.A.units + 64 < cLine := hr.units
  subst hX
  refine rt (pd_eq (ct at_ B.tuple (cd_tup rfl) (a1 (pd_lc rfl sc68.nd a encThing (fun t => en t.name) (own := [("thing", 1)]) (pid_list (nm 0)) (blkOk_by (N := N68) (sc := defScope (top 68)) (by decide +kernel)) (fun t _ => ⟨_, _, by decide, fun s H C cl fp => gn 1 sc68.nd, fun s H C' c' fp => ix 0 (nm 1)⟩) (Nat.le_trans hp (by decide)) (by intro _; rfl)))) ?_)
  show Sl.d (.tuple _) = .d (.tuple (List.map Enc.enc _))
  rw [namesOf, List.map_map]
  rfl
abbrev Rorder_by := Rf (A := House × Nat) (fun a => a.1.things.length ≤ 1000 ∧ ∀ t ∈ a.1.things, a.2 ≤ t.place.length ∧ t.place.length ≤ 100) (fun a => [.d (encHouse a.1), .d (.int (a.2 : Int))]) (fun a => ed (namesOf (thingsBy a.1.things a.2)))
abbrev N70 : List Str := ["house", "i"]
theorem sc70 : FnScope N70 ["house", "i"] (defScope (top 70)) := ⟨rfl, rfl, rfl, by decide +kernel, rfl, by decide +kernel, by decide +kernel⟩
theorem ok_order_by (F : Fd C.K "order_by" "order_by" (top 70) f fd) (m : C.mg "order_by" = some (.ref f)) (h1 : Has C "things_by" 4 Rthings_by) (h2 : Has C "names_of_orders" 1 Rnames_of2) : Has C "order_by" 5 Rorder_by := by
  refine has_fn (fun a => [some (.d (encHouse a.1)), some (.d (.int (a.2 : Int)))]) F m sc70 (by decide) (fun _ _ _ _ _ _ us hl => match us, hl with | [_, _], _ => rfl) (fun _ => rfl) (fun _ => rfl) fun X a at_ hr hp ⟨cdv, A, outer, s, H, E, hX⟩ => ?_
  have hu : X.A.units + 64 < cLine := hr.units
  subst hX
  obtain ⟨h, i⟩ := a
  refine rt (cl h2 (thingsBy h.things i) at_ hr (a1 (cl h1 (h.things, i) at_ hr (a2 (ix 1 (nm 0)) (nm 1)) hp)) ?_)
  show (thingsBy h.things i).length ≤ 1000
  unfold thingsBy
  rw [List.length_mergeSort]
  exact hp.1
abbrev Rhalved_up := Rf (A := Nat) (fun a => True) (fun a => [.d (.int (a : Int))]) (fun a => .d (.int (((a + 1) / 2 : Nat) : Int)))
abbrev N72 : List Str := ["many"]
theorem sc72 : FnScope N72 ["many"] (defScope (top 72)) := ⟨rfl, rfl, rfl, by decide +kernel, rfl, by decide +kernel, by decide +kernel⟩
theorem ok_halved_up (F : Fd C.K "halved_up" "halved_up" (top 72) f fd) (m : C.mg "halved_up" = some (.ref f))  : Has C "halved_up" 1 Rhalved_up := by
  refine has_fn (fun a => [some (.d (.int (a : Int)))]) F m sc72 (by decide) (fun _ _ _ _ _ _ us hl => match us, hl with | [_], _ => rfl) (fun _ => rfl) (fun _ => rfl) fun X a at_ hr hp ⟨cdv, A, outer, s, H, E, hX⟩ => ?_
  have hu : X.A.units + 64 < cLine := hr.units
  subst hX
  exact rt (pd_eq (bop (bop (nm 0) pd_int od_add) pd_int (od_fdiv (by show CDiv _ _; unfold CDiv; decide))) rfl)

def placesD (h : House) : List (Int × PyData) := h.things.map fun t => (t.name, en t.place)
abbrev Rplaces_of := Rf (A := House) (fun a => HouseOk a) (fun a => [.d (encHouse a)]) (fun a => .dc (placesD a))
abbrev N73 : List Str := ["house", "name", "place", "worth"]
theorem sc73 : FnScope N73 ["house"] (defScope (top 73)) := ⟨rfl, rfl, rfl, by decide +kernel, rfl, by decide +kernel, by decide +kernel⟩
theorem ok_places_of (F : Fd C.K "places_of" "places_of" (top 73) f fd) (m : C.mg "places_of" = some (.ref f)) (B : Blt C) : Has C "places_of" 1 Rplaces_of := by
  refine has_fn (fun a => [some (.d (encHouse a)), none, none, none]) F m sc73 (by decide) (fun _ _ _ _ _ _ us hl => match us, hl with | [_], _ => rfl) (fun _ => rfl) (fun _ => rfl) fun X a at_ hr hp ⟨cdv, A, outer, s, H, E, hX⟩ => ?_
  have hu : X.A.units + 64 < cLine := hr.units
  subst hX
  have hn : ((placesD a).map (·.1)).Nodup := by
    have e : (placesD a).map (·.1) = a.things.map (·.name) := by unfold placesD; rw [List.map_map]; rfl
    rw [e]
    exact hp.things.nd
  refine rt (ct at_ B.dict (cd_dict rfl hn) (a1 (pd_eq (pd_lc rfl sc73.nd a.things encThing (fun t => .tuple [.int t.name, en t.place]) (own := [("name", 1), ("place", 2), ("worth", 3)]) (pid_tup (ix 1 (nm 0))) (blkOk_by (N := N73) (sc := defScope (top 73)) (by decide +kernel)) (fun t _ => ⟨_, _, by decide, fun s H C cl fp => gd_tup (ds := [.int t.name, en t.place, .int t.worth]) rfl (gds_cons (gn 1 sc73.nd) (gds_cons (gn 2 sc73.nd) (gds_cons (gn 3 sc73.nd) gds_nil))) rfl, fun s H C' c' fp => t2 (nm 1) (nm 2)⟩) (Nat.le_trans hp.many (by decide)) (by intro _; rfl)) ?_)))
  unfold pairsD placesD
  rw [List.map_map]
  rfl
end
end Bx
namespace Bx
open PySem L2 PySem.SeqAt
open PySem.W (alike alikeAll dataLt dataLe EachIs AllAlike Sortable)
section
variable {C : Ctx} {f : Addr} {fd : FuncData}

/-! ### making -/
def spInit (K : PySem.W.Frag) (Cl : Addr) {A : Type} (pre : A → Prop) (args : A → List Sl) (out : A → List (Str × FV)) : Sp := fun vs H Q _ => ∃ self dx ws a, vs = .ref self :: ws ∧ H self = some (.ins Cl dx []) ∧ pre a ∧ HeldVs K (msk self H) ws (args a) ∧
  ∀ H' us, Same (msk self H) (msk self H') → H' self = some (.ins Cl dx us) → HeldFs K (msk self H') (out a) us → Q .non H'
structure HasI (C : Ctx) (Cl : Addr) (k : Nat) (sp : Sp) : Prop where
  ex : ∃ (f : Addr) (fd : FuncData) (ps : List Str), Mk C.K Cl f ∧ Binds C.K fd ps [] ∧ FnOk C.P C.w C.K C.mg C.base CX0 k f fd ps sp
theorem hasI_fn {x : Str} {A : Type} {Cl : Addr} {pre : A → Prop} {args : A → List Sl} {out : A → List (Str × FV)} {k : Nat} {st : Stmt} {qual : Str} {N ps : List Str} (ρ0 : A → List (Option Sl)) (ρ1 : A → Addr → Ev) (F : Fd C.K x qual st f fd) (mk : Mk C.K Cl f) (S : FnScope N ps (defScope st)) (hl : ps.length ≤ N.length)
    (hb : ∀ (kV doc pm : Value) (an : Option Addr) (cdv ct : Value) (us : List Value), us.length = ps.length → bindArgs (PySem.W.fnOf x qual (defArgs st) (defBody st) (defScope st) .none kV doc pm an cdv ct) ⟨us, []⟩ = pure (ps.zip us))
    (len : ∀ a, (args a).length + 1 = ps.length) (h0 : ∀ a, (args a).map some ++ List.replicate (N.length - ps.length) none = ρ0 a)
    (body : ∀ (X : Cx) (a : A), At C X → Room k X.A → pre a → InDef C N qual (defScope st) f X → PSs X (defBody st) (tNS X.K Cl (fun self => some (.v (.ref self)) :: ρ0 a) [] (ρ1 a) (out a))) : HasI C Cl (k + 1) (spInit C.K Cl pre args out) := by
  refine ⟨f, fd, ps, mk, F.bindsN hb, F.ok S (fun vs H Q E h => ?_) fun cdv A outer s H vs Q E hr h => ?_⟩
  · obtain ⟨self, dx, ws, a, rfl, _, _, h2, _⟩ := h
    rw [List.length_cons, h2.len, len]
  · obtain ⟨self, dx, ws, a, rfl, h1, hp, h2, q⟩ := h
    have hlw := len a
    have hlv := h2.len
    have B := body (cxOf CX0 C.P C.w C.K C.mg C.base N qual (defScope st) f cdv A outer s H E).nox a ⟨rfl, rfl, rfl, rfl, rfl⟩ hr hp ⟨cdv, A, outer, s, H, E, rfl⟩
    refine ⟨_, B.nox, dx, self, ⟨⟨[], h1, .nil⟩, ?_⟩, fun σ' H' s' hq => ?_⟩
    · have hh : HeldVs C.K (msk self H) (.ref self :: ws) (.v (.ref self) :: args a) := .cons rfl h2
      have hs := held_start (N := N) hh (by rw [List.length_cons, hlv, hlw]; exact hl)
      have e : (V.ref self :: ws).length = ps.length := by rw [List.length_cons, hlv, hlw]
      rw [e, List.map_cons, List.cons_append, h0] at hs
      exact hs
    · obtain ⟨us, e1, e2⟩ := hq.ob
      exact q H' us s' e1 e2
theorem pd_make {X : Cx} {x : Str} {A : Type} {Cl : Addr} {pre : A → Prop} {args : A → List Sl} {out : A → List (Str × FV)} {k j : Nat} {e : Expr} {es : List Expr} {p pos : Pos} {ρ : Ev} (at_ : At C X) (h : HasI C Cl k (spInit C.K Cl pre args out)) (a : A) (hm : C.mg x = some (.ref Cl)) (hr : Room j X.A) (ha : PA X (e :: es) (tDs X.K ρ (args a))) (hp : pre a) (hj : k + 1 ≤ j := by decide) (hg : Gl X x := by rfl)
    (hdb : (x == ("__debug__" : Str)) = false := by decide) (he : starEach (e :: es) X.env = (false, eval e X.env) :: starEach es X.env := by rfl) (hpl : (backTo pos (starEach es X.env)).any (·.1) = false := by rfl) : PE X (.Call (.Name x p) (e :: es) [] pos) (tD X.K ρ (.ob Cl (out a))) := by
  obtain ⟨h1, h2, h3, h4, h5⟩ := at_
  obtain ⟨f, fd, ps, M, b, F⟩ := h.ex
  obtain ⟨P, w, K, mg, base⟩ := C
  simp only at h1 h2 h3 h4 h5 M b F hm
  subst h1 h2 h3 h4 h5
  refine peI (pe_make M F (hr.mono hj) hg hm b .nil pass0 ha hdb he hpl) fun σ H Q ⟨hh, q⟩ => ⟨hh, fun vs H1 s1 hv x dx hx hdx hne => ?_⟩
  have f1 : upd H1 dx (.own x) x = none := by rw [upd_ne hne.symm]; exact hx
  refine ⟨x, dx, vs, a, by rw [List.append_nil], upd_same, hp, ?_, fun H' us s' e1 e2 => ⟨rfl, q (.ref x) H' ?_ ⟨x, dx, us, rfl, e1, e2.mono msk_le⟩⟩⟩
  · rw [msk_upd f1]
    exact hv.mono (sameNew hdx)
  · rw [msk_upd f1] at s'
    exact s1.trans ((sameNew hdx).trans (s'.trans msk_le))
/-! ### Halver -/
def rowN (h : House) (i : Nat) : List Int := namesOf (thingsBy h.things i)
def halverF (h : House) : List (Str × FV) := [("sizes", .inl (.int (h.d : Int))), ("place_by", .inr (placesD h)), ("rows", .inl (.list ((List.range h.d).map fun i => en (rowN h i))))]
structure HalverC (C : Ctx) (Cl : Addr) : Prop where
  cls : Cls C.K Cl
  n1 : NoAttr C.K Cl "sizes"
  n2 : NoAttr C.K Cl "place_by"
  n3 : NoAttr C.K Cl "rows"
  mg : C.mg "Halver" = some (.ref Cl)
theorem sc74i : FnScope ["self", "house", "i"] ["self", "house"] (defScope (meth 74 0)) := ⟨rfl, rfl, rfl, by decide +kernel, rfl, by decide +kernel, by decide +kernel⟩
theorem ok_halver_init {Cl : Addr} (B : Blt C) (HC : HalverC C Cl) (F : Fd C.K "__init__" "Halver.__init__" (meth 74 0) f fd) (mk : Mk C.K Cl f) (h1 : Has C "places_of" 1 Rplaces_of) (h2 : Has C "order_by" 5 Rorder_by) : HasI C Cl 6 (spInit C.K Cl (A := House) HouseOk (fun a => [.d (encHouse a)]) halverF) := by
  refine hasI_fn (k := 5) (fun a => [some (.d (encHouse a)), none]) (fun a self => [some (.v (.ref self)), some (.d (encHouse a)), none]) F mk sc74i (by decide) (fun _ _ _ _ _ _ us hl => match us, hl with | [_, _], _ => rfl) (fun _ => rfl) (fun _ => rfl) fun X a at_ hr hp ⟨cdv, A, outer, s, H, E, hX⟩ => ?_
  have hc : Cls X.K Cl := by rw [at_.k]; exact HC.cls
  have n1 : NoAttr X.K Cl "sizes" := by rw [at_.k]; exact HC.n1
  have n2 : NoAttr X.K Cl "place_by" := by rw [at_.k]; exact HC.n2
  have n3 : NoAttr X.K Cl "rows" := by rw [at_.k]; exact HC.n3
  subst hX
  refine ini_seq (ini_set (w := .inl (.int (a.d : Int))) hc n1 (fun _ => rfl) (fun self => ix 0 (nm 1)) rfl (Or.inl rfl)) ?_
  refine ini_seq (ini_set (w := .inr (placesD a)) hc n2 (fun _ => rfl) (fun self => cl h1 a at_ hr (a1 (nm 1)) hp) rfl (Or.inl rfl)) ?_
  refine ini_one (ini_set (w := .inl (.list ((List.range a.d).map fun i => en (rowN a i)))) hc n3 (fun _ => rfl) (fun self => ?_) rfl (Or.inl rfl))
  have hd : a.d ≤ 4 := hp.d4
  exact pd_lc rfl sc74i.nd (List.range a.d) (fun (i : Nat) => .int (i : Int)) (fun i => en (rowN a i)) (own := [("i", 2)]) (pid_range rfl (at_.no B.range) (ix 0 (nm 1)) (by omega)) (blkOk_by (N := ["self", "house", "i"]) (sc := defScope (meth 74 0)) (by decide +kernel)) (fun i hi => ⟨_, _, by decide, fun s H C cl fp => gn 2 sc74i.nd, fun s H C' c' fp => cl h2 (a, i) at_.blk hr (a2 (nm 1) (nm 2)) ⟨Nat.le_trans hp.many (by decide), fun t ht => by have := hp.len t ht; have := List.mem_range.mp hi; omega⟩⟩) (by rw [List.length_range]; omega) (by intro _; rfl)
end
end Bx
namespace Bx
open PySem L2 PySem.SeqAt
open PySem.W (alike alikeAll dataLt dataLe EachIs AllAlike Sortable)
section
variable {C : Ctx} {f : Addr} {fd : FuncData}

/-! ### the tree that turns tells -/
def placeAt (h : House) (n : Int) : Place := (thingAt h n).place
def rowIn (h : House) (names : List Int) (turn : Nat) : List Int := (rowN h turn).filter fun x => decide (x ∈ names)
def treeOf (h : House) : Nat → List Int → Nat → Tr
  | 0, names, _ => .lf (names.headD 0) (boundsOf (names.map (placeAt h)))
  | n + 1, names, turn => if names.length = 1 then .lf (names.headD 0) (boundsOf (names.map (placeAt h))) else
    .nd names (boundsOf (names.map (placeAt h))) (treeOf h n (sortI ((rowIn h names turn).take (((rowIn h names turn).length + 1) / 2))) ((turn + 1) % h.d)) (treeOf h n (sortI ((rowIn h names turn).drop (((rowIn h names turn).length + 1) / 2))) ((turn + 1) % h.d))
structure NamesIn (h : House) (names : List Int) : Prop where
  ne : names ≠ []
  nd : names.Nodup
  sub : ∀ n ∈ names, n ∈ h.things.map (·.name)
theorem sortI_perm (ns : List Int) : (sortI ns).Perm ns := List.mergeSort_perm ..
theorem rowN_perm (h : House) (i : Nat) : (rowN h i).Perm (h.things.map (·.name)) := by
  unfold rowN namesOf thingsBy
  exact (List.mergeSort_perm ..).map _
theorem HouseOk.nodup {h : House} (H : HouseOk h) : (h.things.map (·.name)).Nodup := H.things.nd
theorem rowIn_perm {h : House} (H : HouseOk h) {names : List Int} (N : NamesIn h names) (turn : Nat) : (rowIn h names turn).Perm names := by
  have h1 : (rowN h turn).Nodup := (rowN_perm h turn).nodup_iff.mpr H.nodup
  refine (List.perm_ext_iff_of_nodup (h1.filter _) N.nd).mpr fun n => ?_
  try unfold rowIn
  rw [List.mem_filter]
  simp only [decide_eq_true_eq]
  exact ⟨fun q => q.2, fun q => ⟨(rowN_perm h turn).mem_iff.mpr (N.sub n q), q⟩⟩
theorem NamesIn.half {h : House} {names part : List Int} (N : NamesIn h names) {row : List Int} (p : row.Perm names) (s : part.Sublist row) (hne : part ≠ []) : NamesIn h (sortI part) := by
  refine ⟨fun e => hne ?_, (sortI_perm part).nodup_iff.mpr (s.nodup (p.nodup_iff.mpr N.nd)), fun n hn => N.sub n (p.mem_iff.mp (s.subset ((sortI_perm part).mem_iff.mp hn)))⟩
  have := (sortI_perm part).length_eq
  rw [e] at this
  exact List.length_eq_zero_iff.mp this.symm
theorem sub_len : ∀ {ns ms : List Int}, ns.Nodup → (∀ n ∈ ns, n ∈ ms) → ns.length ≤ ms.length
  | [], _, _, _ => Nat.zero_le _
  | n :: ns, ms, h, s => by
    rw [List.nodup_cons] at h
    have h1 := s n (List.mem_cons_self ..)
    have ih := sub_len (ns := ns) (ms := ms.erase n) h.2 fun m hm => (List.mem_erase_of_ne (fun q => h.1 (by rw [← q]; exact hm))).mpr (s m (List.mem_cons_of_mem _ hm))
    rw [List.length_erase_of_mem h1] at ih
    have : 0 < ms.length := List.length_pos_of_mem h1
    rw [List.length_cons]
    omega
theorem NamesIn.few {h : House} (H : HouseOk h) {names : List Int} (N : NamesIn h names) : names.length ≤ 30 := by
  have : names.length ≤ (h.things.map (·.name)).length := sub_len N.nd fun n hn => N.sub n hn
  rw [List.length_map] at this
  exact Nat.le_trans this H.many
theorem NamesIn.places {h : House} (H : HouseOk h) {names : List Int} (N : NamesIn h names) : PlacesOk (names.map (placeAt h)) := by
  have hl : ∀ n ∈ names, (placeAt h n).length = h.d := fun n hn => H.len _ (thing_mem (N.sub n hn)).1
  have hh : ((names.map (placeAt h)).headD []).length = h.d := by
    cases names with
    | nil => exact absurd rfl N.ne
    | cons n ns => exact hl n (List.mem_cons_self ..)
  refine ⟨by simp [N.ne], fun p hp => ?_, by rw [List.length_map]; exact Nat.le_trans (N.few H) (by decide), by rw [hh]; exact Nat.le_trans H.d4 (by decide)⟩
  obtain ⟨n, hn, rfl⟩ := List.mem_map.mp hp
  rw [hh]
  exact hl n hn
theorem places_look (h : House) (n : Int) (hm : n ∈ h.things.map (·.name)) : (placesD h).lookup n = some (en (placeAt h n)) := by
  unfold placesD placeAt thingAt
  revert hm
  generalize h.things = ts
  induction ts with
  | nil => intro hm; cases hm
  | cons t ts ih =>
    intro hm
    rw [List.map_cons, List.lookup_cons, List.find?_cons]
    by_cases e : n = t.name
    · subst e; simp
    · have e2 : (n == t.name) = false := by simp [e]
      have e3 : decide (t.name = n) = false := by simp; exact fun q => e q.symm
      rw [e2]
      simp only [e3]
      exact ih ((List.mem_cons.mp hm).resolve_left e)
def knownD (names : List Int) : List (Int × PyData) := names.map fun n => (n, .bool true)
theorem known_nd {names : List Int} (h : names.Nodup) : ((knownD names).map (·.1)).Nodup := by
  have e : (knownD names).map (·.1) = names := by
    unfold knownD
    rw [List.map_map]
    exact List.map_id'' (fun _ => rfl) names
  rw [e]
  exact h
theorem known_has (names : List Int) (n : Int) : ((knownD names).lookup n).isSome = decide (n ∈ names) := by
  unfold knownD
  induction names with
  | nil => rfl
  | cons m ms ih =>
    rw [List.map_cons, List.lookup_cons]
    by_cases e : n = m
    · subst e; simp
    · have e2 : (n == m) = false := by simp [e]
      rw [e2]
      simp only [ih]
      simp [e]
abbrev Rtree_of (Cl : Addr) (n : Nat) := Rf (A := House × List Int × Nat) (fun a => HouseOk a.1 ∧ NamesIn a.1 a.2.1 ∧ a.2.1.length ≤ n + 1 ∧ a.2.2 < a.1.d) (fun a => [.ob Cl (halverF a.1), ed a.2.1, .d (.int (a.2.2 : Int))]) (fun a => .d (encTr (treeOf a.1 n a.2.1 a.2.2)))
abbrev N74 : List Str := ["self", "names", "turn", "top", "known", "row", "many", "after", "low", "name"]
theorem sc74 : FnScope N74 ["self", "names", "turn"] (defScope (meth 74 1)) := ⟨rfl, rfl, rfl, by decide +kernel, rfl, by decide +kernel, by decide +kernel⟩
theorem ok_tree_of {Cl : Addr} (B : Blt C) (HC : HalverC C Cl) (F : Fd C.K "tree_of" "Halver.tree_of" (meth 74 1) f fd) (M : Meth C.K Cl "tree_of" f) (h1 : Has C "bounds" 1 Rbounds) (h2 : Has C "halved_up" 1 Rhalved_up) : ∀ n, HasM C Cl "tree_of" (n + 5) (spR C.K (Rtree_of Cl n)) := by
  have first : ∀ (n : Nat) (rec : ∀ k, k + 1 = n → HasM C Cl "tree_of" (k + 5) (spR C.K (Rtree_of Cl k))), HasM C Cl "tree_of" (n + 5) (spR C.K (Rtree_of Cl n)) := by
    intro n rec
    refine hasM_fn (fun a => [some (.ob Cl (halverF a.1)), some (ed a.2.1), some (.d (.int (a.2.2 : Int))), none, none, none, none, none, none, none]) F M sc74 (by decide) (fun _ _ _ _ _ _ us hl => match us, hl with | [_, _, _], _ => rfl) (fun _ => rfl) (fun _ => rfl) fun X a at_ hr hp ⟨cdv, A, outer, s, H, E, hX⟩ => ?_
    have hu : X.A.units + 64 < cLine := hr.units
    obtain ⟨h, names, turn⟩ := a
    obtain ⟨hh, hN, hn, ht⟩ := hp
    simp only at hh hN hn ht
    have hc : Cls X.K Cl := by rw [at_.k]; exact HC.cls
    have n1 : NoAttr X.K Cl "sizes" := by rw [at_.k]; exact HC.n1
    have n2 : NoAttr X.K Cl "place_by" := by rw [at_.k]; exact HC.n2
    have n3 : NoAttr X.K Cl "rows" := by rw [at_.k]; exact HC.n3
    have few := hN.few hh
    have hd1 := hh.d1
    have hd4 := hh.d4
    have j1 : 1 ≤ n + 4 := by omega
    have hP := hN.places hh
    subst hX
    refine seq (st (w := .d (.tuple [en names, en (boundsOf (names.map (placeAt h)))])) 3 (t2 (nm 1) (cl h1 (names.map (placeAt h)) at_ hr (a1 (pd_eq (pd_lc rfl sc74.nd names Enc.enc (fun n => en (placeAt h n)) (own := [("name", 9)]) (pid_tup (nm 1)) (blkOk_by (N := N74) (sc := defScope (meth 74 1)) (by decide +kernel)) (fun x hx => ⟨_, _, by decide, fun s H C cl fp => gn 9 sc74.nd, fun s H C' c' fp => pd_dget (Nat.lt_of_le_of_lt (Nat.add_le_add_left (by decide : 1 ≤ 64) _) hu) (pd_fld (w := .inr (placesD h)) hc n2 (nm 0)) (nm 9) (places_look h x (hN.sub x hx)) (by exact fun _ _ => rfl)⟩) (by omega) (by intro _; rfl)) (by rw [List.map_map]; rfl))) hP j1)) sc74.nd) ?_
    refine ifR (k := decide (names.length = 1)) (ptEq (cmpT (cb at_ B.len (cd_len (ds := names.map Enc.enc) rfl) (a1 (nm 1))) pd_int (od_eqI hu)) (by rw [List.length_map, decide_eq_decide]; omega)) (fun e => rt (pd_eq (bop (nm 3) (t2 pd_non pd_non) (od_catT (by show 2 + 2 ≤ _; decide))) ?_)) (fun e => ?_)
    · have e' : names.length = 1 := of_decide_eq_true e
      obtain ⟨x, rfl⟩ := List.length_eq_one_iff.mp e'
      cases n with
      | zero => rfl
      | succ n =>
        show _ = Sl.d (encTr (treeOf h (n + 1) [x] turn))
        unfold treeOf
        rw [if_pos e']
        rfl
    have e' : ¬ names.length = 1 := of_decide_eq_false e
    have l2 : 2 ≤ names.length := by
      have : names.length ≠ 0 := fun q => hN.ne (List.length_eq_zero_iff.mp q)
      omega
    obtain ⟨k, rfl⟩ : ∃ k, n = k + 1 := ⟨n - 1, by omega⟩
    have ih := rec k rfl
    have hrow := rowIn_perm hh hN turn
    have hrl := hrow.length_eq
    refine seq (st 4 (ct at_ B.dict (cd_dict (kvs := knownD names) rfl (known_nd hN.nd)) (a1 (pd_eq (pd_lc rfl sc74.nd names Enc.enc (fun n => .tuple [.int n, .bool true]) (own := [("name", 9)]) (pid_tup (nm 1)) (blkOk_by (N := N74) (sc := defScope (meth 74 1)) (by decide +kernel)) (fun x hx => ⟨_, _, by decide, fun s H C cl fp => gn 9 sc74.nd, fun s H C' c' fp => t2 (nm 9) pd_bl⟩) (by omega) (by intro _; rfl)) (by unfold pairsD knownD; rw [List.map_map]; rfl)))) sc74.nd) ?_
    refine seq (pds_lcF (i := 5) rfl sc74.nd rfl rfl (sw_true rfl rfl rfl (by decide +kernel)) (rowN h turn) Enc.enc (fun x => decide (x ∈ names)) (fun x => .int x) (own := [("name", 9)]) (pid_tup (pd_ix (ds := (List.range h.d).map fun i => en (rowN h i)) rfl (d := en (rowN h turn)) (atI_nat (by rw [List.getElem?_map, List.getElem?_range ht]; rfl)) (pd_fld (w := .inl (.list ((List.range h.d).map fun i => en (rowN h i)))) hc n3 (nm 0)) (nm 2) (fun _ _ => rfl))) (blkOk_by (N := N74) (sc := defScope (meth 74 1)) (by decide +kernel)) (fun x hx => ⟨_, _, by decide, fun s H C cl fp => gn 9 sc74.nd, fun s H C' c' fp => pts1 (ptEq (ptd_din (Nat.lt_of_le_of_lt (Nat.add_le_add_left (by decide : 1 ≤ 64) _) hu) (nm 9) (nm 4) rfl) (known_has names x)), fun _ s H C' c' fp => nm 9⟩) (by rw [(rowN_perm h turn).length_eq, List.length_map]; exact Nat.le_trans hh.many (by decide)) (by intro _; rfl)) ?_
    have er : ((rowN h turn).filter fun x => decide (x ∈ names)) = rowIn h names turn := rfl
    rw [er]
    show PSs _ _ (tDS _ _ (.ret (.d (encTr (treeOf h (k + 1) names turn)))))
    unfold treeOf
    rw [if_neg e']
    generalize rowIn h names turn = row at hrow hrl ⊢
    have m1 : 1 ≤ (row.length + 1) / 2 := by omega
    have m2 : (row.length + 1) / 2 < row.length := by omega
    have N1 : NamesIn h (sortI (row.take ((row.length + 1) / 2))) := hN.half hrow (List.take_sublist _ _) (fun q => by have := congrArg List.length q; rw [List.length_take, List.length_nil] at this; omega)
    have N2 : NamesIn h (sortI (row.drop ((row.length + 1) / 2))) := hN.half hrow (List.drop_sublist _ _) (fun q => by have := congrArg List.length q; rw [List.length_drop, List.length_nil] at this; omega)
    have L1 : (sortI (row.take ((row.length + 1) / 2))).length ≤ k + 1 := by rw [(sortI_perm _).length_eq, List.length_take]; omega
    have L2 : (sortI (row.drop ((row.length + 1) / 2))).length ≤ k + 1 := by rw [(sortI_perm _).length_eq, List.length_drop]; omega
    have tm : (turn + 1) % h.d < h.d := Nat.mod_lt _ hd1
    refine seq (st 6 (cl h2 row.length at_ hr (a1 (pd_eq (cb at_ B.len (cd_len (ds := row.map (fun x => PyData.int x)) rfl) (a1 (nm 5))) (by rw [List.length_map]))) trivial j1) sc74.nd) ?_
    refine seq (st 7 (pd_eq (w' := .d (.int (((turn + 1) % h.d : Nat) : Int))) (bop (bop (nm 2) pd_int od_add) (pd_fld (w := .inl (.int (h.d : Int))) hc n1 (nm 0)) (od_mod (by omega))) (by rw [Int.natCast_emod]; rfl)) sc74.nd) ?_
    refine seq (st 8 (pd_meth at_ ih hc (hr.mono (by omega)) (nm 0) (a2 (ct at_ B.tuple (cd_tup rfl) (a1 (cb at_ B.sorted (cd_sortI hu (row.take ((row.length + 1) / 2))) (a1 (pd_eq (pd_slL (ds := row.map (fun x => PyData.int x)) (nm 5) pdo_none (pdo_some (nm 6))) (by rw [cutTo _ _ (by rw [List.length_map]; omega), List.map_take])))))) (nm 7)) ⟨(h, sortI (row.take ((row.length + 1) / 2)), (turn + 1) % h.d), ⟨hh, N1, L1, tm⟩, rfl, rfl⟩) sc74.nd) ?_
    refine rt (pd_eq (bop (nm 3) (t2 (nm 8) (pd_meth at_ ih hc (hr.mono (by omega)) (nm 0) (a2 (ct at_ B.tuple (cd_tup rfl) (a1 (cb at_ B.sorted (cd_sortI hu (row.drop ((row.length + 1) / 2))) (a1 (pd_eq (pd_slL (ds := row.map (fun x => PyData.int x)) (nm 5) (pdo_some (nm 6)) pdo_none) (by rw [cutFrom _ _ (by rw [List.length_map]; omega), List.map_drop])))))) (nm 7)) ⟨(h, sortI (row.drop ((row.length + 1) / 2)), (turn + 1) % h.d), ⟨hh, N2, L2, tm⟩, rfl, rfl⟩)) (od_catT (by show 2 + 2 ≤ _; decide))) rfl)
  intro n
  induction n with
  | zero => exact first 0 fun k e => absurd e (by omega)
  | succ n ih =>
    refine first (n + 1) fun k e => ?_
    obtain rfl : k = n := by omega
    exact ih
def turnsD (h : House) : Option Tr := if h.things = [] then none else some (treeOf h 30 (h.things.map (·.name)) 0)

theorem lay_things : ∀ ts : List Thing, PyData.canLayAll0 (ts.map encThing) = true
  | [] => rfl
  | t :: ts => by
    show ((encThing t).canLay0 && PyData.canLayAll0 (ts.map encThing)) = true
    rw [lay_things ts, Bool.and_true]
    show (true && ((en t.place).canLay0 && (true && true))) = true
    rw [Enc.lay]; rfl
theorem depth_things (ts : List Thing) : PyData.depthAll (ts.map encThing) ≤ 2 := by
  induction ts with
  | nil => exact Nat.zero_le _
  | cons t ts ih =>
    have h := depth_thing t
    show max (encThing t).depth (PyData.depthAll (ts.map encThing)) ≤ 2
    omega
theorem od_eqThings {X : Cx} (hu : X.A.units + 64 < cLine) (ts : List Thing) : OpR X (compareOp .Eq) (rD X.K (.d (.tuple (ts.map encThing))) (.d (.tuple [])) (.d (.bool (decide (ts = []))))) := by
  have hd := depth_things ts
  have q := od_eq (X := X) (x := .tuple (ts.map encThing)) (y := .tuple []) hu (by
    unfold shaped
    have h1 : (PyData.tuple (ts.map encThing)).canLay0 = true := lay_things ts
    rw [h1, Bool.true_and, decide_eq_true_eq]
    show PyData.depthAll (ts.map encThing) + 1 ≤ 64
    omega) rfl
  have e : PyData.eqv (.tuple (ts.map encThing)) (.tuple []) = decide (ts = []) := by
    cases ts with
    | nil => simp [PyData.eqv, PyData.eqvAll]
    | cons t ts => simp [PyData.eqv, PyData.eqvAll]
  rw [e] at q
  exact q
abbrev Rturns := Rf (A := House) (fun a => HouseOk a) (fun a => [.d (encHouse a)]) (fun a => .d (encOT (turnsD a)))
abbrev N75 : List Str := ["house", "thing"]
theorem sc75 : FnScope N75 ["house"] (defScope (top 75)) := ⟨rfl, rfl, rfl, by decide +kernel, rfl, by decide +kernel, by decide +kernel⟩
theorem ok_turns (F : Fd C.K "turns" "turns" (top 75) f fd) (m : C.mg "turns" = some (.ref f)) {Cl : Addr} (B : Blt C) (HC : HalverC C Cl) (h1 : HasI C Cl 6 (spInit C.K Cl (A := House) HouseOk (fun a => [.d (encHouse a)]) halverF)) (h2 : HasM C Cl "tree_of" 35 (spR C.K (Rtree_of Cl 30))) : Has C "turns" 41 Rturns := by
  refine has_fn (fun a => [some (.d (encHouse a)), none]) F m sc75 (by decide) (fun _ _ _ _ _ _ us hl => match us, hl with | [_], _ => rfl) (fun _ => rfl) (fun _ => rfl) fun X a at_ hr hp ⟨cdv, A, outer, s, H, E, hX⟩ => ?_
  have hu : X.A.units + 64 < cLine := hr.units
  subst hX
  have hc : Cls (cxOf CX0 C.P C.w C.K C.mg C.base N75 "turns" (defScope (top 75)) f cdv A outer s H E).nox.K Cl := HC.cls
  have fl : a.things.length ≤ 100000 := Nat.le_trans hp.many (by decide)
  have hd1 := hp.d1
  refine ifR (k := decide (a.things = [])) (cmpT (ix 1 (nm 0)) t0 (od_eqThings hu a.things)) (fun e => rt (pd_eq pd_non ?_)) (fun e => rt (pd_eq (pd_meth at_ h2 hc (hr.mono (by decide)) (pd_make at_ h1 a HC.mg hr (a1 (nm 0)) hp) (a2 (pd_eq (ct at_ B.tuple (cd_tup rfl) (a1 (pd_lc rfl sc75.nd a.things encThing (fun t => .int t.name) (own := [("thing", 1)]) (pid_tup (ix 1 (nm 0))) (blkOk_by (N := N75) (sc := defScope (top 75)) (by decide +kernel)) (fun t ht => ⟨_, _, by decide, fun s H C cl fp => gn 1 sc75.nd, fun s H C' c' fp => ix 0 (nm 1)⟩) fl (by intro _; rfl)))) (w' := ed (a.things.map (·.name))) ?_) pd_int) ⟨(a, a.things.map (·.name), 0), ⟨hp, ⟨?_, hp.nodup, fun n hn => hn⟩, ?_, hd1⟩, rfl, rfl⟩) ?_))
  · unfold turnsD
    rw [if_pos (of_decide_eq_true e)]
    rfl
  · show Sl.d (.tuple _) = .d (.tuple (List.map Enc.enc _))
    rw [List.map_map]
    rfl
  · have := of_decide_eq_false e
    simpa using this
  · show (a.things.map (·.name)).length ≤ 31
    rw [List.length_map]; exact Nat.le_trans hp.many (by decide)
  · unfold turnsD
    rw [if_neg (of_decide_eq_false e)]
    rfl
end
end Bx
/-! code that draws from the list of what is left, and that may make lambdas: all else stays -/
namespace Bx
open PySem L2 PySem.SeqAt
open LamX (Tabs)
/-- all but code objects' tables stays -/
def SameN (H H' : Hp) : Prop := ∀ b o, H b = some o → (∀ ps, o ≠ .tbl ps) → H' b = some o
theorem SameN.refl (H : Hp) : SameN H H := fun _ _ e _ => e
theorem SameN.trans {H H1 H2 : Hp} (a : SameN H H1) (b : SameN H1 H2) : SameN H H2 := fun c o e n => b c o (a c o e n) n
theorem SameN.of {H H' : Hp} (s : Same H H') : SameN H H' := fun b o e _ => s b o e
section
variable {K : PySem.W.Frag} {H H' : Hp} {L : Addr}
theorem sqTN (e : SameN H H') {a : Addr} {xs : List V} (h : SqT K H a xs) : SqT K H' a xs := by
  rcases h with (h | ⟨o, h⟩) | h
  · exact .inl (.inl (e _ _ h nofun))
  · exact .inl (.inr ⟨o, e _ _ h nofun⟩)
  · exact .inr h
theorem sqLN (e : SameN H H') {a : Addr} {xs : List V} (h : SqL K H a xs) : SqL K H' a xs := by
  rcases h with (h | ⟨o, h⟩) | h
  · exact .inl (.inl (e _ _ h nofun))
  · exact .inl (.inr ⟨o, e _ _ h nofun⟩)
  · exact .inr h
mutual
theorem dpN (e : SameN H H') : ∀ {v : V} {d : PyData}, Dp K H v d → Dp K H' v d
  | _, _, .non => .non
  | _, _, .bl b => .bl b
  | _, _, .int i => .int i
  | _, _, .str x => .str x
  | _, _, .lst s a => .lst (sqLN e s) (dpAllN e a)
  | _, _, .tup s a => .tup (sqTN e s) (dpAllN e a)
theorem dpAllN (e : SameN H H') : ∀ {vs : List V} {ds : List PyData}, DpAll K H vs ds → DpAll K H' vs ds
  | _, _, .nil => .nil
  | _, _, .cons h t => .cons (dpN e h) (dpAllN e t)
end
theorem heldFN (e : SameN H H') {v : V} : ∀ {w : FV}, HeldF K H v w → HeldF K H' v w
  | .inl _, h => dpN e h
  | .inr _, ⟨a, ws, h1, h2, h3⟩ => ⟨a, ws, h1, e _ _ h2 nofun, Paired.mapP h3 fun _ _ ⟨a, b⟩ => ⟨a, dpN e b⟩⟩
theorem heldVN (e : SameN H H') {v : V} : ∀ {w : Sl}, HeldV K H v w → HeldV K H' v w
  | .d _, h => dpN e h
  | .dc _, h => heldFN (w := .inr _) e h
  | .v _, h => h
  | .ob _ _, ⟨a, dx, us, h1, h2, h3⟩ => ⟨a, dx, us, h1, e _ _ h2 nofun, Paired.mapP h3 fun _ _ ⟨a, b⟩ => ⟨a, heldFN e b⟩⟩
theorem heldN (e : SameN H H') {σ : L2.St} {ρ : Ev} (h : Held K H σ ρ) : Held K H' σ ρ := ⟨h.len, fun i w q => let ⟨v, a, b⟩ := h.at_ i w q; ⟨v, a, heldVN e b⟩⟩
theorem heldVsN (e : SameN H H') {vs : List V} {ws : List Sl} (h : HeldVs K H vs ws) : HeldVs K H' vs ws := Paired.mapP h fun _ _ q => heldVN e q
/-- data without lists doesn't lean on a list -/
theorem dpMsk {o : HO} (hL : H L = some o) (ht : ∀ xs, o ≠ .tup xs) (hz : ∀ u w, o ≠ .frz u w) {v : V} {d : PyData} (n : noL d = true) (h : Dp K H v d) : Dp K (msk L H) v d :=
  dpTups (fun b xs => ⟨fun e => by
    rw [msk_ne (fun q => by rw [q, hL] at e; exact ht xs (Option.some.inj e))]
    exact e, fun u e => by
    rw [msk_ne (fun q => by rw [q, hL] at e; exact hz u _ (Option.some.inj e))]
    exact e⟩) n h
end
/-! ### what is left -/
def LeftOk (vs : List V) : Prop := ∃ a b c : Int, vs = [.int a, .int b, .int c] ∧ 0 ≤ a ∧ 0 ≤ b ∧ b < 2147483647 ∧ 0 ≤ c
structure GL (T : List (Addr × Str)) (L : Addr) (H : Hp) : Prop where
  left : ∃ vs, H L = some (.lst vs) ∧ LeftOk vs
  tabs : Tabs T H
theorem tabs_msk {T : List (Addr × Str)} {L : Addr} {H : Hp} {vs : List V} (hL : H L = some (.lst vs)) (t : Tabs T H) : Tabs T (msk L H) := fun p hp => by
  obtain ⟨ps, h1, h2, h3⟩ := t p hp
  refine ⟨ps, ?_, h2, fun pos cv hc => ?_⟩
  · rw [msk_ne (fun q => by rw [q, hL] at h1; cases h1)]; exact h1
  · obtain ⟨c, e1, e2⟩ := h3 pos cv hc
    refine ⟨c, e1, ?_⟩
    rw [msk_ne (fun q => by rw [q, hL] at e2; have := Option.some.inj e2; unfold LamX.CodeO at this; cases this)]
    exact e2
theorem tabs_back {T : List (Addr × Str)} {L : Addr} {H H' : Hp} {vs : List V} (t : Tabs T H) (s : ∀ b o, H b = some o → H' b = some o) : Tabs T H' := t.ext s
theorem GL.back {T : List (Addr × Str)} {L : Addr} {H H1 : Hp} {vs : List V} (g : GL T L H) (hL : H L = some (.lst vs)) (s : Same (msk L H) H1) (n : H1 L = none) : GL T L (upd H1 L (.lst vs)) := by
  obtain ⟨ws, e1, e2⟩ := g.left
  rw [hL] at e1
  cases e1
  exact ⟨⟨vs, upd_same, e2⟩, ((tabs_msk hL g.tabs).ext s).ext (sameNew n)⟩
/-! ### readings -/
/-- it gives some w of W -/
def tLE (K : PySem.W.Frag) (T : List (Addr × Str)) (L : Addr) (ρ : Ev) (W : Sl → Prop) : TE := fun σ H Q => Held K (msk L H) σ ρ ∧ GL T L H ∧ ∀ v H' w, W w → SameN (msk L H) (msk L H') → GL T L H' → HeldV K (msk L H') v w → Q v H'
def AllW : List (Sl → Prop) → List Sl → Prop := Paired fun W w => W w
def tLA (K : PySem.W.Frag) (T : List (Addr × Str)) (L : Addr) (ρ : Ev) (Ws : List (Sl → Prop)) : TA := fun σ H Q => Held K (msk L H) σ ρ ∧ GL T L H ∧ ∀ vs H' ws, AllW Ws ws → SameN (msk L H) (msk L H') → GL T L H' → HeldVs K (msk L H') vs ws → Q vs H'
def tLT (K : PySem.W.Frag) (T : List (Addr × Str)) (L : Addr) (ρ : Ev) (P : Bool → Prop) : TT := fun σ H Q => Held K (msk L H) σ ρ ∧ GL T L H ∧ ∀ b H', P b → SameN (msk L H) (msk L H') → GL T L H' → Q b H'
inductive OutL where
  | ret (W : Sl → Prop)
  | nxt (P : Ev → Prop)
def OutL.want (K : PySem.W.Frag) (T : List (Addr × Str)) (L : Addr) (D : Ends) (H : Hp) : OutL → Prop
  | .ret W => ∀ v H' w, W w → SameN (msk L H) (msk L H') → GL T L H' → HeldV K (msk L H') v w → D.rt v H'
  | .nxt P => ∀ σ' H' ρ', P ρ' → SameN (msk L H) (msk L H') → GL T L H' → Held K (msk L H') σ' ρ' → D.nx σ' H'
theorem OutL.want.mono {K : PySem.W.Frag} {T : List (Addr × Str)} {L : Addr} {D : Ends} {H H' : Hp} (e : SameN (msk L H) (msk L H')) : ∀ {o : OutL}, o.want K T L D H → o.want K T L D H'
  | .ret _, h => fun v H2 w a s g q => h v H2 w a (e.trans s) g q
  | .nxt _, h => fun σ H2 ρ a s g q => h σ H2 ρ a (e.trans s) g q
def tLS (K : PySem.W.Frag) (T : List (Addr × Str)) (L : Addr) (ρ : Ev) (o : OutL) : TS := fun D σ H => Held K (msk L H) σ ρ ∧ GL T L H ∧ o.want K T L D H
section
variable {X : Cx} {T : List (Addr × Str)} {L : Addr} {ρ ρ' : Ev} {e a b c : Expr} {es : List Expr} {W W1 W2 W3 : Sl → Prop} {w : Sl} {pos : Pos} {st : Stmt} {sts rest : List Stmt} {o : OutL}
theorem le_weak (h : PE X e (tLE X.K T L ρ W)) (i : ∀ w, W w → W1 w) : PE X e (tLE X.K T L ρ W1) := peI h fun σ H Q ⟨hh, g, k⟩ => ⟨hh, g, fun v H' w a => k v H' w (i w a)⟩
theorem le_pure (h : PE X e (tD X.K ρ w)) : PE X e (tLE X.K T L ρ (· = w)) :=
  peI (pe_fr h L) fun σ H Q ⟨hh, g, k⟩ => by
    obtain ⟨vs, hL, ok⟩ := g.left
    refine ⟨vs, hL, hh, fun v H1 s q n => k v _ w rfl ?_ (g.back hL s n) ?_⟩
    · rw [msk_upd n]; exact .of s
    · rw [msk_upd n]; exact q
theorem lt_pure {k : Bool} (h : PT X e (tDT X.K ρ k)) : PT X e (tLT X.K T L ρ (· = k)) :=
  ptI (pt_fr h L) fun σ H Q ⟨hh, g, q⟩ => by
    obtain ⟨vs, hL, ok⟩ := g.left
    refine ⟨vs, hL, hh, fun H1 s n => q k _ rfl ?_ (g.back hL s n)⟩
    rw [msk_upd n]; exact .of s
theorem la_nil : PA X [] (tLA X.K T L ρ []) := paI pa_nil fun σ H Q ⟨hh, g, k⟩ => k [] H [] .nil (.refl _) g .nil
theorem la_cons {Ws : List (Sl → Prop)} (ha : PE X e (tLE X.K T L ρ W)) (hr : PA X es (tLA X.K T L ρ Ws)) (hs : starEach (e :: es) X.env = (false, eval e X.env) :: starEach es X.env := by rfl) : PA X (e :: es) (tLA X.K T L ρ (W :: Ws)) :=
  paI (pa_cons ha hr hs) fun σ H Q ⟨hh, g, k⟩ => ⟨hh, g, fun v H1 w a s g1 q => ⟨heldN s hh, g1, fun vs H2 ws as s2 g2 q2 => k (v :: vs) H2 (w :: ws) (.cons a as) (s.trans s2) g2 (.cons (heldVN s2 q) q2)⟩⟩
theorem la_pure {ws : List Sl} (h : PA X es (tDs X.K ρ ws)) : PA X es (fun σ H Q => Held X.K (msk L H) σ ρ ∧ GL T L H ∧ ∀ vs H', SameN (msk L H) (msk L H') → GL T L H' → HeldVs X.K (msk L H') vs ws → Q vs H') :=
  paI (pa_fr h L) fun σ H Q ⟨hh, g, k⟩ => by
    obtain ⟨vs, hL, ok⟩ := g.left
    refine ⟨vs, hL, hh, fun us H1 s q n => k us _ ?_ (g.back hL s n) ?_⟩
    · rw [msk_upd n]; exact .of s
    · rw [msk_upd n]; exact q
theorem SameN.new {H : Hp} {p : Addr} {u : HO} (hn : H p = none) : SameN (msk L H) (msk L (upd H p u)) := fun b o e _ => by
  by_cases q : b = L
  · subst q; rw [msk_at] at e; cases e
  · rw [msk_ne q] at e ⊢
    rw [upd_ne (ne_of_none e hn)]; exact e
theorem GL.new {H : Hp} {p : Addr} {u : HO} (g : GL T L H) (hn : H p = none) : GL T L (upd H p u) := by
  obtain ⟨vs, hL, ok⟩ := g.left
  exact ⟨⟨vs, by rw [upd_ne (ne_of_none hL hn)]; exact hL, ok⟩, g.tabs.ext (sameNew hn)⟩
/-- what all hold -/
def EachD (Ws : List (Sl → Prop)) (ds : List PyData) : Prop := AllW Ws (ds.map .d)
theorem allD : ∀ {Ws : List (Sl → Prop)} {ws : List Sl}, (∀ W ∈ Ws, ∀ w, W w → ∃ d, w = .d d) → AllW Ws ws → ∃ ds : List PyData, ws = ds.map Sl.d
  | _, _, _, .nil => ⟨[], rfl⟩
  | _, _, h, .cons a t => by
    obtain ⟨d, rfl⟩ := h _ (List.mem_cons_self ..) _ a
    obtain ⟨ds, rfl⟩ := allD (fun W hW => h W (List.mem_cons_of_mem _ hW)) t
    exact ⟨d :: ds, rfl⟩
/-- [a, ..] and (a, ..) of such -/
theorem le_lst {Ws : List (Sl → Prop)} (h : PA X es (tLA X.K T L ρ Ws)) (hd : ∀ W ∈ Ws, ∀ w, W w → ∃ d, w = .d d) (hz : Ws.length ≤ 100) : PE X (.List es pos) (tLE X.K T L ρ (fun w => ∃ ds, EachD Ws ds ∧ w = .d (.list ds))) :=
  peI (pe_lst h) fun σ H Q ⟨hh, g, k⟩ => ⟨hh, g, fun vs H1 ws as s g1 q => by
    obtain ⟨ds, rfl⟩ := allD hd as
    refine ⟨by rw [q.len, ← Paired.length as]; exact Nat.le_trans hz (by decide), fun p hp => k (.ref p) _ _ ⟨ds, as, rfl⟩ (s.trans (.new hp)) (g1.new hp) ?_⟩
    have np : p ≠ L := fun q => by obtain ⟨vs, hL, _⟩ := g1.left; rw [← q, hp] at hL; cases hL
    exact Dp.lst (SqL.of (by rw [msk_ne np, upd_same])) (dpAllN (.new hp) (heldVs_dp q))⟩
theorem le_tup {Ws : List (Sl → Prop)} {k : Nat} (h : PA X es (tLA X.K T L ρ Ws)) (hd : ∀ W ∈ Ws, ∀ w, W w → ∃ d, w = .d d) (hz : Ws.length ≤ 100) : PE X (.Tuple es k pos) (tLE X.K T L ρ (fun w => ∃ ds, EachD Ws ds ∧ w = .d (.tuple ds))) :=
  peI (pe_tup h) fun σ H Q ⟨hh, g, k⟩ => ⟨hh, g, fun vs H1 ws as s g1 q => by
    obtain ⟨ds, rfl⟩ := allD hd as
    refine ⟨by rw [q.len, ← Paired.length as]; exact Nat.le_trans hz (by decide), fun p hp => k (.ref p) _ _ ⟨ds, as, rfl⟩ (s.trans (.new hp)) (g1.new hp) ?_⟩
    have np : p ≠ L := fun q => by obtain ⟨vs, hL, _⟩ := g1.left; rw [← q, hp] at hL; cases hL
    exact Dp.tup (SqT.of (by rw [msk_ne np, upd_same])) (dpAllN (.new hp) (heldVs_dp q))⟩
/-- a[b], a's items and b drawn -/
theorem le_ix {P : List PyData → Prop} {n : Nat} (ha : PE X a (tLE X.K T L ρ (fun w => ∃ ds, P ds ∧ w = .d (.list ds)))) (hb : PE X b (tLE X.K T L ρ (fun w => ∃ i : Nat, i < n ∧ w = .d (.int (i : Int))))) (hn : ∀ ds, P ds → n ≤ ds.length) (hs : PlainIx b) : PE X (.Subscript a b pos) (tLE X.K T L ρ (fun w => ∃ ds d, P ds ∧ d ∈ ds ∧ w = .d d)) :=
  peI (pe_ix ix_list ha hb hs) fun σ H Q ⟨hh, g, k⟩ => ⟨hh, g, fun v H1 w ⟨ds, hP, ew⟩ s g1 q => ⟨heldN s hh, g1, fun u H2 w2 ⟨i, hi, ew2⟩ s2 g2 q2 => by
    subst ew ew2
    obtain ⟨p, xs, rfl, h1, h2⟩ := dpLstR (heldVN s2 q)
    have eu := dpInt q2
    have hl : i < ds.length := Nat.lt_of_lt_of_le hi (hn ds hP)
    obtain ⟨v, q3, q4⟩ := dpAllAt h2 (List.getElem?_eq_getElem hl)
    exact ⟨p, xs, (i : Int), v, rfl, eu, Same.seq msk_le h1, atI_nat q3, k v H2 _ ⟨ds, _, hP, List.getElem_mem hl, rfl⟩ (s.trans s2) g2 q4⟩⟩⟩
/-- a op b of ints, texts .. -/
theorem le_bop {op : Operator} (ha : PE X a (tLE X.K T L ρ W1)) (hb : PE X b (tLE X.K T L ρ W2)) (ho : ∀ w1 w2, W1 w1 → W2 w2 → ∃ d, W3 (.d d) ∧ noL d = true ∧ OpR X (binaryOp op) (rD X.K w1 w2 (.d d))) : PE X (.BinOp a op b pos) (tLE X.K T L ρ W3) := by
  have hO : OpR X (binaryOp op) (fun x y H Q => ∃ w1 w2 d, OpR X (binaryOp op) (rD X.K w1 w2 (.d d)) ∧ rD X.K w1 w2 (.d d) x y H Q) := fun pins s σ H x y v u Q I rx ry ⟨w1, w2, d, h, q⟩ => h pins s σ H x y v u Q I rx ry q
  refine peI (pe_op hO ha hb) fun σ H Q ⟨hh, g, k⟩ => ⟨hh, g, fun v H1 w1 a1 s g1 q => ⟨heldN s hh, g1, fun u H2 w2 a2 s2 g2 q2 => ?_⟩⟩
  obtain ⟨d, h3, n, h⟩ := ho w1 w2 a1 a2
  refine ⟨w1, w2, d, h, (heldVN s2 q).mono msk_le, q2.mono msk_le, fun z H3 s3 q3 => k z H3 _ h3 ?_ ?_ ?_⟩
  · refine (s.trans s2).trans fun b o e _ => ?_
    by_cases q : b = L
    · subst q; rw [msk_at] at e; cases e
    · rw [msk_ne q] at e ⊢; exact s3 b o e
  · obtain ⟨vs, hL, ok⟩ := g2.left
    exact ⟨⟨vs, s3 _ _ hL, ok⟩, g2.tabs.ext s3⟩
  · obtain ⟨vs, hL, ok⟩ := g2.left
    exact dpMsk (o := .lst vs) (s3 _ _ hL) (fun _ z => by cases z) (fun _ _ z => by cases z) n q3
theorem lt_cmp {op : CmpOp} {P : Bool → Prop} (ha : PE X a (tLE X.K T L ρ W1)) (hb : PE X b (tLE X.K T L ρ W2)) (ho : ∀ w1 w2, W1 w1 → W2 w2 → ∃ k, P k ∧ OpR X (compareOp op) (rD X.K w1 w2 (.d (.bool k)))) (hm : behindInMarks op b = false := by first | exact nobehind _ (by decide) (by decide) | rfl) : PT X (.Compare a [op] [b] pos) (tLT X.K T L ρ P) := by
  have hO : OpR X (compareOp op) (fun x y H Q => ∃ w1 w2 d, OpR X (compareOp op) (rD X.K w1 w2 (.d d)) ∧ rD X.K w1 w2 (.d d) x y H Q) := fun pins s σ H x y v u Q I rx ry ⟨w1, w2, d, h, q⟩ => h pins s σ H x y v u Q I rx ry q
  refine ptI (pt_cmpR hO ha hb hm) fun σ H Q ⟨hh, g, k⟩ => ⟨hh, g, fun v H1 w1 a1 s g1 q => ⟨heldN s hh, g1, fun u H2 w2 a2 s2 g2 q2 => ?_⟩⟩
  obtain ⟨d, h3, h⟩ := ho w1 w2 a1 a2
  refine ⟨w1, w2, _, h, (heldVN s2 q).mono msk_le, q2.mono msk_le, fun z H3 s3 q3 => ⟨d, dpBl q3, k d H3 h3 ?_ ?_⟩⟩
  · refine (s.trans s2).trans fun b o e _ => ?_
    by_cases q : b = L
    · subst q; rw [msk_at] at e; cases e
    · rw [msk_ne q] at e ⊢; exact s3 b o e
  · obtain ⟨vs, hL, ok⟩ := g2.left
    exact ⟨⟨vs, s3 _ _ hL, ok⟩, g2.tabs.ext s3⟩
/-! statements -/
theorem ls_seq {P : Ev → Prop} (h1 : PS X st (tLS X.K T L ρ (.nxt P))) (h2 : ∀ ρ', P ρ' → PSs X sts (tLS X.K T L ρ' o)) : PSs X (st :: sts) (tLS X.K T L ρ o) :=
  pssI (pss_cons h1 pss_w) fun D σ H ⟨hh, g, k⟩ => ⟨hh, g, fun σ' H' ρ' hp s g' q => ⟨_, h2 ρ' hp, q, g', k.mono s⟩⟩
theorem ls_one (h1 : PS X st (tLS X.K T L ρ o)) : PSs X [st] (tLS X.K T L ρ o) := pssI (pss_one h1) fun D σ H h => h
theorem ls_end {W : Sl → Prop} (h1 : PS X st (tLS X.K T L ρ (.ret W))) : PSs X (st :: sts) (tLS X.K T L ρ (.ret W)) := pssI (pss_cons h1 pss_never) fun D σ H h => h
theorem ls_nil : PSs X [] (tLS X.K T L ρ (.nxt (· = ρ))) := pssI pss_nil fun D σ H ⟨hh, g, k⟩ => k σ H ρ rfl (.refl _) g hh
theorem ls_weak {P P' : Ev → Prop} (h : PSs X sts (tLS X.K T L ρ (.nxt P))) (i : ∀ ρ, P ρ → P' ρ) : PSs X sts (tLS X.K T L ρ (.nxt P')) := pssI h fun D σ H ⟨hh, g, k⟩ => ⟨hh, g, fun σ' H' ρ' hp => k σ' H' ρ' (i ρ' hp)⟩
theorem ls_weak1 {P P' : Ev → Prop} (h : PS X st (tLS X.K T L ρ (.nxt P))) (i : ∀ ρ, P ρ → P' ρ) : PS X st (tLS X.K T L ρ (.nxt P')) := psI h fun D σ H ⟨hh, g, k⟩ => ⟨hh, g, fun σ' H' ρ' hp => k σ' H' ρ' (i ρ' hp)⟩
theorem ls_weakR {W W' : Sl → Prop} (h : PSs X sts (tLS X.K T L ρ (.ret W))) (i : ∀ w, W w → W' w) : PSs X sts (tLS X.K T L ρ (.ret W')) := pssI h fun D σ H ⟨hh, g, k⟩ => ⟨hh, g, fun v H' w hp => k v H' w (i w hp)⟩
theorem ls_ret (h : PE X e (tLE X.K T L ρ W)) : PSs X (.Return (some e) pos :: rest) (tLS X.K T L ρ (.ret W)) := ls_end (psI (ps_ret h) fun D σ H ⟨hh, g, k⟩ => ⟨hh, g, fun v H' w a s g' q => k v H' w a s g' q⟩)
theorem ls_pure (h : PS X st (tDS X.K ρ (.nxt ρ'))) : PS X st (tLS X.K T L ρ (.nxt (· = ρ'))) :=
  psI (ps_fr h L) fun D σ H ⟨hh, g, k⟩ => by
    obtain ⟨vs, hL, ok⟩ := g.left
    refine ⟨vs, hL, hh, fun σ' H' s q n => k σ' _ ρ' rfl ?_ (g.back hL s n) ?_⟩
    · rw [msk_upd n]; exact .of s
    · rw [msk_upd n]; exact q
theorem ls_pures (h : PSs X sts (tDS X.K ρ (.ret w))) : PSs X sts (tLS X.K T L ρ (.ret (· = w))) :=
  pssI (pss_fr h L) fun D σ H ⟨hh, g, k⟩ => by
    obtain ⟨vs, hL, ok⟩ := g.left
    refine ⟨vs, hL, hh, fun v H' s q n => k v _ w rfl ?_ (g.back hL s n) ?_⟩
    · rw [msk_upd n]; exact .of s
    · rw [msk_upd n]; exact q
theorem ls_set {x : Str} {pos' : Pos} (i : Nat) (he : PE X e (tLE X.K T L ρ W)) (hN : X.N.Nodup) (hi : X.N[i]? = some x := by rfl) (hx : Loc X.env.scope x := by first | exact Or.inl rfl | exact Or.inr rfl) (hs : swapsWith e (some (.Name x pos')) pos.line X.env = pure false := by rfl) (hf : X.fn x = true ∨ X.env.scope.names.lookup x = some .local := by first | exact Or.inl rfl | exact Or.inr rfl) :
    PS X (.Assign [.Name x pos'] e pos) (tLS X.K T L ρ (.nxt fun ρ' => ∃ w, W w ∧ ρ' = ρ.set i (some w))) :=
  psI (ps_set hN hi hx he hs hf) fun D σ H ⟨hh, g, k⟩ => ⟨hh, g, fun v H' w a s g' q => k _ H' _ ⟨w, a, rfl⟩ s g' ((heldN s hh).set i q)⟩
/-- a, b = x, y -/
theorem ls_par {x y : Str} {px py pt : Pos} {kt k2 : Nat} {pt2 : Pos} (i j : Nat) (ha : PA X [a, b] (tLA X.K T L ρ [W1, W2])) (hN : X.N.Nodup) (hij : i ≠ j := by decide) (hi : X.N[i]? = some x := by rfl) (hj : X.N[j]? = some y := by rfl)
    (hx : X.env.scope.names.lookup x = some .local := by rfl) (hy : X.env.scope.names.lookup y = some .local := by rfl) (hw : swappedStores [.Tuple [.Name x px, .Name y py] kt pt] (.Tuple [a, b] k2 pt2) X.env = pure (some [x, y]) := by rfl)
    (hs : swapsWithSole [.Tuple [.Name x px, .Name y py] kt pt] (.Tuple [a, b] k2 pt2) pos.line X.env = pure false := by rfl) (hc : X.calm = true := by rfl) :
    PS X (.Assign [.Tuple [.Name x px, .Name y py] kt pt] (.Tuple [a, b] k2 pt2) pos) (tLS X.K T L ρ (.nxt fun ρ' => ∃ w u, W1 w ∧ W2 u ∧ ρ' = (ρ.set i (some w)).set j (some u))) :=
  psI (ps_par hc hN hi hj hij hx hy ha hw hs) fun D σ H ⟨hh, g, k⟩ => ⟨hh, g, fun vs H1 ws as s g1 q => by
    cases as with
    | cons a1 as =>
      cases as with
      | cons a2 as =>
        cases as
        obtain ⟨v, v', rfl, q1, q2⟩ := held2 q
        exact ⟨v, v', rfl, k _ H1 _ ⟨_, _, a1, a2, rfl⟩ s g1 (((heldN s hh).set i q1).set j q2)⟩⟩
theorem ls_if {A B : List Stmt} {P : Bool → Prop} (hc : PT X c (tLT X.K T L ρ P)) (ha : P true → PSs X A (tLS X.K T L ρ o)) (hb : P false → PSs X B (tLS X.K T L ρ o)) : PS X (.If c A B pos) (tLS X.K T L ρ o) :=
  psI (ps_if hc pss_w pss_w) fun D σ H ⟨hh, g, k⟩ => ⟨hh, g, fun x H1 hx s g1 => by
    cases x with
    | true => exact iteT ⟨_, ha hx, heldN s hh, g1, k.mono s⟩
    | false => exact iteF ⟨_, hb hx, heldN s hh, g1, k.mono s⟩⟩
end
end Bx
namespace Bx
open PySem L2 PySem.SeqAt
open LamX (Tabs)
open PySem.W (alike alikeAll dataLt dataLe EachIs AllAlike Sortable)
def spL (K : PySem.W.Frag) (T : List (Addr × Str)) {A : Type} (pre : A → Prop) (args : A → List Sl) (W : A → Sl → Prop) : Sp := fun vs H Q _ => ∃ L ws a, vs = .ref L :: ws ∧ GL T L H ∧ pre a ∧ HeldVs K (msk L H) ws (args a) ∧
  ∀ v H' w, W a w → SameN (msk L H) (msk L H') → GL T L H' → HeldV K (msk L H') v w → Q v H'
section
variable {C : Ctx} {X : Cx} {x y : Str} {T : List (Addr × Str)}
theorem hasL_fn {A : Type} {pre : A → Prop} {args : A → List Sl} {W : A → Sl → Prop} {k : Nat} {st : Stmt} {qual : Str} {f : Addr} {fd : FuncData} {N ps : List Str} (ρ0 : A → Ev) (F : Fd C.K x qual st f fd) (mg : C.mg y = some (.ref f)) (S : FnScope N ps (defScope st)) (hl : ps.length ≤ N.length)
    (hb : ∀ (kV doc pm : Value) (an : Option Addr) (cdv ct : Value) (us : List Value), us.length = ps.length → bindArgs (PySem.W.fnOf x qual (defArgs st) (defBody st) (defScope st) .none kV doc pm an cdv ct) ⟨us, []⟩ = pure (ps.zip us))
    (len : ∀ a, (args a).length + 1 = ps.length) (h0 : ∀ a, (args a).map some ++ List.replicate (N.length - ps.length) none = ρ0 a)
    (body : ∀ (X : Cx) (L : Addr) (a : A), At C X → Room k X.A → pre a → InDef C N qual (defScope st) f X → PSs X (defBody st) (tLS X.K T L (some (.v (.ref L)) :: ρ0 a) (.ret (W a)))) : HasS C y (k + 1) (spL C.K T pre args W) := by
  refine ⟨f, fd, ps, mg, F.kp, F.bindsN hb, F.ok S (fun vs H Q E h => ?_) fun cdv A outer s H vs Q E hr h => ?_⟩
  · obtain ⟨L, ws, a, rfl, _, _, h2, _⟩ := h
    rw [List.length_cons, h2.len, len]
  · obtain ⟨L, ws, a, rfl, g, hp, h2, q⟩ := h
    have hlw := len a
    have hlv := h2.len
    have B := body (cxOf CX0 C.P C.w C.K C.mg C.base N qual (defScope st) f cdv A outer s H E).nox L a ⟨rfl, rfl, rfl, rfl, rfl⟩ hr hp ⟨cdv, A, outer, s, H, E, rfl⟩
    refine ⟨_, B.nox, ?_, g, fun v H' w a s' g' q' => q v H' w a s' g' q'⟩
    have hh : HeldVs C.K (msk L H) (.ref L :: ws) (.v (.ref L) :: args a) := .cons rfl h2
    have hs := held_start (N := N) hh (by rw [List.length_cons, hlv, hlw]; exact hl)
    have e : (V.ref L :: ws).length = ps.length := by rw [List.length_cons, hlv, hlw]
    rw [e, List.map_cons, List.cons_append, h0] at hs
    exact hs
theorem le_call {A : Type} {pre : A → Prop} {args : A → List Sl} {W : A → Sl → Prop} {k j : Nat} {L : Addr} {ρ : Ev} {e : Expr} {es : List Expr} {p pos : Pos} (at_ : At C X) (h : HasS C x k (spL C.K T pre args W)) (a : A) (hr : Room j X.A) (ha : PA X (e :: es) (tDs X.K ρ (.v (.ref L) :: args a))) (hp : pre a) (hj : k ≤ j := by decide) (hg : Gl X x := by rfl) (hdb : (x == ("__debug__" : Str)) = false := by decide)
    (he : starEach (e :: es) X.env = (false, eval e X.env) :: starEach es X.env := by rfl) (hpl : (backTo pos (starEach es X.env)).any (·.1) = false := by rfl) : PE X (.Call (.Name x p) (e :: es) [] pos) (tLE X.K T L ρ (W a)) :=
  peI (pe_has at_ h (hr.mono hj) hg (pa_fr ha L) hdb he hpl) fun σ H Q ⟨hh, g, q⟩ => by
    obtain ⟨vs, hL, ok⟩ := g.left
    refine ⟨vs, hL, hh, fun us H1 s1 hv n => ?_⟩
    cases hv with
    | cons hv1 hv2 =>
      have hv1 : _ = V.ref L := hv1
      subst hv1
      refine ⟨L, _, a, by rw [List.append_nil], g.back hL s1 n, hp, ?_, fun v H' w hw s' g' q' => q v H' w hw ?_ g' ?_⟩
      · rw [msk_upd n, ← at_.k]; exact hv2
      · rw [msk_upd n] at s'
        exact (SameN.of s1).trans s'
      · rw [at_.k]; exact q'
end
/-! ### the list itself -/
structure PkAt (K : PySem.W.Frag) (L : Addr) (xs : List Int) (ρ : Ev) (σ : L2.St) (H : Hp) : Prop where
  at_ : H L = some (.lst (xs.map .int))
  held : Held K (msk L H) σ (some (.v (.ref L)) :: ρ)
def tPk (K : PySem.W.Frag) (L : Addr) (xs : List Int) (ρ : Ev) (xs' : List Int) (ρ' : Ev) : TS := fun D σ H => PkAt K L xs ρ σ H ∧ ∀ σ' H', PkAt K L xs' ρ' σ' H' → Same (msk L H) (msk L H') → D.nx σ' H'
def tPr (K : PySem.W.Frag) (L : Addr) (xs : List Int) (ρ : Ev) (xs' : List Int) (v : Int) : TS := fun D σ H => PkAt K L xs ρ σ H ∧ ∀ H', H' L = some (.lst (xs'.map .int)) → Same (msk L H) (msk L H') → D.rt (.int v) H'
theorem PkAt.full {K : PySem.W.Frag} {L : Addr} {xs : List Int} {ρ : Ev} {σ : L2.St} {H : Hp} (h : PkAt K L xs ρ σ H) : Held K H σ (some (.d (.list (xs.map .int))) :: ρ) := by
  have h1 := h.held.mono (msk_le (L := L))
  refine ⟨h1.len, fun i w q => ?_⟩
  cases i with
  | zero =>
    obtain ⟨v, e, q2⟩ := h1.at_ 0 _ rfl
    have q2 : v = .ref L := q2
    subst q2
    cases (Option.some.inj (Option.some.inj q))
    exact ⟨_, e, Dp.lst (SqL.of h.at_) (by rw [show xs.map V.int = xs.map .int from rfl]; exact intsDp xs)⟩
  | succ i => exact h1.at_ (i + 1) w q
section
variable {X : Cx} {L : Addr} {xs xs1 xs' : List Int} {ρ ρ1 ρ' : Ev} {e : Expr} {st : Stmt} {sts rest : List Stmt} {v : Int} {x : Str} {p1 p2 p3 pos : Pos} {j : Nat}
theorem pk_seq (h1 : PS X st (tPk X.K L xs ρ xs1 ρ1)) (h2 : PSs X sts (tPr X.K L xs1 ρ1 xs' v)) : PSs X (st :: sts) (tPr X.K L xs ρ xs' v) :=
  pssI (pss_cons h1 h2) fun D σ H ⟨h, k⟩ => ⟨h, fun σ' H' q s => ⟨q, fun H2 e s2 => k H2 e (s.trans s2)⟩⟩
theorem same_msk {H H1 : Hp} (s : Same H H1) : Same (msk L H) (msk L H1) := fun b u e => by
  by_cases q : b = L
  · subst q; rw [msk_at] at e; cases e
  · rw [msk_ne q] at e ⊢; exact s b u e
theorem pk_ret (he : PE X e (tD X.K (some (.d (.list (xs.map .int))) :: ρ) (.d (.int v)))) : PSs X (.Return (some e) pos :: rest) (tPr X.K L xs ρ xs v) :=
  pssI (pss_cons (ps_ret he) pss_never) fun D σ H ⟨h, k⟩ => ⟨h.full, fun u H1 s q => by
    have := dpInt q
    subst this
    exact k H1 (s _ _ h.at_) (same_msk s)⟩
theorem pk_name {i : Nat} {y : Str} {p : Pos} (he : PE X e (tD X.K (some (.d (.list (xs.map .int))) :: ρ) (.d (.int v)))) (hN : X.N.Nodup) (hi : X.N[i + 1]? = some y := by rfl) (hx : Loc X.env.scope y := by first | exact Or.inl rfl | exact Or.inr rfl) (hs : swapsWith e (some (.Name y p)) pos.line X.env = pure false := by rfl) (hf : X.fn y = true ∨ X.env.scope.names.lookup y = some .local := by first | exact Or.inl rfl | exact Or.inr rfl) :
    PS X (.Assign [.Name y p] e pos) (tPk X.K L xs ρ xs (ρ.set i (some (.d (.int v))))) :=
  psI (ps_set hN hi hx he hs hf) fun D σ H ⟨h, k⟩ => ⟨h.full, fun u H1 s q => by
    have := dpInt q
    subst this
    exact k _ H1 ⟨s _ _ h.at_, (h.held.mono (same_msk s)).set (i + 1) (w := .d (.int v)) (Dp.int v)⟩ (same_msk s)⟩
/-- left[k] = e -/
theorem pk_set (k : Nat) (he : PE X e (tD X.K (some (.d (.list (xs.map .int))) :: ρ) (.d (.int v)))) (hk : k < xs.length := by exact Nat.le_of_ble_eq_true rfl) (hi : X.N[0]? = some x := by rfl) (hv : Vis X.env.scope x := by first | exact Or.inl rfl | exact Or.inr (Or.inl rfl) | exact Or.inr (Or.inr rfl)) (hd : (x == ("__debug__" : Str)) = false := by decide) (hcd : (x == ("__classdict__" : Str)) = false := by decide)
    (hs : swapsWithSole [.Subscript (.Name x p1) (.Constant (.int (k : Int)) j p2) p3] e pos.line X.env = pure false := by rfl) (hw : swappedStores [.Subscript (.Name x p1) (.Constant (.int (k : Int)) j p2) p3] e X.env = pure none := by rfl) (ha1 : (assignEach [.Subscript (.Name x p1) (.Constant (.int (k : Int)) j p2) p3] X.env).map (·.2) = [assign (.Subscript (.Name x p1) (.Constant (.int (k : Int)) j p2) p3) X.env] := by rfl) :
    PS X (.Assign [.Subscript (.Name x p1) (.Constant (.int (k : Int)) j p2) p3] e pos) (tPk X.K L xs ρ (xs.set k v) ρ) :=
  psI (ps_asg he (pg_sub (pe_var hi hv hd hcd) pe_int set_list) hs hw ha1) fun D σ H ⟨h, kk⟩ => ⟨h.full, fun u H1 s q => by
    have := dpInt q
    subst this
    obtain ⟨v0, e0, q0⟩ := h.held.at_ 0 _ rfl
    have q0 : v0 = .ref L := q0
    subst q0
    refine ⟨_, e0, L, xs.map .int, (k : Int), k, rfl, rfl, s _ _ h.at_, ?_, kk σ _ ⟨?_, ?_⟩ ?_⟩
    · rw [List.length_map]
      unfold ixN
      simp
      omega
    · rw [upd_same, List.map_set]
    · rw [msk_upd2]; exact h.held.mono (same_msk s)
    · rw [msk_upd2]; exact same_msk s⟩
theorem pk_if {c : Expr} {A : List Stmt} {k : Bool} (hc : PT X c (tDT X.K (some (.d (.list (xs.map .int))) :: ρ) k)) (ha : k = true → PSs X A (tPr X.K L xs ρ xs' v)) (hb : k = false → PSs X rest (tPr X.K L xs ρ xs' v)) : PSs X (.If c A [] pos :: rest) (tPr X.K L xs ρ xs' v) := by
  cases k with
  | true => exact pssI (pss_cons (ps_if hc (ha rfl) pss_never) pss_never) fun D σ H ⟨h, kk⟩ => ⟨h.full, fun H1 s => iteT ⟨⟨s _ _ h.at_, h.held.mono (same_msk s)⟩, fun H2 e s2 => kk H2 e ((same_msk s).trans s2)⟩⟩
  | false => exact pssI (pss_cons (ps_if hc pss_never pss_nil) (hb rfl)) fun D σ H ⟨h, kk⟩ => ⟨h.full, fun H1 s => iteF ⟨⟨s _ _ h.at_, h.held.mono (same_msk s)⟩, fun H2 e s2 => kk H2 e ((same_msk s).trans s2)⟩⟩
theorem pk_all {T : List (Addr × Str)} {W : Sl → Prop} (h : ∀ a b c : Int, 0 ≤ a → 0 ≤ b → b < 2147483647 → 0 ≤ c → ∃ xs' v, PSs X sts (tPr X.K L [a, b, c] ρ xs' v) ∧ LeftOk (xs'.map .int) ∧ W (.d (.int v))) : PSs X sts (tLS X.K T L (some (.v (.ref L)) :: ρ) (.ret W)) :=
  pssI pss_w fun D σ H ⟨hh, g, k⟩ => by
    obtain ⟨vs, hL, a, b, c, rfl, h1, h2, h3, h4⟩ := g.left
    obtain ⟨xs', v, hs, ok, hw⟩ := h a b c h1 h2 h3 h4
    exact ⟨_, hs, ⟨hL, hh⟩, fun H' e s => k (.int v) H' _ hw (.of s) ⟨⟨_, e, ok⟩, ((tabs_msk hL g.tabs).ext s).ext msk_le⟩ (Dp.int v)⟩
end
section
variable {C : Ctx} {f : Addr} {fd : FuncData} {T : List (Addr × Str)}
abbrev Wpick (n : Nat) : Sl → Prop := fun w => ∃ i : Nat, i < n ∧ w = .d (.int (i : Int))
abbrev spPick (C : Ctx) (T : List (Addr × Str)) : Sp := spL C.K T (A := Nat) (fun n => 1 ≤ n ∧ n ≤ 100000) (fun n => [.d (.int (n : Int))]) Wpick
theorem sc78 : FnScope ["_law_left_here", "_law_many", "_law_digit"] ["_law_left_here", "_law_many"] (defScope (top 78)) := ⟨rfl, rfl, rfl, by decide +kernel, rfl, by decide +kernel, by decide +kernel⟩
theorem wpick {n : Nat} {i : Int} (hn : 1 ≤ n) : Wpick n (.d (.int (i % (n : Int)))) := by
  refine ⟨(i % (n : Int)).toNat, ?_, ?_⟩
  · have h1 := Int.emod_lt_of_pos i (show (0 : Int) < n by omega)
    have h2 := Int.emod_nonneg i (show (n : Int) ≠ 0 by omega)
    omega
  · have h2 := Int.emod_nonneg i (show (n : Int) ≠ 0 by omega)
    rw [Int.toNat_of_nonneg h2]
theorem ok_pick (F : Fd C.K "_law_pick" "_law_pick" (top 78) f fd) (m : C.mg "_law_pick" = some (.ref f)) : HasS C "_law_pick" 1 (spPick C T) := by
  refine hasL_fn (fun n => [some (.d (.int (n : Int))), none]) F m sc78 (by decide) (fun _ _ _ _ _ _ us hl => match us, hl with | [_, _], _ => rfl) (fun _ => rfl) (fun _ => rfl) fun X L n at_ hr hp ⟨cdv, A, outer, s, H, E, hX⟩ => ?_
  obtain ⟨hn1, hn2⟩ := hp
  subst hX
  have hpos : (0 : Int) < (n : Int) := by omega
  have hn0 : (n : Int) < 1073741824 := by omega
  refine pk_all fun a b c h1 h2 h3 h4 => ?_
  by_cases ha : 0 < a
  · refine ⟨[a / n, b, c], a % n, pk_if (k := decide (0 < a)) (cmpT (ix 0 (nm 0)) pd_int od_gt) (fun _ => pk_seq (pk_name (i := 1) (bop (ix 0 (nm 0)) (nm 1) (od_mod hpos)) sc78.nd) (pk_seq (pk_set 0 (bop (ix 0 (nm 0)) (nm 1) (od_fdiv ⟨hpos, hn0⟩))) (pk_ret (nm 2)))) (fun e => absurd ha (of_decide_eq_false e)), ⟨_, _, _, rfl, Int.ediv_nonneg h1 (by omega), h2, h3, h4⟩, wpick hn1⟩
  · have hb1 : 0 ≤ (b * 48271 + 12345 + (c + 1)) % 2147483647 := Int.emod_nonneg _ (by decide)
    have hb2 : (b * 48271 + 12345 + (c + 1)) % 2147483647 < 2147483647 := Int.emod_lt_of_pos _ (by decide)
    refine ⟨[a, (b * 48271 + 12345 + (c + 1)) % 2147483647, c + 1], _, pk_if (k := decide (0 < a)) (cmpT (ix 0 (nm 0)) pd_int od_gt) (fun e => absurd (of_decide_eq_true e) ha) (fun _ => pk_seq (pk_set 2 (bop (ix 2 (nm 0)) pd_int od_add)) (pk_seq (pk_set 1 (bop (bop (bop (bop (ix 1 (nm 0)) pd_int (od_mul (.inr (by decide)))) pd_int od_add) (ix 2 (nm 0)) od_add) pd_int (od_mod (by decide)))) (pk_ret (bop (bop (bop (bop (ix 1 (nm 0)) (ix 1 (nm 0)) (od_mul (.inl ?_))) pd_int (od_mod (by decide))) pd_int (od_fdiv ⟨by decide, by decide⟩)) (nm 1) (od_mod hpos))))), ⟨_, _, _, rfl, h1, hb1, hb2, by omega⟩, wpick hn1⟩
    exact ⟨by omega, by omega⟩
end
end Bx
/-! drawn things: comprehensions and loops over ranges -/
namespace Bx
open PySem L2 PySem.SeqAt
open LamX (Tabs)
/-- n turns that tell nought, .., n - 1 -/
structure ItR (J : It) (n : Nat) : Prop where
  go : ∀ (i : Nat) H, i < n → J.go i H
  stop : ∀ H, J.stop n H
  yld : ∀ (i : Nat) H x H', i < n → J.yld i H x H' → H' = H ∧ x = .int (i : Int)
def tIR (K : PySem.W.Frag) (T : List (Addr × Str)) (L : Addr) (ρ : Ev) (n : Nat) : TI := fun σ H R => Held K (msk L H) σ ρ ∧ GL T L H ∧ ∀ J H1, SameN (msk L H) (msk L H1) → GL T L H1 → ItR J n → R J H1
/-- the same, n drawn -/
def tIRw (K : PySem.W.Frag) (T : List (Addr × Str)) (L : Addr) (ρ : Ev) (P : Nat → Prop) : TI := fun σ H R => Held K (msk L H) σ ρ ∧ GL T L H ∧ ∀ J H1 n, P n → SameN (msk L H) (msk L H1) → GL T L H1 → ItR J n → R J H1
section
variable {X : Cx} {T : List (Addr × Str)} {L : Addr} {ρ : Ev} {e elt tg iter : Expr} {scope : Scope} {own : List (Str × Nat)} {W : Sl → Prop} {p pos : Pos} {n : Nat} {body rest : List Stmt}
theorem pi_rangeW {C : Ctx} {P : Nat → Prop} (at_ : At C X) (hm : C.mg "range" = none) (ha : PE X e (tLE X.K T L ρ (fun w => ∃ n : Nat, P n ∧ w = .d (.int (n : Int))))) (hn : ∀ n, P n → n < 2 ^ 62) (hg : Gl X "range" := by rfl) (hs : starEach [e] X.env = [(false, eval e X.env)] := by rfl) : PI X tg (.Call (.Name "range" p) [e] [] pos) (tIRw X.K T L ρ P) :=
  piI (pi_range1 hg (at_.no hm) (pa_cons ha pa_nil hs) hs) fun σ H R ⟨hh, g, k⟩ => ⟨hh, g, fun v H1 w ⟨n, hP, ew⟩ s g1 q => by
    subst ew
    have := dpInt q
    subst this
    have hn := hn n hP
    refine ⟨(n : Int), rfl, by omega, by omega, k _ _ n hP s g1 ⟨fun i H2 hi => ?_, fun H2 => ?_, fun i H2 x H' hi ⟨e1, e2⟩ => ⟨e1, by rw [e2, Int.zero_add]⟩⟩⟩
    · show i < ((n : Int) - 0).toNat
      omega
    · show ((n : Int) - 0).toNat ≤ n
      omega⟩
theorem pi_rangeL {C : Ctx} (at_ : At C X) (hm : C.mg "range" = none) (ha : PE X e (tD X.K ρ (.d (.int (n : Int))))) (hn : n < 2 ^ 62) (hg : Gl X "range" := by rfl) (hs : starEach [e] X.env = [(false, eval e X.env)] := by rfl) : PI X tg (.Call (.Name "range" p) [e] [] pos) (tIR X.K T L ρ n) :=
  piI (pi_rangeW (P := (· = n)) at_ hm (le_weak (le_pure ha) fun w ew => ⟨n, rfl, ew⟩) (fun m em => by rw [em]; exact hn) hg hs) fun σ H R ⟨hh, g, k⟩ => ⟨hh, g, fun J H1 m em s g1 it => by rw [em] at it; exact k J H1 s g1 it⟩
theorem GL.aside {H : Hp} {D : Addr} {vs : List V} (g : GL T L H) (hD : H D = some (.lst vs)) (ne : D ≠ L) : GL T L (msk D H) := by
  obtain ⟨ws, h1, h2⟩ := g.left
  exact ⟨⟨ws, by rw [msk_ne ne.symm]; exact h1, h2⟩, tabs_msk hD g.tabs⟩
theorem GL.ne {H : Hp} {D : Addr} (g : GL T L H) (hD : H D = none) : D ≠ L := fun q => by
  obtain ⟨ws, h1, _⟩ := g.left
  rw [← q, hD] at h1
  cases h1
theorem msk_comm {D : Addr} {H : Hp} : msk L (msk D H) = msk D (msk L H) := by
  funext b
  by_cases h1 : b = L
  · subst h1
    by_cases h2 : b = D
    · subst h2; rfl
    · rw [msk_at, msk_ne h2, msk_at]
  · by_cases h2 : b = D
    · subst h2; rw [msk_ne h1, msk_at, msk_at]
    · rw [msk_ne h1, msk_ne h2, msk_ne h2, msk_ne h1]
/-- [elt for i in range(n)], drawn -/
theorem le_lcR (hc : X.calm = true) (hN : X.N.Nodup) (hi : PI X tg iter (tIR X.K T L ρ n)) (ok : BlkOk X.N X.env.scope scope own) (ρ1 : Nat → Ev)
    (turn : ∀ i < n, ∃ vs, (∀ j ∈ vs, j ∈ own.map (·.2)) ∧ InBlk X scope (fun Y => PG Y tg (tG X.K (wipeE ρ (own.map (·.2))) (.int (i : Int)) (ρ1 i) vs)) ∧ InBlk X scope (fun Y => PE Y elt (tLE X.K T L (ρ1 i) W))) (hW : ∀ w, W w → ∃ d, w = .d d) (hz : n ≤ 100000) (hs : ∀ x, foldedSetIterable iter X.env x = pure x) :
    PE X (.ListComp elt [⟨tg, iter, [], 0⟩] scope pos) (tLE X.K T L ρ (fun w => ∃ ds : List PyData, ds.length = n ∧ (∀ d ∈ ds, W (.d d)) ∧ w = .d (.list ds))) := by
  let G : TG := fun v σ H Q => ∃ t, InBlk X scope (fun Y => PG Y tg t) ∧ t v σ H Q
  let E : TE := fun σ H Q => ∃ t, InBlk X scope (fun Y => PE Y elt t) ∧ t σ H Q
  have hG : InBlk X scope (fun Y => PG Y tg G) := fun s H C cl fp => ⟨fun pins s' σ H' v u Q I r ⟨t, h, q⟩ => (h s H C cl fp).run pins s' σ H' v u Q I r q⟩
  have hE : InBlk X scope (fun Y => PE Y elt E) := fun s H C cl fp => ⟨fun pins s' σ H' Q I ⟨t, h, q⟩ => (h s H C cl fp).run pins s' σ H' Q I q⟩
  refine peI (pe_lc hc hN hi ok hG (fun _ _ _ _ _ => pts_nil) hE hs) fun σ H Q ⟨hh, g, k⟩ => ⟨hh, g, fun J H1 s1 g1 it D hD => ?_⟩
  have nDL : D ≠ L := g1.ne hD
  let Pv (i : Nat) (H2 : Hp) : Prop := SameN (msk L H1) (msk L (msk D H2)) ∧ GL T L (msk D H2) ∧ ∃ vs ds, H2 D = some (.lst vs) ∧ DpAll X.K (msk L (msk D H2)) vs ds ∧ ds.length = i ∧ ∀ d ∈ ds, W (.d d)
  refine ⟨fun i m H => m = n - i ∧ i ≤ n ∧ Pv i H, ⟨n, by omega, Nat.zero_le _, by rw [msk_upd hD]; exact .refl _, by rw [msk_upd hD]; exact g1, [], [], upd_same, .nil, rfl, nofun⟩, ?_⟩
  rintro i m H2 ⟨rfl, hle, sm, g2, vs, ds, hDv, hvs, hl, hW2⟩
  by_cases hlt : i < n
  · refine .inr ⟨it.go i H2 hlt, Pv (i + 1), fun H' p' => ⟨n - (i + 1), by omega, rfl, hlt, p'⟩, fun x H3 y => ?_⟩
    obtain ⟨rfl, rfl⟩ := it.yld i H2 x H3 hlt y
    obtain ⟨ws, hw, tg1, te1⟩ := turn i hlt
    have hh3 : Held X.K (msk L (msk D H3)) (wipe σ (own.map (·.2))) (wipeE ρ (own.map (·.2))) := held_wipe (heldN (s1.trans sm) hh) _
    obtain ⟨zs, hLz, hok⟩ := g2.left
    refine ⟨frG D (frG L (tG X.K (wipeE ρ (own.map (·.2))) (.int (i : Int)) (ρ1 i) ws)), fun s H C cl fp => pg_fr (pg_fr (tg1 s H C cl fp) L) D, vs, hDv, zs, hLz, hh3, .int _, fun σ' q1 q2 q3 _ _ => ?_⟩
    rw [upd_msk hLz, upd_msk hDv]
    refine ⟨by rw [wipe_ext q2 (fun j hj => q3 j fun hm => hj (hw j hm)), wipe_wipe], ?_⟩
    refine iteT (B := Pv (i + 1) H3) ?_
    refine ⟨frE D (tLE X.K T L (ρ1 i) W), fun s H C cl fp => pe_fr (te1 s H C cl fp) D, vs, hDv, q1, g2, fun v H5 w hw5 s5 g5 dv n5 => ?_⟩
    obtain ⟨d, rfl⟩ := hW w hw5
    refine ⟨vs, upd_same, by rw [dpAllLen hvs, hl, sizeLine_eq]; omega, ?_⟩
    rw [upd_upd]
    refine ⟨by rw [msk_upd n5]; exact sm.trans s5, by rw [msk_upd n5]; exact g5, vs ++ [v], ds ++ [d], upd_same, ?_, by simp [hl], fun d' hd' => ?_⟩
    · rw [msk_upd n5]
      exact dpAllApp (dpAllN s5 hvs) (.cons dv .nil)
    · rcases List.mem_append.mp hd' with z | z
      · exact hW2 d' z
      · rw [List.mem_singleton.mp z]; exact hw5
  · have hi : i = n := by omega
    subst hi
    refine .inl ⟨it.stop H2, k (.ref D) H2 _ ⟨ds, hl, hW2, rfl⟩ ?_ ?_ ?_⟩
    · refine s1.trans (sm.trans ?_)
      rw [msk_comm]
      exact .of msk_le
    · obtain ⟨ws, e1, e2⟩ := g2.left
      exact ⟨⟨ws, msk_le _ _ e1, e2⟩, g2.tabs.ext msk_le⟩
    · refine Dp.lst (SqL.of (by rw [msk_ne nDL]; exact hDv)) (dpAllMono ?_ hvs)
      rw [msk_comm]
      exact msk_le
end
end Bx
/-! drawn things, a list of one's own beside -/
namespace Bx
open PySem L2 PySem.SeqAt
open LamX (Tabs)
def Sl.flat : Sl → Bool
  | .d x => noL x
  | .v _ => true
  | _ => false
def Flat (ρ : Ev) : Prop := ∀ (j : Nat) w, ρ[j]? = some (some w) → w.flat = true
theorem flat_set {ρ : Ev} (h : Flat ρ) (i : Nat) {w : Sl} (hw : w.flat = true) : Flat (ρ.set i (some w)) := fun j u e => by
  by_cases q : i = j
  · subst q
    have hi : i < ρ.length := by
      have := (List.getElem?_eq_some_iff.mp e).1
      simpa using this
    rw [List.getElem?_set_self hi] at e
    cases e
    exact hw
  · rw [List.getElem?_set_ne q] at e
    exact h j u e
theorem flat_none {ρ : Ev} (h : Flat ρ) (i : Nat) : Flat (ρ.set i none) := fun j u e => by
  by_cases q : i = j
  · subst q
    have hi : i < ρ.length := by
      have := (List.getElem?_eq_some_iff.mp e).1
      simpa using this
    rw [List.getElem?_set_self hi] at e
    cases e
  · rw [List.getElem?_set_ne q] at e
    exact h j u e
/-- the list at M grows; all else in the slots is flat -/
structure MAt (K : PySem.W.Frag) (T : List (Addr × Str)) (L M : Addr) (i : Nat) (ρ : Ev) (ds : List PyData) (σ : L2.St) (H : Hp) : Prop where
  ne : M ≠ L
  slot : σ[i]? = some (some (.ref M))
  ex : ∃ vs, H M = some (.lst vs) ∧ DpAll K (msk L (msk M H)) vs ds
  held : Held K (msk L (msk M H)) σ ρ
  none : ρ[i]? = some none
  flat : Flat ρ
  left : GL T L H
inductive OutM where
  | ret (W : Sl → Prop)
  | nxt (P : Ev → List PyData → Prop)
def OutM.want (K : PySem.W.Frag) (T : List (Addr × Str)) (L M : Addr) (i : Nat) (D : Ends) (H : Hp) : OutM → Prop
  | .ret W => ∀ v H' w, W w → SameN (msk L (msk M H)) (msk L H') → GL T L H' → HeldV K (msk L H') v w → D.rt v H'
  | .nxt P => ∀ σ' H' ρ' ds', P ρ' ds' → SameN (msk L (msk M H)) (msk L (msk M H')) → MAt K T L M i ρ' ds' σ' H' → D.nx σ' H'
theorem OutM.want.mono {K : PySem.W.Frag} {T : List (Addr × Str)} {L M : Addr} {i : Nat} {D : Ends} {H H' : Hp} (e : SameN (msk L (msk M H)) (msk L (msk M H'))) : ∀ {o : OutM}, o.want K T L M i D H → o.want K T L M i D H'
  | .ret _, h => fun v H2 w a s g q => h v H2 w a (e.trans s) g q
  | .nxt _, h => fun σ H2 ρ ds a s q => h σ H2 ρ ds a (e.trans s) q
def tMS (K : PySem.W.Frag) (T : List (Addr × Str)) (L : Addr) (i : Nat) (ρ : Ev) (ds : List PyData) (o : OutM) : TS := fun D σ H => ∃ M, MAt K T L M i ρ ds σ H ∧ o.want K T L M i D H
/-- the list as data -/
abbrev asD (ρ : Ev) (i : Nat) (ds : List PyData) : Ev := ρ.set i (some (.d (.list ds)))
theorem set_same {σ : L2.St} {i : Nat} {v : V} (h : σ[i]? = some (some v)) : σ.set i (some v) = σ := by
  apply List.ext_getElem?
  intro j
  by_cases hj : i = j
  · subst hj
    rw [List.getElem?_set_self (List.getElem?_eq_some_iff.mp h).1, h]
  · rw [List.getElem?_set_ne hj]
theorem MAt.data {K : PySem.W.Frag} {T : List (Addr × Str)} {L M : Addr} {i : Nat} {ρ : Ev} {ds : List PyData} {σ : L2.St} {H : Hp} (h : MAt K T L M i ρ ds σ H) : Held K (msk L H) σ (asD ρ i ds) := by
  have sm : Same (msk L (msk M H)) (msk L H) := by rw [msk_comm]; exact msk_le
  obtain ⟨vs, h1, h2⟩ := h.ex
  have q := (h.held.mono sm).set i (v := .ref M) (w := .d (.list ds)) (Dp.lst (SqL.of (by rw [msk_ne h.ne]; exact h1)) (dpAllMono sm h2))
  rw [set_same h.slot] at q
  exact q
/-- what a drawn step leaves -/
theorem MAt.step {K : PySem.W.Frag} {T : List (Addr × Str)} {L M : Addr} {i : Nat} {ρ : Ev} {ds : List PyData} {σ : L2.St} {H H' : Hp} (h : MAt K T L M i ρ ds σ H) (s : SameN (msk L H) (msk L H')) (g : GL T L H') : MAt K T L M i ρ ds σ H' ∧ SameN (msk L (msk M H)) (msk L (msk M H')) := by
  obtain ⟨vs, h1, h2⟩ := h.ex
  have hM : H' M = some (.lst vs) := by
    have := s M (.lst vs) (by rw [msk_ne h.ne]; exact h1) nofun
    rw [msk_ne h.ne] at this
    exact this
  have s2 : SameN (msk L (msk M H)) (msk L (msk M H')) := fun b o e n => by
    rw [msk_comm] at e ⊢
    by_cases q : b = M
    · subst q; rw [msk_at] at e; cases e
    · rw [msk_ne q] at e ⊢; exact s b o e n
  exact ⟨⟨h.ne, h.slot, ⟨vs, hM, dpAllN s2 h2⟩, heldN s2 h.held, h.none, h.flat, g⟩, s2⟩
theorem MAt.noL {K : PySem.W.Frag} {T : List (Addr × Str)} {L M : Addr} {i : Nat} {ρ : Ev} {ds : List PyData} {σ : L2.St} {H : Hp} (h : MAt K T L M i ρ ds σ H) {v : V} {d : PyData} (n : noL d = true) (q : Dp K (msk L H) v d) : Dp K (msk L (msk M H)) v d := by
  obtain ⟨vs, h1, h2⟩ := h.ex
  rw [msk_comm]
  exact dpMsk (o := .lst vs) (by rw [msk_ne h.ne]; exact h1) (fun _ z => by cases z) (fun _ _ z => by cases z) n q
section
variable {X : Cx} {T : List (Addr × Str)} {L : Addr} {i : Nat} {ρ ρ' : Ev} {ds : List PyData} {e c tg iter : Expr} {W : Sl → Prop} {pos : Pos} {st : Stmt} {sts rest body : List Stmt} {o : OutM}
theorem ms_seq {P : Ev → List PyData → Prop} (h1 : PS X st (tMS X.K T L i ρ ds (.nxt P))) (h2 : ∀ ρ' ds', P ρ' ds' → PSs X sts (tMS X.K T L i ρ' ds' o)) : PSs X (st :: sts) (tMS X.K T L i ρ ds o) :=
  pssI (pss_cons h1 pss_w) fun D σ H ⟨M, h, k⟩ => ⟨M, h, fun σ' H' ρ' ds' hp s q => ⟨_, h2 ρ' ds' hp, M, q, k.mono s⟩⟩
theorem ms_one (h1 : PS X st (tMS X.K T L i ρ ds o)) : PSs X [st] (tMS X.K T L i ρ ds o) := pssI (pss_one h1) fun D σ H h => h
theorem ms_nil : PSs X [] (tMS X.K T L i ρ ds (.nxt fun ρ' ds' => ρ' = ρ ∧ ds' = ds)) := pssI pss_nil fun D σ H ⟨M, h, k⟩ => k σ H ρ ds ⟨rfl, rfl⟩ (.refl _) h
theorem ms_weak {P P' : Ev → List PyData → Prop} (h : PSs X sts (tMS X.K T L i ρ ds (.nxt P))) (w : ∀ ρ ds, P ρ ds → P' ρ ds) : PSs X sts (tMS X.K T L i ρ ds (.nxt P')) := pssI h fun D σ H ⟨M, h, k⟩ => ⟨M, h, fun σ' H' ρ' ds' hp => k σ' H' ρ' ds' (w ρ' ds' hp)⟩
theorem ms_weak1 {P P' : Ev → List PyData → Prop} (h : PS X st (tMS X.K T L i ρ ds (.nxt P))) (w : ∀ ρ ds, P ρ ds → P' ρ ds) : PS X st (tMS X.K T L i ρ ds (.nxt P')) := psI h fun D σ H ⟨M, h, k⟩ => ⟨M, h, fun σ' H' ρ' ds' hp => k σ' H' ρ' ds' (w ρ' ds' hp)⟩
/-- x = e -/
theorem ms_set {x : Str} {pos' : Pos} (j : Nat) (he : PE X e (tLE X.K T L (asD ρ i ds) W)) (hW : ∀ w, W w → ∃ d, w = .d d ∧ noL d = true) (hN : X.N.Nodup) (hij : j ≠ i := by decide) (hi : X.N[j]? = some x := by rfl) (hx : Loc X.env.scope x := by first | exact Or.inl rfl | exact Or.inr rfl) (hs : swapsWith e (some (.Name x pos')) pos.line X.env = pure false := by rfl) (hf : X.fn x = true ∨ X.env.scope.names.lookup x = some .local := by first | exact Or.inl rfl | exact Or.inr rfl) :
    PS X (.Assign [.Name x pos'] e pos) (tMS X.K T L i ρ ds (.nxt fun ρ' ds' => ds' = ds ∧ ∃ w, W w ∧ ρ' = ρ.set j (some w))) :=
  psI (ps_set hN hi hx he hs hf) fun D σ H ⟨M, h, k⟩ => ⟨h.data, h.left, fun v H' w a s g' q => by
    obtain ⟨d, rfl, n⟩ := hW w a
    obtain ⟨h', s2⟩ := h.step s g'
    refine k _ H' _ _ ⟨rfl, _, a, rfl⟩ s2 ⟨h'.ne, ?_, h'.ex, h'.held.set j (w := .d d) (h'.noL n q), ?_, flat_set h'.flat j n, g'⟩
    · rw [List.getElem?_set_ne hij]; exact h'.slot
    · rw [List.getElem?_set_ne hij]; exact h'.none⟩
theorem ms_if {A B : List Stmt} {P : Bool → Prop} (hc : PT X c (tLT X.K T L (asD ρ i ds) P)) (ha : P true → PSs X A (tMS X.K T L i ρ ds o)) (hb : P false → PSs X B (tMS X.K T L i ρ ds o)) : PS X (.If c A B pos) (tMS X.K T L i ρ ds o) :=
  psI (ps_if hc pss_w pss_w) fun D σ H ⟨M, h, k⟩ => ⟨h.data, h.left, fun x H1 hx s g1 => by
    obtain ⟨h', s2⟩ := h.step s g1
    cases x with
    | true => exact iteT ⟨_, ha hx, M, h', k.mono s2⟩
    | false => exact iteF ⟨_, hb hx, M, h', k.mono s2⟩⟩
/-- from here on the list is data -/
theorem ms_data (h : PSs X sts (tLS X.K T L (asD ρ i ds) (.ret W))) : PSs X sts (tMS X.K T L i ρ ds (.ret W)) :=
  pssI h fun D σ H ⟨M, h, k⟩ => ⟨h.data, h.left, fun v H' w a s g q => k v H' w a (by rw [msk_comm]; exact (SameN.of msk_le).trans s) g q⟩
/-- x.append(e) -/
theorem ms_app {x : Str} {p1 apos cpos : Pos} (he : PE X e (tLE X.K T L (asD ρ i ds) W)) (hW : ∀ w, W w → ∃ d, w = .d d ∧ noL d = true) (hz : ds.length < 100000) (hi : X.N[i]? = some x := by rfl) (hv : Vis X.env.scope x := by first | exact Or.inl rfl | exact Or.inr (Or.inl rfl) | exact Or.inr (Or.inr rfl)) (hd : (x == ("__debug__" : Str)) = false := by decide) (hcd : (x == ("__classdict__" : Str)) = false := by decide)
    (hs : swapsWith (.Call (.Attribute (.Name x p1) "append" apos) [e] [] cpos) none pos.line X.env = pure false := by rfl)
    (hbase : attributeBase (.Name x p1) "append" X.env (eval (.Name x p1) X.env) = eval (.Name x p1) X.env := by rfl)
    (hfew : ((backTo cpos (starEach [e] X.env)).all (fun x => !x.1) && (backToKw cpos (keywordEach [] X.env)).all (fun x => x.1.isSome) && decide ([e].length + ([] : List Keyword).length + (if ([] : List Keyword).isEmpty then 0 else 1) < 30)) = true := by rfl)
    (hline : (apos.endLine == cpos.line) = true := by rfl) (he1 : starEach [e] X.env = (false, eval e X.env) :: starEach [] X.env := by rfl) (hplain : (backTo cpos (starEach [] X.env)).any (·.1) = false := by rfl) :
    PS X (.Expr (.Call (.Attribute (.Name x p1) "append" apos) [e] [] cpos) pos) (tMS X.K T L i ρ ds (.nxt fun ρ' ds' => ρ' = ρ ∧ ∃ d, W (.d d) ∧ ds' = ds ++ [d])) :=
  psI (ps_expr (pe_bm PySem.F.plainAttrs_list PySem.F.slot_list_append PySem.F.type_list_append mt_append (pe_var hi hv hd hcd) (pa_cons he pa_nil he1) hbase hfew hline he1 hplain) hs) fun D σ H ⟨M, h, k⟩ => by
    obtain ⟨vs, hM, hvs⟩ := h.ex
    refine ⟨_, h.slot, .inl ⟨rfl, vs, SqL.of hM⟩, h.data, h.left, fun v H' w a s g' q => ?_⟩
    obtain ⟨d, rfl, n⟩ := hW w a
    obtain ⟨h', s2⟩ := h.step s g'
    have hM' : H' M = some (.lst vs) := by
      have := s M (.lst vs) (by rw [msk_ne h.ne]; exact hM) nofun
      rw [msk_ne h.ne] at this
      exact this
    obtain ⟨ws, e1, e2⟩ := g'.left
    refine ⟨M, vs, v, rfl, rfl, hM', by rw [dpAllLen hvs, sizeLine_eq]; omega, k σ _ ρ _ ⟨rfl, d, a, rfl⟩ ?_ ⟨h'.ne, h'.slot, ⟨vs ++ [v], upd_same, ?_⟩, ?_, h'.none, h'.flat, ?_⟩⟩
    · rw [msk_upd2]; exact s2
    · rw [msk_upd2]; exact dpAllApp (dpAllN s2 hvs) (.cons (h'.noL n q) .nil)
    · rw [msk_upd2]; exact h'.held
    · refine ⟨⟨ws, by rw [upd_ne h'.ne.symm]; exact e1, e2⟩, fun p hp => ?_⟩
      have t := (tabs_msk hM' g'.tabs) p hp
      exact t.ext fun b u e => by
        by_cases q : b = M
        · subst q; rw [msk_at] at e; cases e
        · rw [msk_ne q] at e; rw [upd_ne q]; exact e
/-- x = [], and what comes behind it -/
theorem ms_new {x : Str} {pos' p : Pos} {W : Sl → Prop} (hN : X.N.Nodup) (hf0 : Flat ρ) (h : PSs X rest (tMS X.K T L i (ρ.set i none) [] (.ret W))) (hl : i < ρ.length := by exact Nat.le_of_ble_eq_true rfl) (hi : X.N[i]? = some x := by rfl) (hx : Loc X.env.scope x := by first | exact Or.inl rfl | exact Or.inr rfl) (hs : swapsWith (.List [] p) (some (.Name x pos')) pos.line X.env = pure false := by rfl)
    (hf : X.fn x = true ∨ X.env.scope.names.lookup x = some .local := by first | exact Or.inl rfl | exact Or.inr rfl) : PSs X (.Assign [.Name x pos'] (.List [] p) pos :: rest) (tLS X.K T L ρ (.ret W)) :=
  pssI (pss_cons (ps_set hN hi hx (pe_lst pa_nil) hs hf) h) fun D σ H ⟨hh, g, k⟩ => ⟨by show 0 ≤ sizeLine; decide, fun M hM => by
    have ne := g.ne hM
    have hlen : i < σ.length := by rw [hh.len]; exact hl
    refine ⟨M, ⟨ne, List.getElem?_set_self hlen, ⟨[], upd_same, .nil⟩, by rw [msk_upd hM]; exact hh.setN i _, List.getElem?_set_self hl, flat_none hf0 i, g.new hM⟩, fun v H' w a s g' q => k v H' w a ?_ g' q⟩
    rw [msk_upd hM] at s
    exact s⟩
/-- x, y = [], e -/
theorem ms_newpar {x y : Str} {b : Expr} {px py pt p : Pos} {kt k2 : Nat} {pt2 : Pos} {W2 : Sl → Prop} (j : Nat) (hb : PE X b (tLE X.K T L ρ W2)) (hW : ∀ w, W2 w → ∃ d, w = .d d ∧ noL d = true) (hN : X.N.Nodup) (hf0 : Flat ρ) (h : ∀ w, W2 w → PSs X rest (tMS X.K T L i ((ρ.set i none).set j (some w)) [] (.ret W))) (hl : i < ρ.length := by exact Nat.le_of_ble_eq_true rfl) (hij : i ≠ j := by decide) (hi : X.N[i]? = some x := by rfl) (hj : X.N[j]? = some y := by rfl)
    (hx : X.env.scope.names.lookup x = some .local := by rfl) (hy : X.env.scope.names.lookup y = some .local := by rfl) (hw : swappedStores [.Tuple [.Name x px, .Name y py] kt pt] (.Tuple [.List [] p, b] k2 pt2) X.env = pure (some [x, y]) := by rfl)
    (hs : swapsWithSole [.Tuple [.Name x px, .Name y py] kt pt] (.Tuple [.List [] p, b] k2 pt2) pos.line X.env = pure false := by rfl) (hc : X.calm = true := by rfl) (hs1 : starEach [.List [] p, b] X.env = (false, eval (.List [] p) X.env) :: starEach [b] X.env := by rfl) (hs2 : starEach [b] X.env = (false, eval b X.env) :: starEach [] X.env := by rfl) :
    PSs X (.Assign [.Tuple [.Name x px, .Name y py] kt pt] (.Tuple [.List [] p, b] k2 pt2) pos :: rest) (tLS X.K T L ρ (.ret W)) :=
  pssI (pss_cons (ps_par hc hN hi hj hij hx hy (pa_cons (pe_lst pa_nil) (pa_cons hb pa_nil hs2) hs1) hw hs) pss_w) fun D σ H ⟨hh, g, k⟩ => ⟨by show 0 ≤ sizeLine; decide, fun M hM => by
    have ne := g.ne hM
    have sn : SameN (msk L H) (msk L (upd H M (.lst []))) := .new hM
    refine ⟨heldN sn hh, g.new hM, fun v H' w a s g' q => ⟨_, _, rfl, _, h w a, ?_⟩⟩
    obtain ⟨d, rfl, n⟩ := hW w a
    have hM' : H' M = some (.lst []) := by
      have := s M (.lst []) (by rw [msk_ne ne, upd_same]) nofun
      rw [msk_ne ne] at this
      exact this
    have s2 : SameN (msk L H) (msk L (msk M H')) := fun b o e m => by
      have hb : b ≠ M := fun z => by
        subst z
        by_cases q : b = L
        · exact ne q
        · rw [msk_ne q, hM] at e; cases e
      rw [msk_comm, msk_ne hb]
      exact s b o (sn b o e m) m
    have hlen : i < σ.length := by rw [hh.len]; exact hl
    refine ⟨M, ⟨ne, ?_, ⟨[], hM', .nil⟩, ((heldN s2 hh).setN i _).set j (w := .d d) ?_, ?_, flat_set (flat_none hf0 i) j n, g'⟩, fun v2 H2 w2 a2 s3 g2 q2 => k v2 H2 w2 a2 (s2.trans s3) g2 q2⟩
    · rw [List.getElem?_set_ne hij.symm, List.getElem?_set_self hlen]
    · rw [msk_comm]
      exact dpMsk (o := .lst []) (by rw [msk_ne ne]; exact hM') (fun _ z => by cases z) (fun _ _ z => by cases z) n q
    · rw [List.getElem?_set_ne hij.symm, List.getElem?_set_self hl]⟩
/-- a loop over a range -/
theorem ms_forW {k : Nat} {Pn : Nat → Prop} {y : Str} {py : Pos} {W : Sl → Prop} (Inv : Nat → Ev → List PyData → Prop) (hi : PI X (.Name y py) iter (tIRw X.K T L (asD ρ i ds) Pn)) (h0 : Inv 0 ρ ds) (hN : X.N.Nodup) (hki : k ≠ i)
    (turn : ∀ n, Pn n → ∀ m, m < n → ∀ ρ ds, Inv m ρ ds → PSs X body (tMS X.K T L i (ρ.set k (some (.d (.int (m : Int))))) ds (.nxt (Inv (m + 1))))) (after : ∀ n, Pn n → ∀ ρ ds, Inv n ρ ds → PSs X rest (tMS X.K T L i ρ ds (.ret W)))
    (hk : X.N[k]? = some y := by rfl) (hx : Loc X.env.scope y := by first | exact Or.inl rfl | exact Or.inr rfl) (hf : X.fn y = true ∨ X.env.scope.names.lookup y = some .local := by first | exact Or.inl rfl | exact Or.inr rfl)
    (hp : PassesOwn (model X.prog X.w) X.A X.env X.xe := by exact PassesOwn.never) (hc : X.calm = true := by rfl) (hs : ∀ x, foldedSetIterable iter X.env x = pure x := by intro _; rfl) :
    PSs X (.For (.Name y py) iter body [] pos :: rest) (tMS X.K T L i ρ ds (.ret W)) :=
  pssI (pss_cons (ps_for hp hc hi (pg_name hN hk hx hf) pss_w hs) pss_w) fun D σ H ⟨M, h, q⟩ => ⟨h.data, h.left, fun J H1 n hPn s1 g1 it => by
    obtain ⟨h1, s2⟩ := h.step s1 g1
    refine ⟨fun j m σ2 H2 => m = n - j ∧ j ≤ n ∧ SameN (msk L (msk M H1)) (msk L (msk M H2)) ∧ ∃ ρ' ds', Inv j ρ' ds' ∧ MAt X.K T L M i ρ' ds' σ2 H2, ⟨n, by omega, Nat.zero_le _, .refl _, ρ, ds, h0, h1⟩, ?_⟩
    rintro j m σ2 H2 ⟨rfl, hle, sm, ρ2, ds2, iv, h2⟩
    by_cases hlt : j < n
    · refine .inr ⟨it.go j H2 hlt, fun σ' H' => SameN (msk L (msk M H1)) (msk L (msk M H')) ∧ ∃ ρ' ds', Inv (j + 1) ρ' ds' ∧ MAt X.K T L M i ρ' ds' σ' H', fun σ' H' ⟨p1, p2⟩ => ⟨n - (j + 1), by omega, rfl, hlt, p1, p2⟩, fun x H3 yy => ?_⟩
      obtain ⟨rfl, rfl⟩ := it.yld j H2 x H3 hlt yy
      refine ⟨_, turn n hPn j hlt ρ2 ds2 iv, M, ⟨h2.ne, ?_, h2.ex, h2.held.set k (w := .d (.int (j : Int))) (.int _), ?_, flat_set h2.flat k rfl, h2.left⟩, fun σ' H' ρ' ds' hI s3 h3 => ⟨sm.trans s3, ρ', ds', hI, h3⟩⟩
      · rw [List.getElem?_set_ne hki]; exact h2.slot
      · rw [List.getElem?_set_ne hki]; exact h2.none
    · have hj : j = n := by omega
      subst hj
      exact .inl ⟨it.stop H2, _, after _ hPn ρ2 ds2 iv, M, h2, q.mono (s2.trans sm)⟩⟩
theorem ms_for {k n : Nat} {y : Str} {py : Pos} {W : Sl → Prop} (Inv : Nat → Ev → List PyData → Prop) (hi : PI X (.Name y py) iter (tIR X.K T L (asD ρ i ds) n)) (h0 : Inv 0 ρ ds) (hN : X.N.Nodup) (hki : k ≠ i)
    (turn : ∀ m, m < n → ∀ ρ ds, Inv m ρ ds → PSs X body (tMS X.K T L i (ρ.set k (some (.d (.int (m : Int))))) ds (.nxt (Inv (m + 1))))) (after : ∀ ρ ds, Inv n ρ ds → PSs X rest (tMS X.K T L i ρ ds (.ret W)))
    (hk : X.N[k]? = some y := by rfl) (hx : Loc X.env.scope y := by first | exact Or.inl rfl | exact Or.inr rfl) (hf : X.fn y = true ∨ X.env.scope.names.lookup y = some .local := by first | exact Or.inl rfl | exact Or.inr rfl)
    (hp : PassesOwn (model X.prog X.w) X.A X.env X.xe := by exact PassesOwn.never) (hc : X.calm = true := by rfl) (hs : ∀ x, foldedSetIterable iter X.env x = pure x := by intro _; rfl) :
    PSs X (.For (.Name y py) iter body [] pos :: rest) (tMS X.K T L i ρ ds (.ret W)) :=
  ms_forW (Pn := (· = n)) Inv (piI hi fun σ H R ⟨hh, g, q⟩ => ⟨hh, g, fun J H1 s g1 it => q J H1 n rfl s g1 it⟩) h0 hN hki (fun n' e => by rw [e]; exact turn) (fun n' e => by rw [e]; exact after) hk hx hf hp hc hs
end
end Bx
namespace Bx
open PySem L2 PySem.SeqAt
open LamX (Tabs)
open PySem.W (alike alikeAll dataLt dataLe EachIs AllAlike Sortable)
section
variable {C : Ctx} {f : Addr} {fd : FuncData}

/-! ### 77 -/
def cellOf (xs : List Int) (k : Nat) : Int := if 0 < xs.length then xs.getD (k % xs.length) 0 else 0
def digitsOf (c : Int) : Int := (c.natAbs : Int) % (10 : Int) ^ (60 : Int).toNat * b2 (decide ((10 : Int) ^ (18 : Int).toNat ≤ (c.natAbs : Int)))
def seedOf (c : Int) (k : Nat) : Int := (c % 2305843009213693951 + 7919 * (k : Int) * (k : Int) + 11) * 48271 % 2147483647
theorem b2_01 (b : Bool) : b2 b = 0 ∨ b2 b = 1 := by cases b <;> simp [b2]
theorem left_ok (c : Int) (k : Nat) : LeftOk (([digitsOf c, seedOf c k, 0] : List Int).map V.int) := by
  refine ⟨_, _, _, rfl, ?_, Int.emod_nonneg _ (by decide), Int.emod_lt_of_pos _ (by decide), Int.le_refl _⟩
  unfold digitsOf
  have h1 : 0 ≤ (c.natAbs : Int) % (10 : Int) ^ (60 : Int).toNat := Int.emod_nonneg _ (by decide)
  rcases b2_01 (decide ((10 : Int) ^ (18 : Int).toNat ≤ (c.natAbs : Int))) with e | e <;> rw [e] <;> simp <;> omega
theorem psE {X : Cx} {st : Stmt} {ρ ρ1 ρ2 : Ev} (h : PS X st (tDS X.K ρ (.nxt ρ1))) (e : ρ1 = ρ2) : PS X st (tDS X.K ρ (.nxt ρ2)) := e ▸ h
theorem psE' {X : Cx} {st : List Stmt} {ρ ρ1 ρ2 : Ev} (h : PSs X st (tDS X.K ρ (.nxt ρ1))) (e : ρ1 = ρ2) : PSs X st (tDS X.K ρ (.nxt ρ2)) := e ▸ h
abbrev R_law_left := Rf (A := List Int × Nat) (fun a => a.2 < 1000) (fun a => [.d (.list (a.1.map .int)), .d (.int (a.2 : Int))]) (fun a => .d (.list (([digitsOf (cellOf a.1 a.2), seedOf (cellOf a.1 a.2) a.2, 0] : List Int).map .int)))
abbrev N77 : List Str := ["_law_script", "_law_k", "_law_cell", "_law_digits"]
theorem sc77 : FnScope N77 ["_law_script", "_law_k"] (defScope (top 77)) := ⟨rfl, rfl, rfl, by decide +kernel, rfl, by decide +kernel, by decide +kernel⟩
theorem ok__law_left (F : Fd C.K "_law_left" "_law_left" (top 77) f fd) (m : C.mg "_law_left" = some (.ref f)) (B : Blt C) : Has C "_law_left" 1 R_law_left := by
  refine has_fn (fun a => [some (.d (.list (a.1.map .int))), some (.d (.int (a.2 : Int))), none, none]) F m sc77 (by decide) (fun _ _ _ _ _ _ us hl => match us, hl with | [_, _], _ => rfl) (fun _ => rfl) (fun _ => rfl) fun X a at_ hr hp ⟨cdv, A, outer, s, H, E, hX⟩ => ?_
  have hu : X.A.units + 64 < cLine := hr.units
  subst hX
  obtain ⟨xs, k⟩ := a
  have hk : k < 1000 := hp
  refine seq (st 2 pd_int sc77.nd) ?_
  refine seq (ρ' := [some (.d (.list (xs.map .int))), some (.d (.int (k : Int))), some (.d (.int (cellOf xs k))), none]) ?_ ?_
  · refine pds_if (x := decide (0 < xs.length)) (ptEq (cmpT (cb at_ B.len (cd_len (ds := xs.map PyData.int) rfl) (a1 (nm 0))) pd_int od_gt) (by rw [List.length_map, decide_eq_decide]; omega)) (fun e => pds_one (psE (st 2 (pd_ix (ds := xs.map PyData.int) rfl (d := .int (cellOf xs k)) ?_ (nm 0) (pd_eq (w' := .d (.int ((k % xs.length : Nat) : Int))) (bop (nm 1) (cb at_ B.len (cd_len (ds := xs.map PyData.int) rfl) (a1 (nm 0))) (od_mod ?_)) (by rw [List.length_map, Int.natCast_emod])) (fun _ _ => rfl)) sc77.nd) rfl)) (fun e => psE' pds_nxt ?_)
    · have h := of_decide_eq_true e
      refine atI_nat ?_
      rw [List.getElem?_map, List.getElem?_eq_getElem (Nat.mod_lt _ h)]
      unfold cellOf
      rw [if_pos h]
      simp [List.getD, Nat.mod_lt _ h]
    · have h := of_decide_eq_true e
      rw [List.length_map]; omega
    · have h := of_decide_eq_false e
      unfold cellOf
      rw [if_neg h]
      rfl
  · refine seq (st (w := .d (.int (digitsOf (cellOf xs k)))) 3 (bop (bop (cb at_ B.abs cd_abs (a1 (nm 2))) (bop pd_int pd_int (od_pow ⟨by decide, by decide, by decide⟩)) (od_mod (by decide))) (ct at_ B.int cd_intB (a1 (cmp (cb at_ B.abs cd_abs (a1 (nm 2))) (bop pd_int pd_int (od_pow ⟨by decide, by decide, by decide⟩)) od_ge))) (od_mul (.inr ?_))) sc77.nd) ?_
    · rcases b2_01 (decide ((10 : Int) ^ (18 : Int).toNat ≤ ((cellOf xs k).natAbs : Int))) with e | e <;> rw [e] <;> exact ⟨by decide, by decide⟩
    · refine rt (pd_lst (ds := [.int (digitsOf (cellOf xs k)), .int (seedOf (cellOf xs k) k), .int 0]) (a3 (nm 3) (bop (bop (bop (bop (bop (nm 2) pd_int (od_mod (by decide))) (bop (bop pd_int (nm 1) (od_mul (.inl ⟨by decide, by decide⟩))) (nm 1) (od_mul (.inr ⟨by omega, by omega⟩))) od_add) pd_int od_add) pd_int (od_mul (.inr ⟨by decide, by decide⟩))) pd_int (od_mod (by decide))) pd_int) (Nat.le_of_ble_eq_true rfl))

/-! ### more of drawn things -/
section
variable {X : Cx} {T : List (Addr × Str)} {L : Addr} {ρ : Ev} {e a b : Expr} {es rest : List Expr} {W W1 W2 W3 : Sl → Prop} {pos p : Pos}
theorem le_ixP {ds : List PyData} {n : Nat} (ha : PE X a (tD X.K ρ (.d (.list ds)))) (hb : PE X b (tLE X.K T L ρ (Wpick n))) (hn : n ≤ ds.length) (hs : PlainIx b) : PE X (.Subscript a b pos) (tLE X.K T L ρ (fun w => ∃ d ∈ ds, w = .d d)) :=
  le_weak (le_ix (P := (· = ds)) (le_weak (le_pure ha) fun w e => ⟨ds, rfl, e⟩) hb (fun ds' e => by rw [e]; exact hn) hs) fun w ⟨ds', d, e1, e2, e3⟩ => ⟨d, by rw [← e1]; exact e2, e3⟩
theorem same_back {H H1 : Hp} (s : Same H H1) : SameN (msk L H) (msk L H1) := fun b o e _ => by
  by_cases q : b = L
  · subst q; rw [msk_at] at e; cases e
  · rw [msk_ne q] at e ⊢; exact s b o e
theorem GL.same {H H1 : Hp} (g : GL T L H) (s : Same H H1) : GL T L H1 := by
  obtain ⟨vs, hL, ok⟩ := g.left
  exact ⟨⟨vs, s _ _ hL, ok⟩, g.tabs.ext s⟩
theorem GL.noL {H : Hp} (g : GL T L H) {K : PySem.W.Frag} {v : V} {d : PyData} (n : noL d = true) (q : Dp K H v d) : Dp K (msk L H) v d := by
  obtain ⟨vs, hL, ok⟩ := g.left
  exact dpMsk (o := .lst vs) hL (fun _ z => by cases z) (fun _ _ z => by cases z) n q
/-- T(e) -/
theorem le_ct {C : Ctx} {x : Str} {Ty : String} (at_ : At C X) (hm : C.mg x = none) (ha : PE X e (tLE X.K T L ρ W)) (hc : ∀ w, W w → ∃ d, W3 (.d d) ∧ noL d = true ∧ CallR X (.type Ty) (rDs X.K [w] (.d d))) (hg : Gl X x := by rfl) (hv : bootBuiltins x = some (.type Ty) := by decide +kernel) (hn : x ≠ "__name__" := by decide) (hdb : (x == ("__debug__" : Str)) = false := by decide)
    (he : starEach [e] X.env = (false, eval e X.env) :: starEach [] X.env := by rfl) (hpl : (backTo pos (starEach [] X.env)).any (·.1) = false := by rfl) : PE X (.Call (.Name x p) [e] [] pos) (tLE X.K T L ρ W3) := by
  have hO : CallR X (.type Ty) (fun xs H Q => ∃ w d, CallR X (.type Ty) (rDs X.K [w] (.d d)) ∧ rDs X.K [w] (.d d) xs H Q) := fun pins s σ H xs us Q I r ⟨w, d, h, q⟩ => h pins s σ H xs us Q I r q
  refine peI (pe_callTy hO hg (at_.no hm) hv (pa_cons ha pa_nil he) hn hdb he hpl) fun σ H Q ⟨hh, g, k⟩ => ⟨hh, g, fun v H1 w a s g1 q => ?_⟩
  obtain ⟨d, h3, n, h⟩ := hc w a
  exact ⟨w, d, h, .cons (q.mono msk_le) .nil, fun z H3 s3 q3 => k z H3 _ h3 (s.trans (same_back s3)) (g1.same s3) ((g1.same s3).noL n q3)⟩
/-- a[k] -/
theorem le_at {k : Int} {j : Nat} {p2 : Pos} (ha : PE X a (tLE X.K T L ρ W)) (hc : ∀ w, W w → ∃ d, W3 (.d d) ∧ noL d = true ∧ IxR X (rD X.K w (.d (.int k)) (.d d))) : PE X (.Subscript a (.Constant (.int k) j p2) pos) (tLE X.K T L ρ W3) := by
  have hO : IxR X (fun x y H Q => ∃ w d, IxR X (rD X.K w (.d (.int k)) (.d d)) ∧ rD X.K w (.d (.int k)) (.d d) x y H Q) := fun value slice pins s σ H x y v u Q I rx ry ⟨w, d, h, q⟩ hs => h value slice pins s σ H x y v u Q I rx ry q hs
  refine peI (pe_ix hO ha pe_int (fun _ _ => rfl)) fun σ H Q ⟨hh, g, q⟩ => ⟨hh, g, fun v H1 w a s g1 q1 => ?_⟩
  obtain ⟨d, h3, n, h⟩ := hc w a
  exact ⟨w, d, h, q1.mono msk_le, .int k, fun z H3 s3 q3 => q z H3 _ h3 (s.trans (same_back s3)) (g1.same s3) ((g1.same s3).noL n q3)⟩
theorem lw_and1 {P : Bool → Prop} (ha : PT X a (tLT X.K T L ρ P)) : PW X (.BoolOp .And [a] pos) (tLT X.K T L ρ P) := pw_and1 ha
theorem lw_and {P1 P2 : Bool → Prop} (ha : PT X a (tLT X.K T L ρ P1)) (hb : PW X (.BoolOp .And (b :: rest) pos) (tLT X.K T L ρ P2)) : PW X (.BoolOp .And (a :: b :: rest) pos) (tLT X.K T L ρ (fun k => k = true → P1 true ∧ P2 true)) :=
  pwI (pw_and ha hb) fun σ H Q ⟨hh, g, q⟩ => ⟨hh, g, fun k H1 hk s g1 => by
    cases k with
    | true => exact iteT ⟨heldN s hh, g1, fun k2 H2 hk2 s2 g2 => q k2 H2 (fun e => by subst e; exact ⟨hk, hk2⟩) (s.trans s2) g2⟩
    | false => exact iteF (q false H1 (fun e => by cases e) s g1)⟩
theorem lt_w {P : Bool → Prop} (h : PW X e (tLT X.K T L ρ P)) : PT X e (tLT X.K T L ρ P) := h.pt
theorem lt_weak {P P' : Bool → Prop} (h : PT X e (tLT X.K T L ρ P)) (i : ∀ k, P k → P' k) : PT X e (tLT X.K T L ρ P') := ptI h fun σ H Q ⟨hh, g, k⟩ => ⟨hh, g, fun b H' hb => k b H' (i b hb)⟩
abbrev Wint (P : Int → Prop) : Sl → Prop := fun w => ∃ i, P i ∧ w = .d (.int i)
end
section
variable {C : Ctx} {X : Cx} {T : List (Addr × Str)} {L : Addr} {ρ : Ev} {j : Nat} {e b : Expr} {pos p : Pos}
/-- pick(left, n) -/
theorem pick (n : Nat) (at_ : At C X) (P : HasS C "_law_pick" 1 (spPick C T)) (hr : Room j X.A) (h0 : PE X b (tD X.K ρ (.v (.ref L)))) (ha : PE X e (tD X.K ρ (.d (.int (n : Int))))) (hn : 1 ≤ n ∧ n ≤ 100000 := by decide) (hj : 1 ≤ j := by decide) (hg : Gl X "_law_pick" := by rfl) (hs : starEach [b, e] X.env = (false, eval b X.env) :: starEach [e] X.env := by rfl) (hs2 : starEach [e] X.env = (false, eval e X.env) :: starEach [] X.env := by rfl) (hpl : (backTo pos (starEach [e] X.env)).any (·.1) = false := by rfl) :
    PE X (.Call (.Name "_law_pick" p) [b, e] [] pos) (tLE X.K T L ρ (Wpick n)) := le_call (a := n) at_ P hr (a2 h0 ha hs hs2) hn hj hg (by decide) hs hpl
end
end
end Bx
namespace Bx
open PySem L2 PySem.SeqAt
open LamX (Tabs)
open PySem.W (alike alikeAll dataLt dataLe EachIs AllAlike Sortable)
section
variable {C : Ctx} {f : Addr} {fd : FuncData}

theorem intOp {X : Cx} {op : Operator} {P1 P2 : Int → Prop} {P3 : Int → Prop} (f : Int → Int → Int) (ho : ∀ i j, P1 i → P2 j → OpR X (binaryOp op) (rD X.K (.d (.int i)) (.d (.int j)) (.d (.int (f i j))))) (h : ∀ i j, P1 i → P2 j → P3 (f i j)) : ∀ w1 w2, Wint P1 w1 → Wint P2 w2 → ∃ d, Wint P3 (.d d) ∧ noL d = true ∧ OpR X (binaryOp op) (rD X.K w1 w2 (.d d)) := by
  rintro w1 w2 ⟨i, hi, rfl⟩ ⟨j, hj, rfl⟩
  exact ⟨.int (f i j), ⟨f i j, h i j hi hj, rfl⟩, rfl, ho i j hi hj⟩
theorem wint_of {ds : List PyData} {P : Int → Prop} (h : ∀ d ∈ ds, ∃ i, P i ∧ d = .int i) : ∀ w, (∃ d ∈ ds, w = .d d) → Wint P w := by
  rintro w ⟨d, hd, rfl⟩
  obtain ⟨i, hi, rfl⟩ := h d hd
  exact ⟨i, hi, rfl⟩
theorem wint_pick {n : Nat} : ∀ w, Wpick n w → Wint (fun i => 0 ≤ i ∧ i < n) w := by
  rintro w ⟨i, hi, rfl⟩
  exact ⟨(i : Int), ⟨by omega, by omega⟩, rfl⟩
theorem wint_d {P : Int → Prop} : ∀ w, Wint P w → ∃ d, w = .d d ∧ noL d = true := by
  rintro w ⟨i, _, rfl⟩
  exact ⟨_, rfl, rfl⟩
theorem wint_dd {P : Int → Prop} : ∀ w, Wint P w → ∃ d, w = .d d := by
  rintro w ⟨i, _, rfl⟩
  exact ⟨_, rfl⟩
abbrev S_law_number (C : Ctx) (T : List (Addr × Str)) : Sp := spL C.K T (A := House × Nat) (fun a => HouseOk a.1 ∧ a.2 < a.1.d) (fun a => [.d (encHouse a.1), .d (.int (a.2 : Int))]) (fun a => Wint fun _ => True)
abbrev N80 : List Str := ["_law_left_here", "_law_house_here", "_law_i", "_law_numbers", "_law_thing"]
theorem sc80 : FnScope N80 ["_law_left_here", "_law_house_here", "_law_i"] (defScope (top 80)) := ⟨rfl, rfl, rfl, by decide +kernel, rfl, by decide +kernel, by decide +kernel⟩
theorem ok__law_number {T : List (Addr × Str)} (F : Fd C.K "_law_number" "_law_number" (top 80) f fd) (m : C.mg "_law_number" = some (.ref f)) (B : Blt C) (P : HasS C "_law_pick" 1 (spPick C T)) : HasS C "_law_number" 2 (S_law_number C T) := by
  refine hasL_fn (fun a => [some (.d (encHouse a.1)), some (.d (.int (a.2 : Int))), none, none]) F m sc80 (by decide) (fun _ _ _ _ _ _ us hl => match us, hl with | [_, _, _], _ => rfl) (fun _ => rfl) (fun _ => rfl) fun X L a at_ hr hp ⟨cdv, A, outer, s, H, E, hX⟩ => ?_
  have hu : X.A.units + 64 < cLine := hr.units
  subst hX
  obtain ⟨h, i⟩ := a
  obtain ⟨hh, hi⟩ := hp
  simp only at hh hi
  have hm := hh.many
  refine ls_seq (ls_pure (st (w := .d (.list (h.things.map (fun t => PyData.int (t.place.getD i 0)) ++ [.int 0]))) 3 (bop (pd_lc rfl sc80.nd h.things encThing (fun t => .int (t.place.getD i 0)) (own := [("_law_thing", 4)]) (pid_tup (ix 1 (nm 1))) (blkOk_by (N := N80) (sc := defScope (top 80)) (by decide +kernel)) (fun t ht => ⟨_, _, by decide, fun s H C cl fp => gn 4 sc80.nd, fun s H C' c' fp => pd_ix (ds := t.place.map Enc.enc) rfl (d := .int (t.place.getD i 0)) (at_place (by rw [hh.len t ht]; exact hi)) (ix 1 (nm 4)) (nm 2) (fun _ _ => rfl)⟩) (by omega) (by intro _; rfl)) (l1 pd_int) (od_catL (by rw [List.length_map]; show _ + 1 ≤ _; omega))) sc80.nd)) fun ρ' e => ?_
  subst e
  refine ls_ret (le_bop (le_weak (le_ixP (n := h.things.length + 1) (nm 3) (pick (h.things.length + 1) at_ P hr (nm 0) (pd_eq (cb at_ B.len (cd_len (ds := h.things.map (fun t => PyData.int (t.place.getD i 0)) ++ [.int 0]) rfl) (a1 (nm 3))) (by rw [List.length_append, List.length_map]; rfl)) ⟨by omega, by omega⟩) ?_ (fun _ _ => rfl)) (wint_of (P := fun _ => True) ?_)) (le_weak (le_ixP (n := 6) (pd_lst (ds := [.int 0, .int 0, .int 0, .int 1, .int (-1), .int 2]) (pds_cons pd_int (pds_cons pd_int (pds_cons pd_int (pds_cons pd_int (pds_cons (pd_un ud_neg pd_int) (pds_cons pd_int pds_nil)))))) (Nat.le_of_ble_eq_true rfl)) (pick 6 at_ P hr (nm 0) pd_int) (by decide) (fun _ _ => rfl)) (wint_of (P := fun _ => True) ?_)) (intOp (fun i j => i + j) (fun i j _ _ => od_add) (fun _ _ _ _ => trivial)))
  · rw [List.length_append, List.length_map]; exact Nat.le_refl _
  · intro d hd
    rcases List.mem_append.mp hd with z | z
    · obtain ⟨t, _, rfl⟩ := List.mem_map.mp z
      exact ⟨_, trivial, rfl⟩
    · rw [List.mem_singleton.mp z]; exact ⟨_, trivial, rfl⟩
  · intro d hd
    simp only [List.mem_cons, List.not_mem_nil, or_false] at hd
    rcases hd with rfl | rfl | rfl | rfl | rfl | rfl <;> exact ⟨_, trivial, rfl⟩
end
end Bx
namespace Bx
open PySem L2 PySem.SeqAt
open LamX (Tabs)
open PySem.W (alike alikeAll dataLt dataLe EachIs AllAlike Sortable)
set_option maxHeartbeats 1000000
section
variable {C : Ctx} {f : Addr} {fd : FuncData}

/-- target = e -/
theorem ls_asg {X : Cx} {T : List (Addr × Str)} {L : Addr} {ρ : Ev} {tg e : Expr} {W : Sl → Prop} {pos : Pos} (ρ1 : PyData → Ev) (he : PE X e (tLE X.K T L ρ W)) (hg : ∀ d, W (.d d) → ∃ vs, PG X tg (tG X.K ρ d (ρ1 d) vs)) (hd : ∀ w, W w → ∃ d, w = .d d) (hs : swapsWithSole [tg] e pos.line X.env = pure false := by rfl) (hw : swappedStores [tg] e X.env = pure none := by rfl)
    (h1 : (assignEach [tg] X.env).map (·.2) = [assign tg X.env] := by rfl) : PS X (.Assign [tg] e pos) (tLS X.K T L ρ (.nxt fun ρ' => ∃ d, W (.d d) ∧ ρ' = ρ1 d)) := by
  let G : TG := fun v σ H Q => ∃ t, PG X tg t ∧ t v σ H Q
  have hG : PG X tg G := ⟨fun pins s' σ H' v u Q I r ⟨t, h, q⟩ => h.run pins s' σ H' v u Q I r q⟩
  refine psI (ps_asg he hG hs hw h1) fun D σ H ⟨hh, g, k⟩ => ⟨hh, g, fun v H' w a s g' q => ?_⟩
  obtain ⟨d, rfl⟩ := hd w a
  obtain ⟨vs, hp⟩ := hg d a
  obtain ⟨xs, hL, ok⟩ := g'.left
  refine ⟨_, pg_fr hp L, xs, hL, heldN s hh, q, fun σ' h1 _ _ n => ?_⟩
  rw [upd_msk hL]
  exact k σ' H' _ ⟨d, a, rfl⟩ s g' h1
theorem two_of {W1 W2 : Sl → Prop} {ds : List PyData} (h : EachD [W1, W2] ds) : ∃ x y, ds = [x, y] ∧ W1 (.d x) ∧ W2 (.d y) := by
  match ds, h with
  | [x, y], .cons hx (.cons hy .nil) => exact ⟨x, y, rfl, hx, hy⟩
abbrev Wnat (lo hi : Nat) : Sl → Prop := fun w => ∃ n : Nat, (lo ≤ n ∧ n ≤ hi) ∧ w = .d (.int (n : Int))
theorem wnat_of {ds : List PyData} {lo hi : Nat} (h : ∀ d ∈ ds, ∃ n : Nat, (lo ≤ n ∧ n ≤ hi) ∧ d = .int (n : Int)) : ∀ w, (∃ d ∈ ds, w = .d d) → Wnat lo hi w := by
  rintro w ⟨d, hd, rfl⟩
  obtain ⟨i, hi, rfl⟩ := h d hd
  exact ⟨i, hi, rfl⟩
theorem wnat_int {lo hi : Nat} : ∀ w, Wnat lo hi w → Wint (fun i => (lo : Int) ≤ i ∧ i ≤ (hi : Int)) w := by
  rintro w ⟨i, h, rfl⟩
  exact ⟨(i : Int), ⟨by omega, by omega⟩, rfl⟩
theorem weq_int {i : Int} : ∀ w, w = Sl.d (.int i) → Wint (· = i) w := fun w e => ⟨i, rfl, e⟩
theorem ints_of {ds : List PyData} (h : ∀ d ∈ ds, Wint (fun _ => True) (.d d)) : ∃ p : List Int, p.length = ds.length ∧ ds = p.map .int := by
  induction ds with
  | nil => exact ⟨[], rfl, rfl⟩
  | cons d ds ih =>
    obtain ⟨i, _, e⟩ := h d (List.mem_cons_self ..)
    obtain ⟨p, h1, h2⟩ := ih fun x hx => h x (List.mem_cons_of_mem _ hx)
    exact ⟨i :: p, by simp [h1], by rw [List.map_cons, ← h2]; rw [Sl.d.inj e]⟩
theorem od_neThings {X : Cx} (hu : X.A.units + 64 < cLine) (ts : List Thing) : OpR X (compareOp .NotEq) (rD X.K (.d (.list (ts.map encThing))) (.d (.list [])) (.d (.bool (!decide (ts = []))))) := by
  have hd := depth_things ts
  have q := od_ne (X := X) (x := .list (ts.map encThing)) (y := .list []) hu (by
    unfold shaped
    have h1 : (PyData.list (ts.map encThing)).canLay0 = true := lay_things ts
    rw [h1, Bool.true_and, decide_eq_true_eq]
    show PyData.depthAll (ts.map encThing) + 1 ≤ 64
    omega) rfl
  have e : PyData.eqv (.list (ts.map encThing)) (.list []) = decide (ts = []) := by
    cases ts with
    | nil => simp [PyData.eqv, PyData.eqvAll]
    | cons t ts => simp [PyData.eqv, PyData.eqvAll]
  rw [e] at q
  exact q
theorem od_eqIk {X : Cx} (hu : X.A.units + 64 < cLine) {P1 P2 : Int → Prop} : ∀ w1 w2, Wint P1 w1 → Wint P2 w2 → ∃ k, (fun _ : Bool => True) k ∧ OpR X (compareOp .Eq) (rD X.K w1 w2 (.d (.bool k))) := by
  rintro w1 w2 ⟨i, _, rfl⟩ ⟨j, _, rfl⟩
  exact ⟨_, trivial, od_eqI hu⟩
abbrev S_law_house (C : Ctx) (T : List (Addr × Str)) : Sp := spL C.K T (A := Unit) (fun _ => True) (fun _ => []) (fun _ => fun w => ∃ h : House, HouseOk h ∧ w = .d (encHouse h))
abbrev N79 : List Str := ["_law_left_here", "_law_d", "_law_wide", "_law_scale", "_law_things", "_law_name", "_law_k", "_law_place", "_law_far", "_law_i"]
theorem sc79 : FnScope N79 ["_law_left_here"] (defScope (top 79)) := ⟨rfl, rfl, rfl, by decide +kernel, rfl, by decide +kernel, by decide +kernel⟩
theorem ok__law_house {T : List (Addr × Str)} (F : Fd C.K "_law_house" "_law_house" (top 79) f fd) (m : C.mg "_law_house" = some (.ref f)) (B : Blt C) (P : HasS C "_law_pick" 1 (spPick C T)) : HasS C "_law_house" 2 (S_law_house C T) := by
  refine hasL_fn (fun _ => [none, none, none, none, none, none, none, none, none]) F m sc79 (by decide) (fun _ _ _ _ _ _ us hl => match us, hl with | [_], _ => rfl) (fun _ => rfl) (fun _ => rfl) fun X L a at_ hr hp ⟨cdv, A, outer, s, H, E, hX⟩ => ?_
  have hu : X.A.units + 64 < cLine := hr.units
  subst hX
  refine ls_seq (ls_set 1 (le_weak (le_ixP (n := 6) (pd_lst (ds := [.int 1, .int 2, .int 2, .int 3, .int 3, .int 4]) (pds_cons pd_int (pds_cons pd_int (pds_cons pd_int (pds_cons pd_int (pds_cons pd_int (pds_cons pd_int pds_nil)))))) (Nat.le_of_ble_eq_true rfl)) (pick 6 at_ P hr (nm 0) pd_int) (by decide) (fun _ _ => rfl)) (wnat_of (lo := 1) (hi := 4) ?c1)) sc79.nd) fun ρ' ⟨w, ⟨dd, hdd, e1⟩, e⟩ => ?_
  case c1 => 
    intro d hd
    simp only [List.mem_cons, List.not_mem_nil, or_false] at hd
    rcases hd with rfl | rfl | rfl | rfl | rfl | rfl
    · exact ⟨1, ⟨by decide, by decide⟩, rfl⟩
    · exact ⟨2, ⟨by decide, by decide⟩, rfl⟩
    · exact ⟨2, ⟨by decide, by decide⟩, rfl⟩
    · exact ⟨3, ⟨by decide, by decide⟩, rfl⟩
    · exact ⟨3, ⟨by decide, by decide⟩, rfl⟩
    · exact ⟨4, ⟨by decide, by decide⟩, rfl⟩
  subst e e1
  refine ls_seq (ls_asg (fun d => match d with | .tuple [x, y] => [some (.v (.ref L)), some (.d (.int (dd : Int))), some (.d x), some (.d y), none, none, none, none, none, none] | _ => []) (le_tup (la_cons (le_weak (le_ixP (n := 6) (pd_lst (ds := [.int 1, .int 2, .int 3, .int 5, .int 9, .int 40]) (pds_cons pd_int (pds_cons pd_int (pds_cons pd_int (pds_cons pd_int (pds_cons pd_int (pds_cons pd_int pds_nil)))))) (Nat.le_of_ble_eq_true rfl)) (pick 6 at_ P hr (nm 0) pd_int) (by decide) (fun _ _ => rfl)) (wnat_of (lo := 1) (hi := 40) ?c1)) (la_cons (le_weak (le_ixP (n := 4) (pd_lst (ds := [.int 1, .int 1, .int 3, .int ((10 : Int) ^ (15 : Int).toNat)]) (pds_cons pd_int (pds_cons pd_int (pds_cons pd_int (pds_cons (bop pd_int pd_int (od_pow ⟨by decide, by decide, by decide⟩)) pds_nil)))) (Nat.le_of_ble_eq_true rfl)) (pick 4 at_ P hr (nm 0) pd_int) (by decide) (fun _ _ => rfl)) (wint_of (P := fun i => 0 ≤ i ∧ i < 2 ^ 64) ?c2)) la_nil)) ?l1 (Nat.le_of_ble_eq_true rfl)) ?g1 ?g2) ?nx
  case l1 =>
    intro W hW w hw
    simp only [List.mem_cons, List.not_mem_nil, or_false] at hW
    rcases hW with rfl | rfl
    · obtain ⟨n, _, e⟩ := hw; exact ⟨_, e⟩
    · exact wint_dd w hw
  case g1 =>
    rintro d ⟨ds, hds, e⟩
    have e := Sl.d.inj e
    subst e
    obtain ⟨x, y, rfl, _, _⟩ := two_of hds
    exact ⟨_, gd_tup (ds := [x, y]) rfl (gds_cons (gn 2 sc79.nd) (gds_cons (gn 3 sc79.nd) gds_nil)) rfl⟩
  case g2 =>
    rintro w ⟨ds, _, rfl⟩
    exact ⟨_, rfl⟩
  case c1 => 
    intro d hd
    simp only [List.mem_cons, List.not_mem_nil, or_false] at hd
    rcases hd with rfl | rfl | rfl | rfl | rfl | rfl
    · exact ⟨1, ⟨by decide, by decide⟩, rfl⟩
    · exact ⟨2, ⟨by decide, by decide⟩, rfl⟩
    · exact ⟨3, ⟨by decide, by decide⟩, rfl⟩
    · exact ⟨5, ⟨by decide, by decide⟩, rfl⟩
    · exact ⟨9, ⟨by decide, by decide⟩, rfl⟩
    · exact ⟨40, ⟨by decide, by decide⟩, rfl⟩
  case c2 => 
    intro d hd
    simp only [List.mem_cons, List.not_mem_nil, or_false] at hd
    rcases hd with rfl | rfl | rfl | rfl
    · exact ⟨_, ⟨by decide, by decide⟩, rfl⟩
    · exact ⟨_, ⟨by decide, by decide⟩, rfl⟩
    · exact ⟨_, ⟨by decide, by decide⟩, rfl⟩
    · exact ⟨_, ⟨by decide, by decide⟩, rfl⟩
  rintro ρ' ⟨d, ⟨ds, hds, e⟩, rfl⟩
  have e := Sl.d.inj e
  subst e
  obtain ⟨x, y, rfl, ⟨wd, hwd, e1⟩, ⟨sc, hsc, e2⟩⟩ := two_of hds
  have e1 := Sl.d.inj e1
  have e2 := Sl.d.inj e2
  subst e1 e2
  refine ms_newpar (i := 4) 5 (le_weak (pick 3 at_ P hr (nm 0) pd_int) wint_pick) wint_d sc79.nd ?fl fun w ⟨nm0, hnm0, e1⟩ => ?_
  case fl =>
    intro j w e
    match j, e with
    | 0, e => cases e; rfl
    | 1, e => cases e; rfl
    | 2, e => cases e; rfl
    | 3, e => cases e; rfl
    | 4, e => cases e
    | 5, e => cases e
    | 6, e => cases e
    | 7, e => cases e
    | 8, e => cases e
    | 9, e => cases e
    | n + 10, e => cases e
  subst e1
  refine ms_forW (k := 6) (Pn := fun n => n ≤ 30) (fun m ρ ds => ∃ (ts : List Thing) (nm1 : Int) (k6 x7 x8 : Option Sl), ρ = [some (.v (.ref L)), some (.d (.int (dd : Int))), some (.d (.int (wd : Int))), some (.d (.int sc)), none, some (.d (.int nm1)), k6, x7, x8, none] ∧ ds = ts.map encThing ∧ ts.length = m ∧ (∀ t ∈ ts, t.place.length = dd ∧ t.name < nm1) ∧ (ts.map (·.name)).Pairwise (· < ·)) (pi_rangeW at_ B.range (le_weak (le_ixP (n := 10) (pd_lst (ds := [.int 0, .int 1, .int 2, .int 3, .int 4, .int 6, .int 8, .int 12, .int 20, .int 30]) (pds_cons pd_int (pds_cons pd_int (pds_cons pd_int (pds_cons pd_int (pds_cons pd_int (pds_cons pd_int (pds_cons pd_int (pds_cons pd_int (pds_cons pd_int (pds_cons pd_int pds_nil)))))))))) (Nat.le_of_ble_eq_true rfl)) (pick 10 at_ P hr (nm 0) pd_int) (by decide) (fun _ _ => rfl)) fun w hw => ?c1) (fun n hn => Nat.lt_of_le_of_lt hn (by decide))) ⟨[], nm0, none, none, none, rfl, rfl, rfl, nofun, .nil⟩ sc79.nd (by decide) ?turn ?after
  case c1 =>
    obtain ⟨n, ⟨_, hn⟩, e⟩ := wnat_of (lo := 0) (hi := 30) (by
    intro d hd
    simp only [List.mem_cons, List.not_mem_nil, or_false] at hd
    rcases hd with rfl | rfl | rfl | rfl | rfl | rfl | rfl | rfl | rfl | rfl
    · exact ⟨0, ⟨by decide, by decide⟩, rfl⟩
    · exact ⟨1, ⟨by decide, by decide⟩, rfl⟩
    · exact ⟨2, ⟨by decide, by decide⟩, rfl⟩
    · exact ⟨3, ⟨by decide, by decide⟩, rfl⟩
    · exact ⟨4, ⟨by decide, by decide⟩, rfl⟩
    · exact ⟨6, ⟨by decide, by decide⟩, rfl⟩
    · exact ⟨8, ⟨by decide, by decide⟩, rfl⟩
    · exact ⟨12, ⟨by decide, by decide⟩, rfl⟩
    · exact ⟨20, ⟨by decide, by decide⟩, rfl⟩
    · exact ⟨30, ⟨by decide, by decide⟩, rfl⟩) w hw
    exact ⟨n, hn, e⟩
  case after =>
    rintro n hn ρ ds ⟨ts, nm1, k6, x7, x8, rfl, rfl, hl, hts, hpw⟩
    refine ms_data (ls_weakR (ls_pures (rt (t2 (nm 1) (ct at_ B.tuple (cd_tup rfl) (a1 (nm 4)))))) fun w e => ⟨⟨dd, ts⟩, ⟨hdd.1, hdd.2, by show ts.length ≤ 30; omega, fun t ht => (hts t ht).1, hpw⟩, e⟩)
  case turn =>
    rintro n hn m hm ρ ds ⟨ts, nm1, k6, x7, x8, rfl, rfl, hl, hts, hpw⟩
    -- the place
    refine ms_seq (P := fun ρ' ds' => ds' = ts.map encThing ∧ ∃ p : Place, p.length = dd ∧ ρ' = [some (.v (.ref L)), some (.d (.int (dd : Int))), some (.d (.int (wd : Int))), some (.d (.int sc)), none, some (.d (.int nm1)), some (.d (.int (m : Int))), some (ed p), x8, none]) (ms_weak1 (ms_set (W := fun w => ∃ p : Place, p.length = dd ∧ w = ed p) 7 (le_ct (Ty := "tuple") at_ B.tuple (le_lcR (W := Wint fun _ => True) rfl sc79.nd (pi_rangeL (n := dd) at_ B.range (nm 1) (Nat.lt_of_le_of_lt hdd.2 (by decide))) (own := [("_law_i", 9)]) (blkOk_by (N := N79) (sc := defScope (top 79)) (by decide +kernel)) (fun i => [some (.v (.ref L)), some (.d (.int (dd : Int))), some (.d (.int (wd : Int))), some (.d (.int sc)), some (.d (.list (ts.map encThing))), some (.d (.int nm1)), some (.d (.int (m : Int))), x7, x8, some (.d (.int (i : Int)))]) (fun i hi => ⟨_, by decide, fun s H C cl fp => gn 9 sc79.nd, fun s H C' c' fp => le_bop (le_bop (le_weak (pick (2 * wd + 1) at_.blk P hr (nm 0) (pd_eq (bop (bop pd_int (nm 2) (od_mul (.inl ⟨by decide, by decide⟩))) pd_int od_add) rfl) ⟨by omega, by have := hwd.2; omega⟩) wint_pick) (le_weak (le_pure (nm 2)) weq_int) (intOp (P3 := fun _ => True) (fun i j => i - j) (fun i j _ _ => od_sub) (fun _ _ _ _ => trivial))) (le_weak (le_pure (nm 3)) weq_int) (intOp (fun i j => i * j) (fun i j _ hj => od_mul (.inr (by rw [hj]; exact ⟨by omega, by omega⟩))) (fun _ _ _ _ => trivial))⟩) wint_dd (by have := hdd.2; omega) (by intro _; rfl)) ?ctup) ?cW sc79.nd) fun ρ' ds' ⟨e1, w, ⟨p, hp, e2⟩, e3⟩ => ⟨e1, p, hp, by rw [e3, e2]; rfl⟩) ?_
    case ctup =>
      rintro w ⟨ds, hdl, hdi, rfl⟩
      obtain ⟨p, hp1, hp2⟩ := ints_of hdi
      subst hp2
      exact ⟨en p, ⟨p, by omega, rfl⟩, Enc.nol p, cd_tup rfl⟩
    case cW =>
      rintro w ⟨p, _, rfl⟩
      exact ⟨_, rfl, Enc.nol p⟩
    rintro ρ' ds' ⟨rfl, p, hp, rfl⟩
    -- perhaps one that was
    refine ms_seq (P := fun ρ' ds' => ds' = ts.map encThing ∧ ∃ p : Place, p.length = dd ∧ ρ' = [some (.v (.ref L)), some (.d (.int (dd : Int))), some (.d (.int (wd : Int))), some (.d (.int sc)), none, some (.d (.int nm1)), some (.d (.int (m : Int))), some (ed p), x8, none]) (ms_if (P := fun k => k = true → (true = !decide (ts = [])) ∧ True) (lt_w (lw_and (P1 := fun k => k = !decide (ts = [])) (lt_pure (cmpT (nm 4) l0 (od_neThings hu ts))) (lw_and1 (lt_cmp (le_weak (pick 6 at_ P hr (nm 0) pd_int) wint_pick) (le_weak (le_pure pd_int) weq_int) (od_eqIk hu))))) (fun hk => ?pa) (fun _ => ms_weak ms_nil fun ρ' ds' ⟨e1, e2⟩ => ⟨e2, p, hp, e1⟩)) ?_
    case pa =>
      have hne : ts ≠ [] := by have := (hk rfl).1; simpa using this
      have hpos : 0 < ts.length := List.length_pos_iff.mpr hne
      refine ms_one (ms_weak1 (ms_set (W := fun w => ∃ p : Place, p.length = dd ∧ w = ed p) 7 (le_at (k := 1) (le_ixP (n := ts.length) (nm 4) (pick ts.length at_ P hr (nm 0) (pd_eq (cb at_ B.len (cd_len (ds := ts.map encThing) rfl) (a1 (nm 4))) (by rw [List.length_map])) ⟨hpos, by omega⟩) (by rw [List.length_map]; exact Nat.le_refl _) (fun _ _ => rfl)) ?ixt) ?cW sc79.nd) fun ρ' ds' ⟨e1, w, ⟨p, hp, e2⟩, e3⟩ => ⟨e1, p, hp, by rw [e3, e2]; rfl⟩)
      case ixt =>
        rintro w ⟨d, hd, rfl⟩
        obtain ⟨t, ht, rfl⟩ := List.mem_map.mp hd
        exact ⟨en t.place, ⟨t.place, (hts t ht).1, rfl⟩, Enc.nol t.place, ird_seq (ds := [.int t.name, en t.place, .int t.worth]) rfl rfl⟩
      case cW =>
        rintro w ⟨p, _, rfl⟩
        exact ⟨_, rfl, Enc.nol p⟩
    clear hp p
    rintro ρ' ds' ⟨rfl, p, hp, rfl⟩
    -- the far one
    refine ms_seq (ms_set 8 (le_weak (le_ixP (n := 2) (pd_lst (ds := [.int ((10 : Int) ^ (17 : Int).toNat), .int (-((10 : Int) ^ (17 : Int).toNat))]) (pds_cons (bop pd_int pd_int (od_pow ⟨by decide, by decide, by decide⟩)) (pds_cons (pd_un ud_neg (bop pd_int pd_int (od_pow ⟨by decide, by decide, by decide⟩))) pds_nil)) (Nat.le_of_ble_eq_true rfl)) (pick 2 at_ P hr (nm 0) pd_int) (by decide) (fun _ _ => rfl)) (wint_of (P := fun _ => True) ?cf)) wint_d sc79.nd) ?_
    case cf => 
        intro d hd
        simp only [List.mem_cons, List.not_mem_nil, or_false] at hd
        rcases hd with rfl | rfl
        · exact ⟨_, trivial, rfl⟩
        · exact ⟨_, trivial, rfl⟩
    rintro ρ' ds' ⟨rfl, w, ⟨fr, _, rfl⟩, rfl⟩
    -- the thing
    refine ms_seq (ms_app (W := fun w => ∃ t : Thing, (t.name = nm1 ∧ t.place = p) ∧ w = .d (encThing t)) (le_weak (le_tup (la_cons (le_weak (le_pure (nm 5)) weq_int) (la_cons (le_pure (nm 7 (w := ed p))) (la_cons (W := Wint fun _ => True) (le_weak (le_ix (n := 3) (le_lst (la_cons (le_bop (le_weak (pick 5 at_ P hr (nm 0) pd_int) wint_pick) (le_weak (le_pure pd_int) weq_int) (intOp (P3 := fun _ => True) (fun i j => i - j) (fun i j _ _ => od_sub) (fun _ _ _ _ => trivial))) (la_cons (le_bop (le_weak (pick 1000 at_ P hr (nm 0) pd_int) wint_pick) (le_weak (le_pure pd_int) weq_int) (intOp (P3 := fun _ => True) (fun i j => i - j) (fun i j _ _ => od_sub) (fun _ _ _ _ => trivial))) (la_cons (le_weak (le_pure (nm 8)) weq_int) la_nil))) ?l1 (Nat.le_of_ble_eq_true rfl)) (pick 3 at_ P hr (nm 0) pd_int) ?l2 (fun _ _ => rfl)) ?l3) la_nil))) ?l4 (Nat.le_of_ble_eq_true rfl)) ?l5) ?l6 (by rw [List.length_map]; omega)) ?_
    case l1 =>
      intro W hW w hw
      simp only [List.mem_cons, List.not_mem_nil, or_false] at hW
      rcases hW with rfl | rfl | rfl
      · exact wint_dd w hw
      · exact wint_dd w hw
      · exact wint_dd w hw
    case l2 =>
      intro ds hds
      have := Paired.length hds
      rw [List.length_map] at this
      exact Nat.le_of_eq this
    case l3 =>
      rintro w ⟨ds, d, hds, hd, rfl⟩
      have hall : ∀ (Ws : List (Sl → Prop)) (ds : List PyData), EachD Ws ds → (∀ W ∈ Ws, ∀ w, W w → Wint (fun _ => True) w) → ∀ d ∈ ds, Wint (fun _ => True) (.d d) := by
        intro Ws ds h
        induction ds generalizing Ws with
        | nil => intro _ d hd; cases hd
        | cons x xs ih =>
          intro hW d hd
          cases h with
          | cons a t =>
            rcases List.mem_cons.mp hd with rfl | hd
            · exact hW _ (List.mem_cons_self ..) _ a
            · exact ih _ t (fun W hW' => hW W (List.mem_cons_of_mem _ hW')) d hd
      refine hall _ ds hds (fun W hW w hw => ?_) d hd
      simp only [List.mem_cons, List.not_mem_nil, or_false] at hW
      rcases hW with rfl | rfl | rfl
      · exact hw
      · exact hw
      · obtain ⟨i, _, e⟩ := hw; exact ⟨i, trivial, e⟩
    case l4 =>
      intro W hW w hw
      simp only [List.mem_cons, List.not_mem_nil, or_false] at hW
      rcases hW with rfl | rfl | rfl
      · exact wint_dd w hw
      · exact ⟨_, hw⟩
      · exact wint_dd w hw
    case l5 =>
      rintro w ⟨ds, hds, rfl⟩
      match ds, hds with
      | [x, y, z], .cons hx (.cons hy (.cons hz .nil)) =>
        obtain ⟨i, rfl, e1⟩ := hx
        obtain ⟨j, _, e3⟩ := hz
        have e2 := Sl.d.inj hy
        have e1 := Sl.d.inj e1
        have e3 := Sl.d.inj e3
        subst e1 e2 e3
        exact ⟨⟨i, p, j⟩, ⟨rfl, rfl⟩, rfl⟩
    case l6 =>
      rintro w ⟨t, _, rfl⟩
      exact ⟨_, rfl, noL_thing t⟩
    rintro ρ' ds' ⟨rfl, d, ⟨t, ⟨ht1, ht2⟩, et⟩, rfl⟩
    have et := Sl.d.inj et
    subst et
    -- the next name
    refine ms_one (ms_weak1 (ms_set (W := Wint (fun i => nm1 < i)) 5 (le_bop (le_weak (le_pure (bop (nm 5) pd_int od_add)) weq_int) (le_weak (le_ixP (n := 5) (pd_lst (ds := [.int 0, .int 0, .int 1, .int 7, .int 40]) (pds_cons pd_int (pds_cons pd_int (pds_cons pd_int (pds_cons pd_int (pds_cons pd_int pds_nil))))) (Nat.le_of_ble_eq_true rfl)) (pick 5 at_ P hr (nm 0) pd_int) (by decide) (fun _ _ => rfl)) (wint_of (P := fun i => 0 ≤ i) ?cn)) (intOp (fun i j => i + j) (fun i j _ _ => od_add) (fun i j h1 h2 => by omega))) wint_d sc79.nd) ?_)
    case cn => 
        intro d hd
        simp only [List.mem_cons, List.not_mem_nil, or_false] at hd
        rcases hd with rfl | rfl | rfl | rfl | rfl
        · exact ⟨_, by decide, rfl⟩
        · exact ⟨_, by decide, rfl⟩
        · exact ⟨_, by decide, rfl⟩
        · exact ⟨_, by decide, rfl⟩
        · exact ⟨_, by decide, rfl⟩
    rintro ρ' ds' ⟨rfl, w, ⟨nm2, hn2, rfl⟩, rfl⟩
    refine ⟨ts ++ [t], nm2, some (.d (.int (m : Int))), some (ed p), some (.d (.int fr)), rfl, by simp, by simp [hl], fun u hu => ?_, ?_⟩
    · rcases List.mem_append.mp hu with z | z
      · exact ⟨(hts u z).1, Int.lt_trans (hts u z).2 hn2⟩
      · rw [List.mem_singleton.mp z, ht1, ht2]; exact ⟨hp, hn2⟩
    · rw [List.map_append, List.pairwise_append]
      refine ⟨hpw, List.pairwise_singleton _ _, fun a ha b hb => ?_⟩
      obtain ⟨u, hu, rfl⟩ := List.mem_map.mp ha
      rw [List.mem_singleton.mp hb]
      show u.name < t.name
      rw [ht1]
      exact (hts u hu).2
end
end Bx
namespace Bx
open PySem L2 PySem.SeqAt
open LamX (Tabs)
open PySem.W (alike alikeAll dataLt dataLe EachIs AllAlike Sortable)
set_option maxHeartbeats 1000000
section
variable {C : Ctx} {f : Addr} {fd : FuncData}

/-- a, b = x, y beside the list -/
theorem ms_par {X : Cx} {T : List (Addr × Str)} {L : Addr} {i : Nat} {ρ : Ev} {ds : List PyData} {x y : Str} {a b : Expr} {px py pt : Pos} {kt k2 : Nat} {pt2 pos : Pos} {W1 W2 : Sl → Prop} (j k : Nat) (ha : PA X [a, b] (tLA X.K T L (asD ρ i ds) [W1, W2])) (hW1 : ∀ w, W1 w → ∃ d, w = .d d ∧ noL d = true) (hW2 : ∀ w, W2 w → ∃ d, w = .d d ∧ noL d = true) (hN : X.N.Nodup) (hjk : j ≠ k := by decide) (hji : j ≠ i := by decide) (hki : k ≠ i := by decide) (hj : X.N[j]? = some x := by rfl) (hk : X.N[k]? = some y := by rfl)
    (hx : X.env.scope.names.lookup x = some .local := by rfl) (hy : X.env.scope.names.lookup y = some .local := by rfl) (hw : swappedStores [.Tuple [.Name x px, .Name y py] kt pt] (.Tuple [a, b] k2 pt2) X.env = pure (some [x, y]) := by rfl)
    (hs : swapsWithSole [.Tuple [.Name x px, .Name y py] kt pt] (.Tuple [a, b] k2 pt2) pos.line X.env = pure false := by rfl) (hc : X.calm = true := by rfl) :
    PS X (.Assign [.Tuple [.Name x px, .Name y py] kt pt] (.Tuple [a, b] k2 pt2) pos) (tMS X.K T L i ρ ds (.nxt fun ρ' ds' => ds' = ds ∧ ∃ w u, W1 w ∧ W2 u ∧ ρ' = (ρ.set j (some w)).set k (some u))) :=
  psI (ps_par hc hN hj hk hjk hx hy ha hw hs) fun D σ H ⟨M, h, kk⟩ => ⟨h.data, h.left, fun vs H1 ws as s g1 q => by
    match ws, as, q with
    | [w, u], .cons a1 (.cons a2 .nil), q =>
      obtain ⟨d1, rfl, n1⟩ := hW1 w a1
      obtain ⟨d2, rfl, n2⟩ := hW2 u a2
      obtain ⟨v, v', rfl, q1, q2⟩ := held2 q
      obtain ⟨h', s2⟩ := h.step s g1
      refine ⟨v, v', rfl, kk _ H1 _ _ ⟨rfl, _, _, a1, a2, rfl⟩ s2 ⟨h'.ne, ?_, h'.ex, (h'.held.set j (w := .d d1) (h'.noL n1 q1)).set k (w := .d d2) (h'.noL n2 q2), ?_, flat_set (w := .d d2) (flat_set (w := .d d1) h'.flat j n1) k n2, g1⟩⟩
      · rw [List.getElem?_set_ne hki, List.getElem?_set_ne hji]; exact h'.slot
      · rw [List.getElem?_set_ne hki, List.getElem?_set_ne hji]; exact h'.none⟩
theorem od_gtIk {X : Cx} {P1 P2 : Int → Prop} : ∀ w1 w2, Wint P1 w1 → Wint P2 w2 → ∃ k, (fun _ : Bool => True) k ∧ OpR X (compareOp .Gt) (rD X.K w1 w2 (.d (.bool k))) := by
  rintro w1 w2 ⟨i, _, rfl⟩ ⟨j, _, rfl⟩
  exact ⟨_, trivial, od_gt⟩
theorem noL_kind (k : Kind) : noL (encKind k) = true := by
  cases k with
  | best => rfl
  | near p =>
    show (true && (noL (en p) && true)) = true
    rw [Enc.nol]; rfl
abbrev S_law_box (C : Ctx) (T : List (Addr × Str)) : Sp := spL C.K T (A := House) (fun a => HouseOk a) (fun a => [.d (encHouse a)]) (fun a => fun w => ∃ b : Box, b.length = a.d ∧ w = .d (encBox b))
abbrev N81 : List Str := ["_law_left_here", "_law_house_here", "_law_spans", "_law_i", "_law_one", "_law_other", "_law_low"]
theorem sc81 : FnScope N81 ["_law_left_here", "_law_house_here"] (defScope (top 81)) := ⟨rfl, rfl, rfl, by decide +kernel, rfl, by decide +kernel, by decide +kernel⟩
theorem ok__law_box {T : List (Addr × Str)} (F : Fd C.K "_law_box" "_law_box" (top 81) f fd) (m : C.mg "_law_box" = some (.ref f)) (B : Blt C) (P : HasS C "_law_pick" 1 (spPick C T)) (NB : HasS C "_law_number" 2 (S_law_number C T)) : HasS C "_law_box" 3 (S_law_box C T) := by
  refine hasL_fn (fun a => [some (.d (encHouse a)), none, none, none, none, none]) F m sc81 (by decide) (fun _ _ _ _ _ _ us hl => match us, hl with | [_, _], _ => rfl) (fun _ => rfl) (fun _ => rfl) fun X L h at_ hr hp ⟨cdv, A, outer, s, H, E, hX⟩ => ?_
  have hu : X.A.units + 64 < cLine := hr.units
  subst hX
  have hd4 := hp.d4
  refine ms_new (i := 2) sc81.nd ?fl ?rest
  case fl =>
    intro j w e
    match j, e with
    | 0, e => cases e; rfl
    | 1, e => cases e; exact noL_house h
    | 2, e => cases e
    | 3, e => cases e
    | 4, e => cases e
    | 5, e => cases e
    | 6, e => cases e
    | n + 7, e => cases e
  refine ms_for (k := 3) (n := h.d) (fun m ρ ds => ∃ (b : Box) (x3 x4 x5 x6 : Option Sl), ρ = [some (.v (.ref L)), some (.d (encHouse h)), none, x3, x4, x5, x6] ∧ ds = b.map encSpan ∧ b.length = m) (pi_rangeL at_ B.range (ix 0 (nm 1)) (by omega)) ⟨[], none, none, none, none, rfl, rfl, rfl⟩ sc81.nd (by decide) ?turn ?after
  case after =>
    rintro ρ ds ⟨b, x3, x4, x5, x6, rfl, rfl, hl⟩
    exact ms_data (ls_weakR (ls_pures (rt (ct at_ B.tuple (cd_tup rfl) (a1 (nm 2))))) fun w e => ⟨b, hl, e⟩)
  case turn =>
    rintro m hm ρ ds ⟨b, x3, x4, x5, x6, rfl, rfl, hl⟩
    refine ms_seq (ms_par (W1 := Wint fun _ => True) (W2 := Wint fun _ => True) 4 5 (la_cons (le_call (a := (h, m)) at_ NB hr (a3 (nm 0) (nm 1) (nm 3)) ⟨hp, hm⟩) (la_cons (le_call (a := (h, m)) at_ NB hr (a3 (nm 0) (nm 1) (nm 3)) ⟨hp, hm⟩) la_nil)) wint_d wint_d sc81.nd) ?_
    rintro ρ' ds' ⟨rfl, w, u, ⟨i1, _, rfl⟩, ⟨i2, _, rfl⟩, rfl⟩
    refine ms_seq (P := fun ρ' ds' => ds' = b.map encSpan ∧ ∃ j1 j2 : Int, ρ' = [some (.v (.ref L)), some (.d (encHouse h)), none, some (.d (.int (m : Int))), some (.d (.int j1)), some (.d (.int j2)), x6]) (ms_if (lt_w (lw_and (lt_pure (cmpT (nm 4) (nm 5) od_gt)) (lw_and1 (lt_cmp (le_weak (pick 5 at_ P hr (nm 0) pd_int) wint_pick) (le_weak (le_pure pd_int) weq_int) od_gtIk)))) (fun _ => ms_one (ms_weak1 (ms_par (W1 := Wint fun _ => True) (W2 := Wint fun _ => True) 4 5 (la_cons (le_weak (le_pure (nm 5)) fun w e => ⟨_, trivial, e⟩) (la_cons (le_weak (le_pure (nm 4)) fun w e => ⟨_, trivial, e⟩) la_nil)) wint_d wint_d sc81.nd) fun ρ' ds' ⟨e1, w, u, ⟨i1, _, e2⟩, ⟨i2, _, e3⟩, e4⟩ => ⟨e1, i1, i2, by rw [e4, e2, e3]; rfl⟩)) (fun _ => ms_weak ms_nil fun ρ' ds' ⟨e1, e2⟩ => ⟨e2, i1, i2, e1⟩)) ?_
    rintro ρ' ds' ⟨rfl, j1, j2, rfl⟩
    refine ms_seq (ms_set (W := fun w => ∃ e : End, w = .d (encEnd e)) 6 (le_weak (le_ixP (n := 4) (pd_lst (ds := [.none, .tuple [.int j1, .bool true], .tuple [.int j1, .bool false], .tuple [.int j1, .bool true]]) (pds_cons pd_non (pds_cons (t2 (nm 4) pd_bl) (pds_cons (t2 (nm 4) pd_bl) (pds_cons (t2 (nm 4) pd_bl) pds_nil)))) (Nat.le_of_ble_eq_true rfl)) (pick 4 at_ P hr (nm 0) pd_int) (Nat.le_of_ble_eq_true rfl) (fun _ _ => rfl)) ?ec) ?en sc81.nd) ?_
    case ec => 
      rintro w ⟨d, hd, rfl⟩
      simp only [List.mem_cons, List.not_mem_nil, or_false] at hd
      rcases hd with rfl | rfl | rfl | rfl
      · exact ⟨none, rfl⟩
      · exact ⟨some (_, true), rfl⟩
      · exact ⟨some (_, false), rfl⟩
      · exact ⟨some (_, true), rfl⟩
    case en =>
      rintro w ⟨e, rfl⟩
      exact ⟨_, rfl, noL_end e⟩
    rintro ρ' ds' ⟨rfl, w, ⟨lo, rfl⟩, rfl⟩
    refine ms_one (ms_weak1 (ms_app (W := fun w => ∃ s : Span, w = .d (encSpan s)) (le_weak (le_tup (la_cons (W := fun w => w = .d (encEnd lo)) (le_pure (nm 6)) (la_cons (W := fun w => ∃ e : End, w = .d (encEnd e)) (le_weak (le_ixP (n := 4) (pd_lst (ds := [.none, .tuple [.int j2, .bool true], .tuple [.int j2, .bool false], .tuple [.int j2, .bool true]]) (pds_cons pd_non (pds_cons (t2 (nm 5) pd_bl) (pds_cons (t2 (nm 5) pd_bl) (pds_cons (t2 (nm 5) pd_bl) pds_nil)))) (Nat.le_of_ble_eq_true rfl)) (pick 4 at_ P hr (nm 0) pd_int) (Nat.le_of_ble_eq_true rfl) (fun _ _ => rfl)) ?ec) la_nil)) ?l4 (Nat.le_of_ble_eq_true rfl)) ?l5) ?l6 (by rw [List.length_map]; omega)) ?_)
    case ec => 
      rintro w ⟨d, hd, rfl⟩
      simp only [List.mem_cons, List.not_mem_nil, or_false] at hd
      rcases hd with rfl | rfl | rfl | rfl
      · exact ⟨none, rfl⟩
      · exact ⟨some (_, true), rfl⟩
      · exact ⟨some (_, false), rfl⟩
      · exact ⟨some (_, true), rfl⟩
    case l4 =>
      intro W hW w hw
      simp only [List.mem_cons, List.not_mem_nil, or_false] at hW
      rcases hW with rfl | rfl
      · exact ⟨_, hw⟩
      · obtain ⟨e, he⟩ := hw; exact ⟨_, he⟩
    case l5 =>
      rintro w ⟨ds, hds, rfl⟩
      obtain ⟨x, y, rfl, h1, ⟨e, h2⟩⟩ := two_of hds
      have h1 := Sl.d.inj h1
      have h2 := Sl.d.inj h2
      subst h1 h2
      exact ⟨(lo, e), rfl⟩
    case l6 =>
      rintro w ⟨s, rfl⟩
      exact ⟨_, rfl, noL_span s⟩
    rintro ρ' ds' ⟨rfl, d, ⟨s, es⟩, rfl⟩
    have es := Sl.d.inj es
    subst es
    exact ⟨b ++ [s], _, _, _, _, rfl, by simp, by simp [hl]⟩
abbrev S_law_kind (C : Ctx) (T : List (Addr × Str)) : Sp := spL C.K T (A := House) (fun a => HouseOk a) (fun a => [.d (encHouse a)]) (fun a => fun w => ∃ k : Kind, (∀ p, k = .near p → p.length = a.d) ∧ w = .d (encKind k))
abbrev N82 : List Str := ["_law_left_here", "_law_house_here", "_law_place", "_law_i"]
theorem sc82 : FnScope N82 ["_law_left_here", "_law_house_here"] (defScope (top 82)) := ⟨rfl, rfl, rfl, by decide +kernel, rfl, by decide +kernel, by decide +kernel⟩
theorem ok__law_kind {T : List (Addr × Str)} (F : Fd C.K "_law_kind" "_law_kind" (top 82) f fd) (m : C.mg "_law_kind" = some (.ref f)) (B : Blt C) (P : HasS C "_law_pick" 1 (spPick C T)) (NB : HasS C "_law_number" 2 (S_law_number C T)) : HasS C "_law_kind" 3 (S_law_kind C T) := by
  refine hasL_fn (fun a => [some (.d (encHouse a)), none, none]) F m sc82 (by decide) (fun _ _ _ _ _ _ us hl => match us, hl with | [_, _], _ => rfl) (fun _ => rfl) (fun _ => rfl) fun X L h at_ hr hp ⟨cdv, A, outer, s, H, E, hX⟩ => ?_
  have hu : X.A.units + 64 < cLine := hr.units
  subst hX
  have hd4 := hp.d4
  refine ls_seq (ls_set (W := fun w => ∃ p : Place, p.length = h.d ∧ w = ed p) 2 (le_ct (Ty := "tuple") at_ B.tuple (le_lcR (W := Wint fun _ => True) rfl sc82.nd (pi_rangeL (n := h.d) at_ B.range (ix 0 (nm 1)) (by omega)) (own := [("_law_i", 3)]) (blkOk_by (N := N82) (sc := defScope (top 82)) (by decide +kernel)) (fun i => [some (.v (.ref L)), some (.d (encHouse h)), none, some (.d (.int (i : Int)))]) (fun i hi => ⟨_, by decide, fun s H C cl fp => gn 3 sc82.nd, fun s H C' c' fp => le_call (a := (h, i)) at_.blk NB hr (a3 (nm 0) (nm 1) (nm 3)) ⟨hp, hi⟩⟩) wint_dd (by omega) (by intro _; rfl)) ?ctup) sc82.nd) ?_
  case ctup =>
    rintro w ⟨ds, hdl, hdi, rfl⟩
    obtain ⟨p, hp1, hp2⟩ := ints_of hdi
    subst hp2
    exact ⟨en p, ⟨p, by omega, rfl⟩, Enc.nol p, cd_tup rfl⟩
  rintro ρ' ⟨w, ⟨p, hpl, rfl⟩, rfl⟩
  refine ls_ret (le_weak (le_ixP (n := 3) (pd_lst (ds := [.tuple [.str "best"], .tuple [.str "near", en p], .tuple [.str "near", en p]]) (pds_cons (t1 pd_str) (pds_cons (t2 pd_str (nm 2)) (pds_cons (t2 pd_str (nm 2)) pds_nil))) (Nat.le_of_ble_eq_true rfl)) (pick 3 at_ P hr (nm 0) pd_int) (Nat.le_of_ble_eq_true rfl) (fun _ _ => rfl)) ?_)
  rintro w ⟨d, hd, rfl⟩
  simp only [List.mem_cons, List.not_mem_nil, or_false] at hd
  rcases hd with rfl | rfl | rfl
  · exact ⟨.best, (fun _ h => nomatch h), rfl⟩
  · exact ⟨.near p, fun q e => by cases e; exact hpl, rfl⟩
  · exact ⟨.near p, fun q e => by cases e; exact hpl, rfl⟩
abbrev R_law_bounds := Rf (A := List Thing) (fun a => PlacesOk (a.map (·.place))) (fun a => [.d (.list (a.map encThing))]) (fun a => ed (boundsOf (a.map (·.place))))
abbrev N83 : List Str := ["_law_things", "_law_places", "_law_edges", "_law_i", "_law_numbers", "_law_thing", "_law_place"]
theorem sc83 : FnScope N83 ["_law_things"] (defScope (top 83)) := ⟨rfl, rfl, rfl, by decide +kernel, rfl, by decide +kernel, by decide +kernel⟩
theorem ok__law_bounds (F : Fd C.K "_law_bounds" "_law_bounds" (top 83) f fd) (m : C.mg "_law_bounds" = some (.ref f)) (B : Blt C) : Has C "_law_bounds" 1 R_law_bounds := by
  refine has_fn (fun a => [some (.d (.list (a.map encThing))), none, none, none, none, none, none]) F m sc83 (by decide) (fun _ _ _ _ _ _ us hl => match us, hl with | [_], _ => rfl) (fun _ => rfl) (fun _ => rfl) fun X a at_ hr hp ⟨cdv, A, outer, s, H, E, hX⟩ => ?_
  have hu : X.A.units + 64 < cLine := hr.units
  subst hX
  obtain ⟨ne, hlen, hmany, hfew⟩ := hp
  have hz : a.length ≤ 1000 := by rw [List.length_map] at hmany; exact hmany
  obtain ⟨p, rest, hps⟩ : ∃ p rest, a.map (·.place) = p :: rest := by
    cases h : a.map (·.place) with
    | nil => exact absurd h ne
    | cons p rest => exact ⟨p, rest, rfl⟩
  refine seq (pds_lc (i := 1) rfl sc83.nd rfl rfl (sw_true rfl rfl rfl (by decide +kernel)) a encThing (fun t => en t.place) (own := [("_law_thing", 5)]) (pid_list (nm 0)) (blkOk_by (N := N83) (sc := defScope (top 83)) (by decide +kernel)) (fun t _ => ⟨_, _, by decide, fun s H C cl fp => gn 5 sc83.nd, fun s H C' c' fp => ix 1 (nm 5)⟩) (by omega) (by intro _; rfl)) ?_
  have e1 : a.map (fun t => en t.place) = (a.map (·.place)).map Enc.enc := by rw [List.map_map]; rfl
  rw [e1]
  generalize a.map (·.place) = ps at ne hlen hmany hfew hps ⊢
  subst hps
  have hn : p.length ≤ 100 := hfew
  refine newL 2 sc83.nd (own_seq (forO (xs := rngD p.length) (fun L => pid_range rfl (at_.no B.range) (pd_eq (cb at_ B.len (cd_len (ds := p.map Enc.enc) rfl) (a1 (ix 0 (nm 1)))) (by rw [List.length_map])) (by omega)) (loopO_one (List.range p.length) (fun (i : Nat) => .int (i : Int)) (fun (i : Nat) => en (leastI (col (p :: rest) i), mostI (col (p :: rest) i))) (by rw [List.length_range]; omega) fun i hi ds hd => ?_)) (own_data (rt (pd_eq (ct at_ B.tuple (cd_tup rfl) (a1 (nm 2))) ?_))))
  · have hip : i < p.length := List.mem_range.mp hi
    have ec : (p :: rest).map (fun q => PyData.int (q.getD i 0)) = (col (p :: rest) i).map .int := by unfold col; rw [List.map_map]; rfl
    refine ⟨[some (.d (.list (a.map encThing))), some (.d (.list ((p :: rest).map Enc.enc))), none, some (.d (.int (i : Int))), none, none, none], [some (.d (.list (a.map encThing))), some (.d (.list ((p :: rest).map Enc.enc))), none, some (.d (.int (i : Int))), some (.d (.list ((col (p :: rest) i).map .int))), none, none], _, fun L => gn 3 sc83.nd, rfl, own_seq (ρ' := [some (.d (.list (a.map encThing))), some (.d (.list ((p :: rest).map Enc.enc))), none, some (.d (.int (i : Int))), some (.d (.list ((col (p :: rest) i).map .int))), none, none]) (own_pure (fun L => ?_) rfl) (own_one (app (fun L => t2 (cb at_ B.min (cd_min (ns := col (p :: rest) i) rfl (by simp [col])) (a1 (nm 4))) (cb at_ B.max (cd_max (ns := col (p :: rest) i) rfl (by simp [col])) (a1 (nm 4)))) hd)), .keep (.keep (.keep (.drop (.drop (.drop (.drop .nil))))))⟩
    rw [← ec]
    exact pds_lc (i := 4) rfl sc83.nd rfl rfl (sw_true rfl rfl rfl (by decide +kernel)) (p :: rest) Enc.enc (fun q => .int (q.getD i 0)) (own := [("_law_place", 6)]) (pid_list (nm 1)) (blkOk_by (N := N83) (sc := defScope (top 83)) (by decide +kernel)) (fun q hq => ⟨_, _, by decide, fun s H C cl fp => gn 6 sc83.nd, fun s H C2 c2 fp2 => pd_ix (ds := q.map Enc.enc) rfl (at_place (by rw [hlen q hq]; exact hip)) (nm 6) (nm 3) (fun _ _ => rfl)⟩) (Nat.le_trans hmany (by decide)) (by intro _; rfl)
  · unfold boundsOf
    show Sl.d (.tuple _) = .d (.tuple (List.map Enc.enc _))
    rw [List.map_map]
    rfl
end
end Bx
/-! sorted(e, key=lambda x: ..) -/
namespace Bx
open PySem PySem.Spec PyProof.Rows L2 PySem.SeqAt
open LamX (Tabs TabB ExtN CodeO)
open PySem.W (alike alikeAll dataLt dataLe EachIs AllAlike Sortable KeyPure)
/-- what the maker of a lambda must have -/
structure LamAt (X : Cx) (T : List (Addr × Str)) (c P : Addr) : Prop where
  tb : TabB X.base X.mg c P
  code : X.env.code = .ref c
  mem : (P, X.env.qual ++ "<lambda>") ∈ T
  one : ∀ p ∈ T, p.1 = P → p.2 = X.env.qual ++ "<lambda>"
section
variable {X : Cx} {T : List (Addr × Str)} {c P : Addr} {α : Type} {e body : Expr} {params : Arguments} {scope : Scope} {te : TE} {pn : Str} {p lpos kp pos : Pos} {k : Nat}
theorem pe_sortLam {enc key : α → PyData} {xs : List α} (Kx : L2.St → Prop) (hA : LamAt X T c P) (hr : Room k X.A) (hg : Gl X "sorted") (hm : X.mg "sorted" = none) (he : PE X e te) (hal : AllAlike (xs.map key)) (hk : Sortable (xs.map key)) (hu : ∀ x ∈ xs, X.A.units + 2 + (key x).depth < cLine) (hn : ∀ x ∈ xs, noL (enc x) = true)
    (hb : ∀ (q : Str) (cl : List (Str × Addr)) (pm cv ctv : Value) (v : Value), bindArgs (PySem.W.kla_fn "<lambda>" q params body scope cl pm cv ctv) ⟨[v], []⟩ = pure [(pn, v)]) (hco : scope.isCoroutine = false) (hgen : scope.isGenerator = false) (hks : scope.kind = .function) (hc : ∀ y ∈ scope.names, y.2 ≠ .cell) (hl : scope.names.lookup pn = some .local)
    (hfree : ∀ y ∈ scope.names, y.2 = .free → ∃ c, X.env.cells.lookup y.1 = some c) (hdef : defaultsOf params X.env = ([], []))
    (hbody : ∀ (pins : List (Addr × Obj)) (σ : L2.St) (H : Hp) (s : Shared), L2.Inv X pins σ H s → Kx σ → ∀ x ∈ xs, ∀ (A' : Around) (E : Value → Shared → Prop) (env : Env) (s0 : Shared) (m : Str → Option Value) (v : Value), env.scope = scope → env.cells = cloFrom X.env.cells scope.names [] → Grow s s0 → s0.heap.Ns env.locals m → m pn = some v → Reads s0.heap v (enc x) [] → KE X.prog X.w A' E env s0 body (key x))
    (hs1 : starEach [e] X.env = (false, eval e X.env) :: starEach [] X.env := by rfl) (he1 : backTo pos (starEach [e] X.env) = (false, eval e X.env) :: backTo pos (starEach [] X.env) := by rfl) (hpl : (backTo pos (starEach [e] X.env)).any (·.1) = false := by rfl)
    (hall : (backToKw pos (keywordEach [⟨some "key", .Lambda params body scope lpos, kp⟩] X.env)).all (·.1.isSome) = true := by rfl) (hnone : (backToKw pos (keywordEach [⟨some "key", .Lambda params body scope lpos, kp⟩] X.env)).any (·.1.isNone) = false := by rfl) (hkw : (backToKw pos (keywordEach [⟨some "key", .Lambda params body scope lpos, kp⟩] X.env)).filterMap (·.1) = [Str.ofString "key"] := by rfl) :
    PE X (.Call (.Name "sorted" p) [e] [⟨some "key", .Lambda params body scope lpos, kp⟩] pos)
      (fun σ H Q => te σ H fun x H1 => ∃ a ys, [x] = [V.ref a] ∧ SqL X.K H1 a ys ∧ DpAll X.K H1 ys (xs.map enc) ∧ Tabs T H1 ∧ Kx σ ∧ ∀ H2 p zs, ExtN H1 H2 → Tabs T H2 → H2 p = none → DpAll X.K H2 zs ((xs.mergeSort (dataLe false key)).map enc) → Q (.ref p) (upd H2 p (.lst zs))) := by
  refine ⟨fun pins s σ H Q I h => ?_⟩
  refine wpAny_Call_Name_kw (ld_blt I hg hm PyProof.Rows.boot_sorted ?_ (by decide) (by decide))
  refine PyProof.Rows.callWith_kw (thn ((pa_cons he pa_nil hs1).run pos pins s σ H (fun vs H1 => ∃ a ys, vs = [V.ref a] ∧ SqL X.K H1 a ys ∧ DpAll X.K H1 ys (xs.map enc) ∧ Tabs T H1 ∧ Kx σ ∧ ∀ H2 p zs, ExtN H1 H2 → Tabs T H2 → H2 p = none → DpAll X.K H2 zs ((xs.mergeSort (dataLe false key)).map enc) → Q (.ref p) (upd H2 p (.lst zs))) I h) fun us s1 ⟨vs, H1, I1, r1, q1⟩ => ?_) he1 hpl hall hnone
  obtain ⟨a, ys, ex, h1, h2, hT, hK, q⟩ := q1
  rw [hkw]
  obtain ⟨u, rfl, ru⟩ : ∃ u, us = [u] ∧ RelV (.ref a) u := by
    rw [ex] at r1
    exact vals1 r1
  cases ru
  show wpAny _ _ (evalAll ((do let v ← eval (.Lambda params body scope lpos) X.env; standAt pos; pure v) :: [])) _ _ s1
  refine wpAny_evalAll_cons (wpAny_bind (LamX.lam_make2 (T := T) I1 hA.tb hA.code hA.mem hA.one hT hdef hfree fun f c' pm ctv H2 s2 I2 eN T2 hf hfn hfr hcd => wpAny_bind (wpAny_standAt (wpAny_pure (wpAny_evalAll_nil ?_)))))
  have eN' : SameN H1 H2 := fun b o e n => eN b o e n
  obtain ⟨⟨oc, vs', t, hoc, hdc, hvc⟩, _, _⟩ := I2.hok c' _ hcd
  refine sorted_key_run I2 (sqLN eN' h1) (dpAllN eN' h2) hal hk hu hn (fun x hx v s3 g r => ?_) fun p zs hp hz => q H2 p zs eN T2 hp hz
  have hcr : s3.heap.CodeRec (.ref c') (X.env.qual ++ "<lambda>") := ⟨c', oc, vs', t, rfl, g.old _ _ hoc, hdc, hvc⟩
  refine key_lam (pn := pn) (g.old _ _ hf) hcr (hb _ _ _ _ _ _) hco hgen hks hc hl (by rw [in2 (s := s3)]; exact hr.depth) (grow_lim I2.nolimit g) r fun A' env s0 m hs hcl g2 hns hm' hrd => ?_
  exact hbody pins σ H2 s2 I2 hK x hx A' _ env s0 m v hs hcl (g.trans g2) hns hm' hrd
/-- a captured name's value -/
theorem ke_cap {prog : Program} {w : World} {A' : Around} {E : Value → Shared → Prop} {env : Env} {pins : List (Addr × Obj)} {σ : L2.St} {H : Hp} {s s0 : Shared} {i : Nat} {x : Str} {iv : Int} {ip : Pos} (I : L2.Inv X pins σ H s) (g : Grow s s0) (hN : X.N[i]? = some x) (hσ : σ[i]? = some (some (.int iv))) (hcell : X.env.scope.names.lookup x = some .cell) (hs : env.scope = scope) (hcl : env.cells = cloFrom X.env.cells scope.names []) (hks : scope.kind = .function) (hfx : scope.names.lookup x = some .free) (hclo : ∀ c, X.env.cells.lookup x = some c → (cloFrom X.env.cells scope.names []).lookup x = some c)
    (hd : (x == ("__debug__" : Str)) = false := by decide) (hcd : (x == ("__classdict__" : Str)) = false := by decide) : KE prog w A' E env s0 (.Name x ip) (.int iv) := by
  obtain ⟨m, hn, hl⟩ := I.loc
  obtain ⟨u, r, lk⟩ := hl i x (.int iv) hN hσ (.inr (.inl hcell))
  obtain ⟨tk, rfl⟩ := r
  rcases lk with ⟨k', _⟩ | ⟨_, c, e, hc⟩
  · have k' : X.env.scope.names.lookup x = some .local := k'
    rw [hcell] at k'
    cases k'
  · have hk2 : env.scope.kind = .function := by rw [hs]; exact hks
    have hl2 : env.kindOf x = some .free := by
      unfold Env.kindOf
      rw [hs]
      exact hfx
    refine ke_free hk2 hl2 (by rw [hcl]; exact hclo c e) ?_ (Reads.int iv tk) hd hcd
    obtain ⟨o, ho, hdd⟩ := hc
    exact ⟨o, g.old _ _ ho, hdd⟩
end
end Bx
/-! xs[i::2] of a list -/
namespace Bx
open PySem PySem.Spec PyProof.Rows L2 PySem.SeqAt
def pickIx {α : Type} (xs : List α) (ixs : List Nat) : List α := ixs.filterMap (xs[·]?)
def stepIx (n : Nat) (lo : Option Int) (st : Int) : List Nat := sliceRange (sliceBounds lo none (some st) n).1 (sliceBounds lo none (some st) n).2.1 (sliceBounds lo none (some st) n).2.2
theorem dpPick {K : PySem.W.Frag} {H : Hp} {vs : List V} {ds : List PyData} (h : DpAll K H vs ds) : ∀ ixs : List Nat, DpAll K H (pickIx vs ixs) (pickIx ds ixs)
  | [] => .nil
  | i :: ixs => by
    have ih := dpPick h ixs
    unfold pickIx at ih ⊢
    rw [List.filterMap_cons, List.filterMap_cons]
    have hl := dpAllLen h
    by_cases hi : i < ds.length
    · have e := List.getElem?_eq_getElem hi
      obtain ⟨v, e1, e2⟩ := dpAllAt h e
      rw [e, e1]
      exact .cons e2 ih
    · rw [List.getElem?_eq_none (by omega), List.getElem?_eq_none (by omega)]
      exact ih
theorem valsPick {vs : List V} {us : List Value} (h : Vals vs us) : ∀ ixs : List Nat, Vals (pickIx vs ixs) (pickIx us ixs)
  | [] => .nil
  | i :: ixs => by
    have ih := valsPick h ixs
    unfold pickIx at ih ⊢
    rw [List.filterMap_cons, List.filterMap_cons]
    have hl := h.length
    by_cases hi : i < vs.length
    · have e := List.getElem?_eq_getElem hi
      obtain ⟨u, e1, e2⟩ := h.get e
      rw [e, e1]
      exact .cons e2 ih
    · rw [List.getElem?_eq_none (by omega), List.getElem?_eq_none (by omega)]
      exact ih
section
variable {X : Cx} {e : Expr} {ρ : Ev} {ds : List PyData} {lo : Option Expr} {l : Option Int} {st : Int} {k : Nat} {p1 p3 pos : Pos}
theorem pd_slStep (he : PE X e (tD X.K ρ (.d (.list ds)))) (hl : PDO X ρ lo l) (h0 : st ≠ 0) (hz : (stepIx ds.length l st).length ≤ 100000) : PE X (.Subscript e (.Slice lo none (some (.Constant (.int st) k p1)) p3) pos) (tD X.K ρ (.d (.list (pickIx ds (stepIx ds.length l st))))) := by
  refine ⟨fun pins s σ H Q I ⟨hh, q⟩ => ?_⟩
  refine Subscript_ (thn (he.run pins s σ H (fun v H1 => Same H H1 ∧ HeldV X.K H1 v (.d (.list ds))) I ⟨hh, fun v H1 s1 q1 => ⟨s1, q1⟩⟩) fun v s1 ⟨x, H1, I1, r1, sm1, q1⟩ => ?_)
  refine wpAny_Slice (thn (hl.run pins s1 σ H1 (fun o H2 => o = l ∧ Same H1 H2) I1 ⟨hh.mono sm1, fun H2 s2 => ⟨rfl, s2⟩⟩) fun vl s2 ⟨o, H2, I2, pl, eo, sm2⟩ => ?_)
  subst eo
  refine thn (po_none.run pins s2 σ H2 (fun o H3 => o = none ∧ H3 = H2) I2 ⟨rfl, rfl⟩) fun vu s3 ⟨u, H3, I3, pu, eu, e3⟩ => ?_
  subst eu e3
  refine thn ((po_some (pe_int (i := st) (j := k) (pos := p1))).run pins s3 σ H3 (fun o H4 => o = some st ∧ H4 = H3) I3 ⟨st, rfl, rfl, rfl⟩) fun vs s4 ⟨o2, H4, I4, ps, e5, e4⟩ => ?_
  subst e5 e4
  have sm := sm1.trans sm2
  obtain ⟨a, xs, rfl, h1, h2⟩ := dpLstR (q1.mono sm2)
  cases r1
  have I5 : L2.Inv X pins σ H4 { s4 with heap := s4.heap.push { cls := .type "slice", data := .fields #[vl, vu, vs] } } := I4.kept (t' := s4.toks) fun b ob q => Heap.get?_push_of_some _ q
  obtain ⟨its, r, ht, hzz⟩ := I5.list h1
  have hlen := r.length
  have hd := dpAllLen h2
  show wpAny (model X.prog X.w) X.A (subscriptTail e (.Slice lo none (some (.Constant (.int st) k p1)) p3) (.ref a) (.ref s4.heap.objs.size)) (EP X pins σ Q) X.xe { s4 with heap := s4.heap.push { cls := .type "slice", data := .fields #[vl, vu, vs] } }
  refine tail_any (ops := [.ref a, .ref s4.heap.objs.size]) ht.isList.typeIs (PySem.slot_list_getitem.lookup) ?_ (by with_unfolding_all rfl)
  refine wpAny_getItem_list_slice ht.isList (Heap.IsSliceOf.new _ vl vu vs) pl pu ps (by intro z; exact h0 (Option.some.inj z)) ?_ (by rw [List.size_toArray]; omega)
  have ep : slicePick its.toArray o none (some st) = (pickIx its (stepIx ds.length o st)).toArray := by
    unfold slicePick pickIx stepIx
    rw [List.size_toArray, ← hlen, hd]
    congr 2
    funext i
    simp
  rw [ep]
  have hf : H4 (s4.heap.push { cls := .type "slice", data := .fields #[vl, vu, vs] }).objs.size = none := I5.hok.fresh (Nat.le_refl _)
  refine ⟨.ref _, _, I5.laid (t' := s4.toks) (o := .lst (pickIx xs (stepIx ds.length o st))) (fun b ob q => Heap.get?_push_of_some _ q) (Nat.le_refl _) ?_, rfl, q _ _ (sm.trans (sameNew hf)) (Dp.lst (SqL.of upd_same) (dpAllMono (sameNew hf) (dpPick h2 _)))⟩
  refine ⟨?_, _, 0, valsPick r _, Heap.get?_push_size _ rfl⟩
  have : (pickIx xs (stepIx ds.length o st)).length ≤ (stepIx ds.length o st).length := List.length_filterMap_le _ _
  rw [sizeLine_eq]
  omega
end
/-! the odd ones and the even ones are all -/
theorem stepIx_odd (n : Nat) : stepIx n (some 1) 2 = (List.range (n / 2)).map fun k => 1 + 2 * k := by
  unfold stepIx sliceBounds sliceRange
  simp only [Option.getD_some]
  have h2 : (2 : Int) > 0 := by decide
  simp only [h2, if_true, if_pos]
  have h1 : ¬ ((1 : Int) < 0) := by decide
  simp only [h1, if_false]
  have e : (if max 0 (min 1 (n : Int)) < (n : Int) then ((n : Int) - max 0 (min 1 (n : Int)) + 2 - 1) / 2 else 0) = ((n / 2 : Nat) : Int) := by
    by_cases h : 1 < n
    · have : max 0 (min 1 (n : Int)) = 1 := by omega
      rw [this, if_pos (by omega)]
      omega
    · by_cases h0 : n = 0
      · subst h0; decide
      · have : n = 1 := by omega
        subst this; decide
  rw [e, Int.toNat_natCast]
  apply List.map_congr_left
  intro k hk
  have := List.mem_range.mp hk
  have : max 0 (min 1 (n : Int)) = 1 := by omega
  rw [this]
  omega
theorem stepIx_even (n : Nat) : stepIx n none 2 = (List.range ((n + 1) / 2)).map fun k => 2 * k := by
  unfold stepIx sliceBounds sliceRange
  simp only [Option.getD_some]
  have h2 : (2 : Int) > 0 := by decide
  simp only [h2, if_true, if_pos]
  have e : (if (0 : Int) < (n : Int) then ((n : Int) - 0 + 2 - 1) / 2 else 0) = (((n + 1) / 2 : Nat) : Int) := by
    by_cases h : 0 < n
    · rw [if_pos (by omega)]; omega
    · have : n = 0 := by omega
      subst this; simp
  rw [e, Int.toNat_natCast]
  apply List.map_congr_left
  intro k hk
  omega
theorem step_perm {α : Type} : ∀ xs : List α, (pickIx xs (stepIx xs.length (some 1) 2) ++ pickIx xs (stepIx xs.length none 2)).Perm xs := by
  intro xs
  rw [stepIx_odd, stepIx_even]
  have odd : ∀ (xs : List α) (a b : α), pickIx (a :: b :: xs) ((List.range ((xs.length + 2) / 2)).map fun k => 1 + 2 * k) = b :: pickIx xs ((List.range (xs.length / 2)).map fun k => 1 + 2 * k) := by
    intro xs a b
    have e : (xs.length + 2) / 2 = xs.length / 2 + 1 := by omega
    rw [e, List.range_succ_eq_map, List.map_cons, List.map_map]
    unfold pickIx
    rw [List.filterMap_cons]
    simp only [List.getElem?_cons_succ, Nat.mul_zero, Nat.add_zero, List.getElem?_cons_zero]
    rw [List.filterMap_map, List.filterMap_map]
    congr 2
  have even : ∀ (xs : List α) (a b : α), pickIx (a :: b :: xs) ((List.range ((xs.length + 2 + 1) / 2)).map fun k => 2 * k) = a :: pickIx xs ((List.range ((xs.length + 1) / 2)).map fun k => 2 * k) := by
    intro xs a b
    have e : (xs.length + 2 + 1) / 2 = (xs.length + 1) / 2 + 1 := by omega
    rw [e, List.range_succ_eq_map, List.map_cons, List.map_map]
    unfold pickIx
    rw [List.filterMap_cons]
    simp only [Nat.mul_zero, List.getElem?_cons_zero]
    rw [List.filterMap_map, List.filterMap_map]
    congr 2
  have go : ∀ (m : Nat) (xs : List α), xs.length ≤ m → (pickIx xs ((List.range (xs.length / 2)).map fun k => 1 + 2 * k) ++ pickIx xs ((List.range ((xs.length + 1) / 2)).map fun k => 2 * k)).Perm xs := by
    intro m
    induction m with
    | zero =>
      intro xs h
      have : xs = [] := List.length_eq_zero_iff.mp (by omega)
      subst this
      simp [pickIx]
    | succ m ih =>
      intro xs h
      match xs, h with
      | [], _ => simp [pickIx]
      | [a], _ => simp [pickIx, List.range_succ]
      | a :: b :: xs, h =>
        have h' : xs.length ≤ m := by simp at h; omega
        show (pickIx (a :: b :: xs) ((List.range ((xs.length + 2) / 2)).map fun k => 1 + 2 * k) ++ pickIx (a :: b :: xs) ((List.range ((xs.length + 2 + 1) / 2)).map fun k => 2 * k)).Perm (a :: b :: xs)
        rw [odd, even]
        have := ih xs h'
        refine List.Perm.trans (List.Perm.cons b (List.perm_middle.trans (List.Perm.cons a this))) ?_
        exact List.Perm.swap a b xs
  exact go xs.length xs (Nat.le_refl _)
end Bx
namespace Bx
open PySem L2 PySem.SeqAt
open LamX (Tabs TabB ExtN)
open PySem.W (alike alikeAll dataLt dataLe EachIs AllAlike Sortable)
set_option maxHeartbeats 400000
section
variable {C : Ctx} {f : Addr} {fd : FuncData}

/-- a def whose code object is known -/
structure FunC (K : PySem.W.Frag) (x qual : Str) (st : Stmt) (f : Addr) (fd : FuncData) (c : Addr) : Prop where
  ex : ∃ (oc : Value) (od : Option Addr) (dV kV doc pm : Value) (an : Option Addr) (ct : Value) (osl : Array (Option Value)),
    fd = PySem.W.fnOf x qual (defArgs st) (defBody st) (defScope st) dV kV doc pm an (.ref c) ct ∧ K.lookup f = some ⟨oc, od, .func fd, osl⟩ ∧ PySem.W.codeIn K (.ref c) qual = true ∧ DflV K dV [] ∧ KwdV K kV []
  kp : PySem.W.keepIn K (.ref f) = true
theorem FunC.toFd {K : PySem.W.Frag} {x qual : Str} {st : Stmt} {f : Addr} {fd : FuncData} {c : Addr} (F : FunC K x qual st f fd c) : Fd K x qual st f fd := by
  obtain ⟨oc, od, dV, kV, doc, pm, an, ct, osl, h⟩ := F.ex
  exact ⟨⟨oc, od, dV, kV, doc, pm, an, .ref c, ct, osl, h⟩, F.kp⟩
def InDefC (C : Ctx) (N : List Str) (qual : Str) (sc : Scope) (f c : Addr) (X : Cx) : Prop := ∃ (A : Around) (outer : List Env) (s : Shared) (H : Hp) (E : XK), X = (cxOf CX0 C.P C.w C.K C.mg C.base N qual sc f (.ref c) A outer s H E).nox
theorem hasLC_fn {T : List (Addr × Str)} {x y : Str} {A : Type} {pre : A → Prop} {args : A → List Sl} {W : A → Sl → Prop} {k : Nat} {st : Stmt} {qual : Str} {c : Addr} {N ps : List Str} (ρ0 : A → Ev) (F : FunC C.K x qual st f fd c) (mg : C.mg y = some (.ref f)) (S : FnScope N ps (defScope st)) (hl : ps.length ≤ N.length)
    (hb : ∀ (kV doc pm : Value) (an : Option Addr) (cdv ct : Value) (us : List Value), us.length = ps.length → bindArgs (PySem.W.fnOf x qual (defArgs st) (defBody st) (defScope st) .none kV doc pm an cdv ct) ⟨us, []⟩ = pure (ps.zip us))
    (len : ∀ a, (args a).length + 1 = ps.length) (h0 : ∀ a, (args a).map some ++ List.replicate (N.length - ps.length) none = ρ0 a)
    (body : ∀ (X : Cx) (L : Addr) (a : A), At C X → Room k X.A → pre a → InDefC C N qual (defScope st) f c X → PSs X (defBody st) (tLS X.K T L (some (.v (.ref L)) :: ρ0 a) (.ret (W a)))) : HasS C y (k + 1) (spL C.K T pre args W) := by
  refine ⟨f, fd, ps, mg, F.kp, F.toFd.bindsN hb, ?_⟩
  obtain ⟨oc, od, dV, kV, doc, pm, an, ct, osl, rfl, lk, hcd, _, _⟩ := F.ex
  refine fn_of lk hcd S (fun vs H Q E h => ?_) fun A outer s H vs Q E hr h => ?_
  · obtain ⟨L, ws, a, rfl, _, _, h2, _⟩ := h
    rw [List.length_cons, h2.len, len]
  · obtain ⟨L, ws, a, rfl, g, hp, h2, q⟩ := h
    have hlw := len a
    have hlv := h2.len
    have B := body (cxOf CX0 C.P C.w C.K C.mg C.base N qual (defScope st) f (.ref c) A outer s H E).nox L a ⟨rfl, rfl, rfl, rfl, rfl⟩ hr hp ⟨A, outer, s, H, E, rfl⟩
    refine ⟨_, B.nox, ?_, g, fun v H' w a s' g' q' => q v H' w a s' g' q'⟩
    have hh : HeldVs C.K (msk L H) (.ref L :: ws) (.v (.ref L) :: args a) := .cons rfl h2
    have hs := held_start (N := N) hh (by rw [List.length_cons, hlv, hlw]; exact hl)
    have e : (V.ref L :: ws).length = ps.length := by rw [List.length_cons, hlv, hlw]
    rw [e, List.map_cons, List.cons_append, h0] at hs
    exact hs
theorem dpAllMsk {K : PySem.W.Frag} {H : Hp} {L : Addr} {zs : List V} (hL : H L = some (.lst zs)) : ∀ {vs : List V} {ds : List PyData}, noL.noLs ds = true → DpAll K H vs ds → DpAll K (msk L H) vs ds
  | _, _, _, .nil => .nil
  | _, _, n, .cons a t => .cons (dpMsk (o := .lst zs) hL (fun _ z => by cases z) (fun _ _ z => by cases z) (Bool.and_eq_true_iff.mp (show (_ && _) = true from n)).1 a) (dpAllMsk hL (Bool.and_eq_true_iff.mp (show (_ && _) = true from n)).2 t)
/-- sorted(e, key=lambda ..), beside the list of what is left -/
theorem le_sortLam {X : Cx} {T : List (Addr × Str)} {L c P : Addr} {ρ : Ev} {α : Type} {e body : Expr} {params : Arguments} {scope : Scope} {pn : Str} {p lpos kp pos : Pos} {k : Nat} {enc key : α → PyData} {xs : List α} (Kx : L2.St → Prop) (hA : LamAt X T c P) (hr : Room k X.A) (hm : X.mg "sorted" = none) (he : PE X e (tD X.K ρ (.d (.list (xs.map enc))))) (hKx : ∀ H σ, Held X.K H σ ρ → Kx σ) (hal : AllAlike (xs.map key)) (hk : Sortable (xs.map key)) (hu : ∀ x ∈ xs, X.A.units + 2 + (key x).depth < cLine) (hn : ∀ x ∈ xs, noL (enc x) = true)
    (hb : ∀ (q : Str) (cl : List (Str × Addr)) (pm cv ctv : Value) (v : Value), bindArgs (PySem.W.kla_fn "<lambda>" q params body scope cl pm cv ctv) ⟨[v], []⟩ = pure [(pn, v)]) (hc : ∀ y ∈ scope.names, y.2 ≠ .cell) (hl : scope.names.lookup pn = some .local)
    (hfree : ∀ y ∈ scope.names, y.2 = .free → ∃ c, X.env.cells.lookup y.1 = some c)
    (hbody : ∀ (pins : List (Addr × Obj)) (σ : L2.St) (H : Hp) (s : Shared), L2.Inv X pins σ H s → Kx σ → ∀ x ∈ xs, ∀ (A' : Around) (E : Value → Shared → Prop) (env : Env) (s0 : Shared) (m : Str → Option Value) (v : Value), env.scope = scope → env.cells = cloFrom X.env.cells scope.names [] → Grow s s0 → s0.heap.Ns env.locals m → m pn = some v → Reads s0.heap v (enc x) [] → KE X.prog X.w A' E env s0 body (key x))
    (hdef : defaultsOf params X.env = ([], []) := by rfl) (hco : scope.isCoroutine = false := by rfl) (hgen : scope.isGenerator = false := by rfl) (hks : scope.kind = .function := by rfl) (hg : Gl X "sorted" := by rfl)
    (hs1 : starEach [e] X.env = (false, eval e X.env) :: starEach [] X.env := by rfl) (he1 : backTo pos (starEach [e] X.env) = (false, eval e X.env) :: backTo pos (starEach [] X.env) := by rfl) (hpl : (backTo pos (starEach [e] X.env)).any (·.1) = false := by rfl)
    (hall : (backToKw pos (keywordEach [⟨some "key", .Lambda params body scope lpos, kp⟩] X.env)).all (·.1.isSome) = true := by rfl) (hnone : (backToKw pos (keywordEach [⟨some "key", .Lambda params body scope lpos, kp⟩] X.env)).any (·.1.isNone) = false := by rfl) (hkw : (backToKw pos (keywordEach [⟨some "key", .Lambda params body scope lpos, kp⟩] X.env)).filterMap (·.1) = [Str.ofString "key"] := by rfl) :
    PE X (.Call (.Name "sorted" p) [e] [⟨some "key", .Lambda params body scope lpos, kp⟩] pos) (tLE X.K T L ρ (· = .d (.list ((xs.mergeSort (dataLe false key)).map enc)))) :=
  peI (pe_sortLam (T := T) Kx hA hr hg hm (le_pure (T := T) (L := L) he) hal hk hu hn hb hco hgen hks hc hl hfree hdef hbody hs1 he1 hpl hall hnone hkw) fun σ H Q ⟨hh, g, q⟩ => ⟨hh, g, fun v H1 w ew s1 g1 qv => by
    subst ew
    obtain ⟨a, ys, rfl, h1, h2⟩ := dpLstR qv
    refine ⟨a, ys, rfl, Same.seq (msk_le (L := L)) h1, dpAllMono msk_le h2, g1.tabs, hKx _ _ hh, fun H2 p zs eN T2 hp hz => ?_⟩
    have eN' : SameN H1 H2 := fun b o e n => eN b o e n
    obtain ⟨ls, hL1, ok⟩ := g1.left
    have hL2 : H2 L = some (.lst ls) := eN' _ _ hL1 nofun
    have np : p ≠ L := fun z => by rw [z, hL2] at hp; cases hp
    have g2 : GL T L (upd H2 p (.lst zs)) := ⟨⟨ls, by rw [upd_ne np.symm]; exact hL2, ok⟩, T2.ext (sameNew hp)⟩
    have sN : SameN (msk L H1) (msk L (upd H2 p (.lst zs))) := fun b o e n => by
      by_cases z : b = L
      · subst z; rw [msk_at] at e; cases e
      · rw [msk_ne z] at e ⊢
        have := eN' b o e n
        rw [upd_ne (ne_of_none this hp)]
        exact this
    have nols : noL.noLs ((xs.mergeSort (dataLe false key)).map enc) = true := noLs_of fun d hd => by
      obtain ⟨x, hx, rfl⟩ := List.mem_map.mp hd
      exact hn x ((List.mergeSort_perm ..).mem_iff.mp hx)
    refine q (.ref p) _ _ rfl (s1.trans sN) g2 (Dp.lst (SqL.of (by rw [msk_ne np, upd_same])) ?_)
    exact dpAllMsk (by rw [upd_ne np.symm]; exact hL2) nols (dpAllMono (sameNew hp) hz)⟩
theorem ls_ifR {X : Cx} {T : List (Addr × Str)} {L : Addr} {ρ : Ev} {c : Expr} {A rest : List Stmt} {W : Sl → Prop} {pos : Pos} {k : Bool} (hc : PT X c (tDT X.K ρ k)) (ha : k = true → PSs X A (tLS X.K T L ρ (.ret W))) (hb : k = false → PSs X rest (tLS X.K T L ρ (.ret W))) : PSs X (.If c A [] pos :: rest) (tLS X.K T L ρ (.ret W)) := by
  have go : ∀ {H H1 : Hp} {σ : L2.St} {D : Ends} {vs : List V}, H L = some (.lst vs) → GL T L H → Held X.K (msk L H) σ ρ → OutL.want X.K T L D H (.ret W) → Same (msk L H) H1 → H1 L = none → tLS X.K T L ρ (.ret W) D σ (upd H1 L (.lst vs)) := fun {H H1 σ D vs} hL g hh q s n => by
    refine ⟨by rw [msk_upd n]; exact hh.mono s, g.back hL s n, fun v H' w a s' g' q' => ?_⟩
    rw [msk_upd n] at s'
    exact q v H' w a ((SameN.of s).trans s') g' q'
  cases k with
  | true =>
    refine pssI (pss_cons (ps_if (pt_fr hc L) (ha rfl) pss_never) pss_never) fun D σ H ⟨hh, g, q⟩ => ?_
    obtain ⟨vs, hL, ok⟩ := g.left
    exact ⟨vs, hL, hh, fun H1 s n => iteT (go hL g hh q s n)⟩
  | false =>
    refine pssI (pss_cons (ps_if (pt_fr hc L) pss_never pss_nil) (hb rfl)) fun D σ H ⟨hh, g, q⟩ => ?_
    obtain ⟨vs, hL, ok⟩ := g.left
    exact ⟨vs, hL, hh, fun H1 s n => iteF (go hL g hh q s n)⟩
/-! ### trees -/
/-- a tree that parts these names -/
inductive TreeFor (pl : Int → Place) : List Int → Tr → Prop where
  | lf {n : Int} {b : Bnd} : b = boundsOf [pl n] → TreeFor pl [n] (.lf n b)
  | nd {ns ns1 ns2 : List Int} {b : Bnd} {l h : Tr} : (ns1 ++ ns2).Perm ns → ns = sortI ns → TreeFor pl ns1 l → TreeFor pl ns2 h → (∃ ps : List Place, ps.Perm (ns.map pl) ∧ b = boundsOf ps) → TreeFor pl ns (.nd ns b l h)
theorem thingAt_of {h : House} (H : HouseOk h) {t : Thing} (ht : t ∈ h.things) : thingAt h t.name = t := by
  have hm : t.name ∈ h.things.map (·.name) := List.mem_map.mpr ⟨t, ht, rfl⟩
  exact name_inj H.nodup (thing_mem hm).1 ht (thing_mem hm).2
theorem placesAt {h : House} (H : HouseOk h) {ts : List Thing} (hs : ∀ t ∈ ts, t ∈ h.things) : ts.map (·.place) = (ts.map (·.name)).map (placeAt h) := by
  rw [List.map_map]
  apply List.map_congr_left
  intro t ht
  show t.place = (thingAt h t.name).place
  rw [thingAt_of H (hs t ht)]
structure GrowOk (h : House) (ts : List Thing) : Prop where
  house : HouseOk h
  ne : ts ≠ []
  sub : ∀ t ∈ ts, t ∈ h.things
  nd : (ts.map (·.name)).Nodup
theorem GrowOk.few {h : House} {ts : List Thing} (G : GrowOk h ts) : ts.length ≤ 30 := by
  have : (ts.map (·.name)).length ≤ (h.things.map (·.name)).length := sub_len G.nd fun n hn => by
    obtain ⟨t, ht, rfl⟩ := List.mem_map.mp hn
    exact List.mem_map.mpr ⟨t, G.sub t ht, rfl⟩
  rw [List.length_map, List.length_map] at this
  exact Nat.le_trans this G.house.many
theorem GrowOk.places {h : House} {ts : List Thing} (G : GrowOk h ts) : PlacesOk (ts.map (·.place)) := by
  have hl : ∀ t ∈ ts, t.place.length = h.d := fun t ht => G.house.len t (G.sub t ht)
  have hh : ((ts.map (·.place)).headD []).length = h.d := by
    cases ts with
    | nil => exact absurd rfl G.ne
    | cons t ts => exact hl t (List.mem_cons_self ..)
  refine ⟨by simp [G.ne], fun p hp => ?_, by rw [List.length_map]; exact Nat.le_trans G.few (by decide), by rw [hh]; exact Nat.le_trans G.house.d4 (by decide)⟩
  obtain ⟨t, ht, rfl⟩ := List.mem_map.mp hp
  rw [hh]
  exact hl t ht
theorem GrowOk.part {h : House} {ts row part : List Thing} (G : GrowOk h ts) (p : row.Perm ts) (s : part.Sublist row) (ne : part ≠ []) : GrowOk h part :=
  ⟨G.house, ne, fun t ht => G.sub t (p.mem_iff.mp (s.subset ht)), (s.map _).nodup ((p.map _).nodup_iff.mpr G.nd)⟩
abbrev S_law_grown (C : Ctx) (T : List (Addr × Str)) (n : Nat) : Sp := spL C.K T (A := House × List Thing × Nat) (fun a => GrowOk a.1 a.2.1 ∧ a.2.1.length ≤ n + 1) (fun a => [.d (.int (a.1.d : Int)), .d (.list (a.2.1.map encThing)), .d (.int (a.2.2 : Int))]) (fun a w => ∃ t : Tr, TreeFor (placeAt a.1) (sortI (a.2.1.map (·.name))) t ∧ w = .d (encTr t))
abbrev N84 : List Str := ["_law_left_here", "_law_d", "_law_things", "_law_turn", "_law_names_here", "_law_i", "_law_row", "_law_cut", "_law_low", "_law_thing"]
theorem sc84 : FnScope N84 ["_law_left_here", "_law_d", "_law_things", "_law_turn"] (defScope (top 84)) := ⟨rfl, rfl, rfl, by decide +kernel, rfl, by decide +kernel, by decide +kernel⟩
def growKey (i : Nat) (t : Thing) : PyData := .tuple [.int (t.place.getD i 0), .int t.name]

theorem pickIx_map {α β : Type} (f : α → β) (xs : List α) (ixs : List Nat) : pickIx (xs.map f) ixs = (pickIx xs ixs).map f := by
  unfold pickIx
  rw [List.map_filterMap]
  congr 1
  funext i
  rw [List.getElem?_map]
theorem sortI_sorted (ns : List Int) : (sortI ns).Pairwise (· ≤ ·) := by
  have h := List.pairwise_mergeSort (le := fun a b : Int => decide (a ≤ b)) (fun a b c h1 h2 => by simp at h1 h2 ⊢; omega) (fun a b => by simp; omega) ns
  exact h.imp fun h => by simpa using h
theorem sortI_of_sorted {ns : List Int} (h : ns.Pairwise (· ≤ ·)) : sortI ns = ns := by
  unfold sortI
  exact List.mergeSort_of_pairwise (h.imp fun h => by simpa using h)
theorem sortI_idem (ns : List Int) : sortI (sortI ns) = sortI ns := sortI_of_sorted (sortI_sorted ns)
theorem ok_grown {T : List (Addr × Str)} {c Pt : Addr} (B : Blt C) (F : FunC C.K "_law_grown" "_law_grown" (top 84) f fd c) (m : C.mg "_law_grown" = some (.ref f)) (TB : TabB C.base C.mg c Pt) (hmem : (Pt, ("_law_grown.<locals>.<lambda>" : Str)) ∈ T) (hone : ∀ p ∈ T, p.1 = Pt → p.2 = "_law_grown.<locals>.<lambda>") (P : HasS C "_law_pick" 1 (spPick C T)) (h1 : Has C "_law_bounds" 1 R_law_bounds) : ∀ n, HasS C "_law_grown" (n + 5) (S_law_grown C T n) := by
  have first : ∀ (n : Nat) (rec : ∀ k, k + 1 = n → HasS C "_law_grown" (k + 5) (S_law_grown C T k)), HasS C "_law_grown" (n + 5) (S_law_grown C T n) := by
    intro n rec
    refine hasLC_fn (fun a => [some (.d (.int (a.1.d : Int))), some (.d (.list (a.2.1.map encThing))), some (.d (.int (a.2.2 : Int))), none, none, none, none, none, none]) F m sc84 (by decide) (fun _ _ _ _ _ _ us hl => match us, hl with | [_, _, _, _], _ => rfl) (fun _ => rfl) (fun _ => rfl) fun X L a at_ hr hp ⟨A, outer, s, H, E, hX⟩ => ?_
    have hu : X.A.units + 64 < cLine := hr.units
    obtain ⟨h, ts, turn⟩ := a
    obtain ⟨G, hn⟩ := hp
    simp only at G hn
    have few := G.few
    have hd1 := G.house.d1
    have hd4 := G.house.d4
    have j1 : 1 ≤ n + 4 := by omega
    have hA : LamAt X T c Pt := by
      subst hX
      exact ⟨TB, rfl, hmem, hone⟩
    subst hX
    refine ls_seq (ls_pure (st (w := ed (sortI (ts.map (·.name)))) 4 (ct at_ B.tuple (cd_tup rfl) (a1 (cb at_ B.sorted (cd_sortI hu (ts.map (·.name))) (a1 (pd_eq (pd_lc rfl sc84.nd ts encThing (fun t => .int t.name) (own := [("_law_thing", 9)]) (pid_list (nm 2)) (blkOk_by (N := N84) (sc := defScope (top 84)) (by decide +kernel)) (fun t ht => ⟨_, _, by decide, fun s H C cl fp => gn 9 sc84.nd, fun s H C' c' fp => ix 0 (nm 9)⟩) (by omega) (by intro _; rfl)) (by rw [List.map_map]; rfl)))))) sc84.nd)) fun ρ' e => ?_
    subst e
    refine ls_ifR (k := decide (ts.length = 1)) (ptEq (cmpT (cb at_ B.len (cd_len (ds := ts.map encThing) rfl) (a1 (nm 2))) pd_int (od_eqI hu)) (by rw [List.length_map, decide_eq_decide]; omega)) (fun e => ?one) (fun e => ?more)
    case one =>
      obtain ⟨t, rfl⟩ := List.length_eq_one_iff.mp (of_decide_eq_true e)
      refine ls_weakR (ls_pures (rt (t4 (nm 4) (cl h1 [t] at_ hr (a1 (nm 2)) G.places j1) pd_non pd_non))) fun w ew => ⟨.lf t.name (boundsOf [t.place]), ?_, by rw [ew]; show Sl.d (.tuple [en (sortI [t.name]), en (boundsOf [t.place]), .none, .none]) = .d (.tuple [en [t.name], en (boundsOf [t.place]), .none, .none]); rw [sortI_of_sorted (List.pairwise_singleton _ _)]⟩
      have e2 : placeAt h t.name = t.place := by unfold placeAt; rw [thingAt_of G.house (G.sub t (List.mem_singleton.mpr rfl))]
      have e3 : sortI [t.name] = [t.name] := sortI_of_sorted (List.pairwise_singleton _ _)
      show TreeFor (placeAt h) (sortI [t.name]) _
      rw [e3]
      exact .lf (by rw [e2])
    case more =>
      have e' : ¬ ts.length = 1 := of_decide_eq_false e
      have l2 : 2 ≤ ts.length := by
        have : ts.length ≠ 0 := fun q => G.ne (List.length_eq_zero_iff.mp q)
        omega
      obtain ⟨k, rfl⟩ : ∃ k, n = k + 1 := ⟨n - 1, by omega⟩
      have ih := rec k rfl
      -- which number
      refine ls_seq (ls_set (W := fun w => ∃ i : Nat, i < h.d ∧ w = .d (.int (i : Int))) 5 (le_weak (le_ix (n := 2) (le_lst (la_cons (W := fun w => ∃ i : Nat, i < h.d ∧ w = .d (.int (i : Int))) (le_weak (le_pure (bop (nm 3) (nm 1) (od_mod (by show (0 : Int) < (h.d : Int); omega)))) fun w e => ⟨turn % h.d, Nat.mod_lt _ hd1, by rw [e, Int.natCast_emod]⟩) (la_cons (W := fun w => ∃ i : Nat, i < h.d ∧ w = .d (.int (i : Int))) (pick h.d at_ P hr (nm 0) (nm 1) ⟨hd1, Nat.le_trans hd4 (by decide)⟩ j1) la_nil)) ?l1 (Nat.le_of_ble_eq_true rfl)) (pick 2 at_ P hr (nm 0) pd_int (by decide) j1) (fun ds hds => Nat.le_of_eq (by have := Paired.length hds; rw [List.length_map] at this; exact this)) (fun _ _ => rfl)) ?l2) sc84.nd) ?_
      case l1 =>
        intro W hW w hw
        simp only [List.mem_cons, List.not_mem_nil, or_false] at hW
        rcases hW with rfl | rfl
        · obtain ⟨i, _, e⟩ := hw; exact ⟨_, e⟩
        · obtain ⟨i, _, e⟩ := hw; exact ⟨_, e⟩
      case l2 =>
        rintro w ⟨ds, d, hds, hd, rfl⟩
        obtain ⟨x, y, rfl, hx, hy⟩ := two_of hds
        simp only [List.mem_cons, List.not_mem_nil, or_false] at hd
        rcases hd with rfl | rfl
        · exact hx
        · exact hy
      rintro ρ' ⟨w, ⟨i, hi, rfl⟩, rfl⟩
      -- the row
      have hlen : ∀ t ∈ ts, i < t.place.length := fun t ht => by rw [G.house.len t (G.sub t ht)]; exact hi
      refine ls_seq (ls_set 6 (le_sortLam (enc := encThing) (key := growKey i) (xs := ts) (pn := "_law_thing") (fun σ => σ[5]? = some (some (.int (i : Int)))) hA hr (at_.no B.sorted) (nm 2) (fun H σ hh => ?kx) (AllAlike.of fun _ _ => by simp [alike, alikeAll, growKey]) (Sortable.tuples fun _ => ⟨_, _, rfl⟩) (fun t _ => ?du) (fun t _ => noL_thing t) (fun _ _ _ _ _ _ => rfl) (by decide +kernel) rfl ?fr ?bd) sc84.nd) ?_
      case kx =>
        obtain ⟨v, e1, e2⟩ := hh.at_ 5 _ rfl
        have e2 := dpInt e2
        rw [e1, e2]
      case du =>
        have hd : (growKey i t).depth = 1 := by simp [growKey, PyData.depth, PyData.depthAll]
        omega
      case fr =>
        intro y hy hf
        refine cell_has (sc := defScope (top 84)) ?_
        simp only [List.mem_cons, List.not_mem_nil, or_false] at hy
        rcases hy with rfl | rfl
        · cases hf
        · rfl
      case bd =>
        intro pins σ H' s' I hK t ht A' E' env s0 m' v hs hcl g hns hv hrd
        have hk : env.scope.kind = .function := by rw [hs]
        have hloc : env.kindOf "_law_thing" = some .local := by
          unfold Env.kindOf
          rw [hs]
          rfl
        refine ke_tup2 (ke_ixG (ds := t.place.map Enc.enc) (ke_ix 1 (ke_local hk hloc hns hv hrd)) (ke_cap I g (i := 5) rfl hK rfl hs hcl rfl rfl ?_) ?_ (Nat.lt_trans hi (by omega)) (fun _ _ => rfl)) (ke_ix 0 (ke_local hk hloc hns hv hrd))
        · intro cc hcc
          show (cloFrom _ [("_law_thing", NameKind.local), ("_law_i", NameKind.free)] []).lookup _ = _
          simp [cloFrom, List.lookup_cons, hcc]
        · show _ = some (en (t.place.getD i 0))
          rw [List.getElem?_map, List.getElem?_eq_getElem (hlen t ht)]
          simp [List.getD, hlen t ht]
      rintro ρ' ⟨w, rfl, rfl⟩
      have hp0 : (ts.mergeSort (dataLe false (growKey i))).Perm ts := List.mergeSort_perm ..
      generalize ts.mergeSort (dataLe false (growKey i)) = row0 at hp0 ⊢
      -- perhaps the odd ones ahead
      refine ls_seq (P := fun ρ' => ∃ row : List Thing, row.Perm ts ∧ ρ' = [some (.v (.ref L)), some (.d (.int (h.d : Int))), some (.d (.list (ts.map encThing))), some (.d (.int (turn : Int))), some (ed (sortI (ts.map (·.name)))), some (.d (.int (i : Int))), some (.d (.list (row.map encThing))), none, none, none]) (ls_if (P := fun _ => True) (lt_cmp (le_weak (pick 4 at_ P hr (nm 0) pd_int (by decide) j1) wint_pick) (le_weak (le_pure pd_int) weq_int) (od_eqIk hu)) (fun _ => ls_one (ls_weak1 (ls_pure (st 6 (pd_eq (bop (pd_slStep (nm 6) (pdo_some pd_int) (by decide) ?z1) (pd_slStep (nm 6) pdo_none (by decide) ?z2) (od_catL ?z3)) ?z4) sc84.nd)) fun ρ' e => ⟨pickIx row0 (stepIx row0.length (some 1) 2) ++ pickIx row0 (stepIx row0.length none 2), (step_perm row0).trans hp0, e⟩)) (fun _ => ls_weak ls_nil fun ρ' e => ⟨row0, hp0, e⟩)) ?_
      case z1 =>
        rw [List.length_map, stepIx_odd, List.length_map, List.length_range, hp0.length_eq]
        omega
      case z2 =>
        rw [List.length_map, stepIx_even, List.length_map, List.length_range, hp0.length_eq]
        omega
      case z3 =>
        have z1 : (pickIx (row0.map encThing) (stepIx (row0.map encThing).length (some 1) 2)).length ≤ 30 := Nat.le_trans (List.length_filterMap_le _ _) (by rw [List.length_map, stepIx_odd, List.length_map, List.length_range, hp0.length_eq]; omega)
        have z2 : (pickIx (row0.map encThing) (stepIx (row0.map encThing).length none 2)).length ≤ 30 := Nat.le_trans (List.length_filterMap_le _ _) (by rw [List.length_map, stepIx_even, List.length_map, List.length_range, hp0.length_eq]; omega)
        omega
      case z4 =>
        rw [List.length_map, pickIx_map, pickIx_map, ← List.map_append]
      rintro ρ' ⟨row, hrow, rfl⟩
      have hrl := hrow.length_eq
      -- where it is cut
      refine ls_seq (ls_set (W := fun w => ∃ q : Nat, (1 ≤ q ∧ q < row.length) ∧ w = .d (.int (q : Int))) 7 (le_weak (le_ix (n := 2) (le_lst (la_cons (W := fun w => ∃ q : Nat, (1 ≤ q ∧ q < row.length) ∧ w = .d (.int (q : Int))) (le_weak (le_pure (bop (bop (cb at_ B.len (cd_len (ds := row.map encThing) rfl) (a1 (nm 6))) pd_int od_add) pd_int (od_fdiv ⟨by decide, by decide⟩))) ?c1) (la_cons (W := fun w => ∃ q : Nat, (1 ≤ q ∧ q < row.length) ∧ w = .d (.int (q : Int))) (le_bop (le_weak (le_pure pd_int) weq_int) (le_weak (pick (row.length - 1) at_ P hr (nm 0) (pd_eq (bop (cb at_ B.len (cd_len (ds := row.map encThing) rfl) (a1 (nm 6))) pd_int od_sub) ?c2) ⟨by omega, by omega⟩ j1) wint_pick) ?c3) la_nil)) ?l1 (Nat.le_of_ble_eq_true rfl)) (pick 2 at_ P hr (nm 0) pd_int (by decide) j1) (fun ds hds => Nat.le_of_eq (by have := Paired.length hds; rw [List.length_map] at this; exact this)) (fun _ _ => rfl)) ?l2) sc84.nd) ?_
      case c1 =>
        intro w e
        refine ⟨(row.length + 1) / 2, ⟨by omega, by omega⟩, ?_⟩
        rw [e, List.length_map]
        rfl
      case c2 =>
        rw [List.length_map]
        congr 2
        omega
      case c3 =>
        rintro w1 w2 ⟨i1, rfl, rfl⟩ ⟨i2, hi2, rfl⟩
        refine ⟨.int (1 + i2), ⟨(1 + i2).toNat, ⟨by omega, by omega⟩, by rw [Int.toNat_of_nonneg (by omega)]⟩, rfl, od_add⟩
      case l1 =>
        intro W hW w hw
        simp only [List.mem_cons, List.not_mem_nil, or_false] at hW
        rcases hW with rfl | rfl
        · obtain ⟨i, _, e⟩ := hw; exact ⟨_, e⟩
        · obtain ⟨i, _, e⟩ := hw; exact ⟨_, e⟩
      case l2 =>
        rintro w ⟨ds, d, hds, hd, rfl⟩
        obtain ⟨x, y, rfl, hx, hy⟩ := two_of hds
        simp only [List.mem_cons, List.not_mem_nil, or_false] at hd
        rcases hd with rfl | rfl
        · exact hx
        · exact hy
      rintro ρ' ⟨w, ⟨q, ⟨hq1, hq2⟩, rfl⟩, rfl⟩
      have G1 : GrowOk h (row.take q) := G.part hrow (List.take_sublist _ _) fun z => by have := congrArg List.length z; rw [List.length_take, List.length_nil] at this; omega
      have G2 : GrowOk h (row.drop q) := G.part hrow (List.drop_sublist _ _) fun z => by have := congrArg List.length z; rw [List.length_drop, List.length_nil] at this; omega
      -- the parts
      refine ls_seq (ls_set 8 (le_call (a := (h, row.take q, turn + 1)) at_ ih hr (a4 (nm 0) (nm 1) (pd_eq (pd_slL (ds := row.map encThing) (nm 6) pdo_none (pdo_some (nm 7))) (by rw [cutTo _ _ (by rw [List.length_map]; omega), List.map_take])) (bop (nm 3) pd_int od_add)) ⟨G1, by show (row.take q).length ≤ _; rw [List.length_take]; omega⟩ (by omega)) sc84.nd) ?_
      rintro ρ' ⟨w, ⟨t1, ht1, rfl⟩, rfl⟩
      refine ls_ret (le_weak (le_tup (la_cons (W := (· = ed (sortI (ts.map (·.name))))) (le_pure (nm 4)) (la_cons (W := (· = ed (boundsOf (ts.map (·.place))))) (le_pure (cl h1 ts at_ hr (a1 (nm 2)) G.places j1)) (la_cons (W := (· = Sl.d (encTr t1))) (le_pure (nm 8)) (la_cons (le_call (a := (h, row.drop q, turn + 1)) at_ ih hr (a4 (nm 0) (nm 1) (pd_eq (pd_slL (ds := row.map encThing) (nm 6) (pdo_some (nm 7)) pdo_none) (by rw [cutFrom _ _ (by rw [List.length_map]; omega), List.map_drop])) (bop (nm 3) pd_int od_add)) ⟨G2, by show (row.drop q).length ≤ _; rw [List.length_drop]; omega⟩ (by omega)) la_nil)))) ?l3 (Nat.le_of_ble_eq_true rfl)) ?_)
      case l3 =>
        intro W hW w hw
        simp only [List.mem_cons, List.not_mem_nil, or_false] at hW
        rcases hW with rfl | rfl | rfl | rfl
        · exact ⟨_, hw⟩
        · exact ⟨_, hw⟩
        · exact ⟨_, hw⟩
        · obtain ⟨t, _, e⟩ := hw; exact ⟨_, e⟩
      rintro w ⟨ds, hds, rfl⟩
      match ds, hds with
      | [x1, x2, x3, x4], .cons y1 (.cons y2 (.cons y3 (.cons y4 .nil))) =>
        obtain ⟨t2, ht2, e4⟩ := y4
        have e1 := Sl.d.inj y1
        have e2 := Sl.d.inj y2
        have e3 := Sl.d.inj y3
        have e4 := Sl.d.inj e4
        subst e1 e2 e3 e4
        refine ⟨.nd (sortI (ts.map (·.name))) (boundsOf (ts.map (·.place))) t1 t2, .nd ?_ ?_ ht1 ht2 ⟨ts.map (·.place), ?_, rfl⟩, rfl⟩
        · refine ((sortI_perm _).append (sortI_perm _)).trans ?_
          rw [← List.map_append, List.take_append_drop]
          exact (hrow.map _).trans (sortI_perm _).symm
        · exact (sortI_idem _).symm
        · rw [placesAt G.house G.sub]
          exact ((sortI_perm _).map _).symm
  intro n
  induction n with
  | zero => exact first 0 fun k e => absurd e (by omega)
  | succ n ih =>
    refine first (n + 1) fun k e => ?_
    obtain rfl : k = n := by omega
    exact ih
end
end Bx
namespace Bx
open PySem L2 PySem.SeqAt
open LamX (Tabs TabB ExtN)
open PySem.W (alike alikeAll dataLt dataLe EachIs AllAlike Sortable)
section
variable {C : Ctx} {f : Addr} {fd : FuncData}

def TreeIs (h : House) : Option Tr → Prop
  | none => h.things = []
  | some t => TreeFor (placeAt h) (h.things.map (·.name)) t
theorem HouseOk.sorted {h : House} (H : HouseOk h) : sortI (h.things.map (·.name)) = h.things.map (·.name) := sortI_of_sorted (H.nd.imp fun h => Int.le_of_lt h)
abbrev S_law_tree (C : Ctx) (T : List (Addr × Str)) : Sp := spL C.K T (A := House) (fun a => HouseOk a) (fun a => [.d (encHouse a)]) (fun a => fun w => ∃ ot : Option Tr, TreeIs a ot ∧ w = .d (encOT ot))
abbrev N85 : List Str := ["_law_left_here", "_law_house_here"]
theorem sc85 : FnScope N85 ["_law_left_here", "_law_house_here"] (defScope (top 85)) := ⟨rfl, rfl, rfl, by decide +kernel, rfl, by decide +kernel, by decide +kernel⟩
theorem ok__law_tree {T : List (Addr × Str)} (F : Fd C.K "_law_tree" "_law_tree" (top 85) f fd) (m : C.mg "_law_tree" = some (.ref f)) (B : Blt C) (h1 : HasS C "_law_grown" 35 (S_law_grown C T 30)) : HasS C "_law_tree" 41 (S_law_tree C T) := by
  refine hasL_fn (fun a => [some (.d (encHouse a))]) F m sc85 (by decide) (fun _ _ _ _ _ _ us hl => match us, hl with | [_, _], _ => rfl) (fun _ => rfl) (fun _ => rfl) fun X L h at_ hr hp ⟨cdv, A, outer, s, H, E, hX⟩ => ?_
  have hu : X.A.units + 64 < cLine := hr.units
  subst hX
  refine ls_ifR (k := decide (h.things = [])) (cmpT (ix 1 (nm 1)) t0 (od_eqThings hu h.things)) (fun e => ls_weakR (ls_pures (rt pd_non)) fun w ew => ⟨none, show h.things = [] from of_decide_eq_true e, ew⟩) (fun e => ls_ret (le_weak (le_call (a := (h, h.things, 0)) at_ h1 hr (a4 (nm 0) (ix 0 (nm 1)) (ct at_ B.list (cd_lst rfl) (a1 (ix 1 (nm 1)))) pd_int) ⟨⟨hp, of_decide_eq_false e, fun t ht => ht, hp.nodup⟩, by show h.things.length ≤ 31; exact Nat.le_trans hp.many (by decide)⟩) ?_))
  rintro w ⟨t, ht, rfl⟩
  exact ⟨some t, by rw [hp.sorted] at ht; exact ht, rfl⟩
abbrev R_law_at := Rf (A := Option Tr × List Bool) (fun a => True) (fun a => [.d (encOT a.1), .d (encPath a.2)]) (fun a => .d (encOT (treeAt a.1 a.2)))
abbrev N86 : List Str := ["_law_tree_here", "_law_path", "_law_step"]
theorem sc86 : FnScope N86 ["_law_tree_here", "_law_path"] (defScope (top 86)) := ⟨rfl, rfl, rfl, by decide +kernel, rfl, by decide +kernel, by decide +kernel⟩
theorem ok__law_at (F : Fd C.K "_law_at" "_law_at" (top 86) f fd) (m : C.mg "_law_at" = some (.ref f))  : Has C "_law_at" 1 R_law_at := by
  refine has_fn (fun a => [some (.d (encOT a.1)), some (.d (encPath a.2)), none]) F m sc86 (by decide) (fun _ _ _ _ _ _ us hl => match us, hl with | [_, _], _ => rfl) (fun _ => rfl) (fun _ => rfl) fun X a at_ hr hp ⟨cdv, A, outer, s, H, E, hX⟩ => ?_
  have hu : X.A.units + 64 < cLine := hr.units
  subst hX
  obtain ⟨ot, path⟩ := a
  refine forR (pid_tup (nm 1)) ?_
  suffices hh : ∀ (ps : List Bool) (ot : Option Tr) (z : Option Sl), LoopR _ _ _ _ (ps.map fun s => PyData.int (sideI s)) [some (.d (encOT ot)), some (.d (encPath path)), z] (.d (encOT (treeAt ot ps))) from hh path ot none
  intro ps
  induction ps with
  | nil => exact fun ot z => .done (rt (pd_eq (nm 0) (by cases ot <;> rfl)))
  | cons s r ih =>
    intro ot z
    cases ot with
    | none =>
      have q := ih none (some (.d (.int (sideI s))))
      have e : treeAt none r = none := by cases r <;> rfl
      rw [e] at q
      exact .next (gn 2 sc86.nd) (pds_one (st 0 (pd_ifE (k := true) (cmpT (nm 0) pd_non od_isN) (fun _ => pd_non) (fun h => nomatch h)) sc86.nd)) q
    | some t => exact .next (gn 2 sc86.nd) (pds_one (st 0 (pd_ifE (k := false) (ptEq (cmpT (nm 0) pd_non od_isN) (isNone_tr t)) (fun h => nomatch h) (fun _ => pd_ix (tr_row t) (ix_child t s) (nm 0) (bop pd_int (nm 2) od_add) (fun _ _ => rfl))) sc86.nd)) (ih _ _)

def hasWord (wd : Str) (q : Part) : Bool := PyData.eqv (.str q.word) (.str wd)
def namesAt (ot : Option Tr) (q : Part) : List Int := match treeAt ot q.path with
  | some u => u.names
  | none => []
def lawNames (ot : Option Tr) (ps : List Part) (wd : Str) : List Int := sortI ((ps.filter (hasWord wd)).flatMap (namesAt ot))
theorem word_shaped (q : Part) : shaped (.str q.word) = true := by
  cases q with
  | inn _ => show shaped (.str "in") = true; decide +kernel
  | out _ _ _ => show shaped (.str "out") = true; decide +kernel
  | far _ => show shaped (.str "far") = true; decide +kernel
theorem path_row (q : Part) : ∃ r, rowOf (encPart q) = some (encPath q.path :: r) := by
  cases q <;> exact ⟨_, rfl⟩
theorem ixPath {X : Cx} {ρ : Ev} {a : Expr} {j : Nat} {p pos : Pos} {q : Part} (h : PE X a (tD X.K ρ (.d (encPart q)))) : PE X (.Subscript a (.Constant (.int 0) j p) pos) (tD X.K ρ (.d (encPath q.path))) := by
  obtain ⟨r, e⟩ := path_row q
  exact pd_ix e (atI_nat (j := 0) rfl) h pd_int (fun _ _ => rfl)
abbrev R_law_names := Rf (A := Option Tr × List Part × Str) (fun a => shaped (.str a.2.2) = true ∧ a.2.1.length ≤ 400 ∧ ∀ q ∈ a.2.1, ∃ u, treeAt a.1 q.path = some u ∧ u.names.length ≤ 100) (fun a => [.d (encOT a.1), .d (.tuple (a.2.1.map encPart)), .d (.str a.2.2)]) (fun a => .d (.list ((lawNames a.1 a.2.1 a.2.2).map .int)))
abbrev N87 : List Str := ["_law_tree_here", "_law_parts", "_law_word", "_law_names_here", "_law_part"]
theorem sc87 : FnScope N87 ["_law_tree_here", "_law_parts", "_law_word"] (defScope (top 87)) := ⟨rfl, rfl, rfl, by decide +kernel, rfl, by decide +kernel, by decide +kernel⟩
theorem ok__law_names (F : Fd C.K "_law_names" "_law_names" (top 87) f fd) (m : C.mg "_law_names" = some (.ref f)) (B : Blt C) (h1 : Has C "_law_at" 1 R_law_at) : Has C "_law_names" 2 R_law_names := by
  refine has_fn (fun a => [some (.d (encOT a.1)), some (.d (.tuple (a.2.1.map encPart))), some (.d (.str a.2.2)), none, none]) F m sc87 (by decide) (fun _ _ _ _ _ _ us hl => match us, hl with | [_, _, _], _ => rfl) (fun _ => rfl) (fun _ => rfl) fun X a at_ hr hp ⟨cdv, A, outer, s, H, E, hX⟩ => ?_
  have hu : X.A.units + 64 < cLine := hr.units
  subst hX
  obtain ⟨ot, ps, wd⟩ := a
  obtain ⟨hw, hl, hq⟩ := hp
  simp only at hw hl hq
  let g : Part → List PyData := fun q => if hasWord wd q then (namesAt ot q).map .int else []
  have eg : ∀ qs : List Part, qs.flatMap g = ((qs.filter (hasWord wd)).flatMap (namesAt ot)).map .int := by
    intro qs
    induction qs with
    | nil => rfl
    | cons q qs ih =>
      rw [List.flatMap_cons, ih, List.filter_cons]
      show (if hasWord wd q then (namesAt ot q).map PyData.int else []) ++ _ = _
      cases hasWord wd q with
      | true => rw [if_pos rfl, if_pos rfl, List.flatMap_cons, List.map_append]
      | false => rw [if_neg (by simp), if_neg (by simp)]; rfl
  have gl : ∀ q ∈ ps, (g q).length ≤ 100 := by
    intro q hqm
    show (if hasWord wd q then (namesAt ot q).map PyData.int else []).length ≤ 100
    split
    · obtain ⟨u, hu1, hu2⟩ := hq q hqm
      unfold namesAt
      rw [hu1, List.length_map]
      exact hu2
    · exact Nat.zero_le _
  refine newL 3 sc87.nd (own_seq (forO (fun L => pid_tup (nm 1)) (loopO_map ps encPart g 50000 (fun q hqm ds hd => ?_) [] (by have := flat_len g 100 ps gl; rw [List.nil_append]; omega))) (own_data ?_))
  · obtain ⟨u, hu1, hu2⟩ := hq q hqm
    refine ⟨[some (.d (encOT ot)), some (.d (.tuple (ps.map encPart))), some (.d (.str wd)), none, some (.d (encPart q))], [some (.d (encOT ot)), some (.d (.tuple (ps.map encPart))), some (.d (.str wd)), none, some (.d (encPart q))], _, fun L => gn 4 sc87.nd, rfl, own_one (own_if (k := hasWord wd q) (fun L => cmpT (ixW (nm 4)) (nm 2) (od_eq hu (word_shaped q) hw)) (fun e => own_one ?_) (fun e => ?_)), .keep (.keep (.keep (.keep (.drop .nil))))⟩
    · have eg1 : g q = (u.names).map .int := by
        show (if hasWord wd q then (namesAt ot q).map PyData.int else []) = _
        rw [if_pos e]
        unfold namesAt
        rw [hu1]
      rw [eg1] at hd ⊢
      exact ext at_ B.list (fun L => ixT0 (t := u) (pd_eq (cl h1 (ot, q.path) at_ hr (a2 (nm 0) (ixPath (nm 4)))) (by rw [hu1]; rfl))) rfl (by omega)
    · have eg1 : g q = [] := by
        show (if hasWord wd q then (namesAt ot q).map PyData.int else []) = _
        rw [if_neg (by simp [e])]
      rw [eg1, List.append_nil]
      exact own_nil
  · rw [List.nil_append, eg]
    exact rt (cb at_ B.sorted (cd_sortI hu _) (a1 (nm 3)))
end
end Bx
set_option maxHeartbeats 400000
/-! the class Drawer -/
namespace Bx
open PySem L2 PySem.SeqAt
abbrev Wt := (Int × Int) × Tr
def encWait (x : Wt) : PyData := .tuple [en x.1, encTr x.2]
def drF (h : House) (p : Plain) (k : Kind) (ws : List Wt) (n : Int) : List (Str × FV) := [("worths", .inr (worthsD h)), ("plain_pairs", .inl (en p)), ("kind", .inl (encKind k)), ("waiting", .inl (.list (ws.map encWait))), ("looks_so_far", .inl (.int n))]
structure DrawerC (C : Ctx) (Cl : Addr) : Prop where
  cls : Cls C.K Cl
  n1 : NoAttr C.K Cl "worths"
  n2 : NoAttr C.K Cl "plain_pairs"
  n3 : NoAttr C.K Cl "kind"
  n4 : NoAttr C.K Cl "waiting"
  n5 : NoAttr C.K Cl "looks_so_far"
  mg : C.mg "Drawer" = some (.ref Cl)
structure Dr (K : PySem.W.Frag) (Cl : Addr) (h : House) (p : Plain) (k : Kind) (me W : Addr) (ws : List Wt) (n : Int) (H : Hp) : Prop where
  ex : ∃ dx us vs, H me = some (.ins Cl dx us) ∧ HeldFs K H (drF h p k ws n) us ∧ us.lookup ("waiting" : Str) = some (V.ref W) ∧ H W = some (.lst vs) ∧ DpAll K H vs (ws.map encWait)
theorem Dr.ob {K : PySem.W.Frag} {Cl : Addr} {h : House} {p : Plain} {k : Kind} {me W : Addr} {ws : List Wt} {n : Int} {H : Hp} (d : Dr K Cl h p k me W ws n H) : HeldV K H (.ref me) (.ob Cl (drF h p k ws n)) := by
  obtain ⟨dx, us, vs, h1, h2, _, _, _⟩ := d.ex
  exact ⟨me, dx, us, rfl, h1, h2⟩
theorem Dr.mono {K : PySem.W.Frag} {Cl : Addr} {h : House} {p : Plain} {k : Kind} {me W : Addr} {ws : List Wt} {n : Int} {H H' : Hp} (d : Dr K Cl h p k me W ws n H) (s : Same H H') : Dr K Cl h p k me W ws n H' := by
  obtain ⟨dx, us, vs, h1, h2, h3, h4, h5⟩ := d.ex
  exact ⟨dx, us, vs, s _ _ h1, h2.mono s, h3, s _ _ h4, dpAllMono s h5⟩
theorem noL_wait (x : Wt) : noL (encWait x) = true := by
  show (noL (en x.1) && (noL (encTr x.2) && true)) = true
  rw [Enc.nol, noL_tr]; rfl
theorem noLs_wait (ws : List Wt) : noL.noLs (ws.map encWait) = true := noLs_of fun d hd => by
  obtain ⟨x, _, rfl⟩ := List.mem_map.mp hd
  exact noL_wait x
/-- all else stays -/
def Kp (me W : Addr) (H H' : Hp) : Prop := ∀ b o, b ≠ me → b ≠ W → H b = some o → H' b = some o
theorem Kp.trans {me W : Addr} {H H1 H2 : Hp} (a : Kp me W H H1) (b : Kp me W H1 H2) : Kp me W H H2 := fun c o n1 n2 e => b c o n1 n2 (a c o n1 n2 e)
theorem Kp.of {me W : Addr} {H H' : Hp} (s : Same H H') : Kp me W H H' := fun b o _ _ e => s b o e
/-- the list is another one -/
theorem Dr.put {K : PySem.W.Frag} {Cl : Addr} {h : House} {p : Plain} {k : Kind} {me W : Addr} {ws ws' : List Wt} {n : Int} {H : Hp} {zs : List V} (d : Dr K Cl h p k me W ws n H) (hz : DpAll K H zs (ws'.map encWait)) : Dr K Cl h p k me W ws' n (upd H W (.lst zs)) := by
  obtain ⟨dx, us, vs, h1, h2, h3, h4, _⟩ := d.ex
  have ne : me ≠ W := fun q => by rw [q, h4] at h1; cases h1
  have st : ∀ {v : V} {d : PyData}, noL d = true → Dp K H v d → Dp K (upd H W (.lst zs)) v d := fun n q => dpStore h4 (fun _ z => by cases z) (fun _ _ z => by cases z) n q
  refine ⟨dx, us, zs, by rw [upd_ne ne]; exact h1, ?_, h3, upd_same, dpStoreAll h4 (fun _ z => by cases z) (fun _ _ z => by cases z) (noLs_wait ws') hz⟩
  cases h2 with
  | cons a1 t =>
    cases t with
    | cons a2 t =>
      cases t with
      | cons a3 t =>
        cases t with
        | cons a4 t =>
          cases t with
          | cons a5 t =>
            cases t
            rename_i u1 u2 u3 u4 u5
            obtain ⟨f1, v1⟩ := u1
            obtain ⟨f2, v2⟩ := u2
            obtain ⟨f3, v3⟩ := u3
            obtain ⟨f4, v4⟩ := u4
            obtain ⟨f5, v5⟩ := u5
            obtain ⟨e1, q1⟩ := a1
            obtain ⟨e2, q2⟩ := a2
            obtain ⟨e3, q3⟩ := a3
            obtain ⟨e4, q4⟩ := a4
            obtain ⟨e5, q5⟩ := a5
            simp only at e1 e2 e3 e4 e5
            subst e1 e2 e3 e4 e5
            have e6 : v4 = .ref W := by
              have : (some v4 : Option V) = some (.ref W) := h3
              exact Option.some.inj this
            subst e6
            refine .cons ⟨rfl, ?_⟩ (.cons ⟨rfl, st (Enc.nol p) q2⟩ (.cons ⟨rfl, st (noL_kind k) q3⟩ (.cons ⟨rfl, Dp.lst (SqL.of upd_same) ?_⟩ (.cons ⟨rfl, ?_⟩ .nil))))
            · obtain ⟨a, wsd, z1, z2, z3⟩ := q1
              refine ⟨a, wsd, z1, by rw [upd_ne (fun q => by rw [q, h4] at z2; cases z2)]; exact z2, ?_⟩
              have zz : ∀ {kvs : List (Int × PyData)} {ws : List (Key × V)}, (∀ q ∈ kvs, noL q.2 = true) → DcP K H kvs ws → DcP K (upd H W (.lst zs)) kvs ws := by
                intro kvs ws hq hd
                induction hd with
                | nil => exact .nil
                | cons a t ih => exact .cons ⟨a.1, st (hq _ (List.mem_cons_self ..)) a.2⟩ (ih fun q hm => hq q (List.mem_cons_of_mem _ hm))
              refine zz (fun q hq => ?_) z3
              unfold worthsD at hq
              obtain ⟨t, _, rfl⟩ := List.mem_map.mp hq
              rfl
            · exact dpStoreAll h4 (fun _ z => by cases z) (fun _ _ z => by cases z) (noLs_wait ws') hz
            · have := dpInt q5
              subst this
              exact Dp.int _
def waitPut (h : House) (p : Plain) (k : Kind) (ws : List Wt) (t : Tr) : List Wt := if lieApart t.bnd p then ws else ws ++ [(keyBy h k t, t)]
structure WaitIn where
  h : House
  p : Plain
  k : Kind
  me : Addr
  W : Addr
  ws : List Wt
  n : Int
  t : Tr
def spWait (K : PySem.W.Frag) (Cl : Addr) : Sp := fun vs H Q _ => ∃ (a : WaitIn) (tv : V), vs = [.ref a.me, tv] ∧ Dr K Cl a.h a.p a.k a.me a.W a.ws a.n H ∧ NamesOk a.h a.t ∧ a.ws.length ≤ 1000 ∧ Dp K H tv (encTr a.t) ∧
  ∀ H', Kp a.me a.W H H' → Dr K Cl a.h a.p a.k a.me a.W (waitPut a.h a.p a.k a.ws a.t) a.n H' → Q .non H'
section
variable {C : Ctx} {f : Addr} {fd : FuncData} {Cl : Addr}
theorem sc53w : FnScope ["self", "tree"] ["self", "tree"] (defScope (meth 53 1)) := ⟨rfl, rfl, rfl, by decide +kernel, rfl, by decide +kernel, by decide +kernel⟩
theorem ok_let_wait (DC : DrawerC C Cl) (F : Fd C.K "let_wait" "Drawer.let_wait" (meth 53 1) f fd) (M : Meth C.K Cl "let_wait" f) (h1 : Has C "lie_apart" 4 RlieApart) (h2 : Has C "key_by_drawing" 2 Rkey_by) : HasM C Cl "let_wait" 6 (spWait C.K Cl) := by
  refine ⟨f, fd, ["self", "tree"], M, F.bindsN (fun _ _ _ _ _ _ us hl => match us, hl with | [_, _], _ => rfl), F.ok (N := ["self", "tree"]) sc53w (fun vs H Q E h => ?_) fun cdv A outer s H vs Q E hr h => ?_⟩
  · obtain ⟨a, tv, rfl, _⟩ := h
    rfl
  · obtain ⟨⟨h, p, k, me, W, ws, n, t⟩, tv, rfl, d, hN, hw, ht, q⟩ := h
    simp only at d hN hw ht q
    let X := (cxOf CX0 C.P C.w C.K C.mg C.base ["self", "tree"] "Drawer.let_wait" (defScope (meth 53 1)) f cdv A outer s H E).nox
    have at_ : At C X := ⟨rfl, rfl, rfl, rfl, rfl⟩
    have hr' : Room 5 X.A := hr
    have hc : Cls X.K Cl := DC.cls
    have held0 : ∀ {H' : Hp}, Same H H' → Held X.K H' (L2.start ["self", "tree"] [.ref me, tv]) [some (.ob Cl (drF h p k ws n)), some (.d (encTr t))] := fun s' => (held_start (K := C.K) (H := H) (vs := [.ref me, tv]) (ws := [.ob Cl (drF h p k ws n), .d (encTr t)]) (N := ["self", "tree"]) (Paired.cons d.ob (Paired.cons (show HeldV C.K H tv (.d (encTr t)) from ht) .nil)) (Nat.le_refl 2)).mono s'
    refine ⟨_, (pss_one (ps_if (X := X) (b := []) (ptd_not (pt_b (cl (X := X) (ρ := [some (.ob Cl (drF h p k ws n)), some (.d (encTr t))]) h1 (t.bnd, p) at_ hr' (a2 (ixT1 (nm 1)) (pd_fld (w := .inl (en p)) hc DC.n2 (nm 0))) hN.len))) (pss_one (ps_expr (X := X) (pe_bm PySem.F.plainAttrs_list PySem.F.slot_list_append PySem.F.type_list_append mt_append (pe_fld (pe_var (i := 0) rfl (Or.inl rfl)) rfl) (pa_cons (t2 (x := en (keyBy h k t)) (y := encTr t) (ρ := [some (.ob Cl (drF h p k ws n)), some (.d (encTr t))]) (cl h2 (h, t, k) at_ hr' (a3 (pd_fld (w := .inr (worthsD h)) hc DC.n1 (nm 0)) (nm 1) (pd_fld (w := .inl (encKind k)) hc DC.n3 (nm 0))) hN) (nm 1)) pa_nil)))) pss_nil)).nox, ?_⟩
    refine ⟨held0 (Same.refl H), fun H1 s1 => ?_⟩
    have d1 := d.mono s1
    cases e : lieApart t.bnd p with
    | true =>
      refine iteF (q H1 (Kp.of s1) ?_)
      unfold waitPut
      rw [if_pos e]
      exact d1
    | false =>
      obtain ⟨dx, us, vs, g1, g2, g3, g4, g6⟩ := d1.ex
      refine iteT ⟨.ref me, rfl, me, Cl, dx, us, .ref W, rfl, g1, hc, DC.n4, g3, .inl ⟨rfl, vs, SqL.of g4⟩, held0 s1, fun v H2 s2 qv => ?_⟩
      have d2 := d1.mono s2
      have g5 : H2 W = some (.lst vs) := s2 _ _ g4
      have i2 := dpAllMono s2 g6
      have hl : vs.length ≤ 1000 := by rw [dpAllLen i2, List.length_map]; exact hw
      have nw : noL.noLs ((ws ++ [(keyBy h k t, t)]).map encWait) = true := noLs_wait _
      refine ⟨W, vs, v, rfl, rfl, g5, by rw [sizeLine_eq]; omega, q _ (fun b o n1 n2 eb => by rw [upd_ne n2]; exact s2 _ _ (s1 _ _ eb)) ?_⟩
      unfold waitPut
      rw [if_neg (by simp [e])]
      refine d2.put ?_
      rw [List.map_append]
      exact dpAllApp i2 (.cons qv .nil)
end
end Bx
set_option maxHeartbeats 400000
namespace Bx
open PySem L2 PySem.SeqAt
open PySem.W (alike alikeAll dataLt dataLe EachIs)
/-! ### the least of pairs, its place -/
def minP (x : Int × Int) (xs : List (Int × Int)) : Int × Int := xs.foldl (fun a y => if pairLt y a then y else a) x
theorem minD_pairs : ∀ (xs : List (Int × Int)) (x : Int × Int), PySem.W.minD (en x) (xs.map Enc.enc) = en (minP x xs)
  | [], x => rfl
  | y :: ys, x => by
    have e : dataLt (en y) (en x) = pairLt y x := PySem.W.dataLt_ii y.1 y.2 x.1 x.2
    have h : PySem.W.minD (en x) ((y :: ys).map Enc.enc) = PySem.W.minD (if dataLt (en y) (en x) then en y else en x) (ys.map Enc.enc) := rfl
    rw [h, e]
    have h2 : minP x (y :: ys) = minP (if pairLt y x then y else x) ys := rfl
    rw [h2]
    cases pairLt y x with
    | true => exact minD_pairs ys y
    | false => exact minD_pairs ys x
theorem alike_pairs (x y : Int × Int) : alike (en x) (en y) = true := rfl
section
variable {X : Cx}
theorem cd_minP (hc : X.calm = true) (hu : X.A.units + 64 < cLine) (x : Int × Int) (xs : List (Int × Int)) (hh : X.A.handled = none) : CallR X (.builtin "min") (rDs X.K [.d (.list ((x :: xs).map Enc.enc))] (ed (minP x xs))) := by
  intro pins s σ H vs us Q I r ⟨h, k⟩
  obtain ⟨v0, rfl, hx⟩ := held1 h
  obtain ⟨a, ys, rfl, h1, h2⟩ := dpLstR hx
  obtain ⟨u, rfl, ru⟩ := vals1 r
  cases ru
  obtain ⟨its, rv, pl, hz⟩ := I.list h1
  obtain ⟨as, ra⟩ := Dp.readsAll I _ _ _ h2 rv
  have hdep : PyData.depthAll ((x :: xs).map Enc.enc) ≤ 1 := by
    have := depAll (α := Int × Int) (x :: xs)
    exact this
  refine PySem.W.min_list_data (x := en x) (xs := xs.map Enc.enc) hh pl.isList (by simpa using ra) ⟨fun d hd d' hd' => ?_, fun d hd => ?_⟩ (by have e : PyData.depthAll (en x :: xs.map Enc.enc) ≤ 1 := hdep; omega) fun i v h' tk bs hi hr hk => ?_
  · obtain ⟨p, _, rfl⟩ := List.mem_map.mp (show d ∈ (x :: xs).map Enc.enc from hd)
    obtain ⟨q, _, rfl⟩ := List.mem_map.mp (show d' ∈ (x :: xs).map Enc.enc from hd')
    exact alike_pairs p q
  · obtain ⟨p, _, rfl⟩ := List.mem_map.mp (show d ∈ (x :: xs).map Enc.enc from hd)
    exact nofun
  · have hi' : its[i]? = some v := by simpa using hi
    have hil := (List.getElem?_eq_some_iff.mp hi').1
    have hl := rv.length
    have hil2 : i < ys.length := by omega
    obtain ⟨u, e1, e2⟩ := rv.get (List.getElem?_eq_getElem hil2)
    rw [hi'] at e1
    cases e1
    obtain ⟨d, f1, f2⟩ := dpAllAt' h2 (List.getElem?_eq_getElem hil2)
    have hI : L2.Inv X pins σ H { s with heap := h', toks := tk } := I.kept hk
    have hd : ∃ p : Int × Int, d = en p := by
      have := List.mem_of_getElem? f1
      obtain ⟨p, _, rfl⟩ := List.mem_map.mp this
      exact ⟨p, rfl⟩
    obtain ⟨p, rfl⟩ := hd
    obtain ⟨bs2, r2⟩ := Dp.reads hI _ _ _ f2 e2
    rw [minD_pairs] at hr
    have eq : en p = en (minP x xs) := PySem.W.alike_unique _ _ _ _ _ (alike_pairs _ _) r2 hr
    refine ⟨ys[i], H, hI, e2, k _ H (Same.refl H) ?_⟩
    show Dp X.K H ys[i] (en (minP x xs))
    rw [← eq]
    exact f2
def placeP (ks : List (Int × Int)) (m : Int × Int) : Nat := ks.findIdx fun y => decide (y = m)
theorem placeP_lt {ks : List (Int × Int)} {m : Int × Int} (h : m ∈ ks) : placeP ks m < ks.length := List.findIdx_lt_length_of_exists ⟨m, h, by simp⟩
theorem placeP_at {ks : List (Int × Int)} {m : Int × Int} (h : m ∈ ks) : ks[placeP ks m]? = some m := by
  have hl := placeP_lt h
  have := List.findIdx_getElem (w := hl)
  rw [List.getElem?_eq_getElem hl]
  exact congrArg some (of_decide_eq_true this)
theorem placeP_no {ks : List (Int × Int)} {m : Int × Int} {j : Nat} (h : j < placeP ks m) {y : Int × Int} (e : ks[j]? = some y) : y ≠ m := fun q => by
  have := List.not_of_lt_findIdx h
  obtain ⟨hl, e⟩ := List.getElem?_eq_some_iff.mp e
  rw [e, q] at this
  simp at this
theorem minP_mem : ∀ (xs : List (Int × Int)) (x : Int × Int), minP x xs ∈ x :: xs
  | [], x => List.mem_singleton.mpr rfl
  | y :: ys, x => by
    have h2 : minP x (y :: ys) = minP (if pairLt y x then y else x) ys := rfl
    rw [h2]
    cases pairLt y x with
    | true => exact List.mem_cons_of_mem _ (minP_mem ys y)
    | false =>
      rcases List.mem_cons.mp (minP_mem ys x) with z | z
      · rw [if_neg (by simp), z]; exact List.mem_cons_self ..
      · exact List.mem_cons_of_mem _ (List.mem_cons_of_mem _ z)
/-- keys.index(m) -/
theorem pd_indexP {o e : Expr} {ρ : Ev} {ks : List (Int × Int)} {m : Int × Int} {apos cpos : Pos} (hu : X.A.units + 65 < cLine) (ho : PE X o (tD X.K ρ (.d (.list (ks.map Enc.enc))))) (he : PE X e (tD X.K ρ (ed m))) (hm : m ∈ ks)
    (hbase : attributeBase o "index" X.env (eval o X.env) = eval o X.env := by rfl) (hfew : ((backTo cpos (starEach [e] X.env)).all (fun x => !x.1) && (backToKw cpos (keywordEach [] X.env)).all (fun x => x.1.isSome) && decide ([e].length + ([] : List Keyword).length + (if ([] : List Keyword).isEmpty then 0 else 1) < 30)) = true := by rfl)
    (hline : (apos.endLine == cpos.line) = true := by rfl) (he1 : starEach [e] X.env = (false, eval e X.env) :: starEach [] X.env := by rfl) (hplain : (backTo cpos (starEach [] X.env)).any (·.1) = false := by rfl) :
    PE X (.Call (.Attribute o "index" apos) [e] [] cpos) (tD X.K ρ (.d (.int (placeP ks m : Nat)))) :=
  peI (pe_bm PySem.F.plainAttrs_list PySem.F.slot_list_index PySem.F.type_list_index (mt_indexD hu) ho (pa_cons he pa_nil he1) hbase hfew hline he1 hplain) fun σ H Q ⟨hh, k⟩ => ⟨hh, fun v H1 s1 q1 => by
    obtain ⟨a, ys, rfl, h1, h2⟩ := dpLstR q1
    refine ⟨.inl ⟨rfl, ys, h1⟩, hh.mono s1, fun u H2 s2 q2 => ⟨a, u, en m, ks.map Enc.enc, placeP ks m, en m, rfl, rfl, q1.mono s2, q2, shapedL ks (by decide), shapedE m (by decide), ?_, ?_, ?_, k _ H2 (s1.trans s2) (Dp.int _)⟩⟩
    · rw [List.getElem?_map, placeP_at hm]; rfl
    · rw [Enc.eqv]; simp
    · intro j z hj hz
      rw [List.getElem?_map] at hz
      cases e : ks[j]? with
      | none => rw [e] at hz; cases hz
      | some y =>
        rw [e] at hz
        cases hz
        rw [Enc.eqv]
        simp [placeP_no hj e]⟩
/-- name = [..], the slot told -/
theorem pdv_lc {α : Type} {elt tg iter : Expr} {scope : Scope} {own : List (Str × Nat)} {pos : Pos} {ρ : Ev} {i : Nat} {y : Str} {py spos : Pos} (hc : X.calm = true) (hN : X.N.Nodup) (hy : X.N[i]? = some y) (hyl : X.env.scope.names.lookup y = some .local)
    (hsw : swapsWith (.ListComp elt [⟨tg, iter, [], 0⟩] scope pos) (some (.Name y py)) spos.line X.env = pure true) (xs : List α) (enc : α → PyData) (g : α → PyData) (hi : PI X tg iter (tI X.K ρ (xs.map enc))) (ok : BlkOk X.N X.env.scope scope own)
    (turn : ∀ x ∈ xs, ∃ (ρ' : Ev) (vs : List Nat), (∀ j ∈ vs, j ∈ own.map (·.2)) ∧ InBlk X scope (fun Y => PG Y tg (tG X.K (wipeE ρ (own.map (·.2))) (enc x) ρ' vs)) ∧ InBlk X scope (fun Y => PE Y elt (tD X.K ρ' (.d (g x))))) (hz : xs.length ≤ 100000) (hs : ∀ x, foldedSetIterable iter X.env x = pure x) :
    PS X (.Assign [.Name y py] (.ListComp elt [⟨tg, iter, [], 0⟩] scope pos) spos) (fun D σ H => Held X.K H σ ρ ∧ ∀ v H', Same H H' → HeldV X.K H' v (.d (.list (xs.map g))) → D.nx (σ.set i (some v)) H') := by
  obtain ⟨G, T, E, hG, hT, hE, q⟩ := lc_read (X := X) (ifs := []) (own.map (·.2)) xs enc (fun _ => true) g (fun x hx => by
    obtain ⟨ρ', vs, h1, h2, h3⟩ := turn x hx
    exact ⟨ρ', vs, h1, h2, fun s H C cl fp => ptsI pts_nil fun σ H Q ⟨_, k⟩ => k H (Same.refl H), fun _ => h3⟩) hz
  rw [filter_yes] at q
  exact psI (ps_setLc hc hN hy hyl hsw hi ok hG hT hE hs) fun D σ H h => q σ H _ h
end
end Bx
set_option maxHeartbeats 400000
namespace Bx
open PySem L2 PySem.SeqAt
def takeAt (ws : List Wt) : Nat := match ws.map (·.1) with
  | [] => 0
  | x :: xs => placeP (x :: xs) (minP x xs)
structure DrIn where
  h : House
  p : Plain
  k : Kind
  me : Addr
  W : Addr
  ws : List Wt
  n : Int
def spTaken (K : PySem.W.Frag) (Cl : Addr) : Sp := fun vs H Q _ => ∃ (a : DrIn) (w : Wt), vs = [.ref a.me] ∧ Dr K Cl a.h a.p a.k a.me a.W a.ws a.n H ∧ a.ws.length ≤ 1000 ∧ a.ws[takeAt a.ws]? = some w ∧
  ∀ v H', Kp a.me a.W H H' → Dr K Cl a.h a.p a.k a.me a.W (a.ws.eraseIdx (takeAt a.ws)) a.n H' → Dp K H' v (encTr w.2) → Q v H'
theorem dpErase {K : PySem.W.Frag} {H : Hp} : ∀ {vs : List V} {ds : List PyData} (i : Nat), DpAll K H vs ds → DpAll K H (vs.eraseIdx i) (ds.eraseIdx i)
  | _, _, _, .nil => .nil
  | _, _, 0, .cons a t => t
  | _, _, i + 1, .cons a t => .cons a (dpErase i t)
theorem map_erase {α β : Type} (f : α → β) : ∀ (xs : List α) (i : Nat), (xs.eraseIdx i).map f = (xs.map f).eraseIdx i
  | [], _ => rfl
  | x :: xs, 0 => rfl
  | x :: xs, i + 1 => by
    show f x :: (xs.eraseIdx i).map f = f x :: (xs.map f).eraseIdx i
    rw [map_erase f xs i]
section
variable {C : Ctx} {f : Addr} {fd : FuncData} {Cl : Addr}
abbrev N53t : List Str := ["self", "keys", "key", "tree"]
theorem sc53t : FnScope N53t ["self"] (defScope (meth 53 2)) := ⟨rfl, rfl, rfl, by decide +kernel, rfl, by decide +kernel, by decide +kernel⟩
theorem ok_taken_next (B : Blt C) (DC : DrawerC C Cl) (F : Fd C.K "taken_next" "Drawer.taken_next" (meth 53 2) f fd) (M : Meth C.K Cl "taken_next" f) : HasM C Cl "taken_next" 6 (spTaken C.K Cl) := by
  refine ⟨f, fd, ["self"], M, F.bindsN (fun _ _ _ _ _ _ us hl => match us, hl with | [_], _ => rfl), F.ok (N := N53t) sc53t (fun vs H Q E h => ?_) fun cdv A outer s H vs Q E hr h => ?_⟩
  · obtain ⟨a, w, rfl, _⟩ := h
    rfl
  · obtain ⟨⟨h, p, k, me, W, ws, n⟩, w, rfl, d, hw, hat, q⟩ := h
    simp only at d hw hat q
    have at_ : At C (cxOf CX0 C.P C.w C.K C.mg C.base N53t "Drawer.taken_next" (defScope (meth 53 2)) f cdv A outer s H E).nox := ⟨rfl, rfl, rfl, rfl, rfl⟩
    have hu : (cxOf CX0 C.P C.w C.K C.mg C.base N53t "Drawer.taken_next" (defScope (meth 53 2)) f cdv A outer s H E).nox.A.units + 65 < cLine := by
      have := hr.un
      show (A.deeper _).units + 65 < cLine
      omega
    have hc : Cls C.K Cl := DC.cls
    obtain ⟨x, xs, hx⟩ : ∃ x xs, ws.map (·.1) = x :: xs := by
      cases ws with
      | nil => cases hat
      | cons w ws => exact ⟨_, _, rfl⟩
    have ht : takeAt ws = placeP (x :: xs) (minP x xs) := by unfold takeAt; rw [hx]
    have ek : (ws.map fun x => en x.1) = (x :: xs).map Enc.enc := by rw [← hx, List.map_map]; rfl
    have hm := minP_mem xs x
    let ρ0 : Ev := [some (.ob Cl (drF h p k ws n)), none, none, none]
    let ρ1 : Ev := [some (.ob Cl (drF h p k ws n)), some (.d (.list ((x :: xs).map Enc.enc))), none, none]
    have held0 : Held C.K H (L2.start N53t [.ref me]) ρ0 := held_start (K := C.K) (H := H) (vs := [.ref me]) (ws := [.ob Cl (drF h p k ws n)]) (N := N53t) (Paired.cons d.ob .nil) (Nat.le_of_ble_eq_true rfl)
    refine ⟨_, (pss_cons (pdv_lc (X := (cxOf CX0 C.P C.w C.K C.mg C.base N53t "Drawer.taken_next" (defScope (meth 53 2)) f cdv A outer s H E).nox) (ρ := ρ0) (i := 1) rfl sc53t.nd rfl rfl (sw_true rfl rfl rfl (by decide +kernel)) ws encWait (fun x => en x.1) (own := [("key", 2), ("tree", 3)]) (pid_list (pd_fld (w := .inl (.list (ws.map encWait))) hc DC.n4 (nm 0))) (blkOk_by (N := N53t) (sc := defScope (meth 53 2)) (by decide +kernel)) (fun q _ => ⟨_, _, by decide, fun s H C cl fp => gd_tup (ds := [en q.1, encTr q.2]) rfl (gds_cons (gn 2 sc53t.nd) (gds_cons (gn 3 sc53t.nd) gds_nil)) rfl, fun s H C' c' fp => nm 2⟩) (by omega) (by intro _; rfl)) (pss_one (ps_ret (pe_ix ix_tup (pe_bm PySem.F.plainAttrs_list PySem.F.slot_list_pop PySem.F.type_list_pop mt_popAt (pe_fld (pe_var (i := 0) rfl (Or.inl rfl)) rfl) (pa_cons (pd_indexP (ρ := ρ1) hu (nm 1) (cb at_ B.min (cd_minP rfl (by omega) x xs hr.hd) (a1 (nm 1))) hm) pa_nil)) pe_int (fun _ _ => rfl))))).nox, ?_⟩
    refine ⟨held0, fun v H1 s1 q1 => ?_⟩
    rw [ek] at q1
    have d1 := d.mono s1
    obtain ⟨dx, us, vs, g1, g2, g3, g4, g6⟩ := d1.ex
    have held1 : Held C.K H1 ((L2.start N53t [.ref me]).set 1 (some v)) ρ1 := (held0.mono s1).set 1 q1
    refine ⟨.ref me, rfl, me, Cl, dx, us, .ref W, rfl, g1, hc, DC.n4, g3, .inl ⟨rfl, vs, SqL.of g4⟩, held1, fun u H2 s2 q2 => ?_⟩
    have q2 := dpInt q2
    subst q2
    have d2 := d1.mono s2
    have g5 : H2 W = some (.lst vs) := s2 _ _ g4
    have i2 := dpAllMono s2 g6
    have hlen := dpAllLen i2
    rw [List.length_map] at hlen
    have hpl : placeP (x :: xs) (minP x xs) < vs.length := by
      have := placeP_lt hm
      have e2 := congrArg List.length hx
      rw [List.length_map] at e2
      omega
    have hat2 : (ws.map encWait)[placeP (x :: xs) (minP x xs)]? = some (encWait w) := by
      rw [List.getElem?_map, ← ht, hat]; rfl
    obtain ⟨y, y1, y2⟩ := dpAllAt i2 hat2
    refine ⟨W, vs, _, placeP (x :: xs) (minP x xs), y, rfl, rfl, g5, by omega, by omega, ?_, y1, ?_⟩
    · unfold seqIndex?
      simp
      omega
    · obtain ⟨ya, ys, rfl, t1, t2⟩ := dpTupR y2
      cases t2 with
      | cons b1 t2 =>
        cases t2 with
        | cons b2 t2 =>
          cases t2
          rename_i c1 c2
          have d3 : Dr C.K Cl h p k me W (ws.eraseIdx (takeAt ws)) n (upd H2 W (.lst (vs.eraseIdx (placeP (x :: xs) (minP x xs))))) := d2.put (by rw [map_erase, ht]; exact dpErase _ i2)
          have t3 : SqT C.K (upd H2 W (.lst (vs.eraseIdx (placeP (x :: xs) (minP x xs))))) ya [c1, c2] := by
            rcases t1 with (z | ⟨o, z⟩) | z
            · exact .inl (.inl (by rw [upd_ne (fun q => by rw [q, g5] at z; cases z)]; exact z))
            · exact .inl (.inr ⟨o, by rw [upd_ne (fun q => by rw [q, g5] at z; cases z)]; exact z⟩)
            · exact .inr z
          refine ⟨ya, [c1, c2], 1, c2, rfl, rfl, t3, rfl, q c2 _ (fun b o n1 n2 eb => ?_) d3 (dpStore g5 (fun _ z => by cases z) (fun _ _ z => by cases z) (noL_tr w.2) b2)⟩
          rw [upd_ne n2]
          exact s2 _ _ (s1 _ _ eb)
end
end Bx
set_option maxHeartbeats 400000
namespace Bx
open PySem L2 PySem.SeqAt
def Tr.size : Tr → Nat
  | .lf _ _ => 1
  | .nd _ _ l h => 1 + l.size + h.size
theorem Tr.size_pos (t : Tr) : 1 ≤ t.size := by
  cases t with
  | lf => exact Nat.le_refl 1
  | nd ns b l h => show 1 ≤ 1 + l.size + h.size; omega
def szs : List Wt → Nat
  | [] => 0
  | w :: ws => w.2.size + szs ws
theorem szs_app : ∀ (xs ys : List Wt), szs (xs ++ ys) = szs xs + szs ys
  | [], ys => by show szs ys = 0 + szs ys; omega
  | x :: xs, ys => by
    show x.2.size + szs (xs ++ ys) = x.2.size + szs xs + szs ys
    rw [szs_app xs ys]; omega
theorem len_szs : ∀ (ws : List Wt), ws.length ≤ szs ws
  | [] => Nat.le_refl 0
  | w :: ws => by
    have := len_szs ws
    have := w.2.size_pos
    show ws.length + 1 ≤ w.2.size + szs ws
    omega
theorem szs_erase : ∀ {ws : List Wt} {i : Nat} {w : Wt}, ws[i]? = some w → szs (ws.eraseIdx i) + w.2.size = szs ws
  | x :: xs, 0, w, e => by
    have e : x = w := Option.some.inj e
    subst e
    show szs xs + x.2.size = x.2.size + szs xs
    omega
  | x :: xs, i + 1, w, e => by
    have := szs_erase (ws := xs) (i := i) (w := w) e
    show x.2.size + szs (xs.eraseIdx i) + w.2.size = x.2.size + szs xs
    omega
theorem szs_put (h : House) (p : Plain) (k : Kind) (ws : List Wt) (t : Tr) : szs (waitPut h p k ws t) ≤ szs ws + t.size := by
  unfold waitPut
  split
  · omega
  · rw [szs_app]
    show szs ws + (t.size + 0) ≤ _
    omega
def AllOk (h : House) (ws : List Wt) : Prop := ∀ w ∈ ws, w.2.all (NamesOk h)
theorem AllOk.erase {h : House} {ws : List Wt} (a : AllOk h ws) (i : Nat) : AllOk h (ws.eraseIdx i) := fun w m => a w ((List.eraseIdx_sublist ws i).subset m)
theorem AllOk.put {h : House} {ws : List Wt} {t : Tr} (p : Plain) (k : Kind) (a : AllOk h ws) (ht : t.all (NamesOk h)) : AllOk h (waitPut h p k ws t) := by
  unfold waitPut
  split
  · exact a
  · intro w m
    rcases List.mem_append.mp m with m | m
    · exact a w m
    · have := List.mem_singleton.mp m
      subst this
      exact ht
theorem Tr.all_top {P : Tr → Prop} {t : Tr} (a : t.all P) : P t := by
  cases t with
  | lf => exact a
  | nd => exact a.1
theorem takeAt_some : ∀ {ws : List Wt}, ws ≠ [] → ∃ w, ws[takeAt ws]? = some w := by
  intro ws hne
  cases ws with
  | nil => exact absurd rfl hne
  | cons w ws =>
    have hl : takeAt (w :: ws) < (w :: ws).length := by
      have := placeP_lt (minP_mem (ws.map (·.1)) w.1)
      rw [List.length_cons, List.length_map] at this
      exact this
    exact ⟨_, List.getElem?_eq_getElem hl⟩
/-- next_name: from ws, in j looks, o is told and ws' waits -/
inductive Next (h : House) (p : Plain) (k : Kind) : List Wt → Nat → Option Int → List Wt → Prop
  | none : Next h p k [] 0 none []
  | leaf {ws : List Wt} {w : Wt} {n : Int} {b : Bnd} : ws[takeAt ws]? = some w → w.2 = .lf n b → Next h p k ws 1 (some n) (ws.eraseIdx (takeAt ws))
  | node {ws ws' : List Wt} {w : Wt} {ns : List Int} {b : Bnd} {l r : Tr} {j : Nat} {o : Option Int} : ws[takeAt ws]? = some w → w.2 = .nd ns b l r → Next h p k (waitPut h p k (waitPut h p k (ws.eraseIdx (takeAt ws)) l) r) j o ws' → Next h p k ws (j + 1) o ws'
def encOI : Option Int → PyData
  | none => .none
  | some n => .int n
structure NextIn where
  h : House
  p : Plain
  k : Kind
  me : Addr
  W : Addr
  ws : List Wt
  n : Int
def spNext (K : PySem.W.Frag) (Cl : Addr) : Sp := fun vs H Q _ => ∃ (a : NextIn), vs = [.ref a.me] ∧ Dr K Cl a.h a.p a.k a.me a.W a.ws a.n H ∧ szs a.ws ≤ 1000 ∧ AllOk a.h a.ws ∧
  ∀ j o ws' v H', Next a.h a.p a.k a.ws j o ws' → Kp a.me a.W H H' → Dr K Cl a.h a.p a.k a.me a.W ws' (a.n + j) H' → Dp K H' v (encOI o) → Q v H'
theorem dpKp {K : PySem.W.Frag} {Cl : Addr} {h : House} {p : Plain} {k : Kind} {me W : Addr} {ws : List Wt} {n : Int} {H H' : Hp} {v : V} {x : PyData} (d : Dr K Cl h p k me W ws n H) (q : Kp me W H H') (nl : noL x = true) (hx : Dp K H v x) : Dp K H' v x := by
  obtain ⟨dx, us, vs, e1, _, _, e4, _⟩ := d.ex
  have t : ∀ b o, H b = some o → (∀ C dx us, o ≠ .ins C dx us) → (∀ vs, o ≠ .lst vs) → H' b = some o := fun b o e n1 n2 => q b o (fun z => by rw [z, e1] at e; exact n1 _ _ _ (Option.some.inj e).symm) (fun z => by rw [z, e4] at e; exact n2 _ (Option.some.inj e).symm) e
  exact dpTups (fun b xs => ⟨fun e => t b _ e (fun _ _ _ z => by cases z) (fun _ z => by cases z), fun u e => t b _ e (fun _ _ _ z => by cases z) (fun _ z => by cases z)⟩) nl hx
/-- one look more -/
theorem Dr.look {K : PySem.W.Frag} {Cl : Addr} {h : House} {p : Plain} {k : Kind} {me W : Addr} {ws : List Wt} {n : Int} {H : Hp} (d : Dr K Cl h p k me W ws n H) (i : Int) {dx : Addr} {us : List (Str × V)} (e : H me = some (.ins Cl dx us)) : Dr K Cl h p k me W ws i (upd H me (.ins Cl dx (putF "looks_so_far" (.int i) us))) := by
  obtain ⟨dx', us', vs, h1, h2, h3, h4, h5⟩ := d.ex
  rw [e] at h1
  cases h1
  have off : Off H me := Off.ins e
  have ne : W ≠ me := fun q => by rw [q, e] at h4; cases h4
  have sm : Same (msk me H) (upd H me (.ins Cl dx (putF "looks_so_far" (.int i) us))) := fun b o q => by
    by_cases z : b = me
    · subst z; rw [msk_at] at q; cases q
    · rw [upd_ne z]; rwa [msk_ne z] at q
  have h2 := (heldFsOff off h2).mono sm
  refine ⟨dx, _, vs, upd_same, ?_, ?_, by rw [upd_ne ne]; exact h4, dpAllMono sm (dpAllOff off h5)⟩
  · cases h2 with
    | cons a1 t =>
      cases t with
      | cons a2 t =>
        cases t with
        | cons a3 t =>
          cases t with
          | cons a4 t =>
            cases t with
            | cons a5 t =>
              cases t
              rename_i u1 u2 u3 u4 u5
              obtain ⟨f1, v1⟩ := u1
              obtain ⟨f2, v2⟩ := u2
              obtain ⟨f3, v3⟩ := u3
              obtain ⟨f4, v4⟩ := u4
              obtain ⟨f5, v5⟩ := u5
              obtain ⟨e1, q1⟩ := a1
              obtain ⟨e2, q2⟩ := a2
              obtain ⟨e3, q3⟩ := a3
              obtain ⟨e4, q4⟩ := a4
              obtain ⟨e5, q5⟩ := a5
              simp only at e1 e2 e3 e4 e5
              subst e1 e2 e3 e4 e5
              exact .cons ⟨rfl, q1⟩ (.cons ⟨rfl, q2⟩ (.cons ⟨rfl, q3⟩ (.cons ⟨rfl, q4⟩ (.cons ⟨rfl, Dp.int _⟩ .nil))))
  · have : ∀ (us : List (Str × V)) (z : V), us.lookup ("waiting" : Str) = some z → (putF "looks_so_far" (.int i) us).lookup ("waiting" : Str) = some z := by
      intro us
      induction us with
      | nil => intro z q; cases q
      | cons x us ih =>
        obtain ⟨g, y⟩ := x
        intro z q
        show (if g = "looks_so_far" then (g, V.int i) :: us else (g, y) :: putF "looks_so_far" (.int i) us).lookup _ = _
        split
        · rename_i hg
          subst hg
          exact q
        · rw [List.lookup_cons] at q ⊢
          cases c : ("waiting" : Str) == g with
          | true => rw [c] at q; exact q
          | false => rw [c] at q; exact ih z q
    exact this us _ h3
theorem pt_ex {α : Type} {X : Cx} {e : Expr} {t : α → TT} (h : ∀ a, PT X e (t a)) : PT X e (fun σ H Q => ∃ a, t a σ H Q) := ⟨fun pins s σ H Q I ⟨a, q⟩ => (h a).run pins s σ H Q I q⟩
theorem pe_ex {α : Type} {X : Cx} {e : Expr} {t : α → TE} (h : ∀ a, PE X e (t a)) : PE X e (fun σ H Q => ∃ a, t a σ H Q) := ⟨fun pins s σ H Q I ⟨a, q⟩ => (h a).run pins s σ H Q I q⟩
end Bx
set_option maxHeartbeats 400000
namespace Bx
open PySem L2 PySem.SeqAt
abbrev N53n : List Str := ["self", "tree"]
theorem sc53n : FnScope N53n ["self"] (defScope (meth 53 3)) := ⟨rfl, rfl, rfl, by decide +kernel, rfl, by decide +kernel, by decide +kernel⟩
theorem heldFst {K : PySem.W.Frag} {H : Hp} {u : V} {w : Sl} {o : Option V} (q : HeldV K H u w) : Held K H [some u, o] [some w, none] := ⟨rfl, fun i z e => by
  match i with
  | 0 => cases e; exact ⟨u, rfl, q⟩
  | 1 => cases e
  | i + 2 => cases e⟩
theorem heldSnd {K : PySem.W.Frag} {H : Hp} {o : Option V} {u : V} {w : Sl} (q : HeldV K H u w) : Held K H [o, some u] [none, some w] := ⟨rfl, fun i z e => by
  match i with
  | 0 => cases e
  | 1 => cases e; exact ⟨u, rfl, q⟩
  | i + 2 => cases e⟩
theorem iteFe {A B : Prop} {k : Bool} (e : k = false) (h : B) : if k = true then A else B := by subst e; exact iteF h
theorem iteTe {A B : Prop} {k : Bool} (e : k = true) (h : A) : if k = true then A else B := by subst e; exact iteT h
section
variable {C : Ctx} {f : Addr} {fd : FuncData} {Cl : Addr}
theorem ok_next_name (B : Blt C) (DC : DrawerC C Cl) (F : Fd C.K "next_name" "Drawer.next_name" (meth 53 3) f fd) (M : Meth C.K Cl "next_name" f) (h1 : HasM C Cl "taken_next" 6 (spTaken C.K Cl)) (h2 : HasM C Cl "let_wait" 6 (spWait C.K Cl)) : HasM C Cl "next_name" 7 (spNext C.K Cl) := by
  refine ⟨f, fd, ["self"], M, F.bindsN (fun _ _ _ _ _ _ us hl => match us, hl with | [_], _ => rfl), F.ok (N := N53n) sc53n (fun vs H Q E h => ?_) fun cdv A outer s H0 vs Q E hr h => ?_⟩
  · obtain ⟨a, rfl, _⟩ := h
    rfl
  · obtain ⟨⟨h, p, k, me, W, ws0, n0⟩, rfl, d0, hz0, ha0, q⟩ := h
    simp only at d0 hz0 ha0 q
    let X := (cxOf CX0 C.P C.w C.K C.mg C.base N53n "Drawer.next_name" (defScope (meth 53 3)) f cdv A outer s H0 E).nox
    have at_ : At C X := ⟨rfl, rfl, rfl, rfl, rfl⟩
    have hr' : Room 6 X.A := hr
    have hc : Cls X.K Cl := DC.cls
    have self_ : ∀ {pos : Pos}, PE X (.Name "self" pos) (tVar 0) := fun {pos} => pe_var (X := X) (i := 0) rfl (Or.inl rfl)
    refine ⟨_, (pss_cons (ps_while (X := X) PassesOwn.never
      (pt_ex fun a : List Wt × Int => cmpT (X := X) (ρ := [some (.ob Cl (drF h p k a.1 a.2)), none]) (cb at_ B.len (cd_len (ds := a.1.map encWait) rfl) (a1 (pd_fld (w := .inl (.list (a.1.map encWait))) hc DC.n4 (nm 0)))) pd_int od_gt)
      (pss_cons (ps_set (X := X) (i := 1) sc53n.nd rfl (Or.inl rfl) (pe_hasM0 at_ h1 hc hr' self_))
      (pss_cons (ps_fldaug (X := X) self_ pe_int in_add)
      (pss_cons (ps_if (X := X) (pt_ex fun t : Tr => cmpT (ρ := [none, some (.d (encTr t))]) (pd_ix (tr_row t) (ix_child t false) (nm 1) pd_int (fun _ _ => rfl)) pd_non od_isN)
          (pss_one (ps_ret (pe_ex fun a : Int × Bnd => ix 0 (d := .int a.1) (ix 0 (d := en [a.1]) (nm (X := X) (ρ := [none, some (.d (encTr (.lf a.1 a.2)))]) 1))))) pss_nil)
      (pss_cons (ps_expr (X := X) (pe_hasM at_ h2 hc hr' self_ (pa_cons (pe_ex fun t : Tr => pd_ix (tr_row t) (ix_child t false) (nm (ρ := [none, some (.d (encTr t))]) 1) pd_int (fun _ _ => rfl)) pa_nil)))
      (pss_one (ps_expr (X := X) (pe_hasM at_ h2 hc hr' self_ (pa_cons (pe_ex fun t : Tr => pd_ix (tr_row t) (ix_child t true) (nm (ρ := [none, some (.d (encTr t))]) 1) pd_int (fun _ _ => rfl)) pa_nil)))))))))
      (pss_one (ps_ret (X := X) pe_non))).nox, ?_⟩
    refine ⟨fun m σ H => ∃ (o : Option V) (ws : List Wt) (j : Nat), σ = [some (V.ref me), o] ∧ m = szs ws ∧ szs ws ≤ 1000 ∧ AllOk h ws ∧ Kp me W H0 H ∧ Dr C.K Cl h p k me W ws (n0 + j) H ∧ ∀ j' o' ws', Next h p k ws j' o' ws' → Next h p k ws0 (j' + j) o' ws', ⟨szs ws0, none, ws0, 0, rfl, rfl, hz0, ha0, Kp.of (Same.refl H0), by rw [show n0 + ((0 : Nat) : Int) = n0 by omega]; exact d0, fun j' o' ws' q => q⟩, ?_⟩
    rintro _ _ H1 ⟨o, ws, j, rfl, rfl, hz, ha, kp, d, tn⟩
    refine ⟨(ws, n0 + j), heldFst d.ob, fun H2 s2 => ?_⟩
    have d2 := d.mono s2
    have kp2 := kp.trans (Kp.of s2)
    by_cases hw : ws = []
    · subst hw
      refine iteFe (show decide ((0 : Int) < ((([] : List Wt).map encWait).length : Nat)) = false from rfl) ?_
      have := tn 0 none [] .none
      rw [Nat.zero_add] at this
      exact q j none [] .non H2 this kp2 d2 Dp.non
    · have hl : 0 < ws.length := List.length_pos_iff.mpr hw
      have hdec : decide ((0 : Int) < ((ws.map encWait).length : Nat)) = true := decide_eq_true (by rw [List.length_map]; omega)
      refine iteTe hdec ?_
      obtain ⟨w, hat⟩ := takeAt_some hw
      have hwm : w ∈ ws := List.mem_of_getElem? hat
      have hall := ha w hwm
      have hsz := szs_erase hat
      refine ⟨_, fun _ _ h => h, ?_⟩
      obtain ⟨dx, us, vs, g1, g2, g3, g4, g5⟩ := d2.ex
      refine ⟨.ref me, rfl, me, dx, us, rfl, g1, (heldFs_look g2 "taken_next").1 rfl, ?_⟩
      refine ⟨⟨h, p, k, me, W, ws, n0 + j⟩, w, rfl, d2, Nat.le_trans (len_szs ws) hz, hat, fun v H3 kp3 d3 hv => ?_⟩
      simp only at kp3 d3 hv
      obtain ⟨dx3, us3, vs3, e1, e2, e3, e4, e5⟩ := d3.ex
      obtain ⟨y, ly, hy⟩ := (heldFs_look e2 "looks_so_far").2 (.inl (.int (n0 + j))) rfl
      have hy := dpInt hy
      subst hy
      have hus : us3.length < 1000 := by rw [← heldFs_len e2]; exact (by decide : 5 < 1000)
      refine ⟨.ref me, rfl, me, Cl, dx3, us3, .int (n0 + j), rfl, e1, hc, DC.n5, ly, n0 + j, 1, rfl, rfl, dx3, us3, e1, hus, ?_⟩
      have d4 := d3.look (n0 + j + 1) e1
      have kp4 : Kp me W H3 (upd H3 me (.ins Cl dx3 (putF "looks_so_far" (.int (n0 + j + 1)) us3))) := fun b o n1 n2 e => by rw [upd_ne n1]; exact e
      have hv4 := dpKp d3 kp4 (noL_tr w.2) hv
      have kp4 := (kp2.trans kp3).trans kp4
      generalize upd H3 me (.ins Cl dx3 (putF "looks_so_far" (.int (n0 + j + 1)) us3)) = H4 at d4 kp4 hv4
      have hn : n0 + (j : Int) + 1 = n0 + ((j + 1 : Nat) : Int) := by omega
      rw [hn] at d4
      refine ⟨w.2, heldSnd hv4, fun H5 s5 => ?_⟩
      have d5 := d4.mono s5
      have kp5 := kp4.trans (Kp.of s5)
      have hv5 : Dp C.K H5 v (encTr w.2) := dpMono s5 hv4
      cases e : w.2 with
      | lf n b =>
        rw [e] at hv5
        refine iteTe rfl ⟨(n, b), heldSnd hv5, fun u H6 s6 q6 => ?_⟩
        have := tn 1 (some n) _ (.leaf hat e)
        rw [Nat.add_comm] at this
        exact q (j + 1) (some n) _ u H6 this (kp5.trans (Kp.of s6)) (d5.mono s6) q6
      | nd ns b l r =>
        rw [e] at hv5 hall hsz
        have hsz : szs (ws.eraseIdx (takeAt ws)) + (1 + l.size + r.size) = szs ws := hsz
        have ae := ha.erase (takeAt ws)
        have al := ae.put p k hall.2.1
        have ar := al.put p k hall.2.2
        have zl := szs_put h p k (ws.eraseIdx (takeAt ws)) l
        have zr := szs_put h p k (waitPut h p k (ws.eraseIdx (takeAt ws)) l) r
        have le := len_szs (ws.eraseIdx (takeAt ws))
        have ll := len_szs (waitPut h p k (ws.eraseIdx (takeAt ws)) l)
        obtain ⟨dx5, us5, vs5, x1, x2, _⟩ := d5.ex
        have hne : isNone (encTr l) = false := isNone_tr l
        refine iteFe hne ?_
        refine ⟨.ref me, rfl, me, dx5, us5, rfl, x1, (heldFs_look x2 "let_wait").1 rfl, .nd ns b l r, heldSnd hv5, fun u H6 s6 q6 => ?_⟩
        have d6 := d5.mono s6
        refine ⟨⟨h, p, k, me, W, ws.eraseIdx (takeAt ws), n0 + ((j + 1 : Nat) : Int), l⟩, u, rfl, d6, Tr.all_top hall.2.1, by show (ws.eraseIdx (takeAt ws)).length ≤ 1000; omega, q6, fun H7 kp7 d7 => ?_⟩
        simp only at kp7 d7
        have hv7 : Dp C.K H7 v (encTr (.nd ns b l r)) := dpKp d6 kp7 (noL_tr _) (dpMono s6 hv5)
        obtain ⟨dx7, us7, vs7, z1, z2, _⟩ := d7.ex
        refine ⟨.ref me, rfl, me, dx7, us7, rfl, z1, (heldFs_look z2 "let_wait").1 rfl, .nd ns b l r, heldSnd hv7, fun u2 H8 s8 q8 => ?_⟩
        have d8 := d7.mono s8
        refine ⟨⟨h, p, k, me, W, waitPut h p k (ws.eraseIdx (takeAt ws)) l, n0 + ((j + 1 : Nat) : Int), r⟩, u2, rfl, d8, Tr.all_top hall.2.2, by show (waitPut h p k (ws.eraseIdx (takeAt ws)) l).length ≤ 1000; omega, q8, fun H9 kp9 d9 => ?_⟩
        simp only at kp9 d9
        refine ⟨szs (waitPut h p k (waitPut h p k (ws.eraseIdx (takeAt ws)) l) r), by omega, some v, _, j + 1, rfl, rfl, by omega, ar, (((kp5.trans (Kp.of s6)).trans kp7).trans (Kp.of s8)).trans kp9, d9, fun j' o' ws' nx => ?_⟩
        have := tn (j' + 1) o' ws' (.node hat e nx)
        rw [Nat.add_assoc, Nat.add_comm 1 j] at this
        exact this
end
end Bx
set_option maxHeartbeats 400000
namespace Bx
open PySem L2 PySem.SeqAt
theorem putF_at (f : Str) (v : V) : ∀ (us : List (Str × V)), (putF f v us).lookup f = some v
  | [] => by
    show List.lookup f [(f, v)] = some v
    rw [List.lookup_cons]; simp
  | (g, y) :: us => by
    show (if g = f then (g, v) :: us else (g, y) :: putF f v us).lookup f = some v
    split
    · rename_i e
      subst e
      rw [List.lookup_cons]; simp
    · rename_i e
      rw [List.lookup_cons]
      have : (f == g) = false := by simp; exact fun q => e q.symm
      rw [this]
      exact putF_at f v us
theorem putF_ne {f g : Str} (v : V) (hne : f ≠ g) : ∀ (us : List (Str × V)), (putF f v us).lookup g = us.lookup g
  | [] => by
    show List.lookup g [(f, v)] = none
    rw [List.lookup_cons]
    have : (g == f) = false := by simp; exact fun q => hne q.symm
    rw [this]; rfl
  | (x, y) :: us => by
    show (if x = f then (x, v) :: us else (x, y) :: putF f v us).lookup g = _
    split
    · rename_i e
      subst e
      have : (g == x) = false := by simp; exact fun q => hne q.symm
      rw [List.lookup_cons, List.lookup_cons, this]
    · rw [List.lookup_cons, List.lookup_cons, putF_ne v hne us]
theorem putF_len (f : Str) (v : V) : ∀ (us : List (Str × V)), (putF f v us).length ≤ us.length + 1
  | [] => Nat.le_refl 1
  | (x, y) :: us => by
    show (if x = f then (x, v) :: us else (x, y) :: putF f v us).length ≤ us.length + 1 + 1
    split
    · rw [List.length_cons]; omega
    · have := putF_len f v us
      rw [List.length_cons]; omega
structure DrawIn where
  h : House
  t : Option Tr
  b : Box
  k : Kind
structure DrawOk (a : DrawIn) : Prop where
  house : HouseOk a.h
  box : a.b.length ≤ 100
  names : ∀ t, a.t = some t → NamesOk a.h t
def DrawIn.args (a : DrawIn) : List Sl := [.d (encHouse a.h), .d (encOT a.t), .d (encBox a.b), .d (encKind a.k)]
def DrawIn.ws (a : DrawIn) : List Wt := match a.t with
  | none => []
  | some t => waitPut a.h (plainBox a.b) a.k [] t
def spDrawer (K : PySem.W.Frag) (Cl : Addr) : Sp := fun vs H Q _ => ∃ (me dx : Addr) (ws : List V) (a : DrawIn), vs = .ref me :: ws ∧ H me = some (.ins Cl dx []) ∧ DrawOk a ∧ HeldVs K (msk me H) ws a.args ∧
  ∀ W H', Same (msk me H) (msk me H') → H W = none → Dr K Cl a.h (plainBox a.b) a.k me W a.ws 0 H' → Q .non H'
abbrev N53i : List Str := ["self", "house", "tree", "box", "kind"]
theorem sc53i : FnScope N53i N53i (defScope (meth 53 0)) := ⟨rfl, rfl, rfl, by decide +kernel, rfl, by decide +kernel, by decide +kernel⟩
section
variable {C : Ctx} {f : Addr} {fd : FuncData} {Cl : Addr}
theorem ok_drawer_init (DC : DrawerC C Cl) (F : Fd C.K "__init__" "Drawer.__init__" (meth 53 0) f fd) (mk : Mk C.K Cl f) (h1 : Has C "worths_of" 1 Rworths_of) (h2 : Has C "plain_box" 3 RplainBox) (h3 : HasM C Cl "let_wait" 6 (spWait C.K Cl)) : HasI C Cl 7 (spDrawer C.K Cl) := by
  refine ⟨f, fd, N53i, mk, F.bindsN (fun _ _ _ _ _ _ us hl => match us, hl with | [_, _, _, _, _], _ => rfl), F.ok (N := N53i) sc53i (fun vs H Q E h => ?_) fun cdv A outer s H0 vs Q E hr h => ?_⟩
  · obtain ⟨me, dx, ws, a, rfl, _, _, h2, _⟩ := h
    rw [List.length_cons, h2.len]
    rfl
  · obtain ⟨me, dx, ws, ⟨h, ot, bx, k⟩, rfl, e0, ⟨hh, hb, hN⟩, hv, q⟩ := h
    simp only at hh hb hN
    let X := (cxOf CX0 C.P C.w C.K C.mg C.base N53i "Drawer.__init__" (defScope (meth 53 0)) f cdv A outer s H0 E).nox
    have at_ : At C X := ⟨rfl, rfl, rfl, rfl, rfl⟩
    have hr' : Room 6 X.A := hr
    have hc : Cls X.K Cl := DC.cls
    let ρ : Addr → Ev := fun me => [some (.v (.ref me)), some (.d (encHouse h)), some (.d (encOT ot)), some (.d (encBox bx)), some (.d (encKind k))]
    have self_ : ∀ {pos : Pos}, PE X (.Name "self" pos) (tVar 0) := fun {pos} => pe_var (X := X) (i := 0) rfl (Or.inl rfl)
    refine ⟨_, (pss_cons (ini_set (X := X) (ρ := ρ) (fs := []) (w := .inr (worthsD h)) hc DC.n1 (fun _ => rfl) (fun self => cl h1 h at_ hr' (a1 (nm 1)) hh) rfl (Or.inl rfl))
      (pss_cons (ini_set (X := X) (ρ := ρ) (fs := [("worths", .inr (worthsD h))]) (w := .inl (en (plainBox bx))) hc DC.n2 (fun _ => rfl) (fun self => cl h2 bx at_ hr' (a1 (nm 3)) hb) rfl (Or.inl rfl))
      (pss_cons (ini_set (X := X) (ρ := ρ) (fs := [("worths", .inr (worthsD h)), ("plain_pairs", .inl (en (plainBox bx)))]) (w := .inl (encKind k)) hc DC.n3 (fun _ => rfl) (fun self => nm 4) rfl (Or.inl rfl))
      (pss_cons (ps_fld (X := X) self_ (pe_lst pa_nil) rfl)
      (pss_cons (ps_fld (X := X) self_ pe_int rfl)
      (pss_one (ps_if (X := X) (cmpT (X := X) (ρ := ρ me) (nm 2) pd_non od_notN)
        (pss_one (ps_expr (X := X) (pe_hasM at_ h3 hc hr' self_ (pa_cons (nm (X := X) (ρ := ρ me) 2) pa_nil)))) pss_nil))))))).nox, dx, me, ⟨⟨[], e0, .nil⟩, ?_⟩, fun σ1 H1 s1 i1 => ⟨dx, me, i1, fun σ2 H2 s2 i2 => ⟨dx, me, i2, fun σ3 H3 s3 i3 => ?_⟩⟩⟩
    · have hh : HeldVs C.K (msk me H0) (.ref me :: ws) (.v (.ref me) :: DrawIn.args ⟨h, ot, bx, k⟩) := .cons rfl hv
      have hs := held_start (N := N53i) hh (by rw [List.length_cons, hv.len]; exact Nat.le_refl 5)
      have e : (V.ref me :: ws).length = 5 := by rw [List.length_cons, hv.len]; rfl
      rw [e] at hs
      exact hs
    obtain ⟨us, g1, g2⟩ := i3.ob
    have s03 := (s1.trans s2).trans s3
    obtain ⟨z, z1, z2⟩ := i3.held.at_ 0 _ rfl
    have z2 : z = .ref me := z2
    subst z2
    have hl : us.length = 3 := (heldFs_len g2).symm
    refine ⟨Nat.zero_le _, fun W hW => ⟨_, z1, me, Cl, dx, us, rfl, ?_, hc, DC.n4, by omega, ?_⟩⟩
    · rw [upd_ne (ne_of_none g1 hW)]; exact g1
    have nW : W ≠ me := fun e => by rw [e, g1] at hW; cases hW
    have pl := putF_len "waiting" (.ref W) us
    refine ⟨_, z1, me, Cl, dx, putF "waiting" (.ref W) us, rfl, upd_same, hc, DC.n5, by omega, ?_⟩
    have sm : Same (msk me H3) (upd (upd (upd H3 W (.lst [])) me (.ins Cl dx (putF "waiting" (.ref W) us))) me (.ins Cl dx (putF "looks_so_far" (.int 0) (putF "waiting" (.ref W) us)))) := fun b o e => by
      have nb : b ≠ me := fun z => by rw [z, msk_at] at e; cases e
      rw [msk_ne nb] at e
      rw [upd_ne nb, upd_ne nb, upd_ne (ne_of_none e hW)]
      exact e
    have w6 : upd (upd (upd H3 W (.lst [])) me (.ins Cl dx (putF "waiting" (.ref W) us))) me (.ins Cl dx (putF "looks_so_far" (.int 0) (putF "waiting" (.ref W) us))) W = some (.lst []) := by
      rw [upd_ne nW, upd_ne nW, upd_same]
    have m6 : upd (upd (upd H3 W (.lst [])) me (.ins Cl dx (putF "waiting" (.ref W) us))) me (.ins Cl dx (putF "looks_so_far" (.int 0) (putF "waiting" (.ref W) us))) me = some (.ins Cl dx (putF "looks_so_far" (.int 0) (putF "waiting" (.ref W) us))) := upd_same
    generalize upd (upd (upd H3 W (.lst [])) me (.ins Cl dx (putF "waiting" (.ref W) us))) me (.ins Cl dx (putF "looks_so_far" (.int 0) (putF "waiting" (.ref W) us))) = H6 at sm w6 m6
    have f1 : HeldFs C.K H6 [("worths", .inr (worthsD h)), ("plain_pairs", .inl (en (plainBox bx))), ("kind", .inl (encKind k)), ("waiting", .inl (.list []))] (putF "waiting" (.ref W) us) := heldFs_snoc (f := "waiting") (w := .inl (.list [])) (Dp.lst (SqL.of w6) .nil) (g2.mono sm) rfl
    have f2 : HeldFs C.K H6 (drF h (plainBox bx) k [] 0) (putF "looks_so_far" (.int 0) (putF "waiting" (.ref W) us)) := heldFs_snoc (f := "looks_so_far") (w := .inl (.int 0)) (Dp.int 0) f1 rfl
    have d6 : Dr C.K Cl h (plainBox bx) k me W [] 0 H6 := ⟨dx, _, [], m6, f2, by rw [putF_ne _ (by decide)]; exact putF_at _ _ _, w6, .nil⟩
    have h0W : H0 W = none := by
      cases e : H0 W with
      | none => rfl
      | some o =>
        have := s03 W o (by rw [msk_ne nW]; exact e)
        rw [msk_ne nW, hW] at this
        cases this
    have fin : ∀ {H'}, Kp me W H6 H' → Same (msk me H0) (msk me H') := fun {H'} kp b o e => by
      have nb : b ≠ me := fun z => by rw [z, msk_at] at e; cases e
      have e3 := s03 b o e
      have nw : b ≠ W := fun z => by rw [z, msk_ne nW, hW] at e3; cases e3
      rw [msk_ne nb]
      exact kp b o nb nw (sm b o e3)
    have hl6 : Held C.K H6 σ3 (ρ me) := i3.held.mono sm
    refine ⟨hl6, fun H7 s7 => ?_⟩
    have d7 := d6.mono s7
    cases ot with
    | none => exact iteFe rfl (q W H7 (fin (Kp.of s7)) h0W d7)
    | some t =>
      refine iteTe (by show (!isNone (encTr t)) = true; rw [isNone_tr]; rfl) ?_
      obtain ⟨dx7, us7, vs7, x1, x2, _⟩ := d7.ex
      refine ⟨_, z1, me, dx7, us7, rfl, x1, (heldFs_look x2 "let_wait").1 rfl, hl6.mono s7, fun u H8 s8 q8 => ?_⟩
      refine ⟨⟨h, plainBox bx, k, me, W, [], 0, t⟩, u, rfl, d7.mono s8, hN t rfl, Nat.zero_le _, q8, fun H9 kp9 d9 => ?_⟩
      exact q W H9 (fin (((Kp.of s7).trans (Kp.of s8)).trans kp9)) h0W d9
end
end Bx
set_option maxHeartbeats 400000
namespace Bx
open PySem L2 PySem.SeqAt
open LamX (Tabs TabB ExtN)
open PySem.W (alike alikeAll dataLt dataLe EachIs AllAlike Sortable)
theorem Dr.monoN {K : PySem.W.Frag} {Cl : Addr} {h : House} {p : Plain} {k : Kind} {me W : Addr} {ws : List Wt} {n : Int} {H H' : Hp} (d : Dr K Cl h p k me W ws n H) (s : SameN H H') : Dr K Cl h p k me W ws n H' := by
  obtain ⟨dx, us, vs, h1, h2, h3, h4, h5⟩ := d.ex
  exact ⟨dx, us, vs, s _ _ h1 nofun, Paired.mapP h2 fun _ _ ⟨a, b⟩ => ⟨a, heldFN s b⟩, h3, s _ _ h4 nofun, dpAllN s h5⟩
def waitKey (x : Wt) : PyData := en x.1
def sortW (ws : List Wt) : List Wt := ws.mergeSort (dataLe false waitKey)
def encNames (xs : List (List Int)) : PyData := .tuple (xs.map Enc.enc)
def spNames (K : PySem.W.Frag) (T : List (Addr × Str)) (Cl : Addr) : Sp := fun vs H Q _ => ∃ (a : NextIn), vs = [.ref a.me] ∧ Dr K Cl a.h a.p a.k a.me a.W a.ws a.n H ∧ Tabs T H ∧ a.ws.length ≤ 1000 ∧
  ∀ v H', SameN H H' → Tabs T H' → Dr K Cl a.h a.p a.k a.me a.W a.ws a.n H' → Dp K H' v (encNames ((sortW a.ws).map fun w => w.2.names)) → Q v H'
/-- data, and tables that may have grown -/
def tMN (K : PySem.W.Frag) (T : List (Addr × Str)) (ρ : Ev) (w : Sl) : TE := fun σ H Q => Held K H σ ρ ∧ Tabs T H ∧ ∀ v H', SameN H H' → Tabs T H' → HeldV K H' v w → Q v H'
theorem pd_lcM {X : Cx} {α : Type} {T : List (Addr × Str)} {elt tg iter : Expr} {scope : Scope} {own : List (Str × Nat)} {pos : Pos} {ρ : Ev} (hc : X.calm = true) (hN : X.N.Nodup) (xs : List α) (enc : α → PyData) (g : α → PyData) (he : PE X iter (tMN X.K T ρ (.d (.list (xs.map enc))))) (ok : BlkOk X.N X.env.scope scope own)
    (turn : ∀ x ∈ xs, ∃ (ρ' : Ev) (vs : List Nat), (∀ j ∈ vs, j ∈ own.map (·.2)) ∧ InBlk X scope (fun Y => PG Y tg (tG X.K (wipeE ρ (own.map (·.2))) (enc x) ρ' vs)) ∧ InBlk X scope (fun Y => PE Y elt (tD X.K ρ' (.d (g x)))))
    (hz : xs.length ≤ 100000) (hs : ∀ x, foldedSetIterable iter X.env x = pure x) : PE X (.ListComp elt [⟨tg, iter, [], 0⟩] scope pos) (tMN X.K T ρ (.d (.list (xs.map g)))) := by
  obtain ⟨G, T', E, hG, hT, hE, q⟩ := lc_read (X := X) (ifs := []) (own.map (·.2)) xs enc (fun _ => true) g (fun x hx => by
    obtain ⟨ρ', vs, h1, h2, h3⟩ := turn x hx
    exact ⟨ρ', vs, h1, h2, fun s H C cl fp => ptsI pts_nil fun σ H Q ⟨_, k⟩ => k H (Same.refl H), fun _ => h3⟩) hz
  rw [filter_yes] at q
  refine peI (pe_lc hc hN (pi_list he) ok hG hT hE hs) fun σ H Q ⟨hh, tb, k⟩ => ?_
  refine ⟨hh, tb, fun v H' s t' hv => ?_⟩
  obtain ⟨a, ys, rfl, h1, h2⟩ := dpLstR hv
  refine ⟨a, rfl, ⟨ys, h1⟩, ?_⟩
  have := q σ H' Q ⟨heldN s hh, fun v2 H2 s2 hv2 => k v2 H2 (s.trans (SameN.of s2)) (t'.ext s2) hv2⟩
  exact this.2 _ H' (Same.refl H') (its_list h1 h2)
theorem ctM {C : Ctx} {X : Cx} {T : List (Addr × Str)} {x : Str} {e : Expr} {p pos : Pos} {ρ : Ev} {Ty : String} {u w : Sl} (at_ : At C X) (hm : C.mg x = none) (hc : CallR X (.type Ty) (rDs X.K [u] w)) (ha : PE X e (tMN X.K T ρ u)) (hg : Gl X x := by rfl) (hv : bootBuiltins x = some (.type Ty) := by decide +kernel) (hn : x ≠ "__name__" := by decide) (hdb : (x == ("__debug__" : Str)) = false := by decide)
    (hs : starEach [e] X.env = (false, eval e X.env) :: starEach [] X.env := by rfl) (hpl : (backTo pos (starEach [] X.env)).any (·.1) = false := by rfl) : PE X (.Call (.Name x p) [e] [] pos) (tMN X.K T ρ w) :=
  peI (pe_callTy hc hg (at_.no hm) hv (pa_cons ha pa_nil hs) hn hdb hs hpl) fun σ H Q ⟨hh, tb, k⟩ => ⟨hh, tb, fun v H1 s1 t1 hv => ⟨.cons hv .nil, fun v' H2 s2 hv' => k v' H2 (s1.trans (SameN.of s2)) (t1.ext s2) hv'⟩⟩
/-- sorted(e, key=lambda ..): data, beside tables -/
theorem pd_sortLam {X : Cx} {T : List (Addr × Str)} {c P : Addr} {ρ : Ev} {α : Type} {e body : Expr} {params : Arguments} {scope : Scope} {pn : Str} {p lpos kp pos : Pos} {k : Nat} {enc key : α → PyData} {xs : List α} (hA : LamAt X T c P) (hr : Room k X.A) (hm : X.mg "sorted" = none) (he : PE X e (tD X.K ρ (.d (.list (xs.map enc))))) (hal : AllAlike (xs.map key)) (hk : Sortable (xs.map key)) (hu : ∀ x ∈ xs, X.A.units + 2 + (key x).depth < cLine) (hn : ∀ x ∈ xs, noL (enc x) = true)
    (hb : ∀ (q : Str) (cl : List (Str × Addr)) (pm cv ctv : Value) (v : Value), bindArgs (PySem.W.kla_fn "<lambda>" q params body scope cl pm cv ctv) ⟨[v], []⟩ = pure [(pn, v)]) (hc : ∀ y ∈ scope.names, y.2 ≠ .cell) (hl : scope.names.lookup pn = some .local)
    (hfree : ∀ y ∈ scope.names, y.2 = .free → ∃ c, X.env.cells.lookup y.1 = some c)
    (hbody : ∀ (pins : List (Addr × Obj)) (σ : L2.St) (H : Hp) (s : Shared), L2.Inv X pins σ H s → True → ∀ x ∈ xs, ∀ (A' : Around) (E : Value → Shared → Prop) (env : Env) (s0 : Shared) (m : Str → Option Value) (v : Value), env.scope = scope → env.cells = cloFrom X.env.cells scope.names [] → Grow s s0 → s0.heap.Ns env.locals m → m pn = some v → Reads s0.heap v (enc x) [] → KE X.prog X.w A' E env s0 body (key x))
    (hdef : defaultsOf params X.env = ([], []) := by rfl) (hco : scope.isCoroutine = false := by rfl) (hgen : scope.isGenerator = false := by rfl) (hks : scope.kind = .function := by rfl) (hg : Gl X "sorted" := by rfl)
    (hs1 : starEach [e] X.env = (false, eval e X.env) :: starEach [] X.env := by rfl) (he1 : backTo pos (starEach [e] X.env) = (false, eval e X.env) :: backTo pos (starEach [] X.env) := by rfl) (hpl : (backTo pos (starEach [e] X.env)).any (·.1) = false := by rfl)
    (hall : (backToKw pos (keywordEach [⟨some "key", .Lambda params body scope lpos, kp⟩] X.env)).all (·.1.isSome) = true := by rfl) (hnone : (backToKw pos (keywordEach [⟨some "key", .Lambda params body scope lpos, kp⟩] X.env)).any (·.1.isNone) = false := by rfl) (hkw : (backToKw pos (keywordEach [⟨some "key", .Lambda params body scope lpos, kp⟩] X.env)).filterMap (·.1) = [Str.ofString "key"] := by rfl) :
    PE X (.Call (.Name "sorted" p) [e] [⟨some "key", .Lambda params body scope lpos, kp⟩] pos) (tMN X.K T ρ (.d (.list ((xs.mergeSort (dataLe false key)).map enc)))) :=
  peI (pe_sortLam (T := T) (fun _ => True) hA hr hg hm he hal hk hu hn hb hco hgen hks hc hl hfree hdef hbody hs1 he1 hpl hall hnone hkw) fun σ H Q ⟨hh, tb, q⟩ => ⟨hh, fun v H1 s1 qv => by
    obtain ⟨a, ys, rfl, h1, h2⟩ := dpLstR qv
    refine ⟨a, ys, rfl, h1, h2, tb.ext s1, trivial, fun H2 p zs eN T2 hp hz => ?_⟩
    have eN' : SameN H1 H2 := fun b o e n => eN b o e n
    exact q (.ref p) _ (((SameN.of s1).trans eN').trans (SameN.of (sameNew hp))) (T2.ext (sameNew hp)) (Dp.lst (SqL.of upd_same) (dpAllMono (sameNew hp) hz))⟩
abbrev N53s : List Str := ["self", "key", "tree"]
theorem sc53s : FnScope N53s ["self"] (defScope (meth 53 4)) := ⟨rfl, rfl, rfl, by decide +kernel, rfl, by decide +kernel, by decide +kernel⟩
section
variable {C : Ctx} {f : Addr} {fd : FuncData} {Cl : Addr}
theorem ok_names_waiting {T : List (Addr × Str)} {c Pt : Addr} (B : Blt C) (DC : DrawerC C Cl) (F : FunC C.K "names_waiting" "Drawer.names_waiting" (meth 53 4) f fd c) (M : Meth C.K Cl "names_waiting" f) (TB : TabB C.base C.mg c Pt) (hmem : (Pt, ("Drawer.names_waiting.<locals>.<lambda>" : Str)) ∈ T) (hone : ∀ p ∈ T, p.1 = Pt → p.2 = "Drawer.names_waiting.<locals>.<lambda>") : HasM C Cl "names_waiting" 2 (spNames C.K T Cl) := by
  refine ⟨f, fd, ["self"], M, F.toFd.bindsN (fun _ _ _ _ _ _ us hl => match us, hl with | [_], _ => rfl), ?_⟩
  obtain ⟨oc, od, dV, kV, doc, pm, an, ct', osl, rfl, lk, hcd, _, _⟩ := F.ex
  refine fn_of (N := N53s) lk hcd sc53s (fun vs H Q E h => ?_) fun A outer s H0 vs Q E hr h => ?_
  · obtain ⟨a, rfl, _⟩ := h
    rfl
  · obtain ⟨⟨h, p, k, me, W, ws, n⟩, rfl, d0, tb, hz, q⟩ := h
    simp only at d0 hz q
    let X := (cxOf CX0 C.P C.w C.K C.mg C.base N53s "Drawer.names_waiting" (defScope (meth 53 4)) f (.ref c) A outer s H0 E).nox
    have at_ : At C X := ⟨rfl, rfl, rfl, rfl, rfl⟩
    have hr' : Room 1 X.A := hr
    have hu : X.A.units + 64 < cLine := hr'.units
    have hc : Cls X.K Cl := DC.cls
    have hA : LamAt X T c Pt := ⟨TB, rfl, hmem, hone⟩
    let ρ : Ev := [some (.ob Cl (drF h p k ws n)), none, none]
    have held0 : Held X.K H0 (L2.start N53s [.ref me]) ρ := held_start (K := C.K) (H := H0) (vs := [.ref me]) (ws := [.ob Cl (drF h p k ws n)]) (N := N53s) (Paired.cons d0.ob .nil) (Nat.le_of_ble_eq_true rfl)
    refine ⟨_, (pss_one (ps_ret (X := X) (ctM (T := T) (ρ := ρ) at_ B.tuple (cd_tup (ds := (sortW ws).map fun w => en w.2.names) rfl) (pd_lcM (X := X) (T := T) (ρ := ρ) rfl sc53s.nd (sortW ws) encWait (fun w => en w.2.names) (own := [("key", 1), ("tree", 2)])
      (pd_sortLam (X := X) (T := T) (ρ := ρ) (enc := encWait) (key := waitKey) (xs := ws) (pn := "one") hA hr' (at_.no B.sorted) (pd_fld (X := X) (ρ := ρ) (w := .inl (.list (ws.map encWait))) hc DC.n4 (nm 0)) (AllAlike.of fun _ _ => rfl) (Sortable.tuples fun _ => ⟨_, _, rfl⟩) ?du (fun x _ => noL_wait x) (fun _ _ _ _ _ _ => rfl) (by decide +kernel) rfl ?fr ?bd)
      (blkOk_by (N := N53s) (sc := defScope (meth 53 4)) (by decide +kernel)) (fun w _ => ⟨_, _, by decide, fun s H C cl fp => gd_tup (ds := [en w.1, encTr w.2]) rfl (gds_cons (gn 1 sc53s.nd) (gds_cons (gn 2 sc53s.nd) gds_nil)) rfl, fun s H C' c' fp => pd_ix (tr_row w.2) (atI_nat (trRow_at w.2).1) (nm 2) pd_int (fun _ _ => rfl)⟩) ?len (by intro _; rfl))))).nox, held0, tb, fun v H' s t hv => q v H' s t (d0.monoN s) ?fin⟩
    case du =>
      intro x _
      have : (waitKey x).depth = 1 := by show PyData.depth (.tuple [.int x.1.1, .int x.1.2]) = 1; simp [PyData.depth, PyData.depthAll]
      omega
    case fr =>
      intro y hy hf
      simp only [List.mem_cons, List.not_mem_nil, or_false] at hy
      subst hy
      cases hf
    case bd =>
      intro pins σ H' s' I _ x hx A' E' env s0 m' v hs hcl g hns hv hrd
      have hk : env.scope.kind = .function := by rw [hs]
      have hloc : env.kindOf "one" = some .local := by
        unfold Env.kindOf
        rw [hs]
        rfl
      exact ke_ix 0 (ke_local hk hloc hns hv hrd)
    case len =>
      unfold sortW
      rw [(List.mergeSort_perm ..).length_eq]
      omega
    case fin =>
      have hv : Dp C.K H' v (.tuple ((sortW ws).map fun w => en w.2.names)) := hv
      unfold encNames
      rw [List.map_map]
      exact hv
end
end Bx
set_option maxHeartbeats 400000
namespace Bx
open PySem L2 PySem.SeqAt
open LamX (Tabs TabB ExtN)
/-- at most m names drawn: the names, the looks, what still waits -/
inductive Drawn (h : House) (p : Plain) (k : Kind) : Nat → List Wt → List Int → Nat → List Wt → Prop
  | stop {ws : List Wt} : Drawn h p k 0 ws [] 0 ws
  | none {m j : Nat} {ws ws' : List Wt} : Next h p k ws j none ws' → Drawn h p k (m + 1) ws [] j ws'
  | more {m j j' : Nat} {ws ws1 ws' : List Wt} {n : Int} {ns : List Int} : Next h p k ws j (some n) ws1 → Drawn h p k m ws1 ns j' ws' → Drawn h p k (m + 1) ws (n :: ns) (j + j') ws'
theorem next_szs {h : House} {p : Plain} {k : Kind} {ws ws' : List Wt} {j : Nat} {o : Option Int} (x : Next h p k ws j o ws') : szs ws' ≤ szs ws := by
  induction x with
  | none => exact Nat.le_refl _
  | leaf e _ => have := szs_erase e; omega
  | @node ws ws' w ns b l r j o e e2 _ ih =>
    have h1 := szs_erase e
    rw [e2] at h1
    have h1 : szs (ws.eraseIdx (takeAt ws)) + (1 + l.size + r.size) = szs ws := h1
    have zl := szs_put h p k (ws.eraseIdx (takeAt ws)) l
    have zr := szs_put h p k (waitPut h p k (ws.eraseIdx (takeAt ws)) l) r
    omega
theorem next_ok {h : House} {p : Plain} {k : Kind} {ws ws' : List Wt} {j : Nat} {o : Option Int} (x : Next h p k ws j o ws') : AllOk h ws → AllOk h ws' := by
  induction x with
  | none => exact id
  | leaf e _ => exact fun a => a.erase _
  | @node ws ws' w ns b l r j o e e2 _ ih =>
    intro a
    have := a w (List.mem_of_getElem? e)
    rw [e2] at this
    exact ih (((a.erase _).put p k this.2.1).put p k this.2.2)
theorem next_small {h : House} {p : Plain} {k : Kind} {ws ws' : List Wt} {j : Nat} {n : Int} (x : Next h p k ws j (some n) ws') : szs ws' < szs ws := by
  generalize ho : some n = o at x
  induction x with
  | none => cases ho
  | leaf e e2 => have := szs_erase e; rw [e2] at this; have : _ + 1 = _ := this; omega
  | @node ws ws' w ns b l r j o e e2 _ ih =>
    have h1 := szs_erase e
    rw [e2] at h1
    have h1 : szs (ws.eraseIdx (takeAt ws)) + (1 + l.size + r.size) = szs ws := h1
    have zl := szs_put h p k (ws.eraseIdx (takeAt ws)) l
    have zr := szs_put h p k (waitPut h p k (ws.eraseIdx (takeAt ws)) l) r
    have := ih ho
    omega
/-- tables stay where all but a drawer and its list stays -/
theorem tabsKp {K : PySem.W.Frag} {T : List (Addr × Str)} {Cl : Addr} {h : House} {p : Plain} {k : Kind} {me W : Addr} {ws : List Wt} {n : Int} {H H' : Hp} (d : Dr K Cl h p k me W ws n H) (q : Kp me W H H') (t : Tabs T H) : Tabs T H' := fun x hx => by
  obtain ⟨dx, us, vs, e1, _, _, e4, _⟩ := d.ex
  obtain ⟨ps, h1, h2, h3⟩ := t x hx
  refine ⟨ps, q _ _ (fun z => by rw [z, e1] at h1; cases h1) (fun z => by rw [z, e4] at h1; cases h1) h1, h2, fun pos cv hc => ?_⟩
  obtain ⟨c, z1, z2⟩ := h3 pos cv hc
  refine ⟨c, z1, q _ _ (fun z => ?_) (fun z => ?_) z2⟩
  · rw [z, e1] at z2; have := Option.some.inj z2; unfold LamX.CodeO at this; cases this
  · rw [z, e4] at z2; have := Option.some.inj z2; unfold LamX.CodeO at this; cases this
def drawnD (a : DrawIn) (m : Nat) (x : PyData) : Prop := if m = 0 then x = .tuple [.tuple [], .int 0, .tuple []] else
  ∃ ns j ws', Drawn a.h (plainBox a.b) a.k m a.ws ns j ws' ∧ x = .tuple [en ns, .int (j : Int), encNames ((sortW ws').map fun w => w.2.names)]
abbrev N54 : List Str := ["house", "tree", "box", "kind", "k", "drawer", "names", "name"]
theorem sc54 : FnScope N54 ["house", "tree", "box", "kind", "k"] (defScope (top 54)) := ⟨rfl, rfl, rfl, by decide +kernel, rfl, by decide +kernel, by decide +kernel⟩
def spDrawn (K : PySem.W.Frag) (T : List (Addr × Str)) : Sp := fun vs H Q _ => ∃ (a : DrawIn) (m : Nat), HeldVs K H vs (a.args ++ [.d (.int (m : Int))]) ∧ Tabs T H ∧ DrawOk a ∧ m ≤ 1000 ∧ szs a.ws ≤ 1000 ∧ AllOk a.h a.ws ∧
  ∀ v H' x, drawnD a m x → SameN H H' → Tabs T H' → Dp K H' v x → Q v H'
theorem Dr.side {K : PySem.W.Frag} {Cl : Addr} {h : House} {p : Plain} {k : Kind} {me W L : Addr} {ws : List Wt} {n : Int} {H : Hp} {zs zs' : List V} (d : Dr K Cl h p k me W ws n H) (hL : H L = some (.lst zs)) (n1 : L ≠ me) (n2 : L ≠ W) : Dr K Cl h p k me W ws n (upd H L (.lst zs')) := by
  obtain ⟨dx, us, vs, h1, h2, h3, h4, h5⟩ := d.ex
  have st : ∀ {v : V} {d : PyData}, noL d = true → Dp K H v d → Dp K (upd H L (.lst zs')) v d := fun n q => dpStore hL (fun _ z => by cases z) (fun _ _ z => by cases z) n q
  have w5 := dpStoreAll (o' := .lst zs') hL (fun _ z => by cases z) (fun _ _ z => by cases z) (noLs_wait ws) h5
  have w4 : upd H L (.lst zs') W = some (.lst vs) := by rw [upd_ne n2.symm]; exact h4
  refine ⟨dx, us, vs, by rw [upd_ne n1.symm]; exact h1, ?_, h3, w4, w5⟩
  cases h2 with
  | cons a1 t =>
    cases t with
    | cons a2 t =>
      cases t with
      | cons a3 t =>
        cases t with
        | cons a4 t =>
          cases t with
          | cons a5 t =>
            cases t
            rename_i u1 u2 u3 u4 u5
            obtain ⟨f1, v1⟩ := u1
            obtain ⟨f2, v2⟩ := u2
            obtain ⟨f3, v3⟩ := u3
            obtain ⟨f4, v4⟩ := u4
            obtain ⟨f5, v5⟩ := u5
            obtain ⟨e1, q1⟩ := a1
            obtain ⟨e2, q2⟩ := a2
            obtain ⟨e3, q3⟩ := a3
            obtain ⟨e4, q4⟩ := a4
            obtain ⟨e5, q5⟩ := a5
            simp only at e1 e2 e3 e4 e5
            subst e1 e2 e3 e4 e5
            have e6 : v4 = .ref W := by
              have : (some v4 : Option V) = some (.ref W) := h3
              exact Option.some.inj this
            subst e6
            refine .cons ⟨rfl, ?_⟩ (.cons ⟨rfl, st (Enc.nol p) q2⟩ (.cons ⟨rfl, st (noL_kind k) q3⟩ (.cons ⟨rfl, Dp.lst (SqL.of w4) w5⟩ (.cons ⟨rfl, ?_⟩ .nil))))
            · obtain ⟨a, wsd, z1, z2, z3⟩ := q1
              refine ⟨a, wsd, z1, by rw [upd_ne (fun q => by rw [q, hL] at z2; cases z2)]; exact z2, ?_⟩
              have zz : ∀ {kvs : List (Int × PyData)} {ws : List (Key × V)}, (∀ q ∈ kvs, noL q.2 = true) → DcP K H kvs ws → DcP K (upd H L (.lst zs')) kvs ws := by
                intro kvs ws hq hd
                induction hd with
                | nil => exact .nil
                | cons a t ih => exact .cons ⟨a.1, st (hq _ (List.mem_cons_self ..)) a.2⟩ (ih fun q hm => hq q (List.mem_cons_of_mem _ hm))
              refine zz (fun q hq => ?_) z3
              unfold worthsD at hq
              obtain ⟨t, _, rfl⟩ := List.mem_map.mp hq
              rfl
            · have := dpInt q5
              subst this
              exact Dp.int _
theorem intsDpV {K : PySem.W.Frag} {H : Hp} : ∀ (ns : List Int), DpAll K H (ns.map V.int) (ns.map Enc.enc)
  | [] => .nil
  | n :: ns => .cons (Dp.int n) (intsDpV ns)
section
variable {C : Ctx} {f : Addr} {fd : FuncData} {Cl : Addr}
theorem ok_drawn {T : List (Addr × Str)} (B : Blt C) (DC : DrawerC C Cl) (F : Fd C.K "drawn" "drawn" (top 54) f fd) (m0 : C.mg "drawn" = some (.ref f)) (h0 : HasI C Cl 7 (spDrawer C.K Cl)) (h1 : HasM C Cl "next_name" 7 (spNext C.K Cl)) (h2 : HasM C Cl "names_waiting" 2 (spNames C.K T Cl)) : HasS C "drawn" 9 (spDrawn C.K T) := by
  refine ⟨f, fd, ["house", "tree", "box", "kind", "k"], m0, F.kp, F.bindsN (fun _ _ _ _ _ _ us hl => match us, hl with | [_, _, _, _, _], _ => rfl), F.ok (N := N54) sc54 (fun vs H Q E h => ?_) fun cdv A outer s H0 vs Q E hr h => ?_⟩
  · obtain ⟨a, m, h, _⟩ := h
    exact h.len
  · obtain ⟨a, m, hv, tb, hok, hm, hz, ha, q⟩ := h
    let X := (cxOf CX0 C.P C.w C.K C.mg C.base N54 "drawn" (defScope (top 54)) f cdv A outer s H0 E).nox
    have at_ : At C X := ⟨rfl, rfl, rfl, rfl, rfl⟩
    have hr' : Room 8 X.A := hr
    have hc : Cls X.K Cl := DC.cls
    obtain ⟨fi, fdi, psi, Mi, bi, Fi⟩ := h0.ex
    let ρ0 : Ev := [some (.d (encHouse a.h)), some (.d (encOT a.t)), some (.d (encBox a.b)), some (.d (encKind a.k)), some (.d (.int (m : Int))), none, none, none]
    let ρ1 : List Wt × Int × List Int → Ev := fun x => [none, none, none, none, some (.d (.int (m : Int))), some (.ob Cl (drF a.h (plainBox a.b) a.k x.1 x.2.1)), some (.d (.list (x.2.2.map Enc.enc))), none]
    have drawer_ : ∀ {pos : Pos}, PE X (.Name "drawer" pos) (tVar 5) := fun {pos} => pe_var (X := X) (i := 5) rfl (Or.inl rfl)
    have names_ : ∀ {pos : Pos}, PE X (.Name "names" pos) (tVar 6) := fun {pos} => pe_var (X := X) (i := 6) rfl (Or.inl rfl)
    have name_ : ∀ {pos : Pos}, PE X (.Name "name" pos) (tVar 7) := fun {pos} => pe_var (X := X) (i := 7) rfl (Or.inl rfl)
    refine ⟨_, (pss_cons (ps_if (X := X) (cmpT (X := X) (ρ := ρ0) (nm 4) pd_int (od_eqI ?u1)) (rt (X := X) (ρ := ρ0) (w := .d (.tuple [.tuple [], .int 0, .tuple []])) (t3 (pd_tup (ds := []) pds_nil (Nat.zero_le _)) pd_int (pd_tup (ds := []) pds_nil (Nat.zero_le _)))) pss_nil)
      (pss_cons (ps_set (X := X) (i := 5) sc54.nd rfl (Or.inl rfl) (pe_make (X := X) (x := "Drawer") Mi Fi hr' rfl DC.mg bi .nil pass0 (a4 (X := X) (ρ := ρ0) (nm 0) (nm 1) (nm 2) (nm 3))))
      (pss_cons (ps_set (X := X) (i := 6) sc54.nd rfl (Or.inl rfl) (pe_lst pa_nil))
      (pss_cons (ps_while (X := X) PassesOwn.never (pt_ex fun x : List Wt × Int × List Int => cmpT (X := X) (ρ := ρ1 x) (cb at_ B.len (cd_len (ds := x.2.2.map Enc.enc) rfl) (a1 (nm 6))) (nm 4) od_lt)
        (pss_cons (ps_set (X := X) (i := 7) sc54.nd rfl (Or.inl rfl) (pe_hasM0 at_ h1 hc (hr'.mono (by decide)) drawer_))
        (pss_cons (ps_if (X := X) (pt_ex fun o : Option Int => cmpT (X := X) (ρ := [none, none, none, none, none, none, none, some (.d (encOI o))]) (nm 7) pd_non od_isN) (pss_one ps_break) pss_nil)
        (pss_one (ps_expr (X := X) (pe_bm PySem.F.plainAttrs_list PySem.F.slot_list_append PySem.F.type_list_append mt_append names_ (pa_cons name_ pa_nil)))))))
      (pss_one (ps_ret (X := X) (pe_tup (pa_cons (pe_ex fun x : List Wt × Int × List Int => ct (ρ := ρ1 x) at_ B.tuple (cd_tup (ds := x.2.2.map Enc.enc) rfl) (a1 (nm 6))) (pa_cons (pe_fld drawer_ rfl) (pa_cons (pe_hasM0 at_ h2 hc (hr'.mono (by decide)) drawer_) pa_nil)))))))))).nox, ?_⟩
    case u1 =>
      have := hr'.units
      show X.A.units + 64 < cLine
      omega
    obtain ⟨x1, x2, x3, x4, x5, rfl⟩ : ∃ x1 x2 x3 x4 x5, vs = [x1, x2, x3, x4, x5] := by
      have hl := hv.len
      match vs, hl with | [x1, x2, x3, x4, x5], _ => exact ⟨_, _, _, _, _, rfl⟩
    have held0 : Held X.K H0 (L2.start N54 [x1, x2, x3, x4, x5]) ρ0 := held_start (K := C.K) (H := H0) (vs := [x1, x2, x3, x4, x5]) (ws := a.args ++ [Sl.d (PyData.int (m : Int))]) (N := N54) hv (Nat.le_of_ble_eq_true rfl)
    obtain ⟨y5, e5, q5⟩ := held0.at_ 4 _ rfl
    have e5 : x5 = y5 := Option.some.inj (Option.some.inj e5)
    subst e5
    have q5 := dpInt q5
    subst q5
    refine ⟨held0, fun H1 s1 => ?_⟩
    by_cases e : m = 0
    · subst e
      exact iteTe rfl ⟨held0.mono s1, fun v H2 s2 hv2 => q v H2 _ (by unfold drawnD; rw [if_pos rfl]) (SameN.of (s1.trans s2)) (tb.ext (s1.trans s2)) hv2⟩
    refine iteFe (decide_eq_false (by omega)) ?_
    refine ⟨held0.mono s1, fun ws H2 s2 hws me dx f1 f2 hne => ?_⟩
    have f1' : upd H2 dx (.own me) me = none := by rw [upd_ne hne.symm]; exact f1
    refine ⟨me, dx, ws, a, by rw [List.append_nil], upd_same, hok, by rw [msk_upd f1']; exact HeldVs.mono (sameNew f2) hws, fun W H3 s3 hW d => ⟨rfl, ?_⟩⟩
    rw [msk_upd f1'] at s3
    have s02 := s1.trans s2
    have s03 : Same H0 H3 := s02.trans ((sameNew f2).trans (s3.trans msk_le))
    have nme : H0 me = none := by
      cases z : H0 me with
      | none => rfl
      | some o => have := s02 _ _ z; rw [f1] at this; cases this
    have nW : H0 W = none := by
      cases z : H0 W with
      | none => rfl
      | some o =>
        have z2 := s02 _ _ z
        have w1 : W ≠ me := fun y => by rw [y, nme] at z; cases z
        have w2 : W ≠ dx := fun y => by rw [y, f2] at z2; cases z2
        rw [upd_ne w1, upd_ne w2, z2] at hW
        cases hW
    refine ⟨Nat.zero_le _, fun Ls hLs => ?_⟩
    have nLs : H0 Ls = none := by
      cases z : H0 Ls with
      | none => rfl
      | some o => have := s03 _ _ z; rw [hLs] at this; cases this
    have d4 := d.mono (sameNew (o := .lst []) hLs)
    have s04 := s03.trans (sameNew (p := Ls) (o := .lst []) hLs)
    have l4 : upd H3 Ls (.lst []) Ls = some (.lst []) := upd_same
    have nLm : Ls ≠ me := fun z => by obtain ⟨_, _, _, e1, _⟩ := d.ex; rw [z, e1] at hLs; cases hLs
    have nLW : Ls ≠ W := fun z => by obtain ⟨_, _, _, _, _, _, e4, _⟩ := d.ex; rw [z, e4] at hLs; cases hLs
    generalize upd H3 Ls (.lst []) = H4 at d4 s04 l4
    have held1 : ∀ {H : Hp} {o : Option V} {ws : List Wt} {j : Nat} {ns : List Int}, Dr C.K Cl a.h (plainBox a.b) a.k me W ws j H → H Ls = some (.lst (ns.map V.int)) → Held C.K H [some x1, some x2, some x3, some x4, some (V.int m), some (V.ref me), some (V.ref Ls), o] (ρ1 (ws, (j : Int), ns)) := fun {H o ws j ns} d hl => ⟨rfl, fun i w e => by
      match i with
      | 0 => cases e
      | 1 => cases e
      | 2 => cases e
      | 3 => cases e
      | 4 => cases e; exact ⟨_, rfl, Dp.int _⟩
      | 5 => cases e; exact ⟨_, rfl, d.ob⟩
      | 6 => cases e; exact ⟨_, rfl, Dp.lst (SqL.of hl) (intsDpV ns)⟩
      | 7 => cases e
      | i + 8 => cases e⟩
    refine ⟨fun t σ H => ∃ (o : Option V) (ws : List Wt) (j : Nat) (ns : List Int), σ = [some x1, some x2, some x3, some x4, some (V.int m), some (V.ref me), some (V.ref Ls), o] ∧ t = szs ws ∧ szs ws ≤ 1000 ∧ AllOk a.h ws ∧ Same H0 H ∧ Dr C.K Cl a.h (plainBox a.b) a.k me W ws j H ∧ H Ls = some (.lst (ns.map V.int)) ∧ ns.length ≤ m ∧ ∀ ns' j' ws', Drawn a.h (plainBox a.b) a.k (m - ns.length) ws ns' j' ws' → Drawn a.h (plainBox a.b) a.k m a.ws (ns ++ ns') (j + j') ws', ⟨szs a.ws, none, a.ws, 0, [], rfl, rfl, hz, ha, s04, d4, l4, Nat.zero_le _, fun ns' j' ws' x => by rw [Nat.zero_add]; exact x⟩, ?_⟩
    have fin : ∀ {H : Hp} {o : Option V} {ws : List Wt} {j : Nat} {ns : List Int}, szs ws ≤ 1000 → Same H0 H → Dr C.K Cl a.h (plainBox a.b) a.k me W ws j H → H Ls = some (.lst (ns.map V.int)) → Drawn a.h (plainBox a.b) a.k m a.ws ns j ws → (tRet (tTup (tCons (fun σ H Q => ∃ x : List Wt × Int × List Int, tD X.K (ρ1 x) (.d (.tuple (x.2.2.map Enc.enc))) σ H Q) (tCons (tFld X.K (tVar 5) "looks_so_far") (tCons (tMeth Cl "names_waiting" (spNames C.K T Cl) [] E0 (tVar 5) tNil) tNil))))) { nx := fun _ H' => Q V.non H', rt := Q } [some x1, some x2, some x3, some x4, some (V.int m), some (V.ref me), some (V.ref Ls), o] H := by
      intro H o ws j ns hz2 sH dH lH dr
      refine ⟨(ws, (j : Int), ns), held1 dH lH, fun v1 H5 s5 q1 => ?_⟩
      have d5 := dH.mono s5
      obtain ⟨dx5, us5, vs5, e1, e2, _⟩ := d5.ex
      obtain ⟨y, ly, hy⟩ := (heldFs_look e2 "looks_so_far").2 (.inl (.int (j : Int))) rfl
      have hy := dpInt hy
      subst hy
      refine ⟨.ref me, rfl, me, Cl, dx5, us5, .int j, rfl, e1, hc, DC.n5, ly, ?_⟩
      refine ⟨.ref me, rfl, me, dx5, us5, rfl, e1, (heldFs_look e2 "names_waiting").1 rfl, ?_⟩
      have s05 := sH.trans s5
      refine ⟨⟨a.h, plainBox a.b, a.k, me, W, ws, j⟩, rfl, d5, tb.ext s05, Nat.le_trans (len_szs ws) hz2, fun v3 H6 s6 t6 d6 q6 => ?_⟩
      refine ⟨(by decide : 3 ≤ sizeLine), fun p hp => ?_⟩
      refine q (.ref p) _ (.tuple [en ns, .int (j : Int), encNames ((sortW ws).map fun w => w.2.names)]) ?_ (((SameN.of s05).trans s6).trans (SameN.of (sameNew hp))) (t6.ext (sameNew hp)) (Dp.tup (SqT.of upd_same) (.cons (dpMono (sameNew hp) (dpN s6 q1)) (.cons (Dp.int _) (.cons (dpMono (sameNew hp) q6) .nil))))
      unfold drawnD
      rw [if_neg e]
      exact ⟨ns, j, ws, dr, rfl⟩
    rintro _ _ H5 ⟨o, ws, j, ns, rfl, rfl, hz2, ha2, sH, dH, lH, hl, dr⟩
    refine ⟨(ws, (j : Int), ns), held1 dH lH, fun H6 s6 => ?_⟩
    have d6 := dH.mono s6
    have l6 := s6 _ _ lH
    have s06 := sH.trans s6
    by_cases hlt : ns.length < m
    · refine iteTe (decide_eq_true (by show ((ns.map (Enc.enc (α := Int))).length : Int) < m; rw [List.length_map]; omega)) ?_
      refine ⟨_, fun _ _ h => h, ?_⟩
      obtain ⟨dx6, us6, vs6, e1, e2, _⟩ := d6.ex
      refine ⟨.ref me, rfl, me, dx6, us6, rfl, e1, (heldFs_look e2 "next_name").1 rfl, ?_⟩
      refine ⟨⟨a.h, plainBox a.b, a.k, me, W, ws, j⟩, rfl, d6, hz2, ha2, fun j' o' ws' v H7 nx kp d7 hv => ?_⟩
      simp only at nx kp d7 hv
      have hjj : (j : Int) + (j' : Int) = ((j + j' : Nat) : Int) := by omega
      rw [hjj] at d7
      have l7 := kp Ls _ nLm nLW l6
      have s07 : Same H0 H7 := fun b o e => kp b o (fun z => by rw [z, nme] at e; cases e) (fun z => by rw [z, nW] at e; cases e) (s06 _ _ e)
      have z7 := next_szs nx
      obtain ⟨t, ht⟩ : ∃ t, m - ns.length = t + 1 := ⟨m - ns.length - 1, by omega⟩
      refine ⟨o', ⟨rfl, fun i w e => ?_⟩, fun H8 s8 => ?_⟩
      · match i with
        | 0 => cases e
        | 1 => cases e
        | 2 => cases e
        | 3 => cases e
        | 4 => cases e
        | 5 => cases e
        | 6 => cases e
        | 7 => cases e; exact ⟨_, rfl, hv⟩
        | i + 8 => cases e
      cases o' with
      | none =>
        refine iteTe rfl ?_
        have hd := dr [] j' ws' (by rw [ht]; exact .none nx)
        rw [List.append_nil] at hd
        exact fin (by omega) (s07.trans s8) (d7.mono s8) (s8 _ _ l7) hd
      | some n =>
        refine iteFe rfl ?_
        have hv := dpInt hv
        subst hv
        have l8 := s8 _ _ l7
        have s08 := s07.trans s8
        refine ⟨.ref Ls, rfl, .inl ⟨rfl, _, SqL.of l8⟩, .int n, rfl, Ls, ns.map V.int, .int n, rfl, rfl, l8, by rw [sizeLine_eq, List.length_map]; omega, ?_⟩
        refine ⟨szs ws', next_small nx, some (.int n), ws', j + j', ns ++ [n], rfl, rfl, by omega, next_ok nx ha2, fun b o e => ?_, (d7.mono s8).side l8 nLm nLW, by rw [upd_same, List.map_append]; rfl, by rw [List.length_append, List.length_singleton]; omega, fun ns' j2 ws2 x => ?_⟩
        · rw [upd_ne (fun z => by rw [z, nLs] at e; cases e)]
          exact s08 _ _ e
        · have h2 := dr (n :: ns') (j' + j2) ws2 (by
            rw [ht]
            refine .more nx ?_
            have : t = m - (ns ++ [n]).length := by rw [List.length_append, List.length_singleton]; omega
            rw [this]
            exact x)
          rw [List.append_assoc, Nat.add_assoc]
          exact h2
    · refine iteFe (decide_eq_false (by show ¬ ((ns.map (Enc.enc (α := Int))).length : Int) < m; rw [List.length_map]; omega)) ?_
      have hm0 : m - ns.length = 0 := by omega
      have hd := dr [] 0 ws (by rw [hm0]; exact .stop)
      rw [List.append_nil] at hd
      exact fin hz2 s06 d6 l6 hd
end
end Bx
set_option maxHeartbeats 400000
namespace Bx
open PySem L2 PySem.SeqAt
open LamX (Tabs TabB ExtN)
theorem pss_ex {α : Type} {X : Cx} {sts : List Stmt} {t : α → TS} (h : ∀ a, PSs X sts (t a)) : PSs X sts (fun D σ H => ∃ a, t a D σ H) := ⟨fun pins s σ H D I ⟨a, q⟩ => (h a).run pins s σ H D I q⟩
theorem pg_ex {α : Type} {X : Cx} {tg : Expr} {t : α → TG} (h : ∀ a, PG X tg (t a)) : PG X tg (fun v σ H Q => ∃ a, t a v σ H Q) := ⟨fun pins s σ H v u Q I r ⟨a, q⟩ => (h a).run pins s σ H v u Q I r q⟩
abbrev N63 : List Str := ["house", "tree", "box", "kind", "k", "names", "looks", "waiting", "waits"]
theorem sc63 : FnScope N63 ["house", "tree", "box", "kind", "k"] (defScope (top 63)) := ⟨rfl, rfl, rfl, by decide +kernel, rfl, by decide +kernel, by decide +kernel⟩
/-- what drawn tells: names, looks, the waiting trees' names -/
def DrawnIs (a : DrawIn) (m : Nat) (x : List Int × Nat × List (List Int)) : Prop := if m = 0 then x = ([], 0, []) else ∃ ws', Drawn a.h (plainBox a.b) a.k m a.ws x.1 x.2.1 ws' ∧ x.2.2 = (sortW ws').map fun w => w.2.names
theorem drawnIs {a : DrawIn} {m : Nat} {d : PyData} (h : drawnD a m d) : ∃ x : List Int × Nat × List (List Int), DrawnIs a m x ∧ d = .tuple [en x.1, .int (x.2.1 : Int), encNames x.2.2] := by
  unfold drawnD at h
  by_cases e : m = 0
  · rw [if_pos e] at h
    exact ⟨([], 0, []), by unfold DrawnIs; rw [if_pos e], h⟩
  · rw [if_neg e] at h
    obtain ⟨ns, j, ws', h1, h2⟩ := h
    exact ⟨(ns, j, _), by unfold DrawnIs; rw [if_neg e]; exact ⟨ws', h1, rfl⟩, h2⟩
def waitsOf (m : Nat) (t : Tr) (ws : List (List Int)) : List (List Int) := if m = 0 then [t.names] else ws
def paperD (a : DrawIn) (m : Nat) (d : PyData) : Prop := match a.t with
  | none => d = .tuple [.tuple [], .tuple []]
  | some t => ∃ x, DrawnIs a m x ∧ d = .tuple [en x.1, .tuple ((partsDrawn (plainBox a.b) (waitsOf m t x.2.2) t []).map encPart)]
end Bx
set_option maxHeartbeats 400000
namespace Bx
open PySem L2 PySem.SeqAt
open LamX (Tabs TabB ExtN)
structure PaperOk (a : DrawIn) (m : Nat) : Prop where
  ok : DrawOk a
  m : m ≤ 1000
  sz : szs a.ws ≤ 1000
  all : AllOk a.h a.ws
  plain : (plainBox a.b).length ≤ 100
  tree : ∀ t, a.t = some t → t.height ≤ 36 ∧ t.all (DownD (plainBox a.b)) ∧ t.leaves ≤ 1000
def spPaper (K : PySem.W.Frag) (T : List (Addr × Str)) : Sp := fun vs H Q _ => ∃ (a : DrawIn) (m : Nat), HeldVs K H vs (a.args ++ [Sl.d (PyData.int (m : Int))]) ∧ Tabs T H ∧ PaperOk a m ∧
  ∀ v H' x, paperD a m x → SameN H H' → Tabs T H' → Dp K H' v x → Q v H'
section
variable {C : Ctx} {f : Addr} {fd : FuncData} {Cl : Addr}
theorem ok_drawn_paper {T : List (Addr × Str)} (B : Blt C) (F : Fd C.K "drawn_paper" "drawn_paper" (top 63) f fd) (m0 : C.mg "drawn_paper" = some (.ref f)) (h1 : HasS C "drawn" 9 (spDrawn C.K T)) (h2 : Has C "plain_box" 3 RplainBox) (h3 : Has C "parts_drawn" 41 (Rparts_drawn 36)) : HasS C "drawn_paper" 42 (spPaper C.K T) := by
  refine ⟨f, fd, ["house", "tree", "box", "kind", "k"], m0, F.kp, F.bindsN (fun _ _ _ _ _ _ us hl => match us, hl with | [_, _, _, _, _], _ => rfl), F.ok (N := N63) sc63 (fun vs H Q E h => ?_) fun cdv A outer s H0 vs Q E hr h => ?_⟩
  · obtain ⟨a, m, h, _⟩ := h
    exact h.len
  · obtain ⟨⟨h, ot, bx, k⟩, m, hv, tb, hp, q⟩ := h
    obtain ⟨ok, hm, hz, ha, hpl, ht⟩ := hp
    simp only at hpl ht
    let X := (cxOf CX0 C.P C.w C.K C.mg C.base N63 "drawn_paper" (defScope (top 63)) f cdv A outer s H0 E).nox
    have at_ : At C X := ⟨rfl, rfl, rfl, rfl, rfl⟩
    have hr' : Room 41 X.A := hr
    have hu : X.A.units + 64 < cLine := hr'.units
    let ρ0 : Ev := [some (.d (encHouse h)), some (.d (encOT ot)), some (.d (encBox bx)), some (.d (encKind k)), some (.d (.int (m : Int))), none, none, none, none]
    have held0 : Held X.K H0 (L2.start N63 vs) ρ0 := by
      have := held_start (K := C.K) (H := H0) (vs := vs) (ws := DrawIn.args ⟨h, ot, bx, k⟩ ++ [Sl.d (PyData.int (m : Int))]) (N := N63) hv (by rw [hv.len]; exact Nat.le_of_ble_eq_true rfl)
      have e : N63.length - vs.length = 4 := by rw [hv.len]; rfl
      rw [e] at this
      exact this
    cases ot with
    | none =>
      refine ⟨_, (ifR (X := X) (ρ := ρ0) (w := .d (.tuple [.tuple [], .tuple []])) (k := true) (cmpT (X := X) (ρ := ρ0) (nm 1) pd_non od_isN) (fun _ => rt (X := X) (ρ := ρ0) (t2 (pd_tup (ds := []) pds_nil (Nat.zero_le _)) (pd_tup (ds := []) pds_nil (Nat.zero_le _)))) (fun e => nomatch e)).nox, held0, fun v H' s' hv' => q v H' _ rfl (SameN.of s') (tb.ext s') hv'⟩
    | some t =>
      obtain ⟨ht1, ht2, ht3⟩ := ht t rfl
      have hN := ok.names t rfl
      let ρ1 : List Int × Nat × List (List Int) → Ev := fun x => [some (.d (encHouse h)), some (.d (encTr t)), some (.d (encBox bx)), some (.d (encKind k)), some (.d (.int (m : Int))), some (ed x.1), some (.d (.int (x.2.1 : Int))), some (ed x.2.2), none]
      refine ⟨_, (pss_cons (ps_if (X := X) (cmpT (X := X) (ρ := ρ0) (nm 1) pd_non od_isN) pss_w pss_nil)
        (pss_cons (ps_asg (X := X) (pe_has (x := "drawn") at_ h1 (hr'.mono (by decide)) rfl (pds_cons (X := X) (ρ := ρ0) (nm 0) (a4 (nm 1) (nm 2) (nm 3) (nm 4))) (by decide)) (pg_ex fun x : List Int × Nat × List (List Int) => gd_tup (X := X) (ρ := ρ0) (ρ' := ρ1 x) (ds := [en x.1, .int (x.2.1 : Int), encNames x.2.2]) rfl (gds_cons (gn 5 sc63.nd) (gds_cons (gn 6 sc63.nd) (gds_cons (gn 7 sc63.nd) gds_nil))) rfl))
        (pss_ex fun x : List Int × Nat × List (List Int) => seq (X := X) (ρ := ρ1 x) (st (X := X) (w := ed x.2.2) 8 (nm 7) sc63.nd) (seq (X := X) (ρ := (ρ1 x).set 8 (some (ed x.2.2))) (ρ' := (ρ1 x).set 8 (some (ed (waitsOf m t x.2.2)))) (pds_if (X := X) (x := decide (m = 0)) (ptEq (cmpT (X := X) (ρ := (ρ1 x).set 8 (some (ed x.2.2))) (nm 4) pd_int (od_eqI hu)) (by rw [decide_eq_decide]; omega)) (fun e => by
          have hw : waitsOf m t x.2.2 = [t.names] := by unfold waitsOf; rw [if_pos (of_decide_eq_true e)]
          rw [hw]
          exact pds_one (st (w := ed [t.names]) 8 (t1 (pd_ix (tr_row t) (atI_nat (trRow_at t).1) (nm 1) pd_int (fun _ _ => rfl))) sc63.nd)) (fun e => by
          have hw : waitsOf m t x.2.2 = x.2.2 := by unfold waitsOf; rw [if_neg (of_decide_eq_false e)]
          rw [hw]
          exact pds_nxt)) (rt (w := .d (.tuple [en x.1, .tuple ((partsDrawn (plainBox bx) (waitsOf m t x.2.2) t []).map encPart)])) (t2 (X := X) (ρ := (ρ1 x).set 8 (some (ed (waitsOf m t x.2.2)))) (nm 5) (ct at_ B.tuple (cd_tup rfl) (a1 (cl h3 (t, plainBox bx, waitsOf m t x.2.2, []) at_ hr' (a4 (nm 1) (cl h2 bx at_ hr' (a1 (nm 2)) ok.box) (nm 8) (pd_tup (ds := []) pds_nil (Nat.zero_le _))) ⟨ht1, ht2, hpl, ht3, Nat.le_of_ble_eq_true rfl⟩))))))))).nox, ?_⟩
      refine ⟨held0, fun H1 s1 => iteFe (isNone_tr t) ?_⟩
      refine ⟨held0.mono s1, fun us H2 s2 hus => ?_⟩
      refine ⟨⟨h, some t, bx, k⟩, m, by rw [List.append_nil]; exact hus, tb.ext (s1.trans s2), ok, hm, hz, ha, fun v H3 d hd sn t3 dv => ?_⟩
      obtain ⟨x, hx, rfl⟩ := drawnIs hd
      refine ⟨x, heldN sn (held0.mono (s1.trans s2)), dv, fun σ' hσ _ _ => ?_⟩
      exact ⟨x, hσ, fun v' H4 s4 hv4 => q v' H4 _ ⟨x, hx, rfl⟩ (((SameN.of (s1.trans s2)).trans sn).trans (SameN.of s4)) (t3.ext s4) hv4⟩
end
end Bx
set_option maxHeartbeats 400000
namespace Bx
open PySem L2 PySem.SeqAt
open LamX (Tabs TabB ExtN)
theorem noL_paper {a : DrawIn} {m : Nat} {d : PyData} (h : paperD a m d) : noL d = true := by
  unfold paperD at h
  cases e : a.t with
  | none => rw [e] at h; subst h; rfl
  | some t =>
    rw [e] at h
    obtain ⟨x, _, rfl⟩ := h
    show (noL (en x.1) && (noL (.tuple _) && true)) = true
    rw [Enc.nol, Bool.true_and, Bool.and_true]
    exact noLs_of fun d hd => by
      obtain ⟨p, _, rfl⟩ := List.mem_map.mp hd
      cases p with
      | inn q => show (noL (encPath q) && _) = true; rw [show noL (encPath q) = true from noLs_of fun d hd => by obtain ⟨s, _, rfl⟩ := List.mem_map.mp hd; rfl]; rfl
      | out q i s => show (noL (encPath q) && _) = true; rw [show noL (encPath q) = true from noLs_of fun d hd => by obtain ⟨s, _, rfl⟩ := List.mem_map.mp hd; rfl]; rfl
      | far q => show (noL (encPath q) && _) = true; rw [show noL (encPath q) = true from noLs_of fun d hd => by obtain ⟨s, _, rfl⟩ := List.mem_map.mp hd; rfl]; rfl
section
variable {C : Ctx} {X : Cx} {x : Str} {T : List (Addr × Str)}
theorem le_paper {k j : Nat} {L : Addr} {ρ : Ev} {e : Expr} {es : List Expr} {p pos : Pos} (at_ : At C X) (h : HasS C x k (spPaper C.K T)) (a : DrawIn) (m : Nat) (hr : Room j X.A) (ha : PA X (e :: es) (tDs X.K ρ (a.args ++ [Sl.d (PyData.int (m : Int))]))) (hp : PaperOk a m) (hj : k ≤ j := by decide) (hg : Gl X x := by rfl) (hdb : (x == ("__debug__" : Str)) = false := by decide)
    (he : starEach (e :: es) X.env = (false, eval e X.env) :: starEach es X.env := by rfl) (hpl : (backTo pos (starEach es X.env)).any (·.1) = false := by rfl) : PE X (.Call (.Name x p) (e :: es) [] pos) (tLE X.K T L ρ (fun w => ∃ d, paperD a m d ∧ w = .d d)) :=
  peI (pe_has at_ h (hr.mono hj) hg (pa_fr ha L) hdb he hpl) fun σ H Q ⟨hh, g, q⟩ => by
    obtain ⟨vs, hL, ok⟩ := g.left
    refine ⟨vs, hL, hh, fun us H1 s1 hv n => ?_⟩
    have g1 := g.back hL s1 n
    refine ⟨a, m, by rw [List.append_nil, ← at_.k]; exact hv.mono (sameNew n), g1.tabs, hp, fun v H' d hd sn t' hd' => ?_⟩
    have hL' : H' L = some (.lst vs) := sn _ _ upd_same nofun
    refine q v H' (.d d) ⟨d, hd, rfl⟩ (fun b o e n' => ?_) ⟨⟨vs, hL', ok⟩, t'⟩ ?_
    · have nb : b ≠ L := fun z => by rw [z, msk_at] at e; cases e
      rw [msk_ne nb]
      exact sn _ _ (by rw [upd_ne nb]; exact s1 _ _ e) n'
    · rw [at_.k]
      exact dpMsk (o := .lst vs) hL' (fun _ z => by cases z) (fun _ _ z => by cases z) (noL_paper hd) hd'
end
end Bx
set_option maxHeartbeats 400000
namespace Bx
open PySem L2 PySem.SeqAt
/-- the part told the other way about -/
def otherPart : Part → Part
  | .inn q => .out q 0 false
  | .out q _ _ => .inn q
  | .far q => .inn q
/-- what the mathematics shows about a cover -/
structure CoverRight (h : House) (ot : Option Tr) (b : Box) : Prop where
  ok : ∀ t, ot = some t → TrOk t ∧ BoxLen b t
  few : h.things.length ≤ 1000 ∧ b.length ≤ 100
  many : (coverD ot b).length ≤ 100
  look : ∀ ps : List Part, ps.length ≤ (coverD ot b).length + 1 → (∀ q ∈ ps, ∃ q' ∈ coverD ot b, q.path = q'.path) → ∀ t, ot = some t → ∃ d, LookOk d b t ps
  at_ : ∀ q ∈ coverD ot b, ∃ u, treeAt ot q.path = some u ∧ u.names.length ≤ 100
  taken : showsCover ot b (coverD ot b) = true
  ins : lawNames ot (coverD ot b) "in" = namesOf (thingsIn h b)
  outs : ∀ n ∈ lawNames ot (coverD ot b) "out", n ∉ namesOf (thingsIn h b)
  less : ∀ i, i < (coverD ot b).length → showsCover ot b ((coverD ot b).take i ++ (coverD ot b).drop (i + 1)) = false
  twice : ∀ i (hi : i < (coverD ot b).length), showsCover ot b (coverD ot b ++ [(coverD ot b)[i]]) = false
  other : ∀ i (hi : i < (coverD ot b).length), showsCover ot b ((coverD ot b).take i ++ [otherPart (coverD ot b)[i]] ++ (coverD ot b).drop (i + 1)) = false
end Bx
namespace Bx
open PySem
theorem hasWord_in (q : Part) : hasWord "in" q = match q with | .inn _ => true | _ => false := by
  cases q with
  | inn _ => show PyData.eqv (.str "in") (.str "in") = true; decide +kernel
  | out _ _ _ => show PyData.eqv (.str "out") (.str "in") = false; decide +kernel
  | far _ => show PyData.eqv (.str "far") (.str "in") = false; decide +kernel
theorem hasWord_out (q : Part) : hasWord "out" q = match q with | .out _ _ _ => true | _ => false := by
  cases q with
  | inn _ => show PyData.eqv (.str "in") (.str "out") = false; decide +kernel
  | out _ _ _ => show PyData.eqv (.str "out") (.str "out") = true; decide +kernel
  | far _ => show PyData.eqv (.str "far") (.str "out") = false; decide +kernel
theorem sortW_perm (ws : List Wt) : (sortW ws).Perm ws := List.mergeSort_perm ..
end Bx
namespace Bx
/-! ### plain boxes by places -/
/-- a number fits a pair -/
def inPP (q : PP) (n : Int) : Prop := (∀ l, q.1 = some l → l ≤ n) ∧ ∀ g, q.2 = some g → n ≤ g
theorem fitsSpan_iff (s : Span) (n : Int) : fitsSpan s n = true ↔ inPP (plainSpan s) n := by
  obtain ⟨lo, hi⟩ := s
  unfold fitsSpan inPP plainSpan
  rw [Bool.and_eq_true]
  refine and_congr ?_ ?_
  · rcases lo with _ | ⟨m, b⟩
    · simp [fitsLow]
    · cases b <;> simp [fitsLow, b2] <;> omega
  · rcases hi with _ | ⟨m, b⟩
    · simp [fitsHigh]
    · cases b <;> simp [fitsHigh, b2] <;> omega
theorem not_in_crossed {q : PP} (h : crossed q = true) (n : Int) : ¬ inPP q n := by
  obtain ⟨a, b⟩ := q
  rcases a with _ | a <;> rcases b with _ | b <;> simp [crossed] at h
  rintro ⟨h1, h2⟩
  have := h1 a rfl
  have := h2 b rfl
  omega
/-- all, some of the items of two rows, by index -/
theorem zip_all {α β : Type} {P : α → β → Prop} (da : α) (db : β) : ∀ {xs : List α} {ys : List β}, xs.length = ys.length → ((∀ x ∈ xs.zip ys, P x.1 x.2) ↔ ∀ i, i < xs.length → P (xs.getD i da) (ys.getD i db))
  | [], [], _ => by simp
  | x :: xs, y :: ys, h => by
    have ih := zip_all (P := P) da db (xs := xs) (ys := ys) (by simpa using h)
    rw [List.zip_cons_cons, List.forall_mem_cons, ih]
    constructor
    · rintro ⟨h1, h2⟩ i hi
      cases i with
      | zero => exact h1
      | succ i => exact h2 i (by simpa using hi)
    · intro q
      exact ⟨q 0 (by simp), fun i hi => q (i + 1) (by simpa using hi)⟩
  | [], _ :: _, h => by simp at h
  | _ :: _, [], h => by simp at h
theorem zip_ex {α β : Type} {P : α → β → Prop} (da : α) (db : β) {xs : List α} {ys : List β} (h : xs.length = ys.length) : (∃ x ∈ xs.zip ys, P x.1 x.2) ↔ ∃ i, i < xs.length ∧ P (xs.getD i da) (ys.getD i db) := by
  have q := zip_all (P := fun a b => ¬ P a b) da db h
  constructor
  · rintro ⟨x, hx, hp⟩
    apply Classical.byContradiction
    intro no
    exact q.mpr (fun i hi hP => no ⟨i, hi, hP⟩) x hx hp
  · rintro ⟨i, hi, hp⟩
    apply Classical.byContradiction
    intro no
    exact q.mp (fun x hx hP => no ⟨x, hx, hP⟩) i hi hp
def pAt (p : Plain) (i : Nat) : PP := p.getD i (none, none)
def bAt (b : Bnd) (i : Nat) : Int × Int := b.getD i (0, 0)
def nAt (p : Place) (i : Nat) : Int := p.getD i 0
/-- a place fits a plain box -/
def InP (p : Plain) (x : Place) : Prop := ∀ i, i < p.length → inPP (pAt p i) (nAt x i)
/-- plain: the empty one, or none crossed -/
def PlainOk (p : Plain) : Prop := (∀ i, i < p.length → pAt p i = eE) ∨ ∀ i, i < p.length → crossed (pAt p i) = false
theorem getD_mem {α : Type} {xs : List α} {i : Nat} (d : α) (h : i < xs.length) : xs.getD i d ∈ xs := by
  rw [List.getD_eq_getElem?_getD, List.getElem?_eq_getElem h]
  exact List.getElem_mem h
theorem getD_map' {α β : Type} (f : α → β) (xs : List α) {i : Nat} (d : α) (e : β) (h : i < xs.length) : (xs.map f).getD i e = f (xs.getD i d) := by
  rw [List.getD_eq_getElem?_getD, List.getD_eq_getElem?_getD, List.getElem?_map, List.getElem?_eq_getElem h]
  rfl
theorem mem_getD {α : Type} {xs : List α} {x : α} (d : α) (h : x ∈ xs) : ∃ i, i < xs.length ∧ xs.getD i d = x := by
  obtain ⟨i, hi, rfl⟩ := List.mem_iff_getElem.mp h
  exact ⟨i, hi, by rw [List.getD_eq_getElem?_getD, List.getElem?_eq_getElem hi]; rfl⟩
theorem plainOf_ok (q : Plain) : PlainOk (plainOf q) := by
  unfold plainOf
  by_cases h : q.any crossed = true
  · rw [if_pos h]
    left
    intro i hi
    rw [List.length_map] at hi
    exact getD_map' _ _ (none, none) _ hi
  · rw [if_neg h]
    right
    intro i hi
    rw [List.any_eq_true] at h
    apply Bool.eq_false_iff.mpr
    intro hc
    exact h ⟨_, getD_mem (none, none) hi, hc⟩
theorem plainBox_ok (b : Box) : PlainOk (plainBox b) := plainOf_ok _
theorem fits_iff {b : Box} {x : Place} (h : b.length = x.length) (h0 : 0 < b.length) : fitsB b x = true ↔ InP (plainBox b) x := by
  have e1 : fitsB b x = true ↔ ∀ i, i < b.length → inPP (plainSpan (b.getD i (none, none))) (nAt x i) := by
    unfold fitsB
    rw [List.all_eq_true]
    have := zip_all (P := fun s n => fitsSpan s n = true) (none, none) (0 : Int) h
    rw [this]
    exact forall_congr' fun i => forall_congr' fun _ => fitsSpan_iff _ _
  rw [e1]
  unfold InP
  rw [plain_len]
  unfold plainBox plainOf
  by_cases hc : (b.map plainSpan).any crossed = true
  · rw [if_pos hc]
    constructor
    · intro q
      obtain ⟨s, hs, hcr⟩ := List.any_eq_true.mp hc
      obtain ⟨s, hs', rfl⟩ := List.mem_map.mp hs
      obtain ⟨i, hi, rfl⟩ := mem_getD (none, none) hs'
      exact absurd (q i hi) (not_in_crossed hcr _)
    · intro q
      have := q 0 h0
      have e : pAt ((b.map plainSpan).map fun _ => eE) 0 = eE := by
        unfold pAt
        exact getD_map' _ _ (none, none) _ (by simpa using h0)
      rw [e] at this
      exact absurd this (not_in_crossed (by decide) _)
  · rw [if_neg hc]
    refine forall_congr' fun i => forall_congr' fun hi => ?_
    unfold pAt
    rw [getD_map' plainSpan b (none, none) (none, none) hi]
/-! ### bounds beside a plain box -/
def gtr (n : Int) : OI → Int
  | none => n
  | some c => max n c
def lsr (n : Int) : OI → Int
  | none => n
  | some c => min n c
theorem greaterOf_eq (n : Int) (o : OI) : greaterOf (some n) o = some (gtr n o) := by
  cases o with
  | none => rfl
  | some c =>
    show (if n < c then some c else some n) = some (max n c)
    split <;> (congr 1; omega)
theorem lesserOf_eq (n : Int) (o : OI) : lesserOf (some n) o = some (lsr n o) := by
  cases o with
  | none => rfl
  | some c =>
    show (if c < n then some c else some n) = some (min n c)
    split <;> (congr 1; omega)
def cm (x : Int × Int) (y : PP) : PP := (some (gtr x.1 y.1), some (lsr x.2 y.2))
theorem common_eq (b : Bnd) (p : Plain) : common (pl b) p = plainOf ((b.zip p).map fun q => cm q.1 q.2) := by
  unfold common
  congr 1
  unfold pl
  rw [List.zip_map_left, List.map_map]
  apply List.map_congr_left
  rintro ⟨⟨a, c⟩, y⟩ _
  show (greaterOf (some a) y.1, lesserOf (some c) y.2) = _
  rw [greaterOf_eq, lesserOf_eq]
  rfl
def Ord (b : Bnd) : Prop := ∀ i, i < b.length → (bAt b i).1 ≤ (bAt b i).2
/-- bounds that lie apart, by one number -/
def Apart (b : Bnd) (p : Plain) : Prop := ∃ i, i < b.length ∧ lsr (bAt b i).2 (pAt p i).2 < gtr (bAt b i).1 (pAt p i).1
/-- bounds that lie within -/
def Within (b : Bnd) (p : Plain) : Prop := ∀ i, i < b.length → gtr (bAt b i).1 (pAt p i).1 = (bAt b i).1 ∧ lsr (bAt b i).2 (pAt p i).2 = (bAt b i).2
theorem crossed_cm (x : Int × Int) (y : PP) : crossed (cm x y) = true ↔ lsr x.2 y.2 < gtr x.1 y.1 := by
  show decide _ = true ↔ _
  rw [decide_eq_true_eq]
theorem any_cm {b : Bnd} {p : Plain} (hl : b.length = p.length) : ((b.zip p).map fun q => cm q.1 q.2).any crossed = true ↔ Apart b p := by
  rw [List.any_map, List.any_eq_true]
  have := zip_ex (P := fun x y => crossed (cm x y) = true) (0, 0) (none, none) hl
  refine Iff.trans this ?_
  exact exists_congr fun i => and_congr_right fun _ => crossed_cm _ _
theorem zip_len {b : Bnd} {p : Plain} (hl : b.length = p.length) : (b.zip p).length = b.length := by
  rw [List.length_zip, ← hl, Nat.min_self]
theorem apart_iff {b : Bnd} {p : Plain} (hl : b.length = p.length) (h0 : 0 < b.length) : lieApart b p = true ↔ Apart b p := by
  unfold lieApart
  rw [decide_eq_true_eq, common_eq, ← any_cm hl]
  unfold plainOf
  by_cases h : ((b.zip p).map fun q => cm q.1 q.2).any crossed = true
  · rw [if_pos h]
    refine ⟨fun _ => h, fun _ => ?_⟩
    rw [List.map_const', List.map_const', List.length_map, zip_len hl, pl_len]
  · rw [if_neg h]
    refine ⟨fun e => ?_, fun q => absurd q h⟩
    rw [e, List.map_const', pl_len, List.any_eq_true]
    refine ⟨eE, ?_, by decide⟩
    rw [List.mem_replicate]
    exact ⟨by omega, rfl⟩
theorem within_iff {b : Bnd} {p : Plain} (hl : b.length = p.length) (h0 : 0 < b.length) (ho : Ord b) : liesWithin b p = true ↔ Within b p := by
  have step : ((b.zip p).map fun q => cm q.1 q.2) = pl b ↔ Within b p := by
    have h1 : ((b.zip p).map fun q => cm q.1 q.2) = pl b ↔ ∀ x ∈ b.zip p, cm x.1 x.2 = (some x.1.1, some x.1.2) := by
      have e : pl b = (b.zip p).map fun q => ((some q.1.1, some q.1.2) : PP) := by
        have : (b.zip p).map Prod.fst = b := List.map_fst_zip (by omega)
        unfold pl
        conv => lhs; rw [← this]
        rw [List.map_map]
        rfl
      rw [e]
      exact List.map_inj_left
    rw [h1]
    have := zip_all (P := fun x y => cm x y = (some x.1, some x.2)) (0, 0) (none, none) hl
    refine Iff.trans this ?_
    unfold Within
    refine forall_congr' fun i => forall_congr' fun _ => ?_
    show (some _, some _) = ((some _, some _) : PP) ↔ _
    rw [Prod.mk.injEq, Option.some.injEq, Option.some.injEq]
    exact Iff.rfl
  unfold liesWithin
  rw [decide_eq_true_eq, common_eq, ← step]
  unfold plainOf
  by_cases h : ((b.zip p).map fun q => cm q.1 q.2).any crossed = true
  · rw [if_pos h]
    obtain ⟨i, hi, hx⟩ := (any_cm hl).mp h
    constructor
    · intro e
      exfalso
      have e0 := congrArg (fun q : Plain => q.getD 0 (none, none)) e
      rw [List.map_const', List.length_map, zip_len hl] at e0
      have o := ho 0 h0
      have e1 : (pl b).getD 0 (none, none) = (some (bAt b 0).1, some (bAt b 0).2) := getD_map' _ _ (0, 0) _ h0
      simp only [e1] at e0
      have e2 : (List.replicate b.length eE).getD 0 (none, none) = eE := by
        rw [List.getD_eq_getElem?_getD, List.getElem?_replicate, if_pos h0]; rfl
      rw [e2] at e0
      unfold eE at e0
      rw [Prod.mk.injEq, Option.some.injEq, Option.some.injEq] at e0
      omega
    · intro e
      have := (step.mp e) i hi
      have := ho i hi
      omega
  · rw [if_neg h]
theorem outs_iff (b : Bnd) (p : Plain) (i : Nat) (s : Bool) : liesOut b p i s = true ↔ pAt p i = eE ∨ (s = false ∧ ∃ l, (pAt p i).1 = some l ∧ (bAt b i).2 < l) ∨ (s = true ∧ ∃ g, (pAt p i).2 = some g ∧ g < (bAt b i).1) := by
  unfold liesOut
  show (if pAt p i = eE then true else _) = true ↔ _
  by_cases h : pAt p i = eE
  · rw [if_pos h]; simp [h]
  · rw [if_neg h]
    cases s with
    | false =>
      show (match (pAt p i).1 with | none => false | some l => decide ((bAt b i).2 < l)) = true ↔ _
      cases e : (pAt p i).1 with
      | none => simp [h]
      | some l => simp [h]
    | true =>
      show (match (pAt p i).2 with | none => false | some l => decide (l < (bAt b i).1)) = true ↔ _
      cases e : (pAt p i).2 with
      | none => simp [h]
      | some l => simp [h]
/-- what lies apart is left out by some side -/
theorem apart_out {b : Bnd} {p : Plain} (hl : b.length = p.length) (ho : Ord b) (hp : PlainOk p) (h : Apart b p) : (outAt b p).isSome = true := by
  obtain ⟨i, hi, hx⟩ := h
  unfold outAt
  rw [List.find?_isSome]
  have put : ∀ s, liesOut b p i s = true → ∃ x, x ∈ ((List.range p.length).flatMap fun i => [(i, false), (i, true)]) ∧ liesOut b p x.1 x.2 = true := fun s hs =>
    ⟨(i, s), List.mem_flatMap.mpr ⟨i, List.mem_range.mpr (by omega), by cases s <;> simp⟩, hs⟩
  rcases hp with hp | hp
  · exact put false ((outs_iff ..).mpr (.inl (hp i (by omega))))
  · have hc := hp i (by omega)
    have o := ho i hi
    cases e1 : (pAt p i).1 with
    | none =>
      cases e2 : (pAt p i).2 with
      | none => rw [e1, e2] at hx; simp only [gtr, lsr] at hx; omega
      | some g =>
        rw [e1, e2] at hx; simp only [gtr, lsr] at hx
        exact put true ((outs_iff ..).mpr (.inr (.inr ⟨rfl, g, e2, by omega⟩)))
    | some l =>
      cases e2 : (pAt p i).2 with
      | none =>
        rw [e1, e2] at hx; simp only [gtr, lsr] at hx
        exact put false ((outs_iff ..).mpr (.inr (.inl ⟨rfl, l, e1, by omega⟩)))
      | some g =>
        rw [e1, e2] at hx; simp only [gtr, lsr] at hx
        have hlg : l ≤ g := by
          have e3 : pAt p i = (some l, some g) := by rw [← e1, ← e2]
          rw [e3] at hc
          simp only [crossed, decide_eq_false_iff_not] at hc
          omega
        by_cases q : (bAt b i).2 < l
        · exact put false ((outs_iff ..).mpr (.inr (.inl ⟨rfl, l, e1, q⟩)))
        · exact put true ((outs_iff ..).mpr (.inr (.inr ⟨rfl, g, e2, by omega⟩)))
/-- a place within bounds -/
def InB (b : Bnd) (x : Place) : Prop := ∀ i, i < b.length → (bAt b i).1 ≤ nAt x i ∧ nAt x i ≤ (bAt b i).2
theorem within_in {b : Bnd} {p : Plain} {x : Place} (hl : b.length = p.length) (hx : InB b x) (h : Within b p) : InP p x := fun i hi => by
  obtain ⟨h1, h2⟩ := h i (by omega)
  obtain ⟨h3, h4⟩ := hx i (by omega)
  refine ⟨fun l e => ?_, fun g e => ?_⟩
  · rw [e] at h1; simp only [gtr] at h1; omega
  · rw [e] at h2; simp only [lsr] at h2; omega
/-- no place within fits what lies apart -/
theorem apart_no {b : Bnd} {p : Plain} {x : Place} (hl : b.length = p.length) (hx : InB b x) (h : Apart b p) : ¬ InP p x := fun q => by
  obtain ⟨i, hi, hc⟩ := h
  obtain ⟨h3, h4⟩ := hx i hi
  obtain ⟨h1, h2⟩ := q i (by omega)
  cases e1 : (pAt p i).1 with
  | none =>
    cases e2 : (pAt p i).2 with
    | none => rw [e1, e2] at hc; simp only [gtr, lsr] at hc; omega
    | some g =>
      have := h2 g e2
      rw [e1, e2] at hc; simp only [gtr, lsr] at hc; omega
  | some l =>
    have := h1 l e1
    cases e2 : (pAt p i).2 with
    | none => rw [e1, e2] at hc; simp only [gtr, lsr] at hc; omega
    | some g =>
      have := h2 g e2
      rw [e1, e2] at hc; simp only [gtr, lsr] at hc; omega
theorem within_not_apart {b : Bnd} {p : Plain} (ho : Ord b) (h : Within b p) : ¬ Apart b p := fun ⟨i, hi, hc⟩ => by
  have := h i hi
  have := ho i hi
  omega
/-- a point lies apart or within -/
theorem point_or {b : Bnd} {p : Plain} (h : ∀ i, i < b.length → (bAt b i).1 = (bAt b i).2) : Apart b p ∨ Within b p := by
  by_cases a : Apart b p
  · exact .inl a
  · right
    intro i hi
    have e := h i hi
    have n : ¬ lsr (bAt b i).2 (pAt p i).2 < gtr (bAt b i).1 (pAt p i).1 := fun q => a ⟨i, hi, q⟩
    have g1 : (bAt b i).1 ≤ gtr (bAt b i).1 (pAt p i).1 := by cases (pAt p i).1 <;> simp only [gtr] <;> omega
    have g2 : lsr (bAt b i).2 (pAt p i).2 ≤ (bAt b i).2 := by cases (pAt p i).2 <;> simp only [lsr] <;> omega
    omega
theorem within_not_out {b : Bnd} {p : Plain} (hl : b.length = p.length) (ho : Ord b) (h : Within b p) {i : Nat} (hi : i < p.length) (s : Bool) : liesOut b p i s = false := by
  apply Bool.eq_false_iff.mpr
  intro hs
  have o := ho i (by omega)
  obtain ⟨h1, h2⟩ := h i (by omega)
  rcases (outs_iff ..).mp hs with e | ⟨_, l, e, q⟩ | ⟨_, l, e, q⟩
  · rw [e] at h1 h2; simp only [eE, gtr, lsr] at h1 h2; omega
  · rw [e] at h1; simp only [gtr] at h1; omega
  · rw [e] at h2; simp only [lsr] at h2; omega
theorem out_apart {b : Bnd} {p : Plain} (hl : b.length = p.length) (ho : Ord b) {i : Nat} (hi : i < p.length) {s : Bool} (h : liesOut b p i s = true) : Apart b p := by
  refine ⟨i, by omega, ?_⟩
  have o := ho i (by omega)
  have g1 : (bAt b i).1 ≤ gtr (bAt b i).1 (pAt p i).1 := by cases (pAt p i).1 <;> simp only [gtr] <;> omega
  have g2 : lsr (bAt b i).2 (pAt p i).2 ≤ (bAt b i).2 := by cases (pAt p i).2 <;> simp only [lsr] <;> omega
  rcases (outs_iff ..).mp h with e | ⟨_, l, e, q⟩ | ⟨_, l, e, q⟩
  · rw [e]; simp only [eE, gtr, lsr]; omega
  · rw [e] at g1 ⊢; simp only [gtr] at g1 ⊢; omega
  · rw [e] at g2 ⊢; simp only [lsr] at g2 ⊢; omega
end Bx
namespace Bx
/-! ### bounds of places -/
theorem perm_sortI {xs ys : List Int} (h : xs.Perm ys) : sortI xs = sortI ys :=
  List.Perm.eq_of_pairwise (le := fun a b : Int => a ≤ b) (fun a b _ _ h1 h2 => Int.le_antisymm h1 h2) (sortI_sorted xs) (sortI_sorted ys) ((sortI_perm xs).trans (h.trans (sortI_perm ys).symm))
theorem leastI_perm {xs ys : List Int} (h : xs.Perm ys) : leastI xs = leastI ys := by
  by_cases e : xs = []
  · subst e
    rw [h.symm.eq_nil]
  · have e2 : ys ≠ [] := fun q => e (by subst q; exact h.eq_nil)
    exact Int.le_antisymm (leastI_le (h.mem_iff.mpr (leastI_mem e2))) (leastI_le (h.mem_iff.mp (leastI_mem e)))
theorem mostI_perm {xs ys : List Int} (h : xs.Perm ys) : mostI xs = mostI ys := by
  by_cases e : xs = []
  · subst e
    rw [h.symm.eq_nil]
  · have e2 : ys ≠ [] := fun q => e (by subst q; exact h.eq_nil)
    exact Int.le_antisymm (mostI_ge (h.mem_iff.mp (mostI_mem e))) (mostI_ge (h.mem_iff.mpr (mostI_mem e2)))
/-- some places of d numbers -/
structure Pls (d : Nat) (ps : List Place) : Prop where
  ne : ps ≠ []
  len : ∀ p ∈ ps, p.length = d
theorem Pls.head {d : Nat} {ps : List Place} (h : Pls d ps) : (ps.headD []).length = d := by
  cases ps with
  | nil => exact absurd rfl h.ne
  | cons p ps => exact h.len p (List.mem_cons_self ..)
theorem bounds_len {d : Nat} {ps : List Place} (h : Pls d ps) : (boundsOf ps).length = d := by
  unfold boundsOf
  rw [List.length_map, List.length_range, h.head]
theorem bounds_at {d : Nat} {ps : List Place} (h : Pls d ps) {i : Nat} (hi : i < d) : bAt (boundsOf ps) i = (leastI (col ps i), mostI (col ps i)) := by
  unfold bAt boundsOf
  rw [getD_map' _ _ 0 _ (by rw [List.length_range, h.head]; exact hi)]
  have e : (List.range (ps.headD []).length).getD i 0 = i := by
    rw [List.getD_eq_getElem?_getD, List.getElem?_range (by rw [h.head]; exact hi)]; rfl
  rw [e]
theorem bounds_in {d : Nat} {ps : List Place} (h : Pls d ps) {p : Place} (hp : p ∈ ps) : InB (boundsOf ps) p := fun i hi => by
  rw [bounds_len h] at hi
  rw [bounds_at h hi]
  have hm : nAt p i ∈ col ps i := List.mem_map.mpr ⟨p, hp, rfl⟩
  exact ⟨leastI_le hm, mostI_ge hm⟩
theorem bounds_ord {d : Nat} {ps : List Place} (h : Pls d ps) : Ord (boundsOf ps) := fun i hi => by
  obtain ⟨p, hp⟩ := List.exists_mem_of_ne_nil ps h.ne
  have := bounds_in h hp i hi
  omega
theorem bounds_perm {d : Nat} {ps qs : List Place} (h : Pls d ps) (e : ps.Perm qs) : boundsOf ps = boundsOf qs := by
  have h2 : Pls d qs := ⟨fun q => h.ne (by subst q; exact e.eq_nil), fun p hp => h.len p (e.mem_iff.mpr hp)⟩
  unfold boundsOf
  rw [h.head, h2.head]
  apply List.map_congr_left
  intro i _
  have c : (col ps i).Perm (col qs i) := e.map _
  rw [leastI_perm c, mostI_perm c]
theorem bounds_one {d : Nat} {p : Place} (h : p.length = d) : ∀ i, i < (boundsOf [p]).length → (bAt (boundsOf [p]) i).1 = (bAt (boundsOf [p]) i).2 := fun i hi => by
  have hp : Pls d [p] := ⟨by simp, fun q hq => by rw [List.mem_singleton.mp hq]; exact h⟩
  rw [bounds_len hp] at hi
  rw [bounds_at hp hi]
  rfl
/-! ### trees -/
structure Good (h : House) (t : Tr) : Prop where
  tree : TreeFor (placeAt h) t.names t
  nd : t.names.Nodup
  sub : ∀ n ∈ t.names, n ∈ h.things.map (·.name)
theorem TreeFor.names {pl : Int → Place} {ns : List Int} {t : Tr} (h : TreeFor pl ns t) : t.names = ns := by
  cases h <;> rfl
theorem TreeFor.ne {pl : Int → Place} {ns : List Int} {t : Tr} (h : TreeFor pl ns t) : ns ≠ [] := by
  induction h with
  | lf _ => simp
  | nd p _ _ _ _ ih1 ih2 => intro e; rw [e] at p; exact ih1 (List.append_eq_nil_iff.mp p.eq_nil).1
section
variable {h : House} {t l r : Tr} {ns : List Int} {b : Bnd} {n : Int}
theorem place_len (H : HouseOk h) (hn : n ∈ h.things.map (·.name)) : (placeAt h n).length = h.d := H.len _ (thing_mem hn).1
theorem pls_of (H : HouseOk h) {ns : List Int} (ne : ns ≠ []) (hs : ∀ n ∈ ns, n ∈ h.things.map (·.name)) : Pls h.d (ns.map (placeAt h)) :=
  ⟨by simp [ne], fun p hp => by obtain ⟨n, hn, rfl⟩ := List.mem_map.mp hp; exact place_len H (hs n hn)⟩
theorem Good.ne (g : Good h t) : t.names ≠ [] := g.tree.ne
theorem Good.pls (H : HouseOk h) (g : Good h t) : Pls h.d (t.names.map (placeAt h)) := pls_of H g.ne g.sub
theorem Good.bnd (H : HouseOk h) (g : Good h t) : t.bnd = boundsOf (t.names.map (placeAt h)) := by
  have hp := g.pls H
  have ht := g.tree
  cases t with
  | lf n b =>
    cases ht with
    | lf e => exact e
  | nd ns b l r =>
    cases ht with
    | nd _ _ _ _ e =>
      obtain ⟨ps, p, rfl⟩ := e
      exact (bounds_perm hp p.symm).symm
theorem Good.len (H : HouseOk h) (g : Good h t) : t.bnd.length = h.d := by rw [g.bnd H, bounds_len (g.pls H)]
theorem Good.ord (H : HouseOk h) (g : Good h t) : Ord t.bnd := by rw [g.bnd H]; exact bounds_ord (g.pls H)
theorem Good.inB (H : HouseOk h) (g : Good h t) (hn : n ∈ t.names) : InB t.bnd (placeAt h n) := by
  rw [g.bnd H]
  exact bounds_in (g.pls H) (List.mem_map.mpr ⟨n, hn, rfl⟩)
theorem Good.kids (g : Good h (.nd ns b l r)) : Good h l ∧ Good h r ∧ (l.names ++ r.names).Perm ns := by
  have hn : ns.Nodup := g.nd
  cases g.tree with
  | nd p e h1 h2 _ =>
    rename_i ns1 ns2
    have e1 := h1.names
    have e2 := h2.names
    subst e1 e2
    have nd := p.nodup_iff.mpr hn
    rw [List.nodup_append] at nd
    exact ⟨⟨h1, nd.1, fun n hn => g.sub n (p.mem_iff.mp (List.mem_append_left _ hn))⟩, ⟨h2, nd.2.1, fun n hn => g.sub n (p.mem_iff.mp (List.mem_append_right _ hn))⟩, p⟩
theorem Good.leaf (H : HouseOk h) (g : Good h (.lf n b)) : ∀ i, i < b.length → (bAt b i).1 = (bAt b i).2 := by
  have e := g.bnd H
  have e2 : b = boundsOf [placeAt h n] := e
  rw [e2]
  exact bounds_one (place_len H (g.sub n (List.mem_singleton.mpr rfl)))
theorem Good.all (g : Good h t) : t.all (Good h) := by
  induction t with
  | lf n b => exact g
  | nd ns b l r ih1 ih2 => exact ⟨g, ih1 g.kids.1, ih2 g.kids.2.1⟩
theorem Good.few (H : HouseOk h) (g : Good h t) : t.names.length ≤ 30 := by
  have : t.names.length ≤ (h.things.map (·.name)).length := sub_len g.nd fun n hn => g.sub n hn
  rw [List.length_map] at this
  exact Nat.le_trans this H.many
theorem Good.leaves (g : Good h t) : t.leaves = t.names.length ∧ t.height < t.names.length ∧ t.size + 1 = 2 * t.names.length := by
  induction t with
  | lf n b => exact ⟨rfl, Nat.zero_lt_one, rfl⟩
  | nd ns b l r ih1 ih2 =>
    obtain ⟨g1, g2, p⟩ := g.kids
    obtain ⟨a1, a2, a3⟩ := ih1 g1
    obtain ⟨b1, b2, b3⟩ := ih2 g2
    have e := p.length_eq
    rw [List.length_append] at e
    show l.leaves + r.leaves = ns.length ∧ max l.height r.height + 1 < ns.length ∧ 1 + l.size + r.size + 1 = 2 * ns.length
    omega
theorem Tr.all_imp {P Q : Tr → Prop} (i : ∀ t, P t → Q t) : ∀ {t : Tr}, t.all P → t.all Q
  | .lf _ _, q => i _ q
  | .nd _ _ _ _, ⟨q1, q2, q3⟩ => ⟨i _ q1, Tr.all_imp i q2, Tr.all_imp i q3⟩
theorem Good.namesOk (H : HouseOk h) (g : Good h t) : NamesOk h t := ⟨g.ne, Nat.le_trans (g.few H) (by decide), g.sub, by rw [g.len H]; exact Nat.le_trans H.d4 (by decide)⟩
theorem Good.trOk (H : HouseOk h) (g : Good h t) : TrOk t := by
  have := g.leaves
  have := g.few H
  exact ⟨by omega, by omega⟩
theorem Good.look (H : HouseOk h) (g : Good h t) : TrLook h.d t := ⟨Nat.le_trans H.d4 (by decide), Tr.all_imp (fun u gu => ⟨gu.len H, Nat.le_trans (gu.few H) (by decide)⟩) g.all⟩
theorem Good.downD (H : HouseOk h) {bx : Box} (hb : bx.length = h.d) (g : Good h t) : DownD (plainBox bx) t :=
  ⟨by rw [g.len H, plain_len, hb], fun q => apart_out (by rw [g.len H, plain_len, hb]) (g.ord H) (plainBox_ok bx) ((apart_iff (by rw [g.len H, plain_len, hb]) (by rw [g.len H]; exact H.d1)).mp q)⟩
theorem Good.down (H : HouseOk h) {bx : Box} (hb : bx.length = h.d) (g : Good h t) : Down (plainBox bx) t := by
  have hl : t.bnd.length = (plainBox bx).length := by rw [g.len H, plain_len, hb]
  have h0 : 0 < t.bnd.length := by rw [g.len H]; exact H.d1
  refine ⟨hl, (g.downD H hb).out, fun e => ?_⟩
  cases t with
  | nd _ _ _ _ => cases e
  | lf n b =>
    rcases point_or (p := plainBox bx) (g.leaf H) with q | q
    · exact .inl ((apart_iff hl h0).mpr q)
    · exact .inr ((within_iff hl h0 (g.ord H)).mpr q)
theorem Good.boxLen (H : HouseOk h) {bx : Box} (hb : bx.length = h.d) (g : Good h t) : BoxLen bx t := ⟨by rw [hb]; exact Nat.le_trans H.d4 (by decide), Tr.all_imp (fun u gu => gu.down H hb) g.all⟩
end
/-! ### the trees of this law -/
theorem treeIs_good {h : House} (H : HouseOk h) {t : Tr} (i : TreeIs h (some t)) : Good h t ∧ t.names = h.things.map (·.name) := by
  have e : t.names = h.things.map (·.name) := TreeFor.names i
  exact ⟨⟨by rw [e]; exact i, by rw [e]; exact H.nodup, fun n hn => by rw [← e]; exact hn⟩, e⟩
theorem treeOf_for {h : House} (H : HouseOk h) : ∀ (k : Nat) (names : List Int) (turn : Nat), NamesIn h names → names.length ≤ k + 1 → sortI names = names → TreeFor (placeAt h) names (treeOf h k names turn) := by
  have one : ∀ (names : List Int), names.length = 1 → TreeFor (placeAt h) names (.lf (names.headD 0) (boundsOf (names.map (placeAt h)))) := by
    intro names e
    obtain ⟨x, rfl⟩ := List.length_eq_one_iff.mp e
    exact .lf rfl
  intro k
  induction k with
  | zero =>
    intro names turn N hl _
    have : names.length ≠ 0 := fun q => N.ne (List.length_eq_zero_iff.mp q)
    exact one names (by omega)
  | succ k ih =>
    intro names turn N hl hs
    unfold treeOf
    by_cases e : names.length = 1
    · rw [if_pos e]; exact one names e
    · rw [if_neg e]
      have l2 : 2 ≤ names.length := by
        have : names.length ≠ 0 := fun q => N.ne (List.length_eq_zero_iff.mp q)
        omega
      have hrow := rowIn_perm H N turn
      have hrl := hrow.length_eq
      generalize rowIn h names turn = row at hrow hrl ⊢
      have N1 : NamesIn h (sortI (row.take ((row.length + 1) / 2))) := N.half hrow (List.take_sublist _ _) (fun q => by have := congrArg List.length q; rw [List.length_take, List.length_nil] at this; omega)
      have N2 : NamesIn h (sortI (row.drop ((row.length + 1) / 2))) := N.half hrow (List.drop_sublist _ _) (fun q => by have := congrArg List.length q; rw [List.length_drop, List.length_nil] at this; omega)
      have L1 : (sortI (row.take ((row.length + 1) / 2))).length ≤ k + 1 := by rw [(sortI_perm _).length_eq, List.length_take]; omega
      have L2 : (sortI (row.drop ((row.length + 1) / 2))).length ≤ k + 1 := by rw [(sortI_perm _).length_eq, List.length_drop]; omega
      refine .nd ?_ hs.symm (ih _ _ N1 L1 (sortI_idem _)) (ih _ _ N2 L2 (sortI_idem _)) ⟨_, .refl _, rfl⟩
      refine ((sortI_perm _).append (sortI_perm _)).trans ?_
      rw [List.take_append_drop]
      exact hrow
theorem turns_is {h : House} (H : HouseOk h) : TreeIs h (turnsD h) := by
  unfold turnsD
  by_cases e : h.things = []
  · rw [if_pos e]; exact e
  · rw [if_neg e]
    refine treeOf_for H 30 _ 0 ⟨by simp [e], H.nodup, fun n hn => hn⟩ ?_ H.sorted
    rw [List.length_map]
    exact Nat.le_trans H.many (by decide)
end Bx
namespace Bx
/-! ### parts with their trees -/
abbrev TP := Tr × Part
def Laid (T : Tr) (xs : List TP) : Prop := ∀ x ∈ xs, treeAt (some T) x.2.path = some x.1
theorem treeAt_snoc : ∀ (path : List Bool) (ot : Option Tr) (t : Tr) (s : Bool), treeAt ot path = some t → treeAt ot (path ++ [s]) = t.child s
  | [], ot, t, s, h => by
    have e : ot = some t := by
      rw [← h]; cases ot <;> rfl
    subst e
    show treeAt (some t) [s] = _
    show treeAt (t.child s) [] = _
    cases t.child s <;> rfl
  | q :: path, none, t, s, h => by cases h
  | q :: path, some u, t, s, h => treeAt_snoc path (u.child q) t s h
section
variable {T : Tr} {xs ys : List TP} {b : Box} {p : Plain}
theorem Laid.trees (h : Laid T xs) : treesOf T (xs.map (·.2)) = (xs.map (·.1)).map some := by
  unfold treesOf
  rw [List.map_map, List.map_map]
  exact List.map_congr_left fun x hx => h x hx
theorem none_not (us : List Tr) : none ∉ us.map some := fun h => by
  obtain ⟨u, _, e⟩ := List.mem_map.mp h
  cases e
theorem some_id (us : List Tr) : (us.map some).filterMap id = us := by
  induction us with
  | nil => rfl
  | cons u us ih => rw [List.map_cons, List.filterMap_cons]; simp only [id]; rw [ih]
theorem zip_self (xs : List TP) : (xs.map (·.1)).zip (xs.map (·.2)) = xs := by
  induction xs with
  | nil => rfl
  | cons x xs ih => rw [List.map_cons, List.map_cons, List.zip_cons_cons, ih]
theorem shows_laid (h : Laid T xs) : showsCover (some T) b (xs.map (·.2)) = ((xs.all fun x => isInD (plainBox b) x.1 x.2 || isOutD (plainBox b) x.1 x.2) && eachOnce T (xs.map (·.1))) := by
  unfold showsCover
  simp only []
  rw [h.trees, if_neg (none_not _), some_id, zip_self]
theorem partsShow_laid {h : House} {k : Kind} {keys : List (Int × Int)} (l : Laid T xs) : partsShow h T b k keys (xs.map (·.2)) = ((xs.all fun x => takenHere (plainBox b) x || isOutD (plainBox b) x.1 x.2 || isFarD h k keys x.1 x.2) && (decide (sortI ((xs.filter (takenHere (plainBox b))).map fun x => x.1.names.headD 0) = sortI (keys.map (·.2))) && eachOnce T (xs.map (·.1)))) := by
  unfold partsShow
  rw [l.trees, if_neg (none_not _), some_id, zip_self]
def allNames (xs : List TP) : List Int := xs.flatMap fun x => x.1.names
theorem allNames_app (xs ys : List TP) : allNames (xs ++ ys) = allNames xs ++ allNames ys := List.flatMap_append ..
theorem each_iff : eachOnce T (xs.map (·.1)) = true ↔ sortI (allNames xs) = T.names := by
  unfold eachOnce allNames
  rw [decide_eq_true_eq, List.flatMap_map]
theorem each_false (h : (allNames xs).length ≠ T.names.length) : eachOnce T (xs.map (·.1)) = false := by
  apply Bool.eq_false_iff.mpr
  intro e
  have := congrArg List.length (each_iff.mp e)
  rw [(sortI_perm _).length_eq] at this
  exact h this
/-- how a part of a cover stands -/
def Stands (p : Plain) (x : TP) : Prop := (∃ q, x.2 = .inn q ∧ Within x.1.bnd p) ∨ ∃ q i s, x.2 = .out q i s ∧ i < p.length ∧ liesOut x.1.bnd p i s = true ∧ Apart x.1.bnd p
end
section
variable {h : House} {T t : Tr} {b : Box} {p : Plain}
theorem outPart_stands (H : HouseOk h) (g : Good h t) (hb : b.length = h.d) (a : lieApart t.bnd (plainBox b) = true) (path : List Bool) : Stands (plainBox b) (t, outPart t.bnd (plainBox b) path) ∧ (outPart t.bnd (plainBox b) path).path = path := by
  have hl : t.bnd.length = (plainBox b).length := by rw [g.len H, plain_len, hb]
  have h0 : 0 < t.bnd.length := by rw [g.len H]; exact H.d1
  have ha := (apart_iff hl h0).mp a
  have hs := (g.downD H hb).out a
  obtain ⟨x, hx⟩ := Option.isSome_iff_exists.mp hs
  have hm := List.mem_of_find?_eq_some hx
  have hq := List.find?_some hx
  obtain ⟨i, hi, hxi⟩ := List.mem_flatMap.mp hm
  have hi' := List.mem_range.mp hi
  have hx1 : x.1 < (plainBox b).length := by
    rcases List.mem_cons.mp hxi with rfl | hxi
    · exact hi'
    · rw [List.mem_singleton.mp hxi]; exact hi'
  unfold outPart
  rw [hx]
  exact ⟨.inr ⟨path, x.1, x.2, rfl, hx1, hq, ha⟩, rfl⟩
theorem along_laid (H : HouseOk h) (hb : b.length = h.d) : ∀ {t : Tr} {path : List Bool}, Good h t → treeAt (some T) path = some t → ∃ xs : List TP, xs.map (·.2) = partsAlong (plainBox b) t path ∧ Laid T xs ∧ (allNames xs).Perm t.names ∧ ∀ x ∈ xs, Good h x.1 ∧ Stands (plainBox b) x ∧ x.2.path.length ≤ path.length + t.height := by
  intro t
  induction t with
  | lf n bn =>
    intro path g hat
    have hl : bn.length = (plainBox b).length := by have := g.len H; rw [plain_len, hb]; exact this
    have h0 : 0 < bn.length := by have := g.len H; have e : bn.length = h.d := this; rw [e]; exact H.d1
    by_cases a : lieApart bn (plainBox b) = true
    · obtain ⟨s1, s2'⟩ := outPart_stands H g hb a path
      have s2 : (outPart bn (plainBox b) path).path = path := s2'
      refine ⟨[(.lf n bn, outPart bn (plainBox b) path)], by unfold partsAlong; rw [if_pos a]; rfl, fun x hx => ?_, .refl _, fun x hx => ?_⟩
      · rw [List.mem_singleton.mp hx]
        show treeAt (some T) (outPart bn (plainBox b) path).path = _
        rw [s2]; exact hat
      · rw [List.mem_singleton.mp hx]
        refine ⟨g, s1, ?_⟩
        show (outPart bn (plainBox b) path).path.length ≤ _
        rw [s2]; exact Nat.le_add_right _ _
    · refine ⟨[(.lf n bn, .inn path)], by unfold partsAlong; rw [if_neg a]; rfl, fun x hx => ?_, .refl _, fun x hx => ?_⟩
      · rw [List.mem_singleton.mp hx]; exact hat
      · rw [List.mem_singleton.mp hx]
        refine ⟨g, .inl ⟨path, rfl, ?_⟩, Nat.le_add_right _ _⟩
        rcases point_or (p := plainBox b) (g.leaf H) with q | q
        · exact absurd ((apart_iff hl h0).mpr q) a
        · exact q
  | nd ns bn l r ih1 ih2 =>
    intro path g hat
    have hl : bn.length = (plainBox b).length := by have := g.len H; rw [plain_len, hb]; exact this
    have h0 : 0 < bn.length := by have := g.len H; have e : bn.length = h.d := this; rw [e]; exact H.d1
    by_cases a : lieApart bn (plainBox b) = true
    · obtain ⟨s1, s2'⟩ := outPart_stands H g hb a path
      have s2 : (outPart bn (plainBox b) path).path = path := s2'
      refine ⟨[(.nd ns bn l r, outPart bn (plainBox b) path)], by unfold partsAlong; rw [if_pos a]; rfl, fun x hx => ?_, by unfold allNames; simp [Tr.names], fun x hx => ?_⟩
      · rw [List.mem_singleton.mp hx]
        show treeAt (some T) (outPart bn (plainBox b) path).path = _
        rw [s2]; exact hat
      · rw [List.mem_singleton.mp hx]
        refine ⟨g, s1, ?_⟩
        show (outPart bn (plainBox b) path).path.length ≤ _
        rw [s2]; exact Nat.le_add_right _ _
    · by_cases w : liesWithin bn (plainBox b) = true
      · refine ⟨[(.nd ns bn l r, .inn path)], by unfold partsAlong; rw [if_neg a, if_pos w]; rfl, fun x hx => ?_, by unfold allNames; simp [Tr.names], fun x hx => ?_⟩
        · rw [List.mem_singleton.mp hx]; exact hat
        · rw [List.mem_singleton.mp hx]
          exact ⟨g, .inl ⟨path, rfl, (within_iff hl h0 (g.ord H)).mp w⟩, Nat.le_add_right _ _⟩
      · obtain ⟨g1, g2, pm⟩ := g.kids
        obtain ⟨xs, a1, a2, a3, a4⟩ := ih1 (path := path ++ [false]) g1 (treeAt_snoc path _ _ false hat)
        obtain ⟨ys, b1, b2, b3, b4⟩ := ih2 (path := path ++ [true]) g2 (treeAt_snoc path _ _ true hat)
        have hh : (Tr.nd ns bn l r).height = max l.height r.height + 1 := rfl
        refine ⟨xs ++ ys, by unfold partsAlong; rw [if_neg a, if_neg w, List.map_append, a1, b1], fun x hx => ?_, ?_, fun x hx => ?_⟩
        · rcases List.mem_append.mp hx with q | q
          · exact a2 x q
          · exact b2 x q
        · rw [allNames_app]
          exact (a3.append b3).trans pm
        · rcases List.mem_append.mp hx with q | q
          · obtain ⟨c1, c2, c3⟩ := a4 x q
            refine ⟨c1, c2, ?_⟩
            rw [List.length_append] at c3
            simp only [List.length_singleton] at c3
            omega
          · obtain ⟨c1, c2, c3⟩ := b4 x q
            refine ⟨c1, c2, ?_⟩
            rw [List.length_append] at c3
            simp only [List.length_singleton] at c3
            omega
/-! ### what stands is looked at rightly -/
theorem stands_look (H : HouseOk h) (hb : b.length = h.d) {x : TP} (g : Good h x.1) (s : Stands (plainBox b) x) : (isInD (plainBox b) x.1 x.2 || isOutD (plainBox b) x.1 x.2) = true := by
  have hl : x.1.bnd.length = (plainBox b).length := by rw [g.len H, plain_len, hb]
  have h0 : 0 < x.1.bnd.length := by rw [g.len H]; exact H.d1
  rcases s with ⟨q, e, w⟩ | ⟨q, i, sd, e, hi, lo, _⟩
  · rw [e]
    show (liesWithin x.1.bnd (plainBox b) || _) = true
    rw [(within_iff hl h0 (g.ord H)).mpr w]; rfl
  · rw [e]
    show (false || (decide (i < (plainBox b).length) && liesOut x.1.bnd (plainBox b) i sd)) = true
    rw [lo, decide_eq_true hi]; rfl
theorem other_look (H : HouseOk h) (hb : b.length = h.d) {x : TP} (g : Good h x.1) (s : Stands (plainBox b) x) : (isInD (plainBox b) x.1 (otherPart x.2) || isOutD (plainBox b) x.1 (otherPart x.2)) = false := by
  have hl : x.1.bnd.length = (plainBox b).length := by rw [g.len H, plain_len, hb]
  have h0 : 0 < x.1.bnd.length := by rw [g.len H]; exact H.d1
  rcases s with ⟨q, e, w⟩ | ⟨q, i, sd, e, hi, lo, ap⟩
  · rw [e]
    show (false || (decide (0 < (plainBox b).length) && liesOut x.1.bnd (plainBox b) 0 false)) = false
    rw [within_not_out hl (g.ord H) w (by omega)]
    simp
  · rw [e]
    show (liesWithin x.1.bnd (plainBox b) || false) = false
    rw [Bool.or_false]
    apply Bool.eq_false_iff.mpr
    intro q
    exact within_not_apart (g.ord H) ((within_iff hl h0 (g.ord H)).mp q) ap
end
theorem otherPart_path (q : Part) : (otherPart q).path = q.path := by cases q <;> rfl
/-! ### names that fit -/
section
variable {h : House} {b : Box} {k : Kind}
theorem nodup_things (H : HouseOk h) (q : Thing → Bool) : ((h.things.filter q).map (·.name)).Nodup := (List.filter_sublist.map _).nodup H.nodup
theorem name_fits (H : HouseOk h) (hb : b.length = h.d) {n : Int} (hn : n ∈ h.things.map (·.name)) : n ∈ namesOf (thingsIn h b) ↔ InP (plainBox b) (placeAt h n) := by
  obtain ⟨t, ht, rfl⟩ := List.mem_map.mp hn
  have e : placeAt h t.name = t.place := by unfold placeAt; rw [thingAt_of H ht]
  rw [e, ← fits_iff (by rw [hb, H.len t ht]) (by rw [hb]; exact H.d1)]
  unfold namesOf thingsIn
  rw [List.mem_map]
  constructor
  · rintro ⟨u, hu, en⟩
    obtain ⟨hu1, hu2⟩ := List.mem_filter.mp hu
    rw [← name_inj H.nodup hu1 ht en]
    exact hu2
  · intro q
    exact ⟨t, List.mem_filter.mpr ⟨ht, q⟩, rfl⟩
theorem thingsIn_sub {n : Int} (hn : n ∈ namesOf (thingsIn h b)) : n ∈ h.things.map (·.name) := by
  obtain ⟨t, ht, rfl⟩ := List.mem_map.mp hn
  exact List.mem_map.mpr ⟨t, (List.mem_filter.mp ht).1, rfl⟩
theorem thingsIn_nodup (H : HouseOk h) : (namesOf (thingsIn h b)).Nodup := nodup_things H _
theorem thingsIn_sorted (H : HouseOk h) : sortI (namesOf (thingsIn h b)) = namesOf (thingsIn h b) := by
  apply sortI_of_sorted
  have : (namesOf (thingsIn h b)).Pairwise (· < ·) := List.Pairwise.sublist (List.filter_sublist.map Thing.name) H.nd
  exact this.imp fun q => Int.le_of_lt q
end
/-! ### a cover keeps what the law asks -/
theorem flatMap_eq {α β : Type} {f g : α → List β} : ∀ {xs : List α}, (∀ x ∈ xs, f x = g x) → xs.flatMap f = xs.flatMap g
  | [], _ => rfl
  | x :: xs, h => by rw [List.flatMap_cons, List.flatMap_cons, h x (List.mem_cons_self ..), flatMap_eq fun y hy => h y (List.mem_cons_of_mem _ hy)]
theorem flatMap_sub {α β : Type} (f : α → List β) {xs ys : List α} (s : xs.Sublist ys) : (xs.flatMap f).Sublist (ys.flatMap f) := by
  induction s with
  | slnil => exact .refl _
  | cons a _ ih => rw [List.flatMap_cons]; exact ih.trans (List.sublist_append_right _ _)
  | cons_cons a _ ih => rw [List.flatMap_cons, List.flatMap_cons]; exact (List.Sublist.refl _).append ih
theorem filter_laid {T : Tr} {xs : List TP} (l : Laid T xs) (wd : PySem.Str) : (((xs.map (·.2)).filter (hasWord wd)).flatMap (namesAt (some T))) = allNames (xs.filter fun x => hasWord wd x.2) := by
  unfold allNames
  rw [List.filter_map, List.flatMap_map]
  have : ∀ x ∈ xs.filter (hasWord wd ∘ fun x => x.2), namesAt (some T) x.2 = x.1.names := fun x hx => by
    unfold namesAt
    rw [l x (List.mem_filter.mp hx).1]
  exact flatMap_eq this
theorem sub_names {xs ys : List TP} (s : xs.Sublist ys) : (allNames xs).Sublist (allNames ys) := by
  unfold allNames
  exact flatMap_sub _ s
theorem cover_right {h : House} (H : HouseOk h) {ot : Option Tr} (i : TreeIs h ot) {b : Box} (hb : b.length = h.d) : CoverRight h ot b := by
  cases ot with
  | none =>
    have e : h.things = [] := i
    have e2 : namesOf (thingsIn h b) = [] := by unfold thingsIn; rw [e]; rfl
    refine ⟨nofun, ⟨Nat.le_trans H.many (by decide), by rw [hb]; exact Nat.le_trans H.d4 (by decide)⟩, Nat.zero_le _, fun _ _ _ _ q => (by cases q), fun q hq => (by cases hq), rfl, ?_, ?_, fun _ q => absurd q (Nat.not_lt_zero _), fun _ q => absurd q (Nat.not_lt_zero _), fun _ q => absurd q (Nat.not_lt_zero _)⟩
    · rw [e2]; exact sortI_of_sorted .nil
    · rw [e2]; intro n _; exact List.not_mem_nil
  | some T =>
    obtain ⟨g, en⟩ := treeIs_good H i
    obtain ⟨xs, x1, x2, x3, x4⟩ := along_laid (T := T) H hb (path := []) g rfl
    have ec : coverD (some T) b = xs.map (·.2) := x1.symm
    have fit : ∀ x ∈ xs, ∀ n ∈ x.1.names, (n ∈ namesOf (thingsIn h b) ↔ hasWord "in" x.2 = true) ∧ (hasWord "out" x.2 = true → n ∉ namesOf (thingsIn h b)) := by
      intro x hx n hn
      obtain ⟨gx, sx, _⟩ := x4 x hx
      have hl : x.1.bnd.length = (plainBox b).length := by rw [gx.len H, plain_len, hb]
      have inb := gx.inB H hn
      rw [name_fits H hb (gx.sub n hn), hasWord_in, hasWord_out]
      rcases sx with ⟨q, e, w⟩ | ⟨q, i, sd, e, hi, lo, ap⟩
      · rw [e]
        exact ⟨⟨fun _ => rfl, fun _ => within_in hl inb w⟩, fun q => (by cases q)⟩
      · rw [e]
        exact ⟨⟨fun q => absurd q (apart_no hl inb ap), fun q => (by cases q)⟩, fun _ => apart_no hl inb ap⟩
    have hsrt : sortI T.names = T.names := by rw [en]; exact H.sorted
    have pos : ∀ x ∈ xs, 0 < x.1.names.length := fun x hx => List.length_pos_iff.mpr (x4 x hx).1.ne
    have tot : (allNames xs).length = T.names.length := x3.length_eq
    have many : xs.length ≤ 100 := by
      have h1 := partsAlong_len (plainBox b) T []
      rw [← x1, List.length_map] at h1
      have := g.leaves
      have := g.few H
      omega
    refine ⟨fun t e => by cases e; exact ⟨g.trOk H, g.boxLen H hb⟩, ⟨Nat.le_trans H.many (by decide), by rw [hb]; exact Nat.le_trans H.d4 (by decide)⟩, by rw [ec, List.length_map]; exact many, fun ps hl hp t e => ?_, fun q hq => ?_, ?_, ?_, fun n hn => ?_, fun i hi => ?_, fun i hi => ?_, fun i hi => ?_⟩
    · cases e
      refine ⟨h.d, g.look H, hb, ?_, fun q hq => ?_⟩
      · rw [ec, List.length_map] at hl; omega
      · obtain ⟨q', hq', e⟩ := hp q hq
        rw [ec] at hq'
        obtain ⟨x, hx, rfl⟩ := List.mem_map.mp hq'
        rw [e]
        have := (x4 x hx).2.2
        have := (g.trOk H).high
        simp only [List.length_nil] at *
        omega
    · rw [ec] at hq
      obtain ⟨x, hx, rfl⟩ := List.mem_map.mp hq
      exact ⟨x.1, x2 x hx, Nat.le_trans ((x4 x hx).1.few H) (by decide)⟩
    · rw [ec, shows_laid x2, List.all_eq_true.mpr fun x hx => stands_look H hb (x4 x hx).1 (x4 x hx).2.1, Bool.true_and, each_iff, perm_sortI x3, hsrt]
    · unfold lawNames
      rw [ec, filter_laid x2, ← thingsIn_sorted H]
      apply perm_sortI
      refine (List.perm_ext_iff_of_nodup ((sub_names List.filter_sublist).nodup (x3.nodup_iff.mpr g.nd)) (thingsIn_nodup H)).mpr fun n => ?_
      constructor
      · intro hn
        obtain ⟨x, hx, hxn⟩ := List.mem_flatMap.mp hn
        obtain ⟨hx1, hx2⟩ := List.mem_filter.mp hx
        exact ((fit x hx1 n hxn).1).mpr hx2
      · intro hn
        have : n ∈ allNames xs := x3.mem_iff.mpr (by rw [en]; exact thingsIn_sub hn)
        obtain ⟨x, hx, hxn⟩ := List.mem_flatMap.mp this
        exact List.mem_flatMap.mpr ⟨x, List.mem_filter.mpr ⟨hx, ((fit x hx n hxn).1).mp hn⟩, hxn⟩
    · unfold lawNames at hn
      rw [ec, filter_laid x2] at hn
      have hn := (sortI_perm _).mem_iff.mp hn
      obtain ⟨x, hx, hxn⟩ := List.mem_flatMap.mp hn
      obtain ⟨hx1, hx2⟩ := List.mem_filter.mp hx
      exact (fit x hx1 n hxn).2 hx2
    · rw [ec] at hi ⊢
      rw [List.length_map] at hi
      rw [← List.map_take, ← List.map_drop, ← List.map_append, shows_laid fun x hx => x2 x (by
        rcases List.mem_append.mp hx with q | q
        · exact List.mem_of_mem_take q
        · exact List.mem_of_mem_drop q), each_false ?_, Bool.and_false]
      have e : xs = xs.take i ++ xs[i] :: xs.drop (i + 1) := by rw [List.getElem_cons_drop, List.take_append_drop]
      have e2 := congrArg (fun z => (allNames z).length) e
      simp only [allNames_app] at e2 ⊢
      rw [show xs[i] :: xs.drop (i + 1) = [xs[i]] ++ xs.drop (i + 1) from rfl, allNames_app] at e2
      have p1 := pos xs[i] (List.getElem_mem hi)
      have e3 : (allNames [xs[i]]).length = xs[i].1.names.length := by unfold allNames; simp
      simp only [List.length_append] at e2 ⊢
      omega
    · have hi' := hi
      rw [ec, List.length_map] at hi'
      have ei : (coverD (some T) b)[i] = xs[i].2 := by
        have : (coverD (some T) b)[i]? = some xs[i].2 := by rw [ec, List.getElem?_map, List.getElem?_eq_getElem hi']; rfl
        rw [List.getElem?_eq_getElem hi] at this
        exact Option.some.inj this
      rw [ei, ec, show [xs[i].2] = ([xs[i]] : List TP).map (·.2) from rfl, ← List.map_append, shows_laid fun x hx => by
        rcases List.mem_append.mp hx with q | q
        · exact x2 x q
        · rw [List.mem_singleton.mp q]; exact x2 _ (List.getElem_mem hi'), each_false ?_, Bool.and_false]
      have p1 := pos xs[i] (List.getElem_mem hi')
      have e3 : (allNames [xs[i]]).length = xs[i].1.names.length := by unfold allNames; simp
      rw [allNames_app, List.length_append]
      omega
    · have hi' := hi
      rw [ec, List.length_map] at hi'
      have ei : (coverD (some T) b)[i] = xs[i].2 := by
        have : (coverD (some T) b)[i]? = some xs[i].2 := by rw [ec, List.getElem?_map, List.getElem?_eq_getElem hi']; rfl
        rw [List.getElem?_eq_getElem hi] at this
        exact Option.some.inj this
      have hm := List.getElem_mem hi'
      rw [ei, ec, ← List.map_take, ← List.map_drop, show [otherPart xs[i].2] = ([(xs[i].1, otherPart xs[i].2)] : List TP).map (·.2) from rfl, ← List.map_append, ← List.map_append, shows_laid fun x hx => by
        rcases List.mem_append.mp hx with q | q
        · rcases List.mem_append.mp q with q | q
          · exact x2 x (List.mem_of_mem_take q)
          · rw [List.mem_singleton.mp q]
            show treeAt (some T) (otherPart xs[i].2).path = _
            rw [otherPart_path]
            exact x2 _ hm
        · exact x2 x (List.mem_of_mem_drop q)]
      rw [Bool.and_eq_false_iff]
      left
      apply Bool.eq_false_iff.mpr
      intro q
      have := List.all_eq_true.mp q (xs[i].1, otherPart xs[i].2) (by simp)
      rw [other_look H hb (x4 _ hm).1 (x4 _ hm).2.1] at this
      cases this
end Bx
namespace Bx
/-! ### keys of things and of trees -/
def keyT (h : House) (k : Kind) (n : Int) : Int × Int := (k.far (thingAt h n), n)
def pairLe (a b : Int × Int) : Prop := a.1 < b.1 ∨ (a.1 = b.1 ∧ a.2 ≤ b.2)
theorem pairLt_iff (a b : Int × Int) : pairLt a b = true ↔ a.1 < b.1 ∨ (a.1 = b.1 ∧ a.2 < b.2) := by unfold pairLt; rw [decide_eq_true_eq]
theorem pairLe_of_not {a b : Int × Int} (h : ¬ pairLt b a = true) : pairLe a b := by
  rw [pairLt_iff] at h
  unfold pairLe
  omega
theorem pairLe.trans {a b c : Int × Int} (h1 : pairLe a b) (h2 : pairLe b c) : pairLe a c := by
  unfold pairLe at *
  omega
theorem pairLe.lt {a b : Int × Int} (h : pairLe a b) (ne : a.2 ≠ b.2) : pairLt a b = true := by
  rw [pairLt_iff]
  unfold pairLe at h
  omega
theorem pairLt_trans {a b c : Int × Int} (h1 : pairLt a b = true) (h2 : pairLt b c = true) : pairLt a c = true := by
  rw [pairLt_iff] at *
  omega
theorem pairLt_asymm {a b : Int × Int} (h1 : pairLt a b = true) : pairLt b a = false := by
  apply Bool.eq_false_iff.mpr
  intro h2
  rw [pairLt_iff] at *
  omega
theorem pairLt.le {a b : Int × Int} (h : pairLt a b = true) : pairLe a b := by
  rw [pairLt_iff] at h
  unfold pairLe
  omega
section
variable {h : House} {t l r : Tr} {b : Bnd} {n : Int} {k : Kind}
theorem inB_cons {c : Int × Int} {bs : Bnd} {a : Int} {x : Place} : InB (c :: bs) (a :: x) ↔ (c.1 ≤ a ∧ a ≤ c.2) ∧ InB bs x := by
  constructor
  · intro q
    exact ⟨q 0 (by simp), fun i hi => q (i + 1) (by simpa using hi)⟩
  · rintro ⟨q1, q2⟩ i hi
    cases i with
    | zero => exact q1
    | succ i => exact q2 i (by simpa using hi)
theorem stepsTo_le : ∀ (bs : Bnd) (x p : Place), bs.length = x.length → InB bs x → stepsTo bs p ≤ stepsD x p
  | [], [], _, _, _ => Int.le_refl _
  | [], _ :: _, _, e, _ => by simp at e
  | _ :: _, [], _, e, _ => by simp at e
  | c :: bs, a :: x, [], _, _ => Int.le_refl _
  | c :: bs, a :: x, q :: p, e, i => by
    obtain ⟨i1, i2⟩ := inB_cons.mp i
    have ih := stepsTo_le bs x p (by simpa using e) i2
    show max 0 (max (c.1 - q) (q - c.2)) + stepsTo bs p ≤ ((a - q).natAbs : Int) + stepsD x p
    omega
theorem stepsTo_self : ∀ (x p : Place), stepsTo (x.map fun a => (a, a)) p = stepsD x p
  | [], _ => rfl
  | a :: x, [] => rfl
  | a :: x, q :: p => by
    have ih := stepsTo_self x p
    show max 0 (max (a - q) (q - a)) + stepsTo (x.map fun a => (a, a)) p = ((a - q).natAbs : Int) + stepsD x p
    omega
theorem bounds_self (x : Place) : boundsOf [x] = x.map fun a => (a, a) := by
  unfold boundsOf
  apply List.ext_getElem?
  intro i
  rw [List.getElem?_map, List.getElem?_map]
  by_cases hi : i < x.length
  · rw [List.getElem?_range (by exact hi), List.getElem?_eq_getElem hi]
    show some (x.getD i 0, x.getD i 0) = _
    rw [List.getD_eq_getElem?_getD, List.getElem?_eq_getElem hi]
    rfl
  · rw [List.getElem?_eq_none (by rw [List.length_range]; exact Nat.le_of_not_lt hi), List.getElem?_eq_none (Nat.le_of_not_lt hi)]
    rfl
theorem worth_at (hn : n ∈ h.things.map (·.name)) : worthOf h n = (thingAt h n).worth := by
  unfold worthOf thingAt
  cases e : h.things.find? fun t => t.name = n with
  | some t => rfl
  | none =>
    obtain ⟨t, ht, rfl⟩ := List.mem_map.mp hn
    have := List.find?_eq_none.mp e t ht
    simp at this
theorem Good.sorted (g : Good h t) : t.names.Pairwise (· ≤ ·) := by
  have := g.tree
  cases t with
  | lf n b => exact List.pairwise_singleton ..
  | nd ns b l r =>
    cases this with
    | nd _ e _ _ _ =>
      have e' : ns = sortI ns := e
      show ns.Pairwise _
      rw [e']
      exact sortI_sorted ns
theorem Good.head (g : Good h t) : t.names.headD 0 ∈ t.names ∧ ∀ n ∈ t.names, t.names.headD 0 ≤ n := by
  have s := g.sorted
  have ne := g.ne
  cases e : t.names with
  | nil => exact absurd e ne
  | cons m ms =>
    rw [e] at s
    refine ⟨List.mem_cons_self .., fun n hn => ?_⟩
    rcases List.mem_cons.mp hn with rfl | hn
    · exact Int.le_refl _
    · exact (List.pairwise_cons.mp s).1 n hn
theorem key_snd : (keyBy h k t).2 = t.names.headD 0 := by cases k <;> rfl
/-- no thing of a tree is ahead of the tree's key -/
theorem key_le (H : HouseOk h) (g : Good h t) (hn : n ∈ t.names) : pairLe (keyBy h k t) (keyT h k n) := by
  have h2 : (keyBy h k t).2 ≤ n := by rw [key_snd]; exact g.head.2 n hn
  have h1 : (keyBy h k t).1 ≤ k.far (thingAt h n) := by
    cases k with
    | near p =>
      show stepsTo t.bnd p ≤ stepsD (thingAt h n).place p
      exact stepsTo_le _ _ _ (by rw [g.len H]; exact (place_len H (g.sub n hn)).symm) (g.inB H hn)
    | best =>
      show 0 - mostI (t.names.map (worthOf h)) ≤ -(thingAt h n).worth
      have : worthOf h n ≤ mostI (t.names.map (worthOf h)) := mostI_ge (List.mem_map.mpr ⟨n, hn, rfl⟩)
      rw [worth_at (g.sub n hn)] at this
      omega
  unfold pairLe keyT
  simp only
  omega
theorem key_leaf (g : Good h (.lf n b)) : keyBy h k (.lf n b) = keyT h k n := by
  have hm := g.sub n (List.mem_singleton.mpr rfl)
  have hb : b = boundsOf [placeAt h n] := by cases g.tree with | lf e => exact e
  cases k with
  | near p =>
    show (stepsTo b p, n) = (stepsD (placeAt h n) p, n)
    rw [hb, bounds_self, stepsTo_self]
  | best =>
    show (0 - worthOf h n, n) = (-(thingAt h n).worth, n)
    rw [worth_at hm, Int.zero_sub]
theorem key_names (H : HouseOk h) {u : Tr} (g : Good h t) (gu : Good h u) (e : t.names = u.names) : keyBy h k t = keyBy h k u := by
  cases k with
  | near p =>
    show (stepsTo t.bnd p, t.names.headD 0) = (stepsTo u.bnd p, u.names.headD 0)
    rw [g.bnd H, gu.bnd H, e]
  | best =>
    show (0 - mostI (t.names.map (worthOf h)), t.names.headD 0) = (0 - mostI (u.names.map (worthOf h)), u.names.headD 0)
    rw [e]
theorem told_keys (ns : List Int) : keysTold h k ns = ns.map (keyT h k) := by
  unfold keysTold
  apply List.map_congr_left
  intro n _
  show (far0 k (thingAt h n), n) = (k.far (thingAt h n), n)
  cases k with
  | near p =>
    show (stepsTo _ p, n) = (stepsD _ p, n)
    rw [stepsTo_self]
  | best =>
    show (0 - (thingAt h n).worth, n) = (-(thingAt h n).worth, n)
    rw [Int.zero_sub]
end
/-! ### the least key -/
theorem minP_le : ∀ (xs : List (Int × Int)) (x : Int × Int), pairLe (minP x xs) x ∧ ∀ y ∈ xs, pairLe (minP x xs) y
  | [], x => ⟨.inr ⟨rfl, Int.le_refl _⟩, nofun⟩
  | y :: xs, x => by
    have e : minP x (y :: xs) = minP (if pairLt y x then y else x) xs := rfl
    rw [e]
    obtain ⟨h1, h2⟩ := minP_le xs (if pairLt y x then y else x)
    by_cases q : pairLt y x = true
    · rw [if_pos q] at h1 h2 ⊢
      refine ⟨h1.trans (pairLt.le q), fun z hz => ?_⟩
      rcases List.mem_cons.mp hz with rfl | hz
      · exact h1
      · exact h2 z hz
    · rw [if_neg q] at h1 h2 ⊢
      refine ⟨h1, fun z hz => ?_⟩
      rcases List.mem_cons.mp hz with rfl | hz
      · exact h1.trans (pairLe_of_not q)
      · exact h2 z hz
theorem take_least {ws : List Wt} {w : Wt} (h : ws[takeAt ws]? = some w) : ∀ u ∈ ws, pairLe w.1 u.1 := by
  cases ws with
  | nil => intro u hu; cases hu
  | cons x xs =>
    have e : takeAt (x :: xs) = placeP (x.1 :: xs.map (·.1)) (minP x.1 (xs.map (·.1))) := rfl
    have q := placeP_at (minP_mem (xs.map (·.1)) x.1)
    rw [← e, show x.1 :: xs.map (·.1) = (x :: xs).map (·.1) from rfl, List.getElem?_map, h] at q
    have q : w.1 = minP x.1 (xs.map (·.1)) := Option.some.inj q
    obtain ⟨h1, h2⟩ := minP_le (xs.map (·.1)) x.1
    intro u hu
    rw [q]
    rcases List.mem_cons.mp hu with rfl | hu
    · exact h1
    · exact h2 _ (List.mem_map.mpr ⟨u, hu, rfl⟩)
/-! ### what is told and what waits -/
def wNames (ws : List Wt) : List Int := ws.flatMap fun w => w.2.names
theorem wNames_app (xs ys : List Wt) : wNames (xs ++ ys) = wNames xs ++ wNames ys := List.flatMap_append ..
def Fr (p : Plain) (told : List Int) (ws : List Wt) : Tr → Prop
  | .lf n b => lieApart b p = true ∨ (∃ w ∈ ws, w.2 = .lf n b) ∨ n ∈ told
  | .nd ns b l r => lieApart b p = true ∨ (∃ w ∈ ws, w.2 = .nd ns b l r) ∨ (Fr p told ws l ∧ Fr p told ws r)
section
variable {h : House} {p : Plain} {k : Kind} {told told' : List Int} {ws ws' : List Wt} {t : Tr}
theorem Fr.apart (a : lieApart t.bnd p = true) : Fr p told ws t := by
  cases t with
  | lf n b => exact .inl a
  | nd ns b l r => exact .inl a
theorem Fr.wait {w : Wt} (hw : w ∈ ws) (e : w.2 = t) : Fr p told ws t := by
  cases t with
  | lf n b => exact .inr (.inl ⟨w, hw, e⟩)
  | nd ns b l r => exact .inr (.inl ⟨w, hw, e⟩)
theorem Fr.step (h1 : ∀ w ∈ ws, w ∈ ws' ∨ Fr p told' ws' w.2) (h2 : ∀ n ∈ told, n ∈ told') : ∀ {t : Tr}, Fr p told ws t → Fr p told' ws' t := by
  intro t
  induction t with
  | lf n b =>
    rintro (a | ⟨w, hw, e⟩ | hn)
    · exact .inl a
    · rcases h1 w hw with q | q
      · exact .inr (.inl ⟨w, q, e⟩)
      · rw [e] at q; exact q
    · exact .inr (.inr (h2 n hn))
  | nd ns b l r ih1 ih2 =>
    rintro (a | ⟨w, hw, e⟩ | ⟨q1, q2⟩)
    · exact .inl a
    · rcases h1 w hw with q | q
      · exact .inr (.inl ⟨w, q, e⟩)
      · rw [e] at q; exact q
    · exact .inr (.inr ⟨ih1 q1, ih2 q2⟩)
/-- while drawing -/
structure Draws (h : House) (p : Plain) (k : Kind) (T : Tr) (told : List Int) (ws : List Wt) : Prop where
  good : ∀ w ∈ ws, Good h w.2 ∧ w.1 = keyBy h k w.2 ∧ lieApart w.2.bnd p = false
  nd : (told ++ wNames ws).Nodup
  fr : Fr p told ws T
  ahead : ∀ a ∈ told, ∀ n ∈ wNames ws, pairLt (keyT h k a) (keyT h k n) = true
  rise : told.Pairwise fun a b => pairLt (keyT h k a) (keyT h k b) = true
  fit : ∀ n ∈ told, n ∈ h.things.map (·.name) ∧ InP p (placeAt h n)
theorem erase_perm : ∀ {ws : List Wt} {i : Nat} {w : Wt}, ws[i]? = some w → (wNames ws).Perm (w.2.names ++ wNames (ws.eraseIdx i))
  | [], _, _, e => by simp at e
  | x :: xs, 0, w, e => by
    have e : x = w := by simpa using e
    subst e
    exact .refl _
  | x :: xs, i + 1, w, e => by
    have ih := erase_perm (ws := xs) (i := i) (w := w) (by simpa using e)
    show (x.2.names ++ wNames xs).Perm (w.2.names ++ (x.2.names ++ wNames (xs.eraseIdx i)))
    refine ((List.Perm.refl x.2.names).append ih).trans ?_
    rw [← List.append_assoc, ← List.append_assoc]
    exact List.perm_append_comm.append_right _
theorem mem_wNames {n : Int} : n ∈ wNames ws ↔ ∃ w ∈ ws, n ∈ w.2.names := List.mem_flatMap
theorem erase_or {i : Nat} {w u : Wt} (e : ws[i]? = some w) (hu : u ∈ ws) : u ∈ ws.eraseIdx i ∨ u = w := by
  induction ws generalizing i with
  | nil => cases hu
  | cons x xs ih =>
    cases i with
    | zero =>
      have e : x = w := by simpa using e
      subst e
      rcases List.mem_cons.mp hu with rfl | hu
      · exact .inr rfl
      · exact .inl hu
    | succ i =>
      rcases List.mem_cons.mp hu with rfl | hu
      · exact .inl (List.mem_cons_self ..)
      · rcases ih (i := i) (by simpa using e) hu with q | q
        · exact .inl (List.mem_cons_of_mem _ q)
        · exact .inr q
theorem put_names (t : Tr) : (wNames (waitPut h p k ws t)).Sublist (wNames ws ++ t.names) := by
  unfold waitPut
  by_cases q : lieApart t.bnd p = true
  · rw [if_pos q]; exact List.sublist_append_left _ _
  · rw [if_neg q, wNames_app]
    have e : wNames [(keyBy h k t, t)] = t.names := by unfold wNames; simp
    rw [e]
    exact .refl _
theorem put_mem {t : Tr} {w : Wt} : w ∈ waitPut h p k ws t ↔ w ∈ ws ∨ (lieApart t.bnd p = false ∧ w = (keyBy h k t, t)) := by
  unfold waitPut
  by_cases q : lieApart t.bnd p = true
  · rw [if_pos q]; simp [q]
  · rw [if_neg q, List.mem_append, List.mem_singleton]
    have q' : lieApart t.bnd p = false := by simpa using q
    simp [q']
theorem put_fr {t : Tr} : Fr p told (waitPut h p k ws t) t := by
  by_cases q : lieApart t.bnd p = true
  · exact .apart q
  · exact Fr.wait (put_mem.mpr (.inr ⟨by simpa using q, rfl⟩)) rfl
end
section
variable {h : House} {b : Box} {k : Kind} {T : Tr} {told : List Int} {ws ws' : List Wt}
/-- what one drawing leaves -/
def After (h : House) (b : Box) (k : Kind) (T : Tr) (told : List Int) (o : Option Int) (ws' : List Wt) : Prop := match o with
  | none => ws' = [] ∧ Draws h (plainBox b) k T told []
  | some n => Draws h (plainBox b) k T (told ++ [n]) ws' ∧ ∀ w ∈ ws', pairLt (keyT h k n) w.1 = true
theorem next_after (H : HouseOk h) (hb : b.length = h.d) {j : Nat} {o : Option Int} (x : Next h (plainBox b) k ws j o ws') (D : Draws h (plainBox b) k T told ws) : After h b k T told o ws' := by
  induction x with
  | none => exact ⟨rfl, D⟩
  | @leaf ws w n bn e1 e2 =>
    have pm := erase_perm e1
    have hw : w ∈ ws := List.mem_of_getElem? e1
    obtain ⟨g, ek, na⟩ := D.good w hw
    have el := take_least e1
    rw [e2] at g ek na pm
    have nn : (Tr.lf n bn).names = [n] := rfl
    rw [nn] at pm
    have nd1 : (told ++ ([n] ++ wNames (ws.eraseIdx (takeAt ws)))).Nodup := ((List.Perm.refl told).append pm).nodup_iff.mp D.nd
    rw [key_leaf g] at ek
    have sub : ∀ u ∈ ws.eraseIdx (takeAt ws), u ∈ ws := fun u hu => (List.eraseIdx_sublist ws _).subset hu
    have nin : ∀ m ∈ wNames (ws.eraseIdx (takeAt ws)), n ≠ m := by
      intro m hm e
      have := (List.nodup_append.mp nd1).2.1
      rw [List.singleton_append, List.nodup_cons] at this
      exact this.1 (by rw [e]; exact hm)
    have lt : ∀ u ∈ ws.eraseIdx (takeAt ws), pairLt (keyT h k n) u.1 = true := by
      intro u hu
      obtain ⟨gu, eu, _⟩ := D.good u (sub u hu)
      have := el u (sub u hu)
      rw [ek] at this
      refine this.lt ?_
      rw [eu, key_snd]
      exact nin _ (mem_wNames.mpr ⟨u, hu, gu.head.1⟩)
    have hl : (Tr.lf n bn).bnd.length = (plainBox b).length := by rw [g.len H, plain_len, hb]
    have h0 : 0 < (Tr.lf n bn).bnd.length := by rw [g.len H]; exact H.d1
    have wi : Within (Tr.lf n bn).bnd (plainBox b) := by
      rcases point_or (p := plainBox b) (g.leaf H) with q | q
      · have := (apart_iff hl h0).mpr q
        rw [na] at this
        cases this
      · exact q
    refine ⟨⟨fun u hu => D.good u (sub u hu), ?_, ?_, ?_, ?_, ?_⟩, lt⟩
    · rw [List.append_assoc]; exact nd1
    · refine Fr.step (fun u hu => ?_) (fun m hm => List.mem_append_left _ hm) D.fr
      rcases erase_or e1 hu with q | rfl
      · exact .inl q
      · right
        rw [e2]
        exact .inr (.inr (List.mem_append_right _ (List.mem_singleton.mpr rfl)))
    · intro a ha m hm
      obtain ⟨u, hu, hmu⟩ := mem_wNames.mp hm
      rcases List.mem_append.mp ha with q | q
      · exact D.ahead a q m (mem_wNames.mpr ⟨u, sub u hu, hmu⟩)
      · rw [List.mem_singleton.mp q]
        obtain ⟨gu, eu, _⟩ := D.good u (sub u hu)
        have l1 := el u (sub u hu)
        rw [ek, eu] at l1
        exact (l1.trans (key_le H gu hmu)).lt (nin m hm)
    · rw [List.pairwise_append]
      refine ⟨D.rise, List.pairwise_singleton .., fun a ha c hc => ?_⟩
      rw [List.mem_singleton.mp hc]
      exact D.ahead a ha n (mem_wNames.mpr ⟨w, hw, by rw [e2]; exact List.mem_singleton.mpr rfl⟩)
    · intro m hm
      rcases List.mem_append.mp hm with q | q
      · exact D.fit m q
      · rw [List.mem_singleton.mp q]
        have hn : n ∈ (Tr.lf n bn).names := List.mem_singleton.mpr rfl
        exact ⟨g.sub n hn, within_in hl (g.inB H hn) wi⟩
  | @node ws ws' w ns bn l r j o e1 e2 _ ih =>
    apply ih
    have pm := erase_perm e1
    have hw : w ∈ ws := List.mem_of_getElem? e1
    obtain ⟨g, ek, na⟩ := D.good w hw
    rw [e2] at g ek na pm
    obtain ⟨g1, g2, pk⟩ := g.kids
    have sub : ∀ u ∈ ws.eraseIdx (takeAt ws), u ∈ ws := fun u hu => (List.eraseIdx_sublist ws _).subset hu
    have nsub : (wNames (waitPut h (plainBox b) k (waitPut h (plainBox b) k (ws.eraseIdx (takeAt ws)) l) r)).Sublist (wNames (ws.eraseIdx (takeAt ws)) ++ (l.names ++ r.names)) := by
      rw [← List.append_assoc]
      exact (put_names r).trans ((put_names l).append (.refl _))
    have pall : (wNames (ws.eraseIdx (takeAt ws)) ++ (l.names ++ r.names)).Perm (wNames ws) := by
      refine (List.Perm.trans ?_ pm.symm)
      exact (List.perm_append_comm).trans (pk.append_right _)
    have inn : ∀ n ∈ wNames (waitPut h (plainBox b) k (waitPut h (plainBox b) k (ws.eraseIdx (takeAt ws)) l) r), n ∈ wNames ws := fun n hn => pall.mem_iff.mp (nsub.subset hn)
    refine ⟨fun u hu => ?_, ?_, ?_, fun a ha n hn => D.ahead a ha n (inn n hn), D.rise, D.fit⟩
    · rcases put_mem.mp hu with hu | ⟨q, rfl⟩
      · rcases put_mem.mp hu with hu | ⟨q, rfl⟩
        · exact D.good u (sub u hu)
        · exact ⟨g1, rfl, q⟩
      · exact ⟨g2, rfl, q⟩
    · refine List.Sublist.nodup ((List.Sublist.refl told).append nsub) ?_
      exact ((List.Perm.refl told).append pall).nodup_iff.mpr D.nd
    · refine Fr.step (fun u hu => ?_) (fun m hm => hm) D.fr
      rcases erase_or e1 hu with q | rfl
      · exact .inl (put_mem.mpr (.inl (put_mem.mpr (.inl q))))
      · right
        rw [e2]
        refine .inr (.inr ⟨?_, put_fr⟩)
        exact Fr.step (fun u hu => .inl (put_mem.mpr (.inl hu))) (fun m hm => hm) (put_fr (ws := ws.eraseIdx (takeAt ws)))
theorem drawn_after (H : HouseOk h) (hb : b.length = h.d) {m j : Nat} {ns : List Int} (x : Drawn h (plainBox b) k m ws ns j ws') : ∀ {told : List Int}, Draws h (plainBox b) k T told ws → (∀ a, told.getLast? = some a → ∀ w ∈ ws, pairLt (keyT h k a) w.1 = true) →
    Draws h (plainBox b) k T (told ++ ns) ws' ∧ ns.length ≤ m ∧ (ns.length < m → ws' = []) ∧ ∀ a, (told ++ ns).getLast? = some a → ∀ w ∈ ws', pairLt (keyT h k a) w.1 = true := by
  induction x with
  | stop =>
    intro told D hl
    rw [List.append_nil]
    exact ⟨D, Nat.le_refl _, fun q => absurd q (Nat.lt_irrefl _), hl⟩
  | none q =>
    intro told D hl
    obtain ⟨rfl, D'⟩ := next_after H hb q D
    rw [List.append_nil]
    exact ⟨D', Nat.zero_le _, fun _ => rfl, nofun⟩
  | more q _ ih =>
    intro told D hl
    rename_i n ns _
    obtain ⟨D', hl'⟩ := next_after H hb q D
    obtain ⟨r1, r2, r3, r4⟩ := ih D' (fun a e => by
      rw [List.getLast?_append] at e
      have e : n = a := by simpa using e
      rw [← e]
      exact hl')
    rw [List.append_assoc] at r1 r4
    exact ⟨r1, Nat.succ_le_succ r2, fun q => r3 (Nat.lt_of_succ_lt_succ q), r4⟩
end
end Bx
namespace Bx
/-! ### the order of what fits -/
section
variable {h : House} {b : Box} {k : Kind}
def Rise (h : House) (k : Kind) (ns : List Int) : Prop := ns.Pairwise fun a b => pairLt (keyT h k a) (keyT h k b) = true
theorem sorted_rise (H : HouseOk h) : Rise h k (namesOf (sortedBy k (thingsIn h b))) := by
  have pm : (sortedBy k (thingsIn h b)).Perm (thingsIn h b) := List.mergeSort_perm ..
  have s := List.pairwise_mergeSort (le := kindLe k) (fun x y z h1 h2 => by unfold kindLe at *; rw [decide_eq_true_eq] at *; omega) (fun x y => by unfold kindLe; rw [Bool.or_eq_true, decide_eq_true_eq, decide_eq_true_eq]; omega) (thingsIn h b)
  have nd : (namesOf (sortedBy k (thingsIn h b))).Nodup := (pm.map Thing.name).nodup_iff.mpr (thingsIn_nodup H)
  have nd2 := List.pairwise_map.mp nd
  refine List.pairwise_map.mpr ?_
  have both := List.Pairwise.and s nd2
  refine List.Pairwise.imp_of_mem (fun {t u} ht hu q => ?_) both
  have tin : ∀ {t}, t ∈ sortedBy k (thingsIn h b) → t ∈ h.things := fun q => (List.mem_filter.mp (pm.mem_iff.mp q)).1
  obtain ⟨q1, q2⟩ := q
  have l : pairLe (keyT h k t.name) (keyT h k u.name) := by
    unfold kindLe at q1
    rw [decide_eq_true_eq] at q1
    unfold pairLe keyT
    rw [thingAt_of H (tin ht), thingAt_of H (tin hu)]
    exact q1
  exact l.lt q2
theorem sorted_perm : (namesOf (sortedBy k (thingsIn h b))).Perm (namesOf (thingsIn h b)) := (List.mergeSort_perm ..).map Thing.name
theorem rise_unique {xs ys : List Int} (h1 : Rise h k xs) (h2 : Rise h k ys) (p : xs.Perm ys) : xs = ys :=
  List.Perm.eq_of_pairwise (fun a b _ _ q1 q2 => by rw [pairLt_asymm q1] at q2; cases q2) h1 h2 p
end
/-! ### the end of a drawing -/
structure Ends' (h : House) (b : Box) (k : Kind) (T : Tr) (m : Nat) (ns : List Int) (waits : List (List Int)) (ws : List Wt) : Prop where
  good : ∀ w ∈ ws, Good h w.2 ∧ w.1 = keyBy h k w.2
  nd : (ns ++ wNames ws).Nodup
  fr : Fr (plainBox b) ns ws T
  ahead : ∀ a ∈ ns, ∀ n ∈ wNames ws, pairLt (keyT h k a) (keyT h k n) = true
  rise : Rise h k ns
  fit : ∀ n ∈ ns, n ∈ h.things.map (·.name) ∧ InP (plainBox b) (placeAt h n)
  last : ∀ a, ns.getLast? = some a → ∀ w ∈ ws, pairLt (keyT h k a) w.1 = true
  few : ns.length ≤ m
  short : ns.length < m → ws = []
  wt : ∀ nm, nm ∈ waits ↔ ∃ w ∈ ws, w.2.names = nm
theorem draws_start {h : House} {b : Box} {k : Kind} {T : Tr} (g : Good h T) : Draws h (plainBox b) k T [] (waitPut h (plainBox b) k [] T) := by
  refine ⟨fun w hw => ?_, ?_, put_fr, nofun, List.Pairwise.nil, nofun⟩
  · rcases put_mem.mp hw with q | ⟨q, rfl⟩
    · cases q
    · exact ⟨g, rfl, q⟩
  · have := put_names (h := h) (p := plainBox b) (k := k) (ws := []) T
    exact List.Sublist.nodup this g.nd
theorem drawn_ends {h : House} (H : HouseOk h) {b : Box} (hb : b.length = h.d) {k : Kind} {T : Tr} (g : Good h T) {m : Nat} {x : List Int × Nat × List (List Int)} (d : DrawnIs ⟨h, some T, b, k⟩ m x) : ∃ ws, Ends' h b k T m x.1 (waitsOf m T x.2.2) ws := by
  unfold DrawnIs at d
  by_cases e : m = 0
  · rw [if_pos e] at d
    subst d e
    refine ⟨[(keyBy h k T, T)], fun w hw => ?_, ?_, Fr.wait (List.mem_singleton.mpr rfl) rfl, nofun, List.Pairwise.nil, nofun, nofun, Nat.le_refl _, fun q => absurd q (Nat.lt_irrefl _), fun nm => ?_⟩
    · rw [List.mem_singleton.mp hw]; exact ⟨g, rfl⟩
    · show ([] ++ wNames [(keyBy h k T, T)]).Nodup
      unfold wNames
      simpa using g.nd
    · unfold waitsOf
      rw [if_pos rfl, List.mem_singleton]
      constructor
      · intro q; exact ⟨_, List.mem_singleton.mpr rfl, q.symm⟩
      · rintro ⟨w, hw, q⟩; rw [List.mem_singleton.mp hw] at q; exact q.symm
  · rw [if_neg e] at d
    obtain ⟨ws', d1, d2⟩ := d
    obtain ⟨r1, r2, r3, r4⟩ := drawn_after H hb d1 (told := []) (draws_start g) nofun
    rw [List.nil_append] at r1 r4
    refine ⟨ws', fun w hw => ⟨(r1.good w hw).1, (r1.good w hw).2.1⟩, r1.nd, r1.fr, r1.ahead, r1.rise, r1.fit, r4, r2, r3, fun nm => ?_⟩
    unfold waitsOf
    rw [if_neg e, d2, List.mem_map]
    exact exists_congr fun w => and_congr_left fun _ => (sortW_perm ws').mem_iff
section
variable {h : House} {b : Box} {k : Kind} {T : Tr} {m : Nat} {ns : List Int} {waits : List (List Int)} {ws : List Wt}
theorem Fr.find (H : HouseOk h) (hb : b.length = h.d) {n : Int} (f : InP (plainBox b) (placeAt h n)) : ∀ {t : Tr}, Good h t → Fr (plainBox b) ns ws t → n ∈ t.names → n ∈ ns ∨ n ∈ wNames ws := by
  have no : ∀ {t : Tr}, Good h t → n ∈ t.names → ¬ lieApart t.bnd (plainBox b) = true := by
    intro t g hn a
    have hl : t.bnd.length = (plainBox b).length := by rw [g.len H, plain_len, hb]
    have h0 : 0 < t.bnd.length := by rw [g.len H]; exact H.d1
    exact apart_no hl (g.inB H hn) ((apart_iff hl h0).mp a) f
  intro t
  induction t with
  | lf n' bn =>
    rintro g (a | ⟨w, hw, e⟩ | q) hn
    · exact absurd a (no g hn)
    · exact .inr (mem_wNames.mpr ⟨w, hw, by rw [e]; exact hn⟩)
    · rw [List.mem_singleton.mp hn]; exact .inl q
  | nd ns' bn l r ih1 ih2 =>
    rintro g (a | ⟨w, hw, e⟩ | ⟨q1, q2⟩) hn
    · exact absurd a (no g hn)
    · exact .inr (mem_wNames.mpr ⟨w, hw, by rw [e]; exact hn⟩)
    · obtain ⟨g1, g2, p⟩ := g.kids
      rcases List.mem_append.mp (p.mem_iff.mpr hn) with z | z
      · exact ih1 g1 q1 z
      · exact ih2 g2 q2 z
theorem Ends'.names (H : HouseOk h) (hb : b.length = h.d) (g : Good h T) (en : T.names = h.things.map (·.name)) (E : Ends' h b k T m ns waits ws) : ns = (namesOf (sortedBy k (thingsIn h b))).take m := by
  have pm := sorted_perm (h := h) (b := b) (k := k)
  have ri := sorted_rise (b := b) (k := k) H
  have nd := pm.nodup_iff.mpr (thingsIn_nodup H)
  have fit : ∀ n, n ∈ namesOf (sortedBy k (thingsIn h b)) ↔ n ∈ h.things.map (·.name) ∧ InP (plainBox b) (placeAt h n) := fun n => by
    rw [pm.mem_iff]
    constructor
    · intro q
      exact ⟨thingsIn_sub q, (name_fits H hb (thingsIn_sub q)).mp q⟩
    · rintro ⟨q1, q2⟩
      exact (name_fits H hb q1).mpr q2
  generalize namesOf (sortedBy k (thingsIn h b)) = whole at pm ri nd fit
  have e : whole = ns ++ whole.filter fun n => decide (n ∉ ns) := by
    have n1 : ns.Nodup := (List.nodup_append.mp E.nd).1
    refine rise_unique ri ?_ ?_
    · refine List.pairwise_append.mpr ⟨E.rise, List.Pairwise.filter _ ri, fun a ha c hc => ?_⟩
      obtain ⟨c1, c2⟩ := List.mem_filter.mp hc
      have c2 := of_decide_eq_true c2
      obtain ⟨c3, c4⟩ := (fit c).mp c1
      rcases Fr.find H hb c4 g E.fr (by rw [en]; exact c3) with q | q
      · exact absurd q c2
      · exact E.ahead a ha c q
    · refine (List.perm_ext_iff_of_nodup nd (List.nodup_append.mpr ⟨n1, nd.filter _, fun a ha c hc q => ?_⟩)).mpr fun n => ?_
      · have := of_decide_eq_true (List.mem_filter.mp hc).2
        exact this (by rw [← q]; exact ha)
      · rw [List.mem_append, List.mem_filter, decide_eq_true_eq]
        constructor
        · intro q
          by_cases z : n ∈ ns
          · exact .inl z
          · exact .inr ⟨q, z⟩
        · rintro (q | q)
          · exact (fit n).mpr (E.fit n q)
          · exact q.1
  by_cases l : ns.length = m
  · rw [e, ← l, List.take_left]
  · have w0 := E.short (Nat.lt_of_le_of_ne E.few l)
    have e0 : (whole.filter fun n => decide (n ∉ ns)) = [] := by
      rw [List.filter_eq_nil_iff]
      intro n hn
      rw [decide_eq_true_eq]
      obtain ⟨c3, c4⟩ := (fit n).mp hn
      rcases Fr.find H hb c4 g E.fr (by rw [en]; exact c3) with q | q
      · exact fun z => z q
      · rw [w0] at q; cases q
    rw [e0, List.append_nil] at e
    rw [e, List.take_of_length_le E.few]
/-! ### the parts of a paper -/
def StandsD (p : Plain) (ns : List Int) (waits : List (List Int)) (x : TP) : Prop := (∃ q n bn, x = (.lf n bn, .inn q) ∧ Within bn p ∧ n ∈ ns) ∨ (∃ q i s, x.2 = .out q i s ∧ i < p.length ∧ liesOut x.1.bnd p i s = true ∧ Apart x.1.bnd p) ∨ ∃ q, x.2 = .far q ∧ x.1.names ∈ waits
theorem drawn_laid (H : HouseOk h) (hb : b.length = h.d) (hw : ∀ w ∈ ws, w.2.names ∈ waits) : ∀ {t : Tr} {path : List Bool}, Good h t → Fr (plainBox b) ns ws t → treeAt (some T) path = some t → ∃ xs : List TP, xs.map (·.2) = partsDrawn (plainBox b) waits t path ∧ Laid T xs ∧ (allNames xs).Perm t.names ∧ ∀ x ∈ xs, Good h x.1 ∧ StandsD (plainBox b) ns waits x ∧ x.2.path.length ≤ path.length + t.height := by
  intro t
  induction t with
  | lf n bn =>
    intro path g fr hat
    have hl : bn.length = (plainBox b).length := by have := g.len H; rw [plain_len, hb]; exact this
    have h0 : 0 < bn.length := by have := g.len H; have e : bn.length = h.d := this; rw [e]; exact H.d1
    by_cases a : lieApart bn (plainBox b) = true
    · obtain ⟨s1, s2'⟩ := outPart_stands H g hb a path
      have s2 : (outPart bn (plainBox b) path).path = path := s2'
      refine ⟨[(.lf n bn, outPart bn (plainBox b) path)], by unfold partsDrawn; rw [if_pos a]; rfl, fun x hx => ?_, .refl _, fun x hx => ?_⟩
      · rw [List.mem_singleton.mp hx]
        show treeAt (some T) (outPart bn (plainBox b) path).path = _
        rw [s2]; exact hat
      · rw [List.mem_singleton.mp hx]
        refine ⟨g, ?_, ?_⟩
        · rcases s1 with ⟨q, e, w⟩ | q
          · exact absurd ((apart_iff hl h0).mp a) (within_not_apart (g.ord H) w)
          · exact .inr (.inl q)
        · show (outPart bn (plainBox b) path).path.length ≤ _
          rw [s2]; exact Nat.le_add_right _ _
    · by_cases f : [n] ∈ waits
      · refine ⟨[(.lf n bn, .far path)], by unfold partsDrawn; rw [if_neg a, if_pos f]; rfl, fun x hx => ?_, .refl _, fun x hx => ?_⟩
        · rw [List.mem_singleton.mp hx]; exact hat
        · rw [List.mem_singleton.mp hx]
          exact ⟨g, .inr (.inr ⟨path, rfl, f⟩), Nat.le_add_right _ _⟩
      · refine ⟨[(.lf n bn, .inn path)], by unfold partsDrawn; rw [if_neg a, if_neg f]; rfl, fun x hx => ?_, .refl _, fun x hx => ?_⟩
        · rw [List.mem_singleton.mp hx]; exact hat
        · rw [List.mem_singleton.mp hx]
          refine ⟨g, .inl ⟨path, n, bn, rfl, ?_, ?_⟩, Nat.le_add_right _ _⟩
          · rcases point_or (p := plainBox b) (g.leaf H) with q | q
            · exact absurd ((apart_iff hl h0).mpr q) a
            · exact q
          · rcases fr with q | ⟨w, hw', e⟩ | q
            · exact absurd q a
            · have := hw w hw'
              rw [e] at this
              exact absurd this f
            · exact q
  | nd ns' bn l r ih1 ih2 =>
    intro path g fr hat
    have hl : bn.length = (plainBox b).length := by have := g.len H; rw [plain_len, hb]; exact this
    have h0 : 0 < bn.length := by have := g.len H; have e : bn.length = h.d := this; rw [e]; exact H.d1
    by_cases a : lieApart bn (plainBox b) = true
    · obtain ⟨s1, s2'⟩ := outPart_stands H g hb a path
      have s2 : (outPart bn (plainBox b) path).path = path := s2'
      refine ⟨[(.nd ns' bn l r, outPart bn (plainBox b) path)], by unfold partsDrawn; rw [if_pos a]; rfl, fun x hx => ?_, by unfold allNames; simp [Tr.names], fun x hx => ?_⟩
      · rw [List.mem_singleton.mp hx]
        show treeAt (some T) (outPart bn (plainBox b) path).path = _
        rw [s2]; exact hat
      · rw [List.mem_singleton.mp hx]
        refine ⟨g, ?_, ?_⟩
        · rcases s1 with ⟨q, e, w⟩ | q
          · exact absurd ((apart_iff hl h0).mp a) (within_not_apart (g.ord H) w)
          · exact .inr (.inl q)
        · show (outPart bn (plainBox b) path).path.length ≤ _
          rw [s2]; exact Nat.le_add_right _ _
    · by_cases f : ns' ∈ waits
      · refine ⟨[(.nd ns' bn l r, .far path)], by unfold partsDrawn; rw [if_neg a, if_pos f]; rfl, fun x hx => ?_, by unfold allNames; simp [Tr.names], fun x hx => ?_⟩
        · rw [List.mem_singleton.mp hx]; exact hat
        · rw [List.mem_singleton.mp hx]
          exact ⟨g, .inr (.inr ⟨path, rfl, f⟩), Nat.le_add_right _ _⟩
      · obtain ⟨g1, g2, pm⟩ := g.kids
        have fr2 : Fr (plainBox b) ns ws l ∧ Fr (plainBox b) ns ws r := by
          rcases fr with q | ⟨w, hw', e⟩ | q
          · exact absurd q a
          · have := hw w hw'
            rw [e] at this
            exact absurd this f
          · exact q
        obtain ⟨xs, a1, a2, a3, a4⟩ := ih1 (path := path ++ [false]) g1 fr2.1 (treeAt_snoc path _ _ false hat)
        obtain ⟨ys, b1, b2, b3, b4⟩ := ih2 (path := path ++ [true]) g2 fr2.2 (treeAt_snoc path _ _ true hat)
        have hh : (Tr.nd ns' bn l r).height = max l.height r.height + 1 := rfl
        refine ⟨xs ++ ys, by unfold partsDrawn; rw [if_neg a, if_neg f, List.map_append, a1, b1], fun x hx => ?_, ?_, fun x hx => ?_⟩
        · rcases List.mem_append.mp hx with q | q
          · exact a2 x q
          · exact b2 x q
        · rw [allNames_app]
          exact (a3.append b3).trans pm
        · rcases List.mem_append.mp hx with q | q
          · obtain ⟨c1, c2, c3⟩ := a4 x q
            refine ⟨c1, c2, ?_⟩
            rw [List.length_append] at c3
            simp only [List.length_singleton] at c3
            omega
          · obtain ⟨c1, c2, c3⟩ := b4 x q
            refine ⟨c1, c2, ?_⟩
            rw [List.length_append] at c3
            simp only [List.length_singleton] at c3
            omega
theorem far_any {xs : List TP} (hf : ∀ x ∈ xs, x.2.isFar = false) : (xs.map (·.2)).any Part.isFar = false := by
  rw [List.any_eq_false]
  intro q hq
  obtain ⟨x, hx, rfl⟩ := List.mem_map.mp hq
  rw [hf x hx]
  exact Bool.false_ne_true
/-- the parts show the names -/
theorem ends_show (H : HouseOk h) (hb : b.length = h.d) (g : Good h T) (en : T.names = h.things.map (·.name)) (E : Ends' h b k T m ns waits ws) : partsShow h T b k (keysTold h k ns) (partsDrawn (plainBox b) waits T []) = true ∧ (ns.length < m → (partsDrawn (plainBox b) waits T []).any Part.isFar = false) ∧ LookOk h.d b T (partsDrawn (plainBox b) waits T []) := by
  obtain ⟨xs, x1, x2, x3, x4⟩ := drawn_laid (T := T) H hb (fun w hw => (E.wt _).mpr ⟨w, hw, rfl⟩) (path := []) g E.fr rfl
  have many : (partsDrawn (plainBox b) waits T []).length ≤ 200 := by
    have h1 := partsDrawn_len (plainBox b) waits T []
    have := g.leaves
    have := g.few H
    omega
  rw [← x1] at many ⊢
  have hsrt : sortI T.names = T.names := by rw [en]; exact H.sorted
  have lens : ∀ {t : Tr}, Good h t → t.bnd.length = (plainBox b).length ∧ 0 < t.bnd.length := fun gt => ⟨by rw [gt.len H, plain_len, hb], by rw [gt.len H]; exact H.d1⟩
  have inn : ∀ x ∈ xs, takenHere (plainBox b) x = true ↔ ∃ q n bn, x = (.lf n bn, .inn q) ∧ Within bn (plainBox b) ∧ n ∈ ns := by
    intro x hx
    obtain ⟨gx, sx, _⟩ := x4 x hx
    constructor
    · intro q
      rcases sx with q1 | ⟨q', i, s, e, _⟩ | ⟨q', e, _⟩
      · exact q1
      · unfold takenHere at q; rw [e] at q; cases q
      · unfold takenHere at q; rw [e] at q; cases q
    · rintro ⟨q, n, bn, rfl, w, _⟩
      show (liesWithin bn (plainBox b) && decide (([n] : List Int).length = 1)) = true
      have := (lens gx)
      have wi : liesWithin bn (plainBox b) = true := (within_iff this.1 this.2 (gx.ord H)).mpr w
      rw [wi]
      rfl
  have out : ∀ x ∈ xs, (∃ q i s, x.2 = .out q i s ∧ i < (plainBox b).length ∧ liesOut x.1.bnd (plainBox b) i s = true ∧ Apart x.1.bnd (plainBox b)) → isOutD (plainBox b) x.1 x.2 = true := by
    rintro x hx ⟨q, i, s, e, hi, lo, _⟩
    rw [e]
    show (decide (i < (plainBox b).length) && liesOut x.1.bnd (plainBox b) i s) = true
    rw [lo, decide_eq_true hi]; rfl
  have alls : (xs.all fun x => takenHere (plainBox b) x || isOutD (plainBox b) x.1 x.2 || isFarD h k (keysTold h k ns) x.1 x.2) = true := by
    rw [List.all_eq_true]
    intro x hx
    obtain ⟨gx, sx, _⟩ := x4 x hx
    rcases sx with q | q | ⟨q, e, f⟩
    · rw [(inn x hx).mpr q]; rfl
    · rw [out x hx q, Bool.or_true]; rfl
    · have : isFarD h k (keysTold h k ns) x.1 x.2 = true := by
        rw [e]
        show (decide (keysTold h k ns = []) || pairLt ((keysTold h k ns).getLastD (0, 0)) (keyBy h k x.1)) = true
        rw [told_keys]
        cases el : ns.getLast? with
        | none =>
          rw [List.getLast?_eq_none_iff.mp el]
          rfl
        | some a =>
          obtain ⟨w, hw, ew⟩ := (E.wt _).mp f
          have e1 : (ns.map (keyT h k)).getLastD (0, 0) = keyT h k a := by
            rw [List.getLastD_eq_getLast?, List.getLast?_map, el]; rfl
          have e2 : keyBy h k x.1 = w.1 := by
            rw [(E.good w hw).2]
            exact (key_names H (E.good w hw).1 gx ew).symm
          rw [e1, e2, E.last a el w hw, Bool.or_true]
      rw [this, Bool.or_true]
  have e3 : ((xs.filter (takenHere (plainBox b))).map fun x => x.1.names.headD 0) = allNames (xs.filter (takenHere (plainBox b))) := by
    unfold allNames
    rw [List.map_eq_flatMap]
    refine flatMap_eq fun x hx => ?_
    obtain ⟨hx1, hx2⟩ := List.mem_filter.mp hx
    obtain ⟨q, n, bn, rfl, _⟩ := (inn x hx1).mp hx2
    rfl
  have nd1 : ns.Nodup := (List.nodup_append.mp E.nd).1
  have dis : ∀ n ∈ ns, n ∉ wNames ws := fun n hn q => (List.nodup_append.mp E.nd).2.2 n hn n q rfl
  have e4 : (allNames (xs.filter (takenHere (plainBox b)))).Perm ns := by
    refine (List.perm_ext_iff_of_nodup ((sub_names List.filter_sublist).nodup (x3.nodup_iff.mpr g.nd)) nd1).mpr fun n => ?_
    constructor
    · intro hn
      obtain ⟨x, hx, hxn⟩ := List.mem_flatMap.mp hn
      obtain ⟨hx1, hx2⟩ := List.mem_filter.mp hx
      obtain ⟨q, n', bn, rfl, _, hn'⟩ := (inn x hx1).mp hx2
      rw [List.mem_singleton.mp hxn]
      exact hn'
    · intro hn
      obtain ⟨f1, f2⟩ := E.fit n hn
      obtain ⟨x, hx, hxn⟩ := List.mem_flatMap.mp (show n ∈ allNames xs from x3.mem_iff.mpr (by rw [en]; exact f1))
      obtain ⟨gx, sx, _⟩ := x4 x hx
      rcases sx with q | ⟨q, i, s, e, _, _, ap⟩ | ⟨q, e, f⟩
      · exact List.mem_flatMap.mpr ⟨x, List.mem_filter.mpr ⟨hx, (inn x hx).mpr q⟩, hxn⟩
      · exact absurd f2 (apart_no (lens gx).1 (gx.inB H hxn) ap)
      · obtain ⟨w, hw, ew⟩ := (E.wt _).mp f
        exact absurd (mem_wNames.mpr ⟨w, hw, by rw [ew]; exact hxn⟩) (dis n hn)
  refine ⟨?_, fun lt => far_any fun x hx => ?_, ⟨g.look H, hb, many, fun q hq => ?_⟩⟩
  · rw [partsShow_laid x2, alls, Bool.true_and, Bool.and_eq_true, each_iff, decide_eq_true_eq]
    refine ⟨?_, by rw [perm_sortI x3, hsrt]⟩
    rw [e3, perm_sortI e4, told_keys, List.map_map]
    congr 1
    exact (List.map_id'' (fun _ => rfl) ns).symm
  · obtain ⟨gx, sx, _⟩ := x4 x hx
    rcases sx with ⟨q, n, bn, rfl, _⟩ | ⟨q, i, s, e, _⟩ | ⟨q, e, f⟩
    · rfl
    · rw [e]; rfl
    · obtain ⟨w, hw, ew⟩ := (E.wt _).mp f
      rw [E.short lt] at hw
      cases hw
  · obtain ⟨x, hx, rfl⟩ := List.mem_map.mp hq
    have := (x4 x hx).2.2
    have := (g.trOk H).high
    simp only [List.length_nil] at *
    omega
end
/-! ### rising keys -/
theorem pairs_all {α : Type} {R : α → α → Bool} : ∀ {xs : List α}, (xs.Pairwise fun a b => R a b = true) → ((xs.zip (xs.drop 1)).all fun x => R x.1 x.2) = true
  | [], _ => rfl
  | [a], _ => rfl
  | a :: b :: xs, p => by
    obtain ⟨p1, p2⟩ := List.pairwise_cons.mp p
    have ih := pairs_all (R := R) (xs := b :: xs) p2
    show (R a b && _) = true
    rw [p1 b (List.mem_cons_self ..), Bool.true_and]
    exact ih
theorem pairs_mem {α : Type} {a b : α} {r : List α} : ∀ (l : List α), (a, b) ∈ (l ++ a :: b :: r).zip ((l ++ a :: b :: r).drop 1)
  | [] => List.mem_cons_self ..
  | [c] => List.mem_cons_of_mem _ (List.mem_cons_self ..)
  | c :: e :: l => by
    have ih := pairs_mem (a := a) (b := b) (r := r) (e :: l)
    exact List.mem_cons_of_mem _ ih
theorem pairs_turned {α : Type} {R : α → α → Bool} (asym : ∀ a b, R a b = true → R b a = false) : ∀ {xs : List α}, (xs.Pairwise fun a b => R a b = true) → 2 ≤ xs.length → ((xs.reverse.zip (xs.reverse.drop 1)).all fun x => R x.1 x.2) = false
  | [], _, h => absurd h (by simp)
  | [a], _, h => absurd h (by simp)
  | a :: b :: xs, p, _ => by
    have e : (a :: b :: xs).reverse = xs.reverse ++ b :: a :: [] := by simp
    rw [e]
    apply Bool.eq_false_iff.mpr
    intro q
    have := List.all_eq_true.mp q _ (pairs_mem xs.reverse)
    have h2 := asym a b ((List.pairwise_cons.mp p).1 b (List.mem_cons_self ..))
    simp only [h2] at this
    cases this
theorem sub_shown {h : House} {ot : Option Tr} {b : Box} {ns ms : List Int} {ps : List Part} (S : ShownOk h ot b ns ps) (e : ms.Perm ns) : ShownOk h ot b ms ps := ⟨S.house, fun n hn => S.sub n (e.mem_iff.mp hn), by rw [e.length_eq]; exact S.few, S.parts, S.tree⟩
/-- a paper keeps what the law asks -/
structure PaperRight (h : House) (ot : Option Tr) (b : Box) (k : Kind) (m : Nat) (ns : List Int) (ps : List Part) : Prop where
  shown : ShownOk h ot b ns ps
  turnedOk : ShownOk h ot b ns.reverse ps
  taken : showsDrawn h ot b k (m : Int) ns ps = true
  names : ns = (namesOf (sortedBy k (thingsIn h b))).take m
  more : showsDrawn h ot b k ((m : Int) + 1) ns ps = !ps.any Part.isFar
  fewer : 0 < m → showsDrawn h ot b k ((m : Int) - 1) ns ps = decide (ns.length < m)
  turned : 2 ≤ ns.length → showsDrawn h ot b k (m : Int) ns.reverse ps = false
theorem paper_none {h : House} (H : HouseOk h) (e : h.things = []) (b : Box) (k : Kind) (m : Nat) : PaperRight h none b k m [] [] := by
  have S : ShownOk h none b [] [] := ⟨H, nofun, Nat.zero_le _, Nat.zero_le _, nofun⟩
  have nx : ∀ m : Int, 0 ≤ m → showsDrawn h none b k m [] [] = true := fun m hm => by
    unfold showsDrawn
    rw [if_neg (by simp; omega)]
    rfl
  refine ⟨S, S, nx _ (by omega), ?_, nx _ (by omega), fun hm => ?_, fun q => absurd q (by simp)⟩
  · have : thingsIn h b = [] := by unfold thingsIn; rw [e]; rfl
    rw [this]
    unfold sortedBy
    simp [namesOf]
  · rw [nx _ (by omega)]
    simp [hm]
theorem paper_right {h : House} (H : HouseOk h) {b : Box} (hb : b.length = h.d) {k : Kind} {T : Tr} (g : Good h T) (en : T.names = h.things.map (·.name)) {m : Nat} {x : List Int × Nat × List (List Int)} (d : DrawnIs ⟨h, some T, b, k⟩ m x) : PaperRight h (some T) b k m x.1 (partsDrawn (plainBox b) (waitsOf m T x.2.2) T []) := by
  obtain ⟨ws, E⟩ := drawn_ends H hb g d
  obtain ⟨s1, s2, s3⟩ := ends_show H hb g en E
  have names := E.names H hb g en
  generalize partsDrawn (plainBox b) (waitsOf m T x.2.2) T [] = ps at s1 s2 s3
  generalize x.1 = ns at E s1 s2 names
  have nd1 : ns.Nodup := (List.nodup_append.mp E.nd).1
  have l30 : ns.length ≤ 30 := by
    have : ns.length ≤ (h.things.map (·.name)).length := sub_len nd1 fun n hn => (E.fit n hn).1
    rw [List.length_map] at this
    exact Nat.le_trans this H.many
  have S : ShownOk h (some T) b ns ps := ⟨H, fun n hn => (E.fit n hn).1, by omega, Nat.le_trans s3.many (by decide), fun t e => by cases e; exact ⟨h.d, H, s3, Tr.all_imp (fun u gu => gu.namesOk H) g.all⟩⟩
  have rise : ((keysTold h k ns).zip ((keysTold h k ns).drop 1)).all (fun x => pairLt x.1 x.2) = true := by
    rw [told_keys]
    exact pairs_all (R := pairLt) (xs := ns.map (keyT h k)) (List.pairwise_map.mpr E.rise)
  have val : ∀ c : Int, (ns.length : Int) ≤ c → showsDrawn h (some T) b k c ns ps = (decide ((ns.length : Int) = c) || !ps.any Part.isFar) := fun c hc => by
    unfold showsDrawn
    rw [if_neg (by omega), if_neg (by rw [rise]; exact Bool.noConfusion)]
    simp only [s1, Bool.true_and]
  have few := E.few
  refine ⟨S, sub_shown S (List.reverse_perm ns), ?_, names, ?_, fun hm => ?_, fun l2 => ?_⟩
  · rw [val _ (by omega)]
    by_cases l : ns.length = m
    · rw [l]; simp
    · rw [s2 (by omega), Bool.not_false, Bool.or_true]
  · rw [val _ (by omega), decide_eq_false (by omega), Bool.false_or]
  · by_cases l : ns.length = m
    · unfold showsDrawn
      rw [if_pos (by omega)]
      rw [decide_eq_false (by omega)]
    · rw [val _ (by omega), s2 (by omega), Bool.not_false, Bool.or_true, decide_eq_true (by omega)]
  · unfold showsDrawn
    rw [List.length_reverse, if_neg (by omega), if_pos ?_]
    rw [told_keys, List.map_reverse]
    exact pairs_turned (R := pairLt) (xs := ns.map (keyT h k)) (fun a b q => pairLt_asymm q) (List.pairwise_map.mpr E.rise) (by rw [List.length_map]; exact l2)
theorem paper_ok {h : House} (H : HouseOk h) {ot : Option Tr} (i : TreeIs h ot) {b : Box} (hb : b.length = h.d) (k : Kind) {m : Nat} (hm : m ≤ 1000) : PaperOk ⟨h, ot, b, k⟩ m := by
  have pl : (plainBox b).length ≤ 100 := by rw [plain_len, hb]; exact Nat.le_trans H.d4 (by decide)
  have bl : b.length ≤ 100 := by rw [hb]; exact Nat.le_trans H.d4 (by decide)
  cases ot with
  | none => exact ⟨⟨H, bl, nofun⟩, hm, Nat.zero_le _, nofun, pl, nofun⟩
  | some T =>
    obtain ⟨g, en⟩ := treeIs_good H i
    have lv := g.leaves
    have fw := g.few H
    refine ⟨⟨H, bl, fun t e => by cases e; exact g.namesOk H⟩, hm, ?_, ?_, pl, fun t e => by cases e; exact ⟨by omega, Tr.all_imp (fun u gu => gu.downD H hb) g.all, by omega⟩⟩
    · have q := szs_put h (plainBox b) k [] T
      show szs (waitPut h (plainBox b) k [] T) ≤ 1000
      have : szs [] = 0 := rfl
      omega
    · intro w hw
      have hw : w ∈ waitPut h (plainBox b) k [] T := hw
      rcases put_mem.mp hw with q | ⟨q, rfl⟩
      · cases q
      · exact Tr.all_imp (fun u gu => gu.namesOk H) g.all
end Bx
set_option maxHeartbeats 400000
namespace Bx
open PySem L2 PySem.SeqAt
theorem sIx_nat (n d i : Nat) : HT.sIx n d (some (i : Int)) = min i n := by
  have hn : ¬ (i : Int) < 0 := by omega
  unfold HT.sIx
  simp [hn]
theorem cutNats {α : Type} (xs : List α) (i j : Nat) : cutD xs (some (i : Int)) (some (j : Int)) = (xs.drop i).take (j - i) := by
  unfold cutD
  rw [sIx_nat, sIx_nat]
  by_cases h : i ≤ xs.length
  · rw [Nat.min_eq_left h]
    by_cases h2 : j ≤ xs.length
    · rw [Nat.min_eq_left h2]
    · rw [Nat.min_eq_right (by omega), List.take_of_length_le (by rw [List.length_drop]; omega), List.take_of_length_le (by rw [List.length_drop]; omega)]
  · rw [List.drop_of_length_le (by omega), List.drop_of_length_le (show xs.length ≤ i by omega)]
    simp
theorem cutFromN {α : Type} (xs : List α) (i : Nat) : cutD xs (some (i : Int)) none = xs.drop i := by
  by_cases h : i ≤ xs.length
  · exact cutFrom xs i h
  · unfold cutD
    rw [sIx_nat, List.drop_of_length_le (by omega), List.drop_of_length_le (show xs.length ≤ i by omega)]
    simp
end Bx
set_option maxHeartbeats 400000
namespace Bx
open PySem L2 PySem.SeqAt
open LamX (Tabs TabB ExtN)
section
variable {C : Ctx} {f : Addr} {fd : FuncData}
abbrev N88 : List Str := ["_law_left_here", "_law_house_here", "_law_tree_here", "_law_box_here", "_law_parts", "_law_inside", "_law_taken", "_law_at_here", "_law_worse", "_law_part", "_law_other", "_law_name", "_law_thing"]
theorem sc88 : FnScope N88 ["_law_left_here", "_law_house_here", "_law_tree_here", "_law_box_here"] (defScope (top 88)) := ⟨rfl, rfl, rfl, by decide +kernel, rfl, by decide +kernel, by decide +kernel⟩
abbrev S_covers_right (C : Ctx) (T : List (Addr × Str)) : Sp := spL C.K T (A := House × Option Tr × Box) (fun a => CoverRight a.1 a.2.1 a.2.2) (fun a => [.d (encHouse a.1), .d (encOT a.2.1), .d (encBox a.2.2)]) (fun _ w => w = .d (.bool true))
theorem ok_covers_right {T : List (Addr × Str)} (B : Blt C) (F : Fd C.K "_law_covers_right" "_law_covers_right" (top 88) f fd) (m : C.mg "_law_covers_right" = some (.ref f)) (P : HasS C "_law_pick" 1 (spPick C T)) (h1 : Has C "cover" 46 Rcover) (h2 : Has C "fitting" 5 Rfitting) (h3 : Has C "shows_cover" 6 Rshows_cover) (h4 : Has C "_law_names" 2 R_law_names) : HasS C "_law_covers_right" 47 (S_covers_right C T) := by
  refine hasL_fn (k := 46) (fun a => [some (.d (encHouse a.1)), some (.d (encOT a.2.1)), some (.d (encBox a.2.2)), none, none, none, none, none, none, none, none, none]) F m sc88 (by decide) (fun _ _ _ _ _ _ us hl => match us, hl with | [_, _, _, _], _ => rfl) (fun _ => rfl) (fun _ => rfl) fun X L a at_ hr hp ⟨cdv, A, outer, s, H, E, hX⟩ => ?_
  have hu : X.A.units + 64 < cLine := hr.units
  obtain ⟨h, ot, b⟩ := a
  simp only at hp
  subst hX
  have hlook : ∀ t, ot = some t → ∃ d, LookOk d b t (coverD ot b) := hp.look _ (Nat.le_succ _) fun q hq => ⟨q, hq, rfl⟩
  refine ls_seq (ls_pure (pds_asg (x := .tuple [.tuple ((coverD ot b).map encPart), en (namesOf (thingsIn h b))]) (t2 (cl h1 (h, ot, b) at_ hr (a3 (nm 1) (nm 2) (nm 3)) hp.ok) (cl h2 (h, b) at_ hr (a2 (nm 1) (nm 3)) hp.few)) (gd_tup rfl (gds_cons (gn 4 sc88.nd) (gds_cons (gn 5 sc88.nd) gds_nil)) rfl))) fun ρ' e => ?_
  subst e
  refine ls_seq (ls_pure (st 6 (cl h3 (h, ot, b, coverD ot b) at_ hr (a4 (nm 1) (nm 2) (nm 3) (nm 4)) hlook) sc88.nd)) fun ρ' e => ?_
  subst e
  have few400 : (coverD ot b).length ≤ 400 := Nat.le_trans hp.many (by decide)
  refine ls_ifR (k := false) (ptEq (ptd_w (pwd_or (cmpT (nm 6) pd_bl od_notB) (fun _ => pwd_or1 (cmpT (cl h4 (ot, coverD ot b, "in") at_ hr (a3 (nm 2) (nm 4) pd_str) ⟨by show shaped (.str "in") = true; decide +kernel, few400, hp.at_⟩) (ct at_ B.list (cd_lst (ds := (namesOf (thingsIn h b)).map Enc.enc) rfl) (a1 (nm 5))) (od_neL hu))))) (by rw [hp.taken, hp.ins]; simp)) (fun h => nomatch h) (fun _ => ?_)
  refine ls_ifR (k := false) (ptEq (pt_b (cb at_ B.any (cd_anyF rfl (lawNames ot (coverD ot b) "out") (fun n => decide (n ∈ namesOf (thingsIn h b)))) (a1 (pd_lc rfl sc88.nd (lawNames ot (coverD ot b) "out") (fun n => .int n) (fun n => .bool (decide (n ∈ namesOf (thingsIn h b)))) (own := [("_law_name", 11)]) (pid_list (cl h4 (ot, coverD ot b, "out") at_ hr (a3 (nm 2) (nm 4) pd_str) ⟨by show shaped (.str "out") = true; decide +kernel, few400, hp.at_⟩)) (blkOk_by (N := N88) (sc := defScope (top 88)) (by decide +kernel)) (fun n _ => ⟨_, _, by decide, fun s H C cl fp => gn 11 sc88.nd, fun s H C' c' fp => cmp (nm 11) (nm 5) (od_inE (xs := namesOf (thingsIn h b)) rfl hu)⟩) ?len (by intro _; rfl))))) ?none) (fun h => nomatch h) (fun _ => ?_)
  case len =>
    have e0 : (lawNames ot (coverD ot b) "out").length = (((coverD ot b).filter (hasWord "out")).flatMap (namesAt ot)).length := (sortI_perm _).length_eq
    have e1 := flat_len (namesAt ot) 100 ((coverD ot b).filter (hasWord "out")) fun q hq => by
      obtain ⟨u, hu1, hu2⟩ := hp.at_ q (List.mem_filter.mp hq).1
      unfold namesAt
      rw [hu1]
      exact hu2
    have e2 := List.length_filter_le (hasWord "out") (coverD ot b)
    have e3 := hp.many
    rw [e0]
    omega
  case none =>
    rw [List.any_eq_false]
    intro n hn
    simp only [decide_eq_true_eq]
    exact hp.outs n hn
  refine ls_seq (ls_set 7 (pick ((coverD ot b).length + 1) at_ P hr (nm 0) (pd_eq (bop (cb at_ B.len (cd_len (ds := (coverD ot b).map encPart) rfl) (a1 (nm 4))) pd_int od_add) (by rw [List.length_map]; rfl)) ⟨by omega, by omega⟩) sc88.nd) ?_
  rintro ρ' ⟨w, ⟨i, hi, rfl⟩, rfl⟩
  have hi1 : (i : Nat) ≤ (coverD ot b).length := by omega
  refine ls_seq (ls_pure (st (w := .d (.list [.tuple (((coverD ot b).take i ++ (coverD ot b).drop (i + 1)).map encPart), .tuple ((coverD ot b ++ ((coverD ot b).drop i).take 1).map encPart)])) 8 (pd_lst (ds := [_, _]) (a2 (pd_eq (bop (pd_slT (nm 4) pdo_none (pdo_some (nm 7))) (pd_slT (nm 4) (pdo_some (bop (nm 7) pd_int od_add)) pdo_none) (od_catT ?z1)) ?e1) (pd_eq (bop (nm 4) (pd_slT (nm 4) (pdo_some (nm 7)) (pdo_some (bop (nm 7) pd_int od_add))) (od_catT ?z2)) ?e2)) (Nat.le_of_ble_eq_true rfl)) sc88.nd)) fun ρ' e => ?_
  case z1 =>
    have e1 : (i : Int) + 1 = ((i + 1 : Nat) : Int) := by omega
    rw [e1, cutTo _ _ (by rw [List.length_map]; exact hi1), cutFromN, List.length_take, List.length_drop, List.length_map]
    omega
  case e1 =>
    have e1 : (i : Int) + 1 = ((i + 1 : Nat) : Int) := by omega
    rw [e1, cutTo _ _ (by rw [List.length_map]; exact hi1), cutFromN, List.map_append, List.map_take, List.map_drop]
  case z2 =>
    have e1 : (i : Int) + 1 = ((i + 1 : Nat) : Int) := by omega
    rw [e1, cutNats, List.length_take, List.length_drop, List.length_map]
    omega
  case e2 =>
    have e1 : (i : Int) + 1 = ((i + 1 : Nat) : Int) := by omega
    rw [e1, cutNats, List.map_append, List.map_take, List.map_drop, Nat.add_sub_cancel_left]
  subst e
  refine ls_ifR (k := decide (i < (coverD ot b).length)) (ptEq (cmpT (nm 7) (cb at_ B.len (cd_len (ds := (coverD ot b).map encPart) rfl) (a1 (nm 4))) od_lt) (by rw [List.length_map, decide_eq_decide]; omega)) (fun e => ?_) (fun _ => ls_pures (rt pd_bl))
  have hlt : i < (coverD ot b).length := of_decide_eq_true e
  have mem_at : ∀ q, q ∈ (coverD ot b).take i ++ (coverD ot b).drop (i + 1) → q ∈ coverD ot b := fun q hq => by
    rcases List.mem_append.mp hq with z | z
    · exact List.mem_of_mem_take z
    · exact List.mem_of_mem_drop z
  have e10 : ((coverD ot b).drop i).take 1 = [(coverD ot b)[i]] := by rw [List.drop_eq_getElem_cons hlt]; rfl
  have look1 : ∀ t, ot = some t → ∃ d, LookOk d b t ((coverD ot b).take i ++ (coverD ot b).drop (i + 1)) := hp.look _ (by rw [List.length_append, List.length_take, List.length_drop]; omega) fun q hq => ⟨q, mem_at q hq, rfl⟩
  have look2 : ∀ t, ot = some t → ∃ d, LookOk d b t (coverD ot b ++ ((coverD ot b).drop i).take 1) := by
    rw [e10]
    exact hp.look _ (by rw [List.length_append]; exact Nat.le_refl _) fun q hq => by
      rcases List.mem_append.mp hq with z | z
      · exact ⟨q, z, rfl⟩
      · exact ⟨_, List.getElem_mem hlt, by rw [List.mem_singleton.mp z]⟩
  have look3 : ∀ t, ot = some t → ∃ d, LookOk d b t ((coverD ot b).take i ++ [otherPart (coverD ot b)[i]] ++ (coverD ot b).drop (i + 1)) := hp.look _ (by rw [List.length_append, List.length_append, List.length_take, List.length_drop, List.length_singleton]; omega) fun q hq => by
    rcases List.mem_append.mp hq with z | z
    · rcases List.mem_append.mp z with z | z
      · exact ⟨q, List.mem_of_mem_take z, rfl⟩
      · exact ⟨_, List.getElem_mem hlt, by rw [List.mem_singleton.mp z]; cases (coverD ot b)[i] <;> rfl⟩
    · exact ⟨q, List.mem_of_mem_drop z, rfl⟩
  have s1 := hp.less i hlt
  have s2 := hp.twice i hlt
  have s3 := hp.other i hlt
  rw [← e10] at s2
  have eat : ((coverD ot b).map encPart)[i]? = some (encPart (coverD ot b)[i]) := by rw [List.getElem?_map, List.getElem?_eq_getElem hlt]; rfl
  have hmany := hp.many
  have ltake : ((coverD ot b).take i).length ≤ 100 := by rw [List.length_take]; omega
  have ldrop : ((coverD ot b).drop (i + 1)).length ≤ 100 := by rw [List.length_drop]; omega
  generalize (coverD ot b)[i] = q at eat look3 s3
  refine ls_pures ?_
  refine ifR (k := false) (cmpT pd_bl (pd_lc rfl sc88.nd [(coverD ot b).take i ++ (coverD ot b).drop (i + 1), coverD ot b ++ ((coverD ot b).drop i).take 1] (fun ps => .tuple (ps.map encPart)) (fun ps => .bool (showsCover ot b ps)) (own := [("_law_thing", 12)]) (pid_list (nm 8)) (blkOk_by (N := N88) (sc := defScope (top 88)) (by decide +kernel)) (fun ps hps => ⟨_, _, by decide, fun s H C cl fp => gn 12 sc88.nd, fun s H C' c' fp => cl h3 (h, ot, b, ps) at_.blk hr (a4 (nm 1) (nm 2) (nm 3) (nm 12)) ?pre⟩) (by show 2 ≤ 100000; decide) (by intro _; rfl)) ?cin) (fun h => nomatch h) (fun _ => ?_)
  case pre =>
    rcases List.mem_cons.mp hps with rfl | hps
    · exact look1
    · rw [List.mem_singleton.mp hps]; exact look2
  case cin =>
    have := od_inE (X := (cxOf CX0 C.P C.w C.K C.mg C.base N88 "_law_covers_right" (defScope (top 88)) f cdv A outer s H E).nox) (a := true) (xs := [false, false]) (d := .list [.bool false, .bool false]) rfl hu
    rw [List.map_cons, List.map_cons, List.map_nil, s1, s2]
    exact this
  refine seq (st (w := .d (encPart q)) 9 (pd_ix rfl (atI_nat eat) (nm 4) (nm 7) (fun _ _ => rfl)) sc88.nd) ?_
  refine seq (st (w := .d (encPart (otherPart q))) 10 ?asg sc88.nd) ?_
  case asg =>
    cases q with
    | inn path => exact pd_ifE (k := true) (ptEq (cmpT (ixW (q := .inn path) (nm 9)) pd_str (od_eq hu (word_shaped _) (by show shaped (.str "in") = true; decide +kernel))) (by show PyData.eqv (.str "in") (.str "in") = true; decide +kernel)) (fun _ => pd_eq (t4 (ixPath (q := .inn path) (nm 9)) pd_str pd_int pd_int) rfl) (fun h => nomatch h)
    | out path j sd => exact pd_ifE (k := false) (ptEq (cmpT (ixW (q := .out path j sd) (nm 9)) pd_str (od_eq hu (word_shaped _) (by show shaped (.str "in") = true; decide +kernel))) (by show PyData.eqv (.str "out") (.str "in") = false; decide +kernel)) (fun h => nomatch h) (fun _ => pd_eq (t2 (ixPath (q := .out path j sd) (nm 9)) pd_str) rfl)
    | far path => exact pd_ifE (k := false) (ptEq (cmpT (ixW (q := .far path) (nm 9)) pd_str (od_eq hu (word_shaped _) (by show shaped (.str "in") = true; decide +kernel))) (by show PyData.eqv (.str "far") (.str "in") = false; decide +kernel)) (fun h => nomatch h) (fun _ => pd_eq (t2 (ixPath (q := .far path) (nm 9)) pd_str) rfl)
  refine seq (st (w := .d (.tuple (((coverD ot b).take i ++ [otherPart q] ++ (coverD ot b).drop (i + 1)).map encPart))) 8 (pd_eq (bop (bop (pd_slT (nm 4) pdo_none (pdo_some (nm 7))) (t1 (nm 10)) (od_catT ?z3)) (pd_slT (nm 4) (pdo_some (bop (nm 7) pd_int od_add)) pdo_none) (od_catT ?z4)) ?e3) sc88.nd) ?_
  case z3 =>
    rw [cutTo _ _ (by rw [List.length_map]; exact hi1), List.length_take, List.length_map]
    show _ + 1 ≤ _
    omega
  case z4 =>
    have e1 : (i : Int) + 1 = ((i + 1 : Nat) : Int) := by omega
    rw [e1, cutTo _ _ (by rw [List.length_map]; exact hi1), cutFromN, List.length_append, List.length_take, List.length_drop, List.length_map]
    show _ + 1 + _ ≤ _
    omega
  case e3 =>
    have e1 : (i : Int) + 1 = ((i + 1 : Nat) : Int) := by omega
    rw [e1, cutTo _ _ (by rw [List.length_map]; exact hi1), cutFromN, List.map_append, List.map_append, List.map_take, List.map_drop]
    rfl
  exact rt (pd_eq (cmp (cl h3 (h, ot, b, _) at_ hr (a4 (nm 1) (nm 2) (nm 3) (nm 8)) look3) pd_bl od_isB) (by rw [s3]; rfl))
end
end Bx
set_option maxHeartbeats 400000
/-! t[::-1] of a tuple -/
namespace Bx
open PySem PySem.Spec PyProof.Rows HT
section
variable {prog : Program} {w : World} {A : Around} {E : Value → Shared → Prop} {s : Shared}
theorem adjust_back (n : Nat) : Builtin.Slice.sliceAdjust none none (-1) (n : Int) = ((n : Int) - 1, -1) := rfl
theorem places_back (n : Nat) : Builtin.Slice.slicePlaces ((n : Int) - 1) (-1) (-1) = n := by
  unfold Builtin.Slice.slicePlaces
  rw [if_neg (by decide), Int.neg_neg, Int.ediv_one]
  split <;> omega
theorem fm_eq {α β : Type} {f g : α → Option β} : ∀ {xs : List α}, (∀ x ∈ xs, f x = g x) → xs.filterMap f = xs.filterMap g
  | [], _ => rfl
  | x :: xs, h => by rw [List.filterMap_cons, List.filterMap_cons, h x (List.mem_cons_self ..), fm_eq fun y hy => h y (List.mem_cons_of_mem _ hy)]
theorem fm_some {α β : Type} (f : α → β) : ∀ xs : List α, (xs.filterMap fun x => some (f x)) = xs.map f
  | [] => rfl
  | x :: xs => by rw [List.filterMap_cons, List.map_cons, fm_some f xs]
theorem back_pick (xs : List Value) : ((List.range xs.length).filterMap fun (k : Nat) => xs.toArray[((xs.length : Int) - 1 + (k : Int) * -1).toNat]?) = xs.reverse := by
  apply List.ext_getElem?
  intro i
  have e : ∀ k ∈ List.range xs.length, (xs.toArray[((xs.length : Int) - 1 + (k : Int) * -1).toNat]?) = some (xs.reverse.getD k .none) := fun k hk => by
    have hk := List.mem_range.mp hk
    have e1 : ((xs.length : Int) - 1 + (k : Int) * -1).toNat = xs.length - 1 - k := by omega
    rw [e1, List.getElem?_toArray, List.getD_eq_getElem?_getD, List.getElem?_reverse hk, List.getElem?_eq_getElem (by omega)]
    rfl
  rw [show ((List.range xs.length).filterMap fun (k : Nat) => xs.toArray[((xs.length : Int) - 1 + (k : Int) * -1).toNat]?) = (List.range xs.length).filterMap fun k => some (xs.reverse.getD k .none) from fm_eq e, fm_some, List.getElem?_map]
  by_cases hi : i < xs.length
  · rw [List.getElem?_range hi, List.getElem?_eq_getElem (by rw [List.length_reverse]; exact hi)]
    show some (xs.reverse.getD i .none) = _
    rw [List.getD_eq_getElem?_getD, List.getElem?_eq_getElem (by rw [List.length_reverse]; exact hi)]
    rfl
  · rw [List.getElem?_eq_none (by rw [List.length_range]; omega), List.getElem?_eq_none (by rw [List.length_reverse]; omega)]
    rfl
theorem applied_back {sl : Addr} {vs : Value} {n : Nat} {Q : Int × Int × Nat → Shared → Prop} (hs : s.heap.IsSliceOf sl .none .none vs) (ps : IsPart vs (some (-1))) (h : Q ((n : Int) - 1, -1, n) s) : wpAny (model prog w) A (Builtin.Slice.sliceApplied (.ref sl) (pure (n : Int))) Q E s := by
  obtain ⟨os, hos, hcs, hds⟩ := id hs
  unfold Builtin.Slice.sliceApplied Builtin.Slice.sliceFields
  refine wpAny_bind (wpAny_bind (wpAny_field hos hds (x := .none) rfl (wpAny_bind (wpAny_field hos hds (x := .none) rfl (wpAny_bind (wpAny_field hos hds (x := vs) rfl (wpAny_pure ?_)))))))
  refine wpAny_bind (slicePart_ ps ?_)
  show wpAny _ _ (if ((-1 : Int) == 0) = true then _ else _) _ _ s
  rw [if_neg (by decide)]
  refine wpAny_bind (slicePart_none (wpAny_bind (slicePart_none (wpAny_bind (wpAny_pure ?_)))))
  show wpAny _ _ (match Builtin.Slice.sliceAdjust none none (-1) (n : Int) with | (lo, hi) => pure (lo, (-1 : Int), Builtin.Slice.slicePlaces lo hi (-1))) _ _ s
  rw [adjust_back]
  show wpAny _ _ (pure ((n : Int) - 1, (-1 : Int), Builtin.Slice.slicePlaces ((n : Int) - 1) (-1) (-1))) _ _ s
  rw [places_back]
  exact wpAny_pure h
theorem getItem_back {t sl : Addr} {items : List Value} {vs : Value} {Q : Value → Shared → Prop} (ht : IsTup s.heap t items.toArray) (hs : s.heap.IsSliceOf sl .none .none vs) (ps : IsPart vs (some (-1))) (h : Q (.ref s.heap.objs.size) { s with heap := s.heap.push { cls := .type "tuple", data := .seq items.reverse.toArray } }) (hsz : items.length ≤ sizeLine) : wpAny (model prog w) A (getItem (.ref t) (.ref sl)) Q E s := by
  have hok : sizeOk (.seq items.reverse.toArray) := by
    show items.reverse.toArray.size ≤ sizeLine
    rw [List.size_toArray, List.length_reverse]
    exact hsz
  obtain ⟨os, hos, hcs, hds⟩ := id hs
  have hTs : s.TypeIs (.ref sl) "slice" := ⟨os, hos, hcs⟩
  unfold getItem
  try with_reducible refine wpAny_holding ?_
  first | refine wpAny_bind (wpAny_pure ?_) | skip
  refine wpAny_bind (wpAny_sequenceKey ht.typeIs (by decide) ?_)
  refine wpAny_bind (wpAny_callSpecial?_slot (name := Str.ofString "__getitem__") ht.typeIs PyProof.Rows.slot_tuple_getitem (wpAny_call_entry PyProof.Rows.slot_tuple_getitem ht.typeIs entry_tuple_getitem ?_ (args_tuple_getitem _ _)))
  show wpAny _ _ (Builtin.Tuple.tupleItemsOf (.ref t) >>= _) _ _ s
  refine wpAny_bind (tupleItemsOf_ ht ?_)
  refine wpAny_bind (wpAny_typeOf hTs ?_)
  rw [if_pos (by decide), List.size_toArray]
  refine wpAny_bind (applied_back hs ps ?_)
  show wpAny _ _ (if (((items.length : Int) - 1) == 0 && (-1 : Int) == 1 && items.length == items.toArray.size) = true then _ else _) _ _ s
  rw [if_neg (by simp), back_pick]
  first
    | exact wpAny_bind (m := Builtin.Tuple.tupleExact _) (wpAny_newObj_type (wpAny_pure ⟨_, rfl, wpAny_pure h⟩) hok)
    | exact wpAny_bind (m := Builtin.Tuple.tupleExact _) (wpAny_newObj_type (wpAny_bind (wpAny_pure (wpAny_pure ⟨_, rfl, wpAny_pure h⟩))) hok)
    | exact wpAny_bind (wpAny_bind (m := Builtin.Tuple.tupleExact _) (wpAny_newObj_type (wpAny_pure (wpAny_pure ⟨_, rfl, wpAny_pure h⟩)) hok))
    | exact wpAny_bind (wpAny_bind (m := Builtin.Tuple.tupleExact _) (wpAny_newObj_type (wpAny_pure ⟨_, rfl, wpAny_pure h⟩) hok))
end
open L2 PySem.SeqAt
section
variable {X : Cx} {e z : Expr} {ρ : Ev} {ds : List PyData} {p3 pos : Pos}
theorem dpRev {K : PySem.W.Frag} {H : Hp} : ∀ {vs : List V} {ds : List PyData}, DpAll K H vs ds → DpAll K H vs.reverse ds.reverse
  | _, _, .nil => .nil
  | _, _, .cons a t => by
    rw [List.reverse_cons, List.reverse_cons]
    exact dpAllApp (dpRev t) (.cons a .nil)
theorem valsRev : ∀ {vs : List V} {us : List Value}, Vals vs us → Vals vs.reverse us.reverse
  | _, _, .nil => .nil
  | _, _, .cons a t => by
    rw [List.reverse_cons, List.reverse_cons]
    exact (valsRev t).append (.cons a .nil)
/-- t[::-1] -/
theorem pd_back (he : PE X e (tD X.K ρ (.d (.tuple ds)))) (hz : PE X z (tD X.K ρ (.d (.int (-1))))) : PE X (.Subscript e (.Slice none none (some z) p3) pos) (tD X.K ρ (.d (.tuple ds.reverse))) := by
  refine ⟨fun pins s σ H Q I ⟨hh, q⟩ => ?_⟩
  refine Subscript_ (thn (he.run pins s σ H (fun v H1 => Same H H1 ∧ HeldV X.K H1 v (.d (.tuple ds))) I ⟨hh, fun v H1 s1 q1 => ⟨s1, q1⟩⟩) fun v s1 ⟨x, H1, I1, r1, sm1, q1⟩ => ?_)
  refine wpAny_Slice (thn (po_none.run pins s1 σ H1 (fun o H2 => o = none ∧ H2 = H1) I1 ⟨rfl, rfl⟩) fun vl s2 ⟨o, H2, I2, pl, eo, e2⟩ => ?_)
  subst eo e2
  refine thn (po_none.run pins s2 σ H2 (fun o H3 => o = none ∧ H3 = H2) I2 ⟨rfl, rfl⟩) fun vu s3 ⟨u, H3, I3, pu, eu, e3⟩ => ?_
  subst eu e3
  refine thn ((po_some hz).run pins s3 σ H3 (fun o H4 => o = some (-1) ∧ Same H3 H4) I3 ⟨hh.mono sm1, fun v H4 s4 q4 => ⟨-1, dpInt q4, rfl, s4⟩⟩) fun vs s4 ⟨o2, H4, I4, ps, e5, sm4⟩ => ?_
  subst e5
  cases pl
  cases pu
  have sm := sm1.trans sm4
  obtain ⟨a, xs, rfl, h1, h2⟩ := dpTupR (q1.mono sm4)
  cases r1
  have I5 : L2.Inv X pins σ H4 { s4 with heap := s4.heap.push { cls := .type "slice", data := .fields #[.none, .none, vs] } } := I4.kept (t' := s4.toks) fun b ob q => Heap.get?_push_of_some _ q
  obtain ⟨its, r, ht, hzz⟩ := I5.tuple h1
  have hlen := r.length
  show wpAny (model X.prog X.w) X.A (subscriptTail e (.Slice none none (some z) p3) (.ref a) (.ref s4.heap.objs.size)) (EP X pins σ Q) X.xe { s4 with heap := s4.heap.push { cls := .type "slice", data := .fields #[.none, .none, vs] } }
  refine tail_any (ops := [.ref a, .ref s4.heap.objs.size]) ht.typeIs (PyProof.Rows.slot_tuple_getitem.lookup) ?_ (by with_unfolding_all rfl)
  refine getItem_back ht (Heap.IsSliceOf.new _ .none .none vs) ps ?_ (by rw [← hlen]; exact hzz)
  have hf : H4 (s4.heap.push { cls := .type "slice", data := .fields #[.none, .none, vs] }).objs.size = none := I5.hok.fresh (Nat.le_refl _)
  refine ⟨.ref _, _, I5.laid (t' := s4.toks) (o := .tup xs.reverse) (fun b ob q => Heap.get?_push_of_some _ q) (Nat.le_refl _) ?_, rfl, q _ _ (sm.trans (sameNew hf)) (Dp.tup (SqT.of upd_same) (dpAllMono (sameNew hf) (dpRev h2)))⟩
  exact ⟨by rw [List.length_reverse]; exact hzz, _, valsRev r, IsTup.new _ _⟩
end
end Bx
set_option maxHeartbeats 400000
namespace Bx
open PySem L2 PySem.SeqAt
/-- what the mathematics shows about papers -/
structure PapersRight (h : House) (ot : Option Tr) (b : Box) (k : Kind) : Prop where
  house : HouseOk h
  box : BoxOk h b
  ok : ∀ m : Nat, m ≤ 1000 → PaperOk ⟨h, ot, b, k⟩ m
  right : ∀ (m : Nat) (d : PyData), m ≤ 1000 → paperD ⟨h, ot, b, k⟩ m d → ∃ (ns : List Int) (ps : List Part), d = .tuple [en ns, .tuple (ps.map encPart)] ∧ PaperRight h ot b k m ns ps
theorem papers_right {h : House} (H : HouseOk h) {ot : Option Tr} (i : TreeIs h ot) {b : Box} (hb : b.length = h.d) (k : Kind) : PapersRight h ot b k := by
  refine ⟨H, ⟨hb⟩, fun m hm => paper_ok H i hb k hm, fun m d hm hd => ?_⟩
  cases ot with
  | none => exact ⟨[], [], hd, paper_none H i b k m⟩
  | some T =>
    obtain ⟨g, en⟩ := treeIs_good H i
    obtain ⟨x, hx, rfl⟩ := hd
    exact ⟨x.1, _, rfl, paper_right H hb g en hx⟩
theorem whole_len {h : House} (H : HouseOk h) (k : Kind) (b : Box) : (namesOf (sortedBy k (thingsIn h b))).length ≤ 30 := by
  rw [(sorted_perm (h := h) (b := b) (k := k)).length_eq]
  unfold namesOf
  rw [List.length_map]
  exact Nat.le_trans (List.length_filter_le _ _) H.many
theorem cutToN {α : Type} (xs : List α) (i : Nat) : cutD xs none (some (i : Int)) = xs.take i := by
  by_cases h : i ≤ xs.length
  · exact cutTo xs i h
  · have e : HT.sIx xs.length 0 none = 0 := rfl
    unfold cutD
    rw [Bx.sIx_nat, e, Nat.min_eq_right (by omega), List.take_of_length_le (show xs.length ≤ i by omega)]
    simp
theorem each_mem {W : Sl → Prop} : ∀ {Ws : List (Sl → Prop)} {ds : List PyData}, EachD Ws ds → (∀ W' ∈ Ws, ∀ w, W' w → W w) → ∀ d ∈ ds, W (.d d)
  | [], [], _, _, d, hd => by cases hd
  | [], _ :: _, h, _, _, _ => by cases h
  | _ :: _, [], h, _, _, _ => by cases h
  | W1 :: Ws, d1 :: ds, h, i, d, hd => by
    cases h with
    | cons a t =>
      rcases List.mem_cons.mp hd with rfl | hd
      · exact i W1 (List.mem_cons_self ..) _ a
      · exact each_mem t (fun W' hW => i W' (List.mem_cons_of_mem _ hW)) d hd
end Bx
set_option maxHeartbeats 400000
namespace Bx
open PySem L2 PySem.SeqAt
open LamX (Tabs TabB ExtN)
section
variable {C : Ctx} {f : Addr} {fd : FuncData}
abbrev N89 : List Str := ["_law_left_here", "_law_house_here", "_law_tree_here", "_law_box_here", "_law_kind_here", "_law_ask", "_law_whole", "_law_many", "_law_paper", "_law_taken", "_law_far", "_law_fewer", "_law_turned", "_law_part"]
theorem sc89 : FnScope N89 ["_law_left_here", "_law_house_here", "_law_tree_here", "_law_box_here", "_law_kind_here"] (defScope (top 89)) := ⟨rfl, rfl, rfl, by decide +kernel, rfl, by decide +kernel, by decide +kernel⟩
abbrev Wmany : Sl → Prop := fun w => ∃ n : Nat, n ≤ 1000 ∧ w = .d (.int (n : Int))
abbrev S_papers_right (C : Ctx) (T : List (Addr × Str)) : Sp := spL C.K T (A := House × Option Tr × Box × Kind) (fun a => PapersRight a.1 a.2.1 a.2.2.1 a.2.2.2) (fun a => [.d (encHouse a.1), .d (encOT a.2.1), .d (encBox a.2.2.1), .d (encKind a.2.2.2)]) (fun _ w => w = .d (.bool true))
theorem ok_papers_right {T : List (Addr × Str)} (B : Blt C) (F : Fd C.K "_law_papers_right" "_law_papers_right" (top 89) f fd) (m : C.mg "_law_papers_right" = some (.ref f)) (P : HasS C "_law_pick" 1 (spPick C T)) (h1 : Has C "answer" 6 Ranswer) (h2 : HasS C "drawn_paper" 42 (spPaper C.K T)) (h3 : Has C "shows_drawn" 7 Rshows_drawn) : HasS C "_law_papers_right" 43 (S_papers_right C T) := by
  refine hasL_fn (k := 42) (fun a => [some (.d (encHouse a.1)), some (.d (encOT a.2.1)), some (.d (encBox a.2.2.1)), some (.d (encKind a.2.2.2)), none, none, none, none, none, none, none, none, none]) F m sc89 (by decide) (fun _ _ _ _ _ _ us hl => match us, hl with | [_, _, _, _, _], _ => rfl) (fun _ => rfl) (fun _ => rfl) fun X L a at_ hr hp ⟨cdv, A, outer, s, H, E, hX⟩ => ?_
  have hu : X.A.units + 64 < cLine := hr.units
  obtain ⟨h, ot, b, k⟩ := a
  simp only at hp
  subst hX
  have wl := whole_len hp.house k b
  refine ls_seq (ls_pure (st (w := .d (encAsk k b)) 5 ?ask sc89.nd)) fun ρ' e => ?_
  case ask =>
    cases k with
    | best => exact pd_ifE (k := true) (ptEq (cmpT (ix 0 (nm 4)) pd_str (od_eq hu (by show shaped (.str "best") = true; decide +kernel) (by show shaped (.str "best") = true; decide +kernel))) (by show PyData.eqv (.str "best") (.str "best") = true; decide +kernel)) (fun _ => pd_eq (t3 pd_str (nm 3) pd_int) rfl) (fun h => nomatch h)
    | near p => exact pd_ifE (k := false) (ptEq (cmpT (ix 0 (nm 4)) pd_str (od_eq hu (by show shaped (.str "near") = true; decide +kernel) (by show shaped (.str "best") = true; decide +kernel))) (by show PyData.eqv (.str "near") (.str "best") = false; decide +kernel)) (fun h => nomatch h) (fun _ => pd_eq (t4 pd_str (nm 3) (ix 1 (nm 4)) pd_int) rfl)
  subst e
  refine ls_seq (ls_pure (st 6 (cl h1 (h, k, b) at_ hr (a2 (nm 1) (nm 5)) ⟨hp.house, hp.box⟩) sc89.nd)) fun ρ' e => ?_
  subst e
  refine ls_seq (ls_set (W := Wmany) 7 (le_weak (le_ix (n := 6) (le_lst (la_cons (W := Wmany) (le_weak (le_pure pd_int) fun w e => ⟨0, by decide, e⟩) (la_cons (W := Wmany) (le_weak (le_pure pd_int) fun w e => ⟨1, by decide, e⟩) (la_cons (W := Wmany) (le_weak (le_pure pd_int) fun w e => ⟨2, by decide, e⟩) (la_cons (W := Wmany) (le_weak (le_pure (cb at_ B.len (cd_len (ds := (namesOf (sortedBy k (thingsIn h b))).map Enc.enc) rfl) (a1 (nm 6)))) ?c1) (la_cons (W := Wmany) (le_weak (le_pure (bop (cb at_ B.len (cd_len (ds := (namesOf (sortedBy k (thingsIn h b))).map Enc.enc) rfl) (a1 (nm 6))) pd_int od_add)) ?c2) (la_cons (W := Wmany) (le_weak (pick ((namesOf (sortedBy k (thingsIn h b))).length + 1) at_ P hr (nm 0) (pd_eq (bop (cb at_ B.len (cd_len (ds := (namesOf (sortedBy k (thingsIn h b))).map Enc.enc) rfl) (a1 (nm 6))) pd_int od_add) ?c3) ⟨by omega, by omega⟩) ?c4) la_nil)))))) ?l1 (Nat.le_of_ble_eq_true rfl)) (pick 6 at_ P hr (nm 0) pd_int (by decide)) (fun ds hds => Nat.le_of_eq (by have := Paired.length hds; rw [List.length_map] at this; exact this)) (fun _ _ => rfl)) ?l2) sc89.nd) ?_
  case c1 =>
    intro w e
    exact ⟨_, by rw [List.length_map]; omega, e⟩
  case c2 =>
    intro w e
    exact ⟨(namesOf (sortedBy k (thingsIn h b))).length + 1, by omega, by rw [e, List.length_map]; rfl⟩
  case c3 => rw [List.length_map]; rfl
  case c4 =>
    rintro w ⟨i, hi, rfl⟩
    exact ⟨i, by omega, rfl⟩
  case l1 =>
    intro W hW w hw
    have hW : W = Wmany := by simpa using hW
    subst hW
    obtain ⟨i, _, e⟩ := hw
    exact ⟨_, e⟩
  case l2 =>
    rintro w ⟨ds, d, hds, hd, rfl⟩
    exact each_mem hds (fun W hW w hw => by
      have hW : W = Wmany := by simpa using hW
      subst hW
      exact hw) d hd
  rintro ρ' ⟨w, ⟨m, hm, rfl⟩, rfl⟩
  refine ls_seq (ls_set 8 (le_paper at_ h2 ⟨h, ot, b, k⟩ m hr (pds_cons (nm 1) (a4 (nm 2) (nm 3) (nm 4) (nm 7))) (hp.ok m hm)) sc89.nd) ?_
  rintro ρ' ⟨w, ⟨d, hd, rfl⟩, rfl⟩
  obtain ⟨ns, ps, rfl, R⟩ := hp.right m d hm hd
  have nl : ns.length ≤ 1000 := R.shown.few
  have pl : ps.length ≤ 1000 := R.shown.parts
  refine ls_seq (ls_pure (st 9 (cl h3 (h, ot, b, k, (m : Int), ns, ps) at_ hr (pds_cons (nm 1) (pds_cons (nm 2) (a4 (nm 3) (nm 4) (nm 7) (nm 8)))) R.shown) sc89.nd)) fun ρ' e => ?_
  subst e
  refine ls_ifR (k := false) (ptEq (ptd_w (pwd_or (cmpT (nm 9) pd_bl od_notB) (fun _ => pwd_or1 (cmpT (ix 0 (nm 8) (d := en ns)) (pd_eq (w' := ed ((namesOf (sortedBy k (thingsIn h b))).take m)) (pd_slT (ds := (namesOf (sortedBy k (thingsIn h b))).map Enc.enc) (nm 6) pdo_none (pdo_some (nm 7))) (by rw [cutToN, ← List.map_take]; rfl)) (od_neE hu))))) (by rw [R.taken, ← R.names]; simp)) (fun h => nomatch h) (fun _ => ?_)
  refine ls_seq (ls_pure (st (w := .d (.bool (ps.any Part.isFar))) 10 (cmp pd_str (pd_lc rfl sc89.nd ps encPart (fun q => .str q.word) (own := [("_law_part", 13)]) (pid_tup (ix 1 (nm 8))) (blkOk_by (N := N89) (sc := defScope (top 89)) (by decide +kernel)) (fun q _ => ⟨_, _, by decide, fun s H C cl fp => gn 13 sc89.nd, fun s H C' c' fp => ixW (nm 13)⟩) (by omega) (by intro _; rfl)) (od_farIn hu ps)) sc89.nd)) fun ρ' e => ?_
  subst e
  refine ls_ifR (k := false) (ptEq (cmpT (cl h3 (h, ot, b, k, (m : Int) + 1, ns, ps) at_ hr (pds_cons (nm 1) (pds_cons (nm 2) (a4 (nm 3) (nm 4) (bop (nm 7) pd_int od_add) (nm 8)))) R.shown) (nm 10) (od_eqE (α := Bool) hu)) (by rw [R.more]; cases ps.any Part.isFar <;> rfl)) (fun h => nomatch h) (fun _ => ?_)
  refine ls_seq (P := fun ρ' => ∃ z, ρ' = [some (.v (.ref L)), some (.d (encHouse h)), some (.d (encOT ot)), some (.d (encBox b)), some (.d (encKind k)), some (.d (encAsk k b)), some (ed (namesOf (sortedBy k (thingsIn h b)))), some (.d (.int (m : Int))), some (.d (.tuple [en ns, .tuple (ps.map encPart)])), some (.d (.bool (showsDrawn h ot b k (m : Int) ns ps))), some (.d (.bool (ps.any Part.isFar))), z, none, none]) ?fewer ?_
  case fewer =>
    by_cases h0 : 0 < m
    · refine ls_weak1 (ls_pure (ifT (ptEq (cmpT (nm 7) pd_int od_gt) (by rw [decide_eq_true_eq]; omega)) (pds_seq (st 11 (cl h3 (h, ot, b, k, (m : Int) - 1, ns, ps) at_ hr (pds_cons (nm 1) (pds_cons (nm 2) (a4 (nm 3) (nm 4) (bop (nm 7) pd_int od_sub) (nm 8)))) R.shown) sc89.nd) (pds_one (ifF (ptEq (cmpT (nm 11) (cmp (cb at_ B.len (cd_len (ds := ns.map Enc.enc) rfl) (a1 (ix 0 (nm 8)))) (nm 7) od_lt) (od_neE (α := Bool) hu)) ?ne) pds_nxt))))) fun ρ' e => ⟨_, e⟩
      rw [R.fewer h0, List.length_map]
      simp
    · exact ls_weak1 (ls_pure (ifF (ptEq (cmpT (nm 7) pd_int od_gt) (by rw [decide_eq_false_iff_not]; omega)) pds_nxt)) fun ρ' e => ⟨_, e⟩
  rintro ρ' ⟨z, rfl⟩
  refine ls_pures ?_
  refine seq (st (w := .d (.tuple [en ns.reverse, .tuple (ps.map encPart)])) 12 (t2 (pd_eq (pd_back (ix 0 (nm 8) (d := en ns)) (pd_un ud_neg pd_int)) (by rw [← List.map_reverse]; rfl)) (ix 1 (nm 8))) sc89.nd) ?_
  refine seq (st 9 (cl h3 (h, ot, b, k, (m : Int), ns.reverse, ps) at_ hr (pds_cons (nm 1) (pds_cons (nm 2) (a4 (nm 3) (nm 4) (nm 7) (nm 12)))) R.turnedOk) sc89.nd) ?_
  refine rt (pd_eq (pd_or (cmp (cb at_ B.len (cd_len (ds := ns.map Enc.enc) rfl) (a1 (ix 0 (nm 8)))) pd_int od_lt) (fun _ => pd_one (cmp (nm 9) pd_bl od_isB))) ?_)
  rw [List.length_map]
  by_cases l2 : 2 ≤ ns.length
  · rw [R.turned l2]; simp
  · rw [show decide ((ns.length : Int) < 2) = true from decide_eq_true (by omega)]; rfl
end
end Bx
set_option maxHeartbeats 400000
/-! loops in drawn code; the list of what is left made anew -/
namespace Bx
open PySem L2 PySem.SeqAt
open LamX (Tabs TabB ExtN)
section
variable {X : Cx} {T : List (Addr × Str)} {L : Addr} {ρ ρ' : Ev} {e a b c iter : Expr} {es body rest sts : List Stmt} {W : Sl → Prop} {w : Sl} {pos py : Pos} {y : Str} {k n : Nat}
/-- for y in range(n) -/
theorem ls_forR (Inv : Ev → Prop) (hi : PI X (.Name y py) iter (tIR X.K T L ρ n)) (h0 : Inv ρ) (hN : X.N.Nodup) (k : Nat)
    (turn : ∀ m, m < n → ∀ ρ, Inv ρ → PSs X body (tLS X.K T L (ρ.set k (some (.d (.int (m : Int))))) (.nxt Inv)))
    (hk : X.N[k]? = some y := by rfl) (hx : Loc X.env.scope y := by first | exact Or.inl rfl | exact Or.inr rfl) (hf : X.fn y = true ∨ X.env.scope.names.lookup y = some .local := by first | exact Or.inl rfl | exact Or.inr rfl)
    (hp : PassesOwn (model X.prog X.w) X.A X.env X.xe := by exact PassesOwn.never) (hc : X.calm = true := by rfl) (hs : ∀ x, foldedSetIterable iter X.env x = pure x := by intro _; rfl) :
    PS X (.For (.Name y py) iter body [] pos) (tLS X.K T L ρ (.nxt Inv)) :=
  psI (ps_for hp hc hi (pg_name hN hk hx hf) pss_w hs) fun D σ H ⟨hh, g, q⟩ => ⟨hh, g, fun J H1 s1 g1 it => by
    refine ⟨fun j m σ2 H2 => m = n - j ∧ j ≤ n ∧ SameN (msk L H1) (msk L H2) ∧ GL T L H2 ∧ ∃ ρ', Inv ρ' ∧ Held X.K (msk L H2) σ2 ρ', ⟨n, by omega, Nat.zero_le _, .refl _, g1, ρ, h0, heldN s1 hh⟩, ?_⟩
    rintro j m σ2 H2 ⟨rfl, hle, sm, g2, ρ2, iv, h2⟩
    by_cases hlt : j < n
    · refine .inr ⟨it.go j H2 hlt, fun σ' H' => SameN (msk L H1) (msk L H') ∧ GL T L H' ∧ ∃ ρ', Inv ρ' ∧ Held X.K (msk L H') σ' ρ', fun σ' H' ⟨p1, p2⟩ => ⟨n - (j + 1), by omega, rfl, hlt, p1, p2⟩, fun x H3 yy => ?_⟩
      obtain ⟨rfl, rfl⟩ := it.yld j H2 x H3 hlt yy
      exact ⟨_, turn j hlt ρ2 iv, h2.set k (w := .d (.int (j : Int))) (.int _), g2, fun σ' H' ρ' hI s3 g3 h3 => ⟨sm.trans s3, g3, ρ', hI, h3⟩⟩
    · have hj : j = n := by omega
      subst hj
      exact .inl ⟨it.stop H2, q σ2 H2 ρ2 iv (s1.trans sm) g2 h2⟩⟩
/-- for y in a tuple -/
theorem ls_forT (Dp0 : PyData → Prop) (Inv : Ev → Prop) (he : PE X iter (tLE X.K T L ρ (fun w => ∃ ds, (∀ d ∈ ds, Dp0 d) ∧ w = .d (.tuple ds)))) (h0 : Inv ρ) (hN : X.N.Nodup) (k : Nat)
    (turn : ∀ d, Dp0 d → ∀ ρ, Inv ρ → PSs X body (tLS X.K T L (ρ.set k (some (.d d))) (.nxt Inv)))
    (hk : X.N[k]? = some y := by rfl) (hx : Loc X.env.scope y := by first | exact Or.inl rfl | exact Or.inr rfl) (hf : X.fn y = true ∨ X.env.scope.names.lookup y = some .local := by first | exact Or.inl rfl | exact Or.inr rfl)
    (hp : PassesOwn (model X.prog X.w) X.A X.env X.xe := by exact PassesOwn.never) (hc : X.calm = true := by rfl) (hs : ∀ x, foldedSetIterable iter X.env x = pure x := by intro _; rfl) :
    PS X (.For (.Name y py) iter body [] pos) (tLS X.K T L ρ (.nxt Inv)) :=
  psI (ps_for hp hc (pi_tup he) (pg_name hN hk hx hf) pss_w hs) fun D σ H ⟨hh, g, q⟩ => ⟨hh, g, fun v H1 w ⟨ds, hds, ew⟩ s1 g1 hv => by
    subst ew
    obtain ⟨a, xs, rfl, h1, h2⟩ := dpTupR hv
    have hl := dpAllLen h2
    refine ⟨a, rfl, ⟨xs, sameT msk_le h1⟩, ?_⟩
    refine ⟨fun j m σ2 H2 => m = xs.length - j ∧ j ≤ xs.length ∧ SameN (msk L H1) (msk L H2) ∧ GL T L H2 ∧ ∃ ρ', Inv ρ' ∧ Held X.K (msk L H2) σ2 ρ', ⟨xs.length, by omega, Nat.zero_le _, .refl _, g1, ρ, h0, heldN s1 hh⟩, ?_⟩
    rintro j m σ2 H2 ⟨rfl, hle, sm, g2, ρ2, iv, h3⟩
    have ha : SqT X.K H2 a xs := sameT msk_le (sqTN sm h1)
    by_cases hlt : j < xs.length
    · refine .inr ⟨⟨xs, xs[j], ha, by simp [hlt]⟩, fun σ' H' => SameN (msk L H1) (msk L H') ∧ GL T L H' ∧ ∃ ρ', Inv ρ' ∧ Held X.K (msk L H') σ' ρ', fun σ' H' ⟨p1, p2⟩ => ⟨xs.length - (j + 1), by omega, rfl, hlt, p1, p2⟩, fun x H3 yy => ?_⟩
      obtain ⟨e1, e2⟩ := yy
      subst e1
      have ex := e2 xs ha
      obtain ⟨d, e3, e4⟩ := dpAllAt' h2 ex
      exact ⟨_, turn d (hds d (List.mem_of_getElem? e3)) ρ2 iv, h3.set k (w := .d d) (dpN sm e4), g2, fun σ' H' ρ' hI s3 g3 h4 => ⟨sm.trans s3, g3, ρ', hI, h4⟩⟩
    · have hj : j = xs.length := by omega
      subst hj
      exact .inl ⟨⟨xs, ha, Nat.le_refl _⟩, q σ2 H2 ρ2 iv (s1.trans sm) g2 h3⟩⟩
/-- a drawn test -/
theorem lt_b {x : Bool} (h : PE X e (tLE X.K T L ρ (fun w => w = .d (.bool x)))) (he : ∀ whole, isTrue e X.env whole = (do let v ← whole; standAt e.pos; holding [v] (truthy v)) := by intro _; rfl) : PT X e (tLT X.K T L ρ (· = x)) :=
  ptI (pt_val h he) fun σ H Q ⟨hh, g, k⟩ => ⟨hh, g, fun v H' w ew s g' q => by
    subst ew
    exact ⟨x, dpBl q, k x H' rfl s g'⟩⟩
theorem lt_not {x : Bool} (ha : PT X e (tLT X.K T L ρ (· = x))) : PT X (.UnaryOp .Not e pos) (tLT X.K T L ρ (· = !x)) :=
  ptI (pt_not ha) fun σ H Q ⟨hh, g, q⟩ => ⟨hh, g, fun b H1 hb s1 g1 => q (!b) H1 (by rw [hb]) s1 g1⟩
/-! ### before there is such a list -/
def tBS (K : PySem.W.Frag) (T : List (Addr × Str)) (ρ ρ' : Ev) : TS := fun D σ H => Held K H σ ρ ∧ Tabs T H ∧ ∀ σ' H', Held K H' σ' ρ' → Tabs T H' → D.nx σ' H'
def spLeft (K : PySem.W.Frag) : Sp := fun vs H Q _ => ∃ (xs : List Int) (k : Nat), HeldVs K H vs [.d (.list (xs.map .int)), .d (.int (k : Int))] ∧ k < 1000 ∧ ∀ (L : Addr) (H1 : Hp) (ws : List V), Same H H1 → H1 L = none → LeftOk ws → Q (.ref L) (upd H1 L (.lst ws))
/-- left = .., and all behind it -/
theorem bs_left {C : Ctx} {x f : Str} {i j : Nat} {xs : List Int} {es : List Expr} {pos' p p2 : Pos} (at_ : At C X) (h : HasS C f 1 (spLeft C.K)) (hr : Room j X.A) (ha : PA X (e :: es) (tDs X.K ρ [.d (.list (xs.map .int)), .d (.int (n : Int))])) (hn : n < 1000) (hN : X.N.Nodup)
    (h2 : ∀ L, PSs X rest (tLS X.K T L (ρ.set i (some (.v (.ref L)))) (.nxt fun ρ2 => ρ'.length = ρ2.length ∧ ∀ (i : Nat) x, ρ'[i]? = some (some x) → ρ2[i]? = some (some x))))
    (hj : 1 ≤ j := by decide) (hg : Gl X f := by rfl) (hdb : (f == ("__debug__" : Str)) = false := by decide) (he : starEach (e :: es) X.env = (false, eval e X.env) :: starEach es X.env := by rfl) (hpl : (backTo p2 (starEach es X.env)).any (·.1) = false := by rfl)
    (hi : X.N[i]? = some x := by rfl) (hx : Loc X.env.scope x := by first | exact Or.inl rfl | exact Or.inr rfl) (hs : swapsWith (.Call (.Name f p) (e :: es) [] p2) (some (.Name x pos')) pos.line X.env = pure false := by rfl) (hf : X.fn x = true ∨ X.env.scope.names.lookup x = some .local := by first | exact Or.inl rfl | exact Or.inr rfl) :
    PSs X (.Assign [.Name x pos'] (.Call (.Name f p) (e :: es) [] p2) pos :: rest) (tBS X.K T ρ ρ') :=
  pssI (pss_cons (ps_set hN hi hx (pe_has at_ h (hr.mono hj) hg ha hdb he hpl) hs hf) pss_w) fun D σ H ⟨hh, tb, q⟩ => ⟨hh, fun vs H1 s1 hv => by
    refine ⟨xs, n, by rw [List.append_nil, ← at_.k]; exact hv, hn, fun L H2 ws s2 hL ok => ⟨_, h2 L, ?_, ?_, fun σ' H' ρ2 hP s3 g3 h3 => ?_⟩⟩
    · rw [msk_upd hL]
      exact (hh.mono (s1.trans s2)).set i rfl
    · exact ⟨⟨ws, upd_same, ok⟩, tb.ext ((s1.trans s2).trans (sameNew hL))⟩
    · exact q σ' H' ((h3.mono msk_le).weak hP.1 hP.2) g3.tabs⟩
/-- for y in range(n), before there is such a list -/
theorem bs_for (hi : PI X (.Name y py) iter (fun σ H R => Held X.K H σ ρ ∧ ∀ J H1, Same H H1 → ItR J n → R J H1)) (hN : X.N.Nodup) (k : Nat)
    (turn : ∀ m, m < n → PSs X body (tBS X.K T (ρ.set k (some (.d (.int (m : Int))))) ρ))
    (hk : X.N[k]? = some y := by rfl) (hx : Loc X.env.scope y := by first | exact Or.inl rfl | exact Or.inr rfl) (hf : X.fn y = true ∨ X.env.scope.names.lookup y = some .local := by first | exact Or.inl rfl | exact Or.inr rfl)
    (hp : PassesOwn (model X.prog X.w) X.A X.env X.xe := by exact PassesOwn.never) (hc : X.calm = true := by rfl) (hs : ∀ x, foldedSetIterable iter X.env x = pure x := by intro _; rfl) :
    PS X (.For (.Name y py) iter body [] pos) (tBS X.K T ρ ρ) :=
  psI (ps_for hp hc hi (pg_name hN hk hx hf) pss_w hs) fun D σ H ⟨hh, tb, q⟩ => ⟨hh, fun J H1 s1 it => by
    refine ⟨fun j m σ2 H2 => m = n - j ∧ j ≤ n ∧ Held X.K H2 σ2 ρ ∧ Tabs T H2, ⟨n, by omega, Nat.zero_le _, hh.mono s1, tb.ext s1⟩, ?_⟩
    rintro j m σ2 H2 ⟨rfl, hle, h2, t2⟩
    by_cases hlt : j < n
    · refine .inr ⟨it.go j H2 hlt, fun σ' H' => Held X.K H' σ' ρ ∧ Tabs T H', fun σ' H' p2 => ⟨n - (j + 1), by omega, rfl, hlt, p2⟩, fun x H3 yy => ?_⟩
      obtain ⟨rfl, rfl⟩ := it.yld j H2 x H3 hlt yy
      exact ⟨_, turn j hlt, h2.set k (w := .d (.int (j : Int))) (.int _), t2, fun σ' H' h3 t3 => ⟨h3, t3⟩⟩
    · have hj : j = n := by omega
      subst hj
      exact .inl ⟨it.stop H2, q σ2 H2 h2 t2⟩⟩
theorem pi_rangeP {C : Ctx} {tg : Expr} {p : Pos} (at_ : At C X) (hm : C.mg "range" = none) (ha : PE X e (tD X.K ρ (.d (.int (n : Int))))) (hn : n < 2 ^ 62) (hg : Gl X "range" := by rfl) (hs : starEach [e] X.env = [(false, eval e X.env)] := by rfl) : PI X tg (.Call (.Name "range" p) [e] [] pos) (fun σ H R => Held X.K H σ ρ ∧ ∀ J H1, Same H H1 → ItR J n → R J H1) :=
  piI (pi_range1 hg (at_.no hm) (pa_cons ha pa_nil hs) hs) fun σ H R ⟨hh, k⟩ => ⟨hh, fun v H1 s q => by
    have := dpInt q
    subst this
    refine ⟨(n : Int), rfl, by omega, by omega, k _ _ s ⟨fun i H2 hi => ?_, fun H2 => ?_, fun i H2 x H' hi ⟨e1, e2⟩ => ⟨e1, by rw [e2, Int.zero_add]⟩⟩⟩
    · show i < ((n : Int) - 0).toNat
      omega
    · show ((n : Int) - 0).toNat ≤ n
      omega⟩
end
end Bx
set_option maxHeartbeats 400000
namespace Bx
open PySem L2 PySem.SeqAt
open LamX (Tabs TabB ExtN)
section
variable {C : Ctx} {f : Addr} {fd : FuncData}
theorem ok_left_new (F : Fd C.K "_law_left" "_law_left" (top 77) f fd) (m : C.mg "_law_left" = some (.ref f)) (B : Blt C) : HasS C "_law_left" 1 (spLeft C.K) := by
  refine ⟨f, fd, ["_law_script", "_law_k"], m, F.kp, F.bindsN (fun _ _ _ _ _ _ us hl => match us, hl with | [_, _], _ => rfl), F.ok (N := N77) sc77 (fun vs H Q E h => ?_) fun cdv A outer s H vs Q E hr h => ?_⟩
  · obtain ⟨xs, k, h, _⟩ := h
    exact h.len
  · obtain ⟨xs, k, hv, hk, q⟩ := h
    let X := (cxOf CX0 C.P C.w C.K C.mg C.base N77 "_law_left" (defScope (top 77)) f cdv A outer s H E).nox
    have at_ : At C X := ⟨rfl, rfl, rfl, rfl, rfl⟩
    have hr' : Room 0 X.A := hr
    have hu : X.A.units + 64 < cLine := hr'.units
    let ρ0 : Ev := [some (.d (.list (xs.map .int))), some (.d (.int (k : Int))), none, none]
    let ρ1 : Ev := [some (.d (.list (xs.map .int))), some (.d (.int (k : Int))), some (.d (.int (cellOf xs k))), none]
    let ρ2 : Ev := [some (.d (.list (xs.map .int))), some (.d (.int (k : Int))), some (.d (.int (cellOf xs k))), some (.d (.int (digitsOf (cellOf xs k))))]
    have held0 : Held X.K H (L2.start N77 vs) ρ0 := by
      have := held_start (K := C.K) (H := H) (vs := vs) (ws := [.d (.list (xs.map .int)), .d (.int (k : Int))]) (N := N77) hv (by rw [hv.len]; exact Nat.le_of_ble_eq_true rfl)
      have e : N77.length - vs.length = 2 := by rw [hv.len]; rfl
      rw [e] at this
      exact this
    refine ⟨_, (pss_cons (st (X := X) (ρ := ρ0) 2 pd_int sc77.nd)
      (pss_cons (?i1 : PS X _ (tDS X.K (ρ0.set 2 (some (.d (.int 0)))) (.nxt ρ1)))
      (pss_cons (?i2 : PS X _ (tDS X.K ρ1 (.nxt ρ2)))
      (pss_one (ps_ret (pe_lst (?i3 : PA X _ (tDs X.K ρ2 [.d (.int (digitsOf (cellOf xs k))), .d (.int (seedOf (cellOf xs k) k)), .d (.int 0)])))))))).nox, ?_⟩
    case i1 =>
      refine pds_if (x := decide (0 < xs.length)) (ptEq (cmpT (cb at_ B.len (cd_len (ds := xs.map PyData.int) rfl) (a1 (nm 0))) pd_int od_gt) (by rw [List.length_map, decide_eq_decide]; omega)) (fun e => pds_one (psE (st 2 (pd_ix (ds := xs.map PyData.int) rfl (d := .int (cellOf xs k)) ?_ (nm 0) (pd_eq (w' := .d (.int ((k % xs.length : Nat) : Int))) (bop (nm 1) (cb at_ B.len (cd_len (ds := xs.map PyData.int) rfl) (a1 (nm 0))) (od_mod ?_)) (by rw [List.length_map, Int.natCast_emod])) (fun _ _ => rfl)) sc77.nd) rfl)) (fun e => psE' pds_nxt ?_)
      · have h := of_decide_eq_true e
        refine atI_nat ?_
        rw [List.getElem?_map, List.getElem?_eq_getElem (Nat.mod_lt _ h)]
        unfold cellOf
        rw [if_pos h]
        simp [List.getD, Nat.mod_lt _ h]
      · have h := of_decide_eq_true e
        rw [List.length_map]; omega
      · have h := of_decide_eq_false e
        show ρ0.set 2 (some (.d (.int 0))) = [_, _, some (.d (.int (cellOf xs k))), none]
        unfold cellOf
        rw [if_neg h]
        rfl
    case i2 =>
      refine st (w := .d (.int (digitsOf (cellOf xs k)))) 3 (bop (bop (cb at_ B.abs cd_abs (a1 (nm 2))) (bop pd_int pd_int (od_pow ⟨by decide, by decide, by decide⟩)) (od_mod (by decide))) (ct at_ B.int cd_intB (a1 (cmp (cb at_ B.abs cd_abs (a1 (nm 2))) (bop pd_int pd_int (od_pow ⟨by decide, by decide, by decide⟩)) od_ge))) (od_mul (.inr ?_))) sc77.nd
      rcases b2_01 (decide ((10 : Int) ^ (18 : Int).toNat ≤ ((cellOf xs k).natAbs : Int))) with e | e <;> rw [e] <;> exact ⟨by decide, by decide⟩
    case i3 => exact a3 (nm 3) (bop (bop (bop (bop (bop (nm 2) pd_int (od_mod (by decide))) (bop (bop pd_int (nm 1) (od_mul (.inl ⟨by decide, by decide⟩))) (nm 1) (od_mul (.inr ⟨by omega, by omega⟩))) od_add) pd_int od_add) pd_int (od_mul (.inr ⟨by decide, by decide⟩))) pd_int (od_mod (by decide))) pd_int
    refine ⟨held0, fun σ1 H1 s1 h1 => ⟨h1, fun σ2 H2 s2 h2 => ⟨h2, fun σ3 H3 s3 h3 => ⟨h3, fun vs H4 s4 h4 => ⟨?_, fun p hp => ?_⟩⟩⟩⟩⟩
    · have := h4.len
      rw [this]
      show 3 ≤ sizeLine
      decide
    · refine q p H4 vs (((s1.trans s2).trans s3).trans s4) hp ?_
      cases h4 with
      | cons c1 h4 =>
        cases h4 with
        | cons c2 h4 =>
          cases h4 with
          | cons c3 h4 =>
            cases h4
            rw [dpInt c1, dpInt c2, dpInt c3]
            exact left_ok (cellOf xs k) k
abbrev N90 : List Str := ["_law_script", "_law_k", "_law_left_here", "_law_house_here", "_law_tree_here", "_law_turn", "_law_box_here", "_law_kind_here"]
theorem sc90 : FnScope N90 ["_law_script"] (defScope (top 90)) := ⟨rfl, rfl, rfl, by decide +kernel, rfl, by decide +kernel, by decide +kernel⟩
def spLaw (K : PySem.W.Frag) (T : List (Addr × Str)) : Sp := fun vs H Q _ => ∃ (a : Addr) (ns : List Int), vs = [.ref a] ∧ SqL K H a (ns.map V.int) ∧ Tabs T H ∧ ∀ H', Q (.bl true) H'
abbrev Wtree (h : House) : Sl → Prop := fun w => ∃ ot : Option Tr, TreeIs h ot ∧ w = .d (encOT ot)
theorem ok_law {T : List (Addr × Str)} (B : Blt C) (F : Fd C.K "law" "law" (top 90) f fd) (hL : HasS C "_law_left" 1 (spLeft C.K)) (hH : HasS C "_law_house" 2 (S_law_house C T)) (hT : Has C "turns" 41 Rturns) (hG : HasS C "_law_tree" 41 (S_law_tree C T)) (hB : HasS C "_law_box" 3 (S_law_box C T)) (hK : HasS C "_law_kind" 3 (S_law_kind C T)) (h1 : HasS C "_law_covers_right" 47 (S_covers_right C T)) (h2 : HasS C "_law_papers_right" 43 (S_papers_right C T)) : FnOk C.P C.w C.K C.mg C.base CX0 48 f fd ["_law_script"] (spLaw C.K T) := by
  refine F.ok (N := N90) (k := 47) sc90 (fun vs H Q E h => ?_) fun cdv A outer s H vs Q E hr h => ?_
  · obtain ⟨a, ns, rfl, _⟩ := h
    rfl
  · obtain ⟨a, ns, rfl, hS, tb, q⟩ := h
    let X := (cxOf CX0 C.P C.w C.K C.mg C.base N90 "law" (defScope (top 90)) f cdv A outer s H E).nox
    have at_ : At C X := ⟨rfl, rfl, rfl, rfl, rfl⟩
    have hr' : Room 47 X.A := hr
    have hu : X.A.units + 64 < cLine := hr'.units
    let ρ0 : Ev := [some (.d (.list (ns.map .int))), none, none, none, none, none, none, none]
    have held0 : Held X.K H (L2.start N90 [.ref a]) ρ0 := held_start (K := C.K) (H := H) (vs := [.ref a]) (ws := [.d (.list (ns.map .int))]) (N := N90) (.cons (Dp.lst hS (intsDp ns)) .nil) (Nat.le_of_ble_eq_true rfl)
    have hn : ((max 1 (min (ns.length : Int) 4)).toNat : Int) = max 1 (min (ns.length : Int) 4) := Int.toNat_of_nonneg (by omega)
    refine ⟨_, (pss_cons (bs_for (X := X) (T := T) (ρ := ρ0) (n := (max 1 (min (ns.length : Int) 4)).toNat) (pi_rangeP at_ B.range (pd_eq (cb at_ B.max (cd_max2 rfl) (a2 pd_int (cb at_ B.min (cd_min2 rfl) (a2 (cb at_ B.len (cd_len (ds := ns.map PyData.int) rfl) (a1 (nm 0))) pd_int)))) (by rw [hn, List.length_map])) (by omega)) sc90.nd 1 fun m hm => ?_) (pss_one (ps_ret pe_bl))).nox, held0, tb, fun σ' H' _ _ => q H'⟩
    refine bs_left (i := 2) at_ hL hr' (a2 (nm 0) (nm 1)) (by omega) sc90.nd fun L => ?_
    refine ls_seq (ls_set 3 (le_call (a := ()) at_ hH hr' (a1 (nm 2)) trivial) sc90.nd) ?_
    rintro ρ' ⟨w, ⟨ho, hok, rfl⟩, rfl⟩
    refine ls_one (ls_weak1 (ls_forT (fun d => ∃ ot : Option Tr, TreeIs ho ot ∧ d = encOT ot) (fun ρ => ∃ x4 x5 x6 x7, ρ = [some (.d (.list (ns.map .int))), some (.d (.int (m : Int))), some (.v (.ref L)), some (.d (encHouse ho)), x4, x5, x6, x7]) (le_weak (le_tup (la_cons (W := Wtree ho) (le_weak (le_pure (cl hT ho at_ hr' (a1 (nm 3)) hok)) fun w e => ⟨_, turns_is hok, e⟩) (la_cons (W := Wtree ho) (le_call (a := ho) at_ hG hr' (a2 (nm 2) (nm 3)) hok) la_nil)) ?l1 (Nat.le_of_ble_eq_true rfl)) ?l2) ⟨none, none, none, none, rfl⟩ sc90.nd 4 ?turn) ?fin)
    case l1 =>
      intro W hW w hw
      have hW : W = Wtree ho := by simpa using hW
      subst hW
      obtain ⟨ot, _, e⟩ := hw
      exact ⟨_, e⟩
    case l2 =>
      rintro w ⟨ds, hds, rfl⟩
      refine ⟨ds, fun d hd => ?_, rfl⟩
      obtain ⟨ot, i, e⟩ := each_mem (W := Wtree ho) hds (fun W hW w hw => by
        have hW : W = Wtree ho := by simpa using hW
        subst hW
        exact hw) d hd
      exact ⟨ot, i, Sl.d.inj e⟩
    case fin =>
      rintro ρ ⟨x4, x5, x6, x7, rfl⟩
      refine ⟨rfl, fun i x e => ?_⟩
      rcases i with _ | _ | _ | _ | _ | _ | _ | _ | i <;> first | exact e | cases e
    case turn =>
      rintro d ⟨ot, ti, rfl⟩ ρ ⟨x4, x5, x6, x7, rfl⟩
      refine ls_one (ls_weak1 (ls_forR (n := 4) (fun ρ => ∃ x5 x6 x7, ρ = [some (.d (.list (ns.map .int))), some (.d (.int (m : Int))), some (.v (.ref L)), some (.d (encHouse ho)), some (.d (encOT ot)), x5, x6, x7]) (pi_rangeL at_ B.range pd_int (by decide)) ⟨_, _, _, rfl⟩ sc90.nd 5 ?inner) ?fin2)
      case fin2 =>
        rintro ρ ⟨x5, x6, x7, rfl⟩
        exact ⟨_, _, _, _, rfl⟩
      case inner =>
        rintro i hi ρ ⟨x5, x6, x7, rfl⟩
        refine ls_seq (ls_par 6 7 (la_cons (le_call (a := ho) at_ hB hr' (a2 (nm 2) (nm 3)) hok) (la_cons (le_call (a := ho) at_ hK hr' (a2 (nm 2) (nm 3)) hok) la_nil)) sc90.nd) ?_
        rintro ρ' ⟨w, u, ⟨b, hb, rfl⟩, ⟨k, hk, rfl⟩, rfl⟩
        refine ls_seq (P := fun ρ => ρ = [some (.d (.list (ns.map .int))), some (.d (.int (m : Int))), some (.v (.ref L)), some (.d (encHouse ho)), some (.d (encOT ot)), some (.d (.int (i : Int))), some (.d (encBox b)), some (.d (encKind k))]) (ls_if (lt_not (lt_b (x := true) (le_call (a := (ho, ot, b)) at_ h1 hr' (a4 (nm 2) (nm 3) (nm 4) (nm 6)) (cover_right hok ti hb)))) (fun e => nomatch e) (fun _ => ls_nil)) ?_
        rintro ρ rfl
        exact ls_one (ls_weak1 (ls_if (lt_not (lt_b (x := true) (le_call (a := (ho, ot, b, k)) at_ h2 hr' (pds_cons (nm 2) (a4 (nm 3) (nm 4) (nm 6) (nm 7))) (papers_right hok ti hb k)))) (fun e => nomatch e) (fun _ => ls_nil)) fun ρ e => ⟨_, _, _, e⟩)
end
end Bx
set_option maxHeartbeats 0
namespace Bx
open PySem PySem.Spec PyProof.Rows L2
def looseA : List Str := ["__name__", "EMPTY_boxes", "fits_low", "fits_high", "fits_span", "fits", "plain_span", "is_crossed", "plain_of", "plain_box", "greater_of", "lesser_of", "common", "lies_within", "lie_apart", "bounds", "steps", "things_in", "fitting", "by_place", "by_worth", "by_worth_down", "names_of", "names_of_answers", "in_order", "best_first"]
def looseB : List Str := ["nearest_first", "name_of_first", "answer_of", "answer", "EMPTY_covers", "lies_out", "out_part", "parts_along", "cover", "tree_at", "is_count", "is_path", "there", "is_out", "is_in", "has_each_once", "shows_cover", "steps_to", "worths_of", "key_by", "key_by_drawing", "Drawer", "drawn", "is_name_of", "keys_told", "is_far"]
def looseC : List Str := ["parts_show", "shows_drawn", "parts_drawn", "drawn_paper", "key_by_orders", "things_by", "names_of_orders", "order_by", "halved_up", "places_of", "Halver", "turns", "_law_left", "_law_pick", "_law_house", "_law_number", "_law_box", "_law_kind", "_law_bounds", "_law_grown", "_law_tree", "_law_at", "_law_names", "_law_covers_right", "_law_papers_right"]
def loose : List Str := looseA ++ (looseB ++ looseC)
def d2 : He.DefD := ⟨("fits_low", none), "fits_low", "fits_low", defArgs (top 2), defBody (top 2), defScope (top 2), [], []⟩
def d3 : He.DefD := ⟨("fits_high", none), "fits_high", "fits_high", defArgs (top 3), defBody (top 3), defScope (top 3), [], []⟩
def d4 : He.DefD := ⟨("fits_span", none), "fits_span", "fits_span", defArgs (top 4), defBody (top 4), defScope (top 4), [], []⟩
def d5 : He.DefD := ⟨("fits", none), "fits", "fits", defArgs (top 5), defBody (top 5), defScope (top 5), [], []⟩
def d6 : He.DefD := ⟨("plain_span", none), "plain_span", "plain_span", defArgs (top 6), defBody (top 6), defScope (top 6), [], []⟩
def d7 : He.DefD := ⟨("is_crossed", none), "is_crossed", "is_crossed", defArgs (top 7), defBody (top 7), defScope (top 7), [], []⟩
def d8 : He.DefD := ⟨("plain_of", none), "plain_of", "plain_of", defArgs (top 8), defBody (top 8), defScope (top 8), [], []⟩
def d9 : He.DefD := ⟨("plain_box", none), "plain_box", "plain_box", defArgs (top 9), defBody (top 9), defScope (top 9), [], []⟩
def d10 : He.DefD := ⟨("greater_of", none), "greater_of", "greater_of", defArgs (top 10), defBody (top 10), defScope (top 10), [], []⟩
def d11 : He.DefD := ⟨("lesser_of", none), "lesser_of", "lesser_of", defArgs (top 11), defBody (top 11), defScope (top 11), [], []⟩
def d12 : He.DefD := ⟨("common", none), "common", "common", defArgs (top 12), defBody (top 12), defScope (top 12), [], []⟩
def d13 : He.DefD := ⟨("lies_within", none), "lies_within", "lies_within", defArgs (top 13), defBody (top 13), defScope (top 13), [], []⟩
def d14 : He.DefD := ⟨("lie_apart", none), "lie_apart", "lie_apart", defArgs (top 14), defBody (top 14), defScope (top 14), [], []⟩
def d15 : He.DefD := ⟨("bounds", none), "bounds", "bounds", defArgs (top 15), defBody (top 15), defScope (top 15), [], []⟩
def d17 : He.DefD := ⟨("steps", none), "steps", "steps", defArgs (top 17), defBody (top 17), defScope (top 17), [], []⟩
def d19 : He.DefD := ⟨("things_in", none), "things_in", "things_in", defArgs (top 19), defBody (top 19), defScope (top 19), [], []⟩
def d20 : He.DefD := ⟨("fitting", none), "fitting", "fitting", defArgs (top 20), defBody (top 20), defScope (top 20), [], []⟩
def d24 : He.DefD := ⟨("by_worth_down", none), "by_worth_down", "by_worth_down", defArgs (top 24), defBody (top 24), defScope (top 24), [], []⟩
def d25 : He.DefD := ⟨("names_of_answers", none), "names_of", "names_of", defArgs (top 25), defBody (top 25), defScope (top 25), [], []⟩
def d28 : He.DefD := ⟨("best_first", none), "best_first", "best_first", defArgs (top 28), defBody (top 28), defScope (top 28), [], []⟩
def d29 : He.DefD := ⟨("nearest_first", none), "nearest_first", "nearest_first", defArgs (top 29), defBody (top 29), defScope (top 29), [], []⟩
def d31 : He.DefD := ⟨("answer_of", none), "answer_of", "answer_of", defArgs (top 31), defBody (top 31), defScope (top 31), [], []⟩
def d32 : He.DefD := ⟨("answer", none), "answer", "answer", defArgs (top 32), defBody (top 32), defScope (top 32), [], []⟩
def d35 : He.DefD := ⟨("lies_out", none), "lies_out", "lies_out", defArgs (top 35), defBody (top 35), defScope (top 35), [], []⟩
def d36 : He.DefD := ⟨("out_part", none), "out_part", "out_part", defArgs (top 36), defBody (top 36), defScope (top 36), [], []⟩
def d37 : He.DefD := ⟨("parts_along", none), "parts_along", "parts_along", defArgs (top 37), defBody (top 37), defScope (top 37), [], []⟩
def d38 : He.DefD := ⟨("cover", none), "cover", "cover", defArgs (top 38), defBody (top 38), defScope (top 38), [], []⟩
def d39 : He.DefD := ⟨("tree_at", none), "tree_at", "tree_at", defArgs (top 39), defBody (top 39), defScope (top 39), [], []⟩
def d41 : He.DefD := ⟨("is_count", none), "is_count", "is_count", defArgs (top 41), defBody (top 41), defScope (top 41), [], []⟩
def d42 : He.DefD := ⟨("is_path", none), "is_path", "is_path", defArgs (top 42), defBody (top 42), defScope (top 42), [], []⟩
def d43 : He.DefD := ⟨("there", none), "there", "there", defArgs (top 43), defBody (top 43), defScope (top 43), [], []⟩
def d44 : He.DefD := ⟨("is_out", none), "is_out", "is_out", defArgs (top 44), defBody (top 44), defScope (top 44), [], []⟩
def d45 : He.DefD := ⟨("is_in", none), "is_in", "is_in", defArgs (top 45), defBody (top 45), defScope (top 45), [], []⟩
def d46 : He.DefD := ⟨("has_each_once", none), "has_each_once", "has_each_once", defArgs (top 46), defBody (top 46), defScope (top 46), [], []⟩
def d47 : He.DefD := ⟨("shows_cover", none), "shows_cover", "shows_cover", defArgs (top 47), defBody (top 47), defScope (top 47), [], []⟩
def d49 : He.DefD := ⟨("steps_to", none), "steps_to", "steps_to", defArgs (top 49), defBody (top 49), defScope (top 49), [], []⟩
def d50 : He.DefD := ⟨("worths_of", none), "worths_of", "worths_of", defArgs (top 50), defBody (top 50), defScope (top 50), [], []⟩
def d51 : He.DefD := ⟨("key_by_drawing", none), "key_by", "key_by", defArgs (top 51), defBody (top 51), defScope (top 51), [], []⟩
def d54 : He.DefD := ⟨("drawn", none), "drawn", "drawn", defArgs (top 54), defBody (top 54), defScope (top 54), [], []⟩
def d56 : He.DefD := ⟨("is_name_of", none), "is_name_of", "is_name_of", defArgs (top 56), defBody (top 56), defScope (top 56), [], []⟩
def d57 : He.DefD := ⟨("keys_told", none), "keys_told", "keys_told", defArgs (top 57), defBody (top 57), defScope (top 57), [], []⟩
def d58 : He.DefD := ⟨("is_far", none), "is_far", "is_far", defArgs (top 58), defBody (top 58), defScope (top 58), [], []⟩
def d59 : He.DefD := ⟨("parts_show", none), "parts_show", "parts_show", defArgs (top 59), defBody (top 59), defScope (top 59), [], []⟩
def d60 : He.DefD := ⟨("shows_drawn", none), "shows_drawn", "shows_drawn", defArgs (top 60), defBody (top 60), defScope (top 60), [], []⟩
def d62 : He.DefD := ⟨("parts_drawn", none), "parts_drawn", "parts_drawn", defArgs (top 62), defBody (top 62), defScope (top 62), [], []⟩
def d63 : He.DefD := ⟨("drawn_paper", none), "drawn_paper", "drawn_paper", defArgs (top 63), defBody (top 63), defScope (top 63), [], []⟩
def d65 : He.DefD := ⟨("key_by_orders", none), "key_by", "key_by", defArgs (top 65), defBody (top 65), defScope (top 65), [], []⟩
def d67 : He.DefD := ⟨("things_by", none), "things_by", "things_by", defArgs (top 67), defBody (top 67), defScope (top 67), [], []⟩
def d68 : He.DefD := ⟨("names_of_orders", none), "names_of", "names_of", defArgs (top 68), defBody (top 68), defScope (top 68), [], []⟩
def d70 : He.DefD := ⟨("order_by", none), "order_by", "order_by", defArgs (top 70), defBody (top 70), defScope (top 70), [], []⟩
def d72 : He.DefD := ⟨("halved_up", none), "halved_up", "halved_up", defArgs (top 72), defBody (top 72), defScope (top 72), [], []⟩
def d73 : He.DefD := ⟨("places_of", none), "places_of", "places_of", defArgs (top 73), defBody (top 73), defScope (top 73), [], []⟩
def d75 : He.DefD := ⟨("turns", none), "turns", "turns", defArgs (top 75), defBody (top 75), defScope (top 75), [], []⟩
def d77 : He.DefD := ⟨("_law_left", none), "_law_left", "_law_left", defArgs (top 77), defBody (top 77), defScope (top 77), [], []⟩
def d78 : He.DefD := ⟨("_law_pick", none), "_law_pick", "_law_pick", defArgs (top 78), defBody (top 78), defScope (top 78), [], []⟩
def d79 : He.DefD := ⟨("_law_house", none), "_law_house", "_law_house", defArgs (top 79), defBody (top 79), defScope (top 79), [], []⟩
def d80 : He.DefD := ⟨("_law_number", none), "_law_number", "_law_number", defArgs (top 80), defBody (top 80), defScope (top 80), [], []⟩
def d81 : He.DefD := ⟨("_law_box", none), "_law_box", "_law_box", defArgs (top 81), defBody (top 81), defScope (top 81), [], []⟩
def d82 : He.DefD := ⟨("_law_kind", none), "_law_kind", "_law_kind", defArgs (top 82), defBody (top 82), defScope (top 82), [], []⟩
def d83 : He.DefD := ⟨("_law_bounds", none), "_law_bounds", "_law_bounds", defArgs (top 83), defBody (top 83), defScope (top 83), [], []⟩
def d84 : He.DefD := ⟨("_law_grown", none), "_law_grown", "_law_grown", defArgs (top 84), defBody (top 84), defScope (top 84), [], []⟩
def d85 : He.DefD := ⟨("_law_tree", none), "_law_tree", "_law_tree", defArgs (top 85), defBody (top 85), defScope (top 85), [], []⟩
def d86 : He.DefD := ⟨("_law_at", none), "_law_at", "_law_at", defArgs (top 86), defBody (top 86), defScope (top 86), [], []⟩
def d87 : He.DefD := ⟨("_law_names", none), "_law_names", "_law_names", defArgs (top 87), defBody (top 87), defScope (top 87), [], []⟩
def d88 : He.DefD := ⟨("_law_covers_right", none), "_law_covers_right", "_law_covers_right", defArgs (top 88), defBody (top 88), defScope (top 88), [], []⟩
def d89 : He.DefD := ⟨("_law_papers_right", none), "_law_papers_right", "_law_papers_right", defArgs (top 89), defBody (top 89), defScope (top 89), [], []⟩
def d90 : He.DefD := ⟨("law", none), "law", "law", defArgs (top 90), defBody (top 90), defScope (top 90), [], []⟩
def d53_0 : He.DefD := ⟨("Drawer", some "__init__"), "__init__", "Drawer.__init__", defArgs (meth 53 0), defBody (meth 53 0), defScope (meth 53 0), [], []⟩
def d53_1 : He.DefD := ⟨("Drawer", some "let_wait"), "let_wait", "Drawer.let_wait", defArgs (meth 53 1), defBody (meth 53 1), defScope (meth 53 1), [], []⟩
def d53_2 : He.DefD := ⟨("Drawer", some "taken_next"), "taken_next", "Drawer.taken_next", defArgs (meth 53 2), defBody (meth 53 2), defScope (meth 53 2), [], []⟩
def d53_3 : He.DefD := ⟨("Drawer", some "next_name"), "next_name", "Drawer.next_name", defArgs (meth 53 3), defBody (meth 53 3), defScope (meth 53 3), [], []⟩
def d53_4 : He.DefD := ⟨("Drawer", some "names_waiting"), "names_waiting", "Drawer.names_waiting", defArgs (meth 53 4), defBody (meth 53 4), defScope (meth 53 4), [], []⟩
def d74_0 : He.DefD := ⟨("Halver", some "__init__"), "__init__", "Halver.__init__", defArgs (meth 74 0), defBody (meth 74 0), defScope (meth 74 0), [], []⟩
def d74_1 : He.DefD := ⟨("Halver", some "tree_of"), "tree_of", "Halver.tree_of", defArgs (meth 74 1), defBody (meth 74 1), defScope (meth 74 1), [], []⟩
def fnL0 : List He.DefD := [d2, d3, d4, d5, d6, d7, d8, d9, d10, d11, d12, d13, d14, d15, d17, d19, d20, d24, d25, d28, d29, d31, d32, d35]
def fnL1 : List He.DefD := [d36, d37, d38, d39, d41, d42, d43, d44, d45, d46, d47, d49, d50, d51, d54, d56, d57, d58, d59, d60, d62, d63, d65, d67]
def fnL2 : List He.DefD := [d68, d70, d72, d73, d75, d77, d78, d79, d80, d81, d82, d83, d84, d85, d86, d87, d88, d89, d90, d53_0, d53_1, d53_2, d53_3, d53_4]
def fnL3 : List He.DefD := [d74_0, d74_1]
def fnL : List He.DefD := fnL0 ++ (fnL1 ++ (fnL2 ++ (fnL3)))
def faL0 : List He.Fa := [(.glo "fits_low" : He.Fa), (.glo "fits_high" : He.Fa), (.glo "fits_span" : He.Fa), (.glo "fits" : He.Fa), (.glo "plain_span" : He.Fa), (.glo "is_crossed" : He.Fa), (.glo "plain_of" : He.Fa), (.glo "plain_box" : He.Fa), (.glo "greater_of" : He.Fa), (.glo "lesser_of" : He.Fa), (.glo "common" : He.Fa), (.glo "lies_within" : He.Fa), (.glo "lie_apart" : He.Fa), (.glo "bounds" : He.Fa), (.glo "steps" : He.Fa), (.glo "things_in" : He.Fa), (.glo "fitting" : He.Fa), (.glo "by_worth_down" : He.Fa), (.glo "names_of_answers" : He.Fa), (.glo "best_first" : He.Fa), (.glo "nearest_first" : He.Fa), (.glo "answer_of" : He.Fa), (.glo "answer" : He.Fa), (.glo "lies_out" : He.Fa)]
def faL1 : List He.Fa := [(.glo "out_part" : He.Fa), (.glo "parts_along" : He.Fa), (.glo "cover" : He.Fa), (.glo "tree_at" : He.Fa), (.glo "is_count" : He.Fa), (.glo "is_path" : He.Fa), (.glo "there" : He.Fa), (.glo "is_out" : He.Fa), (.glo "is_in" : He.Fa), (.glo "has_each_once" : He.Fa), (.glo "shows_cover" : He.Fa), (.glo "steps_to" : He.Fa), (.glo "worths_of" : He.Fa), (.glo "key_by_drawing" : He.Fa), (.glo "drawn" : He.Fa), (.glo "is_name_of" : He.Fa), (.glo "keys_told" : He.Fa), (.glo "is_far" : He.Fa), (.glo "parts_show" : He.Fa), (.glo "shows_drawn" : He.Fa), (.glo "parts_drawn" : He.Fa), (.glo "drawn_paper" : He.Fa), (.glo "key_by_orders" : He.Fa), (.glo "things_by" : He.Fa)]
def faL2 : List He.Fa := [(.glo "names_of_orders" : He.Fa), (.glo "order_by" : He.Fa), (.glo "halved_up" : He.Fa), (.glo "places_of" : He.Fa), (.glo "turns" : He.Fa), (.glo "_law_left" : He.Fa), (.glo "_law_pick" : He.Fa), (.glo "_law_house" : He.Fa), (.glo "_law_number" : He.Fa), (.glo "_law_box" : He.Fa), (.glo "_law_kind" : He.Fa), (.glo "_law_bounds" : He.Fa), (.glo "_law_grown" : He.Fa), (.glo "_law_tree" : He.Fa), (.glo "_law_at" : He.Fa), (.glo "_law_names" : He.Fa), (.glo "_law_covers_right" : He.Fa), (.glo "_law_papers_right" : He.Fa), (.glo "law" : He.Fa), (.glo "Drawer" : He.Fa), (.glo "Halver" : He.Fa), (.glo "EMPTY_boxes" : He.Fa), (.glo "EMPTY_covers" : He.Fa), (.free "abs" : He.Fa)]
def faL3 : List He.Fa := [(.free "all" : He.Fa), (.free "any" : He.Fa), (.free "bool" : He.Fa), (.free "dict" : He.Fa), (.free "int" : He.Fa), (.free "isinstance" : He.Fa), (.free "len" : He.Fa), (.free "list" : He.Fa), (.free "max" : He.Fa), (.free "min" : He.Fa), (.free "range" : He.Fa), (.free "sorted" : He.Fa), (.free "str" : He.Fa), (.free "sum" : He.Fa), (.free "tuple" : He.Fa), (.free "zip" : He.Fa), (.cls "Drawer" : He.Fa), (.mkr "Drawer" : He.Fa), (.meth "Drawer" "let_wait" : He.Fa), (.meth "Drawer" "taken_next" : He.Fa), (.meth "Drawer" "next_name" : He.Fa), (.meth "Drawer" "names_waiting" : He.Fa), (.cls "Halver" : He.Fa), (.mkr "Halver" : He.Fa)]
def faL4 : List He.Fa := [(.meth "Halver" "tree_of" : He.Fa), (.noat "Drawer" "worths" : He.Fa), (.noat "Drawer" "plain_pairs" : He.Fa), (.noat "Drawer" "kind" : He.Fa), (.noat "Drawer" "waiting" : He.Fa), (.noat "Drawer" "looks_so_far" : He.Fa), (.noat "Halver" "sizes" : He.Fa), (.noat "Halver" "place_by" : He.Fa), (.noat "Halver" "rows" : He.Fa)]
def faL : List He.Fa := faL0 ++ (faL1 ++ (faL2 ++ (faL3 ++ (faL4))))
def tf : List He.Defn := [("_law_grown", none), ("Drawer", some "names_waiting")]
def ex (K : PySem.W.Frag) : Bool := He.tupB K "EMPTY_boxes" [.int 1, .int 0] && (He.tupB K "EMPTY_covers" [.int 1, .int 0] && !(Nat.beq (He.cT K ("_law_grown", none)).2 (He.cT K ("Drawer", some "names_waiting")).2))
abbrev Rw : PySem.W.OpenRow := PySem.W.OpenLaw.row PySem.Challenge.rw_boxlayers_k86_whole_papers
abbrev hk : PySem.W.Hook := He.hookX 4 faL fnL [] tf ex
def ob (s : PySem.W.SharedT) : He.AlX := He.obsX 4 faL fnL [] tf ex (HandSHeadRun.getT s)
theorem ob_eq (s : PySem.W.SharedT) : ob s = hk.obs s.abs := He.obsX_eq (HandSHeadRun.getT_eq s)
theorem run (w : World) : HandSHeadRun.RunEq Rw (PySem.W.view Rw.prog [90]) hk ob 20000 loose w := by
  intro os
  kernel_rfl
end Bx
set_option maxHeartbeats 0
namespace Bx
open PySem PySem.Spec PyProof.Rows L2
open LamX (Tabs TabB TabS)
theorem funC_of {K : PySem.W.Frag} {x qual : Str} {st : Stmt} {at_ : Str × Option Str} {fd : FuncData} (F : Fd K x qual st (He.fAd K at_) fd) : FunC K x qual st (He.fAd K at_) fd (He.codeOf K at_) := by
  obtain ⟨⟨oc, od, n8, n9, n10, n11, n12, n13, n14, osl, rfl, lk, k1, k3, k4⟩, kp⟩ := F
  obtain ⟨c, rfl⟩ := He.codeIn_ref k1
  have e := He.codeOf_eq lk (c := c) rfl
  subst e
  exact ⟨⟨oc, od, n8, n9, n10, n11, n12, n14, osl, rfl, lk, k1, k3, k4⟩, kp⟩
theorem law_facts {w : World} {K : PySem.W.Frag} {h : Heap} {mg : Str → Option Value} {fa : Addr} (X : K.In h) (G : h.Ns mainGlobals mg) (hfa : mg ("law" : Str) = some (.ref fa)) (c : He.SaysX faL fnL [] tf ex w h K) : LamX.LawAtS PySem.Challenge.rw_boxlayers_k86_whole_papers w K CX0 48 63 "_law_script" mg fa h := by
  have cd := c.t.d
  obtain ⟨g_d2, F_d2'⟩ := cd.def_ 0 (d := d2) rfl
  have F_d2 : Fd K "fits_low" "fits_low" (top 2) (He.ga K "fits_low") g_d2 := F_d2'
  obtain ⟨g_d3, F_d3'⟩ := cd.def_ 1 (d := d3) rfl
  have F_d3 : Fd K "fits_high" "fits_high" (top 3) (He.ga K "fits_high") g_d3 := F_d3'
  obtain ⟨g_d4, F_d4'⟩ := cd.def_ 2 (d := d4) rfl
  have F_d4 : Fd K "fits_span" "fits_span" (top 4) (He.ga K "fits_span") g_d4 := F_d4'
  obtain ⟨g_d5, F_d5'⟩ := cd.def_ 3 (d := d5) rfl
  have F_d5 : Fd K "fits" "fits" (top 5) (He.ga K "fits") g_d5 := F_d5'
  obtain ⟨g_d6, F_d6'⟩ := cd.def_ 4 (d := d6) rfl
  have F_d6 : Fd K "plain_span" "plain_span" (top 6) (He.ga K "plain_span") g_d6 := F_d6'
  obtain ⟨g_d7, F_d7'⟩ := cd.def_ 5 (d := d7) rfl
  have F_d7 : Fd K "is_crossed" "is_crossed" (top 7) (He.ga K "is_crossed") g_d7 := F_d7'
  obtain ⟨g_d8, F_d8'⟩ := cd.def_ 6 (d := d8) rfl
  have F_d8 : Fd K "plain_of" "plain_of" (top 8) (He.ga K "plain_of") g_d8 := F_d8'
  obtain ⟨g_d9, F_d9'⟩ := cd.def_ 7 (d := d9) rfl
  have F_d9 : Fd K "plain_box" "plain_box" (top 9) (He.ga K "plain_box") g_d9 := F_d9'
  obtain ⟨g_d10, F_d10'⟩ := cd.def_ 8 (d := d10) rfl
  have F_d10 : Fd K "greater_of" "greater_of" (top 10) (He.ga K "greater_of") g_d10 := F_d10'
  obtain ⟨g_d11, F_d11'⟩ := cd.def_ 9 (d := d11) rfl
  have F_d11 : Fd K "lesser_of" "lesser_of" (top 11) (He.ga K "lesser_of") g_d11 := F_d11'
  obtain ⟨g_d12, F_d12'⟩ := cd.def_ 10 (d := d12) rfl
  have F_d12 : Fd K "common" "common" (top 12) (He.ga K "common") g_d12 := F_d12'
  obtain ⟨g_d13, F_d13'⟩ := cd.def_ 11 (d := d13) rfl
  have F_d13 : Fd K "lies_within" "lies_within" (top 13) (He.ga K "lies_within") g_d13 := F_d13'
  obtain ⟨g_d14, F_d14'⟩ := cd.def_ 12 (d := d14) rfl
  have F_d14 : Fd K "lie_apart" "lie_apart" (top 14) (He.ga K "lie_apart") g_d14 := F_d14'
  obtain ⟨g_d15, F_d15'⟩ := cd.def_ 13 (d := d15) rfl
  have F_d15 : Fd K "bounds" "bounds" (top 15) (He.ga K "bounds") g_d15 := F_d15'
  obtain ⟨g_d17, F_d17'⟩ := cd.def_ 14 (d := d17) rfl
  have F_d17 : Fd K "steps" "steps" (top 17) (He.ga K "steps") g_d17 := F_d17'
  obtain ⟨g_d19, F_d19'⟩ := cd.def_ 15 (d := d19) rfl
  have F_d19 : Fd K "things_in" "things_in" (top 19) (He.ga K "things_in") g_d19 := F_d19'
  obtain ⟨g_d20, F_d20'⟩ := cd.def_ 16 (d := d20) rfl
  have F_d20 : Fd K "fitting" "fitting" (top 20) (He.ga K "fitting") g_d20 := F_d20'
  obtain ⟨g_d24, F_d24'⟩ := cd.def_ 17 (d := d24) rfl
  have F_d24 : Fd K "by_worth_down" "by_worth_down" (top 24) (He.ga K "by_worth_down") g_d24 := F_d24'
  obtain ⟨g_d25, F_d25'⟩ := cd.def_ 18 (d := d25) rfl
  have F_d25 : Fd K "names_of" "names_of" (top 25) (He.ga K "names_of_answers") g_d25 := F_d25'
  obtain ⟨g_d28, F_d28'⟩ := cd.def_ 19 (d := d28) rfl
  have F_d28 : Fd K "best_first" "best_first" (top 28) (He.ga K "best_first") g_d28 := F_d28'
  obtain ⟨g_d29, F_d29'⟩ := cd.def_ 20 (d := d29) rfl
  have F_d29 : Fd K "nearest_first" "nearest_first" (top 29) (He.ga K "nearest_first") g_d29 := F_d29'
  obtain ⟨g_d31, F_d31'⟩ := cd.def_ 21 (d := d31) rfl
  have F_d31 : Fd K "answer_of" "answer_of" (top 31) (He.ga K "answer_of") g_d31 := F_d31'
  obtain ⟨g_d32, F_d32'⟩ := cd.def_ 22 (d := d32) rfl
  have F_d32 : Fd K "answer" "answer" (top 32) (He.ga K "answer") g_d32 := F_d32'
  obtain ⟨g_d35, F_d35'⟩ := cd.def_ 23 (d := d35) rfl
  have F_d35 : Fd K "lies_out" "lies_out" (top 35) (He.ga K "lies_out") g_d35 := F_d35'
  obtain ⟨g_d36, F_d36'⟩ := cd.def_ 24 (d := d36) rfl
  have F_d36 : Fd K "out_part" "out_part" (top 36) (He.ga K "out_part") g_d36 := F_d36'
  obtain ⟨g_d37, F_d37'⟩ := cd.def_ 25 (d := d37) rfl
  have F_d37 : Fd K "parts_along" "parts_along" (top 37) (He.ga K "parts_along") g_d37 := F_d37'
  obtain ⟨g_d38, F_d38'⟩ := cd.def_ 26 (d := d38) rfl
  have F_d38 : Fd K "cover" "cover" (top 38) (He.ga K "cover") g_d38 := F_d38'
  obtain ⟨g_d39, F_d39'⟩ := cd.def_ 27 (d := d39) rfl
  have F_d39 : Fd K "tree_at" "tree_at" (top 39) (He.ga K "tree_at") g_d39 := F_d39'
  obtain ⟨g_d41, F_d41'⟩ := cd.def_ 28 (d := d41) rfl
  have F_d41 : Fd K "is_count" "is_count" (top 41) (He.ga K "is_count") g_d41 := F_d41'
  obtain ⟨g_d42, F_d42'⟩ := cd.def_ 29 (d := d42) rfl
  have F_d42 : Fd K "is_path" "is_path" (top 42) (He.ga K "is_path") g_d42 := F_d42'
  obtain ⟨g_d43, F_d43'⟩ := cd.def_ 30 (d := d43) rfl
  have F_d43 : Fd K "there" "there" (top 43) (He.ga K "there") g_d43 := F_d43'
  obtain ⟨g_d44, F_d44'⟩ := cd.def_ 31 (d := d44) rfl
  have F_d44 : Fd K "is_out" "is_out" (top 44) (He.ga K "is_out") g_d44 := F_d44'
  obtain ⟨g_d45, F_d45'⟩ := cd.def_ 32 (d := d45) rfl
  have F_d45 : Fd K "is_in" "is_in" (top 45) (He.ga K "is_in") g_d45 := F_d45'
  obtain ⟨g_d46, F_d46'⟩ := cd.def_ 33 (d := d46) rfl
  have F_d46 : Fd K "has_each_once" "has_each_once" (top 46) (He.ga K "has_each_once") g_d46 := F_d46'
  obtain ⟨g_d47, F_d47'⟩ := cd.def_ 34 (d := d47) rfl
  have F_d47 : Fd K "shows_cover" "shows_cover" (top 47) (He.ga K "shows_cover") g_d47 := F_d47'
  obtain ⟨g_d49, F_d49'⟩ := cd.def_ 35 (d := d49) rfl
  have F_d49 : Fd K "steps_to" "steps_to" (top 49) (He.ga K "steps_to") g_d49 := F_d49'
  obtain ⟨g_d50, F_d50'⟩ := cd.def_ 36 (d := d50) rfl
  have F_d50 : Fd K "worths_of" "worths_of" (top 50) (He.ga K "worths_of") g_d50 := F_d50'
  obtain ⟨g_d51, F_d51'⟩ := cd.def_ 37 (d := d51) rfl
  have F_d51 : Fd K "key_by" "key_by" (top 51) (He.ga K "key_by_drawing") g_d51 := F_d51'
  obtain ⟨g_d54, F_d54'⟩ := cd.def_ 38 (d := d54) rfl
  have F_d54 : Fd K "drawn" "drawn" (top 54) (He.ga K "drawn") g_d54 := F_d54'
  obtain ⟨g_d56, F_d56'⟩ := cd.def_ 39 (d := d56) rfl
  have F_d56 : Fd K "is_name_of" "is_name_of" (top 56) (He.ga K "is_name_of") g_d56 := F_d56'
  obtain ⟨g_d57, F_d57'⟩ := cd.def_ 40 (d := d57) rfl
  have F_d57 : Fd K "keys_told" "keys_told" (top 57) (He.ga K "keys_told") g_d57 := F_d57'
  obtain ⟨g_d58, F_d58'⟩ := cd.def_ 41 (d := d58) rfl
  have F_d58 : Fd K "is_far" "is_far" (top 58) (He.ga K "is_far") g_d58 := F_d58'
  obtain ⟨g_d59, F_d59'⟩ := cd.def_ 42 (d := d59) rfl
  have F_d59 : Fd K "parts_show" "parts_show" (top 59) (He.ga K "parts_show") g_d59 := F_d59'
  obtain ⟨g_d60, F_d60'⟩ := cd.def_ 43 (d := d60) rfl
  have F_d60 : Fd K "shows_drawn" "shows_drawn" (top 60) (He.ga K "shows_drawn") g_d60 := F_d60'
  obtain ⟨g_d62, F_d62'⟩ := cd.def_ 44 (d := d62) rfl
  have F_d62 : Fd K "parts_drawn" "parts_drawn" (top 62) (He.ga K "parts_drawn") g_d62 := F_d62'
  obtain ⟨g_d63, F_d63'⟩ := cd.def_ 45 (d := d63) rfl
  have F_d63 : Fd K "drawn_paper" "drawn_paper" (top 63) (He.ga K "drawn_paper") g_d63 := F_d63'
  obtain ⟨g_d65, F_d65'⟩ := cd.def_ 46 (d := d65) rfl
  have F_d65 : Fd K "key_by" "key_by" (top 65) (He.ga K "key_by_orders") g_d65 := F_d65'
  obtain ⟨g_d67, F_d67'⟩ := cd.def_ 47 (d := d67) rfl
  have F_d67 : Fd K "things_by" "things_by" (top 67) (He.ga K "things_by") g_d67 := F_d67'
  obtain ⟨g_d68, F_d68'⟩ := cd.def_ 48 (d := d68) rfl
  have F_d68 : Fd K "names_of" "names_of" (top 68) (He.ga K "names_of_orders") g_d68 := F_d68'
  obtain ⟨g_d70, F_d70'⟩ := cd.def_ 49 (d := d70) rfl
  have F_d70 : Fd K "order_by" "order_by" (top 70) (He.ga K "order_by") g_d70 := F_d70'
  obtain ⟨g_d72, F_d72'⟩ := cd.def_ 50 (d := d72) rfl
  have F_d72 : Fd K "halved_up" "halved_up" (top 72) (He.ga K "halved_up") g_d72 := F_d72'
  obtain ⟨g_d73, F_d73'⟩ := cd.def_ 51 (d := d73) rfl
  have F_d73 : Fd K "places_of" "places_of" (top 73) (He.ga K "places_of") g_d73 := F_d73'
  obtain ⟨g_d75, F_d75'⟩ := cd.def_ 52 (d := d75) rfl
  have F_d75 : Fd K "turns" "turns" (top 75) (He.ga K "turns") g_d75 := F_d75'
  obtain ⟨g_d77, F_d77'⟩ := cd.def_ 53 (d := d77) rfl
  have F_d77 : Fd K "_law_left" "_law_left" (top 77) (He.ga K "_law_left") g_d77 := F_d77'
  obtain ⟨g_d78, F_d78'⟩ := cd.def_ 54 (d := d78) rfl
  have F_d78 : Fd K "_law_pick" "_law_pick" (top 78) (He.ga K "_law_pick") g_d78 := F_d78'
  obtain ⟨g_d79, F_d79'⟩ := cd.def_ 55 (d := d79) rfl
  have F_d79 : Fd K "_law_house" "_law_house" (top 79) (He.ga K "_law_house") g_d79 := F_d79'
  obtain ⟨g_d80, F_d80'⟩ := cd.def_ 56 (d := d80) rfl
  have F_d80 : Fd K "_law_number" "_law_number" (top 80) (He.ga K "_law_number") g_d80 := F_d80'
  obtain ⟨g_d81, F_d81'⟩ := cd.def_ 57 (d := d81) rfl
  have F_d81 : Fd K "_law_box" "_law_box" (top 81) (He.ga K "_law_box") g_d81 := F_d81'
  obtain ⟨g_d82, F_d82'⟩ := cd.def_ 58 (d := d82) rfl
  have F_d82 : Fd K "_law_kind" "_law_kind" (top 82) (He.ga K "_law_kind") g_d82 := F_d82'
  obtain ⟨g_d83, F_d83'⟩ := cd.def_ 59 (d := d83) rfl
  have F_d83 : Fd K "_law_bounds" "_law_bounds" (top 83) (He.ga K "_law_bounds") g_d83 := F_d83'
  obtain ⟨g_d84, F_d84'⟩ := cd.def_ 60 (d := d84) rfl
  have F_d84 : Fd K "_law_grown" "_law_grown" (top 84) (He.ga K "_law_grown") g_d84 := F_d84'
  obtain ⟨g_d85, F_d85'⟩ := cd.def_ 61 (d := d85) rfl
  have F_d85 : Fd K "_law_tree" "_law_tree" (top 85) (He.ga K "_law_tree") g_d85 := F_d85'
  obtain ⟨g_d86, F_d86'⟩ := cd.def_ 62 (d := d86) rfl
  have F_d86 : Fd K "_law_at" "_law_at" (top 86) (He.ga K "_law_at") g_d86 := F_d86'
  obtain ⟨g_d87, F_d87'⟩ := cd.def_ 63 (d := d87) rfl
  have F_d87 : Fd K "_law_names" "_law_names" (top 87) (He.ga K "_law_names") g_d87 := F_d87'
  obtain ⟨g_d88, F_d88'⟩ := cd.def_ 64 (d := d88) rfl
  have F_d88 : Fd K "_law_covers_right" "_law_covers_right" (top 88) (He.ga K "_law_covers_right") g_d88 := F_d88'
  obtain ⟨g_d89, F_d89'⟩ := cd.def_ 65 (d := d89) rfl
  have F_d89 : Fd K "_law_papers_right" "_law_papers_right" (top 89) (He.ga K "_law_papers_right") g_d89 := F_d89'
  obtain ⟨g_d90, F_d90'⟩ := cd.def_ 66 (d := d90) rfl
  have F_d90 : Fd K "law" "law" (top 90) (He.ga K "law") g_d90 := F_d90'
  obtain ⟨g_d53_0, F_d53_0'⟩ := cd.def_ 67 (d := d53_0) rfl
  have F_d53_0 : Fd K "__init__" "Drawer.__init__" (meth 53 0) (He.ma K (He.ga K "Drawer") "__init__") g_d53_0 := F_d53_0'
  obtain ⟨g_d53_1, F_d53_1'⟩ := cd.def_ 68 (d := d53_1) rfl
  have F_d53_1 : Fd K "let_wait" "Drawer.let_wait" (meth 53 1) (He.ma K (He.ga K "Drawer") "let_wait") g_d53_1 := F_d53_1'
  obtain ⟨g_d53_2, F_d53_2'⟩ := cd.def_ 69 (d := d53_2) rfl
  have F_d53_2 : Fd K "taken_next" "Drawer.taken_next" (meth 53 2) (He.ma K (He.ga K "Drawer") "taken_next") g_d53_2 := F_d53_2'
  obtain ⟨g_d53_3, F_d53_3'⟩ := cd.def_ 70 (d := d53_3) rfl
  have F_d53_3 : Fd K "next_name" "Drawer.next_name" (meth 53 3) (He.ma K (He.ga K "Drawer") "next_name") g_d53_3 := F_d53_3'
  obtain ⟨g_d53_4, F_d53_4'⟩ := cd.def_ 71 (d := d53_4) rfl
  have F_d53_4 : Fd K "names_waiting" "Drawer.names_waiting" (meth 53 4) (He.ma K (He.ga K "Drawer") "names_waiting") g_d53_4 := F_d53_4'
  obtain ⟨g_d74_0, F_d74_0'⟩ := cd.def_ 72 (d := d74_0) rfl
  have F_d74_0 : Fd K "__init__" "Halver.__init__" (meth 74 0) (He.ma K (He.ga K "Halver") "__init__") g_d74_0 := F_d74_0'
  obtain ⟨g_d74_1, F_d74_1'⟩ := cd.def_ 73 (d := d74_1) rfl
  have F_d74_1 : Fd K "tree_of" "Halver.tree_of" (meth 74 1) (He.ma K (He.ga K "Halver") "tree_of") g_d74_1 := F_d74_1'
  have m2 : mg ("fits_low" : Str) = some (.ref (He.ga K "fits_low")) := He.glo_ok X G (cd.fact 0 (f := .glo "fits_low") rfl)
  have m3 : mg ("fits_high" : Str) = some (.ref (He.ga K "fits_high")) := He.glo_ok X G (cd.fact 1 (f := .glo "fits_high") rfl)
  have m4 : mg ("fits_span" : Str) = some (.ref (He.ga K "fits_span")) := He.glo_ok X G (cd.fact 2 (f := .glo "fits_span") rfl)
  have m5 : mg ("fits" : Str) = some (.ref (He.ga K "fits")) := He.glo_ok X G (cd.fact 3 (f := .glo "fits") rfl)
  have m6 : mg ("plain_span" : Str) = some (.ref (He.ga K "plain_span")) := He.glo_ok X G (cd.fact 4 (f := .glo "plain_span") rfl)
  have m7 : mg ("is_crossed" : Str) = some (.ref (He.ga K "is_crossed")) := He.glo_ok X G (cd.fact 5 (f := .glo "is_crossed") rfl)
  have m8 : mg ("plain_of" : Str) = some (.ref (He.ga K "plain_of")) := He.glo_ok X G (cd.fact 6 (f := .glo "plain_of") rfl)
  have m9 : mg ("plain_box" : Str) = some (.ref (He.ga K "plain_box")) := He.glo_ok X G (cd.fact 7 (f := .glo "plain_box") rfl)
  have m10 : mg ("greater_of" : Str) = some (.ref (He.ga K "greater_of")) := He.glo_ok X G (cd.fact 8 (f := .glo "greater_of") rfl)
  have m11 : mg ("lesser_of" : Str) = some (.ref (He.ga K "lesser_of")) := He.glo_ok X G (cd.fact 9 (f := .glo "lesser_of") rfl)
  have m12 : mg ("common" : Str) = some (.ref (He.ga K "common")) := He.glo_ok X G (cd.fact 10 (f := .glo "common") rfl)
  have m13 : mg ("lies_within" : Str) = some (.ref (He.ga K "lies_within")) := He.glo_ok X G (cd.fact 11 (f := .glo "lies_within") rfl)
  have m14 : mg ("lie_apart" : Str) = some (.ref (He.ga K "lie_apart")) := He.glo_ok X G (cd.fact 12 (f := .glo "lie_apart") rfl)
  have m15 : mg ("bounds" : Str) = some (.ref (He.ga K "bounds")) := He.glo_ok X G (cd.fact 13 (f := .glo "bounds") rfl)
  have m17 : mg ("steps" : Str) = some (.ref (He.ga K "steps")) := He.glo_ok X G (cd.fact 14 (f := .glo "steps") rfl)
  have m19 : mg ("things_in" : Str) = some (.ref (He.ga K "things_in")) := He.glo_ok X G (cd.fact 15 (f := .glo "things_in") rfl)
  have m20 : mg ("fitting" : Str) = some (.ref (He.ga K "fitting")) := He.glo_ok X G (cd.fact 16 (f := .glo "fitting") rfl)
  have m24 : mg ("by_worth_down" : Str) = some (.ref (He.ga K "by_worth_down")) := He.glo_ok X G (cd.fact 17 (f := .glo "by_worth_down") rfl)
  have m25 : mg ("names_of_answers" : Str) = some (.ref (He.ga K "names_of_answers")) := He.glo_ok X G (cd.fact 18 (f := .glo "names_of_answers") rfl)
  have m28 : mg ("best_first" : Str) = some (.ref (He.ga K "best_first")) := He.glo_ok X G (cd.fact 19 (f := .glo "best_first") rfl)
  have m29 : mg ("nearest_first" : Str) = some (.ref (He.ga K "nearest_first")) := He.glo_ok X G (cd.fact 20 (f := .glo "nearest_first") rfl)
  have m31 : mg ("answer_of" : Str) = some (.ref (He.ga K "answer_of")) := He.glo_ok X G (cd.fact 21 (f := .glo "answer_of") rfl)
  have m32 : mg ("answer" : Str) = some (.ref (He.ga K "answer")) := He.glo_ok X G (cd.fact 22 (f := .glo "answer") rfl)
  have m35 : mg ("lies_out" : Str) = some (.ref (He.ga K "lies_out")) := He.glo_ok X G (cd.fact 23 (f := .glo "lies_out") rfl)
  have m36 : mg ("out_part" : Str) = some (.ref (He.ga K "out_part")) := He.glo_ok X G (cd.fact 24 (f := .glo "out_part") rfl)
  have m37 : mg ("parts_along" : Str) = some (.ref (He.ga K "parts_along")) := He.glo_ok X G (cd.fact 25 (f := .glo "parts_along") rfl)
  have m38 : mg ("cover" : Str) = some (.ref (He.ga K "cover")) := He.glo_ok X G (cd.fact 26 (f := .glo "cover") rfl)
  have m39 : mg ("tree_at" : Str) = some (.ref (He.ga K "tree_at")) := He.glo_ok X G (cd.fact 27 (f := .glo "tree_at") rfl)
  have m41 : mg ("is_count" : Str) = some (.ref (He.ga K "is_count")) := He.glo_ok X G (cd.fact 28 (f := .glo "is_count") rfl)
  have m42 : mg ("is_path" : Str) = some (.ref (He.ga K "is_path")) := He.glo_ok X G (cd.fact 29 (f := .glo "is_path") rfl)
  have m43 : mg ("there" : Str) = some (.ref (He.ga K "there")) := He.glo_ok X G (cd.fact 30 (f := .glo "there") rfl)
  have m44 : mg ("is_out" : Str) = some (.ref (He.ga K "is_out")) := He.glo_ok X G (cd.fact 31 (f := .glo "is_out") rfl)
  have m45 : mg ("is_in" : Str) = some (.ref (He.ga K "is_in")) := He.glo_ok X G (cd.fact 32 (f := .glo "is_in") rfl)
  have m46 : mg ("has_each_once" : Str) = some (.ref (He.ga K "has_each_once")) := He.glo_ok X G (cd.fact 33 (f := .glo "has_each_once") rfl)
  have m47 : mg ("shows_cover" : Str) = some (.ref (He.ga K "shows_cover")) := He.glo_ok X G (cd.fact 34 (f := .glo "shows_cover") rfl)
  have m49 : mg ("steps_to" : Str) = some (.ref (He.ga K "steps_to")) := He.glo_ok X G (cd.fact 35 (f := .glo "steps_to") rfl)
  have m50 : mg ("worths_of" : Str) = some (.ref (He.ga K "worths_of")) := He.glo_ok X G (cd.fact 36 (f := .glo "worths_of") rfl)
  have m51 : mg ("key_by_drawing" : Str) = some (.ref (He.ga K "key_by_drawing")) := He.glo_ok X G (cd.fact 37 (f := .glo "key_by_drawing") rfl)
  have m54 : mg ("drawn" : Str) = some (.ref (He.ga K "drawn")) := He.glo_ok X G (cd.fact 38 (f := .glo "drawn") rfl)
  have m56 : mg ("is_name_of" : Str) = some (.ref (He.ga K "is_name_of")) := He.glo_ok X G (cd.fact 39 (f := .glo "is_name_of") rfl)
  have m57 : mg ("keys_told" : Str) = some (.ref (He.ga K "keys_told")) := He.glo_ok X G (cd.fact 40 (f := .glo "keys_told") rfl)
  have m58 : mg ("is_far" : Str) = some (.ref (He.ga K "is_far")) := He.glo_ok X G (cd.fact 41 (f := .glo "is_far") rfl)
  have m59 : mg ("parts_show" : Str) = some (.ref (He.ga K "parts_show")) := He.glo_ok X G (cd.fact 42 (f := .glo "parts_show") rfl)
  have m60 : mg ("shows_drawn" : Str) = some (.ref (He.ga K "shows_drawn")) := He.glo_ok X G (cd.fact 43 (f := .glo "shows_drawn") rfl)
  have m62 : mg ("parts_drawn" : Str) = some (.ref (He.ga K "parts_drawn")) := He.glo_ok X G (cd.fact 44 (f := .glo "parts_drawn") rfl)
  have m63 : mg ("drawn_paper" : Str) = some (.ref (He.ga K "drawn_paper")) := He.glo_ok X G (cd.fact 45 (f := .glo "drawn_paper") rfl)
  have m65 : mg ("key_by_orders" : Str) = some (.ref (He.ga K "key_by_orders")) := He.glo_ok X G (cd.fact 46 (f := .glo "key_by_orders") rfl)
  have m67 : mg ("things_by" : Str) = some (.ref (He.ga K "things_by")) := He.glo_ok X G (cd.fact 47 (f := .glo "things_by") rfl)
  have m68 : mg ("names_of_orders" : Str) = some (.ref (He.ga K "names_of_orders")) := He.glo_ok X G (cd.fact 48 (f := .glo "names_of_orders") rfl)
  have m70 : mg ("order_by" : Str) = some (.ref (He.ga K "order_by")) := He.glo_ok X G (cd.fact 49 (f := .glo "order_by") rfl)
  have m72 : mg ("halved_up" : Str) = some (.ref (He.ga K "halved_up")) := He.glo_ok X G (cd.fact 50 (f := .glo "halved_up") rfl)
  have m73 : mg ("places_of" : Str) = some (.ref (He.ga K "places_of")) := He.glo_ok X G (cd.fact 51 (f := .glo "places_of") rfl)
  have m75 : mg ("turns" : Str) = some (.ref (He.ga K "turns")) := He.glo_ok X G (cd.fact 52 (f := .glo "turns") rfl)
  have m77 : mg ("_law_left" : Str) = some (.ref (He.ga K "_law_left")) := He.glo_ok X G (cd.fact 53 (f := .glo "_law_left") rfl)
  have m78 : mg ("_law_pick" : Str) = some (.ref (He.ga K "_law_pick")) := He.glo_ok X G (cd.fact 54 (f := .glo "_law_pick") rfl)
  have m79 : mg ("_law_house" : Str) = some (.ref (He.ga K "_law_house")) := He.glo_ok X G (cd.fact 55 (f := .glo "_law_house") rfl)
  have m80 : mg ("_law_number" : Str) = some (.ref (He.ga K "_law_number")) := He.glo_ok X G (cd.fact 56 (f := .glo "_law_number") rfl)
  have m81 : mg ("_law_box" : Str) = some (.ref (He.ga K "_law_box")) := He.glo_ok X G (cd.fact 57 (f := .glo "_law_box") rfl)
  have m82 : mg ("_law_kind" : Str) = some (.ref (He.ga K "_law_kind")) := He.glo_ok X G (cd.fact 58 (f := .glo "_law_kind") rfl)
  have m83 : mg ("_law_bounds" : Str) = some (.ref (He.ga K "_law_bounds")) := He.glo_ok X G (cd.fact 59 (f := .glo "_law_bounds") rfl)
  have m84 : mg ("_law_grown" : Str) = some (.ref (He.ga K "_law_grown")) := He.glo_ok X G (cd.fact 60 (f := .glo "_law_grown") rfl)
  have m85 : mg ("_law_tree" : Str) = some (.ref (He.ga K "_law_tree")) := He.glo_ok X G (cd.fact 61 (f := .glo "_law_tree") rfl)
  have m86 : mg ("_law_at" : Str) = some (.ref (He.ga K "_law_at")) := He.glo_ok X G (cd.fact 62 (f := .glo "_law_at") rfl)
  have m87 : mg ("_law_names" : Str) = some (.ref (He.ga K "_law_names")) := He.glo_ok X G (cd.fact 63 (f := .glo "_law_names") rfl)
  have m88 : mg ("_law_covers_right" : Str) = some (.ref (He.ga K "_law_covers_right")) := He.glo_ok X G (cd.fact 64 (f := .glo "_law_covers_right") rfl)
  have m89 : mg ("_law_papers_right" : Str) = some (.ref (He.ga K "_law_papers_right")) := He.glo_ok X G (cd.fact 65 (f := .glo "_law_papers_right") rfl)
  have m90 : mg ("law" : Str) = some (.ref (He.ga K "law")) := He.glo_ok X G (cd.fact 66 (f := .glo "law") rfl)
  have m_Drawer : mg ("Drawer" : Str) = some (.ref (He.ga K "Drawer")) := He.glo_ok X G (cd.fact 67 (f := .glo "Drawer") rfl)
  have m_Halver : mg ("Halver" : Str) = some (.ref (He.ga K "Halver")) := He.glo_ok X G (cd.fact 68 (f := .glo "Halver") rfl)
  have m_EMPTY_boxes : mg ("EMPTY_boxes" : Str) = some (.ref (He.ga K "EMPTY_boxes")) := He.glo_ok X G (cd.fact 69 (f := .glo "EMPTY_boxes") rfl)
  have m_EMPTY_covers : mg ("EMPTY_covers" : Str) = some (.ref (He.ga K "EMPTY_covers")) := He.glo_ok X G (cd.fact 70 (f := .glo "EMPTY_covers") rfl)
  have e := hfa.symm.trans m90
  cases e
  obtain ⟨x1, x2⟩ := He.ba c.more
  obtain ⟨x3, x4⟩ := He.ba x2
  have bind : ∀ (s : Shared) (u : Value), BindsTo s g_d90 ⟨[u], []⟩ [("_law_script", u)] := fun s u => FunD.bindsA (ps := ["_law_script"]) F_d90 (fun _ _ _ _ _ _ us hl => match us, hl with | [_], _ => rfl) s [u] rfl
  have tne : (He.cT K ("_law_grown", none)).2 ≠ (He.cT K ("Drawer", some "names_waiting")).2 := fun q => by
    rw [q] at x4
    have : Nat.beq (He.cT K ("Drawer", some "names_waiting")).2 (He.cT K ("Drawer", some "names_waiting")).2 = true := Nat.beq_refl _
    rw [this] at x4
    cases x4
  let T : List (Addr × Str) := [((He.cT K ("_law_grown", none)).2, "_law_grown.<locals>.<lambda>"), ((He.cT K ("Drawer", some "names_waiting")).2, "Drawer.names_waiting.<locals>.<lambda>")]
  have hone1 : ∀ p ∈ T, p.1 = (He.cT K ("_law_grown", none)).2 → p.2 = "_law_grown.<locals>.<lambda>" := fun p hp e => by
    rcases List.mem_cons.mp hp with rfl | hp
    · rfl
    · rw [List.mem_singleton.mp hp] at e
      exact absurd e.symm tne
  have hone2 : ∀ p ∈ T, p.1 = (He.cT K ("Drawer", some "names_waiting")).2 → p.2 = "Drawer.names_waiting.<locals>.<lambda>" := fun p hp e => by
    rcases List.mem_cons.mp hp with rfl | hp
    · exact absurd e tne
    · rw [List.mem_singleton.mp hp]
  refine ⟨g_d90, tf.map (He.cT K), spLaw K T, fun p hp => ?_, fun p hp => ?_, fun p hp => ?_, bind, fun H a ns hl _ hH hS => ⟨a, ns, rfl, hS, fun p hp => ?_, fun _ => rfl⟩, fun base hb hns TB => ?_⟩
  · obtain ⟨q, hq, rfl⟩ := List.mem_map.mp hp
    exact c.empty q hq
  · obtain ⟨q, hq, rfl⟩ := List.mem_map.mp hp
    exact c.out q hq
  · obtain ⟨q, hq, rfl⟩ := List.mem_map.mp hp
    exact PySem.W.codeHd_of_K X (c.hd q hq)
  · rcases List.mem_cons.mp hp with rfl | hp
    · exact TabS.nil (hH _ (List.mem_cons_self ..))
    · rw [List.mem_singleton.mp hp]
      exact TabS.nil (hH _ (List.mem_cons_of_mem _ (List.mem_cons_self ..)))
  let C : Ctx := ⟨PySem.W.OpenLaw.prog PySem.Challenge.rw_boxlayers_k86_whole_papers, w, K, mg, base⟩
  have TB1 : TabB C.base C.mg (He.cT K ("_law_grown", none)).1 (He.cT K ("_law_grown", none)).2 := TB _ (List.mem_cons_self ..)
  have TB2 : TabB C.base C.mg (He.cT K ("Drawer", some "names_waiting")).1 (He.cT K ("Drawer", some "names_waiting")).2 := TB _ (List.mem_cons_of_mem _ (List.mem_cons_self ..))
  have B : Blt C := ⟨He.free_ok X G (cd.fact 71 (f := .free "abs") rfl), He.free_ok X G (cd.fact 72 (f := .free "all") rfl), He.free_ok X G (cd.fact 73 (f := .free "any") rfl), He.free_ok X G (cd.fact 74 (f := .free "bool") rfl), He.free_ok X G (cd.fact 75 (f := .free "dict") rfl), He.free_ok X G (cd.fact 76 (f := .free "int") rfl), He.free_ok X G (cd.fact 77 (f := .free "isinstance") rfl), He.free_ok X G (cd.fact 78 (f := .free "len") rfl), He.free_ok X G (cd.fact 79 (f := .free "list") rfl), He.free_ok X G (cd.fact 80 (f := .free "max") rfl), He.free_ok X G (cd.fact 81 (f := .free "min") rfl), He.free_ok X G (cd.fact 82 (f := .free "range") rfl), He.free_ok X G (cd.fact 83 (f := .free "sorted") rfl), He.free_ok X G (cd.fact 84 (f := .free "str") rfl), He.free_ok X G (cd.fact 85 (f := .free "sum") rfl), He.free_ok X G (cd.fact 86 (f := .free "tuple") rfl), He.free_ok X G (cd.fact 87 (f := .free "zip") rfl)⟩
  have Z1 : HasE C "EMPTY_boxes" := ⟨_, m_EMPTY_boxes, fun H => He.tupB_ok x1 H⟩
  have Z2 : HasE C "EMPTY_covers" := ⟨_, m_EMPTY_covers, fun H => He.tupB_ok x3 H⟩
  have DC : DrawerC C (He.ga K "Drawer") := ⟨He.cls_ok (cd.fact 88 (f := .cls "Drawer") rfl), He.noat_ok (cd.fact 97 (f := .noat "Drawer" "worths") rfl), He.noat_ok (cd.fact 98 (f := .noat "Drawer" "plain_pairs") rfl), He.noat_ok (cd.fact 99 (f := .noat "Drawer" "kind") rfl), He.noat_ok (cd.fact 100 (f := .noat "Drawer" "waiting") rfl), He.noat_ok (cd.fact 101 (f := .noat "Drawer" "looks_so_far") rfl), m_Drawer⟩
  have HC : HalverC C (He.ga K "Halver") := ⟨He.cls_ok (cd.fact 94 (f := .cls "Halver") rfl), He.noat_ok (cd.fact 102 (f := .noat "Halver" "sizes") rfl), He.noat_ok (cd.fact 103 (f := .noat "Halver" "place_by") rfl), He.noat_ok (cd.fact 104 (f := .noat "Halver" "rows") rfl), m_Halver⟩
  have K53 := He.mkr_ok (cd.fact 89 (f := .mkr "Drawer") rfl)
  have M53_1 := He.meth_ok (cd.fact 90 (f := .meth "Drawer" "let_wait") rfl)
  have M53_2 := He.meth_ok (cd.fact 91 (f := .meth "Drawer" "taken_next") rfl)
  have M53_3 := He.meth_ok (cd.fact 92 (f := .meth "Drawer" "next_name") rfl)
  have M53_4 := He.meth_ok (cd.fact 93 (f := .meth "Drawer" "names_waiting") rfl)
  have K74 := He.mkr_ok (cd.fact 95 (f := .mkr "Halver") rfl)
  have M74_1 := He.meth_ok (cd.fact 96 (f := .meth "Halver" "tree_of") rfl)
  have o2 := ok_fits_low (C := C) F_d2 m2
  have o3 := ok_fits_high (C := C) F_d3 m3
  have o4 := ok_fits_span (C := C) F_d4 m4 o2 o3
  have o5 := ok_fits (C := C) B F_d5 m5 o4
  have o6 := ok_plain_span (C := C) B F_d6 m6
  have o7 := ok_is_crossed (C := C) F_d7 m7
  have o8 := ok_plain_of (C := C) B Z1 F_d8 m8 o7
  have o9 := ok_plain_box (C := C) F_d9 m9 o6 o8
  have o10 := ok_greater_of (C := C) F_d10 m10
  have o11 := ok_lesser_of (C := C) F_d11 m11
  have o12 := ok_common (C := C) B F_d12 m12 o10 o11 o8
  have o13 := ok_lies_within (C := C) F_d13 m13 o12
  have o14 := ok_lie_apart (C := C) B Z1 F_d14 m14 o12
  have o15 := ok_bounds (C := C) B F_d15 m15
  have o17 := ok_steps (C := C) F_d17 m17 B
  have o19 := ok_things_in (C := C) F_d19 m19 o5
  have o20 := ok_fitting (C := C) F_d20 m20 B o19
  have o25 := ok_names_of_answers (C := C) F_d25 m25 B
  have o28 := ok_best_first (C := C) F_d28 m28 B F_d24 m24
  have o29 := ok_nearest_first (C := C) F_d29 m29 B o17
  have o31 := ok_answer_of (C := C) F_d31 m31 o25 o28 o29
  have o32 := ok_answer (C := C) F_d32 m32 o19 o31
  have o35 := ok_lies_out (C := C) F_d35 m35 Z2
  have o36 := ok_out_part (C := C) F_d36 m36 B o35
  have o37 := ok_parts_along (C := C) F_d37 m37 o14 o13 o36
  have o38 := ok_cover (C := C) F_d38 m38 B o9 (o37 40)
  have o39 := ok_tree_at (C := C) F_d39 m39
  have o41 := ok_is_count (C := C) F_d41 m41 B
  have o42 := ok_is_path (C := C) F_d42 m42 B o41
  have o43 := ok_there (C := C) F_d43 m43 B o42 o39
  have o44 := ok_is_out (C := C) F_d44 m44 B o41 o35
  have o45 := ok_is_in (C := C) F_d45 m45 B o13
  have o46 := ok_has_each_once (C := C) F_d46 m46 B
  have o47 := ok_shows_cover (C := C) F_d47 m47 B o9 o43 o45 o44 o46
  have o49 := ok_steps_to (C := C) F_d49 m49 B
  have o50 := ok_worths_of (C := C) F_d50 m50 B
  have o51 := ok_key_by_drawing (C := C) F_d51 m51 B o49
  have q1 := ok_let_wait (C := C) DC F_d53_1 M53_1 o14 o51
  have q2 := ok_taken_next (C := C) B DC F_d53_2 M53_2
  have q3 := ok_next_name (C := C) B DC F_d53_3 M53_3 q2 q1
  have q4 := ok_names_waiting (C := C) (T := T) B DC (funC_of (at_ := ("Drawer", some "names_waiting")) F_d53_4) M53_4 TB2 (List.mem_cons_of_mem _ (List.mem_cons_self ..)) hone2
  have q0 := ok_drawer_init (C := C) DC F_d53_0 K53 o50 o9 q1
  have o54 := ok_drawn (C := C) (T := T) B DC F_d54 m54 q0 q3 q4
  have o56 := ok_is_name_of (C := C) F_d56 m56 B
  have o57 := ok_keys_told (C := C) F_d57 m57 B o49
  have o58 := ok_is_far (C := C) F_d58 m58 B o51
  have o59 := ok_parts_show (C := C) F_d59 m59 B o9 o43 o45 o44 o46 o58 o50
  have o60 := ok_shows_drawn (C := C) F_d60 m60 B o50 o56 o57 o59
  have o62 := ok_parts_drawn (C := C) F_d62 m62 o14 o36
  have o63 := ok_drawn_paper (C := C) (T := T) B F_d63 m63 o54 o9 (o62 36)
  have o65 := ok_key_by_orders (C := C) F_d65 m65
  have o67 := ok_things_by (C := C) F_d67 m67 B o65
  have o68 := ok_names_of_orders (C := C) F_d68 m68 B
  have o70 := ok_order_by (C := C) F_d70 m70 o67 o68
  have o72 := ok_halved_up (C := C) F_d72 m72
  have o73 := ok_places_of (C := C) F_d73 m73 B
  have r0 := ok_halver_init (C := C) B HC F_d74_0 K74 o73 o70
  have r1 := ok_tree_of (C := C) B HC F_d74_1 M74_1 o15 o72
  have o75 := ok_turns (C := C) F_d75 m75 B HC r0 (r1 30)
  have o77 := ok_left_new (C := C) F_d77 m77 B
  have o78 := ok_pick (C := C) (T := T) F_d78 m78
  have o79 := ok__law_house (C := C) (T := T) F_d79 m79 B o78
  have o80 := ok__law_number (C := C) (T := T) F_d80 m80 B o78
  have o81 := ok__law_box (C := C) (T := T) F_d81 m81 B o78 o80
  have o82 := ok__law_kind (C := C) (T := T) F_d82 m82 B o78 o80
  have o83 := ok__law_bounds (C := C) F_d83 m83 B
  have o84 := ok_grown (C := C) (T := T) B (funC_of (at_ := ("_law_grown", none)) F_d84) m84 TB1 (List.mem_cons_self ..) hone1 o78 o83
  have o85 := ok__law_tree (C := C) (T := T) F_d85 m85 B (o84 30)
  have o86 := ok__law_at (C := C) F_d86 m86
  have o87 := ok__law_names (C := C) F_d87 m87 B o86
  have o88 := ok_covers_right (C := C) (T := T) B F_d88 m88 o78 o38 o20 o47 o87
  have o89 := ok_papers_right (C := C) (T := T) B F_d89 m89 o78 o32 o63 o60
  exact ok_law (C := C) (T := T) B F_d90 o77 o79 o75 o85 o81 o82 o88 o89
end Bx
open PySem PySem.W PySem.Calls PyProof.Rows
theorem PySem.Challenge.cw_boxlayers_k86_whole_papers_holds : PySem.Challenge.rw_boxlayers_k86_whole_papers.Holds := by
  w_on; o_law
  refine HandSHeadRun.head_any (r := OpenLaw.row PySem.Challenge.rw_boxlayers_k86_whole_papers) (q := view (OpenLaw.row PySem.Challenge.rw_boxlayers_k86_whole_papers).prog [90]) (H := Bx.hk) (ob := Bx.ob) (M := 20000) (loose := Bx.loose) (d := HandSHeadRun.topDef (OpenLaw.row PySem.Challenge.rw_boxlayers_k86_whole_papers).prog 90) (kwd := []) Bx.ob_eq
    (by kernel_rfl) (fun s => by kernel_rfl) Bx.run (by kernel_rfl) (by kernel_rfl) (by kernel_rfl) (by rfl) (by first | assumption | decide +kernel) (by decide +kernel) ⟨rfl, rfl, rfl, rfl, rfl, by decide +kernel⟩ ?hw ?hc
  case hw => w_witness2
  case hc =>
    refine LamX.walk_ofTsE (l := PySem.Challenge.rw_boxlayers_k86_whole_papers) (n := 63) (k := 48) (x := "_law_script") (CX := fun _ => L2.CX0) rfl (by decide) (by kernel_rfl) ⟨rfl, by decide, by decide⟩ ?F (fun _ _ _ _ _ z => z)
    intro w mg fa h Y G hmg0
    obtain ⟨K, KX, c⟩ := Y
    have hmg : mg ("law" : PySem.Str) = some (.ref fa) := by
      have e : (HandSHeadRun.topDef (OpenLaw.row PySem.Challenge.rw_boxlayers_k86_whole_papers).prog 90).name = ("law" : PySem.Str) := by kernel_rfl
      rw [← e]
      exact hmg0
    exact ⟨K, KX, Bx.law_facts KX G hmg c⟩
