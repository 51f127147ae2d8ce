import PyProof.Rows.All
import Wide.All
import OpenK.AllK
import Wide.FinOn
import HandS.ForMost
import HandS.ForExc
import HandS.EndTab
import HandS.Nested
import HandS.IsInst
import HandS.Conv
import HandS.Deep
import HandS.Wide
import HandS.TryMany
import HandS.TupAny
import KE.DataMinMax
import KE.LtData
import PyProof.ListStr
import PyProof.Rows.SeqMore
import PyProof.Rows.ListMulArg
import HandS.Walk
import HandS.Zip
import HandS.Style
import HandS.Defaults
import HandS.Star
import KE.GoesMore
import KE.GoesEnum
import KE.GoesZip
import HandS.Text
import KE.DatumOrd
import HandS.TupSets
import KE.SortKeyHeap
import HandS.Keys
import HandS.EndOwn
import HandS.DictComp
import HandS.ExcOwn
import KE.KDflt
import PyProof.StrBlock2
import HandS.TupMul
import KE.KEqDict
import PyProof.StrLawsIn
import PySem.Challenge.RW_anyscribe_k24_one_way_exactly
set_option Elab.async false
set_option linter.all false
set_option maxRecDepth 100000
set_option maxHeartbeats 4000000
/-! ### Sc: big steps over data. Slots that hold data, slots that own a list or a dict. -/
namespace Sc
open PySem L2 NdefX
/-! #### what may be read of a heap -/
def core : HO → Option HO
  | .tbl _ => none
  | .frz _ (.lst xs) => some (.lst xs)
  | .frz _ _ => none
  | o => some o
open Classical in
/-- the heap outside S: a locked list is read as a list, tables are hidden -/
noncomputable def vw (H : Hp) (S : Addr → Prop) : Hp := fun a => if S a then none else (H a).bind core
section
variable {H H' : Hp} {S S' : Addr → Prop} {a : Addr} {o : HO} {K : PySem.W.Frag} {xs : List V} {v : V} {d : PyData}
theorem vw_in (h : S a) : vw H S a = none := by
  unfold vw
  exact if_pos h
theorem vw_out (h : ¬ S a) : vw H S a = (H a).bind core := by
  unfold vw
  exact if_neg h
theorem vw_some (h : vw H S a = some o) : ¬ S a ∧ ∃ u, H a = some u ∧ core u = some o := by
  by_cases hS : S a
  · rw [vw_in hS] at h
    cases h
  · rw [vw_out hS] at h
    refine ⟨hS, ?_⟩
    cases e : H a with
    | none => rw [e] at h; cases h
    | some u => rw [e] at h; exact ⟨u, rfl, h⟩
theorem core_lst {u : HO} (h : core u = some (.lst xs)) : u = .lst xs ∨ ∃ o, u = .frz o (.lst xs) := by
  cases u with
  | lst ys => simp only [core, Option.some.injEq] at h; exact .inl h
  | frz o w =>
    cases w with
    | lst ys => simp only [core, Option.some.injEq, HO.lst.injEq] at h; exact .inr ⟨o, by rw [h]⟩
    | _ => simp [core] at h
  | tbl ps => simp [core] at h
  | _ => simp only [core, Option.some.injEq] at h; cases h
theorem core_tup {u : HO} (h : core u = some (.tup xs)) : u = .tup xs := by
  cases u with
  | tup ys => simp only [core, Option.some.injEq] at h; exact h
  | frz o w =>
    cases w with
    | lst ys => simp only [core, Option.some.injEq] at h; cases h
    | _ => simp [core] at h
  | tbl ps => simp [core] at h
  | _ => simp only [core, Option.some.injEq] at h; cases h
theorem core_nofrz {u : HO} {o : Obj} {w : HO} : core u ≠ some (.frz o w) := by
  intro h
  cases u with
  | frz o w =>
    cases w with
    | lst ys => simp only [core, Option.some.injEq] at h; cases h
    | _ => simp [core] at h
  | tbl ps => simp [core] at h
  | _ => simp only [core, Option.some.injEq] at h; cases h
theorem sql_real (h : SqL K (vw H S) a xs) : SqL K H a xs := by
  rcases h with (h | ⟨o, h⟩) | h
  · obtain ⟨_, u, e, c⟩ := vw_some h
    rcases core_lst c with rfl | ⟨o, rfl⟩
    · exact .inl (.inl e)
    · exact .inl (.inr ⟨o, e⟩)
  · obtain ⟨_, u, e, c⟩ := vw_some h
    exact absurd c core_nofrz
  · exact .inr h
theorem sqt_real (h : SqT K (vw H S) a xs) : SqT K H a xs := by
  rcases h with (h | ⟨o, h⟩) | h
  · obtain ⟨_, u, e, c⟩ := vw_some h
    rw [core_tup c] at e
    exact .inl (.inl e)
  · obtain ⟨_, u, e, c⟩ := vw_some h
    exact absurd c core_nofrz
  · exact .inr h
end
section
variable {h h' : Hp} {K : PySem.W.Frag}
theorem same_sql {a : Addr} {xs : List V} (e : Same h h') (x : SqL K h a xs) : SqL K h' a xs := e.seq x
theorem same_sqt {a : Addr} {xs : List V} (e : Same h h') (x : SqT K h a xs) : SqT K h' a xs := by
  rcases x with (x | ⟨o, x⟩) | x
  · exact .inl (.inl (e _ _ x))
  · exact .inl (.inr ⟨o, e _ _ x⟩)
  · exact .inr x
mutual
theorem dp_map {h h' : Hp} (fl : ∀ a xs, SqL K h a xs → SqL K h' a xs) (ft : ∀ a xs, SqT K h a xs → SqT K h' a xs) : ∀ (d : PyData) (v : V), Dp K h v d → Dp K h' v d
  | .none, _, x => by cases x; exact .non
  | .bool b, _, x => by cases x; exact .bl b
  | .int i, _, x => by cases x; exact .int i
  | .str t, _, x => by cases x; exact .str t
  | .list ds, _, x => by
    cases x with
    | lst s r => exact .lst (fl _ _ s) (dpAll_map fl ft ds _ r)
  | .tuple ds, _, x => by
    cases x with
    | tup s r => exact .tup (ft _ _ s) (dpAll_map fl ft ds _ r)
  | .dict _, _, x => by cases x
theorem dpAll_map {h h' : Hp} (fl : ∀ a xs, SqL K h a xs → SqL K h' a xs) (ft : ∀ a xs, SqT K h a xs → SqT K h' a xs) : ∀ (ds : List PyData) (vs : List V), DpAll K h vs ds → DpAll K h' vs ds
  | [], _, x => by cases x; exact .nil
  | d :: ds, _, x => by
    cases x with
    | cons a b => exact .cons (dp_map fl ft d _ a) (dpAll_map fl ft ds _ b)
end
theorem dp_mono (e : Same h h') {v : V} {d : PyData} (x : Dp K h v d) : Dp K h' v d := dp_map (fun _ _ => same_sql e) (fun _ _ => same_sqt e) d v x
theorem dpAll_mono (e : Same h h') {vs : List V} {ds : List PyData} (x : DpAll K h vs ds) : DpAll K h' vs ds := dpAll_map (fun _ _ => same_sql e) (fun _ _ => same_sqt e) ds vs x
theorem dp_real {H : Hp} {S : Addr → Prop} {v : V} {d : PyData} (x : Dp K (vw H S) v d) : Dp K H v d := dp_map (fun _ _ => sql_real) (fun _ _ => sqt_real) d v x
theorem dpAll_real {H : Hp} {S : Addr → Prop} {vs : List V} {ds : List PyData} (x : DpAll K (vw H S) vs ds) : DpAll K H vs ds := dpAll_map (fun _ _ => sql_real) (fun _ _ => sqt_real) ds vs x
theorem dpAll_len : ∀ {vs : List V} {ds : List PyData}, DpAll K h vs ds → vs.length = ds.length
  | _, _, .nil => rfl
  | _, _, .cons _ r => congrArg (· + 1) (dpAll_len r)
theorem dpAll_get : ∀ {vs : List V} {ds : List PyData} {i : Nat} {d : PyData}, DpAll K h vs ds → ds[i]? = some d → ∃ v, vs[i]? = some v ∧ Dp K h v d
  | _, _, _, _, .nil, e => by simp at e
  | _, _, 0, _, .cons r _, e => by simp at e; subst e; exact ⟨_, rfl, r⟩
  | _, _, i + 1, d, .cons _ t, e => by
    obtain ⟨v, h1, h2⟩ := dpAll_get (i := i) (d := d) t (by simpa using e)
    exact ⟨v, by simpa using h1, h2⟩
theorem dpAll_get' : ∀ {vs : List V} {ds : List PyData} {i : Nat} {v : V}, DpAll K h vs ds → vs[i]? = some v → ∃ d, ds[i]? = some d ∧ Dp K h v d
  | _, _, _, _, .nil, e => by simp at e
  | _, _, 0, _, .cons r _, e => by simp at e; subst e; exact ⟨_, rfl, r⟩
  | _, _, i + 1, d, .cons _ t, e => by
    obtain ⟨v, h1, h2⟩ := dpAll_get' (i := i) (v := d) t (by simpa using e)
    exact ⟨v, by simpa using h1, h2⟩
theorem dpAll_app : ∀ {vs ws : List V} {ds es : List PyData}, DpAll K h vs ds → DpAll K h ws es → DpAll K h (vs ++ ws) (ds ++ es)
  | _, _, _, _, .nil, s => s
  | _, _, _, _, .cons r t, s => .cons r (dpAll_app t s)
theorem dpAll_snoc {vs : List V} {ds : List PyData} {v : V} {d : PyData} (x : DpAll K h vs ds) (y : Dp K h v d) : DpAll K h (vs ++ [v]) (ds ++ [d]) := dpAll_app x (.cons y .nil)
end
/-! #### slots -/
inductive Ow where
  | lst (xs : List PyData)
  | dk (kvs : List (Key × PyData))
  | fk (od : Obj) (r : List (Key × V)) (kvs : List (Key × PyData))
  | dt (kvs : List (List Key × PyData))
  | ft (od : Obj) (r : List (List Key × V)) (kvs : List (List Key × PyData))
def kyD : Key → PyData
  | .inl n => .int n
  | .inr z => .str z
inductive Sl where
  | no
  | d (x : PyData)
  | v (x : V)
  | o (w : Ow)
  | b (w : Ow)
def Sl.ow : Sl → Option Ow
  | .o w => some w
  | .b w => some w
  | _ => none
inductive KvAt (K : PySem.W.Frag) (h : Hp) : List (Key × V) → List (Key × PyData) → Prop
  | nil : KvAt K h [] []
  | cons {k : Key} {v : V} {d : PyData} {r : List (Key × V)} {s : List (Key × PyData)} : Dp K h v d → KvAt K h r s → KvAt K h ((k, v) :: r) ((k, d) :: s)
theorem KvAt.mono {K : PySem.W.Frag} {h h' : Hp} (e : Same h h') : ∀ {r : List (Key × V)} {s : List (Key × PyData)}, KvAt K h r s → KvAt K h' r s
  | _, _, .nil => .nil
  | _, _, .cons a b => .cons (dp_mono e a) (KvAt.mono e b)
inductive KtAt (K : PySem.W.Frag) (h : Hp) : List (List Key × V) → List (List Key × PyData) → Prop
  | nil : KtAt K h [] []
  | cons {k : List Key} {v : V} {d : PyData} {r : List (List Key × V)} {s : List (List Key × PyData)} : Dp K h v d → KtAt K h r s → KtAt K h ((k, v) :: r) ((k, d) :: s)
theorem KtAt.mono {K : PySem.W.Frag} {h h' : Hp} (e : Same h h') : ∀ {r : List (List Key × V)} {s : List (List Key × PyData)}, KtAt K h r s → KtAt K h' r s
  | _, _, .nil => .nil
  | _, _, .cons a b => .cons (dp_mono e a) (KtAt.mono e b)
def OwAt (K : PySem.W.Frag) (h : Hp) (o : Option HO) : Ow → Prop
  | .lst xs => ∃ vs, o = some (.lst vs) ∧ DpAll K h vs xs
  | .dk kvs => ∃ r, o = some (.dK r) ∧ KvAt K h r kvs
  | .fk od r kvs => o = some (.frz od (.dK r)) ∧ KvAt K h r kvs
  | .dt kvs => ∃ r, o = some (.dT r) ∧ KtAt K h r kvs
  | .ft od r kvs => o = some (.frz od (.dT r)) ∧ KtAt K h r kvs
theorem OwAt.mono {K : PySem.W.Frag} {h h' : Hp} {o : Option HO} {w : Ow} (e : Same h h') (x : OwAt K h o w) : OwAt K h' o w := by
  cases w with
  | lst xs => obtain ⟨vs, a, b⟩ := x; exact ⟨vs, a, dpAll_mono e b⟩
  | dk kvs => obtain ⟨r, a, b⟩ := x; exact ⟨r, a, b.mono e⟩
  | fk od r kvs => obtain ⟨a, b⟩ := x; exact ⟨a, b.mono e⟩
  | dt kvs => obtain ⟨r, a, b⟩ := x; exact ⟨r, a, b.mono e⟩
  | ft od r kvs => obtain ⟨a, b⟩ := x; exact ⟨a, b.mono e⟩
def Owned (σ : St) (δ : List Sl) (p : Addr) : Prop := ∃ (i : Nat) (s : Sl) (w : Ow), δ[i]? = some s ∧ s.ow = some w ∧ σ[i]? = some (some (.ref p))
/-- nothing that counts stands there -/
def Fresh (H : Hp) (a : Addr) : Prop := ∀ o, H a = some o → ∃ ps, o = .tbl ps
theorem Fresh.of {H : Hp} {a : Addr} (h : H a = none) : Fresh H a := fun o e => by rw [h] at e; cases e
theorem OwAt.old {K : PySem.W.Frag} {h H : Hp} {p : Addr} {w : Ow} (x : OwAt K h (H p) w) : ¬ Fresh H p := fun f => by
  cases w with
  | lst xs => obtain ⟨vs, a, _⟩ := x; obtain ⟨ps, e⟩ := f _ a; cases e
  | dk kvs => obtain ⟨vs, a, _⟩ := x; obtain ⟨ps, e⟩ := f _ a; cases e
  | fk od r kvs => obtain ⟨a, _⟩ := x; obtain ⟨ps, e⟩ := f _ a; cases e
  | dt kvs => obtain ⟨vs, a, _⟩ := x; obtain ⟨ps, e⟩ := f _ a; cases e
  | ft od r kvs => obtain ⟨a, _⟩ := x; obtain ⟨ps, e⟩ := f _ a; cases e
def KeepN (P : Addr → Prop) (H H' : Hp) : Prop := ∀ a o, ¬ P a → H a = some o → (∀ ps, o ≠ .tbl ps) → H' a = some o
structure Env (K : PySem.W.Frag) (T : List NTab) (H : Hp) (S : Addr → Prop) (σ : St) (δ : List Sl) : Prop where
  len : σ.length = δ.length
  sub : ∀ p, Owned σ δ p → S p
  dat : ∀ (i : Nat) (x : PyData), δ[i]? = some (.d x) → ∃ v, σ[i]? = some (some v) ∧ Dp K (vw H S) v x
  val : ∀ (i : Nat) (v : V), δ[i]? = some (.v v) → σ[i]? = some (some v)
  own : ∀ (i : Nat) (s : Sl) (w : Ow), δ[i]? = some s → s.ow = some w → ∃ p, σ[i]? = some (some (.ref p)) ∧ OwAt K (vw H S) (H p) w
  apart : ∀ (i j : Nat) (s t : Sl) (w u : Ow) (p : Addr), i ≠ j → δ[i]? = some s → s.ow = some w → δ[j]? = some t → t.ow = some u → σ[i]? = some (some (.ref p)) → σ[j]? ≠ some (some (.ref p))
  tabs : TabsN T H
/-- from H, with S hidden and P owned, to H' -/
structure Go (H : Hp) (S P : Addr → Prop) (H' : Hp) (S' P' : Addr → Prop) : Prop where
  mono : Same (vw H S) (vw H' S')
  keep : KeepN P H H'
  up : ∀ a, S a → ¬ P a → ¬ Fresh H a → S' a
  ow : ∀ a, P' a → P a ∨ Fresh H a
theorem Go.refl (H : Hp) (S P : Addr → Prop) : Go H S P H S P := ⟨Same.refl _, fun _ _ _ e _ => e, fun _ h _ _ => h, fun _ h => .inl h⟩
theorem fresh_back {P : Addr → Prop} {H H' : Hp} (k : KeepN P H H') {a : Addr} (f : Fresh H' a) : P a ∨ Fresh H a := by
  by_cases hp : P a
  · exact .inl hp
  · refine .inr fun o e => ?_
    by_cases ht : ∃ ps, o = .tbl ps
    · exact ht
    · exact f o (k a o hp e fun ps z => ht ⟨ps, z⟩)
theorem Go.trans {H H1 H2 : Hp} {S P S1 P1 S2 P2 : Addr → Prop} (a : Go H S P H1 S1 P1) (b : Go H1 S1 P1 H2 S2 P2) : Go H S P H2 S2 P2 where
  mono := a.mono.trans b.mono
  keep := fun x o hp e t => by
    refine b.keep x o (fun h1 => ?_) (a.keep x o hp e t) t
    rcases a.ow x h1 with h | h
    · exact hp h
    · obtain ⟨ps, z⟩ := h o e
      exact t ps z
  up := fun x hs hp hf => by
    refine b.up x (a.up x hs hp hf) (fun h1 => ?_) (fun h1 => ?_)
    · rcases a.ow x h1 with h | h
      · exact hp h
      · exact hf h
    · rcases fresh_back a.keep h1 with h | h
      · exact hp h
      · exact hf h
  ow := fun x h => by
    rcases b.ow x h with h | h
    · exact a.ow x h
    · exact fresh_back a.keep h
/-- what an expression hands back -/
def Res (K : PySem.W.Frag) (H : Hp) (P : Addr → Prop) (H' : Hp) (S' P' : Addr → Prop) : Sl → V → Prop
  | .d x, v => Dp K (vw H' S') v x
  | .v u, v => v = u
  | .o w, v => ∃ p, v = .ref p ∧ S' p ∧ ¬ P' p ∧ OwAt K (vw H' S') (H' p) w ∧ (P p ∨ Fresh H p)
  | .no, _ => True
  | .b _, _ => False
theorem Res.go {K : PySem.W.Frag} {H H1 H2 : Hp} {P S1 P1 S2 P2 : Addr → Prop} {r : Sl} {v : V} (x : Res K H P H1 S1 P1 r v) (g : Go H1 S1 P1 H2 S2 P2) : Res K H P H2 S2 P2 r v := by
  cases r with
  | d x0 => exact dp_mono g.mono x
  | v u => exact x
  | no => trivial
  | b w => exact x
  | o w =>
    obtain ⟨p, e, hS, hP, ho, hf⟩ := x
    have nf := ho.old
    refine ⟨p, e, g.up p hS hP nf, fun h => ?_, ?_, hf⟩
    · rcases g.ow p h with h | h
      · exact hP h
      · exact nf h
    · have eH : H2 p = H1 p := by
        cases q : H1 p with
        | none => exact absurd (Fresh.of q) nf
        | some o =>
          refine g.keep p o hP q fun ps z => ?_
          exact nf fun o' e' => by rw [q] at e'; cases e'; exact ⟨ps, z⟩
      rw [eH]
      exact ho.mono g.mono
theorem Res.back {K : PySem.W.Frag} {H H1 H2 : Hp} {P P1 S2 P2 : Addr → Prop} {r : Sl} {v : V} (x : Res K H1 P1 H2 S2 P2 r v) (k : KeepN P H H1) (w : ∀ a, P1 a → P a ∨ Fresh H a) : Res K H P H2 S2 P2 r v := by
  cases r with
  | d x0 => exact x
  | v u => exact x
  | no => trivial
  | b w => exact x
  | o ww =>
    obtain ⟨p, e, hS, hP, ho, hf⟩ := x
    refine ⟨p, e, hS, hP, ho, ?_⟩
    rcases hf with h | h
    · exact w p h
    · exact fresh_back k h
end Sc
namespace Sc
open PySem L2 NdefX
/-! #### judgements -/
section
variable (X : Cx)
def wE (e : Expr) : TE := fun σ H Q => ∀ (pins : List (Addr × Obj)) (s : Shared), Inv X pins σ H s → wpAny (model X.prog X.w) X.A (eval e X.env) (EP X pins σ Q) X.xe s
def wT (e : Expr) : TT := fun σ H Q => ∀ (pins : List (Addr × Obj)) (s : Shared), Inv X pins σ H s → wpAny (model X.prog X.w) X.A (isTrue e X.env (eval e X.env)) (TP X pins σ Q) X.xe s
def wW (e : Expr) : TT := fun σ H Q => ∀ (whole : Sem Value) (pins : List (Addr × Obj)) (s : Shared), Inv X pins σ H s → wpAny (model X.prog X.w) X.A (isTrue e X.env whole) (TP X pins σ Q) X.xe s
def wA (es : List Expr) : TA := fun σ H Q => ∀ (pos : Pos) (pins : List (Addr × Obj)) (s : Shared), Inv X pins σ H s → wpAny (model X.prog X.w) X.A (spliced (backTo pos (starEach es X.env))) (AP X pins σ Q) X.xe s
def wS (st : Stmt) : TS := fun D σ H => ∀ (pins : List (Addr × Obj)) (s : Shared), Inv X pins σ H s → wpAny (model X.prog X.w) X.A (exec st X.env) (SP X pins D) X.xe s
def wSs (st : List Stmt) : TS := fun D σ H => ∀ (pins : List (Addr × Obj)) (s : Shared), Inv X pins σ H s → wpAny (model X.prog X.w) X.A (execs st X.env) (SP X pins D) X.xe s
def wG (tg : Expr) : TG := fun v σ H Q => ∀ (pins : List (Addr × Obj)) (s : Shared) (u : Value), Inv X pins σ H s → RelV v u → wpAny (model X.prog X.w) X.A (assign tg X.env u) (fun _ s' => ∃ σ' H', Inv X pins σ' H' s' ∧ Q σ' H') X.xe s
end
section
variable {X : Cx}
theorem pe_w {e : Expr} : PE X e (wE X e) := ⟨fun pins s _ _ _ I h => h pins s I⟩
theorem pt_w {e : Expr} : PT X e (wT X e) := ⟨fun pins s _ _ _ I h => h pins s I⟩
theorem pw_w {e : Expr} : PW X e (wW X e) := ⟨fun w pins s _ _ _ I h => h w pins s I⟩
theorem pa_w {es : List Expr} : PA X es (wA X es) := ⟨fun pos pins s _ _ _ I h => h pos pins s I⟩
theorem ps_w {st : Stmt} : PS X st (wS X st) := ⟨fun pins s _ _ _ I h => h pins s I⟩
theorem pss_w {st : List Stmt} : PSs X st (wSs X st) := ⟨fun pins s _ _ _ I h => h pins s I⟩
theorem pg_w {tg : Expr} : PG X tg (wG X tg) := ⟨fun pins s _ _ v u Q I r h => h pins s u I r⟩
theorem we_of {e : Expr} {t : TE} (p : PE X e t) {σ : St} {H : Hp} {Q : VK} (h : t σ H Q) : wE X e σ H Q := fun pins s I => p.run pins s σ H Q I h
theorem wt_of {e : Expr} {t : TT} (p : PT X e t) {σ : St} {H : Hp} {Q : Bool → Hp → Prop} (h : t σ H Q) : wT X e σ H Q := fun pins s I => p.run pins s σ H Q I h
theorem ww_of {e : Expr} {t : TT} (p : PW X e t) {σ : St} {H : Hp} {Q : Bool → Hp → Prop} (h : t σ H Q) : wW X e σ H Q := fun w pins s I => p.run w pins s σ H Q I h
theorem wa_of {es : List Expr} {t : TA} (p : PA X es t) {σ : St} {H : Hp} {Q : List V → Hp → Prop} (h : t σ H Q) : wA X es σ H Q := fun pos pins s I => p.run pos pins s σ H Q I h
theorem ws_of {st : Stmt} {t : TS} (p : PS X st t) {D : Ends} {σ : St} {H : Hp} (h : t D σ H) : wS X st D σ H := fun pins s I => p.run pins s σ H D I h
theorem wss_of {st : List Stmt} {t : TS} (p : PSs X st t) {D : Ends} {σ : St} {H : Hp} (h : t D σ H) : wSs X st D σ H := fun pins s I => p.run pins s σ H D I h
theorem wg_of {tg : Expr} {t : TG} (p : PG X tg t) {v : V} {σ : St} {H : Hp} {Q : St → Hp → Prop} (h : t v σ H Q) : wG X tg v σ H Q := fun pins s u I r => p.run pins s σ H v u Q I r h
theorem we_mono {e : Expr} {σ : St} {H : Hp} {Q Q' : VK} (h : wE X e σ H Q) (k : ∀ v H', Q v H' → Q' v H') : wE X e σ H Q' := fun pins s I =>
  thn (h pins s I) fun u s' ⟨v, H', I', r, q⟩ => ⟨v, H', I', r, k v H' q⟩
theorem wt_mono {e : Expr} {σ : St} {H : Hp} {Q Q' : Bool → Hp → Prop} (h : wT X e σ H Q) (k : ∀ b H', Q b H' → Q' b H') : wT X e σ H Q' := fun pins s I =>
  thn (h pins s I) fun u s' ⟨H', I', q⟩ => ⟨H', I', k _ H' q⟩
theorem ws_mono {st : Stmt} {σ : St} {H : Hp} {D D' : Ends} (h : wS X st D σ H) (kn : ∀ σ H, D.nx σ H → D'.nx σ H) (kr : ∀ v H, D.rt v H → D'.rt v H) (kb : ∀ σ H, D.bk σ H → D'.bk σ H) (kc : ∀ σ H, D.ct σ H → D'.ct σ H) : wS X st D' σ H := fun pins s I =>
  thn (h pins s I) fun f s' q => by
    cases f with
    | next => obtain ⟨σ', H', I', q⟩ := q; exact ⟨σ', H', I', kn _ _ q⟩
    | brk => obtain ⟨σ', H', I', q⟩ := q; exact ⟨σ', H', I', kb _ _ q⟩
    | cont => obtain ⟨σ', H', I', q⟩ := q; exact ⟨σ', H', I', kc _ _ q⟩
    | ret u => obtain ⟨v, σ', H', I', r, q⟩ := q; exact ⟨v, σ', H', I', r, kr _ _ q⟩
theorem wss_mono {st : List Stmt} {σ : St} {H : Hp} {D D' : Ends} (h : wSs X st D σ H) (kn : ∀ σ H, D.nx σ H → D'.nx σ H) (kr : ∀ v H, D.rt v H → D'.rt v H) (kb : ∀ σ H, D.bk σ H → D'.bk σ H) (kc : ∀ σ H, D.ct σ H → D'.ct σ H) : wSs X st D' σ H := fun pins s I =>
  thn (h pins s I) fun f s' q => by
    cases f with
    | next => obtain ⟨σ', H', I', q⟩ := q; exact ⟨σ', H', I', kn _ _ q⟩
    | brk => obtain ⟨σ', H', I', q⟩ := q; exact ⟨σ', H', I', kb _ _ q⟩
    | cont => obtain ⟨σ', H', I', q⟩ := q; exact ⟨σ', H', I', kc _ _ q⟩
    | ret u => obtain ⟨v, σ', H', I', r, q⟩ := q; exact ⟨v, σ', H', I', r, kr _ _ q⟩
end
/-- an exception: its class, the fields that it bears -/
structure Exn where
  cls : Addr
  fs : List (Str × PyData)
/-- how a piece of code ends -/
inductive Out where
  | nx (δ : List Sl)
  | ret (r : Sl) (δ : List Sl)
  | brk (δ : List Sl)
  | ct (δ : List Sl)
  | ex (x : Exn) (δ : List Sl)
def FsAt (K : PySem.W.Frag) (h : Hp) : List (Str × V) → List (Str × PyData) → Prop := Paired fun (p : Str × V) (q : Str × PyData) => p.1 = q.1 ∧ Dp K h p.2 q.2
def IsEx (K : PySem.W.Frag) (h H : Hp) (x : Exn) (cls : Value) (d : Option Addr) : Prop :=
  cls = .ref x.cls ∧ ((x.fs = [] ∧ d = none) ∨ ∃ a fs, d = some a ∧ H a = some (.xd fs) ∧ FsAt K h fs x.fs)
/-- the borrowed slots stay where they are -/
def Pin (σ : St) (δ : List Sl) (σ' : St) (δ' : List Sl) : Prop := ∀ (i : Nat) (w : Ow), δ[i]? = some (.b w) → σ'[i]? = σ[i]? ∧ ∃ w', δ'[i]? = some (.b w')
theorem Pin.refl (σ : St) (δ : List Sl) : Pin σ δ σ δ := fun _ w h => ⟨rfl, w, h⟩
theorem Pin.trans {σ σ1 σ2 : St} {δ δ1 δ2 : List Sl} (a : Pin σ δ σ1 δ1) (b : Pin σ1 δ1 σ2 δ2) : Pin σ δ σ2 δ2 := fun i w h => by
  obtain ⟨e1, w1, h1⟩ := a i w h
  obtain ⟨e2, w2, h2⟩ := b i w1 h1
  exact ⟨e2.trans e1, w2, h2⟩
section
variable (X : Cx) (T : List NTab)
def EV (e : Expr) (δ : List Sl) (r : Sl) (δ' : List Sl) : Prop := ∀ (σ : St) (H : Hp) (S : Addr → Prop) (Q : VK), Env X.K T H S σ δ →
  (∀ v H' S', Go H S (Owned σ δ) H' S' (Owned σ δ') → Env X.K T H' S' σ δ' → Pin σ δ σ δ' → Res X.K H (Owned σ δ) H' S' (Owned σ δ') r v → Q v H') → wE X e σ H Q
/-- e raises x -/
def EX (W : WX) (e : Expr) (δ : List Sl) (x : Exn) (δ' : List Sl) : Prop := ∀ (σ : St) (H : Hp) (S : Addr → Prop) (Q : VK), Env X.K T H S σ δ →
  (∀ cls d H' S', Go H S (Owned σ δ) H' S' (Owned σ δ') → Env X.K T H' S' σ δ' → Pin σ δ σ δ' → IsEx X.K (vw H' S') H' x cls d → W cls d σ H') → wE X e σ H Q
def TV (e : Expr) (δ : List Sl) (b : Bool) (δ' : List Sl) : Prop := ∀ (σ : St) (H : Hp) (S : Addr → Prop) (Q : Bool → Hp → Prop), Env X.K T H S σ δ →
  (∀ H' S', Go H S (Owned σ δ) H' S' (Owned σ δ') → Env X.K T H' S' σ δ' → Pin σ δ σ δ' → Q b H') → wT X e σ H Q
def TW (e : Expr) (δ : List Sl) (b : Bool) (δ' : List Sl) : Prop := ∀ (σ : St) (H : Hp) (S : Addr → Prop) (Q : Bool → Hp → Prop), Env X.K T H S σ δ →
  (∀ H' S', Go H S (Owned σ δ) H' S' (Owned σ δ') → Env X.K T H' S' σ δ' → Pin σ δ σ δ' → Q b H') → wW X e σ H Q
inductive ResAll (K : PySem.W.Frag) (H : Hp) (P : Addr → Prop) (H' : Hp) (S' P' : Addr → Prop) : List Sl → List V → Prop
  | nil : ResAll K H P H' S' P' [] []
  | cons {r : Sl} {rs : List Sl} {v : V} {vs : List V} : Res K H P H' S' P' r v → ResAll K H P H' S' P' rs vs → ResAll K H P H' S' P' (r :: rs) (v :: vs)
def AV (es : List Expr) (δ : List Sl) (rs : List Sl) (δ' : List Sl) : Prop := ∀ (σ : St) (H : Hp) (S : Addr → Prop) (Q : List V → Hp → Prop), Env X.K T H S σ δ →
  (∀ vs H' S', Go H S (Owned σ δ) H' S' (Owned σ δ') → Env X.K T H' S' σ δ' → Pin σ δ σ δ' → ResAll X.K H (Owned σ δ) H' S' (Owned σ δ') rs vs → Q vs H') → wA X es σ H Q
/-- what is wanted of the ends, by the outcome -/
def Sat (W : WX) (σ : St) (H : Hp) (S : Addr → Prop) (δ : List Sl) (D : Ends) : Out → Prop
  | .nx δ' => ∀ σ' H' S', Go H S (Owned σ δ) H' S' (Owned σ' δ') → Env X.K T H' S' σ' δ' → Pin σ δ σ' δ' → D.nx σ' H'
  | .brk δ' => ∀ σ' H' S', Go H S (Owned σ δ) H' S' (Owned σ' δ') → Env X.K T H' S' σ' δ' → Pin σ δ σ' δ' → D.bk σ' H'
  | .ct δ' => ∀ σ' H' S', Go H S (Owned σ δ) H' S' (Owned σ' δ') → Env X.K T H' S' σ' δ' → Pin σ δ σ' δ' → D.ct σ' H'
  | .ret r δ' => ∀ v σ' H' S', Go H S (Owned σ δ) H' S' (Owned σ' δ') → Env X.K T H' S' σ' δ' → Pin σ δ σ' δ' → Res X.K H (Owned σ δ) H' S' (Owned σ' δ') r v → D.rt v H'
  | .ex x δ' => ∀ cls d σ' H' S', Go H S (Owned σ δ) H' S' (Owned σ' δ') → Env X.K T H' S' σ' δ' → Pin σ δ σ' δ' → IsEx X.K (vw H' S') H' x cls d → W cls d σ' H'
def SV (W : WX) (st : Stmt) (δ : List Sl) (o : Out) : Prop := ∀ (σ : St) (H : Hp) (S : Addr → Prop) (D : Ends), Env X.K T H S σ δ → Sat X T W σ H S δ D o → wS X st D σ H
def SVs (W : WX) (st : List Stmt) (δ : List Sl) (o : Out) : Prop := ∀ (σ : St) (H : Hp) (S : Addr → Prop) (D : Ends), Env X.K T H S σ δ → Sat X T W σ H S δ D o → wSs X st D σ H
/-- a target takes a value -/
def GV (tg : Expr) (r : Sl) (δ : List Sl) (δ' : List Sl) : Prop := ∀ (σ : St) (H : Hp) (S : Addr → Prop) (H0 : Hp) (P0 : Addr → Prop) (v : V) (Q : St → Hp → Prop), Env X.K T H S σ δ → Res X.K H0 P0 H S (Owned σ δ) r v → KeepN P0 H0 H → (∀ a, Owned σ δ a → P0 a ∨ Fresh H0 a) →
  (∀ σ' H' S', Same (vw H S) (vw H' S') → KeepN P0 H0 H' → (∀ a, S a → ¬ P0 a → ¬ Fresh H0 a → S' a) → (∀ a, Owned σ' δ' a → P0 a ∨ Fresh H0 a) → Env X.K T H' S' σ' δ' → Pin σ δ σ' δ' → Q σ' H') → wG X tg v σ H Q
end
section
variable {X : Cx} {T : List NTab}
/-- one piece behind another -/
theorem Sat.after {W : WX} {σ σ1 : St} {H H1 : Hp} {S S1 : Addr → Prop} {δ δ1 : List Sl} {D : Ends} {o : Out} (g : Go H S (Owned σ δ) H1 S1 (Owned σ1 δ1)) (p : Pin σ δ σ1 δ1) (h : Sat X T W σ H S δ D o) : Sat X T W σ1 H1 S1 δ1 D o := by
  cases o with
  | nx δ' => exact fun σ' H' S' g' e' p' => h σ' H' S' (g.trans g') e' (p.trans p')
  | brk δ' => exact fun σ' H' S' g' e' p' => h σ' H' S' (g.trans g') e' (p.trans p')
  | ct δ' => exact fun σ' H' S' g' e' p' => h σ' H' S' (g.trans g') e' (p.trans p')
  | ret r δ' => exact fun v σ' H' S' g' e' p' x => h v σ' H' S' (g.trans g') e' (p.trans p') (x.back g.keep g.ow)
  | ex x δ' => exact fun cls d σ' H' S' g' e' p' i => h cls d σ' H' S' (g.trans g') e' (p.trans p') i
/-- two expressions in a row -/
theorem two {a b : Expr} {δ δ1 δ2 : List Sl} {ra rb : Sl} (ha : EV X T a δ ra δ1) (hb : EV X T b δ1 rb δ2) {σ : St} {H : Hp} {S : Addr → Prop} (E : Env X.K T H S σ δ) {Q : V → V → Hp → Prop}
    (k : ∀ v1 v2 H' S', Go H S (Owned σ δ) H' S' (Owned σ δ2) → Env X.K T H' S' σ δ2 → Pin σ δ σ δ2 → Res X.K H (Owned σ δ) H' S' (Owned σ δ2) ra v1 → Res X.K H (Owned σ δ) H' S' (Owned σ δ2) rb v2 → Q v1 v2 H') :
    wE X a σ H fun v1 H1 => wE X b σ H1 fun v2 H2 => Q v1 v2 H2 :=
  ha σ H S _ E fun v1 H1 S1 g1 e1 p1 r1 => hb σ H1 S1 _ e1 fun v2 H2 S2 g2 e2 p2 r2 => k v1 v2 H2 S2 (g1.trans g2) e2 (p1.trans p2) (r1.go g2) (r2.back g1.keep g1.ow)
theorem av_nil {δ : List Sl} : AV X T [] δ [] δ := fun σ H S Q E k => wa_of pa_nil (k [] H S (Go.refl _ _ _) E (Pin.refl _ _) .nil)
theorem ResAll.go {K : PySem.W.Frag} {H H1 H2 : Hp} {P S1 P1 S2 P2 : Addr → Prop} (g : Go H1 S1 P1 H2 S2 P2) : ∀ {rs : List Sl} {vs : List V}, ResAll K H P H1 S1 P1 rs vs → ResAll K H P H2 S2 P2 rs vs
  | _, _, .nil => .nil
  | _, _, .cons a b => .cons (a.go g) (ResAll.go g b)
theorem ResAll.back {K : PySem.W.Frag} {H H1 H2 : Hp} {P P1 S2 P2 : Addr → Prop} (k : KeepN P H H1) (w : ∀ a, P1 a → P a ∨ Fresh H a) : ∀ {rs : List Sl} {vs : List V}, ResAll K H1 P1 H2 S2 P2 rs vs → ResAll K H P H2 S2 P2 rs vs
  | _, _, .nil => .nil
  | _, _, .cons a b => .cons (a.back k w) (ResAll.back k w b)
theorem av_cons {e : Expr} {es : List Expr} {δ δ1 δ2 : List Sl} {r : Sl} {rs : List Sl} (h : EV X T e δ r δ1) (hs : AV X T es δ1 rs δ2) (he : starEach (e :: es) X.env = (false, eval e X.env) :: starEach es X.env := by rfl) : AV X T (e :: es) δ (r :: rs) δ2 := fun σ H S Q E k =>
  wa_of (pa_cons pe_w pa_w he) (h σ H S _ E fun v1 H1 S1 g1 e1 p1 r1 => hs σ H1 S1 _ e1 fun vs H2 S2 g2 e2 p2 r2 => k (v1 :: vs) H2 S2 (g1.trans g2) e2 (p1.trans p2) (.cons (r1.go g2) (r2.back g1.keep g1.ow)))
/-! #### blocks -/
theorem svs_nil {W : WX} {δ : List Sl} : SVs X T W [] δ (.nx δ) := fun σ H S D E k => wss_of pss_nil (k σ H S (Go.refl _ _ _) E (Pin.refl _ _))
theorem svs_cons {W : WX} {st : Stmt} {rest : List Stmt} {δ δ1 : List Sl} {o : Out} (h : SV X T W st δ (.nx δ1)) (hs : SVs X T W rest δ1 o) : SVs X T W (st :: rest) δ o := fun σ H S D E k =>
  wss_of (pss_cons ps_w pss_w) (h σ H S _ E fun σ1 H1 S1 g1 e1 p1 => hs σ1 H1 S1 D e1 (k.after g1 p1))
def Out.stops : Out → Prop
  | .nx _ => False
  | _ => True
theorem svs_stop {W : WX} {st : Stmt} {rest : List Stmt} {δ : List Sl} {o : Out} (h : SV X T W st δ o) (ho : o.stops := by trivial) : SVs X T W (st :: rest) δ o := fun σ H S D E k => by
  refine wss_of (pss_cons ps_w pss_w) (h σ H S _ E ?_)
  cases o with
  | nx δ' => exact ho.elim
  | brk δ' => exact k
  | ct δ' => exact k
  | ret r δ' => exact k
  | ex x δ' => exact k
theorem svs_one {W : WX} {st : Stmt} {δ : List Sl} {o : Out} (h : SV X T W st δ o) : SVs X T W [st] δ o := fun σ H S D E k => wss_of (pss_one ps_w) (h σ H S D E k)
/-- a block, then the rest -/
inductive Then (X : Cx) (T : List NTab) (W : WX) (st rest : List Stmt) (δ : List Sl) (o : Out) : Prop
  | go {δ1 : List Sl} : SVs X T W st δ (.nx δ1) → SVs X T W rest δ1 o → Then X T W st rest δ o
  | stop : SVs X T W st δ o → o.stops → Then X T W st rest δ o
theorem svs_if {W : WX} {c : Expr} {a b rest : List Stmt} {pos : Pos} {δ δ1 : List Sl} {t : Bool} {o : Out} (hc : TV X T c δ t δ1) (ha : t = true → Then X T W a rest δ1 o) (hb : t = false → Then X T W b rest δ1 o) : SVs X T W (.If c a b pos :: rest) δ o := fun σ H S D E k => by
  refine wss_of (pss_cons (ps_if pt_w pss_w pss_w) pss_w) (hc σ H S _ E fun H1 S1 g1 e1 p1 => ?_)
  have k1 := k.after g1 p1
  have key : ∀ {st : List Stmt}, Then X T W st rest δ1 o → wSs X st { D with nx := wSs X rest D } σ H1 := fun {st} h => by
    cases h with
    | go h1 h2 => exact h1 σ H1 S1 _ e1 fun σ2 H2 S2 g2 e2 p2 => h2 σ2 H2 S2 D e2 (k1.after g2 p2)
    | stop h1 ho =>
      refine h1 σ H1 S1 _ e1 ?_
      cases o with
      | nx δ' => exact ho.elim
      | brk δ' => exact k1
      | ct δ' => exact k1
      | ret r δ' => exact k1
      | ex x δ' => exact k1
  cases t with
  | true => exact iteT (key (ha rfl))
  | false => exact iteF (key (hb rfl))
theorem sv_if {W : WX} {c : Expr} {a b : List Stmt} {pos : Pos} {δ δ1 : List Sl} {t : Bool} {o : Out} (hc : TV X T c δ t δ1) (ha : t = true → SVs X T W a δ1 o) (hb : t = false → SVs X T W b δ1 o) : SV X T W (.If c a b pos) δ o := fun σ H S D E k => by
  refine ws_of (ps_if pt_w pss_w pss_w) (hc σ H S _ E fun H1 S1 g1 e1 p1 => ?_)
  have k1 := k.after g1 p1
  cases t with
  | true => exact iteT (ha rfl σ H1 S1 D e1 k1)
  | false => exact iteF (hb rfl σ H1 S1 D e1 k1)
theorem sv_pass {W : WX} {pos : Pos} {δ : List Sl} : SV X T W (.Pass pos) δ (.nx δ) := fun σ H S D E k => ws_of ps_pass (k σ H S (Go.refl _ _ _) E (Pin.refl _ _))
theorem sv_break {W : WX} {pos : Pos} {δ : List Sl} : SV X T W (.Break pos) δ (.brk δ) := fun σ H S D E k => ws_of ps_break (k σ H S (Go.refl _ _ _) E (Pin.refl _ _))
theorem sv_cont {W : WX} {pos : Pos} {δ : List Sl} : SV X T W (.Continue pos) δ (.ct δ) := fun σ H S D E k => ws_of ps_continue (k σ H S (Go.refl _ _ _) E (Pin.refl _ _))
theorem sv_ret {W : WX} {e : Expr} {pos : Pos} {δ δ1 : List Sl} {r : Sl} (h : EV X T e δ r δ1) : SV X T W (.Return (some e) pos) δ (.ret r δ1) := fun σ H S D E k =>
  ws_of (ps_ret pe_w) (h σ H S _ E fun v H1 S1 g1 e1 p1 r1 => k v σ H1 S1 g1 e1 p1 r1)
theorem sv_retN {W : WX} {pos : Pos} {δ : List Sl} : SV X T W (.Return none pos) δ (.ret (.d .none) δ) := fun σ H S D E k => ws_of ps_retN (k .non σ H S (Go.refl _ _ _) E (Pin.refl _ _) .non)
theorem sv_expr {W : WX} {e : Expr} {pos : Pos} {δ δ1 : List Sl} {r : Sl} (h : EV X T e δ r δ1) (hs : swapsWith e none pos.line X.env = pure false := by rfl) : SV X T W (.Expr e pos) δ (.nx δ1) := fun σ H S D E k =>
  ws_of (ps_expr pe_w hs) (h σ H S _ E fun v H1 S1 g1 e1 p1 r1 => k σ H1 S1 g1 e1 p1)
theorem sv_exprX {W : WX} {e : Expr} {pos : Pos} {δ δ1 : List Sl} {x : Exn} (h : EX X T W e δ x δ1) (hs : swapsWith e none pos.line X.env = pure false := by rfl) : SV X T W (.Expr e pos) δ (.ex x δ1) := fun σ H S D E k =>
  ws_of (ps_expr pe_w hs) (h σ H S _ E fun cls d H1 S1 g1 e1 p1 r1 => k cls d σ H1 S1 g1 e1 p1 r1)
theorem sv_retX {W : WX} {e : Expr} {pos : Pos} {δ δ1 : List Sl} {x : Exn} (h : EX X T W e δ x δ1) : SV X T W (.Return (some e) pos) δ (.ex x δ1) := fun σ H S D E k =>
  ws_of (ps_ret pe_w) (h σ H S _ E fun cls d H1 S1 g1 e1 p1 r1 => k cls d σ H1 S1 g1 e1 p1 r1)
/-! #### a slot is set -/
theorem own_set {σ : St} {δ : List Sl} {i : Nat} {v : V} {s : Sl} {p : Addr} (h : Owned (σ.set i (some v)) (δ.set i s) p) : Owned σ δ p ∨ (∃ w, s.ow = some w ∧ v = .ref p) := by
  obtain ⟨j, t, w, h1, h2, h3⟩ := h
  by_cases e : i = j
  · subst e
    by_cases hl : i < δ.length
    · rw [List.getElem?_set_self hl] at h1
      cases h1
      by_cases hs : i < σ.length
      · rw [List.getElem?_set_self hs] at h3
        simp only [Option.some.injEq] at h3
        exact .inr ⟨w, h2, h3⟩
      · rw [List.getElem?_eq_none (by simpa using hs)] at h3
        cases h3
    · rw [List.getElem?_eq_none (by simpa using hl)] at h1
      cases h1
  · rw [List.getElem?_set_ne e] at h1 h3
    exact .inl ⟨j, t, w, h1, h2, h3⟩
theorem Env.set {K : PySem.W.Frag} {H H0 : Hp} {S P0 : Addr → Prop} {σ : St} {δ : List Sl} {i : Nat} {v : V} {r : Sl} (E : Env K T H S σ δ) (x : Res K H0 P0 H S (Owned σ δ) r v) : Env K T H S (σ.set i (some v)) (δ.set i r) where
  len := by rw [List.length_set, List.length_set]; exact E.len
  sub := fun p h => by
    rcases own_set h with h | ⟨w, h, e⟩
    · exact E.sub p h
    · cases r with
      | o w' =>
        obtain ⟨q, e', hS, _⟩ := x
        rw [e] at e'
        cases e'
        exact hS
      | b w' => exact (show False from x).elim
      | _ => cases h
  dat := fun j y h => by
    by_cases e : i = j
    · subst e
      by_cases hl : i < δ.length
      · rw [List.getElem?_set_self hl] at h
        cases h
        exact ⟨v, List.getElem?_set_self (by rw [E.len]; exact hl), x⟩
      · rw [List.getElem?_eq_none (by simpa using hl)] at h
        cases h
    · rw [List.getElem?_set_ne e] at h ⊢
      exact E.dat j y h
  val := fun j y h => by
    by_cases e : i = j
    · subst e
      by_cases hl : i < δ.length
      · rw [List.getElem?_set_self hl] at h
        cases h
        have x' : v = y := x
        rw [← x']
        exact List.getElem?_set_self (by rw [E.len]; exact hl)
      · rw [List.getElem?_eq_none (by simpa using hl)] at h
        cases h
    · rw [List.getElem?_set_ne e] at h ⊢
      exact E.val j y h
  own := fun j s w h hw => by
    by_cases e : i = j
    · subst e
      by_cases hl : i < δ.length
      · rw [List.getElem?_set_self hl] at h
        cases h
        cases r with
        | o w' =>
          cases hw
          obtain ⟨q, e', hS, _, ho, _⟩ := x
          exact ⟨q, by rw [List.getElem?_set_self (by rw [E.len]; exact hl), e'], ho⟩
        | b w' => exact (show False from x).elim
        | _ => cases hw
      · rw [List.getElem?_eq_none (by simpa using hl)] at h
        cases h
    · rw [List.getElem?_set_ne e] at h ⊢
      exact E.own j s w h hw
  apart := by
    have key : ∀ (j : Nat) (t : Sl) (u : Ow) (w : Ow) (p : Addr), i ≠ j → r.ow = some w → v = .ref p → δ[j]? = some t → t.ow = some u → σ[j]? ≠ some (some (.ref p)) := fun j t u w p hij hr hv ht hu e => by
      cases r with
      | o w' =>
        obtain ⟨q, e', hS, hn, _⟩ := x
        rw [hv] at e'
        cases e'
        exact hn ⟨j, t, u, ht, hu, e⟩
      | b w' => exact (show False from x).elim
      | _ => cases hr
    intro j k s t w u p hjk hs hw ht hu h1 h2
    by_cases e : i = j
    · subst e
      by_cases hl : i < δ.length
      · rw [List.getElem?_set_self hl] at hs
        cases hs
        rw [List.getElem?_set_self (by rw [E.len]; exact hl)] at h1
        rw [List.getElem?_set_ne hjk] at ht h2
        exact key k t u w p hjk hw (by simpa using h1) ht hu h2
      · rw [List.getElem?_eq_none (by simpa using hl)] at hs
        cases hs
    · rw [List.getElem?_set_ne e] at hs h1
      by_cases e2 : i = k
      · subst e2
        by_cases hl : i < δ.length
        · rw [List.getElem?_set_self hl] at ht
          cases ht
          rw [List.getElem?_set_self (by rw [E.len]; exact hl)] at h2
          exact key j s w u p e hu (by simpa using h2) hs hw h1
        · rw [List.getElem?_eq_none (by simpa using hl)] at ht
          cases ht
      · rw [List.getElem?_set_ne e2] at ht h2
        exact E.apart j k s t w u p hjk hs hw ht hu h1 h2
  tabs := E.tabs
theorem res_ow {K : PySem.W.Frag} {H H0 : Hp} {S P0 P' : Addr → Prop} {r : Sl} {v : V} (x : Res K H0 P0 H S P' r v) {w : Ow} {p : Addr} (h : r.ow = some w) (e : v = .ref p) : P0 p ∨ Fresh H0 p := by
  cases r with
  | o w' =>
    obtain ⟨q, e', _, _, _, hf⟩ := x
    rw [e] at e'
    cases e'
    exact hf
  | b w' => exact (show False from x).elim
  | _ => cases h
def Sl.free : Sl → Prop
  | .b _ => False
  | _ => True
theorem pin_set {σ : St} {δ : List Sl} {i : Nat} {v : V} {r : Sl} (h : ∀ s, δ[i]? = some s → s.free) : Pin σ δ (σ.set i (some v)) (δ.set i r) := fun j w e => by
  by_cases hij : i = j
  · subst hij
    exact (h _ e).elim
  · rw [List.getElem?_set_ne hij, List.getElem?_set_ne hij]
    exact ⟨rfl, w, e⟩
theorem gv_name {i : Nat} {x : Str} {pos : Pos} {δ : List Sl} {r s : Sl} (hN : X.N.Nodup) (hi : X.N[i]? = some x) (hx : Loc X.env.scope x) (hf : X.fn x = true ∨ X.env.scope.names.lookup x = some .local) (hd : δ[i]? = some s) (hs : s.free) : GV X T (.Name x pos) r δ (δ.set i r) := fun σ H S H0 P0 v Q E x hk hw k => by
  refine wg_of (pg_name hN hi hx hf) (k _ H S (Same.refl _) hk (fun _ h _ _ => h) (fun a h => ?_) (E.set x) (pin_set fun t e => ?_))
  · rcases own_set h with h | ⟨w, h, e⟩
    · exact hw a h
    · exact res_ow x h e
  · rw [hd] at e
    cases e
    exact hs
theorem sv_asg {W : WX} {tg e : Expr} {pos : Pos} {δ δ1 δ2 : List Sl} {r : Sl} (h : EV X T e δ r δ1) (hg : GV X T tg r δ1 δ2) (hs : swapsWithSole [tg] e pos.line X.env = pure false := by rfl) (hw : swappedStores [tg] e X.env = pure none := by rfl)
    (h1 : (assignEach [tg] X.env).map (·.2) = [assign tg X.env] := by rfl) : SV X T W (.Assign [tg] e pos) δ (.nx δ2) := fun σ H S D E k =>
  ws_of (ps_asg pe_w pg_w hs hw h1) (h σ H S _ E fun v H1 S1 g1 e1 p1 r1 => hg σ H1 S1 H (Owned σ δ) v _ e1 r1 g1.keep g1.ow fun σ2 H2 S2 m2 kp2 up2 ow2 e2 p2 =>
    k σ2 H2 S2 ⟨g1.mono.trans m2, kp2, fun a hS hP hF => up2 a (g1.up a hS hP hF) hP hF, ow2⟩ e2 (p1.trans p2))
/-- name = e -/
theorem sv_set {W : WX} {i : Nat} {x : Str} {e : Expr} {pos pos' : Pos} {δ δ1 : List Sl} {r s : Sl} (hN : X.N.Nodup) (hi : X.N[i]? = some x) (hx : Loc X.env.scope x) (h : EV X T e δ r δ1) (hd : δ1[i]? = some s := by rfl) (hf' : s.free := by trivial)
    (hs : swapsWith e (some (.Name x pos')) pos.line X.env = pure false := by rfl) (hf : X.fn x = true ∨ X.env.scope.names.lookup x = some .local := by first | exact .inl rfl | exact .inr rfl | assumption) : SV X T W (.Assign [.Name x pos'] e pos) δ (.nx (δ1.set i r)) := fun σ H S D E k =>
  ws_of (ps_set hN hi hx pe_w hs hf) (h σ H S _ E fun v H1 S1 g1 e1 p1 r1 => k _ H1 S1 ⟨g1.mono, g1.keep, g1.up, fun a ha => by
    rcases own_set ha with ha | ⟨w, ha, e⟩
    · exact g1.ow a ha
    · exact res_ow r1 ha e⟩ (e1.set r1) (p1.trans (pin_set fun t e => by rw [hd] at e; cases e; exact hf')))
end
end Sc
namespace Sc
open PySem L2 NdefX
section
variable {X : Cx} {T : List NTab} {K : PySem.W.Frag} {H H' : Hp} {S S' : Addr → Prop} {σ : St} {δ δ1 δ2 δ3 : List Sl}
/-! #### new objects -/
theorem Env.old (E : Env K T H S σ δ) {p : Addr} (h : Owned σ δ p) : ¬ Fresh H p := by
  obtain ⟨i, s, w, h1, h2, h3⟩ := h
  obtain ⟨q, e, ho⟩ := E.own i s w h1 h2
  rw [h3] at e
  cases e
  exact ho.old
theorem core_ne {o : HO} (h : core o = some o) : ∀ ps, o ≠ .tbl ps := fun ps e => by
  rw [e] at h
  cases h
/-- the environment, with other things hidden and the owned things as they were -/
theorem Env.move (E : Env K T H S σ δ) (m : Same (vw H S) (vw H' S')) (k : ∀ p, Owned σ δ p → H' p = H p) (hs : ∀ p, Owned σ δ p → S' p) (ht : TabsN T H') : Env K T H' S' σ δ where
  len := E.len
  sub := hs
  dat := fun i x h => by
    obtain ⟨v, e, d⟩ := E.dat i x h
    exact ⟨v, e, dp_mono m d⟩
  val := E.val
  own := fun i s w h hw => by
    obtain ⟨p, e, o⟩ := E.own i s w h hw
    exact ⟨p, e, by rw [k p ⟨i, s, w, h, hw, e⟩]; exact o.mono m⟩
  apart := E.apart
  tabs := ht
theorem same_new {a : Addr} {o : HO} (hn : H a = none) : Same H (upd H a o) := fun b u e => by
  rw [upd_ne (ne_of_none e hn)]
  exact e
/-- something new, read from now on -/
theorem new_d (E : Env K T H S σ δ) {p : Addr} {o : HO} (hp : H p = none) (hc : core o = some o) :
    Go H S (Owned σ δ) (upd H p o) (fun a => S a ∧ a ≠ p) (Owned σ δ) ∧ Env K T (upd H p o) (fun a => S a ∧ a ≠ p) σ δ ∧ vw (upd H p o) (fun a => S a ∧ a ≠ p) p = some o ∧ Same (vw H S) (vw (upd H p o) (fun a => S a ∧ a ≠ p)) := by
  have m : Same (vw H S) (vw (upd H p o) (fun a => S a ∧ a ≠ p)) := fun a u e => by
    obtain ⟨hS, w, hw, hcw⟩ := vw_some e
    rw [vw_out (fun z => hS z.1), upd_ne (ne_of_none hw hp), hw]
    exact hcw
  have np : ∀ q, Owned σ δ q → q ≠ p := fun q hq z => E.old hq (z ▸ Fresh.of hp)
  refine ⟨⟨m, fun a u _ e _ => by rw [upd_ne (ne_of_none e hp)]; exact e, fun a hS _ hF => ⟨hS, fun z => hF (z ▸ Fresh.of hp)⟩, fun _ h => .inl h⟩, E.move m (fun q hq => upd_ne (np q hq)) (fun q hq => ⟨E.sub q hq, np q hq⟩) (E.tabs.ext (same_new hp)), ?_, m⟩
  rw [vw_out (fun z => z.2 rfl), upd_same]
  exact hc
/-- something new, owned -/
theorem new_o (E : Env K T H S σ δ) {p : Addr} {o : HO} (hp : H p = none) :
    Go H S (Owned σ δ) (upd H p o) (fun a => S a ∨ a = p) (Owned σ δ) ∧ Env K T (upd H p o) (fun a => S a ∨ a = p) σ δ ∧ ¬ Owned σ δ p ∧ Same (vw H S) (vw (upd H p o) (fun a => S a ∨ a = p)) := by
  have m : Same (vw H S) (vw (upd H p o) (fun a => S a ∨ a = p)) := fun a u e => by
    obtain ⟨hS, w, hw, hcw⟩ := vw_some e
    rw [vw_out (fun z => z.elim hS (ne_of_none hw hp)), upd_ne (ne_of_none hw hp), hw]
    exact hcw
  have np : ∀ q, Owned σ δ q → q ≠ p := fun q hq z => E.old hq (z ▸ Fresh.of hp)
  exact ⟨⟨m, fun a u _ e _ => by rw [upd_ne (ne_of_none e hp)]; exact e, fun a hS _ _ => .inl hS, fun _ h => .inl h⟩, E.move m (fun q hq => upd_ne (np q hq)) (fun q hq => .inl (E.sub q hq)) (E.tabs.ext (same_new hp)), fun z => np p z rfl, m⟩
theorem new_tup (E : Env K T H S σ δ) {p : Addr} {vs : List V} {ds : List PyData} (hp : H p = none) (hd : DpAll K (vw H S) vs ds) :
    Go H S (Owned σ δ) (upd H p (.tup vs)) (fun a => S a ∧ a ≠ p) (Owned σ δ) ∧ Env K T (upd H p (.tup vs)) (fun a => S a ∧ a ≠ p) σ δ ∧ Dp K (vw (upd H p (.tup vs)) (fun a => S a ∧ a ≠ p)) (.ref p) (.tuple ds) := by
  obtain ⟨g, e, h, m⟩ := new_d (o := .tup vs) E hp rfl
  exact ⟨g, e, .tup (.inl (.inl h)) (dpAll_mono m hd)⟩
theorem new_lstd (E : Env K T H S σ δ) {p : Addr} {vs : List V} {ds : List PyData} (hp : H p = none) (hd : DpAll K (vw H S) vs ds) :
    Go H S (Owned σ δ) (upd H p (.lst vs)) (fun a => S a ∧ a ≠ p) (Owned σ δ) ∧ Env K T (upd H p (.lst vs)) (fun a => S a ∧ a ≠ p) σ δ ∧ Dp K (vw (upd H p (.lst vs)) (fun a => S a ∧ a ≠ p)) (.ref p) (.list ds) := by
  obtain ⟨g, e, h, m⟩ := new_d (o := .lst vs) E hp rfl
  exact ⟨g, e, .lst (.inl (.inl h)) (dpAll_mono m hd)⟩
theorem new_lsto (E : Env K T H S σ δ) {p : Addr} {vs : List V} {ds : List PyData} (hp : H p = none) (hd : DpAll K (vw H S) vs ds) :
    Go H S (Owned σ δ) (upd H p (.lst vs)) (fun a => S a ∨ a = p) (Owned σ δ) ∧ Env K T (upd H p (.lst vs)) (fun a => S a ∨ a = p) σ δ ∧ Res K H (Owned σ δ) (upd H p (.lst vs)) (fun a => S a ∨ a = p) (Owned σ δ) (.o (.lst ds)) (.ref p) := by
  obtain ⟨g, e, h, m⟩ := new_o (o := .lst vs) E hp
  exact ⟨g, e, p, rfl, .inr rfl, h, ⟨vs, upd_same, dpAll_mono m hd⟩, .inr (Fresh.of hp)⟩
/-! #### names, constants -/
theorem ev_var (i : Nat) {x : Str} {pos : Pos} {d : PyData} (hd : δ[i]? = some (.d d)) (hN : X.N[i]? = some x := by rfl) (hv : Vis X.env.scope x := by first | exact Or.inl rfl | exact Or.inr (Or.inl rfl) | exact Or.inr (Or.inr rfl)) (hdb : (x == ("__debug__" : Str)) = false := by decide)
    (hcd : (x == ("__classdict__" : Str)) = false := by decide) : EV X T (.Name x pos) δ (.d d) δ := fun σ H S Q E k => by
  obtain ⟨v, e, dp⟩ := E.dat i d hd
  exact we_of (pe_var hN hv hdb hcd) ⟨v, e, k v H S (Go.refl _ _ _) E (Pin.refl _ _) dp⟩
theorem ev_varV (i : Nat) {x : Str} {pos : Pos} {v : V} (hd : δ[i]? = some (.v v)) (hN : X.N[i]? = some x := by rfl) (hv : Vis X.env.scope x := by first | exact Or.inl rfl | exact Or.inr (Or.inl rfl) | exact Or.inr (Or.inr rfl)) (hdb : (x == ("__debug__" : Str)) = false := by decide)
    (hcd : (x == ("__classdict__" : Str)) = false := by decide) : EV X T (.Name x pos) δ (.v v) δ := fun σ H S Q E k =>
  we_of (pe_var hN hv hdb hcd) ⟨v, E.val i v hd, k v H S (Go.refl _ _ _) E (Pin.refl _ _) rfl⟩
theorem own_drop {σ : St} {δ : List Sl} {i : Nat} {s : Sl} {p : Addr} (hs : s.ow = none) (h : Owned σ (δ.set i s) p) : Owned σ δ p := by
  obtain ⟨j, t, w, h1, h2, h3⟩ := h
  by_cases e : i = j
  · subst e
    by_cases hl : i < δ.length
    · rw [List.getElem?_set_self hl] at h1
      cases h1
      rw [hs] at h2
      cases h2
    · rw [List.getElem?_eq_none (by simpa using hl)] at h1
      cases h1
  · rw [List.getElem?_set_ne e] at h1
    exact ⟨j, t, w, h1, h2, h3⟩
/-- a slot is forgotten -/
theorem Env.drop (E : Env K T H S σ δ) (i : Nat) : Env K T H S σ (δ.set i .no) where
  len := by rw [List.length_set]; exact E.len
  sub := fun p h => E.sub p (own_drop rfl h)
  dat := fun j x h => by
    by_cases e : i = j
    · subst e
      by_cases hl : i < δ.length
      · rw [List.getElem?_set_self hl] at h; cases h
      · rw [List.getElem?_eq_none (by simpa using hl)] at h; cases h
    · rw [List.getElem?_set_ne e] at h
      exact E.dat j x h
  val := fun j x h => by
    by_cases e : i = j
    · subst e
      by_cases hl : i < δ.length
      · rw [List.getElem?_set_self hl] at h; cases h
      · rw [List.getElem?_eq_none (by simpa using hl)] at h; cases h
    · rw [List.getElem?_set_ne e] at h
      exact E.val j x h
  own := fun j s w h hw => by
    by_cases e : i = j
    · subst e
      by_cases hl : i < δ.length
      · rw [List.getElem?_set_self hl] at h; cases h; cases hw
      · rw [List.getElem?_eq_none (by simpa using hl)] at h; cases h
    · rw [List.getElem?_set_ne e] at h
      exact E.own j s w h hw
  apart := fun j k s t w u p hjk hs hw ht hu => by
    by_cases e : i = j
    · subst e
      by_cases hl : i < δ.length
      · rw [List.getElem?_set_self hl] at hs; cases hs; cases hw
      · rw [List.getElem?_eq_none (by simpa using hl)] at hs; cases hs
    · by_cases e2 : i = k
      · subst e2
        by_cases hl : i < δ.length
        · rw [List.getElem?_set_self hl] at ht; cases ht; cases hu
        · rw [List.getElem?_eq_none (by simpa using hl)] at ht; cases ht
      · rw [List.getElem?_set_ne e] at hs
        rw [List.getElem?_set_ne e2] at ht
        exact E.apart j k s t w u p hjk hs hw ht hu
  tabs := E.tabs
theorem pin_drop {σ : St} {δ : List Sl} {i : Nat} {s t : Sl} (h : δ[i]? = some s) (hs : s.free) : Pin σ δ σ (δ.set i t) := fun j w e => by
  by_cases hij : i = j
  · subst hij
    rw [h] at e
    cases e
    exact hs.elim
  · rw [List.getElem?_set_ne hij]
    exact ⟨rfl, w, e⟩
/-- an owned thing is handed on: its name is forgotten -/
theorem ev_move (i : Nat) {x : Str} {pos : Pos} {w : Ow} (hd : δ[i]? = some (.o w)) (hN : X.N[i]? = some x := by rfl) (hv : Vis X.env.scope x := by first | exact Or.inl rfl | exact Or.inr (Or.inl rfl) | exact Or.inr (Or.inr rfl)) (hdb : (x == ("__debug__" : Str)) = false := by decide)
    (hcd : (x == ("__classdict__" : Str)) = false := by decide) : EV X T (.Name x pos) δ (.o w) (δ.set i .no) := fun σ H S Q E k => by
  obtain ⟨p, e, ho⟩ := E.own i _ w hd rfl
  have hP : Owned σ δ p := ⟨i, _, w, hd, rfl, e⟩
  refine we_of (pe_var hN hv hdb hcd) ⟨.ref p, e, k _ H S ⟨Same.refl _, fun _ _ _ e _ => e, fun _ h _ _ => h, fun _ h => .inl (own_drop rfl h)⟩ (E.drop i) (pin_drop hd trivial) ⟨p, rfl, E.sub p hP, fun z => ?_, ho, .inl hP⟩⟩
  obtain ⟨j, t, u, h1, h2, h3⟩ := z
  by_cases eij : i = j
  · subst eij
    by_cases hl : i < δ.length
    · rw [List.getElem?_set_self hl] at h1; cases h1; cases h2
    · rw [List.getElem?_eq_none (by simpa using hl)] at h1; cases h1
  · rw [List.getElem?_set_ne eij] at h1
    exact E.apart i j _ _ _ _ p eij hd rfl h1 h2 e h3
theorem ev_int {i : Int} {j pos} : EV X T (.Constant (.int i) j pos) δ (.d (.int i)) δ := fun σ H S Q E k => we_of pe_int (k _ H S (Go.refl _ _ _) E (Pin.refl _ _) (.int i))
theorem ev_str {x : Str} {j pos} : EV X T (.Constant (.str x) j pos) δ (.d (.str x)) δ := fun σ H S Q E k => we_of pe_str (k _ H S (Go.refl _ _ _) E (Pin.refl _ _) (.str x))
theorem ev_bl {b : Bool} {j pos} : EV X T (.Constant (.bool b) j pos) δ (.d (.bool b)) δ := fun σ H S Q E k => we_of pe_bl (k _ H S (Go.refl _ _ _) E (Pin.refl _ _) (.bl b))
theorem ev_non {j pos} : EV X T (.Constant .none j pos) δ (.d .none) δ := fun σ H S Q E k => we_of pe_non (k _ H S (Go.refl _ _ _) E (Pin.refl _ _) .non)
/-- a module's own constant -/
theorem ev_glI {x : Str} {i : Int} {t : Tok} {pos : Pos} (hm : X.mg x = some (.int i t)) (hg : Gl X x := by rfl) (hd : (x == ("__debug__" : Str)) = false := by decide) : EV X T (.Name x pos) δ (.d (.int i)) δ := fun σ H S Q E k =>
  we_of (pe_glob (v := .int i) hg hm ⟨t, rfl⟩ hd) (k _ H S (Go.refl _ _ _) E (Pin.refl _ _) (.int i))
theorem ev_glS {x y : Str} {t : Tok} {pos : Pos} (hm : X.mg x = some (.str y t)) (hg : Gl X x := by rfl) (hd : (x == ("__debug__" : Str)) = false := by decide) : EV X T (.Name x pos) δ (.d (.str y)) δ := fun σ H S Q E k =>
  we_of (pe_glob (v := .str y) hg hm ⟨t, rfl⟩ hd) (k _ H S (Go.refl _ _ _) E (Pin.refl _ _) (.str y))
/-- a def's object, a class's, as a value -/
theorem ev_glR {x : Str} {a : Addr} {pos : Pos} (hm : X.mg x = some (.ref a)) (hg : Gl X x := by rfl) (hd : (x == ("__debug__" : Str)) = false := by decide) : EV X T (.Name x pos) δ (.v (.ref a)) δ := fun σ H S Q E k =>
  we_of (pe_glob (v := .ref a) hg hm rfl hd) (k _ H S (Go.refl _ _ _) E (Pin.refl _ _) rfl)
/-- a built-in class as a value -/
theorem ev_ty {x : Str} {n : String} {pos : Pos} (hm : X.mg x = none) (hv : bootBuiltins x = some (.type n)) (hg : Gl X x := by rfl) (hn : x ≠ "__name__" := by decide) (hd : (x == ("__debug__" : Str)) = false := by decide) : EV X T (.Name x pos) δ (.v (.ty n)) δ := fun σ H S Q E k =>
  we_of (pe_bltn hg hm hv (v := .ty n) rfl hn hd) (k _ H S (Go.refl _ _ _) E (Pin.refl _ _) rfl)
/-! #### what is known of values -/
theorem res_int {H0 : Hp} {P0 P' : Addr → Prop} {i : Int} {v : V} (h : Res K H0 P0 H S P' (.d (.int i)) v) : v = .int i := by cases (show Dp K _ v (.int i) from h); rfl
theorem res_str {H0 : Hp} {P0 P' : Addr → Prop} {x : Str} {v : V} (h : Res K H0 P0 H S P' (.d (.str x)) v) : v = .str x := by cases (show Dp K _ v (.str x) from h); rfl
theorem res_bool {H0 : Hp} {P0 P' : Addr → Prop} {b : Bool} {v : V} (h : Res K H0 P0 H S P' (.d (.bool b)) v) : v = .bl b := by cases (show Dp K _ v (.bool b) from h); rfl
theorem res_none {H0 : Hp} {P0 P' : Addr → Prop} {v : V} (h : Res K H0 P0 H S P' (.d .none) v) : v = .non := by cases (show Dp K _ v .none from h); rfl
theorem res_list {H0 : Hp} {P0 P' : Addr → Prop} {ds : List PyData} {v : V} (h : Res K H0 P0 H S P' (.d (.list ds)) v) : ∃ a xs, v = .ref a ∧ SqL K (vw H S) a xs ∧ DpAll K (vw H S) xs ds := by
  cases (show Dp K _ v (.list ds) from h) with
  | lst s r => exact ⟨_, _, rfl, s, r⟩
theorem res_tup {H0 : Hp} {P0 P' : Addr → Prop} {ds : List PyData} {v : V} (h : Res K H0 P0 H S P' (.d (.tuple ds)) v) : ∃ a xs, v = .ref a ∧ SqT K (vw H S) a xs ∧ DpAll K (vw H S) xs ds := by
  cases (show Dp K _ v (.tuple ds) from h) with
  | tup s r => exact ⟨_, _, rfl, s, r⟩
theorem all_ints : ∀ {vs : List V} {ns : List Int}, DpAll K H vs (ns.map .int) → vs = ns.map .int
  | _, [], h => by cases h; rfl
  | _, n :: ns, h => by
    cases h with
    | cons a b => cases a; rw [all_ints b]; rfl
theorem all_strs : ∀ {vs : List V} {ns : List Str}, DpAll K H vs (ns.map .str) → vs = ns.map .str
  | _, [], h => by cases h; rfl
  | _, n :: ns, h => by
    cases h with
    | cons a b => cases a; rw [all_strs b]; rfl
theorem all_bools : ∀ {vs : List V} {ns : List Bool}, DpAll K H vs (ns.map .bool) → vs = ns.map .bl
  | _, [], h => by cases h; rfl
  | _, n :: ns, h => by
    cases h with
    | cons a b => cases a; rw [all_bools b]; rfl
theorem ints_all : ∀ (ns : List Int), DpAll K H (ns.map .int) (ns.map .int)
  | [] => .nil
  | n :: ns => .cons (.int n) (ints_all ns)
theorem strs_all : ∀ (ns : List Str), DpAll K H (ns.map .str) (ns.map .str)
  | [] => .nil
  | n :: ns => .cons (.str n) (strs_all ns)
/-! #### operators -/
theorem ev_opI {op : Operator} {C : Int → Int → Prop} {g : Int → Int → Int} (ho : OpR X (binaryOp op) (rI C fun i j => .int (g i j))) {a b : Expr} {pos : Pos} {i j : Int} (ha : EV X T a δ (.d (.int i)) δ1) (hb : EV X T b δ1 (.d (.int j)) δ2) (hc : C i j) :
    EV X T (.BinOp a op b pos) δ (.d (.int (g i j))) δ2 := fun σ H S Q E k => we_of (pe_op ho pe_w pe_w) (two ha hb E fun v1 v2 H' S' g e p r1 r2 => ⟨i, j, res_int r1, res_int r2, hc, k _ H' S' g e p (.int _)⟩)
theorem ev_add {a b : Expr} {pos : Pos} {i j : Int} (ha : EV X T a δ (.d (.int i)) δ1) (hb : EV X T b δ1 (.d (.int j)) δ2) : EV X T (.BinOp a .Add b pos) δ (.d (.int (i + j))) δ2 := fun σ H S Q E k =>
  we_of (pe_op op_add pe_w pe_w) (two ha hb E fun v1 v2 H' S' g e p r1 r2 => ⟨i, j, res_int r1, res_int r2, k _ H' S' g e p (.int _)⟩)
theorem ev_sub {a b : Expr} {pos : Pos} {i j : Int} (ha : EV X T a δ (.d (.int i)) δ1) (hb : EV X T b δ1 (.d (.int j)) δ2) : EV X T (.BinOp a .Sub b pos) δ (.d (.int (i - j))) δ2 := fun σ H S Q E k =>
  we_of (pe_op op_sub pe_w pe_w) (two ha hb E fun v1 v2 H' S' g e p r1 r2 => ⟨i, j, res_int r1, res_int r2, k _ H' S' g e p (.int _)⟩)
theorem ev_mul {a b : Expr} {pos : Pos} {i j : Int} (ha : EV X T a δ (.d (.int i)) δ1) (hb : EV X T b δ1 (.d (.int j)) δ2) (hc : CMul i j) : EV X T (.BinOp a .Mult b pos) δ (.d (.int (i * j))) δ2 := ev_opI op_mul ha hb hc
theorem ev_mod {a b : Expr} {pos : Pos} {i j : Int} (ha : EV X T a δ (.d (.int i)) δ1) (hb : EV X T b δ1 (.d (.int j)) δ2) (hc : 0 < j) : EV X T (.BinOp a .Mod b pos) δ (.d (.int (i % j))) δ2 := ev_opI op_mod ha hb hc
theorem ev_fdiv {a b : Expr} {pos : Pos} {i j : Int} (ha : EV X T a δ (.d (.int i)) δ1) (hb : EV X T b δ1 (.d (.int j)) δ2) (hc : CDiv i j) : EV X T (.BinOp a .FloorDiv b pos) δ (.d (.int (i / j))) δ2 := ev_opI op_fdiv ha hb hc
theorem ev_pow {a b : Expr} {pos : Pos} {i j : Int} (ha : EV X T a δ (.d (.int i)) δ1) (hb : EV X T b δ1 (.d (.int j)) δ2) (hc : CPow i j) : EV X T (.BinOp a .Pow b pos) δ (.d (.int (i ^ j.toNat))) δ2 := ev_opI op_pow ha hb hc
theorem ev_shl {a b : Expr} {pos : Pos} {i j : Int} (ha : EV X T a δ (.d (.int i)) δ1) (hb : EV X T b δ1 (.d (.int j)) δ2) (hc : CPow i j) : EV X T (.BinOp a .LShift b pos) δ (.d (.int (i * 2 ^ j.toNat))) δ2 := ev_opI op_shl ha hb hc
theorem ev_neg {a : Expr} {pos : Pos} {i : Int} (ha : EV X T a δ (.d (.int i)) δ1) : EV X T (.UnaryOp .USub a pos) δ (.d (.int (-i))) δ1 := fun σ H S Q E k =>
  we_of (pe_un un_neg pe_w) (ha σ H S _ E fun v H' S' g e p r => ⟨i, res_int r, k _ H' S' g e p (.int _)⟩)
theorem ev_addS {a b : Expr} {pos : Pos} {x y : Str} (ha : EV X T a δ (.d (.str x)) δ1) (hb : EV X T b δ1 (.d (.str y)) δ2) (hz : x.length + y.length ≤ sizeLine) : EV X T (.BinOp a .Add b pos) δ (.d (.str (x ++ y))) δ2 := fun σ H S Q E k =>
  we_of (pe_op op_add_str pe_w pe_w) (two ha hb E fun v1 v2 H' S' g e p r1 r2 => ⟨x, y, res_str r1, res_str r2, hz, k _ H' S' g e p (.str _)⟩)
/-! #### comparisons -/
/-- r answers b for two such results -/
def CmpOk (X : Cx) (T : List NTab) (δ : List Sl) (ra rb : Sl) (r : R2) (b : Bool) : Prop := ∀ (σ : St) (H : Hp) (S : Addr → Prop) (H0 : Hp) (P0 : Addr → Prop) (Q : VK) (v1 v2 : V), Env X.K T H S σ δ → Res X.K H0 P0 H S (Owned σ δ) ra v1 → Res X.K H0 P0 H S (Owned σ δ) rb v2 → Q (.bl b) H → r v1 v2 H Q
theorem ev_cmp {op : CmpOp} {r : R2} {ra rb : Sl} {t : Bool} {a b : Expr} {pos : Pos} (ho : OpR X (compareOp op) r) (hr : CmpOk X T δ2 ra rb r t) (ha : EV X T a δ ra δ1) (hb : EV X T b δ1 rb δ2) (hm : behindInMarks op b = false) : EV X T (.Compare a [op] [b] pos) δ (.d (.bool t)) δ2 := fun σ H S Q E k =>
  we_of (pe_cmpR ho pe_w pe_w hm) (two ha hb E fun v1 v2 H' S' g e p r1 r2 => hr σ H' S' H _ _ v1 v2 e r1 r2 (k _ H' S' g e p (.bl t)))
theorem tv_cmp {op : CmpOp} {r : R2} {ra rb : Sl} {t : Bool} {a b : Expr} {pos : Pos} (ho : OpR X (compareOp op) r) (hr : CmpOk X T δ2 ra rb r t) (ha : EV X T a δ ra δ1) (hb : EV X T b δ1 rb δ2) (hm : behindInMarks op b = false) : TV X T (.Compare a [op] [b] pos) δ t δ2 := fun σ H S Q E k =>
  wt_of (pt_cmpR ho pe_w pe_w hm) (two ha hb E fun v1 v2 H' S' g e p r1 r2 => hr σ H' S' H _ _ v1 v2 e r1 r2 ⟨t, rfl, k H' S' g e p⟩)
theorem c_ltI {i j : Int} : CmpOk X T δ (.d (.int i)) (.d (.int j)) (rI0 fun i j => .bl (decide (i < j))) (decide (i < j)) := fun σ H S H0 P0 Q v1 v2 E r1 r2 q => ⟨i, j, res_int r1, res_int r2, q⟩
theorem c_leI {i j : Int} : CmpOk X T δ (.d (.int i)) (.d (.int j)) (rI0 fun i j => .bl (decide (i ≤ j))) (decide (i ≤ j)) := fun σ H S H0 P0 Q v1 v2 E r1 r2 q => ⟨i, j, res_int r1, res_int r2, q⟩
theorem c_gtI {i j : Int} : CmpOk X T δ (.d (.int i)) (.d (.int j)) (rI0 fun i j => .bl (decide (j < i))) (decide (j < i)) := fun σ H S H0 P0 Q v1 v2 E r1 r2 q => ⟨i, j, res_int r1, res_int r2, q⟩
theorem c_geI {i j : Int} : CmpOk X T δ (.d (.int i)) (.d (.int j)) (rI0 fun i j => .bl (decide (j ≤ i))) (decide (j ≤ i)) := fun σ H S H0 P0 Q v1 v2 E r1 r2 q => ⟨i, j, res_int r1, res_int r2, q⟩
theorem c_eqI {i j : Int} : CmpOk X T δ (.d (.int i)) (.d (.int j)) rEq (decide (i = j)) := fun σ H S H0 P0 Q v1 v2 E r1 r2 q => by
  rw [res_int r1, res_int r2]
  exact ⟨rfl, by rw [show decide (V.int i = V.int j) = decide (i = j) from by simp]; exact q⟩
theorem c_neI {i j : Int} : CmpOk X T δ (.d (.int i)) (.d (.int j)) rNe (!decide (i = j)) := fun σ H S H0 P0 Q v1 v2 E r1 r2 q => by
  rw [res_int r1, res_int r2]
  exact ⟨rfl, by rw [show decide (V.int i = V.int j) = decide (i = j) from by simp]; exact q⟩
theorem c_eqS {x y : Str} : CmpOk X T δ (.d (.str x)) (.d (.str y)) rEq (decide (x = y)) := fun σ H S H0 P0 Q v1 v2 E r1 r2 q => by
  rw [res_str r1, res_str r2]
  exact ⟨rfl, by rw [show decide (V.str x = V.str y) = decide (x = y) from by simp]; exact q⟩
theorem c_neS {x y : Str} : CmpOk X T δ (.d (.str x)) (.d (.str y)) rNe (!decide (x = y)) := fun σ H S H0 P0 Q v1 v2 E r1 r2 q => by
  rw [res_str r1, res_str r2]
  exact ⟨rfl, by rw [show decide (V.str x = V.str y) = decide (x = y) from by simp]; exact q⟩
theorem c_eqB {x y : Bool} : CmpOk X T δ (.d (.bool x)) (.d (.bool y)) rEq (decide (x = y)) := fun σ H S H0 P0 Q v1 v2 E r1 r2 q => by
  rw [res_bool r1, res_bool r2]
  exact ⟨rfl, by rw [show decide (V.bl x = V.bl y) = decide (x = y) from by simp]; exact q⟩
theorem c_neB {x y : Bool} : CmpOk X T δ (.d (.bool x)) (.d (.bool y)) rNe (!decide (x = y)) := fun σ H S H0 P0 Q v1 v2 E r1 r2 q => by
  rw [res_bool r1, res_bool r2]
  exact ⟨rfl, by rw [show decide (V.bl x = V.bl y) = decide (x = y) from by simp]; exact q⟩
theorem c_eqD {d e : PyData} (hd : SeqAt.shaped d = true) (he : SeqAt.shaped e = true) : CmpOk X T δ (.d d) (.d e) (rEqD X.K) (PyData.eqv d e) := fun σ H S H0 P0 Q v1 v2 E r1 r2 q => ⟨d, e, dp_real r1, dp_real r2, hd, he, q⟩
theorem c_neD {d e : PyData} (hd : SeqAt.shaped d = true) (he : SeqAt.shaped e = true) : CmpOk X T δ (.d d) (.d e) (rNeD X.K) (!PyData.eqv d e) := fun σ H S H0 P0 Q v1 v2 E r1 r2 q => ⟨d, e, dp_real r1, dp_real r2, hd, he, q⟩
theorem c_ltS {x y : Str} : CmpOk X T δ (.d (.str x)) (.d (.str y)) (fun x y H Q => ∃ i j, x = .str i ∧ y = .str j ∧ Q (.bl (decide (i.cps.toList < j.cps.toList))) H) (decide (x.cps.toList < y.cps.toList)) := fun σ H S H0 P0 Q v1 v2 E r1 r2 q => ⟨x, y, res_str r1, res_str r2, q⟩
theorem c_inS {c : Nat} {z : Str} : CmpOk X T δ (.d (.str ⟨#[c]⟩)) (.d (.str z)) (fun x y H Q => ∃ (c : Nat) (z : Str), x = .str ⟨#[c]⟩ ∧ y = .str z ∧ Q (.bl (decide (c ∈ z.cps.toList))) H) (decide (c ∈ z.cps.toList)) := fun σ H S H0 P0 Q v1 v2 E r1 r2 q => ⟨c, z, res_str r1, res_str r2, q⟩
theorem c_ninS {c : Nat} {z : Str} : CmpOk X T δ (.d (.str ⟨#[c]⟩)) (.d (.str z)) (fun x y H Q => ∃ (c : Nat) (z : Str), x = .str ⟨#[c]⟩ ∧ y = .str z ∧ Q (.bl (!decide (c ∈ z.cps.toList))) H) (!decide (c ∈ z.cps.toList)) := fun σ H S H0 P0 Q v1 v2 E r1 r2 q => ⟨c, z, res_str r1, res_str r2, q⟩
theorem c_inD {d : PyData} {ds : List PyData} (hd : SeqAt.shaped d = true) (he : SeqAt.shaped (.list ds) = true) : CmpOk X T δ (.d d) (.d (.list ds)) (rInD X.K) (ds.any fun z => PyData.eqv z d) := fun σ H S H0 P0 Q v1 v2 E r1 r2 q => ⟨d, ds, dp_real r1, dp_real r2, hd, he, q⟩
theorem c_ninD {d : PyData} {ds : List PyData} (hd : SeqAt.shaped d = true) (he : SeqAt.shaped (.list ds) = true) : CmpOk X T δ (.d d) (.d (.list ds)) (rNotInD X.K) (!ds.any fun z => PyData.eqv z d) := fun σ H S H0 P0 Q v1 v2 E r1 r2 q => ⟨d, ds, dp_real r1, dp_real r2, hd, he, q⟩
def isNone : PyData → Bool
  | .none => true
  | _ => false
theorem dp_none {v : V} {d : PyData} (h : Dp K H v d) : decide (v = .non) = isNone d := by
  cases h <;> rfl
theorem c_isN {d : PyData} : CmpOk X T δ (.d d) (.d .none) (fun x y H Q => y = .non ∧ Q (.bl (decide (x = .non))) H) (isNone d) := fun σ H S H0 P0 Q v1 v2 E r1 r2 q => ⟨res_none r2, by rw [dp_none r1]; exact q⟩
theorem c_notN {d : PyData} : CmpOk X T δ (.d d) (.d .none) (fun x y H Q => y = .non ∧ Q (.bl (!decide (x = .non))) H) (!isNone d) := fun σ H S H0 P0 Q v1 v2 E r1 r2 q => ⟨res_none r2, by rw [dp_none r1]; exact q⟩
end
end Sc
namespace Sc
open PySem L2 NdefX
section
variable {X : Cx} {T : List NTab} {K : PySem.W.Frag} {H H' : Hp} {S S' : Addr → Prop} {σ : St} {δ δ1 δ2 δ3 : List Sl}
/-! #### truth of a bool, not, and, or, if-else -/
theorem tv_val {e : Expr} {b : Bool} (h : EV X T e δ (.d (.bool b)) δ1) (he : ∀ whole, isTrue e X.env whole = (do let v ← whole; standAt e.pos; holding [v] (truthy v)) := by intro _; rfl) : TV X T e δ b δ1 := fun σ H S Q E k =>
  wt_of (pt_val pe_w he) (h σ H S _ E fun v H1 S1 g e p r => ⟨b, res_bool r, k H1 S1 g e p⟩)
theorem tv_not {a : Expr} {pos : Pos} {b : Bool} (h : TV X T a δ b δ1) : TV X T (.UnaryOp .Not a pos) δ (!b) δ1 := fun σ H S Q E k => wt_of (pt_not pt_w) (h σ H S _ E fun H1 S1 g e p => k H1 S1 g e p)
theorem tv_tw {e : Expr} {b : Bool} (h : TW X T e δ b δ1) : TV X T e δ b δ1 := fun σ H S Q E k => wt_of (PW.pt pw_w) (h σ H S Q E k)
theorem tw_or1 {a : Expr} {pos : Pos} {b : Bool} (h : TV X T a δ b δ1) : TW X T (.BoolOp .Or [a] pos) δ b δ1 := fun σ H S Q E k => ww_of (pw_or1 pt_w) (h σ H S Q E k)
theorem tw_and1 {a : Expr} {pos : Pos} {b : Bool} (h : TV X T a δ b δ1) : TW X T (.BoolOp .And [a] pos) δ b δ1 := fun σ H S Q E k => ww_of (pw_and1 pt_w) (h σ H S Q E k)
theorem tw_or {a b : Expr} {rest : List Expr} {pos : Pos} {x y : Bool} (h : TV X T a δ x δ) (h2 : x = false → TW X T (.BoolOp .Or (b :: rest) pos) δ y δ) : TW X T (.BoolOp .Or (a :: b :: rest) pos) δ (x || y) δ := fun σ H S Q E k =>
  ww_of (pw_or pt_w pw_w) (h σ H S _ E fun H1 S1 g1 e1 p1 => by
    cases x with
    | true => exact iteT (k H1 S1 g1 e1 p1)
    | false => exact iteF (h2 rfl σ H1 S1 Q e1 fun H2 S2 g2 e2 p2 => k H2 S2 (g1.trans g2) e2 (p1.trans p2)))
theorem tw_and {a b : Expr} {rest : List Expr} {pos : Pos} {x y : Bool} (h : TV X T a δ x δ) (h2 : x = true → TW X T (.BoolOp .And (b :: rest) pos) δ y δ) : TW X T (.BoolOp .And (a :: b :: rest) pos) δ (x && y) δ := fun σ H S Q E k =>
  ww_of (pw_and pt_w pw_w) (h σ H S _ E fun H1 S1 g1 e1 p1 => by
    cases x with
    | false => exact iteF (k H1 S1 g1 e1 p1)
    | true => exact iteT (h2 rfl σ H1 S1 Q e1 fun H2 S2 g2 e2 p2 => k H2 S2 (g1.trans g2) e2 (p1.trans p2)))
theorem ev_one {op} {a : Expr} {pos : Pos} {r : Sl} (h : EV X T a δ r δ1) : EV X T (.BoolOp op [a] pos) δ r δ1 := fun σ H S Q E k => we_of (pe_one pe_w) (h σ H S Q E k)
theorem ev_and {a b : Expr} {rest : List Expr} {pos : Pos} {x y : Bool} (h : EV X T a δ (.d (.bool x)) δ) (h2 : x = true → EV X T (.BoolOp .And (b :: rest) pos) δ (.d (.bool y)) δ) : EV X T (.BoolOp .And (a :: b :: rest) pos) δ (.d (.bool (x && y))) δ := fun σ H S Q E k =>
  we_of (pe_and pe_w pe_w) (h σ H S _ E fun v H1 S1 g1 e1 p1 r1 => ⟨x, res_bool r1, by
    cases x with
    | false => exact iteF (k _ H1 S1 g1 e1 p1 (.bl _))
    | true => exact iteT (h2 rfl σ H1 S1 Q e1 fun v H2 S2 g2 e2 p2 r2 => k v H2 S2 (g1.trans g2) e2 (p1.trans p2) r2)⟩)
theorem ev_or {a b : Expr} {rest : List Expr} {pos : Pos} {x y : Bool} (h : EV X T a δ (.d (.bool x)) δ) (h2 : x = false → EV X T (.BoolOp .Or (b :: rest) pos) δ (.d (.bool y)) δ) : EV X T (.BoolOp .Or (a :: b :: rest) pos) δ (.d (.bool (x || y))) δ := fun σ H S Q E k =>
  we_of (pe_or pe_w pe_w) (h σ H S _ E fun v H1 S1 g1 e1 p1 r1 => ⟨x, res_bool r1, by
    cases x with
    | true => exact iteT (k _ H1 S1 g1 e1 p1 (.bl _))
    | false => exact iteF (h2 rfl σ H1 S1 Q e1 fun v H2 S2 g2 e2 p2 r2 => k v H2 S2 (g1.trans g2) e2 (p1.trans p2) r2)⟩)
theorem ev_not {a : Expr} {pos : Pos} {x : Bool} (h : EV X T a δ (.d (.bool x)) δ1) : EV X T (.UnaryOp .Not a pos) δ (.d (.bool (!x))) δ1 := fun σ H S Q E k =>
  we_of (pe_not pe_w) (h σ H S _ E fun v H1 S1 g1 e1 p1 r1 => ⟨x, res_bool r1, k _ H1 S1 g1 e1 p1 (.bl _)⟩)
theorem ev_if {c a b : Expr} {pos : Pos} {t : Bool} {r : Sl} (hc : TV X T c δ t δ1) (ha : t = true → EV X T a δ1 r δ2) (hb : t = false → EV X T b δ1 r δ2) : EV X T (.IfExp c a b pos) δ r δ2 := fun σ H S Q E k =>
  we_of (pe_ifExp pt_w pe_w pe_w) (hc σ H S _ E fun H1 S1 g1 e1 p1 => by
    have k' : ∀ v H' S', Go H1 S1 (Owned σ δ1) H' S' (Owned σ δ2) → Env X.K T H' S' σ δ2 → Pin σ δ1 σ δ2 → Res X.K H1 (Owned σ δ1) H' S' (Owned σ δ2) r v → Q v H' := fun v H2 S2 g2 e2 p2 r2 => k v H2 S2 (g1.trans g2) e2 (p1.trans p2) (r2.back g1.keep g1.ow)
    cases t with
    | true => exact iteT (ha rfl σ H1 S1 Q e1 k')
    | false => exact iteF (hb rfl σ H1 S1 Q e1 k'))
/-! #### displays -/
theorem all_dp {rs : List PyData} {vs : List V} {H0 : Hp} {P0 P' : Addr → Prop} (h : ResAll K H0 P0 H S P' (rs.map .d) vs) : DpAll K (vw H S) vs rs := by
  induction rs generalizing vs with
  | nil => cases h; exact .nil
  | cons r rs ih =>
    cases h with
    | cons a b => exact .cons a (ih b)
theorem ev_tup {es : List Expr} {x1 : Nat} {pos : Pos} {rs : List PyData} {rs' : List Sl} (h : AV X T es δ rs' δ1) (hr : rs' = rs.map .d := by rfl) (hz : rs.length ≤ 1000 := by exact Nat.le_of_ble_eq_true rfl) : EV X T (.Tuple es x1 pos) δ (.d (.tuple rs)) δ1 := fun σ H S Q E k =>
  we_of (pe_tup pa_w) (h σ H S _ E fun vs H1 S1 g1 e1 p1 r1 => by
    subst hr
    have hd := all_dp r1
    refine ⟨Nat.le_trans (by rw [dpAll_len hd]; exact hz) (by decide), fun p hp => ?_⟩
    obtain ⟨g, e, x⟩ := new_tup e1 hp hd
    exact k _ _ _ (g1.trans g) e p1 x)
theorem ev_lst {es : List Expr} {pos : Pos} {rs : List PyData} {rs' : List Sl} (h : AV X T es δ rs' δ1) (hr : rs' = rs.map .d := by rfl) (hz : rs.length ≤ 1000 := by exact Nat.le_of_ble_eq_true rfl) : EV X T (.List es pos) δ (.o (.lst rs)) δ1 := fun σ H S Q E k =>
  we_of (pe_lst pa_w) (h σ H S _ E fun vs H1 S1 g1 e1 p1 r1 => by
    subst hr
    have hd := all_dp r1
    refine ⟨Nat.le_trans (by rw [dpAll_len hd]; exact hz) (by decide), fun p hp => ?_⟩
    obtain ⟨g, e, x⟩ := new_lsto e1 hp hd
    exact k _ _ _ (g1.trans g) e p1 (x.back g1.keep g1.ow))
theorem ev_lstd {es : List Expr} {pos : Pos} {rs : List PyData} {rs' : List Sl} (h : AV X T es δ rs' δ1) (hr : rs' = rs.map .d := by rfl) (hz : rs.length ≤ 1000 := by exact Nat.le_of_ble_eq_true rfl) : EV X T (.List es pos) δ (.d (.list rs)) δ1 := fun σ H S Q E k =>
  we_of (pe_lst pa_w) (h σ H S _ E fun vs H1 S1 g1 e1 p1 r1 => by
    subst hr
    have hd := all_dp r1
    refine ⟨Nat.le_trans (by rw [dpAll_len hd]; exact hz) (by decide), fun p hp => ?_⟩
    obtain ⟨g, e, x⟩ := new_lstd e1 hp hd
    exact k _ _ _ (g1.trans g) e p1 x)
/-- a new list, never to be changed -/
theorem frz_res {H0 : Hp} {P0 P : Addr → Prop} {xs : List PyData} {v : V} (E : Env K T H S σ δ) (x : Res K H0 P0 H S (Owned σ δ) (.o (.lst xs)) v) :
    ∃ S', (∀ a, S' a → S a) ∧ (∀ a, S a → ¬ P0 a → ¬ Fresh H0 a → S' a) ∧ Same (vw H S) (vw H S') ∧ Env K T H S' σ δ ∧ Dp K (vw H S') v (.list xs) := by
  obtain ⟨p, e, hS, hP, ⟨vs, ho, hd⟩, hf⟩ := x
  have m : Same (vw H S) (vw H fun a => S a ∧ a ≠ p) := fun a u e => by
    obtain ⟨h1, w, h2, h3⟩ := vw_some e
    rw [vw_out fun z => h1 z.1, h2]
    exact h3
  refine ⟨fun a => S a ∧ a ≠ p, fun a h => h.1, fun a h1 h2 h3 => ⟨h1, fun z => ?_⟩, m, E.move m (fun _ _ => rfl) (fun q hq => ⟨E.sub q hq, fun z => hP (z ▸ hq)⟩) E.tabs, ?_⟩
  · subst z
    exact hf.elim h2 h3
  · rw [e]
    exact .lst (.inl (.inl (by rw [vw_out fun z => z.2 rfl, ho]; rfl))) (dpAll_mono m hd)
theorem ev_frz {e : Expr} {xs : List PyData} (h : EV X T e δ (.o (.lst xs)) δ1) : EV X T e δ (.d (.list xs)) δ1 := fun σ H S Q E k => h σ H S Q E fun v H1 S1 g1 e1 p1 r1 => by
  obtain ⟨S2, a, b, m, e2, d⟩ := frz_res (P := Owned σ δ) e1 r1
  exact k v H1 S2 ⟨g1.mono.trans m, g1.keep, fun a hs hp hf => b a (g1.up a hs hp hf) hp hf, g1.ow⟩ e2 p1 d
/-! #### an owned thing looked at: all is frozen for a while, an answer without an address comes -/
def Sl.frz : Sl → Sl
  | .o (.lst xs) => .d (.list xs)
  | .b (.lst xs) => .d (.list xs)
  | .o _ => .no
  | .b _ => .no
  | s => s
def plainD : PyData → Bool
  | .none | .bool _ | .int _ | .str _ => true
  | _ => false
theorem frz_ow {s : Sl} : s.frz.ow = none := by
  cases s with
  | o w => cases w <;> rfl
  | b w => cases w <;> rfl
  | _ => rfl
theorem frz_own {σ : St} {δ : List Sl} {p : Addr} : ¬ Owned σ (δ.map Sl.frz) p := fun h => by
  obtain ⟨i, s, w, h1, h2, h3⟩ := h
  rw [List.getElem?_map] at h1
  cases e : δ[i]? with
  | none => rw [e] at h1; cases h1
  | some t =>
    rw [e] at h1
    cases h1
    rw [frz_ow] at h2
    cases h2
theorem Env.frz (E : Env K T H S σ δ) : Env K T H (fun a => S a ∧ ¬ Owned σ δ a) σ (δ.map Sl.frz) := by
  have m : Same (vw H S) (vw H fun a => S a ∧ ¬ Owned σ δ a) := fun a u e => by
    obtain ⟨h1, w, h2, h3⟩ := vw_some e
    rw [vw_out fun z => h1 z.1, h2]
    exact h3
  have lst : ∀ (i : Nat) (s : Sl) (xs : List PyData), δ[i]? = some s → s.ow = some (.lst xs) → ∃ v, σ[i]? = some (some v) ∧ Dp K (vw H fun a => S a ∧ ¬ Owned σ δ a) v (.list xs) := fun i s xs h1 h2 => by
    obtain ⟨p, e, vs, ho, hd⟩ := E.own i s _ h1 h2
    refine ⟨.ref p, e, .lst (.inl (.inl ?_)) (dpAll_mono m hd)⟩
    rw [vw_out fun z => z.2 ⟨i, s, _, h1, h2, e⟩, ho]
    rfl
  refine ⟨by rw [List.length_map]; exact E.len, fun p h => (frz_own h).elim, fun i x h => ?_, fun i v h => ?_, fun i s w h hw => ?_, fun i j s t w u p _ h hw => ?_, E.tabs⟩
  · rw [List.getElem?_map] at h
    cases e : δ[i]? with
    | none => rw [e] at h; cases h
    | some s =>
      rw [e] at h
      have h' : s.frz = .d x := Option.some.inj h
      cases s with
      | o w =>
        cases w with
        | lst xs => cases h'; exact lst i _ xs e rfl
        | _ => cases h'
      | b w =>
        cases w with
        | lst xs => cases h'; exact lst i _ xs e rfl
        | _ => cases h'
      | d y =>
        cases h'
        obtain ⟨v, a, b⟩ := E.dat i x e
        exact ⟨v, a, dp_mono m b⟩
      | _ => cases h'
  · rw [List.getElem?_map] at h
    cases e : δ[i]? with
    | none => rw [e] at h; cases h
    | some s =>
      rw [e] at h
      have h' : s.frz = .v v := Option.some.inj h
      cases s with
      | o w => cases w <;> cases h'
      | b w => cases w <;> cases h'
      | v y => cases h'; exact E.val i v e
      | _ => cases h'
  · rw [List.getElem?_map] at h
    cases e : δ[i]? with
    | none => rw [e] at h; cases h
    | some t => rw [e] at h; cases h; rw [frz_ow] at hw; cases hw
  · rw [List.getElem?_map] at h
    cases e : δ[i]? with
    | none => rw [e] at h; cases h
    | some t => rw [e] at h; cases h; rw [frz_ow] at hw; cases hw
/-- behind such a look -/
theorem Env.unfrz (E : Env K T H S σ δ) (g : Go H (fun a => S a ∧ ¬ Owned σ δ a) (Owned σ (δ.map Sl.frz)) H' S' (Owned σ (δ.map Sl.frz))) (ht : TabsN T H') :
    Go H S (Owned σ δ) H' (fun a => S' a ∨ Owned σ δ a) (Owned σ δ) ∧ Env K T H' (fun a => S' a ∨ Owned σ δ a) σ δ := by
  have kp : ∀ a o, H a = some o → (∀ ps, o ≠ .tbl ps) → H' a = some o := fun a o e n => g.keep a o frz_own e n
  have m : Same (vw H S) (vw H' fun a => S' a ∨ Owned σ δ a) := fun a u e => by
    obtain ⟨h1, w, h2, h3⟩ := vw_some e
    have q : vw H (fun a => S a ∧ ¬ Owned σ δ a) a = some u := by rw [vw_out fun z => h1 z.1, h2]; exact h3
    obtain ⟨h4, _⟩ := vw_some (g.mono a u q)
    rw [vw_out fun z => z.elim h4 fun z => h1 (E.sub a z), kp a w h2 fun ps z => by rw [z] at h3; cases h3]
    exact h3
  have same : ∀ p, Owned σ δ p → H' p = H p := fun p hp => by
    cases e : H p with
    | none => exact (E.old hp (Fresh.of e)).elim
    | some o => exact kp p o e fun ps z => E.old hp fun o' e' => by rw [e] at e'; cases e'; exact ⟨ps, z⟩
  exact ⟨⟨m, fun a o _ e n => kp a o e n, fun a h1 h2 h3 => .inl (g.up a ⟨h1, h2⟩ frz_own h3), fun _ h => .inl h⟩, E.move m same (fun _ h => .inr h) ht⟩
theorem dp_plain {h h' : Hp} {d : PyData} {v : V} (hp : plainD d = true) (x : Dp K h v d) : Dp K h' v d := by
  cases x with
  | non => exact .non
  | bl b => exact .bl b
  | int i => exact .int i
  | str s => exact .str s
  | lst _ _ => cases hp
  | tup _ _ => cases hp
theorem ev_look {e : Expr} {d : PyData} (h : EV X T e (δ.map Sl.frz) (.d d) (δ.map Sl.frz)) (hp : plainD d = true := by rfl) : EV X T e δ (.d d) δ := fun σ H S Q E k =>
  h σ H _ Q E.frz fun v H1 S1 g1 e1 p1 r1 => by
    obtain ⟨g, e⟩ := E.unfrz g1 e1.tabs
    exact k v H1 _ g e (Pin.refl _ _) (dp_plain hp r1)
theorem tv_look {e : Expr} {b : Bool} (h : TV X T e (δ.map Sl.frz) b (δ.map Sl.frz)) : TV X T e δ b δ := fun σ H S Q E k =>
  h σ H _ Q E.frz fun H1 S1 g1 e1 p1 => by
    obtain ⟨g, e⟩ := E.unfrz g1 e1.tabs
    exact k H1 _ g e (Pin.refl _ _)
/-! #### items -/
theorem atI_dp {xs : List V} {ds : List PyData} {i : Int} {d : PyData} (h : DpAll K H xs ds) (e : atI ds i = some d) : ∃ v, atI xs i = some v ∧ Dp K H v d := by
  unfold atI at e ⊢
  rw [dpAll_len h]
  cases q : ixN ds.length i with
  | none => rw [q] at e; cases e
  | some j =>
    rw [q] at e
    obtain ⟨v, h1, h2⟩ := dpAll_get h e
    exact ⟨v, h1, h2⟩
theorem ev_ixT {a b : Expr} {pos : Pos} {ds : List PyData} {i : Int} {d : PyData} (ha : EV X T a δ (.d (.tuple ds)) δ1) (hb : EV X T b δ1 (.d (.int i)) δ2) (hd : atI ds i = some d) (hs : PlainIx b := by intro _ _; rfl) : EV X T (.Subscript a b pos) δ (.d d) δ2 := fun σ H S Q E k =>
  we_of (pe_ix ix_tup pe_w pe_w hs) (two ha hb E fun v1 v2 H' S' g e p r1 r2 => by
    obtain ⟨q, xs, rfl, hq, hx⟩ := res_tup r1
    obtain ⟨v, h1, h2⟩ := atI_dp hx hd
    exact ⟨q, xs, i, v, rfl, res_int r2, sqt_real hq, h1, k v H' S' g e p h2⟩)
theorem ev_ixL {a b : Expr} {pos : Pos} {ds : List PyData} {i : Int} {d : PyData} (ha : EV X T a δ (.d (.list ds)) δ1) (hb : EV X T b δ1 (.d (.int i)) δ2) (hd : atI ds i = some d) (hs : PlainIx b := by intro _ _; rfl) : EV X T (.Subscript a b pos) δ (.d d) δ2 := fun σ H S Q E k =>
  we_of (pe_ix ix_list pe_w pe_w hs) (two ha hb E fun v1 v2 H' S' g e p r1 r2 => by
    obtain ⟨q, xs, rfl, hq, hx⟩ := res_list r1
    obtain ⟨v, h1, h2⟩ := atI_dp hx hd
    exact ⟨q, xs, i, v, rfl, res_int r2, sql_real hq, h1, k v H' S' g e p h2⟩)
theorem ev_ixS {a b : Expr} {pos : Pos} {z : Str} {i : Int} {c : Nat} (ha : EV X T a δ (.d (.str z)) δ1) (hb : EV X T b δ1 (.d (.int i)) δ2) (hz : z.length ≤ sizeLine) (hd : atI z.cps.toList i = some c) (hs : PlainIx b := by intro _ _; rfl) : EV X T (.Subscript a b pos) δ (.d (.str ⟨#[c]⟩)) δ2 := fun σ H S Q E k =>
  we_of (pe_ix ix_str pe_w pe_w hs) (two ha hb E fun v1 v2 H' S' g e p r1 r2 => ⟨z, i, c, res_str r1, res_int r2, hz, hd, k _ H' S' g e p (.str _)⟩)
/-- an item of an owned (or borrowed) list that stands at a name -/
theorem ev_ixO (j : Nat) {x : Str} {b : Expr} {pos p0 : Pos} {s : Sl} {ds : List PyData} {i : Int} {d : PyData} (hj : δ[j]? = some s) (hw : s.ow = some (.lst ds)) (hb : EV X T b δ (.d (.int i)) δ) (hd : atI ds i = some d) (hN : X.N[j]? = some x := by rfl) (hv : Vis X.env.scope x := by first | exact Or.inl rfl | exact Or.inr (Or.inl rfl) | exact Or.inr (Or.inr rfl))
    (hdb : (x == ("__debug__" : Str)) = false := by decide) (hcd : (x == ("__classdict__" : Str)) = false := by decide) (hs : PlainIx b := by intro _ _; rfl) : EV X T (.Subscript (.Name x p0) b pos) δ (.d d) δ := fun σ H S Q E k => by
  obtain ⟨p, e, _, _, _⟩ := E.own j s _ hj hw
  refine we_of (pe_ix ix_list (pe_var hN hv hdb hcd) pe_w hs) ⟨.ref p, e, hb σ H S _ E fun v2 H2 S2 g2 e2 p2 r2 => ?_⟩
  obtain ⟨q, e', xs, ho, hx⟩ := e2.own j s _ hj hw
  rw [e] at e'
  cases e'
  obtain ⟨v, h1, h2⟩ := atI_dp hx hd
  exact ⟨p, xs, i, v, rfl, res_int r2, .inl (.inl ho), h1, k v H2 S2 g2 e2 p2 h2⟩
/-! #### slices -/
/-- the bounds of a slice -/
inductive PV (X : Cx) (T : List NTab) : Option Expr → List Sl → Option Int → List Sl → Prop
  | none {δ : List Sl} : PV X T none δ none δ
  | some {e : Expr} {δ δ1 : List Sl} {i : Int} : EV X T e δ (.d (.int i)) δ1 → PV X T (some e) δ (some i) δ1
theorem part {lo : Option Expr} {l : Option Int} (h : PV X T lo δ l δ1) : ∃ tl, PO X lo tl ∧ ∀ (σ : St) (H : Hp) (S : Addr → Prop) (Q : Option Int → Hp → Prop), Env X.K T H S σ δ →
    (∀ H' S', Go H S (Owned σ δ) H' S' (Owned σ δ1) → Env X.K T H' S' σ δ1 → Pin σ δ σ δ1 → Q l H') → tl σ H Q := by
  cases h with
  | none => exact ⟨_, po_none, fun σ H S Q E k => k H S (Go.refl _ _ _) E (Pin.refl _ _)⟩
  | some h => exact ⟨_, po_some pe_w, fun σ H S Q E k => h σ H S _ E fun v H1 S1 g e p r => ⟨_, res_int r, k H1 S1 g e p⟩⟩
theorem ev_slS {e : Expr} {lo hi : Option Expr} {pos p2 : Pos} {z : Str} {l h : Option Int} (he : EV X T e δ (.d (.str z)) δ1) (hl : PV X T lo δ1 l δ2) (hh : PV X T hi δ2 h δ3) (hz : z.length ≤ sizeLine) : EV X T (.Subscript e (.Slice lo hi none p2) pos) δ (.d (.str (cutS z l h))) δ3 := fun σ H S Q E k => by
  obtain ⟨tl, pl, rl⟩ := part hl
  obtain ⟨th, ph, rh⟩ := part hh
  exact we_of (pe_slice sl_str pe_w pl ph) (he σ H S _ E fun v H1 S1 g1 e1 p1 r1 => rl σ H1 S1 _ e1 fun H2 S2 g2 e2 p2 => rh σ H2 S2 _ e2 fun H3 S3 g3 e3 p3 => ⟨z, res_str r1, hz, k _ H3 S3 ((g1.trans g2).trans g3) e3 ((p1.trans p2).trans p3) (.str _)⟩)
def cutD (xs : List PyData) (lo hi : Option Int) : List PyData := (xs.drop (HT.sIx xs.length 0 lo)).take (HT.sIx xs.length xs.length hi - HT.sIx xs.length 0 lo)
theorem dpAll_take {vs : List V} {ds : List PyData} (n : Nat) (h : DpAll K H vs ds) : DpAll K H (vs.take n) (ds.take n) := by
  induction n generalizing vs ds with
  | zero => exact .nil
  | succ n ih =>
    cases h with
    | nil => exact .nil
    | cons a b => exact .cons a (ih b)
theorem dpAll_drop {vs : List V} {ds : List PyData} (n : Nat) (h : DpAll K H vs ds) : DpAll K H (vs.drop n) (ds.drop n) := by
  induction n generalizing vs ds with
  | zero => exact h
  | succ n ih =>
    cases h with
    | nil => exact .nil
    | cons a b => exact ih b
theorem cut_dp {vs : List V} {ds : List PyData} {lo hi : Option Int} (h : DpAll K H vs ds) : DpAll K H (cutV vs lo hi) (cutD ds lo hi) := by
  unfold cutV cutD
  rw [dpAll_len h]
  exact dpAll_take _ (dpAll_drop _ h)
theorem ev_slL {e : Expr} {lo hi : Option Expr} {pos p2 : Pos} {ds : List PyData} {l h : Option Int} (he : EV X T e δ (.d (.list ds)) δ1) (hl : PV X T lo δ1 l δ2) (hh : PV X T hi δ2 h δ3) : EV X T (.Subscript e (.Slice lo hi none p2) pos) δ (.o (.lst (cutD ds l h))) δ3 := fun σ H S Q E k => by
  obtain ⟨tl, pl, rl⟩ := part hl
  obtain ⟨th, ph, rh⟩ := part hh
  exact we_of (pe_slice sl_list pe_w pl ph) (he σ H S _ E fun v H1 S1 g1 e1 p1 r1 => rl σ H1 S1 _ e1 fun H2 S2 g2 e2 p2 => rh σ H2 S2 _ e2 fun H3 S3 g3 e3 p3 => by
    obtain ⟨q, xs, rfl, hq, hx⟩ := res_list ((r1.go g2).go g3)
    refine ⟨q, xs, rfl, sql_real hq, fun p hp => ?_⟩
    have g := (g1.trans g2).trans g3
    obtain ⟨g4, e4, x⟩ := new_lsto e3 hp (cut_dp (lo := l) (hi := h) hx)
    exact k _ _ _ (g.trans g4) e4 ((p1.trans p2).trans p3) (x.back g.keep g.ow))
theorem cutD_all {ds : List PyData} {l h : Option Int} (h1 : HT.sIx ds.length 0 l = 0) (h2 : HT.sIx ds.length ds.length h = ds.length) : cutD ds l h = ds := by
  unfold cutD
  rw [h1, h2, List.drop_zero, Nat.sub_zero, List.take_length]
theorem ev_slT {e : Expr} {lo hi : Option Expr} {pos p2 : Pos} {ds : List PyData} {l h : Option Int} (he : EV X T e δ (.d (.tuple ds)) δ1) (hl : PV X T lo δ1 l δ2) (hh : PV X T hi δ2 h δ3) : EV X T (.Subscript e (.Slice lo hi none p2) pos) δ (.d (.tuple (cutD ds l h))) δ3 := fun σ H S Q E k => by
  obtain ⟨tl, pl, rl⟩ := part hl
  obtain ⟨th, ph, rh⟩ := part hh
  exact we_of (pe_slice sl_tupA pe_w pl ph) (he σ H S _ E fun v H1 S1 g1 e1 p1 r1 => rl σ H1 S1 _ e1 fun H2 S2 g2 e2 p2 => rh σ H2 S2 _ e2 fun H3 S3 g3 e3 p3 => by
    have r3 := (r1.go g2).go g3
    obtain ⟨q, xs, rfl, hq, hx⟩ := res_tup r3
    have g := (g1.trans g2).trans g3
    have hl := dpAll_len hx
    refine ⟨q, xs, rfl, sqt_real hq, fun hw => ?_, fun hw p hp => ?_⟩
    · rw [hl] at hw
      rw [cutD_all hw.1 hw.2] at k
      exact k _ H3 S3 g e3 ((p1.trans p2).trans p3) r3
    · obtain ⟨g4, e4, x⟩ := new_tup e3 hp (cut_dp (lo := l) (hi := h) hx)
      exact k _ _ _ (g.trans g4) e4 ((p1.trans p2).trans p3) x)
end
end Sc
namespace Sc
open PySem L2 NdefX
/-! #### what a def promises -/
/-- R: from such arguments to such an end (the slots then: data as they were, what was borrowed as it is) -/
def spM (K : PySem.W.Frag) (T : List NTab) (R : List Sl → Out → Prop) : Sp := fun vs H Q E => ∃ (δ : List Sl) (o : Out) (S : Addr → Prop), R δ o ∧ Env K T H S (vs.map some) δ ∧ match o with
  | .ret r δ' => ∀ v H' S', Go H S (Owned (vs.map some) δ) H' S' (Owned (vs.map some) δ') → Env K T H' S' (vs.map some) δ' → Res K H (Owned (vs.map some) δ) H' S' (Owned (vs.map some) δ') r v → Q v H'
  | .ex x δ' => ∀ cls d H' S', Go H S (Owned (vs.map some) δ) H' S' (Owned (vs.map some) δ') → Env K T H' S' (vs.map some) δ' → IsEx K (vw H' S') H' x cls d → E cls d H'
  | _ => False
/-- the arguments behind the body -/
structure Outs (δ δf δ' : List Sl) : Prop where
  len : δ'.length = δ.length
  bor : ∀ (i : Nat) (w : Ow), δ[i]? = some (.b w) → ∃ w', δf[i]? = some (.b w') ∧ δ'[i]? = some (.b w')
  oth : ∀ (i : Nat) (s : Sl), δ[i]? = some s → s.ow = none → δ'[i]? = some s
  own : ∀ (i : Nat) (w : Ow), δ[i]? = some (.o w) → δ'[i]? = some .no
inductive Fin (δ : List Sl) : Out → Out → Prop
  | ret {r : Sl} {δf δ' : List Sl} : Outs δ δf δ' → Fin δ (.ret r δf) (.ret r δ')
  | nx {δf δ' : List Sl} : Outs δ δf δ' → Fin δ (.nx δf) (.ret (.d .none) δ')
  | ex {x : Exn} {δf δ' : List Sl} : Outs δ δf δ' → Fin δ (.ex x δf) (.ex x δ')
/-- nothing owned goes in -/
theorem outs_data {δ δf : List Sl} (h : ∀ s ∈ δ, s.ow = none) : Outs δ δf δ := by
  refine ⟨rfl, fun i w e => ?_, fun i s e _ => e, fun i w e => ?_⟩
  · have z := h _ (List.mem_of_getElem? e)
    cases z
  · have z := h _ (List.mem_of_getElem? e)
    cases z
section
variable {K : PySem.W.Frag} {T : List NTab}
theorem outs_env {H H' : Hp} {S S' : Addr → Prop} {vs : List V} {σ : St} {δ δf δ' : List Sl} {n : Nat} (E : Env K T H S (vs.map some) δ) (E' : Env K T H' S' σ δf) (m : Same (vw H S) (vw H' S')) (p : Pin (vs.map some ++ List.replicate n none) (δ ++ List.replicate n .no) σ δf) (o : Outs δ δf δ') :
    Env K T H' S' (vs.map some) δ' ∧ ∀ q, Owned (vs.map some) δ' q → Owned σ δf q := by
  have lv : vs.length = δ.length := by
    have q := E.len
    rw [List.length_map] at q
    exact q
  -- an owned thing of the arguments is a borrowed one
  have key : ∀ (i : Nat) (s : Sl) (w : Ow), δ'[i]? = some s → s.ow = some w → ∃ w0, δ[i]? = some (.b w0) ∧ s = .b w ∧ δf[i]? = some (.b w) ∧ σ[i]? = (vs.map some)[i]? := fun i s w h hw => by
    have hi : i < δ.length := by
      rw [← o.len]
      exact (List.getElem?_eq_some_iff.mp h).1
    have hd : δ[i]? = some δ[i] := List.getElem?_eq_getElem hi
    generalize δ[i] = u at hd
    cases u with
    | b w0 =>
      obtain ⟨w', h1, h2⟩ := o.bor i w0 hd
      rw [h] at h2
      cases h2
      cases hw
      have pi := p i w0 (by rw [List.getElem?_append_left hi]; exact hd)
      rw [List.getElem?_append_left (by rw [List.length_map, lv]; exact hi)] at pi
      exact ⟨w0, hd, rfl, h1, pi.1⟩
    | o w0 =>
      have q := o.own i w0 hd
      rw [h] at q
      cases q
      cases hw
    | no =>
      have q := o.oth i _ hd rfl
      rw [h] at q
      cases q
      cases hw
    | d x =>
      have q := o.oth i _ hd rfl
      rw [h] at q
      cases q
      cases hw
    | v x =>
      have q := o.oth i _ hd rfl
      rw [h] at q
      cases q
      cases hw
  have up : ∀ q, Owned (vs.map some) δ' q → Owned σ δf q := fun q ⟨i, s, w, h1, h2, h3⟩ => by
    obtain ⟨w0, _, e, h4, h5⟩ := key i s w h1 h2
    exact ⟨i, _, w, h4, rfl, by rw [h5]; exact h3⟩
  have oth : ∀ (i : Nat) (s : Sl), δ'[i]? = some s → s.ow = none → s = .no ∨ δ[i]? = some s := fun i s h hs => by
    have hi : i < δ.length := by
      rw [← o.len]
      exact (List.getElem?_eq_some_iff.mp h).1
    have hd : δ[i]? = some δ[i] := List.getElem?_eq_getElem hi
    generalize δ[i] = u at hd
    by_cases hu : u.ow = none
    · have q := o.oth i u hd hu
      rw [h] at q
      exact .inr (by rw [hd]; exact q.symm)
    · cases u with
      | b w0 =>
        obtain ⟨w', _, h2⟩ := o.bor i w0 hd
        rw [h] at h2
        cases h2
        cases hs
      | o w0 =>
        have q := o.own i w0 hd
        rw [h] at q
        exact .inl (Option.some.inj q)
      | _ => exact absurd rfl hu
  refine ⟨⟨by rw [List.length_map, lv, o.len], fun q h => E'.sub q (up q h), fun i x h => ?_, fun i v h => ?_, fun i s w h hw => ?_, fun i j s t w u q hij hs hw ht hu h1 h2 => ?_, E'.tabs⟩, up⟩
  · rcases oth i _ h rfl with z | z
    · cases z
    · obtain ⟨v, a, b⟩ := E.dat i x z
      exact ⟨v, a, dp_mono m b⟩
  · rcases oth i _ h rfl with z | z
    · cases z
    · exact E.val i v z
  · obtain ⟨w0, _, _, h4, h5⟩ := key i s w h hw
    obtain ⟨q, a, b⟩ := E'.own i _ w h4 rfl
    exact ⟨q, by rw [← h5]; exact a, b⟩
  · obtain ⟨_, _, _, a1, a2⟩ := key i s w hs hw
    obtain ⟨_, _, _, b1, b2⟩ := key j t u ht hu
    exact E'.apart i j _ _ w u q hij a1 rfl b1 rfl (by rw [a2]; exact h1) (by rw [b2]; exact h2)
theorem env_start {H : Hp} {S : Addr → Prop} {vs : List V} {δ : List Sl} {n : Nat} (E : Env K T H S (vs.map some) δ) : Env K T H S (vs.map some ++ List.replicate n none) (δ ++ List.replicate n .no) ∧ ∀ q, Owned (vs.map some ++ List.replicate n none) (δ ++ List.replicate n .no) q ↔ Owned (vs.map some) δ q := by
  have lv : (vs.map some).length = δ.length := E.len
  have at_ : ∀ (i : Nat) (s : Sl), (δ ++ List.replicate n Sl.no)[i]? = some s → s ≠ .no → δ[i]? = some s ∧ (vs.map some ++ List.replicate n none)[i]? = (vs.map some)[i]? := fun i s h hs => by
    by_cases hi : i < δ.length
    · rw [List.getElem?_append_left hi] at h
      exact ⟨h, List.getElem?_append_left (by rw [lv]; exact hi)⟩
    · rw [List.getElem?_append_right (by omega), List.getElem?_replicate] at h
      split at h
      · exact absurd (Option.some.inj h).symm hs
      · cases h
  have ne : ∀ {s : Sl} {w : Ow}, s.ow = some w → s ≠ .no := fun {s w} h e => by rw [e] at h; cases h
  have iff : ∀ q, Owned (vs.map some ++ List.replicate n none) (δ ++ List.replicate n .no) q ↔ Owned (vs.map some) δ q := fun q => by
    constructor
    · rintro ⟨i, s, w, h1, h2, h3⟩
      obtain ⟨a, b⟩ := at_ i s h1 (ne h2)
      exact ⟨i, s, w, a, h2, by rw [← b]; exact h3⟩
    · rintro ⟨i, s, w, h1, h2, h3⟩
      have hi : i < δ.length := (List.getElem?_eq_some_iff.mp h1).1
      exact ⟨i, s, w, by rw [List.getElem?_append_left hi]; exact h1, h2, by rw [List.getElem?_append_left (by rw [lv]; exact hi)]; exact h3⟩
  refine ⟨⟨by rw [List.length_append, List.length_append, lv, List.length_replicate, List.length_replicate], fun q h => E.sub q ((iff q).mp h), fun i x h => ?_, fun i v h => ?_, fun i s w h hw => ?_, fun i j s t w u q hij hs hw ht hu h1 h2 => ?_, E.tabs⟩, iff⟩
  · obtain ⟨a, b⟩ := at_ i _ h (fun z => by cases z)
    rw [b]
    exact E.dat i x a
  · obtain ⟨a, b⟩ := at_ i _ h (fun z => by cases z)
    rw [b]
    exact E.val i v a
  · obtain ⟨a, b⟩ := at_ i _ h (ne hw)
    rw [b]
    exact E.own i s w a hw
  · obtain ⟨a1, a2⟩ := at_ i _ hs (ne hw)
    obtain ⟨b1, b2⟩ := at_ j _ ht (ne hu)
    rw [a2] at h1
    rw [b2] at h2
    exact E.apart i j s t w u q hij a1 hw b1 hu h1 h2
end
/-- what every rule may want of the context -/
structure Cok (X : Cx) (W : WX) (k : Nat) : Prop where
  nd : X.N.Nodup
  calm : X.calm = true
  own : PassesOwn (model X.prog X.w) X.A X.env X.xe
  tk : Takes X W
  room : Room k X.A
theorem Cok.less {X : Cx} {W : WX} {j k : Nat} (C : Cok X W k) (h : j ≤ k) : Room j X.A := C.room.mono h
section
variable {P : Program} {w : World} {K : PySem.W.Frag} {mg : Str → Option Value} {base : Heap} {T : List NTab}
/-- THE RULE for a def -/
theorem fn_mk {x qual : Str} {st : Stmt} {f : Addr} {fd : FuncData} {N ps : List Str} {k : Nat} {R : List Sl → Out → Prop} (F : Fun K x qual st f fd) (Sc : FnScope N ps (defScope st)) (hR : ∀ δ o, R δ o → δ.length = ps.length)
    (hb : ∀ (cdv : Value) (A : Around) (outer : List PySem.Env) (s : Shared) (H : Hp) (E : XK), Cok (cxOf (L2.CX P w) P w K mg base N qual (defScope st) f cdv A outer s H E) (fun cls d _ H => E cls d H) k → ∀ δ o, R δ o →
      ∃ of, SVs (cxOf (L2.CX P w) P w K mg base N qual (defScope st) f cdv A outer s H E) T (fun cls d _ H => E cls d H) (defBody st) (δ ++ List.replicate (N.length - ps.length) .no) of ∧ Fin δ of o) :
    FnOk P w K mg base (L2.CX P w) (k + 1) f fd ps (spM K T R) := by
  have len : ∀ vs H Q E, spM K T R vs H Q E → vs.length = ps.length := fun vs H Q E ⟨δ, o, S, hr, e, _⟩ => by
    have q := e.len
    rw [List.length_map] at q
    rw [q]
    exact hR δ o hr
  refine F.okX Sc len fun cdv A outer s H vs Q E hr h => ⟨wSs _ _, pss_w, ?_⟩
  have lv := len vs H Q E h
  obtain ⟨δ, o, S, hRo, e, h⟩ := h
  obtain ⟨of, hs, hf⟩ := hb cdv A outer s H E ⟨Sc.nd, rfl, passes_of rfl, takes_of rfl rfl rfl rfl, hr⟩ δ o hRo
  have e0 : L2.start N vs = vs.map some ++ List.replicate (N.length - ps.length) none := by
    unfold L2.start
    rw [lv]
  obtain ⟨es, ef⟩ := env_start (n := N.length - ps.length) e
  rw [e0]
  refine hs _ H S _ es ?_
  have pO : Owned (vs.map some ++ List.replicate (N.length - ps.length) none) (δ ++ List.replicate (N.length - ps.length) .no) = Owned (vs.map some) δ := funext fun q => propext (ef q)
  cases hf with
  | ret oo =>
    intro v σ' H' S' g e' p r
    rw [pO] at g r
    obtain ⟨e2, up⟩ := outs_env e e' g.mono p oo
    refine h v H' S' ⟨g.mono, g.keep, g.up, fun a ha => g.ow a (up a ha)⟩ e2 ?_
    cases ‹Sl› with
    | o w0 =>
      obtain ⟨q, a, b, c, d⟩ := r
      exact ⟨q, a, b, fun z => c (up q z), d⟩
    | _ => exact r
  | nx oo =>
    intro σ' H' S' g e' p
    rw [pO] at g
    obtain ⟨e2, up⟩ := outs_env e e' g.mono p oo
    exact h _ H' S' ⟨g.mono, g.keep, g.up, fun a ha => g.ow a (up a ha)⟩ e2 .non
  | ex oo =>
    intro cls d σ' H' S' g e' p i
    rw [pO] at g
    obtain ⟨e2, up⟩ := outs_env e e' g.mono p oo
    exact h cls d H' S' ⟨g.mono, g.keep, g.up, fun a ha => g.ow a (up a ha)⟩ e2 i
end
/-! #### the arguments of a call -/
inductive Ar where
  | r (s : Sl)
  | lend (i : Nat)
def arSl (δ : List Sl) : Ar → Sl
  | .r s => s
  | .lend i => match δ[i]? with
    | some s => match s.ow with
      | some w => .b w
      | none => .no
    | none => .no
inductive ResL (K : PySem.W.Frag) (H : Hp) (P : Addr → Prop) (H' : Hp) (S' P' : Addr → Prop) (σ : St) : List Ar → List V → Prop
  | nil : ResL K H P H' S' P' σ [] []
  | cons {r : Sl} {rs : List Ar} {v : V} {vs : List V} : Res K H P H' S' P' r v → ResL K H P H' S' P' σ rs vs → ResL K H P H' S' P' σ (.r r :: rs) (v :: vs)
  | lend {i : Nat} {rs : List Ar} {v : V} {vs : List V} : σ[i]? = some (some v) → ResL K H P H' S' P' σ rs vs → ResL K H P H' S' P' σ (.lend i :: rs) (v :: vs)
def AL (X : Cx) (T : List NTab) (es : List Expr) (δ : List Sl) (rs : List Ar) (δ' : List Sl) : Prop := ∀ (σ : St) (H : Hp) (S : Addr → Prop) (Q : List V → Hp → Prop), Env X.K T H S σ δ →
  (∀ vs H' S', Go H S (Owned σ δ) H' S' (Owned σ δ') → Env X.K T H' S' σ δ' → Pin σ δ σ δ' → ResL X.K H (Owned σ δ) H' S' (Owned σ δ') σ rs vs → Q vs H') → wA X es σ H Q
section
variable {X : Cx} {T : List NTab} {K : PySem.W.Frag} {δ δ1 δ2 δ3 : List Sl}
theorem ResL.go {H H1 H2 : Hp} {P S1 P1 S2 P2 : Addr → Prop} {σ : St} (g : Go H1 S1 P1 H2 S2 P2) : ∀ {rs : List Ar} {vs : List V}, ResL K H P H1 S1 P1 σ rs vs → ResL K H P H2 S2 P2 σ rs vs
  | _, _, .nil => .nil
  | _, _, .cons a b => .cons (a.go g) (ResL.go g b)
  | _, _, .lend a b => .lend a (ResL.go g b)
theorem ResL.back {H H1 H2 : Hp} {P P1 S2 P2 : Addr → Prop} {σ : St} (k : KeepN P H H1) (w : ∀ a, P1 a → P a ∨ Fresh H a) : ∀ {rs : List Ar} {vs : List V}, ResL K H1 P1 H2 S2 P2 σ rs vs → ResL K H P H2 S2 P2 σ rs vs
  | _, _, .nil => .nil
  | _, _, .cons a b => .cons (a.back k w) (ResL.back k w b)
  | _, _, .lend a b => .lend a (ResL.back k w b)
theorem al_nil {δ : List Sl} : AL X T [] δ [] δ := fun σ H S Q E k => wa_of pa_nil (k [] H S (Go.refl _ _ _) E (Pin.refl _ _) .nil)
theorem al_cons {e : Expr} {es : List Expr} {r : Sl} {rs : List Ar} (h : EV X T e δ r δ1) (hs : AL X T es δ1 rs δ2) (he : starEach (e :: es) X.env = (false, eval e X.env) :: starEach es X.env := by rfl) : AL X T (e :: es) δ (.r r :: rs) δ2 := fun σ H S Q E k =>
  wa_of (pa_cons pe_w pa_w he) (h σ H S _ E fun v1 H1 S1 g1 e1 p1 r1 => hs σ H1 S1 _ e1 fun vs H2 S2 g2 e2 p2 r2 => k (v1 :: vs) H2 S2 (g1.trans g2) e2 (p1.trans p2) (.cons (r1.go g2) (r2.back g1.keep g1.ow)))
theorem al_lend (i : Nat) {x : Str} {pos : Pos} {es : List Expr} {rs : List Ar} {s : Sl} {w : Ow} (hd : δ[i]? = some s) (hw : s.ow = some w) (hs : AL X T es δ rs δ2) (hN : X.N[i]? = some x := by rfl) (hv : Vis X.env.scope x := by first | exact Or.inl rfl | exact Or.inr (Or.inl rfl) | exact Or.inr (Or.inr rfl)) (hdb : (x == ("__debug__" : Str)) = false := by decide)
    (hcd : (x == ("__classdict__" : Str)) = false := by decide) (he : starEach (.Name x pos :: es) X.env = (false, eval (.Name x pos) X.env) :: starEach es X.env := by rfl) : AL X T (.Name x pos :: es) δ (.lend i :: rs) δ2 := fun σ H S Q E k => by
  obtain ⟨p, e, _⟩ := E.own i s w hd hw
  exact wa_of (pa_cons (pe_var hN hv hdb hcd) pa_w he) ⟨.ref p, e, hs σ H S _ E fun vs H2 S2 g2 e2 p2 r2 => k (.ref p :: vs) H2 S2 g2 e2 p2 (.lend e r2)⟩
theorem resL_get {H : Hp} {P : Addr → Prop} {H' : Hp} {S' P' : Addr → Prop} {σ : St} : ∀ {rs : List Ar} {vs : List V} {j : Nat} {a : Ar}, ResL K H P H' S' P' σ rs vs → rs[j]? = some a → ∃ v, vs[j]? = some v ∧ (match a with
    | .r s => Res K H P H' S' P' s v
    | .lend i => σ[i]? = some (some v))
  | _, _, _, _, .nil, h => by simp at h
  | _, _, 0, _, .cons x _, h => by simp at h; subst h; exact ⟨_, rfl, x⟩
  | _, _, 0, _, .lend x _, h => by simp at h; subst h; exact ⟨_, rfl, x⟩
  | _, _, j + 1, a, .cons _ t, h => by
    obtain ⟨v, h1, h2⟩ := resL_get (j := j) (a := a) t (by simpa using h)
    exact ⟨v, by simpa using h1, h2⟩
  | _, _, j + 1, a, .lend _ t, h => by
    obtain ⟨v, h1, h2⟩ := resL_get (j := j) (a := a) t (by simpa using h)
    exact ⟨v, by simpa using h1, h2⟩
theorem resL_len {H : Hp} {P : Addr → Prop} {H' : Hp} {S' P' : Addr → Prop} {σ : St} : ∀ {rs : List Ar} {vs : List V}, ResL K H P H' S' P' σ rs vs → vs.length = rs.length
  | _, _, .nil => rfl
  | _, _, .cons _ t => congrArg (· + 1) (resL_len t)
  | _, _, .lend _ t => congrArg (· + 1) (resL_len t)
def Ar.fine : Ar → Bool
  | .r s => s.ow.isNone
  | .lend _ => true
def Ar.isLend : Ar → Bool
  | .r _ => false
  | .lend _ => true
/-- at most one thing is lent -/
def fewLent : List Ar → Bool
  | [] => true
  | a :: r => a.fine && (if a.isLend then r.all fun b => !b.isLend && b.fine else fewLent r)
theorem few_fine : ∀ {rs : List Ar}, fewLent rs = true → ∀ a ∈ rs, a.fine = true
  | [], _, a, h => by cases h
  | x :: r, h, a, ha => by
    unfold fewLent at h
    rw [Bool.and_eq_true] at h
    rcases List.mem_cons.mp ha with e | ha
    · rw [e]; exact h.1
    · by_cases hl : x.isLend = true
      · rw [if_pos hl, List.all_eq_true] at h
        have q := h.2 a ha
        rw [Bool.and_eq_true] at q
        exact q.2
      · rw [if_neg hl] at h
        exact few_fine h.2 a ha
theorem few_one : ∀ {rs : List Ar} {i j a b : Nat}, fewLent rs = true → rs[i]? = some (.lend a) → rs[j]? = some (.lend b) → i = j
  | [], i, j, a, b, _, h, _ => by simp at h
  | x :: r, i, j, a, b, h, hi, hj => by
    unfold fewLent at h
    rw [Bool.and_eq_true] at h
    by_cases hl : x.isLend = true
    · rw [if_pos hl, List.all_eq_true] at h
      have no : ∀ (n c : Nat), r[n]? = some (.lend c) → False := fun n c e => by
        have q := h.2 _ (List.mem_of_getElem? e)
        simp [Ar.isLend] at q
      cases i with
      | zero =>
        cases j with
        | zero => rfl
        | succ j => exact (no j b (by simpa using hj)).elim
      | succ i => exact (no i a (by simpa using hi)).elim
    · rw [if_neg hl] at h
      have nx : ∀ c, x ≠ .lend c := fun c e => by rw [e] at hl; exact hl rfl
      cases i with
      | zero => simp at hi; exact (nx a hi).elim
      | succ i =>
        cases j with
        | zero => simp at hj; exact (nx b hj).elim
        | succ j => exact congrArg (· + 1) (few_one h.2 (by simpa using hi) (by simpa using hj))
/-- the callee's slots at the call -/
theorem args_env {H0 : Hp} {P0 : Addr → Prop} {H : Hp} {S : Addr → Prop} {σ : St} {rs : List Ar} {vs dvs : List V} {dds : List PyData} (E : Env K T H S σ δ) (x : ResL K H0 P0 H S (Owned σ δ) σ rs vs) (hf : fewLent rs = true) (hd : ∀ h, DpAll K h dvs dds) :
    Env K T H S ((vs ++ dvs).map some) (rs.map (arSl δ) ++ dds.map .d) ∧ ∀ q, Owned ((vs ++ dvs).map some) (rs.map (arSl δ) ++ dds.map .d) q → ∃ (i j : Nat), rs[j]? = some (Ar.lend i) ∧ σ[i]? = some (some (V.ref q)) ∧ Owned σ δ q := by
  have lr := resL_len x
  have ld := dpAll_len (hd H)
  have at_ : ∀ (j : Nat) (s : Sl), (rs.map (arSl δ) ++ dds.map Sl.d)[j]? = some s → (∃ a : Ar, rs[j]? = some a ∧ s = arSl δ a ∧ ((vs ++ dvs).map some)[j]? = (vs.map some)[j]?) ∨ (∃ (y : PyData) (v : V), s = .d y ∧ ((vs ++ dvs).map some)[j]? = some (some v) ∧ Dp K (vw H S) v y) := fun j s h => by
    by_cases hj : j < rs.length
    · rw [List.getElem?_append_left (by rw [List.length_map]; exact hj), List.getElem?_map, List.getElem?_eq_getElem hj] at h
      refine .inl ⟨rs[j], List.getElem?_eq_getElem hj, (Option.some.inj h).symm, ?_⟩
      rw [List.map_append, List.getElem?_append_left (by rw [List.length_map, lr]; exact hj)]
    · rw [List.getElem?_append_right (by rw [List.length_map]; omega), List.length_map, List.getElem?_map] at h
      cases e : dds[j - rs.length]? with
      | none => rw [e] at h; cases h
      | some y =>
        rw [e] at h
        obtain ⟨v, h1, h2⟩ := dpAll_get (hd (vw H S)) e
        refine .inr ⟨y, v, (Option.some.inj h).symm, ?_, h2⟩
        rw [List.map_append, List.getElem?_append_right (by rw [List.length_map, lr]; omega), List.length_map, lr, List.getElem?_map, h1]
        rfl
  have own : ∀ (j : Nat) (s : Sl) (w : Ow), (rs.map (arSl δ) ++ dds.map Sl.d)[j]? = some s → s.ow = some w → ∃ (i : Nat) (t : Sl), rs[j]? = some (Ar.lend i) ∧ δ[i]? = some t ∧ t.ow = some w ∧ s = .b w ∧ ((vs ++ dvs).map some)[j]? = σ[i]? := fun j s w h hw => by
    rcases at_ j s h with ⟨a, h1, e, h3⟩ | ⟨y, v, e, _⟩
    · cases a with
      | r u =>
        have q := few_fine hf _ (List.mem_of_getElem? h1)
        have e' : s = u := e
        rw [e'] at hw
        have q' : u.ow.isNone = true := q
        rw [hw] at q'
        cases q'
      | lend i =>
        obtain ⟨v, h4, h5⟩ := resL_get x h1
        have h5 : σ[i]? = some (some v) := h5
        have e' : s = (match δ[i]? with
          | some s => match s.ow with
            | some w => .b w
            | none => .no
          | none => .no) := e
        cases ed : δ[i]? with
        | none => rw [ed] at e'; rw [e'] at hw; cases hw
        | some t =>
          rw [ed] at e'
          cases et : t.ow with
          | none => simp only [et] at e'; rw [e'] at hw; cases hw
          | some w' =>
            simp only [et] at e'
            rw [e'] at hw
            cases hw
            exact ⟨i, t, h1, ed, et, e', by rw [h3, List.getElem?_map, h4, h5]; rfl⟩
    · rw [e] at hw
      cases hw
  have ow : ∀ q, Owned ((vs ++ dvs).map some) (rs.map (arSl δ) ++ dds.map .d) q → ∃ (i j : Nat), rs[j]? = some (Ar.lend i) ∧ σ[i]? = some (some (V.ref q)) ∧ Owned σ δ q := fun q ⟨j, s, w, h1, h2, h3⟩ => by
    obtain ⟨i, t, a, b, c, _, d⟩ := own j s w h1 h2
    rw [d] at h3
    exact ⟨i, j, a, h3, i, t, w, b, c, h3⟩
  refine ⟨⟨by rw [List.length_map, List.length_append, List.length_append, List.length_map, List.length_map, lr, ld], fun q h => ?_, fun j y h => ?_, fun j v h => ?_, fun j s w h hw => ?_, fun i j s t w u q hij hs hw ht hu h1 h2 => ?_, E.tabs⟩, ow⟩
  · obtain ⟨_, _, _, _, z⟩ := ow q h
    exact E.sub q z
  · rcases at_ j _ h with ⟨a, h1, e, h3⟩ | ⟨y', v, e, h3, h4⟩
    · cases a with
      | r u =>
        obtain ⟨v, h4, h5⟩ := resL_get x h1
        have e' : Sl.d y = u := e
        rw [← e'] at h5
        exact ⟨v, by rw [h3, List.getElem?_map, h4]; rfl, h5⟩
      | lend i =>
        have e' : Sl.d y = (match δ[i]? with
          | some s => match s.ow with
            | some w => .b w
            | none => .no
          | none => .no) := e
        split at e'
        · split at e' <;> cases e'
        · cases e'
    · cases e
      exact ⟨v, h3, h4⟩
  · rcases at_ j _ h with ⟨a, h1, e, h3⟩ | ⟨y', v', e, h3, h4⟩
    · cases a with
      | r u =>
        obtain ⟨v', h4, h5⟩ := resL_get x h1
        have e' : Sl.v v = u := e
        rw [← e'] at h5
        have h5 : v' = v := h5
        exact by rw [h3, List.getElem?_map, h4, h5]; rfl
      | lend i =>
        have e' : Sl.v v = (match δ[i]? with
          | some s => match s.ow with
            | some w => .b w
            | none => .no
          | none => .no) := e
        split at e'
        · split at e' <;> cases e'
        · cases e'
    · cases e
  · obtain ⟨i, t, a, b, c, _, d⟩ := own j s w h hw
    obtain ⟨p, e1, e2⟩ := E.own i t w b c
    exact ⟨p, by rw [d]; exact e1, e2⟩
  · obtain ⟨a, _, ha, _⟩ := own i s w hs hw
    obtain ⟨b, _, hb, _⟩ := own j t u ht hu
    exact absurd (few_one hf ha hb) hij
def Sl.put (w : Ow) : Sl → Sl
  | .o _ => .o w
  | .b _ => .b w
  | s => s
/-- what the caller's slots are behind the call -/
structure Bk (δ : List Sl) (rs : List Ar) (δc δ' : List Sl) : Prop where
  len : δ'.length = δ.length
  kept : ∀ (i : Nat), (∀ (j : Nat), rs[j]? ≠ some (Ar.lend i)) → δ'[i]? = δ[i]?
  lent : ∀ (i j : Nat), rs[j]? = some (.lend i) → ∃ s w, δ[i]? = some s ∧ s.ow.isSome = true ∧ δc[j]? = some (.b w) ∧ δ'[i]? = some (s.put w)
theorem bk_none {δ δc : List Sl} {rs : List Ar} (h : (rs.all fun a => !a.isLend) = true) : Bk δ rs δc δ := by
  rw [List.all_eq_true] at h
  refine ⟨rfl, fun i _ => rfl, fun i j e => ?_⟩
  have q := h _ (List.mem_of_getElem? e)
  simp [Ar.isLend] at q
theorem bk_one {δ δc : List Sl} {rs : List Ar} {i j : Nat} {s : Sl} {w : Ow} (hf : fewLent rs = true) (hj : rs[j]? = some (.lend i)) (hs : δ[i]? = some s) (hw : s.ow.isSome = true) (hc : δc[j]? = some (.b w)) : Bk δ rs δc (δ.set i (s.put w)) := by
  refine ⟨List.length_set, fun k h => ?_, fun k l e => ?_⟩
  · have : i ≠ k := fun z => h j (z ▸ hj)
    rw [List.getElem?_set_ne this]
  · have e1 := few_one hf e hj
    subst e1
    rw [e] at hj
    cases hj
    exact ⟨s, w, hs, hw, hc, List.getElem?_set_self (List.getElem?_eq_some_iff.mp hs).1⟩
theorem put_ow {s : Sl} {w : Ow} (h : s.ow.isSome = true) : (s.put w).ow = some w := by
  cases s <;> first | rfl | cases h
theorem call_back {H H' : Hp} {S S' : Addr → Prop} {σ : St} {rs : List Ar} {vs dvs : List V} {dds : List PyData} {δc δ' : List Sl} {H0 : Hp} {P0 : Addr → Prop} (E : Env K T H S σ δ) (x : ResL K H0 P0 H S (Owned σ δ) σ rs vs) (hf : fewLent rs = true) (hd : ∀ h, DpAll K h dvs dds)
    (g : Go H S (Owned ((vs ++ dvs).map some) (rs.map (arSl δ) ++ dds.map .d)) H' S' (Owned ((vs ++ dvs).map some) δc)) (e : Env K T H' S' ((vs ++ dvs).map some) δc) (b : Bk δ rs δc δ') :
    Go H S (Owned σ δ) H' S' (Owned σ δ') ∧ Env K T H' S' σ δ' ∧ Pin σ δ σ δ' ∧ ∀ q, Owned σ δ' q → Owned σ δ q := by
  obtain ⟨_, ow⟩ := args_env (dds := dds) E x hf hd
  have slot : ∀ (i : Nat) (s : Sl), δ'[i]? = some s → (δ[i]? = some s ∧ ∀ (j : Nat), rs[j]? ≠ some (Ar.lend i)) ∨ ∃ (t : Sl) (w : Ow) (j : Nat), δ[i]? = some t ∧ t.ow.isSome = true ∧ rs[j]? = some (Ar.lend i) ∧ δc[j]? = some (.b w) ∧ s = t.put w := fun i s h => by
    by_cases hl : ∃ (j : Nat), rs[j]? = some (Ar.lend i)
    · obtain ⟨j, hj⟩ := hl
      obtain ⟨t, w, h1, h2, h3, h4⟩ := b.lent i j hj
      rw [h] at h4
      exact .inr ⟨t, w, j, h1, h2, hj, h3, Option.some.inj h4⟩
    · refine .inl ⟨?_, fun j z => hl ⟨j, z⟩⟩
      rw [← b.kept i fun j z => hl ⟨j, z⟩]
      exact h
  have dn : ∀ q, Owned σ δ' q → Owned σ δ q := fun q ⟨i, s, w, h1, h2, h3⟩ => by
    rcases slot i s h1 with ⟨h, _⟩ | ⟨t, w', j, h4, h5, _⟩
    · exact ⟨i, s, w, h, h2, h3⟩
    · cases et : t.ow with
      | none => rw [et] at h5; cases h5
      | some u => exact ⟨i, t, u, h4, et, h3⟩
  have keep : KeepN (Owned σ δ) H H' := fun a o ha he ht => g.keep a o (fun z => let ⟨_, _, _, _, q⟩ := ow a z; ha q) he ht
  have same : ∀ (i : Nat) (s : Sl) (w : Ow) (p : Addr), δ[i]? = some s → s.ow = some w → (∀ (j : Nat), rs[j]? ≠ some (Ar.lend i)) → σ[i]? = some (some (.ref p)) → H' p = H p := fun i s w p h1 h2 h3 h4 => by
    have nl : ¬ Owned ((vs ++ dvs).map some) (rs.map (arSl δ) ++ dds.map .d) p := fun z => by
      obtain ⟨i', j', a1, a2, _⟩ := ow p z
      have hii : i ≠ i' := fun q => h3 j' (q ▸ a1)
      obtain ⟨t, w', b1, b2, _⟩ := b.lent i' j' a1
      cases et : t.ow with
      | none => rw [et] at b2; cases b2
      | some u => exact E.apart i i' s t w u p hii h1 h2 b1 et h4 a2
    have nf : ¬ Fresh H p := E.old ⟨i, s, w, h1, h2, h4⟩
    cases q : H p with
    | none => exact absurd (Fresh.of q) nf
    | some o => exact g.keep p o nl q fun ps z => nf fun o' e' => by rw [q] at e'; cases e'; exact ⟨ps, z⟩
  have sub' : ∀ q, Owned σ δ' q → S' q := fun q ⟨i, s, w, h1, h2, h3⟩ => by
    rcases slot i s h1 with ⟨h, hn⟩ | ⟨t, w', j, h4, h5, h6, h7, h8⟩
    · refine g.up q (E.sub q ⟨i, s, w, h, h2, h3⟩) (fun z => ?_) (E.old ⟨i, s, w, h, h2, h3⟩)
      obtain ⟨i', j', a1, a2, _⟩ := ow q z
      have hii : i ≠ i' := fun q => hn j' (q ▸ a1)
      obtain ⟨t, w', b1, b2, _⟩ := b.lent i' j' a1
      cases et : t.ow with
      | none => rw [et] at b2; cases b2
      | some u => exact E.apart i i' s t w u q hii h h2 b1 et h3 a2
    · obtain ⟨v, c1, c2⟩ := resL_get x h6
      have c2 : σ[i]? = some (some v) := c2
      rw [h3] at c2
      cases c2
      refine e.sub q ⟨j, _, w', h7, rfl, ?_⟩
      rw [List.map_append, List.getElem?_append_left (by rw [List.length_map]; exact (List.getElem?_eq_some_iff.mp c1).1), List.getElem?_map, c1]
      rfl
  refine ⟨⟨g.mono, keep, fun a h1 h2 h3 => g.up a h1 (fun z => let ⟨_, _, _, _, q⟩ := ow a z; h2 q) h3, fun a ha => .inl (dn a ha)⟩, ⟨by rw [b.len]; exact E.len, sub', fun i y h => ?_, fun i v h => ?_, fun i s w h hw => ?_, fun i j s t w u q hij hs hw ht hu h1 h2 => ?_, e.tabs⟩, fun i w h => ?_, dn⟩
  · rcases slot i _ h with ⟨h, _⟩ | ⟨t, w', j, h4, h5, _, _, h8⟩
    · obtain ⟨v, a, c⟩ := E.dat i y h
      exact ⟨v, a, dp_mono g.mono c⟩
    · have q := put_ow (w := w') h5
      rw [← h8] at q
      cases q
  · rcases slot i _ h with ⟨h, _⟩ | ⟨t, w', j, h4, h5, _, _, h8⟩
    · exact E.val i v h
    · have q := put_ow (w := w') h5
      rw [← h8] at q
      cases q
  · rcases slot i _ h with ⟨h, hn⟩ | ⟨t, w', j, h4, h5, h6, h7, h8⟩
    · obtain ⟨p, a, c⟩ := E.own i s w h hw
      exact ⟨p, a, by rw [same i s w p h hw hn a]; exact c.mono g.mono⟩
    · have q := put_ow (w := w') h5
      rw [← h8, hw] at q
      cases q
      obtain ⟨v, c1, c2⟩ := resL_get x h6
      have c2 : σ[i]? = some (some v) := c2
      obtain ⟨p, d1, d2⟩ := e.own j _ w h7 rfl
      rw [List.map_append, List.getElem?_append_left (by rw [List.length_map]; exact (List.getElem?_eq_some_iff.mp c1).1), List.getElem?_map, c1] at d1
      have d1 : some v = some (V.ref p) := Option.some.inj d1
      cases d1
      exact ⟨p, c2, d2⟩
  · have old : ∀ (i : Nat) (s : Sl) (w : Ow), δ'[i]? = some s → s.ow = some w → ∃ t u, δ[i]? = some t ∧ t.ow = some u := fun i s w h hw => by
      rcases slot i s h with ⟨h, _⟩ | ⟨t, w', j, h4, h5, _⟩
      · exact ⟨s, w, h, hw⟩
      · cases et : t.ow with
        | none => rw [et] at h5; cases h5
        | some u => exact ⟨t, u, h4, et⟩
    obtain ⟨s', w', a1, a2⟩ := old i s w hs hw
    obtain ⟨t', u', b1, b2⟩ := old j t u ht hu
    exact E.apart i j s' t' w' u' q hij a1 a2 b1 b2 h1 h2
  · refine ⟨rfl, ?_⟩
    have hi : i < δ'.length := by rw [b.len]; exact (List.getElem?_eq_some_iff.mp h).1
    rcases slot i _ (List.getElem?_eq_getElem hi) with ⟨h4, _⟩ | ⟨t, w', j, h4, h5, _, _, h8⟩
    · rw [h] at h4
      exact ⟨w, by rw [List.getElem?_eq_getElem hi, ← Option.some.inj h4]⟩
    · rw [h] at h4
      cases h4
      exact ⟨w', by rw [List.getElem?_eq_getElem hi, h8]; rfl⟩
section
variable {k : Nat} {f : Addr} {fd : FuncData} {ps : List Str} {R : List Sl → Out → Prop} {dvs : List V} {dds : List PyData} {ds : List Value} {x : Str} {p pos : Pos} {e : Expr} {es : List Expr} {rs : List Ar} {δc : List Sl}
/-- f(..), that hands back r -/
theorem ev_call {r : Sl} (F : FnOk X.prog X.w X.K X.mg X.base (L2.CX X.prog X.w) k f fd ps (spM X.K T R)) (hr : Room k X.A) (hm : X.mg x = some (.ref f)) (hk : PySem.W.keepIn X.K (.ref f) = true) (hb : Binds X.K fd ps ds) (hd : Vals dvs ds) (hdd : ∀ h, DpAll X.K h dvs dds)
    (ha : AL X T (e :: es) δ rs δ1) (hR : R (rs.map (arSl δ1) ++ dds.map .d) (.ret r δc)) (hbk : Bk δ1 rs δc δ2) (hf : fewLent rs = true := by rfl) (hg : Gl X x := by rfl) (hdb : (x == ("__debug__" : Str)) = false := by decide)
    (he : starEach (e :: es) X.env = (false, eval e X.env) :: starEach es X.env := by rfl) (hpl : (backTo pos (starEach es X.env)).any (·.1) = false := by rfl) : EV X T (.Call (.Name x p) (e :: es) [] pos) δ r δ2 := fun σ H S Q E kk =>
  we_of (pe_call F hr hg hm hk hb hd passL pa_w hdb he hpl) (ha σ H S _ E fun vs H1 S1 g1 e1 p1 r1 => by
    obtain ⟨ec, _⟩ := args_env (dds := dds) e1 r1 hf hdd
    refine ⟨_, _, S1, hR, ec, fun v H' S' g e' rr => ?_⟩
    obtain ⟨g2, e2, p2, dn⟩ := call_back e1 r1 hf hdd g e' hbk
    refine kk v H' S' (g1.trans g2) e2 (p1.trans p2) ?_
    obtain ⟨_, ow⟩ := args_env (dds := dds) e1 r1 hf hdd
    have rr2 : Res X.K H1 (Owned σ δ1) H' S' (Owned σ δ2) r v := by
      cases r with
      | o w =>
        obtain ⟨q, a, b, c, d, f⟩ := rr
        refine ⟨q, a, b, fun z => ?_, d, f.imp (fun z => let ⟨_, _, _, _, t⟩ := ow q z; t) id⟩
        rcases f with f | f
        · -- a lent thing is no new one
          obtain ⟨i, j, h1, h2, _⟩ := ow q f
          obtain ⟨t, w', a1, a2, a3, a4⟩ := hbk.lent i j h1
          obtain ⟨v', c1, c2⟩ := resL_get r1 h1
          have c2 : σ[i]? = some (some v') := c2
          rw [h2] at c2
          cases c2
          refine c ⟨j, _, w', a3, rfl, ?_⟩
          rw [List.map_append, List.getElem?_append_left (by rw [List.length_map]; exact (List.getElem?_eq_some_iff.mp c1).1), List.getElem?_map, c1]
          rfl
        · exact e1.old (dn q z) f
      | _ => exact rr
    exact rr2.back g1.keep g1.ow)
/-- f(..), that raises -/
theorem ex_call {W : WX} {xn : Exn} (tk : Takes X W) (F : FnOk X.prog X.w X.K X.mg X.base (L2.CX X.prog X.w) k f fd ps (spM X.K T R)) (hr : Room k X.A) (hm : X.mg x = some (.ref f)) (hk : PySem.W.keepIn X.K (.ref f) = true) (hb : Binds X.K fd ps [])
    (ha : AL X T (e :: es) δ rs δ1) (hR : R (rs.map (arSl δ1)) (.ex xn δc)) (hbk : Bk δ1 rs δc δ2) (hf : fewLent rs = true := by rfl) (hg : Gl X x := by rfl) (hdb : (x == ("__debug__" : Str)) = false := by decide)
    (he : starEach (e :: es) X.env = (false, eval e X.env) :: starEach es X.env := by rfl) (hpl : (backTo pos (starEach es X.env)).any (·.1) = false := by rfl) : EX X T W (.Call (.Name x p) (e :: es) [] pos) δ xn δ2 := fun σ H S Q E kk =>
  we_of (pe_callS F hr hg hm hk hb (fun σ => passAt tk σ) pa_w hdb he hpl) (ha σ H S _ E fun vs H1 S1 g1 e1 p1 r1 => by
    obtain ⟨ec, _⟩ := args_env (dds := []) (dvs := []) e1 r1 hf (fun _ => .nil)
    simp only [List.append_nil, List.map_nil] at ec
    refine ⟨_, _, S1, hR, ec, fun cls d H' S' g e' i => ?_⟩
    obtain ⟨g2, e2, p2, _⟩ := call_back (dvs := []) (dds := []) e1 r1 hf (fun _ => .nil) (by simpa only [List.append_nil, List.map_nil] using g) (by simpa only [List.append_nil] using e') hbk
    exact kk cls d H' S' (g1.trans g2) e2 (p1.trans p2) i)
end
end
end Sc
namespace Sc
open PySem L2 NdefX
/-- the built-in names that no module hides -/
structure Bi (mg : Str → Option Value) : Prop where
  len : mg "len" = none
  all : mg "all" = none
  any : mg "any" = none
  isinstance : mg "isinstance" = none
  int : mg "int" = none
  str : mg "str" = none
  bool : mg "bool" = none
  tuple : mg "tuple" = none
  list : mg "list" = none
  dict : mg "dict" = none
  set : mg "set" = none
  range : mg "range" = none
  enumerate : mg "enumerate" = none
  zip : mg "zip" = none
  max : mg "max" = none
  min : mg "min" = none
  sum : mg "sum" = none
  sorted : mg "sorted" = none
section
variable {X : Cx} {T : List NTab} {K : PySem.W.Frag} {H H' : Hp} {S S' : Addr → Prop} {σ : St} {δ δ1 δ2 δ3 : List Sl} {e : Expr} {p pos : Pos}
/-! #### built-in functions of one value -/
theorem one_arg {e : Expr} {r : Sl} (h : EV X T e δ r δ1) {H : Hp} {S : Addr → Prop} (E : Env X.K T H S σ δ) {Q : List V → Hp → Prop} (k : ∀ v H' S', Go H S (Owned σ δ) H' S' (Owned σ δ1) → Env X.K T H' S' σ δ1 → Pin σ δ σ δ1 → Res X.K H (Owned σ δ) H' S' (Owned σ δ1) r v → Q [v] H') :
    tCons (wE X e) tNil σ H Q := h σ H S _ E fun v H1 S1 g e p x => k v H1 S1 g e p x
theorem ev_lenS {z : Str} (B : Bi X.mg) (h : EV X T e δ (.d (.str z)) δ1) (hz : z.length ≤ sizeLine) (hg : Gl X "len" := by rfl) (he : starEach [e] X.env = (false, eval e X.env) :: starEach [] X.env := by rfl) (hpl : (backTo pos (starEach [] X.env)).any (·.1) = false := by rfl) :
    EV X T (.Call (.Name "len" p) [e] [] pos) δ (.d (.int (z.length : Nat))) δ1 := fun σ H S Q E k =>
  we_of (pe_callB call_len_str hg B.len PySem.boot_len (pa_cons pe_w pa_nil he) (by decide) (by decide) he hpl) (one_arg h E fun v H1 S1 g e p x => ⟨z, by rw [res_str x], hz, k _ H1 S1 g e p (.int _)⟩)
theorem ev_lenL {ds : List PyData} (B : Bi X.mg) (h : EV X T e δ (.d (.list ds)) δ1) (hg : Gl X "len" := by rfl) (he : starEach [e] X.env = (false, eval e X.env) :: starEach [] X.env := by rfl) (hpl : (backTo pos (starEach [] X.env)).any (·.1) = false := by rfl) :
    EV X T (.Call (.Name "len" p) [e] [] pos) δ (.d (.int (ds.length : Nat))) δ1 := fun σ H S Q E k =>
  we_of (pe_callB call_len_seq hg B.len PySem.boot_len (pa_cons pe_w pa_nil he) (by decide) (by decide) he hpl) (one_arg h E fun v H1 S1 g e p x => by
    obtain ⟨a, xs, rfl, hs, hd⟩ := res_list x
    exact ⟨a, xs, rfl, .inl (sql_real hs), by rw [dpAll_len hd]; exact k _ H1 S1 g e p (.int _)⟩)
theorem ev_lenT {ds : List PyData} (B : Bi X.mg) (h : EV X T e δ (.d (.tuple ds)) δ1) (hg : Gl X "len" := by rfl) (he : starEach [e] X.env = (false, eval e X.env) :: starEach [] X.env := by rfl) (hpl : (backTo pos (starEach [] X.env)).any (·.1) = false := by rfl) :
    EV X T (.Call (.Name "len" p) [e] [] pos) δ (.d (.int (ds.length : Nat))) δ1 := fun σ H S Q E k =>
  we_of (pe_callB call_len_seq hg B.len PySem.boot_len (pa_cons pe_w pa_nil he) (by decide) (by decide) he hpl) (one_arg h E fun v H1 S1 g e p x => by
    obtain ⟨a, xs, rfl, hs, hd⟩ := res_tup x
    exact ⟨a, xs, rfl, .inr (sqt_real hs), by rw [dpAll_len hd]; exact k _ H1 S1 g e p (.int _)⟩)
theorem ev_intI {i : Int} (B : Bi X.mg) (h : EV X T e δ (.d (.int i)) δ1) (hg : Gl X "int" := by rfl) (he : starEach [e] X.env = (false, eval e X.env) :: starEach [] X.env := by rfl) (hpl : (backTo pos (starEach [] X.env)).any (·.1) = false := by rfl) :
    EV X T (.Call (.Name "int" p) [e] [] pos) δ (.d (.int i)) δ1 := fun σ H S Q E k =>
  we_of (pe_callTy call_int1 hg B.int (by decide +kernel) (pa_cons pe_w pa_nil he) (by decide) (by decide) he hpl) (one_arg h E fun v H1 S1 g e p x => .inl ⟨i, by rw [res_int x], k _ H1 S1 g e p (.int _)⟩)
theorem ev_intB {b : Bool} (B : Bi X.mg) (h : EV X T e δ (.d (.bool b)) δ1) (hg : Gl X "int" := by rfl) (he : starEach [e] X.env = (false, eval e X.env) :: starEach [] X.env := by rfl) (hpl : (backTo pos (starEach [] X.env)).any (·.1) = false := by rfl) :
    EV X T (.Call (.Name "int" p) [e] [] pos) δ (.d (.int (if b then 1 else 0))) δ1 := fun σ H S Q E k =>
  we_of (pe_callTy call_int1 hg B.int (by decide +kernel) (pa_cons pe_w pa_nil he) (by decide) (by decide) he hpl) (one_arg h E fun v H1 S1 g e p x => .inr ⟨b, by rw [res_bool x], k _ H1 S1 g e p (.int _)⟩)
theorem ev_all {bs : List Bool} (B : Bi X.mg) (hc : X.calm = true) (h : EV X T e δ (.d (.list (bs.map .bool))) δ1) (hg : Gl X "all" := by rfl) (he : starEach [e] X.env = (false, eval e X.env) :: starEach [] X.env := by rfl) (hpl : (backTo pos (starEach [] X.env)).any (·.1) = false := by rfl) :
    EV X T (.Call (.Name "all" p) [e] [] pos) δ (.d (.bool (bs.all id))) δ1 := fun σ H S Q E k =>
  we_of (pe_callB (cr_all hc) hg B.all (by decide +kernel) (pa_cons pe_w pa_nil he) (by decide) (by decide) he hpl) (one_arg h E fun v H1 S1 g e p x => by
    obtain ⟨a, xs, rfl, hs, hd⟩ := res_list x
    rw [all_bools hd] at hs
    exact ⟨a, bs, rfl, sql_real hs, k _ H1 S1 g e p (.bl _)⟩)
theorem ev_any {bs : List Bool} (B : Bi X.mg) (hc : X.calm = true) (h : EV X T e δ (.d (.list (bs.map .bool))) δ1) (hg : Gl X "any" := by rfl) (he : starEach [e] X.env = (false, eval e X.env) :: starEach [] X.env := by rfl) (hpl : (backTo pos (starEach [] X.env)).any (·.1) = false := by rfl) :
    EV X T (.Call (.Name "any" p) [e] [] pos) δ (.d (.bool (bs.any id))) δ1 := fun σ H S Q E k =>
  we_of (pe_callB (cr_any hc) hg B.any (by decide +kernel) (pa_cons pe_w pa_nil he) (by decide) (by decide) he hpl) (one_arg h E fun v H1 S1 g e p x => by
    obtain ⟨a, xs, rfl, hs, hd⟩ := res_list x
    rw [all_bools hd] at hs
    exact ⟨a, bs, rfl, sql_real hs, k _ H1 S1 g e p (.bl _)⟩)
theorem ev_sum {ns : List Int} (B : Bi X.mg) (hc : X.calm = true) (h : EV X T e δ (.d (.list (ns.map .int))) δ1) (hg : Gl X "sum" := by rfl) (he : starEach [e] X.env = (false, eval e X.env) :: starEach [] X.env := by rfl) (hpl : (backTo pos (starEach [] X.env)).any (·.1) = false := by rfl) :
    EV X T (.Call (.Name "sum" p) [e] [] pos) δ (.d (.int ns.sum)) δ1 := fun σ H S Q E k =>
  we_of (pe_callB (cr_sum hc) hg B.sum (by decide +kernel) (pa_cons pe_w pa_nil he) (by decide) (by decide) he hpl) (one_arg h E fun v H1 S1 g e p x => by
    obtain ⟨a, xs, rfl, hs, hd⟩ := res_list x
    rw [all_ints hd] at hs
    exact ⟨a, ns, rfl, sql_real hs, k _ H1 S1 g e p (.int _)⟩)
/-- tuple(a list), tuple(a tuple), list(a list), list(a tuple) -/
theorem ev_tupL {ds : List PyData} (B : Bi X.mg) (h : EV X T e δ (.d (.list ds)) δ1) (hg : Gl X "tuple" := by rfl) (he : starEach [e] X.env = (false, eval e X.env) :: starEach [] X.env := by rfl) (hpl : (backTo pos (starEach [] X.env)).any (·.1) = false := by rfl) :
    EV X T (.Call (.Name "tuple" p) [e] [] pos) δ (.d (.tuple ds)) δ1 := fun σ H S Q E k =>
  we_of (pe_callTy call_tuple_of hg B.tuple (by decide +kernel) (pa_cons pe_w pa_nil he) (by decide) (by decide) he hpl) (one_arg h E fun v H1 S1 g e p x => by
    obtain ⟨a, xs, rfl, hs, hd⟩ := res_list x
    refine ⟨a, xs, rfl, .inl ⟨sql_real hs, fun l hl => ?_⟩⟩
    obtain ⟨g2, e2, x2⟩ := new_tup e hl hd
    exact k _ _ _ (g.trans g2) e2 p x2)
theorem ev_tupT {ds : List PyData} (B : Bi X.mg) (h : EV X T e δ (.d (.tuple ds)) δ1) (hg : Gl X "tuple" := by rfl) (he : starEach [e] X.env = (false, eval e X.env) :: starEach [] X.env := by rfl) (hpl : (backTo pos (starEach [] X.env)).any (·.1) = false := by rfl) :
    EV X T (.Call (.Name "tuple" p) [e] [] pos) δ (.d (.tuple ds)) δ1 := fun σ H S Q E k =>
  we_of (pe_callTy call_tuple_of hg B.tuple (by decide +kernel) (pa_cons pe_w pa_nil he) (by decide) (by decide) he hpl) (one_arg h E fun v H1 S1 g e p x => by
    obtain ⟨a, xs, rfl, hs, hd⟩ := res_tup x
    exact ⟨a, xs, rfl, .inr ⟨sqt_real hs, k _ H1 S1 g e p (.tup hs hd)⟩⟩)
theorem ev_lstL {ds : List PyData} (B : Bi X.mg) (h : EV X T e δ (.d (.list ds)) δ1) (hg : Gl X "list" := by rfl) (he : starEach [e] X.env = (false, eval e X.env) :: starEach [] X.env := by rfl) (hpl : (backTo pos (starEach [] X.env)).any (·.1) = false := by rfl) :
    EV X T (.Call (.Name "list" p) [e] [] pos) δ (.o (.lst ds)) δ1 := fun σ H S Q E k =>
  we_of (pe_callTy call_list_of hg B.list (by decide +kernel) (pa_cons pe_w pa_nil he) (by decide) (by decide) he hpl) (one_arg h E fun v H1 S1 g e p x => by
    obtain ⟨a, xs, rfl, hs, hd⟩ := res_list x
    refine ⟨a, xs, rfl, .inl (sql_real hs), fun l hl => ?_⟩
    obtain ⟨g2, e2, x2⟩ := new_lsto e hl hd
    exact k _ _ _ (g.trans g2) e2 p (x2.back g.keep g.ow))
theorem ev_lstT {ds : List PyData} (B : Bi X.mg) (h : EV X T e δ (.d (.tuple ds)) δ1) (hg : Gl X "list" := by rfl) (he : starEach [e] X.env = (false, eval e X.env) :: starEach [] X.env := by rfl) (hpl : (backTo pos (starEach [] X.env)).any (·.1) = false := by rfl) :
    EV X T (.Call (.Name "list" p) [e] [] pos) δ (.o (.lst ds)) δ1 := fun σ H S Q E k =>
  we_of (pe_callTy call_list_of hg B.list (by decide +kernel) (pa_cons pe_w pa_nil he) (by decide) (by decide) he hpl) (one_arg h E fun v H1 S1 g e p x => by
    obtain ⟨a, xs, rfl, hs, hd⟩ := res_tup x
    refine ⟨a, xs, rfl, .inr (sqt_real hs), fun l hl => ?_⟩
    obtain ⟨g2, e2, x2⟩ := new_lsto e hl hd
    exact k _ _ _ (g.trans g2) e2 p (x2.back g.keep g.ow))
/-- list(a text): its signs -/
def signs (z : Str) : List Str := z.cps.toList.map fun c => ⟨#[c]⟩
theorem items_vals {x : Str} : ∀ {vs : Array Value}, ItemsOf (SignAt x) vs x.cps.size → Vals ((signs x).map V.str) vs.toList := by
  intro vs h
  obtain ⟨hl, hi⟩ := h
  have key : ∀ (l : List Value) (m : List Str), l.length = m.length → (∀ (i : Nat) (v : Value) (y : Str), l[i]? = some v → m[i]? = some y → RelV (.str y) v) → Vals (m.map V.str) l := by
    intro l
    induction l with
    | nil => intro m hm _; cases m with
      | nil => exact .nil
      | cons _ _ => simp at hm
    | cons a l ih =>
      intro m hm hr
      cases m with
      | nil => simp at hm
      | cons b m => exact .cons (hr 0 a b rfl rfl) (ih m (by simpa using hm) fun i v y h1 h2 => hr (i + 1) v y (by simpa using h1) (by simpa using h2))
  refine key _ _ ?_ fun i v y h1 h2 => ?_
  · unfold signs
    simp [hl]
  · have hv : vs[i]? = some v := by rw [← Array.getElem?_toList]; exact h1
    have q := hi i v hv
    unfold signs at h2
    rw [List.getElem?_map] at h2
    have q2 : ∃ c t, x.cps[i]? = some c ∧ v = .str ⟨#[c]⟩ t := q
    obtain ⟨c, t, e1, e2⟩ := q2
    rw [Array.getElem?_toList, e1] at h2
    cases h2
    exact ⟨t, e2⟩
def rListS : List V → Hp → VK → Prop := fun xs H Q => ∃ z : Str, xs = [.str z] ∧ z.length ≤ sizeLine ∧ ∀ l, H l = none → Q (.ref l) (upd H l (.lst ((signs z).map V.str)))
theorem call_listS (hc : X.calm = true) : CallR X (.type "list") rListS := by
  intro pins s σ H xs us Q I r h
  obtain ⟨z, rfl, hz, q⟩ := h
  obtain ⟨u, rfl, ru⟩ := r.one
  obtain ⟨t, rfl⟩ := ru
  refine PySem.call_list_str (I.ok.hd hc) z t (fun h' tk acc' c' hk hg hi => ?_) hz
  have hs : ((signs z).map V.str).length ≤ sizeLine := by
    unfold signs
    rw [List.length_map, List.length_map, Array.length_toList]
    exact hz
  exact ⟨.ref _, _, I.laid (o := .lst ((signs z).map V.str)) (t' := tk) hk (Nat.le_refl _) ⟨hs, acc'.toList, c', items_vals hi, by simpa using hg⟩, rfl, q _ I.fresh⟩
theorem ev_lstS {z : Str} (B : Bi X.mg) (hc : X.calm = true) (h : EV X T e δ (.d (.str z)) δ1) (hz : z.length ≤ sizeLine) (hg : Gl X "list" := by rfl) (he : starEach [e] X.env = (false, eval e X.env) :: starEach [] X.env := by rfl) (hpl : (backTo pos (starEach [] X.env)).any (·.1) = false := by rfl) :
    EV X T (.Call (.Name "list" p) [e] [] pos) δ (.o (.lst ((signs z).map .str))) δ1 := fun σ H S Q E k =>
  we_of (pe_callTy (call_listS hc) hg B.list (by decide +kernel) (pa_cons pe_w pa_nil he) (by decide) (by decide) he hpl) (one_arg h E fun v H1 S1 g e p x => by
    refine ⟨z, by rw [res_str x], hz, fun l hl => ?_⟩
    obtain ⟨g2, e2, x2⟩ := new_lsto e hl (strs_all (signs z))
    exact k _ _ _ (g.trans g2) e2 p (x2.back g.keep g.ow))
/-! #### isinstance -/
def tyD : PyData → String
  | .none => "NoneType"
  | .bool _ => "bool"
  | .int _ => "int"
  | .str _ => "str"
  | .list _ => "list"
  | .tuple _ => "tuple"
  | .dict _ => "dict"
def instN (c t : String) : Bool := c == t || (c == "int" && t == "bool")
def instD (c : String) (d : PyData) : Bool := instN c (tyD d)
theorem ty_mem (d : PyData) : tyD d ∈ ["NoneType", "bool", "int", "str", "list", "tuple", "dict"] := by cases d <;> simp [tyD]
theorem ty_dp {v : V} {d : PyData} (h : Dp K H v d) : TyX K H v (.type (tyD d)) := by
  cases h with
  | non => exact .base .non
  | bl b => exact .base (.bl b)
  | int i => exact .base (.int i)
  | str x => exact .base (.str x)
  | lst s _ =>
    rcases s with (s | ⟨o, s⟩) | ⟨o, _, _, s, c, _⟩
    · exact .base (.lst s)
    · exact .base (.frz s)
    · exact .kList s c
  | tup s _ =>
    rcases s with (s | ⟨o, s⟩) | ⟨o, _, _, s, c, _⟩
    · exact .base (.tup s)
    · exact .fTuple s
    · exact .kTuple s c
theorem kit_int (d : PyData) : kitB (tyD d) "int" = some (instD "int" d) := (show ∀ t ∈ ["NoneType", "bool", "int", "str", "list", "tuple", "dict"], kitB t "int" = some (instN "int" t) from by decide +kernel) _ (ty_mem d)
theorem kit_bool (d : PyData) : kitB (tyD d) "bool" = some (instD "bool" d) := (show ∀ t ∈ ["NoneType", "bool", "int", "str", "list", "tuple", "dict"], kitB t "bool" = some (instN "bool" t) from by decide +kernel) _ (ty_mem d)
theorem kit_str (d : PyData) : kitB (tyD d) "str" = some (instD "str" d) := (show ∀ t ∈ ["NoneType", "bool", "int", "str", "list", "tuple", "dict"], kitB t "str" = some (instN "str" t) from by decide +kernel) _ (ty_mem d)
theorem kit_list (d : PyData) : kitB (tyD d) "list" = some (instD "list" d) := (show ∀ t ∈ ["NoneType", "bool", "int", "str", "list", "tuple", "dict"], kitB t "list" = some (instN "list" t) from by decide +kernel) _ (ty_mem d)
theorem kit_tuple (d : PyData) : kitB (tyD d) "tuple" = some (instD "tuple" d) := (show ∀ t ∈ ["NoneType", "bool", "int", "str", "list", "tuple", "dict"], kitB t "tuple" = some (instN "tuple" t) from by decide +kernel) _ (ty_mem d)
theorem kit_dict (d : PyData) : kitB (tyD d) "dict" = some (instD "dict" d) := (show ∀ t ∈ ["NoneType", "bool", "int", "str", "list", "tuple", "dict"], kitB t "dict" = some (instN "dict" t) from by decide +kernel) _ (ty_mem d)
theorem ev_isi {d : PyData} {c : String} {x : Str} {pc : Pos} (B : Bi X.mg) (h : EV X T e δ (.d d) δ1) (hk : kitB (tyD d) c = some (instD c d)) (hm : X.mg x = none) (hv : bootBuiltins x = some (.type c)) (hgc : Gl X x := by rfl) (hn : x ≠ "__name__" := by decide) (hd : (x == ("__debug__" : Str)) = false := by decide)
    (hg : Gl X "isinstance" := by rfl) (he2 : starEach [.Name x pc] X.env = (false, eval (.Name x pc) X.env) :: starEach [] X.env := by rfl) (he : starEach [e, .Name x pc] X.env = (false, eval e X.env) :: starEach [.Name x pc] X.env := by rfl) (hpl : (backTo pos (starEach [.Name x pc] X.env)).any (·.1) = false := by rfl) :
    EV X T (.Call (.Name "isinstance" p) [e, .Name x pc] [] pos) δ (.d (.bool (instD c d))) δ1 := fun σ H S Q E k =>
  we_of (pe_callB call_isi hg B.isinstance (by decide +kernel) (pa_cons pe_w (pa_cons (pe_bltn hgc hm hv (v := .ty c) rfl hn hd) pa_nil he2) he) (by decide) (by decide) he hpl) (h σ H S _ E fun v H1 S1 g e p x => by
    exact ⟨v, .ty c, _, _, _, rfl, .ty c, ty_dp (dp_real x), kit_ty hk, k _ H1 S1 g e p (.bl _)⟩)
/-- isinstance(e, (A, B)) -/
theorem ev_isi2 {d : PyData} {c1 c2 : String} {x1 x2 : Str} {p1 p2 p3 : Pos} {xk : Nat} (B : Bi X.mg) (h : EV X T e δ (.d d) δ1) (hk1 : kitB (tyD d) c1 = some (instD c1 d)) (hk2 : kitB (tyD d) c2 = some (instD c2 d)) (hm1 : X.mg x1 = none) (hm2 : X.mg x2 = none) (hv1 : bootBuiltins x1 = some (.type c1)) (hv2 : bootBuiltins x2 = some (.type c2))
    (hg1 : Gl X x1 := by rfl) (hg2 : Gl X x2 := by rfl) (hn1 : x1 ≠ "__name__" := by decide) (hn2 : x2 ≠ "__name__" := by decide) (hd1 : (x1 == ("__debug__" : Str)) = false := by decide) (hd2 : (x2 == ("__debug__" : Str)) = false := by decide) (hg : Gl X "isinstance" := by rfl)
    (hs1 : starEach [.Name x1 p1, .Name x2 p2] X.env = (false, eval (.Name x1 p1) X.env) :: starEach [.Name x2 p2] X.env := by rfl) (hs2 : starEach [.Name x2 p2] X.env = (false, eval (.Name x2 p2) X.env) :: starEach [] X.env := by rfl)
    (he2 : starEach [.Tuple [.Name x1 p1, .Name x2 p2] xk p3] X.env = (false, eval (.Tuple [.Name x1 p1, .Name x2 p2] xk p3) X.env) :: starEach [] X.env := by rfl) (he : starEach [e, .Tuple [.Name x1 p1, .Name x2 p2] xk p3] X.env = (false, eval e X.env) :: starEach [.Tuple [.Name x1 p1, .Name x2 p2] xk p3] X.env := by rfl)
    (hpl : (backTo pos (starEach [.Tuple [.Name x1 p1, .Name x2 p2] xk p3] X.env)).any (·.1) = false := by rfl) :
    EV X T (.Call (.Name "isinstance" p) [e, .Tuple [.Name x1 p1, .Name x2 p2] xk p3] [] pos) δ (.d (.bool (instD c1 d || instD c2 d))) δ1 := fun σ H S Q E k =>
  we_of (pe_callB call_isiT hg B.isinstance (by decide +kernel) (pa_cons pe_w (pa_cons (pe_tup (pa_cons (pe_bltn hg1 hm1 hv1 (v := .ty c1) rfl hn1 hd1) (pa_cons (pe_bltn hg2 hm2 hv2 (v := .ty c2) rfl hn2 hd2) pa_nil hs2) hs1)) pa_nil he2) he) (by decide) (by decide) he hpl) (h σ H S _ E fun v H1 S1 g e p x => by
    refine ⟨by show 2 ≤ sizeLine; decide, fun q hq => ?_⟩
    obtain ⟨g2, e2, _, m⟩ := new_d (o := .tup [.ty c1, .ty c2]) e hq rfl
    refine ⟨v, q, _, _, _, _, rfl, upd_same, .cons (.ty c1) (.cons (.ty c2) .nil), ty_dp (dp_real (dp_mono m x)), kitAny_cons (kit_ty hk1) (fun z => ?_) (fun z => by rw [z]; rfl), k _ _ _ (g.trans g2) e2 p (.bl _)⟩
    rw [z, Bool.false_or]
    exact kitAny_cons (kit_ty hk2) (fun z => by rw [z]; exact kitAny_nil) (fun z => z)
  )
/-! #### the greatest, the least of a list -/
def rMaxD (K : PySem.W.Frag) (max : Bool) : List V → Hp → VK → Prop := fun vs H Q => ∃ (a : Addr) (xs : List V) (d : PyData) (ds : List PyData), vs = [V.ref a] ∧ SqL K H a xs ∧ DpAll K H xs (d :: ds) ∧ PySem.W.AlikeAll (d :: ds) ∧ PyData.depthAll (d :: ds) ≤ 64 ∧ ∀ (i : Nat) (v : V) (y : PyData), xs[i]? = some v → (d :: ds)[i]? = some y → y = (if max then PySem.W.maxD d ds else PySem.W.minD d ds) → Q v H
theorem best_at {s : Shared} {pins : List (Addr × Obj)} {xs : List V} {its : List Value} {d best : PyData} {ds : List PyData} (I : Inv X pins σ H s) (hd : DpAll X.K H xs (d :: ds)) (rv : Vals xs its) (ha : PySem.W.AlikeAll (d :: ds)) (hb : best ∈ d :: ds) {i : Nat} {v : Value} {h' : Heap} {bs : List Addr} (hi : its.toArray[i]? = some v) (hr : Reads h' v best bs) (hk : ∀ b o, s.heap.get? b = some o → h'.get? b = some o) :
    ∃ w, xs[i]? = some w ∧ RelV w v ∧ (d :: ds)[i]? = some best := by
  have hi' : its[i]? = some v := by simpa using hi
  have hlx : i < xs.length := by
    rw [rv.length]
    exact (List.getElem?_eq_some_iff.mp hi').1
  obtain ⟨u, h1, h2⟩ := rv.get (List.getElem?_eq_getElem hlx)
  rw [hi'] at h1
  cases h1
  obtain ⟨y, h3, h4⟩ := dpAll_get' hd (List.getElem?_eq_getElem hlx)
  obtain ⟨as, h5⟩ := Dp.reads I y _ v h4 h2
  have e : y = best := PySem.W.alike_unique y best v as bs (ha.1 y (List.mem_of_getElem? h3) best hb) (PyProof.Rows.Reads.keeps hk h5) hr
  exact ⟨_, List.getElem?_eq_getElem hlx, h2, by rw [h3, e]⟩
theorem minD_mem (d : PyData) : ∀ ds : List PyData, PySem.W.minD d ds ∈ d :: ds := by
  intro ds
  unfold PySem.W.minD
  induction ds generalizing d with
  | nil => exact List.mem_cons_self
  | cons a r ih =>
    rw [List.foldl_cons]
    by_cases h : PySem.W.dataLt a d = true
    · rw [if_pos h]
      exact List.mem_cons_of_mem _ (ih a)
    · rw [if_neg h]
      rcases List.mem_cons.mp (ih d) with e | e
      · rw [e]
        exact List.mem_cons_self
      · exact List.mem_cons_of_mem _ (List.mem_cons_of_mem _ e)
theorem maxD_mem (d : PyData) : ∀ ds : List PyData, PySem.W.maxD d ds ∈ d :: ds := by
  intro ds
  unfold PySem.W.maxD
  induction ds generalizing d with
  | nil => exact List.mem_cons_self
  | cons a r ih =>
    rw [List.foldl_cons]
    by_cases h : PySem.W.dataLt d a = true
    · rw [if_pos h]
      exact List.mem_cons_of_mem _ (ih a)
    · rw [if_neg h]
      rcases List.mem_cons.mp (ih d) with e | e
      · rw [e]
        exact List.mem_cons_self
      · exact List.mem_cons_of_mem _ (List.mem_cons_of_mem _ e)
theorem cr_minD (hc : X.calm = true) (hu : X.A.units + 66 < cLine) : CallR X (.builtin "min") (rMaxD X.K false) := by
  intro pins s σ H vs us Q I r h
  obtain ⟨a, xs, d, ds, rfl, hs, hd, ha, hz, q⟩ := h
  obtain ⟨u, rfl, ru⟩ := r.one
  cases ru
  obtain ⟨its, rv, pl, _⟩ := I.list hs
  obtain ⟨as, hr⟩ := Dp.readsAll I _ _ its hd rv
  refine PySem.W.min_list_data (I.ok.hd hc) pl.isList (by simpa using hr) ha (by omega) fun i v h' tk bs hi hrd hk => ?_
  obtain ⟨w, h1, h2, h3⟩ := best_at I hd rv ha (minD_mem d ds) hi hrd hk
  exact ⟨w, H, I.kept (t' := tk) hk, h2, q i w _ h1 h3 rfl⟩
theorem cr_maxD (hc : X.calm = true) (hu : X.A.units + 66 < cLine) : CallR X (.builtin "max") (rMaxD X.K true) := by
  intro pins s σ H vs us Q I r h
  obtain ⟨a, xs, d, ds, rfl, hs, hd, ha, hz, q⟩ := h
  obtain ⟨u, rfl, ru⟩ := r.one
  cases ru
  obtain ⟨its, rv, pl, _⟩ := I.list hs
  obtain ⟨as, hr⟩ := Dp.readsAll I _ _ its hd rv
  refine PySem.W.max_list_data (I.ok.hd hc) pl.isList (by simpa using hr) ha (by omega) fun i v h' tk bs hi hrd hk => ?_
  obtain ⟨w, h1, h2, h3⟩ := best_at I hd rv ha (maxD_mem d ds) hi hrd hk
  exact ⟨w, H, I.kept (t' := tk) hk, h2, q i w _ h1 h3 rfl⟩
theorem ev_min {d : PyData} {ds : List PyData} (B : Bi X.mg) (hc : X.calm = true) (hu : X.A.units + 66 < cLine) (h : EV X T e δ (.d (.list (d :: ds))) δ1) (ha : PySem.W.AlikeAll (d :: ds)) (hz : PyData.depthAll (d :: ds) ≤ 64) (hg : Gl X "min" := by rfl) (he : starEach [e] X.env = (false, eval e X.env) :: starEach [] X.env := by rfl) (hpl : (backTo pos (starEach [] X.env)).any (·.1) = false := by rfl) :
    EV X T (.Call (.Name "min" p) [e] [] pos) δ (.d (PySem.W.minD d ds)) δ1 := fun σ H S Q E k =>
  we_of (pe_callB (cr_minD hc hu) hg B.min (by decide +kernel) (pa_cons pe_w pa_nil he) (by decide) (by decide) he hpl) (one_arg h E fun v H1 S1 g e p x => by
    obtain ⟨a, xs, rfl, hs, hd⟩ := res_list x
    refine ⟨a, xs, d, ds, rfl, sql_real hs, dpAll_real hd, ha, hz, fun i v y h1 h2 h3 => ?_⟩
    obtain ⟨w, h4, h5⟩ := dpAll_get hd h2
    rw [h1] at h4
    cases h4
    rw [h3] at h5
    exact k _ H1 S1 g e p h5)
theorem ev_max {d : PyData} {ds : List PyData} (B : Bi X.mg) (hc : X.calm = true) (hu : X.A.units + 66 < cLine) (h : EV X T e δ (.d (.list (d :: ds))) δ1) (ha : PySem.W.AlikeAll (d :: ds)) (hz : PyData.depthAll (d :: ds) ≤ 64) (hg : Gl X "max" := by rfl) (he : starEach [e] X.env = (false, eval e X.env) :: starEach [] X.env := by rfl) (hpl : (backTo pos (starEach [] X.env)).any (·.1) = false := by rfl) :
    EV X T (.Call (.Name "max" p) [e] [] pos) δ (.d (PySem.W.maxD d ds)) δ1 := fun σ H S Q E k =>
  we_of (pe_callB (cr_maxD hc hu) hg B.max (by decide +kernel) (pa_cons pe_w pa_nil he) (by decide) (by decide) he hpl) (one_arg h E fun v H1 S1 g e p x => by
    obtain ⟨a, xs, rfl, hs, hd⟩ := res_list x
    refine ⟨a, xs, d, ds, rfl, sql_real hs, dpAll_real hd, ha, hz, fun i v y h1 h2 h3 => ?_⟩
    obtain ⟨w, h4, h5⟩ := dpAll_get hd h2
    rw [h1] at h4
    cases h4
    rw [h3] at h5
    exact k _ H1 S1 g e p h5)
end
end Sc
namespace Sc
open PySem L2 NdefX
section
variable {X : Cx} {T : List NTab} {K : PySem.W.Frag} {H H' : Hp} {S S' : Addr → Prop} {σ : St} {δ δ1 δ2 δ3 : List Sl} {e : Expr} {p pos : Pos}
/-! #### lists added, repeated -/
def rCatD (K : PySem.W.Frag) : R2 := fun x y H Q => ∃ a b xs ys, x = .ref a ∧ y = .ref b ∧ SqL K H a xs ∧ SqL K H b ys ∧ xs.length + ys.length ≤ sizeLine ∧ ∀ q, H q = none → Q (.ref q) (upd H q (.lst (xs ++ ys)))
theorem op_catD : OpR X (binaryOp .Add) (rCatD X.K) := by
  intro pins s σ H x y v u Q I rx ry h
  obtain ⟨a, b, xs, ys, rfl, rfl, ha, hb, hz, q⟩ := h
  cases rx
  cases ry
  obtain ⟨vs, r1, ⟨⟨c1, d1, t1, l1⟩, n1, g1, k1, e1, f1⟩, _⟩ := I.list ha
  obtain ⟨ws, r2, ⟨⟨c2, d2, t2, l2⟩, n2, g2, k2, e2, f2⟩, _⟩ := I.list hb
  simp only at k1 e1 f1 k2 e2 f2
  subst k1 e1 f1 k2 e2 f2
  have hsz : vs.toArray.size + ws.toArray.size ≤ sizeLine := by
    rw [List.size_toArray, List.size_toArray, ← r1.length, ← r2.length]
    exact hz
  have ee : vs.toArray ++ ws.toArray = (vs ++ ws).toArray := by simp
  refine concat_meets ⟨_, g1, rfl⟩ ⟨_, g2, rfl⟩ noFill_list_add seq_list_add PySem.F.slot_list_add PySem.F.entry_list_add (PySem.F.args_list_add_2 _ _) (PyProof.Rows.list_addW a b vs.toArray ws.toArray n1 n2 none none l1 l2 hsz) ⟨g1, g2, ?_⟩
  rw [ee]
  exact ⟨.ref _, _, I.lnew (t' := s.toks) (r1.append r2) (by rw [List.length_append]; exact hz), rfl, q _ I.fresh⟩
theorem ev_cat {a b : Expr} {xs ys : List PyData} (ha : EV X T a δ (.d (.list xs)) δ1) (hb : EV X T b δ1 (.d (.list ys)) δ2) (hz : xs.length + ys.length ≤ sizeLine) : EV X T (.BinOp a .Add b pos) δ (.o (.lst (xs ++ ys))) δ2 := fun σ H S Q E k =>
  we_of (pe_op op_catD pe_w pe_w) (two ha hb E fun v1 v2 H' S' g e p r1 r2 => by
    obtain ⟨a, vs, rfl, hs, hd⟩ := res_list r1
    obtain ⟨b, ws, rfl, hs2, hd2⟩ := res_list r2
    refine ⟨a, b, vs, ws, rfl, rfl, sql_real hs, sql_real hs2, by rw [dpAll_len hd, dpAll_len hd2]; exact hz, fun q hq => ?_⟩
    obtain ⟨g2, e2, x2⟩ := new_lsto e hq (dpAll_app hd hd2)
    exact k _ _ _ (g.trans g2) e2 p (x2.back g.keep g.ow))
theorem ev_catT {a b : Expr} {xs ys : List PyData} (ha : EV X T a δ (.d (.tuple xs)) δ1) (hb : EV X T b δ1 (.d (.tuple ys)) δ2) (hz : xs.length + ys.length ≤ sizeLine) : EV X T (.BinOp a .Add b pos) δ (.d (.tuple (xs ++ ys))) δ2 := fun σ H S Q E k =>
  we_of (pe_op op_catA pe_w pe_w) (two ha hb E fun v1 v2 H' S' g e p r1 r2 => by
    obtain ⟨a, vs, rfl, hs, hd⟩ := res_tup r1
    obtain ⟨b, ws, rfl, hs2, hd2⟩ := res_tup r2
    refine ⟨a, b, vs, ws, rfl, rfl, sqt_real hs, sqt_real hs2, by rw [dpAll_len hd, dpAll_len hd2]; exact hz, fun z => ?_, fun _ z => ?_, fun _ _ q hq => ?_⟩
    · subst z
      cases hd
      exact k _ H' S' g e p (.tup hs2 hd2)
    · subst z
      cases hd2
      rw [List.append_nil] at k
      exact k _ H' S' g e p (.tup hs hd)
    · obtain ⟨g2, e2, x2⟩ := new_tup e hq (dpAll_app hd hd2)
      exact k _ _ _ (g.trans g2) e2 p x2)
def rRepD (K : PySem.W.Frag) : R2 := fun x y H Q => ∃ a n xs, x = .ref a ∧ y = .int n ∧ SqL K H a xs ∧ -(2 ^ 63) ≤ n ∧ n < 2 ^ 63 ∧ xs.length * n.toNat ≤ sizeLine ∧ ∀ q, H q = none → Q (.ref q) (upd H q (.lst (List.replicate n.toNat xs).flatten))
theorem op_repD : OpR X (binaryOp .Mult) (rRepD X.K) := by
  intro pins s σ H x y v u Q I rx ry h
  obtain ⟨a, n, xs, rfl, rfl, ha, h1, h2, hz, q⟩ := h
  cases rx
  obtain ⟨t, rfl⟩ := ry
  obtain ⟨vs, r1, ⟨⟨c1, d1, t1, l1⟩, n1, g1, k1, e1, f1⟩, _⟩ := I.list ha
  simp only at k1 e1 f1
  subst k1 e1 f1
  have hsz : vs.toArray.size * n.toNat ≤ sizeLine := by
    rw [List.size_toArray, ← r1.length]
    exact hz
  have hsz' : vs.toArray.size * n.toNat ≤ 2 ^ 24 := by
    rw [sizeLine_eq] at hsz
    exact hsz
  refine wpAny_binaryOp_repeat_ref (T := "list") (U := "int") (by decide) ⟨_, g1, rfl⟩ (fun s' => typeIs_int s' n t) PySem.noFill_list_mul F.fills_int_mul F.slot_int_rmul PySem.repeat_list F.slot_int_index.lookup
    (call_meets F.slot_int_rmul (typeIs_int s n t) F.entry_int_rmul (F.args_int_rmul_2 _ _) (PySem.lm_int_rmul_list_any n t a vs.toArray n1 none l1)
      ⟨g1, rfl, ⟨_, g1, rfl⟩, call_meets F.slot_list_mul ⟨_, g1, rfl⟩ F.entry_list_mul (F.args_list_mul_2 _ _)
        (PySem.lm_list_mul_any a vs.toArray n1 none l1 n t (by simp [Builtin.List.listFitsIndex]; omega) (by omega) (by simp [Builtin.List.listTooLong]; omega)) ⟨g1, ?_⟩⟩)
  rw [PyProof.Rows.listMul_foldl_if]
  have r2 : Vals (List.replicate n.toNat xs).flatten (List.replicate n.toNat vs).flatten := Vals.rep r1 n.toNat
  have hl : (List.replicate n.toNat xs).flatten.length ≤ sizeLine := by
    rw [PyProof.Rows.lm_len_rep_flat, Nat.mul_comm]
    exact hz
  exact ⟨.ref _, _, I.lnew (t' := s.toks) (its := (List.replicate n.toNat vs).flatten) r2 hl, rfl, q _ I.fresh⟩
theorem dpAll_rep {xs : List V} {ds : List PyData} (h : DpAll K H xs ds) : ∀ n : Nat, DpAll K H (List.replicate n xs).flatten (List.replicate n ds).flatten
  | 0 => .nil
  | n + 1 => by
    rw [List.replicate_succ, List.replicate_succ, List.flatten_cons, List.flatten_cons]
    exact dpAll_app h (dpAll_rep h n)
theorem ev_rep {a b : Expr} {xs : List PyData} {n : Int} (ha : EV X T a δ (.d (.list xs)) δ1) (hb : EV X T b δ1 (.d (.int n)) δ2) (h1 : -(2 ^ 63) ≤ n) (h2 : n < 2 ^ 63) (hz : xs.length * n.toNat ≤ sizeLine) : EV X T (.BinOp a .Mult b pos) δ (.o (.lst (List.replicate n.toNat xs).flatten)) δ2 := fun σ H S Q E k =>
  we_of (pe_op op_repD pe_w pe_w) (two ha hb E fun v1 v2 H' S' g e p r1 r2 => by
    obtain ⟨a, vs, rfl, hs, hd⟩ := res_list r1
    refine ⟨a, n, vs, rfl, res_int r2, sql_real hs, h1, h2, by rw [dpAll_len hd]; exact hz, fun q hq => ?_⟩
    obtain ⟨g2, e2, x2⟩ := new_lsto e hq (dpAll_rep hd n.toNat)
    exact k _ _ _ (g.trans g2) e2 p (x2.back g.keep g.ow))
/-! #### texts' methods -/
theorem ev_join {o : Expr} {a : Str} {ys : List Str} {apos : Pos} (ho : EV X T o δ (.d (.str a)) δ1) (he : EV X T e δ1 (.d (.list (ys.map .str))) δ2) (hz : (ys.map (·.length)).sum + ys.length * a.length ≤ 16777216)
    (hs : starEach [e] X.env = [(false, eval e X.env)] := by rfl) (hbase : attributeBase o "join" X.env (eval o X.env) = eval o X.env := by rfl) (hline : (apos.endLine == pos.line) = true := by rfl) : EV X T (.Call (.Attribute o "join" apos) [e] [] pos) δ (.d (.str (Txt.join a ys))) δ2 := fun σ H S Q E k =>
  we_of (pe_join pe_w pe_w hs hbase hline) (ho σ H S _ E fun v1 H1 S1 g1 e1 p1 r1 => ⟨⟨a, res_str r1⟩, he σ H1 S1 _ e1 fun v2 H2 S2 g2 e2 p2 r2 => by
    obtain ⟨q, xs, rfl, hq, hd⟩ := res_list r2
    rw [all_strs hd] at hq
    exact ⟨a, q, ys, res_str r1, rfl, .inl (sql_real hq), hz, k _ H2 S2 (g1.trans g2) e2 (p1.trans p2) (.str _)⟩⟩)
theorem ev_startswith {o : Expr} {a b : Str} {apos : Pos} (ho : EV X T o δ (.d (.str a)) δ1) (he : EV X T e δ1 (.d (.str b)) δ2)
    (hs : starEach [e] X.env = [(false, eval e X.env)] := by rfl) (hbase : attributeBase o "startswith" X.env (eval o X.env) = eval o X.env := by rfl) (hline : (apos.endLine == pos.line) = true := by rfl) : EV X T (.Call (.Attribute o "startswith" apos) [e] [] pos) δ (.d (.bool (Txt.startswith a b))) δ2 := fun σ H S Q E k =>
  we_of (pe_m1 F.slot_str_startswith F.type_str_startswith mt_startswith pe_w pe_w hs hbase hline) (ho σ H S _ E fun v1 H1 S1 g1 e1 p1 r1 => ⟨⟨a, res_str r1⟩, he σ H1 S1 _ e1 fun v2 H2 S2 g2 e2 p2 r2 =>
    ⟨a, b, res_str r1, by rw [res_str r2], k _ H2 S2 (g1.trans g2) e2 (p1.trans p2) (.bl _)⟩⟩)
/-! #### an owned list is changed -/
theorem Env.write {i : Nat} {s : Sl} {w w' : Ow} {q : Addr} {o : HO} (E : Env K T H S σ δ) (hi : δ[i]? = some s) (hw : s.ow = some w) (hq : σ[i]? = some (some (.ref q))) (ho : ∀ h, Same (vw H S) h → OwAt K h (some o) w') :
    Go H S (Owned σ δ) (upd H q o) S (Owned σ (δ.set i (s.put w'))) ∧ Env K T (upd H q o) S σ (δ.set i (s.put w')) ∧ Pin σ δ σ (δ.set i (s.put w')) := by
  have hP : Owned σ δ q := ⟨i, s, w, hi, hw, hq⟩
  have hS := E.sub q hP
  have hl : i < δ.length := (List.getElem?_eq_some_iff.mp hi).1
  have m : Same (vw H S) (vw (upd H q o) S) := fun a u e => by
    obtain ⟨h1, x, h2, h3⟩ := vw_some e
    have hn : a ≠ q := fun z => h1 (z ▸ hS)
    rw [vw_out h1, upd_ne hn, h2]
    exact h3
  have hsome : (s.put w').ow = some w' := put_ow (by rw [hw]; rfl)
  have dn : ∀ a, Owned σ (δ.set i (s.put w')) a → Owned σ δ a := fun a ⟨j, t, u, h1, h2, h3⟩ => by
    by_cases e : i = j
    · subst e
      exact ⟨i, s, w, hi, hw, h3⟩
    · rw [List.getElem?_set_ne e] at h1
      exact ⟨j, t, u, h1, h2, h3⟩
  have ht : TabsN T (upd H q o) := fun x hx => by
    obtain ⟨ps, h1, h2, h3⟩ := E.tabs x hx
    have hn : x.1 ≠ q := fun z => E.old hP fun o' e' => ⟨ps, by rw [← z, h1] at e'; exact (Option.some.inj e').symm⟩
    refine ⟨ps, by rw [upd_ne hn]; exact h1, h2, fun pos cv hc => ?_⟩
    obtain ⟨c, e1, e2⟩ := h3 pos cv hc
    refine ⟨c, e1, ?_⟩
    have hn2 : c ≠ q := fun z => by
      obtain ⟨q', e3, ho'⟩ := E.own i s w hi hw
      rw [hq] at e3
      cases e3
      rw [z] at e2
      rw [e2] at ho'
      cases w with
      | lst xs => obtain ⟨_, z1, _⟩ := ho'; cases z1
      | dk xs => obtain ⟨_, z1, _⟩ := ho'; cases z1
      | fk od r xs => obtain ⟨z1, _⟩ := ho'; cases z1
      | dt xs => obtain ⟨_, z1, _⟩ := ho'; cases z1
      | ft od r xs => obtain ⟨z1, _⟩ := ho'; cases z1
    rw [upd_ne hn2]
    exact e2
  refine ⟨⟨m, fun a u ha e _ => by rw [upd_ne (fun z => ha (by rw [z]; exact hP))]; exact e, fun _ h _ _ => h, fun a h => .inl (dn a h)⟩, ⟨by rw [List.length_set]; exact E.len, fun a h => E.sub a (dn a h), fun j x h => ?_, fun j x h => ?_, fun j t u h hu => ?_, fun j k t1 t2 u1 u2 a hjk h1 hu1 h2 hu2 h3 h4 => ?_, ht⟩, fun j u h => ?_⟩
  · by_cases e : i = j
    · subst e
      rw [List.getElem?_set_self hl] at h
      have z := Option.some.inj h
      rw [z] at hsome
      cases hsome
    · rw [List.getElem?_set_ne e] at h
      obtain ⟨v, a, b⟩ := E.dat j x h
      exact ⟨v, a, dp_mono m b⟩
  · by_cases e : i = j
    · subst e
      rw [List.getElem?_set_self hl] at h
      have z := Option.some.inj h
      rw [z] at hsome
      cases hsome
    · rw [List.getElem?_set_ne e] at h
      exact E.val j x h
  · by_cases e : i = j
    · subst e
      rw [List.getElem?_set_self hl] at h
      cases h
      rw [hsome] at hu
      cases hu
      exact ⟨q, hq, by rw [upd_same]; exact ho _ m⟩
    · rw [List.getElem?_set_ne e] at h
      obtain ⟨a, h1, h2⟩ := E.own j t u h hu
      have hn : a ≠ q := fun z => E.apart i j s t w u q e hi hw h hu hq (by rw [← z]; exact h1)
      exact ⟨a, h1, by rw [upd_ne hn]; exact h2.mono m⟩
  · have back : ∀ (j : Nat) (t : Sl) (u : Ow), (δ.set i (s.put w'))[j]? = some t → t.ow = some u → ∃ t' u', δ[j]? = some t' ∧ t'.ow = some u' := fun j t u h hu => by
      by_cases e : i = j
      · subst e
        exact ⟨s, w, hi, hw⟩
      · rw [List.getElem?_set_ne e] at h
        exact ⟨t, u, h, hu⟩
    obtain ⟨a1, b1, c1, d1⟩ := back j t1 u1 h1 hu1
    obtain ⟨a2, b2, c2, d2⟩ := back k t2 u2 h2 hu2
    exact E.apart j k a1 a2 b1 b2 a hjk c1 d1 c2 d2 h3 h4
  · by_cases e : i = j
    · subst e
      rw [hi] at h
      cases h
      exact ⟨rfl, w', by rw [List.getElem?_set_self hl]; rfl⟩
    · rw [List.getElem?_set_ne e]
      exact ⟨rfl, u, h⟩
theorem ev_append (i : Nat) {x : Str} {pn apos : Pos} {s : Sl} {ds : List PyData} {d : PyData} (hi : δ1[i]? = some s) (hw : s.ow = some (.lst ds)) (hi0 : ∃ s0 w0, δ[i]? = some s0 ∧ s0.ow = some (.lst w0)) (he : EV X T e δ (.d d) δ1) (hz : ds.length < sizeLine) (hN : X.N[i]? = some x := by rfl) (hv : Vis X.env.scope x := by first | exact Or.inl rfl | exact Or.inr (Or.inl rfl) | exact Or.inr (Or.inr rfl))
    (hdb : (x == ("__debug__" : Str)) = false := by decide) (hcd : (x == ("__classdict__" : Str)) = false := by decide) (hbase : attributeBase (.Name x pn) "append" X.env (eval (.Name x pn) X.env) = eval (.Name x pn) X.env := by rfl)
    (hfew : ((backTo pos (starEach [e] X.env)).all (fun x => !x.1) && (backToKw pos (keywordEach [] X.env)).all (fun x => x.1.isSome) && decide (([e] : List Expr).length + ([] : List Keyword).length + (if ([] : List Keyword).isEmpty then 0 else 1) < 30)) = true := by rfl)
    (hline : (apos.endLine == pos.line) = true := by rfl) (hs : starEach [e] X.env = (false, eval e X.env) :: starEach [] X.env := by rfl) (hplain : (backTo pos (starEach [] X.env)).any (·.1) = false := by rfl) :
    EV X T (.Call (.Attribute (.Name x pn) "append" apos) [e] [] pos) δ (.d .none) (δ1.set i (s.put (.lst (ds ++ [d])))) := fun σ H S Q E k => by
  obtain ⟨s0, w0, h0, hw0⟩ := hi0
  obtain ⟨q, eq, vs0, hq0, _⟩ := E.own i s0 _ h0 hw0
  refine we_of (pe_bm PySem.F.plainAttrs_list PySem.F.slot_list_append PySem.F.type_list_append mt_append (pe_var hN hv hdb hcd) (pa_cons pe_w pa_nil hs) hbase hfew hline hs hplain) ⟨.ref q, eq, .inl ⟨rfl, vs0, .inl (.inl hq0)⟩, he σ H S _ E fun v H1 S1 g1 e1 p1 r1 => ?_⟩
  obtain ⟨q', eq', vs, hq, hd⟩ := e1.own i s _ hi hw
  rw [eq] at eq'
  cases eq'
  refine ⟨q, vs, v, rfl, rfl, hq, by rw [dpAll_len hd]; exact hz, ?_⟩
  obtain ⟨g2, e2, p2⟩ := e1.write (w' := .lst (ds ++ [d])) (o := .lst (vs ++ [v])) hi hw eq fun h m => ⟨_, rfl, dpAll_snoc (dpAll_mono m hd) (dp_mono m r1)⟩
  exact k _ _ S1 (g1.trans g2) e2 (p1.trans p2) .non
/-- xs.extend(a new list) -/
theorem ev_extend (i : Nat) {x : Str} {pn apos : Pos} {s : Sl} {ds es : List PyData} (hi : δ1[i]? = some s) (hw : s.ow = some (.lst ds)) (hi0 : ∃ s0 w0, δ[i]? = some s0 ∧ s0.ow = some (.lst w0)) (he : EV X T e δ (.o (.lst es)) δ1) (hz : ds.length + es.length ≤ sizeLine) (hN : X.N[i]? = some x := by rfl) (hv : Vis X.env.scope x := by first | exact Or.inl rfl | exact Or.inr (Or.inl rfl) | exact Or.inr (Or.inr rfl))
    (hdb : (x == ("__debug__" : Str)) = false := by decide) (hcd : (x == ("__classdict__" : Str)) = false := by decide) (hbase : attributeBase (.Name x pn) "extend" X.env (eval (.Name x pn) X.env) = eval (.Name x pn) X.env := by rfl)
    (hfew : ((backTo pos (starEach [e] X.env)).all (fun x => !x.1) && (backToKw pos (keywordEach [] X.env)).all (fun x => x.1.isSome) && decide (([e] : List Expr).length + ([] : List Keyword).length + (if ([] : List Keyword).isEmpty then 0 else 1) < 30)) = true := by rfl)
    (hline : (apos.endLine == pos.line) = true := by rfl) (hs : starEach [e] X.env = (false, eval e X.env) :: starEach [] X.env := by rfl) (hplain : (backTo pos (starEach [] X.env)).any (·.1) = false := by rfl) :
    EV X T (.Call (.Attribute (.Name x pn) "extend" apos) [e] [] pos) δ (.d .none) (δ1.set i (s.put (.lst (ds ++ es)))) := fun σ H S Q E k => by
  obtain ⟨s0, w0, h0, hw0⟩ := hi0
  obtain ⟨q, eq, vs0, hq0, _⟩ := E.own i s0 _ h0 hw0
  refine we_of (pe_bm PySem.F.plainAttrs_list PySem.F.slot_list_extend PySem.F.type_list_extend mt_extend (pe_var hN hv hdb hcd) (pa_cons pe_w pa_nil hs) hbase hfew hline hs hplain) ⟨.ref q, eq, .inl ⟨rfl, vs0, .inl (.inl hq0)⟩, he σ H S _ E fun v H1 S1 g1 e1 p1 r1 => ?_⟩
  obtain ⟨q', eq', vs, hq, hd⟩ := e1.own i s _ hi hw
  rw [eq] at eq'
  cases eq'
  obtain ⟨b, rfl, _, _, ⟨ws, hb, hd2⟩, _⟩ := r1
  refine ⟨q, b, vs, ws, rfl, rfl, hq, hb, by rw [dpAll_len hd, dpAll_len hd2]; exact hz, ?_⟩
  obtain ⟨g2, e2, p2⟩ := e1.write (w' := .lst (ds ++ es)) (o := .lst (vs ++ ws)) hi hw eq fun h m => ⟨_, rfl, dpAll_app (dpAll_mono m hd) (dpAll_mono m hd2)⟩
  exact k _ _ S1 (g1.trans g2) e2 (p1.trans p2) .non
/-- xs.pop() -/
theorem ev_pop (i : Nat) {x : Str} {pn apos : Pos} {s : Sl} {ds : List PyData} {d : PyData} (hi : δ[i]? = some s) (hw : s.ow = some (.lst (ds ++ [d]))) (hN : X.N[i]? = some x := by rfl) (hv : Vis X.env.scope x := by first | exact Or.inl rfl | exact Or.inr (Or.inl rfl) | exact Or.inr (Or.inr rfl))
    (hdb : (x == ("__debug__" : Str)) = false := by decide) (hcd : (x == ("__classdict__" : Str)) = false := by decide) (hbase : attributeBase (.Name x pn) "pop" X.env (eval (.Name x pn) X.env) = eval (.Name x pn) X.env := by rfl) (hline : (apos.endLine == pos.line) = true := by rfl) :
    EV X T (.Call (.Attribute (.Name x pn) "pop" apos) [] [] pos) δ (.d d) (δ.set i (s.put (.lst ds))) := fun σ H S Q E k => by
  obtain ⟨q, eq, vs, hq, hd⟩ := E.own i s _ hi hw
  have hl := dpAll_len hd
  have hlen : vs.length = ds.length + 1 := by rw [hl, List.length_append, List.length_singleton]
  obtain ⟨v, hv1, hv2⟩ := dpAll_get (i := ds.length) (d := d) hd (by rw [List.getElem?_append_right (Nat.le_refl _)]; simp)
  refine we_of (pe_bm0 PySem.F.plainAttrs_list PySem.F.slot_list_pop PySem.F.type_list_pop mt_pop (pe_var hN hv hdb hcd) hbase hline) ⟨.ref q, eq, .inl ⟨rfl, vs, .inl (.inl hq)⟩, q, vs, v, rfl, rfl, hq, by rw [hlen]; exact hv1, ?_⟩
  have hd' : DpAll X.K (vw H S) vs.dropLast ds := by
    have e1 : vs.dropLast = vs.take ds.length := by rw [List.dropLast_eq_take, hlen]; rfl
    have e2 : ds = (ds ++ [d]).take ds.length := by rw [List.take_left]
    rw [e1]
    have := dpAll_take ds.length hd
    rw [← e2] at this
    exact this
  obtain ⟨g2, e2, p2⟩ := E.write (w' := .lst ds) (o := .lst vs.dropLast) hi hw eq fun h m => ⟨_, rfl, dpAll_mono m hd'⟩
  exact k _ _ S g2 e2 p2 (dp_mono g2.mono hv2)
/-- xs[i] = e, xs owned -/
theorem sv_setL {W : WX} (i : Nat) {x : Str} {pn p2 : Pos} {ix : Expr} {s : Sl} {ds : List PyData} {d : PyData} {n : Int} {j : Nat} (hi : δ1[i]? = some s) (hw : s.ow = some (.lst ds)) (he : EV X T e δ (.d d) δ1) (hx : EV X T ix δ1 (.d (.int n)) δ1) (hj : ixN ds.length n = some j) (hN : X.N[i]? = some x := by rfl) (hv : Vis X.env.scope x := by first | exact Or.inl rfl | exact Or.inr (Or.inl rfl) | exact Or.inr (Or.inr rfl))
    (hdb : (x == ("__debug__" : Str)) = false := by decide) (hcd : (x == ("__classdict__" : Str)) = false := by decide)
    (ha : ∀ v, assign (.Subscript (.Name x pn) ix p2) X.env v = (do
      let ov ← holding [v] (eval (.Name x pn) X.env)
      let iv ← holding [v, ov] (eval ix X.env)
      standAt p2
      holding [v, ov, iv] (setItem ov iv v)
      release [v, ov, iv] []) := by intro _; rfl)
    (hs : swapsWithSole [.Subscript (.Name x pn) ix p2] e pos.line X.env = pure false := by rfl) (hsw : swappedStores [.Subscript (.Name x pn) ix p2] e X.env = pure none := by rfl) (h1 : (assignEach [.Subscript (.Name x pn) ix p2] X.env).map (·.2) = [assign (.Subscript (.Name x pn) ix p2) X.env] := by rfl) :
    SV X T W (.Assign [.Subscript (.Name x pn) ix p2] e pos) δ (.nx (δ1.set i (s.put (.lst (ds.set j d))))) := fun σ H S D E k =>
  ws_of (ps_asg pe_w (pg_sub (pe_var hN hv hdb hcd) pe_w set_list ha) hs hsw h1) (he σ H S _ E fun v H1 S1 g1 e1 p1 r1 => by
    obtain ⟨q, eq, vs0, _, _⟩ := e1.own i s _ hi hw
    refine ⟨.ref q, eq, hx σ H1 S1 _ e1 fun u H2 S2 g2 e2 p2 r2 => ?_⟩
    obtain ⟨q', eq', vs, hq, hd⟩ := e2.own i s _ hi hw
    rw [eq] at eq'
    cases eq'
    have r1' := r1.go g2
    refine ⟨q, vs, n, j, rfl, res_int r2, hq, by rw [dpAll_len hd]; exact hj, ?_⟩
    have set_dp : ∀ {h : Hp} {a : List V} {b : List PyData} {w : V} {y : PyData} (m : Nat), DpAll X.K h a b → Dp X.K h w y → DpAll X.K h (a.set m w) (b.set m y) := by
      intro h a b w y m hab hwy
      induction m generalizing a b with
      | zero => cases hab with
        | nil => exact .nil
        | cons _ t => exact .cons hwy t
      | succ m ih => cases hab with
        | nil => exact .nil
        | cons z t => exact .cons z (ih t)
    obtain ⟨g3, e3, p3⟩ := e2.write (w' := .lst (ds.set j d)) (o := .lst (vs.set j v)) hi hw eq fun h m => ⟨_, rfl, set_dp j (dpAll_mono m hd) (dp_mono m r1')⟩
    exact k σ _ S2 ((g1.trans g2).trans g3) e3 ((p1.trans p2).trans p3))
end
end Sc
namespace Sc
open PySem L2 NdefX
/-! #### what is walked -/
inductive Src where
  | fix (ds : List PyData)
  | cur (j : Nat)
  | key (j : Nat) (w : Ow) (ds : List PyData)
abbrev Src.at_ : Src → Option Nat
  | .fix _ => none
  | .cur j => some j
  | .key j _ _ => some j
open Classical in
/-- what is walked -/
noncomputable def srcAt (src : Src) (δ : List Sl) : Option (List PyData) := match src with
  | .fix ds => some ds
  | .cur j => match (δ[j]?).bind Sl.ow with
    | some (.lst ds) => some ds
    | _ => none
  | .key j w ds => if (δ[j]?).bind Sl.ow = some w then some ds else none
/-- the iterator J walks src -/
def WalkW (K : PySem.W.Frag) (T : List NTab) (J : It) (src : Src) (σ1 : St) (H1 : Hp) (S1 : Addr → Prop) : Prop := ∀ (σ : St) (H : Hp) (S : Addr → Prop) (δ : List Sl) (ds : List PyData), Env K T H S σ δ → Same (vw H1 S1) (vw H S) → (∀ j, src.at_ = some j → σ[j]? = σ1[j]?) → srcAt src δ = some ds →
  (∀ i, i < ds.length → J.go i H) ∧ (∀ i, ds.length ≤ i → J.stop i H) ∧ ∀ i x H' d, J.yld i H x H' → ds[i]? = some d → ∃ S', Go H S (Owned σ δ) H' S' (Owned σ δ) ∧ Env K T H' S' σ δ ∧ Dp K (vw H' S') x d
def wI (X : Cx) (tg iter : Expr) : TI := fun σ H R => ∀ (pins : List (Addr × Obj)) (s : Shared), Inv X pins σ H s →
  wpAny (model X.prog X.w) X.A (eval iter X.env) (fun v s1 => wpAny (model X.prog X.w) X.A (pyIter v) (PIE X pins σ tg R) X.xe s1) X.xe s
theorem pi_w {X : Cx} {tg iter : Expr} : PI X tg iter (wI X tg iter) := ⟨fun pins s _ _ _ I h => h pins s I⟩
theorem wi_of {X : Cx} {tg iter : Expr} {t : TI} (p : PI X tg iter t) {σ : St} {H : Hp} {R : It → Hp → Prop} (h : t σ H R) : wI X tg iter σ H R := fun pins s I => p.run pins s σ H R I h
def IV (X : Cx) (T : List NTab) (tg iter : Expr) (δ : List Sl) (src : Src) (δ' : List Sl) : Prop := ∀ (σ : St) (H : Hp) (S : Addr → Prop) (R : It → Hp → Prop), Env X.K T H S σ δ →
  (∀ J H' S', Go H S (Owned σ δ) H' S' (Owned σ δ') → Env X.K T H' S' σ δ' → Pin σ δ σ δ' → WalkW X.K T J src σ H' S' → R J H') → wI X tg iter σ H R
section
variable {X : Cx} {T : List NTab} {K : PySem.W.Frag} {H H' : Hp} {S S' : Addr → Prop} {σ : St} {δ δ1 δ2 δ3 : List Sl} {e : Expr} {tg : Expr} {p pos : Pos}
/-! #### the walks -/
theorem ww_here {σ1 : St} {H1 : Hp} {S1 : Addr → Prop} {ds : List PyData} {J : It} (h : ∀ (H : Hp) (S : Addr → Prop), Same (vw H1 S1) (vw H S) → (∀ i, i < ds.length → J.go i H) ∧ (∀ i, ds.length ≤ i → J.stop i H) ∧ ∀ i x H' d, J.yld i H x H' → ds[i]? = some d → H' = H ∧ Dp K (vw H S) x d) : WalkW K T J (.fix ds) σ1 H1 S1 := fun σ H S δ ds' E m _ he => by
  cases he
  obtain ⟨a, b, c⟩ := h H S m
  refine ⟨a, b, fun i x H' d y hd => ?_⟩
  obtain ⟨e, q⟩ := c i x H' d y hd
  subst e
  exact ⟨S, Go.refl _ _ _, E, q⟩
theorem ww_list {σ1 : St} {H1 : Hp} {S1 : Addr → Prop} {a : Addr} {xs : List V} {ds : List PyData} (hq : SqL K (vw H1 S1) a xs) (hd : DpAll K (vw H1 S1) xs ds) : WalkW K T (Itl K a) (.fix ds) σ1 H1 S1 := ww_here fun H S m => by
  have q := sql_real (same_sql m hq)
  have l := dpAll_len hd
  refine ⟨fun i hi => ⟨xs, xs[i]'(by omega), q, by simp⟩, fun i hi => ⟨xs, q, by omega⟩, fun i x H' d y hi => ⟨y.1, ?_⟩⟩
  obtain ⟨v, h1, h2⟩ := dpAll_get hd hi
  have h3 := y.2 xs q
  rw [h1] at h3
  cases h3
  exact dp_mono m h2
theorem ww_tup {σ1 : St} {H1 : Hp} {S1 : Addr → Prop} {a : Addr} {xs : List V} {ds : List PyData} (hq : SqT K (vw H1 S1) a xs) (hd : DpAll K (vw H1 S1) xs ds) : WalkW K T (Itt K a) (.fix ds) σ1 H1 S1 := ww_here fun H S m => by
  have q := sqt_real (same_sqt m hq)
  have l := dpAll_len hd
  refine ⟨fun i hi => ⟨xs, xs[i]'(by omega), q, by simp⟩, fun i hi => ⟨xs, q, by omega⟩, fun i x H' d y hi => ⟨y.1, ?_⟩⟩
  obtain ⟨v, h1, h2⟩ := dpAll_get hd hi
  have h3 := y.2 xs q
  rw [h1] at h3
  cases h3
  exact dp_mono m h2
theorem iv_list {ds : List PyData} (h : EV X T e δ (.d (.list ds)) δ1) : IV X T tg e δ (.fix ds) δ1 := fun σ H S R E k =>
  wi_of (pi_list pe_w) (h σ H S _ E fun v H1 S1 g1 e1 p1 r1 => by
    obtain ⟨a, xs, rfl, hq, hd⟩ := res_list r1
    exact ⟨a, rfl, ⟨xs, sql_real hq⟩, k _ H1 S1 g1 e1 p1 (ww_list hq hd)⟩)
theorem iv_tup {ds : List PyData} (h : EV X T e δ (.d (.tuple ds)) δ1) : IV X T tg e δ (.fix ds) δ1 := fun σ H S R E k =>
  wi_of (pi_tup pe_w) (h σ H S _ E fun v H1 S1 g1 e1 p1 r1 => by
    obtain ⟨a, xs, rfl, hq, hd⟩ := res_tup r1
    exact ⟨a, rfl, ⟨xs, sqt_real hq⟩, k _ H1 S1 g1 e1 p1 (ww_tup hq hd)⟩)
/-- the list that slot j owns, as it stands at each turn -/
theorem iv_cur (j : Nat) {x : Str} {s : Sl} {ds : List PyData} (hj : δ[j]? = some s) (hw : s.ow = some (.lst ds)) (hN : X.N[j]? = some x := by rfl) (hv : Vis X.env.scope x := by first | exact Or.inl rfl | exact Or.inr (Or.inl rfl) | exact Or.inr (Or.inr rfl)) (hdb : (x == ("__debug__" : Str)) = false := by decide)
    (hcd : (x == ("__classdict__" : Str)) = false := by decide) : IV X T tg (.Name x pos) δ (.cur j) δ := fun σ H S R E k => by
  obtain ⟨a, e, vs, ho, hd⟩ := E.own j s _ hj hw
  refine wi_of (pi_list (pe_var hN hv hdb hcd)) ⟨.ref a, e, a, rfl, ⟨vs, .inl (.inl ho)⟩, k _ H S (Go.refl _ _ _) E (Pin.refl _ _) ?_⟩
  intro σ2 H2 S2 δ2 ds2 E2 m2 hs he
  have he' : (match (δ2[j]?).bind Sl.ow with
    | some (.lst ds) => some ds
    | _ => none) = some ds2 := he
  cases e3 : δ2[j]? with
  | none => rw [e3] at he'; cases he'
  | some t =>
    rw [e3] at he'
    cases e4 : t.ow with
    | none => simp [e4] at he'
    | some w =>
      cases w with
      | dk kvs => simp [e4] at he'
      | fk _ _ _ => simp [e4] at he'
      | dt _ => simp [e4] at he'
      | ft _ _ _ => simp [e4] at he'
      | lst ds3 =>
        simp [e4] at he'
        subst he'
        obtain ⟨b, e5, ws, ho2, hd2⟩ := E2.own j t _ e3 e4
        rw [hs j rfl, e] at e5
        cases e5
        have q : SqL X.K H2 a ws := .inl (.inl ho2)
        have l := dpAll_len hd2
        refine ⟨fun i hi => ⟨ws, ws[i]'(by omega), q, by simp⟩, fun i hi => ⟨ws, q, by omega⟩, fun i x H' d y hi => ⟨S2, ?_⟩⟩
        obtain ⟨e6, h6⟩ := y
        subst e6
        obtain ⟨v, h1, h2⟩ := dpAll_get hd2 hi
        have h3 := h6 ws q
        rw [h1] at h3
        cases h3
        exact ⟨Go.refl _ _ _, E2, h2⟩
def rangeD (lo : Int) (n : Nat) : List PyData := (List.range n).map fun i => .int (lo + (i : Nat))
theorem ww_range {σ1 : St} {H1 : Hp} {S1 : Addr → Prop} {lo : Int} {n : Nat} : WalkW K T (Itr lo n) (.fix (rangeD lo n)) σ1 H1 S1 := ww_here fun H S m => by
  have l : (rangeD lo n).length = n := by simp [rangeD]
  refine ⟨fun i hi => (by rw [l] at hi; exact hi : i < n), fun i hi => (by rw [l] at hi; exact hi : n ≤ i), fun i x H' d y hi => ?_⟩
  obtain ⟨e1, e2⟩ := y
  have hn : i < n := by rw [← l]; exact (List.getElem?_eq_some_iff.mp hi).1
  have e3 : d = .int (lo + (i : Nat)) := by
    unfold rangeD at hi
    rw [List.getElem?_map, List.getElem?_range hn] at hi
    exact (Option.some.inj hi).symm
  subst e1 e2 e3
  exact ⟨rfl, .int _⟩
theorem iv_range1 {j : Int} (B : Bi X.mg) (h : EV X T e δ (.d (.int j)) δ1) (h1 : -(2 ^ 62) ≤ j) (h2 : j < 2 ^ 62) (hg : Gl X "range" := by rfl) (hs : starEach [e] X.env = [(false, eval e X.env)] := by rfl) :
    IV X T tg (.Call (.Name "range" p) [e] [] pos) δ (.fix (rangeD 0 j.toNat)) δ1 := fun σ H S R E k =>
  wi_of (pi_range1 hg B.range pa_w hs) (av_cons (rs := []) h av_nil (by rw [hs]; rfl) σ H S _ E fun vs H1 S1 g1 e1 p1 r1 => by
    cases r1 with
    | cons a b =>
      cases b
      exact ⟨j, by rw [res_int a], h1, h2, k _ H1 S1 g1 e1 p1 ww_range⟩)
theorem iv_range2 {e2 : Expr} {i j : Int} (B : Bi X.mg) (h : EV X T e δ (.d (.int i)) δ1) (h' : EV X T e2 δ1 (.d (.int j)) δ2) (h1 : -(2 ^ 62) ≤ i) (h2 : i < 2 ^ 62) (h3 : -(2 ^ 62) ≤ j) (h4 : j < 2 ^ 62) (hg : Gl X "range" := by rfl)
    (hs : starEach [e, e2] X.env = [(false, eval e X.env), (false, eval e2 X.env)] := by rfl) (hs2 : starEach [e2] X.env = [(false, eval e2 X.env)] := by rfl) :
    IV X T tg (.Call (.Name "range" p) [e, e2] [] pos) δ (.fix (rangeD i (j - i).toNat)) δ2 := fun σ H S R E k =>
  wi_of (pi_range2 hg B.range pa_w hs hs2) (av_cons (rs := [_]) h (av_cons (rs := []) h' av_nil (by rw [hs2]; rfl)) (by rw [hs, hs2]) σ H S _ E fun vs H1 S1 g1 e1 p1 r1 => by
    cases r1 with
    | cons a b =>
      cases b with
      | cons a' b =>
        cases b
        exact ⟨i, j, by rw [res_int a, res_int a'], ⟨h1, h2, h3, h4⟩, k _ H1 S1 g1 e1 p1 ww_range⟩)
def signsD (z : Str) : List PyData := z.cps.toList.map fun c => .str ⟨#[c]⟩
theorem ww_str {σ1 : St} {H1 : Hp} {S1 : Addr → Prop} {z : Str} : WalkW K T (Its z) (.fix (signsD z)) σ1 H1 S1 := ww_here fun H S m => by
  have l : (signsD z).length = z.cps.size := by simp [signsD]
  refine ⟨fun i hi => (by rw [l] at hi; exact hi : i < z.cps.size), fun i hi => (by rw [l] at hi; exact hi : z.cps.size ≤ i), fun i x H' d y hi => ?_⟩
  obtain ⟨e1, c, e2, e3⟩ := y
  unfold signsD at hi
  rw [List.getElem?_map, Array.getElem?_toList, e2] at hi
  cases hi
  subst e1 e3
  exact ⟨rfl, .str _⟩
theorem iv_str {z : Str} (h : EV X T e δ (.d (.str z)) δ1) : IV X T tg e δ (.fix (signsD z)) δ1 := fun σ H S R E k =>
  wi_of (pi_str pe_w) (h σ H S _ E fun v H1 S1 g1 e1 p1 r1 => ⟨z, res_str r1, k _ H1 S1 g1 e1 p1 ww_str⟩)
/-- new pairs -/
theorem ww_pair {σ1 : St} {H1 : Hp} {S1 : Addr → Prop} {ds : List PyData} {J : It} (h : ∀ (H : Hp) (S : Addr → Prop), Same (vw H1 S1) (vw H S) → (∀ i, i < ds.length → J.go i H) ∧ (∀ i, ds.length ≤ i → J.stop i H) ∧ ∀ i v H' d, J.yld i H v H' → ds[i]? = some d →
      ∃ q x y dx dy, v = .ref q ∧ H q = none ∧ H' = upd H q (.tup [x, y]) ∧ d = .tuple [dx, dy] ∧ Dp K (vw H S) x dx ∧ Dp K (vw H S) y dy) : WalkW K T J (.fix ds) σ1 H1 S1 := fun σ H S δ ds' E m _ he => by
  cases he
  obtain ⟨a, b, c⟩ := h H S m
  refine ⟨a, b, fun i v H' d yl hd => ?_⟩
  obtain ⟨q, x, y, dx, dy, rfl, hn, rfl, rfl, h1, h2⟩ := c i v H' d yl hd
  obtain ⟨g, e, z⟩ := new_tup E hn (.cons h1 (.cons h2 .nil))
  exact ⟨_, g, e, z⟩
def enumD (n : Int) : List PyData → List PyData
  | [] => []
  | d :: ds => .tuple [.int n, d] :: enumD (n + 1) ds
theorem enumD_length : ∀ (n : Int) (ds : List PyData), (enumD n ds).length = ds.length
  | _, [] => rfl
  | n, d :: ds => congrArg (· + 1) (enumD_length (n + 1) ds)
theorem enumD_get : ∀ {n : Int} {ds : List PyData} {i : Nat} {d : PyData}, (enumD n ds)[i]? = some d → ∃ y, ds[i]? = some y ∧ d = .tuple [.int (n + (i : Nat)), y]
  | _, [], _, _, h => by simp [enumD] at h
  | n, y :: ds, 0, d, h => by
    simp [enumD] at h
    exact ⟨y, rfl, by rw [← h]; simp⟩
  | n, y :: ds, i + 1, d, h => by
    obtain ⟨z, h1, h2⟩ := enumD_get (n := n + 1) (ds := ds) (i := i) (d := d) (by simpa [enumD] using h)
    refine ⟨z, by simpa using h1, ?_⟩
    rw [h2]
    have : n + 1 + (i : Int) = n + ((i + 1 : Nat) : Int) := by omega
    rw [this]
def zipD : List PyData → List PyData → List PyData
  | a :: as, b :: bs => .tuple [a, b] :: zipD as bs
  | _, _ => []
theorem zipD_length : ∀ (xs ys : List PyData), (zipD xs ys).length = min xs.length ys.length
  | [], ys => by cases ys <;> simp [zipD]
  | x :: xs, [] => by simp [zipD]
  | x :: xs, y :: ys => by
    simp only [zipD, List.length_cons, zipD_length xs ys]
    omega
theorem zipD_get : ∀ {xs ys : List PyData} {i : Nat} {d : PyData}, (zipD xs ys)[i]? = some d → ∃ x y, xs[i]? = some x ∧ ys[i]? = some y ∧ d = .tuple [x, y]
  | [], ys, i, d, h => by cases ys <;> simp [zipD] at h
  | x :: xs, [], i, d, h => by simp [zipD] at h
  | x :: xs, y :: ys, 0, d, h => by
    simp [zipD] at h
    exact ⟨x, y, rfl, rfl, h.symm⟩
  | x :: xs, y :: ys, i + 1, d, h => by
    obtain ⟨a, b, h1, h2, h3⟩ := zipD_get (xs := xs) (ys := ys) (i := i) (d := d) (by simpa [zipD] using h)
    exact ⟨a, b, by simpa using h1, by simpa using h2, h3⟩
theorem ww_enum {σ1 : St} {H1 : Hp} {S1 : Addr → Prop} {a : Addr} {xs : List V} {ds : List PyData} (hq : SqL K (vw H1 S1) a xs) (hd : DpAll K (vw H1 S1) xs ds) : WalkW K T (Ite K a) (.fix (enumD 0 ds)) σ1 H1 S1 := ww_pair fun H S m => by
  have q := sql_real (same_sql m hq)
  have l := dpAll_len hd
  rw [enumD_length]
  refine ⟨fun i hi => ⟨xs, xs[i]'(by omega), q, by simp⟩, fun i hi => ⟨xs, q, by omega⟩, fun i v H' d y hi => ?_⟩
  obtain ⟨P, x, h1, h2, h3, h4⟩ := y
  obtain ⟨z, h5, h6⟩ := enumD_get hi
  obtain ⟨w, h7, h8⟩ := dpAll_get hd h5
  have h9 := h4 xs q
  rw [h7] at h9
  cases h9
  exact ⟨P, _, _, _, z, h1, h2, h3, h6, by rw [Int.zero_add]; exact .int _, dp_mono m h8⟩
theorem iv_enumL {elts : List Expr} {kk : Nat} {tpos : Pos} {ds : List PyData} (B : Bi X.mg) (h : EV X T e δ (.d (.list ds)) δ1) (hg : Gl X "enumerate" := by rfl) (hs : starEach [e] X.env = [(false, eval e X.env)] := by rfl) :
    IV X T (.Tuple elts kk tpos) (.Call (.Name "enumerate" p) [e] [] pos) δ (.fix (enumD 0 ds)) δ1 := fun σ H S R E k =>
  wi_of (pi_enum hg B.enumerate pa_w hs) (av_cons (rs := []) h av_nil (by rw [hs]; rfl) σ H S _ E fun vs H1 S1 g1 e1 p1 r1 => by
    cases r1 with
    | cons a b =>
      cases b
      obtain ⟨q, xs, rfl, hq, hd⟩ := res_list a
      exact ⟨q, xs, rfl, sql_real hq, k _ H1 S1 g1 e1 p1 (ww_enum hq hd)⟩)
theorem ww_zipL {σ1 : St} {H1 : Hp} {S1 : Addr → Prop} {a b : Addr} {xs ys : List V} {ds es : List PyData} (hq : SqL K (vw H1 S1) a xs) (hd : DpAll K (vw H1 S1) xs ds) (hq2 : SqL K (vw H1 S1) b ys) (hd2 : DpAll K (vw H1 S1) ys es) : WalkW K T (Itz K a b) (.fix (zipD ds es)) σ1 H1 S1 := ww_pair fun H S m => by
  have q := sql_real (same_sql m hq)
  have q2 := sql_real (same_sql m hq2)
  have l := dpAll_len hd
  have l2 := dpAll_len hd2
  rw [zipD_length]
  refine ⟨fun i hi => ⟨xs, ys, xs[i]'(by omega), ys[i]'(by omega), q, q2, by simp, by simp⟩, fun i hi => ⟨xs, ys, q, q2, by omega⟩, fun i v H' d y hi => ?_⟩
  obtain ⟨P, x, z, h1, h2, h3, h4, h5⟩ := y
  obtain ⟨u, w, h6, h7, h8⟩ := zipD_get hi
  obtain ⟨u', h9, h10⟩ := dpAll_get hd h6
  obtain ⟨w', h11, h12⟩ := dpAll_get hd2 h7
  have e1 := h4 xs q
  have e2 := h5 ys q2
  rw [h9] at e1
  rw [h11] at e2
  cases e1
  cases e2
  exact ⟨P, _, _, u, w, h1, h2, h3, h8, dp_mono m h10, dp_mono m h12⟩
theorem ww_zipT {σ1 : St} {H1 : Hp} {S1 : Addr → Prop} {a b : Addr} {xs ys : List V} {ds es : List PyData} (hq : SqT K (vw H1 S1) a xs) (hd : DpAll K (vw H1 S1) xs ds) (hq2 : SqT K (vw H1 S1) b ys) (hd2 : DpAll K (vw H1 S1) ys es) : WalkW K T (RZ.ItzT K a b) (.fix (zipD ds es)) σ1 H1 S1 := ww_pair fun H S m => by
  have q := sqt_real (same_sqt m hq)
  have q2 := sqt_real (same_sqt m hq2)
  have l := dpAll_len hd
  have l2 := dpAll_len hd2
  rw [zipD_length]
  refine ⟨fun i hi => ⟨xs, ys, xs[i]'(by omega), ys[i]'(by omega), q, q2, by simp, by simp⟩, fun i hi => ⟨xs, ys, q, q2, by omega⟩, fun i v H' d y hi => ?_⟩
  obtain ⟨P, x, z, h1, h2, h3, h4, h5⟩ := y
  obtain ⟨u, w, h6, h7, h8⟩ := zipD_get hi
  obtain ⟨u', h9, h10⟩ := dpAll_get hd h6
  obtain ⟨w', h11, h12⟩ := dpAll_get hd2 h7
  have e1 := h4 xs q
  have e2 := h5 ys q2
  rw [h9] at e1
  rw [h11] at e2
  cases e1
  cases e2
  exact ⟨P, _, _, u, w, h1, h2, h3, h8, dp_mono m h10, dp_mono m h12⟩
theorem iv_zipL {e2 : Expr} {elts : List Expr} {kk : Nat} {tpos : Pos} {ds es : List PyData} (B : Bi X.mg) (h : EV X T e δ (.d (.list ds)) δ1) (h' : EV X T e2 δ1 (.d (.list es)) δ2) (hg : Gl X "zip" := by rfl)
    (hs : starEach [e, e2] X.env = (false, eval e X.env) :: starEach [e2] X.env := by rfl) (hs2 : starEach [e2] X.env = (false, eval e2 X.env) :: starEach [] X.env := by rfl) (hpl : (backTo pos (starEach [e2] X.env)).any (·.1) = false := by rfl) :
    IV X T (.Tuple elts kk tpos) (.Call (.Name "zip" p) [e, e2] [] pos) δ (.fix (zipD ds es)) δ2 := fun σ H S R E k =>
  wi_of (RZ.pi_zipA hg B.zip pa_w hs hpl) (av_cons (rs := [_]) h (av_cons (rs := []) h' av_nil hs2) hs σ H S _ E fun vs H1 S1 g1 e1 p1 r1 => by
    cases r1 with
    | cons a b =>
      cases b with
      | cons a' b =>
        cases b
        obtain ⟨q, xs, rfl, hq, hd⟩ := res_list a
        obtain ⟨q2, ys, rfl, hq2, hd2⟩ := res_list a'
        exact ⟨q, q2, xs, ys, rfl, .inl ⟨sql_real hq, sql_real hq2, k _ H1 S1 g1 e1 p1 (ww_zipL hq hd hq2 hd2)⟩⟩)
theorem iv_zipT {e2 : Expr} {elts : List Expr} {kk : Nat} {tpos : Pos} {ds es : List PyData} (B : Bi X.mg) (h : EV X T e δ (.d (.tuple ds)) δ1) (h' : EV X T e2 δ1 (.d (.tuple es)) δ2) (hg : Gl X "zip" := by rfl)
    (hs : starEach [e, e2] X.env = (false, eval e X.env) :: starEach [e2] X.env := by rfl) (hs2 : starEach [e2] X.env = (false, eval e2 X.env) :: starEach [] X.env := by rfl) (hpl : (backTo pos (starEach [e2] X.env)).any (·.1) = false := by rfl) :
    IV X T (.Tuple elts kk tpos) (.Call (.Name "zip" p) [e, e2] [] pos) δ (.fix (zipD ds es)) δ2 := fun σ H S R E k =>
  wi_of (RZ.pi_zipA hg B.zip pa_w hs hpl) (av_cons (rs := [_]) h (av_cons (rs := []) h' av_nil hs2) hs σ H S _ E fun vs H1 S1 g1 e1 p1 r1 => by
    cases r1 with
    | cons a b =>
      cases b with
      | cons a' b =>
        cases b
        obtain ⟨q, xs, rfl, hq, hd⟩ := res_tup a
        obtain ⟨q2, ys, rfl, hq2, hd2⟩ := res_tup a'
        exact ⟨q, q2, xs, ys, rfl, .inr ⟨sqt_real hq, sqt_real hq2, k _ H1 S1 g1 e1 p1 (ww_zipT hq hd hq2 hd2)⟩⟩)
end
end Sc
namespace Sc
open PySem L2 NdefX
/-! #### for -/
section
variable (X : Cx) (T : List NTab) (W : WX) (tg : Expr) (body : List Stmt) (src : Src)
inductive Loop : Nat → List Sl → Out → Prop
  | done {i : Nat} {δ : List Sl} {ds : List PyData} : srcAt src δ = some ds → ds.length ≤ i → Loop i δ (.nx δ)
  | nx {i : Nat} {δ δ1 δ2 : List Sl} {ds : List PyData} {d : PyData} {o : Out} : srcAt src δ = some ds → ds[i]? = some d → GV X T tg (.d d) δ δ1 → SVs X T W body δ1 (.nx δ2) → Loop (i + 1) δ2 o → Loop i δ o
  | ct {i : Nat} {δ δ1 δ2 : List Sl} {ds : List PyData} {d : PyData} {o : Out} : srcAt src δ = some ds → ds[i]? = some d → GV X T tg (.d d) δ δ1 → SVs X T W body δ1 (.ct δ2) → Loop (i + 1) δ2 o → Loop i δ o
  | brk {i : Nat} {δ δ1 δ2 : List Sl} {ds : List PyData} {d : PyData} : srcAt src δ = some ds → ds[i]? = some d → GV X T tg (.d d) δ δ1 → SVs X T W body δ1 (.brk δ2) → Loop i δ (.nx δ2)
  | ret {i : Nat} {δ δ1 δ2 : List Sl} {ds : List PyData} {d : PyData} {r : Sl} : srcAt src δ = some ds → ds[i]? = some d → GV X T tg (.d d) δ δ1 → SVs X T W body δ1 (.ret r δ2) → Loop i δ (.ret r δ2)
  | ex {i : Nat} {δ δ1 δ2 : List Sl} {ds : List PyData} {d : PyData} {x : Exn} : srcAt src δ = some ds → ds[i]? = some d → GV X T tg (.d d) δ δ1 → SVs X T W body δ1 (.ex x δ2) → Loop i δ (.ex x δ2)
/-- with its turns counted -/
inductive LoopN : Nat → Nat → List Sl → Out → Prop
  | done {i : Nat} {δ : List Sl} {ds : List PyData} : srcAt src δ = some ds → ds.length ≤ i → LoopN 0 i δ (.nx δ)
  | nx {n i : Nat} {δ δ1 δ2 : List Sl} {ds : List PyData} {d : PyData} {o : Out} : srcAt src δ = some ds → ds[i]? = some d → GV X T tg (.d d) δ δ1 → (SVs X T W body δ1 (.nx δ2) ∨ SVs X T W body δ1 (.ct δ2)) → LoopN n (i + 1) δ2 o → LoopN (n + 1) i δ o
  | brk {i : Nat} {δ δ1 δ2 : List Sl} {ds : List PyData} {d : PyData} : srcAt src δ = some ds → ds[i]? = some d → GV X T tg (.d d) δ δ1 → SVs X T W body δ1 (.brk δ2) → LoopN 0 i δ (.nx δ2)
  | out {i : Nat} {δ δ1 : List Sl} {ds : List PyData} {d : PyData} {o : Out} : srcAt src δ = some ds → ds[i]? = some d → GV X T tg (.d d) δ δ1 → SVs X T W body δ1 o → ((∃ r δ2, o = .ret r δ2) ∨ ∃ x δ2, o = .ex x δ2) → LoopN 0 i δ o
end
section
variable {X : Cx} {T : List NTab} {K : PySem.W.Frag} {H H' : Hp} {S S' : Addr → Prop} {σ : St} {δ δ1 δ2 δ3 : List Sl} {e : Expr} {tg : Expr} {p pos : Pos} {W : WX} {body : List Stmt} {src : Src} {o : Out}
theorem Loop.count {i : Nat} (h : Loop X T W tg body src i δ o) : ∃ n, LoopN X T W tg body src n i δ o := by
  induction h with
  | done a b => exact ⟨0, .done a b⟩
  | nx a b c d _ ih => obtain ⟨n, ih⟩ := ih; exact ⟨n + 1, .nx a b c (.inl d) ih⟩
  | ct a b c d _ ih => obtain ⟨n, ih⟩ := ih; exact ⟨n + 1, .nx a b c (.inr d) ih⟩
  | brk a b c d => exact ⟨0, .brk a b c d⟩
  | ret a b c d => exact ⟨0, .out a b c d (.inl ⟨_, _, rfl⟩)⟩
  | ex a b c d => exact ⟨0, .out a b c d (.inr ⟨_, _, rfl⟩)⟩
/-- a target behind a turn of the iterator -/
theorem gv_turn {d : PyData} {x : V} {Q : L2.St → Hp → Prop} (hg : GV X T tg (.d d) δ δ1) {S1 : Addr → Prop} (E : Env X.K T H S σ δ) (g : Go H S (Owned σ δ) H' S1 (Owned σ δ)) (e : Env X.K T H' S1 σ δ) (r : Dp X.K (vw H' S1) x d)
    (k : ∀ σ2 H2 S2, Go H S (Owned σ δ) H2 S2 (Owned σ2 δ1) → Env X.K T H2 S2 σ2 δ1 → Pin σ δ σ2 δ1 → Q σ2 H2) : wG X tg x σ H' Q :=
  hg σ H' S1 H (Owned σ δ) x Q e r g.keep g.ow fun σ2 H2 S2 m2 kp2 up2 ow2 e2 p2 => k σ2 H2 S2 ⟨g.mono.trans m2, kp2, fun a hS hP hF => up2 a (g.up a hS hP hF) hP hF, ow2⟩ e2 p2
theorem sv_for {iter : Expr} {k : Nat} (C : Cok X W k) (hi : IV X T tg iter δ src δ1) (hb : ∀ j, src.at_ = some j → ∃ w, δ1[j]? = some (.b w)) (h : Loop X T W tg body src 0 δ1 o) (hs : ∀ x, foldedSetIterable iter X.env x = pure x := by intro _; rfl) : SV X T W (.For tg iter body [] pos) δ o := fun σ H S D E kk => by
  obtain ⟨n0, h0⟩ := h.count
  refine ws_of (ps_for C.own C.calm pi_w pg_w pss_w hs) (hi σ H S _ E fun J H1 S1 g1 e1 p1 ww => ?_)
  have kk := kk.after g1 p1
  refine ⟨fun i m σ' H' => ∃ S' δ', Go H1 S1 (Owned σ δ1) H' S' (Owned σ' δ') ∧ Env X.K T H' S' σ' δ' ∧ Pin σ δ1 σ' δ' ∧ LoopN X T W tg body src m i δ' o, ⟨n0, S1, δ1, Go.refl _ _ _, e1, Pin.refl _ _, h0⟩, ?_⟩
  rintro i m σ' H' ⟨S', δ', g2, e2, p2, hl⟩
  have hσ : ∀ j, src.at_ = some j → σ'[j]? = σ[j]? := fun j e => by
    obtain ⟨w, hw⟩ := hb j e
    exact (p2 j w hw).1
  have k2 := kk.after g2 p2
  cases hl with
  | done a b => exact .inl ⟨(ww σ' H' S' δ' _ e2 g2.mono hσ a).2.1 i b, k2 σ' H' S' (Go.refl _ _ _) e2 (Pin.refl _ _)⟩
  | @nx n _ _ δ3 δ4 ds d o a b c hB hn =>
    obtain ⟨w1, _, w3⟩ := ww σ' H' S' δ' _ e2 g2.mono hσ a
    refine .inr ⟨w1 i (List.getElem?_eq_some_iff.mp b).1, fun σ3 H3 => ∃ S3 δ3, Go H1 S1 (Owned σ δ1) H3 S3 (Owned σ3 δ3) ∧ Env X.K T H3 S3 σ3 δ3 ∧ Pin σ δ1 σ3 δ3 ∧ LoopN X T W tg body src n (i + 1) δ3 o, fun σ3 H3 q => ⟨n, Nat.lt_succ_self _, q⟩, fun x H3 y => ?_⟩
    obtain ⟨S3, g3, e3, r3⟩ := w3 i x H3 d y b
    refine gv_turn c e2 g3 e3 r3 fun σ4 H4 S4 g4 e4 p4 => ?_
    rcases hB with hB | hB
    · exact hB σ4 H4 S4 _ e4 fun σ5 H5 S5 g5 e5 p5 => ⟨S5, _, (g2.trans g4).trans g5, e5, (p2.trans p4).trans p5, hn⟩
    · exact hB σ4 H4 S4 _ e4 fun σ5 H5 S5 g5 e5 p5 => ⟨S5, _, (g2.trans g4).trans g5, e5, (p2.trans p4).trans p5, hn⟩
  | brk a b c hB =>
    obtain ⟨w1, _, w3⟩ := ww σ' H' S' δ' _ e2 g2.mono hσ a
    refine .inr ⟨w1 i (List.getElem?_eq_some_iff.mp b).1, fun _ _ => False, fun _ _ q => q.elim, fun x H3 y => ?_⟩
    obtain ⟨S3, g3, e3, r3⟩ := w3 i x H3 _ y b
    refine gv_turn c e2 g3 e3 r3 fun σ4 H4 S4 g4 e4 p4 => ?_
    exact hB σ4 H4 S4 _ e4 fun σ5 H5 S5 g5 e5 p5 => k2 σ5 H5 S5 (g4.trans g5) e5 (p4.trans p5)
  | out a b c hB hO =>
    obtain ⟨w1, _, w3⟩ := ww σ' H' S' δ' _ e2 g2.mono hσ a
    refine .inr ⟨w1 i (List.getElem?_eq_some_iff.mp b).1, fun _ _ => False, fun _ _ q => q.elim, fun x H3 y => ?_⟩
    obtain ⟨S3, g3, e3, r3⟩ := w3 i x H3 _ y b
    refine gv_turn c e2 g3 e3 r3 fun σ4 H4 S4 g4 e4 p4 => ?_
    have k4 := k2.after g4 p4
    refine hB σ4 H4 S4 _ e4 ?_
    rcases hO with ⟨r, δ5, rfl⟩ | ⟨x, δ5, rfl⟩
    · exact k4
    · exact k4
/-- over what does not change -/
def LoopF (X : Cx) (T : List NTab) (W : WX) (tg : Expr) (body : List Stmt) (ds : List PyData) (δ : List Sl) (o : Out) : Prop := ∀ (pre : List PyData) (i : Nat), pre.length = i → Loop X T W tg body (.fix (pre ++ ds)) i δ o
theorem at_pre {pre ds : List PyData} {d : PyData} {i : Nat} (h : pre.length = i) : (pre ++ d :: ds)[i]? = some d := by
  rw [List.getElem?_append_right (by omega), h, Nat.sub_self]
  rfl
theorem LoopF.at {ds : List PyData} (h : LoopF X T W tg body ds δ o) : Loop X T W tg body (.fix ds) 0 δ o := h [] 0 rfl
theorem lf_nil : LoopF X T W tg body [] δ (.nx δ) := fun pre i h => .done rfl (by simp [h])
theorem LoopF.next {d : PyData} {ds : List PyData} (q : LoopF X T W tg body ds δ o) {pre : List PyData} {i : Nat} (h : pre.length = i) : Loop X T W tg body (.fix (pre ++ d :: ds)) (i + 1) δ o := by
  have z := q (pre ++ [d]) (i + 1) (by simp [h])
  rw [List.append_assoc] at z
  exact z
theorem lf_nx {d : PyData} {ds : List PyData} (hg : GV X T tg (.d d) δ δ1) (hb : SVs X T W body δ1 (.nx δ2)) (q : LoopF X T W tg body ds δ2 o) : LoopF X T W tg body (d :: ds) δ o := fun pre i h => .nx rfl (at_pre h) hg hb (q.next h)
theorem lf_ct {d : PyData} {ds : List PyData} (hg : GV X T tg (.d d) δ δ1) (hb : SVs X T W body δ1 (.ct δ2)) (q : LoopF X T W tg body ds δ2 o) : LoopF X T W tg body (d :: ds) δ o := fun pre i h => .ct rfl (at_pre h) hg hb (q.next h)
theorem lf_brk {d : PyData} {ds : List PyData} (hg : GV X T tg (.d d) δ δ1) (hb : SVs X T W body δ1 (.brk δ2)) : LoopF X T W tg body (d :: ds) δ (.nx δ2) := fun pre i h => .brk rfl (at_pre h) hg hb
theorem lf_ret {d : PyData} {ds : List PyData} {r : Sl} (hg : GV X T tg (.d d) δ δ1) (hb : SVs X T W body δ1 (.ret r δ2)) : LoopF X T W tg body (d :: ds) δ (.ret r δ2) := fun pre i h => .ret rfl (at_pre h) hg hb
theorem lf_ex {d : PyData} {ds : List PyData} {x : Exn} (hg : GV X T tg (.d d) δ δ1) (hb : SVs X T W body δ1 (.ex x δ2)) : LoopF X T W tg body (d :: ds) δ (.ex x δ2) := fun pre i h => .ex rfl (at_pre h) hg hb
/-- a slot is lent to a statement -/
def Out.upS (f : List Sl → List Sl) : Out → Out
  | .nx δ => .nx (f δ)
  | .ret r δ => .ret r (f δ)
  | .brk δ => .brk (f δ)
  | .ct δ => .ct (f δ)
  | .ex x δ => .ex x (f δ)
end
/-! #### while -/
section
variable (X : Cx) (T : List NTab) (W : WX) (c : Expr) (body : List Stmt)
inductive Whl : List Sl → Out → Prop
  | done {δ δ1 : List Sl} : TV X T c δ false δ1 → Whl δ (.nx δ1)
  | nx {δ δ1 δ2 : List Sl} {o : Out} : TV X T c δ true δ1 → SVs X T W body δ1 (.nx δ2) → Whl δ2 o → Whl δ o
  | ct {δ δ1 δ2 : List Sl} {o : Out} : TV X T c δ true δ1 → SVs X T W body δ1 (.ct δ2) → Whl δ2 o → Whl δ o
  | brk {δ δ1 δ2 : List Sl} : TV X T c δ true δ1 → SVs X T W body δ1 (.brk δ2) → Whl δ (.nx δ2)
  | ret {δ δ1 δ2 : List Sl} {r : Sl} : TV X T c δ true δ1 → SVs X T W body δ1 (.ret r δ2) → Whl δ (.ret r δ2)
  | ex {δ δ1 δ2 : List Sl} {x : Exn} : TV X T c δ true δ1 → SVs X T W body δ1 (.ex x δ2) → Whl δ (.ex x δ2)
inductive WhlN : Nat → List Sl → Out → Prop
  | done {δ δ1 : List Sl} : TV X T c δ false δ1 → WhlN 0 δ (.nx δ1)
  | nx {n : Nat} {δ δ1 δ2 : List Sl} {o : Out} : TV X T c δ true δ1 → (SVs X T W body δ1 (.nx δ2) ∨ SVs X T W body δ1 (.ct δ2)) → WhlN n δ2 o → WhlN (n + 1) δ o
  | brk {δ δ1 δ2 : List Sl} : TV X T c δ true δ1 → SVs X T W body δ1 (.brk δ2) → WhlN 0 δ (.nx δ2)
  | out {δ δ1 : List Sl} {o : Out} : TV X T c δ true δ1 → SVs X T W body δ1 o → ((∃ r δ2, o = .ret r δ2) ∨ ∃ x δ2, o = .ex x δ2) → WhlN 0 δ o
end
section
variable {X : Cx} {T : List NTab} {K : PySem.W.Frag} {H H' : Hp} {S S' : Addr → Prop} {σ : St} {δ δ1 δ2 δ3 : List Sl} {c : Expr} {p pos : Pos} {W : WX} {body : List Stmt} {o : Out}
theorem Whl.count (h : Whl X T W c body δ o) : ∃ n, WhlN X T W c body n δ o := by
  induction h with
  | done a => exact ⟨0, .done a⟩
  | nx a b _ ih => obtain ⟨n, ih⟩ := ih; exact ⟨n + 1, .nx a (.inl b) ih⟩
  | ct a b _ ih => obtain ⟨n, ih⟩ := ih; exact ⟨n + 1, .nx a (.inr b) ih⟩
  | brk a b => exact ⟨0, .brk a b⟩
  | ret a b => exact ⟨0, .out a b (.inl ⟨_, _, rfl⟩)⟩
  | ex a b => exact ⟨0, .out a b (.inr ⟨_, _, rfl⟩)⟩
theorem sv_while {k : Nat} (C : Cok X W k) (h : Whl X T W c body δ o) : SV X T W (.While c body [] pos) δ o := fun σ H S D E kk => by
  obtain ⟨n0, h0⟩ := h.count
  refine ws_of (ps_while C.own pt_w pss_w) ?_
  refine ⟨fun m σ' H' => ∃ S' δ', Go H S (Owned σ δ) H' S' (Owned σ' δ') ∧ Env X.K T H' S' σ' δ' ∧ Pin σ δ σ' δ' ∧ WhlN X T W c body m δ' o, ⟨n0, S, δ, Go.refl _ _ _, E, Pin.refl _ _, h0⟩, ?_⟩
  rintro m σ' H' ⟨S', δ', g2, e2, p2, hl⟩
  have k2 := kk.after g2 p2
  cases hl with
  | done a => exact a σ' H' S' _ e2 fun H3 S3 g3 e3 p3 => iteF (k2 σ' H3 S3 g3 e3 p3)
  | @nx n _ δ3 δ4 o a hB hn =>
    refine a σ' H' S' _ e2 fun H3 S3 g3 e3 p3 => iteT ?_
    refine ⟨fun σ3 H3 => ∃ S3 δ3, Go H S (Owned σ δ) H3 S3 (Owned σ3 δ3) ∧ Env X.K T H3 S3 σ3 δ3 ∧ Pin σ δ σ3 δ3 ∧ WhlN X T W c body n δ3 o, fun σ3 H3 q => ⟨n, Nat.lt_succ_self _, q⟩, ?_⟩
    rcases hB with hB | hB
    · exact hB σ' H3 S3 _ e3 fun σ5 H5 S5 g5 e5 p5 => ⟨S5, _, (g2.trans g3).trans g5, e5, (p2.trans p3).trans p5, hn⟩
    · exact hB σ' H3 S3 _ e3 fun σ5 H5 S5 g5 e5 p5 => ⟨S5, _, (g2.trans g3).trans g5, e5, (p2.trans p3).trans p5, hn⟩
  | brk a hB =>
    refine a σ' H' S' _ e2 fun H3 S3 g3 e3 p3 => iteT ?_
    refine ⟨fun _ _ => False, fun _ _ q => q.elim, ?_⟩
    exact hB σ' H3 S3 _ e3 fun σ5 H5 S5 g5 e5 p5 => k2 σ5 H5 S5 (g3.trans g5) e5 (p3.trans p5)
  | out a hB hO =>
    refine a σ' H' S' _ e2 fun H3 S3 g3 e3 p3 => iteT ?_
    have k4 := k2.after g3 p3
    refine ⟨fun _ _ => False, fun _ _ q => q.elim, ?_⟩
    refine hB σ' H3 S3 _ e3 ?_
    rcases hO with ⟨r, δ5, rfl⟩ | ⟨x, δ5, rfl⟩
    · exact k4
    · exact k4
end
end Sc
namespace Sc
open PySem L2 NdefX
/-! #### targets that set the slots vs only -/
def GW (X : Cx) (T : List NTab) (vs : List Nat) (tg : Expr) (r : Sl) (δ : List Sl) (δ' : List Sl) : Prop := ∀ (σ : St) (H : Hp) (S : Addr → Prop) (H0 : Hp) (P0 : Addr → Prop) (v : V) (Q : St → Hp → Prop), Env X.K T H S σ δ → Res X.K H0 P0 H S (Owned σ δ) r v → KeepN P0 H0 H → (∀ a, Owned σ δ a → P0 a ∨ Fresh H0 a) →
  (∀ σ' H' S', Same (vw H S) (vw H' S') → KeepN P0 H0 H' → (∀ a, S a → ¬ P0 a → ¬ Fresh H0 a → S' a) → (∀ a, Owned σ' δ' a → P0 a ∨ Fresh H0 a) → Env X.K T H' S' σ' δ' → Pin σ δ σ' δ' → (∀ i, i ∉ vs → σ'[i]? = σ[i]?) → σ'.length = σ.length → Q σ' H') → wG X tg v σ H Q
section
variable {X : Cx} {T : List NTab} {K : PySem.W.Frag} {H H' : Hp} {S S' : Addr → Prop} {σ : St} {δ δ1 δ2 δ3 : List Sl} {e : Expr} {tg : Expr} {p pos : Pos} {W : WX} {vs : List Nat}
theorem GW.gv {r : Sl} (h : GW X T vs tg r δ δ1) : GV X T tg r δ δ1 := fun σ H S H0 P0 v Q E x k w kk => h σ H S H0 P0 v Q E x k w fun σ' H' S' a b c d e f _ _ => kk σ' H' S' a b c d e f
theorem GW.more {r : Sl} {vs' : List Nat} (h : GW X T vs tg r δ δ1) (hs : ∀ i ∈ vs, i ∈ vs') : GW X T vs' tg r δ δ1 := fun σ H S H0 P0 v Q E x k w kk => h σ H S H0 P0 v Q E x k w fun σ' H' S' a b c d e f g h => kk σ' H' S' a b c d e f (fun i hi => g i fun z => hi (hs i z)) h
theorem gw_name (i : Nat) {x : Str} {r s : Sl} (hN : X.N.Nodup) (hi : X.N[i]? = some x := by rfl) (hx : Loc X.env.scope x := by first | exact .inl rfl | exact .inr rfl) (hf : X.fn x = true ∨ X.env.scope.names.lookup x = some .local := by first | exact .inl rfl | exact .inr rfl) (hd : δ[i]? = some s := by rfl) (hs : s.free := by trivial) : GW X T [i] (.Name x pos) r δ (δ.set i r) := fun σ H S H0 P0 v Q E x k w kk => by
  refine wg_of (pg_name hN hi hx hf) (kk _ H S (Same.refl _) k (fun _ h _ _ => h) (fun a h => ?_) (E.set x) (pin_set fun t e => ?_) (fun j hj => List.getElem?_set_ne fun z => hj (by rw [z]; exact List.mem_singleton.mpr rfl)) List.length_set)
  · rcases own_set h with h | ⟨w, h, e⟩
    · exact ‹∀ a, Owned σ δ a → P0 a ∨ Fresh H0 a› a h
    · exact res_ow x h e
  · rw [hd] at e
    cases e
    exact hs
/-- several targets, several values -/
def wGs (X : Cx) (es : List Expr) : TGs := fun xs σ H Q => ∀ (pins : List (Addr × Obj)) (s : Shared) (us : List Value), Inv X pins σ H s → Vals xs us →
  wpAny (model X.prog X.w) X.A (assignInOrder ((assignEach es X.env).map (·.2)) us) (fun _ s' => ∃ σ' H', Inv X pins σ' H' s' ∧ Q σ' H') X.xe s
theorem pgs_w {es : List Expr} : PGs X es (wGs X es) := ⟨fun pins s σ H vs us Q I r h => h pins s us I r⟩
theorem wgs_of {es : List Expr} {t : TGs} (p : PGs X es t) {xs : List V} {σ : L2.St} {H : Hp} {Q : L2.St → Hp → Prop} (h : t xs σ H Q) : wGs X es xs σ H Q := fun pins s us I r => p.run pins s σ H xs us Q I r h
def GWs (X : Cx) (T : List NTab) (vs : List Nat) (es : List Expr) (ds : List PyData) (δ : List Sl) (δ' : List Sl) : Prop := ∀ (σ : St) (H : Hp) (S : Addr → Prop) (H0 : Hp) (P0 : Addr → Prop) (xs : List V) (Q : St → Hp → Prop), Env X.K T H S σ δ → DpAll X.K (vw H S) xs ds → KeepN P0 H0 H → (∀ a, Owned σ δ a → P0 a ∨ Fresh H0 a) →
  (∀ σ' H' S', Same (vw H S) (vw H' S') → KeepN P0 H0 H' → (∀ a, S a → ¬ P0 a → ¬ Fresh H0 a → S' a) → (∀ a, Owned σ' δ' a → P0 a ∨ Fresh H0 a) → Env X.K T H' S' σ' δ' → Pin σ δ σ' δ' → (∀ i, i ∉ vs → σ'[i]? = σ[i]?) → σ'.length = σ.length → Q σ' H') → wGs X es xs σ H Q
theorem gws_nil {δ : List Sl} : GWs X T [] [] [] δ δ := fun σ H S H0 P0 xs Q E x k w kk => by
  cases x
  exact wgs_of pgs_nil ⟨rfl, kk σ H S (Same.refl _) k (fun _ h _ _ => h) w E (Pin.refl _ _) (fun _ _ => rfl) rfl⟩
theorem gws_cons {es : List Expr} {d : PyData} {ds : List PyData} {vs1 vs2 : List Nat} (h : GW X T vs1 e (.d d) δ δ1) (hs : GWs X T vs2 es ds δ1 δ2) (he : (assignEach (e :: es) X.env).map (·.2) = assign e X.env :: (assignEach es X.env).map (·.2) := by rfl) : GWs X T (vs1 ++ vs2) (e :: es) (d :: ds) δ δ2 := fun σ H S H0 P0 xs Q E x k w kk => by
  cases x with
  | cons a b =>
    refine wgs_of (pgs_cons pg_w pgs_w he) ⟨_, _, rfl, h σ H S H0 P0 _ _ E a k w fun σ1 H1 S1 m1 k1 u1 o1 e1 p1 f1 l1 => hs σ1 H1 S1 H0 P0 _ _ e1 (dpAll_mono m1 b) k1 o1 fun σ2 H2 S2 m2 k2 u2 o2 e2 p2 f2 l2 => ?_⟩
    exact kk σ2 H2 S2 (m1.trans m2) k2 (fun a h1 h2 h3 => u2 a (u1 a h1 h2 h3) h2 h3) o2 e2 (p1.trans p2) (fun i hi => by rw [f2 i fun z => hi (List.mem_append_right _ z), f1 i fun z => hi (List.mem_append_left _ z)]) (l2.trans l1)
theorem gw_tup {es : List Expr} {ds : List PyData} {k : Nat} {n : Nat} {vs0 : List Nat} (hc : X.calm = true) (h : GWs X T vs0 es ds δ δ1) (hv : ∀ i ∈ vs0, i ∈ vs := by decide) (hl : ds.length = n := by rfl) (hn : (assignEach es X.env).length = n := by rfl) (hst : (assignEach es X.env).findIdx? (·.1) = none := by rfl) : GW X T vs (.Tuple es k pos) (.d (.tuple ds)) δ δ1 := fun σ H S H0 P0 v Q E x k w kk => by
  obtain ⟨a, xs, rfl, hq, hd⟩ := res_tup x
  exact wg_of (pg_tup hc pgs_w hn hst) ⟨a, xs, rfl, sqt_real hq, by rw [dpAll_len hd, hl], h σ H S H0 P0 xs Q E hd k w fun σ' H' S' a b c d e f g h => kk σ' H' S' a b c d e f (fun i hi => g i fun z => hi (hv i z)) h⟩
/-! #### slots forgotten -/
def wipeD (δ : List Sl) : List Nat → List Sl
  | [] => δ
  | v :: vs => (wipeD δ vs).set v .no
def mendD (δ0 δ : List Sl) : List Nat → List Sl
  | [] => δ
  | v :: vs => (mendD δ0 δ vs).set v (δ0[v]?.getD .no)
theorem wipeD_length (δ : List Sl) : ∀ vs : List Nat, (wipeD δ vs).length = δ.length
  | [] => rfl
  | v :: vs => by unfold wipeD; rw [List.length_set, wipeD_length δ vs]
theorem mendD_length (δ0 δ : List Sl) : ∀ vs : List Nat, (mendD δ0 δ vs).length = δ.length
  | [] => rfl
  | v :: vs => by unfold mendD; rw [List.length_set, mendD_length δ0 δ vs]
theorem wipeD_in {i : Nat} : ∀ {vs : List Nat}, i ∈ vs → i < δ.length → (wipeD δ vs)[i]? = some .no
  | v :: vs, h, hl => by
    unfold wipeD
    by_cases e : v = i
    · subst e
      exact List.getElem?_set_self (by rw [wipeD_length]; exact hl)
    · rw [List.getElem?_set_ne e]
      exact wipeD_in ((List.mem_cons.mp h).resolve_left fun z => e z.symm) hl
theorem wipeD_out {i : Nat} : ∀ {vs : List Nat}, i ∉ vs → (wipeD δ vs)[i]? = δ[i]?
  | [], _ => rfl
  | v :: vs, h => by
    unfold wipeD
    rw [List.getElem?_set_ne fun e => h (by rw [e]; exact List.mem_cons_self), wipeD_out fun z => h (List.mem_cons_of_mem _ z)]
theorem mendD_in {δ0 : List Sl} {i : Nat} : ∀ {vs : List Nat}, i ∈ vs → i < δ.length → (mendD δ0 δ vs)[i]? = some (δ0[i]?.getD .no)
  | v :: vs, h, hl => by
    unfold mendD
    by_cases e : v = i
    · subst e
      exact List.getElem?_set_self (by rw [mendD_length]; exact hl)
    · rw [List.getElem?_set_ne e]
      exact mendD_in ((List.mem_cons.mp h).resolve_left fun z => e z.symm) hl
theorem mendD_out {δ0 : List Sl} {i : Nat} : ∀ {vs : List Nat}, i ∉ vs → (mendD δ0 δ vs)[i]? = δ[i]?
  | [], _ => rfl
  | v :: vs, h => by
    unfold mendD
    rw [List.getElem?_set_ne fun e => h (by rw [e]; exact List.mem_cons_self), mendD_out fun z => h (List.mem_cons_of_mem _ z)]
theorem wipeD_some {i : Nat} {s : Sl} (h : (wipeD δ vs)[i]? = some s) (hs : s ≠ .no) : i ∉ vs ∧ δ[i]? = some s := by
  by_cases e : i ∈ vs
  · have hl : i < δ.length := by rw [← wipeD_length δ vs]; exact (List.getElem?_eq_some_iff.mp h).1
    rw [wipeD_in e hl] at h
    exact absurd (Option.some.inj h).symm hs
  · rw [wipeD_out e] at h
    exact ⟨e, h⟩
theorem wipe_none {σ : L2.St} {i : Nat} : ∀ {vs : List Nat}, i ∈ vs → i < σ.length → (wipe σ vs)[i]? = some none
  | v :: vs, h, hl => by
    unfold wipe
    by_cases e : v = i
    · subst e
      exact List.getElem?_set_self (by rw [wipe_length]; exact hl)
    · rw [List.getElem?_set_ne e]
      exact wipe_none ((List.mem_cons.mp h).resolve_left fun z => e z.symm) hl
theorem own_wipe {q : Addr} (h : Owned (wipe σ vs) (wipeD δ vs) q) : Owned σ δ q := by
  obtain ⟨i, s, w, h1, h2, h3⟩ := h
  obtain ⟨a, b⟩ := wipeD_some h1 (fun z => by rw [z] at h2; cases h2)
  exact ⟨i, s, w, b, h2, by rw [← wipe_out a]; exact h3⟩
theorem Env.wiped (E : Env K T H S σ δ) (vs : List Nat) : Env K T H S (wipe σ vs) (wipeD δ vs) := by
  refine ⟨by rw [wipe_length, wipeD_length]; exact E.len, fun q h => E.sub q (own_wipe h), fun i x h => ?_, fun i v h => ?_, fun i s w h hw => ?_, fun i j s t w u q hij hs hw ht hu h1 h2 => ?_, E.tabs⟩
  · obtain ⟨a, b⟩ := wipeD_some h (fun z => by cases z)
    rw [wipe_out a]
    exact E.dat i x b
  · obtain ⟨a, b⟩ := wipeD_some h (fun z => by cases z)
    rw [wipe_out a]
    exact E.val i v b
  · obtain ⟨a, b⟩ := wipeD_some h (fun z => by rw [z] at hw; cases hw)
    rw [wipe_out a]
    exact E.own i s w b hw
  · obtain ⟨a, b⟩ := wipeD_some hs (fun z => by rw [z] at hw; cases hw)
    obtain ⟨a2, b2⟩ := wipeD_some ht (fun z => by rw [z] at hu; cases hu)
    rw [wipe_out a] at h1
    rw [wipe_out a2] at h2
    exact E.apart i j s t w u q hij b hw b2 hu h1 h2
theorem wipe_eq {σ2 : L2.St} (h : ∀ i, i ∉ vs → σ2[i]? = σ[i]?) (hl : σ2.length = σ.length) : wipe σ2 vs = wipe σ vs := by
  refine List.ext_getElem? fun i => ?_
  by_cases e : i ∈ vs
  · by_cases hi : i < σ.length
    · rw [wipe_none e hi, wipe_none e (by rw [hl]; exact hi)]
    · rw [List.getElem?_eq_none (by rw [wipe_length]; omega), List.getElem?_eq_none (by rw [wipe_length]; omega)]
  · rw [wipe_out e, wipe_out e, h i e]
theorem wipe_wipe {σ : L2.St} : wipe (wipe σ vs) vs = wipe σ vs := wipe_eq (fun _ h => wipe_out h) (wipe_length σ vs)
theorem Go.less {H2 : Hp} {S2 P P' P'' : Addr → Prop} (g : Go H S P H2 S2 P') (h : ∀ a, P'' a → P' a) : Go H S P H2 S2 P'' := ⟨g.mono, g.keep, g.up, fun a ha => g.ow a (h a ha)⟩
theorem Res.less {H0 : Hp} {P0 P P' : Addr → Prop} {r : Sl} {v : V} (x : Res K H0 P0 H S P r v) (h : ∀ a, P' a → P a) : Res K H0 P0 H S P' r v := by
  cases r with
  | o w =>
    obtain ⟨q, a, b, c, d, f⟩ := x
    exact ⟨q, a, b, fun z => c (h q z), d, f⟩
  | _ => exact x
theorem pin_wipe {σ2 : L2.St} {δ' : List Sl} (p : Pin (wipe σ vs) (wipeD δ vs) σ2 δ') (h : wipe σ2 vs = wipe σ vs) : Pin (wipe σ vs) (wipeD δ vs) (wipe σ2 vs) (wipeD δ' vs) := fun i w e => by
  obtain ⟨a, w', b⟩ := p i w e
  obtain ⟨c, _⟩ := wipeD_some e (fun z => by cases z)
  refine ⟨by rw [h], w', ?_⟩
  rw [wipeD_out c]
  exact b
/-! #### the tests of a clause -/
def wTs (X : Cx) (ifs : List Expr) : TT := fun σ H Q => ∀ (pins : List (Addr × Obj)) (s : Shared), Inv X pins σ H s →
  wpAny (model X.prog X.w) X.A (forIn ifs true fun c r => if r = true then do let ok ← isTrue c X.env (eval c X.env); pure (ForInStep.yield ok) else pure (ForInStep.yield r)) (TP X pins σ Q) X.xe s
theorem pts_w {ifs : List Expr} : PTs X ifs (wTs X ifs) := ⟨fun pins s _ _ _ I h => h pins s I⟩
theorem wts_of {ifs : List Expr} {t : TT} (p : PTs X ifs t) {σ : L2.St} {H : Hp} {Q : Bool → Hp → Prop} (h : t σ H Q) : wTs X ifs σ H Q := fun pins s I => p.run pins s σ H Q I h
def TVs (X : Cx) (T : List NTab) (ifs : List Expr) (δ : List Sl) (b : Bool) (δ' : List Sl) : Prop := ∀ (σ : St) (H : Hp) (S : Addr → Prop) (Q : Bool → Hp → Prop), Env X.K T H S σ δ →
  (∀ H' S', Go H S (Owned σ δ) H' S' (Owned σ δ') → Env X.K T H' S' σ δ' → Pin σ δ σ δ' → Q b H') → wTs X ifs σ H Q
theorem tvs_nil : TVs X T [] δ true δ := fun σ H S Q E k => wts_of pts_nil (k H S (Go.refl _ _ _) E (Pin.refl _ _))
theorem tvs_one {c : Expr} {b : Bool} (h : TV X T c δ b δ1) : TVs X T [c] δ b δ1 := fun σ H S Q E k => wts_of (pts_one pt_w) (h σ H S Q E k)
end
/-! #### list comprehensions -/
/-- in every block of the comprehension -/
def Bl (X : Cx) (scope : Scope) (P : Cx → Prop) : Prop := ∀ (s : Shared) (H : Hp) (C : Addr) (cl : List (Str × Addr)) (fp : List Addr), P (X.blk s H scope (compEnvC scope cl C X.env) fp)
section
variable (X : Cx) (T : List NTab) (scope : Scope) (vs : List Nat) (tg : Expr) (ifs : List Expr) (elt : Expr) (src : Src)
inductive Comp : Nat → List Sl → List PyData → List Sl → Prop
  | done {i : Nat} {δ : List Sl} {ds : List PyData} : srcAt src δ = some ds → ds.length ≤ i → Comp i δ [] δ
  | yes {i : Nat} {δ δ1 δ2 δ3 δ4 : List Sl} {ds ys : List PyData} {d y : PyData} : srcAt src δ = some ds → ds[i]? = some d → Bl X scope (fun X => GW X T vs tg (.d d) δ δ1) → Bl X scope (fun X => TVs X T ifs δ1 true δ2) → Bl X scope (fun X => EV X T elt δ2 (.d y) δ3) →
      Comp (i + 1) (wipeD δ3 vs) ys δ4 → Comp i δ (y :: ys) δ4
  | no {i : Nat} {δ δ1 δ2 δ4 : List Sl} {ds ys : List PyData} {d : PyData} : srcAt src δ = some ds → ds[i]? = some d → Bl X scope (fun X => GW X T vs tg (.d d) δ δ1) → Bl X scope (fun X => TVs X T ifs δ1 false δ2) →
      Comp (i + 1) (wipeD δ2 vs) ys δ4 → Comp i δ ys δ4
inductive CompN : Nat → Nat → List Sl → List PyData → List Sl → Prop
  | done {i : Nat} {δ : List Sl} {ds : List PyData} : srcAt src δ = some ds → ds.length ≤ i → CompN 0 i δ [] δ
  | yes {n i : Nat} {δ δ1 δ2 δ3 δ4 : List Sl} {ds ys : List PyData} {d y : PyData} : srcAt src δ = some ds → ds[i]? = some d → Bl X scope (fun X => GW X T vs tg (.d d) δ δ1) → Bl X scope (fun X => TVs X T ifs δ1 true δ2) → Bl X scope (fun X => EV X T elt δ2 (.d y) δ3) →
      CompN n (i + 1) (wipeD δ3 vs) ys δ4 → CompN (n + 1) i δ (y :: ys) δ4
  | no {n i : Nat} {δ δ1 δ2 δ4 : List Sl} {ds ys : List PyData} {d : PyData} : srcAt src δ = some ds → ds[i]? = some d → Bl X scope (fun X => GW X T vs tg (.d d) δ δ1) → Bl X scope (fun X => TVs X T ifs δ1 false δ2) →
      CompN n (i + 1) (wipeD δ2 vs) ys δ4 → CompN (n + 1) i δ ys δ4
def gB : TG := fun v σ H Q => ∀ (s : Shared) (H0 : Hp) (C : Addr) (cl : List (Str × Addr)) (fp : List Addr), wG (X.blk s H0 scope (compEnvC scope cl C X.env) fp) tg v σ H Q
def tB : TT := fun σ H Q => ∀ (s : Shared) (H0 : Hp) (C : Addr) (cl : List (Str × Addr)) (fp : List Addr), wTs (X.blk s H0 scope (compEnvC scope cl C X.env) fp) ifs σ H Q
def eB : TE := fun σ H Q => ∀ (s : Shared) (H0 : Hp) (C : Addr) (cl : List (Str × Addr)) (fp : List Addr), wE (X.blk s H0 scope (compEnvC scope cl C X.env) fp) elt σ H Q
end
section
variable {X : Cx} {T : List NTab} {K : PySem.W.Frag} {H H' : Hp} {S S' : Addr → Prop} {σ : St} {δ δ1 δ2 δ3 : List Sl} {p pos : Pos} {W : WX} {scope : Scope} {vs : List Nat} {tg : Expr} {ifs : List Expr} {elt : Expr} {src : Src}
theorem Comp.count {i : Nat} {ys : List PyData} (h : Comp X T scope vs tg ifs elt src i δ ys δ1) : ∃ n, CompN X T scope vs tg ifs elt src n i δ ys δ1 := by
  induction h with
  | done a b => exact ⟨0, .done a b⟩
  | yes a b c d e _ ih => obtain ⟨n, ih⟩ := ih; exact ⟨n + 1, .yes a b c d e ih⟩
  | no a b c d _ ih => obtain ⟨n, ih⟩ := ih; exact ⟨n + 1, .no a b c d ih⟩
/-- the new list of a comprehension grows -/
theorem tabs_upd {D : Addr} {ws : List V} {o : HO} (ht : TabsN T H) (h : H D = some (.lst ws)) : TabsN T (upd H D o) := fun x hx => by
  obtain ⟨ps, h1, h2, h3⟩ := ht x hx
  have hn : x.1 ≠ D := fun z => by rw [z, h] at h1; cases h1
  refine ⟨ps, by rw [upd_ne hn]; exact h1, h2, fun pos cv hc => ?_⟩
  obtain ⟨c, e1, e2⟩ := h3 pos cv hc
  have hn2 : c ≠ D := fun z => by rw [z, h] at e2; cases e2
  exact ⟨c, e1, by rw [upd_ne hn2]; exact e2⟩
theorem same_hid {D : Addr} {o : HO} (hS : S D) : Same (vw H S) (vw (upd H D o) S) := fun a u e => by
  obtain ⟨h1, w, h2, h3⟩ := vw_some e
  have hn : a ≠ D := fun z => h1 (by rw [z]; exact hS)
  rw [vw_out h1, upd_ne hn, h2]
  exact h3
/-- what stands while a comprehension runs: from Hb, with D new -/
structure At (K : PySem.W.Frag) (T : List NTab) (Hb : Hp) (Sb Pb : Addr → Prop) (D : Addr) (H : Hp) (S : Addr → Prop) (σ : St) (δ : List Sl) (acc : List PyData) : Prop where
  go : Go Hb Sb Pb H S (Owned σ δ)
  env : Env K T H S σ δ
  new : Hb D = none
  hid : S D
  free : ¬ Owned σ δ D
  lst : ∃ ws, H D = some (.lst ws) ∧ DpAll K (vw H S) ws acc
theorem At.on {Hb : Hp} {Sb Pb : Addr → Prop} {D : Addr} {acc : List PyData} {σ2 : L2.St} {H2 : Hp} {S2 : Addr → Prop} (A : At K T Hb Sb Pb D H S σ δ acc) (g : Go H S (Owned σ δ) H2 S2 (Owned σ2 δ2)) (e : Env K T H2 S2 σ2 δ2) : At K T Hb Sb Pb D H2 S2 σ2 δ2 acc := by
  obtain ⟨ws, h1, h2⟩ := A.lst
  have nf : ¬ Fresh H D := fun f => by
    obtain ⟨ps, z⟩ := f _ h1
    cases z
  exact ⟨A.go.trans g, e, A.new, g.up D A.hid A.free nf, fun z => (g.ow D z).elim A.free nf, ws, g.keep D _ A.free h1 (fun ps z => by cases z), dpAll_mono g.mono h2⟩
theorem At.wiped {Hb : Hp} {Sb Pb : Addr → Prop} {D : Addr} {acc : List PyData} (A : At K T Hb Sb Pb D H S σ δ acc) (vs : List Nat) : At K T Hb Sb Pb D H S (wipe σ vs) (wipeD δ vs) acc :=
  ⟨A.go.less fun a => own_wipe, A.env.wiped vs, A.new, A.hid, fun z => A.free (own_wipe z), A.lst⟩
theorem At.push {Hb : Hp} {Sb Pb : Addr → Prop} {D : Addr} {acc : List PyData} {ws : List V} {v : V} {y : PyData} (A : At K T Hb Sb Pb D H S σ δ acc) (hD : H D = some (.lst ws)) (hd : Dp K (vw H S) v y) : At K T Hb Sb Pb D (upd H D (.lst (ws ++ [v]))) S σ δ (acc ++ [y]) := by
  obtain ⟨ws', h1, h2⟩ := A.lst
  rw [hD] at h1
  cases h1
  have m : Same (vw H S) (vw (upd H D (.lst (ws ++ [v]))) S) := same_hid A.hid
  refine ⟨⟨A.go.mono.trans m, fun a o ha e ht => ?_, A.go.up, A.go.ow⟩, A.env.move m (fun q hq => upd_ne fun z => A.free (z ▸ hq)) A.env.sub (tabs_upd A.env.tabs hD), A.new, A.hid, A.free, _, upd_same, dpAll_snoc (dpAll_mono m h2) (dp_mono m hd)⟩
  rw [upd_ne (ne_of_none e A.new)]
  exact A.go.keep a o ha e ht
theorem comp_loop {n0 i0 : Nat} {J : It} {Hb : Hp} {Sb Pb : Addr → Prop} {D : Addr} {acc0 ys0 : List PyData} {F : Hp → Prop} {σ1 : L2.St} {H1 : Hp} {S1 : Addr → Prop} (h : CompN X T scope vs tg ifs elt src n0 i0 (wipeD δ1 vs) ys0 δ2) (ww : WalkW X.K T J src σ1 H1 S1) (hj : ∀ j, src.at_ = some j → j ∉ vs) (A : At X.K T Hb Sb Pb D H S (wipe σ1 vs) (wipeD δ1 vs) acc0) (hm : Same (vw H1 S1) (vw H S)) (hz : acc0.length + ys0.length ≤ sizeLine)
    (k : ∀ H' S', At X.K T Hb Sb Pb D H' S' (wipe σ1 vs) δ2 (acc0 ++ ys0) → Same (vw H S) (vw H' S') → Pin (wipe σ1 vs) (wipeD δ1 vs) (wipe σ1 vs) δ2 → F H') :
    ∃ W : Nat → Nat → Hp → Prop, (∃ m, W i0 m H) ∧ ∀ i m H, W i m H → (J.stop i H ∧ F H) ∨ (J.go i H ∧ ∃ Nx : Hp → Prop, (∀ H', Nx H' → ∃ m', m' < m ∧ W (i + 1) m' H') ∧ ∀ x H', J.yld i H x H' → gB X scope tg x (wipe σ1 vs) H' fun σ2 H2 => wipe σ2 vs = wipe σ1 vs ∧ tB X scope ifs σ2 H2 fun b H3 =>
      if b = true then eB X scope elt σ2 H3 fun y H4 => ∃ acc, H4 D = some (.lst acc) ∧ acc.length < sizeLine ∧ Nx (upd H4 D (.lst (acc ++ [y]))) else Nx H3) := by
  refine ⟨fun i m H' => ∃ S' δ' acc ys, At X.K T Hb Sb Pb D H' S' (wipe σ1 vs) (wipeD δ' vs) acc ∧ Same (vw H S) (vw H' S') ∧ Pin (wipe σ1 vs) (wipeD δ1 vs) (wipe σ1 vs) (wipeD δ' vs) ∧ acc ++ ys = acc0 ++ ys0 ∧ CompN X T scope vs tg ifs elt src m i (wipeD δ' vs) ys δ2, ⟨n0, S, δ1, acc0, ys0, A, Same.refl _, Pin.refl _ _, rfl, h⟩, ?_⟩
  rintro i m H' ⟨S', δ', acc, ys, A', m', p', e', hc⟩
  have hσ : ∀ j, src.at_ = some j → (wipe σ1 vs)[j]? = σ1[j]? := fun j e => wipe_out (hj j e)
  have hlen : acc.length + ys.length = acc0.length + ys0.length := by
    have := congrArg List.length e'
    simpa using this
  generalize hδ : wipeD δ' vs = δw at *
  cases hc with
  | done a b =>
    refine .inl ⟨(ww _ H' S' _ _ A'.env (hm.trans m') hσ a).2.1 i b, ?_⟩
    refine k H' S' ?_ m' p'
    rw [← e', List.append_nil]
    exact A'
  | @yes n _ _ δ3 δ4 δ5 _ ds ys d y a b c1 c2 c3 hn =>
    obtain ⟨w1, _, w3⟩ := ww _ H' S' _ _ A'.env (hm.trans m') hσ a
    refine .inr ⟨w1 i (List.getElem?_eq_some_iff.mp b).1, fun H3 => ∃ S3 δ3 acc ys, At X.K T Hb Sb Pb D H3 S3 (wipe σ1 vs) (wipeD δ3 vs) acc ∧ Same (vw H S) (vw H3 S3) ∧ Pin (wipe σ1 vs) (wipeD δ1 vs) (wipe σ1 vs) (wipeD δ3 vs) ∧ acc ++ ys = acc0 ++ ys0 ∧ CompN X T scope vs tg ifs elt src n (i + 1) (wipeD δ3 vs) ys δ2, fun H3 q => ⟨n, Nat.lt_succ_self _, q⟩, fun x H3 yl => ?_⟩
    obtain ⟨S3, g3, e3, r3⟩ := w3 i x H3 d yl b
    intro s0 H0 C cl fp
    refine c1 s0 H0 C cl fp _ H3 S3 H' (Owned (wipe σ1 vs) δw) x _ e3 r3 g3.keep g3.ow fun σ4 H4 S4 m4 k4 u4 o4 e4 p4 f4 l4 => ?_
    have hw : wipe σ4 vs = wipe σ1 vs := (wipe_eq f4 l4).trans wipe_wipe
    refine ⟨hw, fun s0 H0 C cl fp => c2 s0 H0 C cl fp σ4 H4 S4 _ e4 fun H5 S5 g5 e5 p5 => iteT fun s0 H0 C cl fp => c3 s0 H0 C cl fp σ4 H5 S5 _ e5 fun v H6 S6 g6 e6 p6 r6 => ?_⟩
    have g4 : Go H' S' (Owned (wipe σ1 vs) δw) H4 S4 (Owned σ4 δ3) := ⟨g3.mono.trans m4, k4, fun a h1 h2 h3 => u4 a (g3.up a h1 h2 h3) h2 h3, o4⟩
    have A6 := A'.on ((g4.trans g5).trans g6) e6
    obtain ⟨ws, hD, hd⟩ := A6.lst
    refine ⟨ws, hD, ?_, S6, δ5, acc ++ [y], ys, ?_, ?_, ?_, by rw [List.append_assoc]; exact e', hn⟩
    · rw [dpAll_len hd]
      simp only [List.length_cons] at hlen
      omega
    · have := (A6.push hD r6).wiped vs
      rw [hw] at this
      exact this
    · exact (m'.trans ((g4.trans g5).trans g6).mono).trans (same_hid A6.hid)
    · have := pin_wipe (δ := δ1) ((p'.trans p4).trans (p5.trans p6)) hw
      rw [hw] at this
      exact this
  | @no n _ _ δ3 δ4 _ ds ys d a b c1 c2 hn =>
    obtain ⟨w1, _, w3⟩ := ww _ H' S' _ _ A'.env (hm.trans m') hσ a
    refine .inr ⟨w1 i (List.getElem?_eq_some_iff.mp b).1, fun H3 => ∃ S3 δ3 acc ys, At X.K T Hb Sb Pb D H3 S3 (wipe σ1 vs) (wipeD δ3 vs) acc ∧ Same (vw H S) (vw H3 S3) ∧ Pin (wipe σ1 vs) (wipeD δ1 vs) (wipe σ1 vs) (wipeD δ3 vs) ∧ acc ++ ys = acc0 ++ ys0 ∧ CompN X T scope vs tg ifs elt src n (i + 1) (wipeD δ3 vs) ys δ2, fun H3 q => ⟨n, Nat.lt_succ_self _, q⟩, fun x H3 yl => ?_⟩
    obtain ⟨S3, g3, e3, r3⟩ := w3 i x H3 d yl b
    intro s0 H0 C cl fp
    refine c1 s0 H0 C cl fp _ H3 S3 H' (Owned (wipe σ1 vs) δw) x _ e3 r3 g3.keep g3.ow fun σ4 H4 S4 m4 k4 u4 o4 e4 p4 f4 l4 => ?_
    have hw : wipe σ4 vs = wipe σ1 vs := (wipe_eq f4 l4).trans wipe_wipe
    refine ⟨hw, fun s0 H0 C cl fp => c2 s0 H0 C cl fp σ4 H4 S4 _ e4 fun H5 S5 g5 e5 p5 => iteF ?_⟩
    have g4 : Go H' S' (Owned (wipe σ1 vs) δw) H4 S4 (Owned σ4 δ3) := ⟨g3.mono.trans m4, k4, fun a h1 h2 h3 => u4 a (g3.up a h1 h2 h3) h2 h3, o4⟩
    have A5 := (A'.on (g4.trans g5) e5).wiped vs
    rw [hw] at A5
    refine ⟨S5, δ4, acc, ys, A5, m'.trans (g4.trans g5).mono, ?_, e', hn⟩
    have := pin_wipe (δ := δ1) ((p'.trans p4).trans p5) hw
    rw [hw] at this
    exact this
end
end Sc
namespace Sc
open PySem L2 NdefX
section
variable {X : Cx} {T : List NTab} {K : PySem.W.Frag} {H H' : Hp} {S S' : Addr → Prop} {σ : St} {δ δ1 δ2 δ3 : List Sl} {p pos : Pos} {W : WX} {scope : Scope} {vs vs1 : List Nat} {tg tg1 iter iter1 : Expr} {ifs ifs1 : List Expr} {elt : Expr} {src src1 : Src}
theorem pg_B : ∀ (s : Shared) (H : Hp) (C : Addr) (cl : List (Str × Addr)) (fp : List Addr), PG (X.blk s H scope (compEnvC scope cl C X.env) fp) tg (gB X scope tg) := fun s H C cl fp => ⟨fun pins s' σ' H' v u Q I r h => h s H C cl fp pins s' u I r⟩
theorem pt_B : ∀ (s : Shared) (H : Hp) (C : Addr) (cl : List (Str × Addr)) (fp : List Addr), PTs (X.blk s H scope (compEnvC scope cl C X.env) fp) ifs (tB X scope ifs) := fun s H C cl fp => ⟨fun pins s' σ' H' Q I h => h s H C cl fp pins s' I⟩
theorem pe_B : ∀ (s : Shared) (H : Hp) (C : Addr) (cl : List (Str × Addr)) (fp : List Addr), PE (X.blk s H scope (compEnvC scope cl C X.env) fp) elt (eB X scope elt) := fun s H C cl fp => ⟨fun pins s' σ' H' Q I h => h s H C cl fp pins s' I⟩
def iB (X : Cx) (scope : Scope) (tg iter : Expr) : TI := fun σ H R => ∀ (s : Shared) (H0 : Hp) (C : Addr) (cl : List (Str × Addr)) (fp : List Addr), wI (X.blk s H0 scope (compEnvC scope cl C X.env) fp) tg iter σ H R
theorem pi_B : ∀ (s : Shared) (H : Hp) (C : Addr) (cl : List (Str × Addr)) (fp : List Addr), PI (X.blk s H scope (compEnvC scope cl C X.env) fp) tg iter (iB X scope tg iter) := fun s H C cl fp => ⟨fun pins s' σ' H' R I h => h s H C cl fp pins s' I⟩
/-- the slots behind a comprehension -/
theorem Env.mend {H1 : Hp} {S1 : Addr → Prop} (E1 : Env K T H1 S1 σ δ1) (E2 : Env K T H S (wipe σ vs) δ2) (m : Same (vw H1 S1) (vw H S)) (ho : ∀ i ∈ vs, (δ1[i]?).bind Sl.ow = none) :
    Env K T H S σ (mendD δ1 δ2 vs) ∧ ∀ q, Owned σ (mendD δ1 δ2 vs) q → Owned (wipe σ vs) δ2 q := by
  have hl : σ.length = δ2.length := by rw [← E2.len, wipe_length]
  have at_ : ∀ (i : Nat) (s : Sl), (mendD δ1 δ2 vs)[i]? = some s → (i ∉ vs ∧ δ2[i]? = some s) ∨ (s.ow = none ∧ (s = .no ∨ δ1[i]? = some s)) := fun i s h => by
    by_cases e : i ∈ vs
    · have hi : i < δ2.length := by rw [← mendD_length δ1 δ2 vs]; exact (List.getElem?_eq_some_iff.mp h).1
      rw [mendD_in e hi] at h
      have h' := Option.some.inj h
      have o := ho i e
      cases q : δ1[i]? with
      | none => rw [q] at h'; subst h'; exact .inr ⟨rfl, .inl rfl⟩
      | some t =>
        rw [q] at h' o
        have h'' : t = s := h'
        subst h''
        exact .inr ⟨o, .inr rfl⟩
    · rw [mendD_out e] at h
      exact .inl ⟨e, h⟩
  have sub : ∀ q, Owned σ (mendD δ1 δ2 vs) q → Owned (wipe σ vs) δ2 q := fun q ⟨i, s, w, h1, h2, h3⟩ => by
    rcases at_ i s h1 with ⟨a, b⟩ | ⟨a, _⟩
    · exact ⟨i, s, w, b, h2, by rw [wipe_out a]; exact h3⟩
    · rw [a] at h2; cases h2
  refine ⟨⟨by rw [mendD_length]; exact hl, fun q h => E2.sub q (sub q h), fun i x h => ?_, fun i v h => ?_, fun i s w h hw => ?_, fun i j s t w u q hij hs hw ht hu h1 h2 => ?_, E2.tabs⟩, sub⟩
  · rcases at_ i _ h with ⟨a, b⟩ | ⟨_, b | b⟩
    · obtain ⟨v, c, d⟩ := E2.dat i x b
      exact ⟨v, by rw [← wipe_out a]; exact c, d⟩
    · cases b
    · obtain ⟨v, c, d⟩ := E1.dat i x b
      exact ⟨v, c, dp_mono m d⟩
  · rcases at_ i _ h with ⟨a, b⟩ | ⟨_, b | b⟩
    · rw [← wipe_out a]
      exact E2.val i v b
    · cases b
    · exact E1.val i v b
  · rcases at_ i _ h with ⟨a, b⟩ | ⟨a, _⟩
    · obtain ⟨q, c, d⟩ := E2.own i s w b hw
      exact ⟨q, by rw [← wipe_out a]; exact c, d⟩
    · rw [a] at hw; cases hw
  · rcases at_ i _ hs with ⟨a, b⟩ | ⟨a, _⟩
    · rcases at_ j _ ht with ⟨a2, b2⟩ | ⟨a2, _⟩
      · exact E2.apart i j s t w u q hij b hw b2 hu (by rw [wipe_out a]; exact h1) (by rw [wipe_out a2]; exact h2)
      · rw [a2] at hu; cases hu
    · rw [a] at hw; cases hw
theorem pin_mend (ho : ∀ i ∈ vs, (δ1[i]?).bind Sl.ow = none) (p : Pin (wipe σ vs) (wipeD δ1 vs) (wipe σ vs) δ2) : Pin σ δ1 σ (mendD δ1 δ2 vs) := fun i w e => by
  have a : i ∉ vs := fun z => by
    have := ho i z
    rw [e] at this
    cases this
  obtain ⟨_, w', b⟩ := p i w (by rw [wipeD_out a]; exact e)
  exact ⟨rfl, w', by rw [mendD_out a]; exact b⟩
theorem lc_end {Q : VK} {H1 : Hp} {S1 : Addr → Prop} {D : Addr} {ys : List PyData} (E1 : Env X.K T H1 S1 σ δ1) (hD : H1 D = none) (ho : ∀ i ∈ vs, (δ1[i]?).bind Sl.ow = none)
    (k : ∀ v H' S', Go H1 S1 (Owned σ δ1) H' S' (Owned σ (mendD δ1 δ2 vs)) → Env X.K T H' S' σ (mendD δ1 δ2 vs) → Pin σ δ1 σ (mendD δ1 δ2 vs) → Res X.K H1 (Owned σ δ1) H' S' (Owned σ (mendD δ1 δ2 vs)) (.o (.lst ys)) v → Q v H')
    {H' : Hp} {S' : Addr → Prop} (A : At X.K T H1 S1 (Owned σ δ1) D H' S' (wipe σ vs) δ2 ys) (p : Pin (wipe σ vs) (wipeD δ1 vs) (wipe σ vs) δ2) : Q (.ref D) H' := by
  obtain ⟨e, sub⟩ := Env.mend E1 A.env A.go.mono ho
  obtain ⟨ws, h1, h2⟩ := A.lst
  exact k _ H' S' (A.go.less sub) e (pin_mend ho p) ⟨D, rfl, A.hid, fun z => A.free (sub D z), ⟨ws, h1, h2⟩, .inr (Fresh.of hD)⟩
theorem lc_at {H1 : Hp} {S1 : Addr → Prop} {D : Addr} (E1 : Env X.K T H1 S1 σ δ1) (hD : H1 D = none) : At X.K T H1 S1 (Owned σ δ1) D (upd H1 D (.lst [])) (fun a => S1 a ∨ a = D) (wipe σ vs) (wipeD δ1 vs) [] := by
  obtain ⟨g, e, q, eq, hS, hP, ho, hf⟩ := new_lsto (ds := []) E1 hD .nil
  cases eq
  exact At.wiped ⟨g, e, hD, hS, hP, ho⟩ vs
/-- [elt for tg in iter if ..] -/
theorem lc_run {own : List (Str × Nat)} {ys : List PyData} (hi : IV X T tg iter δ src δ1) (hj : ∀ j, src.at_ = some j → j ∉ own.map (·.2)) (ho : ∀ i ∈ own.map (·.2), (δ1[i]?).bind Sl.ow = none) (h : Comp X T scope (own.map (·.2)) tg ifs elt src 0 (wipeD δ1 (own.map (·.2))) ys δ2) (hz : ys.length ≤ sizeLine)
    (E : Env X.K T H S σ δ) {Q : VK} (k : ∀ v H' S', Go H S (Owned σ δ) H' S' (Owned σ (mendD δ1 δ2 (own.map (·.2)))) → Env X.K T H' S' σ (mendD δ1 δ2 (own.map (·.2))) → Pin σ δ σ (mendD δ1 δ2 (own.map (·.2))) → Res X.K H (Owned σ δ) H' S' (Owned σ (mendD δ1 δ2 (own.map (·.2)))) (.o (.lst ys)) v → Q v H') :
    tLc (wI X tg iter) (gB X scope tg) (tB X scope ifs) (eB X scope elt) (own.map (·.2)) σ H Q := hi σ H S _ E fun J H1 S1 g1 e1 p1 ww D hD => by
  obtain ⟨n, h⟩ := h.count
  exact comp_loop h ww hj (lc_at e1 hD) (fun a u e => (new_lsto (ds := []) e1 hD .nil).1.mono a u e) (by simpa using hz) fun H' S' A m p =>
    lc_end e1 hD ho (fun v H2 S2 g2 e2 p2 r2 => k v H2 S2 (g1.trans g2) e2 (p1.trans p2) (r2.back g1.keep g1.ow)) A p
theorem ev_lc {own : List (Str × Nat)} {ys : List PyData} (hc : X.calm = true) (hN : X.N.Nodup) (ok : blkC X.N X.env.scope scope own = true) (hi : IV X T tg iter δ src δ1) (hj : ∀ j, src.at_ = some j → j ∉ own.map (·.2)) (ho : ∀ i ∈ own.map (·.2), (δ1[i]?).bind Sl.ow = none)
    (h : Comp X T scope (own.map (·.2)) tg ifs elt src 0 (wipeD δ1 (own.map (·.2))) ys δ2) (hz : ys.length ≤ sizeLine) (hs : ∀ x, foldedSetIterable iter X.env x = pure x := by intro _; rfl) : EV X T (.ListComp elt [⟨tg, iter, ifs, 0⟩] scope pos) δ (.o (.lst ys)) (mendD δ1 δ2 (own.map (·.2))) := fun σ H S Q E k =>
  we_of (pe_lc hc hN pi_w (blkOk_by ok) pg_B pt_B pe_B hs) (lc_run hi hj ho h hz E k)
/-- name = [..] on one line -/
theorem sv_setLc {own : List (Str × Nat)} {ys : List PyData} {i : Nat} {y : Str} {py spos : Pos} {s : Sl} (hc : X.calm = true) (hN : X.N.Nodup) (hy : X.N[i]? = some y) (hyl : X.env.scope.names.lookup y = some .local) (hsw : swapsWith (.ListComp elt [⟨tg, iter, ifs, 0⟩] scope pos) (some (.Name y py)) spos.line X.env = pure true)
    (ok : blkC X.N X.env.scope scope own = true) (hi : IV X T tg iter δ src δ1) (hj : ∀ j, src.at_ = some j → j ∉ own.map (·.2)) (ho : ∀ i ∈ own.map (·.2), (δ1[i]?).bind Sl.ow = none)
    (h : Comp X T scope (own.map (·.2)) tg ifs elt src 0 (wipeD δ1 (own.map (·.2))) ys δ2) (hz : ys.length ≤ sizeLine) (hd : (mendD δ1 δ2 (own.map (·.2)))[i]? = some s) (hf : s.free := by trivial) (hs : ∀ x, foldedSetIterable iter X.env x = pure x := by intro _; rfl) :
    SV X T W (.Assign [.Name y py] (.ListComp elt [⟨tg, iter, ifs, 0⟩] scope pos) spos) δ (.nx ((mendD δ1 δ2 (own.map (·.2))).set i (.o (.lst ys)))) := fun σ H S D E k =>
  ws_of (ps_setLc hc hN hy hyl hsw pi_w (blkOk_by ok) pg_B pt_B pe_B hs) (lc_run hi hj ho h hz E fun v H1 S1 g1 e1 p1 r1 => k _ H1 S1 ⟨g1.mono, g1.keep, g1.up, fun a ha => by
    rcases own_set ha with ha | ⟨w, ha, e⟩
    · exact g1.ow a ha
    · exact res_ow r1 ha e⟩ (e1.set r1) (p1.trans (pin_set fun t e => by rw [hd] at e; cases e; exact hf)))
end
/-! #### comprehensions of two clauses -/
section
variable (X : Cx) (T : List NTab) (scope : Scope) (vs vs1 : List Nat) (tg : Expr) (ifs : List Expr) (src : Src) (tg1 iter1 : Expr) (ifs1 : List Expr) (elt : Expr)
inductive Comp2 : Nat → List Sl → List PyData → List Sl → Prop
  | done {i : Nat} {δ : List Sl} {ds : List PyData} : srcAt src δ = some ds → ds.length ≤ i → Comp2 i δ [] δ
  | yes {i : Nat} {δ δ1 δ2 δ3 δ4 δ5 : List Sl} {ds ys zs : List PyData} {d : PyData} {src1 : Src} : srcAt src δ = some ds → ds[i]? = some d → Bl X scope (fun X => GW X T vs tg (.d d) δ δ1) → Bl X scope (fun X => TVs X T ifs δ1 true δ2) →
      Bl X scope (fun X => IV X T tg1 iter1 δ2 src1 δ3) → (∀ j, src1.at_ = some j → j ∉ vs1) → (∀ i ∈ vs1, (δ3[i]?).bind Sl.ow = none) → Comp X T scope vs1 tg1 ifs1 elt src1 0 (wipeD δ3 vs1) ys δ4 → Comp2 (i + 1) (wipeD δ4 vs) zs δ5 → Comp2 i δ (ys ++ zs) δ5
  | no {i : Nat} {δ δ1 δ2 δ5 : List Sl} {ds zs : List PyData} {d : PyData} : srcAt src δ = some ds → ds[i]? = some d → Bl X scope (fun X => GW X T vs tg (.d d) δ δ1) → Bl X scope (fun X => TVs X T ifs δ1 false δ2) → Comp2 (i + 1) (wipeD δ2 vs) zs δ5 → Comp2 i δ zs δ5
inductive Comp2N : Nat → Nat → List Sl → List PyData → List Sl → Prop
  | done {i : Nat} {δ : List Sl} {ds : List PyData} : srcAt src δ = some ds → ds.length ≤ i → Comp2N 0 i δ [] δ
  | yes {n i : Nat} {δ δ1 δ2 δ3 δ4 δ5 : List Sl} {ds ys zs : List PyData} {d : PyData} {src1 : Src} : srcAt src δ = some ds → ds[i]? = some d → Bl X scope (fun X => GW X T vs tg (.d d) δ δ1) → Bl X scope (fun X => TVs X T ifs δ1 true δ2) →
      Bl X scope (fun X => IV X T tg1 iter1 δ2 src1 δ3) → (∀ j, src1.at_ = some j → j ∉ vs1) → (∀ i ∈ vs1, (δ3[i]?).bind Sl.ow = none) → Comp X T scope vs1 tg1 ifs1 elt src1 0 (wipeD δ3 vs1) ys δ4 → Comp2N n (i + 1) (wipeD δ4 vs) zs δ5 → Comp2N (n + 1) i δ (ys ++ zs) δ5
  | no {n i : Nat} {δ δ1 δ2 δ5 : List Sl} {ds zs : List PyData} {d : PyData} : srcAt src δ = some ds → ds[i]? = some d → Bl X scope (fun X => GW X T vs tg (.d d) δ δ1) → Bl X scope (fun X => TVs X T ifs δ1 false δ2) → Comp2N n (i + 1) (wipeD δ2 vs) zs δ5 → Comp2N (n + 1) i δ zs δ5
end
section
variable {X : Cx} {T : List NTab} {K : PySem.W.Frag} {H H' : Hp} {S S' : Addr → Prop} {σ : St} {δ δ1 δ2 δ3 : List Sl} {p pos : Pos} {W : WX} {scope : Scope} {vs vs1 : List Nat} {tg tg1 iter iter1 : Expr} {ifs ifs1 : List Expr} {elt : Expr} {src src1 : Src}
theorem Comp2.count {i : Nat} {ys : List PyData} (h : Comp2 X T scope vs vs1 tg ifs src tg1 iter1 ifs1 elt i δ ys δ1) : ∃ n, Comp2N X T scope vs vs1 tg ifs src tg1 iter1 ifs1 elt n i δ ys δ1 := by
  induction h with
  | done a b => exact ⟨0, .done a b⟩
  | yes a b c d e f g h _ ih => obtain ⟨n, ih⟩ := ih; exact ⟨n + 1, .yes a b c d e f g h ih⟩
  | no a b c d _ ih => obtain ⟨n, ih⟩ := ih; exact ⟨n + 1, .no a b c d ih⟩
theorem At.unwipe {Hb : Hp} {Sb Pb : Addr → Prop} {D : Addr} {acc : List PyData} {σ2 : L2.St} (A : At K T Hb Sb Pb D H S (wipe σ2 vs1) δ2 acc) (h : wipe (wipe σ2 vs1) vs = wipe σ vs) : At K T Hb Sb Pb D H S (wipe σ vs) (wipeD δ2 vs) acc := by
  have := A.wiped vs
  rw [h] at this
  exact this
theorem wipe_sub {σ : L2.St} (h : ∀ i ∈ vs1, i ∈ vs) : wipe (wipe σ vs1) vs = wipe σ vs := wipe_eq (fun i hi => wipe_out fun z => hi (h i z)) (wipe_length σ vs1)
theorem lc2_run {own : List (Str × Nat)} {ys : List PyData} (hi : IV X T tg iter δ src δ1) (hj : ∀ j, src.at_ = some j → j ∉ own.map (·.2)) (hv : ∀ i ∈ vs1, i ∈ own.map (·.2)) (ho : ∀ i ∈ own.map (·.2), (δ1[i]?).bind Sl.ow = none) (h : Comp2 X T scope (own.map (·.2)) vs1 tg ifs src tg1 iter1 ifs1 elt 0 (wipeD δ1 (own.map (·.2))) ys δ2) (hz : ys.length ≤ sizeLine)
    (E : Env X.K T H S σ δ) {Q : VK} (k : ∀ v H' S', Go H S (Owned σ δ) H' S' (Owned σ (mendD δ1 δ2 (own.map (·.2)))) → Env X.K T H' S' σ (mendD δ1 δ2 (own.map (·.2))) → Pin σ δ σ (mendD δ1 δ2 (own.map (·.2))) → Res X.K H (Owned σ δ) H' S' (Owned σ (mendD δ1 δ2 (own.map (·.2)))) (.o (.lst ys)) v → Q v H') :
    tLc2 (wI X tg iter) (gB X scope tg) (tB X scope ifs) (iB X scope tg1 iter1) (gB X scope tg1) (tB X scope ifs1) (eB X scope elt) (own.map (·.2)) vs1 σ H Q := hi σ H S _ E fun J H1 S1 g1 e1 p1 ww D hD => by
  obtain ⟨n0, h⟩ := h.count
  generalize hvs : own.map (·.2) = vs at *
  have fin : ∀ H' S', At X.K T H1 S1 (Owned σ δ1) D H' S' (wipe σ vs) δ2 ys → Pin (wipe σ vs) (wipeD δ1 vs) (wipe σ vs) δ2 → Q (.ref D) H' := fun H' S' A p =>
    lc_end e1 hD ho (fun v H2 S2 g2 e2 p2 r2 => k v H2 S2 (g1.trans g2) e2 (p1.trans p2) (r2.back g1.keep g1.ow)) A p
  have m0 : Same (vw H1 S1) (vw (upd H1 D (.lst [])) fun a => S1 a ∨ a = D) := fun a u e => (new_lsto (ds := []) e1 hD .nil).1.mono a u e
  have A0 := lc_at (vs := vs) e1 hD
  generalize upd H1 D (.lst []) = Hs at *
  generalize (fun a => S1 a ∨ a = D) = Ss at *
  refine ⟨fun i m H' => ∃ S' δ' acc zs, At X.K T H1 S1 (Owned σ δ1) D H' S' (wipe σ vs) (wipeD δ' vs) acc ∧ Same (vw Hs Ss) (vw H' S') ∧ Pin (wipe σ vs) (wipeD δ1 vs) (wipe σ vs) (wipeD δ' vs) ∧ acc ++ zs = ys ∧ Comp2N X T scope vs vs1 tg ifs src tg1 iter1 ifs1 elt m i (wipeD δ' vs) zs δ2, ⟨n0, Ss, δ1, [], ys, A0, Same.refl _, Pin.refl _ _, rfl, h⟩, ?_⟩
  rintro i m H' ⟨S', δ', acc, zs, A', m', p', e', hc⟩
  have hσ : ∀ j, src.at_ = some j → (wipe σ vs)[j]? = σ[j]? := fun j e => wipe_out (hj j e)
  generalize hδ : wipeD δ' vs = δw at *
  cases hc with
  | done a b =>
    refine .inl ⟨(ww _ H' S' _ _ A'.env (m0.trans m') hσ a).2.1 i b, ?_⟩
    refine fin H' S' ?_ p'
    rw [← e', List.append_nil]
    exact A'
  | @yes n _ _ δ3 δ4 δ5 δ6 _ ds ys1 zs d src1 a b c1 c2 c3 cj co hin hn =>
    obtain ⟨w1, _, w3⟩ := ww _ H' S' _ _ A'.env (m0.trans m') hσ a
    refine .inr ⟨w1 i (List.getElem?_eq_some_iff.mp b).1, fun H3 => ∃ S3 δ3 acc zs, At X.K T H1 S1 (Owned σ δ1) D H3 S3 (wipe σ vs) (wipeD δ3 vs) acc ∧ Same (vw Hs Ss) (vw H3 S3) ∧ Pin (wipe σ vs) (wipeD δ1 vs) (wipe σ vs) (wipeD δ3 vs) ∧ acc ++ zs = ys ∧ Comp2N X T scope vs vs1 tg ifs src tg1 iter1 ifs1 elt n (i + 1) (wipeD δ3 vs) zs δ2, fun H3 q => ⟨n, Nat.lt_succ_self _, q⟩, fun x H3 yl => ?_⟩
    obtain ⟨S3, g3, e3, r3⟩ := w3 i x H3 d yl b
    intro s0 H0 C cl fp
    refine c1 s0 H0 C cl fp _ H3 S3 H' (Owned (wipe σ vs) δw) x _ e3 r3 g3.keep g3.ow fun σ4 H4 S4 m4 k4 u4 o4 e4 p4 f4 l4 => ?_
    have hw : wipe σ4 vs = wipe σ vs := (wipe_eq f4 l4).trans wipe_wipe
    refine ⟨hw, fun s0 H0 C cl fp => c2 s0 H0 C cl fp σ4 H4 S4 _ e4 fun H5 S5 g5 e5 p5 => iteT fun s0 H0 C cl fp => c3 s0 H0 C cl fp σ4 H5 S5 _ e5 fun J1 H6 S6 g6 e6 p6 ww1 => ?_⟩
    have g4 : Go H' S' (Owned (wipe σ vs) δw) H4 S4 (Owned σ4 δ3) := ⟨g3.mono.trans m4, k4, fun a h1 h2 h3 => u4 a (g3.up a h1 h2 h3) h2 h3, o4⟩
    have A6 := (A'.on ((g4.trans g5).trans g6) e6).wiped vs1
    obtain ⟨n1, hin⟩ := hin.count
    refine comp_loop hin ww1 cj A6 (Same.refl _) ?_ fun H7 S7 A7 m7 p7 => ?_
    · have := congrArg List.length e'
      simp only [List.length_append] at this
      omega
    · refine ⟨S7, δ6, acc ++ ys1, zs, A7.unwipe ((wipe_sub hv).trans hw), m'.trans (((g4.trans g5).trans g6).mono.trans m7), ?_, by rw [List.append_assoc]; exact e', hn⟩
      have q1 := (p'.trans p4).trans (p5.trans p6)
      have q2 : Pin (wipe σ vs) (wipeD δ1 vs) (wipe σ4 vs1) δ6 := fun j w e => by
        obtain ⟨a1, w', b1⟩ := q1 j w e
        have nj : j ∉ vs1 := fun z => by
          have := co j z
          rw [b1] at this
          cases this
        obtain ⟨_, w'', b2⟩ := p7 j w' (by rw [wipeD_out nj]; exact b1)
        exact ⟨by rw [wipe_out nj]; exact a1, w'', b2⟩
      have q3 := pin_wipe (δ := δ1) q2 ((wipe_sub hv).trans hw)
      rw [(wipe_sub hv).trans hw] at q3
      exact q3
  | @no n _ _ δ3 δ4 _ ds zs d a b c1 c2 hn =>
    obtain ⟨w1, _, w3⟩ := ww _ H' S' _ _ A'.env (m0.trans m') hσ a
    refine .inr ⟨w1 i (List.getElem?_eq_some_iff.mp b).1, fun H3 => ∃ S3 δ3 acc zs, At X.K T H1 S1 (Owned σ δ1) D H3 S3 (wipe σ vs) (wipeD δ3 vs) acc ∧ Same (vw Hs Ss) (vw H3 S3) ∧ Pin (wipe σ vs) (wipeD δ1 vs) (wipe σ vs) (wipeD δ3 vs) ∧ acc ++ zs = ys ∧ Comp2N X T scope vs vs1 tg ifs src tg1 iter1 ifs1 elt n (i + 1) (wipeD δ3 vs) zs δ2, fun H3 q => ⟨n, Nat.lt_succ_self _, q⟩, fun x H3 yl => ?_⟩
    obtain ⟨S3, g3, e3, r3⟩ := w3 i x H3 d yl b
    intro s0 H0 C cl fp
    refine c1 s0 H0 C cl fp _ H3 S3 H' (Owned (wipe σ vs) δw) x _ e3 r3 g3.keep g3.ow fun σ4 H4 S4 m4 k4 u4 o4 e4 p4 f4 l4 => ?_
    have hw : wipe σ4 vs = wipe σ vs := (wipe_eq f4 l4).trans wipe_wipe
    refine ⟨hw, fun s0 H0 C cl fp => c2 s0 H0 C cl fp σ4 H4 S4 _ e4 fun H5 S5 g5 e5 p5 => iteF ?_⟩
    have g4 : Go H' S' (Owned (wipe σ vs) δw) H4 S4 (Owned σ4 δ3) := ⟨g3.mono.trans m4, k4, fun a h1 h2 h3 => u4 a (g3.up a h1 h2 h3) h2 h3, o4⟩
    have A5 := (A'.on (g4.trans g5) e5).wiped vs
    rw [hw] at A5
    refine ⟨S5, δ4, acc, zs, A5, m'.trans (g4.trans g5).mono, ?_, e', hn⟩
    have := pin_wipe (δ := δ1) ((p'.trans p4).trans p5) hw
    rw [hw] at this
    exact this
theorem ev_lc2 {own : List (Str × Nat)} {ys : List PyData} (hc : X.calm = true) (hN : X.N.Nodup) (ok : blkC X.N X.env.scope scope own = true) (hi : IV X T tg iter δ src δ1) (hj : ∀ j, src.at_ = some j → j ∉ own.map (·.2)) (hv : ∀ i ∈ vs1, i ∈ own.map (·.2)) (ho : ∀ i ∈ own.map (·.2), (δ1[i]?).bind Sl.ow = none)
    (h : Comp2 X T scope (own.map (·.2)) vs1 tg ifs src tg1 iter1 ifs1 elt 0 (wipeD δ1 (own.map (·.2))) ys δ2) (hz : ys.length ≤ sizeLine) (hs : ∀ x, foldedSetIterable iter X.env x = pure x := by intro _; rfl) (hs1 : ∀ env x, foldedSetIterable iter1 env x = pure x := by intro _ _; rfl) : EV X T (.ListComp elt [⟨tg, iter, ifs, 0⟩, ⟨tg1, iter1, ifs1, 0⟩] scope pos) δ (.o (.lst ys)) (mendD δ1 δ2 (own.map (·.2))) := fun σ H S Q E k =>
  we_of (pe_lc2 hc hN pi_w (blkOk_by ok) hv pg_B pt_B pi_B pg_B pt_B pe_B hs hs1) (lc2_run hi hj hv ho h hz E k)
theorem sv_setLc2 {own : List (Str × Nat)} {ys : List PyData} {i : Nat} {y : Str} {py spos : Pos} {s : Sl} (hc : X.calm = true) (hN : X.N.Nodup) (hy : X.N[i]? = some y) (hyl : X.env.scope.names.lookup y = some .local) (hsw : swapsWith (.ListComp elt [⟨tg, iter, ifs, 0⟩, ⟨tg1, iter1, ifs1, 0⟩] scope pos) (some (.Name y py)) spos.line X.env = pure true)
    (ok : blkC X.N X.env.scope scope own = true) (hi : IV X T tg iter δ src δ1) (hj : ∀ j, src.at_ = some j → j ∉ own.map (·.2)) (hv : ∀ i ∈ vs1, i ∈ own.map (·.2)) (ho : ∀ i ∈ own.map (·.2), (δ1[i]?).bind Sl.ow = none)
    (h : Comp2 X T scope (own.map (·.2)) vs1 tg ifs src tg1 iter1 ifs1 elt 0 (wipeD δ1 (own.map (·.2))) ys δ2) (hz : ys.length ≤ sizeLine) (hd : (mendD δ1 δ2 (own.map (·.2)))[i]? = some s) (hf : s.free := by trivial) (hs : ∀ x, foldedSetIterable iter X.env x = pure x := by intro _; rfl) (hs1 : ∀ env x, foldedSetIterable iter1 env x = pure x := by intro _ _; rfl) :
    SV X T W (.Assign [.Name y py] (.ListComp elt [⟨tg, iter, ifs, 0⟩, ⟨tg1, iter1, ifs1, 0⟩] scope pos) spos) δ (.nx ((mendD δ1 δ2 (own.map (·.2))).set i (.o (.lst ys)))) := fun σ H S D E k =>
  ws_of (ps_setLc2 hc hN hy hyl hsw pi_w (blkOk_by ok) hv pg_B pt_B pi_B pg_B pt_B pe_B hs hs1) (lc2_run hi hj hv ho h hz E fun v H1 S1 g1 e1 p1 r1 => k _ H1 S1 ⟨g1.mono, g1.keep, g1.up, fun a ha => by
    rcases own_set ha with ha | ⟨w, ha, e⟩
    · exact g1.ow a ha
    · exact res_ow r1 ha e⟩ (e1.set r1) (p1.trans (pin_set fun t e => by rw [hd] at e; cases e; exact hf)))
end
/-! #### over what does not change -/
section
variable {X : Cx} {T : List NTab} {δ δ1 δ2 δ3 : List Sl} {scope : Scope} {vs : List Nat} {tg : Expr} {ifs : List Expr} {elt : Expr}
def CompF (X : Cx) (T : List NTab) (scope : Scope) (vs : List Nat) (tg : Expr) (ifs : List Expr) (elt : Expr) (ds : List PyData) (δ : List Sl) (ys : List PyData) (δ' : List Sl) : Prop := ∀ (pre : List PyData) (i : Nat), pre.length = i → Comp X T scope vs tg ifs elt (.fix (pre ++ ds)) i δ ys δ'
theorem CompF.at {ds ys : List PyData} (h : CompF X T scope vs tg ifs elt ds δ ys δ1) : Comp X T scope vs tg ifs elt (.fix ds) 0 δ ys δ1 := h [] 0 rfl
theorem cf_nil : CompF X T scope vs tg ifs elt [] δ [] δ := fun pre i h => .done rfl (by simp [h])
theorem CompF.next {d : PyData} {ds ys : List PyData} (q : CompF X T scope vs tg ifs elt ds δ ys δ1) {pre : List PyData} {i : Nat} (h : pre.length = i) : Comp X T scope vs tg ifs elt (.fix (pre ++ d :: ds)) (i + 1) δ ys δ1 := by
  have z := q (pre ++ [d]) (i + 1) (by simp [h])
  rw [List.append_assoc] at z
  exact z
theorem cf_yes {d y : PyData} {ds ys : List PyData} {δ4 : List Sl} (hg : Bl X scope (fun X => GW X T vs tg (.d d) δ δ1)) (ht : Bl X scope (fun X => TVs X T ifs δ1 true δ2)) (he : Bl X scope (fun X => EV X T elt δ2 (.d y) δ3)) (q : CompF X T scope vs tg ifs elt ds (wipeD δ3 vs) ys δ4) : CompF X T scope vs tg ifs elt (d :: ds) δ (y :: ys) δ4 := fun pre i h => .yes rfl (at_pre h) hg ht he (q.next h)
theorem cf_no {d : PyData} {ds ys : List PyData} {δ4 : List Sl} (hg : Bl X scope (fun X => GW X T vs tg (.d d) δ δ1)) (ht : Bl X scope (fun X => TVs X T ifs δ1 false δ2)) (q : CompF X T scope vs tg ifs elt ds (wipeD δ2 vs) ys δ4) : CompF X T scope vs tg ifs elt (d :: ds) δ ys δ4 := fun pre i h => .no rfl (at_pre h) hg ht (q.next h)
/-- nothing changes at a turn -/
theorem cf_map {α : Type} {xs : List α} {en f : α → PyData} {c : α → Bool} {st1 st2 st3 : α → List Sl} (hg : Bl X scope (fun X => ∀ x ∈ xs, GW X T vs tg (.d (en x)) δ (st1 x))) (ht : Bl X scope (fun X => ∀ x ∈ xs, TVs X T ifs (st1 x) (c x) (st2 x))) (he : Bl X scope (fun X => ∀ x ∈ xs, c x = true → EV X T elt (st2 x) (.d (f x)) (st3 x)))
    (h2 : ∀ x, wipeD (st2 x) vs = δ := by intro _; rfl) (h3 : ∀ x, wipeD (st3 x) vs = δ := by intro _; rfl) : CompF X T scope vs tg ifs elt (xs.map en) δ ((xs.filter c).map f) δ := by
  induction xs with
  | nil => exact cf_nil
  | cons x xs ih =>
    have ih := ih (fun s H C cl fp y hy => hg s H C cl fp y (List.mem_cons_of_mem _ hy)) (fun s H C cl fp y hy => ht s H C cl fp y (List.mem_cons_of_mem _ hy)) (fun s H C cl fp y hy => he s H C cl fp y (List.mem_cons_of_mem _ hy))
    cases e : c x with
    | true =>
      rw [List.filter_cons_of_pos e]
      refine cf_yes (fun s H C cl fp => hg s H C cl fp x List.mem_cons_self) (fun s H C cl fp => e ▸ ht s H C cl fp x List.mem_cons_self) (fun s H C cl fp => he s H C cl fp x List.mem_cons_self e) ?_
      rw [h3 x]
      exact ih
    | false =>
      rw [List.filter_cons_of_neg (by rw [e]; exact Bool.false_ne_true)]
      refine cf_no (fun s H C cl fp => hg s H C cl fp x List.mem_cons_self) (fun s H C cl fp => e ▸ ht s H C cl fp x List.mem_cons_self) ?_
      rw [h2 x]
      exact ih
/-- .. and nothing is left out -/
theorem cf_all {α : Type} {xs : List α} {en f : α → PyData} {st1 st3 : α → List Sl} (hg : Bl X scope (fun X => ∀ x ∈ xs, GW X T vs tg (.d (en x)) δ (st1 x))) (he : Bl X scope (fun X => ∀ x ∈ xs, EV X T elt (st1 x) (.d (f x)) (st3 x)))
    (h3 : ∀ x, wipeD (st3 x) vs = δ := by intro _; rfl) : CompF X T scope vs tg [] elt (xs.map en) δ (xs.map f) δ := by
  induction xs with
  | nil => exact cf_nil
  | cons x xs ih =>
    have ih := ih (fun s H C cl fp y hy => hg s H C cl fp y (List.mem_cons_of_mem _ hy)) (fun s H C cl fp y hy => he s H C cl fp y (List.mem_cons_of_mem _ hy))
    refine cf_yes (fun s H C cl fp => hg s H C cl fp x List.mem_cons_self) (fun s H C cl fp => tvs_nil) (fun s H C cl fp => he s H C cl fp x List.mem_cons_self) ?_
    rw [h3 x]
    exact ih
end
end Sc
namespace Sc
open PySem L2 NdefX
section
variable {X : Cx} {T : List NTab} {K : PySem.W.Frag} {H H' : Hp} {S S' : Addr → Prop} {σ : St} {δ δ1 δ2 δ3 : List Sl} {e : Expr} {tg : Expr} {p pos : Pos} {W : WX} {vs : List Nat}
/-! #### a, b = x, y -/
def Dist (rs : List Sl) (vs : List V) : Prop := ∀ (i j : Nat) (w u : Ow) (p : Addr), i < j → rs[i]? = some (.o w) → rs[j]? = some (.o u) → vs[i]? = some (.ref p) → vs[j]? ≠ some (.ref p)
def AO (X : Cx) (T : List NTab) (es : List Expr) (δ : List Sl) (rs : List Sl) (δ' : List Sl) : Prop := ∀ (σ : St) (H : Hp) (S : Addr → Prop) (Q : List V → Hp → Prop), Env X.K T H S σ δ →
  (∀ vs H' S', Go H S (Owned σ δ) H' S' (Owned σ δ') → Env X.K T H' S' σ δ' → Pin σ δ σ δ' → ResAll X.K H (Owned σ δ) H' S' (Owned σ δ') rs vs → Dist rs vs → Q vs H') → wA X es σ H Q
theorem ao_nil {δ : List Sl} : AO X T [] δ [] δ := fun σ H S Q E k => wa_of pa_nil (k [] H S (Go.refl _ _ _) E (Pin.refl _ _) .nil fun i j w u p _ h => by simp at h)
theorem resAll_ow {H0 : Hp} {P0 P' : Addr → Prop} : ∀ {rs : List Sl} {vs : List V} {i : Nat} {w : Ow} {p : Addr}, ResAll K H0 P0 H S P' rs vs → rs[i]? = some (.o w) → vs[i]? = some (.ref p) → P0 p ∨ Fresh H0 p
  | _, _, i, _, _, .nil, h, _ => by simp at h
  | _, _, 0, w, p, .cons a _, h, h' => by
    simp at h h'
    subst h h'
    exact res_ow a rfl rfl
  | _, _, i + 1, w, p, .cons _ b, h, h' => resAll_ow (i := i) b (by simpa using h) (by simpa using h')
theorem ao_cons {es : List Expr} {r : Sl} {rs : List Sl} (h : EV X T e δ r δ1) (hs : AO X T es δ1 rs δ2) (he : starEach (e :: es) X.env = (false, eval e X.env) :: starEach es X.env := by rfl) : AO X T (e :: es) δ (r :: rs) δ2 := fun σ H S Q E k =>
  wa_of (pa_cons pe_w pa_w he) (h σ H S _ E fun v1 H1 S1 g1 e1 p1 r1 => hs σ H1 S1 _ e1 fun vs H2 S2 g2 e2 p2 r2 d2 => k (v1 :: vs) H2 S2 (g1.trans g2) e2 (p1.trans p2) (.cons (r1.go g2) (r2.back g1.keep g1.ow)) fun i j w u q hij h1 h2 h3 h4 => by
    cases j with
    | zero => omega
    | succ j =>
      cases i with
      | succ i => exact d2 i j w u q (by omega) (by simpa using h1) (by simpa using h2) (by simpa using h3) (by simpa using h4)
      | zero =>
        simp at h1 h2 h3 h4
        subst h1 h3
        obtain ⟨q', e', hS, hP, ho, _⟩ := r1
        cases e'
        rcases resAll_ow r2 h2 h4 with z | z
        · exact hP z
        · exact ho.old z)
/-- what stands beside a slot that is set -/
theorem res_set {H0 : Hp} {P0 : Addr → Prop} {i : Nat} {v v' : V} {r r' : Sl} (x : Res K H0 P0 H S (Owned σ δ) r' v') (hd : ∀ w u p, r = .o w → r' = .o u → v = .ref p → v' ≠ .ref p) (hr : Res K H0 P0 H S (Owned σ δ) r v) : Res K H0 P0 H S (Owned (σ.set i (some v)) (δ.set i r)) r' v' := by
  cases r' with
  | o w =>
    obtain ⟨q, e, a, b, c, d⟩ := x
    refine ⟨q, e, a, fun z => ?_, c, d⟩
    rcases own_set z with z | ⟨u, z, e2⟩
    · exact b z
    · cases r with
      | o u' => exact hd u' w q rfl rfl e2 e
      | b u' => exact (show False from hr).elim
      | _ => cases z
  | _ => exact x
theorem resAll_set {H0 : Hp} {P0 : Addr → Prop} {i : Nat} {v : V} {r : Sl} (hr : Res K H0 P0 H S (Owned σ δ) r v) : ∀ {rs : List Sl} {vs : List V}, ResAll K H0 P0 H S (Owned σ δ) rs vs → (∀ (j : Nat) (w u : Ow) (p : Addr), r = .o w → rs[j]? = some (.o u) → v = .ref p → vs[j]? ≠ some (.ref p)) → ResAll K H0 P0 H S (Owned (σ.set i (some v)) (δ.set i r)) rs vs
  | _, _, .nil, _ => .nil
  | _, _, .cons a b, h => .cons (res_set a (fun w u p h1 h2 h3 h4 => h 0 w u p h1 (by simp [h2]) h3 (by simp [h4])) hr) (resAll_set hr b fun j w u p h1 h2 h3 h4 => h (j + 1) w u p h1 (by simpa using h2) h3 (by simpa using h4))
theorem Dist.tail {r : Sl} {rs : List Sl} {v : V} {vs : List V} (h : Dist (r :: rs) (v :: vs)) : Dist rs vs := fun i j w u p hij h1 h2 h3 h4 => h (i + 1) (j + 1) w u p (by omega) (by simpa using h1) (by simpa using h2) (by simpa using h3) (by simpa using h4)
theorem Dist.head {r : Sl} {rs : List Sl} {v : V} {vs : List V} (h : Dist (r :: rs) (v :: vs)) (j : Nat) (w u : Ow) (p : Addr) (h1 : r = .o w) (h2 : rs[j]? = some (.o u)) (h3 : v = .ref p) : vs[j]? ≠ some (.ref p) := fun h4 => h 0 (j + 1) w u p (by omega) (by simp [h1]) (by simpa using h2) (by simp [h3]) (by simpa using h4)
def setsS (σ : L2.St) : List Nat → List V → L2.St
  | i :: is, v :: vs => setsS (σ.set i (some v)) is vs
  | _, _ => σ
def setsD (δ : List Sl) : List Nat → List Sl → List Sl
  | i :: is, r :: rs => setsD (δ.set i r) is rs
  | _, _ => δ
/-- several slots are set -/
theorem env_sets {H0 : Hp} {P0 : Addr → Prop} : ∀ {is : List Nat} {rs : List Sl} {xs : List V} {σ : L2.St} {δ : List Sl}, Env K T H S σ δ → ResAll K H0 P0 H S (Owned σ δ) rs xs → Dist rs xs → (∀ a, Owned σ δ a → P0 a ∨ Fresh H0 a) → (∀ i ∈ is, ∀ s, δ[i]? = some s → s.free) → (∀ s ∈ rs, s.free) →
    Env K T H S (setsS σ is xs) (setsD δ is rs) ∧ (∀ a, Owned (setsS σ is xs) (setsD δ is rs) a → P0 a ∨ Fresh H0 a) ∧ Pin σ δ (setsS σ is xs) (setsD δ is rs)
  | [], rs, xs, σ, δ, E, x, d, w, f, f' => by
    cases rs <;> cases xs <;> exact ⟨E, w, Pin.refl _ _⟩
  | i :: is, _, _, σ, δ, E, .nil, d, w, f, f' => ⟨E, w, Pin.refl _ _⟩
  | i :: is, _, _, σ, δ, E, .cons (r := r) (v := v) a b, d, w, f, f' => by
    obtain ⟨h1, h2, h3⟩ := env_sets (is := is) (E.set (i := i) a) (resAll_set a b fun j => d.head j) d.tail (fun q h => by
      rcases own_set h with h | ⟨u, h, e⟩
      · exact w q h
      · exact res_ow a h e) (fun j hj s hs => by
      by_cases e : i = j
      · subst e
        by_cases hl : i < δ.length
        · rw [List.getElem?_set_self hl] at hs
          cases hs
          exact f' _ List.mem_cons_self
        · rw [List.getElem?_eq_none (by simpa using hl)] at hs
          cases hs
      · rw [List.getElem?_set_ne e] at hs
        exact f j (List.mem_cons_of_mem _ hj) s hs) fun s hs => f' s (List.mem_cons_of_mem _ hs)
    exact ⟨h1, h2, (pin_set (v := v) (r := r) (f i List.mem_cons_self)).trans h3⟩
theorem free_all {is : List Nat} (h : (is.all fun i => match δ[i]? with | some (.b _) => false | _ => true) = true) : ∀ i ∈ is, ∀ s, δ[i]? = some s → s.free := fun i hi s e => by
  rw [List.all_eq_true] at h
  have q := h i hi
  rw [e] at q
  cases s <;> first | trivial | cases q
theorem resAll_free {H0 : Hp} {P0 P' : Addr → Prop} : ∀ {rs : List Sl} {vs : List V}, ResAll K H0 P0 H S P' rs vs → ∀ s ∈ rs, s.free
  | _, _, .nil, s, h => by cases h
  | _, _, .cons a b, s, h => by
    rcases List.mem_cons.mp h with e | h
    · subst e
      cases s <;> first | trivial | exact a
    · exact resAll_free b s h
theorem sv_par2 {i j : Nat} {x y : Str} {a b : Expr} {r1 r2 : Sl} {px py pt : Pos} {kt k2 pt2} (hc : X.calm = true) (hN : X.N.Nodup) (hi : X.N[i]? = some x) (hj : X.N[j]? = some y) (hij : i ≠ j) (h : AO X T [a, b] δ [r1, r2] δ1)
    (hw : swappedStores [.Tuple [.Name x px, .Name y py] kt pt] (.Tuple [a, b] k2 pt2) X.env = pure (some [x, y])) (hf : ([i, j].all fun i => match δ1[i]? with | some (.b _) => false | _ => true) = true := by rfl)
    (hx : X.env.scope.names.lookup x = some .local := by rfl) (hy : X.env.scope.names.lookup y = some .local := by rfl) (hs : swapsWithSole [.Tuple [.Name x px, .Name y py] kt pt] (.Tuple [a, b] k2 pt2) pos.line X.env = pure false := by rfl) :
    SV X T W (.Assign [.Tuple [.Name x px, .Name y py] kt pt] (.Tuple [a, b] k2 pt2) pos) δ (.nx ((δ1.set i r1).set j r2)) := fun σ H S D E k =>
  ws_of (ps_par hc hN hi hj hij hx hy pa_w hw hs) (h σ H S _ E fun vs H1 S1 g1 e1 p1 r d => by
    obtain ⟨ee, ow, pp⟩ := env_sets (is := [i, j]) e1 r d g1.ow (free_all hf) (resAll_free r)
    cases r with
    | cons a1 r =>
      cases r with
      | cons a2 r =>
        cases r
        exact ⟨_, _, rfl, k _ H1 S1 ⟨g1.mono, g1.keep, g1.up, ow⟩ ee (p1.trans pp)⟩)
theorem sv_par3 {i j l : Nat} {x y z : Str} {a b c : Expr} {r1 r2 r3 : Sl} {px py pz pt : Pos} {kt k2 pt2} (hc : X.calm = true) (hN : X.N.Nodup) (hi : X.N[i]? = some x) (hj : X.N[j]? = some y) (hl : X.N[l]? = some z) (hij : i ≠ j) (hil : i ≠ l) (hjl : j ≠ l) (h : AO X T [a, b, c] δ [r1, r2, r3] δ1)
    (hw : swappedStores [.Tuple [.Name x px, .Name y py, .Name z pz] kt pt] (.Tuple [a, b, c] k2 pt2) X.env = pure (some [x, y, z])) (hf : ([i, j, l].all fun i => match δ1[i]? with | some (.b _) => false | _ => true) = true := by rfl)
    (hx : X.env.scope.names.lookup x = some .local := by rfl) (hy : X.env.scope.names.lookup y = some .local := by rfl) (hz : X.env.scope.names.lookup z = some .local := by rfl) (hs : swapsWithSole [.Tuple [.Name x px, .Name y py, .Name z pz] kt pt] (.Tuple [a, b, c] k2 pt2) pos.line X.env = pure false := by rfl) :
    SV X T W (.Assign [.Tuple [.Name x px, .Name y py, .Name z pz] kt pt] (.Tuple [a, b, c] k2 pt2) pos) δ (.nx (((δ1.set i r1).set j r2).set l r3)) := fun σ H S D E k =>
  ws_of (ps_par3 hc hN hi hj hl hij hil hjl hx hy hz pa_w hw hs) (h σ H S _ E fun vs H1 S1 g1 e1 p1 r d => by
    obtain ⟨ee, ow, pp⟩ := env_sets (is := [i, j, l]) e1 r d g1.ow (free_all hf) (resAll_free r)
    cases r with
    | cons a1 r =>
      cases r with
      | cons a2 r =>
        cases r with
        | cons a3 r =>
          cases r
          exact ⟨_, _, _, rfl, k _ H1 S1 ⟨g1.mono, g1.keep, g1.up, ow⟩ ee (p1.trans pp)⟩)
/-- .. as a tuple is laid and taken apart again -/
inductive Nms (X : Cx) : List Expr → List Nat → Prop
  | nil : Nms X [] []
  | cons {x : Str} {px : Pos} {es : List Expr} {i : Nat} {is : List Nat} : X.N[i]? = some x → Loc X.env.scope x → (X.fn x = true ∨ X.env.scope.names.lookup x = some .local) → ((assignEach (.Name x px :: es) X.env).map (·.2) = assign (.Name x px) X.env :: (assignEach es X.env).map (·.2)) → Nms X es is → Nms X (.Name x px :: es) (i :: is)
theorem wgs_nms (hN : X.N.Nodup) : ∀ {es : List Expr} {is : List Nat} {xs : List V} {σ : L2.St} {H : Hp} {Q : L2.St → Hp → Prop}, Nms X es is → xs.length = is.length → Q (setsS σ is xs) H → wGs X es xs σ H Q
  | _, _, [], σ, H, Q, .nil, _, q => wgs_of pgs_nil ⟨rfl, q⟩
  | _, _, v :: xs, σ, H, Q, .cons a b c d n, hl, q => wgs_of (pgs_cons (pg_name hN a b c) pgs_w d) ⟨v, xs, rfl, wgs_nms hN n (by simpa using hl) q⟩
theorem resAll_len {H0 : Hp} {P0 P' : Addr → Prop} : ∀ {rs : List Sl} {vs : List V}, ResAll K H0 P0 H S P' rs vs → vs.length = rs.length
  | _, _, .nil => rfl
  | _, _, .cons _ b => congrArg (· + 1) (resAll_len b)
theorem sv_parT {tgs es : List Expr} {is : List Nat} {rs : List Sl} {pt pt2 : Pos} {kt k2 : Nat} {n : Nat} (hc : X.calm = true) (hN : X.N.Nodup) (h : AO X T es δ rs δ1) (hn : Nms X tgs is) (hl : rs.length = n := by rfl) (hli : is.length = n := by rfl) (hl2 : n ≤ 1000 := by exact Nat.le_of_ble_eq_true rfl) (ha : (assignEach tgs X.env).length = n := by rfl)
    (hst : (assignEach tgs X.env).findIdx? (·.1) = none := by rfl) (hf : (is.all fun i => match δ1[i]? with | some (.b _) => false | _ => true) = true := by rfl) (hs : swapsWithSole [.Tuple tgs kt pt] (.Tuple es k2 pt2) pos.line X.env = pure false := by rfl) (hw : swappedStores [.Tuple tgs kt pt] (.Tuple es k2 pt2) X.env = pure none := by rfl)
    (h1 : (assignEach [.Tuple tgs kt pt] X.env).map (·.2) = [assign (.Tuple tgs kt pt) X.env] := by rfl) : SV X T W (.Assign [.Tuple tgs kt pt] (.Tuple es k2 pt2) pos) δ (.nx (setsD δ1 is rs)) := fun σ H S D E k =>
  ws_of (ps_asg (pe_tup pa_w) (pg_tup hc pgs_w ha hst) hs hw h1) (h σ H S _ E fun vs H1 S1 g1 e1 p1 r d => by
    have hlen := resAll_len r
    refine ⟨by rw [hlen, hl]; exact Nat.le_trans hl2 (by decide), fun q hq => ⟨q, vs, rfl, .inl (.inl upd_same), by rw [hlen, hl], wgs_nms hN hn (by rw [hlen, hl, hli]) ?_⟩⟩
    obtain ⟨g2, e2, _, _⟩ := new_d (o := .tup vs) e1 hq rfl
    have r2 := r.go g2
    obtain ⟨ee, ow, pp⟩ := env_sets (is := is) e2 r2 d (fun a ha => g1.ow a ha) (free_all hf) (resAll_free r)
    have g3 := g1.trans g2
    exact k _ _ _ ⟨g3.mono, g3.keep, g3.up, ow⟩ ee (p1.trans pp))
end
end Sc
namespace Sc
open PySem L2 NdefX
/-! #### defs by name -/
/-- a def as the text has it: dvs the values of its defaults -/
structure Txt (K : PySem.W.Frag) (mg : Str → Option Value) (x : Str) (st : Stmt) (dvs : List V) : Prop where
  ex : ∃ (f : Addr) (fd : FuncData), FunD K x x (defArgs st) (defBody st) (defScope st) dvs [] f fd ∧ mg x = some (.ref f)
/-- .. as it keeps R -/
structure Def (P : Program) (w : World) (K : PySem.W.Frag) (mg : Str → Option Value) (base : Heap) (T : List NTab) (k : Nat) (x : Str) (dds : List PyData) (R : List Sl → Out → Prop) : Prop where
  ex : ∃ (f : Addr) (fd : FuncData) (ps : List Str) (dvs : List V) (ds : List Value), FnOk P w K mg base (L2.CX P w) k f fd ps (spM K T R) ∧ mg x = some (.ref f) ∧ PySem.W.keepIn K (.ref f) = true ∧ Binds K fd ps ds ∧ Vals dvs ds ∧ ∀ h, DpAll K h dvs dds
section
variable {P : Program} {w : World} {K : PySem.W.Frag} {mg : Str → Option Value} {base : Heap} {T : List NTab}
theorem fn_mkD {x : Str} {st : Stmt} {dvs : List V} {f : Addr} {fd : FuncData} {N ps : List Str} {k : Nat} {R : List Sl → Out → Prop} (F : FunD K x x (defArgs st) (defBody st) (defScope st) dvs [] f fd) (Sc : FnScope N ps (defScope st)) (hR : ∀ δ o, R δ o → δ.length = ps.length)
    (hb : ∀ (cdv : Value) (A : Around) (outer : List PySem.Env) (s : Shared) (H : Hp) (E : XK), Cok (cxOf (L2.CX P w) P w K mg base N x (defScope st) f cdv A outer s H E) (fun cls d _ H => E cls d H) k → ∀ δ o, R δ o →
      ∃ of, SVs (cxOf (L2.CX P w) P w K mg base N x (defScope st) f cdv A outer s H E) T (fun cls d _ H => E cls d H) (defBody st) (δ ++ List.replicate (N.length - ps.length) .no) of ∧ Fin δ of o) :
    FnOk P w K mg base (L2.CX P w) (k + 1) f fd ps (spM K T R) := by
  have len : ∀ vs H Q E, spM K T R vs H Q E → vs.length = ps.length := fun vs H Q E ⟨δ, o, S, hr, e, _⟩ => by
    have q := e.len
    rw [List.length_map] at q
    rw [q]
    exact hR δ o hr
  refine F.ok Sc len fun cdv A outer s H vs Q E hr h => ⟨wSs _ _, pss_w, ?_⟩
  have lv := len vs H Q E h
  obtain ⟨δ, o, S, hRo, e, h⟩ := h
  obtain ⟨of, hs, hf⟩ := hb cdv A outer s H E ⟨Sc.nd, rfl, passes_of rfl, takes_of rfl rfl rfl rfl, hr⟩ δ o hRo
  have e0 : L2.start N vs = vs.map some ++ List.replicate (N.length - ps.length) none := by
    unfold L2.start
    rw [lv]
  obtain ⟨es, ef⟩ := env_start (n := N.length - ps.length) e
  rw [e0]
  refine hs _ H S _ es ?_
  have pO : Owned (vs.map some ++ List.replicate (N.length - ps.length) none) (δ ++ List.replicate (N.length - ps.length) .no) = Owned (vs.map some) δ := funext fun q => propext (ef q)
  cases hf with
  | ret oo =>
    intro v σ' H' S' g e' p r
    rw [pO] at g r
    obtain ⟨e2, up⟩ := outs_env e e' g.mono p oo
    refine h v H' S' ⟨g.mono, g.keep, g.up, fun a ha => g.ow a (up a ha)⟩ e2 ?_
    cases ‹Sl› with
    | o w0 =>
      obtain ⟨q, a, b, c, d⟩ := r
      exact ⟨q, a, b, fun z => c (up q z), d⟩
    | _ => exact r
  | nx oo =>
    intro σ' H' S' g e' p
    rw [pO] at g
    obtain ⟨e2, up⟩ := outs_env e e' g.mono p oo
    exact h _ H' S' ⟨g.mono, g.keep, g.up, fun a ha => g.ow a (up a ha)⟩ e2 .non
  | ex oo =>
    intro cls d σ' H' S' g e' p i
    rw [pO] at g
    obtain ⟨e2, up⟩ := outs_env e e' g.mono p oo
    exact h cls d H' S' ⟨g.mono, g.keep, g.up, fun a ha => g.ow a (up a ha)⟩ e2 i
/-- an answer -/
inductive An where
  | r (s : Sl)
  | x (e : Exn)
def An.out (δ : List Sl) : An → Out
  | .r s => .ret s δ
  | .x e => .ex e δ
inductive EndsAs : Out → An → Prop
  | ret {r : Sl} {δ : List Sl} : EndsAs (.ret r δ) (.r r)
  | nx {δ : List Sl} : EndsAs (.nx δ) (.r (.d .none))
  | ex {x : Exn} {δ : List Sl} : EndsAs (.ex x δ) (.x x)
/-- n data in, f of them out -/
def FnR (n : Nat) (dom : List PyData → Prop) (f : List PyData → An) : List Sl → Out → Prop := fun δ o => ∃ ds : List PyData, ds.length = n ∧ dom ds ∧ δ = ds.map .d ∧ o = (f ds).out (ds.map .d)
theorem data_own {ds : List PyData} : ∀ s ∈ ds.map Sl.d, s.ow = none := fun s h => by
  obtain ⟨d, _, rfl⟩ := List.mem_map.mp h
  rfl
theorem ends_fin {δ : List Sl} {o : Out} {a : An} (h : ∀ s ∈ δ, s.ow = none) (e : EndsAs o a) : Fin δ o (a.out δ) := by
  cases e with
  | ret => exact .ret (outs_data h)
  | nx => exact .nx (outs_data h)
  | ex => exact .ex (outs_data h)
/-- THE RULE for a def over data -/
theorem def_fn {x : Str} {st : Stmt} {N ps : List Str} {k n : Nat} {dom : List PyData → Prop} {f : List PyData → An} (S : Txt K mg x st []) (Sc : FnScope N ps (defScope st)) (hn : ps.length = n)
    (bd : ∀ (kV doc pm : Value) (an : Option Addr) (cdv ct : Value) (us : List Value), us.length = ps.length → bindArgs (PySem.W.fnOf x x (defArgs st) (defBody st) (defScope st) .none kV doc pm an cdv ct) ⟨us, []⟩ = pure (ps.zip us))
    (hb : ∀ (fa : Addr) (cdv : Value) (A : Around) (outer : List PySem.Env) (s : Shared) (H : Hp) (E : XK), Cok (cxOf (L2.CX P w) P w K mg base N x (defScope st) fa cdv A outer s H E) (fun cls d _ H => E cls d H) k → ∀ ds : List PyData, ds.length = n → dom ds →
      ∃ of, SVs (cxOf (L2.CX P w) P w K mg base N x (defScope st) fa cdv A outer s H E) T (fun cls d _ H => E cls d H) (defBody st) (ds.map .d ++ List.replicate (N.length - n) .no) of ∧ EndsAs of (f ds)) : Def P w K mg base T (k + 1) x [] (FnR n dom f) := by
  obtain ⟨fa, fd, F, hm⟩ := S.ex
  subst hn
  refine ⟨fa, fd, ps, [], [], fn_mkD F Sc (fun δ o ⟨ds, h1, _, h3, _⟩ => by rw [h3, List.length_map, h1]) fun cdv A outer s H E C δ o ⟨ds, h1, h2, h3, h4⟩ => ?_, hm, F.kp, F.bindsN bd, .nil, fun _ => .nil⟩
  subst h3 h4
  obtain ⟨of, a, b⟩ := hb fa cdv A outer s H E C ds h1 h2
  exact ⟨of, a, ends_fin data_own b⟩
/-- .. that may change a list that is lent -/
theorem def_gen {x : Str} {st : Stmt} {N ps : List Str} {k n : Nat} {R : List Sl → Out → Prop} (S : Txt K mg x st []) (Sc : FnScope N ps (defScope st)) (hn : ps.length = n) (hR : ∀ δ o, R δ o → δ.length = n)
    (bd : ∀ (kV doc pm : Value) (an : Option Addr) (cdv ct : Value) (us : List Value), us.length = ps.length → bindArgs (PySem.W.fnOf x x (defArgs st) (defBody st) (defScope st) .none kV doc pm an cdv ct) ⟨us, []⟩ = pure (ps.zip us))
    (hb : ∀ (fa : Addr) (cdv : Value) (A : Around) (outer : List PySem.Env) (s : Shared) (H : Hp) (E : XK), Cok (cxOf (L2.CX P w) P w K mg base N x (defScope st) fa cdv A outer s H E) (fun cls d _ H => E cls d H) k → ∀ δ o, R δ o →
      ∃ of, SVs (cxOf (L2.CX P w) P w K mg base N x (defScope st) fa cdv A outer s H E) T (fun cls d _ H => E cls d H) (defBody st) (δ ++ List.replicate (N.length - n) .no) of ∧ Fin δ of o) : Def P w K mg base T (k + 1) x [] R := by
  obtain ⟨fa, fd, F, hm⟩ := S.ex
  subst hn
  exact ⟨fa, fd, ps, [], [], fn_mkD F Sc hR fun cdv A outer s H E C δ o h => hb fa cdv A outer s H E C δ o h, hm, F.kp, F.bindsN bd, .nil, fun _ => .nil⟩
/-- a def with one default: called with it left out, and with all -/
theorem def_dflt {x : Str} {st : Stmt} {N ps : List Str} {k n : Nat} {dom : List PyData → Prop} {f : List PyData → An} {dv : V} {dd : PyData} (S : Txt K mg x st [dv]) (hdd : ∀ h, Dp K h dv dd) (Sc : FnScope N ps (defScope st)) (hn : ps.length = n + 1)
    (bd : ∀ (t : Addr) (kV doc pm : Value) (an : Option Addr) (cdv ct : Value) (us its : List Value), us.length = n → its.length = 1 → ∃ k, bindArgs (PySem.W.fnOf x x (defArgs st) (defBody st) (defScope st) (.ref t) kV doc pm an cdv ct) ⟨us, []⟩ = seqItems? (.ref t) >>= k ∧ k (some its.toArray) = pure (ps.zip (us ++ its.drop 0)))
    (bd1 : ∀ (t : Addr) (kV doc pm : Value) (an : Option Addr) (cdv ct : Value) (us its : List Value), us.length = n + 1 → its.length = 1 → ∃ k, bindArgs (PySem.W.fnOf x x (defArgs st) (defBody st) (defScope st) (.ref t) kV doc pm an cdv ct) ⟨us, []⟩ = seqItems? (.ref t) >>= k ∧ k (some its.toArray) = pure (ps.zip (us ++ its.drop 1)))
    (hb : ∀ (fa : Addr) (cdv : Value) (A : Around) (outer : List PySem.Env) (s : Shared) (H : Hp) (E : XK), Cok (cxOf (L2.CX P w) P w K mg base N x (defScope st) fa cdv A outer s H E) (fun cls d _ H => E cls d H) k → ∀ ds : List PyData, ds.length = n + 1 → dom ds →
      ∃ of, SVs (cxOf (L2.CX P w) P w K mg base N x (defScope st) fa cdv A outer s H E) T (fun cls d _ H => E cls d H) (defBody st) (ds.map .d ++ List.replicate (N.length - (n + 1)) .no) of ∧ EndsAs of (f ds)) :
    Def P w K mg base T (k + 1) x [dd] (FnR (n + 1) dom f) ∧ Def P w K mg base T (k + 1) x [] (FnR (n + 1) dom f) := by
  obtain ⟨fa, fd, F, hm⟩ := S.ex
  have G : FnOk P w K mg base (L2.CX P w) (k + 1) fa fd ps (spM K T (FnR (n + 1) dom f)) := by
    rw [← hn] at hb ⊢
    refine fn_mkD F Sc (fun δ o ⟨ds, h1, _, h3, _⟩ => by rw [h3, List.length_map, h1]) fun cdv A outer s H E C δ o ⟨ds, h1, h2, h3, h4⟩ => ?_
    subst h3 h4
    obtain ⟨of, a, b⟩ := hb fa cdv A outer s H E C ds h1 h2
    exact ⟨of, a, ends_fin data_own b⟩
  obtain ⟨ds1, v1, b1⟩ := F.binds1 n 0 (by simp) (by rw [hn]; rfl) bd
  obtain ⟨ds2, v2, b2⟩ := F.binds1 (n + 1) 1 (by simp) (by rw [hn]; rfl) bd1
  exact ⟨⟨fa, fd, ps, _, ds1, G, hm, F.kp, b1, v1, fun h => .cons (hdd h) .nil⟩, ⟨fa, fd, ps, _, ds2, G, hm, F.kp, b2, v2, fun h => .nil⟩⟩
end
section
variable {X : Cx} {T : List NTab} {δ δ1 δ2 δ3 δc : List Sl} {k : Nat} {x : Str} {dds : List PyData} {R : List Sl → Out → Prop} {e : Expr} {es : List Expr} {rs : List Ar} {p pos : Pos} {W : WX}
/-- x(..) -/
theorem ev_c {r : Sl} (D : Def X.prog X.w X.K X.mg X.base T k x dds R) (hr : Room k X.A) (ha : AL X T (e :: es) δ rs δ1) (hR : R (rs.map (arSl δ1) ++ dds.map .d) (.ret r δc)) (hbk : Bk δ1 rs δc δ2) (hf : fewLent rs = true := by rfl) (hg : Gl X x := by rfl) (hdb : (x == ("__debug__" : Str)) = false := by decide)
    (he : starEach (e :: es) X.env = (false, eval e X.env) :: starEach es X.env := by rfl) (hpl : (backTo pos (starEach es X.env)).any (·.1) = false := by rfl) : EV X T (.Call (.Name x p) (e :: es) [] pos) δ r δ2 := by
  obtain ⟨f, fd, ps, dvs, ds, F, hm, hk, hb, hd, hdd⟩ := D.ex
  exact ev_call F hr hm hk hb hd hdd ha hR hbk hf hg hdb he hpl
theorem few_data : ∀ xs : List PyData, fewLent (xs.map fun d => Ar.r (.d d)) = true
  | [] => rfl
  | y :: ys => by
    rw [List.map_cons]
    unfold fewLent
    rw [Bool.and_eq_true]
    exact ⟨rfl, few_data ys⟩
/-- .. data in, an answer out -/
theorem ev_cf {r : Sl} {n : Nat} {dom : List PyData → Prop} {f : List PyData → An} {xs : List PyData} (D : Def X.prog X.w X.K X.mg X.base T k x dds (FnR n dom f)) (hr : Room k X.A) (ha : AL X T (e :: es) δ rs δ1) (hf : f (xs ++ dds) = .r r) (hd : dom (xs ++ dds)) (hrs : rs = xs.map fun d => .r (.d d) := by rfl) (hn : (xs ++ dds).length = n := by rfl)
    (hg : Gl X x := by rfl) (hdb : (x == ("__debug__" : Str)) = false := by decide) (he : starEach (e :: es) X.env = (false, eval e X.env) :: starEach es X.env := by rfl) (hpl : (backTo pos (starEach es X.env)).any (·.1) = false := by rfl) : EV X T (.Call (.Name x p) (e :: es) [] pos) δ r δ1 := by
  have e1 : rs.map (arSl δ1) ++ dds.map .d = (xs ++ dds).map Sl.d := by
    rw [hrs, List.map_map, List.map_append]
    rfl
  refine ev_c (δc := (xs ++ dds).map .d) D hr ha ⟨xs ++ dds, hn, hd, e1, by rw [hf]; rfl⟩ (bk_none ?_) ?_ hg hdb he hpl
  · rw [hrs, List.all_map]
    exact List.all_eq_true.mpr fun _ _ => rfl
  · rw [hrs]
    exact few_data xs
theorem ex_c {xn : Exn} (tk : Takes X W) (D : Def X.prog X.w X.K X.mg X.base T k x [] R) (hr : Room k X.A) (ha : AL X T (e :: es) δ rs δ1) (hR : R (rs.map (arSl δ1)) (.ex xn δc)) (hbk : Bk δ1 rs δc δ2) (hf : fewLent rs = true := by rfl) (hg : Gl X x := by rfl) (hdb : (x == ("__debug__" : Str)) = false := by decide)
    (he : starEach (e :: es) X.env = (false, eval e X.env) :: starEach es X.env := by rfl) (hpl : (backTo pos (starEach es X.env)).any (·.1) = false := by rfl) : EX X T W (.Call (.Name x p) (e :: es) [] pos) δ xn δ2 := by
  obtain ⟨f, fd, ps, dvs, ds, F, hm, hk, hb, hd, hdd⟩ := D.ex
  have e1 : dvs = [] := by
    cases hdd (fun _ => none) with
    | nil => rfl
  subst e1
  cases hd
  exact ex_call tk F hr hm hk hb ha hR hbk hf hg hdb he hpl
/-! #### a <= b <= c -/
theorem three {a b c : Expr} {op op' : CmpOp} {r r' : R2} {ra rb rc : Sl} {t u : Bool} (hr : CmpOk X T δ2 ra rb r t) (hr' : t = true → CmpOk X T δ3 rb rc r' u) (ha : EV X T a δ ra δ1) (hb : EV X T b δ1 rb δ2) (hc : t = true → EV X T c δ2 rc δ3) (h3 : t = false → δ3 = δ2)
    {σ : L2.St} {H : Hp} {S : Addr → Prop} (E : Env X.K T H S σ δ) {Q : VK} (k : ∀ H' S', Go H S (Owned σ δ) H' S' (Owned σ δ3) → Env X.K T H' S' σ δ3 → Pin σ δ σ δ3 → Q (.bl (t && u)) H') : tChain r r' (wE X a) (wE X b) (wE X c) σ H Q :=
  ha σ H S _ E fun v1 H1 S1 g1 e1 p1 r1 => hb σ H1 S1 _ e1 fun v2 H2 S2 g2 e2 p2 r2 => hr σ H2 S2 H (Owned σ δ) _ v1 v2 e2 (r1.go g2) (r2.back g1.keep g1.ow) ⟨t, rfl, by
    cases t with
    | false =>
      have e3 := h3 rfl
      subst e3
      exact iteF (k H2 S2 (g1.trans g2) e2 (p1.trans p2))
    | true => exact iteT (hc rfl σ H2 S2 _ e2 fun v3 H3 S3 g3 e3 p3 r3 => hr' rfl σ H3 S3 H (Owned σ δ) _ v2 v3 e3 ((r2.back g1.keep g1.ow).go g3) (r3.back (g1.trans g2).keep (g1.trans g2).ow) (k H3 S3 ((g1.trans g2).trans g3) e3 ((p1.trans p2).trans p3)))⟩
theorem tv_chain {a b c : Expr} {op op' : CmpOp} {r r' : R2} {ra rb rc : Sl} {t u : Bool} (ho : OpR X (compareOp op) r) (ho' : OpR X (compareOp op') r') (hr : CmpOk X T δ ra rb r t) (hr' : t = true → CmpOk X T δ rb rc r' u) (ha : EV X T a δ ra δ) (hb : EV X T b δ rb δ) (hc : t = true → EV X T c δ rc δ)
    (hm : lastMarks [op, op'] [b, c] = false := by with_unfolding_all rfl) : TV X T (.Compare a [op, op'] [b, c] pos) δ (t && u) δ := fun σ H S Q E k =>
  wt_of (pt_chain ho ho' pe_w pe_w pe_w hm) (three (op := op) (op' := op') hr hr' ha hb hc (fun _ => rfl) E fun H' S' g e p => ⟨t && u, rfl, k H' S' g e p⟩)
theorem ev_chain {a b c : Expr} {op op' : CmpOp} {r r' : R2} {ra rb rc : Sl} {t u : Bool} (ho : OpR X (compareOp op) r) (ho' : OpR X (compareOp op') r') (hr : CmpOk X T δ ra rb r t) (hr' : t = true → CmpOk X T δ rb rc r' u) (ha : EV X T a δ ra δ) (hb : EV X T b δ rb δ) (hc : t = true → EV X T c δ rc δ)
    (hm : lastMarks [op, op'] [b, c] = false := by with_unfolding_all rfl) : EV X T (.Compare a [op, op'] [b, c] pos) δ (.d (.bool (t && u))) δ := fun σ H S Q E k =>
  we_of (pe_chain ho ho' pe_w pe_w pe_w hm) (three (op := op) (op' := op') hr hr' ha hb hc (fun _ => rfl) E fun H' S' g e p => k _ H' S' g e p (.bl _))
/-! #### (a, *b) -/
theorem resAll_data {K : PySem.W.Frag} {H0 H : Hp} {P0 S P' : Addr → Prop} : ∀ {ds : List PyData} {vs : List V}, DpAll K (vw H S) vs ds → ResAll K H0 P0 H S P' (ds.map .d) vs
  | [], _, h => by cases h; exact .nil
  | d :: ds, _, h => by
    cases h with
    | cons a b => exact .cons a (resAll_data b)
theorem resAll_app {K : PySem.W.Frag} {H0 H : Hp} {P0 S P' : Addr → Prop} : ∀ {rs ss : List Sl} {vs us : List V}, ResAll K H0 P0 H S P' rs vs → ResAll K H0 P0 H S P' ss us → ResAll K H0 P0 H S P' (rs ++ ss) (vs ++ us)
  | _, _, _, _, .nil, b => b
  | _, _, _, _, .cons a b, c => .cons a (resAll_app b c)
theorem av_star {ds : List PyData} {rs : List Sl} {pst : Pos} (h : EV X T e δ (.d (.tuple ds)) δ1) (hs : AV X T es δ1 rs δ2) (he : starEach (.Starred e pst :: es) X.env = (true, eval e X.env) :: starEach es X.env := by rfl) : AV X T (.Starred e pst :: es) δ (ds.map .d ++ rs) δ2 := fun σ H S Q E kk =>
  wa_of (StX.pa_star pe_w pa_w he) (h σ H S _ E fun v1 H1 S1 g1 e1 p1 r1 => by
    obtain ⟨a, xs, rfl, hq, hd⟩ := res_tup r1
    exact ⟨a, xs, rfl, .inl (sqt_real hq), hs σ H1 S1 _ e1 fun vs H2 S2 g2 e2 p2 r2 => kk (xs ++ vs) H2 S2 (g1.trans g2) e2 (p1.trans p2) (resAll_app (resAll_data (dpAll_mono g2.mono hd)) (r2.back g1.keep g1.ow))⟩)
end
end Sc
namespace Sc
open PySem L2 NdefX
/-! #### the law -/
/-- the script of a law -/
def Script (ds : List PyData) : Prop := ∃ ns : List Int, ns.length ≤ 63 ∧ (∀ z ∈ ns, Builtin.Int.intBits z ≤ 1048576) ∧ ds = [.list (ns.map .int)]
theorem vw_empty {H : Hp} {K : PySem.W.Frag} {a : Addr} {xs : List V} (h : SqL K H a xs) : SqL K (vw H fun _ => False) a xs := by
  rcases h with (h | ⟨o, h⟩) | h
  · exact .inl (.inl (by rw [vw_out (fun z => z), h]; rfl))
  · exact .inl (.inl (by rw [vw_out (fun z => z), h]; rfl))
  · exact .inr h
theorem law_sp {K : PySem.W.Frag} {H : Hp} {a : Addr} {ns : List Int} (hl : ns.length ≤ 63) (hb : ∀ z ∈ ns, Builtin.Int.intBits z ≤ 1048576) (h : SqL K H a (ns.map V.int)) : spM K [] (FnR 1 Script fun _ => .r (.d (.bool true))) [.ref a] H (fun v _ => v = .bl true) fun _ _ _ => False := by
  refine ⟨[.d (.list (ns.map .int))], .ret (.d (.bool true)) [.d (.list (ns.map .int))], fun _ => False, ⟨[.list (ns.map .int)], rfl, ⟨ns, hl, hb, rfl⟩, rfl, rfl⟩, ?_, fun v H' S' _ _ r => res_bool r⟩
  have no : ∀ (i : Nat) (s : Sl) (w : Ow), ([.d (.list (ns.map .int))] : List Sl)[i]? = some s → s.ow = some w → False := fun i s w h1 h2 => by
    cases i with
    | zero => cases h1; cases h2
    | succ i => cases h1
  refine ⟨rfl, fun q ⟨i, s, w, h1, h2, _⟩ => (no i s w h1 h2).elim, fun i x h1 => ?_, fun i v h1 => ?_, fun i s w h1 h2 => (no i s w h1 h2).elim, fun i j s t w u p _ h1 h2 => (no i s w h1 h2).elim, fun p hp => by cases hp⟩
  · cases i with
    | zero => cases h1; exact ⟨.ref a, rfl, .lst (vw_empty h) (ints_all ns)⟩
    | succ i => cases h1
  · cases i with
    | zero => cases h1
    | succ i => cases h1
theorem law_at {l : PySem.W.OpenLaw} {w : World} {K : PySem.W.Frag} {mg : Str → Option Value} {fa : Addr} {h : Heap} {st : Stmt} {N : List Str} {k : Nat} {y x : Str} (S : Txt K mg y st []) (hmg : mg y = some (.ref fa)) (Sc : FnScope N [x] (defScope st))
    (bd : ∀ (kV doc pm : Value) (an : Option Addr) (cdv ct : Value) (us : List Value), us.length = 1 → bindArgs (PySem.W.fnOf y y (defArgs st) (defBody st) (defScope st) .none kV doc pm an cdv ct) ⟨us, []⟩ = pure ([x].zip us))
    (hb : ∀ (base : Heap), K.In base → base.Ns mainGlobals mg → ∀ (fa : Addr) (cdv : Value) (A : Around) (outer : List PySem.Env) (s : Shared) (H : Hp) (E : XK), Cok (cxOf (L2.CX l.prog w) l.prog w K mg base N y (defScope st) fa cdv A outer s H E) (fun cls d _ H => E cls d H) k → ∀ ns : List Int, ns.length ≤ 63 → (∀ z ∈ ns, Builtin.Int.intBits z ≤ 1048576) →
      ∃ of, SVs (cxOf (L2.CX l.prog w) l.prog w K mg base N y (defScope st) fa cdv A outer s H E) [] (fun cls d _ H => E cls d H) (defBody st) ([.d (.list (ns.map .int))] ++ List.replicate (N.length - 1) .no) of ∧ EndsAs of (.r (.d (.bool true)))) : LamX.LawAtS l w K (L2.CX l.prog w) (k + 1) 63 x mg fa h := by
  obtain ⟨f, fd, F, hm⟩ := S.ex
  rw [hmg] at hm
  cases hm
  have hB : ∀ (s : Shared) (u : Value), BindsTo s fd ⟨[u], []⟩ [(x, u)] := fun s u => FunD.bindsA (ps := [x]) F bd s [u] rfl
  refine ⟨fd, [], spM K [] (FnR 1 Script fun _ => .r (.d (.bool true))), ?_, ?_, ?_, hB, fun H a ns hl hz _ hS => law_sp hl hz hS, fun base hK hN _ => ?_⟩
  · intro p hp
    cases hp
  · intro p hp
    cases hp
  · intro p hp
    cases hp
  refine fn_mkD F Sc (fun δ o ⟨ds, h1, _, h3, _⟩ => by rw [h3, List.length_map, h1]; rfl) fun cdv A outer s H E C δ o ⟨ds, h1, ⟨ns, hl, hz, h2⟩, h3, h4⟩ => ?_
  subst h2 h3 h4
  obtain ⟨of, a, b⟩ := hb base hK hN fa cdv A outer s H E C ns hl hz
  exact ⟨of, a, ends_fin data_own b⟩
theorem law_walk {l : PySem.W.OpenLaw} {k : Nat} {q : Program} {loose : List Str} {XP : (Str → Option Value) → Heap → Prop} {YP : World → Heap → Prop} {d : DefRec} {K : Params → PySem.W.Frag} {x : Str} {Tp : PySem.W.Frag → (Str → Option Value) → Prop}
    (hn : l.most = some 63) (hdf : d.params.defaults = []) (hr : Room (k + 1) callerA) (hY : ∀ (w : World) (h : Heap), YP w h → (K w.params).In h)
    (F : ∀ (w : World) (mg : Str → Option Value) (fa : Addr) (h : Heap), (K w.params).In h → h.Ns mainGlobals mg → mg d.name = some (.ref fa) → Tp (K w.params) mg)
    (L : ∀ (w : World) (K : PySem.W.Frag) (mg : Str → Option Value) (fa : Addr) (h : Heap), Tp K mg → mg d.name = some (.ref fa) → LamX.LawAtS l w K (L2.CX l.prog w) (k + 1) 63 x mg fa h) :
    PySem.W.WalkO q loose XP YP l.row.toRowW d [] (fun f vs => PySem.call f vs) :=
  LamX.walk_ofTs (CX := fun w => L2.CX l.prog w) hn (by decide) hdf hr hY (fun w mg fa h Y KX G hmg => L w (K w.params) mg fa h (F w mg fa h KX G hmg) hmg) fun w H s e s' ⟨_, _, _, _, _, _, _, _, _, _, _, _, hE⟩ => hE
end Sc
namespace Sc
open PySem L2 NdefX PyProof.Rows
/-! #### what may be walked by an iterator of its own: a list, a tuple, a text -/
structure Part (K : PySem.W.Frag) where
  len : Nat
  val : V
  own : List Addr
  rd : Hp → Prop
  pl : Nat → V → Prop
  st : Heap → Addr → Nat → Prop
  keep : ∀ {h h' : Heap} {it : Addr} {i : Nat}, st h it i → (∀ o, h.get? it = some o → h'.get? it = some o) → st h' it i
  live : ∀ {h : Heap} {it : Addr} {i : Nat}, st h it i → ∃ o, h.get? it = some o ∧ ∀ v, o.data ≠ .cell v
  draw : ∀ (X : Cx) (pins : List (Addr × Obj)) (σ : L2.St) (H : Hp) (s : Shared) (it : Addr) (i : Nat), X.K = K → X.calm = true → Inv X pins σ H s → rd H → it ∉ own → st s.heap it i → ∃ (Pv : Nat → Value → Prop) (St : Nat → Heap → Prop),
    Draws X.prog X.w X.A.in1 it (it :: own) len Pv St ∧ St i s.heap ∧ (∀ i h, St i h → st h it i) ∧ ∀ i v, Pv i v → ∃ x, pl i x ∧ RelV x v
  begins : ∀ (X : Cx) (pins : List (Addr × Obj)) (σ : L2.St) (H : Hp) (s : Shared) (u : Value), X.K = K → Inv X pins σ H s → rd H → RelV val u → (∀ b ∈ own, b < s.heap.objs.size) ∧ ∃ (o : Obj) (Hh : Heap → Prop), Begins u o Hh ∧ Hh s.heap ∧ ∀ h b, h.get? b = some o → st h b 0
theorem vals_pl {xs : List V} {us : List Value} (rv : Vals xs us) : ∀ (i : Nat) (v : Value), us.toArray[i]? = some v → ∃ x, xs[i]? = some x ∧ RelV x v := by
  intro i v h
  have h' : us[i]? = some v := by simpa using h
  have hl := rv.length
  have hi : i < xs.length := by
    have := (List.getElem?_eq_some_iff.mp h').1
    omega
  obtain ⟨u, h1, h2⟩ := rv.get (List.getElem?_eq_getElem hi)
  rw [h'] at h1
  cases h1
  exact ⟨_, List.getElem?_eq_getElem hi, h2⟩
def partL (K : PySem.W.Frag) (a : Addr) (xs : List V) : Part K where
  len := xs.length
  val := .ref a
  own := [a]
  rd := fun H => SqL K H a xs
  pl := fun i x => xs[i]? = some x
  st := fun h it i => h.IsListIter it a i
  keep := fun st k => st.at k
  live := fun st => by
    obtain ⟨o, e, c, d⟩ := st
    exact ⟨o, e, fun v z => by rw [d] at z; cases z⟩
  draw := fun X pins σ H s it i hK hc I rd ho st => by
    subst hK
    obtain ⟨its, rv, p, hz⟩ := I.list rd
    have e : xs.length = its.toArray.size := by rw [List.size_toArray]; exact rv.length
    rw [e]
    exact ⟨_, _, Draws.list (A := X.A.in1) (show X.A.in1.handled = none from I.ok.hd hc) it a (fun z => ho (by rw [z]; exact List.mem_singleton.mpr rfl)) its.toArray, ⟨st, p.isList⟩, fun i h z => z.1, vals_pl rv⟩
  begins := fun X pins σ H s u hK I rd r => by
    subst hK
    obtain ⟨its, rv, p, hz⟩ := I.list rd
    cases r
    refine ⟨?_, _, _, begins_list a its.toArray, p.isList, fun h b e => ⟨_, e, rfl, rfl⟩⟩
    intro b hb
    rw [List.mem_singleton.mp hb]
    exact p.lt
def partT (K : PySem.W.Frag) (a : Addr) (xs : List V) : Part K where
  len := xs.length
  val := .ref a
  own := [a]
  rd := fun H => SqT K H a xs
  pl := fun i x => xs[i]? = some x
  st := fun h it i => h.IsTupleIter it a i
  keep := fun st k => st.at k
  live := fun st => by
    obtain ⟨o, e, c, d⟩ := st
    exact ⟨o, e, fun v z => by rw [d] at z; cases z⟩
  draw := fun X pins σ H s it i hK hc I rd ho st => by
    subst hK
    obtain ⟨its, rv, p, hz⟩ := I.tuple rd
    have e : xs.length = its.toArray.size := by rw [List.size_toArray]; exact rv.length
    rw [e]
    exact ⟨_, _, Draws.tuple (A := X.A.in1) (show X.A.in1.handled = none from I.ok.hd hc) it a (fun z => ho (by rw [z]; exact List.mem_singleton.mpr rfl)) its.toArray, ⟨st, p⟩, fun i h z => z.1, vals_pl rv⟩
  begins := fun X pins σ H s u hK I rd r => by
    subst hK
    obtain ⟨its, rv, p, hz⟩ := I.tuple rd
    cases r
    obtain ⟨o, ho, _⟩ := id p
    refine ⟨?_, _, _, begins_tuple a its.toArray, p, fun h b e => ⟨_, e, rfl, rfl⟩⟩
    intro b hb
    rw [List.mem_singleton.mp hb]
    exact Heap.lt_size ho
def partS (K : PySem.W.Frag) (z : Str) : Part K where
  len := z.cps.size
  val := .str z
  own := []
  rd := fun _ => True
  pl := fun i x => ∃ c, z.cps[i]? = some c ∧ x = .str ⟨#[c]⟩
  st := fun h it i => ∃ t, h.IsStrIter it (strIterType z) z t i
  keep := fun ⟨t, o, ho, r⟩ k => ⟨t, o, k o ho, r⟩
  live := fun ⟨t, o, ho, c, d⟩ => ⟨o, ho, fun v z => by rw [d] at z; cases z⟩
  draw := fun X pins σ H s it i hK hc I rd ho st => by
    obtain ⟨t, st⟩ := st
    refine ⟨_, _, Draws.text (A := X.A.in1) (show X.A.in1.handled = none from I.ok.hd hc) it z t, st, fun i h z => ⟨t, z⟩, fun i v q => ?_⟩
    obtain ⟨c, u, h1, h2⟩ := q
    exact ⟨_, ⟨c, h1, rfl⟩, u, h2⟩
  begins := fun X pins σ H s u hK I rd r => by
    obtain ⟨t, rfl⟩ := r
    refine ⟨?_, _, _, begins_text z t, trivial, fun h b e => ⟨t, _, e, rfl, rfl⟩⟩
    intro b hb
    cases hb
/-- zip of two of them -/
def ItZ {K : PySem.W.Frag} (p q : Part K) : It :=
  ⟨fun i H => p.rd H ∧ q.rd H ∧ i < min p.len q.len, fun i H v H' => ∃ P x y, v = .ref P ∧ H P = none ∧ H' = upd H P (.tup [x, y]) ∧ p.pl i x ∧ q.pl i y, fun i H => p.rd H ∧ q.rd H ∧ min p.len q.len ≤ i⟩
/-- enumerate of one -/
def ItE {K : PySem.W.Frag} (p : Part K) : It :=
  ⟨fun i H => p.rd H ∧ i < p.len, fun i H v H' => ∃ P x, v = .ref P ∧ H P = none ∧ H' = upd H P (.tup [.int (i : Nat), x]) ∧ p.pl i x, fun i H => p.rd H ∧ p.len ≤ i⟩
theorem turn_Z {P : Program} {w : World} {K : PySem.W.Frag} {elts : List Expr} {kk : Nat} {tpos : Pos} {p q : Part K} {z TI TO i1 i2 : Addr} (D : ZipSep2 z TI TO i1 i2 (i1 :: p.own) (i2 :: q.own)) (o1 : i1 ∉ p.own) (o2 : i2 ∉ q.own) :
    Turn P w K (.Tuple elts kk tpos) (ItZ p q) [z, TI, TO, i1, i2] z (fun i h => i ≤ min p.len q.len ∧ IsZip h z TI TO .none ∧ IsTupOf2 h TI (.ref i1) (.ref i2) ∧ (∃ x y, IsTupOf2 h TO x y) ∧ p.st h i1 i ∧ q.st h i2 i) where
  mem := by simp
  obj := fun i h ⟨_, hz, hTI, ⟨x, y, hTO⟩, h1, h2⟩ c hc => by
    have e' : c = z ∨ c = TI ∨ c = TO ∨ c = i1 ∨ c = i2 := by simpa using hc
    rcases e' with e | e | e | e | e
    · rw [e]; exact ⟨_, hz, fun v q => nomatch q⟩
    · rw [e]; exact ⟨_, hTI, fun v q => nomatch q⟩
    · rw [e]; exact ⟨_, hTO, fun v q => nomatch q⟩
    · rw [e]; exact p.live h1
    · rw [e]; exact q.live h2
  keep := fun i h h' ⟨hi, hz, hTI, ⟨x, y, hTO⟩, h1, h2⟩ k => ⟨hi, k z (by simp) _ hz, k TI (by simp) _ hTI, ⟨x, y, k TO (by simp) _ hTO⟩, p.keep h1 fun o e => k i1 (by simp) o e, q.keep h2 fun o e => k i2 (by simp) o e⟩
  item := by
    intro X hP hw hK hc i pins s σ H E I hf ⟨hi, hz, hTI, ⟨x0, y0, hTO⟩, h1, h2⟩ ⟨r1, r2, hg⟩
    subst hP hw
    obtain ⟨P1, S1, D1, s1, b1, v1⟩ := p.draw X pins σ H s i1 i hK hc I r1 o1 h1
    obtain ⟨P2, S2, D2, s2, b2, v2⟩ := q.draw X pins σ H s i2 i hK hc I r2 o2 h2
    have W := WalksT.zipD2 D D1 D2
    have live : ∀ b ∈ ([z, TI, TO, i1, i2] : List Addr), b < s.heap.objs.size := fun c hc => by
      have e' : c = z ∨ c = TI ∨ c = TO ∨ c = i1 ∨ c = i2 := by simpa using hc
      rcases e' with e | e | e | e | e
      · rw [e]; exact Heap.lt_size hz
      · rw [e]; exact Heap.lt_size hTI
      · rw [e]; exact Heap.lt_size hTO
      · rw [e]; obtain ⟨_, e1, _⟩ := p.live h1; exact Heap.lt_size e1
      · rw [e]; obtain ⟨_, e1, _⟩ := q.live h2; exact Heap.lt_size e1
    have wr : ∀ b, b ∉ ([z, TI, TO, i1, i2] : List Addr) → b ∉ ([z, TO, i1, i2] : List Addr) := fun b hb hm => hb (by
      have e' : b = z ∨ b = TO ∨ b = i1 ∨ b = i2 := by simpa using hm
      simp [e']
      rcases e' with e | e | e | e <;> simp [e])
    refine W.item i s _ _ hg ⟨hz, hTI, ⟨x0, y0, hTO⟩, s1, s2⟩ fun T vals h' tk ⟨x1, x2, q1, q2, ev⟩ hle hT hM hk => ?_
    obtain ⟨y1, l1, rl1⟩ := v1 i x1 q1
    obtain ⟨y2, l2, rl2⟩ := v2 i x2 q2
    refine ⟨_, rfl, W.go elts kk tpos i T { s with heap := h', toks := tk } _ _ hM fun h'' ⟨hz2, hTI2, hTO2, s1', s2'⟩ hk2 => ?_⟩
    subst ev
    have hT2 : h''.IsTuple T #[x1, x2] := hT.at fun o e => hk2 T o (W.apart i T h' hM) e
    have new : ObjOk X.prog X.w (upd H T (.tup [y1, y2])) h'' T (.tup [y1, y2]) := ⟨by show 2 ≤ sizeLine; decide, [x1, x2], .cons rl1 (.cons rl2 .nil), hT2⟩
    have I1 : Inv X pins σ (upd H T (.tup [y1, y2])) { s with heap := h'', toks := tk } := I.turnedNew (ch := [z, TI, TO, i1, i2]) (fun c o hb e => hk2 c o (wr c hb) (hk c o (wr c hb) e)) hf hle new
    refine ⟨.ref T, _, I1, rfl, ⟨T, y1, y2, rfl, I.hok.fresh hle, rfl, l1, l2⟩, ⟨hg, hz2, hTI2, hTO2, b1 _ _ s1', b2 _ _ s2'⟩, fun c hcm => ?_⟩
    rw [upd_ne (Nat.ne_of_lt (Nat.lt_of_lt_of_le (live c hcm) hle))]
    exact (hf c hcm).1
  done := by
    intro X hP hw hK hc i pins s σ H E I hf ⟨hi, hz, hTI, ⟨x0, y0, hTO⟩, h1, h2⟩ ⟨r1, r2, hg⟩
    subst hP hw
    obtain ⟨P1, S1, D1, s1, b1, v1⟩ := p.draw X pins σ H s i1 i hK hc I r1 o1 h1
    obtain ⟨P2, S2, D2, s2, b2, v2⟩ := q.draw X pins σ H s i2 i hK hc I r2 o2 h2
    have W := WalksT.zipD2 D D1 D2
    have e : i = min p.len q.len := Nat.le_antisymm hi hg
    subst e
    have wr : ∀ b, b ∉ ([z, TI, TO, i1, i2] : List Addr) → b ∉ ([z, TO, i1, i2] : List Addr) := fun b hb hm => hb (by
      have e' : b = z ∨ b = TO ∨ b = i1 ∨ b = i2 := by simpa using hm
      simp [e']
      rcases e' with e | e | e | e <;> simp [e])
    exact W.done s _ _ ⟨hz, hTI, ⟨x0, y0, hTO⟩, s1, s2⟩ fun h' tk hk => ⟨rfl, I.turnedL (ch := [z, TI, TO, i1, i2]) (fun c o hb e => hk c o (wr c hb) e) hf⟩
  self := fun A i s Q E st h => wpAny_pyIter_zip st.2.1 h
theorem turn_E {P : Program} {w : World} {K : PySem.W.Frag} {elts : List Expr} {kk : Nat} {tpos : Pos} {p : Part K} {e it : Addr} (hei : e ≠ it) (heo : e ∉ p.own) (ho : it ∉ p.own) :
    Turn P w K (.Tuple elts kk tpos) (ItE p) [e, it] e (fun i h => i ≤ p.len ∧ (∃ old, IsEnum h e it (0 + (i : Int)) old) ∧ p.st h it i) where
  mem := by simp
  obj := fun i h ⟨_, ⟨old, he⟩, h1⟩ c hc => by
    have e' : c = e ∨ c = it := by simpa using hc
    rcases e' with z | z
    · rw [z]; exact ⟨_, he, fun v q => nomatch q⟩
    · rw [z]; exact p.live h1
  keep := fun i h h' ⟨hi, ⟨old, he⟩, h1⟩ k => ⟨hi, ⟨old, k e (by simp) _ he⟩, p.keep h1 fun o q => k it (by simp) o q⟩
  item := by
    intro X hP hw hK hc i pins s σ H E I hf ⟨hi, ⟨old, he⟩, h1⟩ ⟨r1, hg⟩
    subst hP hw
    obtain ⟨P1, S1, D1, s1, b1, v1⟩ := p.draw X pins σ H s it i hK hc I r1 ho h1
    have W := WalksT.enumFrom 0 D1 e hei (fun z => (List.mem_cons.mp z).elim (fun z => hei z) heo) List.mem_cons_self
    have live : ∀ b ∈ ([e, it] : List Addr), b < s.heap.objs.size := fun c hc => by
      have e' : c = e ∨ c = it := by simpa using hc
      rcases e' with z | z
      · rw [z]; exact Heap.lt_size he
      · rw [z]; obtain ⟨_, e1, _⟩ := p.live h1; exact Heap.lt_size e1
    refine W.item i s _ _ hg ⟨⟨old, he⟩, s1⟩ fun T vals h' tk ⟨t, x1, q1, ev⟩ hle hT hM hk => ?_
    obtain ⟨y1, l1, rl1⟩ := v1 i x1 q1
    refine ⟨_, rfl, W.go elts kk tpos i T { s with heap := h', toks := tk } _ _ hM fun h'' ⟨he2, s1'⟩ hk2 => ?_⟩
    subst ev
    have hT2 : h''.IsTuple T #[.int (0 + (i : Int)) t, x1] := hT.at fun o e => hk2 T o (W.apart i T h' hM) e
    have new : ObjOk X.prog X.w (upd H T (.tup [.int (i : Nat), y1])) h'' T (.tup [.int (i : Nat), y1]) := ⟨by show 2 ≤ sizeLine; decide, [.int (0 + (i : Int)) t, x1], .cons ⟨t, by rw [Int.zero_add]⟩ (.cons rl1 .nil), hT2⟩
    have I1 : Inv X pins σ (upd H T (.tup [.int (i : Nat), y1])) { s with heap := h'', toks := tk } := I.turnedNew (ch := [e, it]) (fun c o hb q => hk2 c o hb (hk c o hb q)) hf hle new
    refine ⟨.ref T, _, I1, rfl, ⟨T, y1, rfl, I.hok.fresh hle, rfl, l1⟩, ⟨hg, he2, b1 _ _ s1'⟩, fun c hcm => ?_⟩
    rw [upd_ne (Nat.ne_of_lt (Nat.lt_of_lt_of_le (live c hcm) hle))]
    exact (hf c hcm).1
  done := by
    intro X hP hw hK hc i pins s σ H E I hf ⟨hi, ⟨old, he⟩, h1⟩ ⟨r1, hg⟩
    subst hP hw
    obtain ⟨P1, S1, D1, s1, b1, v1⟩ := p.draw X pins σ H s it i hK hc I r1 ho h1
    have W := WalksT.enumFrom 0 D1 e hei (fun z => (List.mem_cons.mp z).elim (fun z => hei z) heo) List.mem_cons_self
    have e3 : i = p.len := Nat.le_antisymm hi hg
    subst e3
    exact W.done s _ _ ⟨⟨old, he⟩, s1⟩ fun h' tk hk => ⟨rfl, I.turnedL (ch := [e, it]) (fun c o hb q => hk c o hb q) hf⟩
  self := fun A i s Q E ⟨_, ⟨_, he⟩, _⟩ h => wpAny_pyIter_enum he h
def iZ (K : PySem.W.Frag) (ta : TA) : TI := fun σ H R => ta σ H fun vs H1 => ∃ p q : Part K, vs = [p.val, q.val] ∧ p.rd H1 ∧ q.rd H1 ∧ R (ItZ p q) H1
def iE (K : PySem.W.Frag) (ta : TA) : TI := fun σ H R => ta σ H fun vs H1 => ∃ p : Part K, vs = [p.val] ∧ p.rd H1 ∧ R (ItE p) H1
section
variable {X : Cx} {e e2 : Expr} {ta : TA} {pn pos tpos : Pos} {elts : List Expr} {kk : Nat}
theorem pi_Z (hg : Gl X "zip") (hm : X.mg "zip" = none) (ha : PA X [e, e2] ta) (hs : starEach [e, e2] X.env = (false, eval e X.env) :: starEach [e2] X.env := by rfl) (hpl : (backTo pos (starEach [e2] X.env)).any (·.1) = false := by rfl) :
    PI X (.Tuple elts kk tpos) (.Call (.Name "zip" pn) [e, e2] [] pos) (iZ X.K ta) := by
  refine ⟨fun pins s σ H R I h => ?_⟩
  refine Call_ (ld_blt I hg hm PyProof.Rows.boot_zip (PyProof.Rows.callWith_type1 (thn (ha.run pos pins s σ H _ I h) fun us s1 ⟨vs, H1, I1, r1, p, q, ex, rp, rq, k⟩ => ?_) hs hpl))
  subst ex
  cases r1 with
  | cons r rr =>
    cases rr with
    | cons r' rr =>
      cases rr
      obtain ⟨lp, o1, Hh1, B1, b1, c1⟩ := p.begins X pins σ H1 s1 _ rfl I1 rp r
      obtain ⟨lq, o2, Hh2, B2, b2, c2⟩ := q.begins X pins σ H1 s1 _ rfl I1 rq r'
      refine zip_begins2 B1 B2 b1 b2 fun h' hz hTI hTO g1 g2 hsz hk => wpAny_pyIter_zip hz ?_
      have I2 : Inv X pins σ H1 { s1 with heap := h' } := I1.kept (t' := s1.toks) hk
      have D := zip_sep2 lp lq
      refine ⟨s1.heap.objs.size + 4, [s1.heap.objs.size + 4, s1.heap.objs.size + 2, s1.heap.objs.size + 3, s1.heap.objs.size, s1.heap.objs.size + 1], _, _, H1, rfl, I2, turn_Z D (fun z => Nat.lt_irrefl _ (lp _ z)) (fun z => absurd (lq _ z) (by show ¬ s1.heap.objs.size + 1 < s1.heap.objs.size; omega)), ⟨Nat.zero_le _, hz, hTI, ⟨_, _, hTO⟩, c1 _ _ g1, c2 _ _ g2⟩, fun c hcm => ?_, k⟩
      have e' : c = s1.heap.objs.size + 4 ∨ c = s1.heap.objs.size + 2 ∨ c = s1.heap.objs.size + 3 ∨ c = s1.heap.objs.size ∨ c = s1.heap.objs.size + 1 := by simpa using hcm
      have hle : s1.heap.objs.size ≤ c := by
        rcases e' with z | z | z | z | z
        · rw [z]; exact Nat.le_add_right _ _
        · rw [z]; exact Nat.le_add_right _ _
        · rw [z]; exact Nat.le_add_right _ _
        · rw [z]; exact Nat.le_refl _
        · rw [z]; exact Nat.le_add_right _ _
      exact I1.fpOk hle (I1.hok.fresh hle)
end
end Sc
namespace Sc
open PySem
section
variable {prog : Program} {w : World} {A : Around} {E : Value → Shared → Prop} {s : Shared}
abbrev enOne (h : Heap) (o : Obj) : Heap := (h.push o).push { cls := .type "enumerate", data := .fields #[.none, .bool false, .ref h.objs.size, rawInt 0, .none, .none] }
theorem meets_en1 {v : Value} {o : Obj} {Hh : Heap → Prop} (B : Begins v o Hh) : Meets (Builtin.«enumerate.__new__» ⟨[.type "enumerate", v], []⟩) (fun _ R s => Hh s.heap ∧ R (.ok (.ret (.ref (s.heap.push o).objs.size))) { s with heap := enOne s.heap o }) :=
  .of_wp fun prog w A R s h => by
    obtain ⟨hp, g, d, tk, os⟩ := s
    obtain ⟨h1, h2⟩ := h
    have hsub := sub_enumerate
    have begins : ∀ {A' : Around} {E : Value → Shared → Prop} {Q : Value → Shared → Prop}, Q (.ref hp.objs.size) ⟨hp.push o, g, d, tk, os⟩ → wpAny (model prog w) A' (pyIter v) Q E ⟨hp, g, d, tk, os⟩ := fun q => B.iter prog w _ _ ⟨hp, g, d, tk, os⟩ _ h1 q
    wp_walk using begins
    refine wpAny_stack_any fun st => wpAny_pure ?_
    split
    · rename_i c _ _ _ _ _
      cases (c == Value.type "enumerate") <;> (wp_walk using begins; exact ⟨_, rfl, h2⟩)
    · wp_walk using begins
      exact ⟨_, rfl, h2⟩
theorem en_begins {v : Value} {o : Obj} {Hh : Heap → Prop} {Q : Value → Shared → Prop} (B : Begins v o Hh) (h1 : Hh s.heap)
    (h : ∀ h', IsEnum h' (s.heap.objs.size + 1) s.heap.objs.size 0 .none → h'.get? s.heap.objs.size = some o → (∀ b o, s.heap.get? b = some o → h'.get? b = some o) → Q (.ref (s.heap.objs.size + 1)) { s with heap := h' }) :
    wpAny (model prog w) A (call (.type "enumerate") [v]) Q E s := by
  have sz : (s.heap.push o).objs.size = s.heap.objs.size + 1 := Heap.size_push ..
  have en : IsEnum (enOne s.heap o) (s.heap.objs.size + 1) s.heap.objs.size 0 .none := by
    have q := Heap.get?_push_size (s.heap.push o) (o := { cls := .type "enumerate", data := .fields #[.none, .bool false, .ref s.heap.objs.size, rawInt 0, .none, .none] }) rfl
    rw [sz] at q
    exact q
  refine callType_new F.called_enumerate (by decide) (F.typeCall_enumerate_1 _) (F.newCall_enumerate_1 _) (fun obj => F.args_object_init_2 obj _) F.entry_enumerate_new (meets_en1 B) ⟨h1, ?_⟩
  show _ ∧ _
  rw [sz]
  exact ⟨⟨_, en, rfl⟩, h _ en (Heap.get?_push_of_some _ (Heap.get?_push_size _ B.free)) fun b o x => Heap.get?_push_of_some _ (Heap.get?_push_of_some _ x)⟩
end
end Sc
namespace Sc
open PySem L2 NdefX PyProof.Rows
section
variable {X : Cx} {T : List NTab} {K : PySem.W.Frag} {δ δ1 δ2 : List Sl} {e e2 : Expr} {ta : TA} {pn pos tpos : Pos} {elts : List Expr} {kk : Nat}
theorem pi_E (hg : Gl X "enumerate") (hm : X.mg "enumerate" = none) (ha : PA X [e] ta) (hs : starEach [e] X.env = [(false, eval e X.env)] := by rfl) : PI X (.Tuple elts kk tpos) (.Call (.Name "enumerate" pn) [e] [] pos) (iE X.K ta) := by
  refine ⟨fun pins s σ H R I h => ?_⟩
  refine Call_ (ld_blt I hg hm boot_enumerate (PyProof.Rows.callWith_type1 (thn (ha.run pos pins s σ H _ I h) fun us s1 ⟨vs, H1, I1, r1, p, ex, rp, k⟩ => ?_) hs rfl))
  subst ex
  cases r1 with
  | cons r rr =>
    cases rr
    obtain ⟨lp, o1, Hh1, B1, b1, c1⟩ := p.begins X pins σ H1 s1 _ rfl I1 rp r
    refine en_begins B1 b1 fun h' he g1 hk => wpAny_pyIter_enum he ?_
    have I2 : Inv X pins σ H1 { s1 with heap := h' } := I1.kept (t' := s1.toks) hk
    refine ⟨s1.heap.objs.size + 1, [s1.heap.objs.size + 1, s1.heap.objs.size], _, _, H1, rfl, I2, turn_E (p := p) (e := s1.heap.objs.size + 1) (it := s1.heap.objs.size) (Nat.succ_ne_self _) (fun z => absurd (lp _ z) (by show ¬ s1.heap.objs.size + 1 < s1.heap.objs.size; omega)) (fun z => Nat.lt_irrefl _ (lp _ z)), ⟨Nat.zero_le _, ⟨.none, he⟩, c1 _ _ g1⟩, fun c hcm => ?_, k⟩
    have e' : c = s1.heap.objs.size + 1 ∨ c = s1.heap.objs.size := by simpa using hcm
    have hle : s1.heap.objs.size ≤ c := by
      rcases e' with z | z
      · rw [z]; exact Nat.le_add_right _ _
      · rw [z]; exact Nat.le_refl _
    exact I1.fpOk hle (I1.hok.fresh hle)
def itemsD : PyData → Option (List PyData)
  | .list ds => some ds
  | .tuple ds => some ds
  | .str z => some (signsD z)
  | _ => none
theorem part_of {H : Hp} {S : Addr → Prop} {v : V} {d : PyData} {ds : List PyData} (h : Dp K (vw H S) v d) (hi : itemsD d = some ds) : ∃ p : Part K, p.val = v ∧ p.len = ds.length ∧ (∀ (H' : Hp) (S' : Addr → Prop), Same (vw H S) (vw H' S') → p.rd H') ∧
    (∀ (H' : Hp) (S' : Addr → Prop), Same (vw H S) (vw H' S') → ∀ i x y, p.pl i x → ds[i]? = some y → Dp K (vw H' S') x y) := by
  cases h with
  | lst s r =>
    cases hi
    refine ⟨partL K _ _, rfl, dpAll_len r, fun H' S' m => sql_real (same_sql m s), fun H' S' m i x y hx hy => ?_⟩
    obtain ⟨u, h1, h2⟩ := dpAll_get r hy
    rw [show _ = some x from hx] at h1
    cases h1
    exact dp_mono m h2
  | tup s r =>
    cases hi
    refine ⟨partT K _ _, rfl, dpAll_len r, fun H' S' m => sqt_real (same_sqt m s), fun H' S' m i x y hx hy => ?_⟩
    obtain ⟨u, h1, h2⟩ := dpAll_get r hy
    rw [show _ = some x from hx] at h1
    cases h1
    exact dp_mono m h2
  | str z =>
    cases hi
    refine ⟨partS K z, rfl, by show z.cps.size = _; simp [signsD], fun H' S' m => trivial, fun H' S' m i x y hx hy => ?_⟩
    obtain ⟨c, h1, rfl⟩ := hx
    unfold signsD at hy
    rw [List.getElem?_map, Array.getElem?_toList, h1] at hy
    cases hy
    exact .str _
  | _ => cases hi
theorem iv_zip {d1 d2 : PyData} {ds es : List PyData} (B : Bi X.mg) (h : EV X T e δ (.d d1) δ1) (h' : EV X T e2 δ1 (.d d2) δ2) (i1 : itemsD d1 = some ds) (i2 : itemsD d2 = some es) (hg : Gl X "zip" := by rfl)
    (hs : starEach [e, e2] X.env = (false, eval e X.env) :: starEach [e2] X.env := by rfl) (hs2 : starEach [e2] X.env = (false, eval e2 X.env) :: starEach [] X.env := by rfl) (hpl : (backTo pos (starEach [e2] X.env)).any (·.1) = false := by rfl) :
    IV X T (.Tuple elts kk tpos) (.Call (.Name "zip" pn) [e, e2] [] pos) δ (.fix (zipD ds es)) δ2 := fun σ H S R E k =>
  wi_of (pi_Z hg B.zip pa_w hs hpl) (av_cons (rs := [_]) h (av_cons (rs := []) h' av_nil hs2) hs σ H S _ E fun vs H1 S1 g1 e1 p1 r1 => by
    cases r1 with
    | cons a b =>
      cases b with
      | cons a' b =>
        cases b
        obtain ⟨p, rfl, lp, rp, dp⟩ := part_of a i1
        obtain ⟨q, rfl, lq, rq, dq⟩ := part_of a' i2
        refine ⟨p, q, rfl, rp H1 S1 (Same.refl _), rq H1 S1 (Same.refl _), k _ H1 S1 g1 e1 p1 (ww_pair fun H S m => ?_)⟩
        rw [zipD_length, ← lp, ← lq]
        refine ⟨fun i hi => ⟨rp H S m, rq H S m, hi⟩, fun i hi => ⟨rp H S m, rq H S m, hi⟩, fun i v H' d y hd => ?_⟩
        obtain ⟨P, x, u, h1, h2, h3, h4, h5⟩ := y
        obtain ⟨dx, dy, h6, h7, h8⟩ := zipD_get hd
        exact ⟨P, x, u, dx, dy, h1, h2, h3, h8, dp H S m i x dx h4 h6, dq H S m i u dy h5 h7⟩)
theorem iv_enum {d1 : PyData} {ds : List PyData} (B : Bi X.mg) (h : EV X T e δ (.d d1) δ1) (i1 : itemsD d1 = some ds) (hg : Gl X "enumerate" := by rfl) (hs : starEach [e] X.env = [(false, eval e X.env)] := by rfl) :
    IV X T (.Tuple elts kk tpos) (.Call (.Name "enumerate" pn) [e] [] pos) δ (.fix (enumD 0 ds)) δ1 := fun σ H S R E k =>
  wi_of (pi_E hg B.enumerate pa_w hs) (av_cons (rs := []) h av_nil (by rw [hs]; rfl) σ H S _ E fun vs H1 S1 g1 e1 p1 r1 => by
    cases r1 with
    | cons a b =>
      cases b
      obtain ⟨p, rfl, lp, rp, dp⟩ := part_of a i1
      refine ⟨p, rfl, rp H1 S1 (Same.refl _), k _ H1 S1 g1 e1 p1 (ww_pair fun H S m => ?_)⟩
      rw [enumD_length, ← lp]
      refine ⟨fun i hi => ⟨rp H S m, hi⟩, fun i hi => ⟨rp H S m, hi⟩, fun i v H' d y hd => ?_⟩
      obtain ⟨P, x, h1, h2, h3, h4⟩ := y
      obtain ⟨z, h5, h6⟩ := enumD_get hd
      exact ⟨P, _, x, _, z, h1, h2, h3, h6, by rw [Int.zero_add]; exact .int _, dp H S m i x z h4 h5⟩)
end
end Sc
namespace Sc
open PySem L2 NdefX
section
variable {X : Cx} {T : List NTab} {δ δ1 δ2 : List Sl} {a b : Expr} {p pos : Pos}
theorem ev_leI {i j : Int} (ha : EV X T a δ (.d (.int i)) δ1) (hb : EV X T b δ1 (.d (.int j)) δ2) : EV X T (.Compare a [.LtE] [b] pos) δ (.d (.bool (decide (i ≤ j)))) δ2 := ev_cmp op_le c_leI ha hb (nomark _)
theorem tv_leI {i j : Int} (ha : EV X T a δ (.d (.int i)) δ1) (hb : EV X T b δ1 (.d (.int j)) δ2) : TV X T (.Compare a [.LtE] [b] pos) δ (decide (i ≤ j)) δ2 := tv_cmp op_le c_leI ha hb (nomark _)
theorem ev_ltI {i j : Int} (ha : EV X T a δ (.d (.int i)) δ1) (hb : EV X T b δ1 (.d (.int j)) δ2) : EV X T (.Compare a [.Lt] [b] pos) δ (.d (.bool (decide (i < j)))) δ2 := ev_cmp op_lt c_ltI ha hb (nomark _)
theorem tv_ltI {i j : Int} (ha : EV X T a δ (.d (.int i)) δ1) (hb : EV X T b δ1 (.d (.int j)) δ2) : TV X T (.Compare a [.Lt] [b] pos) δ (decide (i < j)) δ2 := tv_cmp op_lt c_ltI ha hb (nomark _)
theorem ev_gtI {i j : Int} (ha : EV X T a δ (.d (.int i)) δ1) (hb : EV X T b δ1 (.d (.int j)) δ2) : EV X T (.Compare a [.Gt] [b] pos) δ (.d (.bool (decide (j < i)))) δ2 := ev_cmp op_gt c_gtI ha hb (nomark _)
theorem tv_gtI {i j : Int} (ha : EV X T a δ (.d (.int i)) δ1) (hb : EV X T b δ1 (.d (.int j)) δ2) : TV X T (.Compare a [.Gt] [b] pos) δ (decide (j < i)) δ2 := tv_cmp op_gt c_gtI ha hb (nomark _)
theorem ev_geI {i j : Int} (ha : EV X T a δ (.d (.int i)) δ1) (hb : EV X T b δ1 (.d (.int j)) δ2) : EV X T (.Compare a [.GtE] [b] pos) δ (.d (.bool (decide (j ≤ i)))) δ2 := ev_cmp op_ge c_geI ha hb (nomark _)
theorem tv_geI {i j : Int} (ha : EV X T a δ (.d (.int i)) δ1) (hb : EV X T b δ1 (.d (.int j)) δ2) : TV X T (.Compare a [.GtE] [b] pos) δ (decide (j ≤ i)) δ2 := tv_cmp op_ge c_geI ha hb (nomark _)
theorem ev_eqI {i j : Int} (ha : EV X T a δ (.d (.int i)) δ1) (hb : EV X T b δ1 (.d (.int j)) δ2) : EV X T (.Compare a [.Eq] [b] pos) δ (.d (.bool (decide (i = j)))) δ2 := ev_cmp op_eq c_eqI ha hb (nomark _)
theorem tv_eqI {i j : Int} (ha : EV X T a δ (.d (.int i)) δ1) (hb : EV X T b δ1 (.d (.int j)) δ2) : TV X T (.Compare a [.Eq] [b] pos) δ (decide (i = j)) δ2 := tv_cmp op_eq c_eqI ha hb (nomark _)
theorem ev_neI {i j : Int} (ha : EV X T a δ (.d (.int i)) δ1) (hb : EV X T b δ1 (.d (.int j)) δ2) : EV X T (.Compare a [.NotEq] [b] pos) δ (.d (.bool (!decide (i = j)))) δ2 := ev_cmp op_ne c_neI ha hb (nomark _)
theorem tv_neI {i j : Int} (ha : EV X T a δ (.d (.int i)) δ1) (hb : EV X T b δ1 (.d (.int j)) δ2) : TV X T (.Compare a [.NotEq] [b] pos) δ (!decide (i = j)) δ2 := tv_cmp op_ne c_neI ha hb (nomark _)
theorem ev_eqS {x y : Str} (ha : EV X T a δ (.d (.str x)) δ1) (hb : EV X T b δ1 (.d (.str y)) δ2) : EV X T (.Compare a [.Eq] [b] pos) δ (.d (.bool (decide (x = y)))) δ2 := ev_cmp op_eq c_eqS ha hb (nomark _)
theorem tv_eqS {x y : Str} (ha : EV X T a δ (.d (.str x)) δ1) (hb : EV X T b δ1 (.d (.str y)) δ2) : TV X T (.Compare a [.Eq] [b] pos) δ (decide (x = y)) δ2 := tv_cmp op_eq c_eqS ha hb (nomark _)
theorem ev_neS {x y : Str} (ha : EV X T a δ (.d (.str x)) δ1) (hb : EV X T b δ1 (.d (.str y)) δ2) : EV X T (.Compare a [.NotEq] [b] pos) δ (.d (.bool (!decide (x = y)))) δ2 := ev_cmp op_ne c_neS ha hb (nomark _)
theorem tv_neS {x y : Str} (ha : EV X T a δ (.d (.str x)) δ1) (hb : EV X T b δ1 (.d (.str y)) δ2) : TV X T (.Compare a [.NotEq] [b] pos) δ (!decide (x = y)) δ2 := tv_cmp op_ne c_neS ha hb (nomark _)
theorem ev_eqB {x y : Bool} (ha : EV X T a δ (.d (.bool x)) δ1) (hb : EV X T b δ1 (.d (.bool y)) δ2) : EV X T (.Compare a [.Eq] [b] pos) δ (.d (.bool (decide (x = y)))) δ2 := ev_cmp op_eq c_eqB ha hb (nomark _)
theorem tv_eqB {x y : Bool} (ha : EV X T a δ (.d (.bool x)) δ1) (hb : EV X T b δ1 (.d (.bool y)) δ2) : TV X T (.Compare a [.Eq] [b] pos) δ (decide (x = y)) δ2 := tv_cmp op_eq c_eqB ha hb (nomark _)
theorem ev_neB {x y : Bool} (ha : EV X T a δ (.d (.bool x)) δ1) (hb : EV X T b δ1 (.d (.bool y)) δ2) : EV X T (.Compare a [.NotEq] [b] pos) δ (.d (.bool (!decide (x = y)))) δ2 := ev_cmp op_ne c_neB ha hb (nomark _)
theorem tv_neB {x y : Bool} (ha : EV X T a δ (.d (.bool x)) δ1) (hb : EV X T b δ1 (.d (.bool y)) δ2) : TV X T (.Compare a [.NotEq] [b] pos) δ (!decide (x = y)) δ2 := tv_cmp op_ne c_neB ha hb (nomark _)
theorem ev_ltS {x y : Str} (ha : EV X T a δ (.d (.str x)) δ1) (hb : EV X T b δ1 (.d (.str y)) δ2) : EV X T (.Compare a [.Lt] [b] pos) δ (.d (.bool (decide (x.cps.toList < y.cps.toList)))) δ2 := ev_cmp op_lt_str c_ltS ha hb (nomark _)
theorem tv_ltS {x y : Str} (ha : EV X T a δ (.d (.str x)) δ1) (hb : EV X T b δ1 (.d (.str y)) δ2) : TV X T (.Compare a [.Lt] [b] pos) δ (decide (x.cps.toList < y.cps.toList)) δ2 := tv_cmp op_lt_str c_ltS ha hb (nomark _)
theorem ev_eqD {x y : PyData} (ha : EV X T a δ (.d x) δ1) (hb : EV X T b δ1 (.d y) δ2) (hu : X.A.units + 64 < cLine) (h1 : SeqAt.shaped x = true) (h2 : SeqAt.shaped y = true) : EV X T (.Compare a [.Eq] [b] pos) δ (.d (.bool (PyData.eqv x y))) δ2 := ev_cmp (op_eqD hu) (c_eqD h1 h2) ha hb (nomark _)
theorem tv_eqD {x y : PyData} (ha : EV X T a δ (.d x) δ1) (hb : EV X T b δ1 (.d y) δ2) (hu : X.A.units + 64 < cLine) (h1 : SeqAt.shaped x = true) (h2 : SeqAt.shaped y = true) : TV X T (.Compare a [.Eq] [b] pos) δ (PyData.eqv x y) δ2 := tv_cmp (op_eqD hu) (c_eqD h1 h2) ha hb (nomark _)
theorem ev_neD {x y : PyData} (ha : EV X T a δ (.d x) δ1) (hb : EV X T b δ1 (.d y) δ2) (hu : X.A.units + 64 < cLine) (h1 : SeqAt.shaped x = true) (h2 : SeqAt.shaped y = true) : EV X T (.Compare a [.NotEq] [b] pos) δ (.d (.bool (!PyData.eqv x y))) δ2 := ev_cmp (op_neD hu) (c_neD h1 h2) ha hb (nomark _)
theorem tv_neD {x y : PyData} (ha : EV X T a δ (.d x) δ1) (hb : EV X T b δ1 (.d y) δ2) (hu : X.A.units + 64 < cLine) (h1 : SeqAt.shaped x = true) (h2 : SeqAt.shaped y = true) : TV X T (.Compare a [.NotEq] [b] pos) δ (!PyData.eqv x y) δ2 := tv_cmp (op_neD hu) (c_neD h1 h2) ha hb (nomark _)
theorem ev_isN {x : PyData} (ha : EV X T a δ (.d x) δ1) (hb : EV X T b δ1 (.d .none) δ2) : EV X T (.Compare a [.Is] [b] pos) δ (.d (.bool (isNone x))) δ2 := ev_cmp op_isN c_isN ha hb (nomark _)
theorem tv_isN {x : PyData} (ha : EV X T a δ (.d x) δ1) (hb : EV X T b δ1 (.d .none) δ2) : TV X T (.Compare a [.Is] [b] pos) δ (isNone x) δ2 := tv_cmp op_isN c_isN ha hb (nomark _)
theorem ev_notN {x : PyData} (ha : EV X T a δ (.d x) δ1) (hb : EV X T b δ1 (.d .none) δ2) : EV X T (.Compare a [.IsNot] [b] pos) δ (.d (.bool (!isNone x))) δ2 := ev_cmp op_notN c_notN ha hb (nomark _)
theorem tv_notN {x : PyData} (ha : EV X T a δ (.d x) δ1) (hb : EV X T b δ1 (.d .none) δ2) : TV X T (.Compare a [.IsNot] [b] pos) δ (!isNone x) δ2 := tv_cmp op_notN c_notN ha hb (nomark _)
theorem ev_inS {c : Nat} {z : Str} (ha : EV X T a δ (.d (.str ⟨#[c]⟩)) δ1) (hb : EV X T b δ1 (.d (.str z)) δ2) (hm : behindInMarks .In b = false := by rfl) : EV X T (.Compare a [.In] [b] pos) δ (.d (.bool (decide (c ∈ z.cps.toList)))) δ2 := ev_cmp op_in_sign c_inS ha hb hm
theorem tv_inS {c : Nat} {z : Str} (ha : EV X T a δ (.d (.str ⟨#[c]⟩)) δ1) (hb : EV X T b δ1 (.d (.str z)) δ2) (hm : behindInMarks .In b = false := by rfl) : TV X T (.Compare a [.In] [b] pos) δ (decide (c ∈ z.cps.toList)) δ2 := tv_cmp op_in_sign c_inS ha hb hm
theorem ev_ninS {c : Nat} {z : Str} (ha : EV X T a δ (.d (.str ⟨#[c]⟩)) δ1) (hb : EV X T b δ1 (.d (.str z)) δ2) (hm : behindInMarks .NotIn b = false := by rfl) : EV X T (.Compare a [.NotIn] [b] pos) δ (.d (.bool (!decide (c ∈ z.cps.toList)))) δ2 := ev_cmp op_notIn_sign c_ninS ha hb hm
theorem tv_ninS {c : Nat} {z : Str} (ha : EV X T a δ (.d (.str ⟨#[c]⟩)) δ1) (hb : EV X T b δ1 (.d (.str z)) δ2) (hm : behindInMarks .NotIn b = false := by rfl) : TV X T (.Compare a [.NotIn] [b] pos) δ (!decide (c ∈ z.cps.toList)) δ2 := tv_cmp op_notIn_sign c_ninS ha hb hm
theorem ev_inD {x : PyData} {ys : List PyData} (ha : EV X T a δ (.d x) δ1) (hb : EV X T b δ1 (.d (.list ys)) δ2) (hu : X.A.units + 65 < cLine) (h1 : SeqAt.shaped x = true) (h2 : SeqAt.shaped (.list ys) = true) (hm : behindInMarks .In b = false := by rfl) : EV X T (.Compare a [.In] [b] pos) δ (.d (.bool (ys.any fun z => PyData.eqv z x))) δ2 := ev_cmp (op_inD hu) (c_inD h1 h2) ha hb hm
theorem tv_inD {x : PyData} {ys : List PyData} (ha : EV X T a δ (.d x) δ1) (hb : EV X T b δ1 (.d (.list ys)) δ2) (hu : X.A.units + 65 < cLine) (h1 : SeqAt.shaped x = true) (h2 : SeqAt.shaped (.list ys) = true) (hm : behindInMarks .In b = false := by rfl) : TV X T (.Compare a [.In] [b] pos) δ (ys.any fun z => PyData.eqv z x) δ2 := tv_cmp (op_inD hu) (c_inD h1 h2) ha hb hm
theorem ev_ninD {x : PyData} {ys : List PyData} (ha : EV X T a δ (.d x) δ1) (hb : EV X T b δ1 (.d (.list ys)) δ2) (hu : X.A.units + 65 < cLine) (h1 : SeqAt.shaped x = true) (h2 : SeqAt.shaped (.list ys) = true) (hm : behindInMarks .NotIn b = false := by rfl) : EV X T (.Compare a [.NotIn] [b] pos) δ (.d (.bool (!ys.any fun z => PyData.eqv z x))) δ2 := ev_cmp (op_notInD hu) (c_ninD h1 h2) ha hb hm
theorem tv_ninD {x : PyData} {ys : List PyData} (ha : EV X T a δ (.d x) δ1) (hb : EV X T b δ1 (.d (.list ys)) δ2) (hu : X.A.units + 65 < cLine) (h1 : SeqAt.shaped x = true) (h2 : SeqAt.shaped (.list ys) = true) (hm : behindInMarks .NotIn b = false := by rfl) : TV X T (.Compare a [.NotIn] [b] pos) δ (!ys.any fun z => PyData.eqv z x) δ2 := tv_cmp (op_notInD hu) (c_ninD h1 h2) ha hb hm
end
/-! #### more short forms -/
section
variable {X : Cx} {T : List NTab} {δ δ1 δ2 δ3 : List Sl} {e : Expr} {p pos : Pos} {W : WX}
theorem ev_allM {α : Type} {xs : List α} {g : α → Bool} (B : Bi X.mg) (hc : X.calm = true) (h : EV X T e δ (.o (.lst (xs.map fun x => .bool (g x)))) δ1) (hg : Gl X "all" := by rfl) (he : starEach [e] X.env = (false, eval e X.env) :: starEach [] X.env := by rfl) (hpl : (backTo pos (starEach [] X.env)).any (·.1) = false := by rfl) :
    EV X T (.Call (.Name "all" p) [e] [] pos) δ (.d (.bool (xs.all g))) δ1 := by
  have e1 : xs.map (fun x => PyData.bool (g x)) = (xs.map g).map .bool := by rw [List.map_map]; rfl
  rw [e1] at h
  have q := ev_all (bs := xs.map g) B hc (ev_frz h) hg he hpl (p := p)
  rw [List.all_map] at q
  exact q
theorem EV.eq {d d' : PyData} (h : EV X T e δ (.d d) δ1) (q : d = d') : EV X T e δ (.d d') δ1 := q ▸ h
theorem EV.eqb {b b' : Bool} (h : EV X T e δ (.d (.bool b)) δ1) (q : b = b') : EV X T e δ (.d (.bool b')) δ1 := q ▸ h
theorem EV.st {r : Sl} (h : EV X T e δ r δ1) (q : δ1 = δ2) : EV X T e δ r δ2 := q ▸ h
theorem TV.eq {b b' : Bool} (h : TV X T e δ b δ1) (q : b = b') : TV X T e δ b' δ1 := q ▸ h
/-! #### how a body ends -/
/-- f: it never falls off its end -/
def EA (X : Cx) (T : List NTab) (W : WX) (f : Bool) (st : List Stmt) (δ : List Sl) (a : An) : Prop := ∃ of, SVs X T W st δ of ∧ EndsAs of a ∧ (f = true → of.stops)
def EB (X : Cx) (T : List NTab) (W : WX) (f : Bool) (st rest : List Stmt) (δ : List Sl) (a : An) : Prop := ∃ of, Then X T W st rest δ of ∧ EndsAs of a ∧ (f = true → of.stops)
theorem EA.end {f : Bool} {st : List Stmt} {a : An} (h : EA X T W f st δ a) : ∃ of, SVs X T W st δ of ∧ EndsAs of a := let ⟨of, h1, h2, _⟩ := h; ⟨of, h1, h2⟩
theorem ea_ret {f : Bool} {rest : List Stmt} {r : Sl} (h : EV X T e δ r δ1) : EA X T W f (.Return (some e) pos :: rest) δ (.r r) := ⟨_, svs_stop (sv_ret h), .ret, fun _ => trivial⟩
theorem ea_retD {f : Bool} {rest : List Stmt} {d d' : PyData} (h : EV X T e δ (.d d) δ1) (q : d = d') : EA X T W f (.Return (some e) pos :: rest) δ (.r (.d d')) := q ▸ ea_ret h
theorem ea_retB {f : Bool} {rest : List Stmt} {d d' : Bool} (h : EV X T e δ (.d (.bool d)) δ1) (q : d = d') : EA X T W f (.Return (some e) pos :: rest) δ (.r (.d (.bool d'))) := q ▸ ea_ret h
theorem ea_retO {f : Bool} {rest : List Stmt} {d d' : List PyData} (h : EV X T e δ (.o (.lst d)) δ1) (q : d = d') : EA X T W f (.Return (some e) pos :: rest) δ (.r (.o (.lst d'))) := q ▸ ea_ret h
theorem ea_retN {f : Bool} {rest : List Stmt} : EA X T W f (.Return none pos :: rest) δ (.r (.d .none)) := ⟨_, svs_stop sv_retN, .ret, fun _ => trivial⟩
theorem ea_nil : EA X T W false [] δ (.r (.d .none)) := ⟨_, svs_nil, .nx, fun h => nomatch h⟩
theorem ea_cons {f : Bool} {st : Stmt} {rest : List Stmt} {a : An} (h : SV X T W st δ (.nx δ1)) (hs : EA X T W f rest δ1 a) : EA X T W f (st :: rest) δ a := let ⟨of, h1, h2, h3⟩ := hs; ⟨of, svs_cons h h1, h2, h3⟩
theorem ea_ex {f : Bool} {st : Stmt} {rest : List Stmt} {x : Exn} (h : SV X T W st δ (.ex x δ1)) : EA X T W f (st :: rest) δ (.x x) := ⟨_, svs_stop h, .ex, fun _ => trivial⟩
theorem ea_out {f : Bool} {st : Stmt} {rest : List Stmt} {r : Sl} (h : SV X T W st δ (.ret r δ1)) : EA X T W f (st :: rest) δ (.r r) := ⟨_, svs_stop h, .ret, fun _ => trivial⟩
theorem ea_if {f t : Bool} {c : Expr} {a b rest : List Stmt} {n : An} (hc : TV X T c δ t δ1) (ha : t = true → EB X T W f a rest δ1 n) (hb : t = false → EB X T W f b rest δ1 n) : EA X T W f (.If c a b pos :: rest) δ n := by
  cases t with
  | true =>
    obtain ⟨of, h1, h2, h3⟩ := ha rfl
    exact ⟨of, svs_if hc (fun _ => h1) (fun h => nomatch h), h2, h3⟩
  | false =>
    obtain ⟨of, h1, h2, h3⟩ := hb rfl
    exact ⟨of, svs_if hc (fun h => nomatch h) (fun _ => h1), h2, h3⟩
theorem eb_stop {f : Bool} {a rest : List Stmt} {n : An} (h : EA X T W true a δ n) : EB X T W f a rest δ n := let ⟨of, h1, h2, h3⟩ := h; ⟨of, .stop h1 (h3 rfl), h2, fun _ => h3 rfl⟩
theorem eb_go {f : Bool} {a rest : List Stmt} {n : An} (h : SVs X T W a δ (.nx δ1)) (hs : EA X T W f rest δ1 n) : EB X T W f a rest δ n := let ⟨of, h1, h2, h3⟩ := hs; ⟨of, .go h h1, h2, h3⟩
theorem eb_nil {f : Bool} {rest : List Stmt} {n : An} (hs : EA X T W f rest δ n) : EB X T W f [] rest δ n := eb_go svs_nil hs
theorem ownFree {δ : List Sl} {vs : List Nat} (h : (vs.all fun i => ((δ[i]?).bind Sl.ow).isNone) = true) : ∀ i ∈ vs, (δ[i]?).bind Sl.ow = none := fun i hi => Option.isNone_iff_eq_none.mp (List.all_eq_true.mp h i hi)
/-- a comprehension over what does not change -/
theorem ev_lcF {k : Nat} (C : Cok X W k) (own : List (Str × Nat)) {scope : Scope} {tg iter elt : Expr} {ifs : List Expr} {ds ys : List PyData} {pos : Pos} (hi : IV X T tg iter δ (.fix ds) δ1) (h : CompF X T scope (own.map (·.2)) tg ifs elt ds (wipeD δ1 (own.map (·.2))) ys δ2) (hz : ys.length ≤ sizeLine)
    (ok : blkC X.N X.env.scope scope own = true := by rfl) (ho : ((own.map (·.2)).all fun i => ((δ1[i]?).bind Sl.ow).isNone) = true := by rfl) (hs : ∀ x, foldedSetIterable iter X.env x = pure x := by intro _; rfl) : EV X T (.ListComp elt [⟨tg, iter, ifs, 0⟩] scope pos) δ (.o (.lst ys)) (mendD δ1 δ2 (own.map (·.2))) :=
  ev_lc C.calm C.nd ok hi (fun j h => by cases h) (ownFree ho) h.at hz hs
/-- .. as data -/
theorem ev_lcD {k : Nat} (C : Cok X W k) (own : List (Str × Nat)) {scope : Scope} {tg iter elt : Expr} {ifs : List Expr} {ds ys : List PyData} {pos : Pos} (hi : IV X T tg iter δ (.fix ds) δ1) (h : CompF X T scope (own.map (·.2)) tg ifs elt ds (wipeD δ1 (own.map (·.2))) ys δ2) (hz : ys.length ≤ sizeLine)
    (ok : blkC X.N X.env.scope scope own = true := by rfl) (ho : ((own.map (·.2)).all fun i => ((δ1[i]?).bind Sl.ow).isNone) = true := by rfl) (hs : ∀ x, foldedSetIterable iter X.env x = pure x := by intro _; rfl) : EV X T (.ListComp elt [⟨tg, iter, ifs, 0⟩] scope pos) δ (.d (.list ys)) (mendD δ1 δ2 (own.map (·.2))) :=
  ev_frz (ev_lcF C own hi h hz ok ho hs)
end
end Sc
namespace Sc
open PySem L2 NdefX
/-! #### texts by their signs -/
theorem len_cps (z : Str) : z.length = z.cps.toList.length := by
  show z.cps.size = _
  simp
theorem str_ext {a b : Str} (h : a.cps.toList = b.cps.toList) : a = b := by
  cases a
  cases b
  simpa using h
theorem cut_from (z : Str) (n : Nat) : (cutS z (some (n : Int)) none).cps.toList = z.cps.toList.drop n := by
  show ((z.cps.toList.drop (HT.sIx z.length 0 (some (n : Int)))).take (HT.sIx z.length z.length none - HT.sIx z.length 0 (some (n : Int)))).toArray.toList = _
  rw [HT.sIx_nat, HT.sIx_none, List.toList_toArray, len_cps]
  rcases Nat.le_total n z.cps.toList.length with h | h
  · rw [Nat.min_eq_left h, List.take_of_length_le (by rw [List.length_drop]; exact Nat.le_refl _)]
  · rw [Nat.min_eq_right h, Nat.sub_self, List.take_zero, List.drop_eq_nil_of_le h]
theorem cut_to (z : Str) (n : Nat) : (cutS z none (some (n : Int))).cps.toList = z.cps.toList.take n := by
  show ((z.cps.toList.drop (HT.sIx z.length 0 none)).take (HT.sIx z.length z.length (some (n : Int)) - HT.sIx z.length 0 none)).toArray.toList = _
  rw [HT.sIx_nat, HT.sIx_none, List.toList_toArray, len_cps, List.drop_zero, Nat.sub_zero]
  rcases Nat.le_total n z.cps.toList.length with h | h
  · rw [Nat.min_eq_left h]
  · rw [Nat.min_eq_right h, List.take_length, List.take_of_length_le h]
theorem cut_mid (z : Str) (a b : Nat) : (cutS z (some (a : Int)) (some (b : Int))).cps.toList = (z.cps.toList.drop a).take (b - a) := by
  show ((z.cps.toList.drop (HT.sIx z.length 0 (some (a : Int)))).take (HT.sIx z.length z.length (some (b : Int)) - HT.sIx z.length 0 (some (a : Int)))).toArray.toList = _
  rw [HT.sIx_nat, HT.sIx_nat, List.toList_toArray, len_cps]
  rcases Nat.le_total a z.cps.toList.length with h | h
  · rw [Nat.min_eq_left h]
    rcases Nat.le_total b z.cps.toList.length with h2 | h2
    · rw [Nat.min_eq_left h2]
    · rw [Nat.min_eq_right h2, List.take_of_length_le (by rw [List.length_drop]; exact Nat.le_refl _), List.take_of_length_le (by rw [List.length_drop]; omega)]
  · rw [Nat.min_eq_right h, List.drop_eq_nil_of_le (Nat.le_refl _), List.drop_eq_nil_of_le h, List.take_nil, List.take_nil]
theorem app_cps (a b : Str) : (a ++ b).cps.toList = a.cps.toList ++ b.cps.toList := by
  show (a.cps ++ b.cps).toList = _
  simp
theorem zipD_map {α β : Type} (f : α → PyData) (g : β → PyData) : ∀ (xs : List α) (ys : List β), zipD (xs.map f) (ys.map g) = (xs.zip ys).map fun p => .tuple [f p.1, g p.2]
  | [], ys => by cases ys <;> rfl
  | x :: xs, [] => rfl
  | x :: xs, y :: ys => by
    show PyData.tuple [f x, g y] :: zipD (xs.map f) (ys.map g) = _
    rw [zipD_map f g xs ys]
    rfl
theorem enumD_map {α : Type} (f : α → PyData) : ∀ (n : Nat) (xs : List α), enumD (n : Int) (xs.map f) = (xs.zipIdx n).map fun p => .tuple [.int (p.2 : Nat), f p.1]
  | _, [] => rfl
  | n, x :: xs => by
    show PyData.tuple [.int (n : Int), f x] :: enumD ((n : Int) + 1) (xs.map f) = _
    have e : (n : Int) + 1 = ((n + 1 : Nat) : Int) := by omega
    rw [e, enumD_map f (n + 1) xs]
    rfl
section
variable {X : Cx} {T : List NTab} {δ δ1 δ2 δ3 : List Sl} {scope : Scope} {vs : List Nat} {tg : Expr} {ifs : List Expr} {elt : Expr}
/-- nothing changes at a turn -/
theorem cf_mapE {α : Type} {xs : List α} {en f : α → PyData} {c : α → Bool} {st1 st2 st3 : α → List Sl} {ds ys : List PyData} (hds : ds = xs.map en) (hg : ∀ x ∈ xs, Bl X scope (fun X => GW X T vs tg (.d (en x)) δ (st1 x))) (ht : ∀ x ∈ xs, Bl X scope (fun X => TVs X T ifs (st1 x) (c x) (st2 x))) (he : ∀ x ∈ xs, c x = true → Bl X scope (fun X => EV X T elt (st2 x) (.d (f x)) (st3 x)))
    (hys : (xs.filter c).map f = ys) (h2 : ∀ x, wipeD (st2 x) vs = δ := by intro _; rfl) (h3 : ∀ x, wipeD (st3 x) vs = δ := by intro _; rfl) : CompF X T scope vs tg ifs elt ds δ ys δ := by
  rw [hds, ← hys]
  exact cf_map (fun s H C cl fp x hx => hg x hx s H C cl fp) (fun s H C cl fp x hx => ht x hx s H C cl fp) (fun s H C cl fp x hx hc => he x hx hc s H C cl fp) h2 h3
theorem cf_allE {α : Type} {xs : List α} {en f : α → PyData} {st1 st3 : α → List Sl} {ds ys : List PyData} (hds : ds = xs.map en) (hg : ∀ x ∈ xs, Bl X scope (fun X => GW X T vs tg (.d (en x)) δ (st1 x))) (he : ∀ x ∈ xs, Bl X scope (fun X => EV X T elt (st1 x) (.d (f x)) (st3 x)))
    (hys : xs.map f = ys) (h3 : ∀ x, wipeD (st3 x) vs = δ := by intro _; rfl) : CompF X T scope vs tg [] elt ds δ ys δ := by
  rw [hds, ← hys]
  exact cf_all (fun s H C cl fp x hx => hg x hx s H C cl fp) (fun s H C cl fp x hx => he x hx s H C cl fp) h3
end
end Sc
namespace Sc
open PySem L2 NdefX
/-! #### data that may be compared -/
def Shp (n : Nat) (d : PyData) : Prop := d.canLay0 = true ∧ d.depth ≤ n
theorem shp_int (i : Int) : Shp 0 (.int i) := ⟨by simp [PyData.canLay0], by simp [PyData.depth]⟩
theorem shp_bool (b : Bool) : Shp 0 (.bool b) := ⟨by simp [PyData.canLay0], by simp [PyData.depth]⟩
theorem shp_none : Shp 0 .none := ⟨by simp [PyData.canLay0], by simp [PyData.depth]⟩
/-- its signs are signs -/
def Ok (z : Str) : Prop := PyData.strOk z = true
theorem shp_str {z : Str} (h : Ok z) : Shp 0 (.str z) := ⟨by simp only [PyData.canLay0]; exact h, by simp [PyData.depth]⟩
theorem canAll {ds : List PyData} (h : ∀ d ∈ ds, d.canLay0 = true) : PyData.canLayAll0 ds = true := by
  induction ds with
  | nil => simp [PyData.canLayAll0]
  | cons d ds ih =>
    simp only [PyData.canLayAll0, Bool.and_eq_true]
    exact ⟨h d List.mem_cons_self, ih fun x hx => h x (List.mem_cons_of_mem _ hx)⟩
theorem depAll {n : Nat} {ds : List PyData} (h : ∀ d ∈ ds, d.depth ≤ n) : PyData.depthAll ds ≤ n := by
  induction ds with
  | nil => simp [PyData.depthAll]
  | cons d ds ih =>
    simp only [PyData.depthAll]
    exact Nat.max_le.mpr ⟨h d List.mem_cons_self, ih fun x hx => h x (List.mem_cons_of_mem _ hx)⟩
theorem Shp.mono {m n : Nat} {d : PyData} (h : Shp m d) (l : m ≤ n) : Shp n d := ⟨h.1, Nat.le_trans h.2 l⟩
theorem shp_tup {n : Nat} {ds : List PyData} (h : ∀ d ∈ ds, Shp n d) : Shp (n + 1) (.tuple ds) :=
  ⟨by simp only [PyData.canLay0]; exact canAll fun d hd => (h d hd).1, by simp only [PyData.depth]; exact Nat.succ_le_succ (depAll fun d hd => (h d hd).2)⟩
theorem shp_lst {n : Nat} {ds : List PyData} (h : ∀ d ∈ ds, Shp n d) : Shp (n + 1) (.list ds) :=
  ⟨by simp only [PyData.canLay0]; exact canAll fun d hd => (h d hd).1, by simp only [PyData.depth]; exact Nat.succ_le_succ (depAll fun d hd => (h d hd).2)⟩
theorem Shp.ok {n : Nat} {d : PyData} (h : Shp n d) (hn : n ≤ 64 := by decide) : SeqAt.shaped d = true := by
  unfold SeqAt.shaped
  rw [h.1, Bool.true_and, decide_eq_true_eq]
  exact Nat.le_trans h.2 hn
theorem Shp.self {n : Nat} {d : PyData} (h : Shp n d) : PyData.eqv d d = true := SeqAt.eqv_refl d h.1
theorem ok_app {a b : Str} (ha : Ok a) (hb : Ok b) : Ok (a ++ b) := by
  unfold Ok PyData.strOk at *
  rw [← Array.all_toList] at *
  rw [app_cps, List.all_append, ha, hb]
  rfl
theorem ok_sub {a b : Str} (ha : Ok a) (h : ∀ c ∈ b.cps.toList, c ∈ a.cps.toList) : Ok b := by
  unfold Ok PyData.strOk at *
  rw [← Array.all_toList] at *
  rw [List.all_eq_true] at *
  exact fun c hc => ha c (h c hc)
/-! #### the room that comparing takes -/
theorem Cok.u64 {X : Cx} {W : WX} {k : Nat} (C : Cok X W k) : X.A.units + 64 < cLine := by have := C.room.un; omega
theorem Cok.u65 {X : Cx} {W : WX} {k : Nat} (C : Cok X W k) : X.A.units + 65 < cLine := by have := C.room.un; omega
theorem Cok.u66 {X : Cx} {W : WX} {k : Nat} (C : Cok X W k) : X.A.units + 66 < cLine := by have := C.room.un; omega
end Sc
namespace Sc
open PySem L2 NdefX
section
variable {X : Cx} {T : List NTab} {δ δ1 δ2 δ3 : List Sl} {scope : Scope} {vs vs1 : List Nat} {tg tg1 iter1 : Expr} {ifs ifs1 : List Expr} {elt : Expr} {W : WX}
def Comp2F (X : Cx) (T : List NTab) (scope : Scope) (vs vs1 : List Nat) (tg : Expr) (ifs : List Expr) (tg1 iter1 : Expr) (ifs1 : List Expr) (elt : Expr) (ds : List PyData) (δ : List Sl) (ys : List PyData) (δ' : List Sl) : Prop := ∀ (pre : List PyData) (i : Nat), pre.length = i → Comp2 X T scope vs vs1 tg ifs (.fix (pre ++ ds)) tg1 iter1 ifs1 elt i δ ys δ'
theorem Comp2F.at {ds ys : List PyData} (h : Comp2F X T scope vs vs1 tg ifs tg1 iter1 ifs1 elt ds δ ys δ1) : Comp2 X T scope vs vs1 tg ifs (.fix ds) tg1 iter1 ifs1 elt 0 δ ys δ1 := h [] 0 rfl
theorem c2_nil : Comp2F X T scope vs vs1 tg ifs tg1 iter1 ifs1 elt [] δ [] δ := fun pre i h => .done rfl (by simp [h])
theorem Comp2F.next {d : PyData} {ds ys : List PyData} (q : Comp2F X T scope vs vs1 tg ifs tg1 iter1 ifs1 elt ds δ ys δ1) {pre : List PyData} {i : Nat} (h : pre.length = i) : Comp2 X T scope vs vs1 tg ifs (.fix (pre ++ d :: ds)) tg1 iter1 ifs1 elt (i + 1) δ ys δ1 := by
  have z := q (pre ++ [d]) (i + 1) (by simp [h])
  rw [List.append_assoc] at z
  exact z
theorem c2_yes {d : PyData} {ds ys zs es : List PyData} {δ4 δ5 : List Sl} (hg : Bl X scope (fun X => GW X T vs tg (.d d) δ δ1)) (ht : Bl X scope (fun X => TVs X T ifs δ1 true δ2)) (hi : Bl X scope (fun X => IV X T tg1 iter1 δ2 (.fix es) δ3)) (ho : ∀ i ∈ vs1, (δ3[i]?).bind Sl.ow = none)
    (hc : CompF X T scope vs1 tg1 ifs1 elt es (wipeD δ3 vs1) ys δ4) (q : Comp2F X T scope vs vs1 tg ifs tg1 iter1 ifs1 elt ds (wipeD δ4 vs) zs δ5) : Comp2F X T scope vs vs1 tg ifs tg1 iter1 ifs1 elt (d :: ds) δ (ys ++ zs) δ5 := fun pre i h => .yes rfl (at_pre h) hg ht hi (fun j e => by cases e) ho hc.at (q.next h)
theorem c2_no {d : PyData} {ds zs : List PyData} {δ5 : List Sl} (hg : Bl X scope (fun X => GW X T vs tg (.d d) δ δ1)) (ht : Bl X scope (fun X => TVs X T ifs δ1 false δ2)) (q : Comp2F X T scope vs vs1 tg ifs tg1 iter1 ifs1 elt ds (wipeD δ2 vs) zs δ5) : Comp2F X T scope vs vs1 tg ifs tg1 iter1 ifs1 elt (d :: ds) δ zs δ5 := fun pre i h => .no rfl (at_pre h) hg ht (q.next h)
theorem c2_allE {α : Type} {xs : List α} {en : α → PyData} {es ys : α → List PyData} {st1 st3 : α → List Sl} {ds zs : List PyData} (hds : ds = xs.map en) (hg : ∀ x ∈ xs, Bl X scope (fun X => GW X T vs tg (.d (en x)) δ (st1 x))) (hi : ∀ x ∈ xs, Bl X scope (fun X => IV X T tg1 iter1 (st1 x) (.fix (es x)) (st3 x)))
    (hin : ∀ x ∈ xs, CompF X T scope vs1 tg1 ifs1 elt (es x) (wipeD (st3 x) vs1) (ys x) (wipeD (st3 x) vs1)) (hzs : xs.flatMap ys = zs) (ho : ∀ x, (vs1.all fun i => (((st3 x)[i]?).bind Sl.ow).isNone) = true := by intro _; rfl) (hb : ∀ x, wipeD (wipeD (st3 x) vs1) vs = δ := by intro _; rfl) : Comp2F X T scope vs vs1 tg [] tg1 iter1 ifs1 elt ds δ zs δ := by
  subst hds hzs
  induction xs with
  | nil => exact c2_nil
  | cons x xs ih =>
    have ih := ih (fun y hy => hg y (List.mem_cons_of_mem _ hy)) (fun y hy => hi y (List.mem_cons_of_mem _ hy)) (fun y hy => hin y (List.mem_cons_of_mem _ hy))
    refine c2_yes (hg x List.mem_cons_self) (fun s H C cl fp => tvs_nil) (hi x List.mem_cons_self) (ownFree (ho x)) (hin x List.mem_cons_self) ?_
    rw [hb x]
    exact ih
/-- name = [.. for .. for ..] on one line -/
theorem sv_setLc2F {k : Nat} (C : Cok X W k) (own : List (Str × Nat)) (i : Nat) {iter : Expr} {ds ys : List PyData} {y : Str} {pos py spos : Pos} {s : Sl} (hi : IV X T tg iter δ (.fix ds) δ1) (h : Comp2F X T scope (own.map (·.2)) vs1 tg ifs tg1 iter1 ifs1 elt ds (wipeD δ1 (own.map (·.2))) ys δ2) (hz : ys.length ≤ sizeLine) (hy : X.N[i]? = some y := by rfl) (hyl : X.env.scope.names.lookup y = some .local := by rfl)
    (hsw : swapsWith (.ListComp elt [⟨tg, iter, ifs, 0⟩, ⟨tg1, iter1, ifs1, 0⟩] scope pos) (some (.Name y py)) spos.line X.env = pure true := by exact sw_true rfl rfl rfl rfl) (hv : ∀ i ∈ vs1, i ∈ own.map (·.2) := by decide) (ok : blkC X.N X.env.scope scope own = true := by rfl) (ho : ((own.map (·.2)).all fun i => ((δ1[i]?).bind Sl.ow).isNone) = true := by rfl)
    (hd : (mendD δ1 δ2 (own.map (·.2)))[i]? = some s := by rfl) (hf : s.free := by trivial) (hs : ∀ x, foldedSetIterable iter X.env x = pure x := by intro _; rfl) (hs1 : ∀ env x, foldedSetIterable iter1 env x = pure x := by intro _ _; rfl) :
    SV X T W (.Assign [.Name y py] (.ListComp elt [⟨tg, iter, ifs, 0⟩, ⟨tg1, iter1, ifs1, 0⟩] scope pos) spos) δ (.nx ((mendD δ1 δ2 (own.map (·.2))).set i (.o (.lst ys)))) :=
  sv_setLc2 C.calm C.nd hy hyl hsw ok hi (fun j h => by cases h) hv (ownFree ho) h.at hz hd hf hs hs1
theorem sv_setLcF {k : Nat} (C : Cok X W k) (own : List (Str × Nat)) (i : Nat) {iter : Expr} {ds ys : List PyData} {y : Str} {pos py spos : Pos} {s : Sl} (hi : IV X T tg iter δ (.fix ds) δ1) (h : CompF X T scope (own.map (·.2)) tg ifs elt ds (wipeD δ1 (own.map (·.2))) ys δ2) (hz : ys.length ≤ sizeLine) (hy : X.N[i]? = some y := by rfl) (hyl : X.env.scope.names.lookup y = some .local := by rfl)
    (hsw : swapsWith (.ListComp elt [⟨tg, iter, ifs, 0⟩] scope pos) (some (.Name y py)) spos.line X.env = pure true := by exact sw_true rfl rfl rfl rfl) (ok : blkC X.N X.env.scope scope own = true := by rfl) (ho : ((own.map (·.2)).all fun i => ((δ1[i]?).bind Sl.ow).isNone) = true := by rfl)
    (hd : (mendD δ1 δ2 (own.map (·.2)))[i]? = some s := by rfl) (hf : s.free := by trivial) (hs : ∀ x, foldedSetIterable iter X.env x = pure x := by intro _; rfl) :
    SV X T W (.Assign [.Name y py] (.ListComp elt [⟨tg, iter, ifs, 0⟩] scope pos) spos) δ (.nx ((mendD δ1 δ2 (own.map (·.2))).set i (.o (.lst ys)))) :=
  sv_setLc C.calm C.nd hy hyl hsw ok hi (fun j h => by cases h) (ownFree ho) h.at hz hd hf hs
/-- name = e, by places -/
theorem sv_let {k : Nat} (C : Cok X W k) (i : Nat) {x : Str} {e : Expr} {pos pos' : Pos} {r s : Sl} (h : EV X T e δ r δ1) (hi : X.N[i]? = some x := by rfl) (hx : Loc X.env.scope x := by first | exact .inl rfl | exact .inr rfl) (hd : δ1[i]? = some s := by rfl) (hf' : s.free := by trivial)
    (hs : swapsWith e (some (.Name x pos')) pos.line X.env = pure false := by rfl) (hf : X.fn x = true ∨ X.env.scope.names.lookup x = some .local := by first | exact .inl rfl | exact .inr rfl) : SV X T W (.Assign [.Name x pos'] e pos) δ (.nx (δ1.set i r)) := sv_set C.nd hi hx h hd hf' hs hf
end
/-! #### the least -/
section
open PySem.W
theorem minOf_mem {α : Type} [DecidableEq α] [DatumOrd α] (x : α) : ∀ xs : List α, minOf x xs ∈ x :: xs := by
  intro xs
  unfold minOf
  induction xs generalizing x with
  | nil => exact List.mem_cons_self
  | cons y ys ih =>
    rw [List.foldl_cons]
    have q := ih (if DatumOrd.lt y x = true then y else x)
    rcases List.mem_cons.mp q with e | h
    · rw [e]
      split
      · exact List.mem_cons_of_mem _ List.mem_cons_self
      · exact List.mem_cons_self
    · exact List.mem_cons_of_mem _ (List.mem_cons_of_mem _ h)
/-- nothing is less -/
theorem minOf_least {α : Type} [DecidableEq α] [DatumOrd α] (tr : ∀ a b c : α, DatumOrd.lt a b = false → DatumOrd.lt b c = false → DatumOrd.lt a c = false) (ir : ∀ a : α, DatumOrd.lt a a = false) (as : ∀ a b : α, DatumOrd.lt a b = true → DatumOrd.lt b a = false) (x : α) : ∀ xs : List α, ∀ y ∈ x :: xs, DatumOrd.lt y (minOf x xs) = false := by
  intro xs
  unfold minOf
  induction xs generalizing x with
  | nil =>
    intro y hy
    rw [List.mem_singleton.mp hy]
    exact ir x
  | cons z zs ih =>
    intro y hy
    rw [List.foldl_cons]
    have q := ih (if DatumOrd.lt z x = true then z else x)
    have h0 := q _ List.mem_cons_self
    rcases List.mem_cons.mp hy with e | hy
    · rw [e]
      by_cases h : DatumOrd.lt z x = true
      · rw [if_pos h] at h0 ⊢
        exact tr _ _ _ (as _ _ h) h0
      · rw [if_neg h] at h0 ⊢
        exact h0
    · rcases List.mem_cons.mp hy with e | hy
      · rw [e]
        by_cases h : DatumOrd.lt z x = true
        · rw [if_pos h] at h0 ⊢
          exact h0
        · rw [if_neg h] at h0 ⊢
          exact tr _ _ _ (by simpa using h) h0
      · exact q y (List.mem_cons_of_mem _ hy)
end
end Sc
namespace Sc
open PySem L2 NdefX
/-! #### bodies whose end is told by G -/
section
variable {X : Cx} {T : List NTab} {δ δ1 δ2 δ3 : List Sl} {e : Expr} {p pos : Pos} {W : WX} {G : Out → Prop}
def EP (X : Cx) (T : List NTab) (W : WX) (f : Bool) (st : List Stmt) (δ : List Sl) (G : Out → Prop) : Prop := ∃ of, SVs X T W st δ of ∧ G of ∧ (f = true → of.stops)
def EQ (X : Cx) (T : List NTab) (W : WX) (f : Bool) (st rest : List Stmt) (δ : List Sl) (G : Out → Prop) : Prop := ∃ of, Then X T W st rest δ of ∧ G of ∧ (f = true → of.stops)
theorem ep_ret {f : Bool} {rest : List Stmt} {r : Sl} (h : EV X T e δ r δ1) (g : G (.ret r δ1)) : EP X T W f (.Return (some e) pos :: rest) δ G := ⟨_, svs_stop (sv_ret h), g, fun _ => trivial⟩
theorem ep_nil (g : G (.nx δ)) : EP X T W false [] δ G := ⟨_, svs_nil, g, fun h => nomatch h⟩
theorem ep_cons {f : Bool} {st : Stmt} {rest : List Stmt} (h : SV X T W st δ (.nx δ1)) (hs : EP X T W f rest δ1 G) : EP X T W f (st :: rest) δ G := let ⟨of, h1, h2, h3⟩ := hs; ⟨of, svs_cons h h1, h2, h3⟩
theorem ep_out {f : Bool} {st : Stmt} {rest : List Stmt} {o : Out} (h : SV X T W st δ o) (ho : o.stops) (g : G o) : EP X T W f (st :: rest) δ G := ⟨_, svs_stop h ho, g, fun _ => ho⟩
theorem ep_if {f t : Bool} {c : Expr} {a b rest : List Stmt} (hc : TV X T c δ t δ1) (ha : t = true → EQ X T W f a rest δ1 G) (hb : t = false → EQ X T W f b rest δ1 G) : EP X T W f (.If c a b pos :: rest) δ G := by
  cases t with
  | true =>
    obtain ⟨of, h1, h2, h3⟩ := ha rfl
    exact ⟨of, svs_if hc (fun _ => h1) (fun h => nomatch h), h2, h3⟩
  | false =>
    obtain ⟨of, h1, h2, h3⟩ := hb rfl
    exact ⟨of, svs_if hc (fun h => nomatch h) (fun _ => h1), h2, h3⟩
theorem eq_stop {f : Bool} {a rest : List Stmt} (h : EP X T W true a δ G) : EQ X T W f a rest δ G := let ⟨of, h1, h2, h3⟩ := h; ⟨of, .stop h1 (h3 rfl), h2, fun _ => h3 rfl⟩
theorem eq_go {f : Bool} {a rest : List Stmt} (h : SVs X T W a δ (.nx δ1)) (hs : EP X T W f rest δ1 G) : EQ X T W f a rest δ G := let ⟨of, h1, h2, h3⟩ := hs; ⟨of, .go h h1, h2, h3⟩
theorem eq_nil {f : Bool} {rest : List Stmt} (hs : EP X T W f rest δ G) : EQ X T W f [] rest δ G := eq_go svs_nil hs
theorem EP.svs {f : Bool} {st : List Stmt} {o : Out} (h : EP X T W f st δ (· = o)) : SVs X T W st δ o := let ⟨of, h1, h2, _⟩ := h; h2 ▸ h1
end
/-! #### a list is lent and changed -/
/-- what a def gives that changes the list it is lent: a as it was, f a ds the answer and as it is -/
def LendR {α : Type} (en : α → List PyData) (n : Nat) (dom : α → List PyData → Prop) (f : α → List PyData → PyData × α) : List Sl → Out → Prop := fun δ o => ∃ (a : α) (ds : List PyData), ds.length = n ∧ dom a ds ∧ δ = .b (.lst (en a)) :: ds.map .d ∧ o = .ret (.d (f a ds).1) (.b (.lst (en (f a ds).2)) :: ds.map .d)
theorem outs_lend {w w' : Ow} {ds : List PyData} {δf : List Sl} (h : δf[0]? = some (.b w')) : Outs (.b w :: ds.map .d) δf (.b w' :: ds.map .d) := by
  refine ⟨rfl, fun i u e => ?_, fun i s e hs => ?_, fun i u e => ?_⟩
  · cases i with
    | zero => exact ⟨w', h, rfl⟩
    | succ i =>
      have q : (ds.map Sl.d)[i]? = some (.b u) := by simpa using e
      have z := data_own _ (List.mem_of_getElem? q)
      cases z
  · cases i with
    | zero =>
      cases e
      cases hs
    | succ i => simpa using e
  · cases i with
    | zero => cases e
    | succ i =>
      have q : (ds.map Sl.d)[i]? = some (.o u) := by simpa using e
      have z := data_own _ (List.mem_of_getElem? q)
      cases z
section
variable {P : Program} {w : World} {K : PySem.W.Frag} {mg : Str → Option Value} {base : Heap} {T : List NTab}
theorem def_lend {α : Type} {en : α → List PyData} {x : Str} {st : Stmt} {N ps : List Str} {k n : Nat} {dom : α → List PyData → Prop} {f : α → List PyData → PyData × α} (S : Txt K mg x st []) (Sc : FnScope N ps (defScope st)) (hn : ps.length = n + 1)
    (bd : ∀ (kV doc pm : Value) (an : Option Addr) (cdv ct : Value) (us : List Value), us.length = ps.length → bindArgs (PySem.W.fnOf x x (defArgs st) (defBody st) (defScope st) .none kV doc pm an cdv ct) ⟨us, []⟩ = pure (ps.zip us))
    (hb : ∀ (fa : Addr) (cdv : Value) (A : Around) (outer : List PySem.Env) (s : Shared) (H : Hp) (E : XK), Cok (cxOf (L2.CX P w) P w K mg base N x (defScope st) fa cdv A outer s H E) (fun cls d _ H => E cls d H) k → ∀ (a : α) (ds : List PyData), ds.length = n → dom a ds →
      EP (cxOf (L2.CX P w) P w K mg base N x (defScope st) fa cdv A outer s H E) T (fun cls d _ H => E cls d H) true (defBody st) ((.b (.lst (en a)) :: ds.map .d) ++ List.replicate (N.length - (n + 1)) .no) fun of => ∃ δf, of = .ret (.d (f a ds).1) δf ∧ δf[0]? = some (.b (.lst (en (f a ds).2)))) : Def P w K mg base T (k + 1) x [] (LendR en n dom f) := by
  refine def_gen S Sc hn (fun δ o ⟨a, ds, h1, _, h3, _⟩ => by rw [h3, List.length_cons, List.length_map, h1]) bd fun fa cdv A outer s H E C δ o ⟨a, ds, h1, h2, h3, h4⟩ => ?_
  subst h3 h4
  obtain ⟨of, h5, ⟨δf, rfl, h6⟩, _⟩ := hb fa cdv A outer s H E C a ds h1 h2
  exact ⟨_, h5, .ret (outs_lend h6)⟩
end
section
variable {X : Cx} {T : List NTab} {δ δ1 : List Sl} {k : Nat} {x : Str} {e : Expr} {es : List Expr} {p pos : Pos}
/-- .. called -/
theorem ev_cl {α : Type} {en : α → List PyData} {n : Nat} {dom : α → List PyData → Prop} {f : α → List PyData → PyData × α} {a : α} {xs : List PyData} {i : Nat} {s : Sl} {rs : List Ar} (D : Def X.prog X.w X.K X.mg X.base T k x [] (LendR en n dom f)) (hr : Room k X.A) (ha : AL X T (e :: es) δ rs δ1) (hd : dom a xs) (hs : δ1[i]? = some s) (hw : s.ow = some (.lst (en a))) (hrs : rs = .lend i :: xs.map fun d => .r (.d d) := by rfl) (hn : xs.length = n := by rfl)
    (hg : Gl X x := by rfl) (hdb : (x == ("__debug__" : Str)) = false := by decide) (he : starEach (e :: es) X.env = (false, eval e X.env) :: starEach es X.env := by rfl) (hpl : (backTo pos (starEach es X.env)).any (·.1) = false := by rfl) : EV X T (.Call (.Name x p) (e :: es) [] pos) δ (.d (f a xs).1) (δ1.set i (s.put (.lst (en (f a xs).2)))) := by
  have sd : ∀ xs : List PyData, (xs.map fun d => Ar.r (.d d)).map (arSl δ1) = xs.map Sl.d := fun xs => by
    rw [List.map_map]
    rfl
  have e1 : rs.map (arSl δ1) ++ ([] : List PyData).map Sl.d = .b (.lst (en a)) :: xs.map .d := by
    rw [hrs, List.map_nil, List.append_nil, List.map_cons, sd]
    show arSl δ1 (.lend i) :: _ = _
    have q : arSl δ1 (.lend i) = .b (.lst (en a)) := by
      unfold arSl
      simp only [hs, hw]
    rw [q]
  have hfew : fewLent rs = true := by
    rw [hrs]
    unfold fewLent
    rw [Bool.and_eq_true]
    refine ⟨rfl, ?_⟩
    show ((xs.map fun d => Ar.r (.d d)).all fun b => !b.isLend && b.fine) = true
    rw [List.all_map, List.all_eq_true]
    intro d _
    rfl
  refine ev_c D hr ha (δc := .b (.lst (en (f a xs).2)) :: xs.map .d) ⟨a, xs, hn, hd, e1, rfl⟩ (bk_one (j := 0) hfew (by rw [hrs]; rfl) hs (by rw [hw]; rfl) rfl) hfew hg hdb he hpl
theorem EV.cast {r r' : Sl} {δ2 : List Sl} (h : EV X T e δ r δ1) (hr : r = r') (hd : δ1 = δ2) : EV X T e δ r' δ2 := hr ▸ hd ▸ h
theorem IV.eq {tg iter : Expr} {ds ds' : List PyData} (h : IV X T tg iter δ (.fix ds) δ1) (e : ds = ds') : IV X T tg iter δ (.fix ds') δ1 := e ▸ h
end
end Sc
namespace Sc
open PySem L2 NdefX
section
variable {X : Cx} {T : List NTab} {K : PySem.W.Frag} {H H' : Hp} {S S' : Addr → Prop} {σ : St} {δ δ1 δ2 : List Sl} {W : WX} {vs : List Nat}
/-- slots are forgotten -/
theorem Env.drops (E : Env K T H S σ δ) : ∀ vs : List Nat, Env K T H S σ (wipeD δ vs)
  | [] => E
  | v :: vs => (Env.drops E vs).drop v
theorem own_drops {q : Addr} : ∀ {vs : List Nat}, Owned σ (wipeD δ vs) q → Owned σ δ q
  | [], h => h
  | v :: vs, h => own_drops (vs := vs) (own_drop rfl h)
theorem pin_drops {σ1 : L2.St} (p : Pin σ δ σ1 δ1) (h : (vs.all fun i => match δ1[i]? with | some (.b _) => false | _ => true) = true) : Pin σ δ σ1 (wipeD δ1 vs) := fun i w e => by
  obtain ⟨a, w', b⟩ := p i w e
  have n : i ∉ vs := fun z => by
    have q := List.all_eq_true.mp h i z
    rw [b] at q
    cases q
  exact ⟨a, w', by rw [wipeD_out n]; exact b⟩
theorem svs_wipe {st : List Stmt} (vs : List Nat) (h : SVs X T W st δ (.nx δ1)) (hb : (vs.all fun i => match δ1[i]? with | some (.b _) => false | _ => true) = true := by rfl) : SVs X T W st δ (.nx (wipeD δ1 vs)) := fun σ H S D E k =>
  h σ H S D E fun σ1 H1 S1 g1 e1 p1 => k σ1 H1 S1 ⟨g1.mono, g1.keep, g1.up, fun a ha => g1.ow a (own_drops ha)⟩ (e1.drops vs) (pin_drops p1 hb)
theorem SVs.eq {st : List Stmt} (h : SVs X T W st δ (.nx δ1)) (e : δ1 = δ2) : SVs X T W st δ (.nx δ2) := e ▸ h
theorem SV.eq {st : Stmt} (h : SV X T W st δ (.nx δ1)) (e : δ1 = δ2) : SV X T W st δ (.nx δ2) := e ▸ h
/-- an owned list is never changed again -/
theorem Env.hold (E : Env K T H S σ δ) {i : Nat} {xs : List PyData} (hi : δ[i]? = some (.o (.lst xs))) : ∃ S', Go H S (Owned σ δ) H S' (Owned σ (δ.set i (.d (.list xs)))) ∧ Env K T H S' σ (δ.set i (.d (.list xs))) := by
  obtain ⟨p, e, vs, ho, hd⟩ := E.own i _ _ hi rfl
  have hl : i < δ.length := (List.getElem?_eq_some_iff.mp hi).1
  have hP : Owned σ δ p := ⟨i, _, _, hi, rfl, e⟩
  have m : Same (vw H S) (vw H fun a => S a ∧ a ≠ p) := fun a u e => by
    obtain ⟨h1, w, h2, h3⟩ := vw_some e
    rw [vw_out fun z => h1 z.1, h2]
    exact h3
  have nP : ∀ q, Owned σ (δ.set i (.d (.list xs))) q → Owned σ δ q ∧ q ≠ p := fun q h => by
    refine ⟨own_drop rfl h, ?_⟩
    rintro rfl
    obtain ⟨j, t, u, h1, h2, h3⟩ := h
    by_cases ej : i = j
    · subst ej
      rw [List.getElem?_set_self hl] at h1
      cases h1
      cases h2
    · rw [List.getElem?_set_ne ej] at h1
      exact E.apart i j _ _ _ _ _ ej hi rfl h1 h2 e h3
  have E0 := (E.drop i).move (S' := fun a => S a ∧ a ≠ p) m (fun _ _ => rfl) (fun q hq => ⟨E.sub q (own_drop rfl hq), fun z => by
    subst z
    obtain ⟨j, t, u, h1, h2, h3⟩ := hq
    by_cases ej : i = j
    · subst ej
      rw [List.getElem?_set_self hl] at h1
      cases h1
      cases h2
    · rw [List.getElem?_set_ne ej] at h1
      exact E.apart i j _ _ _ _ _ ej hi rfl h1 h2 e h3⟩) E.tabs
  have r : Res K H (Owned σ δ) H (fun a => S a ∧ a ≠ p) (Owned σ (δ.set i .no)) (.d (.list xs)) (.ref p) := .lst (.inl (.inl (by rw [vw_out fun z => z.2 rfl, ho]; rfl))) (dpAll_mono m hd)
  have E1 := E0.set (i := i) r
  have eσ : σ.set i (some (.ref p)) = σ := by
    refine List.ext_getElem? fun j => ?_
    by_cases ej : i = j
    · subst ej
      rw [List.getElem?_set_self (by rw [E.len]; exact hl), e]
    · rw [List.getElem?_set_ne ej]
  rw [eσ, List.set_set] at E1
  exact ⟨_, ⟨m, fun _ _ _ e _ => e, fun a h1 h2 _ => ⟨h1, fun z => h2 (z ▸ hP)⟩, fun a h => .inl (nP a h).1⟩, E1⟩
theorem svs_hold {st : List Stmt} {o : Out} (i : Nat) {xs : List PyData} (h : SVs X T W st (δ.set i (.d (.list xs))) o) (hi : δ[i]? = some (.o (.lst xs)) := by rfl) : SVs X T W st δ o := fun σ H S D E k => by
  obtain ⟨S1, g, e⟩ := E.hold hi
  exact h σ H S1 D e (k.after g (pin_drop hi trivial))
theorem ep_hold {f : Bool} {st : List Stmt} {G : Out → Prop} (i : Nat) {xs : List PyData} (h : EP X T W f st (δ.set i (.d (.list xs))) G) (hi : δ[i]? = some (.o (.lst xs)) := by rfl) : EP X T W f st δ G := let ⟨of, h1, h2, h3⟩ := h; ⟨of, svs_hold i h1 hi, h2, h3⟩
theorem ea_hold {f : Bool} {st : List Stmt} {a : An} (i : Nat) {xs : List PyData} (h : EA X T W f st (δ.set i (.d (.list xs))) a) (hi : δ[i]? = some (.o (.lst xs)) := by rfl) : EA X T W f st δ a := let ⟨of, h1, h2, h3⟩ := h; ⟨of, svs_hold i h1 hi, h2, h3⟩
/-- for, over what does not change -/
theorem sv_forF {tg iter : Expr} {body : List Stmt} {ds : List PyData} {o : Out} {pos : Pos} {k : Nat} (C : Cok X W k) (hi : IV X T tg iter δ (.fix ds) δ1) (h : LoopF X T W tg body ds δ1 o) (hs : ∀ x, foldedSetIterable iter X.env x = pure x := by intro _; rfl) : SV X T W (.For tg iter body [] pos) δ o := sv_for C hi (fun j e => by cases e) h.at hs
end
end Sc
namespace Sc
open PySem PySem.Spec PyProof.Rows L2
/-! #### sets of tuples of texts -/
section
variable {P : Program} {w : World} {A : Around} {E : Value → Shared → Prop} {s : Shared}
/-- at c a tuple of the keys k -/
abbrev Tm (P : Program) (w : World) (h : Heap) (k : List Key) (c : Addr) : Prop := IsTupleKey (mixKind P w) h k c
abbrev hm (P : Program) (w : World) (k : List Key) : Int := tupleKeyHash (mixKind P w) k
theorem tm_items {k : List Key} {us : List Value} (h : ItemsAre (mixKind P w) k us) : ∀ u ∈ us, (∃ i t, u = .int i t) ∨ ∃ x t, u = .str x t := by
  induction h with
  | nil => intro u hu; cases hu
  | cons h1 _ ih =>
    intro u hu
    rcases List.mem_cons.mp hu with e | hu
    · rw [e]
      rcases keyIs_shape h1 with ⟨i, t, _, q⟩ | ⟨x, t, _, q⟩
      · exact .inl ⟨i, t, q⟩
      · exact .inr ⟨x, t, q⟩
    · exact ih u hu
theorem plain_cls (n : Nat) {u : Value} (h : (∃ i t, u = .int i t) ∨ ∃ x t, u = .str x t) : ofAClassStatement n u = pure false := by
  rcases h with ⟨i, t, rfl⟩ | ⟨x, t, rfl⟩ <;> cases n <;> rfl
theorem plain_byv (n : Nat) {u : Value} (h : (∃ i t, u = .int i t) ∨ ∃ x t, u = .str x t) : ∃ b, hashByValue n u = pure b := by
  rcases h with ⟨i, t, rfl⟩ | ⟨x, t, rfl⟩ <;> cases n <;> exact ⟨_, rfl⟩
theorem tm_cls {k : List Key} {c : Addr} {Q : Bool → Shared → Prop} (hk : Tm P w s.heap k c) (q : Q false s) : wpAny (model P w) A (ofAClassStatement 8 (.ref c)) Q E s := by
  have ty := hk.typeIs
  obtain ⟨o, its, n, ho, _, hd, hi⟩ := hk
  unfold ofAClassStatement
  refine wpAny_bind (wpAny_typeOf ty ?_)
  dsimp only
  simp only [show (("tuple" : String) == "tuple") = true from by decide, if_true, Bool.not_true, Bool.false_eq_true, if_false]
  try refine wpAny_bind (wpAny_pure ?_)
  try simp only [Bool.not_true, Bool.false_eq_true, if_false]
  show wpAny (model P w) A (seqItems? (.ref c) >>= _) Q E s
  refine wpAny_bind (wpAny_seqItems ho hd ?_)
  dsimp only
  refine wpAny_bind ?_
  show wpAny (model P w) A (forIn its _ _) _ E s
  rw [← Array.forIn_toList]
  refine wpAny_forIn_list _ (fun left r s' => (r.1 = none ∧ s' = s) ∧ ∀ u ∈ left, (∃ i t, u = Value.int i t) ∨ ∃ x t, u = Value.str x t) _ ?_ ?_ _ _ ⟨⟨rfl, rfl⟩, tm_items hi⟩
  · rintro u left r s' ⟨⟨hr, rfl⟩, all⟩
    rw [plain_cls _ (all u List.mem_cons_self)]
    refine wpAny_bind (wpAny_pure ?_)
    simp only [Bool.false_eq_true, if_false]
    exact wpAny_pure ⟨⟨rfl, rfl⟩, fun y hy => all y (List.mem_cons_of_mem _ hy)⟩
  · rintro ⟨r1, r2⟩ s' ⟨⟨hr, rfl⟩, _⟩
    have hr' : r1 = none := hr
    subst hr'
    exact wpAny_pure q
theorem tm_byv {k : List Key} {c : Addr} {Q : Bool → Shared → Prop} (hk : Tm P w s.heap k c) (q : ∀ b, Q b s) : wpAny (model P w) A (hashByValue 8 (.ref c)) Q E s := by
  have ty := hk.typeIs
  obtain ⟨o, its, n, ho, _, hd, hi⟩ := hk
  unfold hashByValue
  refine wpAny_bind (wpAny_specialOf ty F.slot_tuple_hash.lookup ?_)
  show wpAny (model P w) A (seqItems? (.ref c) >>= _) Q E s
  refine wpAny_bind (wpAny_seqItems ho hd ?_)
  refine wpAny_bind ?_
  show wpAny (model P w) A (forIn its _ _) _ E s
  rw [← Array.forIn_toList]
  refine wpAny_forIn_list _ (fun left r s' => ((r.1 = none ∨ ∃ b, r.1 = some b) ∧ s' = s) ∧ ∀ u ∈ left, (∃ i t, u = Value.int i t) ∨ ∃ x t, u = Value.str x t) _ ?_ ?_ _ _ ⟨⟨.inl rfl, rfl⟩, tm_items hi⟩
  · rintro u left r s' ⟨⟨hr, rfl⟩, all⟩
    obtain ⟨b, hb⟩ := plain_byv 7 (all u List.mem_cons_self)
    rw [hb]
    refine wpAny_bind (wpAny_pure ?_)
    cases b with
    | true =>
      simp only [Bool.not_true, Bool.false_eq_true, if_false]
      exact wpAny_pure ⟨⟨.inl rfl, rfl⟩, fun y hy => all y (List.mem_cons_of_mem _ hy)⟩
    | false =>
      simp only [Bool.not_false, if_true]
      exact wpAny_pure (wpAny_pure (q false))
  · rintro ⟨r1, r2⟩ s' ⟨⟨hr, rfl⟩, _⟩
    rcases hr with hr | ⟨b, hr⟩
    · have hr' : r1 = none := hr
      subst hr'
      exact wpAny_pure (q true)
    · have hr' : r1 = some b := hr
      subst hr'
      exact wpAny_pure (q b)
theorem tm_seen {k : List Key} {c : Addr} {Q : Bool → Shared → Prop} (hk : Tm P w s.heap k c) {ys : List Value} (hy : ∀ y ∈ ys, ∃ j d, y = Value.ref d ∧ Tm P w s.heap j d) (q : Q false s) : wpAny (model P w) A (searchCouldBeSeen (.ref c) ys) Q E s := by
  unfold searchCouldBeSeen
  refine wpAny_bind (wpAny_forIn_list _ (fun left r s' => (r.1 = none ∧ s' = s) ∧ ∀ y ∈ left, ∃ j d, y = Value.ref d ∧ Tm P w s.heap j d) _ ?_ ?_ _ _ ⟨⟨rfl, rfl⟩, hy⟩)
  · rintro u left r s' ⟨⟨hr, rfl⟩, all⟩
    obtain ⟨j, d, rfl, hd⟩ := all u List.mem_cons_self
    have more : ∀ y ∈ left, ∃ j d, y = Value.ref d ∧ Tm P w s'.heap j d := fun y hy => all y (List.mem_cons_of_mem _ hy)
    dsimp only
    rcases Bool.eq_false_or_eq_true (c == d || (carriedByValue (.ref c) && carriedByValue (.ref d))) with hv | hv
    · exact wp_if_pos hv (wpAny_pure ⟨⟨rfl, rfl⟩, more⟩)
    · refine wp_if_neg (by rw [hv]; exact Bool.false_ne_true) (wpAny_bind (wpAny_eqIsQuiet_tuple hk ?_))
      simp only [Bool.not_true, Bool.false_eq_true, if_false]
      refine wpAny_bind (wpAny_eqIsQuiet_tuple hd ?_)
      simp only [Bool.not_true, Bool.false_eq_true, if_false]
      refine wpAny_bind (tm_cls hk ?_)
      simp only [Bool.false_eq_true, if_false]
      refine wpAny_bind (tm_cls hd ?_)
      simp only [Bool.false_eq_true, if_false]
      exact wpAny_pure ⟨⟨rfl, rfl⟩, more⟩
  · rintro ⟨r1, r2⟩ s' ⟨⟨hr, rfl⟩, _⟩
    have hr' : r1 = none := hr
    subst hr'
    exact wpAny_pure q
/-! the set itself -/
abbrev Pl : Type := Addr × List Key
def entsOf (P : Program) (w : World) (L : List Pl) : List (Int × Value) := L.map fun p => (hm P w p.2, .ref p.1)
structure Held (P : Program) (w : World) (h : Heap) (a : Addr) (L : List Pl) (es : Array (Int × Value)) (ep : Nat) (t : SetTable) : Prop where
  at_ : ∃ o, h.get? a = some o ∧ o.ExactSet ∧ o.data = .set es ep t
  ents : es.toList = entsOf P w L
  tab : TabOk t (L.map fun p => hm P w p.2)
  diff : (L.map (·.2)).Nodup
  tups : ∀ p ∈ L, Tm P w h p.2 p.1
  room : L.length * 5 < t.mask * 3
  few : L.length < 64
variable {a : Addr} {L : List Pl} {es : Array (Int × Value)} {ep : Nat} {t : SetTable}
theorem ents_len (h : es.toList = entsOf P w L) : es.size = L.length := by
  rw [← Array.length_toList, h, entsOf, List.length_map]
theorem ents_at (h : es.toList = entsOf P w L) {i : Nat} {p : Pl} (hp : L[i]? = some p) : es[i]? = some (hm P w p.2, .ref p.1) := by
  rw [← Array.getElem?_toList, h, entsOf, List.getElem?_map, hp]
  rfl
theorem Held.fits (R : Held P w s.heap a L es ep t) : t.fits es.size = true := by
  have e1 := R.tab.sz
  rw [List.length_map] at e1
  have e2 := ents_len R.ents
  have e3 := R.room
  show (t.place.size == es.size && decide (t.place.size + t.dummies.size ≤ t.mask)) = true
  rw [R.tab.dm, Bool.and_eq_true, beq_iff_eq, decide_eq_true_eq]
  refine ⟨by omega, ?_⟩
  show t.place.size + 0 ≤ t.mask
  omega
theorem nth_plain (m : Nat) : ∀ (n : Nat) (p : SetTable.Probe), p.dummy = none → (nth m p n).dummy = none
  | 0, _, h => h
  | n + 1, p, h => nth_plain m n (adv m p) (by unfold adv; split <;> exact h)
/-- the search: from the c-th step on -/
theorem seek (R : Held P w s.heap a L es ep t) {x : Addr} {k : List Key} (hx : Tm P w s.heap k x) (hu : A.units < cLine) {N : Nat} (hN : N < 10 * SetTable.turns t.mask) (empty : way t.mask (hm P w k) N ∉ t.place.toList) (full : ∀ c, c < N → way t.mask (hm P w k) c ∈ t.place.toList) {Q : SetFound → Shared → Prop}
    (yes : k ∈ L.map (·.2) → Q (.there none) s) (no : k ∉ L.map (·.2) → Q (.free (way t.mask (hm P w k) N) false) s) :
    ∀ (f c : Nat) (from_ : Option SetTable.Probe), from_.getD (t.probeStart (hm P w k)) = nth t.mask (t.probeStart (hm P w k)) c → c ≤ N → N < f + c →
      (∀ (i : Nat) (p : Pl), L[i]? = some p → p.2 = k → ∃ d, c ≤ d ∧ d < N ∧ t.place.toList[i]? = some (way t.mask (hm P w k) d)) → wpAny (model P w) A (setSearchFrom a (.ref x) (hm P w k) true f from_) Q E s := by
  obtain ⟨o, ho, _, hd⟩ := R.at_
  have st0 : t.probeStart (hm P w k) = runAt t.mask (SetTable.bits (hm P w k) % (t.mask + 1)) (SetTable.bits (hm P w k)) := rfl
  have wayj : ∀ c, (nth t.mask (t.probeStart (hm P w k)) c).j = way t.mask (hm P w k) c := fun c => rfl
  have hashes : ∀ (i : Nat) (p : Pl), L[i]? = some p → (es[i]?.map (·.1)).getD 0 = hm P w p.2 := fun i p hp => by rw [ents_at R.ents hp]; rfl
  intro f
  induction f with
  | zero => intro c from_ _ h1 h2; omega
  | succ f ih =>
    intro c from_ hfrom hc hf ahead
    rw [setSearchFrom_succ]
    refine wpAny_bind (wpAny_setState_of ho hd R.fits ?_)
    dsimp only
    refine wp_if_neg (by rw [SetTable.gaveWay, mask_odd R.tab.mok]; decide) ?_
    try refine wpAny_bind (wpAny_pure ?_)
    have step : ∀ q, nth t.mask (nth t.mask (t.probeStart (hm P w k)) c) q = nth t.mask (t.probeStart (hm P w k)) (c + q) := fun q => (nth_add t.mask c _ q).symm
    have spec := go_spec t R.tab.ris R.tab.dm (fun i => (es[i]?.map (·.1)).getD 0) (hm P w k) (10 * SetTable.turns t.mask) (N - c) (nth t.mask (t.probeStart (hm P w k)) c) (nth_plain _ _ _ rfl) (by omega)
      (fun q hq => by rw [step, wayj]; exact full _ (by omega)) (by rw [step, wayj, Nat.add_sub_cancel' hc]; exact empty)
    rcases spec with ⟨q, i, hq, hi, hh, first, hp⟩ | ⟨none_, hp⟩
    · rw [step, wayj] at hi
      rw [step, step, wayj] at hp
      have hp' : t.probe (fun i => (es[i]?.map (·.1)).getD 0) (hm P w k) (from_.getD (t.probeStart (hm P w k))) = some (.candidate (way t.mask (hm P w k) (c + q)) i (nth t.mask (t.probeStart (hm P w k)) (c + (q + 1)))) := by
        rw [hfrom]
        exact hp
      rw [hp']
      dsimp only
      have hil : i < L.length := by
        have z := R.tab.sz
        rw [List.length_map, ← Array.length_toList] at z
        rw [← z]
        exact (List.getElem?_eq_some_iff.mp hi).1
      obtain ⟨p, hpi⟩ : ∃ p, L[i]? = some p := ⟨L[i], List.getElem?_eq_getElem hil⟩
      have hpm := List.mem_of_getElem? hpi
      have behind : wpAny (model P w) A (searchRest a (.ref x) (hm P w k) true f es t (way t.mask (hm P w k) (c + q)) i (nth t.mask (t.probeStart (hm P w k)) (c + (q + 1)))) Q E s := by
        unfold searchRest
        rw [ents_at R.ents hpi]
        dsimp only
        refine wpAny_bind (wpAny_holding (wpAny_eqBool_tuple hu (R.tups p hpm) hx (wpAny_bind (wpAny_setState_of ho hd R.fits ?_))))
        dsimp only
        by_cases same : p.2 = k
        · exact wp_if_pos (by rw [decide_eq_true same]; rfl) (wpAny_pure (yes (List.mem_map.mpr ⟨p, hpm, same⟩)))
        · have other : decide (p.2 = k) = false := decide_eq_false same
          refine wp_if_neg (by rw [other]; decide) ?_
          try refine wpAny_bind (wpAny_pure ?_)
          rw [sameMem]
          dsimp only
          have slot := slot_live R.tab.ris hi
          simp only [if_true, slot, ents_at R.ents hpi]
          refine wpAny_bind (wpAny_isSame_ref_self (wpAny_bind (wpAny_pure ?_)))
          simp only [if_true]
          refine wp_if_neg (by rw [other]; decide) (ih (c + (q + 1)) (some _) rfl (by omega) (by omega) fun i0 p0 h0 hk0 => ?_)
          obtain ⟨d, d1, d2, d3⟩ := ahead i0 p0 h0 hk0
          refine ⟨d, ?_, d2, d3⟩
          rcases Nat.lt_trichotomy d (c + q) with lt | eq | gt
          · refine (first (d - c) i0 (by omega) ?_ ?_).elim
            · rw [step, wayj, Nat.add_sub_cancel' d1]
              exact d3
            · exact (hashes i0 p0 h0).trans (by rw [hk0])
          · rw [eq] at d3
            have slot2 := slot_live R.tab.ris d3
            rw [slot] at slot2
            injection slot2 with e
            rw [← e, hpi] at h0
            cases h0
            exact (same hk0).elim
          · omega
      rcases Bool.eq_false_or_eq_true t.led with led | led
      · refine wp_if_neg (by rw [led]; decide) ?_
        try refine wpAny_bind (wpAny_pure ?_)
        exact behind
      · refine wp_if_pos (by rw [led]; rfl) (wpAny_bind (tm_seen hx (fun y hy => ?_) ?_))
        · obtain ⟨e, he, rfl⟩ := List.mem_map.mp hy
          have he2 : e ∈ es.toList := by
            have : e ∈ es ∧ e.1 = hm P w k := by simpa using he
            simpa using this.1
          rw [R.ents] at he2
          obtain ⟨p2, hp2, rfl⟩ := List.mem_map.mp he2
          exact ⟨p2.2, p2.1, rfl, R.tups p2 hp2⟩
        · refine wp_if_neg (by decide) ?_
          try refine wpAny_bind (wpAny_pure ?_)
          exact behind
    · rw [step, wayj, Nat.add_sub_cancel' hc] at hp
      have hp' : t.probe (fun i => (es[i]?.map (·.1)).getD 0) (hm P w k) (from_.getD (t.probeStart (hm P w k))) = some (.empty (way t.mask (hm P w k) N) none) := by
        rw [hfrom]
        exact hp
      rw [hp']
      dsimp only
      refine wpAny_pure (no fun mem => ?_)
      obtain ⟨p0, h0, hk0⟩ := List.mem_map.mp mem
      obtain ⟨i0, hi0, e0⟩ := List.getElem_of_mem h0
      have at0 : L[i0]? = some p0 := by rw [List.getElem?_eq_getElem hi0, e0]
      obtain ⟨d, d1, d2, d3⟩ := ahead i0 p0 at0 hk0
      refine none_ (d - c) i0 (by omega) ?_ ?_
      · rw [step, wayj, Nat.add_sub_cancel' d1]
        exact d3
      · exact (hashes i0 p0 at0).trans (by rw [hk0])
end
end Sc
namespace Sc
open PySem PySem.Spec PyProof.Rows L2
section
variable {P : Program} {w : World} {A : Around} {E : Value → Shared → Prop} {s : Shared} {a : Addr} {L : List Pl} {es : Array (Int × Value)} {ep : Nat} {t : SetTable}
theorem seek_all (R : Held P w s.heap a L es ep t) {x : Addr} {k : List Key} (hx : Tm P w s.heap k x) (hu : A.units < cLine) {Q : SetFound → Shared → Prop} (yes : k ∈ L.map (·.2) → Q (.there none) s)
    (no : ∀ N, k ∉ L.map (·.2) → way t.mask (hm P w k) N ∉ t.place.toList → (∀ c, c < N → way t.mask (hm P w k) c ∈ t.place.toList) → Q (.free (way t.mask (hm P w k) N) false) s) : wpAny (model P w) A (setSearch a (.ref x) (hm P w k) true) Q E s := by
  have room := R.room
  have sz := R.tab.sz
  rw [List.length_map] at sz
  obtain ⟨N, h1, h2, h3⟩ := R.tab.first (by rw [List.length_map]; omega) (hm P w k)
  have turns : SetTable.turns t.mask ≤ 142 := by
    unfold SetTable.turns
    rcases R.tab.mok with e | e | e <;> omega
  unfold setSearch
  refine seek R hx hu h1 h2 h3 yes (fun n => no N n h2 h3) 100000 0 none rfl (Nat.zero_le _) (by omega) fun i p hp hk => ?_
  have hl : i < t.place.toList.length := by
    rw [Array.length_toList, sz]
    exact (List.getElem?_eq_some_iff.mp hp).1
  obtain ⟨d, hd, e⟩ := R.tab.before h2 (i := i) (by rw [List.getElem?_map, hp, ← hk]; rfl) (List.getElem?_eq_getElem hl)
  exact ⟨d, Nat.zero_le _, hd, by rw [e]; exact List.getElem?_eq_getElem hl⟩
theorem tm_but {h h' : Heap} {k : List Key} {c : Addr} {o : Obj} (hc : Tm P w h k c) (ho : h.get? a = some o) (hd : o.data = .set es ep t) (sb : Heap.SameBut a h h') : Tm P w h' k c := by
  obtain ⟨o', its, n, h1, h2, h3, h4⟩ := hc
  refine ⟨o', its, n, (sb.2 c fun e => ?_).trans h1, h2, h3, h4⟩
  rw [e, ho] at h1
  cases h1
  rw [hd] at h3
  cases h3
theorem tm_keep {h h' : Heap} {k : List Key} {c : Addr} (hc : Tm P w h k c) (kp : ∀ b o, h.get? b = some o → h'.get? b = some o) : Tm P w h' k c := by
  obtain ⟨o', its, n, h1, h2⟩ := hc
  exact ⟨o', its, n, kp _ _ h1, h2⟩
/-- the entries in another order -/
theorem ents_order (order : Array Nat) (hr : es.toList = entsOf P w L) (pm : order.toList.Perm (List.range L.length)) :
    ∃ M : List Pl, (order.filterMap (es[·]?)).toList = entsOf P w M ∧ M.Perm L ∧ (M.map fun p => hm P w p.2) = order.toList.map fun i => (es.map (·.1)).getD i 0 := by
  have sz := ents_len hr
  have build : ∀ l : List Nat, (∀ i ∈ l, i < L.length) → l.filterMap (fun i => es[i]?) = entsOf P w (l.filterMap fun i => L[i]?) ∧ ((l.filterMap fun i => L[i]?).map fun p => hm P w p.2) = l.map fun i => (es.map (·.1)).getD i 0 := by
    intro l
    induction l with
    | nil => exact fun _ => ⟨rfl, rfl⟩
    | cons i l ih =>
      intro hl
      obtain ⟨b1, b2⟩ := ih fun j hj => hl j (List.mem_cons_of_mem _ hj)
      have hi := hl i List.mem_cons_self
      have at1 : L[i]? = some L[i] := List.getElem?_eq_getElem hi
      have at2 := ents_at hr at1
      rw [List.filterMap_cons_some at2, List.filterMap_cons_some at1, b1, List.map_cons, b2, List.map_cons]
      refine ⟨rfl, ?_⟩
      have g : (es.map (·.1)).getD i 0 = hm P w L[i].2 := by
        have : (es.map (·.1))[i]? = some (hm P w L[i].2) := by rw [Array.getElem?_map, at2]; rfl
        simp [Array.getD_eq_getD_getElem?, this]
      rw [g]
  obtain ⟨b1, b2⟩ := build order.toList fun i hi => List.mem_range.mp (pm.mem_iff.mp hi)
  refine ⟨_, by simpa using b1, ?_, b2⟩
  have q := pm.filterMap fun i => L[i]?
  have all : (List.range L.length).filterMap (fun i => L[i]?) = L := List.filterMap_getElem?_range_length L
  rw [all] at q
  exact q
/-- the table laid anew -/
theorem relay {o : Obj} (ho : s.heap.get? a = some o) (ex : o.ExactSet) (hd : o.data = .set es ep t) (hr : es.toList = entsOf P w L) (hs : t.place.size = es.size) (hm0 : t.dummies = #[]) (hfl : es.size ≤ t.mask) (diff : (L.map (·.2)).Nodup) (tups : ∀ p ∈ L, Tm P w s.heap p.2 p.1) (few : L.length < 64) {wanted M : Nat}
    (h1 : SetTable.sizeAbove wanted - 1 = M) (h2 : MaskOk M) (h3 : SetTable.sizeAbove wanted ≤ 128) (h4 : L.length * 5 < M * 3) {Q : Unit → Shared → Prop} (k : ∀ h' L' es' ep' t', Heap.SameBut a s.heap h' → Held P w h' a L' es' ep' t' → L'.Perm L → Q () { s with heap := h' }) : wpAny (model P w) A (setRelay a wanted) Q E s := by
  have sl := ents_len hr
  have fits : t.fits es.size = true := by
    show (t.place.size == es.size && decide (t.place.size + t.dummies.size ≤ t.mask)) = true
    rw [hm0, Bool.and_eq_true, beq_iff_eq, decide_eq_true_eq]
    exact ⟨hs, by show t.place.size + 0 ≤ t.mask; omega⟩
  obtain ⟨t', order, e, pm, tab, mk, _, _, _⟩ := relaid_ok t (hs := es.map (·.1)) (wanted := wanted) h1 h2 (by rw [Array.size_map, sl]; omega)
  rw [Array.size_map, sl] at pm
  obtain ⟨M', r1, r2, r3⟩ := ents_order order hr pm
  rw [← r3] at tab
  have sz2 : (order.filterMap (es[·]?)).size = es.size := by rw [ents_len r1, r2.length_eq, sl]
  rw [setRelay_eq]
  refine wpAny_bind (wpAny_setState_of ho hd fits ?_)
  dsimp only
  refine wp_if_neg (by rw [sizeLine_eq]; omega) ?_
  try refine wpAny_bind (wpAny_pure ?_)
  rw [e]
  dsimp only
  refine wpAny_bind (wp_if_neg (by rw [sz2]; simp) ?_)
  try refine wpAny_bind (wpAny_pure ?_)
  refine wpAny_pure ?_
  dsimp only
  refine wpAny_storeSet_of ho hd ?_ (by rw [sz2, sl, sizeLine_eq]; omega)
  have sb : Heap.SameBut a s.heap (s.heap.update a (Obj.putSet (order.filterMap (es[·]?)) t')) := Heap.SameBut.update ..
  refine k _ M' _ (ep + 1) t' sb ⟨⟨_, store_at ho hd, ⟨ex.1, ex.2.1, ex.2.2⟩, rfl⟩, r1, tab, (r2.map (·.2)).nodup_iff.mpr diff, fun p hp => tm_but (tups p (r2.mem_iff.mp hp)) ho hd sb, ?_, by rw [r2.length_eq]; exact few⟩ r2
  rw [r2.length_eq, mk]
  exact h4
theorem ents_put (n : Nat) (x : Addr) (k : List Key) : entsOf P w (L.take n ++ (x, k) :: L.drop n) = (entsOf P w L).take n ++ (hm P w k, Value.ref x) :: (entsOf P w L).drop n := by
  simp only [entsOf, List.map_append, List.map_cons, List.map_take, List.map_drop]
/-- one more -/
theorem add (R : Held P w s.heap a L es ep t) {x : Addr} {k : List Key} (hx : Tm P w s.heap k x) (hu : A.units < cLine) (few : L.length + 1 < 64) {Q : Bool → Shared → Prop}
    (kk : ∀ b h' L' es' ep' t', Heap.SameBut a s.heap h' → Held P w h' a L' es' ep' t' → (k ∈ L.map (·.2) → L' = L) → (k ∉ L.map (·.2) → L'.Perm ((x, k) :: L)) → Q b { s with heap := h' }) : wpAny (model P w) A (setAddHashed a (.ref x) (hm P w k)) Q E s := by
  obtain ⟨o, ho, ex, hd⟩ := R.at_
  have sl := ents_len R.ents
  have room := R.room
  unfold setAddHashed
  refine wpAny_holding ?_
  rw [show (100000 : Nat) = 99999 + 1 from rfl, setAddHashedIn_succ]
  refine wpAny_bind (wpAny_setState_of ho hd R.fits ?_)
  dsimp only
  refine wp_if_neg (by simp [byScan, Value.scannable]) ?_
  try refine wpAny_bind (wpAny_pure ?_)
  refine wpAny_bind (seek_all R hx hu (fun yes => ?_) fun N no empty full => ?_)
  · dsimp only
    exact wpAny_pure (kk false s.heap L es ep t (Heap.SameBut.refl a s.heap) R (fun _ => rfl) fun n => (n yes).elim)
  dsimp only
  refine wpAny_bind (wpAny_setState_of ho hd R.fits ?_)
  dsimp only
  obtain ⟨p1, p2, p3, p4, p5, p6, p7, p8, p9⟩ := R.tab.put empty full
  generalize t.put (way t.mask (hm P w k) N) = pt at p1 p3 p4 p5 p6 p7 p8 p9 ⊢
  obtain ⟨t1, n⟩ := pt
  dsimp only at p1 p3 p4 p5 p6 p7 p8 p9 ⊢
  rw [← p1] at p2 p3
  clear p1
  have pm := put_perm L n (x, k)
  have len1 : (L.take n ++ (x, k) :: L.drop n).length = L.length + 1 := pm.length_eq
  have ents1 : (SetTable.insertAt es n (hm P w k, Value.ref x)).toList = entsOf P w (L.take n ++ (x, k) :: L.drop n) := by rw [SetTable.toList_insertAt, ents_put, R.ents]
  have tab1 : TabOk t1 ((L.take n ++ (x, k) :: L.drop n).map fun p => hm P w p.2) := by
    rw [List.map_append, List.map_cons, List.map_take, List.map_drop]
    exact p3
  have diff1 : ((L.take n ++ (x, k) :: L.drop n).map (·.2)).Nodup := (pm.map (·.2)).nodup_iff.mpr (List.nodup_cons.mpr ⟨no, R.diff⟩)
  generalize SetTable.insertAt es n (hm P w k, Value.ref x) = es1 at ents1 ⊢
  generalize L.take n ++ (x, k) :: L.drop n = L1 at pm len1 ents1 tab1 diff1
  have es1l : es1.size = L.length + 1 := by rw [ents_len ents1, len1]
  -- whatever the flag
  have rest : ∀ t2 : SetTable, t2.place = t1.place → t2.mask = t1.mask → t2.dummies = t1.dummies → wpAny (model P w) A (do
      storeSet a es1 t2
      if !false && t2.tooFull then setRelay a (SetTable.grown (es.size + 1))
      return true) Q E s := by
    intro t2 q1 q2 q3
    have tab2 : TabOk t2 (L1.map fun p => hm P w p.2) := ⟨by rw [q1]; exact tab1.ris, by rw [q3]; exact tab1.dm, by rw [q1]; exact tab1.sz, by rw [q2]; exact tab1.mok, by rw [q1, q2]; exact tab1.bd, by rw [q1, q2]; exact tab1.reach⟩
    refine wpAny_bind (wpAny_storeSet_of ho hd ?_ (by rw [es1l, sizeLine_eq]; omega))
    have sb : Heap.SameBut a s.heap (s.heap.update a (Obj.putSet es1 t2)) := Heap.SameBut.update ..
    have ho1 := store_at (es' := es1) (t' := t2) ho hd
    generalize s.heap.update a (Obj.putSet es1 t2) = h1 at sb ho1 ⊢
    have tups1 : ∀ p ∈ L1, Tm P w h1 p.2 p.1 := fun p hp => by
      rcases List.mem_cons.mp (pm.mem_iff.mp hp) with e | hp
      · rw [e]
        exact tm_but hx ho hd sb
      · exact tm_but (R.tups p hp) ho hd sb
    have fill : t2.fill = L.length + 1 := by
      show t2.place.size + t2.dummies.size = _
      have z := tab2.sz
      rw [List.length_map, len1] at z
      rw [z, tab2.dm]
      rfl
    by_cases full2 : t2.tooFull = true
    · have big : (L.length + 1) * 5 ≥ t.mask * 3 := by
        have z := full2
        unfold SetTable.tooFull at z
        rw [decide_eq_true_eq, fill, q2, p4] at z
        exact z
      have which : (t.mask = 7 ∧ L.length = 4) ∨ (t.mask = 31 ∧ L.length = 18) := by
        rcases R.tab.mok with e | e | e
        · left; rw [e] at big room; exact ⟨e, by omega⟩
        · right; rw [e] at big room; exact ⟨e, by omega⟩
        · exfalso; rw [e] at big; omega
      have go : ∀ M, SetTable.sizeAbove (SetTable.grown (es.size + 1)) - 1 = M → MaskOk M → SetTable.sizeAbove (SetTable.grown (es.size + 1)) ≤ 128 → (L.length + 1) * 5 < M * 3 →
          wpAny (model P w) A (setRelay a (SetTable.grown (es.size + 1))) (fun _ s' => wpAny (model P w) A (pure true) Q E s') E { s with heap := h1 } := fun M g1 g2 g3 g4 => by
        refine relay (s := { s with heap := h1 }) ho1 ⟨ex.1, ex.2.1, ex.2.2⟩ rfl ents1 ?_ tab2.dm ?_ diff1 tups1 (by rw [len1]; exact few) g1 g2 g3 (by rw [len1]; exact g4) fun h2 L2 es2 ep2 t3 sb2 R2 pm2 => ?_
        · have z := tab2.sz
          rw [List.length_map, len1] at z
          rw [z, es1l]
        · rw [es1l, q2, p4]
          rcases which with ⟨e1, e2⟩ | ⟨e1, e2⟩ <;> omega
        · exact wpAny_pure (kk true h2 L2 es2 ep2 t3 (sb.trans sb2) R2 (fun z => (no z).elim) fun _ => pm2.trans pm)
      have go2 : wpAny (model P w) A (setRelay a (SetTable.grown (es.size + 1))) (fun _ s' => wpAny (model P w) A (pure true) Q E s') E { s with heap := h1 } := by
        rw [sl] at go ⊢
        rcases which with ⟨_, e2⟩ | ⟨_, e2⟩
        · exact go 31 (by rw [e2, size_20]) (.inr (.inl rfl)) (by rw [e2, size_20]; decide) (by omega)
        · exact go 127 (by rw [e2, size_76]) (.inr (.inr rfl)) (by rw [e2, size_76]; decide) (by omega)
      first
        | exact wp_if_pos (by simp [full2]) (wpAny_bind go2)
        | exact wpAny_bind (wp_if_pos (by simp [full2]) go2)
    · have held : Held P w h1 a L1 es1 (ep + 1) t2 := by
        refine ⟨⟨_, ho1, ⟨ex.1, ex.2.1, ex.2.2⟩, rfl⟩, ents1, tab2, diff1, tups1, ?_, by rw [len1]; exact few⟩
        have z := full2
        unfold SetTable.tooFull at z
        rw [decide_eq_true_eq, fill] at z
        rw [len1]
        omega
      have fin := kk true h1 L1 es1 (ep + 1) t2 sb held (fun z => (no z).elim) fun _ => pm
      first
        | exact wp_if_neg (by simp [full2]) (wpAny_pure fin)
        | exact wpAny_bind (wp_if_neg (by simp [full2]) (wpAny_pure (wpAny_pure fin)))
  rcases Bool.eq_false_or_eq_true t1.plain with pl | pl
  · have both : ∀ b : Bool, wpAny (model P w) A (do
        let t := if b then t1 else { t1 with plain := false }
        storeSet a es1 t
        if !false && t.tooFull then setRelay a (SetTable.grown (es.size + 1))
        return true) Q E s := fun b => by
      cases b with
      | true => exact rest t1 rfl rfl rfl
      | false => exact rest { t1 with plain := false } rfl rfl rfl
    first
      | exact wpAny_bind (wp_if_pos pl (tm_byv hx both))
      | exact wp_if_pos pl (wpAny_bind (tm_byv hx both))
  · have one := rest t1 rfl rfl rfl
    first
      | exact wpAny_bind (wp_if_neg (by rw [pl]; decide) (wpAny_pure one))
      | exact wp_if_neg (by rw [pl]; decide) (wpAny_bind (wpAny_pure one))
end
end Sc
namespace Sc
open PySem PySem.Spec PyProof.Rows L2
/-- how many different ones -/
def cnt {κ : Type} [DecidableEq κ] : List κ → Nat
  | [] => 0
  | k :: ks => if k ∈ ks then cnt ks else cnt ks + 1
theorem cnt_le {κ : Type} [DecidableEq κ] : ∀ ks : List κ, cnt ks ≤ ks.length
  | [] => Nat.le_refl _
  | k :: ks => by
    have := cnt_le ks
    unfold cnt
    split <;> simp <;> omega
theorem cnt_nodup {κ : Type} [DecidableEq κ] : ∀ ks : List κ, cnt ks = ks.length ↔ ks.Nodup
  | [] => by simp [cnt]
  | k :: ks => by
    have h1 := cnt_le ks
    have h2 := cnt_nodup ks
    unfold cnt
    rw [List.nodup_cons, ← h2]
    split <;> simp [*] <;> omega
/-- what has come of the first i -/
structure Had (ks : List Pl) (i : Nat) (L : List Pl) : Prop where
  from_ : ∀ p ∈ L, p ∈ ks.take i
  all : ∀ p ∈ ks.take i, p.2 ∈ L.map (·.2)
  len : L.length ≤ i
theorem Had.step {ks L L' : List Pl} {i : Nat} {x : Pl} (g : Had ks i L) (h : ks[i]? = some x) (h1 : x.2 ∈ L.map (·.2) → L' = L) (h2 : x.2 ∉ L.map (·.2) → L'.Perm (x :: L)) : Had ks (i + 1) L' := by
  have tk : ks.take (i + 1) = ks.take i ++ [x] := by
    rw [List.take_succ, h]
    rfl
  by_cases c : x.2 ∈ L.map (·.2)
  · rw [h1 c]
    refine ⟨fun p hp => by rw [tk]; exact List.mem_append_left _ (g.from_ p hp), fun p hp => ?_, by have := g.len; omega⟩
    rw [tk] at hp
    rcases List.mem_append.mp hp with z | z
    · exact g.all p z
    · rw [List.mem_singleton.mp z]
      exact c
  · have pm := h2 c
    refine ⟨fun p hp => ?_, fun p hp => ?_, by rw [pm.length_eq]; have := g.len; simp; omega⟩
    · rw [tk]
      rcases List.mem_cons.mp (pm.mem_iff.mp hp) with e | z
      · rw [e]
        exact List.mem_append_right _ List.mem_cons_self
      · exact List.mem_append_left _ (g.from_ p z)
    · refine (pm.map (·.2)).mem_iff.mpr ?_
      rw [tk] at hp
      rcases List.mem_append.mp hp with z | z
      · exact List.mem_cons_of_mem _ (g.all p z)
      · rw [List.mem_singleton.mp z]
        exact List.mem_cons_self
theorem cnt_len {κ : Type} [DecidableEq κ] (as bs : List κ) (nd : as.Nodup) (mem : ∀ k, k ∈ as ↔ k ∈ bs) : as.length = cnt bs := by
  induction bs generalizing as with
  | nil =>
    cases as with
    | nil => rfl
    | cons x xs => exact absurd ((mem x).mp List.mem_cons_self) (by simp)
  | cons b bs ih =>
    unfold cnt
    by_cases hb : b ∈ bs
    · rw [if_pos hb]
      exact ih as nd fun k => (mem k).trans ⟨fun h => (List.mem_cons.mp h).elim (fun e => e ▸ hb) id, List.mem_cons_of_mem _⟩
    · rw [if_neg hb]
      have hba : b ∈ as := (mem b).mpr List.mem_cons_self
      have q := ih (as.erase b) (nd.erase b) fun k => by
        rw [nd.mem_erase_iff, mem k]
        constructor
        · rintro ⟨h1, h2⟩
          exact (List.mem_cons.mp h2).resolve_left h1
        · intro h
          exact ⟨fun e => hb (e ▸ h), List.mem_cons_of_mem _ h⟩
      rw [List.length_erase_of_mem hba] at q
      have : 0 < as.length := List.length_pos_of_mem hba
      omega
/-- as many as there are different ones -/
theorem Had.count {ks L : List Pl} (g : Had ks ks.length L) (nd : (L.map (·.2)).Nodup) : L.length = cnt (ks.map (·.2)) := by
  have mem : ∀ k, k ∈ L.map (·.2) ↔ k ∈ ks.map (·.2) := fun k => by
    constructor
    · intro h
      obtain ⟨p, hp, e⟩ := List.mem_map.mp h
      exact List.mem_map.mpr ⟨p, List.mem_of_mem_take (g.from_ p hp), e⟩
    · intro h
      obtain ⟨p, hp, e⟩ := List.mem_map.mp h
      rw [← e]
      exact g.all p (by rw [List.take_length]; exact hp)
  rw [← List.length_map (as := L) (·.2)]
  exact cnt_len _ _ nd mem
abbrev newSet (w : World) : Obj := { cls := .type "set", dict := none, data := .set #[] 0 (.fresh 0 0 (!w.params.followText "set-order")) }
section
variable {P : Program} {w : World} {A : Around} {E : Value → Shared → Prop} {s : Shared}
theorem held_new {h : Heap} {a : Addr} (ho : h.get? a = some (newSet w)) : Held P w h a [] #[] 0 (.fresh 0 0 (!w.params.followText "set-order")) where
  at_ := ⟨_, ho, ⟨rfl, rfl, rfl⟩, rfl⟩
  ents := rfl
  tab := ⟨List.Pairwise.nil, rfl, rfl, .inl rfl, fun x hx => (by cases hx), fun i h j hi => (by simp at hi)⟩
  diff := List.nodup_nil
  tups := fun p hp => (by cases hp)
  room := by
    show 0 * 5 < 7 * 3
    decide
  few := by
    show 0 < 64
    decide
theorem Held.on {h h' : Heap} {a : Addr} {L : List Pl} {es : Array (Int × Value)} {ep : Nat} {t : SetTable} (R : Held P w h a L es ep t) (ha : ∀ o, h.get? a = some o → h'.get? a = some o) (ht : ∀ p ∈ L, Tm P w h' p.2 p.1) : Held P w h' a L es ep t :=
  let ⟨o, ho, r⟩ := R.at_
  ⟨⟨o, ha o ho, r⟩, R.ents, R.tab, R.diff, ht, R.room, R.few⟩
/-- the loop of set.update -/
theorem fill {I : Addr} {fp wr : List Addr} {G : Array GenState → Array GenState → Prop} {n : Nat} {Pv : Nat → Value → Prop} {St : Nat → Shared → Prop} {R : Result → Shared → Prop} (W : WalksS P w A.in1 I fp wr G n Pv St) (S : Addr) (hSf : S ∉ fp) (ks : List Pl) (hn : n = ks.length) (few : ks.length < 64)
    (vals : ∀ i v, Pv i v → ∃ p, ks[i]? = some p ∧ v = .ref p.1) (h0 : Heap) (tups : ∀ p ∈ ks, Tm P w h0 p.2 p.1) (hS0 : h0.get? S = none) (hw0 : ∀ b ∈ wr, h0.get? b = none) (hu : A.in1.units < cLine) : ∀ (d i : Nat) (s : Shared), n - i = d → i ≤ n → St i s → (∀ b o, h0.get? b = some o → s.heap.get? b = some o) → (∃ L es ep t, Held P w s.heap S L es ep t ∧ Had ks i L) →
      (∀ s' L es ep t, Moved (S :: wr) G s s' → Held P w s'.heap S L es ep t → Had ks n L → (∀ b o, h0.get? b = some o → s'.heap.get? b = some o) → R (.ok (.ret .none)) s') → codeAny (model P w) A (.builtin "set.update.loop" ⟨[.ref S, .ref I], []⟩) R s := by
  have nS : S ∉ wr := fun h => hSf (W.sub _ h)
  have up : ∀ b ∈ wr, b ∈ S :: wr := fun b hb => List.mem_cons_of_mem _ hb
  have old : ∀ {s s' : Shared}, Moved wr G s s' → (∀ b o, h0.get? b = some o → s.heap.get? b = some o) → ∀ b o, h0.get? b = some o → s'.heap.get? b = some o := fun m kp b o e => m.heap b o (fun hb => by rw [hw0 b hb] at e; cases e) (kp b o e)
  intro d
  induction d with
  | zero =>
    intro i s hd hi st kp ⟨L, es, ep, t, hL, g⟩ fin
    obtain rfl : i = n := by omega
    refine codeAny_builtin F.entry_set_update_loop ?_
    rw [Around.under_plainId F.plain_set_update_loop _]
    show wpAny (model P w) A.in1 (pyNext (.ref I) >>= _) _ _ s
    refine wpAny_bind (W.done s _ _ st fun s' m => ?_)
    show wpAny (model P w) A.in1 (ret Value.none) _ _ s'
    exact wpAny_pure (fin s' L es ep t (m.mono up) (hL.on (fun o e => m.heap S o nS e) fun p hp => tm_keep (tups p (List.mem_of_mem_take (g.from_ p hp))) (old m kp)) g (old m kp))
  | succ d ih =>
    intro i s hd hi st kp ⟨L, es, ep, t, hL, g⟩ fin
    have lt : i < n := by omega
    refine codeAny_builtin F.entry_set_update_loop ?_
    rw [Around.under_plainId F.plain_set_update_loop _]
    show wpAny (model P w) A.in1 (pyNext (.ref I) >>= _) _ _ s
    refine wpAny_bind (W.item i s _ _ lt st fun v s' pv st' m => ?_)
    obtain ⟨p, hp, rfl⟩ := vals i v pv
    have kp' := old m kp
    have hL' : Held P w s'.heap S L es ep t := hL.on (fun o e => m.heap S o nS e) fun q hq => tm_keep (tups q (List.mem_of_mem_take (g.from_ q hq))) kp'
    have hx : Tm P w s'.heap p.2 p.1 := tm_keep (tups p (List.mem_of_getElem? hp)) kp'
    show wpAny (model P w) A.in1 (holding [Value.ref p.1] (setAdd S (.ref p.1)) >>= _) _ _ s'
    refine wpAny_bind (wpAny_holding ?_)
    unfold setAdd
    refine wpAny_holding (wpAny_bind (wpAny_pyHash_tuple hu hx ?_))
    refine add (s := { s' with toks := s'.toks + (p.2.length + 1) }) hL' hx hu (by have := g.len; omega) fun b h' L' es' ep' t' sb hL2 c1 c2 => ?_
    have kp2 : ∀ b o, h0.get? b = some o → h'.get? b = some o := fun b o e => (sb.2 b fun z => by rw [z, hS0] at e; cases e).trans (kp' b o e)
    refine wpAny_pure ⟨plainId_quiet F.plain_set_update_loop _, ih (i + 1) _ (by omega) lt (W.frame _ s' _ _ st' (Nat.le_add_right _ _) fun b hb o e => ?_) kp2 ⟨L', es', ep', t', hL2, g.step hp c1 c2⟩ fun s'' L2 es2 ep2 t2 m2 hL3 g2 kp3 => ?_⟩
    · rw [sb.2 b fun z : b = S => hSf (by rw [← z]; exact hb)]
      exact e
    · refine fin s'' L2 es2 ep2 t2 (Moved.trans W.gtrans ((m.mono up).then_heap (Nat.le_add_right _ _) fun b o hb e => ?_) m2) hL3 g2 kp3
      rw [sb.2 b fun z : b = S => hb (by rw [z]; exact List.mem_cons_self)]
      exact e
end
end Sc
namespace Sc
open PySem PySem.Spec PyProof.Rows L2
section
variable {P : Program} {w : World} {A : Around} {E : Value → Shared → Prop} {s : Shared}
set_option maxHeartbeats 3200000 in
/-- set(a tuple of such tuples) -/
theorem call_set {l : Addr} {items : Array Value} (ks : List Pl) {Q : Value → Shared → Prop} (hh : A.handled = none) (hl : s.heap.IsTuple l items) (hit : items.toList = ks.map fun p => Value.ref p.1) (tups : ∀ p ∈ ks, Tm P w s.heap p.2 p.1) (few : ks.length < 64) (hu : A.units + 3 < cLine)
    (k : ∀ (h' : Heap) (tk : Nat) L es ep t, Held P w h' s.heap.objs.size L es ep t → Had ks ks.length L → (∀ b o, s.heap.get? b = some o → h'.get? b = some o) → Q (.ref s.heap.objs.size) { s with heap := h', toks := tk }) : wpAny (model P w) A (call (.type "set") [.ref l]) Q E s := by
  have isz : items.size = ks.length := by rw [← Array.length_toList, hit, List.length_map]
  obtain ⟨c, tl, hmro⟩ := F.called_set.mro
  have hmade := F.called_set.made
  have hsub := F.called_set.sub
  refine wpAny_call (codeAny_of_tree ?_)
  show wpAny (model P w) _ (callAny (.type "set") _) _ _ _
  refine wpAny_pure ⟨Code.quiet_builtin _ (by decide +kernel), codeAny_builtin F.entry_type_call ?_⟩
  rw [Around.under_plain (weight_type_call_type "set" [.ref l] []) rfl]
  have f1 := F.called_set.notType
  have f2 := F.called_set.canCreate
  have f3 := F.typeCall_set_1 (.ref l)
  repeat (any_goals (first | assumption | wp_step))
  refine codeAny_mono (code_set_led1 (.ref l) (E := E) (Q₁ := fun obj s₁ => obj = .ref s.heap.objs.size ∧ s₁ = { s with heap := s.heap.push (newSet w) }) ⟨rfl, rfl⟩) fun r s₁ hr => ?_
  cases r with
  | error e => exact hr
  | ok fl =>
    cases fl with
    | ret obj =>
      obtain ⟨rfl, rfl⟩ := hr
      have hS : (s.heap.push (newSet w)).get? s.heap.objs.size = some (newSet w) := Heap.get?_push_size _ rfl
      have hT : Shared.TypeIs { s with heap := s.heap.push (newSet w) } (.ref s.heap.objs.size) "set" := ⟨_, hS, rfl⟩
      have g1 := F.called_set.init.lookup
      have g2 := F.called_set.init.bind (.ref s.heap.objs.size)
      repeat (any_goals (first | assumption | wp_step))
      refine codeAny_mono (codeAny_call_builtin (R := wants (fun r s₂ => r = .none ∧ ∃ h' tk L es ep t, s₂ = { s with heap := h', toks := tk } ∧ Held P w h' s.heap.objs.size L es ep t ∧ Had ks ks.length L ∧ (∀ b o, s.heap.get? b = some o → h'.get? b = some o)) E) F.called_set.init.plain F.entry_set_init (check_set_init_1 hT ?_)) fun r₂ s₂ hr₂ => ?_
      · obtain ⟨ol, hol, hcl, nl, hdl⟩ := hl
        obtain ⟨ocls, odict, odata, oslots⟩ := ol
        simp only at hcl hdl
        subst hcl
        subst hdl
        have hol' : (s.heap.push (newSet w)).get? l = some { cls := .type "tuple", dict := odict, data := .seq items nl, slots := oslots } := Heap.get?_push_of_some _ hol
        have n1 := F.sub_tuple_set
        have n2 := F.sub_tuple_frozenset
        have n3 : (Value.type "tuple" == Value.type "dict") = false := by decide
        have tup1 : (s.heap.push (newSet w)).IsTuple l items := ⟨_, hol', rfl, nl, rfl⟩
        unfold Builtin.«set.__init__» noKeywords Builtin.Frozenset.updateFrom
        generalize hPI : pyIter = PI
        wp_walk
        subst hPI
        refine wpAny_pyIter_tuple tup1 (wpAny_bind (wpAny_runValue ?_))
        have ll : l < s.heap.objs.size := Heap.lt_size hol
        have hh3 : A.in1.in1.in1.handled = none := by simp [hh]
        have sz1 : (s.heap.push (newSet w)).objs.size = s.heap.objs.size + 1 := Heap.size_push ..
        have nI : l ≠ (s.heap.push (newSet w)).objs.size := by
          rw [sz1]
          exact Nat.ne_of_lt (Nat.lt_succ_of_lt ll)
        have nS : s.heap.objs.size ∉ [(s.heap.push (newSet w)).objs.size, l] := by
          rw [sz1]
          simp only [List.mem_cons, List.not_mem_nil, or_false, not_or]
          exact ⟨Nat.ne_of_lt (Nat.lt_succ_self _), Nat.ne_of_gt ll⟩
        have vals : ∀ (i : Nat) (v : Value), items[i]? = some v → ∃ p, ks[i]? = some p ∧ v = .ref p.1 := fun i v hv => by
          have q : items.toList[i]? = some v := by rw [Array.getElem?_toList]; exact hv
          rw [hit, List.getElem?_map] at q
          cases e : ks[i]? with
          | none => rw [e] at q; cases q
          | some p => rw [e] at q; exact ⟨p, rfl, (Option.some.inj q).symm⟩
        have gone : ∀ b, s.heap.objs.size ≤ b → s.heap.get? b = none := fun b hb => by
          cases q : s.heap.get? b with
          | none => rfl
          | some o => exact absurd (Nat.lt_of_lt_of_le (Heap.lt_size q) hb) (Nat.lt_irrefl _)
        refine fill ((Walks.tuple hh3 _ l nI items).toS) s.heap.objs.size nS ks isz few vals s.heap tups (gone _ (Nat.le_refl _)) (fun b hb => gone b (by
            rw [List.mem_singleton.mp hb, sz1]
            exact Nat.le_succ _)) hu (items.size - 0) 0 _ (by omega) (Nat.zero_le _) ⟨⟨_, Heap.get?_push_size _ rfl, rfl, rfl⟩, (tup1.push _)⟩ (fun b o e => Heap.get?_push_of_some _ (Heap.get?_push_of_some _ e)) ?first ?last
        case first => exact ⟨[], #[], 0, _, held_new (Heap.get?_push_of_some _ hS), ⟨fun p h => (by cases h), fun p h => (by simp at h), Nat.le_refl _⟩⟩
        case last =>
          intro s' L es ep t m hL g kp
          obtain ⟨h', g2, d', tk', os'⟩ := s'
          obtain rfl : g2 = s.gens := m.gens
          obtain rfl : d' = s.drawn := m.drawn
          obtain rfl : os' = s.os := m.os
          show wpAny (model P w) _ _ _ _ _
          refine wpAny_pure ?_
          show wpAny (model P w) _ (ret Value.none) _ _ _
          rw [isz] at g
          exact wpAny_pure ⟨rfl, h', tk', L, es, ep, t, rfl, hL, g, kp⟩
      · cases r₂ with
        | error e => exact hr₂
        | ok fl₂ =>
          cases fl₂ with
          | ret r =>
            obtain ⟨rfl, h', tk, L, es, ep, t, rfl, hL, g, kp⟩ := hr₂
            repeat (any_goals (first | assumption | wp_step))
            exact k _ _ _ _ _ _ hL g kp
          | _ => exact hr₂.elim
    | _ => exact hr.elim
end
end Sc
namespace Sc
open PySem L2 NdefX
theorem cnt_map {κ η : Type} [DecidableEq κ] [DecidableEq η] {f : κ → η} (inj : ∀ a b, f a = f b → a = b) : ∀ ks : List κ, cnt (ks.map f) = cnt ks
  | [] => rfl
  | k :: ks => by
    have e : f k ∈ ks.map f ↔ k ∈ ks := by
      constructor
      · intro h
        obtain ⟨x, hx, q⟩ := List.mem_map.mp h
        exact inj _ _ q ▸ hx
      · exact fun h => List.mem_map.mpr ⟨k, h, rfl⟩
    show (if f k ∈ ks.map f then cnt (ks.map f) else cnt (ks.map f) + 1) = if k ∈ ks then cnt ks else cnt ks + 1
    rw [cnt_map inj ks]
    by_cases h : k ∈ ks
    · rw [if_pos (e.mpr h), if_pos h]
    · rw [if_neg fun z => h (e.mp z), if_neg h]
def kOf (k : List Str) : List Key := k.map Sum.inr
theorem kOf_inj (a b : List Str) (h : kOf a = kOf b) : a = b := by
  unfold kOf at h
  induction a generalizing b with
  | nil =>
    cases b with
    | nil => rfl
    | cons y ys => cases h
  | cons x xs ih =>
    cases b with
    | nil => cases h
    | cons y ys =>
      rw [List.map_cons, List.map_cons] at h
      injection h with h1 h2
      injection h1 with h1
      rw [h1, ih ys h2]
section
variable {X : Cx} {T : List NTab} {δ δ1 δ2 δ3 : List Sl} {e : Expr} {p pos p2 p3 p4 : Pos} {W : WX}
theorem strs_items {P : Program} {w : World} : ∀ {k : List Str} {us : List Value}, Vals (k.map V.str) us → ItemsAre (mixKind P w) (kOf k) us
  | [], _, .nil => .nil
  | x :: xs, _, .cons r rr => by
    obtain ⟨t, rfl⟩ := r
    exact .cons (by show keyIs (.inr x) (.str x t) = true; simp [keyIs, Value.isStrOf]) (strs_items rr)
theorem pls_of {pins : List (Addr × Obj)} {σ : L2.St} {H : Hp} {s : Shared} (I : Inv X pins σ H s) {S : Addr → Prop} : ∀ {ks : List (List Str)} {xs : List V} {us : List Value}, DpAll X.K (vw H S) xs (ks.map fun k => .tuple (k.map .str)) → Vals xs us →
    ∃ L : List Pl, us = L.map (fun p => Value.ref p.1) ∧ L.map (·.2) = ks.map kOf ∧ ∀ p ∈ L, Tm X.prog X.w s.heap p.2 p.1
  | [], _, _, h, r => by
    cases h
    cases r
    exact ⟨[], rfl, rfl, fun p hp => by cases hp⟩
  | k :: ks, _, _, h, r => by
    cases h with
    | cons a b =>
      cases r with
      | cons r rr =>
        obtain ⟨L, h1, h2, h3⟩ := pls_of I b rr
        cases a with
        | tup sq dd =>
          have e := all_strs dd
          subst e
          cases r
          obtain ⟨its, rv, ht, _⟩ := I.tuple (sqt_real sq)
          obtain ⟨o, ho, hc, n, hd⟩ := ht
          refine ⟨(_, kOf k) :: L, by rw [h1]; rfl, by rw [List.map_cons, List.map_cons, h2], fun p hp => ?_⟩
          rcases List.mem_cons.mp hp with e | hp
          · rw [e]
            exact ⟨o, its.toArray, n, ho, hc, hd, by simpa using strs_items rv⟩
          · exact h3 p hp
/-- len(set(e)) of a tuple of tuples of texts: how many different ones -/
theorem ev_lenSet {k : Nat} (C : Cok X W k) (B : Bi X.mg) {ks : List (List Str)} (h : EV X T e δ (.d (.tuple (ks.map fun k => .tuple (k.map .str)))) δ1) (hl : ks.length ≤ 40) (hg : Gl X "len" := by rfl) (hg2 : Gl X "set" := by rfl) (na : starEach [e] X.env = (false, eval e X.env) :: starEach [] X.env := by rfl) :
    EV X T (.Call (.Name "len" p) [.Call (.Name "set" p2) [e] [] p3] [] pos) δ (.d (.int (cnt ks : Nat))) δ1 := fun σ H S Q E kk pins s I => by
  have we := h σ H S (fun v H1 => ∃ S1, Go H S (Owned σ δ) H1 S1 (Owned σ δ1) ∧ Env X.K T H1 S1 σ δ1 ∧ Pin σ δ σ δ1 ∧ Res X.K H (Owned σ δ) H1 S1 (Owned σ δ1) (.d (.tuple (ks.map fun k => .tuple (k.map .str)))) v) E (fun v H1 S1 g e p r => ⟨S1, g, e, p, r⟩)
  refine PyProof.Rows.Call_ (ld_blt I hg B.len PySem.boot_len ?_)
  refine PyProof.Rows.callWith_builtin1 (PyProof.Rows.args_cons ?_ rfl) rfl rfl
  refine PyProof.Rows.Call_ (ld_blt I hg2 B.set PyProof.Rows.boot_set ?_)
  refine PyProof.Rows.callWith_type1 (PyProof.Rows.args_cons (thn (we pins s I) fun v s1 ⟨x, H1, I1, r1, S1, g, e1, p1, r⟩ => PyProof.Rows.args_nil ?_) na) na rfl
  obtain ⟨a, xs, rfl, sq, dd⟩ := res_tup r
  cases r1
  obtain ⟨its, rv, ht, _⟩ := I1.tuple (sqt_real sq)
  obtain ⟨L, h1, h2, h3⟩ := pls_of I1 dd rv
  have ll : L.length = ks.length := by
    have q := congrArg List.length h2
    rw [List.length_map, List.length_map] at q
    exact q
  have room := C.room.un
  refine call_set L (I1.ok.hd C.calm) (show s1.heap.IsTuple a its.toArray from ht) (by simpa using h1) h3 (by omega) (by omega) fun h' tk M es ep t held had kp => ?_
  refine PyProof.Rows.args_nil ?_
  have I2 : Inv X pins σ H1 { s1 with heap := h', toks := tk } := I1.kept fun b o e => kp b o e
  obtain ⟨o, ho, ex, hd⟩ := held.at_
  have sz := ents_len held.ents
  have cn : M.length = cnt ks := by rw [had.count held.diff, h2, cnt_map kOf_inj]
  have few := held.few
  exact PySem.call_len_set ho ex hd (Held.fits (s := { s1 with heap := h', toks := tk }) held) (by have := cnt_le ks; rw [sz, cn]; omega) ⟨.int (cnt ks : Nat), H1, I2.tok _, ⟨_, by rw [sz, cn]⟩, kk _ H1 S1 g e1 p1 (.int _)⟩
end
end Sc
namespace Sc
open PySem L2 NdefX
/-! #### owned dicts: keys texts or whole numbers -/
def kD : Key → PyData
  | .inl n => .int n
  | .inr z => .str z
abbrev tK (z : Str) : Key := .inr z
abbrev iK (n : Int) : Key := .inl n
theorem dp_key {K : PySem.W.Frag} {h : Hp} {k : Key} {v : V} (x : Dp K h v (kD k)) : v = kV k := by
  cases k with
  | inl n => cases x; rfl
  | inr z => cases x; rfl
theorem key_dp {K : PySem.W.Frag} {h : Hp} (k : Key) : Dp K h (kV k) (kD k) := by
  cases k with
  | inl n => exact .int n
  | inr z => exact .str z
def valD (kvs : List (Key × PyData)) (k : Key) : Option PyData := (kvs.find? fun kv => decide (kv.1 = k)).map (·.2)
def putD (kvs : List (Key × PyData)) (k : Key) (d : PyData) : List (Key × PyData) :=
  if (kvs.any fun kv => decide (kv.1 = k)) = true then kvs.map (fun kv => if kv.1 = k then (kv.1, d) else kv) else kvs ++ [(k, d)]
section
variable {K : PySem.W.Frag} {h : Hp}
theorem kv_len : ∀ {r : List (Key × V)} {kvs : List (Key × PyData)}, KvAt K h r kvs → r.length = kvs.length
  | _, _, .nil => rfl
  | _, _, .cons _ t => congrArg (· + 1) (kv_len t)
theorem kv_keys : ∀ {r : List (Key × V)} {kvs : List (Key × PyData)}, KvAt K h r kvs → r.map (·.1) = kvs.map (·.1)
  | _, _, .nil => rfl
  | _, _, .cons _ t => by rw [List.map_cons, List.map_cons, kv_keys t]
theorem kv_any (k : Key) : ∀ {r : List (Key × V)} {kvs : List (Key × PyData)}, KvAt K h r kvs → (r.any fun kv => decide (kv.1 = k)) = kvs.any fun kv => decide (kv.1 = k)
  | _, _, .nil => rfl
  | _, _, .cons _ t => by rw [List.any_cons, List.any_cons, kv_any k t]
theorem kv_val (k : Key) : ∀ {r : List (Key × V)} {kvs : List (Key × PyData)}, KvAt K h r kvs → (valV r k = none ∧ valD kvs k = none) ∨ ∃ v d, valV r k = some v ∧ valD kvs k = some d ∧ Dp K h v d
  | _, _, .nil => .inl ⟨rfl, rfl⟩
  | _, _, .cons (k := j) (v := v) (d := d) (r := r) (s := s) a t => by
    by_cases e : j = k
    · exact .inr ⟨v, d, by simp [valV, e], by simp [valD, e], a⟩
    · have e1 : valV ((j, v) :: r) k = valV r k := by simp [valV, List.find?_cons, e]
      have e2 : valD ((j, d) :: s) k = valD s k := by simp [valD, List.find?_cons, e]
      rw [e1, e2]
      exact kv_val k t
theorem kv_app : ∀ {r r2 : List (Key × V)} {kvs k2 : List (Key × PyData)}, KvAt K h r kvs → KvAt K h r2 k2 → KvAt K h (r ++ r2) (kvs ++ k2)
  | _, _, _, _, .nil, b => b
  | _, _, _, _, .cons a t, b => .cons a (kv_app t b)
theorem kv_put {k : Key} {v : V} {d : PyData} {r : List (Key × V)} {kvs : List (Key × PyData)} (x : KvAt K h r kvs) (y : Dp K h v d) : KvAt K h (putK r k v) (putD kvs k d) := by
  unfold putK putD
  rw [kv_any k x]
  split
  · have key : ∀ {r : List (Key × V)} {kvs : List (Key × PyData)}, KvAt K h r kvs → KvAt K h (r.map fun kv => if kv.1 = k then (kv.1, v) else kv) (kvs.map fun kv => if kv.1 = k then (kv.1, d) else kv) := by
      intro r kvs x
      induction x with
      | nil => exact .nil
      | @cons j v' d' r s a t ih =>
        rw [List.map_cons, List.map_cons]
        by_cases e : j = k
        · rw [if_pos e, if_pos e]
          exact .cons y ih
        · rw [if_neg e, if_neg e]
          exact .cons a ih
    exact key x
  · exact kv_app x (.cons y .nil)
theorem keys_dp {S : List (Key × V)} : ∀ (ks : List Key), DpAll K h (ks.map kV) (ks.map kD)
  | [] => .nil
  | k :: ks => .cons (key_dp k) (keys_dp (S := S) ks)
end
section
variable {X : Cx} {T : List NTab} {K : PySem.W.Frag} {H H' : Hp} {S S' : Addr → Prop} {σ : St} {δ δ1 δ2 δ3 : List Sl} {e e2 : Expr} {p pos pos' pn : Pos} {W : WX} {x : Str}
theorem new_dk (E : Env K T H S σ δ) {p : Addr} {r : List (Key × V)} {kvs : List (Key × PyData)} (hp : H p = none) (hd : KvAt K (vw H S) r kvs) :
    Go H S (Owned σ δ) (upd H p (.dK r)) (fun a => S a ∨ a = p) (Owned σ δ) ∧ Env K T (upd H p (.dK r)) (fun a => S a ∨ a = p) σ δ ∧ Res K H (Owned σ δ) (upd H p (.dK r)) (fun a => S a ∨ a = p) (Owned σ δ) (.o (.dk kvs)) (.ref p) := by
  obtain ⟨g, e, h, m⟩ := new_o (o := .dK r) E hp
  exact ⟨g, e, p, rfl, .inr rfl, h, ⟨r, upd_same, hd.mono m⟩, .inr (Fresh.of hp)⟩
theorem ev_dnil : EV X T (.Dict [] [] pos) δ (.o (.dk [])) δ := fun σ H S Q E k =>
  we_of pe_dnewK fun p hp => by
    obtain ⟨g, e, x⟩ := new_dk (kvs := []) E hp .nil
    exact k _ _ _ g e (Pin.refl _ _) x
/-- e in d, e not in d: d by name -/
theorem ev_inK {n : Nat} (C : Cok X W n) (j : Nat) {s : Sl} {kvs : List (Key × PyData)} {k : Key} (hj : δ1[j]? = some s) (hw : s.ow = some (.dk kvs)) (he : EV X T e δ (.d (kD k)) δ1) (hN : X.N[j]? = some x := by rfl) (hv : Vis X.env.scope x := by first | exact Or.inl rfl | exact Or.inr (Or.inl rfl) | exact Or.inr (Or.inr rfl))
    (hdb : (x == ("__debug__" : Str)) = false := by decide) (hcd : (x == ("__classdict__" : Str)) = false := by decide) : EV X T (.Compare e [.In] [.Name x pn] pos) δ (.d (.bool (valD kvs k).isSome)) δ1 := fun σ H S Q E kk => by
  have hu : X.A.units + 1 < cLine := by have := C.room.un; omega
  refine we_of (pe_cmp (pc_din hu pe_w (pe_var hN hv hdb hcd))) (he σ H S _ E fun v H1 S1 g1 e1 p1 r1 => ?_)
  obtain ⟨q, eq, r, hq, hd⟩ := e1.own j s _ hj hw
  refine ⟨.ref q, eq, q, valV r k, rfl, by rw [dp_key r1]; exact DGet.k hq, ?_⟩
  have es : (valV r k).isSome = (valD kvs k).isSome := by
    rcases kv_val k hd with ⟨a, b⟩ | ⟨v, d, a, b, _⟩
    · rw [a, b]; rfl
    · rw [a, b]; rfl
  rw [es]
  exact kk _ H1 S1 g1 e1 p1 (.bl _)
theorem tv_inK {n : Nat} (C : Cok X W n) (j : Nat) {s : Sl} {kvs : List (Key × PyData)} {k : Key} (hj : δ1[j]? = some s) (hw : s.ow = some (.dk kvs)) (he : EV X T e δ (.d (kD k)) δ1) (hN : X.N[j]? = some x := by rfl) (hv : Vis X.env.scope x := by first | exact Or.inl rfl | exact Or.inr (Or.inl rfl) | exact Or.inr (Or.inr rfl))
    (hdb : (x == ("__debug__" : Str)) = false := by decide) (hcd : (x == ("__classdict__" : Str)) = false := by decide) : TV X T (.Compare e [.In] [.Name x pn] pos) δ (valD kvs k).isSome δ1 := fun σ H S Q E kk => by
  have hu : X.A.units + 1 < cLine := by have := C.room.un; omega
  refine wt_of (pt_cmp (pc_din hu pe_w (pe_var hN hv hdb hcd))) (he σ H S _ E fun v H1 S1 g1 e1 p1 r1 => ?_)
  obtain ⟨q, eq, r, hq, hd⟩ := e1.own j s _ hj hw
  refine ⟨.ref q, eq, q, valV r k, rfl, by rw [dp_key r1]; exact DGet.k hq, _, rfl, ?_⟩
  have es : (valV r k).isSome = (valD kvs k).isSome := by
    rcases kv_val k hd with ⟨a, b⟩ | ⟨v, d, a, b, _⟩
    · rw [a, b]; rfl
    · rw [a, b]; rfl
  rw [es]
  exact kk H1 S1 g1 e1 p1
theorem ev_ninK {n : Nat} (C : Cok X W n) (j : Nat) {s : Sl} {kvs : List (Key × PyData)} {k : Key} (hj : δ1[j]? = some s) (hw : s.ow = some (.dk kvs)) (he : EV X T e δ (.d (kD k)) δ1) (hN : X.N[j]? = some x := by rfl) (hv : Vis X.env.scope x := by first | exact Or.inl rfl | exact Or.inr (Or.inl rfl) | exact Or.inr (Or.inr rfl))
    (hdb : (x == ("__debug__" : Str)) = false := by decide) (hcd : (x == ("__classdict__" : Str)) = false := by decide) : EV X T (.Compare e [.NotIn] [.Name x pn] pos) δ (.d (.bool (!(valD kvs k).isSome))) δ1 := fun σ H S Q E kk => by
  have hu : X.A.units + 1 < cLine := by have := C.room.un; omega
  refine we_of (pe_cmp (pc_dnotin hu pe_w (pe_var hN hv hdb hcd))) (he σ H S _ E fun v H1 S1 g1 e1 p1 r1 => ?_)
  obtain ⟨q, eq, r, hq, hd⟩ := e1.own j s _ hj hw
  refine ⟨.ref q, eq, q, valV r k, rfl, by rw [dp_key r1]; exact DGet.k hq, ?_⟩
  have es : (valV r k).isSome = (valD kvs k).isSome := by
    rcases kv_val k hd with ⟨a, b⟩ | ⟨v, d, a, b, _⟩
    · rw [a, b]; rfl
    · rw [a, b]; rfl
  rw [es]
  exact kk _ H1 S1 g1 e1 p1 (.bl _)
theorem tv_ninK {n : Nat} (C : Cok X W n) (j : Nat) {s : Sl} {kvs : List (Key × PyData)} {k : Key} (hj : δ1[j]? = some s) (hw : s.ow = some (.dk kvs)) (he : EV X T e δ (.d (kD k)) δ1) (hN : X.N[j]? = some x := by rfl) (hv : Vis X.env.scope x := by first | exact Or.inl rfl | exact Or.inr (Or.inl rfl) | exact Or.inr (Or.inr rfl))
    (hdb : (x == ("__debug__" : Str)) = false := by decide) (hcd : (x == ("__classdict__" : Str)) = false := by decide) : TV X T (.Compare e [.NotIn] [.Name x pn] pos) δ (!(valD kvs k).isSome) δ1 := fun σ H S Q E kk => by
  have hu : X.A.units + 1 < cLine := by have := C.room.un; omega
  refine wt_of (pt_cmp (pc_dnotin hu pe_w (pe_var hN hv hdb hcd))) (he σ H S _ E fun v H1 S1 g1 e1 p1 r1 => ?_)
  obtain ⟨q, eq, r, hq, hd⟩ := e1.own j s _ hj hw
  refine ⟨.ref q, eq, q, valV r k, rfl, by rw [dp_key r1]; exact DGet.k hq, _, rfl, ?_⟩
  have es : (valV r k).isSome = (valD kvs k).isSome := by
    rcases kv_val k hd with ⟨a, b⟩ | ⟨v, d, a, b, _⟩
    · rw [a, b]; rfl
    · rw [a, b]; rfl
  rw [es]
  exact kk H1 S1 g1 e1 p1
/-- d[e] -/
theorem ev_getK {n : Nat} (C : Cok X W n) (j : Nat) {s : Sl} {kvs : List (Key × PyData)} {k : Key} {d : PyData} (hj : δ[j]? = some s) (hw : s.ow = some (.dk kvs)) (he : EV X T e δ (.d (kD k)) δ) (hd : valD kvs k = some d) (hs : NoSl e := by intro _ _; rfl) (hN : X.N[j]? = some x := by rfl) (hv : Vis X.env.scope x := by first | exact Or.inl rfl | exact Or.inr (Or.inl rfl) | exact Or.inr (Or.inr rfl))
    (hdb : (x == ("__debug__" : Str)) = false := by decide) (hcd : (x == ("__classdict__" : Str)) = false := by decide) : EV X T (.Subscript (.Name x pn) e pos) δ (.d d) δ := fun σ H S Q E kk => by
  have hu : X.A.units + 1 < cLine := by have := C.room.un; omega
  obtain ⟨q, eq, _⟩ := E.own j s _ hj hw
  refine we_of (pe_dget hu (pe_var hN hv hdb hcd) pe_w hs) ⟨.ref q, eq, he σ H S _ E fun v H1 S1 g1 e1 p1 r1 => ?_⟩
  obtain ⟨q', eq', r, hq, hd1⟩ := e1.own j s _ hj hw
  rw [eq] at eq'
  cases eq'
  rcases kv_val k hd1 with ⟨a, b⟩ | ⟨v', d', a, b, c⟩
  · rw [hd] at b; cases b
  · rw [hd] at b
    cases b
    exact ⟨q, v', rfl, by rw [dp_key r1, ← a]; exact DGet.k hq, kk _ H1 S1 g1 e1 p1 c⟩
/-- d[e] = v -/
theorem sv_putK {n : Nat} (C : Cok X W n) (j : Nat) {s : Sl} {kvs : List (Key × PyData)} {k : Key} {d : PyData} (hj : δ1[j]? = some s) (hw : s.ow = some (.dk kvs)) (hv : EV X T e2 δ (.d d) δ1) (he : EV X T e δ1 (.d (kD k)) δ1) (hz : kvs.length < sizeLine) (hN : X.N[j]? = some x := by rfl) (hvi : Vis X.env.scope x := by first | exact Or.inl rfl | exact Or.inr (Or.inl rfl) | exact Or.inr (Or.inr rfl))
    (hdb : (x == ("__debug__" : Str)) = false := by decide) (hcd : (x == ("__classdict__" : Str)) = false := by decide) (hs : swapsWith e2 (some (.Subscript (.Name x pn) e pos')) pos.line X.env = pure false := by rfl) :
    SV X T W (.Assign [.Subscript (.Name x pn) e pos'] e2 pos) δ (.nx (δ1.set j (s.put (.dk (putD kvs k d))))) := fun σ H S D E kk => by
  have hu : X.A.units + 1 < cLine := by have := C.room.un; omega
  refine ws_of (ps_dput hu (pe_var hN hvi hdb hcd) pe_w pe_w hs) (hv σ H S _ E fun v H1 S1 g1 e1 p1 r1 => ?_)
  obtain ⟨q, eq, _⟩ := e1.own j s _ hj hw
  refine ⟨.ref q, eq, he σ H1 S1 _ e1 fun u H2 S2 g2 e2 p2 r2 => ?_⟩
  obtain ⟨q', eq', r, hq, hd1⟩ := e2.own j s _ hj hw
  rw [eq] at eq'
  cases eq'
  have r1' := r1.go g2
  refine ⟨q, _, rfl, by rw [dp_key r2]; exact DPut.k (v := v) hq (by rw [kv_len hd1]; exact hz), ?_⟩
  obtain ⟨g3, e3, p3⟩ := e2.write (w' := .dk (putD kvs k d)) (o := .dK (putK r k v)) hj hw eq fun h m => ⟨_, rfl, kv_put (hd1.mono m) (dp_mono m r1')⟩
  exact kk σ _ S2 ((g1.trans g2).trans g3) e3 ((p1.trans p2).trans p3)
/-- len(d), list(d) -/
def keysD (kvs : List (Key × PyData)) : List PyData := kvs.map fun kv => kD kv.1
theorem ev_lstK (B : Bi X.mg) (hc : X.calm = true) (j : Nat) {s : Sl} {kvs : List (Key × PyData)} (hj : δ[j]? = some s) (hw : s.ow = some (.dk kvs)) (hN : X.N[j]? = some x := by rfl) (hv : Vis X.env.scope x := by first | exact Or.inl rfl | exact Or.inr (Or.inl rfl) | exact Or.inr (Or.inr rfl))
    (hdb : (x == ("__debug__" : Str)) = false := by decide) (hcd : (x == ("__classdict__" : Str)) = false := by decide) (hg : Gl X "list" := by rfl) (he : starEach [.Name x pn] X.env = (false, eval (.Name x pn) X.env) :: starEach [] X.env := by rfl) (hpl : (backTo pos (starEach [] X.env)).any (·.1) = false := by rfl) :
    EV X T (.Call (.Name "list" p) [.Name x pn] [] pos) δ (.o (.lst (keysD kvs))) δ := fun σ H S Q E kk => by
  obtain ⟨q, eq, r, hq, hd⟩ := E.own j s _ hj hw
  refine we_of (pe_callTy (call_list_dK hc) hg B.list (by decide +kernel) (pa_cons (pe_var hN hv hdb hcd) pa_nil he) (by decide) (by decide) he hpl) ⟨.ref q, eq, ?_⟩
  refine ⟨q, r, rfl, hq, fun l hl => ?_⟩
  have e1 : (r.map fun kv => kV kv.1) = (kvs.map (·.1)).map kV := by rw [← kv_keys hd, List.map_map]; rfl
  have e2 : keysD kvs = (kvs.map (·.1)).map kD := by unfold keysD; rw [List.map_map]; rfl
  rw [e1]
  obtain ⟨g2, e2', x2⟩ := new_lsto (ds := keysD kvs) E hl (by rw [e2]; exact keys_dp (S := r) _)
  exact kk _ _ _ g2 e2' (Pin.refl _ _) x2
end
end Sc
namespace Sc
open PySem PySem.Calls PyProof.Rows PySem.W
/-! #### sorted by a key, while the calls keep what J tells -/
section
variable {prog : Program} {w : World} {A : Around} {E : Value → Shared → Prop} {s : Shared} {a kS : Addr} {b : Bool} {vs : List Value} {e1 : Nat} {P : PySem.Fin → Shared → Prop} {kz : List PyData} {f : Value}
def Bag (a : Addr) (xs : List Value) (e : Nat) (h : Heap) : Prop := h.get? a = some (seqObj "list" xs.toArray e)
theorem sk_rest (J : List Value → Shared → Prop) (hka : kS ≠ a) (hlen : kz.length = vs.length) (hZ : vs.length ≤ sizeLine) (hal : AllAlike kz) (hsk : Sortable kz) (hu : ∀ d, d ∈ kz → A.units + d.depth < cLine)
    (j0 : J [] s) (nk : Bag kS [] 0 s.heap) (na : Bag a [] e1 s.heap)
    (turn : ∀ (i : Nat) (v : Value) (k : PyData) (ks : List Value) (s' : Shared) (c : Nat), vs[i]? = some v → kz[i]? = some k → ks.length = i → J ks s' → Bag kS ks c s'.heap → Bag a [] e1 s'.heap →
      wpAny (model prog w) A (call f [v]) (fun u s'' => Bag kS ks c s''.heap ∧ Bag a [] e1 s''.heap ∧ ∀ h', Heap.SameBut kS s''.heap h' → J (ks ++ [u]) { s'' with heap := h' }) (fun _ _ => False) s')
    (reads : ∀ ks s', J ks s' → ks.length = vs.length → EachIs (fun v k => ∃ as, Reads s'.heap v k as) ks kz)
    (fin : ∀ ks s' h' tk out c, J ks s' → ks.length = vs.length → (∀ x o, x ≠ a → x ≠ kS → s'.heap.get? x = some o → h'.get? x = some o) → Bag a out c h' → KeyedOut b kz vs out → P (.done (.ret .none)) { s' with heap := h', toks := tk }) :
    wpAny (model prog w) A (ksk_rest a f b vs.toArray e1 (.ref kS)) P E s := by
  unfold ksk_rest
  refine wpAny_bind (wpAny_rule ?_)
  rw [List.forIn_toArray]
  refine wpAny_bind (ksk_fold (fun i s' => ∃ ks c, ks.length = i ∧ J ks s' ∧ Bag kS ks c s'.heap ∧ Bag a [] e1 s'.heap) vs 0 s ⟨[], 0, rfl, j0, nk, na⟩ ?go ?done)
  case go =>
    rintro j x s' hx ⟨ks, c, hl, hj, hk, ha⟩
    simp only [Nat.zero_add] at hl ⊢
    have hjl : j < vs.length := (List.getElem?_eq_some_iff.mp hx).1
    obtain ⟨k, hkj⟩ : ∃ k, kz[j]? = some k := ⟨_, List.getElem?_eq_getElem (by omega)⟩
    refine wpAny_bind (wpAny_attempt (wpAny_mono (turn j x k ks s' c hx hkj hl hj hk ha) (fun u s'' q => ?_) fun _ _ hF => hF.elim))
    obtain ⟨hk2, ha2, hj2⟩ := q
    try dsimp only
    have sb := Heap.SameBut.update s''.heap kS (Obj.mapSeq (·.push u))
    obtain ⟨c2, hc2⟩ : ∃ c2, (s''.heap.update kS (Obj.mapSeq (·.push u))).get? kS = some (seqObj "list" (ks.toArray.push u) c2) := ⟨_, get?_update_seq hk2 (·.push u)⟩
    have hz : ks.toArray.size ≤ sizeLine := by rw [List.size_toArray]; omega
    refine wpAny_bind (listUpdate_at hk2 rfl ?_ hz (Nat.le_trans (Nat.le_of_eq (Array.size_push ..)) (Nat.succ_le_succ hz)))
    refine wpAny_pure ⟨rfl, ks ++ [u], c2, ?_, hj2 _ sb, ?_, (sb.2 a hka.symm).trans ha2⟩
    · rw [List.length_append, hl]; rfl
    · unfold Bag
      rw [hc2]
      simp
  case done =>
    rintro s' ⟨ks, c, hl, hj, hk, ha⟩
    rw [Nat.zero_add] at hl
    have hr := reads ks s' hj hl
    obtain ⟨G, g1, g2⟩ := L2.restrict s'.heap fun x => !decide (x = kS)
    have gS : G.get? kS = none := g2 kS (by simp)
    have gO : ∀ x, x ≠ kS → G.get? x = s'.heap.get? x := fun x hx => g1 x (by simp [hx])
    refine wpAny_bind (listItems_at hk rfl ?_)
    have hkl : ks.toArray.size = vs.length := by rw [List.size_toArray]; exact hl
    refine keyH_end (κ := dataKind s'.heap kz) (h₁ := G) (kS := kS) (fun x o hx e => ?_) gS hk ha hka (SortsAt.data (s := s') hr hal hsk hu) hkl hZ fun h3 tk3 c3 k3 n3 => ?_
    · have hn : x ≠ kS := fun z => by rw [z, gS] at e; cases e
      rw [← gO x hn]
      exact e
    · refine fin ks s' h3 tk3 _ c3 hj hl (fun x o h1 h2 e => k3 x o h1 (by rw [gO x h2]; exact e)) n3 ⟨s'.heap, ks, hal, rfl, hr⟩
theorem sk_tree (J : Addr → List Value → Shared → Prop) {n : Nat} (ho : Bag a vs n s.heap) (hlen : kz.length = vs.length) (hZ : vs.length ≤ sizeLine) (hal : AllAlike kz) (hsk : Sortable kz) (hu : ∀ d, d ∈ kz → A.units + d.depth < cLine)
    (j0 : ∀ h' kS, (∀ x o, x ≠ a → s.heap.get? x = some o → h'.get? x = some o) → s.heap.objs.size ≤ kS → J kS [] { s with heap := h' })
    (turn : ∀ (e1 kS i : Nat) (v : Value) (k : PyData) (ks : List Value) (s' : Shared) (c : Nat), s.heap.objs.size ≤ kS → vs[i]? = some v → kz[i]? = some k → ks.length = i → J kS ks s' → Bag kS ks c s'.heap → Bag a [] e1 s'.heap →
      wpAny (model prog w) A (call f [v]) (fun u s'' => Bag kS ks c s''.heap ∧ Bag a [] e1 s''.heap ∧ ∀ h', Heap.SameBut kS s''.heap h' → J kS (ks ++ [u]) { s'' with heap := h' }) (fun _ _ => False) s')
    (reads : ∀ kS ks s', J kS ks s' → ks.length = vs.length → EachIs (fun v k => ∃ as, Reads s'.heap v k as) ks kz)
    (fin : ∀ kS ks s' h' tk out c, s.heap.objs.size ≤ kS → J kS ks s' → ks.length = vs.length → (∀ x o, x ≠ a → x ≠ kS → s'.heap.get? x = some o → h'.get? x = some o) → Bag a out c h' → KeyedOut b kz vs out → P (.done (.ret .none)) { s' with heap := h', toks := tk }) :
    wpAny (model prog w) A (ksk_tree a f b) P E s := by
  have ha : a < s.heap.objs.size := Heap.lt_size ho
  obtain ⟨e1, ho1⟩ : ∃ e1, (s.heap.update a (Obj.mapSeq fun _ => (#[] : Array Value))).get? a = some (seqObj "list" #[] e1) := ⟨_, get?_update_seq ho fun _ => #[]⟩
  have size2 : ((s.heap.update a (Obj.mapSeq fun _ => (#[] : Array Value))).push (seqObj "tuple" vs.toArray 0)).objs.size = s.heap.objs.size + 1 := by rw [size_push', Heap.size_update]
  unfold ksk_tree
  refine wpAny_bind (listItems_at ho rfl ?_)
  refine wpAny_bind (listUpdate_at ho rfl ?_ (by rw [List.size_toArray]; exact hZ) (Nat.zero_le _))
  refine wpAny_bind (seqEpoch_at ho1 rfl ?_)
  refine wpAny_bind (wpAny_newTuple ?_ (by show vs.length ≤ _; exact hZ))
  refine wpAny_bind (wpAny_newList ?_ (Nat.zero_le _))
  refine wpAny_holding ?_
  have above : s.heap.objs.size ≤ ((s.heap.update a (Obj.mapSeq fun _ => (#[] : Array Value))).push (seqObj "tuple" vs.toArray 0)).objs.size := by rw [size2]; exact Nat.le_succ _
  refine sk_rest (kz := kz) (e1 := e1) (J _) (by rw [size2]; exact Nat.ne_of_gt (Nat.lt_succ_of_lt ha)) hlen hZ hal hsk hu (j0 _ _ (fun x o hx e => sortingHeap_old hx e) above)
    (Heap.get?_push_size _ rfl) (Heap.get?_push_of_some _ (Heap.get?_push_of_some _ ho1)) (fun i v k ks s' c => turn e1 _ i v k ks s' c above) (reads _) (fun ks s' h' tk out c => fin _ ks s' h' tk out c above)
theorem sorted_key {l : Addr} {kw : List (Str × Value)} {Q : Value → Shared → Prop} (J : Addr → Addr → List Value → Shared → Prop) (hl : s.heap.IsList l vs.toArray) (hlen : kz.length = vs.length) (hZ : vs.length ≤ sizeLine) (hal : AllAlike kz) (hsk : Sortable kz) (hu : ∀ d, d ∈ kz → A.units + 2 + d.depth < cLine)
    (ha1 : argsOk "sorted" ⟨[.ref l], kw⟩) (ha2 : ∀ x, argsOk "list.sort" ⟨[.ref x], kw⟩) (ht : ∀ x, Builtin.«list.sort» ⟨[.ref x], kw⟩ = ksk_tree x f b)
    (j0 : ∀ h' a kS, (∀ x o, s.heap.get? x = some o → h'.get? x = some o) → s.heap.objs.size ≤ kS → s.heap.objs.size ≤ a → J a kS [] { s with heap := h' })
    (turn : ∀ (e1 a kS i : Nat) (v : Value) (k : PyData) (ks : List Value) (s' : Shared) (c : Nat), s.heap.objs.size ≤ kS → s.heap.objs.size ≤ a → kS ≠ a → vs[i]? = some v → kz[i]? = some k → ks.length = i → J a kS ks s' → Bag kS ks c s'.heap → Bag a [] e1 s'.heap →
      wpAny (model prog w) A.in1.in1 (call f [v]) (fun u s'' => Bag kS ks c s''.heap ∧ Bag a [] e1 s''.heap ∧ ∀ h', Heap.SameBut kS s''.heap h' → J a kS (ks ++ [u]) { s'' with heap := h' }) (fun _ _ => False) s')
    (reads : ∀ a kS ks s', J a kS ks s' → ks.length = vs.length → EachIs (fun v k => ∃ as, Reads s'.heap v k as) ks kz)
    (fin : ∀ a kS ks s' h' tk out c, s.heap.objs.size ≤ kS → s.heap.objs.size ≤ a → J a kS ks s' → ks.length = vs.length → (∀ x o, x ≠ a → x ≠ kS → s'.heap.get? x = some o → h'.get? x = some o) → Bag a out c h' → KeyedOut b kz vs out → Q (.ref a) { s' with heap := h', toks := tk }) :
    wpAny (model prog w) A (call (.builtin "sorted") [.ref l] kw) Q E s := by
  refine sorted_of_sort hl hZ ha1 ha2 fun E' => ?_
  rw [ht]
  have up : ∀ {x : Addr} {o : Obj}, s.heap.get? x = some o → x ≠ s.heap.objs.size + 1 := fun {x o} e => Nat.ne_of_lt (Nat.lt_succ_of_lt (Heap.lt_size e))
  have more : s.heap.objs.size + 1 < (copyHeap s.heap vs).objs.size := Heap.lt_size (copyHeap_at s.heap vs)
  refine sk_tree (s := { s with heap := copyHeap s.heap vs }) (kz := kz) (n := 0) (J (s.heap.objs.size + 1)) (copyHeap_at s.heap vs) hlen hZ hal hsk hu (fun h' kS k hs => j0 h' _ kS (fun x o e => k x o (up e) (copyHeap_old e)) (Nat.le_of_lt (Nat.lt_of_lt_of_le (Nat.lt_of_succ_lt more) hs)) (Nat.le_succ _))
    (fun e1 kS i v k ks s' c hs => turn e1 _ kS i v k ks s' c (Nat.le_of_lt (Nat.lt_of_lt_of_le (Nat.lt_of_succ_lt more) hs)) (Nat.le_succ _) (Nat.ne_of_gt (Nat.lt_of_lt_of_le more hs))) (reads _)
    (fun kS ks s' h' tk out c hs hj hl2 k n ko => ⟨rfl, fin _ kS ks s' h' tk out c (Nat.le_of_lt (Nat.lt_of_lt_of_le (Nat.lt_of_succ_lt more) hs)) (Nat.le_succ _) hj hl2 k n ko⟩)
end
end Sc
namespace Sc
open PySem L2 NdefX PySem.W
/-- what may be a key: called with such data it gives kf's, and keeps what is ours -/
def KeyFn (X : Cx) (T : List NTab) (pl : List (Addr × Obj)) (Nt : Hp → Prop) (u : Value) (dom : PyData → Prop) (kf : PyData → PyData) : Prop := ∀ (pins : List (Addr × Obj)) (σ : L2.St) (H : Hp) (S : Addr → Prop) (s : Shared) (δ : List Sl) (d : PyData) (v : V) (r : Value), (∀ p ∈ pl, p ∈ pins) → Nt H → Inv X pins σ H s → Env X.K T H S σ δ → Dp X.K (vw H S) v d → dom d → RelV v r →
  wpAny (model X.prog X.w) X.A.in1.in1 (call u [r]) (fun q s' => ∃ x H' S', Inv X pins σ H' s' ∧ Go H S (Owned σ δ) H' S' (Owned σ δ) ∧ Env X.K T H' S' σ δ ∧ RelV x q ∧ Dp X.K (vw H' S') x (kf d)) (fun _ _ => False) s
section
variable {X : Cx} {T : List NTab} {δ δ1 : List Sl} {k : Nat} {f : Str} {dom : List PyData → Prop} {fn : List PyData → An} {kf : PyData → PyData}
theorem keyFn_def (D : Def X.prog X.w X.K X.mg X.base T k f [] (FnR 1 dom fn)) (hr : Room k X.A.in1.in1) {P : PyData → Prop} (h : ∀ d, P d → dom [d] ∧ fn [d] = .r (.d (kf d))) : ∃ fa, X.mg f = some (.ref fa) ∧ KeyFn X T [] (fun _ => True) (.ref fa) P kf := by
  obtain ⟨fa, fd, ps, dvs, ds, F, hm, hk, hb, hd, hdd⟩ := D.ex
  have e1 : dvs = [] := by
    cases hdd (fun _ => none) with
    | nil => rfl
  subst e1
  cases hd
  refine ⟨fa, hm, fun pins σ H S s δ d v r _ _ I E hv hp rr => ?_⟩
  obtain ⟨h1, h2⟩ := h d hp
  have rl : ResL X.K H (Owned σ δ) H S (Owned σ δ) σ [.r (.d d)] [v] := .cons hv .nil
  obtain ⟨ec, _⟩ := args_env (dds := []) (dvs := []) E rl rfl (fun _ => .nil)
  have sp : spM X.K T (FnR 1 dom fn) ([v] ++ []) H (fun x H' => ∃ S', Go H S (Owned σ δ) H' S' (Owned σ δ) ∧ Env X.K T H' S' σ δ ∧ Dp X.K (vw H' S') x (kf d)) (fun _ _ _ => False) := by
    refine ⟨_, .ret (.d (kf d)) ([d].map .d), S, ⟨[d], rfl, h1, rfl, by rw [h2]; rfl⟩, ec, fun x H' S' g e' rr2 => ?_⟩
    obtain ⟨g2, e2, _, _⟩ := call_back (dvs := []) (dds := []) (rs := [.r (.d d)]) (δ' := δ) E rl rfl (fun _ => .nil) g e' (bk_none rfl)
    exact ⟨S', g2, e2, rr2⟩
  have hl : ([r] ++ ([] : List Value)).length = ps.length := F.len _ _ _ _ sp
  refine wpAny_call (codeAny_mono (F.run X.A.in1.in1 X.stack s H ⟨[r], []⟩ ([r] ++ []) ([v] ++ []) _ _ hr I.env0.in1.in1 (hb s [r] I.kIn hl) (.cons rr .nil) sp) fun z s' hq => ?_)
  cases z with
  | error e =>
    obtain ⟨_, _, _, _, _, _, _, _, _, _, _, _, hF⟩ := hq
    exact hF
  | ok fl =>
    cases fl with
    | ret u =>
      obtain ⟨x, H', I', rx, S', g, e, q⟩ := I.after hq
      exact ⟨x, H', S', I', g, e, rx, q⟩
    | next => exact False.elim hq
    | brk => exact False.elim hq
    | cont => exact False.elim hq
end
end Sc
namespace Sc
open PySem L2 NdefX PySem.W PyProof.Rows PySem.Calls
theorem each_dp {K : PySem.W.Frag} {h : Hp} : ∀ {xs : List V} {ds : List PyData} {us : List Value}, DpAll K h xs ds → Vals xs us → EachIs (fun u d => ∃ x, RelV x u ∧ Dp K h x d) us ds
  | _, _, _, .nil, r => by cases r; exact .nil
  | _, _, _, .cons a b, r => by
    cases r with
    | cons r rr => exact .cons ⟨_, r, a⟩ (each_dp b rr)
theorem dp_each {K : PySem.W.Frag} {h : Hp} : ∀ {ds : List PyData} {us : List Value}, EachIs (fun u d => ∃ x, RelV x u ∧ Dp K h x d) us ds → ∃ xs, DpAll K h xs ds ∧ Vals xs us
  | _, _, .nil => ⟨[], .nil, .nil⟩
  | _, _, .cons ⟨x, r, a⟩ t => by
    obtain ⟨xs, h1, h2⟩ := dp_each t
    exact ⟨x :: xs, .cons a h1, .cons r h2⟩
theorem each_at {α β : Type} {R : α → β → Prop} : ∀ {as : List α} {bs : List β} {i : Nat} {a : α} {b : β}, EachIs R as bs → as[i]? = some a → bs[i]? = some b → R a b
  | _, _, _, _, _, .nil, e, _ => by simp at e
  | _, _, 0, _, _, .cons h _, e, e2 => by simp at e e2; subst e e2; exact h
  | _, _, i + 1, _, _, .cons _ t, e, e2 => each_at (i := i) t (by simpa using e) (by simpa using e2)
theorem each_reads {X : Cx} {pins : List (Addr × Obj)} {σ : L2.St} {H : Hp} {s : Shared} (I : Inv X pins σ H s) : ∀ {xs : List V} {ds : List PyData} {us : List Value}, DpAll X.K H xs ds → Vals xs us → EachIs (fun u d => ∃ as, Reads s.heap u d as) us ds
  | _, _, _, .nil, r => by cases r; exact .nil
  | _, _, _, .cons a b, r => by
    cases r with
    | cons r rr => exact .cons (Dp.reads I _ _ _ a r) (each_reads I b rr)
section
variable {X : Cx} {T : List NTab} {δ δ1 : List Sl}
def sortD (kf : PyData → PyData) (ds : List PyData) : List PyData := ds.mergeSort (dataLe false kf)
/-- sorted(a list, key=u) -/
theorem sort_run {pl pins : List (Addr × Obj)} {u : Addr} {P : PyData → Prop} {kf : PyData → PyData} {σ : L2.St} {H : Hp} {S : Addr → Prop} {s : Shared} {a : Addr} {xs : List V} {ds : List PyData} {Q : VK} {Nt : Hp → Prop} (KF : KeyFn X T pl Nt (.ref u) P kf) (hpl : ∀ p ∈ pl, p ∈ pins) (hnt : ∀ H' S', Go H S (Owned σ δ) H' S' (Owned σ δ) → Nt H') (I : Inv X pins σ H s) (E : Env X.K T H S σ δ)
    (hs : SqL X.K (vw H S) a xs) (hd : DpAll X.K (vw H S) xs ds) (hP : ∀ d ∈ ds, P d) (hal : AllAlike (ds.map kf)) (hsk : Sortable (ds.map kf)) (hu : ∀ d ∈ ds, X.A.units + 2 + (kf d).depth < cLine)
    (k : ∀ v H' S', Go H S (Owned σ δ) H' S' (Owned σ δ) → Env X.K T H' S' σ δ → Res X.K H (Owned σ δ) H' S' (Owned σ δ) (.o (.lst (sortD kf ds))) v → Q v H') :
    wpAny (model X.prog X.w) X.A (call (.builtin "sorted") [.ref a] [(Str.ofString "key", .ref u)]) (L2.EP X pins σ Q) X.xe s := by
  obtain ⟨its, rv, hl, hz⟩ := I.list (sql_real hs)
  have lx := dpAll_len hd
  have li : its.length = ds.length := by rw [← rv.length]; exact lx
  have ed := each_dp hd rv
  refine sorted_key (kz := ds.map kf) (b := false) (f := .ref u) (fun aL kS ks s' => ∃ H' S', Inv X pins σ H' s' ∧ FpOk X pins H' kS ∧ FpOk X pins H' aL ∧ Go H S (Owned σ δ) H' S' (Owned σ δ) ∧ Env X.K T H' S' σ δ ∧ ∃ us, Vals us ks ∧ DpAll X.K (vw H' S') us ((ds.take ks.length).map kf))
    hl.isList (by rw [List.length_map, li]) (by rw [li, ← lx]; exact hz) hal hsk (fun d hd' => by
      obtain ⟨y, hy, rfl⟩ := List.mem_map.mp hd'
      exact hu y hy) (ksk_s1 _ _) (fun x => ksk_l1 _ _) (fun x => ksk_t1 u x) ?_ ?_ ?_ ?_
  · intro h' aL kS up h1 h2
    exact ⟨H, S, I.kept (t' := s.toks) up, I.fpOk h1 (I.hok.fresh h1), I.fpOk h2 (I.hok.fresh h2), Go.refl _ _ _, E, [], .nil, by rw [List.length_nil, List.take_zero]; exact .nil⟩
  · rintro e1 aL kS i v kk ks s' c h1 h2 hne hv hk hlen ⟨H', S', I', f1, f2, g', E', us, r', d'⟩ bk ba
    rw [List.getElem?_map] at hk
    cases hdi : ds[i]? with
    | none => rw [hdi] at hk; cases hk
    | some y =>
      rw [hdi] at hk
      cases hk
      obtain ⟨x, rx, dx⟩ := each_at ed hv hdi
      have bare : ∀ (xs : List Value) (e : Nat) (w : Option Value), (seqObj "list" xs.toArray e).data ≠ .cell w := fun xs e w z => nomatch z
      have I2 := I'.pinned (fp := [kS, aL]) (fun b hb => by
        rcases List.mem_cons.mp hb with e | hb
        · rw [e]; exact f1
        · rw [List.mem_singleton.mp hb]; exact f2) (fun b hb => by
        rcases List.mem_cons.mp hb with e | hb
        · rw [e]; exact ⟨_, bk, bare _ _⟩
        · rw [List.mem_singleton.mp hb]; exact ⟨_, ba, bare _ _⟩)
      refine wpAny_mono (KF _ σ H' S' s' δ y x v (fun p hp => List.mem_append_left _ (hpl p hp)) (hnt H' S' g') I2 E' (dp_mono g'.mono dx) (hP y (List.mem_of_getElem? hdi)) rx) (fun q s2 ⟨z, H2, S2, I3, g3, E3, rz, dz⟩ => ?_) fun _ _ z => z
      have pk := I3.pin (kS, _) (List.mem_append_right _ (List.mem_append_right _ (mem_pinsAt (fp := [kS, aL]) (by simp) bk)))
      have pa := I3.pin (aL, _) (List.mem_append_right _ (List.mem_append_right _ (mem_pinsAt (fp := [kS, aL]) (by simp) ba)))
      refine ⟨pk.1, pa.1, fun h' sb => ?_⟩
      have f1' : FpOk X pins H2 kS := ⟨pk.2.1, f1.2⟩
      have f2' : FpOk X pins H2 aL := ⟨pa.2.1, f2.2⟩
      have I4 : Inv X pins σ H2 s2 := I3.unpinned
      have I5 : Inv X pins σ H2 { s2 with heap := h' } := I4.turnedL (t' := s2.toks) (ch := [kS]) (fun b o hb e => (sb.2 b fun z => hb (by simp [z])).trans e) fun b hb => by rw [List.mem_singleton.mp hb]; exact f1'
      refine ⟨H2, S2, I5, f1', f2', g'.trans g3, E3, us ++ [z], r'.append (.cons rz .nil), ?_⟩
      have et : ds.take (ks ++ [q]).length = ds.take i ++ [y] := by
        rw [List.length_append, hlen, List.length_singleton, List.take_add_one, hdi]
        rfl
      rw [et, List.map_append]
      rw [hlen] at d'
      exact dpAll_app (dpAll_mono g3.mono d') (.cons dz .nil)
  · rintro aL kS ks s' ⟨H', S', I', _, _, _, _, us, r', d'⟩ hlen
    rw [hlen, li, List.take_length] at d'
    exact each_reads I' (dpAll_real d') r'
  · rintro aL kS ks s' h' tk out c h1 h2 ⟨H', S', I', f1, f2, g', E', us, r', d'⟩ hlen kp bo ko
    have I2 : Inv X pins σ H' { s' with heap := h', toks := tk } := I'.turnedL (t' := tk) (ch := [aL, kS]) (fun b o hb e => kp b o (fun z => hb (by simp [z])) (fun z => hb (by simp [z])) e) fun b hb => by
      rcases List.mem_cons.mp hb with e | hb
      · rw [e]; exact f2
      · rw [List.mem_singleton.mp hb]; exact f1
    have eo := keyedOut_each (rev := false) (bs := ds) kf ko ed
    obtain ⟨ys, dy, ry⟩ := dp_each eo
    have hly : ys.length ≤ sizeLine := by
      rw [dpAll_len dy, List.length_mergeSort, ← lx]
      exact hz
    have I3 := I2.take (h' := h') (t' := tk) (it := aL) (o := .lst ys) (fun b o _ e => e) f2 ⟨hly, out, c, ry, bo⟩
    obtain ⟨g2, e2, x2⟩ := new_lsto (vs := ys) (ds := sortD kf ds) E' f2.1 (dpAll_mono g'.mono dy)
    exact ⟨.ref aL, _, I3, rfl, k _ _ _ (g'.trans g2) e2 (x2.back g'.keep g'.ow)⟩
end
end Sc
namespace Sc
open PySem L2 NdefX PySem.W
section
variable {X : Cx} {T : List NTab} {δ δ1 : List Sl} {W : WX} {k m : Nat} {f : Str} {dom : List PyData → Prop} {fn : List PyData → An} {kf : PyData → PyData} {e : Expr} {p pf kpos pos : Pos}
/-- the room that a key takes -/
theorem Cok.in2 (C : Cok X W (k + 2)) : Room k X.A.in1.in1 := C.room.in1.in1
/-- sorted(xs, key=a def) -/
theorem ev_sortK (C : Cok X W m) (B : Bi X.mg) (D : Def X.prog X.w X.K X.mg X.base T k f [] (FnR 1 dom fn)) (hm : k + 2 ≤ m) {ds : List PyData} (he : EV X T e δ (.d (.list ds)) δ1) (hd : ∀ d ∈ ds, dom [d] ∧ fn [d] = .r (.d (kf d))) (hal : AllAlike (ds.map kf)) (hsk : Sortable (ds.map kf)) (hu : ∀ d ∈ ds, (kf d).depth ≤ 60)
    (hg : Gl X "sorted" := by rfl) (hgf : Gl X f := by rfl) (hdb : (f == ("__debug__" : Str)) = false := by decide) (hs1 : starEach [e] X.env = (false, eval e X.env) :: starEach [] X.env := by rfl) (hs : backTo pos (starEach [e] X.env) = (false, eval e X.env) :: backTo pos (starEach [] X.env) := by rfl) (hpl : (backTo pos (starEach [e] X.env)).any (·.1) = false := by rfl)
    (hall : (backToKw pos (keywordEach [⟨some (Str.ofString "key"), .Name f pf, kpos⟩] X.env)).all (·.1.isSome) = true := by rfl) (hnone : (backToKw pos (keywordEach [⟨some (Str.ofString "key"), .Name f pf, kpos⟩] X.env)).any (·.1.isNone) = false := by rfl) (hks : (backToKw pos (keywordEach [⟨some (Str.ofString "key"), .Name f pf, kpos⟩] X.env)).filterMap (·.1) = [Str.ofString "key"] := by rfl) :
    EV X T (.Call (.Name "sorted" p) [e] [⟨some (Str.ofString "key"), .Name f pf, kpos⟩] pos) δ (.o (.lst (sortD kf ds))) δ1 := fun σ H S Q E kk pins s I => by
  obtain ⟨fa, hmf, KF⟩ := keyFn_def (P := fun d => d ∈ ds) (kf := kf) D ((C.room.mono hm).in1.in1) hd
  have we := he σ H S (fun v H1 => ∃ S1, Go H S (Owned σ δ) H1 S1 (Owned σ δ1) ∧ Env X.K T H1 S1 σ δ1 ∧ Pin σ δ σ δ1 ∧ Res X.K H (Owned σ δ) H1 S1 (Owned σ δ1) (.d (.list ds)) v) E (fun v H1 S1 g e p r => ⟨S1, g, e, p, r⟩)
  refine wpAny_Call_Name_kw (ld_blt (u := .builtin "sorted") I hg B.sorted (by decide +kernel) ?_)
  refine PyProof.Rows.callWith_kw ?_ hs hpl hall hnone
  refine thn ((pa_cons pe_w pa_nil hs1).run pos pins s σ H _ I (show tCons (wE X e) tNil σ H (fun us H1 => ∃ v, us = [v] ∧ ∃ S1, Go H S (Owned σ δ) H1 S1 (Owned σ δ1) ∧ Env X.K T H1 S1 σ δ1 ∧ Pin σ δ σ δ1 ∧ Res X.K H (Owned σ δ) H1 S1 (Owned σ δ1) (.d (.list ds)) v) from we_mono we fun v H1 q => ⟨v, rfl, q⟩)) fun us s1 ⟨vs, H1, I1, r1, v, ev, S1, g1, e1, p1, x1⟩ => ?_
  subst ev
  obtain ⟨u, rfl, ru⟩ := r1.one
  refine thn ((pk_cons (pe_glob hgf hmf (v := V.ref fa) rfl hdb) pk_nil).run pos pins s1 σ H1 (fun zs H2 => zs = [V.ref fa] ∧ H2 = H1) I1 ⟨rfl, rfl⟩) fun ws s2 ⟨zs, H2, I2, r2, ez, eH⟩ => ?_
  subst ez eH
  obtain ⟨w, rfl, rw'⟩ := r2.one
  obtain rfl : w = Value.ref fa := rw'
  obtain ⟨a, xs, rfl, hq, hd1⟩ := res_list x1
  obtain rfl : u = Value.ref a := ru
  rw [hks]
  refine sort_run (pl := []) KF (fun _ z => nomatch z) (fun _ _ _ => True.intro) I2 e1 hq hd1 (fun _ h => h) hal hsk (fun d hd2 => ?_) fun v H' S' g e p => kk v H' S' (g1.trans g) e p1 (p.back g1.keep g1.ow)
  have := C.room.un
  have := hu d hd2
  omega
end
end Sc
namespace Sc
open PySem L2 NdefX PySem.W
section
variable {X : Cx} {T : List NTab} {k : Nat} {N : List Str} {a : Str} {f c' : Addr} {q : Str} {params : Arguments} {body : Expr} {scope : Scope} {pm ctv : Value} {P : PyData → Prop} {kf : PyData → PyData}
def lamF (q : Str) (params : Arguments) (scope : Scope) (c' : Addr) : NF := ⟨"<lambda>", q, params, [], scope, [], c'⟩
abbrev lamX (X : Cx) (N : List Str) (q : Str) (params : Arguments) (scope : Scope) (c' f : Addr) (A : Around) (outer : List PySem.Env) (s : Shared) (H : Hp) (E : XK) : Cx := ncx (L2.CX X.prog X.w) X.prog X.w X.K X.mg X.base N (lamF q params scope c') f A outer s H E
theorem keyFn_lam (S : NScope N [a] [] scope) (hb : ∀ (pm cv ctv : Value) (us : List Value), us.length = 1 → bindArgs (kla_fn "<lambda>" q params body scope [] pm cv ctv) ⟨us, []⟩ = pure ([a].zip us)) (hr : Room (k + 1) X.A.in1.in1)
    (hbody : ∀ (A : Around) (outer : List PySem.Env) (s : Shared) (H : Hp) (E : XK), Cok (lamX X N q params scope c' f A outer s H E) (fun cls d _ H => E cls d H) k → ∀ d, P d → EV (lamX X N q params scope c' f A outer s H E) T body (.d d :: List.replicate (N.length - 1) .no) (.d (kf d)) (.d d :: List.replicate (N.length - 1) .no)) :
    KeyFn X T [(f, kla_obj "<lambda>" q params body scope [] pm c' ctv)] (fun H => H c' = some (LamX.CodeO c' q)) (.ref f) P kf := by
  intro pins σ H S0 s δ d v r hpl hnt I E hv hp rr
  have ho : s.heap.get? f = some (kla_obj "<lambda>" q params body scope [] pm c' ctv) := (I.pin (f, _) (List.mem_append_right _ (hpl _ (List.mem_singleton.mpr rfl)))).1
  have rl : ResL X.K H (Owned σ δ) H S0 (Owned σ δ) σ [.r (.d d)] [v] := .cons hv .nil
  obtain ⟨ec, _⟩ := args_env (dds := []) (dvs := []) E rl rfl (fun _ => .nil)
  have ec1 : Env X.K T H S0 ([v].map some) [.d d] := ec
  obtain ⟨es, ef⟩ := env_start (n := N.length - 1) ec1
  have lim : s.heap.NoLimit := I.nolimit
  have rc : codeAny (model X.prog X.w) X.A.in1.in1 (.call (.ref f) ⟨[r], []⟩) (CR (L2.CX X.prog X.w) X.stack X.prog X.w H s (fun x H' => ∃ S', Go H S0 (Owned σ δ) H' S' (Owned σ δ) ∧ Env X.K T H' S' σ δ ∧ Dp X.K (vw H' S') x (kf d)) (fun _ _ _ => False)) s := by
    refine kla_callFunE hr.depth ho rfl S.co S.gen rfl (codeO_at I.hok hnt) ?_
    rw [hb _ _ _ [r] rfl]
    refine wpAny_pure (wpAny_newFunctionEnv S.nocell (fun ⟨n, _⟩ hy => S.par n (List.of_mem_zip hy).1) (fun h₁ hns hsb => ⟨lim.fresh _ hsb, ?_⟩) S.kind)
    show codeAny _ _ (.expr body (envF (lamF q params scope c') f s.heap.objs.size)) _ _
    refine kla_codeExpr ?_
    have kp : ∀ b o, s.heap.get? b = some o → h₁.get? b = some o := fun b o e => hsb.extBut b o (Nat.ne_of_lt (Heap.lt_size e)) (Heap.get?_push_of_some _ e)
    have C : CellsAt (lamF q params scope c').cl [] [] s.heap H := ⟨rfl, fun y c e => (nomatch e), fun x y c e => (nomatch e), fun i y e => (nomatch (show none = some y from e))⟩
    have I2 : Inv (lamX X N q params scope c' f X.A.in1.in1 X.stack s H fun _ _ _ => False) [] (startF N [v] []) H { s with heap := h₁, toks := s.toks + ([a].zip [r]).length } := inv_startN (F := lamF q params scope c') S hr.hd I.env0.in1.in1 rfl (.cons rr .nil) C hns kp
    have ok : Cok (lamX X N q params scope c' f X.A.in1.in1 X.stack s H fun _ _ _ => False) (fun cls d _ H => False) k := ⟨S.nd, rfl, passes_of rfl, takes_of rfl rfl rfl rfl, hr.deeper _⟩
    refine wpAny_mono (hbody X.A.in1.in1 X.stack s H (fun _ _ _ => False) ok d hp (startF N [v] []) H S0 (fun x H' => ∃ S', Go H S0 (Owned σ δ) H' S' (Owned σ δ) ∧ Env X.K T H' S' σ δ ∧ Dp X.K (vw H' S') x (kf d)) es (fun x H' S' g e' p' rr2 => ?_) [] _ I2) (fun u s' ⟨x, H', J, rv, qq⟩ => ⟨x, H', J.os, J.bare, J.base, J.hok, rv, qq⟩) fun e s' h => h
    have pO : Owned (startF N [v] []) (.d d :: List.replicate (N.length - 1) .no) = Owned ([v].map some) [.d d] := funext fun z => propext (ef z)
    rw [pO] at g
    obtain ⟨e2, up⟩ := outs_env ec1 e' g.mono p' (outs_data (fun s hs => by
      rw [List.mem_singleton.mp hs]
      rfl))
    obtain ⟨g3, e3, _, _⟩ := call_back (dvs := []) (dds := []) (rs := [.r (.d d)]) (δc := [.d d]) (δ' := δ) E rl rfl (fun _ => .nil) g e2 (bk_none rfl)
    exact ⟨S', g3, e3, rr2⟩
  refine wpAny_call (codeAny_mono rc fun z s' hq => ?_)
  cases z with
  | error e =>
    obtain ⟨_, _, _, _, _, _, _, _, _, _, _, _, hF⟩ := hq
    exact hF
  | ok fl =>
    cases fl with
    | ret u =>
      obtain ⟨x, H', I', rx, S', g, e, qd⟩ := I.after hq
      exact ⟨x, H', S', I', g, e, rx, qd⟩
    | next => exact False.elim hq
    | brk => exact False.elim hq
    | cont => exact False.elim hq
end
end Sc
namespace Sc
open PySem L2 NdefX PySem.W
/-- tables of code objects that bear one name each -/
def tabsOf (T : List (Addr × Str)) : List NTab := T.map fun p => (p.1, fun _ _ => p.2)
theorem tabs_to {T : List (Addr × Str)} {H : Hp} (h : TabsN (tabsOf T) H) : LamX.Tabs T H := fun p hp => h _ (List.mem_map.mpr ⟨p, hp, rfl⟩)
theorem tabs_of {T : List (Addr × Str)} {H : Hp} (h : LamX.Tabs T H) : TabsN (tabsOf T) H := fun p hp => by
  obtain ⟨q, hq, rfl⟩ := List.mem_map.mp hp
  exact h q hq
section
variable {X : Cx} {T : List (Addr × Str)} {δ δ1 : List Sl} {W : WX} {k m : Nat} {N : List Str} {a : Str} {c P : Addr} {kf : PyData → PyData} {e body : Expr} {params : Arguments} {scope : Scope} {p lpos kpos pos : Pos}
theorem ext_go {K : PySem.W.Frag} {T : List NTab} {H H1 : Hp} {S : Addr → Prop} {σ : L2.St} (E : Env K T H S σ δ) (x : LamX.ExtN H H1) (t : TabsN T H1) : Go H S (Owned σ δ) H1 S (Owned σ δ) ∧ Env K T H1 S σ δ := by
  have mo : Same (vw H S) (vw H1 S) := fun b u e => by
    obtain ⟨hS, w, hw, hc⟩ := vw_some e
    rw [vw_out hS, x b w hw (fun ps z => by rw [z] at hc; cases hc)]
    exact hc
  refine ⟨⟨mo, fun b o _ e n => x b o e n, fun _ h _ _ => h, fun _ h => .inl h⟩, E.move mo (fun q hq => ?_) (fun q hq => E.sub q hq) t⟩
  cases eq : H q with
  | none => exact absurd (Fresh.of eq) (E.old hq)
  | some o => exact x q o eq fun ps z => E.old hq fun o' e' => by rw [eq] at e'; cases e'; exact ⟨ps, z⟩
theorem fresh_pin {pins : List (Addr × Obj)} {σ : L2.St} {H : Hp} {s : Shared} {f : Addr} {fd : FuncData} {o : Obj} (I : Inv X pins σ H s) (hf : s.heap.get? f = some o) (hd : o.data = .func fd) (hn : H f = none) (hs : f ∉ frs X.stack) : Inv X (pins ++ [(f, o)]) σ H s := I.pins_of fun q hq => by
  rcases List.mem_append.mp hq with hq | hq
  · exact I.pin q (List.mem_append_right _ hq)
  · rw [List.mem_singleton.mp hq]
    refine ⟨hf, hn, fun z => ?_, fun z => hs ?_, fun v z => by rw [hd] at z; cases z⟩
    · obtain ⟨mm, ⟨o', es, ep, ho', hd', _⟩, _⟩ := I.loc
      have z : f = X.env.locals := z
      rw [z, ho'] at hf
      cases hf
      rw [hd'] at hd
      cases hd
    · rcases I.ok.stk with e | ⟨e, hfr⟩
      · rw [e]; exact z
      · rw [e]
        unfold frs
        rw [List.filterMap_cons, hfr]
        exact List.mem_cons_of_mem _ z
/-- sorted(xs, key=lambda a: ..) -/
theorem ev_sortL (C : Cok X W m) (B : Bi X.mg) (TB : LamX.TabB X.base X.mg c P) (hcode : X.env.code = .ref c) (hmT : (P, X.env.qual ++ "<lambda>") ∈ T) (hu1 : ∀ p ∈ T, p.1 = P → p.2 = X.env.qual ++ "<lambda>") (hm : k + 3 ≤ m) (S : NScope N [a] [] scope) {D : PyData → Prop}
    (hbody : ∀ (f c' : Addr) (A : Around) (outer : List PySem.Env) (s : Shared) (H : Hp) (E : XK), Cok (lamX X N (X.env.qual ++ "<lambda>") params scope c' f A outer s H E) (fun cls d _ H => E cls d H) k → ∀ d, D d → EV (lamX X N (X.env.qual ++ "<lambda>") params scope c' f A outer s H E) (tabsOf T) body (.d d :: List.replicate (N.length - 1) .no) (.d (kf d)) (.d d :: List.replicate (N.length - 1) .no))
    {ds : List PyData} (he : EV X (tabsOf T) e δ (.d (.list ds)) δ1) (hD : ∀ d ∈ ds, D d) (hal : AllAlike (ds.map kf)) (hsk : Sortable (ds.map kf)) (hu : ∀ d ∈ ds, (kf d).depth ≤ 60)
    (hfr : ∀ y ∈ scope.names, y.2 ≠ .free := by decide) (hdef : defaultsOf params X.env = ([], []) := by rfl) (hb : ∀ (q : Str) (pm cv ctv : Value) (us : List Value), us.length = 1 → bindArgs (kla_fn "<lambda>" q params body scope [] pm cv ctv) ⟨us, []⟩ = pure ([a].zip us))
    (hcl : cloFrom X.env.cells scope.names [] = [] := by rfl) (hg : Gl X "sorted" := by rfl) (hs1 : starEach [e] X.env = (false, eval e X.env) :: starEach [] X.env := by rfl) (hs : backTo pos (starEach [e] X.env) = (false, eval e X.env) :: backTo pos (starEach [] X.env) := by rfl) (hpl : (backTo pos (starEach [e] X.env)).any (·.1) = false := by rfl)
    (hall : (backToKw pos (keywordEach [⟨some (Str.ofString "key"), .Lambda params body scope lpos, kpos⟩] X.env)).all (·.1.isSome) = true := by rfl) (hnone : (backToKw pos (keywordEach [⟨some (Str.ofString "key"), .Lambda params body scope lpos, kpos⟩] X.env)).any (·.1.isNone) = false := by rfl) (hks : (backToKw pos (keywordEach [⟨some (Str.ofString "key"), .Lambda params body scope lpos, kpos⟩] X.env)).filterMap (·.1) = [Str.ofString "key"] := by rfl) :
    EV X (tabsOf T) (.Call (.Name "sorted" p) [e] [⟨some (Str.ofString "key"), .Lambda params body scope lpos, kpos⟩] pos) δ (.o (.lst (sortD kf ds))) δ1 := fun σ H S0 Q E kk pins s I => by
  have we := he σ H S0 (fun v H1 => ∃ S1, Go H S0 (Owned σ δ) H1 S1 (Owned σ δ1) ∧ Env X.K (tabsOf T) H1 S1 σ δ1 ∧ Pin σ δ σ δ1 ∧ Res X.K H (Owned σ δ) H1 S1 (Owned σ δ1) (.d (.list ds)) v) E (fun v H1 S1 g e p r => ⟨S1, g, e, p, r⟩)
  refine wpAny_Call_Name_kw (ld_blt (u := .builtin "sorted") I hg B.sorted (by decide +kernel) ?_)
  refine PyProof.Rows.callWith_kw ?_ hs hpl hall hnone
  refine thn ((pa_cons pe_w pa_nil hs1).run pos pins s σ H _ I (show tCons (wE X e) tNil σ H (fun us H1 => ∃ v, us = [v] ∧ ∃ S1, Go H S0 (Owned σ δ) H1 S1 (Owned σ δ1) ∧ Env X.K (tabsOf T) H1 S1 σ δ1 ∧ Pin σ δ σ δ1 ∧ Res X.K H (Owned σ δ) H1 S1 (Owned σ δ1) (.d (.list ds)) v) from we_mono we fun v H1 q => ⟨v, rfl, q⟩)) fun us s1 ⟨vs, H1, I1, r1, v, ev, S1, g1, e1, p1, x1⟩ => ?_
  subst ev
  obtain ⟨u, rfl, ru⟩ := r1.one
  obtain ⟨l, xs, rfl, hq, hd1⟩ := res_list x1
  obtain rfl : u = Value.ref l := ru
  rw [hks]
  show wpAny _ _ (evalAll [do let v ← eval (.Lambda params body scope lpos) X.env; standAt pos; pure v]) _ _ s1
  refine wpAny_evalAll_cons (wpAny_bind (LamX.lam_make2 I1 TB hcode hmT hu1 (tabs_to e1.tabs) hdef (fun y hy z => absurd z (hfr y hy)) fun f c' pm ctv H2 s2 I2 ex T2 hf hfn hfs hco => wpAny_bind (wpAny_standAt (wpAny_pure ?_))))
  refine wpAny_evalAll_nil ?_
  rw [hcl] at hf
  obtain ⟨g2, e2⟩ := ext_go e1 ex (tabs_of T2)
  have I3 := fresh_pin I2 hf rfl hfn hfs
  have KF : KeyFn X (tabsOf T) [(f, kla_obj "<lambda>" (X.env.qual ++ "<lambda>") params body scope [] pm c' ctv)] (fun H => H c' = some (LamX.CodeO c' (X.env.qual ++ "<lambda>"))) (.ref f) D kf :=
    keyFn_lam (k := k) S (fun pm cv ctv us h => hb _ pm cv ctv us h) ((C.room.mono hm).in1.in1) (fun A outer s H E C d hd => hbody f c' A outer s H E C d hd)
  have nown : ∀ q, Owned σ δ1 q → q ≠ c' := fun q hq z => by
    obtain ⟨i, sl, w, a1, a2, a3⟩ := hq
    obtain ⟨q', b1, b2⟩ := e2.own i sl w a1 a2
    rw [a3] at b1
    cases b1
    rw [z, hco] at b2
    cases w with
    | lst xs => obtain ⟨_, z1, _⟩ := b2; unfold LamX.CodeO at z1; cases z1
    | dk xs => obtain ⟨_, z1, _⟩ := b2; unfold LamX.CodeO at z1; cases z1
    | fk od r xs => obtain ⟨z1, _⟩ := b2; unfold LamX.CodeO at z1; cases z1
    | dt xs => obtain ⟨_, z1, _⟩ := b2; unfold LamX.CodeO at z1; cases z1
    | ft od r xs => obtain ⟨z1, _⟩ := b2; unfold LamX.CodeO at z1; cases z1
  refine thn (sort_run KF (fun q hq => List.mem_append_right _ hq) (fun H' S' g => g.keep c' _ (fun z => nown _ z rfl) hco fun ps z => LamX.codeO_ne ps z) I3 e2 (same_sql g2.mono hq) (dpAll_mono g2.mono hd1) hD hal hsk (fun d hd2 => ?_) (Q := Q) fun v H' S' g e p => kk v H' S' ((g1.trans g2).trans g) e p1 ((p.back g2.keep g2.ow).back g1.keep g1.ow)) fun v s4 ⟨x, H4, I4, rx, q4⟩ => ⟨x, H4, I4.unpinned, rx, q4⟩
  have := C.room.un
  have := hu d hd2
  omega
end
end Sc
namespace Sc
open PySem L2 NdefX
/-! #### defs that make lambdas: the code object and its table told -/
/-- the def x is there as the text has it; c its code object, P the code object's table -/
structure TxtC (K : PySem.W.Frag) (mg : Str → Option Value) (x : Str) (st : Stmt) (c P : Addr) : Prop where
  ex : ∃ (f : Addr) (oc : Value) (od : Option Addr) (kV doc pm : Value) (an : Option Addr) (ct : Value) (osl : Array (Option Value)), K.lookup f = some ⟨oc, od, .func (PySem.W.fnOf x x (defArgs st) (defBody st) (defScope st) .none kV doc pm an (.ref c) ct), osl⟩ ∧ PySem.W.codeIn K (.ref c) x = true ∧ PySem.W.keepIn K (.ref f) = true ∧ mg x = some (.ref f)
  tab : ∃ (e : Value) (dd : Option Addr) (vs : Array Value) (sl : Array (Option Value)), K.lookup c = some ⟨e, dd, .fields vs, sl⟩ ∧ vs[11]? = some (.ref P)
  out : K.lookup P = none
section
variable {P : Program} {w : World} {K : PySem.W.Frag} {mg : Str → Option Value} {base : Heap} {T : List NTab}
theorem fn_mkC {x : Str} {st : Stmt} {f c : Addr} {oc : Value} {od : Option Addr} {kV doc pm : Value} {an : Option Addr} {ct : Value} {osl : Array (Option Value)} {N ps : List Str} {k : Nat} {R : List Sl → Out → Prop} (lk : K.lookup f = some ⟨oc, od, .func (PySem.W.fnOf x x (defArgs st) (defBody st) (defScope st) .none kV doc pm an (.ref c) ct), osl⟩) (hcd : PySem.W.codeIn K (.ref c) x = true) (S : FnScope N ps (defScope st)) (hR : ∀ δ o, R δ o → δ.length = ps.length)
    (hb : ∀ (A : Around) (outer : List PySem.Env) (s : Shared) (H : Hp) (E : XK), Cok (cxOf (L2.CX P w) P w K mg base N x (defScope st) f (.ref c) A outer s H E) (fun cls d _ H => E cls d H) k → ∀ δ o, R δ o →
      ∃ of, SVs (cxOf (L2.CX P w) P w K mg base N x (defScope st) f (.ref c) A outer s H E) T (fun cls d _ H => E cls d H) (defBody st) (δ ++ List.replicate (N.length - ps.length) .no) of ∧ Fin δ of o) :
    FnOk P w K mg base (L2.CX P w) (k + 1) f (PySem.W.fnOf x x (defArgs st) (defBody st) (defScope st) .none kV doc pm an (.ref c) ct) ps (spM K T R) := by
  have len : ∀ vs H Q E, spM K T R vs H Q E → vs.length = ps.length := fun vs H Q E ⟨δ, o, S, hr, e, _⟩ => by
    have q := e.len
    rw [List.length_map] at q
    rw [q]
    exact hR δ o hr
  refine ⟨len, fun A outer s H args us vs Q E hr e0 hbd r h => LamX.run_ofS (N := N) (ps := ps) lk hcd S hr e0 hbd r (len _ _ _ _ h) fun hr2 => ⟨wSs _ _, pss_w, ?_⟩⟩
  have lv := len vs H Q E h
  obtain ⟨δ, o, S0, hRo, e, h⟩ := h
  obtain ⟨of, hs, hf⟩ := hb A outer s H E ⟨S.nd, rfl, passes_of rfl, takes_of rfl rfl rfl rfl, hr2⟩ δ o hRo
  have st0 : L2.start N vs = vs.map some ++ List.replicate (N.length - ps.length) none := by
    unfold L2.start
    rw [lv]
  obtain ⟨es, ef⟩ := env_start (n := N.length - ps.length) e
  rw [st0]
  refine hs _ H S0 _ es ?_
  have pO : Owned (vs.map some ++ List.replicate (N.length - ps.length) none) (δ ++ List.replicate (N.length - ps.length) .no) = Owned (vs.map some) δ := funext fun q => propext (ef q)
  cases hf with
  | ret oo =>
    intro v σ' H' S' g e' p r
    rw [pO] at g r
    obtain ⟨e2, up⟩ := outs_env e e' g.mono p oo
    refine h v H' S' ⟨g.mono, g.keep, g.up, fun a ha => g.ow a (up a ha)⟩ e2 ?_
    cases ‹Sl› with
    | o w0 =>
      obtain ⟨q, a, b, c, d⟩ := r
      exact ⟨q, a, b, fun z => c (up q z), d⟩
    | _ => exact r
  | nx oo =>
    intro σ' H' S' g e' p
    rw [pO] at g
    obtain ⟨e2, up⟩ := outs_env e e' g.mono p oo
    exact h _ H' S' ⟨g.mono, g.keep, g.up, fun a ha => g.ow a (up a ha)⟩ e2 .non
  | ex oo =>
    intro cls d σ' H' S' g e' p i
    rw [pO] at g
    obtain ⟨e2, up⟩ := outs_env e e' g.mono p oo
    exact h cls d H' S' ⟨g.mono, g.keep, g.up, fun a ha => g.ow a (up a ha)⟩ e2 i
/-- THE RULE for such a def over data -/
theorem def_fnC {x : Str} {st : Stmt} {c Pt : Addr} {N ps : List Str} {k n : Nat} {dom : List PyData → Prop} {f : List PyData → An} (S : TxtC K mg x st c Pt) (Sc : FnScope N ps (defScope st)) (hn : ps.length = n)
    (bd : ∀ (kV doc pm : Value) (an : Option Addr) (cdv ct : Value) (us : List Value), us.length = ps.length → bindArgs (PySem.W.fnOf x x (defArgs st) (defBody st) (defScope st) .none kV doc pm an cdv ct) ⟨us, []⟩ = pure (ps.zip us))
    (hb : ∀ (fa : Addr) (A : Around) (outer : List PySem.Env) (s : Shared) (H : Hp) (E : XK), Cok (cxOf (L2.CX P w) P w K mg base N x (defScope st) fa (.ref c) A outer s H E) (fun cls d _ H => E cls d H) k → ∀ ds : List PyData, ds.length = n → dom ds →
      ∃ of, SVs (cxOf (L2.CX P w) P w K mg base N x (defScope st) fa (.ref c) A outer s H E) T (fun cls d _ H => E cls d H) (defBody st) (ds.map .d ++ List.replicate (N.length - n) .no) of ∧ EndsAs of (f ds)) : Def P w K mg base T (k + 1) x [] (FnR n dom f) := by
  obtain ⟨fa, oc, od, kV, doc, pm, an, ct, osl, lk, hcd, kp, hm⟩ := S.ex
  subst hn
  refine ⟨fa, _, ps, [], [], fn_mkC lk hcd Sc (fun δ o ⟨ds, h1, _, h3, _⟩ => by rw [h3, List.length_map, h1]) fun A outer s H E C δ o ⟨ds, h1, h2, h3, h4⟩ => ?_, hm, kp, L2.Binds.all fun us hl => bd kV doc pm an (.ref c) ct us hl, .nil, fun _ => .nil⟩
  subst h3 h4
  obtain ⟨of, a, b⟩ := hb fa A outer s H E C ds h1 h2
  exact ⟨of, a, ends_fin data_own b⟩
end
end Sc
namespace Sc
open PySem L2 NdefX
/-! #### the law's end with tables -/
/-- the def x's code object has an empty table -/
def TabledX (mg : Str → Option Value) (x : Str) (h : Heap) : Prop := ∃ a o fd c P, mg x = some (.ref a) ∧ h.get? a = some o ∧ o.data = .func fd ∧ fd.code = .ref c ∧ h.IsCode c P #[] ∧ h.TableAt c P #[]
theorem tabled {K : PySem.W.Frag} {mg : Str → Option Value} {x : Str} {st : Stmt} {c P : Addr} {h : Heap} (S : TxtC K mg x st c P) (KX : K.In h) (t : TabledX mg x h) : h.get? P = some { cls := .none, data := .fields #[] } ∧ K.lookup P = none ∧ PySem.W.CodeHd h c P := by
  obtain ⟨f, oc, od, kV, doc, pm, an, ct, osl, lk, _, _, hm⟩ := S.ex
  obtain ⟨e, dd, vs, sl, l2, h11⟩ := S.tab
  obtain ⟨a, o, fd, c2, P2, h1, h2, h3, h4, h5, h6⟩ := t
  rw [hm] at h1
  cases h1
  have g1 := KX _ _ lk
  rw [g1] at h2
  cases h2
  cases h3
  cases h4
  have g2 := KX _ _ l2
  have h6' := h6
  obtain ⟨⟨oo, ws, e1, e2, e3, e4⟩, hP⟩ := h6
  rw [g2] at e1
  cases e1
  cases e3
  rw [h11] at e4
  cases e4
  exact ⟨hP, S.out, PySem.W.CodeHd.of h5 h6'⟩
theorem law_spT {K : PySem.W.Frag} {T : List NTab} {H : Hp} {a : Addr} {ns : List Int} (hl : ns.length ≤ 63) (hb : ∀ z ∈ ns, Builtin.Int.intBits z ≤ 1048576) (ht : TabsN T H) (h : SqL K H a (ns.map V.int)) : spM K T (FnR 1 Script fun _ => .r (.d (.bool true))) [.ref a] H (fun v _ => v = .bl true) fun _ _ _ => False := by
  refine ⟨[.d (.list (ns.map .int))], .ret (.d (.bool true)) [.d (.list (ns.map .int))], fun _ => False, ⟨[.list (ns.map .int)], rfl, ⟨ns, hl, hb, rfl⟩, rfl, rfl⟩, ?_, fun v H' S' _ _ r => res_bool r⟩
  have no : ∀ (i : Nat) (s : Sl) (w : Ow), ([.d (.list (ns.map .int))] : List Sl)[i]? = some s → s.ow = some w → False := fun i s w h1 h2 => by
    cases i with
    | zero => cases h1; cases h2
    | succ i => cases h1
  refine ⟨rfl, fun q ⟨i, s, w, h1, h2, _⟩ => (no i s w h1 h2).elim, fun i x h1 => ?_, fun i v h1 => ?_, fun i s w h1 h2 => (no i s w h1 h2).elim, fun i j s t w u p _ h1 h2 => (no i s w h1 h2).elim, ht⟩
  · cases i with
    | zero => cases h1; exact ⟨.ref a, rfl, .lst (vw_empty h) (ints_all ns)⟩
    | succ i => cases h1
  · cases i with
    | zero => cases h1
    | succ i => cases h1
theorem law_atT {l : PySem.W.OpenLaw} {w : World} {K : PySem.W.Frag} {mg : Str → Option Value} {fa : Addr} {h : Heap} {st : Stmt} {N : List Str} {k : Nat} {y x : Str} {cs : List (Addr × Addr)} {T0 : List (Addr × Str)} (hcs : ∀ p ∈ cs, h.get? p.2 = some { cls := .none, data := .fields #[] } ∧ K.lookup p.2 = none ∧ PySem.W.CodeHd h p.1 p.2) (hT0 : ∀ p ∈ T0, ∃ q ∈ cs, q.2 = p.1)
    (S : Txt K mg y st []) (hmg : mg y = some (.ref fa)) (Sc : FnScope N [x] (defScope st))
    (bd : ∀ (kV doc pm : Value) (an : Option Addr) (cdv ct : Value) (us : List Value), us.length = 1 → bindArgs (PySem.W.fnOf y y (defArgs st) (defBody st) (defScope st) .none kV doc pm an cdv ct) ⟨us, []⟩ = pure ([x].zip us))
    (hb : ∀ (base : Heap), K.In base → base.Ns mainGlobals mg → (∀ p ∈ cs, LamX.TabB base mg p.1 p.2) → ∀ (fa : Addr) (cdv : Value) (A : Around) (outer : List PySem.Env) (s : Shared) (H : Hp) (E : XK), Cok (cxOf (L2.CX l.prog w) l.prog w K mg base N y (defScope st) fa cdv A outer s H E) (fun cls d _ H => E cls d H) k → ∀ ns : List Int, ns.length ≤ 63 → (∀ z ∈ ns, Builtin.Int.intBits z ≤ 1048576) →
      ∃ of, SVs (cxOf (L2.CX l.prog w) l.prog w K mg base N y (defScope st) fa cdv A outer s H E) (tabsOf T0) (fun cls d _ H => E cls d H) (defBody st) ([.d (.list (ns.map .int))] ++ List.replicate (N.length - 1) .no) of ∧ EndsAs of (.r (.d (.bool true)))) : LamX.LawAtS l w K (L2.CX l.prog w) (k + 1) 63 x mg fa h := by
  obtain ⟨f, fd, F, hm⟩ := S.ex
  rw [hmg] at hm
  cases hm
  have hB : ∀ (s : Shared) (u : Value), BindsTo s fd ⟨[u], []⟩ [(x, u)] := fun s u => FunD.bindsA (ps := [x]) F bd s [u] rfl
  refine ⟨fd, cs, spM K (tabsOf T0) (FnR 1 Script fun _ => .r (.d (.bool true))), fun p hp => (hcs p hp).1, fun p hp => (hcs p hp).2.1, fun p hp => (hcs p hp).2.2, hB, fun H a ns hl hz hH hS => law_spT hl hz (tabs_of fun p hp => ?_) hS, fun base hK hN hTB => ?_⟩
  · obtain ⟨q, hq, e⟩ := hT0 p hp
    exact LamX.TabS.nil (by rw [← e]; exact hH q hq)
  refine fn_mkD F Sc (fun δ o ⟨ds, h1, _, h3, _⟩ => by rw [h3, List.length_map, h1]; rfl) fun cdv A outer s H E C δ o ⟨ds, h1, ⟨ns, hl, hz, h2⟩, h3, h4⟩ => ?_
  subst h2 h3 h4
  obtain ⟨of, a, b⟩ := hb base hK hN hTB fa cdv A outer s H E C ns hl hz
  exact ⟨of, a, ends_fin data_own b⟩
theorem law_walkT {l : PySem.W.OpenLaw} {k : Nat} {q : Program} {loose : List Str} {XP : (Str → Option Value) → Heap → Prop} {YP : World → Heap → Prop} {d : DefRec} {K : Params → PySem.W.Frag} {x : Str} {Tp : PySem.W.Frag → (Str → Option Value) → Prop}
    (hn : l.most = some 63) (hdf : d.params.defaults = []) (hr : Room (k + 1) callerA) (hY : ∀ (w : World) (h : Heap), YP w h → (K w.params).In h)
    (F : ∀ (w : World) (mg : Str → Option Value) (fa : Addr) (h : Heap), (K w.params).In h → h.Ns mainGlobals mg → mg d.name = some (.ref fa) → Tp (K w.params) mg)
    (L : ∀ (w : World) (K : PySem.W.Frag) (mg : Str → Option Value) (fa : Addr) (h : Heap), Tp K mg → K.In h → (∀ y : Str, ((PyProof.Rows.recsOf q).any fun e => e.name == y) = true → TabledX mg y h) → mg d.name = some (.ref fa) → LamX.LawAtS l w K (L2.CX l.prog w) (k + 1) 63 x mg fa h) :
    PySem.W.WalkO q loose XP YP l.row.toRowW d [] (fun f vs => PySem.call f vs) := by
  refine Att.attach_callB hn hdf fun w s₀ s₁ mg mb fa o pm cd doc a vs ns G Y ho hd hcd hmg hobj hints hlen hbits hg => ?_
  have KX := hY w _ Y
  have tabs : ∀ y : Str, ((PyProof.Rows.recsOf q).any fun e => e.name == y) = true → TabledX mg y s₁.heap := fun y hy => by
    obtain ⟨dL, hm, hn1⟩ := List.any_eq_true.mp hy
    have hn2 : dL.name = y := beq_iff_eq.mp hn1
    have t := G.T.tab dL hm
    rw [hn2] at t
    exact t
  obtain ⟨fd, cs, sp, hT, nT, C, hb, hsp, hF⟩ := L w (K w.params) mg fa _ (F w mg fa _ KX G.T.g hmg) KX tabs hmg
  exact LamX.law_callTs KX G.T.g G.T.b G.T.builtins G.T.nolimit hg hT nT C G.T.bmain hobj hints (Nat.le_trans hlen (by decide)) hr hF hb (fun H hH hS => hsp H a ns hlen hbits hH hS) fun H e s' ⟨_, _, _, _, _, _, _, _, _, _, _, _, hE⟩ => hE
end Sc
namespace Sc
open PySem L2 NdefX
theorem line4 {n : Nat} (h : n ≤ 10000) : n ≤ sizeLine := Nat.le_trans h (by decide)
theorem Def.mono {P : Program} {w : World} {K : PySem.W.Frag} {mg : Str → Option Value} {base : Heap} {T : List NTab} {k : Nat} {x : Str} {dds : List PyData} {R R' : List Sl → Out → Prop} (D : Def P w K mg base T k x dds R) (h : ∀ δ o, R' δ o → R δ o) : Def P w K mg base T k x dds R' := by
  obtain ⟨f, fd, ps, dvs, ds, F, h1, h2, h3, h4, h5⟩ := D.ex
  exact ⟨f, fd, ps, dvs, ds, F.imp fun vs H Q E q => (by
    obtain ⟨δ, o, S, a, b⟩ := q
    exact ⟨δ, o, S, h δ o a, b⟩), h1, h2, h3, h4, h5⟩
/-- a def of 1 data, each of a sort of its own -/
def Fn1 {α1 : Type} (e1 : α1 → PyData) (dom : α1 → Prop) (f : α1 → An) : List Sl → Out → Prop := fun δ o => ∃ x1, dom x1 ∧ δ = [.d (e1 x1)] ∧ o = (f x1).out [.d (e1 x1)]
/-- a def of 2 data, each of a sort of its own -/
def Fn2 {α1 α2 : Type} (e1 : α1 → PyData) (e2 : α2 → PyData) (dom : α1 → α2 → Prop) (f : α1 → α2 → An) : List Sl → Out → Prop := fun δ o => ∃ x1 x2, dom x1 x2 ∧ δ = [.d (e1 x1), .d (e2 x2)] ∧ o = (f x1 x2).out [.d (e1 x1), .d (e2 x2)]
/-- a def of 3 data, each of a sort of its own -/
def Fn3 {α1 α2 α3 : Type} (e1 : α1 → PyData) (e2 : α2 → PyData) (e3 : α3 → PyData) (dom : α1 → α2 → α3 → Prop) (f : α1 → α2 → α3 → An) : List Sl → Out → Prop := fun δ o => ∃ x1 x2 x3, dom x1 x2 x3 ∧ δ = [.d (e1 x1), .d (e2 x2), .d (e3 x3)] ∧ o = (f x1 x2 x3).out [.d (e1 x1), .d (e2 x2), .d (e3 x3)]
/-- a def of 4 data, each of a sort of its own -/
def Fn4 {α1 α2 α3 α4 : Type} (e1 : α1 → PyData) (e2 : α2 → PyData) (e3 : α3 → PyData) (e4 : α4 → PyData) (dom : α1 → α2 → α3 → α4 → Prop) (f : α1 → α2 → α3 → α4 → An) : List Sl → Out → Prop := fun δ o => ∃ x1 x2 x3 x4, dom x1 x2 x3 x4 ∧ δ = [.d (e1 x1), .d (e2 x2), .d (e3 x3), .d (e4 x4)] ∧ o = (f x1 x2 x3 x4).out [.d (e1 x1), .d (e2 x2), .d (e3 x3), .d (e4 x4)]
/-- a def of 5 data, each of a sort of its own -/
def Fn5 {α1 α2 α3 α4 α5 : Type} (e1 : α1 → PyData) (e2 : α2 → PyData) (e3 : α3 → PyData) (e4 : α4 → PyData) (e5 : α5 → PyData) (dom : α1 → α2 → α3 → α4 → α5 → Prop) (f : α1 → α2 → α3 → α4 → α5 → An) : List Sl → Out → Prop := fun δ o => ∃ x1 x2 x3 x4 x5, dom x1 x2 x3 x4 x5 ∧ δ = [.d (e1 x1), .d (e2 x2), .d (e3 x3), .d (e4 x4), .d (e5 x5)] ∧ o = (f x1 x2 x3 x4 x5).out [.d (e1 x1), .d (e2 x2), .d (e3 x3), .d (e4 x4), .d (e5 x5)]
section
variable {P : Program} {w : World} {K : PySem.W.Frag} {mg : Str → Option Value} {base : Heap} {T : List NTab} {x : Str} {st : Stmt} {N ps : List Str} {k : Nat}
theorem def_1 {α1 : Type} {e1 : α1 → PyData} {dom : α1 → Prop} {f : α1 → An} (S : Txt K mg x st []) (Sc : FnScope N ps (defScope st)) (hn : ps.length = 1)
    (bd : ∀ (kV doc pm : Value) (an : Option Addr) (cdv ct : Value) (us : List Value), us.length = ps.length → bindArgs (PySem.W.fnOf x x (defArgs st) (defBody st) (defScope st) .none kV doc pm an cdv ct) ⟨us, []⟩ = pure (ps.zip us))
    (hb : ∀ (fa : Addr) (cdv : Value) (A : Around) (outer : List PySem.Env) (s : Shared) (H : Hp) (E : XK), Cok (cxOf (L2.CX P w) P w K mg base N x (defScope st) fa cdv A outer s H E) (fun cls d _ H => E cls d H) k → ∀ x1, dom x1 →
      ∃ of, SVs (cxOf (L2.CX P w) P w K mg base N x (defScope st) fa cdv A outer s H E) T (fun cls d _ H => E cls d H) (defBody st) ([.d (e1 x1)] ++ List.replicate (N.length - 1) .no) of ∧ EndsAs of (f x1)) : Def P w K mg base T (k + 1) x [] (Fn1 e1 dom f) := by
  refine def_gen S Sc hn (fun δ o ⟨x1, _, h, _⟩ => by rw [h]; rfl) bd fun fa cdv A outer s H E C δ o ⟨x1, h1, h2, h3⟩ => ?_
  subst h2 h3
  obtain ⟨of, a, b⟩ := hb fa cdv A outer s H E C x1 h1
  exact ⟨of, a, ends_fin (fun s h => by simp at h; rcases h with rfl <;> rfl) b⟩
theorem def_2 {α1 α2 : Type} {e1 : α1 → PyData} {e2 : α2 → PyData} {dom : α1 → α2 → Prop} {f : α1 → α2 → An} (S : Txt K mg x st []) (Sc : FnScope N ps (defScope st)) (hn : ps.length = 2)
    (bd : ∀ (kV doc pm : Value) (an : Option Addr) (cdv ct : Value) (us : List Value), us.length = ps.length → bindArgs (PySem.W.fnOf x x (defArgs st) (defBody st) (defScope st) .none kV doc pm an cdv ct) ⟨us, []⟩ = pure (ps.zip us))
    (hb : ∀ (fa : Addr) (cdv : Value) (A : Around) (outer : List PySem.Env) (s : Shared) (H : Hp) (E : XK), Cok (cxOf (L2.CX P w) P w K mg base N x (defScope st) fa cdv A outer s H E) (fun cls d _ H => E cls d H) k → ∀ x1 x2, dom x1 x2 →
      ∃ of, SVs (cxOf (L2.CX P w) P w K mg base N x (defScope st) fa cdv A outer s H E) T (fun cls d _ H => E cls d H) (defBody st) ([.d (e1 x1), .d (e2 x2)] ++ List.replicate (N.length - 2) .no) of ∧ EndsAs of (f x1 x2)) : Def P w K mg base T (k + 1) x [] (Fn2 e1 e2 dom f) := by
  refine def_gen S Sc hn (fun δ o ⟨x1, x2, _, h, _⟩ => by rw [h]; rfl) bd fun fa cdv A outer s H E C δ o ⟨x1, x2, h1, h2, h3⟩ => ?_
  subst h2 h3
  obtain ⟨of, a, b⟩ := hb fa cdv A outer s H E C x1 x2 h1
  exact ⟨of, a, ends_fin (fun s h => by simp at h; rcases h with rfl | rfl <;> rfl) b⟩
theorem def_3 {α1 α2 α3 : Type} {e1 : α1 → PyData} {e2 : α2 → PyData} {e3 : α3 → PyData} {dom : α1 → α2 → α3 → Prop} {f : α1 → α2 → α3 → An} (S : Txt K mg x st []) (Sc : FnScope N ps (defScope st)) (hn : ps.length = 3)
    (bd : ∀ (kV doc pm : Value) (an : Option Addr) (cdv ct : Value) (us : List Value), us.length = ps.length → bindArgs (PySem.W.fnOf x x (defArgs st) (defBody st) (defScope st) .none kV doc pm an cdv ct) ⟨us, []⟩ = pure (ps.zip us))
    (hb : ∀ (fa : Addr) (cdv : Value) (A : Around) (outer : List PySem.Env) (s : Shared) (H : Hp) (E : XK), Cok (cxOf (L2.CX P w) P w K mg base N x (defScope st) fa cdv A outer s H E) (fun cls d _ H => E cls d H) k → ∀ x1 x2 x3, dom x1 x2 x3 →
      ∃ of, SVs (cxOf (L2.CX P w) P w K mg base N x (defScope st) fa cdv A outer s H E) T (fun cls d _ H => E cls d H) (defBody st) ([.d (e1 x1), .d (e2 x2), .d (e3 x3)] ++ List.replicate (N.length - 3) .no) of ∧ EndsAs of (f x1 x2 x3)) : Def P w K mg base T (k + 1) x [] (Fn3 e1 e2 e3 dom f) := by
  refine def_gen S Sc hn (fun δ o ⟨x1, x2, x3, _, h, _⟩ => by rw [h]; rfl) bd fun fa cdv A outer s H E C δ o ⟨x1, x2, x3, h1, h2, h3⟩ => ?_
  subst h2 h3
  obtain ⟨of, a, b⟩ := hb fa cdv A outer s H E C x1 x2 x3 h1
  exact ⟨of, a, ends_fin (fun s h => by simp at h; rcases h with rfl | rfl | rfl <;> rfl) b⟩
theorem def_4 {α1 α2 α3 α4 : Type} {e1 : α1 → PyData} {e2 : α2 → PyData} {e3 : α3 → PyData} {e4 : α4 → PyData} {dom : α1 → α2 → α3 → α4 → Prop} {f : α1 → α2 → α3 → α4 → An} (S : Txt K mg x st []) (Sc : FnScope N ps (defScope st)) (hn : ps.length = 4)
    (bd : ∀ (kV doc pm : Value) (an : Option Addr) (cdv ct : Value) (us : List Value), us.length = ps.length → bindArgs (PySem.W.fnOf x x (defArgs st) (defBody st) (defScope st) .none kV doc pm an cdv ct) ⟨us, []⟩ = pure (ps.zip us))
    (hb : ∀ (fa : Addr) (cdv : Value) (A : Around) (outer : List PySem.Env) (s : Shared) (H : Hp) (E : XK), Cok (cxOf (L2.CX P w) P w K mg base N x (defScope st) fa cdv A outer s H E) (fun cls d _ H => E cls d H) k → ∀ x1 x2 x3 x4, dom x1 x2 x3 x4 →
      ∃ of, SVs (cxOf (L2.CX P w) P w K mg base N x (defScope st) fa cdv A outer s H E) T (fun cls d _ H => E cls d H) (defBody st) ([.d (e1 x1), .d (e2 x2), .d (e3 x3), .d (e4 x4)] ++ List.replicate (N.length - 4) .no) of ∧ EndsAs of (f x1 x2 x3 x4)) : Def P w K mg base T (k + 1) x [] (Fn4 e1 e2 e3 e4 dom f) := by
  refine def_gen S Sc hn (fun δ o ⟨x1, x2, x3, x4, _, h, _⟩ => by rw [h]; rfl) bd fun fa cdv A outer s H E C δ o ⟨x1, x2, x3, x4, h1, h2, h3⟩ => ?_
  subst h2 h3
  obtain ⟨of, a, b⟩ := hb fa cdv A outer s H E C x1 x2 x3 x4 h1
  exact ⟨of, a, ends_fin (fun s h => by simp at h; rcases h with rfl | rfl | rfl | rfl <;> rfl) b⟩
theorem def_5 {α1 α2 α3 α4 α5 : Type} {e1 : α1 → PyData} {e2 : α2 → PyData} {e3 : α3 → PyData} {e4 : α4 → PyData} {e5 : α5 → PyData} {dom : α1 → α2 → α3 → α4 → α5 → Prop} {f : α1 → α2 → α3 → α4 → α5 → An} (S : Txt K mg x st []) (Sc : FnScope N ps (defScope st)) (hn : ps.length = 5)
    (bd : ∀ (kV doc pm : Value) (an : Option Addr) (cdv ct : Value) (us : List Value), us.length = ps.length → bindArgs (PySem.W.fnOf x x (defArgs st) (defBody st) (defScope st) .none kV doc pm an cdv ct) ⟨us, []⟩ = pure (ps.zip us))
    (hb : ∀ (fa : Addr) (cdv : Value) (A : Around) (outer : List PySem.Env) (s : Shared) (H : Hp) (E : XK), Cok (cxOf (L2.CX P w) P w K mg base N x (defScope st) fa cdv A outer s H E) (fun cls d _ H => E cls d H) k → ∀ x1 x2 x3 x4 x5, dom x1 x2 x3 x4 x5 →
      ∃ of, SVs (cxOf (L2.CX P w) P w K mg base N x (defScope st) fa cdv A outer s H E) T (fun cls d _ H => E cls d H) (defBody st) ([.d (e1 x1), .d (e2 x2), .d (e3 x3), .d (e4 x4), .d (e5 x5)] ++ List.replicate (N.length - 5) .no) of ∧ EndsAs of (f x1 x2 x3 x4 x5)) : Def P w K mg base T (k + 1) x [] (Fn5 e1 e2 e3 e4 e5 dom f) := by
  refine def_gen S Sc hn (fun δ o ⟨x1, x2, x3, x4, x5, _, h, _⟩ => by rw [h]; rfl) bd fun fa cdv A outer s H E C δ o ⟨x1, x2, x3, x4, x5, h1, h2, h3⟩ => ?_
  subst h2 h3
  obtain ⟨of, a, b⟩ := hb fa cdv A outer s H E C x1 x2 x3 x4 x5 h1
  exact ⟨of, a, ends_fin (fun s h => by simp at h; rcases h with rfl | rfl | rfl | rfl | rfl <;> rfl) b⟩
end
section
variable {X : Cx} {T : List NTab} {W : WX} {x : Str} {k : Nat} {p pos : Pos} {dds : List PyData}
theorem ev_c1 {α1 : Type} {e1 : α1 → PyData} {dom : α1 → Prop} {f : α1 → An} {a1 : Expr} {δ0 δ1 : List Sl} {r : Sl} {x1 : α1} (D : Def X.prog X.w X.K X.mg X.base T k x [] (Fn1 e1 dom f)) (hr : Room k X.A) (h1 : EV X T a1 δ0 (.d (e1 x1)) δ1) (hd : dom x1) (hf : f x1 = .r r := by rfl) (hg : Gl X x := by rfl) (hdb : (x == ("__debug__" : Str)) = false := by decide) (s1 : starEach [a1] X.env = (false, eval a1 X.env) :: starEach [] X.env := by rfl) (hpl : (backTo pos (starEach [] X.env)).any (·.1) = false := by rfl) : EV X T (.Call (.Name x p) [a1] [] pos) δ0 r δ1 :=
  ev_c (δc := [.d (e1 x1)]) D hr (al_cons h1 al_nil s1) ⟨x1, hd, rfl, by rw [hf]; rfl⟩ (bk_none rfl) rfl hg hdb s1 hpl
theorem ex_c1 {α1 : Type} {e1 : α1 → PyData} {dom : α1 → Prop} {f : α1 → An} {a1 : Expr} {δ0 δ1 : List Sl} {r : Exn} {x1 : α1} (tk : Takes X W) (D : Def X.prog X.w X.K X.mg X.base T k x [] (Fn1 e1 dom f)) (hr : Room k X.A) (h1 : EV X T a1 δ0 (.d (e1 x1)) δ1) (hd : dom x1) (hf : f x1 = .x r := by rfl) (hg : Gl X x := by rfl) (hdb : (x == ("__debug__" : Str)) = false := by decide) (s1 : starEach [a1] X.env = (false, eval a1 X.env) :: starEach [] X.env := by rfl) (hpl : (backTo pos (starEach [] X.env)).any (·.1) = false := by rfl) : EX X T W (.Call (.Name x p) [a1] [] pos) δ0 r δ1 :=
  ex_c (δc := [.d (e1 x1)]) tk D hr (al_cons h1 al_nil s1) ⟨x1, hd, rfl, by rw [hf]; rfl⟩ (bk_none rfl) rfl hg hdb s1 hpl
theorem ev_r1 {m : Nat} {dom : List PyData → Prop} {f : List PyData → An} {a1 : Expr} {δ0 δ1 : List Sl} {r : Sl} {x1 : PyData} (D : Def X.prog X.w X.K X.mg X.base T k x dds (FnR m dom f)) (hr : Room k X.A) (h1 : EV X T a1 δ0 (.d x1) δ1) (hd : dom ([x1] ++ dds)) (hf : f ([x1] ++ dds) = .r r := by rfl) (hn : ([x1] ++ dds).length = m := by rfl) (hg : Gl X x := by rfl) (hdb : (x == ("__debug__" : Str)) = false := by decide) (s1 : starEach [a1] X.env = (false, eval a1 X.env) :: starEach [] X.env := by rfl) (hpl : (backTo pos (starEach [] X.env)).any (·.1) = false := by rfl) : EV X T (.Call (.Name x p) [a1] [] pos) δ0 r δ1 :=
  ev_cf D hr (xs := [x1]) (al_cons h1 al_nil s1) hf hd rfl hn hg hdb s1 hpl
theorem ev_c2 {α1 α2 : Type} {e1 : α1 → PyData} {e2 : α2 → PyData} {dom : α1 → α2 → Prop} {f : α1 → α2 → An} {a1 a2 : Expr} {δ0 δ1 δ2 : List Sl} {r : Sl} {x1 : α1} {x2 : α2} (D : Def X.prog X.w X.K X.mg X.base T k x [] (Fn2 e1 e2 dom f)) (hr : Room k X.A) (h1 : EV X T a1 δ0 (.d (e1 x1)) δ1) (h2 : EV X T a2 δ1 (.d (e2 x2)) δ2) (hd : dom x1 x2) (hf : f x1 x2 = .r r := by rfl) (hg : Gl X x := by rfl) (hdb : (x == ("__debug__" : Str)) = false := by decide) (s1 : starEach [a1, a2] X.env = (false, eval a1 X.env) :: starEach [a2] X.env := by rfl) (s2 : starEach [a2] X.env = (false, eval a2 X.env) :: starEach [] X.env := by rfl) (hpl : (backTo pos (starEach [a2] X.env)).any (·.1) = false := by rfl) : EV X T (.Call (.Name x p) [a1, a2] [] pos) δ0 r δ2 :=
  ev_c (δc := [.d (e1 x1), .d (e2 x2)]) D hr (al_cons h1 (al_cons h2 al_nil s2) s1) ⟨x1, x2, hd, rfl, by rw [hf]; rfl⟩ (bk_none rfl) rfl hg hdb s1 hpl
theorem ex_c2 {α1 α2 : Type} {e1 : α1 → PyData} {e2 : α2 → PyData} {dom : α1 → α2 → Prop} {f : α1 → α2 → An} {a1 a2 : Expr} {δ0 δ1 δ2 : List Sl} {r : Exn} {x1 : α1} {x2 : α2} (tk : Takes X W) (D : Def X.prog X.w X.K X.mg X.base T k x [] (Fn2 e1 e2 dom f)) (hr : Room k X.A) (h1 : EV X T a1 δ0 (.d (e1 x1)) δ1) (h2 : EV X T a2 δ1 (.d (e2 x2)) δ2) (hd : dom x1 x2) (hf : f x1 x2 = .x r := by rfl) (hg : Gl X x := by rfl) (hdb : (x == ("__debug__" : Str)) = false := by decide) (s1 : starEach [a1, a2] X.env = (false, eval a1 X.env) :: starEach [a2] X.env := by rfl) (s2 : starEach [a2] X.env = (false, eval a2 X.env) :: starEach [] X.env := by rfl) (hpl : (backTo pos (starEach [a2] X.env)).any (·.1) = false := by rfl) : EX X T W (.Call (.Name x p) [a1, a2] [] pos) δ0 r δ2 :=
  ex_c (δc := [.d (e1 x1), .d (e2 x2)]) tk D hr (al_cons h1 (al_cons h2 al_nil s2) s1) ⟨x1, x2, hd, rfl, by rw [hf]; rfl⟩ (bk_none rfl) rfl hg hdb s1 hpl
theorem ev_r2 {m : Nat} {dom : List PyData → Prop} {f : List PyData → An} {a1 a2 : Expr} {δ0 δ1 δ2 : List Sl} {r : Sl} {x1 x2 : PyData} (D : Def X.prog X.w X.K X.mg X.base T k x dds (FnR m dom f)) (hr : Room k X.A) (h1 : EV X T a1 δ0 (.d x1) δ1) (h2 : EV X T a2 δ1 (.d x2) δ2) (hd : dom ([x1, x2] ++ dds)) (hf : f ([x1, x2] ++ dds) = .r r := by rfl) (hn : ([x1, x2] ++ dds).length = m := by rfl) (hg : Gl X x := by rfl) (hdb : (x == ("__debug__" : Str)) = false := by decide) (s1 : starEach [a1, a2] X.env = (false, eval a1 X.env) :: starEach [a2] X.env := by rfl) (s2 : starEach [a2] X.env = (false, eval a2 X.env) :: starEach [] X.env := by rfl) (hpl : (backTo pos (starEach [a2] X.env)).any (·.1) = false := by rfl) : EV X T (.Call (.Name x p) [a1, a2] [] pos) δ0 r δ2 :=
  ev_cf D hr (xs := [x1, x2]) (al_cons h1 (al_cons h2 al_nil s2) s1) hf hd rfl hn hg hdb s1 hpl
theorem ev_c3 {α1 α2 α3 : Type} {e1 : α1 → PyData} {e2 : α2 → PyData} {e3 : α3 → PyData} {dom : α1 → α2 → α3 → Prop} {f : α1 → α2 → α3 → An} {a1 a2 a3 : Expr} {δ0 δ1 δ2 δ3 : List Sl} {r : Sl} {x1 : α1} {x2 : α2} {x3 : α3} (D : Def X.prog X.w X.K X.mg X.base T k x [] (Fn3 e1 e2 e3 dom f)) (hr : Room k X.A) (h1 : EV X T a1 δ0 (.d (e1 x1)) δ1) (h2 : EV X T a2 δ1 (.d (e2 x2)) δ2) (h3 : EV X T a3 δ2 (.d (e3 x3)) δ3) (hd : dom x1 x2 x3) (hf : f x1 x2 x3 = .r r := by rfl) (hg : Gl X x := by rfl) (hdb : (x == ("__debug__" : Str)) = false := by decide) (s1 : starEach [a1, a2, a3] X.env = (false, eval a1 X.env) :: starEach [a2, a3] X.env := by rfl) (s2 : starEach [a2, a3] X.env = (false, eval a2 X.env) :: starEach [a3] X.env := by rfl) (s3 : starEach [a3] X.env = (false, eval a3 X.env) :: starEach [] X.env := by rfl) (hpl : (backTo pos (starEach [a2, a3] X.env)).any (·.1) = false := by rfl) : EV X T (.Call (.Name x p) [a1, a2, a3] [] pos) δ0 r δ3 :=
  ev_c (δc := [.d (e1 x1), .d (e2 x2), .d (e3 x3)]) D hr (al_cons h1 (al_cons h2 (al_cons h3 al_nil s3) s2) s1) ⟨x1, x2, x3, hd, rfl, by rw [hf]; rfl⟩ (bk_none rfl) rfl hg hdb s1 hpl
theorem ex_c3 {α1 α2 α3 : Type} {e1 : α1 → PyData} {e2 : α2 → PyData} {e3 : α3 → PyData} {dom : α1 → α2 → α3 → Prop} {f : α1 → α2 → α3 → An} {a1 a2 a3 : Expr} {δ0 δ1 δ2 δ3 : List Sl} {r : Exn} {x1 : α1} {x2 : α2} {x3 : α3} (tk : Takes X W) (D : Def X.prog X.w X.K X.mg X.base T k x [] (Fn3 e1 e2 e3 dom f)) (hr : Room k X.A) (h1 : EV X T a1 δ0 (.d (e1 x1)) δ1) (h2 : EV X T a2 δ1 (.d (e2 x2)) δ2) (h3 : EV X T a3 δ2 (.d (e3 x3)) δ3) (hd : dom x1 x2 x3) (hf : f x1 x2 x3 = .x r := by rfl) (hg : Gl X x := by rfl) (hdb : (x == ("__debug__" : Str)) = false := by decide) (s1 : starEach [a1, a2, a3] X.env = (false, eval a1 X.env) :: starEach [a2, a3] X.env := by rfl) (s2 : starEach [a2, a3] X.env = (false, eval a2 X.env) :: starEach [a3] X.env := by rfl) (s3 : starEach [a3] X.env = (false, eval a3 X.env) :: starEach [] X.env := by rfl) (hpl : (backTo pos (starEach [a2, a3] X.env)).any (·.1) = false := by rfl) : EX X T W (.Call (.Name x p) [a1, a2, a3] [] pos) δ0 r δ3 :=
  ex_c (δc := [.d (e1 x1), .d (e2 x2), .d (e3 x3)]) tk D hr (al_cons h1 (al_cons h2 (al_cons h3 al_nil s3) s2) s1) ⟨x1, x2, x3, hd, rfl, by rw [hf]; rfl⟩ (bk_none rfl) rfl hg hdb s1 hpl
theorem ev_r3 {m : Nat} {dom : List PyData → Prop} {f : List PyData → An} {a1 a2 a3 : Expr} {δ0 δ1 δ2 δ3 : List Sl} {r : Sl} {x1 x2 x3 : PyData} (D : Def X.prog X.w X.K X.mg X.base T k x dds (FnR m dom f)) (hr : Room k X.A) (h1 : EV X T a1 δ0 (.d x1) δ1) (h2 : EV X T a2 δ1 (.d x2) δ2) (h3 : EV X T a3 δ2 (.d x3) δ3) (hd : dom ([x1, x2, x3] ++ dds)) (hf : f ([x1, x2, x3] ++ dds) = .r r := by rfl) (hn : ([x1, x2, x3] ++ dds).length = m := by rfl) (hg : Gl X x := by rfl) (hdb : (x == ("__debug__" : Str)) = false := by decide) (s1 : starEach [a1, a2, a3] X.env = (false, eval a1 X.env) :: starEach [a2, a3] X.env := by rfl) (s2 : starEach [a2, a3] X.env = (false, eval a2 X.env) :: starEach [a3] X.env := by rfl) (s3 : starEach [a3] X.env = (false, eval a3 X.env) :: starEach [] X.env := by rfl) (hpl : (backTo pos (starEach [a2, a3] X.env)).any (·.1) = false := by rfl) : EV X T (.Call (.Name x p) [a1, a2, a3] [] pos) δ0 r δ3 :=
  ev_cf D hr (xs := [x1, x2, x3]) (al_cons h1 (al_cons h2 (al_cons h3 al_nil s3) s2) s1) hf hd rfl hn hg hdb s1 hpl
theorem ev_c4 {α1 α2 α3 α4 : Type} {e1 : α1 → PyData} {e2 : α2 → PyData} {e3 : α3 → PyData} {e4 : α4 → PyData} {dom : α1 → α2 → α3 → α4 → Prop} {f : α1 → α2 → α3 → α4 → An} {a1 a2 a3 a4 : Expr} {δ0 δ1 δ2 δ3 δ4 : List Sl} {r : Sl} {x1 : α1} {x2 : α2} {x3 : α3} {x4 : α4} (D : Def X.prog X.w X.K X.mg X.base T k x [] (Fn4 e1 e2 e3 e4 dom f)) (hr : Room k X.A) (h1 : EV X T a1 δ0 (.d (e1 x1)) δ1) (h2 : EV X T a2 δ1 (.d (e2 x2)) δ2) (h3 : EV X T a3 δ2 (.d (e3 x3)) δ3) (h4 : EV X T a4 δ3 (.d (e4 x4)) δ4) (hd : dom x1 x2 x3 x4) (hf : f x1 x2 x3 x4 = .r r := by rfl) (hg : Gl X x := by rfl) (hdb : (x == ("__debug__" : Str)) = false := by decide) (s1 : starEach [a1, a2, a3, a4] X.env = (false, eval a1 X.env) :: starEach [a2, a3, a4] X.env := by rfl) (s2 : starEach [a2, a3, a4] X.env = (false, eval a2 X.env) :: starEach [a3, a4] X.env := by rfl) (s3 : starEach [a3, a4] X.env = (false, eval a3 X.env) :: starEach [a4] X.env := by rfl) (s4 : starEach [a4] X.env = (false, eval a4 X.env) :: starEach [] X.env := by rfl) (hpl : (backTo pos (starEach [a2, a3, a4] X.env)).any (·.1) = false := by rfl) : EV X T (.Call (.Name x p) [a1, a2, a3, a4] [] pos) δ0 r δ4 :=
  ev_c (δc := [.d (e1 x1), .d (e2 x2), .d (e3 x3), .d (e4 x4)]) D hr (al_cons h1 (al_cons h2 (al_cons h3 (al_cons h4 al_nil s4) s3) s2) s1) ⟨x1, x2, x3, x4, hd, rfl, by rw [hf]; rfl⟩ (bk_none rfl) rfl hg hdb s1 hpl
theorem ex_c4 {α1 α2 α3 α4 : Type} {e1 : α1 → PyData} {e2 : α2 → PyData} {e3 : α3 → PyData} {e4 : α4 → PyData} {dom : α1 → α2 → α3 → α4 → Prop} {f : α1 → α2 → α3 → α4 → An} {a1 a2 a3 a4 : Expr} {δ0 δ1 δ2 δ3 δ4 : List Sl} {r : Exn} {x1 : α1} {x2 : α2} {x3 : α3} {x4 : α4} (tk : Takes X W) (D : Def X.prog X.w X.K X.mg X.base T k x [] (Fn4 e1 e2 e3 e4 dom f)) (hr : Room k X.A) (h1 : EV X T a1 δ0 (.d (e1 x1)) δ1) (h2 : EV X T a2 δ1 (.d (e2 x2)) δ2) (h3 : EV X T a3 δ2 (.d (e3 x3)) δ3) (h4 : EV X T a4 δ3 (.d (e4 x4)) δ4) (hd : dom x1 x2 x3 x4) (hf : f x1 x2 x3 x4 = .x r := by rfl) (hg : Gl X x := by rfl) (hdb : (x == ("__debug__" : Str)) = false := by decide) (s1 : starEach [a1, a2, a3, a4] X.env = (false, eval a1 X.env) :: starEach [a2, a3, a4] X.env := by rfl) (s2 : starEach [a2, a3, a4] X.env = (false, eval a2 X.env) :: starEach [a3, a4] X.env := by rfl) (s3 : starEach [a3, a4] X.env = (false, eval a3 X.env) :: starEach [a4] X.env := by rfl) (s4 : starEach [a4] X.env = (false, eval a4 X.env) :: starEach [] X.env := by rfl) (hpl : (backTo pos (starEach [a2, a3, a4] X.env)).any (·.1) = false := by rfl) : EX X T W (.Call (.Name x p) [a1, a2, a3, a4] [] pos) δ0 r δ4 :=
  ex_c (δc := [.d (e1 x1), .d (e2 x2), .d (e3 x3), .d (e4 x4)]) tk D hr (al_cons h1 (al_cons h2 (al_cons h3 (al_cons h4 al_nil s4) s3) s2) s1) ⟨x1, x2, x3, x4, hd, rfl, by rw [hf]; rfl⟩ (bk_none rfl) rfl hg hdb s1 hpl
theorem ev_r4 {m : Nat} {dom : List PyData → Prop} {f : List PyData → An} {a1 a2 a3 a4 : Expr} {δ0 δ1 δ2 δ3 δ4 : List Sl} {r : Sl} {x1 x2 x3 x4 : PyData} (D : Def X.prog X.w X.K X.mg X.base T k x dds (FnR m dom f)) (hr : Room k X.A) (h1 : EV X T a1 δ0 (.d x1) δ1) (h2 : EV X T a2 δ1 (.d x2) δ2) (h3 : EV X T a3 δ2 (.d x3) δ3) (h4 : EV X T a4 δ3 (.d x4) δ4) (hd : dom ([x1, x2, x3, x4] ++ dds)) (hf : f ([x1, x2, x3, x4] ++ dds) = .r r := by rfl) (hn : ([x1, x2, x3, x4] ++ dds).length = m := by rfl) (hg : Gl X x := by rfl) (hdb : (x == ("__debug__" : Str)) = false := by decide) (s1 : starEach [a1, a2, a3, a4] X.env = (false, eval a1 X.env) :: starEach [a2, a3, a4] X.env := by rfl) (s2 : starEach [a2, a3, a4] X.env = (false, eval a2 X.env) :: starEach [a3, a4] X.env := by rfl) (s3 : starEach [a3, a4] X.env = (false, eval a3 X.env) :: starEach [a4] X.env := by rfl) (s4 : starEach [a4] X.env = (false, eval a4 X.env) :: starEach [] X.env := by rfl) (hpl : (backTo pos (starEach [a2, a3, a4] X.env)).any (·.1) = false := by rfl) : EV X T (.Call (.Name x p) [a1, a2, a3, a4] [] pos) δ0 r δ4 :=
  ev_cf D hr (xs := [x1, x2, x3, x4]) (al_cons h1 (al_cons h2 (al_cons h3 (al_cons h4 al_nil s4) s3) s2) s1) hf hd rfl hn hg hdb s1 hpl
theorem ev_c5 {α1 α2 α3 α4 α5 : Type} {e1 : α1 → PyData} {e2 : α2 → PyData} {e3 : α3 → PyData} {e4 : α4 → PyData} {e5 : α5 → PyData} {dom : α1 → α2 → α3 → α4 → α5 → Prop} {f : α1 → α2 → α3 → α4 → α5 → An} {a1 a2 a3 a4 a5 : Expr} {δ0 δ1 δ2 δ3 δ4 δ5 : List Sl} {r : Sl} {x1 : α1} {x2 : α2} {x3 : α3} {x4 : α4} {x5 : α5} (D : Def X.prog X.w X.K X.mg X.base T k x [] (Fn5 e1 e2 e3 e4 e5 dom f)) (hr : Room k X.A) (h1 : EV X T a1 δ0 (.d (e1 x1)) δ1) (h2 : EV X T a2 δ1 (.d (e2 x2)) δ2) (h3 : EV X T a3 δ2 (.d (e3 x3)) δ3) (h4 : EV X T a4 δ3 (.d (e4 x4)) δ4) (h5 : EV X T a5 δ4 (.d (e5 x5)) δ5) (hd : dom x1 x2 x3 x4 x5) (hf : f x1 x2 x3 x4 x5 = .r r := by rfl) (hg : Gl X x := by rfl) (hdb : (x == ("__debug__" : Str)) = false := by decide) (s1 : starEach [a1, a2, a3, a4, a5] X.env = (false, eval a1 X.env) :: starEach [a2, a3, a4, a5] X.env := by rfl) (s2 : starEach [a2, a3, a4, a5] X.env = (false, eval a2 X.env) :: starEach [a3, a4, a5] X.env := by rfl) (s3 : starEach [a3, a4, a5] X.env = (false, eval a3 X.env) :: starEach [a4, a5] X.env := by rfl) (s4 : starEach [a4, a5] X.env = (false, eval a4 X.env) :: starEach [a5] X.env := by rfl) (s5 : starEach [a5] X.env = (false, eval a5 X.env) :: starEach [] X.env := by rfl) (hpl : (backTo pos (starEach [a2, a3, a4, a5] X.env)).any (·.1) = false := by rfl) : EV X T (.Call (.Name x p) [a1, a2, a3, a4, a5] [] pos) δ0 r δ5 :=
  ev_c (δc := [.d (e1 x1), .d (e2 x2), .d (e3 x3), .d (e4 x4), .d (e5 x5)]) D hr (al_cons h1 (al_cons h2 (al_cons h3 (al_cons h4 (al_cons h5 al_nil s5) s4) s3) s2) s1) ⟨x1, x2, x3, x4, x5, hd, rfl, by rw [hf]; rfl⟩ (bk_none rfl) rfl hg hdb s1 hpl
theorem ex_c5 {α1 α2 α3 α4 α5 : Type} {e1 : α1 → PyData} {e2 : α2 → PyData} {e3 : α3 → PyData} {e4 : α4 → PyData} {e5 : α5 → PyData} {dom : α1 → α2 → α3 → α4 → α5 → Prop} {f : α1 → α2 → α3 → α4 → α5 → An} {a1 a2 a3 a4 a5 : Expr} {δ0 δ1 δ2 δ3 δ4 δ5 : List Sl} {r : Exn} {x1 : α1} {x2 : α2} {x3 : α3} {x4 : α4} {x5 : α5} (tk : Takes X W) (D : Def X.prog X.w X.K X.mg X.base T k x [] (Fn5 e1 e2 e3 e4 e5 dom f)) (hr : Room k X.A) (h1 : EV X T a1 δ0 (.d (e1 x1)) δ1) (h2 : EV X T a2 δ1 (.d (e2 x2)) δ2) (h3 : EV X T a3 δ2 (.d (e3 x3)) δ3) (h4 : EV X T a4 δ3 (.d (e4 x4)) δ4) (h5 : EV X T a5 δ4 (.d (e5 x5)) δ5) (hd : dom x1 x2 x3 x4 x5) (hf : f x1 x2 x3 x4 x5 = .x r := by rfl) (hg : Gl X x := by rfl) (hdb : (x == ("__debug__" : Str)) = false := by decide) (s1 : starEach [a1, a2, a3, a4, a5] X.env = (false, eval a1 X.env) :: starEach [a2, a3, a4, a5] X.env := by rfl) (s2 : starEach [a2, a3, a4, a5] X.env = (false, eval a2 X.env) :: starEach [a3, a4, a5] X.env := by rfl) (s3 : starEach [a3, a4, a5] X.env = (false, eval a3 X.env) :: starEach [a4, a5] X.env := by rfl) (s4 : starEach [a4, a5] X.env = (false, eval a4 X.env) :: starEach [a5] X.env := by rfl) (s5 : starEach [a5] X.env = (false, eval a5 X.env) :: starEach [] X.env := by rfl) (hpl : (backTo pos (starEach [a2, a3, a4, a5] X.env)).any (·.1) = false := by rfl) : EX X T W (.Call (.Name x p) [a1, a2, a3, a4, a5] [] pos) δ0 r δ5 :=
  ex_c (δc := [.d (e1 x1), .d (e2 x2), .d (e3 x3), .d (e4 x4), .d (e5 x5)]) tk D hr (al_cons h1 (al_cons h2 (al_cons h3 (al_cons h4 (al_cons h5 al_nil s5) s4) s3) s2) s1) ⟨x1, x2, x3, x4, x5, hd, rfl, by rw [hf]; rfl⟩ (bk_none rfl) rfl hg hdb s1 hpl
theorem ev_r5 {m : Nat} {dom : List PyData → Prop} {f : List PyData → An} {a1 a2 a3 a4 a5 : Expr} {δ0 δ1 δ2 δ3 δ4 δ5 : List Sl} {r : Sl} {x1 x2 x3 x4 x5 : PyData} (D : Def X.prog X.w X.K X.mg X.base T k x dds (FnR m dom f)) (hr : Room k X.A) (h1 : EV X T a1 δ0 (.d x1) δ1) (h2 : EV X T a2 δ1 (.d x2) δ2) (h3 : EV X T a3 δ2 (.d x3) δ3) (h4 : EV X T a4 δ3 (.d x4) δ4) (h5 : EV X T a5 δ4 (.d x5) δ5) (hd : dom ([x1, x2, x3, x4, x5] ++ dds)) (hf : f ([x1, x2, x3, x4, x5] ++ dds) = .r r := by rfl) (hn : ([x1, x2, x3, x4, x5] ++ dds).length = m := by rfl) (hg : Gl X x := by rfl) (hdb : (x == ("__debug__" : Str)) = false := by decide) (s1 : starEach [a1, a2, a3, a4, a5] X.env = (false, eval a1 X.env) :: starEach [a2, a3, a4, a5] X.env := by rfl) (s2 : starEach [a2, a3, a4, a5] X.env = (false, eval a2 X.env) :: starEach [a3, a4, a5] X.env := by rfl) (s3 : starEach [a3, a4, a5] X.env = (false, eval a3 X.env) :: starEach [a4, a5] X.env := by rfl) (s4 : starEach [a4, a5] X.env = (false, eval a4 X.env) :: starEach [a5] X.env := by rfl) (s5 : starEach [a5] X.env = (false, eval a5 X.env) :: starEach [] X.env := by rfl) (hpl : (backTo pos (starEach [a2, a3, a4, a5] X.env)).any (·.1) = false := by rfl) : EV X T (.Call (.Name x p) [a1, a2, a3, a4, a5] [] pos) δ0 r δ5 :=
  ev_cf D hr (xs := [x1, x2, x3, x4, x5]) (al_cons h1 (al_cons h2 (al_cons h3 (al_cons h4 (al_cons h5 al_nil s5) s4) s3) s2) s1) hf hd rfl hn hg hdb s1 hpl
theorem ev_tup1 {a1 : Expr} {δ0 δ1 : List Sl} {x1 : PyData} {c : Nat} (h1 : EV X T a1 δ0 (.d x1) δ1) (s1 : starEach [a1] X.env = (false, eval a1 X.env) :: starEach [] X.env := by rfl) : EV X T (.Tuple [a1] c pos) δ0 (.d (.tuple [x1])) δ1 := ev_tup (rs := [x1]) (av_cons h1 av_nil s1)
theorem ev_lst1 {a1 : Expr} {δ0 δ1 : List Sl} {x1 : PyData} (h1 : EV X T a1 δ0 (.d x1) δ1) (s1 : starEach [a1] X.env = (false, eval a1 X.env) :: starEach [] X.env := by rfl) : EV X T (.List [a1] pos) δ0 (.o (.lst [x1])) δ1 := ev_lst (rs := [x1]) (av_cons h1 av_nil s1)
theorem ev_lstd1 {a1 : Expr} {δ0 δ1 : List Sl} {x1 : PyData} (h1 : EV X T a1 δ0 (.d x1) δ1) (s1 : starEach [a1] X.env = (false, eval a1 X.env) :: starEach [] X.env := by rfl) : EV X T (.List [a1] pos) δ0 (.d (.list [x1])) δ1 := ev_lstd (rs := [x1]) (av_cons h1 av_nil s1)
theorem ev_tup2 {a1 a2 : Expr} {δ0 δ1 δ2 : List Sl} {x1 x2 : PyData} {c : Nat} (h1 : EV X T a1 δ0 (.d x1) δ1) (h2 : EV X T a2 δ1 (.d x2) δ2) (s1 : starEach [a1, a2] X.env = (false, eval a1 X.env) :: starEach [a2] X.env := by rfl) (s2 : starEach [a2] X.env = (false, eval a2 X.env) :: starEach [] X.env := by rfl) : EV X T (.Tuple [a1, a2] c pos) δ0 (.d (.tuple [x1, x2])) δ2 := ev_tup (rs := [x1, x2]) (av_cons h1 (av_cons h2 av_nil s2) s1)
theorem ev_lst2 {a1 a2 : Expr} {δ0 δ1 δ2 : List Sl} {x1 x2 : PyData} (h1 : EV X T a1 δ0 (.d x1) δ1) (h2 : EV X T a2 δ1 (.d x2) δ2) (s1 : starEach [a1, a2] X.env = (false, eval a1 X.env) :: starEach [a2] X.env := by rfl) (s2 : starEach [a2] X.env = (false, eval a2 X.env) :: starEach [] X.env := by rfl) : EV X T (.List [a1, a2] pos) δ0 (.o (.lst [x1, x2])) δ2 := ev_lst (rs := [x1, x2]) (av_cons h1 (av_cons h2 av_nil s2) s1)
theorem ev_lstd2 {a1 a2 : Expr} {δ0 δ1 δ2 : List Sl} {x1 x2 : PyData} (h1 : EV X T a1 δ0 (.d x1) δ1) (h2 : EV X T a2 δ1 (.d x2) δ2) (s1 : starEach [a1, a2] X.env = (false, eval a1 X.env) :: starEach [a2] X.env := by rfl) (s2 : starEach [a2] X.env = (false, eval a2 X.env) :: starEach [] X.env := by rfl) : EV X T (.List [a1, a2] pos) δ0 (.d (.list [x1, x2])) δ2 := ev_lstd (rs := [x1, x2]) (av_cons h1 (av_cons h2 av_nil s2) s1)
theorem ev_tup3 {a1 a2 a3 : Expr} {δ0 δ1 δ2 δ3 : List Sl} {x1 x2 x3 : PyData} {c : Nat} (h1 : EV X T a1 δ0 (.d x1) δ1) (h2 : EV X T a2 δ1 (.d x2) δ2) (h3 : EV X T a3 δ2 (.d x3) δ3) (s1 : starEach [a1, a2, a3] X.env = (false, eval a1 X.env) :: starEach [a2, a3] X.env := by rfl) (s2 : starEach [a2, a3] X.env = (false, eval a2 X.env) :: starEach [a3] X.env := by rfl) (s3 : starEach [a3] X.env = (false, eval a3 X.env) :: starEach [] X.env := by rfl) : EV X T (.Tuple [a1, a2, a3] c pos) δ0 (.d (.tuple [x1, x2, x3])) δ3 := ev_tup (rs := [x1, x2, x3]) (av_cons h1 (av_cons h2 (av_cons h3 av_nil s3) s2) s1)
theorem ev_lst3 {a1 a2 a3 : Expr} {δ0 δ1 δ2 δ3 : List Sl} {x1 x2 x3 : PyData} (h1 : EV X T a1 δ0 (.d x1) δ1) (h2 : EV X T a2 δ1 (.d x2) δ2) (h3 : EV X T a3 δ2 (.d x3) δ3) (s1 : starEach [a1, a2, a3] X.env = (false, eval a1 X.env) :: starEach [a2, a3] X.env := by rfl) (s2 : starEach [a2, a3] X.env = (false, eval a2 X.env) :: starEach [a3] X.env := by rfl) (s3 : starEach [a3] X.env = (false, eval a3 X.env) :: starEach [] X.env := by rfl) : EV X T (.List [a1, a2, a3] pos) δ0 (.o (.lst [x1, x2, x3])) δ3 := ev_lst (rs := [x1, x2, x3]) (av_cons h1 (av_cons h2 (av_cons h3 av_nil s3) s2) s1)
theorem ev_lstd3 {a1 a2 a3 : Expr} {δ0 δ1 δ2 δ3 : List Sl} {x1 x2 x3 : PyData} (h1 : EV X T a1 δ0 (.d x1) δ1) (h2 : EV X T a2 δ1 (.d x2) δ2) (h3 : EV X T a3 δ2 (.d x3) δ3) (s1 : starEach [a1, a2, a3] X.env = (false, eval a1 X.env) :: starEach [a2, a3] X.env := by rfl) (s2 : starEach [a2, a3] X.env = (false, eval a2 X.env) :: starEach [a3] X.env := by rfl) (s3 : starEach [a3] X.env = (false, eval a3 X.env) :: starEach [] X.env := by rfl) : EV X T (.List [a1, a2, a3] pos) δ0 (.d (.list [x1, x2, x3])) δ3 := ev_lstd (rs := [x1, x2, x3]) (av_cons h1 (av_cons h2 (av_cons h3 av_nil s3) s2) s1)
theorem ev_tup4 {a1 a2 a3 a4 : Expr} {δ0 δ1 δ2 δ3 δ4 : List Sl} {x1 x2 x3 x4 : PyData} {c : Nat} (h1 : EV X T a1 δ0 (.d x1) δ1) (h2 : EV X T a2 δ1 (.d x2) δ2) (h3 : EV X T a3 δ2 (.d x3) δ3) (h4 : EV X T a4 δ3 (.d x4) δ4) (s1 : starEach [a1, a2, a3, a4] X.env = (false, eval a1 X.env) :: starEach [a2, a3, a4] X.env := by rfl) (s2 : starEach [a2, a3, a4] X.env = (false, eval a2 X.env) :: starEach [a3, a4] X.env := by rfl) (s3 : starEach [a3, a4] X.env = (false, eval a3 X.env) :: starEach [a4] X.env := by rfl) (s4 : starEach [a4] X.env = (false, eval a4 X.env) :: starEach [] X.env := by rfl) : EV X T (.Tuple [a1, a2, a3, a4] c pos) δ0 (.d (.tuple [x1, x2, x3, x4])) δ4 := ev_tup (rs := [x1, x2, x3, x4]) (av_cons h1 (av_cons h2 (av_cons h3 (av_cons h4 av_nil s4) s3) s2) s1)
theorem ev_lst4 {a1 a2 a3 a4 : Expr} {δ0 δ1 δ2 δ3 δ4 : List Sl} {x1 x2 x3 x4 : PyData} (h1 : EV X T a1 δ0 (.d x1) δ1) (h2 : EV X T a2 δ1 (.d x2) δ2) (h3 : EV X T a3 δ2 (.d x3) δ3) (h4 : EV X T a4 δ3 (.d x4) δ4) (s1 : starEach [a1, a2, a3, a4] X.env = (false, eval a1 X.env) :: starEach [a2, a3, a4] X.env := by rfl) (s2 : starEach [a2, a3, a4] X.env = (false, eval a2 X.env) :: starEach [a3, a4] X.env := by rfl) (s3 : starEach [a3, a4] X.env = (false, eval a3 X.env) :: starEach [a4] X.env := by rfl) (s4 : starEach [a4] X.env = (false, eval a4 X.env) :: starEach [] X.env := by rfl) : EV X T (.List [a1, a2, a3, a4] pos) δ0 (.o (.lst [x1, x2, x3, x4])) δ4 := ev_lst (rs := [x1, x2, x3, x4]) (av_cons h1 (av_cons h2 (av_cons h3 (av_cons h4 av_nil s4) s3) s2) s1)
theorem ev_lstd4 {a1 a2 a3 a4 : Expr} {δ0 δ1 δ2 δ3 δ4 : List Sl} {x1 x2 x3 x4 : PyData} (h1 : EV X T a1 δ0 (.d x1) δ1) (h2 : EV X T a2 δ1 (.d x2) δ2) (h3 : EV X T a3 δ2 (.d x3) δ3) (h4 : EV X T a4 δ3 (.d x4) δ4) (s1 : starEach [a1, a2, a3, a4] X.env = (false, eval a1 X.env) :: starEach [a2, a3, a4] X.env := by rfl) (s2 : starEach [a2, a3, a4] X.env = (false, eval a2 X.env) :: starEach [a3, a4] X.env := by rfl) (s3 : starEach [a3, a4] X.env = (false, eval a3 X.env) :: starEach [a4] X.env := by rfl) (s4 : starEach [a4] X.env = (false, eval a4 X.env) :: starEach [] X.env := by rfl) : EV X T (.List [a1, a2, a3, a4] pos) δ0 (.d (.list [x1, x2, x3, x4])) δ4 := ev_lstd (rs := [x1, x2, x3, x4]) (av_cons h1 (av_cons h2 (av_cons h3 (av_cons h4 av_nil s4) s3) s2) s1)
theorem ev_tup5 {a1 a2 a3 a4 a5 : Expr} {δ0 δ1 δ2 δ3 δ4 δ5 : List Sl} {x1 x2 x3 x4 x5 : PyData} {c : Nat} (h1 : EV X T a1 δ0 (.d x1) δ1) (h2 : EV X T a2 δ1 (.d x2) δ2) (h3 : EV X T a3 δ2 (.d x3) δ3) (h4 : EV X T a4 δ3 (.d x4) δ4) (h5 : EV X T a5 δ4 (.d x5) δ5) (s1 : starEach [a1, a2, a3, a4, a5] X.env = (false, eval a1 X.env) :: starEach [a2, a3, a4, a5] X.env := by rfl) (s2 : starEach [a2, a3, a4, a5] X.env = (false, eval a2 X.env) :: starEach [a3, a4, a5] X.env := by rfl) (s3 : starEach [a3, a4, a5] X.env = (false, eval a3 X.env) :: starEach [a4, a5] X.env := by rfl) (s4 : starEach [a4, a5] X.env = (false, eval a4 X.env) :: starEach [a5] X.env := by rfl) (s5 : starEach [a5] X.env = (false, eval a5 X.env) :: starEach [] X.env := by rfl) : EV X T (.Tuple [a1, a2, a3, a4, a5] c pos) δ0 (.d (.tuple [x1, x2, x3, x4, x5])) δ5 := ev_tup (rs := [x1, x2, x3, x4, x5]) (av_cons h1 (av_cons h2 (av_cons h3 (av_cons h4 (av_cons h5 av_nil s5) s4) s3) s2) s1)
theorem ev_lst5 {a1 a2 a3 a4 a5 : Expr} {δ0 δ1 δ2 δ3 δ4 δ5 : List Sl} {x1 x2 x3 x4 x5 : PyData} (h1 : EV X T a1 δ0 (.d x1) δ1) (h2 : EV X T a2 δ1 (.d x2) δ2) (h3 : EV X T a3 δ2 (.d x3) δ3) (h4 : EV X T a4 δ3 (.d x4) δ4) (h5 : EV X T a5 δ4 (.d x5) δ5) (s1 : starEach [a1, a2, a3, a4, a5] X.env = (false, eval a1 X.env) :: starEach [a2, a3, a4, a5] X.env := by rfl) (s2 : starEach [a2, a3, a4, a5] X.env = (false, eval a2 X.env) :: starEach [a3, a4, a5] X.env := by rfl) (s3 : starEach [a3, a4, a5] X.env = (false, eval a3 X.env) :: starEach [a4, a5] X.env := by rfl) (s4 : starEach [a4, a5] X.env = (false, eval a4 X.env) :: starEach [a5] X.env := by rfl) (s5 : starEach [a5] X.env = (false, eval a5 X.env) :: starEach [] X.env := by rfl) : EV X T (.List [a1, a2, a3, a4, a5] pos) δ0 (.o (.lst [x1, x2, x3, x4, x5])) δ5 := ev_lst (rs := [x1, x2, x3, x4, x5]) (av_cons h1 (av_cons h2 (av_cons h3 (av_cons h4 (av_cons h5 av_nil s5) s4) s3) s2) s1)
theorem ev_lstd5 {a1 a2 a3 a4 a5 : Expr} {δ0 δ1 δ2 δ3 δ4 δ5 : List Sl} {x1 x2 x3 x4 x5 : PyData} (h1 : EV X T a1 δ0 (.d x1) δ1) (h2 : EV X T a2 δ1 (.d x2) δ2) (h3 : EV X T a3 δ2 (.d x3) δ3) (h4 : EV X T a4 δ3 (.d x4) δ4) (h5 : EV X T a5 δ4 (.d x5) δ5) (s1 : starEach [a1, a2, a3, a4, a5] X.env = (false, eval a1 X.env) :: starEach [a2, a3, a4, a5] X.env := by rfl) (s2 : starEach [a2, a3, a4, a5] X.env = (false, eval a2 X.env) :: starEach [a3, a4, a5] X.env := by rfl) (s3 : starEach [a3, a4, a5] X.env = (false, eval a3 X.env) :: starEach [a4, a5] X.env := by rfl) (s4 : starEach [a4, a5] X.env = (false, eval a4 X.env) :: starEach [a5] X.env := by rfl) (s5 : starEach [a5] X.env = (false, eval a5 X.env) :: starEach [] X.env := by rfl) : EV X T (.List [a1, a2, a3, a4, a5] pos) δ0 (.d (.list [x1, x2, x3, x4, x5])) δ5 := ev_lstd (rs := [x1, x2, x3, x4, x5]) (av_cons h1 (av_cons h2 (av_cons h3 (av_cons h4 (av_cons h5 av_nil s5) s4) s3) s2) s1)
theorem ev_lst6 {a1 a2 a3 a4 a5 a6 : Expr} {δ0 δ1 δ2 δ3 δ4 δ5 δ6 : List Sl} {x1 x2 x3 x4 x5 x6 : PyData} (h1 : EV X T a1 δ0 (.d x1) δ1) (h2 : EV X T a2 δ1 (.d x2) δ2) (h3 : EV X T a3 δ2 (.d x3) δ3) (h4 : EV X T a4 δ3 (.d x4) δ4) (h5 : EV X T a5 δ4 (.d x5) δ5) (h6 : EV X T a6 δ5 (.d x6) δ6) (s1 : starEach [a1, a2, a3, a4, a5, a6] X.env = (false, eval a1 X.env) :: starEach [a2, a3, a4, a5, a6] X.env := by rfl) (s2 : starEach [a2, a3, a4, a5, a6] X.env = (false, eval a2 X.env) :: starEach [a3, a4, a5, a6] X.env := by rfl) (s3 : starEach [a3, a4, a5, a6] X.env = (false, eval a3 X.env) :: starEach [a4, a5, a6] X.env := by rfl) (s4 : starEach [a4, a5, a6] X.env = (false, eval a4 X.env) :: starEach [a5, a6] X.env := by rfl) (s5 : starEach [a5, a6] X.env = (false, eval a5 X.env) :: starEach [a6] X.env := by rfl) (s6 : starEach [a6] X.env = (false, eval a6 X.env) :: starEach [] X.env := by rfl) : EV X T (.List [a1, a2, a3, a4, a5, a6] pos) δ0 (.o (.lst [x1, x2, x3, x4, x5, x6])) δ6 := ev_lst (rs := [x1, x2, x3, x4, x5, x6]) (av_cons h1 (av_cons h2 (av_cons h3 (av_cons h4 (av_cons h5 (av_cons h6 av_nil s6) s5) s4) s3) s2) s1)
theorem ev_lstd6 {a1 a2 a3 a4 a5 a6 : Expr} {δ0 δ1 δ2 δ3 δ4 δ5 δ6 : List Sl} {x1 x2 x3 x4 x5 x6 : PyData} (h1 : EV X T a1 δ0 (.d x1) δ1) (h2 : EV X T a2 δ1 (.d x2) δ2) (h3 : EV X T a3 δ2 (.d x3) δ3) (h4 : EV X T a4 δ3 (.d x4) δ4) (h5 : EV X T a5 δ4 (.d x5) δ5) (h6 : EV X T a6 δ5 (.d x6) δ6) (s1 : starEach [a1, a2, a3, a4, a5, a6] X.env = (false, eval a1 X.env) :: starEach [a2, a3, a4, a5, a6] X.env := by rfl) (s2 : starEach [a2, a3, a4, a5, a6] X.env = (false, eval a2 X.env) :: starEach [a3, a4, a5, a6] X.env := by rfl) (s3 : starEach [a3, a4, a5, a6] X.env = (false, eval a3 X.env) :: starEach [a4, a5, a6] X.env := by rfl) (s4 : starEach [a4, a5, a6] X.env = (false, eval a4 X.env) :: starEach [a5, a6] X.env := by rfl) (s5 : starEach [a5, a6] X.env = (false, eval a5 X.env) :: starEach [a6] X.env := by rfl) (s6 : starEach [a6] X.env = (false, eval a6 X.env) :: starEach [] X.env := by rfl) : EV X T (.List [a1, a2, a3, a4, a5, a6] pos) δ0 (.d (.list [x1, x2, x3, x4, x5, x6])) δ6 := ev_lstd (rs := [x1, x2, x3, x4, x5, x6]) (av_cons h1 (av_cons h2 (av_cons h3 (av_cons h4 (av_cons h5 (av_cons h6 av_nil s6) s5) s4) s3) s2) s1)
theorem ev_lst7 {a1 a2 a3 a4 a5 a6 a7 : Expr} {δ0 δ1 δ2 δ3 δ4 δ5 δ6 δ7 : List Sl} {x1 x2 x3 x4 x5 x6 x7 : PyData} (h1 : EV X T a1 δ0 (.d x1) δ1) (h2 : EV X T a2 δ1 (.d x2) δ2) (h3 : EV X T a3 δ2 (.d x3) δ3) (h4 : EV X T a4 δ3 (.d x4) δ4) (h5 : EV X T a5 δ4 (.d x5) δ5) (h6 : EV X T a6 δ5 (.d x6) δ6) (h7 : EV X T a7 δ6 (.d x7) δ7) (s1 : starEach [a1, a2, a3, a4, a5, a6, a7] X.env = (false, eval a1 X.env) :: starEach [a2, a3, a4, a5, a6, a7] X.env := by rfl) (s2 : starEach [a2, a3, a4, a5, a6, a7] X.env = (false, eval a2 X.env) :: starEach [a3, a4, a5, a6, a7] X.env := by rfl) (s3 : starEach [a3, a4, a5, a6, a7] X.env = (false, eval a3 X.env) :: starEach [a4, a5, a6, a7] X.env := by rfl) (s4 : starEach [a4, a5, a6, a7] X.env = (false, eval a4 X.env) :: starEach [a5, a6, a7] X.env := by rfl) (s5 : starEach [a5, a6, a7] X.env = (false, eval a5 X.env) :: starEach [a6, a7] X.env := by rfl) (s6 : starEach [a6, a7] X.env = (false, eval a6 X.env) :: starEach [a7] X.env := by rfl) (s7 : starEach [a7] X.env = (false, eval a7 X.env) :: starEach [] X.env := by rfl) : EV X T (.List [a1, a2, a3, a4, a5, a6, a7] pos) δ0 (.o (.lst [x1, x2, x3, x4, x5, x6, x7])) δ7 := ev_lst (rs := [x1, x2, x3, x4, x5, x6, x7]) (av_cons h1 (av_cons h2 (av_cons h3 (av_cons h4 (av_cons h5 (av_cons h6 (av_cons h7 av_nil s7) s6) s5) s4) s3) s2) s1)
theorem ev_lstd7 {a1 a2 a3 a4 a5 a6 a7 : Expr} {δ0 δ1 δ2 δ3 δ4 δ5 δ6 δ7 : List Sl} {x1 x2 x3 x4 x5 x6 x7 : PyData} (h1 : EV X T a1 δ0 (.d x1) δ1) (h2 : EV X T a2 δ1 (.d x2) δ2) (h3 : EV X T a3 δ2 (.d x3) δ3) (h4 : EV X T a4 δ3 (.d x4) δ4) (h5 : EV X T a5 δ4 (.d x5) δ5) (h6 : EV X T a6 δ5 (.d x6) δ6) (h7 : EV X T a7 δ6 (.d x7) δ7) (s1 : starEach [a1, a2, a3, a4, a5, a6, a7] X.env = (false, eval a1 X.env) :: starEach [a2, a3, a4, a5, a6, a7] X.env := by rfl) (s2 : starEach [a2, a3, a4, a5, a6, a7] X.env = (false, eval a2 X.env) :: starEach [a3, a4, a5, a6, a7] X.env := by rfl) (s3 : starEach [a3, a4, a5, a6, a7] X.env = (false, eval a3 X.env) :: starEach [a4, a5, a6, a7] X.env := by rfl) (s4 : starEach [a4, a5, a6, a7] X.env = (false, eval a4 X.env) :: starEach [a5, a6, a7] X.env := by rfl) (s5 : starEach [a5, a6, a7] X.env = (false, eval a5 X.env) :: starEach [a6, a7] X.env := by rfl) (s6 : starEach [a6, a7] X.env = (false, eval a6 X.env) :: starEach [a7] X.env := by rfl) (s7 : starEach [a7] X.env = (false, eval a7 X.env) :: starEach [] X.env := by rfl) : EV X T (.List [a1, a2, a3, a4, a5, a6, a7] pos) δ0 (.d (.list [x1, x2, x3, x4, x5, x6, x7])) δ7 := ev_lstd (rs := [x1, x2, x3, x4, x5, x6, x7]) (av_cons h1 (av_cons h2 (av_cons h3 (av_cons h4 (av_cons h5 (av_cons h6 (av_cons h7 av_nil s7) s6) s5) s4) s3) s2) s1)
theorem ev_lst8 {a1 a2 a3 a4 a5 a6 a7 a8 : Expr} {δ0 δ1 δ2 δ3 δ4 δ5 δ6 δ7 δ8 : List Sl} {x1 x2 x3 x4 x5 x6 x7 x8 : PyData} (h1 : EV X T a1 δ0 (.d x1) δ1) (h2 : EV X T a2 δ1 (.d x2) δ2) (h3 : EV X T a3 δ2 (.d x3) δ3) (h4 : EV X T a4 δ3 (.d x4) δ4) (h5 : EV X T a5 δ4 (.d x5) δ5) (h6 : EV X T a6 δ5 (.d x6) δ6) (h7 : EV X T a7 δ6 (.d x7) δ7) (h8 : EV X T a8 δ7 (.d x8) δ8) (s1 : starEach [a1, a2, a3, a4, a5, a6, a7, a8] X.env = (false, eval a1 X.env) :: starEach [a2, a3, a4, a5, a6, a7, a8] X.env := by rfl) (s2 : starEach [a2, a3, a4, a5, a6, a7, a8] X.env = (false, eval a2 X.env) :: starEach [a3, a4, a5, a6, a7, a8] X.env := by rfl) (s3 : starEach [a3, a4, a5, a6, a7, a8] X.env = (false, eval a3 X.env) :: starEach [a4, a5, a6, a7, a8] X.env := by rfl) (s4 : starEach [a4, a5, a6, a7, a8] X.env = (false, eval a4 X.env) :: starEach [a5, a6, a7, a8] X.env := by rfl) (s5 : starEach [a5, a6, a7, a8] X.env = (false, eval a5 X.env) :: starEach [a6, a7, a8] X.env := by rfl) (s6 : starEach [a6, a7, a8] X.env = (false, eval a6 X.env) :: starEach [a7, a8] X.env := by rfl) (s7 : starEach [a7, a8] X.env = (false, eval a7 X.env) :: starEach [a8] X.env := by rfl) (s8 : starEach [a8] X.env = (false, eval a8 X.env) :: starEach [] X.env := by rfl) : EV X T (.List [a1, a2, a3, a4, a5, a6, a7, a8] pos) δ0 (.o (.lst [x1, x2, x3, x4, x5, x6, x7, x8])) δ8 := ev_lst (rs := [x1, x2, x3, x4, x5, x6, x7, x8]) (av_cons h1 (av_cons h2 (av_cons h3 (av_cons h4 (av_cons h5 (av_cons h6 (av_cons h7 (av_cons h8 av_nil s8) s7) s6) s5) s4) s3) s2) s1)
theorem ev_lstd8 {a1 a2 a3 a4 a5 a6 a7 a8 : Expr} {δ0 δ1 δ2 δ3 δ4 δ5 δ6 δ7 δ8 : List Sl} {x1 x2 x3 x4 x5 x6 x7 x8 : PyData} (h1 : EV X T a1 δ0 (.d x1) δ1) (h2 : EV X T a2 δ1 (.d x2) δ2) (h3 : EV X T a3 δ2 (.d x3) δ3) (h4 : EV X T a4 δ3 (.d x4) δ4) (h5 : EV X T a5 δ4 (.d x5) δ5) (h6 : EV X T a6 δ5 (.d x6) δ6) (h7 : EV X T a7 δ6 (.d x7) δ7) (h8 : EV X T a8 δ7 (.d x8) δ8) (s1 : starEach [a1, a2, a3, a4, a5, a6, a7, a8] X.env = (false, eval a1 X.env) :: starEach [a2, a3, a4, a5, a6, a7, a8] X.env := by rfl) (s2 : starEach [a2, a3, a4, a5, a6, a7, a8] X.env = (false, eval a2 X.env) :: starEach [a3, a4, a5, a6, a7, a8] X.env := by rfl) (s3 : starEach [a3, a4, a5, a6, a7, a8] X.env = (false, eval a3 X.env) :: starEach [a4, a5, a6, a7, a8] X.env := by rfl) (s4 : starEach [a4, a5, a6, a7, a8] X.env = (false, eval a4 X.env) :: starEach [a5, a6, a7, a8] X.env := by rfl) (s5 : starEach [a5, a6, a7, a8] X.env = (false, eval a5 X.env) :: starEach [a6, a7, a8] X.env := by rfl) (s6 : starEach [a6, a7, a8] X.env = (false, eval a6 X.env) :: starEach [a7, a8] X.env := by rfl) (s7 : starEach [a7, a8] X.env = (false, eval a7 X.env) :: starEach [a8] X.env := by rfl) (s8 : starEach [a8] X.env = (false, eval a8 X.env) :: starEach [] X.env := by rfl) : EV X T (.List [a1, a2, a3, a4, a5, a6, a7, a8] pos) δ0 (.d (.list [x1, x2, x3, x4, x5, x6, x7, x8])) δ8 := ev_lstd (rs := [x1, x2, x3, x4, x5, x6, x7, x8]) (av_cons h1 (av_cons h2 (av_cons h3 (av_cons h4 (av_cons h5 (av_cons h6 (av_cons h7 (av_cons h8 av_nil s8) s7) s6) s5) s4) s3) s2) s1)
theorem ev_lst0 {δ : List Sl} : EV X T (.List [] pos) δ (.o (.lst [])) δ := ev_lst (rs := []) av_nil
theorem ev_lstd0 {δ : List Sl} : EV X T (.List [] pos) δ (.d (.list [])) δ := ev_lstd (rs := []) av_nil
end
end Sc
namespace Sc
open PySem L2 NdefX
section
variable {X : Cx} {T : List NTab} {W : WX} {tg : Expr} {body : List Stmt}
/-- a loop that carries a state -/
theorem lf_fold {α σ : Type} {en : α → PyData} {st : σ → List Sl} {step : σ → α → σ} (I : List α → σ → Prop)
    (h : ∀ x xs s, I (x :: xs) s → I xs (step s x) ∧ ∃ δ1, GV X T tg (.d (en x)) (st s) δ1 ∧ SVs X T W body δ1 (.nx (st (step s x)))) :
    ∀ xs s, I xs s → LoopF X T W tg body (xs.map en) (st s) (.nx (st (xs.foldl step s)))
  | [], s, _ => lf_nil
  | x :: xs, s, hI => by
    obtain ⟨h1, δ1, h2, h3⟩ := h x xs s hI
    exact lf_nx h2 h3 (lf_fold I h xs (step s x) h1)
/-- .. that may leave the def: step tells the new state, or what is handed back -/
def runE {α σ ρ : Type} (step : σ → α → σ ⊕ ρ) : List α → σ → σ ⊕ ρ
  | [], s => .inl s
  | x :: xs, s => match step s x with
    | .inl s' => runE step xs s'
    | .inr r => .inr r
theorem lf_run {α σ ρ : Type} {en : α → PyData} {st : σ → List Sl} {step : σ → α → σ ⊕ ρ} {out : ρ → Out} (I : List α → σ → Prop)
    (h : ∀ x xs s, I (x :: xs) s → (∀ s', step s x = .inl s' → I xs s') ∧ ∃ δ1, GV X T tg (.d (en x)) (st s) δ1 ∧ match step s x with
      | .inl s' => SVs X T W body δ1 (.nx (st s'))
      | .inr r => SVs X T W body δ1 (out r) ∧ ((∃ v δ, out r = .ret v δ) ∨ ∃ e δ, out r = .ex e δ)) :
    ∀ xs s, I xs s → LoopF X T W tg body (xs.map en) (st s) (match runE step xs s with | .inl s' => .nx (st s') | .inr r => out r)
  | [], s, _ => lf_nil
  | x :: xs, s, hI => by
    obtain ⟨h1, δ1, h2, h3⟩ := h x xs s hI
    unfold runE
    cases e : step s x with
    | inl s' =>
      rw [e] at h3
      exact lf_nx h2 h3 (lf_run I h xs s' (h1 s' e))
    | inr r =>
      rw [e] at h3
      obtain ⟨h3, h4⟩ := h3
      rcases h4 with ⟨v, δ, h4⟩ | ⟨x', δ, h4⟩
      · rw [h4] at h3
        simp only [h4]
        exact lf_ret h2 h3
      · rw [h4] at h3
        simp only [h4]
        exact lf_ex h2 h3
end
section
variable {X : Cx} {T : List NTab} {δ δ1 δ2 : List Sl} {e : Expr} {tg : Expr} {p pos : Pos}
theorem range_of (j : Int) : rangeD 0 j.toNat = (List.range j.toNat).map fun p => PyData.int (p : Nat) := by
  unfold rangeD
  exact List.map_congr_left fun p _ => by rw [Int.zero_add]
theorem iv_rangeZ {j : Int} (B : Bi X.mg) (h : EV X T e δ (.d (.int j)) δ1) (h1 : -(2 ^ 62) ≤ j) (h2 : j < 2 ^ 62) (hg : Gl X "range" := by rfl) (hs : starEach [e] X.env = [(false, eval e X.env)] := by rfl) :
    IV X T tg (.Call (.Name "range" p) [e] [] pos) δ (.fix ((List.range j.toNat).map fun p => .int (p : Nat))) δ1 := IV.eq (iv_range1 B h h1 h2 hg hs) (range_of j)
end
end Sc
namespace Sc
open PySem L2 NdefX PySem.W PyProof.Rows PySem.Calls
/-! #### sorted(a dict, key=a def) -/
theorem sorted_collected {prog : Program} {w : World} {A : Around} {E : Value → Shared → Prop} {s : Shared} {l : Addr} {kw : List (Str × Value)} {Q : Value → Shared → Prop} {RA : List Value → Prop}
    (hcol : ∀ (R : List Value → Shared → Prop), (∀ (h' : Heap) (tk : Nat) (acc : List Value), (∀ b o, s.heap.get? b = some o → h'.get? b = some o) → RA acc → R acc { s with heap := h', toks := tk }) → wpAny (model prog w) A.in1 (collect (.ref l)) R E s)
    (hL : ∀ acc, RA acc → acc.length ≤ sizeLine) (ha1 : argsOk "sorted" ⟨[.ref l], kw⟩) (ha2 : ∀ x, argsOk "list.sort" ⟨[.ref x], kw⟩)
    (body : ∀ (E' : Value → Shared → Prop) (h' : Heap) (tk : Nat) (acc : List Value), (∀ b o, s.heap.get? b = some o → h'.get? b = some o) → RA acc →
      wpAny (model prog w) A.in1.in1 (Builtin.«list.sort» ⟨[.ref h'.objs.size], kw⟩) (fun f s' => f = .done (.ret .none) ∧ Q (.ref h'.objs.size) s') E' { s with heap := h'.push (seqObj "list" acc.toArray 0), toks := tk }) :
    wpAny (model prog w) A (call (.builtin "sorted") [.ref l] kw) Q E s := by
  refine call_function_entry_kw kind_sorted plain_sorted entry_sorted ha1 ?_
  unfold Builtin.«sorted»
  refine wpAny_bind (m := checkCount "sorted" 1 1 _) (wpAny_pure ?_)
  refine wpAny_bind (hcol _ fun h' tk acc hk hacc => ?_)
  refine wpAny_bind (wpAny_newList ?_ (hL acc hacc))
  have hoL : (h'.push (seqObj "list" acc.toArray 0)).get? h'.objs.size = some (seqObj "list" acc.toArray 0) := Heap.get?_push_size _ rfl
  show wpAny _ _ _ _ _ { s with heap := h'.push (seqObj "list" acc.toArray 0), toks := tk }
  refine wpAny_bind (wpAny_holding (wpAny_call_entry_kw slot_list_sort ⟨_, hoL, rfl⟩ entry_list_sort ?body (ha2 _)))
  case body =>
    show wpAny (model prog w) A.in1.in1 (Builtin.«list.sort» ⟨[.ref h'.objs.size], kw⟩) _ _ _
    refine wpAny_mono (body _ h' tk acc hk hacc) (fun f s' hf => ?_) fun _ _ e => e
    obtain ⟨rfl, hq⟩ := hf
    exact ⟨_, rfl, wpAny_pure ⟨_, rfl, hq⟩⟩
section
variable {X : Cx} {T : List NTab} {δ δ1 : List Sl}
theorem vals_keys {P : Program} {w : World} : ∀ {ks : List Key} {us : List Value}, (∀ (i : Nat) (v : Value), us[i]? = some v → ∃ k : Key, ks[i]? = some k ∧ (mixKind P w).is k v = true) → us.length = ks.length → Vals (ks.map kV) us
  | [], [], _, _ => .nil
  | [], _ :: _, _, h => by cases h
  | _ :: _, [], _, h => by cases h
  | k :: ks, u :: us, h, hl => by
    obtain ⟨k', e, q⟩ := h 0 u rfl
    cases e
    exact .cons (keyIs_rel q) (vals_keys (fun i v e => h (i + 1) v e) (by simpa using hl))
theorem sort_runD {u : Addr} {P : PyData → Prop} {kf : PyData → PyData} {σ : L2.St} {H : Hp} {S : Addr → Prop} {s : Shared} {pins : List (Addr × Obj)} {a : Addr} {r : List (Key × V)} {kvs : List (Key × PyData)} {Q : VK} (hcalm : X.calm = true) (KF : KeyFn X T [] (fun _ => True) (.ref u) P kf) (I : Inv X pins σ H s) (E : Env X.K T H S σ δ)
    (hq : H a = some (.dK r)) (hd : KvAt X.K (vw H S) r kvs) (hP : ∀ d ∈ keysD kvs, P d) (hal : AllAlike ((keysD kvs).map kf)) (hsk : Sortable ((keysD kvs).map kf)) (hu : ∀ d ∈ keysD kvs, X.A.units + 2 + (kf d).depth < cLine)
    (k : ∀ v H' S', Go H S (Owned σ δ) H' S' (Owned σ δ) → Env X.K T H' S' σ δ → Res X.K H (Owned σ δ) H' S' (Owned σ δ) (.o (.lst (sortD kf (keysD kvs)))) v → Q v H') :
    wpAny (model X.prog X.w) X.A (call (.builtin "sorted") [.ref a] [(Str.ofString "key", .ref u)]) (L2.EP X pins σ Q) X.xe s := by
  obtain ⟨z, lo, vs, rel, dd⟩ := dk_of I.hok hq
  obtain ⟨ep, hat⟩ := dd.dictAt
  have hlr : vs.length = r.length := rel.length.symm
  have h16 : vs.length ≤ sizeLine := by rw [hlr]; exact z
  have hkeys : vs.map (·.1) = kvs.map (·.1) := rel.keys.symm.trans (kv_keys hd)
  have hlk : vs.length = kvs.length := by
    have e := congrArg List.length hkeys
    rwa [List.length_map, List.length_map] at e
  have e2 : keysD kvs = (kvs.map (·.1)).map kD := by unfold keysD; rw [List.map_map]; rfl
  generalize hds : keysD kvs = ds at *
  have lds : ds.length = vs.length := by rw [e2, List.length_map, List.length_map, hlk]
  have bare : ∀ (xs : List Value) (e : Nat) (w : Option Value), (seqObj "list" xs.toArray e).data ≠ .cell w := fun xs e w z => nomatch z
  refine sorted_collected (RA := fun acc => Vals ((kvs.map (·.1)).map kV) acc) (fun R hR => kdu_collect (A := X.A.in1) (kdl_dict (knd := mixKind X.prog X.w) (kvs := vs) (ep := ep) lo) (I.ok.hd hcalm) hat h16 fun h' tk acc hk hacc => hR h' tk acc.toList hk ?_) (fun acc ha => ?_) (ksk_s1 _ _) (fun x => ksk_l1 _ _) ?_
  · refine vals_keys (P := X.prog) (w := X.w) (fun i v e => ?_) (by rw [Array.length_toList, hacc.1, List.length_map, hlk])
    obtain ⟨k', x, e1, e3⟩ := hacc.2 i v (by rw [← Array.getElem?_toList]; exact e)
    refine ⟨k', ?_, e3⟩
    rw [← hkeys, List.getElem?_map, e1]
    rfl
  · have q := ha.length
    rw [List.length_map, List.length_map, ← hlk] at q
    omega
  · intro E' h' tk acc up0 hacc
    rw [ksk_t1 u _]
    have li : acc.length = ds.length := by
      have q := hacc.length
      rw [List.length_map, List.length_map, ← hlk] at q
      omega
    have hdp : ∀ hh, DpAll X.K hh ((kvs.map (·.1)).map kV) ds := fun hh => by rw [e2]; exact keys_dp (S := r) _
    have rv : Vals ((kvs.map (·.1)).map kV) acc := hacc
    have ed : EachIs (fun u d => ∃ x, RelV x u ∧ Dp X.K (vw H S) x d) acc ds := each_dp (hdp _) rv
    have hoL : (h'.push (seqObj "list" acc.toArray 0)).get? h'.objs.size = some (seqObj "list" acc.toArray 0) := Heap.get?_push_size _ rfl
    have upl : ∀ b o, s.heap.get? b = some o → (h'.push (seqObj "list" acc.toArray 0)).get? b = some o := fun b o e => Heap.get?_push_of_some _ (up0 b o e)
    have less : ∀ b o, s.heap.get? b = some o → b ≠ h'.objs.size := fun b o e => Nat.ne_of_lt (Heap.lt_size (up0 b o e))
    have I1 : Inv X pins σ H { s with heap := h', toks := tk } := I.kept (t' := tk) up0
    have sz : (h'.push (seqObj "list" acc.toArray 0)).objs.size = h'.objs.size + 1 := size_push' ..
    refine wpAny_mono (sk_tree (s := { s with heap := h'.push (seqObj "list" acc.toArray 0), toks := tk }) (P := fun f s' => f = .done (.ret .none) ∧ L2.EP X pins σ Q (.ref h'.objs.size) s') (kz := ds.map kf) (b := false) (f := .ref u) (n := 0) (vs := acc) (a := h'.objs.size) (fun kS ks s' => ∃ H' S', Inv X pins σ H' s' ∧ FpOk X pins H' kS ∧ FpOk X pins H' h'.objs.size ∧ kS ≠ h'.objs.size ∧ Go H S (Owned σ δ) H' S' (Owned σ δ) ∧ Env X.K T H' S' σ δ ∧ ∃ us, Vals us ks ∧ DpAll X.K (vw H' S') us ((ds.take ks.length).map kf))
      hoL (by rw [List.length_map, li]) (by rw [li, lds]; exact h16) hal hsk (fun d hd' => by
        obtain ⟨y, hy, rfl⟩ := List.mem_map.mp hd'
        have := hu y hy
        show X.A.units + 2 + _ < _
        exact this) ?_ ?_ ?_ ?_) (fun _ _ e => e) fun _ _ e => e
    · intro h2 kS up h1
      rw [show ({ s with heap := h'.push (seqObj "list" acc.toArray 0), toks := tk } : Shared).heap.objs.size = h'.objs.size + 1 from sz] at h1
      have up2 : ∀ b o, s.heap.get? b = some o → h2.get? b = some o := fun b o e => up b o (less b o e) (upl b o e)
      exact ⟨H, S, I.kept (t' := tk) up2, I1.fpOk (Nat.le_of_succ_le h1) (I1.hok.fresh (Nat.le_of_succ_le h1)), I1.fpOk (Nat.le_refl _) (I1.hok.fresh (Nat.le_refl _)), Nat.ne_of_gt h1, Go.refl _ _ _, E, [], .nil, by rw [List.length_nil, List.take_zero]; exact .nil⟩
    · rintro e1 kS i v kk ks s' c h1 hv hk hlen ⟨H', S', I', f1, f2, hne, g', E', us, r', d'⟩ bk ba
      rw [List.getElem?_map] at hk
      cases hdi : ds[i]? with
      | none => rw [hdi] at hk; cases hk
      | some y =>
        rw [hdi] at hk
        cases hk
        obtain ⟨x, rx, dx⟩ := each_at ed hv hdi
        have I2 := I'.pinned (fp := [kS, h'.objs.size]) (fun b hb => by
          rcases List.mem_cons.mp hb with e | hb
          · rw [e]; exact f1
          · rw [List.mem_singleton.mp hb]; exact f2) (fun b hb => by
          rcases List.mem_cons.mp hb with e | hb
          · rw [e]; exact ⟨_, bk, bare _ _⟩
          · rw [List.mem_singleton.mp hb]; exact ⟨_, ba, bare _ _⟩)
        refine wpAny_mono (KF _ σ H' S' s' δ y x v (fun p hp => nomatch hp) True.intro I2 E' (dp_mono g'.mono dx) (hP y (List.mem_of_getElem? hdi)) rx) (fun q s2 ⟨z, H2, S2, I3, g3, E3, rz, dz⟩ => ?_) fun _ _ z => z
        have pk := I3.pin (kS, _) (List.mem_append_right _ (List.mem_append_right _ (mem_pinsAt (fp := [kS, h'.objs.size]) (by simp) bk)))
        have pa := I3.pin (h'.objs.size, _) (List.mem_append_right _ (List.mem_append_right _ (mem_pinsAt (fp := [kS, h'.objs.size]) (by simp) ba)))
        refine ⟨pk.1, pa.1, fun h' sb => ?_⟩
        have f1' : FpOk X pins H2 kS := ⟨pk.2.1, f1.2⟩
        have I4 : Inv X pins σ H2 s2 := I3.unpinned
        have I5 : Inv X pins σ H2 { s2 with heap := h' } := I4.turnedL (t' := s2.toks) (ch := [kS]) (fun b o hb e => (sb.2 b fun z => hb (by simp [z])).trans e) fun b hb => by rw [List.mem_singleton.mp hb]; exact f1'
        refine ⟨H2, S2, I5, f1', ⟨pa.2.1, f2.2⟩, hne, g'.trans g3, E3, us ++ [z], r'.append (.cons rz .nil), ?_⟩
        have et : ds.take (ks ++ [q]).length = ds.take i ++ [y] := by
          rw [List.length_append, hlen, List.length_singleton, List.take_add_one, hdi]
          rfl
        rw [et, List.map_append]
        rw [hlen] at d'
        exact dpAll_app (dpAll_mono g3.mono d') (.cons dz .nil)
    · rintro kS ks s' ⟨H', S', I', _, _, _, _, _, us, r', d'⟩ hlen
      rw [hlen, li, List.take_length] at d'
      exact each_reads I' (dpAll_real d') r'
    · rintro kS ks s' h2 tk2 out c h1 ⟨H', S', I', f1, f2, hne, g', E', us, r', d'⟩ hlen kp bo ko
      have I2 : Inv X pins σ H' { s' with heap := h2, toks := tk2 } := I'.turnedL (t' := tk2) (ch := [h'.objs.size, kS]) (fun b o hb e => kp b o (fun z => hb (by simp [z])) (fun z => hb (by simp [z])) e) fun b hb => by
        rcases List.mem_cons.mp hb with e | hb
        · rw [e]; exact f2
        · rw [List.mem_singleton.mp hb]; exact f1
      have eo := keyedOut_each (rev := false) (bs := ds) kf ko ed
      obtain ⟨ys, dy, ry⟩ := dp_each eo
      have hly : ys.length ≤ sizeLine := by
        rw [dpAll_len dy, List.length_mergeSort, lds]
        exact h16
      have I3 := I2.take (h' := h2) (t' := tk2) (it := h'.objs.size) (o := .lst ys) (fun b o _ e => e) f2 ⟨hly, out, c, ry, bo⟩
      obtain ⟨g2, e3, x2⟩ := new_lsto (vs := ys) (ds := sortD kf ds) E' f2.1 (dpAll_mono g'.mono dy)
      exact ⟨rfl, .ref h'.objs.size, _, I3, rfl, k _ _ _ (g'.trans g2) e3 (x2.back g'.keep g'.ow)⟩
end
end Sc
namespace Sc
open PySem L2 NdefX PySem.W
/-! #### sorted(a dict in a slot, key=a def); dict comprehensions -/
section
variable {X : Cx} {T : List NTab} {δ δ1 : List Sl} {W : WX} {k m : Nat} {f : Str} {dom : List PyData → Prop} {fn : List PyData → An} {kf : PyData → PyData} {e : Expr} {p pf kpos pos pn : Pos} {x : Str}
theorem ev_sortKK (C : Cok X W m) (B : Bi X.mg) (D : Def X.prog X.w X.K X.mg X.base T k f [] (FnR 1 dom fn)) (hm : k + 2 ≤ m) (j : Nat) {s : Sl} {kvs : List (Key × PyData)} (hj : δ[j]? = some s) (hw : s.ow = some (.dk kvs)) (hd : ∀ d ∈ keysD kvs, dom [d] ∧ fn [d] = .r (.d (kf d))) (hal : AllAlike ((keysD kvs).map kf)) (hsk : Sortable ((keysD kvs).map kf)) (hu : ∀ d ∈ keysD kvs, (kf d).depth ≤ 60)
    (hN : X.N[j]? = some x := by rfl) (hv : Vis X.env.scope x := by first | exact Or.inl rfl | exact Or.inr (Or.inl rfl) | exact Or.inr (Or.inr rfl)) (hdbx : (x == ("__debug__" : Str)) = false := by decide) (hcd : (x == ("__classdict__" : Str)) = false := by decide)
    (hg : Gl X "sorted" := by rfl) (hgf : Gl X f := by rfl) (hdb : (f == ("__debug__" : Str)) = false := by decide) (hs1 : starEach [.Name x pn] X.env = (false, eval (.Name x pn) X.env) :: starEach [] X.env := by rfl) (hs : backTo pos (starEach [.Name x pn] X.env) = (false, eval (.Name x pn) X.env) :: backTo pos (starEach [] X.env) := by rfl) (hpl : (backTo pos (starEach [.Name x pn] X.env)).any (·.1) = false := by rfl)
    (hall : (backToKw pos (keywordEach [⟨some (Str.ofString "key"), .Name f pf, kpos⟩] X.env)).all (·.1.isSome) = true := by rfl) (hnone : (backToKw pos (keywordEach [⟨some (Str.ofString "key"), .Name f pf, kpos⟩] X.env)).any (·.1.isNone) = false := by rfl) (hks : (backToKw pos (keywordEach [⟨some (Str.ofString "key"), .Name f pf, kpos⟩] X.env)).filterMap (·.1) = [Str.ofString "key"] := by rfl) :
    EV X T (.Call (.Name "sorted" p) [.Name x pn] [⟨some (Str.ofString "key"), .Name f pf, kpos⟩] pos) δ (.o (.lst (sortD kf (keysD kvs)))) δ := fun σ H S Q E kk pins s I => by
  obtain ⟨fa, hmf, KF⟩ := keyFn_def (P := fun d => d ∈ keysD kvs) (kf := kf) D ((C.room.mono hm).in1.in1) hd
  obtain ⟨q, eq, r, hq, hdk⟩ := E.own j _ _ hj hw
  refine wpAny_Call_Name_kw (ld_blt (u := .builtin "sorted") I hg B.sorted (by decide +kernel) ?_)
  refine PyProof.Rows.callWith_kw ?_ hs hpl hall hnone
  refine thn ((pa_cons (pe_var hN hv hdbx hcd) pa_nil hs1).run pos pins s σ H (fun us H1 => us = [V.ref q] ∧ H1 = H) I ⟨_, eq, rfl, rfl⟩) fun us s1 ⟨vs, H1, I1, r1, ev, eH⟩ => ?_
  subst ev eH
  obtain ⟨u, rfl, ru⟩ := r1.one
  refine thn ((pk_cons (pe_glob hgf hmf (v := V.ref fa) rfl hdb) pk_nil).run pos pins s1 σ H1 (fun zs H2 => zs = [V.ref fa] ∧ H2 = H1) I1 ⟨rfl, rfl⟩) fun ws s2 ⟨zs, H2, I2, r2, ez, eH⟩ => ?_
  subst ez eH
  obtain ⟨w, rfl, rw'⟩ := r2.one
  obtain rfl : w = Value.ref fa := rw'
  obtain rfl : u = Value.ref q := ru
  rw [hks]
  refine sort_runD C.calm KF I2 E hq hdk (fun _ h => h) hal hsk (fun d hd2 => ?_) fun v H' S' g e p => kk v H' S' g e (Pin.refl _ _) p
  have := C.room.un
  have := hu d hd2
  omega
end
theorem putD_len (kvs : List (Key × PyData)) (k : Key) (d : PyData) : (putD kvs k d).length ≤ kvs.length + 1 := by
  unfold putD
  split
  · rw [List.length_map]; omega
  · rw [List.length_append, List.length_singleton]; omega
def dictD (ys : List (Key × PyData)) (acc : List (Key × PyData)) : List (Key × PyData) := ys.foldl (fun a p => putD a p.1 p.2) acc
section
variable (X : Cx) (T : List NTab) (scope : Scope) (vs : List Nat) (tg : Expr) (ifs : List Expr) (kx vx : Expr) (δ : List Sl)
/-- the turns of a dict comprehension -/
inductive DComp : List PyData → List (Key × PyData) → Prop
  | done : DComp [] []
  | yes {δ1 δ2 δ3 δ4 : List Sl} {ds : List PyData} {ys : List (Key × PyData)} {d v : PyData} {k : Key} : Bl X scope (fun X => GW X T vs tg (.d d) δ δ1) → Bl X scope (fun X => TVs X T ifs δ1 true δ2) → Bl X scope (fun X => EV X T kx δ2 (.d (kD k)) δ3) → Bl X scope (fun X => EV X T vx δ3 (.d v) δ4) →
      wipeD δ4 vs = δ → DComp ds ys → DComp (d :: ds) ((k, v) :: ys)
  | no {δ1 δ2 : List Sl} {ds : List PyData} {ys : List (Key × PyData)} {d : PyData} : Bl X scope (fun X => GW X T vs tg (.d d) δ δ1) → Bl X scope (fun X => TVs X T ifs δ1 false δ2) → wipeD δ2 vs = δ → DComp ds ys → DComp (d :: ds) ys
end
section
variable {X : Cx} {T : List NTab} {K : PySem.W.Frag} {H H' : Hp} {S S' : Addr → Prop} {σ : St} {δ δ1 δ2 δ3 : List Sl} {p pos : Pos} {W : WX} {scope : Scope} {vs : List Nat} {tg iter kx vx : Expr} {ifs : List Expr}
structure AtD (K : PySem.W.Frag) (T : List NTab) (Hb : Hp) (Sb Pb : Addr → Prop) (D : Addr) (H : Hp) (S : Addr → Prop) (σ : St) (δ : List Sl) (acc : List (Key × PyData)) : Prop where
  go : Go Hb Sb Pb H S (Owned σ δ)
  env : Env K T H S σ δ
  new : Hb D = none
  hid : S D
  free : ¬ Owned σ δ D
  dk : ∃ r, H D = some (.dK r) ∧ KvAt K (vw H S) r acc
theorem AtD.on {Hb : Hp} {Sb Pb : Addr → Prop} {D : Addr} {acc : List (Key × PyData)} {σ2 : L2.St} {H2 : Hp} {S2 : Addr → Prop} (A : AtD K T Hb Sb Pb D H S σ δ acc) (g : Go H S (Owned σ δ) H2 S2 (Owned σ2 δ2)) (e : Env K T H2 S2 σ2 δ2) : AtD K T Hb Sb Pb D H2 S2 σ2 δ2 acc := by
  obtain ⟨ws, h1, h2⟩ := A.dk
  have nf : ¬ Fresh H D := fun f => by
    obtain ⟨ps, z⟩ := f _ h1
    cases z
  exact ⟨A.go.trans g, e, A.new, g.up D A.hid A.free nf, fun z => (g.ow D z).elim A.free nf, ws, g.keep D _ A.free h1 (fun ps z => by cases z), h2.mono g.mono⟩
theorem AtD.wiped {Hb : Hp} {Sb Pb : Addr → Prop} {D : Addr} {acc : List (Key × PyData)} (A : AtD K T Hb Sb Pb D H S σ δ acc) (vs : List Nat) : AtD K T Hb Sb Pb D H S (wipe σ vs) (wipeD δ vs) acc :=
  ⟨A.go.less fun a => own_wipe, A.env.wiped vs, A.new, A.hid, fun z => A.free (own_wipe z), A.dk⟩
theorem tabs_updK {D : Addr} {ws : List (Key × V)} {o : HO} (ht : TabsN T H) (h : H D = some (.dK ws)) : TabsN T (upd H D o) := fun x hx => by
  obtain ⟨ps, h1, h2, h3⟩ := ht x hx
  have hn : x.1 ≠ D := fun z => by rw [z, h] at h1; cases h1
  refine ⟨ps, by rw [upd_ne hn]; exact h1, h2, fun pos cv hc => ?_⟩
  obtain ⟨c, e1, e2⟩ := h3 pos cv hc
  have hn2 : c ≠ D := fun z => by rw [z, h] at e2; cases e2
  exact ⟨c, e1, by rw [upd_ne hn2]; exact e2⟩
theorem AtD.push {Hb : Hp} {Sb Pb : Addr → Prop} {D : Addr} {acc : List (Key × PyData)} {r : List (Key × V)} {v : V} {k : Key} {y : PyData} (A : AtD K T Hb Sb Pb D H S σ δ acc) (hD : H D = some (.dK r)) (hd : Dp K (vw H S) v y) : AtD K T Hb Sb Pb D (upd H D (.dK (putK r k v))) S σ δ (putD acc k y) := by
  obtain ⟨ws', h1, h2⟩ := A.dk
  rw [hD] at h1
  cases h1
  have m : Same (vw H S) (vw (upd H D (.dK (putK r k v))) S) := same_hid A.hid
  refine ⟨⟨A.go.mono.trans m, fun a o ha e ht => ?_, A.go.up, A.go.ow⟩, A.env.move m (fun q hq => upd_ne fun z => A.free (z ▸ hq)) A.env.sub (tabs_updK A.env.tabs hD), A.new, A.hid, A.free, _, upd_same, kv_put (h2.mono m) (dp_mono m hd)⟩
  rw [upd_ne (ne_of_none e A.new)]
  exact A.go.keep a o ha e ht
theorem dcomp_loop {J : It} {Hb : Hp} {Sb Pb : Addr → Prop} {D : Addr} {ds0 : List PyData} {ys0 : List (Key × PyData)} {F : Hp → Prop} {σ1 : L2.St} {H1 : Hp} {S1 : Addr → Prop} (h : DComp X T scope vs tg ifs kx vx (wipeD δ1 vs) ds0 ys0) (ww : WalkW X.K T J (.fix ds0) σ1 H1 S1) (A : AtD X.K T Hb Sb Pb D H S (wipe σ1 vs) (wipeD δ1 vs) []) (hm : Same (vw H1 S1) (vw H S)) (hz : ys0.length ≤ sizeLine)
    (k : ∀ H' S', AtD X.K T Hb Sb Pb D H' S' (wipe σ1 vs) (wipeD δ1 vs) (dictD ys0 []) → Same (vw H S) (vw H' S') → Pin (wipe σ1 vs) (wipeD δ1 vs) (wipe σ1 vs) (wipeD δ1 vs) → F H') :
    ∃ W : Nat → Nat → Hp → Prop, (∃ m, W 0 m H) ∧ ∀ i m H, W i m H → (J.stop i H ∧ F H) ∨ (J.go i H ∧ ∃ Nx : Hp → Prop, (∀ H', Nx H' → ∃ m', m' < m ∧ W (i + 1) m' H') ∧ ∀ x H', J.yld i H x H' → gB X scope tg x (wipe σ1 vs) H' fun σ2 H2 => wipe σ2 vs = wipe σ1 vs ∧ tB X scope ifs σ2 H2 fun b H3 =>
      if b = true then eB X scope kx σ2 H3 fun y H4 => eB X scope vx σ2 H4 fun z H5 => ∃ kvs k, y = kV k ∧ H5 D = some (.dK kvs) ∧ kvs.length < sizeLine ∧ Nx (upd H5 D (.dK (putK kvs k z))) else Nx H3) := by
  refine ⟨fun i m H' => ∃ S' ds acc ys pre, AtD X.K T Hb Sb Pb D H' S' (wipe σ1 vs) (wipeD δ1 vs) acc ∧ Same (vw H S) (vw H' S') ∧ ds0 = pre ++ ds ∧ pre.length = i ∧ m = ds.length ∧ dictD ys acc = dictD ys0 [] ∧ acc.length + ys.length ≤ ys0.length ∧ DComp X T scope vs tg ifs kx vx (wipeD δ1 vs) ds ys, ⟨ds0.length, S, ds0, [], ys0, [], A, Same.refl _, rfl, rfl, rfl, rfl, by simp, h⟩, ?_⟩
  rintro i m H' ⟨S', ds, acc, ys, pre, A', m', hd0, hpre, hmm, e', hlen, hc⟩
  have hσ : ∀ j, (Src.fix ds0).at_ = some j → (wipe σ1 vs)[j]? = σ1[j]? := fun j e => nomatch e
  generalize hδ : wipeD δ1 vs = δw at *
  cases hc with
  | done =>
    refine .inl ⟨(ww _ H' S' _ _ A'.env (hm.trans m') hσ rfl).2.1 i (by rw [hd0, List.length_append, hpre]; simp), ?_⟩
    refine k H' S' ?_ m' (Pin.refl _ _)
    rw [← e']
    exact A'
  | @yes δ3 δ4 δ5 δ6 ds ys d v ky c1 c2 c3 c4 hw6 hn =>
    have hat : ds0[i]? = some d := by rw [hd0]; exact at_pre hpre
    obtain ⟨w1, _, w3⟩ := ww _ H' S' _ _ A'.env (hm.trans m') hσ rfl
    refine .inr ⟨w1 i (List.getElem?_eq_some_iff.mp hat).1, fun H3 => ∃ S3 acc, AtD X.K T Hb Sb Pb D H3 S3 (wipe σ1 vs) δw acc ∧ Same (vw H S) (vw H3 S3) ∧ dictD ys acc = dictD ys0 [] ∧ acc.length + ys.length ≤ ys0.length, fun H3 ⟨S3, acc3, q1, q2, q3, q4⟩ => ⟨ds.length, by rw [hmm]; exact Nat.lt_succ_self _, S3, ds, acc3, ys, pre ++ [d], q1, q2, by rw [hd0, List.append_assoc]; rfl, by rw [List.length_append, hpre]; rfl, rfl, q3, q4, hn⟩, fun x H3 yl => ?_⟩
    obtain ⟨S3, g3, e3, r3⟩ := w3 i x H3 d yl hat
    intro s0 H0 C cl fp
    refine c1 s0 H0 C cl fp _ H3 S3 H' (Owned (wipe σ1 vs) δw) x _ e3 r3 g3.keep g3.ow fun σ4 H4 S4 m4 k4 u4 o4 e4 p4 f4 l4 => ?_
    have hw : wipe σ4 vs = wipe σ1 vs := (wipe_eq f4 l4).trans wipe_wipe
    refine ⟨hw, fun s0 H0 C cl fp => c2 s0 H0 C cl fp σ4 H4 S4 _ e4 fun H5 S5 g5 e5 p5 => iteT fun s0 H0 C cl fp => c3 s0 H0 C cl fp σ4 H5 S5 _ e5 fun vk H6 S6 g6 e6 p6 r6 => fun s0 H0 C cl fp => c4 s0 H0 C cl fp σ4 H6 S6 _ e6 fun vv H7 S7 g7 e7 p7 r7 => ?_⟩
    have g4 : Go H' S' (Owned (wipe σ1 vs) δw) H4 S4 (Owned σ4 δ3) := ⟨g3.mono.trans m4, k4, fun a h1 h2 h3 => u4 a (g3.up a h1 h2 h3) h2 h3, o4⟩
    have A7 := A'.on (((g4.trans g5).trans g6).trans g7) e7
    obtain ⟨ws, hD, hd⟩ := A7.dk
    refine ⟨ws, ky, dp_key r6, hD, ?_, S7, putD acc ky v, ?_, ?_, e', ?_⟩
    · rw [kv_len hd]
      simp only [List.length_cons] at hlen
      omega
    · have := (A7.push (k := ky) hD r7).wiped vs
      rw [hw, hw6] at this
      exact this
    · exact (m'.trans (((g4.trans g5).trans g6).trans g7).mono).trans (same_hid A7.hid)
    · have := putD_len acc ky v
      simp only [List.length_cons] at hlen
      omega
  | @no δ3 δ4 ds _ d c1 c2 hw6 hn =>
    have hat : ds0[i]? = some d := by rw [hd0]; exact at_pre hpre
    obtain ⟨w1, _, w3⟩ := ww _ H' S' _ _ A'.env (hm.trans m') hσ rfl
    refine .inr ⟨w1 i (List.getElem?_eq_some_iff.mp hat).1, fun H3 => ∃ S3 acc, AtD X.K T Hb Sb Pb D H3 S3 (wipe σ1 vs) δw acc ∧ Same (vw H S) (vw H3 S3) ∧ dictD ys acc = dictD ys0 [] ∧ acc.length + ys.length ≤ ys0.length, fun H3 ⟨S3, acc3, q1, q2, q3, q4⟩ => ⟨ds.length, by rw [hmm]; exact Nat.lt_succ_self _, S3, ds, acc3, ys, pre ++ [d], q1, q2, by rw [hd0, List.append_assoc]; rfl, by rw [List.length_append, hpre]; rfl, rfl, q3, q4, hn⟩, fun x H3 yl => ?_⟩
    obtain ⟨S3, g3, e3, r3⟩ := w3 i x H3 d yl hat
    intro s0 H0 C cl fp
    refine c1 s0 H0 C cl fp _ H3 S3 H' (Owned (wipe σ1 vs) δw) x _ e3 r3 g3.keep g3.ow fun σ4 H4 S4 m4 k4 u4 o4 e4 p4 f4 l4 => ?_
    have hw : wipe σ4 vs = wipe σ1 vs := (wipe_eq f4 l4).trans wipe_wipe
    refine ⟨hw, fun s0 H0 C cl fp => c2 s0 H0 C cl fp σ4 H4 S4 _ e4 fun H5 S5 g5 e5 p5 => iteF ?_⟩
    have g4 : Go H' S' (Owned (wipe σ1 vs) δw) H4 S4 (Owned σ4 δ3) := ⟨g3.mono.trans m4, k4, fun a h1 h2 h3 => u4 a (g3.up a h1 h2 h3) h2 h3, o4⟩
    have A5 := (A'.on (g4.trans g5) e5).wiped vs
    rw [hw, hw6] at A5
    exact ⟨S5, acc, A5, m'.trans (g4.trans g5).mono, e', hlen⟩
theorem dc_at {H1 : Hp} {S1 : Addr → Prop} {D : Addr} (E1 : Env X.K T H1 S1 σ δ1) (hD : H1 D = none) : AtD X.K T H1 S1 (Owned σ δ1) D (upd H1 D (.dK [])) (fun a => S1 a ∨ a = D) (wipe σ vs) (wipeD δ1 vs) [] := by
  obtain ⟨g, e, q, eq, hS, hP, ho, hf⟩ := new_dk (kvs := []) E1 hD .nil
  cases eq
  exact AtD.wiped ⟨g, e, hD, hS, hP, ho⟩ vs
theorem dc_end {Q : VK} {H1 : Hp} {S1 : Addr → Prop} {D : Addr} {ys : List (Key × PyData)} (E1 : Env X.K T H1 S1 σ δ1) (hD : H1 D = none) (ho : ∀ i ∈ vs, (δ1[i]?).bind Sl.ow = none)
    (k : ∀ v H' S', Go H1 S1 (Owned σ δ1) H' S' (Owned σ (mendD δ1 (wipeD δ1 vs) vs)) → Env X.K T H' S' σ (mendD δ1 (wipeD δ1 vs) vs) → Pin σ δ1 σ (mendD δ1 (wipeD δ1 vs) vs) → Res X.K H1 (Owned σ δ1) H' S' (Owned σ (mendD δ1 (wipeD δ1 vs) vs)) (.o (.dk ys)) v → Q v H')
    {H' : Hp} {S' : Addr → Prop} (A : AtD X.K T H1 S1 (Owned σ δ1) D H' S' (wipe σ vs) (wipeD δ1 vs) ys) (p : Pin (wipe σ vs) (wipeD δ1 vs) (wipe σ vs) (wipeD δ1 vs)) : Q (.ref D) H' := by
  obtain ⟨e, sub⟩ := Env.mend E1 A.env A.go.mono ho
  obtain ⟨ws, h1, h2⟩ := A.dk
  exact k _ H' S' (A.go.less sub) e (pin_mend ho p) ⟨D, rfl, A.hid, fun z => A.free (sub D z), ⟨ws, h1, h2⟩, .inr (Fresh.of hD)⟩
/-- {kx: vx for tg in iter if ..} -/
theorem ev_dc {k : Nat} (C : Cok X W k) (own : List (Str × Nat)) {ds : List PyData} {ys : List (Key × PyData)} (hi : IV X T tg iter δ (.fix ds) δ1) (h : DComp X T scope (own.map (·.2)) tg ifs kx vx (wipeD δ1 (own.map (·.2))) ds ys) (hz : ys.length ≤ sizeLine) (ok : blkC X.N X.env.scope scope own = true := by rfl) (ho : ((own.map (·.2)).all fun i => ((δ1[i]?).bind Sl.ow).isNone) = true := by rfl) (hs : ∀ x, foldedSetIterable iter X.env x = pure x := by intro _; rfl) :
    EV X T (.DictComp kx vx [⟨tg, iter, ifs, 0⟩] scope pos) δ (.o (.dk (dictD ys []))) (mendD δ1 (wipeD δ1 (own.map (·.2))) (own.map (·.2))) := fun σ H S Q E k =>
  we_of (pe_dc C.calm C.nd pi_w (blkOk_by ok) pg_B pt_B pe_B pe_B hs) (hi σ H S _ E fun J H1 S1 g1 e1 p1 ww D hD =>
    dcomp_loop h ww (dc_at e1 hD) (fun a u e => (new_dk (kvs := []) e1 hD .nil).1.mono a u e) hz fun H' S' A m p =>
      dc_end e1 hD (ownFree ho) (fun v H2 S2 g2 e2 p2 r2 => k v H2 S2 (g1.trans g2) e2 (p1.trans p2) (r2.back g1.keep g1.ow)) A p)
/-- .. by a plain rule for each item -/
theorem dc_map {α : Type} {xs : List α} {en vf : α → PyData} {kf : α → Key} {c : α → Bool} {st1 st2 st3 st4 : α → List Sl} {ds : List PyData} (hds : ds = xs.map en) (hg : ∀ x ∈ xs, Bl X scope (fun X => GW X T vs tg (.d (en x)) δ (st1 x))) (ht : ∀ x ∈ xs, Bl X scope (fun X => TVs X T ifs (st1 x) (c x) (st2 x)))
    (hk : ∀ x ∈ xs, c x = true → Bl X scope (fun X => EV X T kx (st2 x) (.d (kD (kf x))) (st3 x))) (hv : ∀ x ∈ xs, c x = true → Bl X scope (fun X => EV X T vx (st3 x) (.d (vf x)) (st4 x)))
    (h2 : ∀ x, wipeD (st2 x) vs = δ := by intro _; rfl) (h4 : ∀ x, wipeD (st4 x) vs = δ := by intro _; rfl) : DComp X T scope vs tg ifs kx vx δ ds ((xs.filter c).map fun x => (kf x, vf x)) := by
  subst hds
  induction xs with
  | nil => exact .done
  | cons x xs ih =>
    have ih := ih (fun y hy => hg y (List.mem_cons_of_mem _ hy)) (fun y hy => ht y (List.mem_cons_of_mem _ hy)) (fun y hy => hk y (List.mem_cons_of_mem _ hy)) (fun y hy => hv y (List.mem_cons_of_mem _ hy))
    cases e : c x with
    | true =>
      rw [List.filter_cons_of_pos e, List.map_cons, List.map_cons]
      have t := ht x List.mem_cons_self
      rw [e] at t
      exact .yes (hg x List.mem_cons_self) t (hk x List.mem_cons_self e) (hv x List.mem_cons_self e) (h4 x) ih
    | false =>
      rw [List.filter_cons_of_neg (by rw [e]; exact Bool.false_ne_true), List.map_cons]
      have t := ht x List.mem_cons_self
      rw [e] at t
      exact .no (hg x List.mem_cons_self) t (h2 x) ih
theorem dc_all {α : Type} {xs : List α} {en vf : α → PyData} {kf : α → Key} {st1 st3 st4 : α → List Sl} {ds : List PyData} (hds : ds = xs.map en) (hg : ∀ x ∈ xs, Bl X scope (fun X => GW X T vs tg (.d (en x)) δ (st1 x)))
    (hk : ∀ x ∈ xs, Bl X scope (fun X => EV X T kx (st1 x) (.d (kD (kf x))) (st3 x))) (hv : ∀ x ∈ xs, Bl X scope (fun X => EV X T vx (st3 x) (.d (vf x)) (st4 x)))
    (h4 : ∀ x, wipeD (st4 x) vs = δ := by intro _; rfl) : DComp X T scope vs tg [] kx vx δ ds (xs.map fun x => (kf x, vf x)) := by
  subst hds
  induction xs with
  | nil => exact .done
  | cons x xs ih =>
    exact .yes (hg x List.mem_cons_self) (fun _ _ _ _ _ => tvs_nil) (hk x List.mem_cons_self) (hv x List.mem_cons_self) (h4 x) (ih (fun y hy => hg y (List.mem_cons_of_mem _ hy)) (fun y hy => hk y (List.mem_cons_of_mem _ hy)) (fun y hy => hv y (List.mem_cons_of_mem _ hy)))
end
end Sc
namespace Sc
open PySem L2 NdefX PySem.W
section
variable {X : Cx} {T : List NTab} {δ δ1 δ2 δ3 : List Sl} {p pos pn : Pos} {W : WX} {scope : Scope} {vs : List Nat} {tg iter kx vx e : Expr} {ifs : List Expr} {x : Str}
theorem dc_allS {α : Type} {xs : List α} {en vf : α → PyData} {kf : α → Str} {st1 st3 st4 : α → List Sl} {ds : List PyData} (hds : ds = xs.map en) (hg : ∀ x ∈ xs, Bl X scope (fun X => GW X T vs tg (.d (en x)) δ (st1 x)))
    (hk : ∀ x ∈ xs, Bl X scope (fun X => EV X T kx (st1 x) (.d (.str (kf x))) (st3 x))) (hv : ∀ x ∈ xs, Bl X scope (fun X => EV X T vx (st3 x) (.d (vf x)) (st4 x)))
    (h4 : ∀ x, wipeD (st4 x) vs = δ := by intro _; rfl) : DComp X T scope vs tg [] kx vx δ ds (xs.map fun x => (tK (kf x), vf x)) := dc_all (kf := fun x => tK (kf x)) hds hg hk hv h4
theorem dc_allI {α : Type} {xs : List α} {en vf : α → PyData} {kf : α → Int} {st1 st3 st4 : α → List Sl} {ds : List PyData} (hds : ds = xs.map en) (hg : ∀ x ∈ xs, Bl X scope (fun X => GW X T vs tg (.d (en x)) δ (st1 x)))
    (hk : ∀ x ∈ xs, Bl X scope (fun X => EV X T kx (st1 x) (.d (.int (kf x))) (st3 x))) (hv : ∀ x ∈ xs, Bl X scope (fun X => EV X T vx (st3 x) (.d (vf x)) (st4 x)))
    (h4 : ∀ x, wipeD (st4 x) vs = δ := by intro _; rfl) : DComp X T scope vs tg [] kx vx δ ds (xs.map fun x => (iK (kf x), vf x)) := dc_all (kf := fun x => iK (kf x)) hds hg hk hv h4
theorem dc_mapI {α : Type} {xs : List α} {en vf : α → PyData} {kf : α → Int} {c : α → Bool} {st1 st2 st3 st4 : α → List Sl} {ds : List PyData} (hds : ds = xs.map en) (hg : ∀ x ∈ xs, Bl X scope (fun X => GW X T vs tg (.d (en x)) δ (st1 x))) (ht : ∀ x ∈ xs, Bl X scope (fun X => TVs X T ifs (st1 x) (c x) (st2 x)))
    (hk : ∀ x ∈ xs, c x = true → Bl X scope (fun X => EV X T kx (st2 x) (.d (.int (kf x))) (st3 x))) (hv : ∀ x ∈ xs, c x = true → Bl X scope (fun X => EV X T vx (st3 x) (.d (vf x)) (st4 x)))
    (h2 : ∀ x, wipeD (st2 x) vs = δ := by intro _; rfl) (h4 : ∀ x, wipeD (st4 x) vs = δ := by intro _; rfl) : DComp X T scope vs tg ifs kx vx δ ds ((xs.filter c).map fun x => (iK (kf x), vf x)) := dc_map (kf := fun x => iK (kf x)) hds hg ht hk hv h2 h4
theorem sw_trueD {kx vx : Expr} {gs : List Comprehension} {scope : Scope} {pos py : Pos} {y : Str} {l : Nat} {env : PySem.Env} (hk : env.scope.kind = .function) (hy : env.scope.names.lookup y = some .local) (hl : (py.line == pos.line) = true)
    (ha : (scope.names.any fun (n, k) => n == y && (k == .local || k == .cell)) = false) : swapsWith (.DictComp kx vx gs scope pos) (some (.Name y py)) l env = pure true := by
  have ky : env.kindOf y = some .local := hy
  have hb : env.blockKind = .function := by unfold Env.blockKind; rw [hk]; rfl
  unfold swapsWith
  simp only [hb, ky, ha, Expr.pos, hl]
  rfl
theorem ps_setDc {i : Nat} {y : Str} {py : Pos} {scope : Scope} {own : List (Str × Nat)} {pos spos : Pos} {wi : TI} {g : TG} {tt : TT} {tk tv : TE} (hc : X.calm = true) (hN : X.N.Nodup) (hy : X.N[i]? = some y) (hyl : X.env.scope.names.lookup y = some .local)
    (hsw : swapsWith (.DictComp kx vx [⟨tg, iter, ifs, 0⟩] scope pos) (some (.Name y py)) spos.line X.env = pure true) (hi : PI X tg iter wi) (ok : BlkOk X.N X.env.scope scope own)
    (hg : ∀ (s : Shared) (H : Hp) (C : Addr) (cl : List (Str × Addr)) (fp : List Addr), PG (X.blk s H scope (compEnvC scope cl C X.env) fp) tg g) (ht : ∀ (s : Shared) (H : Hp) (C : Addr) (cl : List (Str × Addr)) (fp : List Addr), PTs (X.blk s H scope (compEnvC scope cl C X.env) fp) ifs tt)
    (hk : ∀ (s : Shared) (H : Hp) (C : Addr) (cl : List (Str × Addr)) (fp : List Addr), PE (X.blk s H scope (compEnvC scope cl C X.env) fp) kx tk)
    (he : ∀ (s : Shared) (H : Hp) (C : Addr) (cl : List (Str × Addr)) (fp : List Addr), PE (X.blk s H scope (compEnvC scope cl C X.env) fp) vx tv) (hs : ∀ x, foldedSetIterable iter X.env x = pure x := by intro _; rfl) :
    PS X (.Assign [.Name y py] (.DictComp kx vx [⟨tg, iter, ifs, 0⟩] scope pos) spos) (tAsg (tDc wi g tt tk tv (own.map (·.2))) (gName i)) := by
  refine ⟨fun pins s σ H D I h => ?_⟩
  rw [exec_Assign_Name_used _ _ _ _ hsw]
  refine wpAny_bind (wpAny_standAt (wpAny_bind ?_))
  show wpAny _ X.A (do let _ ← comprehension (.DictComp kx vx [⟨tg, iter, ifs, 0⟩] scope pos) scope X.env (firstIterPos [⟨tg, iter, ifs, 0⟩] pos) newDict false (eval iter X.env) (some (assign (.Name y py) X.env))) _ _ s
  have h : tDc wi g tt tk tv (own.map (·.2)) σ H (fun x H1 => gName i x σ H1 D.nx) := h
  refine wpAny_bind (thn (dc_core (Qf := fun _ s' => SP X pins D .next s') hc hN I hi ok hg ht hk he hs h fun L C s' m H' I' q hn f => ?_) fun _ s' hq => wpAny_pure (wpAny_pure hq))
  show wpAny _ _ (assign (.Name y py) X.env (.ref L)) _ _ _
  refine wpAny_assign_Name (store_ok2 (v := V.ref L) I' hN hy (.inl hyl) rfl (fun s2 I2 ⟨a, sb, ha⟩ => ?_) (.inr hyl))
  obtain ⟨f0, f1, f2, f3, f4, f5⟩ := f
  have haC : C ≠ a := by
    rcases ha with z | z
    · rw [z]; exact f1
    · exact fun e => f4 y a z e.symm
  refine ⟨m, hn.sameBut sb haC, fun h3 sb3 => ?_⟩
  exact ⟨_, H', I2.turned (t' := s2.toks) (fun b o hb e => (sb3.2 b hb).trans e) f0 f1 f3 f4 f5, q⟩
theorem sv_setDcF {k : Nat} (C : Cok X W k) (own : List (Str × Nat)) (i : Nat) {y : Str} {py spos : Pos} {s : Sl} {ds : List PyData} {ys : List (Key × PyData)} (hi : IV X T tg iter δ (.fix ds) δ1) (h : DComp X T scope (own.map (·.2)) tg ifs kx vx (wipeD δ1 (own.map (·.2))) ds ys) (hz : ys.length ≤ sizeLine) (hy : X.N[i]? = some y := by rfl) (hyl : X.env.scope.names.lookup y = some .local := by rfl)
    (hsw : swapsWith (.DictComp kx vx [⟨tg, iter, ifs, 0⟩] scope pos) (some (.Name y py)) spos.line X.env = pure true := by exact sw_trueD rfl rfl rfl rfl) (ok : blkC X.N X.env.scope scope own = true := by rfl) (ho : ((own.map (·.2)).all fun i => ((δ1[i]?).bind Sl.ow).isNone) = true := by rfl)
    (hd : (mendD δ1 (wipeD δ1 (own.map (·.2))) (own.map (·.2)))[i]? = some s := by rfl) (hf : s.free := by trivial) (hs : ∀ x, foldedSetIterable iter X.env x = pure x := by intro _; rfl) :
    SV X T W (.Assign [.Name y py] (.DictComp kx vx [⟨tg, iter, ifs, 0⟩] scope pos) spos) δ (.nx ((mendD δ1 (wipeD δ1 (own.map (·.2))) (own.map (·.2))).set i (.o (.dk (dictD ys []))))) := fun σ H S D E k =>
  ws_of (ps_setDc C.calm C.nd hy hyl hsw pi_w (blkOk_by ok) pg_B pt_B pe_B pe_B hs) (hi σ H S _ E fun J H1 S1 g1 e1 p1 ww D hD =>
    dcomp_loop h ww (dc_at e1 hD) (fun a u e => (new_dk (kvs := []) e1 hD .nil).1.mono a u e) hz fun H' S' A m p =>
      dc_end e1 hD (ownFree ho) (fun v H2 S2 g2 e2 p2 r2 => k _ H2 S2 ((Go.trans g1 ⟨g2.mono, g2.keep, g2.up, fun a ha => by
        rcases own_set ha with ha | ⟨w, ha, e⟩
        · exact g2.ow a ha
        · exact res_ow r2 ha e⟩)) (e2.set r2) ((p1.trans p2).trans (pin_set fun t e => by rw [hd] at e; cases e; exact hf))) A p)
/-- the texts that a dict holds -/
theorem keys_texts {α : Type} (ks : α → Str) (vf : α → PyData) (xs : List α) : ∃ zs : List Str, zs.Nodup ∧ (∀ z, z ∈ zs ↔ ∃ x ∈ xs, ks x = z) ∧ keysD (dictD (xs.map fun x => (tK (ks x), vf x)) []) = zs.map .str := by
  have key : ∀ (xs : List α) (acc : List (Key × PyData)) (zs : List Str), acc.map (·.1) = zs.map tK → zs.Nodup → ∃ zs' : List Str, zs'.Nodup ∧ (∀ z, z ∈ zs' ↔ z ∈ zs ∨ ∃ x ∈ xs, ks x = z) ∧ (dictD (xs.map fun x => (tK (ks x), vf x)) acc).map (·.1) = zs'.map tK := by
    intro xs
    induction xs with
    | nil => exact fun acc zs h1 h2 => ⟨zs, h2, fun z => by simp, h1⟩
    | cons x xs ih =>
      intro acc zs h1 h2
      have hp : ∃ zs1 : List Str, zs1.Nodup ∧ (∀ z, z ∈ zs1 ↔ z ∈ zs ∨ ks x = z) ∧ (putD acc (tK (ks x)) (vf x)).map (·.1) = zs1.map tK := by
        unfold putD
        have hin : (acc.any fun kv => decide (kv.1 = tK (ks x))) = decide (ks x ∈ zs) := by
          have e : (acc.any fun kv => decide (kv.1 = tK (ks x))) = (acc.map (·.1)).any fun k => decide (k = tK (ks x)) := by rw [List.any_map]; rfl
          rw [e, h1, List.any_map]
          rw [Bool.eq_iff_iff, List.any_eq_true, decide_eq_true_iff]
          constructor
          · rintro ⟨z, hz, e⟩
            have e' : tK z = tK (ks x) := of_decide_eq_true e
            cases e'
            exact hz
          · exact fun h => ⟨_, h, decide_eq_true rfl⟩
        by_cases hm : ks x ∈ zs
        · rw [if_pos (by rw [hin]; exact decide_eq_true hm)]
          refine ⟨zs, h2, fun z => ⟨.inl, fun h => h.elim id fun e => e ▸ hm⟩, ?_⟩
          rw [List.map_map, ← h1]
          refine List.map_congr_left fun kv _ => ?_
          show (if _ then _ else _ : Key × PyData).1 = _
          split
          · rfl
          · rfl
        · rw [if_neg (by rw [hin, decide_eq_false hm]; exact Bool.false_ne_true)]
          refine ⟨zs ++ [ks x], ?_, fun z => by simp [eq_comm], by rw [List.map_append, h1, List.map_append]; rfl⟩
          rw [List.nodup_append]
          exact ⟨h2, by simp, fun a ha b hb e => by rw [List.mem_singleton.mp hb] at e; exact hm (e ▸ ha)⟩
      obtain ⟨zs1, n1, m1, e1⟩ := hp
      obtain ⟨zs', n2, m2, e2⟩ := ih _ zs1 e1 n1
      refine ⟨zs', n2, fun z => ?_, e2⟩
      rw [m2, m1]
      simp only [List.mem_cons]
      constructor
      · rintro ((h | h) | ⟨y, hy, e⟩)
        · exact .inl h
        · exact .inr ⟨x, .inl rfl, h⟩
        · exact .inr ⟨y, .inr hy, e⟩
      · rintro (h | ⟨y, rfl | hy, e⟩)
        · exact .inl (.inl h)
        · exact .inl (.inr e)
        · exact .inr ⟨y, hy, e⟩
  obtain ⟨zs, h1, h2, h3⟩ := key xs [] [] rfl List.nodup_nil
  refine ⟨zs, h1, fun z => by rw [h2]; simp, ?_⟩
  unfold keysD
  have e : (dictD (xs.map fun x => (tK (ks x), vf x)) []).map (fun kv => kD kv.1) = ((dictD (xs.map fun x => (tK (ks x), vf x)) []).map (·.1)).map kD := by rw [List.map_map]; rfl
  rw [e, h3, List.map_map]
  rfl
end
end Sc
namespace Sc
open PySem L2 NdefX
def Ld0 {σ γ : Type} (en : σ → List PyData) (er : γ → PyData) (dom : σ → Prop) (f : σ → γ × σ) : List Sl → Out → Prop := fun δ o => ∃ s, dom s ∧ δ = [.b (.lst (en s))] ∧ o = .ret (.d (er (f s).1)) [.b (.lst (en (f s).2))]
def Ld1 {σ γ α1 : Type} (en : σ → List PyData) (er : γ → PyData) (e1 : α1 → PyData) (dom : σ → α1 → Prop) (f : σ → α1 → γ × σ) : List Sl → Out → Prop := fun δ o => ∃ s x1, dom s x1 ∧ δ = [.b (.lst (en s)), .d (e1 x1)] ∧ o = .ret (.d (er (f s x1).1)) [.b (.lst (en (f s x1).2)), .d (e1 x1)]
def Ld2 {σ γ α1 α2 : Type} (en : σ → List PyData) (er : γ → PyData) (e1 : α1 → PyData) (e2 : α2 → PyData) (dom : σ → α1 → α2 → Prop) (f : σ → α1 → α2 → γ × σ) : List Sl → Out → Prop := fun δ o => ∃ s x1 x2, dom s x1 x2 ∧ δ = [.b (.lst (en s)), .d (e1 x1), .d (e2 x2)] ∧ o = .ret (.d (er (f s x1 x2).1)) [.b (.lst (en (f s x1 x2).2)), .d (e1 x1), .d (e2 x2)]
def Ld3 {σ γ α1 α2 α3 : Type} (en : σ → List PyData) (er : γ → PyData) (e1 : α1 → PyData) (e2 : α2 → PyData) (e3 : α3 → PyData) (dom : σ → α1 → α2 → α3 → Prop) (f : σ → α1 → α2 → α3 → γ × σ) : List Sl → Out → Prop := fun δ o => ∃ s x1 x2 x3, dom s x1 x2 x3 ∧ δ = [.b (.lst (en s)), .d (e1 x1), .d (e2 x2), .d (e3 x3)] ∧ o = .ret (.d (er (f s x1 x2 x3).1)) [.b (.lst (en (f s x1 x2 x3).2)), .d (e1 x1), .d (e2 x2), .d (e3 x3)]
def Ld4 {σ γ α1 α2 α3 α4 : Type} (en : σ → List PyData) (er : γ → PyData) (e1 : α1 → PyData) (e2 : α2 → PyData) (e3 : α3 → PyData) (e4 : α4 → PyData) (dom : σ → α1 → α2 → α3 → α4 → Prop) (f : σ → α1 → α2 → α3 → α4 → γ × σ) : List Sl → Out → Prop := fun δ o => ∃ s x1 x2 x3 x4, dom s x1 x2 x3 x4 ∧ δ = [.b (.lst (en s)), .d (e1 x1), .d (e2 x2), .d (e3 x3), .d (e4 x4)] ∧ o = .ret (.d (er (f s x1 x2 x3 x4).1)) [.b (.lst (en (f s x1 x2 x3 x4).2)), .d (e1 x1), .d (e2 x2), .d (e3 x3), .d (e4 x4)]
section
variable {P : Program} {w : World} {K : PySem.W.Frag} {mg : Str → Option Value} {base : Heap} {T : List NTab} {x : Str} {st : Stmt} {N ps : List Str} {k : Nat} {σ γ : Type} {en : σ → List PyData} {er : γ → PyData}
theorem def_l0  {dom : σ → Prop} {f : σ → γ × σ} (S : Txt K mg x st []) (Sc : FnScope N ps (defScope st)) (hn : ps.length = 1)
    (bd : ∀ (kV doc pm : Value) (an : Option Addr) (cdv ct : Value) (us : List Value), us.length = ps.length → bindArgs (PySem.W.fnOf x x (defArgs st) (defBody st) (defScope st) .none kV doc pm an cdv ct) ⟨us, []⟩ = pure (ps.zip us))
    (hb : ∀ (fa : Addr) (cdv : Value) (A : Around) (outer : List PySem.Env) (s : Shared) (H : Hp) (E : XK), Cok (cxOf (L2.CX P w) P w K mg base N x (defScope st) fa cdv A outer s H E) (fun cls d _ H => E cls d H) k → ∀ s0, dom s0 →
      EP (cxOf (L2.CX P w) P w K mg base N x (defScope st) fa cdv A outer s H E) T (fun cls d _ H => E cls d H) true (defBody st) ([.b (.lst (en s0))] ++ List.replicate (N.length - 1) .no) fun of => ∃ δf, of = .ret (.d (er (f s0).1)) δf ∧ δf[0]? = some (.b (.lst (en (f s0).2)))) : Def P w K mg base T (k + 1) x [] (Ld0 en er  dom f) := by
  refine def_gen S Sc hn (fun δ o ⟨s0, _, h, _⟩ => by rw [h]; rfl) bd fun fa cdv A outer s H E C δ o ⟨s0, h1, h2, h3⟩ => ?_
  subst h2 h3
  obtain ⟨of, h5, ⟨δf, rfl, h6⟩, _⟩ := hb fa cdv A outer s H E C s0 h1
  exact ⟨_, h5, .ret (outs_lend (ds := []) h6)⟩
theorem def_l1 {α1 : Type} {e1 : α1 → PyData} {dom : σ → α1 → Prop} {f : σ → α1 → γ × σ} (S : Txt K mg x st []) (Sc : FnScope N ps (defScope st)) (hn : ps.length = 2)
    (bd : ∀ (kV doc pm : Value) (an : Option Addr) (cdv ct : Value) (us : List Value), us.length = ps.length → bindArgs (PySem.W.fnOf x x (defArgs st) (defBody st) (defScope st) .none kV doc pm an cdv ct) ⟨us, []⟩ = pure (ps.zip us))
    (hb : ∀ (fa : Addr) (cdv : Value) (A : Around) (outer : List PySem.Env) (s : Shared) (H : Hp) (E : XK), Cok (cxOf (L2.CX P w) P w K mg base N x (defScope st) fa cdv A outer s H E) (fun cls d _ H => E cls d H) k → ∀ s0 x1, dom s0 x1 →
      EP (cxOf (L2.CX P w) P w K mg base N x (defScope st) fa cdv A outer s H E) T (fun cls d _ H => E cls d H) true (defBody st) ([.b (.lst (en s0)), .d (e1 x1)] ++ List.replicate (N.length - 2) .no) fun of => ∃ δf, of = .ret (.d (er (f s0 x1).1)) δf ∧ δf[0]? = some (.b (.lst (en (f s0 x1).2)))) : Def P w K mg base T (k + 1) x [] (Ld1 en er e1 dom f) := by
  refine def_gen S Sc hn (fun δ o ⟨s0, x1, _, h, _⟩ => by rw [h]; rfl) bd fun fa cdv A outer s H E C δ o ⟨s0, x1, h1, h2, h3⟩ => ?_
  subst h2 h3
  obtain ⟨of, h5, ⟨δf, rfl, h6⟩, _⟩ := hb fa cdv A outer s H E C s0 x1 h1
  exact ⟨_, h5, .ret (outs_lend (ds := [e1 x1]) h6)⟩
theorem def_l2 {α1 α2 : Type} {e1 : α1 → PyData} {e2 : α2 → PyData} {dom : σ → α1 → α2 → Prop} {f : σ → α1 → α2 → γ × σ} (S : Txt K mg x st []) (Sc : FnScope N ps (defScope st)) (hn : ps.length = 3)
    (bd : ∀ (kV doc pm : Value) (an : Option Addr) (cdv ct : Value) (us : List Value), us.length = ps.length → bindArgs (PySem.W.fnOf x x (defArgs st) (defBody st) (defScope st) .none kV doc pm an cdv ct) ⟨us, []⟩ = pure (ps.zip us))
    (hb : ∀ (fa : Addr) (cdv : Value) (A : Around) (outer : List PySem.Env) (s : Shared) (H : Hp) (E : XK), Cok (cxOf (L2.CX P w) P w K mg base N x (defScope st) fa cdv A outer s H E) (fun cls d _ H => E cls d H) k → ∀ s0 x1 x2, dom s0 x1 x2 →
      EP (cxOf (L2.CX P w) P w K mg base N x (defScope st) fa cdv A outer s H E) T (fun cls d _ H => E cls d H) true (defBody st) ([.b (.lst (en s0)), .d (e1 x1), .d (e2 x2)] ++ List.replicate (N.length - 3) .no) fun of => ∃ δf, of = .ret (.d (er (f s0 x1 x2).1)) δf ∧ δf[0]? = some (.b (.lst (en (f s0 x1 x2).2)))) : Def P w K mg base T (k + 1) x [] (Ld2 en er e1 e2 dom f) := by
  refine def_gen S Sc hn (fun δ o ⟨s0, x1, x2, _, h, _⟩ => by rw [h]; rfl) bd fun fa cdv A outer s H E C δ o ⟨s0, x1, x2, h1, h2, h3⟩ => ?_
  subst h2 h3
  obtain ⟨of, h5, ⟨δf, rfl, h6⟩, _⟩ := hb fa cdv A outer s H E C s0 x1 x2 h1
  exact ⟨_, h5, .ret (outs_lend (ds := [e1 x1, e2 x2]) h6)⟩
theorem def_l3 {α1 α2 α3 : Type} {e1 : α1 → PyData} {e2 : α2 → PyData} {e3 : α3 → PyData} {dom : σ → α1 → α2 → α3 → Prop} {f : σ → α1 → α2 → α3 → γ × σ} (S : Txt K mg x st []) (Sc : FnScope N ps (defScope st)) (hn : ps.length = 4)
    (bd : ∀ (kV doc pm : Value) (an : Option Addr) (cdv ct : Value) (us : List Value), us.length = ps.length → bindArgs (PySem.W.fnOf x x (defArgs st) (defBody st) (defScope st) .none kV doc pm an cdv ct) ⟨us, []⟩ = pure (ps.zip us))
    (hb : ∀ (fa : Addr) (cdv : Value) (A : Around) (outer : List PySem.Env) (s : Shared) (H : Hp) (E : XK), Cok (cxOf (L2.CX P w) P w K mg base N x (defScope st) fa cdv A outer s H E) (fun cls d _ H => E cls d H) k → ∀ s0 x1 x2 x3, dom s0 x1 x2 x3 →
      EP (cxOf (L2.CX P w) P w K mg base N x (defScope st) fa cdv A outer s H E) T (fun cls d _ H => E cls d H) true (defBody st) ([.b (.lst (en s0)), .d (e1 x1), .d (e2 x2), .d (e3 x3)] ++ List.replicate (N.length - 4) .no) fun of => ∃ δf, of = .ret (.d (er (f s0 x1 x2 x3).1)) δf ∧ δf[0]? = some (.b (.lst (en (f s0 x1 x2 x3).2)))) : Def P w K mg base T (k + 1) x [] (Ld3 en er e1 e2 e3 dom f) := by
  refine def_gen S Sc hn (fun δ o ⟨s0, x1, x2, x3, _, h, _⟩ => by rw [h]; rfl) bd fun fa cdv A outer s H E C δ o ⟨s0, x1, x2, x3, h1, h2, h3⟩ => ?_
  subst h2 h3
  obtain ⟨of, h5, ⟨δf, rfl, h6⟩, _⟩ := hb fa cdv A outer s H E C s0 x1 x2 x3 h1
  exact ⟨_, h5, .ret (outs_lend (ds := [e1 x1, e2 x2, e3 x3]) h6)⟩
theorem def_l4 {α1 α2 α3 α4 : Type} {e1 : α1 → PyData} {e2 : α2 → PyData} {e3 : α3 → PyData} {e4 : α4 → PyData} {dom : σ → α1 → α2 → α3 → α4 → Prop} {f : σ → α1 → α2 → α3 → α4 → γ × σ} (S : Txt K mg x st []) (Sc : FnScope N ps (defScope st)) (hn : ps.length = 5)
    (bd : ∀ (kV doc pm : Value) (an : Option Addr) (cdv ct : Value) (us : List Value), us.length = ps.length → bindArgs (PySem.W.fnOf x x (defArgs st) (defBody st) (defScope st) .none kV doc pm an cdv ct) ⟨us, []⟩ = pure (ps.zip us))
    (hb : ∀ (fa : Addr) (cdv : Value) (A : Around) (outer : List PySem.Env) (s : Shared) (H : Hp) (E : XK), Cok (cxOf (L2.CX P w) P w K mg base N x (defScope st) fa cdv A outer s H E) (fun cls d _ H => E cls d H) k → ∀ s0 x1 x2 x3 x4, dom s0 x1 x2 x3 x4 →
      EP (cxOf (L2.CX P w) P w K mg base N x (defScope st) fa cdv A outer s H E) T (fun cls d _ H => E cls d H) true (defBody st) ([.b (.lst (en s0)), .d (e1 x1), .d (e2 x2), .d (e3 x3), .d (e4 x4)] ++ List.replicate (N.length - 5) .no) fun of => ∃ δf, of = .ret (.d (er (f s0 x1 x2 x3 x4).1)) δf ∧ δf[0]? = some (.b (.lst (en (f s0 x1 x2 x3 x4).2)))) : Def P w K mg base T (k + 1) x [] (Ld4 en er e1 e2 e3 e4 dom f) := by
  refine def_gen S Sc hn (fun δ o ⟨s0, x1, x2, x3, x4, _, h, _⟩ => by rw [h]; rfl) bd fun fa cdv A outer s H E C δ o ⟨s0, x1, x2, x3, x4, h1, h2, h3⟩ => ?_
  subst h2 h3
  obtain ⟨of, h5, ⟨δf, rfl, h6⟩, _⟩ := hb fa cdv A outer s H E C s0 x1 x2 x3 x4 h1
  exact ⟨_, h5, .ret (outs_lend (ds := [e1 x1, e2 x2, e3 x3, e4 x4]) h6)⟩
end
section
variable {X : Cx} {T : List NTab} {W : WX} {x y : Str} {k : Nat} {p pos py : Pos} {σ γ : Type} {en : σ → List PyData} {er : γ → PyData}
theorem ev_l0  {dom : σ → Prop} {f : σ → γ × σ} {δ0 : List Sl} {s0 : σ}  {sl sl0 : Sl} {w0 : Ow} (D : Def X.prog X.w X.K X.mg X.base T k x [] (Ld0 en er  dom f)) (hr : Room k X.A) (i : Nat)  (hd : dom s0) (hs : δ0[i]? = some sl := by rfl) (hw : sl.ow = some (.lst (en s0)) := by rfl) (hi : δ0[i]? = some sl0 := by rfl) (hw0 : sl0.ow = some w0 := by rfl)
    (hN : X.N[i]? = some y := by rfl) (hv : Vis X.env.scope y := by first | exact Or.inl rfl | exact Or.inr (Or.inl rfl) | exact Or.inr (Or.inr rfl)) (hdy : (y == ("__debug__" : Str)) = false := by decide) (hcy : (y == ("__classdict__" : Str)) = false := by decide) (hg : Gl X x := by rfl) (hdb : (x == ("__debug__" : Str)) = false := by decide) (t0 : starEach [.Name y py] X.env = (false, eval (.Name y py) X.env) :: starEach [] X.env := by rfl)  (hpl : (backTo pos (starEach [] X.env)).any (·.1) = false := by rfl) :
    EV X T (.Call (.Name x p) [.Name y py] [] pos) δ0 (.d (er (f s0).1)) (δ0.set i (sl.put (.lst (en (f s0).2)))) := by
  have qq : arSl δ0 (.lend i) = .b (.lst (en s0)) := by
    unfold arSl
    simp only [hs, hw]
  exact ev_c (δc := [.b (.lst (en (f s0).2))]) D hr (al_lend i hi hw0 al_nil hN hv hdy hcy t0) ⟨s0, hd, by show [arSl δ0 (.lend i)] = _; rw [qq], rfl⟩ (bk_one (j := 0) rfl rfl hs (by rw [hw]; rfl) rfl) rfl hg hdb t0 hpl
theorem ev_l1 {α1 : Type} {e1 : α1 → PyData} {dom : σ → α1 → Prop} {f : σ → α1 → γ × σ} {a1 : Expr} {δ0 δ1 : List Sl} {s0 : σ} {x1 : α1} {sl sl0 : Sl} {w0 : Ow} (D : Def X.prog X.w X.K X.mg X.base T k x [] (Ld1 en er e1 dom f)) (hr : Room k X.A) (i : Nat) (h1 : EV X T a1 δ0 (.d (e1 x1)) δ1) (hd : dom s0 x1) (hs : δ1[i]? = some sl := by rfl) (hw : sl.ow = some (.lst (en s0)) := by rfl) (hi : δ0[i]? = some sl0 := by rfl) (hw0 : sl0.ow = some w0 := by rfl)
    (hN : X.N[i]? = some y := by rfl) (hv : Vis X.env.scope y := by first | exact Or.inl rfl | exact Or.inr (Or.inl rfl) | exact Or.inr (Or.inr rfl)) (hdy : (y == ("__debug__" : Str)) = false := by decide) (hcy : (y == ("__classdict__" : Str)) = false := by decide) (hg : Gl X x := by rfl) (hdb : (x == ("__debug__" : Str)) = false := by decide) (t0 : starEach [.Name y py, a1] X.env = (false, eval (.Name y py) X.env) :: starEach [a1] X.env := by rfl) (t1 : starEach [a1] X.env = (false, eval a1 X.env) :: starEach [] X.env := by rfl) (hpl : (backTo pos (starEach [a1] X.env)).any (·.1) = false := by rfl) :
    EV X T (.Call (.Name x p) [.Name y py, a1] [] pos) δ0 (.d (er (f s0 x1).1)) (δ1.set i (sl.put (.lst (en (f s0 x1).2)))) := by
  have qq : arSl δ1 (.lend i) = .b (.lst (en s0)) := by
    unfold arSl
    simp only [hs, hw]
  exact ev_c (δc := [.b (.lst (en (f s0 x1).2)), .d (e1 x1)]) D hr (al_lend i hi hw0 (al_cons h1 al_nil t1) hN hv hdy hcy t0) ⟨s0, x1, hd, by show [arSl δ1 (.lend i), .d (e1 x1)] = _; rw [qq], rfl⟩ (bk_one (j := 0) rfl rfl hs (by rw [hw]; rfl) rfl) rfl hg hdb t0 hpl
theorem ev_l2 {α1 α2 : Type} {e1 : α1 → PyData} {e2 : α2 → PyData} {dom : σ → α1 → α2 → Prop} {f : σ → α1 → α2 → γ × σ} {a1 a2 : Expr} {δ0 δ1 δ2 : List Sl} {s0 : σ} {x1 : α1} {x2 : α2} {sl sl0 : Sl} {w0 : Ow} (D : Def X.prog X.w X.K X.mg X.base T k x [] (Ld2 en er e1 e2 dom f)) (hr : Room k X.A) (i : Nat) (h1 : EV X T a1 δ0 (.d (e1 x1)) δ1) (h2 : EV X T a2 δ1 (.d (e2 x2)) δ2) (hd : dom s0 x1 x2) (hs : δ2[i]? = some sl := by rfl) (hw : sl.ow = some (.lst (en s0)) := by rfl) (hi : δ0[i]? = some sl0 := by rfl) (hw0 : sl0.ow = some w0 := by rfl)
    (hN : X.N[i]? = some y := by rfl) (hv : Vis X.env.scope y := by first | exact Or.inl rfl | exact Or.inr (Or.inl rfl) | exact Or.inr (Or.inr rfl)) (hdy : (y == ("__debug__" : Str)) = false := by decide) (hcy : (y == ("__classdict__" : Str)) = false := by decide) (hg : Gl X x := by rfl) (hdb : (x == ("__debug__" : Str)) = false := by decide) (t0 : starEach [.Name y py, a1, a2] X.env = (false, eval (.Name y py) X.env) :: starEach [a1, a2] X.env := by rfl) (t1 : starEach [a1, a2] X.env = (false, eval a1 X.env) :: starEach [a2] X.env := by rfl) (t2 : starEach [a2] X.env = (false, eval a2 X.env) :: starEach [] X.env := by rfl) (hpl : (backTo pos (starEach [a1, a2] X.env)).any (·.1) = false := by rfl) :
    EV X T (.Call (.Name x p) [.Name y py, a1, a2] [] pos) δ0 (.d (er (f s0 x1 x2).1)) (δ2.set i (sl.put (.lst (en (f s0 x1 x2).2)))) := by
  have qq : arSl δ2 (.lend i) = .b (.lst (en s0)) := by
    unfold arSl
    simp only [hs, hw]
  exact ev_c (δc := [.b (.lst (en (f s0 x1 x2).2)), .d (e1 x1), .d (e2 x2)]) D hr (al_lend i hi hw0 (al_cons h1 (al_cons h2 al_nil t2) t1) hN hv hdy hcy t0) ⟨s0, x1, x2, hd, by show [arSl δ2 (.lend i), .d (e1 x1), .d (e2 x2)] = _; rw [qq], rfl⟩ (bk_one (j := 0) rfl rfl hs (by rw [hw]; rfl) rfl) rfl hg hdb t0 hpl
theorem ev_l3 {α1 α2 α3 : Type} {e1 : α1 → PyData} {e2 : α2 → PyData} {e3 : α3 → PyData} {dom : σ → α1 → α2 → α3 → Prop} {f : σ → α1 → α2 → α3 → γ × σ} {a1 a2 a3 : Expr} {δ0 δ1 δ2 δ3 : List Sl} {s0 : σ} {x1 : α1} {x2 : α2} {x3 : α3} {sl sl0 : Sl} {w0 : Ow} (D : Def X.prog X.w X.K X.mg X.base T k x [] (Ld3 en er e1 e2 e3 dom f)) (hr : Room k X.A) (i : Nat) (h1 : EV X T a1 δ0 (.d (e1 x1)) δ1) (h2 : EV X T a2 δ1 (.d (e2 x2)) δ2) (h3 : EV X T a3 δ2 (.d (e3 x3)) δ3) (hd : dom s0 x1 x2 x3) (hs : δ3[i]? = some sl := by rfl) (hw : sl.ow = some (.lst (en s0)) := by rfl) (hi : δ0[i]? = some sl0 := by rfl) (hw0 : sl0.ow = some w0 := by rfl)
    (hN : X.N[i]? = some y := by rfl) (hv : Vis X.env.scope y := by first | exact Or.inl rfl | exact Or.inr (Or.inl rfl) | exact Or.inr (Or.inr rfl)) (hdy : (y == ("__debug__" : Str)) = false := by decide) (hcy : (y == ("__classdict__" : Str)) = false := by decide) (hg : Gl X x := by rfl) (hdb : (x == ("__debug__" : Str)) = false := by decide) (t0 : starEach [.Name y py, a1, a2, a3] X.env = (false, eval (.Name y py) X.env) :: starEach [a1, a2, a3] X.env := by rfl) (t1 : starEach [a1, a2, a3] X.env = (false, eval a1 X.env) :: starEach [a2, a3] X.env := by rfl) (t2 : starEach [a2, a3] X.env = (false, eval a2 X.env) :: starEach [a3] X.env := by rfl) (t3 : starEach [a3] X.env = (false, eval a3 X.env) :: starEach [] X.env := by rfl) (hpl : (backTo pos (starEach [a1, a2, a3] X.env)).any (·.1) = false := by rfl) :
    EV X T (.Call (.Name x p) [.Name y py, a1, a2, a3] [] pos) δ0 (.d (er (f s0 x1 x2 x3).1)) (δ3.set i (sl.put (.lst (en (f s0 x1 x2 x3).2)))) := by
  have qq : arSl δ3 (.lend i) = .b (.lst (en s0)) := by
    unfold arSl
    simp only [hs, hw]
  exact ev_c (δc := [.b (.lst (en (f s0 x1 x2 x3).2)), .d (e1 x1), .d (e2 x2), .d (e3 x3)]) D hr (al_lend i hi hw0 (al_cons h1 (al_cons h2 (al_cons h3 al_nil t3) t2) t1) hN hv hdy hcy t0) ⟨s0, x1, x2, x3, hd, by show [arSl δ3 (.lend i), .d (e1 x1), .d (e2 x2), .d (e3 x3)] = _; rw [qq], rfl⟩ (bk_one (j := 0) rfl rfl hs (by rw [hw]; rfl) rfl) rfl hg hdb t0 hpl
theorem ev_l4 {α1 α2 α3 α4 : Type} {e1 : α1 → PyData} {e2 : α2 → PyData} {e3 : α3 → PyData} {e4 : α4 → PyData} {dom : σ → α1 → α2 → α3 → α4 → Prop} {f : σ → α1 → α2 → α3 → α4 → γ × σ} {a1 a2 a3 a4 : Expr} {δ0 δ1 δ2 δ3 δ4 : List Sl} {s0 : σ} {x1 : α1} {x2 : α2} {x3 : α3} {x4 : α4} {sl sl0 : Sl} {w0 : Ow} (D : Def X.prog X.w X.K X.mg X.base T k x [] (Ld4 en er e1 e2 e3 e4 dom f)) (hr : Room k X.A) (i : Nat) (h1 : EV X T a1 δ0 (.d (e1 x1)) δ1) (h2 : EV X T a2 δ1 (.d (e2 x2)) δ2) (h3 : EV X T a3 δ2 (.d (e3 x3)) δ3) (h4 : EV X T a4 δ3 (.d (e4 x4)) δ4) (hd : dom s0 x1 x2 x3 x4) (hs : δ4[i]? = some sl := by rfl) (hw : sl.ow = some (.lst (en s0)) := by rfl) (hi : δ0[i]? = some sl0 := by rfl) (hw0 : sl0.ow = some w0 := by rfl)
    (hN : X.N[i]? = some y := by rfl) (hv : Vis X.env.scope y := by first | exact Or.inl rfl | exact Or.inr (Or.inl rfl) | exact Or.inr (Or.inr rfl)) (hdy : (y == ("__debug__" : Str)) = false := by decide) (hcy : (y == ("__classdict__" : Str)) = false := by decide) (hg : Gl X x := by rfl) (hdb : (x == ("__debug__" : Str)) = false := by decide) (t0 : starEach [.Name y py, a1, a2, a3, a4] X.env = (false, eval (.Name y py) X.env) :: starEach [a1, a2, a3, a4] X.env := by rfl) (t1 : starEach [a1, a2, a3, a4] X.env = (false, eval a1 X.env) :: starEach [a2, a3, a4] X.env := by rfl) (t2 : starEach [a2, a3, a4] X.env = (false, eval a2 X.env) :: starEach [a3, a4] X.env := by rfl) (t3 : starEach [a3, a4] X.env = (false, eval a3 X.env) :: starEach [a4] X.env := by rfl) (t4 : starEach [a4] X.env = (false, eval a4 X.env) :: starEach [] X.env := by rfl) (hpl : (backTo pos (starEach [a1, a2, a3, a4] X.env)).any (·.1) = false := by rfl) :
    EV X T (.Call (.Name x p) [.Name y py, a1, a2, a3, a4] [] pos) δ0 (.d (er (f s0 x1 x2 x3 x4).1)) (δ4.set i (sl.put (.lst (en (f s0 x1 x2 x3 x4).2)))) := by
  have qq : arSl δ4 (.lend i) = .b (.lst (en s0)) := by
    unfold arSl
    simp only [hs, hw]
  exact ev_c (δc := [.b (.lst (en (f s0 x1 x2 x3 x4).2)), .d (e1 x1), .d (e2 x2), .d (e3 x3), .d (e4 x4)]) D hr (al_lend i hi hw0 (al_cons h1 (al_cons h2 (al_cons h3 (al_cons h4 al_nil t4) t3) t2) t1) hN hv hdy hcy t0) ⟨s0, x1, x2, x3, x4, hd, by show [arSl δ4 (.lend i), .d (e1 x1), .d (e2 x2), .d (e3 x3), .d (e4 x4)] = _; rw [qq], rfl⟩ (bk_one (j := 0) rfl rfl hs (by rw [hw]; rfl) rfl) rfl hg hdb t0 hpl
end
end Sc
namespace Sc
open PySem L2 NdefX
section
variable {X : Cx} {T : List NTab} {K : PySem.W.Frag} {δ δ1 δ2 δ3 : List Sl} {e e2 : Expr} {p pos pos' pn : Pos} {W : WX} {x : Str}
theorem ev_inKS {n : Nat} (C : Cok X W n) (j : Nat) {s : Sl} {kvs : List (Key × PyData)} {k : Str} (hj : δ1[j]? = some s) (hw : s.ow = some (.dk kvs)) (he : EV X T e δ (.d (.str k)) δ1) (hN : X.N[j]? = some x := by rfl) (hv : Vis X.env.scope x := by first | exact Or.inl rfl | exact Or.inr (Or.inl rfl) | exact Or.inr (Or.inr rfl)) (hdb : (x == ("__debug__" : Str)) = false := by decide) (hcd : (x == ("__classdict__" : Str)) = false := by decide) : EV X T (.Compare e [.In] [.Name x pn] pos) δ (.d (.bool (valD kvs (tK k)).isSome)) δ1 := ev_inK C j (k := tK k) hj hw he hN hv hdb hcd
theorem tv_inKS {n : Nat} (C : Cok X W n) (j : Nat) {s : Sl} {kvs : List (Key × PyData)} {k : Str} (hj : δ1[j]? = some s) (hw : s.ow = some (.dk kvs)) (he : EV X T e δ (.d (.str k)) δ1) (hN : X.N[j]? = some x := by rfl) (hv : Vis X.env.scope x := by first | exact Or.inl rfl | exact Or.inr (Or.inl rfl) | exact Or.inr (Or.inr rfl)) (hdb : (x == ("__debug__" : Str)) = false := by decide) (hcd : (x == ("__classdict__" : Str)) = false := by decide) : TV X T (.Compare e [.In] [.Name x pn] pos) δ (valD kvs (tK k)).isSome δ1 := tv_inK C j (k := tK k) hj hw he hN hv hdb hcd
theorem ev_ninKS {n : Nat} (C : Cok X W n) (j : Nat) {s : Sl} {kvs : List (Key × PyData)} {k : Str} (hj : δ1[j]? = some s) (hw : s.ow = some (.dk kvs)) (he : EV X T e δ (.d (.str k)) δ1) (hN : X.N[j]? = some x := by rfl) (hv : Vis X.env.scope x := by first | exact Or.inl rfl | exact Or.inr (Or.inl rfl) | exact Or.inr (Or.inr rfl)) (hdb : (x == ("__debug__" : Str)) = false := by decide) (hcd : (x == ("__classdict__" : Str)) = false := by decide) : EV X T (.Compare e [.NotIn] [.Name x pn] pos) δ (.d (.bool (!(valD kvs (tK k)).isSome))) δ1 := ev_ninK C j (k := tK k) hj hw he hN hv hdb hcd
theorem tv_ninKS {n : Nat} (C : Cok X W n) (j : Nat) {s : Sl} {kvs : List (Key × PyData)} {k : Str} (hj : δ1[j]? = some s) (hw : s.ow = some (.dk kvs)) (he : EV X T e δ (.d (.str k)) δ1) (hN : X.N[j]? = some x := by rfl) (hv : Vis X.env.scope x := by first | exact Or.inl rfl | exact Or.inr (Or.inl rfl) | exact Or.inr (Or.inr rfl)) (hdb : (x == ("__debug__" : Str)) = false := by decide) (hcd : (x == ("__classdict__" : Str)) = false := by decide) : TV X T (.Compare e [.NotIn] [.Name x pn] pos) δ (!(valD kvs (tK k)).isSome) δ1 := tv_ninK C j (k := tK k) hj hw he hN hv hdb hcd
theorem ev_getKS {n : Nat} (C : Cok X W n) (j : Nat) {s : Sl} {kvs : List (Key × PyData)} {k : Str} {d : PyData} (hj : δ[j]? = some s) (hw : s.ow = some (.dk kvs)) (he : EV X T e δ (.d (.str k)) δ) (hd : valD kvs (tK k) = some d) (hs : NoSl e := by intro _ _; rfl) (hN : X.N[j]? = some x := by rfl) (hv : Vis X.env.scope x := by first | exact Or.inl rfl | exact Or.inr (Or.inl rfl) | exact Or.inr (Or.inr rfl)) (hdb : (x == ("__debug__" : Str)) = false := by decide) (hcd : (x == ("__classdict__" : Str)) = false := by decide) : EV X T (.Subscript (.Name x pn) e pos) δ (.d d) δ := ev_getK C j (k := tK k) hj hw he hd hs hN hv hdb hcd
theorem sv_putKS {n : Nat} (C : Cok X W n) (j : Nat) {s : Sl} {kvs : List (Key × PyData)} {k : Str} {d : PyData} (hj : δ1[j]? = some s) (hw : s.ow = some (.dk kvs)) (hv : EV X T e2 δ (.d d) δ1) (he : EV X T e δ1 (.d (.str k)) δ1) (hz : kvs.length < sizeLine) (hN : X.N[j]? = some x := by rfl) (hvi : Vis X.env.scope x := by first | exact Or.inl rfl | exact Or.inr (Or.inl rfl) | exact Or.inr (Or.inr rfl)) (hdb : (x == ("__debug__" : Str)) = false := by decide) (hcd : (x == ("__classdict__" : Str)) = false := by decide) (hs : swapsWith e2 (some (.Subscript (.Name x pn) e pos')) pos.line X.env = pure false := by rfl) : SV X T W (.Assign [.Subscript (.Name x pn) e pos'] e2 pos) δ (.nx (δ1.set j (s.put (.dk (putD kvs (tK k) d))))) := sv_putK C j (k := tK k) hj hw hv he hz hN hvi hdb hcd hs
theorem ev_inKI {n : Nat} (C : Cok X W n) (j : Nat) {s : Sl} {kvs : List (Key × PyData)} {k : Int} (hj : δ1[j]? = some s) (hw : s.ow = some (.dk kvs)) (he : EV X T e δ (.d (.int k)) δ1) (hN : X.N[j]? = some x := by rfl) (hv : Vis X.env.scope x := by first | exact Or.inl rfl | exact Or.inr (Or.inl rfl) | exact Or.inr (Or.inr rfl)) (hdb : (x == ("__debug__" : Str)) = false := by decide) (hcd : (x == ("__classdict__" : Str)) = false := by decide) : EV X T (.Compare e [.In] [.Name x pn] pos) δ (.d (.bool (valD kvs (iK k)).isSome)) δ1 := ev_inK C j (k := iK k) hj hw he hN hv hdb hcd
theorem tv_inKI {n : Nat} (C : Cok X W n) (j : Nat) {s : Sl} {kvs : List (Key × PyData)} {k : Int} (hj : δ1[j]? = some s) (hw : s.ow = some (.dk kvs)) (he : EV X T e δ (.d (.int k)) δ1) (hN : X.N[j]? = some x := by rfl) (hv : Vis X.env.scope x := by first | exact Or.inl rfl | exact Or.inr (Or.inl rfl) | exact Or.inr (Or.inr rfl)) (hdb : (x == ("__debug__" : Str)) = false := by decide) (hcd : (x == ("__classdict__" : Str)) = false := by decide) : TV X T (.Compare e [.In] [.Name x pn] pos) δ (valD kvs (iK k)).isSome δ1 := tv_inK C j (k := iK k) hj hw he hN hv hdb hcd
theorem ev_ninKI {n : Nat} (C : Cok X W n) (j : Nat) {s : Sl} {kvs : List (Key × PyData)} {k : Int} (hj : δ1[j]? = some s) (hw : s.ow = some (.dk kvs)) (he : EV X T e δ (.d (.int k)) δ1) (hN : X.N[j]? = some x := by rfl) (hv : Vis X.env.scope x := by first | exact Or.inl rfl | exact Or.inr (Or.inl rfl) | exact Or.inr (Or.inr rfl)) (hdb : (x == ("__debug__" : Str)) = false := by decide) (hcd : (x == ("__classdict__" : Str)) = false := by decide) : EV X T (.Compare e [.NotIn] [.Name x pn] pos) δ (.d (.bool (!(valD kvs (iK k)).isSome))) δ1 := ev_ninK C j (k := iK k) hj hw he hN hv hdb hcd
theorem tv_ninKI {n : Nat} (C : Cok X W n) (j : Nat) {s : Sl} {kvs : List (Key × PyData)} {k : Int} (hj : δ1[j]? = some s) (hw : s.ow = some (.dk kvs)) (he : EV X T e δ (.d (.int k)) δ1) (hN : X.N[j]? = some x := by rfl) (hv : Vis X.env.scope x := by first | exact Or.inl rfl | exact Or.inr (Or.inl rfl) | exact Or.inr (Or.inr rfl)) (hdb : (x == ("__debug__" : Str)) = false := by decide) (hcd : (x == ("__classdict__" : Str)) = false := by decide) : TV X T (.Compare e [.NotIn] [.Name x pn] pos) δ (!(valD kvs (iK k)).isSome) δ1 := tv_ninK C j (k := iK k) hj hw he hN hv hdb hcd
theorem ev_getKI {n : Nat} (C : Cok X W n) (j : Nat) {s : Sl} {kvs : List (Key × PyData)} {k : Int} {d : PyData} (hj : δ[j]? = some s) (hw : s.ow = some (.dk kvs)) (he : EV X T e δ (.d (.int k)) δ) (hd : valD kvs (iK k) = some d) (hs : NoSl e := by intro _ _; rfl) (hN : X.N[j]? = some x := by rfl) (hv : Vis X.env.scope x := by first | exact Or.inl rfl | exact Or.inr (Or.inl rfl) | exact Or.inr (Or.inr rfl)) (hdb : (x == ("__debug__" : Str)) = false := by decide) (hcd : (x == ("__classdict__" : Str)) = false := by decide) : EV X T (.Subscript (.Name x pn) e pos) δ (.d d) δ := ev_getK C j (k := iK k) hj hw he hd hs hN hv hdb hcd
theorem sv_putKI {n : Nat} (C : Cok X W n) (j : Nat) {s : Sl} {kvs : List (Key × PyData)} {k : Int} {d : PyData} (hj : δ1[j]? = some s) (hw : s.ow = some (.dk kvs)) (hv : EV X T e2 δ (.d d) δ1) (he : EV X T e δ1 (.d (.int k)) δ1) (hz : kvs.length < sizeLine) (hN : X.N[j]? = some x := by rfl) (hvi : Vis X.env.scope x := by first | exact Or.inl rfl | exact Or.inr (Or.inl rfl) | exact Or.inr (Or.inr rfl)) (hdb : (x == ("__debug__" : Str)) = false := by decide) (hcd : (x == ("__classdict__" : Str)) = false := by decide) (hs : swapsWith e2 (some (.Subscript (.Name x pn) e pos')) pos.line X.env = pure false := by rfl) : SV X T W (.Assign [.Subscript (.Name x pn) e pos'] e2 pos) δ (.nx (δ1.set j (s.put (.dk (putD kvs (iK k) d))))) := sv_putK C j (k := iK k) hj hw hv he hz hN hvi hdb hcd hs
end
/-! a dict that tells which texts are there -/
def dkT (ts : List Str) : List (Key × PyData) := ts.map fun t => (tK t, .bool true)
theorem dkT_val (ts : List Str) (t : Str) : (valD (dkT ts) (tK t)).isSome = decide (t ∈ ts) := by
  unfold valD dkT
  rw [Option.isSome_map, List.find?_map, Option.isSome_map, List.isSome_find?]
  rw [Bool.eq_iff_iff, List.any_eq_true, decide_eq_true_iff]
  constructor
  · rintro ⟨z, hz, e⟩
    have e' : tK z = tK t := of_decide_eq_true e
    cases e'
    exact hz
  · exact fun h => ⟨_, h, decide_eq_true rfl⟩
def insT (ts : List Str) (t : Str) : List Str := if t ∈ ts then ts else ts ++ [t]
theorem dkT_put (ts : List Str) (t : Str) : putD (dkT ts) (tK t) (.bool true) = dkT (insT ts t) := by
  unfold putD insT
  have hin : ((dkT ts).any fun kv => decide (kv.1 = tK t)) = decide (t ∈ ts) := by
    unfold dkT
    rw [List.any_map, Bool.eq_iff_iff, List.any_eq_true, decide_eq_true_iff]
    constructor
    · rintro ⟨z, hz, e⟩
      have e' : tK z = tK t := of_decide_eq_true e
      cases e'
      exact hz
    · exact fun h => ⟨_, h, decide_eq_true rfl⟩
  rw [hin]
  by_cases h : t ∈ ts
  · rw [if_pos (decide_eq_true h), if_pos h]
    unfold dkT
    rw [List.map_map]
    refine List.map_congr_left fun a _ => ?_
    show (if tK a = tK t then (tK a, PyData.bool true) else (tK a, PyData.bool true)) = _
    split <;> rfl
  · rw [if_neg (by rw [decide_eq_false h]; exact Bool.false_ne_true), if_neg h]
    unfold dkT
    rw [List.map_append]
    rfl
theorem dkT_keys (ts : List Str) : keysD (dkT ts) = ts.map .str := by
  unfold keysD dkT
  rw [List.map_map]
  rfl
theorem insT_mem {ts : List Str} {t s : Str} : s ∈ insT ts t ↔ s ∈ ts ∨ s = t := by
  unfold insT
  split
  · rename_i h
    exact ⟨.inl, fun q => q.elim id fun e => e ▸ h⟩
  · simp
theorem insT_nodup {ts : List Str} (h : ts.Nodup) (t : Str) : (insT ts t).Nodup := by
  unfold insT
  split
  · exact h
  · rename_i hn
    rw [List.nodup_append]
    exact ⟨h, by simp, fun a ha b hb e => by rw [List.mem_singleton.mp hb] at e; exact hn (e ▸ ha)⟩
theorem insT_len (ts : List Str) (t : Str) : (insT ts t).length ≤ ts.length + 1 := by
  unfold insT
  split
  · omega
  · simp
theorem insT_new {ts : List Str} {t : Str} (h : t ∉ ts) : insT ts t = ts ++ [t] := if_neg h
theorem runE_find {α : Type} (p : α → Bool) : ∀ xs : List α, runE (fun (_ : Unit) x => if p x = true then .inr x else .inl ()) xs () = (match xs.find? p with | some x => Sum.inr x | none => .inl ())
  | [] => rfl
  | x :: xs => by
    unfold runE
    by_cases h : p x = true
    · rw [if_pos h, List.find?_cons_of_pos h]
    · rw [if_neg h, List.find?_cons_of_neg h]
      exact runE_find p xs
end Sc
namespace Sc
open PySem L2 NdefX PySem.W
section
variable {X : Cx} {T : List NTab} {K : PySem.W.Frag} {δ δ1 δ2 δ3 : List Sl} {e kx vx : Expr} {p pos pos' pn : Pos} {W : WX} {x : Str}
/-- {k: v} -/
theorem ev_d1 {k : Key} {d : PyData} (hk : EV X T kx δ (.d (kD k)) δ1) (hv : EV X T vx δ1 (.d d) δ2) : EV X T (.Dict [some kx] [vx] pos) δ (.o (.dk [(k, d)])) δ2 := fun σ H S Q E kk =>
  we_of (pe_disp (pps_cons pe_w pe_w pps_nil) rfl rfl (by simp) (by simp)) fun p hp => by
    obtain ⟨g, e, q, eq, hS, hP, ho, hf⟩ := new_dk (kvs := []) E hp .nil
    cases eq
    have A0 : AtD X.K T H S (Owned σ δ) p (upd H p (.dK [])) (fun a => S a ∨ a = p) σ δ [] := ⟨g, e, hp, hS, hP, ho⟩
    refine hk σ _ _ _ e fun v1 H1 S1 g1 e1 p1 r1 => hv σ H1 S1 _ e1 fun v2 H2 S2 g2 e2 p2 r2 => ?_
    have A2 := (A0.on g1 e1).on g2 e2
    obtain ⟨r, hD, hd⟩ := A2.dk
    have hr : r = [] := by cases hd; rfl
    subst hr
    have A3 := A2.push (k := k) hD r2
    refine ⟨hD, [(k, v2)], by rw [dp_key r1]; rfl, by simp, ?_⟩
    refine kk (.ref p) _ S2 A3.go A3.env (p1.trans p2) ⟨p, rfl, A3.hid, A3.free, A3.dk, .inr (Fresh.of hp)⟩
theorem ev_d1S {k : Str} {d : PyData} (hk : EV X T kx δ (.d (.str k)) δ1) (hv : EV X T vx δ1 (.d d) δ2) : EV X T (.Dict [some kx] [vx] pos) δ (.o (.dk [(tK k, d)])) δ2 := ev_d1 (k := tK k) hk hv
theorem ev_d1I {k : Int} {d : PyData} (hk : EV X T kx δ (.d (.int k)) δ1) (hv : EV X T vx δ1 (.d d) δ2) : EV X T (.Dict [some kx] [vx] pos) δ (.o (.dk [(iK k, d)])) δ2 := ev_d1 (k := iK k) hk hv
end
end Sc
namespace Sc
open PySem L2 NdefX PySem.W
/-- by what came out: a new state, or what is handed back -/
def SumO {σ ρ : Type} (A : σ → Prop) (B : ρ → Prop) : σ ⊕ ρ → Prop
  | .inl s => A s
  | .inr r => B r
def OptO {ρ : Type} (A : Prop) (B : ρ → Prop) : Option ρ → Prop
  | none => A
  | some r => B r
theorem OptO.imp {ρ : Type} {A A' : Prop} {B B' : ρ → Prop} {x : Option ρ} (h : OptO A B x) (f : A → A') (g : ∀ r, B r → B' r) : OptO A' B' x := by
  cases x with
  | none => exact f h
  | some r => exact g r h
theorem SumO.of_opt {σ ρ : Type} {A : σ → Prop} {B : ρ → Prop} {R : σ ⊕ ρ} {find : Option ρ} {s : σ} (hR : R = match find with | some r => .inr r | none => .inl s) (h : OptO (A s) B find) : SumO A B R := by
  subst hR
  cases find with
  | none => exact h
  | some r => exact h
section
variable {X : Cx} {T : List NTab} {W : WX} {tg : Expr} {body : List Stmt}
/-- a loop that carries a state and may hand something back -/
theorem lf_runR {α σ ρ : Type} {en : α → PyData} {st : σ → List Sl} {step : σ → α → σ ⊕ ρ} {ret : ρ → Sl} (I : List α → σ → Prop)
    (h : ∀ x xs s, I (x :: xs) s → (∀ s', step s x = .inl s' → I xs s') ∧ ∃ δ1, GV X T tg (.d (en x)) (st s) δ1 ∧ SumO (fun s' => SVs X T W body δ1 (.nx (st s'))) (fun r => ∃ δ', SVs X T W body δ1 (.ret (ret r) δ')) (step s x)) :
    ∀ xs s, I xs s → SumO (fun s' => LoopF X T W tg body (xs.map en) (st s) (.nx (st s'))) (fun r => ∃ δ', LoopF X T W tg body (xs.map en) (st s) (.ret (ret r) δ')) (runE step xs s)
  | [], s, _ => lf_nil
  | x :: xs, s, hI => by
    obtain ⟨h1, δ1, h2, h3⟩ := h x xs s hI
    unfold runE
    cases e : step s x with
    | inl s' =>
      rw [e] at h3
      have q := lf_runR I h xs s' (h1 s' e)
      show SumO _ _ (runE step xs s')
      revert q
      cases runE step xs s' with
      | inl s'' => exact fun q => lf_nx h2 h3 q
      | inr r => exact fun ⟨δ', q⟩ => ⟨δ', lf_nx h2 h3 q⟩
    | inr r =>
      rw [e] at h3
      obtain ⟨δ', h3⟩ := h3
      exact ⟨δ', lf_ret h2 h3⟩
theorem ea_forR {σ ρ : Type} {st : σ → List Sl} {ret : ρ → Sl} {k : Nat} {f : Bool} {iter : Expr} {rest : List Stmt} {ds : List PyData} {δ δ1 : List Sl} {a : An} {pos : Pos} {R : σ ⊕ ρ} (C : Cok X W k) (hi : IV X T tg iter δ (.fix ds) δ1)
    (hl : SumO (fun s' => LoopF X T W tg body ds δ1 (.nx (st s'))) (fun r => ∃ δ', LoopF X T W tg body ds δ1 (.ret (ret r) δ')) R)
    (hin : ∀ s', R = .inl s' → EA X T W f rest (st s') a) (hout : ∀ r, R = .inr r → a = .r (ret r)) (hs : ∀ x, foldedSetIterable iter X.env x = pure x := by intro _; rfl) : EA X T W f (.For tg iter body [] pos :: rest) δ a := by
  cases R with
  | inl s' => exact ea_cons (sv_forF C hi hl hs) (hin s' rfl)
  | inr r =>
    obtain ⟨δ', hl⟩ := hl
    rw [hout r rfl]
    exact ea_out (sv_forF C hi hl hs)
/-- a loop that looks for the first item of a kind and hands it back -/
theorem lf_scan {α : Type} {en : α → PyData} {p : α → Bool} {δ : List Sl} {ret : α → Sl} : ∀ {xs : List α}, (∀ x ∈ xs, ∃ δ1, GV X T tg (.d (en x)) δ δ1 ∧ (p x = false → SVs X T W body δ1 (.nx δ)) ∧ (p x = true → ∃ δ', SVs X T W body δ1 (.ret (ret x) δ'))) →
    OptO (LoopF X T W tg body (xs.map en) δ (.nx δ)) (fun one => ∃ δ', LoopF X T W tg body (xs.map en) δ (.ret (ret one) δ')) (xs.find? p)
  | [], _ => lf_nil
  | x :: xs, h => by
    obtain ⟨δ1, h1, h2, h3⟩ := h x List.mem_cons_self
    cases e : p x with
    | true =>
      rw [List.find?_cons_of_pos e]
      obtain ⟨δ', h3⟩ := h3 e
      exact ⟨δ', lf_ret h1 h3⟩
    | false =>
      rw [List.find?_cons_of_neg (by rw [e]; exact Bool.false_ne_true)]
      have q := lf_scan (xs := xs) fun y hy => h y (List.mem_cons_of_mem _ hy)
      revert q
      cases xs.find? p with
      | none => exact fun q => lf_nx h1 (h2 e) q
      | some one => exact fun ⟨δ', q⟩ => ⟨δ', lf_nx h1 (h2 e) q⟩
theorem svs_scan {α : Type} {en : α → PyData} {p : α → Bool} {δ0 δ δ2 : List Sl} {ret : α → Sl} {k : Nat} {iter : Expr} {rest : List Stmt} {pos : Pos} {xs : List α} (C : Cok X W k) (hi : IV X T tg iter δ0 (.fix (xs.map en)) δ)
    (h : ∀ x ∈ xs, ∃ δ1, GV X T tg (.d (en x)) δ δ1 ∧ (p x = false → SVs X T W body δ1 (.nx δ)) ∧ (p x = true → ∃ δ', SVs X T W body δ1 (.ret (ret x) δ')))
    (hrest : xs.find? p = none → SVs X T W rest δ (.nx δ2)) (hs : ∀ x, foldedSetIterable iter X.env x = pure x := by intro _; rfl) :
    OptO (SVs X T W (.For tg iter body [] pos :: rest) δ0 (.nx δ2)) (fun one => ∃ δ', SVs X T W (.For tg iter body [] pos :: rest) δ0 (.ret (ret one) δ')) (xs.find? p) := by
  have q := lf_scan h
  revert q
  cases e : xs.find? p with
  | none => exact fun q => svs_cons (sv_forF C hi q hs) (hrest e)
  | some one => exact fun ⟨δ', q⟩ => ⟨δ', svs_stop (sv_forF C hi q hs)⟩
theorem ea_scan {α : Type} {en : α → PyData} {p : α → Bool} {δ0 δ : List Sl} {ret : α → Sl} {k : Nat} {f : Bool} {iter : Expr} {rest : List Stmt} {a : An} {pos : Pos} {xs : List α} (C : Cok X W k) (hi : IV X T tg iter δ0 (.fix (xs.map en)) δ)
    (h : ∀ x ∈ xs, ∃ δ1, GV X T tg (.d (en x)) δ δ1 ∧ (p x = false → SVs X T W body δ1 (.nx δ)) ∧ (p x = true → ∃ δ', SVs X T W body δ1 (.ret (ret x) δ')))
    (hin : xs.find? p = none → EA X T W f rest δ a) (hout : ∀ r, xs.find? p = some r → a = .r (ret r)) (hs : ∀ x, foldedSetIterable iter X.env x = pure x := by intro _; rfl) : EA X T W f (.For tg iter body [] pos :: rest) δ0 a := by
  have q := lf_scan h
  revert q
  cases e : xs.find? p with
  | none => exact fun q => ea_cons (sv_forF C hi q hs) (hin e)
  | some one =>
    intro ⟨δ', q⟩
    rw [hout one e]
    exact ea_out (sv_forF C hi q hs)
theorem hold_opt {α : Type} {st : List Stmt} {δ δ2 : List Sl} {ret : α → Sl} {x : Option α} (i : Nat) {xs : List PyData} (h : OptO (SVs X T W st (δ.set i (.d (.list xs))) (.nx δ2)) (fun one => ∃ δ', SVs X T W st (δ.set i (.d (.list xs))) (.ret (ret one) δ')) x) (hi : δ[i]? = some (.o (.lst xs)) := by rfl) :
    OptO (SVs X T W st δ (.nx δ2)) (fun one => ∃ δ', SVs X T W st δ (.ret (ret one) δ')) x := h.imp (fun q => svs_hold i q hi) fun r ⟨δ', q⟩ => ⟨δ', svs_hold i q hi⟩
end
end Sc
namespace Sc
open PySem L2 NdefX PySem.W
section
variable {X : Cx} {T : List NTab} {K : PySem.W.Frag} {δ δ1 δ2 δ3 : List Sl} {e kx vx : Expr} {p pos pos' pn : Pos} {W : WX} {x : Str} {vs : List Nat}
theorem set_dict (hu : X.A.units + 1 < cLine) : PSet X (fun o i v H Q => ∃ (a : Addr) (H' : Hp), o = .ref a ∧ DPut H a i v H' ∧ Q H') := fun pins s σ H o i v ov iv u Q I ro ri rv ⟨a, H', eo, g, q⟩ => by
  subst eo
  obtain rfl : ov = Value.ref a := ro
  exact d_setItem hu I g ri rv fun s4 I4 => ⟨H', I4, q⟩
/-- d[k] as a target, d by name -/
theorem gw_putK {n : Nat} (C : Cok X W n) (j : Nat) {s : Sl} {kvs : List (Key × PyData)} {k : Key} {d : PyData} (hj : δ[j]? = some s) (hw : s.ow = some (.dk kvs)) (he : EV X T e δ (.d (kD k)) δ) (hz : kvs.length < sizeLine) (hN : X.N[j]? = some x := by rfl) (hvi : Vis X.env.scope x := by first | exact Or.inl rfl | exact Or.inr (Or.inl rfl) | exact Or.inr (Or.inr rfl))
    (hdb : (x == ("__debug__" : Str)) = false := by decide) (hcd : (x == ("__classdict__" : Str)) = false := by decide) (ha : ∀ v, assign (.Subscript (.Name x pn) e pos) X.env v = (do
      let ov ← holding [v] (eval (.Name x pn) X.env)
      let iv ← holding [v, ov] (eval e X.env)
      standAt pos
      holding [v, ov, iv] (setItem ov iv v)
      release [v, ov, iv] []) := by intro _; rfl) : GW X T [] (.Subscript (.Name x pn) e pos) (.d d) δ (δ.set j (s.put (.dk (putD kvs k d)))) := fun σ H S H0 P0 v Q E x0 k0 w0 kk => by
  have hu : X.A.units + 1 < cLine := by have := C.room.un; omega
  refine wg_of (pg_sub (pe_var hN hvi hdb hcd) pe_w (set_dict hu) ha) ?_
  obtain ⟨q, eq, _⟩ := E.own j s _ hj hw
  refine ⟨.ref q, eq, he σ H S _ E fun u H2 S2 g2 e2 p2 r2 => ?_⟩
  obtain ⟨q', eq', r, hq, hd1⟩ := e2.own j s _ hj hw
  rw [eq] at eq'
  cases eq'
  have x1 := x0.go g2
  refine ⟨q, _, rfl, by rw [dp_key r2]; exact DPut.k (v := v) hq (by rw [kv_len hd1]; exact hz), ?_⟩
  obtain ⟨g3, e3, p3⟩ := e2.write (w' := .dk (putD kvs k d)) (o := .dK (putK r k v)) hj hw eq fun h m => ⟨_, rfl, kv_put (hd1.mono m) (dp_mono m x1)⟩
  have g4 := g2.trans g3
  refine kk σ _ S2 g4.mono (fun a o hp eo ht => ?_) (fun a hS hP hF => ?_) (fun a ha => ?_) e3 (p2.trans p3) (fun _ _ => rfl) rfl
  · refine g4.keep a o (fun ho => ?_) (k0 a o hp eo ht) ht
    rcases w0 a ho with h | h
    · exact hp h
    · obtain ⟨ps, z⟩ := h o eo
      exact ht ps z
  · refine g4.up a hS (fun ho => ?_) (fun hf => ?_)
    · rcases w0 a ho with h | h
      · exact hP h
      · exact hF h
    · rcases fresh_back k0 hf with h | h
      · exact hP h
      · exact hF h
  · rcases g4.ow a ha with h | h
    · exact w0 a h
    · exact fresh_back k0 h
theorem gw_putKS {n : Nat} (C : Cok X W n) (j : Nat) {s : Sl} {kvs : List (Key × PyData)} {k : Str} {d : PyData} (hj : δ[j]? = some s) (hw : s.ow = some (.dk kvs)) (he : EV X T e δ (.d (.str k)) δ) (hz : kvs.length < sizeLine) (hN : X.N[j]? = some x := by rfl) (hvi : Vis X.env.scope x := by first | exact Or.inl rfl | exact Or.inr (Or.inl rfl) | exact Or.inr (Or.inr rfl))
    (hdb : (x == ("__debug__" : Str)) = false := by decide) (hcd : (x == ("__classdict__" : Str)) = false := by decide) (ha : ∀ v, assign (.Subscript (.Name x pn) e pos) X.env v = (do
      let ov ← holding [v] (eval (.Name x pn) X.env)
      let iv ← holding [v, ov] (eval e X.env)
      standAt pos
      holding [v, ov, iv] (setItem ov iv v)
      release [v, ov, iv] []) := by intro _; rfl) : GW X T [] (.Subscript (.Name x pn) e pos) (.d d) δ (δ.set j (s.put (.dk (putD kvs (tK k) d)))) := gw_putK C j (k := tK k) hj hw he hz hN hvi hdb hcd ha
theorem gw_putKI {n : Nat} (C : Cok X W n) (j : Nat) {s : Sl} {kvs : List (Key × PyData)} {k : Int} {d : PyData} (hj : δ[j]? = some s) (hw : s.ow = some (.dk kvs)) (he : EV X T e δ (.d (.int k)) δ) (hz : kvs.length < sizeLine) (hN : X.N[j]? = some x := by rfl) (hvi : Vis X.env.scope x := by first | exact Or.inl rfl | exact Or.inr (Or.inl rfl) | exact Or.inr (Or.inr rfl))
    (hdb : (x == ("__debug__" : Str)) = false := by decide) (hcd : (x == ("__classdict__" : Str)) = false := by decide) (ha : ∀ v, assign (.Subscript (.Name x pn) e pos) X.env v = (do
      let ov ← holding [v] (eval (.Name x pn) X.env)
      let iv ← holding [v, ov] (eval e X.env)
      standAt pos
      holding [v, ov, iv] (setItem ov iv v)
      release [v, ov, iv] []) := by intro _; rfl) : GW X T [] (.Subscript (.Name x pn) e pos) (.d d) δ (δ.set j (s.put (.dk (putD kvs (iK k) d)))) := gw_putK C j (k := iK k) hj hw he hz hN hvi hdb hcd ha
end
end Sc
namespace Sc
open PySem L2 NdefX PySem.W
def mapE {α σ β : Type} (step : σ → α → β × σ) : List α → σ → List β × σ
  | [], s => ([], s)
  | x :: xs, s => ((step s x).1 :: (mapE step xs (step s x).2).1, (mapE step xs (step s x).2).2)
theorem mapE_len {α σ β : Type} (step : σ → α → β × σ) : ∀ (xs : List α) (s : σ), (mapE step xs s).1.length = xs.length
  | [], s => rfl
  | x :: xs, s => congrArg (· + 1) (mapE_len step xs (step s x).2)
theorem mapE_ok {α σ β : Type} {step : σ → α → β × σ} {I : σ → Prop} {J : β → Prop} (h : ∀ s x, I s → I (step s x).2 ∧ J (step s x).1) : ∀ (xs : List α) (s : σ), I s → I (mapE step xs s).2 ∧ ∀ y ∈ (mapE step xs s).1, J y
  | [], s, hs => ⟨hs, fun y hy => nomatch hy⟩
  | x :: xs, s, hs => by
    obtain ⟨h1, h2⟩ := h s x hs
    obtain ⟨h3, h4⟩ := mapE_ok h xs _ h1
    exact ⟨h3, fun y hy => (List.mem_cons.mp hy).elim (fun e => e ▸ h2) (h4 y)⟩
section
variable {X : Cx} {T : List NTab} {scope : Scope} {vs : List Nat} {tg elt : Expr}
/-- a comprehension whose item changes a state -/
theorem cf_fold {α σ β : Type} {en : α → PyData} {eb : β → PyData} {st : σ → List Sl} {step : σ → α → β × σ} (I : List α → σ → Prop)
    (h : ∀ x xs s, I (x :: xs) s → I xs (step s x).2 ∧ ∃ δ1 δ3, Bl X scope (fun X => GW X T vs tg (.d (en x)) (st s) δ1) ∧ Bl X scope (fun X => EV X T elt δ1 (.d (eb (step s x).1)) δ3) ∧ wipeD δ3 vs = st (step s x).2) :
    ∀ xs s, I xs s → CompF X T scope vs tg [] elt (xs.map en) (st s) ((mapE step xs s).1.map eb) (st (mapE step xs s).2)
  | [], s, _ => cf_nil
  | x :: xs, s, hI => by
    obtain ⟨h1, δ1, δ3, h2, h3, h4⟩ := h x xs s hI
    exact cf_yes h2 (fun _ _ _ _ _ => tvs_nil) h3 (by rw [h4]; exact cf_fold I h xs _ h1)
end
end Sc
namespace Sc
open PySem L2 NdefX
section
variable {X : Cx} {T : List NTab} {W : WX} {x y : Str} {k : Nat} {p pos py : Pos} {σ γ : Type} {en : σ → List PyData} {er : γ → PyData}
theorem ev_m0  {dom : σ → Prop} {f : σ → γ × σ} {δ0 : List Sl} {s0 : σ}  {sl sl0 : Sl} {w0 : Ow} {i : Nat} {δe : List Sl} (D : Def X.prog X.w X.K X.mg X.base T k x [] (Ld0 en er  dom f)) (hr : Room k X.A)  (hd : dom s0) (hs : δ0[i]? = some sl := by rfl) (hw : sl.ow = some (.lst (en s0)) := by rfl) (hi : δ0[i]? = some sl0 := by rfl) (hw0 : sl0.ow = some w0 := by rfl)
    (hN : X.N[i]? = some y := by rfl) (hv : Vis X.env.scope y := by first | exact Or.inl rfl | exact Or.inr (Or.inl rfl) | exact Or.inr (Or.inr rfl)) (hdy : (y == ("__debug__" : Str)) = false := by decide) (hcy : (y == ("__classdict__" : Str)) = false := by decide) (hg : Gl X x := by rfl) (hdb : (x == ("__debug__" : Str)) = false := by decide) (t0 : starEach [.Name y py] X.env = (false, eval (.Name y py) X.env) :: starEach [] X.env := by rfl)  (hset : δ0.set i (sl.put (.lst (en (f s0).2))) = δe := by rfl) (hpl : (backTo pos (starEach [] X.env)).any (·.1) = false := by rfl) :
    EV X T (.Call (.Name x p) [.Name y py] [] pos) δ0 (.d (er (f s0).1)) δe := by
  rw [← hset]
  exact ev_l0 D hr i hd hs hw hi hw0 hN hv hdy hcy hg hdb t0 hpl
theorem ev_m1 {α1 : Type} {e1 : α1 → PyData} {dom : σ → α1 → Prop} {f : σ → α1 → γ × σ} {a1 : Expr} {δ0 δ1 : List Sl} {s0 : σ} {x1 : α1} {sl sl0 : Sl} {w0 : Ow} {i : Nat} {δe : List Sl} (D : Def X.prog X.w X.K X.mg X.base T k x [] (Ld1 en er e1 dom f)) (hr : Room k X.A) (h1 : EV X T a1 δ0 (.d (e1 x1)) δ1) (hd : dom s0 x1) (hs : δ1[i]? = some sl := by rfl) (hw : sl.ow = some (.lst (en s0)) := by rfl) (hi : δ0[i]? = some sl0 := by rfl) (hw0 : sl0.ow = some w0 := by rfl)
    (hN : X.N[i]? = some y := by rfl) (hv : Vis X.env.scope y := by first | exact Or.inl rfl | exact Or.inr (Or.inl rfl) | exact Or.inr (Or.inr rfl)) (hdy : (y == ("__debug__" : Str)) = false := by decide) (hcy : (y == ("__classdict__" : Str)) = false := by decide) (hg : Gl X x := by rfl) (hdb : (x == ("__debug__" : Str)) = false := by decide) (t0 : starEach [.Name y py, a1] X.env = (false, eval (.Name y py) X.env) :: starEach [a1] X.env := by rfl) (t1 : starEach [a1] X.env = (false, eval a1 X.env) :: starEach [] X.env := by rfl) (hset : δ1.set i (sl.put (.lst (en (f s0 x1).2))) = δe := by rfl) (hpl : (backTo pos (starEach [a1] X.env)).any (·.1) = false := by rfl) :
    EV X T (.Call (.Name x p) [.Name y py, a1] [] pos) δ0 (.d (er (f s0 x1).1)) δe := by
  rw [← hset]
  exact ev_l1 D hr i h1 hd hs hw hi hw0 hN hv hdy hcy hg hdb t0 t1 hpl
theorem ev_m2 {α1 α2 : Type} {e1 : α1 → PyData} {e2 : α2 → PyData} {dom : σ → α1 → α2 → Prop} {f : σ → α1 → α2 → γ × σ} {a1 a2 : Expr} {δ0 δ1 δ2 : List Sl} {s0 : σ} {x1 : α1} {x2 : α2} {sl sl0 : Sl} {w0 : Ow} {i : Nat} {δe : List Sl} (D : Def X.prog X.w X.K X.mg X.base T k x [] (Ld2 en er e1 e2 dom f)) (hr : Room k X.A) (h1 : EV X T a1 δ0 (.d (e1 x1)) δ1) (h2 : EV X T a2 δ1 (.d (e2 x2)) δ2) (hd : dom s0 x1 x2) (hs : δ2[i]? = some sl := by rfl) (hw : sl.ow = some (.lst (en s0)) := by rfl) (hi : δ0[i]? = some sl0 := by rfl) (hw0 : sl0.ow = some w0 := by rfl)
    (hN : X.N[i]? = some y := by rfl) (hv : Vis X.env.scope y := by first | exact Or.inl rfl | exact Or.inr (Or.inl rfl) | exact Or.inr (Or.inr rfl)) (hdy : (y == ("__debug__" : Str)) = false := by decide) (hcy : (y == ("__classdict__" : Str)) = false := by decide) (hg : Gl X x := by rfl) (hdb : (x == ("__debug__" : Str)) = false := by decide) (t0 : starEach [.Name y py, a1, a2] X.env = (false, eval (.Name y py) X.env) :: starEach [a1, a2] X.env := by rfl) (t1 : starEach [a1, a2] X.env = (false, eval a1 X.env) :: starEach [a2] X.env := by rfl) (t2 : starEach [a2] X.env = (false, eval a2 X.env) :: starEach [] X.env := by rfl) (hset : δ2.set i (sl.put (.lst (en (f s0 x1 x2).2))) = δe := by rfl) (hpl : (backTo pos (starEach [a1, a2] X.env)).any (·.1) = false := by rfl) :
    EV X T (.Call (.Name x p) [.Name y py, a1, a2] [] pos) δ0 (.d (er (f s0 x1 x2).1)) δe := by
  rw [← hset]
  exact ev_l2 D hr i h1 h2 hd hs hw hi hw0 hN hv hdy hcy hg hdb t0 t1 t2 hpl
theorem ev_m3 {α1 α2 α3 : Type} {e1 : α1 → PyData} {e2 : α2 → PyData} {e3 : α3 → PyData} {dom : σ → α1 → α2 → α3 → Prop} {f : σ → α1 → α2 → α3 → γ × σ} {a1 a2 a3 : Expr} {δ0 δ1 δ2 δ3 : List Sl} {s0 : σ} {x1 : α1} {x2 : α2} {x3 : α3} {sl sl0 : Sl} {w0 : Ow} {i : Nat} {δe : List Sl} (D : Def X.prog X.w X.K X.mg X.base T k x [] (Ld3 en er e1 e2 e3 dom f)) (hr : Room k X.A) (h1 : EV X T a1 δ0 (.d (e1 x1)) δ1) (h2 : EV X T a2 δ1 (.d (e2 x2)) δ2) (h3 : EV X T a3 δ2 (.d (e3 x3)) δ3) (hd : dom s0 x1 x2 x3) (hs : δ3[i]? = some sl := by rfl) (hw : sl.ow = some (.lst (en s0)) := by rfl) (hi : δ0[i]? = some sl0 := by rfl) (hw0 : sl0.ow = some w0 := by rfl)
    (hN : X.N[i]? = some y := by rfl) (hv : Vis X.env.scope y := by first | exact Or.inl rfl | exact Or.inr (Or.inl rfl) | exact Or.inr (Or.inr rfl)) (hdy : (y == ("__debug__" : Str)) = false := by decide) (hcy : (y == ("__classdict__" : Str)) = false := by decide) (hg : Gl X x := by rfl) (hdb : (x == ("__debug__" : Str)) = false := by decide) (t0 : starEach [.Name y py, a1, a2, a3] X.env = (false, eval (.Name y py) X.env) :: starEach [a1, a2, a3] X.env := by rfl) (t1 : starEach [a1, a2, a3] X.env = (false, eval a1 X.env) :: starEach [a2, a3] X.env := by rfl) (t2 : starEach [a2, a3] X.env = (false, eval a2 X.env) :: starEach [a3] X.env := by rfl) (t3 : starEach [a3] X.env = (false, eval a3 X.env) :: starEach [] X.env := by rfl) (hset : δ3.set i (sl.put (.lst (en (f s0 x1 x2 x3).2))) = δe := by rfl) (hpl : (backTo pos (starEach [a1, a2, a3] X.env)).any (·.1) = false := by rfl) :
    EV X T (.Call (.Name x p) [.Name y py, a1, a2, a3] [] pos) δ0 (.d (er (f s0 x1 x2 x3).1)) δe := by
  rw [← hset]
  exact ev_l3 D hr i h1 h2 h3 hd hs hw hi hw0 hN hv hdy hcy hg hdb t0 t1 t2 t3 hpl
theorem ev_m4 {α1 α2 α3 α4 : Type} {e1 : α1 → PyData} {e2 : α2 → PyData} {e3 : α3 → PyData} {e4 : α4 → PyData} {dom : σ → α1 → α2 → α3 → α4 → Prop} {f : σ → α1 → α2 → α3 → α4 → γ × σ} {a1 a2 a3 a4 : Expr} {δ0 δ1 δ2 δ3 δ4 : List Sl} {s0 : σ} {x1 : α1} {x2 : α2} {x3 : α3} {x4 : α4} {sl sl0 : Sl} {w0 : Ow} {i : Nat} {δe : List Sl} (D : Def X.prog X.w X.K X.mg X.base T k x [] (Ld4 en er e1 e2 e3 e4 dom f)) (hr : Room k X.A) (h1 : EV X T a1 δ0 (.d (e1 x1)) δ1) (h2 : EV X T a2 δ1 (.d (e2 x2)) δ2) (h3 : EV X T a3 δ2 (.d (e3 x3)) δ3) (h4 : EV X T a4 δ3 (.d (e4 x4)) δ4) (hd : dom s0 x1 x2 x3 x4) (hs : δ4[i]? = some sl := by rfl) (hw : sl.ow = some (.lst (en s0)) := by rfl) (hi : δ0[i]? = some sl0 := by rfl) (hw0 : sl0.ow = some w0 := by rfl)
    (hN : X.N[i]? = some y := by rfl) (hv : Vis X.env.scope y := by first | exact Or.inl rfl | exact Or.inr (Or.inl rfl) | exact Or.inr (Or.inr rfl)) (hdy : (y == ("__debug__" : Str)) = false := by decide) (hcy : (y == ("__classdict__" : Str)) = false := by decide) (hg : Gl X x := by rfl) (hdb : (x == ("__debug__" : Str)) = false := by decide) (t0 : starEach [.Name y py, a1, a2, a3, a4] X.env = (false, eval (.Name y py) X.env) :: starEach [a1, a2, a3, a4] X.env := by rfl) (t1 : starEach [a1, a2, a3, a4] X.env = (false, eval a1 X.env) :: starEach [a2, a3, a4] X.env := by rfl) (t2 : starEach [a2, a3, a4] X.env = (false, eval a2 X.env) :: starEach [a3, a4] X.env := by rfl) (t3 : starEach [a3, a4] X.env = (false, eval a3 X.env) :: starEach [a4] X.env := by rfl) (t4 : starEach [a4] X.env = (false, eval a4 X.env) :: starEach [] X.env := by rfl) (hset : δ4.set i (sl.put (.lst (en (f s0 x1 x2 x3 x4).2))) = δe := by rfl) (hpl : (backTo pos (starEach [a1, a2, a3, a4] X.env)).any (·.1) = false := by rfl) :
    EV X T (.Call (.Name x p) [.Name y py, a1, a2, a3, a4] [] pos) δ0 (.d (er (f s0 x1 x2 x3 x4).1)) δe := by
  rw [← hset]
  exact ev_l4 D hr i h1 h2 h3 h4 hd hs hw hi hw0 hN hv hdy hcy hg hdb t0 t1 t2 t3 t4 hpl
end
end Sc
namespace Sc
open PySem L2 NdefX PySem.W
/-! #### own exception classes, raised without arguments -/
/-- where the class x stands -/
def clsA (mg : Str → Option Value) (x : Str) : Addr := match mg x with
  | some (.ref a) => a
  | _ => 0
theorem clsA_of {mg : Str → Option Value} {x : Str} {a : Addr} (h : mg x = some (.ref a)) : clsA mg x = a := by
  unfold clsA
  rw [h]
abbrev bmV : List Value := [.type "ValueError", .type "Exception", .type "BaseException", .type "object"]
/-- x is an exception class of the program, over ValueError, that has no __init__ of its own -/
structure ExcC (K : PySem.W.Frag) (mg : Str → Option Value) (x : Str) : Prop where
  at_ : mg x = some (.ref (clsA mg x))
  exc : excIn K (clsA mg x) bmV "ValueError.__new__" = true
  keep : keepIn K (.ref (clsA mg x)) = true
  sub : subIn K (.ref (clsA mg x)) (.type "BaseException") = some true
  typ : typeIn K (.ref (clsA mg x)) = some (.type "type")
theorem excC_mk {K : PySem.W.Frag} {mg : Str → Option Value} {x : Str} {C : Addr} (h1 : mg x = some (.ref C)) (h2 : excIn K C bmV "ValueError.__new__" = true) (h3 : keepIn K (.ref C) = true) (h4 : subIn K (.ref C) (.type "BaseException") = some true) (h5 : typeIn K (.ref C) = some (.type "type")) : ExcC K mg x := by
  have e := clsA_of h1
  exact ⟨by rw [e]; exact h1, by rw [e]; exact h2, by rw [e]; exact h3, by rw [e]; exact h4, by rw [e]; exact h5⟩
/-- whether a class x is caught by a clause y -/
def Exm (K : PySem.W.Frag) (mg : Str → Option Value) (x y : Str) (b : Bool) : Prop := exmOne K (.ref (clsA mg x)) (.ref (clsA mg y)) = some b
theorem exm_mk {K : PySem.W.Frag} {mg : Str → Option Value} {x y : Str} {C D : Addr} {b : Bool} (h1 : mg x = some (.ref C)) (h2 : mg y = some (.ref D)) (h : exmOne K (.ref C) (.ref D) = some b) : Exm K mg x y b := by
  unfold Exm
  rw [clsA_of h1, clsA_of h2]
  exact h
section
variable {X : Cx} {T : List NTab} {W : WX} {δ : List Sl} {x : Str} {p pos pos' : Pos}
theorem pmk_own0 {C : Addr} {bmB : List Value} {B newId initId : String} (F : ExcBaseFacts B newId initId bmB) (q : excIn X.K C bmB newId = true) (gC : X.mg x = some (.ref C)) (kC : keepIn X.K (.ref C) = true) (r : Raises X (.ref C)) (hg : Gl X x)
    (hdb : (x == ("__debug__" : Str)) = false) : PMk X (.Call (.Name x p) [] [] pos) (fun _ H Q => Q (.ref C) none H) := by
  intro pins s σ H Q I h
  refine wpAny_Call_Name_kw (ld_glob I hg gC ?_ hdb)
  refine PySem.W.callWith_K0 I.kIn kC ?_
  show wpAny _ _ (call (.ref C) []) _ _ _
  obtain ⟨bm, N, nm, qn, bs, hdct, sn, sub, ab, col, dd, k0, k1, k2, k3, k5, mN, hC, hN, hni, T⟩ := exc_obj I.kIn q
  refine wpAny_call_exc_subT F T hC hN hni (fun h' e hm => ?_) (by show 0 ≤ sizeLine; omega)
  exact mk_of I hm r h (I.hok.gone hm.new)
/-- raise x() -/
theorem sv_raise0 (hc : X.calm = true) (tk : Takes X W) (C : ExcC X.K X.mg x) (hg : Gl X x := by rfl) (hdb : (x == ("__debug__" : Str)) = false := by decide) : SV X T W (.Raise (some (.Call (.Name x p) [] [] pos)) none pos') δ (.ex ⟨clsA X.mg x, []⟩ δ) := fun σ H S D E k =>
  ws_of (ps_raise hc tk (pmk_own0 PySem.F.excBase_ValueError C.exc C.at_ C.keep (raises_own C.sub C.typ) hg hdb)) (k _ _ σ H S (Go.refl _ _ _) E (Pin.refl _ _) ⟨rfl, .inl ⟨rfl, rfl⟩⟩)
end
end Sc
namespace Sc
open PySem L2 NdefX PySem.W LamX
/-! #### lambdas as values -/
/-- a lambda's words: its default is a whole number, in a tuple at dt -/
structure LW where
  qual : Str
  params : Arguments
  body : Expr
  scope : Scope
  cl : List (Str × Addr)
  c : Addr
  dt : Option Addr
def dtV : Option Addr → Value
  | some t => .ref t
  | none => .none
def LW.dV (L : LW) : Value := dtV L.dt
def LW.fd (L : LW) (doc pm ctv : Value) : FuncData := kdv_fn "<lambda>" L.qual L.params (.expr L.body) L.scope L.cl L.dV doc pm (.ref L.c) ctv
/-- the object at f is the lambda L -/
def LamO (f : Addr) (L : LW) : HO := .ext fun h => ∃ (od : Option Addr) (sl : Array (Option Value)) (doc pm ctv : Value), h.get? f = some (⟨.type "function", od, .func (L.fd doc pm ctv), sl⟩ : Obj)
/-- the object at t is the tuple (n,) -/
def TupO (t : Addr) (n : Int) : HO := .ext fun h => ∃ k : Tok, h.get? t = some (kdv_tup [.int n k])
structure LamAt (H : Hp) (f : Addr) (L : LW) (dv : Option Int) : Prop where
  fn : H f = some (LamO f L)
  code : H L.c = some (CodeO L.c L.qual)
  dflt : match dv with
    | none => L.dt = none
    | some n => ∃ t, L.dt = some t ∧ H t = some (TupO t n)
theorem lamO_ne {f : Addr} {L : LW} (ps : Array Value) : LamO f L ≠ .tbl ps := fun z => by unfold LamO at z; cases z
theorem tupO_ne {t : Addr} {n : Int} (ps : Array Value) : TupO t n ≠ .tbl ps := fun z => by unfold TupO at z; cases z
theorem LamAt.ext {H H' : Hp} {f : Addr} {L : LW} {dv : Option Int} (a : LamAt H f L dv) (x : ExtN H H') : LamAt H' f L dv := by
  obtain ⟨a1, a2, a3⟩ := a
  refine ⟨x _ _ a1 lamO_ne, x _ _ a2 codeO_ne, ?_⟩
  cases dv with
  | none => exact a3
  | some n =>
    obtain ⟨t, h1, h2⟩ := a3
    exact ⟨t, h1, x _ _ h2 tupO_ne⟩
theorem LamAt.same {H H' : Hp} {f : Addr} {L : LW} {dv : Option Int} (a : LamAt H f L dv) (x : Same H H') : LamAt H' f L dv := by
  obtain ⟨a1, a2, a3⟩ := a
  refine ⟨x _ _ a1, x _ _ a2, ?_⟩
  cases dv with
  | none => exact a3
  | some n =>
    obtain ⟨t, h1, h2⟩ := a3
    exact ⟨t, h1, x _ _ h2⟩
section
variable {X : Cx} {pins : List (Addr × Obj)} {σ : L2.St} {H : Hp} {s : Shared}
theorem inv_lam {L : LW} {o : Obj} {t' : Nat} {doc pm ctv : Value} (I : Inv X pins σ H s) (ho : o = { cls := .type "function", data := .func (L.fd doc pm ctv) }) :
    Inv X pins σ (upd H s.heap.objs.size (LamO s.heap.objs.size L)) { s with heap := s.heap.push o, toks := t' } := by
  subst ho
  refine I.laid (fun b u e => Heap.get?_push_of_some _ e) (Nat.le_refl _) ?_
  have e : (s.heap.push ({ cls := .type "function", data := .func (L.fd doc pm ctv) } : Obj)).get? s.heap.objs.size = some ({ cls := .type "function", data := .func (L.fd doc pm ctv) } : Obj) := Heap.get?_push_size _ rfl
  exact ⟨⟨_, _, doc, pm, ctv, e⟩, ⟨_, e⟩, fun h1 h2 ⟨od, sl, d, p, t, z⟩ st => ⟨od, sl, d, p, t, st _ z⟩⟩
theorem inv_tup1 {n : Int} {k : Tok} {t' : Nat} (I : Inv X pins σ H s) :
    Inv X pins σ (upd H s.heap.objs.size (TupO s.heap.objs.size n)) { s with heap := s.heap.push (kdv_tup [.int n k]), toks := t' } := by
  refine I.laid (fun b u e => Heap.get?_push_of_some _ e) (Nat.le_refl _) ?_
  have e : (s.heap.push (kdv_tup [.int n k])).get? s.heap.objs.size = some (kdv_tup [.int n k]) := Heap.get?_push_size _ rfl
  exact ⟨⟨k, e⟩, ⟨_, e⟩, fun h1 h2 ⟨k, z⟩ st => ⟨k, st _ z⟩⟩
/-- the function object is made -/
theorem lam_tail {T : List (Addr × Str)} {c P : Addr} {params : Arguments} {body : Expr} {scope : Scope} {pos : Pos} {dt : Option Addr} {E : Value → Shared → Prop} {Q : Value → Shared → Prop} (I : Inv X pins σ H s) (TB : TabB X.base X.mg c P) (hcode : X.env.code = .ref c)
    (hm : (P, X.env.qual ++ "<lambda>") ∈ T) (hu : ∀ p ∈ T, p.1 = P → p.2 = X.env.qual ++ "<lambda>") (hT : Tabs T H) (hfree : ∀ y ∈ scope.names, y.2 = .free → ∃ c, X.env.cells.lookup y.1 = some c)
    (h : ∀ (f c' : Addr) (H1 : Hp) (s' : Shared), Inv X pins σ H1 s' → ExtN H H1 → (∀ b, H1 b = Option.none → H b = Option.none) → Tabs T H1 → H f = none → H1 f = some (LamO f ⟨X.env.qual ++ "<lambda>", params, body, scope, cloFrom X.env.cells scope.names [], c', dt⟩) → H1 c' = some (CodeO c' (X.env.qual ++ "<lambda>")) → Q (.ref f) s') :
    wpAny (model X.prog X.w) X.A (makeTail "<lambda>" (X.env.qual ++ "<lambda>") params (.expr body) scope X.env (dtV dt) .none none pos pos.line) Q E s := by
  obtain ⟨ps, hP, ht, ha⟩ := hT _ hm
  have bP : s.heap.BuiltinsAt X.mg P := TB.bm.keeps I.bk
  have hP' : s.heap.get? P = some { cls := .none, data := .fields ps } := I.hok P _ hP
  cases hc : codeAmong pos ps.toList with
  | none =>
    refine kdv_makeTail (mg := X.mg) (c := c) (P := P) (ps := ps) (closure_ok hfree) I.ok.glob (I.mod.glob.keeps I.bk) hcode (TB.code.keeps I.bk) hP' ht hc TB.gP bP fun c' ctv doc h' tk hx hge hlt hrec htb => ?_
    obtain ⟨c2, oc, vs, t, e2, hoc, hd, hv⟩ := hrec
    cases e2
    have nC : H c' = none := I.hok.fresh hge
    have I1 := inv_table (t' := tk) (more := #[rawInt pos.line, rawInt pos.col, .ref c']) (h' := h') I hP (fun b o hb e => hx b o hb e) htb hge ⟨oc, vs, t, hoc, hd, hv⟩
    have hE : ExtN H (upd (upd H P (.tbl (ps ++ #[rawInt pos.line, rawInt pos.col, .ref c']))) c' (CodeO c' (X.env.qual ++ "<lambda>"))) := fun b o e n => by
      rw [upd_ne (ne_of_none e nC), upd_ne (fun z => n ps (Option.some.inj (e.symm.trans (by rw [z]; exact hP))))]
      exact e
    have eL : (ps ++ #[rawInt pos.line, rawInt pos.col, .ref c']).toList = ps.toList ++ [rawInt pos.line, rawInt pos.col, .ref c'] := by simp
    have T1 : Tabs T (upd (upd H P (.tbl (ps ++ #[rawInt pos.line, rawInt pos.col, .ref c']))) c' (CodeO c' (X.env.qual ++ "<lambda>"))) := fun p hp => by
      by_cases hb : p.1 = P
      · rw [hu p hp hb, hb]
        refine ⟨_, by rw [upd_ne (ne_of_none hP nC), upd_same], by rw [eL]; exact PySem.TriplesOk_snoc _ _ _ _ ht, fun p' cv hcv => ?_⟩
        rw [eL] at hcv
        rcases among_app _ ht hcv with z | z
        · obtain ⟨c0, e1, e2⟩ := ha p' cv z
          exact ⟨c0, e1, hE _ _ e2 codeO_ne⟩
        · exact ⟨c', z, upd_same⟩
      · obtain ⟨ps', a1, a2, a3⟩ := hT p hp
        refine ⟨ps', by rw [upd_ne (ne_of_none a1 nC), upd_ne hb]; exact a1, a2, fun p' cv hcv => ?_⟩
        obtain ⟨c0, e1, e2⟩ := a3 p' cv hcv
        exact ⟨c0, e1, hE _ _ e2 codeO_ne⟩
    have nF := I1.hok.fresh (Nat.le_refl _)
    have I2 := inv_lam (L := ⟨X.env.qual ++ "<lambda>", params, body, scope, cloFrom X.env.cells scope.names [], c', dt⟩) (t' := tk) (doc := doc) (pm := (X.mg "__name__").getD .none) (ctv := ctv) I1 rfl
    refine h h'.objs.size c' _ _ I2 (fun b o e n => ?_) (fun b e => upd_none (upd_none (upd_none e))) (fun p hp => (T1 p hp).ext fun b o e => ?_) (I.hok.fresh (Nat.le_trans hge (Nat.le_of_lt hlt))) upd_same ?_
    · have e1 := hE b o e n
      exact (upd_ne (ne_of_none e1 nF)).trans e1
    · exact (upd_ne (ne_of_none e nF)).trans e
    · exact (upd_ne (Nat.ne_of_lt hlt)).trans upd_same
  | some cv =>
    obtain ⟨c', e, hco⟩ := ha pos cv hc
    subst e
    refine kdv_makeTailHit (mg := X.mg) (c := c) (P := P) (ps := ps) (closure_ok hfree) I.ok.glob (I.mod.glob.keeps I.bk) hcode (TB.code.keeps I.bk) hP' ht hc bP fun ctv doc h' tk hx hsz => ?_
    have I1 : Inv X pins σ H { s with heap := h', toks := tk } := I.kept hx
    have nF : H h'.objs.size = none := I1.hok.fresh (Nat.le_refl _)
    have I2 := inv_lam (L := ⟨X.env.qual ++ "<lambda>", params, body, scope, cloFrom X.env.cells scope.names [], c', dt⟩) (t' := tk) (doc := doc) (pm := (X.mg "__name__").getD .none) (ctv := ctv) I1 rfl
    refine h h'.objs.size c' _ _ I2 (fun b o e n => ?_) (fun b e => upd_none e) (fun p hp => (hT p hp).ext fun b o e => ?_) nF upd_same ?_
    · exact (upd_ne (ne_of_none e nF)).trans e
    · exact (upd_ne (ne_of_none e nF)).trans e
    · exact (upd_ne (ne_of_none hco nF)).trans hco
end
/-- what a lambda's making leaves -/
def tLamV (T : List (Addr × Str)) (q : Str) (params : Arguments) (body : Expr) (scope : Scope) (cl : List (Str × Addr)) (dv : Option Int) : TE := fun _ H Q => Tabs T H ∧ ∀ (f c' : Addr) (dt : Option Addr) (H1 : Hp), ExtN H H1 → (∀ b, H1 b = Option.none → H b = Option.none) → Tabs T H1 → H f = none → LamAt H1 f ⟨q, params, body, scope, cl, c', dt⟩ dv → Q (.ref f) H1
section
variable {X : Cx} {T : List (Addr × Str)} {c P : Addr} {params : Arguments} {body : Expr} {scope : Scope} {lpos dp : Pos} {n : Int} {j : Nat}
theorem pe_lam0 (TB : TabB X.base X.mg c P) (hcode : X.env.code = .ref c) (hm : (P, X.env.qual ++ "<lambda>") ∈ T) (hu : ∀ p ∈ T, p.1 = P → p.2 = X.env.qual ++ "<lambda>") (hfree : X.Ok → ∀ y ∈ scope.names, y.2 = .free → ∃ c, X.env.cells.lookup y.1 = some c)
    (hd : params.defaults = []) (hk : params.kw_defaults = []) : PE X (.Lambda params body scope lpos) (tLamV T (X.env.qual ++ "<lambda>") params body scope (cloFrom X.env.cells scope.names []) none) := by
  refine ⟨fun pins s σ H Q I ⟨hT, h⟩ => ?_⟩
  have hdef : defaultsOf params X.env = ([], []) := by rw [defaultsOf_eq, hd, hk]; rfl
  refine kla_eval hdef ?_
  rw [makeFunction_eq]
  simp only [List.zip_nil_right, List.filterMap_nil, List.isEmpty_nil, if_true, pure_bind]
  exact lam_tail (dt := Option.none) I TB hcode hm hu hT (hfree I.ok) fun f c' H1 s' I1 e nn T1 f0 f1 c1 => ⟨.ref f, H1, I1, rfl, h f c' none H1 e nn T1 f0 ⟨f1, c1, rfl⟩⟩
theorem pe_lam1 (TB : TabB X.base X.mg c P) (hcode : X.env.code = .ref c) (hm : (P, X.env.qual ++ "<lambda>") ∈ T) (hu : ∀ p ∈ T, p.1 = P → p.2 = X.env.qual ++ "<lambda>") (hfree : X.Ok → ∀ y ∈ scope.names, y.2 = .free → ∃ c, X.env.cells.lookup y.1 = some c)
    (hd : params.defaults = [.Constant (.int n) j dp]) (hk : params.kw_defaults = []) : PE X (.Lambda params body scope lpos) (tLamV T (X.env.qual ++ "<lambda>") params body scope (cloFrom X.env.cells scope.names []) (some n)) := by
  refine ⟨fun pins s σ H Q I ⟨hT, h⟩ => ?_⟩
  refine kdv_lam (by rw [hd]; rfl) hk ?_
  rw [hd]
  refine kdv_all1 (thn (pe_int.run pins s σ H (fun v H1 => v = .int n ∧ H1 = H) I ⟨rfl, rfl⟩) fun u s1 ⟨v, H1, I1, r1, e1, e2⟩ => kdv_all0 ?_)
  subst e1
  rw [e2] at I1
  obtain ⟨k, rfl⟩ : ∃ k, u = Value.int n k := r1
  rw [makeFunction_eq]
  simp only [List.zip_nil_right, List.filterMap_nil, List.isEmpty_nil, if_true, pure_bind, List.isEmpty_cons, Bool.false_eq_true, if_false]
  refine wpAny_bind (wpAny_newTextTuple ?_)
  have I2 := inv_tup1 (n := n) (k := k) (t' := s1.toks) I1
  have nT : H s1.heap.objs.size = none := I1.hok.fresh (Nat.le_refl _)
  refine lam_tail (dt := some s1.heap.objs.size) I2 TB hcode hm hu (fun p hp => (hT p hp).ext fun b o e => (upd_ne (ne_of_none e nT)).trans e) (hfree I.ok) fun f c' H1 s' I1 e nn T1 f0 f1 c1 => ⟨.ref f, H1, I1, rfl, h f c' _ H1 (fun b o q nq => e b o ((upd_ne (ne_of_none q nT)).trans q) nq) (fun b q => upd_none (nn b q)) T1 (upd_none f0) ⟨f1, c1, _, rfl, e _ _ upd_same tupO_ne⟩⟩
end
end Sc
namespace Sc
open PySem L2 NdefX PySem.W LamX
/-! #### lambdas called -/
def LW.nf (L : LW) : NF := ⟨"<lambda>", L.qual, L.params, [], L.scope, L.cl, L.c⟩
def dvV : Option Int → List V
  | none => []
  | some n => [.int n]
/-- how the default goes to its parameter -/
def Bnd (L : LW) (dv : Option Int) (ps : List Str) : Prop := match dv with
  | none => ps = [] ∧ ∀ doc pm ctv : Value, L.dt = none → bindArgs (L.fd doc pm ctv) ⟨[], []⟩ = pure []
  | some n => ∃ a, ps = [a] ∧ ∀ (doc pm ctv : Value) (t : Addr), L.dt = some t → ∃ k, bindArgs (L.fd doc pm ctv) ⟨[], []⟩ = seqItems? (L.fd doc pm ctv).defaults >>= k ∧ ∀ tok : Tok, k (some #[.int n tok]) = pure [(a, .int n tok)]
/-- the promise of the lambda L at f; ws: what the captured names hold at the call -/
structure LamOk (P : Program) (w : World) (K : PySem.W.Frag) (mg : Str → Option Value) (base : Heap) (CX : CXT) (k : Nat) (f : Addr) (L : LW) (dv : Option Int) (fr : List Str) (sp : List (Option V) → Hp → VK → XK → Prop) : Prop where
  run : ∀ (A : Around) (outer : List PySem.Env) (s : Shared) (H : Hp) (ws : List (Option V)) (Q : VK) (E : XK), Room k A → Env0 P w K mg base A outer s H → LamAt H f L dv → CellsAt L.cl fr ws s.heap H → sp ws H Q E →
    codeAny (model P w) A (.call (.ref f) ⟨[], []⟩) (CR CX outer P w H s Q E) s
section
variable {CX : CXT} {P : Program} {w : World} {K : PySem.W.Frag} {mg : Str → Option Value} {base : Heap} {N ps fr : List Str} {L : LW} {f : Addr} {k j : Nat} {dv : Option Int} {sp : List (Option V) → Hp → VK → XK → Prop}
theorem bnd_to {s : Shared} {H : Hp} {doc pm ctv : Value} (hb : Bnd L dv ps) (hok : HOk P w H s.heap) (a : LamAt H f L dv) : ∃ us : List Value, BindsTo s (L.fd doc pm ctv) ⟨[], []⟩ (ps.zip us) ∧ Vals (dvV dv) us ∧ (dvV dv).length = ps.length := by
  obtain ⟨_, _, a3⟩ := a
  cases dv with
  | none =>
    obtain ⟨rfl, h⟩ := hb
    exact ⟨[], BindsTo.of_eq (h doc pm ctv a3), .nil, rfl⟩
  | some n =>
    obtain ⟨x, rfl, h⟩ := hb
    obtain ⟨t, h1, h2⟩ := a3
    obtain ⟨⟨tok, ht⟩, _, _⟩ := hok t _ h2
    obtain ⟨k, e1, e2⟩ := h doc pm ctv t h1
    refine ⟨[.int n tok], BindsTo.of_defaults (T := t) ?_ ht rfl e1 (e2 tok), .cons ⟨tok, rfl⟩ .nil, rfl⟩
    show L.dV = _
    unfold LW.dV
    rw [h1]
    rfl
theorem lamok_of (S : NScope N ps fr L.scope) (hb : Bnd L dv ps)
    (hbody : ∀ (A : Around) (outer : List PySem.Env) (s : Shared) (H : Hp) (ws : List (Option V)) (Q : VK) (E : XK), Room k (A.deeper (envF L.nf f s.heap.objs.size)) → ws.length = fr.length → sp ws H Q E →
      ∃ t, PE (ncx CX P w K mg base N L.nf f A outer s H E) L.body t ∧ t (startF N (dvV dv) ws) H Q) :
    LamOk P w K mg base CX (k + 1) f L dv fr sp := by
  refine ⟨fun A outer s H ws Q E hr e0 ha C hsp => ?_⟩
  have lim : s.heap.NoLimit := e0.mod.nolimit.keeps fun b o e => (e0.bs b o e).1
  obtain ⟨⟨od, sl, doc, pm, ctv, ho⟩, _, _⟩ := e0.hok f _ ha.fn
  obtain ⟨us, b1, b2, b3⟩ := bnd_to (doc := doc) (pm := pm) (ctv := ctv) hb e0.hok ha
  refine kla_callFunE hr.depth ho rfl S.co S.gen rfl (codeO_at e0.hok ha.code) (b1 _ _ _ _ ?_)
  refine wpAny_newFunctionEnv S.nocell (fun ⟨n, _⟩ hy => S.par n (List.of_mem_zip hy).1) (fun h₁ hns hsb => ⟨lim.fresh _ hsb, ?_⟩) S.kind
  show codeAny _ _ (.expr L.body (envF L.nf f s.heap.objs.size)) _ _
  have kp : ∀ b o, s.heap.get? b = some o → h₁.get? b = some o := fun b o e => hsb.extBut b o (Nat.ne_of_lt (Heap.lt_size e)) (Heap.get?_push_of_some _ e)
  obtain ⟨t, ht, hq⟩ := hbody A outer s H ws Q E (hr.deeper _) C.len hsp
  have I : Inv (ncx CX P w K mg base N L.nf f A outer s H E) [] (startF N (dvV dv) ws) H { s with heap := h₁, toks := s.toks + (ps.zip us).length } := inv_startN (F := L.nf) S hr.hd e0 b3 b2 C hns kp
  refine kla_codeExpr (wpAny_mono (ht.run [] _ (startF N (dvV dv) ws) H Q I hq) (fun u s' hs => ?_) fun e s' hs => hs)
  obtain ⟨v, H', J, rv, q⟩ := hs
  exact ⟨v, H', J.os, J.bare, J.base, J.hok, rv, q⟩
theorem LamOk.mono {i : Nat} (o : LamOk P w K mg base CX i f L dv fr sp) (h : i ≤ k) : LamOk P w K mg base CX k f L dv fr sp := ⟨fun A outer s H ws Q E hr => o.run A outer s H ws Q E (hr.mono h)⟩
end
/-! #### what cells held they hold -/
theorem cells_un {cl : List (Str × Addr)} {fr : List Str} {ws : List (Option V)} {h h' : Heap} {H H' : Hp} {fs : List Addr} (C : CellsAt cl fr ws h H) (u : Un fs [] H H' h h') : CellsAt cl fr ws h' H' := by
  have kp : ∀ y c, cl.lookup y = some c → ∀ v, h.IsCell c v → h'.IsCell c v := fun y c e v ⟨o, ho, hd⟩ => by
    obtain ⟨sl, q⟩ := u.any ho (C.all y c e).1 (by simp)
    exact ⟨_, q, hd⟩
  refine ⟨C.len, fun y c e => ?_, C.inj, fun i y e => ?_⟩
  · obtain ⟨n, v, z⟩ := C.all y c e
    refine ⟨?_, v, kp y c e v z⟩
    obtain ⟨o, ho, _⟩ := z
    exact u.free c o ho n (by simp)
  · obtain ⟨c, hc, hv⟩ := C.has i y e
    refine ⟨c, hc, fun v ev => ?_⟩
    obtain ⟨x, r, z⟩ := hv v ev
    exact ⟨x, r, kp y c hc _ z⟩
/-! #### the def that tells an error's name -/
inductive ErrHds (sc : Scope) (mg : Str → Option Value) : List ExceptHandler → List (Str × Str) → Prop
  | nil : ErrHds sc mg [] []
  | cons {y z : Str} {np p1 p2 pos : Pos} {j : Nat} {hds : List ExceptHandler} {cs : List (Str × Str)} (hg : sc.names.lookup y = some .globalImplicit) (hd : (y == ("__debug__" : Str)) = false) (hm : mg y = some (.ref (clsA mg y))) (r : ErrHds sc mg hds cs) :
      ErrHds sc mg (.ExceptHandler (some (.Name y np)) none [.Return (some (.Constant (.str z) j p1)) p2] pos :: hds) ((y, z) :: cs)
/-- the first clause that takes x tells z -/
inductive ErrIs (K : PySem.W.Frag) (mg : Str → Option Value) (x : Str) : List (Str × Str) → Str → Prop
  | here {y z : Str} {cs : List (Str × Str)} : Exm K mg x y true → ErrIs K mg x ((y, z) :: cs) z
  | next {y z z' : Str} {cs : List (Str × Str)} : Exm K mg x y false → ErrIs K mg x cs z → ErrIs K mg x ((y, z') :: cs) z
def clsL (mg : Str → Option Value) (cs : List (Str × Str)) : List (Value × (Addr → Value → Option Addr → TS)) := cs.map fun p => (.ref (clsA mg p.1), fun _ _ _ => tRet (tC (.str p.2)))
theorem err_many {K : PySem.W.Frag} {mg : Str → Option Value} {x z : Str} {Wout : WX} {D : Ends} {d : Option Addr} {σ : L2.St} {H : Hp} : ∀ {cs : List (Str × Str)}, ErrIs K mg x cs z → D.rt (.str z) H → wMany K Wout D (clsL mg cs) (.ref (clsA mg x)) d σ H
  | _, .here e, h => ⟨true, e, fun _ _ _ => h, fun q => nomatch q⟩
  | _, .next e r, h => ⟨false, e, fun q => (nomatch q), fun _ => err_many r h⟩
theorem err_hds {X : Cx} {hds : List ExceptHandler} {cs : List (Str × Str)} (h : ErrHds X.env.scope X.mg hds cs) : HdsOk X hds (clsL X.mg cs) := by
  induction h with
  | nil => exact .nil
  | @cons y z np p1 p2 pos j hds cs hg hd hm r ih => exact .cons ⟨hg, hd, .inl hm⟩ (fun a oe cls d pn _ _ => pss_one (ps_ret pe_str)) ih
/-- x is the def that calls what it gets and tells the error's name by cs -/
structure ErrF (K : PySem.W.Frag) (mg : Str → Option Value) (x : Str) (cs : List (Str × Str)) : Prop where
  ex : ∃ (st : Stmt) (N : List Str) (a : Str) (h₀ : ExceptHandler) (hds : List ExceptHandler) (p1 p2 p3 p4 p5 p6 : Pos) (j : Nat), Txt K mg x st [] ∧ FnScope N [a] (defScope st) ∧ N[0]? = some a ∧ Vis (defScope st) a ∧ (a == ("__debug__" : Str)) = false ∧ (a == ("__classdict__" : Str)) = false ∧
    defBody st = [.Try [.Expr (.Call (.Name a p1) [] [] p2) p3] (h₀ :: hds) [] [] p4, .Return (some (.Constant (.str "") j p5)) p6] ∧ ErrHds (defScope st) mg (h₀ :: hds) cs ∧ (∀ env : PySem.Env, swapsWith (.Call (.Name a p1) [] [] p2) none p3.line env = pure false) ∧
    ∀ (kV doc pm : Value) (an : Option Addr) (cdv ct : Value) (us : List Value), us.length = 1 → bindArgs (PySem.W.fnOf x x (defArgs st) (defBody st) (defScope st) .none kV doc pm an cdv ct) ⟨us, []⟩ = pure ([a].zip us)
end Sc
namespace Sc
open PySem L2 NdefX PySem.W LamX
abbrev NoP : Addr → Prop := fun _ => False
theorem owned_none {σ : L2.St} {δ : List Sl} (h : ∀ s ∈ δ, s.ow = none) : Owned σ δ = NoP := funext fun a => propext ⟨fun ⟨i, s, w, h1, h2, _⟩ => (by rw [h s (List.mem_of_getElem? h1)] at h2; cases h2), fun z => False.elim z⟩
/-- what a lambda does with the data that it captured: it raises, or hands back something -/
def LamSp (K : PySem.W.Frag) (T : List NTab) (N : List Str) (vs : List V) (δ : List Sl) (a : Option Exn) : List (Option V) → Hp → VK → XK → Prop := fun ws H Q E => ∃ S, Env K T H S (startF N vs ws) δ ∧ match a with
  | none => ∀ v H' S', Go H S NoP H' S' NoP → TabsN T H' → Q v H'
  | some x => ∀ cls d H' S', Go H S NoP H' S' NoP → TabsN T H' → IsEx K (vw H' S') H' x cls d → E cls d H'
section
variable {P : Program} {w : World} {K : PySem.W.Frag} {mg : Str → Option Value} {base : Heap} {N ps fr : List Str} {L : LW} {f : Addr} {k j : Nat} {dv : Option Int} {T : List NTab} {δ δ' : List Sl} {x : Exn} {r : Sl}
theorem lam_ex (S : NScope N ps fr L.scope) (hb : Bnd L dv ps) (hδ : ∀ s ∈ δ, s.ow = none) (hδ' : ∀ s ∈ δ', s.ow = none)
    (h : ∀ (A : Around) (outer : List PySem.Env) (s : Shared) (H : Hp) (E : XK), Cok (ncx (L2.CX P w) P w K mg base N L.nf f A outer s H E) (fun cls d _ H => E cls d H) k → EX (ncx (L2.CX P w) P w K mg base N L.nf f A outer s H E) T (fun cls d _ H => E cls d H) L.body δ x δ') :
    LamOk P w K mg base (L2.CX P w) (k + 1) f L dv fr (LamSp K T N (dvV dv) δ (some x)) :=
  lamok_of S hb fun A outer s H ws Q E hr hl ⟨S0, e, q⟩ => ⟨wE _ _, pe_w, h A outer s H E ⟨S.nd, rfl, passes_of rfl, takes_of rfl rfl rfl rfl, hr⟩ _ H S0 Q e fun cls d H' S' g e' p i => by
    rw [owned_none hδ, owned_none hδ'] at g
    exact q cls d H' S' g e'.tabs i⟩
theorem lam_ev (S : NScope N ps fr L.scope) (hb : Bnd L dv ps) (hδ : ∀ s ∈ δ, s.ow = none) (hδ' : ∀ s ∈ δ', s.ow = none)
    (h : ∀ (A : Around) (outer : List PySem.Env) (s : Shared) (H : Hp) (E : XK), Cok (ncx (L2.CX P w) P w K mg base N L.nf f A outer s H E) (fun cls d _ H => E cls d H) k → EV (ncx (L2.CX P w) P w K mg base N L.nf f A outer s H E) T L.body δ r δ') :
    LamOk P w K mg base (L2.CX P w) (k + 1) f L dv fr (LamSp K T N (dvV dv) δ none) :=
  lamok_of S hb fun A outer s H ws Q E hr hl ⟨S0, e, q⟩ => ⟨wE _ _, pe_w, h A outer s H E ⟨S.nd, rfl, passes_of rfl, takes_of rfl rfl rfl rfl, hr⟩ _ H S0 Q e fun v H' S' g e' p i => by
    rw [owned_none hδ, owned_none hδ'] at g
    exact q v H' S' g e'.tabs⟩
end
/-- what is told of such an end -/
def Tells (K : PySem.W.Frag) (mg : Str → Option Value) (cs : List (Str × Str)) (a : Option Exn) (z : Str) : Prop := match a with
  | none => z = ""
  | some x => ∃ y, x = ⟨clsA mg y, []⟩ ∧ ErrIs K mg y cs z
theorem go_none {K : PySem.W.Frag} {T : List NTab} {H H' : Hp} {S S' : Addr → Prop} {σ : L2.St} {δ : List Sl} (E : Env K T H S σ δ) (g : Go H S NoP H' S' NoP) (t : TabsN T H') : Go H S (Owned σ δ) H' S' (Owned σ δ) ∧ Env K T H' S' σ δ := by
  refine ⟨⟨g.mono, fun a o _ e n => g.keep a o (fun z => z) e n, fun a h _ f => g.up a h (fun z => z) f, fun a h => .inl h⟩, E.move g.mono (fun q hq => ?_) (fun q hq => g.up q (E.sub q hq) (fun z => z) (E.old hq)) t⟩
  cases eq : H q with
  | none => exact absurd (Fresh.of eq) (E.old hq)
  | some o => exact g.keep q o (fun z => z) eq fun ps z => E.old hq fun o' e' => by rw [eq] at e'; cases e'; exact ⟨ps, z⟩
/-- a function value f that is called there: what is known of it -/
structure FnFact (X : Cx) (T : List NTab) (σ : L2.St) (H : Hp) (S : Addr → Prop) (k : Nat) (f : Addr) (a : Option Exn) : Prop where
  ex : ∃ (L : LW) (dv : Option Int) (fr : List Str) (ws : List (Option V)) (N : List Str) (δ : List Sl), LamAt H f L dv ∧ (∀ (pins : List (Addr × Obj)) (s : Shared), Inv X pins σ H s → CellsAt L.cl fr ws s.heap H) ∧
    LamOk X.prog X.w X.K X.mg X.base (L2.CX X.prog X.w) k f L dv fr (LamSp X.K T N (dvV dv) δ a) ∧ Env X.K T H S (startF N (dvV dv) ws) δ
section
variable {X : Cx} {T : List NTab} {σ : L2.St} {H : Hp} {S : Addr → Prop} {s : Shared} {pins : List (Addr × Obj)} {x z : Str} {cs : List (Str × Str)} {k : Nat} {f : Addr} {a : Option Exn} {δ : List Sl} {Q : VK} {e : Expr} {p pos : Pos}
theorem run_err (F : ErrF X.K X.mg x cs) (I : Inv X pins σ H s) (E : Env X.K T H S σ δ) (ff : FnFact X T σ H S k f a) (hr : Room (k + 1) X.A) (tz : Tells X.K X.mg cs a z)
    (kk : ∀ H' S', Go H S (Owned σ δ) H' S' (Owned σ δ) → Env X.K T H' S' σ δ → Q (.str z) H') :
    ∃ g, X.mg x = some (.ref g) ∧ keepIn X.K (.ref g) = true ∧ wpAny (model X.prog X.w) X.A (call (.ref g) [.ref f]) (L2.EP X pins σ Q) X.xe s := by
  obtain ⟨st, N, n, h₀, hds, p1, p2, p3, p4, p5, p6, j, tx, sc, hN, hv, hdb, hcd, hbody, hh, hsw, bd⟩ := F.ex
  obtain ⟨g, fd, FD, hm⟩ := tx.ex
  obtain ⟨oc, od, dV, kV, doc, pm, an, cdv, ct, osl, rfl, lk, hcode, hD, _⟩ := FD.ex
  have hdV : dV = .none := by
    rcases hD with ⟨_, h⟩ | ⟨h, _⟩
    · exact h
    · exact absurd rfl h
  subst hdV
  obtain ⟨L, dv, fr, ws, N2, δL, la, hc, lo, eL⟩ := ff.ex
  refine ⟨g, hm, FD.kp, ?_⟩
  have C0 := hc pins s I
  have rc : codeAny (model X.prog X.w) X.A (.call (.ref g) ⟨[.ref f], []⟩) (CR C8.CX0 X.stack X.prog X.w H s Q C8.E0) s := by
    refine run_ofS (N := N) (ps := [n]) (us := [.ref f]) (vs := [.ref f]) lk hcode sc hr I.env0 (BindsTo.of_eq (bd _ _ _ _ _ _ _ rfl)) (.cons rfl .nil) rfl fun hr2 => ?_
    rw [hbody]
    have pe : ∀ (W : WX) (pn : List (Addr × Obj)) (xe : Value → Shared → Prop), Takes ((cxOf C8.CX0 X.prog X.w X.K X.mg X.base N x (defScope st) g cdv X.A X.stack s H C8.E0).tr pn xe) W → PE ((cxOf C8.CX0 X.prog X.w X.K X.mg X.base N x (defScope st) g cdv X.A X.stack s H C8.E0).tr pn xe) (.Call (.Name n p1) [] [] p2)
        (fun σ' H' Q' => σ'[0]? = some (some (.ref f)) ∧ H' = H ∧ ∃ E' : XK, (∀ cls d σ'' H'', E' cls d H'' → W cls d σ'' H'') ∧ LamSp X.K T N2 (dvV dv) δL a ws H Q' E') := fun W pn xe tk => by
      refine ⟨fun pins' s' σ' H' Q' I' ⟨q1, q2, E', q3, q4⟩ => ?_⟩
      subst q2
      refine wpAny_Call_Name_kw (thn ((pe_var (pos := p1) (i := 0) hN hv hdb hcd).run pins' s' σ' H' (fun v H1 => v = .ref f ∧ H1 = H') I' ⟨.ref f, q1, rfl, rfl⟩) fun u s1 ⟨v, H1, I1, r1, e1, e2⟩ => ?_)
      subst e1
      rw [e2] at I1
      obtain rfl : u = Value.ref f := r1
      obtain ⟨⟨od', sl', doc', pm', ctv', ho⟩, _, _⟩ := I1.hok f _ la.fn
      refine PySem.W.callWith_F0 (first := []) ⟨_, _, _, _, ho⟩ ?_
      have un : Un (frs X.stack) [] H' H' s.heap s1.heap := I1.base
      refine wpAny_call (codeAny_mono (lo.run _ _ s1 H' ws Q' E' hr2 I1.env0 la (cells_un C0 un) q4) fun r s2 hq => ?_)
      cases r with
      | error e => exact passes_call tk q3 pins' σ' H' s1 e s2 I1 hq
      | ok fl =>
        cases fl with
        | ret u => exact I1.after hq
        | next => exact False.elim hq
        | brk => exact False.elim hq
        | cont => exact False.elim hq
    refine ⟨_, pss_cons (ps_try_many (Wout := fun _ _ _ _ => False) rfl rfl takes_none5 (fun W pn xe tk _ => pss_one (ps_expr (pe W pn xe tk) (hsw _))) (err_hds hh)) (pss_one (ps_ret pe_str)), ?_⟩
    cases a with
    | none =>
      have tz : z = "" := tz
      subst tz
      refine ⟨rfl, rfl, fun _ _ _ => False, fun _ _ _ _ q => q.elim, S, eL, fun v H' S' g' t' => ?_⟩
      obtain ⟨g2, e2⟩ := go_none E g' t'
      exact kk H' S' g2 e2
    | some xn =>
      obtain ⟨y, hy, hz⟩ := tz
      refine ⟨rfl, rfl, fun cls d H' => cls = .ref (clsA X.mg y) ∧ Q (.str z) H', fun cls d σ'' H'' q => ?_, S, eL, fun cls d H' S' g' t' ix => ?_⟩
      · rw [q.1]
        exact err_many hz q.2
      · obtain ⟨g2, e2⟩ := go_none E g' t'
        exact ⟨by rw [ix.1, hy], kk H' S' g2 e2⟩
  refine wpAny_call (codeAny_mono rc fun r s' hq => ?_)
  cases r with
  | error e => exact (show False from hq).elim
  | ok fl =>
    cases fl with
    | ret u => exact I.after hq
    | next => exact False.elim hq
    | brk => exact False.elim hq
    | cont => exact False.elim hq
end
end Sc
namespace Sc
open PySem L2 NdefX PySem.W LamX
def dvD : Option Int → List PyData
  | none => []
  | some n => [.int n]
theorem env_data {K : PySem.W.Frag} {T : List NTab} {H : Hp} {S : Addr → Prop} {σ : L2.St} {ds : List PyData} (hl : σ.length = ds.length) (h : ∀ (i : Nat) (d : PyData), ds[i]? = some d → ∃ v, σ[i]? = some (some v) ∧ Dp K (vw H S) v d) (t : TabsN T H) : Env K T H S σ (ds.map .d) := by
  have at_ : ∀ (i : Nat) (s : Sl), (ds.map Sl.d)[i]? = some s → ∃ d, s = .d d ∧ ds[i]? = some d := fun i s e => by
    rw [List.getElem?_map] at e
    cases q : ds[i]? with
    | none => rw [q] at e; cases e
    | some d => rw [q] at e; exact ⟨d, (Option.some.inj e).symm, rfl⟩
  refine ⟨by rw [List.length_map]; exact hl, fun p ⟨i, s, w, h1, h2, _⟩ => ?_, fun i x e => ?_, fun i v e => ?_, fun i s w e hw => ?_, fun i j s u w w' p _ hs hw => ?_, t⟩
  · obtain ⟨d, rfl, _⟩ := at_ i s h1
    cases h2
  · obtain ⟨d, e1, e2⟩ := at_ i _ e
    rw [show x = d from (Sl.d.inj e1)]
    exact h i d e2
  · obtain ⟨d, e1, _⟩ := at_ i _ e
    cases e1
  · obtain ⟨d, rfl, _⟩ := at_ i s e
    cases hw
  · obtain ⟨d, rfl, _⟩ := at_ i s hs
    cases hw
/-- the data that a lambda sees: its default, then what it captured -/
theorem env_caps {K : PySem.W.Frag} {T : List NTab} {H : Hp} {S : Addr → Prop} {σ : L2.St} {δ : List Sl} {N : List Str} {dv : Option Int} {js : List Nat} {ds : List PyData} (E : Env K T H S σ δ) (hj : js.map (fun j => δ[j]?) = ds.map fun d => some (Sl.d d)) (hN : N.length = (dvV dv).length + ds.length) :
    Env K T H S (startF N (dvV dv) (js.map (slotAt σ))) ((dvD dv ++ ds).map .d) := by
  have hlen : js.length = ds.length := by
    have := congrArg List.length hj
    simpa using this
  have hdv : (dvV dv).length = (dvD dv).length := by cases dv <;> rfl
  have e0 : startF N (dvV dv) (js.map (slotAt σ)) = (dvV dv).map some ++ js.map (slotAt σ) := by
    unfold startF
    rw [show N.length - (dvV dv).length - (js.map (slotAt σ)).length = 0 by rw [List.length_map]; omega]
    simp
  rw [e0]
  refine env_data (by rw [List.length_append, List.length_map, List.length_map, List.length_append, hdv, hlen]) (fun i d e => ?_) E.tabs
  by_cases hi : i < (dvD dv).length
  · rw [List.getElem?_append_left hi] at e
    rw [List.getElem?_append_left (by rw [List.length_map, hdv]; exact hi)]
    cases dv with
    | none => cases hi
    | some n =>
      have : i = 0 := by simp [dvD] at hi; exact hi
      subst this
      cases e
      exact ⟨.int n, rfl, .int n⟩
  · rw [List.getElem?_append_right (by omega)] at e
    rw [List.getElem?_append_right (by rw [List.length_map, hdv]; omega), List.length_map, hdv]
    have q := congrArg (fun l => l[i - (dvD dv).length]?) hj
    simp only [List.getElem?_map, e, Option.map_some] at q
    cases ej : js[i - (dvD dv).length]? with
    | none => rw [ej] at q; cases q
    | some j =>
      rw [ej] at q
      have hd : δ[j]? = some (Sl.d d) := Option.some.inj q
      obtain ⟨v, h1, h2⟩ := E.dat j d hd
      refine ⟨v, ?_, h2⟩
      rw [List.getElem?_map, ej]
      exact congrArg some (slotAt_of h1)
/-- how a lambda's names lie to the maker's slots (all by looking) -/
structure LamW (X : Cx) (scope : Scope) (N ps fr : List Str) (js : List Nat) : Prop where
  S : NScope N ps fr scope
  free : ∀ y ∈ scope.names, y.2 = .free → X.env.scope.names.lookup y.1 = some .cell ∨ X.env.scope.names.lookup y.1 = some .free
  frm : ∀ y ∈ fr, (y, NameKind.free) ∈ scope.names
  at_ : js.map (fun j => X.N[j]?) = fr.map some
theorem LamW.has {X : Cx} {scope : Scope} {N ps fr : List Str} {js : List Nat} (l : LamW X scope N ps fr js) (ok : X.Ok) : ∀ y ∈ scope.names, y.2 = .free → ∃ c, X.env.cells.lookup y.1 = some c := fun y hy e => (l.free y hy e).elim (fun z => ok.has _ (.inl z)) fun z => ok.has _ (.inr z)
section
variable {X : Cx} {T : List (Addr × Str)} {W : WX} {x z : Str} {cs : List (Str × Str)} {k m : Nat} {a : Option Exn} {δ : List Sl} {N ps fr : List Str} {js : List Nat} {params : Arguments} {body : Expr} {scope : Scope} {p lpos pos dp : Pos} {dv : Option Int} {ds : List PyData} {c P : Addr} {n : Int} {j : Nat}
/-- the promise of every such lambda -/
def LamPr (X : Cx) (T : List NTab) (k : Nat) (params : Arguments) (body : Expr) (scope : Scope) (N : List Str) (fr : List Str) (dv : Option Int) (ds : List PyData) (a : Option Exn) : Prop :=
  ∀ (f c' : Addr) (dt : Option Addr), LamOk X.prog X.w X.K X.mg X.base (L2.CX X.prog X.w) k f ⟨X.env.qual ++ "<lambda>", params, body, scope, cloFrom X.env.cells scope.names [], c', dt⟩ dv fr (LamSp X.K T N (dvV dv) ((dvD dv ++ ds).map .d) a)
theorem fact_of {T : List NTab} {σ : L2.St} {H : Hp} {S : Addr → Prop} {f c' : Addr} {dt : Option Addr} (l : LamW X scope N ps fr js) (E : Env X.K T H S σ δ) (la : LamAt H f ⟨X.env.qual ++ "<lambda>", params, body, scope, cloFrom X.env.cells scope.names [], c', dt⟩ dv) (pr : LamPr X T k params body scope N fr dv ds a)
    (hj : js.map (fun j => δ[j]?) = ds.map fun d => some (Sl.d d)) (hN : N.length = (dvV dv).length + ds.length) : FnFact X T σ H S k f a :=
  ⟨_, dv, fr, js.map (slotAt σ), N, (dvD dv ++ ds).map .d, la, fun pins s I => cells_of I (Caps.made I.ok l.free l.frm l.at_), pr f c' dt, env_caps E hj hN⟩
/-- x(e), e a function value -/
theorem we_err {T : List NTab} {e : Expr} {σ : L2.St} {H : Hp} {S : Addr → Prop} {Q : VK} (F : ErrF X.K X.mg x cs) (hr : Room (k + 1) X.A) (tz : Tells X.K X.mg cs a z)
    (he : wE X e σ H fun v H1 => ∃ f S1, v = .ref f ∧ Go H S (Owned σ δ) H1 S1 (Owned σ δ) ∧ Env X.K T H1 S1 σ δ ∧ FnFact X T σ H1 S1 k f a) (kk : ∀ H' S', Go H S (Owned σ δ) H' S' (Owned σ δ) → Env X.K T H' S' σ δ → Q (.str z) H')
    (hg : Gl X x := by rfl) (hdb : (x == ("__debug__" : Str)) = false := by decide) (hs : starEach [e] X.env = (false, eval e X.env) :: starEach [] X.env := by rfl) (hpl : (backTo pos (starEach [] X.env)).any (·.1) = false := by rfl) :
    wE X (.Call (.Name x p) [e] [] pos) σ H Q := fun pins s I => by
  obtain ⟨g, hm, hk⟩ : ∃ g, X.mg x = some (.ref g) ∧ keepIn X.K (.ref g) = true := by
    obtain ⟨st, N, n, h₀, hds, p1, p2, p3, p4, p5, p6, j, tx, _⟩ := F.ex
    obtain ⟨g, fd, FD, hm⟩ := tx.ex
    exact ⟨g, hm, FD.kp⟩
  refine wpAny_Call_Name_kw (ld_glob I hg hm ?_ hdb)
  refine PySem.W.callWith_K (h₀ := X.base) I.ok.mod.kin hk ?_ hs hpl
  rw [hs]
  show wpAny _ _ (spliced ((false, eval e X.env) :: backTo pos (starEach [] X.env))) _ _ s
  refine Calls.spliced_cons (thn (he pins s I) fun u s1 ⟨v, H1, I1, r1, f, S1, e1, g1, E1, ff⟩ => ?_)
  subst e1
  obtain rfl : u = Value.ref f := r1
  refine Calls.spliced_nil ⟨I1.kIn, ?_⟩
  obtain ⟨g', hm', _, h⟩ := run_err (Q := Q) F I1 E1 ff hr tz fun H' S' g2 E2 => kk H' S' (g1.trans g2) E2
  rw [hm] at hm'
  cases hm'
  exact h
theorem ev_errE {T : List NTab} {e : Expr} (F : ErrF X.K X.mg x cs) (hr : Room (k + 1) X.A) (tz : Tells X.K X.mg cs a z)
    (he : ∀ (σ : L2.St) (H : Hp) (S : Addr → Prop), Env X.K T H S σ δ → wE X e σ H fun v H1 => ∃ f S1, v = .ref f ∧ Go H S (Owned σ δ) H1 S1 (Owned σ δ) ∧ Env X.K T H1 S1 σ δ ∧ FnFact X T σ H1 S1 k f a)
    (hg : Gl X x := by rfl) (hdb : (x == ("__debug__" : Str)) = false := by decide) (hs : starEach [e] X.env = (false, eval e X.env) :: starEach [] X.env := by rfl) (hpl : (backTo pos (starEach [] X.env)).any (·.1) = false := by rfl) :
    EV X T (.Call (.Name x p) [e] [] pos) δ (.d (.str z)) δ := fun σ H S Q E kk => we_err F hr tz (he σ H S E) (fun H' S' g2 E2 => kk (.str z) H' S' g2 E2 (Pin.refl _ _) (.str z)) hg hdb hs hpl
/-- x(lambda: ..) -/
theorem ev_err0 (F : ErrF X.K X.mg x cs) (TB : TabB X.base X.mg c P) (hcode : X.env.code = .ref c) (hmT : (P, X.env.qual ++ "<lambda>") ∈ T) (hu1 : ∀ p ∈ T, p.1 = P → p.2 = X.env.qual ++ "<lambda>") (hr : Room (k + 1) X.A) (l : LamW X scope N ps fr js) (pr : LamPr X (tabsOf T) k params body scope N fr none ds a) (tz : Tells X.K X.mg cs a z)
    (hj : js.map (fun j => δ[j]?) = ds.map fun d => some (Sl.d d)) (hN : N.length = 0 + ds.length) (hd : params.defaults = [] := by rfl) (hk : params.kw_defaults = [] := by rfl)
    (hg : Gl X x := by rfl) (hdb : (x == ("__debug__" : Str)) = false := by decide) (hs : starEach [.Lambda params body scope lpos] X.env = (false, eval (.Lambda params body scope lpos) X.env) :: starEach [] X.env := by rfl) (hpl : (backTo pos (starEach [] X.env)).any (·.1) = false := by rfl) :
    EV X (tabsOf T) (.Call (.Name x p) [.Lambda params body scope lpos] [] pos) δ (.d (.str z)) δ :=
  ev_errE F hr tz (fun σ H S E => we_of (pe_lam0 TB hcode hmT hu1 l.has hd hk) ⟨tabs_to E.tabs, fun f c' dt H1 x1 nn t1 f0 la => by
    obtain ⟨g2, e2⟩ := ext_go E x1 (tabs_of t1)
    exact ⟨f, S, rfl, g2, e2, fact_of l e2 la pr hj hN⟩⟩) hg hdb hs hpl
/-- x(lambda a=n: ..) -/
theorem ev_err1 (F : ErrF X.K X.mg x cs) (TB : TabB X.base X.mg c P) (hcode : X.env.code = .ref c) (hmT : (P, X.env.qual ++ "<lambda>") ∈ T) (hu1 : ∀ p ∈ T, p.1 = P → p.2 = X.env.qual ++ "<lambda>") (hr : Room (k + 1) X.A) (l : LamW X scope N ps fr js) (pr : LamPr X (tabsOf T) k params body scope N fr (some n) ds a) (tz : Tells X.K X.mg cs a z)
    (hj : js.map (fun j => δ[j]?) = ds.map fun d => some (Sl.d d)) (hN : N.length = 1 + ds.length) (hd : params.defaults = [.Constant (.int n) j dp] := by rfl) (hk : params.kw_defaults = [] := by rfl)
    (hg : Gl X x := by rfl) (hdb : (x == ("__debug__" : Str)) = false := by decide) (hs : starEach [.Lambda params body scope lpos] X.env = (false, eval (.Lambda params body scope lpos) X.env) :: starEach [] X.env := by rfl) (hpl : (backTo pos (starEach [] X.env)).any (·.1) = false := by rfl) :
    EV X (tabsOf T) (.Call (.Name x p) [.Lambda params body scope lpos] [] pos) δ (.d (.str z)) δ :=
  ev_errE F hr tz (fun σ H S E => we_of (pe_lam1 TB hcode hmT hu1 l.has hd hk) ⟨tabs_to E.tabs, fun f c' dt H1 x1 nn t1 f0 la => by
    obtain ⟨g2, e2⟩ := ext_go E x1 (tabs_of t1)
    exact ⟨f, S, rfl, g2, e2, fact_of l e2 la pr hj hN⟩⟩) hg hdb hs hpl
end
end Sc
namespace Sc
open PySem L2 NdefX PySem.W LamX
/-! #### a comprehension none of whose items passes, its tests told of the very block -/
section
variable {X : Cx} {pins : List (Addr × Obj)} {σ : L2.St} {H : Hp} {s : Shared}
/-- what the block's start has -/
def BlkAt (X : Cx) (pins : List (Addr × Obj)) (σ : L2.St) (s3 : Shared) (H3 : Hp) (fp : List Addr) : Prop := Inv X pins σ H3 s3 ∧ ∀ b ∈ fp, FpOk X pins H3 b
theorem none_core {elt tg iter : Expr} {ifs : List Expr} {scope : Scope} {own : List (Str × Nat)} {pos : Pos} {wi : TI} {g : TG} {tt : TT} {m : Nat} {Q : VK} (hc : X.calm = true) (hN : X.N.Nodup) (I : Inv X pins σ H s) (hi : PI X tg iter wi) (ok : BlkOk X.N X.env.scope scope own)
    (hg : ∀ (s : Shared) (H : Hp) (C : Addr) (cl : List (Str × Addr)) (fp : List Addr), PG (X.blk s H scope (compEnvC scope cl C X.env) fp) tg g)
    (ht : ∀ (s : Shared) (H : Hp) (C : Addr) (cl : List (Str × Addr)) (fp : List Addr), BlkAt X pins σ s H fp → PTs (X.blk s H scope (compEnvC scope cl C X.env) fp) ifs tt)
    (hs : ∀ x, foldedSetIterable iter X.env x = pure x)
    (h : wi σ H fun J H1 => ∀ D, H1 D = none → ∃ W : Nat → Hp → Prop, W 0 (upd H1 D (.lst [])) ∧ ∀ i H', i ≤ m → W i H' → (J.stop i H' ∧ Q (.ref D) H') ∨ (J.go i H' ∧ i < m ∧ ∀ x H2, J.yld i H' x H2 → g x (wipe σ (own.map (·.2))) H2 fun σ2 H3 => wipe σ2 (own.map (·.2)) = wipe σ (own.map (·.2)) ∧ tt σ2 H3 fun b H4 => b = false ∧ W (i + 1) H4)) :
    wpAny (model X.prog X.w) X.A (eval (.ListComp elt [⟨tg, iter, ifs, 0⟩] scope pos) X.env) (L2.EP X pins σ Q) X.xe s := by
  have hfree : ∀ y ∈ scope.names, y.2 = .free → ∃ c, X.env.cells.lookup y.1 = some c := fun y hy e => (ok.free y hy e).elim (fun k => I.ok.has _ (.inl k)) fun k => I.ok.has _ (.inr k)
  rw [eval_ListComp]
  refine wpAny_comprehension_free (use := none) rfl hs (closure_ok hfree) ok.kind (fun y hy e => by rw [ok.uniq y hy, e]) (thn (hi.run pins s σ H _ I h) fun xv s1 hx => thn hx fun itv s2 ⟨it, fp, tn, J, H2, e, I2, T, st2, f2, q⟩ => ?_)
  subst e
  refine wpAny_newObj_type (newEnv_comp ?_) (by show 0 ≤ sizeLine; decide)
  -- the new list
  have nD : H2 s2.heap.objs.size = none := I2.hok.fresh (Nat.le_refl _)
  obtain ⟨W, w0, turn⟩ := q _ nD
  have I3 := I2.laid (h' := s2.heap.push { cls := .type "list", data := .seq ([] : List Value).toArray }) (t' := s2.toks) (o := .lst []) (fun b o e => Heap.get?_push_of_some _ e) (Nat.le_refl _) ⟨Nat.zero_le _, [], 0, .nil, Heap.get?_push_size _ rfl⟩
  have lt2 : ∀ b ∈ fp, b < s2.heap.objs.size := fun b hb => by
    obtain ⟨o, e, _⟩ := T.obj _ _ st2 b hb
    exact Heap.lt_size e
  have f3 : ∀ b ∈ fp, FpOk X pins (upd H2 s2.heap.objs.size (.lst [])) b := fun b hb => ⟨by rw [upd_ne (Nat.ne_of_lt (lt2 b hb))]; exact (f2 b hb).1, (f2 b hb).2⟩
  generalize upd H2 s2.heap.objs.size (.lst []) = H3 at I3 f3 w0
  generalize hs3 : ({ s2 with heap := s2.heap.push { cls := .type "list", data := .seq ([] : List Value).toArray }, toks := s2.toks } : Shared) = s3 at I3
  have k3 : ∀ b o, s2.heap.get? b = some o → s3.heap.get? b = some o := fun b o e => by rw [← hs3]; exact Heap.get?_push_of_some _ e
  have lt3 : ∀ b ∈ fp, b < s3.heap.objs.size := fun b hb => by
    obtain ⟨o, e, _⟩ := T.obj _ _ st2 b hb
    exact Heap.lt_size (k3 b o e)
  have I4 := block_start I3 ok hN fun b hb => ⟨f3 b hb, lt3 b hb⟩
  have pg := hg s3 H3 s3.heap.objs.size (cellsFrom (s3.heap.objs.size + 1) scope.names (cloFrom X.env.cells scope.names [])) fp
  have pt := ht s3 H3 s3.heap.objs.size (cellsFrom (s3.heap.objs.size + 1) scope.names (cloFrom X.env.cells scope.names [])) fp ⟨I3, f3⟩
  show codeAny _ _ (.compStart (.ListComp elt [⟨tg, iter, ifs, 0⟩] scope pos) 0 (.ref it) (.ref s2.heap.objs.size) (compEnvC scope (cellsFrom (s3.heap.objs.size + 1) scope.names (cloFrom X.env.cells scope.names [])) s3.heap.objs.size X.env)) (compPost (model X.prog X.w) X.A X.xe none (L2.EP X pins σ Q) (.ref s2.heap.objs.size) s3.heap.objs.size) { s3 with heap := pushCells (s3.heap.push { cls := .type "dict", data := .dict #[] }) scope.names }
  generalize hce : compEnvC scope (cellsFrom (s3.heap.objs.size + 1) scope.names (cloFrom X.env.cells scope.names [])) s3.heap.objs.size X.env = ce at I4 pg pt ⊢
  have cL : ce.locals = s3.heap.objs.size := by subst hce; rfl
  have k4 : ∀ b o, s3.heap.get? b = some o → (pushCells (s3.heap.push { cls := .type "dict", data := .dict #[] }) scope.names).get? b = some o := fun b o e => pushCells_keeps _ _ _ _ (Heap.get?_push_of_some _ e)
  generalize hs4 : ({ s3 with heap := pushCells (s3.heap.push { cls := .type "dict", data := .dict #[] }) scope.names } : Shared) = s4 at I4 ⊢
  have st4 : tn 0 s4.heap := T.keep _ _ _ st2 fun b _ o e => by rw [← hs4]; exact k4 b o (k3 b o e)
  have own5 : ∀ {pn : List (Addr × Obj)} {σ' : L2.St} {H' : Hp} {s' : Shared}, pn = [] → Inv (X.blk s3 H3 scope ce fp) pn σ' H' s' → (∀ b ∈ fp, H' b = none) → ∀ b ∈ fp, FpOk (X.blk s3 H3 scope ce fp) pn H' b := fun {pn σ' H' s'} e I' n b hb =>
    ⟨n b hb, (I'.ok.exf b hb).1, I'.ok.exfs b hb, .inl hb, (I'.ok.exf b hb).2, fun p hp => by rw [e] at hp; cases hp⟩
  have loop : codeAny (model X.prog X.w) X.A (.compLoop (.ListComp elt [⟨tg, iter, ifs, 0⟩] scope pos) 0 (.ref it) (.ref s2.heap.objs.size) ce) (compPost (model X.prog X.w) X.A X.xe none (L2.EP X pins σ Q) (.ref s2.heap.objs.size) s3.heap.objs.size) s4 := by
    refine compLoop_any (fun n s' => ∃ i H', n + i = m ∧ Inv (X.blk s3 H3 scope ce fp) [] (wipe σ (own.map (·.2))) H' s' ∧ tn i s'.heap ∧ (∀ b ∈ fp, H' b = none) ∧ W i H') ?_ m ⟨0, H3, rfl, I4, st4, fun b hb => (f3 b hb).1, w0⟩
    intro n s5 ⟨i, H5, hi5, I5, st5, n5, w5⟩
    rcases turn i H5 (by omega) w5 with ⟨stop, qq⟩ | ⟨go, him, step⟩
    · refine thnF (T.done (X.blk s3 H3 scope ce fp) rfl rfl rfl hc i [] s5 _ H5 (fun _ _ => False) I5 (own5 rfl I5 n5) st5 stop) fun r s6 ⟨hr, I6⟩ => ?_
      subst hr
      have I7 : Inv X pins σ H5 s6 := I3.call' (ch := fp) I6.os I6.base I6.hok I6.bare fun b hb => ⟨(f3 b hb).2.2.2.1, (f3 b hb).2.1, (f3 b hb).2.2.2.2.1, (f3 b hb).2.2.2.2.2⟩
      have nC : H5 s3.heap.objs.size = none := by
        have z : H5 ce.locals = none := I6.free
        rw [cL] at z
        exact z
      obtain ⟨mm, hn, _⟩ := I6.loc
      have hn : s6.heap.Ns ce.locals mm := hn
      rw [cL] at hn
      obtain ⟨f0, f1, _, f4, f5, f6⟩ := I3.fpOk (Nat.le_refl _) nC
      exact ⟨mm, hn, fun h'' sb => ⟨.ref _, H5, I7.turned (t' := s6.toks) (fun b o hb e => (sb.2 b hb).trans e) f0 f1 f4 f5 f6, rfl, qq⟩⟩
    · refine thnF (T.item (X.blk s3 H3 scope ce fp) rfl rfl rfl hc i [] s5 _ H5 (fun _ _ => False) I5 (own5 rfl I5 n5) st5 go) fun r s6 ⟨u, hr, h6⟩ => ?_
      subst hr
      refine thnF h6 fun _ s7 ⟨x, H7, I7, r7, y7, st7, n7⟩ => ?_
      refine thnF (pg.run _ s7 _ H7 x u _ (I7.pinned (own5 rfl I7 n7) (T.obj _ _ st7)) r7 (step x H7 y7)) fun _ s8 ⟨σ8, H8, I8, hw8, q8⟩ => ?_
      refine thnF (pt.run _ s8 σ8 H8 _ I8 q8) fun b s9 ⟨H9, I9, hb9, q9⟩ => ?_
      subst hb9
      have pin9 : ∀ b ∈ fp, ∀ o, s7.heap.get? b = some o → s9.heap.get? b = some o ∧ H9 b = none := fun b hb o e =>
        let z := I9.pin (b, o) (List.mem_append_right _ (List.mem_append_right _ (mem_pinsAt hb e)))
        ⟨z.1, z.2.1⟩
      refine ⟨n - 1, by omega, i + 1, H9, by omega, (I9.unpinned (pins := [])).weak (by rw [← hw8, wipe_length]) (fun j v e => by rw [← hw8] at e; exact (wipe_some e).1), T.keep _ _ _ st7 fun b hb o e => (pin9 b hb o e).1, fun b hb => ?_, q9⟩
      obtain ⟨o, e, _⟩ := T.obj _ _ st7 b hb
      exact (pin9 b hb o e).2
  exact codeAny_compStart_list loop (T.self X.A 0 _ _ _ st4 loop)
end
end Sc
namespace Sc
open PySem L2 NdefX PySem.W LamX
/-! #### lists of lambdas -/
/-- a lambda: the slots that it captures, what they hold, how it ends -/
structure LD where
  js : List Nat
  ds : List PyData
  a : Option Exn
def LStat (X : Cx) (T : List NTab) (k : Nat) (H : Hp) (f : Addr) (D : LD) : Prop := ∃ (params : Arguments) (body : Expr) (scope : Scope) (N ps fr : List Str) (dv : Option Int) (c' : Addr) (dt : Option Addr),
  LamAt H f ⟨X.env.qual ++ "<lambda>", params, body, scope, cloFrom X.env.cells scope.names [], c', dt⟩ dv ∧ LamW X scope N ps fr D.js ∧ LamPr X T k params body scope N fr dv D.ds D.a ∧ N.length = (dvV dv).length + D.ds.length
inductive LStats (X : Cx) (T : List NTab) (k : Nat) (H : Hp) : List Addr → List LD → Prop
  | nil : LStats X T k H [] []
  | cons {f : Addr} {fs : List Addr} {D : LD} {Ds : List LD} : LStat X T k H f D → LStats X T k H fs Ds → LStats X T k H (f :: fs) (D :: Ds)
def FnsAt (X : Cx) (T : List NTab) (k : Nat) (H : Hp) (S : Addr → Prop) (l : Addr) (Ds : List LD) : Prop := ∃ fs : List Addr, vw H S l = some (.lst (fs.map V.ref)) ∧ LStats X T k H fs Ds
section
variable {X : Cx} {T : List NTab} {K : PySem.W.Frag} {H H' : Hp} {S S' P' : Addr → Prop} {σ : L2.St} {δ : List Sl} {k : Nat}
theorem ext_free {a : Addr} {φ : Heap → Prop} (E : Env K T H S σ δ) (h : H a = some (.ext φ)) : ¬ Owned σ δ a := fun ⟨i, s, w, h1, h2, h3⟩ => by
  obtain ⟨p, e, o⟩ := E.own i s w h1 h2
  rw [h3] at e
  cases e
  rw [h] at o
  cases w with
  | lst xs => obtain ⟨_, z, _⟩ := o; cases z
  | dk xs => obtain ⟨_, z, _⟩ := o; cases z
  | fk od r xs => obtain ⟨z, _⟩ := o; cases z
  | dt xs => obtain ⟨_, z, _⟩ := o; cases z
  | ft od r xs => obtain ⟨z, _⟩ := o; cases z
theorem LamAt.go {f : Addr} {L : LW} {dv : Option Int} (E : Env K T H S σ δ) (g : Go H S (Owned σ δ) H' S' P') (a : LamAt H f L dv) : LamAt H' f L dv := by
  obtain ⟨a1, a2, a3⟩ := a
  refine ⟨g.keep _ _ (ext_free E a1) a1 lamO_ne, g.keep _ _ (ext_free E a2) a2 codeO_ne, ?_⟩
  cases dv with
  | none => exact a3
  | some n =>
    obtain ⟨t, h1, h2⟩ := a3
    exact ⟨t, h1, g.keep _ _ (ext_free E h2) h2 tupO_ne⟩
theorem LStat.go {f : Addr} {D : LD} (E : Env K T H S σ δ) (g : Go H S (Owned σ δ) H' S' P') {T' : List NTab} (a : LStat X T' k H f D) : LStat X T' k H' f D := by
  obtain ⟨params, body, scope, N, ps, fr, dv, c', dt, la, r⟩ := a
  exact ⟨params, body, scope, N, ps, fr, dv, c', dt, la.go E g, r⟩
theorem LStats.go {T' : List NTab} (E : Env K T H S σ δ) (g : Go H S (Owned σ δ) H' S' P') : ∀ {fs : List Addr} {Ds : List LD}, LStats X T' k H fs Ds → LStats X T' k H' fs Ds
  | _, _, .nil => .nil
  | _, _, .cons a b => .cons (a.go E g) (LStats.go E g b)
theorem LStats.app : ∀ {fs gs : List Addr} {Ds Es : List LD}, LStats X T k H fs Ds → LStats X T k H gs Es → LStats X T k H (fs ++ gs) (Ds ++ Es)
  | _, _, _, _, .nil, h => h
  | _, _, _, _, .cons a b, h => .cons a (LStats.app b h)
theorem LStats.len : ∀ {fs : List Addr} {Ds : List LD}, LStats X T k H fs Ds → fs.length = Ds.length
  | _, _, .nil => rfl
  | _, _, .cons _ b => congrArg (· + 1) (LStats.len b)
theorem LStats.at_ : ∀ {fs : List Addr} {Ds : List LD} {i : Nat} {f : Addr}, LStats X T k H fs Ds → fs[i]? = some f → ∃ D, Ds[i]? = some D ∧ LStat X T k H f D
  | _, _, _, _, .nil, e => by simp at e
  | _, _, 0, _, .cons a _, e => by simp at e; subst e; exact ⟨_, rfl, a⟩
  | _, _, i + 1, f, .cons _ b, e => by
    obtain ⟨D, h1, h2⟩ := LStats.at_ (i := i) (f := f) b (by simpa using e)
    exact ⟨D, by simpa using h1, h2⟩
theorem FnsAt.go {l : Addr} {Ds : List LD} {T' : List NTab} (E : Env K T H S σ δ) (g : Go H S (Owned σ δ) H' S' P') (a : FnsAt X T' k H S l Ds) : FnsAt X T' k H' S' l Ds := by
  obtain ⟨fs, h1, h2⟩ := a
  exact ⟨fs, g.mono _ _ h1, h2.go E g⟩
/-- a new object, for all to see -/
theorem new_vis {o u : HO} {p : Addr} (E : Env K T H S σ δ) (hp : H p = none) (hc : core o = some u) : Go H S (Owned σ δ) (upd H p o) (fun a => S a ∧ a ≠ p) (Owned σ δ) ∧ Env K T (upd H p o) (fun a => S a ∧ a ≠ p) σ δ ∧ vw (upd H p o) (fun a => S a ∧ a ≠ p) p = some u := by
  have nf : ∀ q, ¬ Fresh H q → q ≠ p := fun q h z => h (by rw [z]; exact Fresh.of hp)
  have mo : Same (vw H S) (vw (upd H p o) fun a => S a ∧ a ≠ p) := fun a u e => by
    obtain ⟨h1, w, h2, h3⟩ := vw_some e
    rw [vw_out fun z => h1 z.1, upd_ne (ne_of_none h2 hp), h2]
    exact h3
  have tb : TabsN T (upd H p o) := E.tabs.ext fun b o e => (upd_ne (ne_of_none e hp)).trans e
  refine ⟨⟨mo, fun b o _ e _ => (upd_ne (ne_of_none e hp)).trans e, fun a h _ f => ⟨h, nf a f⟩, fun a h => .inl h⟩, E.move mo (fun q hq => upd_ne (nf q (E.old hq))) (fun q hq => ⟨E.sub q hq, nf q (E.old hq)⟩) tb, ?_⟩
  rw [vw_out fun z => z.2 rfl, upd_same]
  exact hc
end
/-- expressions under what is known -/
abbrev Kn := Hp → (Addr → Prop) → Prop
def KnGo (K : PySem.W.Frag) (T : List NTab) (Φ : Kn) : Prop := ∀ (H H' : Hp) (S S' P' : Addr → Prop) (σ : L2.St) (δ : List Sl), Env K T H S σ δ → Go H S (Owned σ δ) H' S' P' → Φ H S → Φ H' S'
def LV (X : Cx) (T : List NTab) (k : Nat) (Φ : Kn) (e : Expr) (δ : List Sl) (Ds : List LD) : Prop := ∀ (σ : L2.St) (H : Hp) (S : Addr → Prop) (Q : VK), Env X.K T H S σ δ → Φ H S →
  (∀ l H' S', Go H S (Owned σ δ) H' S' (Owned σ δ) → Env X.K T H' S' σ δ → FnsAt X T k H' S' l Ds → Q (.ref l) H') → wE X e σ H Q
def LA (X : Cx) (T : List NTab) (k : Nat) (es : List Expr) (δ : List Sl) (Ds : List LD) : Prop := ∀ (σ : L2.St) (H : Hp) (S : Addr → Prop) (Q : List V → Hp → Prop), Env X.K T H S σ δ →
  (∀ (fs : List Addr) H' S', Go H S (Owned σ δ) H' S' (Owned σ δ) → Env X.K T H' S' σ δ → LStats X T k H' fs Ds → Q (fs.map V.ref) H') → wA X es σ H Q
def kn0 : Kn := fun _ _ => True
def knL (X : Cx) (T : List NTab) (k : Nat) (l : Addr) (Ds : List LD) : Kn := fun H S => FnsAt X T k H S l Ds
theorem kn0_go {K : PySem.W.Frag} {T : List NTab} : KnGo K T kn0 := fun _ _ _ _ _ _ _ _ _ _ => trivial
theorem knL_go {X : Cx} {K : PySem.W.Frag} {T T' : List NTab} {k : Nat} {l : Addr} {Ds : List LD} : KnGo K T (knL X T' k l Ds) := fun _ _ _ _ _ _ _ E g h => h.go E g
section
variable {X : Cx} {T : List (Addr × Str)} {k : Nat} {δ : List Sl} {c P : Addr} {params : Arguments} {body : Expr} {scope : Scope} {lpos dp pos : Pos} {N ps fr : List Str} {es : List Expr} {D : LD} {Ds Es : List LD} {n : Int} {j : Nat} {Φ : Kn}
theorem la_nil {T : List NTab} : LA X T k [] δ [] := fun σ H S Q E kk => wa_of pa_nil (kk [] H S (Go.refl _ _ _) E .nil)
theorem la_cons0 (TB : TabB X.base X.mg c P) (hcode : X.env.code = .ref c) (hmT : (P, X.env.qual ++ "<lambda>") ∈ T) (hu1 : ∀ p ∈ T, p.1 = P → p.2 = X.env.qual ++ "<lambda>") (l : LamW X scope N ps fr D.js) (pr : LamPr X (tabsOf T) k params body scope N fr none D.ds D.a) (hs : LA X (tabsOf T) k es δ Ds)
    (hN : N.length = 0 + D.ds.length := by rfl) (hd : params.defaults = [] := by rfl) (hk : params.kw_defaults = [] := by rfl) (he : starEach (.Lambda params body scope lpos :: es) X.env = (false, eval (.Lambda params body scope lpos) X.env) :: starEach es X.env := by rfl) : LA X (tabsOf T) k (.Lambda params body scope lpos :: es) δ (D :: Ds) := fun σ H S Q E kk =>
  wa_of (pa_cons (pe_lam0 TB hcode hmT hu1 l.has hd hk) pa_w he) ⟨tabs_to E.tabs, fun f c' dt H1 x1 nn t1 f0 la => by
    obtain ⟨g1, e1⟩ := ext_go E x1 (tabs_of t1)
    exact hs σ H1 S _ e1 fun fs H2 S2 g2 e2 st => kk (f :: fs) H2 S2 (g1.trans g2) e2 (.cons ⟨params, body, scope, N, ps, fr, none, c', dt, la.go e1 g2, l, pr, hN⟩ st)⟩
theorem la_cons1 (TB : TabB X.base X.mg c P) (hcode : X.env.code = .ref c) (hmT : (P, X.env.qual ++ "<lambda>") ∈ T) (hu1 : ∀ p ∈ T, p.1 = P → p.2 = X.env.qual ++ "<lambda>") (l : LamW X scope N ps fr D.js) (pr : LamPr X (tabsOf T) k params body scope N fr (some n) D.ds D.a) (hs : LA X (tabsOf T) k es δ Ds)
    (hN : N.length = 1 + D.ds.length := by rfl) (hd : params.defaults = [.Constant (.int n) j dp] := by rfl) (hk : params.kw_defaults = [] := by rfl) (he : starEach (.Lambda params body scope lpos :: es) X.env = (false, eval (.Lambda params body scope lpos) X.env) :: starEach es X.env := by rfl) : LA X (tabsOf T) k (.Lambda params body scope lpos :: es) δ (D :: Ds) := fun σ H S Q E kk =>
  wa_of (pa_cons (pe_lam1 TB hcode hmT hu1 l.has hd hk) pa_w he) ⟨tabs_to E.tabs, fun f c' dt H1 x1 nn t1 f0 la => by
    obtain ⟨g1, e1⟩ := ext_go E x1 (tabs_of t1)
    exact hs σ H1 S _ e1 fun fs H2 S2 g2 e2 st => kk (f :: fs) H2 S2 (g1.trans g2) e2 (.cons ⟨params, body, scope, N, ps, fr, some n, c', dt, la.go e1 g2, l, pr, hN⟩ st)⟩
theorem lv_lst {T : List NTab} (h : LA X T k es δ Ds) (hz : Ds.length ≤ 1000) : LV X T k Φ (.List es pos) δ Ds := fun σ H S Q E _ kk =>
  we_of (pe_lst pa_w) (h σ H S _ E fun fs H1 S1 g1 e1 st => by
    refine ⟨Nat.le_trans (by rw [List.length_map, st.len]; exact hz) (by decide), fun p hp => ?_⟩
    obtain ⟨g2, e2, v2⟩ := new_vis (o := .lst (fs.map V.ref)) e1 hp rfl
    exact kk p _ _ (g1.trans g2) e2 ⟨fs, v2, st.go e1 g2⟩)
theorem lv_name {T : List NTab} {l : Addr} (i : Nat) {y : Str} {py : Pos} (hi : δ[i]? = some (.v (.ref l)) := by rfl) (hN : X.N[i]? = some y := by rfl) (hv : Vis X.env.scope y := by first | exact Or.inl rfl | exact Or.inr (Or.inl rfl) | exact Or.inr (Or.inr rfl)) (hdb : (y == ("__debug__" : Str)) = false := by decide) (hcd : (y == ("__classdict__" : Str)) = false := by decide) :
    LV X T k (knL X T k l Ds) (.Name y py) δ Ds := fun σ H S Q E hΦ kk => we_of (pe_var hN hv hdb hcd) ⟨_, E.val i _ hi, kk l H S (Go.refl _ _ _) E hΦ⟩
theorem lv_add {T : List NTab} {a b : Expr} (hΦ : KnGo X.K T Φ) (ha : LV X T k Φ a δ Ds) (hb : LV X T k Φ b δ Es) (hz : Ds.length + Es.length ≤ 1000) : LV X T k Φ (.BinOp a .Add b pos) δ (Ds ++ Es) := fun σ H S Q E h kk =>
  we_of (pe_op op_catD pe_w pe_w) (ha σ H S _ E h fun l1 H1 S1 g1 e1 ⟨fs, v1, s1⟩ => hb σ H1 S1 _ e1 (hΦ _ _ _ _ _ _ _ E g1 h) fun l2 H2 S2 g2 e2 ⟨gs, v2, s2⟩ => by
    have s1' := s1.go e1 g2
    have v1' := g2.mono _ _ v1
    refine ⟨l1, l2, _, _, rfl, rfl, sql_real (.inl (.inl v1')), sql_real (.inl (.inl v2)), by rw [List.length_map, List.length_map, s1.len, s2.len]; exact Nat.le_trans hz (by decide), fun q hq => ?_⟩
    obtain ⟨g3, e3, v3⟩ := new_vis (o := .lst (fs.map V.ref ++ gs.map V.ref)) e2 hq rfl
    exact kk q _ _ ((g1.trans g2).trans g3) e3 ⟨fs ++ gs, by rw [List.map_append]; exact v3, (s1'.app s2).go e2 g3⟩)
end
end Sc
namespace Sc
open PySem L2 NdefX PySem.W LamX
/-! #### no lambda of a list ends otherwise -/
theorem env_no {K : PySem.W.Frag} {T : List NTab} {H : Hp} {S : Addr → Prop} (σ : L2.St) (t : TabsN T H) : Env K T H S σ (List.replicate σ.length .no) := by
  have at_ : ∀ (i : Nat) (s : Sl), (List.replicate σ.length Sl.no)[i]? = some s → s = .no := fun i s e => by
    rw [List.getElem?_replicate] at e
    split at e
    · exact (Option.some.inj e).symm
    · cases e
  exact ⟨by simp, fun p ⟨i, s, w, h1, h2, _⟩ => (by rw [at_ i s h1] at h2; cases h2), fun i x e => (by cases at_ i _ e), fun i v e => (by cases at_ i _ e), fun i s w e hw => (by rw [at_ i s e] at hw; cases hw), fun i j s u w w' p _ hs hw => (by rw [at_ i s hs] at hw; cases hw), t⟩
theorem no_own (σ : L2.St) (n : Nat) : Owned σ (List.replicate n .no) = NoP := owned_none fun s h => by rw [(List.mem_replicate.mp h).2]; rfl
theorem cells_ex {cl : List (Str × Addr)} {fr : List Str} {ws : List (Option V)} {h h' : Heap} {H H' : Hp} {fs ex : List Addr} (C : CellsAt cl fr ws h H) (u : Un fs ex H H' h h') (hx : ∀ y c, cl.lookup y = some c → c ∉ ex) : CellsAt cl fr ws h' H' := by
  have kp : ∀ y c, cl.lookup y = some c → ∀ v, h.IsCell c v → h'.IsCell c v := fun y c e v ⟨o, ho, hd⟩ => by
    obtain ⟨sl, q⟩ := u.any ho (C.all y c e).1 (hx y c e)
    exact ⟨_, q, hd⟩
  refine ⟨C.len, fun y c e => ?_, C.inj, fun i y e => ?_⟩
  · obtain ⟨n, v, z⟩ := C.all y c e
    refine ⟨?_, v, kp y c e v z⟩
    obtain ⟨o, ho, _⟩ := z
    exact u.free c o ho n (hx y c e)
  · obtain ⟨c, hc, hv⟩ := C.has i y e
    refine ⟨c, hc, fun v ev => ?_⟩
    obtain ⟨x, r, z⟩ := hv v ev
    exact ⟨x, r, kp y c hc _ z⟩
section
variable {X : Cx} {T : List NTab} {W : WX} {k m : Nat} {δ : List Sl} {Φ : Kn} {Ds : List LD} {x c due : Str} {cs : List (Str × Str)} {iter : Expr} {scope : Scope} {ic jj : Nat} {p1 p2 p3 p4 p5 p6 p7 p8 p9 p10 : Pos} {o : Out} {rest : List Stmt}
def TVf (X : Cx) (T : List NTab) (Φ : Kn) (e : Expr) (δ : List Sl) (b : Bool) : Prop := ∀ (σ : L2.St) (H : Hp) (S : Addr → Prop) (Q : Bool → Hp → Prop), Env X.K T H S σ δ → Φ H S →
  (∀ H' S', Go H S (Owned σ δ) H' S' (Owned σ δ) → Env X.K T H' S' σ δ → Q b H') → wT X e σ H Q
def SVf (X : Cx) (T : List NTab) (W : WX) (Φ : Kn) (st : List Stmt) (δ : List Sl) (o : Out) : Prop := ∀ (σ : L2.St) (H : Hp) (S : Addr → Prop) (D : Ends), Env X.K T H S σ δ → Φ H S → Sat X T W σ H S δ D o → wSs X st D σ H
theorem svf_start (h : SVf X T W kn0 rest δ o) : SVs X T W rest δ o := fun σ H S D E kk => h σ H S D E trivial kk
theorem svf_asg {e : Expr} {y : Str} {i : Nat} {py pos : Pos} {s : Sl} (C : Cok X W m) (h : LV X T k Φ e δ Ds) (hr : ∀ l, SVf X T W (knL X T k l Ds) rest (δ.set i (.v (.ref l))) o) (hi : X.N[i]? = some y := by rfl) (hx : Loc X.env.scope y := by first | exact .inl rfl | exact .inr rfl) (hd : δ[i]? = some s := by rfl) (hf' : s.free := by trivial)
    (hs : swapsWith e (some (.Name y py)) pos.line X.env = pure false := by rfl) (hf : X.fn y = true ∨ X.env.scope.names.lookup y = some .local := by first | exact .inl rfl | exact .inr rfl) : SVf X T W Φ (.Assign [.Name y py] e pos :: rest) δ o := fun σ H S D E hΦ kk =>
  wss_of (pss_cons (ps_set C.nd hi hx pe_w hs hf) pss_w) (h σ H S _ E hΦ fun l H1 S1 g1 e1 fa => hr l (σ.set i (some (.ref l))) H1 S1 D (e1.set (r := .v (.ref l)) (H0 := H) (P0 := Owned σ δ) rfl) fa (kk.after ⟨g1.mono, g1.keep, g1.up, fun a ha => by
    rcases own_set ha with ha | ⟨w, ha, e⟩
    · exact g1.ow a ha
    · cases ha⟩ (pin_set fun t e => by rw [hd] at e; cases e; exact hf')))
theorem svf_ifF {a : List Stmt} {e : Expr} {pos : Pos} (h : TVf X T Φ e δ false) (hr : SVs X T W rest δ o) : SVf X T W Φ (.If e a [] pos :: rest) δ o := fun σ H S D E hΦ kk =>
  wss_of (pss_cons (ps_if pt_w pss_w pss_w) pss_w) (h σ H S _ E hΦ fun H1 S1 g1 e1 => iteF (wss_of pss_nil (hr σ H1 S1 D e1 (kk.after g1 (Pin.refl _ _)))))
/-- [c for c in iter if x(c) != due] != [] -/
theorem tvf_none (C : Cok X W m) (F : ErrF X.K X.mg x cs) (h : LV X T k Φ iter δ Ds) (tz : ∀ D ∈ Ds, Tells X.K X.mg cs D.a due) (hj : ∀ D ∈ Ds, D.js.map (fun j => δ[j]?) = D.ds.map fun d => some (Sl.d d)) (hk : k + 1 ≤ m)
    (hg : ∀ (s : Shared) (H : Hp) (Ca : Addr) (cl : List (Str × Addr)) (fp : List Addr), PG (X.blk s H scope (compEnvC scope cl Ca X.env) fp) (.Name c p2) (gName ic))
    (hv : ∀ (s : Shared) (H : Hp) (Ca : Addr) (cl : List (Str × Addr)) (fp : List Addr), Vis (X.blk s H scope (compEnvC scope cl Ca X.env) fp).env.scope c ∧ Gl (X.blk s H scope (compEnvC scope cl Ca X.env) fp) x)
    (hic : X.N[ic]? = some c) (hdb : (c == ("__debug__" : Str)) = false := by decide) (hcd : (c == ("__classdict__" : Str)) = false := by decide) (hxd : (x == ("__debug__" : Str)) = false := by decide) (ok : blkC X.N X.env.scope scope [(c, ic)] = true := by rfl) (hs : ∀ v, foldedSetIterable iter X.env v = pure v := by intro _; rfl) :
    TVf X T Φ (.Compare (.ListComp (.Name c p1) [⟨.Name c p2, iter, [.Compare (.Call (.Name x p3) [.Name c p4] [] p5) [.NotEq] [.Constant (.str due) jj p6] p7], 0⟩] scope p8) [.NotEq] [.List [] p9] p10) δ false := fun σ H S Q E hΦ kk => by
  have comp : wE X (.ListComp (.Name c p1) [⟨.Name c p2, iter, [.Compare (.Call (.Name x p3) [.Name c p4] [] p5) [.NotEq] [.Constant (.str due) jj p6] p7], 0⟩] scope p8) σ H fun v H1 => ∃ S1, Go H S (Owned σ δ) H1 S1 (Owned σ δ) ∧ Env X.K T H1 S1 σ δ ∧ Dp X.K (vw H1 S1) v (.list []) := fun pins s I => by
    refine none_core (own := [(c, ic)]) (g := gName ic) (m := Ds.length) (tt := fun σ2 H' Qb => ∃ (S' : Addr → Prop) (f : Addr) (D : LD), Env X.K T H' S' σ δ ∧ σ2[ic]? = some (some (V.ref f)) ∧ LStat X T k H' f D ∧ D ∈ Ds ∧ ∀ H'' S'', Go H' S' (Owned σ δ) H'' S'' (Owned σ δ) → Env X.K T H'' S'' σ δ → Qb false H'') C.calm C.nd I (pi_list pe_w) (blkOk_by ok) hg (fun s3 H3 Ca cl fp ⟨I3, f3⟩ => pts_one ⟨fun pins' s' σ2 H' Qb I' ⟨S', f, D, E', hsf, st, hD, kb⟩ => ?_⟩) hs ?_
    · obtain ⟨params, body, scope', N, ps, fr, dv, c', dt, la, l, pr, hN⟩ := st
      have caps := Caps.made (X := X) I3.ok l.free l.frm l.at_
      have C3 := cells_of I3 caps
      have t' : TabsN T H' := E'.tabs
      have ff : ∀ (pn : List (Addr × Obj)), FnFact (X.blk s3 H3 scope (compEnvC scope cl Ca X.env) fp) T σ2 H' S' k f D.a := fun pn =>
        ⟨⟨X.env.qual ++ "<lambda>", params, body, scope', cloFrom X.env.cells scope'.names [], c', dt⟩, dv, fr, D.js.map (slotAt σ), N, (dvD dv ++ D.ds).map .d, la, fun pins2 s2 I2 => cells_ex C3 I2.base fun y a e hb => (f3 a hb).2.2.2.2.1 y a (caps.sub y a e) rfl, pr f c' dt, env_caps E' (hj D hD) hN⟩
      refine (pt_cmpR op_ne pe_w pe_w (nomark _)).run pins' s' σ2 H' Qb I' ?_
      refine we_err (T := T) (X := X.blk s3 H3 scope (compEnvC scope cl Ca X.env) fp) (δ := List.replicate σ2.length .no) (S := S') F (C.less hk) (tz D hD) ?_ (fun H1 S1 g1 e1 => ?_) (hv s3 H3 Ca cl fp).2 hxd
      · exact we_of (X := X.blk s3 H3 scope (compEnvC scope cl Ca X.env) fp) (pe_var hic (hv s3 H3 Ca cl fp).1 hdb hcd) ⟨V.ref f, hsf, f, S', rfl, Go.refl _ _ _, env_no σ2 t', ff []⟩
      rw [no_own] at g1
      obtain ⟨g2, e2⟩ := go_none E' g1 e1.tabs
      refine we_of pe_str ⟨rfl, ?_⟩
      exact ⟨_, rfl, by simpa using kb H1 S1 g2 e2⟩
    · refine h σ H S _ E hΦ fun l H1 S1 g1 e1 ⟨fs, v1, st⟩ => ⟨l, rfl, ⟨_, sql_real (.inl (.inl v1))⟩, fun L hL => ?_⟩
      obtain ⟨g2, e2, vL⟩ := new_vis (o := .lst []) e1 hL rfl
      have v2 := g2.mono _ _ v1
      have st2 := st.go e1 g2
      refine ⟨fun i H' => ∃ S', Go (upd H1 L (.lst [])) (fun a => S1 a ∧ a ≠ L) (Owned σ δ) H' S' (Owned σ δ) ∧ Env X.K T H' S' σ δ, ⟨_, Go.refl _ _ _, e2⟩, fun i H' hi ⟨S', g3, e3⟩ => ?_⟩
      have v3 := g3.mono _ _ v2
      have st3 := st2.go e2 g3
      by_cases hm : i = Ds.length
      · refine .inl ⟨⟨_, sql_real (.inl (.inl v3)), by rw [List.length_map, st.len]; omega⟩, S', (g1.trans g2).trans g3, e3, .lst (.inl (.inl (g3.mono _ _ vL))) .nil⟩
      · have hi2 : i < fs.length := by rw [st.len]; omega
        have hfi : (fs.map V.ref)[i]? = some (V.ref fs[i]) := by rw [List.getElem?_map, List.getElem?_eq_getElem hi2]; rfl
        obtain ⟨D, hD1, hD2⟩ := st3.at_ (List.getElem?_eq_getElem hi2)
        refine .inr ⟨⟨_, _, sql_real (.inl (.inl v3)), hfi⟩, by omega, fun y H2 ⟨e4, hy⟩ => ?_⟩
        subst e4
        have hy2 := hy _ (sql_real (.inl (.inl v3)))
        rw [hfi] at hy2
        cases hy2
        have hil : ic < σ.length := by
          rw [I.len]
          exact (List.getElem?_eq_some_iff.mp hic).1
        refine ⟨(wipe_eq (σ := wipe σ [ic]) (vs := [ic]) (fun j hj => List.getElem?_set_ne fun z => hj (by rw [z]; exact List.mem_singleton.mpr rfl)) List.length_set).trans wipe_wipe, S', fs[i], D, e3, ?_, hD2, List.mem_of_getElem? hD1, fun H5 S5 g5 e5 => ⟨rfl, S5, g3.trans g5, e5⟩⟩
        exact List.getElem?_set_self (by rw [wipe_length]; exact hil)
  refine wt_of (pt_cmpR (op_neD C.u64) pe_w pe_w (nomark _)) (we_mono comp fun v1 H1 ⟨S1, g1, e1, d1⟩ => ?_)
  refine ev_lstd (rs := []) av_nil rfl (by simp) σ H1 S1 _ e1 fun v2 H2 S2 g2 e2 p2 r2 => ?_
  exact ⟨.list [], .list [], dp_real (dp_mono g2.mono d1), dp_real r2, rfl, rfl, _, rfl, kk H2 S2 (g1.trans g2) e2⟩
end
end Sc
namespace Sc
open PySem L2 NdefX
/-- the law's end where the law itself makes lambdas -/
theorem law_atC {l : PySem.W.OpenLaw} {w : World} {K : PySem.W.Frag} {mg : Str → Option Value} {fa : Addr} {h : Heap} {st : Stmt} {N : List Str} {k : Nat} {y x : Str} {cL PL : Addr} {cs : List (Addr × Addr)} {T0 : List (Addr × Str)} (hcs : ∀ p ∈ cs, h.get? p.2 = some { cls := .none, data := .fields #[] } ∧ K.lookup p.2 = none ∧ PySem.W.CodeHd h p.1 p.2) (hT0 : ∀ p ∈ T0, ∃ q ∈ cs, q.2 = p.1)
    (S : TxtC K mg y st cL PL) (hmg : mg y = some (.ref fa)) (Sc : FnScope N [x] (defScope st))
    (bd : ∀ (kV doc pm : Value) (an : Option Addr) (cdv ct : Value) (us : List Value), us.length = 1 → bindArgs (PySem.W.fnOf y y (defArgs st) (defBody st) (defScope st) .none kV doc pm an cdv ct) ⟨us, []⟩ = pure ([x].zip us))
    (hb : ∀ (base : Heap), K.In base → base.Ns mainGlobals mg → (∀ p ∈ cs, LamX.TabB base mg p.1 p.2) → ∀ (fa : Addr) (A : Around) (outer : List PySem.Env) (s : Shared) (H : Hp) (E : XK), Cok (cxOf (L2.CX l.prog w) l.prog w K mg base N y (defScope st) fa (.ref cL) A outer s H E) (fun cls d _ H => E cls d H) k → ∀ ns : List Int, ns.length ≤ 63 → (∀ z ∈ ns, Builtin.Int.intBits z ≤ 1048576) →
      ∃ of, SVs (cxOf (L2.CX l.prog w) l.prog w K mg base N y (defScope st) fa (.ref cL) A outer s H E) (tabsOf T0) (fun cls d _ H => E cls d H) (defBody st) ([.d (.list (ns.map .int))] ++ List.replicate (N.length - 1) .no) of ∧ EndsAs of (.r (.d (.bool true)))) : LamX.LawAtS l w K (L2.CX l.prog w) (k + 1) 63 x mg fa h := by
  obtain ⟨f, oc, od, kV, doc, pm, an, ct, osl, lk, hcd, _, hm⟩ := S.ex
  rw [hmg] at hm
  cases hm
  have hB : ∀ (s : Shared) (u : Value), BindsTo s (PySem.W.fnOf y y (defArgs st) (defBody st) (defScope st) .none kV doc pm an (.ref cL) ct) ⟨[u], []⟩ [(x, u)] := fun s u => BindsTo.of_eq (bd _ _ _ _ _ _ [u] rfl)
  refine ⟨_, cs, spM K (tabsOf T0) (FnR 1 Script fun _ => .r (.d (.bool true))), fun p hp => (hcs p hp).1, fun p hp => (hcs p hp).2.1, fun p hp => (hcs p hp).2.2, hB, fun H a ns hl hz hH hS => law_spT hl hz (tabs_of fun p hp => ?_) hS, fun base hK hN hTB => ?_⟩
  · obtain ⟨q, hq, e⟩ := hT0 p hp
    exact LamX.TabS.nil (by rw [← e]; exact hH q hq)
  refine fn_mkC lk hcd Sc (fun δ o ⟨ds, h1, _, h3, _⟩ => by rw [h3, List.length_map, h1]; rfl) fun A outer s H E C δ o ⟨ds, h1, ⟨ns, hl, hz, h2⟩, h3, h4⟩ => ?_
  subst h2 h3 h4
  obtain ⟨of, a, b⟩ := hb base hK hN hTB fa A outer s H E C ns hl hz
  exact ⟨of, a, ends_fin data_own b⟩
end Sc
namespace Sc
open PySem L2 NdefX PySem.W
/-! #### a text repeated -/
def rMulS : R2 := fun x y H Q => ∃ z n, x = .str z ∧ y = .int n ∧ PySem.MulOk z n ∧ Q (.str (PySem.Txt.mul z n)) H
section
variable {X : Cx} {T : List NTab} {δ δ1 δ2 : List Sl} {a b : Expr} {pos : Pos}
theorem op_mulS : OpR X (binaryOp .Mult) rMulS := by
  intro pins s σ H x y v u Q I rx ry h
  obtain ⟨z, n, rfl, rfl, hk, q⟩ := h
  obtain ⟨t, rfl⟩ := rx
  obtain ⟨t2, rfl⟩ := ry
  exact PySem.SB.mul hk fun t' k => ⟨.str _, H, I.tok _, ⟨_, rfl⟩, q⟩
theorem mulOk {z : Str} {n : Int} (hz : z.length ≤ 1000) (h0 : 0 ≤ n) (hn : n ≤ 1000) : PySem.MulOk z n := by
  refine ⟨?_, fun h1 _ => ?_, fun _ _ => ?_⟩
  · rw [decide_eq_false (by omega), decide_eq_false (by omega)]
    rfl
  · have : (1000 : Int) ≤ (2 ^ 63 - 1) / n := by
      rw [Int.le_ediv_iff_mul_le (by omega)]
      omega
    omega
  · have : z.length * n.toNat ≤ 1000 * 1000 := Nat.mul_le_mul hz (by omega)
    simp [Builtin.Str.tooLong, sizeLine_eq]
    omega
/-- z * n -/
theorem ev_mulS {z : Str} {n : Int} (ha : EV X T a δ (.d (.str z)) δ1) (hb : EV X T b δ1 (.d (.int n)) δ2) (hz : z.length ≤ 1000) (h0 : 0 ≤ n) (hn : n ≤ 1000) : EV X T (.BinOp a .Mult b pos) δ (.d (.str (PySem.Txt.mul z n))) δ2 := fun σ H S Q E k =>
  we_of (pe_op op_mulS pe_w pe_w) (two ha hb E fun v1 v2 H' S' g e p r1 r2 => ⟨z, n, res_str r1, res_int r2, mulOk hz h0 hn, k _ H' S' g e p (.str _)⟩)
/-- xs * n, a new tuple -/
theorem ev_repT {xs : List PyData} {n : Int} (ha : EV X T a δ (.d (.tuple xs)) δ1) (hb : EV X T b δ1 (.d (.int n)) δ2) (hne : xs ≠ []) (hz : xs.length ≤ 1000) (h2 : 2 ≤ n) (hn : n ≤ 1000) : EV X T (.BinOp a .Mult b pos) δ (.d (.tuple (List.replicate n.toNat xs).flatten)) δ2 := fun σ H S Q E k =>
  we_of (pe_op L2.op_repT pe_w pe_w) (two ha hb E fun v1 v2 H' S' g e p r1 r2 => by
    obtain ⟨l, vs, rfl, hs, hd⟩ := res_tup r1
    have hl := dpAll_len hd
    refine ⟨l, n, vs, rfl, res_int r2, sqt_real hs, fun z => hne (List.length_eq_zero_iff.mp (by rw [← hl, z]; rfl)), h2, hn, by rw [hl]; exact hz, fun q hq => ?_⟩
    obtain ⟨g2, e2, x2⟩ := new_tup e hq (dpAll_rep hd n.toNat)
    exact k _ _ _ (g.trans g2) e2 p x2)
end
end Sc
namespace Sc
open PySem L2 NdefX PySem.W
/-! #### is, of bools -/
section
variable {X : Cx} {T : List NTab} {δ δ1 δ2 : List Sl} {a b : Expr} {pos : Pos}
theorem c_isB {x y : Bool} : CmpOk X T δ (.d (.bool x)) (.d (.bool y)) rIsB (decide (x = y)) := fun σ H S H0 P0 Q v1 v2 E r1 r2 q => ⟨x, y, res_bool r1, res_bool r2, q⟩
theorem c_notB {x y : Bool} : CmpOk X T δ (.d (.bool x)) (.d (.bool y)) rNotB (!decide (x = y)) := fun σ H S H0 P0 Q v1 v2 E r1 r2 q => ⟨x, y, res_bool r1, res_bool r2, q⟩
theorem ev_isB {x y : Bool} (ha : EV X T a δ (.d (.bool x)) δ1) (hb : EV X T b δ1 (.d (.bool y)) δ2) : EV X T (.Compare a [.Is] [b] pos) δ (.d (.bool (decide (x = y)))) δ2 := ev_cmp op_isBl c_isB ha hb (nomark _)
theorem tv_isB {x y : Bool} (ha : EV X T a δ (.d (.bool x)) δ1) (hb : EV X T b δ1 (.d (.bool y)) δ2) : TV X T (.Compare a [.Is] [b] pos) δ (decide (x = y)) δ2 := tv_cmp op_isBl c_isB ha hb (nomark _)
theorem ev_notB {x y : Bool} (ha : EV X T a δ (.d (.bool x)) δ1) (hb : EV X T b δ1 (.d (.bool y)) δ2) : EV X T (.Compare a [.IsNot] [b] pos) δ (.d (.bool (!decide (x = y)))) δ2 := ev_cmp op_notBl c_notB ha hb (nomark _)
theorem tv_notB {x y : Bool} (ha : EV X T a δ (.d (.bool x)) δ1) (hb : EV X T b δ1 (.d (.bool y)) δ2) : TV X T (.Compare a [.IsNot] [b] pos) δ (!decide (x = y)) δ2 := tv_cmp op_notBl c_notB ha hb (nomark _)
end
end Sc
namespace Sc
open PySem L2 NdefX PySem.W
/-! #### a slot is forgotten -/
section
variable {X : Cx} {T : List NTab} {W : WX} {δ : List Sl}
theorem go_forget {H : Hp} {S : Addr → Prop} {σ : L2.St} {i : Nat} {s : Sl} (hi : δ[i]? = some s) (hs : s.ow = none) : Go H S (Owned σ δ) H S (Owned σ (δ.set i .no)) :=
  ⟨Same.refl _, fun _ _ _ e _ => e, fun _ h _ _ => h, fun _ h => .inl (own_drop rfl h)⟩
theorem free_of {s : Sl} (h : s.ow = none) : s.free := by
  cases s <;> first | trivial | cases h
theorem svs_forget {st : List Stmt} {o : Out} (i : Nat) {s : Sl} (h : SVs X T W st (δ.set i .no) o) (hi : δ[i]? = some s := by rfl) (hs : s.ow = none := by rfl) : SVs X T W st δ o := fun σ H S D E k =>
  h σ H S D (E.drop i) (k.after (go_forget hi hs) (pin_drop hi (free_of hs)))
theorem ea_forget {f : Bool} {st : List Stmt} {a : An} (i : Nat) {s : Sl} (h : EA X T W f st (δ.set i .no) a) (hi : δ[i]? = some s := by rfl) (hs : s.ow = none := by rfl) : EA X T W f st δ a := let ⟨of, h1, h2, h3⟩ := h; ⟨of, svs_forget i h1 hi hs, h2, h3⟩
theorem ea_by {f : Bool} {st rest : List Stmt} {δ1 : List Sl} {a : An} (h : ∀ o, SVs X T W rest δ1 o → SVs X T W st δ o) (hr : EA X T W f rest δ1 a) : EA X T W f st δ a := let ⟨of, h1, h2, h3⟩ := hr; ⟨of, h of h1, h2, h3⟩
/-- a loop over data that leaves all as it was -/
theorem sv_same {k : Nat} (C : Cok X W k) {tg iter : Expr} {body : List Stmt} {pos : Pos} {st : List Sl} {ds : List PyData} (hi : IV X T tg iter st (.fix ds) st) (h : ∀ d ∈ ds, ∃ δ1, GV X T tg (.d d) st δ1 ∧ SVs X T W body δ1 (.nx st)) (hs : ∀ x, foldedSetIterable iter X.env x = pure x := by intro _; rfl) : SV X T W (.For tg iter body [] pos) st (.nx st) := by
  have q := lf_fold (X := X) (T := T) (W := W) (tg := tg) (body := body) (en := fun d : PyData => d) (st := fun _ : Unit => st) (step := fun s _ => s) (fun xs _ => ∀ d ∈ xs, d ∈ ds) (fun d xs s hI => ⟨fun y hy => hI y (List.mem_cons_of_mem _ hy), h d (hI d List.mem_cons_self)⟩) ds () (fun _ h => h)
  rw [List.map_id'] at q
  exact sv_forF C hi q hs
end
end Sc
namespace Sc
open PySem L2 NdefX PySem.W PyProof.Rows PySem.Calls
/-! #### sorted(xs), data of one kind -/
section
variable {X : Cx} {T : List NTab} {δ δ1 : List Sl} {W : WX} {e : Expr} {p pos : Pos} {n : Nat}
def rSortZ (K : PySem.W.Frag) (u : Nat) : List V → Hp → VK → Prop := fun vs H Q => ∃ (a : Addr) (xs : List V) (ds : List PyData) (h : Hp), vs = [V.ref a] ∧ SqL K H a xs ∧ DpAll K h xs ds ∧ DpAll K H xs ds ∧ AllAlike ds ∧ Sortable ds ∧ (∀ d ∈ ds, u + 2 + d.depth < cLine) ∧
  ∀ (ys : List V) (q : Addr), DpAll K h ys (sortD id ds) → H q = none → Q (.ref q) (upd H q (.lst ys))
theorem cr_sortZ : CallR X (.builtin "sorted") (rSortZ X.K X.A.units) := by
  intro pins s σ H vs us Q I r hh
  obtain ⟨a, xs, ds, h, rfl, hs, hd, hd2, hal, hsk, hu, q⟩ := hh
  obtain ⟨its, rv, hl, hz⟩ := I.list hs
  rw [Vals.ref1 r]
  have lx := dpAll_len hd
  have hal' : AllAlike (ds.map id) := by rw [List.map_id]; exact hal
  have hsk' : Sortable (ds.map id) := by rw [List.map_id]; exact hsk
  refine sorted_data (enc := id) hl.isList (each_dp hd rv) (each_reads I hd2 rv) hal' hsk' (by rw [← lx]; exact hz) hu fun out h1 h2 => ?_
  obtain ⟨ys, dy, ry⟩ := dp_each h2
  obtain ⟨ep, he'⟩ := sortedAll_at s.heap its out.toArray
  have hlen : ys.length ≤ sizeLine := by
    rw [dpAll_len dy, List.length_mergeSort, ← lx]
    exact hz
  exact ⟨.ref _, upd H (s.heap.objs.size + 1) (.lst ys), I.laid (t' := s.toks) (fun _ _ => sortedAll_old) (Nat.le_succ _) ⟨hlen, out, ep, ry, he'⟩, rfl, q _ _ dy (I.hok.fresh (Nat.le_succ _))⟩
theorem ev_sortZ {ds : List PyData} (C : Cok X W n) (B : Bi X.mg) (h : EV X T e δ (.d (.list ds)) δ1) (hal : AllAlike ds) (hsk : Sortable ds) (hu : ∀ d ∈ ds, d.depth ≤ 60) (hg : Gl X "sorted" := by rfl) (he : starEach [e] X.env = (false, eval e X.env) :: starEach [] X.env := by rfl) (hpl : (backTo pos (starEach [] X.env)).any (·.1) = false := by rfl) :
    EV X T (.Call (.Name "sorted" p) [e] [] pos) δ (.o (.lst (sortD id ds))) δ1 := fun σ H S Q E k =>
  we_of (pe_callB cr_sortZ hg B.sorted (by decide +kernel) (pa_cons pe_w pa_nil he) (by decide) (by decide) he hpl) (one_arg h E fun v H1 S1 g e1 p x => by
    obtain ⟨a, xs, rfl, hs, hd⟩ := res_list x
    refine ⟨a, xs, ds, vw H1 S1, rfl, sql_real hs, hd, dpAll_real hd, hal, hsk, fun d hd2 => ?_, fun ys q dy hq => ?_⟩
    · have := C.u66
      have := hu d hd2
      omega
    · obtain ⟨g2, e2, x2⟩ := new_lsto e1 hq dy
      exact k _ _ _ (g.trans g2) e2 p (x2.back g.keep g.ow))
end
end Sc
namespace Sc
open PySem L2 NdefX PySem.W
/-! #### d == {}, d != {} -/
def rNoK (neg : Bool) : R2 := fun x y H Q => ∃ a b r, x = V.ref a ∧ y = V.ref b ∧ Rd H a (.dK r) ∧ Rd H b (.dK []) ∧ Q (.bl (neg != r.isEmpty)) H
section
variable {X : Cx} {T : List NTab} {δ δ1 δ2 : List Sl} {W : WX} {pn pd pos : Pos} {n : Nat} {x : Str}
theorem op_neK0 (hu : X.A.units < cLine) : OpR X (compareOp .NotEq) (rNoK true) := by
  intro pins s σ H x y v u Q I rx ry h
  obtain ⟨a, b, r, rfl, rfl, ha, hb, q⟩ := h
  obtain rfl : v = Value.ref a := rx
  obtain rfl : u = Value.ref b := ry
  obtain ⟨_, sa, vs, kv, da⟩ := dk_rd I.hok ha
  obtain ⟨_, sb, ws, kw, db⟩ := dk_rd I.hok hb
  have ew : ws = [] := by cases kw; rfl
  subst ew
  have hl : vs.length = r.length := (Paired.length kv).symm
  refine keq_ne (r := true) sa sb da db hu (fun e => ?_) ⟨.bl _, H, I, rfl, ?_⟩
  · have e0 : vs = [] := List.length_eq_zero_iff.mp e
    rw [e0]
    exact .nil
  · have e1 : (!((vs.length == ([] : List (Key × Value)).length) && true)) = (true != r.isEmpty) := by
      rw [hl]
      cases r <;> rfl
    rw [e1]
    exact q
theorem op_eqK0 (hu : X.A.units < cLine) : OpR X (compareOp .Eq) (rNoK false) := by
  intro pins s σ H x y v u Q I rx ry h
  obtain ⟨a, b, r, rfl, rfl, ha, hb, q⟩ := h
  obtain rfl : v = Value.ref a := rx
  obtain rfl : u = Value.ref b := ry
  obtain ⟨_, sa, vs, kv, da⟩ := dk_rd I.hok ha
  obtain ⟨_, sb, ws, kw, db⟩ := dk_rd I.hok hb
  have ew : ws = [] := by cases kw; rfl
  subst ew
  have hl : vs.length = r.length := (Paired.length kv).symm
  refine keq_eq (r := true) sa sb da db hu (fun e => ?_) ⟨.bl _, H, I, rfl, ?_⟩
  · have e0 : vs = [] := List.length_eq_zero_iff.mp e
    rw [e0]
    exact .nil
  · have e1 : ((vs.length == ([] : List (Key × Value)).length) && true) = (false != r.isEmpty) := by
      rw [hl]
      cases r <;> rfl
    rw [e1]
    exact q
theorem no_arg {s : Sl} {kvs : List (Key × PyData)} {neg : Bool} (j : Nat) (hj : δ[j]? = some s) (hw : s.ow = some (.dk kvs)) (hN : X.N[j]? = some x) (hv : Vis X.env.scope x) (hdb : (x == ("__debug__" : Str)) = false) (hcd : (x == ("__classdict__" : Str)) = false) {σ : L2.St} {H : Hp} {S : Addr → Prop} (E : Env X.K T H S σ δ) {Q : VK}
    (k : ∀ b H' S', Go H S (Owned σ δ) H' S' (Owned σ δ) → Env X.K T H' S' σ δ → Pin σ δ σ δ → b = (neg != kvs.isEmpty) → Q (.bl b) H') : wE X (.Name x pn) σ H fun v1 H1 => wE X (.Dict [] [] pd) σ H1 fun v2 H2 => rNoK neg v1 v2 H2 Q := by
  obtain ⟨q, eq, ho⟩ := E.own j s _ hj hw
  refine we_of (pe_var hN hv hdb hcd) ⟨.ref q, eq, ?_⟩
  refine ev_dnil σ H S _ E fun v H1 S1 g1 e1 p1 r1 => ?_
  obtain ⟨q1, eq1, r, hq, hd⟩ := e1.own j s _ hj hw
  have : q1 = q := by rw [eq] at eq1; exact (V.ref.inj (Option.some.inj (Option.some.inj eq1))).symm
  subst this
  obtain ⟨b, rfl, _, _, ⟨r0, hb, hr0⟩, _⟩ := r1
  cases hr0
  refine ⟨q1, b, r, rfl, rfl, .inl hq, .inl hb, k _ H1 S1 g1 e1 p1 ?_⟩
  have e2 := kv_len hd
  cases r with
  | nil => cases kvs with
    | nil => rfl
    | cons _ _ => cases e2
  | cons _ _ => cases kvs with
    | nil => cases e2
    | cons _ _ => rfl
theorem ev_neK0 (C : Cok X W n) (j : Nat) {s : Sl} {kvs : List (Key × PyData)} (hj : δ[j]? = some s) (hw : s.ow = some (.dk kvs)) (hN : X.N[j]? = some x := by rfl) (hv : Vis X.env.scope x := by first | exact Or.inl rfl | exact Or.inr (Or.inl rfl) | exact Or.inr (Or.inr rfl))
    (hdb : (x == ("__debug__" : Str)) = false := by decide) (hcd : (x == ("__classdict__" : Str)) = false := by decide) : EV X T (.Compare (.Name x pn) [.NotEq] [.Dict [] [] pd] pos) δ (.d (.bool (!kvs.isEmpty))) δ := fun σ H S Q E kk =>
  we_of (pe_cmpR (op_neK0 (by have := C.u64; omega)) pe_w pe_w (nomark _)) (no_arg (neg := true) j hj hw hN hv hdb hcd E fun b H' S' g e p eb => by
    subst eb
    exact kk _ H' S' g e p (by rw [Bool.true_bne]; exact .bl _))
theorem tv_neK0 (C : Cok X W n) (j : Nat) {s : Sl} {kvs : List (Key × PyData)} (hj : δ[j]? = some s) (hw : s.ow = some (.dk kvs)) (hN : X.N[j]? = some x := by rfl) (hv : Vis X.env.scope x := by first | exact Or.inl rfl | exact Or.inr (Or.inl rfl) | exact Or.inr (Or.inr rfl))
    (hdb : (x == ("__debug__" : Str)) = false := by decide) (hcd : (x == ("__classdict__" : Str)) = false := by decide) : TV X T (.Compare (.Name x pn) [.NotEq] [.Dict [] [] pd] pos) δ (!kvs.isEmpty) δ := fun σ H S Q E kk =>
  wt_of (pt_cmpR (op_neK0 (by have := C.u64; omega)) pe_w pe_w (nomark _)) (no_arg (neg := true) j hj hw hN hv hdb hcd E fun b H' S' g e p eb => by
    subst eb
    exact ⟨_, rfl, by rw [Bool.true_bne]; exact kk H' S' g e p⟩)
theorem ev_eqK0 (C : Cok X W n) (j : Nat) {s : Sl} {kvs : List (Key × PyData)} (hj : δ[j]? = some s) (hw : s.ow = some (.dk kvs)) (hN : X.N[j]? = some x := by rfl) (hv : Vis X.env.scope x := by first | exact Or.inl rfl | exact Or.inr (Or.inl rfl) | exact Or.inr (Or.inr rfl))
    (hdb : (x == ("__debug__" : Str)) = false := by decide) (hcd : (x == ("__classdict__" : Str)) = false := by decide) : EV X T (.Compare (.Name x pn) [.Eq] [.Dict [] [] pd] pos) δ (.d (.bool kvs.isEmpty)) δ := fun σ H S Q E kk =>
  we_of (pe_cmpR (op_eqK0 (by have := C.u64; omega)) pe_w pe_w (nomark _)) (no_arg (neg := false) j hj hw hN hv hdb hcd E fun b H' S' g e p eb => by
    subst eb
    exact kk _ H' S' g e p (by rw [Bool.false_bne]; exact .bl _))
end
end Sc
namespace Sc
open PySem L2 NdefX PySem.W
/-! #### a dict is locked while it is walked -/
section
variable {K : PySem.W.Frag} {T : List NTab} {H H' : Hp} {S S' : Addr → Prop} {σ : L2.St} {δ : List Sl} {i : Nat} {s t : Sl} {w : Ow}
theorem back_set (hi : δ[i]? = some s) (hw : s.ow = t.ow) {j : Nat} {u : Sl} (h : (δ.set i t)[j]? = some u) : ∃ v, δ[j]? = some v ∧ v.ow = u.ow ∧ (i ≠ j → v = u) := by
  have hl := (List.getElem?_eq_some_iff.mp hi).1
  by_cases e : i = j
  · subst e
    rw [List.getElem?_set_self hl] at h
    cases h
    exact ⟨s, hi, hw, fun z => absurd rfl z⟩
  · rw [List.getElem?_set_ne e] at h
    exact ⟨u, h, rfl, fun _ => rfl⟩
theorem own_swap (hi : δ[i]? = some s) (hw : s.ow = t.ow) : Owned σ (δ.set i t) = Owned σ δ := by
  funext p
  refine propext ⟨fun ⟨j, u, w, h1, h2, h3⟩ => ?_, fun ⟨j, u, w, h1, h2, h3⟩ => ?_⟩
  · obtain ⟨v, a, b, _⟩ := back_set hi hw h1
    exact ⟨j, v, w, a, b.trans h2, h3⟩
  · have hl := (List.getElem?_eq_some_iff.mp hi).1
    by_cases e : i = j
    · subst e
      rw [hi] at h1
      cases h1
      exact ⟨i, t, w, List.getElem?_set_self hl, by rw [← hw]; exact h2, h3⟩
    · exact ⟨j, u, w, by rw [List.getElem?_set_ne e]; exact h1, h2, h3⟩
theorem env_swap (E : Env K T H S σ δ) (hi : δ[i]? = some s) (hs : s.ow = some w) (ht : t.ow = some w) : Env K T H S σ (δ.set i t) := by
  have hw : s.ow = t.ow := hs.trans ht.symm
  have hl := (List.getElem?_eq_some_iff.mp hi).1
  have plain : ∀ {j : Nat} {u : Sl}, (δ.set i t)[j]? = some u → u.ow = none → δ[j]? = some u := fun {j u} h hu => by
    obtain ⟨v, a, b, c⟩ := back_set hi hw h
    by_cases e : i = j
    · subst e
      rw [List.getElem?_set_self hl] at h
      cases h
      rw [ht] at hu
      cases hu
    · rw [← c e]
      exact a
  refine ⟨by rw [List.length_set]; exact E.len, fun p h => E.sub p (by rw [own_swap hi hw] at h; exact h), fun j x h => E.dat j x (plain h rfl), fun j v h => E.val j v (plain h rfl), fun j u w' h hu => ?_, fun j k u v w1 w2 p hjk h1 hu h2 hv => ?_, E.tabs⟩
  · obtain ⟨v, a, b, _⟩ := back_set hi hw h
    exact E.own j v w' a (b.trans hu)
  · obtain ⟨u', a, b, _⟩ := back_set hi hw h1
    obtain ⟨v', c, d, _⟩ := back_set hi hw h2
    exact E.apart j k u' v' w1 w2 p hjk a (b.trans hu) c (d.trans hv)
theorem pin_lend {σ : L2.St} (hi : δ[i]? = some s) (hw : s.ow = some w) {w' : Ow} : Pin σ δ σ (δ.set i (.b w')) := fun j u e => by
  refine ⟨rfl, ?_⟩
  by_cases h : i = j
  · subst h
    exact ⟨w', List.getElem?_set_self (List.getElem?_eq_some_iff.mp hi).1⟩
  · exact ⟨u, by rw [List.getElem?_set_ne h]; exact e⟩
end
/-- the slot of a locked dict -/
abbrev lkS (od : Obj) (r : List (Key × V)) (kvs : List (Key × PyData)) : Sl := .b (.fk od r kvs)
section
variable {X : Cx} {T : List NTab} {W : WX} {H : Hp} {S : Addr → Prop} {σ : L2.St} {δ δ2 : List Sl} {i : Nat} {s : Sl} {kvs : List (Key × PyData)}
/-- the lock -/
theorem lock_on (E : Env X.K T H S σ δ) (hi : δ[i]? = some s) (hw : s.ow = some (.dk kvs)) : ∃ q r, σ[i]? = some (some (.ref q)) ∧ H q = some (.dK r) ∧ ∀ od, Go H S (Owned σ δ) (upd H q (.frz od (.dK r))) S (Owned σ (δ.set i (lkS od r kvs))) ∧ Env X.K T (upd H q (.frz od (.dK r))) S σ (δ.set i (lkS od r kvs)) ∧ Pin σ δ σ (δ.set i (lkS od r kvs)) := by
  obtain ⟨q, eq, r, hq, hd⟩ := E.own i s _ hi hw
  refine ⟨q, r, eq, hq, fun od => ?_⟩
  obtain ⟨g, e, p⟩ := E.write (w' := .fk od r kvs) (o := .frz od (.dK r)) hi hw eq fun h m => ⟨rfl, hd.mono m⟩
  have hl := (List.getElem?_eq_some_iff.mp hi).1
  have hp : (s.put (.fk od r kvs)).ow = some (.fk od r kvs) := by
    cases s <;> first | rfl | cases hw
  have h1 : (δ.set i (s.put (.fk od r kvs)))[i]? = some (s.put (.fk od r kvs)) := List.getElem?_set_self hl
  have e2 := env_swap (t := lkS od r kvs) e h1 hp rfl
  have o2 := own_swap (σ := σ) (t := lkS od r kvs) h1 hp
  rw [List.set_set] at e2 o2
  rw [← o2] at g
  exact ⟨g, e2, pin_lend hi hw⟩
/-- and off again -/
theorem lock_off {σ2 : L2.St} {H2 : Hp} {S2 : Addr → Prop} {od : Obj} {r : List (Key × V)} {q : Addr} (E : Env X.K T H2 S2 σ2 (δ2.set i (lkS od r kvs))) (hi : δ2[i]? = some s) (hw : s.ow = some (.dk kvs)) (hq : σ2[i]? = some (some (.ref q))) :
    H2 q = some (.frz od (.dK r)) ∧ Go H2 S2 (Owned σ2 (δ2.set i (lkS od r kvs))) (upd H2 q (.dK r)) S2 (Owned σ2 δ2) ∧ Env X.K T (upd H2 q (.dK r)) S2 σ2 δ2 := by
  have hl := (List.getElem?_eq_some_iff.mp hi).1
  have h1 : (δ2.set i (lkS od r kvs))[i]? = some (lkS od r kvs) := List.getElem?_set_self hl
  obtain ⟨q', eq, ho, hd⟩ := E.own i _ _ h1 rfl
  rw [hq] at eq
  cases eq
  obtain ⟨g, e, _⟩ := E.write (w' := .dk kvs) (o := .dK r) h1 rfl hq fun h m => ⟨r, rfl, hd.mono m⟩
  have h2 : ((δ2.set i (lkS od r kvs)).set i ((lkS od r kvs).put (.dk kvs)))[i]? = some (.b (.dk kvs)) := List.getElem?_set_self (by rw [List.length_set]; exact hl)
  have e2 := env_swap (t := s) e h2 rfl hw
  have o2 := own_swap (σ := σ2) (t := s) h2 hw.symm
  have back : δ2.set i s = δ2 := by
    refine List.ext_getElem? fun j => ?_
    by_cases e : i = j
    · subst e
      rw [List.getElem?_set_self hl, hi]
    · rw [List.getElem?_set_ne e]
  rw [List.set_set, List.set_set, back] at e2 o2
  rw [← o2] at g
  exact ⟨ho, g, e2⟩
theorem lock_pin {σ2 : L2.St} {od : Obj} {r : List (Key × V)} (hi : δ[i]? = some s) (p : Pin σ (δ.set i (lkS od r kvs)) σ2 δ2) : σ2[i]? = σ[i]? := (p i _ (List.getElem?_set_self (List.getElem?_eq_some_iff.mp hi).1)).1
/-- back to where no slot but i was lent -/
theorem pin_back {σ2 : L2.St} {od : Obj} {r : List (Key × V)} (hi : δ[i]? = some s) (hw : s.ow = some (.dk kvs)) (h2 : δ2[i]? = some s) (p : Pin σ δ σ2 (δ2.set i (lkS od r kvs))) : Pin σ δ σ2 δ2 := fun j u e => by
  obtain ⟨a, w', b⟩ := p j u e
  refine ⟨a, ?_⟩
  by_cases h : i = j
  · subst h
    rw [hi] at e
    cases e
    exact ⟨_, h2⟩
  · rw [List.getElem?_set_ne h] at b
    exact ⟨w', b⟩
def Out.sl : Out → List Sl
  | .nx δ => δ
  | .ret _ δ => δ
  | .brk δ => δ
  | .ct δ => δ
  | .ex _ δ => δ
theorem sv_lock {st : Stmt} {o : Out} (i : Nat) {s : Sl} {kvs : List (Key × PyData)} (hi : δ[i]? = some s) (hw : s.ow = some (.dk kvs)) (ho : o.sl[i]? = some s) (hx : ∀ x δ', o ≠ .ex x δ') (h : ∀ od r, SV X T W st (δ.set i (lkS od r kvs)) (o.upS fun δ' => δ'.set i (lkS od r kvs))) : SV X T W st δ o := fun σ H S D E k => by
  obtain ⟨q, r, eq, hq, key⟩ := lock_on E hi hw
  refine ws_of (ps_lock ps_w) ⟨q, .dK r, hq, True.intro, fun od => ?_⟩
  obtain ⟨g1, e1, p1⟩ := key od
  refine h od r σ _ S _ e1 ?_
  cases o with
  | nx δ2 =>
    intro σ2 H2 S2 g2 e2 p2
    obtain ⟨a, g3, e3⟩ := lock_off (δ2 := δ2) e2 ho hw ((lock_pin hi p2).trans eq)
    exact ⟨a, k σ2 _ S2 ((g1.trans g2).trans g3) e3 (pin_back hi hw ho (p1.trans p2))⟩
  | brk δ2 =>
    intro σ2 H2 S2 g2 e2 p2
    obtain ⟨a, g3, e3⟩ := lock_off (δ2 := δ2) e2 ho hw ((lock_pin hi p2).trans eq)
    exact ⟨a, k σ2 _ S2 ((g1.trans g2).trans g3) e3 (pin_back hi hw ho (p1.trans p2))⟩
  | ct δ2 =>
    intro σ2 H2 S2 g2 e2 p2
    obtain ⟨a, g3, e3⟩ := lock_off (δ2 := δ2) e2 ho hw ((lock_pin hi p2).trans eq)
    exact ⟨a, k σ2 _ S2 ((g1.trans g2).trans g3) e3 (pin_back hi hw ho (p1.trans p2))⟩
  | ret rr δ2 =>
    intro v σ2 H2 S2 g2 e2 p2 x2
    obtain ⟨a, g3, e3⟩ := lock_off (δ2 := δ2) e2 ho hw ((lock_pin hi p2).trans eq)
    exact ⟨a, k v σ2 _ S2 ((g1.trans g2).trans g3) e3 (pin_back hi hw ho (p1.trans p2)) ((x2.back g1.keep g1.ow).go g3)⟩
  | ex x δ2 => exact (hx x δ2 rfl).elim
theorem ev_lock {e : Expr} {rr : Sl} (i : Nat) {s : Sl} {kvs : List (Key × PyData)} (hi : δ[i]? = some s) (hw : s.ow = some (.dk kvs)) (h2 : δ2[i]? = some s) (h : ∀ od r, EV X T e (δ.set i (lkS od r kvs)) rr (δ2.set i (lkS od r kvs))) : EV X T e δ rr δ2 := fun σ H S Q E k => by
  obtain ⟨q, r, eq, hq, key⟩ := lock_on E hi hw
  refine we_of (pe_lock pe_w) ⟨q, .dK r, hq, True.intro, fun od => ?_⟩
  obtain ⟨g1, e1, p1⟩ := key od
  refine h od r σ _ S _ e1 fun v H2 S2 g2 e2 p2 x2 => ?_
  obtain ⟨a, g3, e3⟩ := lock_off (δ2 := δ2) e2 h2 hw ((lock_pin hi p2).trans eq)
  exact ⟨a, k v _ S2 ((g1.trans g2).trans g3) e3 (pin_back hi hw h2 (p1.trans p2)) ((x2.back g1.keep g1.ow).go g3)⟩
end
section
variable {X : Cx} {T : List NTab} {W : WX} {δ : List Sl} {tg : Expr} {x : Str} {pos : Pos} {w : Ow} {body : List Stmt} {o : Out} {j : Nat}
/-- the keys of a locked dict -/
theorem iv_keyF (j : Nat) {od : Obj} {r : List (Key × V)} {kvs : List (Key × PyData)} (hj : δ[j]? = some (lkS od r kvs)) (hN : X.N[j]? = some x := by rfl) (hv : Vis X.env.scope x := by first | exact Or.inl rfl | exact Or.inr (Or.inl rfl) | exact Or.inr (Or.inr rfl)) (hdb : (x == ("__debug__" : Str)) = false := by decide)
    (hcd : (x == ("__classdict__" : Str)) = false := by decide) : IV X T tg (.Name x pos) δ (.key j (.fk od r kvs) (keysD kvs)) δ := fun σ H S R E k => by
  obtain ⟨a, e, ho, hd⟩ := E.own j _ _ hj rfl
  refine wi_of (pi_keys (pe_var hN hv hdb hcd)) ⟨.ref a, e, a, od, rfl, .inl ⟨r, ho, k _ H S (Go.refl _ _ _) E (Pin.refl _ _) ?_⟩⟩
  intro σ2 H2 S2 δ2 ds2 E2 m2 hs he
  unfold srcAt at he
  dsimp only at he
  split at he
  · rename_i h1
    cases he
    cases e3 : δ2[j]? with
    | none => rw [e3] at h1; cases h1
    | some t =>
      rw [e3] at h1
      have ht : t.ow = some (.fk od r kvs) := h1
      obtain ⟨b, e5, ho2, hd2⟩ := E2.own j t _ e3 ht
      rw [hs j rfl, e] at e5
      cases e5
      have hl : (keysD kvs).length = r.length := (List.length_map _).trans (kv_len hd2).symm
      refine ⟨fun i hi => ⟨ho2, by omega⟩, fun i hi => ⟨ho2, by omega⟩, fun i y H' d hy hi => ⟨S2, ?_⟩⟩
      obtain ⟨e6, k, v, h6, h7⟩ := hy
      subst e6 h7
      have h8 : (kvs.map (·.1))[i]? = some k := by
        rw [← kv_keys hd2, List.getElem?_map, h6]
        rfl
      have h9 : d = kD k := by
        have h10 : keysD kvs = (kvs.map (·.1)).map kD := by unfold keysD; rw [List.map_map]; rfl
        rw [h10, List.getElem?_map, h8] at hi
        exact (Option.some.inj hi).symm
      rw [h9]
      exact ⟨Go.refl _ _ _, E2, key_dp k⟩
  · cases he
def LoopQ (X : Cx) (T : List NTab) (W : WX) (tg : Expr) (body : List Stmt) (j : Nat) (w : Ow) (ds : List PyData) (δ : List Sl) (o : Out) : Prop := ∀ (pre : List PyData) (i : Nat), pre.length = i → Loop X T W tg body (.key j w (pre ++ ds)) i δ o
theorem key_at (h : (δ[j]?).bind Sl.ow = some w) (ds : List PyData) : srcAt (.key j w ds) δ = some ds := by
  unfold srcAt
  dsimp only
  rw [if_pos h]
theorem lq_fold {α σ : Type} {en : α → PyData} {st : σ → List Sl} {step : σ → α → σ} (I : List α → σ → Prop) (hst : ∀ s, ((st s)[j]?).bind Sl.ow = some w)
    (h : ∀ x xs s, I (x :: xs) s → I xs (step s x) ∧ ∃ δ1, GV X T tg (.d (en x)) (st s) δ1 ∧ SVs X T W body δ1 (.nx (st (step s x)))) :
    ∀ xs s, I xs s → LoopQ X T W tg body j w (xs.map en) (st s) (.nx (st (xs.foldl step s)))
  | [], s, _ => fun pre i hp => .done (key_at (hst s) _) (by simp [hp])
  | x :: xs, s, hI => fun pre i hp => by
    obtain ⟨h1, δ1, h2, h3⟩ := h x xs s hI
    have q := lq_fold I hst h xs (step s x) h1 (pre ++ [en x]) (i + 1) (by simp [hp])
    rw [List.append_assoc] at q
    exact .nx (key_at (hst s) _) (at_pre hp) h2 h3 q
/-- for x in d, d not changed -/
theorem sv_forK {α σ : Type} {en : α → PyData} {st : σ → List Sl} {step : σ → α → σ} {k : Nat} {s : Sl} {kvs : List (Key × PyData)} (C : Cok X W k) (j : Nat) (I : List α → σ → Prop) (hst : ∀ a, (st a)[j]? = some s) (hw : s.ow = some (.dk kvs))
    (h : ∀ od r, ∀ x xs a, I (x :: xs) a → I xs (step a x) ∧ ∃ δ1, GV X T tg (.d (en x)) ((st a).set j (lkS od r kvs)) δ1 ∧ SVs X T W body δ1 (.nx ((st (step a x)).set j (lkS od r kvs)))) (xs : List α) (a : σ) (h0 : I xs a) (hk : keysD kvs = xs.map en)
    (hN : X.N[j]? = some x := by rfl) (hv : Vis X.env.scope x := by first | exact Or.inl rfl | exact Or.inr (Or.inl rfl) | exact Or.inr (Or.inr rfl)) (hdb : (x == ("__debug__" : Str)) = false := by decide)
    (hcd : (x == ("__classdict__" : Str)) = false := by decide) {pf : Pos} (hs : ∀ v, foldedSetIterable (.Name x pos) X.env v = pure v := by intro _; rfl) : SV X T W (.For tg (.Name x pos) body [] pf) (st a) (.nx (st (xs.foldl step a))) := by
  refine sv_lock j (hst a) hw (hst _) (fun _ _ z => nomatch z) fun od r => ?_
  have hb : ∀ a, ((st a).set j (lkS od r kvs))[j]? = some (lkS od r kvs) := fun a => List.getElem?_set_self (List.getElem?_eq_some_iff.mp (hst a)).1
  have q := lq_fold (j := j) (w := .fk od r kvs) (st := fun a => (st a).set j (lkS od r kvs)) I (fun a => by rw [hb]; rfl) (h od r) xs a h0 [] 0 rfl
  rw [List.nil_append, ← hk] at q
  exact sv_for C (iv_keyF j (hb a) hN hv hdb hcd) (fun i e => by
    have e : j = i := Option.some.inj e
    subst e
    exact ⟨_, hb a⟩) q hs
/-! comprehensions over the keys -/
section
variable {scope : Scope} {vs : List Nat} {ifs : List Expr} {elt : Expr}
def CompQ (X : Cx) (T : List NTab) (scope : Scope) (vs : List Nat) (tg : Expr) (ifs : List Expr) (elt : Expr) (j : Nat) (w : Ow) (ds : List PyData) (δ : List Sl) (ys : List PyData) (δ' : List Sl) : Prop := ∀ (pre : List PyData) (i : Nat), pre.length = i → Comp X T scope vs tg ifs elt (.key j w (pre ++ ds)) i δ ys δ'
theorem cq_mapE {α : Type} {en f : α → PyData} {c : α → Bool} {st1 st2 st3 : α → List Sl} : ∀ {xs : List α}, (hg : ∀ x ∈ xs, Bl X scope (fun X => GW X T vs tg (.d (en x)) δ (st1 x))) → (ht : ∀ x ∈ xs, Bl X scope (fun X => TVs X T ifs (st1 x) (c x) (st2 x))) → (he : ∀ x ∈ xs, c x = true → Bl X scope (fun X => EV X T elt (st2 x) (.d (f x)) (st3 x))) →
    (hj : (δ[j]?).bind Sl.ow = some w) → (h2 : ∀ x, wipeD (st2 x) vs = δ) → (h3 : ∀ x, wipeD (st3 x) vs = δ) → CompQ X T scope vs tg ifs elt j w (xs.map en) δ ((xs.filter c).map f) δ
  | [], _, _, _, hj, _, _ => fun pre i hp => .done (key_at hj _) (by simp [hp])
  | x :: xs, hg, ht, he, hj, h2, h3 => fun pre i hp => by
    have q := cq_mapE (xs := xs) (fun y hy => hg y (List.mem_cons_of_mem _ hy)) (fun y hy => ht y (List.mem_cons_of_mem _ hy)) (fun y hy => he y (List.mem_cons_of_mem _ hy)) hj h2 h3 (pre ++ [en x]) (i + 1) (by simp [hp])
    rw [List.append_assoc] at q
    have g := hg x List.mem_cons_self
    have t := ht x List.mem_cons_self
    cases e : c x with
    | true =>
      rw [List.filter_cons_of_pos e]
      rw [e] at t
      exact .yes (key_at hj _) (at_pre hp) g t (he x List.mem_cons_self e) (by rw [h3 x]; exact q)
    | false =>
      rw [List.filter_cons_of_neg (by rw [e]; exact Bool.false_ne_true)]
      rw [e] at t
      exact .no (key_at hj _) (at_pre hp) g t (by rw [h2 x]; exact q)
theorem cq_mapF {α : Type} {xs : List α} {en f : α → PyData} {c : α → Bool} {st1 st2 st3 : α → List Sl} {ds ys : List PyData} (hds : ds = xs.map en) (hg : ∀ x ∈ xs, Bl X scope (fun X => GW X T vs tg (.d (en x)) δ (st1 x))) (ht : ∀ x ∈ xs, Bl X scope (fun X => TVs X T ifs (st1 x) (c x) (st2 x))) (he : ∀ x ∈ xs, c x = true → Bl X scope (fun X => EV X T elt (st2 x) (.d (f x)) (st3 x)))
    (hys : (xs.filter c).map f = ys) (hj : (δ[j]?).bind Sl.ow = some w := by rfl) (h2 : ∀ x, wipeD (st2 x) vs = δ := by intro _; rfl) (h3 : ∀ x, wipeD (st3 x) vs = δ := by intro _; rfl) : CompQ X T scope vs tg ifs elt j w ds δ ys δ := by
  rw [hds, ← hys]
  exact cq_mapE hg ht he hj h2 h3
/-- [.. for .. in d ..] -/
theorem ev_lcK {k : Nat} (C : Cok X W k) (own : List (Str × Nat)) (j : Nat) {s : Sl} {kvs : List (Key × PyData)} {ys : List PyData} {pf : Pos} (hj : δ[j]? = some s) (hw : s.ow = some (.dk kvs))
    (h : ∀ od r, CompQ X T scope (own.map (·.2)) tg ifs elt j (.fk od r kvs) (keysD kvs) (wipeD (δ.set j (lkS od r kvs)) (own.map (·.2))) ys (wipeD (δ.set j (lkS od r kvs)) (own.map (·.2)))) (hz : ys.length ≤ sizeLine)
    (hN : X.N[j]? = some x := by rfl) (hv : Vis X.env.scope x := by first | exact Or.inl rfl | exact Or.inr (Or.inl rfl) | exact Or.inr (Or.inr rfl)) (hdb : (x == ("__debug__" : Str)) = false := by decide) (hcd : (x == ("__classdict__" : Str)) = false := by decide)
    (hm : ∀ od r, mendD (δ.set j (lkS od r kvs)) (wipeD (δ.set j (lkS od r kvs)) (own.map (·.2))) (own.map (·.2)) = δ.set j (lkS od r kvs) := by intro _ _; rfl) (hji : j ∉ own.map (·.2) := by decide)
    (ok : blkC X.N X.env.scope scope own = true := by rfl) (ho : ∀ od r, ((own.map (·.2)).all fun i => (((δ.set j (lkS od r kvs))[i]?).bind Sl.ow).isNone) = true := by intro _ _; rfl) (hs : ∀ v, foldedSetIterable (.Name x pos) X.env v = pure v := by intro _; rfl) :
    EV X T (.ListComp elt [⟨tg, .Name x pos, ifs, 0⟩] scope pf) δ (.o (.lst ys)) δ := by
  refine ev_lock j hj hw hj fun od r => ?_
  have hb : (δ.set j (lkS od r kvs))[j]? = some (lkS od r kvs) := List.getElem?_set_self (List.getElem?_eq_some_iff.mp hj).1
  have q := ev_lc (T := T) (δ := δ.set j (lkS od r kvs)) (pos := pf) C.calm C.nd ok (iv_keyF j hb hN hv hdb hcd) (fun i e => by
    have e : j = i := Option.some.inj e
    subst e
    exact hji) (ownFree (ho od r)) (h od r [] 0 rfl) hz hs
  rw [hm od r] at q
  exact q
end
end
end Sc
namespace Sc
open PySem L2 NdefX PySem.W
/-! #### a text within a text -/
def hasS (x y : Str) : Bool := !(Builtin.Str.occurrences x y 0 x.length 1).isEmpty
theorem hasS_iff {x y : Str} : hasS x y = true ↔ ∃ a b, x.cps.toList = a ++ (y.cps.toList ++ b) := by
  unfold hasS
  rw [StrLaws.found_iff]
  constructor
  · rintro ⟨i, h1, h2⟩
    rw [StrLaws.subAt_eq] at h2
    have h2 : (x.cps.toList.drop i).take y.length = y.cps.toList := by simpa using h2
    exact ⟨x.cps.toList.take i, x.cps.toList.drop (i + y.length), by rw [← h2, ← List.drop_drop, List.take_append_drop, List.take_append_drop]⟩
  · rintro ⟨a, b, e⟩
    refine ⟨a.length, ?_, ?_⟩
    · have := congrArg List.length e
      simp only [List.length_append] at this
      rw [len_cps, len_cps]
      omega
    · rw [StrLaws.subAt_eq, e, List.drop_left', len_cps, List.take_left']
      · simp
      · rfl
      · rfl
section
variable {X : Cx} {T : List NTab} {δ δ1 δ2 : List Sl} {a b : Expr} {pos : Pos}
theorem c_inSS {x y : Str} : CmpOk X T δ (.d (.str y)) (.d (.str x)) (fun v1 v2 H Q => ∃ i j, v1 = .str i ∧ v2 = .str j ∧ Q (.bl (!(Builtin.Str.occurrences j i 0 j.length 1).isEmpty)) H) (hasS x y) := fun σ H S H0 P0 Q v1 v2 E r1 r2 q => ⟨y, x, res_str r1, res_str r2, q⟩
theorem c_ninSS {x y : Str} : CmpOk X T δ (.d (.str y)) (.d (.str x)) (fun v1 v2 H Q => ∃ i j, v1 = .str i ∧ v2 = .str j ∧ Q (.bl (!(!(Builtin.Str.occurrences j i 0 j.length 1).isEmpty))) H) (!hasS x y) := fun σ H S H0 P0 Q v1 v2 E r1 r2 q => ⟨y, x, res_str r1, res_str r2, q⟩
theorem ev_inSS {x y : Str} (ha : EV X T a δ (.d (.str y)) δ1) (hb : EV X T b δ1 (.d (.str x)) δ2) (hm : behindInMarks .In b = false := by rfl) : EV X T (.Compare a [.In] [b] pos) δ (.d (.bool (hasS x y))) δ2 := ev_cmp op_in_str c_inSS ha hb hm
theorem tv_inSS {x y : Str} (ha : EV X T a δ (.d (.str y)) δ1) (hb : EV X T b δ1 (.d (.str x)) δ2) (hm : behindInMarks .In b = false := by rfl) : TV X T (.Compare a [.In] [b] pos) δ (hasS x y) δ2 := tv_cmp op_in_str c_inSS ha hb hm
theorem ev_ninSS {x y : Str} (ha : EV X T a δ (.d (.str y)) δ1) (hb : EV X T b δ1 (.d (.str x)) δ2) (hm : behindInMarks .NotIn b = false := by rfl) : EV X T (.Compare a [.NotIn] [b] pos) δ (.d (.bool (!hasS x y))) δ2 := ev_cmp op_notin_str c_ninSS ha hb hm
theorem tv_ninSS {x y : Str} (ha : EV X T a δ (.d (.str y)) δ1) (hb : EV X T b δ1 (.d (.str x)) δ2) (hm : behindInMarks .NotIn b = false := by rfl) : TV X T (.Compare a [.NotIn] [b] pos) δ (!hasS x y) δ2 := tv_cmp op_notin_str c_ninSS ha hb hm
end
end Sc
namespace Sc
open PySem L2 NdefX PySem.W
/-! #### min(a, b), max(a, b) -/
section
variable {X : Cx} {T : List NTab} {δ δ1 δ2 : List Sl} {a b : Expr} {p pos : Pos}
theorem ev_min2 {i j : Int} (B : Bi X.mg) (hc : X.calm = true) (ha : EV X T a δ (.d (.int i)) δ1) (hb : EV X T b δ1 (.d (.int j)) δ2) (hg : Gl X "min" := by rfl) (he : starEach [a, b] X.env = (false, eval a X.env) :: starEach [b] X.env := by rfl) (he2 : starEach [b] X.env = (false, eval b X.env) :: starEach [] X.env := by rfl) (hpl : (backTo pos (starEach [b] X.env)).any (·.1) = false := by rfl) :
    EV X T (.Call (.Name "min" p) [a, b] [] pos) δ (.d (.int (min i j))) δ2 := fun σ H S Q E k =>
  we_of (pe_callB (call_min2 hc) hg B.min (by decide +kernel) (pa_cons pe_w (pa_cons pe_w pa_nil he2) he) (by decide) (by decide) he hpl) (two ha hb E fun v1 v2 H' S' g e q r1 r2 => ⟨i, j, by rw [res_int r1, res_int r2], by
    have z : (if j < i then j else i) = min i j := by split <;> omega
    rw [z]
    exact k _ H' S' g e q (.int _)⟩)
theorem ev_max2 {i j : Int} (B : Bi X.mg) (hc : X.calm = true) (ha : EV X T a δ (.d (.int i)) δ1) (hb : EV X T b δ1 (.d (.int j)) δ2) (hg : Gl X "max" := by rfl) (he : starEach [a, b] X.env = (false, eval a X.env) :: starEach [b] X.env := by rfl) (he2 : starEach [b] X.env = (false, eval b X.env) :: starEach [] X.env := by rfl) (hpl : (backTo pos (starEach [b] X.env)).any (·.1) = false := by rfl) :
    EV X T (.Call (.Name "max" p) [a, b] [] pos) δ (.d (.int (max i j))) δ2 := fun σ H S Q E k =>
  we_of (pe_callB (call_max2 hc) hg B.max (by decide +kernel) (pa_cons pe_w (pa_cons pe_w pa_nil he2) he) (by decide) (by decide) he hpl) (two ha hb E fun v1 v2 H' S' g e q r1 r2 => ⟨i, j, by rw [res_int r1, res_int r2], by
    have z : (if j > i then j else i) = max i j := by split <;> omega
    rw [z]
    exact k _ H' S' g e q (.int _)⟩)
end
end Sc
namespace KL
open PySem L2 NdefX
def top (i : Nat) : Stmt := PySem.Challenge.pw_anyscribe_k24_one_way_exactly.main.body.getD i (.Pass ⟨0, 0, 0, 0⟩)
abbrev s_is_letters : Stmt := top 11
abbrev n_is_letters : List Str := ["value", "sign", "one", "other"]
theorem sc_is_letters : FnScope n_is_letters ["value"] (defScope s_is_letters) := ⟨rfl, rfl, rfl, by decide +kernel, rfl, by decide +kernel, by decide +kernel⟩
abbrev s_need_letters : Stmt := top 12
abbrev n_need_letters : List Str := ["value"]
theorem sc_need_letters : FnScope n_need_letters ["value"] (defScope s_need_letters) := ⟨rfl, rfl, rfl, by decide +kernel, rfl, by decide +kernel, by decide +kernel⟩
abbrev s_is_text : Stmt := top 13
abbrev n_is_text : List Str := ["letters", "value", "most", "sign"]
theorem sc_is_text : FnScope n_is_text ["letters", "value", "most"] (defScope s_is_text) := ⟨rfl, rfl, rfl, by decide +kernel, rfl, by decide +kernel, by decide +kernel⟩
abbrev s_need_text : Stmt := top 14
abbrev n_need_text : List Str := ["letters", "value"]
theorem sc_need_text : FnScope n_need_text ["letters", "value"] (defScope s_need_text) := ⟨rfl, rfl, rfl, by decide +kernel, rfl, by decide +kernel, by decide +kernel⟩
abbrev s_is_kind : Stmt := top 15
abbrev n_is_kind : List Str := ["letters", "value"]
theorem sc_is_kind : FnScope n_is_kind ["letters", "value"] (defScope s_is_kind) := ⟨rfl, rfl, rfl, by decide +kernel, rfl, by decide +kernel, by decide +kernel⟩
abbrev s_are_kinds : Stmt := top 16
abbrev n_are_kinds : List Str := ["letters", "value", "kind"]
theorem sc_are_kinds : FnScope n_are_kinds ["letters", "value"] (defScope s_are_kinds) := ⟨rfl, rfl, rfl, by decide +kernel, rfl, by decide +kernel, by decide +kernel⟩
abbrev s_need_kinds : Stmt := top 17
abbrev n_need_kinds : List Str := ["letters", "value"]
theorem sc_need_kinds : FnScope n_need_kinds ["letters", "value"] (defScope s_need_kinds) := ⟨rfl, rfl, rfl, by decide +kernel, rfl, by decide +kernel, by decide +kernel⟩
abbrev s_by_length : Stmt := top 18
abbrev n_by_length : List Str := ["text"]
theorem sc_by_length : FnScope n_by_length ["text"] (defScope s_by_length) := ⟨rfl, rfl, rfl, by decide +kernel, rfl, by decide +kernel, by decide +kernel⟩
abbrev s_by_place : Stmt := top 19
abbrev n_by_place : List Str := ["deed"]
theorem sc_by_place : FnScope n_by_place ["deed"] (defScope s_by_place) := ⟨rfl, rfl, rfl, by decide +kernel, rfl, by decide +kernel, by decide +kernel⟩
abbrev s_deeds_on : Stmt := top 20
abbrev n_deeds_on : List Str := ["kinds", "text", "found", "l", "r", "place"]
theorem sc_deeds_on : FnScope n_deeds_on ["kinds", "text"] (defScope s_deeds_on) := ⟨rfl, rfl, rfl, by decide +kernel, rfl, by decide +kernel, by decide +kernel⟩
abbrev s_behind_deed : Stmt := top 21
abbrev n_behind_deed : List Str := ["text", "deed", "place", "l", "r"]
theorem sc_behind_deed : FnScope n_behind_deed ["text", "deed"] (defScope s_behind_deed) := ⟨rfl, rfl, rfl, by decide +kernel, rfl, by decide +kernel, by decide +kernel⟩
abbrev s_is_mender : Stmt := top 23
abbrev n_is_mender : List Str := ["kinds", "l", "r"]
theorem sc_is_mender : FnScope n_is_mender ["kinds"] (defScope s_is_mender) := ⟨rfl, rfl, rfl, by decide +kernel, rfl, by decide +kernel, by decide +kernel⟩
abbrev s_need_mender : Stmt := top 24
abbrev n_need_mender : List Str := ["letters", "value"]
theorem sc_need_mender : FnScope n_need_mender ["letters", "value"] (defScope s_need_mender) := ⟨rfl, rfl, rfl, by decide +kernel, rfl, by decide +kernel, by decide +kernel⟩
abbrev s_next_deed : Stmt := top 25
abbrev n_next_deed : List Str := ["mender", "text", "told", "place", "long", "at", "l", "r"]
theorem sc_next_deed : FnScope n_next_deed ["mender", "text"] (defScope s_next_deed) := ⟨rfl, rfl, rfl, by decide +kernel, rfl, by decide +kernel, by decide +kernel⟩
abbrev s_places_of : Stmt := top 26
abbrev n_places_of : List Str := ["text", "l", "place"]
theorem sc_places_of : FnScope n_places_of ["text", "l"] (defScope s_places_of) := ⟨rfl, rfl, rfl, by decide +kernel, rfl, by decide +kernel, by decide +kernel⟩
abbrev s_mended_by : Stmt := top 27
abbrev n_mended_by : List Str := ["mender", "text", "row", "deed"]
theorem sc_mended_by : FnScope n_mended_by ["mender", "text"] (defScope s_mended_by) := ⟨rfl, rfl, rfl, by decide +kernel, rfl, by decide +kernel, by decide +kernel⟩
abbrev s_need_mending : Stmt := top 28
abbrev n_need_mending : List Str := ["letters", "mender", "text"]
theorem sc_need_mending : FnScope n_need_mending ["letters", "mender", "text"] (defScope s_need_mending) := ⟨rfl, rfl, rfl, by decide +kernel, rfl, by decide +kernel, by decide +kernel⟩
abbrev s_mended : Stmt := top 29
abbrev n_mended : List Str := ["letters", "mender", "text"]
theorem sc_mended : FnScope n_mended ["letters", "mender", "text"] (defScope s_mended) := ⟨rfl, rfl, rfl, by decide +kernel, rfl, by decide +kernel, by decide +kernel⟩
abbrev s_ends_of_text : Stmt := top 30
abbrev n_ends_of_text : List Str := ["mender", "text", "found", "here", "one", "deed", "other"]
theorem sc_ends_of_text : FnScope n_ends_of_text ["mender", "text"] (defScope s_ends_of_text) := ⟨rfl, rfl, rfl, by decide +kernel, rfl, by decide +kernel, by decide +kernel⟩
abbrev s_overlaps : Stmt := top 31
abbrev n_overlaps : List Str := ["mender", "found", "one", "r", "other", "s", "size"]
theorem sc_overlaps : FnScope n_overlaps ["mender"] (defScope s_overlaps) := ⟨rfl, rfl, rfl, by decide +kernel, rfl, by decide +kernel, by decide +kernel⟩
abbrev s_parted_text : Stmt := top 32
abbrev n_parted_text : List Str := ["mender", "text"]
theorem sc_parted_text : FnScope n_parted_text ["mender"] (defScope s_parted_text) := ⟨rfl, rfl, rfl, by decide +kernel, rfl, by decide +kernel, by decide +kernel⟩
abbrev s_is_one_way : Stmt := top 33
abbrev n_is_one_way : List Str := ["letters", "mender"]
theorem sc_is_one_way : FnScope n_is_one_way ["letters", "mender"] (defScope s_is_one_way) := ⟨rfl, rfl, rfl, by decide +kernel, rfl, by decide +kernel, by decide +kernel⟩
abbrev s_overlap : Stmt := top 34
abbrev n_overlap : List Str := ["letters", "mender"]
theorem sc_overlap : FnScope n_overlap ["letters", "mender"] (defScope s_overlap) := ⟨rfl, rfl, rfl, by decide +kernel, rfl, by decide +kernel, by decide +kernel⟩
abbrev s__law_taken : Stmt := top 36
abbrev n__law_taken : List Str := ["_law_row", "_law_many", "_law_found", "_law_cell"]
theorem sc__law_taken : FnScope n__law_taken ["_law_row", "_law_many"] (defScope s__law_taken) := ⟨rfl, rfl, rfl, by decide +kernel, rfl, by decide +kernel, by decide +kernel⟩
abbrev s__law_pick : Stmt := top 37
abbrev n__law_pick : List Str := ["_law_row", "_law_things"]
theorem sc__law_pick : FnScope n__law_pick ["_law_row", "_law_things"] (defScope s__law_pick) := ⟨rfl, rfl, rfl, by decide +kernel, rfl, by decide +kernel, by decide +kernel⟩
abbrev s__law_alike : Stmt := top 38
abbrev n__law_alike : List Str := ["_law_found", "_law_due", "_law_k", "_law_key"]
theorem sc__law_alike : FnScope n__law_alike ["_law_found", "_law_due"] (defScope s__law_alike) := ⟨rfl, rfl, rfl, by decide +kernel, rfl, by decide +kernel, by decide +kernel⟩
abbrev s__law_text : Stmt := top 39
abbrev n__law_text : List Str := ["_law_row", "_law_letters", "_law_most", "_law_turn"]
theorem sc__law_text : FnScope n__law_text ["_law_row", "_law_letters", "_law_most"] (defScope s__law_text) := ⟨rfl, rfl, rfl, by decide +kernel, rfl, by decide +kernel, by decide +kernel⟩
abbrev s__law_texts : Stmt := top 40
abbrev n__law_texts : List Str := ["_law_letters", "_law_most", "_law_found", "_law_here", "_law_turn", "_law_longer", "_law_text_here", "_law_sign"]
theorem sc__law_texts : FnScope n__law_texts ["_law_letters", "_law_most"] (defScope s__law_texts) := ⟨rfl, rfl, rfl, by decide +kernel, rfl, by decide +kernel, by decide +kernel⟩
abbrev s__law_deeds : Stmt := top 41
abbrev n__law_deeds : List Str := ["_law_kinds", "_law_text_here", "_law_found", "_law_place", "_law_here", "_law_kind", "_law_l", "_law_r"]
theorem sc__law_deeds : FnScope n__law_deeds ["_law_kinds", "_law_text_here"] (defScope s__law_deeds) := ⟨rfl, rfl, rfl, by decide +kernel, rfl, by decide +kernel, by decide +kernel⟩
abbrev s__law_behind : Stmt := top 42
abbrev n__law_behind : List Str := ["_law_text_here", "_law_deed"]
theorem sc__law_behind : FnScope n__law_behind ["_law_text_here", "_law_deed"] (defScope s__law_behind) := ⟨rfl, rfl, rfl, by decide +kernel, rfl, by decide +kernel, by decide +kernel⟩
abbrev s__law_mender : Stmt := top 43
abbrev n__law_mender : List Str := ["_law_row", "_law_letters", "_law_found", "_law_turn", "_law_l", "_law_kind"]
theorem sc__law_mender : FnScope n__law_mender ["_law_row", "_law_letters"] (defScope s__law_mender) := ⟨rfl, rfl, rfl, by decide +kernel, rfl, by decide +kernel, by decide +kernel⟩
abbrev s__law_ends : Stmt := top 44
abbrev n__law_ends : List Str := ["_law_mender_here", "_law_text_here", "_law_known", "_law_found", "_law_deed", "_law_one"]
theorem sc__law_ends : FnScope n__law_ends ["_law_mender_here", "_law_text_here", "_law_known"] (defScope s__law_ends) := ⟨rfl, rfl, rfl, by decide +kernel, rfl, by decide +kernel, by decide +kernel⟩
abbrev s_law : Stmt := top 45
abbrev n_law : List Str := ["_law_script", "_law_row", "_law_letters", "_law_mender_here", "_law_known", "_law_parted", "_law_due", "_law_text_here", "_law_ends_here"]
theorem sc_law : FnScope n_law ["_law_script"] (defScope s_law) := ⟨rfl, rfl, rfl, by decide +kernel, rfl, by decide +kernel, by decide +kernel⟩
structure Tops (K : PySem.W.Frag) (mg : Str → Option Value) : Prop where
  bi : Sc.Bi mg
  t_is_letters : Sc.Txt K mg "is_letters" s_is_letters []
  t_need_letters : Sc.Txt K mg "need_letters" s_need_letters []
  t_is_text : Sc.Txt K mg "is_text" s_is_text [.int 40]
  t_need_text : Sc.Txt K mg "need_text" s_need_text []
  t_is_kind : Sc.Txt K mg "is_kind" s_is_kind []
  t_are_kinds : Sc.Txt K mg "are_kinds" s_are_kinds []
  t_need_kinds : Sc.Txt K mg "need_kinds" s_need_kinds []
  t_by_length : Sc.Txt K mg "by_length" s_by_length []
  t_by_place : Sc.Txt K mg "by_place" s_by_place []
  t_deeds_on : Sc.Txt K mg "deeds_on" s_deeds_on []
  t_behind_deed : Sc.Txt K mg "behind_deed" s_behind_deed []
  t_is_mender : Sc.Txt K mg "is_mender" s_is_mender []
  t_need_mender : Sc.Txt K mg "need_mender" s_need_mender []
  t_next_deed : Sc.Txt K mg "next_deed" s_next_deed []
  t_places_of : Sc.Txt K mg "places_of" s_places_of []
  t_mended_by : Sc.Txt K mg "mended_by" s_mended_by []
  t_need_mending : Sc.Txt K mg "need_mending" s_need_mending []
  t_mended : Sc.Txt K mg "mended" s_mended []
  t_ends_of_text : Sc.Txt K mg "ends_of_text" s_ends_of_text []
  t_overlaps : Sc.Txt K mg "overlaps" s_overlaps []
  t_parted_text : Sc.Txt K mg "parted_text" s_parted_text []
  t_is_one_way : Sc.Txt K mg "is_one_way" s_is_one_way []
  t_overlap : Sc.Txt K mg "overlap" s_overlap []
  t__law_taken : Sc.Txt K mg "_law_taken" s__law_taken []
  t__law_pick : Sc.Txt K mg "_law_pick" s__law_pick []
  t__law_alike : Sc.Txt K mg "_law_alike" s__law_alike []
  t__law_text : Sc.Txt K mg "_law_text" s__law_text []
  t__law_texts : Sc.Txt K mg "_law_texts" s__law_texts []
  t__law_deeds : ∃ c P, Sc.TxtC K mg "_law_deeds" s__law_deeds c P
  t__law_behind : Sc.Txt K mg "_law_behind" s__law_behind []
  t__law_mender : Sc.Txt K mg "_law_mender" s__law_mender []
  t__law_ends : Sc.Txt K mg "_law_ends" s__law_ends []
  t_law : Sc.Txt K mg "law" s_law []
  g_SMALL : ∃ t, mg "SMALL" = some (.str "abcdefghijklmnopqrstuvwxyz" t)
  g_MOST_LETTERS : ∃ t, mg "MOST_LETTERS" = some (.int 4 t)
  g_MOST_SIGNS : ∃ t, mg "MOST_SIGNS" = some (.int 40 t)
  g_MOST_KINDS : ∃ t, mg "MOST_KINDS" = some (.int 12 t)
theorem tops_mk {K : PySem.W.Frag} {h : Heap} {mg : Str → Option Value} (X : K.In h) (G : h.Ns mainGlobals mg)
    {od0 an0 : Option Addr} {sl0 : Array (Option Value)} {oc0 kV0 dc0 pm0 cd0 ct0 : Value} {f0 : Addr}
    {od1 an1 : Option Addr} {sl1 : Array (Option Value)} {oc1 kV1 dc1 pm1 cd1 ct1 : Value} {f1 : Addr}
    {od2 an2 : Option Addr} {sl2 : Array (Option Value)} {oc2 kV2 dc2 pm2 cd2 ct2 : Value} {f2 : Addr}
    {dt2 : Addr} {dcl2 : Value} {dod2 : Option Addr} {dn2 : Nat} {dsl2 : Array (Option Value)} {dtok2 : Tok}
    {od3 an3 : Option Addr} {sl3 : Array (Option Value)} {oc3 kV3 dc3 pm3 cd3 ct3 : Value} {f3 : Addr}
    {od4 an4 : Option Addr} {sl4 : Array (Option Value)} {oc4 kV4 dc4 pm4 cd4 ct4 : Value} {f4 : Addr}
    {od5 an5 : Option Addr} {sl5 : Array (Option Value)} {oc5 kV5 dc5 pm5 cd5 ct5 : Value} {f5 : Addr}
    {od6 an6 : Option Addr} {sl6 : Array (Option Value)} {oc6 kV6 dc6 pm6 cd6 ct6 : Value} {f6 : Addr}
    {od7 an7 : Option Addr} {sl7 : Array (Option Value)} {oc7 kV7 dc7 pm7 cd7 ct7 : Value} {f7 : Addr}
    {od8 an8 : Option Addr} {sl8 : Array (Option Value)} {oc8 kV8 dc8 pm8 cd8 ct8 : Value} {f8 : Addr}
    {od9 an9 : Option Addr} {sl9 : Array (Option Value)} {oc9 kV9 dc9 pm9 cd9 ct9 : Value} {f9 : Addr}
    {od10 an10 : Option Addr} {sl10 : Array (Option Value)} {oc10 kV10 dc10 pm10 cd10 ct10 : Value} {f10 : Addr}
    {od11 an11 : Option Addr} {sl11 : Array (Option Value)} {oc11 kV11 dc11 pm11 cd11 ct11 : Value} {f11 : Addr}
    {od12 an12 : Option Addr} {sl12 : Array (Option Value)} {oc12 kV12 dc12 pm12 cd12 ct12 : Value} {f12 : Addr}
    {od13 an13 : Option Addr} {sl13 : Array (Option Value)} {oc13 kV13 dc13 pm13 cd13 ct13 : Value} {f13 : Addr}
    {od14 an14 : Option Addr} {sl14 : Array (Option Value)} {oc14 kV14 dc14 pm14 cd14 ct14 : Value} {f14 : Addr}
    {od15 an15 : Option Addr} {sl15 : Array (Option Value)} {oc15 kV15 dc15 pm15 cd15 ct15 : Value} {f15 : Addr}
    {od16 an16 : Option Addr} {sl16 : Array (Option Value)} {oc16 kV16 dc16 pm16 cd16 ct16 : Value} {f16 : Addr}
    {od17 an17 : Option Addr} {sl17 : Array (Option Value)} {oc17 kV17 dc17 pm17 cd17 ct17 : Value} {f17 : Addr}
    {od18 an18 : Option Addr} {sl18 : Array (Option Value)} {oc18 kV18 dc18 pm18 cd18 ct18 : Value} {f18 : Addr}
    {od19 an19 : Option Addr} {sl19 : Array (Option Value)} {oc19 kV19 dc19 pm19 cd19 ct19 : Value} {f19 : Addr}
    {od20 an20 : Option Addr} {sl20 : Array (Option Value)} {oc20 kV20 dc20 pm20 cd20 ct20 : Value} {f20 : Addr}
    {od21 an21 : Option Addr} {sl21 : Array (Option Value)} {oc21 kV21 dc21 pm21 cd21 ct21 : Value} {f21 : Addr}
    {od22 an22 : Option Addr} {sl22 : Array (Option Value)} {oc22 kV22 dc22 pm22 cd22 ct22 : Value} {f22 : Addr}
    {od23 an23 : Option Addr} {sl23 : Array (Option Value)} {oc23 kV23 dc23 pm23 cd23 ct23 : Value} {f23 : Addr}
    {od24 an24 : Option Addr} {sl24 : Array (Option Value)} {oc24 kV24 dc24 pm24 cd24 ct24 : Value} {f24 : Addr}
    {od25 an25 : Option Addr} {sl25 : Array (Option Value)} {oc25 kV25 dc25 pm25 cd25 ct25 : Value} {f25 : Addr}
    {od26 an26 : Option Addr} {sl26 : Array (Option Value)} {oc26 kV26 dc26 pm26 cd26 ct26 : Value} {f26 : Addr}
    {od27 an27 : Option Addr} {sl27 : Array (Option Value)} {oc27 kV27 dc27 pm27 cd27 ct27 : Value} {f27 : Addr}
    {od28 an28 : Option Addr} {sl28 : Array (Option Value)} {oc28 kV28 dc28 pm28 ct28 : Value} {f28 lc28 lp28 : Addr}
    {te28 : Value} {td28 : Option Addr} {tv28 : Array Value} {ts28 : Array (Option Value)}
    {od29 an29 : Option Addr} {sl29 : Array (Option Value)} {oc29 kV29 dc29 pm29 cd29 ct29 : Value} {f29 : Addr}
    {od30 an30 : Option Addr} {sl30 : Array (Option Value)} {oc30 kV30 dc30 pm30 cd30 ct30 : Value} {f30 : Addr}
    {od31 an31 : Option Addr} {sl31 : Array (Option Value)} {oc31 kV31 dc31 pm31 cd31 ct31 : Value} {f31 : Addr}
    {od32 an32 : Option Addr} {sl32 : Array (Option Value)} {oc32 kV32 dc32 pm32 cd32 ct32 : Value} {f32 : Addr}
    {gt0 : Tok}
    {gt1 : Tok}
    {gt2 : Tok}
    {gt3 : Tok}
    (a0 : PySem.W.nsIn K mainGlobals "is_letters" = some (some (.ref f0)))
    (l0 : K.lookup f0 = some ⟨oc0, od0, .func (PySem.W.fnOf "is_letters" "is_letters" (defArgs s_is_letters) (defBody s_is_letters) (defScope s_is_letters) .none kV0 dc0 pm0 an0 cd0 ct0), sl0⟩)
    (c0 : PySem.W.codeIn K cd0 "is_letters" = true) (k0 : PySem.W.keepIn K (.ref f0) = true)
    (a1 : PySem.W.nsIn K mainGlobals "need_letters" = some (some (.ref f1)))
    (l1 : K.lookup f1 = some ⟨oc1, od1, .func (PySem.W.fnOf "need_letters" "need_letters" (defArgs s_need_letters) (defBody s_need_letters) (defScope s_need_letters) .none kV1 dc1 pm1 an1 cd1 ct1), sl1⟩)
    (c1 : PySem.W.codeIn K cd1 "need_letters" = true) (k1 : PySem.W.keepIn K (.ref f1) = true)
    (a2 : PySem.W.nsIn K mainGlobals "is_text" = some (some (.ref f2)))
    (l2 : K.lookup f2 = some ⟨oc2, od2, .func (PySem.W.fnOf "is_text" "is_text" (defArgs s_is_text) (defBody s_is_text) (defScope s_is_text) (.ref dt2) kV2 dc2 pm2 an2 cd2 ct2), sl2⟩)
    (c2 : PySem.W.codeIn K cd2 "is_text" = true) (k2 : PySem.W.keepIn K (.ref f2) = true)
    (d2 : K.lookup dt2 = some ⟨dcl2, dod2, .seq #[.int 40 dtok2] dn2, dsl2⟩)
    (a3 : PySem.W.nsIn K mainGlobals "need_text" = some (some (.ref f3)))
    (l3 : K.lookup f3 = some ⟨oc3, od3, .func (PySem.W.fnOf "need_text" "need_text" (defArgs s_need_text) (defBody s_need_text) (defScope s_need_text) .none kV3 dc3 pm3 an3 cd3 ct3), sl3⟩)
    (c3 : PySem.W.codeIn K cd3 "need_text" = true) (k3 : PySem.W.keepIn K (.ref f3) = true)
    (a4 : PySem.W.nsIn K mainGlobals "is_kind" = some (some (.ref f4)))
    (l4 : K.lookup f4 = some ⟨oc4, od4, .func (PySem.W.fnOf "is_kind" "is_kind" (defArgs s_is_kind) (defBody s_is_kind) (defScope s_is_kind) .none kV4 dc4 pm4 an4 cd4 ct4), sl4⟩)
    (c4 : PySem.W.codeIn K cd4 "is_kind" = true) (k4 : PySem.W.keepIn K (.ref f4) = true)
    (a5 : PySem.W.nsIn K mainGlobals "are_kinds" = some (some (.ref f5)))
    (l5 : K.lookup f5 = some ⟨oc5, od5, .func (PySem.W.fnOf "are_kinds" "are_kinds" (defArgs s_are_kinds) (defBody s_are_kinds) (defScope s_are_kinds) .none kV5 dc5 pm5 an5 cd5 ct5), sl5⟩)
    (c5 : PySem.W.codeIn K cd5 "are_kinds" = true) (k5 : PySem.W.keepIn K (.ref f5) = true)
    (a6 : PySem.W.nsIn K mainGlobals "need_kinds" = some (some (.ref f6)))
    (l6 : K.lookup f6 = some ⟨oc6, od6, .func (PySem.W.fnOf "need_kinds" "need_kinds" (defArgs s_need_kinds) (defBody s_need_kinds) (defScope s_need_kinds) .none kV6 dc6 pm6 an6 cd6 ct6), sl6⟩)
    (c6 : PySem.W.codeIn K cd6 "need_kinds" = true) (k6 : PySem.W.keepIn K (.ref f6) = true)
    (a7 : PySem.W.nsIn K mainGlobals "by_length" = some (some (.ref f7)))
    (l7 : K.lookup f7 = some ⟨oc7, od7, .func (PySem.W.fnOf "by_length" "by_length" (defArgs s_by_length) (defBody s_by_length) (defScope s_by_length) .none kV7 dc7 pm7 an7 cd7 ct7), sl7⟩)
    (c7 : PySem.W.codeIn K cd7 "by_length" = true) (k7 : PySem.W.keepIn K (.ref f7) = true)
    (a8 : PySem.W.nsIn K mainGlobals "by_place" = some (some (.ref f8)))
    (l8 : K.lookup f8 = some ⟨oc8, od8, .func (PySem.W.fnOf "by_place" "by_place" (defArgs s_by_place) (defBody s_by_place) (defScope s_by_place) .none kV8 dc8 pm8 an8 cd8 ct8), sl8⟩)
    (c8 : PySem.W.codeIn K cd8 "by_place" = true) (k8 : PySem.W.keepIn K (.ref f8) = true)
    (a9 : PySem.W.nsIn K mainGlobals "deeds_on" = some (some (.ref f9)))
    (l9 : K.lookup f9 = some ⟨oc9, od9, .func (PySem.W.fnOf "deeds_on" "deeds_on" (defArgs s_deeds_on) (defBody s_deeds_on) (defScope s_deeds_on) .none kV9 dc9 pm9 an9 cd9 ct9), sl9⟩)
    (c9 : PySem.W.codeIn K cd9 "deeds_on" = true) (k9 : PySem.W.keepIn K (.ref f9) = true)
    (a10 : PySem.W.nsIn K mainGlobals "behind_deed" = some (some (.ref f10)))
    (l10 : K.lookup f10 = some ⟨oc10, od10, .func (PySem.W.fnOf "behind_deed" "behind_deed" (defArgs s_behind_deed) (defBody s_behind_deed) (defScope s_behind_deed) .none kV10 dc10 pm10 an10 cd10 ct10), sl10⟩)
    (c10 : PySem.W.codeIn K cd10 "behind_deed" = true) (k10 : PySem.W.keepIn K (.ref f10) = true)
    (a11 : PySem.W.nsIn K mainGlobals "is_mender" = some (some (.ref f11)))
    (l11 : K.lookup f11 = some ⟨oc11, od11, .func (PySem.W.fnOf "is_mender" "is_mender" (defArgs s_is_mender) (defBody s_is_mender) (defScope s_is_mender) .none kV11 dc11 pm11 an11 cd11 ct11), sl11⟩)
    (c11 : PySem.W.codeIn K cd11 "is_mender" = true) (k11 : PySem.W.keepIn K (.ref f11) = true)
    (a12 : PySem.W.nsIn K mainGlobals "need_mender" = some (some (.ref f12)))
    (l12 : K.lookup f12 = some ⟨oc12, od12, .func (PySem.W.fnOf "need_mender" "need_mender" (defArgs s_need_mender) (defBody s_need_mender) (defScope s_need_mender) .none kV12 dc12 pm12 an12 cd12 ct12), sl12⟩)
    (c12 : PySem.W.codeIn K cd12 "need_mender" = true) (k12 : PySem.W.keepIn K (.ref f12) = true)
    (a13 : PySem.W.nsIn K mainGlobals "next_deed" = some (some (.ref f13)))
    (l13 : K.lookup f13 = some ⟨oc13, od13, .func (PySem.W.fnOf "next_deed" "next_deed" (defArgs s_next_deed) (defBody s_next_deed) (defScope s_next_deed) .none kV13 dc13 pm13 an13 cd13 ct13), sl13⟩)
    (c13 : PySem.W.codeIn K cd13 "next_deed" = true) (k13 : PySem.W.keepIn K (.ref f13) = true)
    (a14 : PySem.W.nsIn K mainGlobals "places_of" = some (some (.ref f14)))
    (l14 : K.lookup f14 = some ⟨oc14, od14, .func (PySem.W.fnOf "places_of" "places_of" (defArgs s_places_of) (defBody s_places_of) (defScope s_places_of) .none kV14 dc14 pm14 an14 cd14 ct14), sl14⟩)
    (c14 : PySem.W.codeIn K cd14 "places_of" = true) (k14 : PySem.W.keepIn K (.ref f14) = true)
    (a15 : PySem.W.nsIn K mainGlobals "mended_by" = some (some (.ref f15)))
    (l15 : K.lookup f15 = some ⟨oc15, od15, .func (PySem.W.fnOf "mended_by" "mended_by" (defArgs s_mended_by) (defBody s_mended_by) (defScope s_mended_by) .none kV15 dc15 pm15 an15 cd15 ct15), sl15⟩)
    (c15 : PySem.W.codeIn K cd15 "mended_by" = true) (k15 : PySem.W.keepIn K (.ref f15) = true)
    (a16 : PySem.W.nsIn K mainGlobals "need_mending" = some (some (.ref f16)))
    (l16 : K.lookup f16 = some ⟨oc16, od16, .func (PySem.W.fnOf "need_mending" "need_mending" (defArgs s_need_mending) (defBody s_need_mending) (defScope s_need_mending) .none kV16 dc16 pm16 an16 cd16 ct16), sl16⟩)
    (c16 : PySem.W.codeIn K cd16 "need_mending" = true) (k16 : PySem.W.keepIn K (.ref f16) = true)
    (a17 : PySem.W.nsIn K mainGlobals "mended" = some (some (.ref f17)))
    (l17 : K.lookup f17 = some ⟨oc17, od17, .func (PySem.W.fnOf "mended" "mended" (defArgs s_mended) (defBody s_mended) (defScope s_mended) .none kV17 dc17 pm17 an17 cd17 ct17), sl17⟩)
    (c17 : PySem.W.codeIn K cd17 "mended" = true) (k17 : PySem.W.keepIn K (.ref f17) = true)
    (a18 : PySem.W.nsIn K mainGlobals "ends_of_text" = some (some (.ref f18)))
    (l18 : K.lookup f18 = some ⟨oc18, od18, .func (PySem.W.fnOf "ends_of_text" "ends_of_text" (defArgs s_ends_of_text) (defBody s_ends_of_text) (defScope s_ends_of_text) .none kV18 dc18 pm18 an18 cd18 ct18), sl18⟩)
    (c18 : PySem.W.codeIn K cd18 "ends_of_text" = true) (k18 : PySem.W.keepIn K (.ref f18) = true)
    (a19 : PySem.W.nsIn K mainGlobals "overlaps" = some (some (.ref f19)))
    (l19 : K.lookup f19 = some ⟨oc19, od19, .func (PySem.W.fnOf "overlaps" "overlaps" (defArgs s_overlaps) (defBody s_overlaps) (defScope s_overlaps) .none kV19 dc19 pm19 an19 cd19 ct19), sl19⟩)
    (c19 : PySem.W.codeIn K cd19 "overlaps" = true) (k19 : PySem.W.keepIn K (.ref f19) = true)
    (a20 : PySem.W.nsIn K mainGlobals "parted_text" = some (some (.ref f20)))
    (l20 : K.lookup f20 = some ⟨oc20, od20, .func (PySem.W.fnOf "parted_text" "parted_text" (defArgs s_parted_text) (defBody s_parted_text) (defScope s_parted_text) .none kV20 dc20 pm20 an20 cd20 ct20), sl20⟩)
    (c20 : PySem.W.codeIn K cd20 "parted_text" = true) (k20 : PySem.W.keepIn K (.ref f20) = true)
    (a21 : PySem.W.nsIn K mainGlobals "is_one_way" = some (some (.ref f21)))
    (l21 : K.lookup f21 = some ⟨oc21, od21, .func (PySem.W.fnOf "is_one_way" "is_one_way" (defArgs s_is_one_way) (defBody s_is_one_way) (defScope s_is_one_way) .none kV21 dc21 pm21 an21 cd21 ct21), sl21⟩)
    (c21 : PySem.W.codeIn K cd21 "is_one_way" = true) (k21 : PySem.W.keepIn K (.ref f21) = true)
    (a22 : PySem.W.nsIn K mainGlobals "overlap" = some (some (.ref f22)))
    (l22 : K.lookup f22 = some ⟨oc22, od22, .func (PySem.W.fnOf "overlap" "overlap" (defArgs s_overlap) (defBody s_overlap) (defScope s_overlap) .none kV22 dc22 pm22 an22 cd22 ct22), sl22⟩)
    (c22 : PySem.W.codeIn K cd22 "overlap" = true) (k22 : PySem.W.keepIn K (.ref f22) = true)
    (a23 : PySem.W.nsIn K mainGlobals "_law_taken" = some (some (.ref f23)))
    (l23 : K.lookup f23 = some ⟨oc23, od23, .func (PySem.W.fnOf "_law_taken" "_law_taken" (defArgs s__law_taken) (defBody s__law_taken) (defScope s__law_taken) .none kV23 dc23 pm23 an23 cd23 ct23), sl23⟩)
    (c23 : PySem.W.codeIn K cd23 "_law_taken" = true) (k23 : PySem.W.keepIn K (.ref f23) = true)
    (a24 : PySem.W.nsIn K mainGlobals "_law_pick" = some (some (.ref f24)))
    (l24 : K.lookup f24 = some ⟨oc24, od24, .func (PySem.W.fnOf "_law_pick" "_law_pick" (defArgs s__law_pick) (defBody s__law_pick) (defScope s__law_pick) .none kV24 dc24 pm24 an24 cd24 ct24), sl24⟩)
    (c24 : PySem.W.codeIn K cd24 "_law_pick" = true) (k24 : PySem.W.keepIn K (.ref f24) = true)
    (a25 : PySem.W.nsIn K mainGlobals "_law_alike" = some (some (.ref f25)))
    (l25 : K.lookup f25 = some ⟨oc25, od25, .func (PySem.W.fnOf "_law_alike" "_law_alike" (defArgs s__law_alike) (defBody s__law_alike) (defScope s__law_alike) .none kV25 dc25 pm25 an25 cd25 ct25), sl25⟩)
    (c25 : PySem.W.codeIn K cd25 "_law_alike" = true) (k25 : PySem.W.keepIn K (.ref f25) = true)
    (a26 : PySem.W.nsIn K mainGlobals "_law_text" = some (some (.ref f26)))
    (l26 : K.lookup f26 = some ⟨oc26, od26, .func (PySem.W.fnOf "_law_text" "_law_text" (defArgs s__law_text) (defBody s__law_text) (defScope s__law_text) .none kV26 dc26 pm26 an26 cd26 ct26), sl26⟩)
    (c26 : PySem.W.codeIn K cd26 "_law_text" = true) (k26 : PySem.W.keepIn K (.ref f26) = true)
    (a27 : PySem.W.nsIn K mainGlobals "_law_texts" = some (some (.ref f27)))
    (l27 : K.lookup f27 = some ⟨oc27, od27, .func (PySem.W.fnOf "_law_texts" "_law_texts" (defArgs s__law_texts) (defBody s__law_texts) (defScope s__law_texts) .none kV27 dc27 pm27 an27 cd27 ct27), sl27⟩)
    (c27 : PySem.W.codeIn K cd27 "_law_texts" = true) (k27 : PySem.W.keepIn K (.ref f27) = true)
    (a28 : PySem.W.nsIn K mainGlobals "_law_deeds" = some (some (.ref f28)))
    (l28 : K.lookup f28 = some ⟨oc28, od28, .func (PySem.W.fnOf "_law_deeds" "_law_deeds" (defArgs s__law_deeds) (defBody s__law_deeds) (defScope s__law_deeds) .none kV28 dc28 pm28 an28 (.ref lc28) ct28), sl28⟩)
    (c28 : PySem.W.codeIn K (.ref lc28) "_law_deeds" = true) (k28 : PySem.W.keepIn K (.ref f28) = true)
    (t28 : K.lookup lc28 = some ⟨te28, td28, .fields tv28, ts28⟩) (u28 : tv28[11]? = some (.ref lp28)) (o28 : K.lookup lp28 = none)
    (a29 : PySem.W.nsIn K mainGlobals "_law_behind" = some (some (.ref f29)))
    (l29 : K.lookup f29 = some ⟨oc29, od29, .func (PySem.W.fnOf "_law_behind" "_law_behind" (defArgs s__law_behind) (defBody s__law_behind) (defScope s__law_behind) .none kV29 dc29 pm29 an29 cd29 ct29), sl29⟩)
    (c29 : PySem.W.codeIn K cd29 "_law_behind" = true) (k29 : PySem.W.keepIn K (.ref f29) = true)
    (a30 : PySem.W.nsIn K mainGlobals "_law_mender" = some (some (.ref f30)))
    (l30 : K.lookup f30 = some ⟨oc30, od30, .func (PySem.W.fnOf "_law_mender" "_law_mender" (defArgs s__law_mender) (defBody s__law_mender) (defScope s__law_mender) .none kV30 dc30 pm30 an30 cd30 ct30), sl30⟩)
    (c30 : PySem.W.codeIn K cd30 "_law_mender" = true) (k30 : PySem.W.keepIn K (.ref f30) = true)
    (a31 : PySem.W.nsIn K mainGlobals "_law_ends" = some (some (.ref f31)))
    (l31 : K.lookup f31 = some ⟨oc31, od31, .func (PySem.W.fnOf "_law_ends" "_law_ends" (defArgs s__law_ends) (defBody s__law_ends) (defScope s__law_ends) .none kV31 dc31 pm31 an31 cd31 ct31), sl31⟩)
    (c31 : PySem.W.codeIn K cd31 "_law_ends" = true) (k31 : PySem.W.keepIn K (.ref f31) = true)
    (a32 : PySem.W.nsIn K mainGlobals "law" = some (some (.ref f32)))
    (l32 : K.lookup f32 = some ⟨oc32, od32, .func (PySem.W.fnOf "law" "law" (defArgs s_law) (defBody s_law) (defScope s_law) .none kV32 dc32 pm32 an32 cd32 ct32), sl32⟩)
    (c32 : PySem.W.codeIn K cd32 "law" = true) (k32 : PySem.W.keepIn K (.ref f32) = true)
    (gg0 : PySem.W.nsIn K mainGlobals "SMALL" = some (some (.str "abcdefghijklmnopqrstuvwxyz" gt0)))
    (gg1 : PySem.W.nsIn K mainGlobals "MOST_LETTERS" = some (some (.int 4 gt1)))
    (gg2 : PySem.W.nsIn K mainGlobals "MOST_SIGNS" = some (some (.int 40 gt2)))
    (gg3 : PySem.W.nsIn K mainGlobals "MOST_KINDS" = some (some (.int 12 gt3)))
    (z_len : PySem.W.nsIn K mainGlobals "len" = some none)
    (z_all : PySem.W.nsIn K mainGlobals "all" = some none)
    (z_any : PySem.W.nsIn K mainGlobals "any" = some none)
    (z_isinstance : PySem.W.nsIn K mainGlobals "isinstance" = some none)
    (z_int : PySem.W.nsIn K mainGlobals "int" = some none)
    (z_str : PySem.W.nsIn K mainGlobals "str" = some none)
    (z_bool : PySem.W.nsIn K mainGlobals "bool" = some none)
    (z_tuple : PySem.W.nsIn K mainGlobals "tuple" = some none)
    (z_list : PySem.W.nsIn K mainGlobals "list" = some none)
    (z_dict : PySem.W.nsIn K mainGlobals "dict" = some none)
    (z_set : PySem.W.nsIn K mainGlobals "set" = some none)
    (z_range : PySem.W.nsIn K mainGlobals "range" = some none)
    (z_enumerate : PySem.W.nsIn K mainGlobals "enumerate" = some none)
    (z_zip : PySem.W.nsIn K mainGlobals "zip" = some none)
    (z_max : PySem.W.nsIn K mainGlobals "max" = some none)
    (z_min : PySem.W.nsIn K mainGlobals "min" = some none)
    (z_sum : PySem.W.nsIn K mainGlobals "sum" = some none)
    (z_sorted : PySem.W.nsIn K mainGlobals "sorted" = some none) : Tops K mg where
  t_is_letters := ⟨f0, _, ⟨⟨oc0, od0, _, kV0, dc0, pm0, an0, cd0, ct0, sl0, rfl, l0, c0, .inl ⟨rfl, rfl⟩, .inl rfl⟩, k0⟩, PySem.W.mg_of X G a0⟩
  t_need_letters := ⟨f1, _, ⟨⟨oc1, od1, _, kV1, dc1, pm1, an1, cd1, ct1, sl1, rfl, l1, c1, .inl ⟨rfl, rfl⟩, .inl rfl⟩, k1⟩, PySem.W.mg_of X G a1⟩
  t_is_text := ⟨f2, _, ⟨⟨oc2, od2, _, kV2, dc2, pm2, an2, cd2, ct2, sl2, rfl, l2, c2, .inr ⟨by simp, dt2, _, [.int 40 dtok2], dn2, rfl, d2, rfl, .cons ⟨_, rfl⟩ .nil⟩, .inl rfl⟩, k2⟩, PySem.W.mg_of X G a2⟩
  t_need_text := ⟨f3, _, ⟨⟨oc3, od3, _, kV3, dc3, pm3, an3, cd3, ct3, sl3, rfl, l3, c3, .inl ⟨rfl, rfl⟩, .inl rfl⟩, k3⟩, PySem.W.mg_of X G a3⟩
  t_is_kind := ⟨f4, _, ⟨⟨oc4, od4, _, kV4, dc4, pm4, an4, cd4, ct4, sl4, rfl, l4, c4, .inl ⟨rfl, rfl⟩, .inl rfl⟩, k4⟩, PySem.W.mg_of X G a4⟩
  t_are_kinds := ⟨f5, _, ⟨⟨oc5, od5, _, kV5, dc5, pm5, an5, cd5, ct5, sl5, rfl, l5, c5, .inl ⟨rfl, rfl⟩, .inl rfl⟩, k5⟩, PySem.W.mg_of X G a5⟩
  t_need_kinds := ⟨f6, _, ⟨⟨oc6, od6, _, kV6, dc6, pm6, an6, cd6, ct6, sl6, rfl, l6, c6, .inl ⟨rfl, rfl⟩, .inl rfl⟩, k6⟩, PySem.W.mg_of X G a6⟩
  t_by_length := ⟨f7, _, ⟨⟨oc7, od7, _, kV7, dc7, pm7, an7, cd7, ct7, sl7, rfl, l7, c7, .inl ⟨rfl, rfl⟩, .inl rfl⟩, k7⟩, PySem.W.mg_of X G a7⟩
  t_by_place := ⟨f8, _, ⟨⟨oc8, od8, _, kV8, dc8, pm8, an8, cd8, ct8, sl8, rfl, l8, c8, .inl ⟨rfl, rfl⟩, .inl rfl⟩, k8⟩, PySem.W.mg_of X G a8⟩
  t_deeds_on := ⟨f9, _, ⟨⟨oc9, od9, _, kV9, dc9, pm9, an9, cd9, ct9, sl9, rfl, l9, c9, .inl ⟨rfl, rfl⟩, .inl rfl⟩, k9⟩, PySem.W.mg_of X G a9⟩
  t_behind_deed := ⟨f10, _, ⟨⟨oc10, od10, _, kV10, dc10, pm10, an10, cd10, ct10, sl10, rfl, l10, c10, .inl ⟨rfl, rfl⟩, .inl rfl⟩, k10⟩, PySem.W.mg_of X G a10⟩
  t_is_mender := ⟨f11, _, ⟨⟨oc11, od11, _, kV11, dc11, pm11, an11, cd11, ct11, sl11, rfl, l11, c11, .inl ⟨rfl, rfl⟩, .inl rfl⟩, k11⟩, PySem.W.mg_of X G a11⟩
  t_need_mender := ⟨f12, _, ⟨⟨oc12, od12, _, kV12, dc12, pm12, an12, cd12, ct12, sl12, rfl, l12, c12, .inl ⟨rfl, rfl⟩, .inl rfl⟩, k12⟩, PySem.W.mg_of X G a12⟩
  t_next_deed := ⟨f13, _, ⟨⟨oc13, od13, _, kV13, dc13, pm13, an13, cd13, ct13, sl13, rfl, l13, c13, .inl ⟨rfl, rfl⟩, .inl rfl⟩, k13⟩, PySem.W.mg_of X G a13⟩
  t_places_of := ⟨f14, _, ⟨⟨oc14, od14, _, kV14, dc14, pm14, an14, cd14, ct14, sl14, rfl, l14, c14, .inl ⟨rfl, rfl⟩, .inl rfl⟩, k14⟩, PySem.W.mg_of X G a14⟩
  t_mended_by := ⟨f15, _, ⟨⟨oc15, od15, _, kV15, dc15, pm15, an15, cd15, ct15, sl15, rfl, l15, c15, .inl ⟨rfl, rfl⟩, .inl rfl⟩, k15⟩, PySem.W.mg_of X G a15⟩
  t_need_mending := ⟨f16, _, ⟨⟨oc16, od16, _, kV16, dc16, pm16, an16, cd16, ct16, sl16, rfl, l16, c16, .inl ⟨rfl, rfl⟩, .inl rfl⟩, k16⟩, PySem.W.mg_of X G a16⟩
  t_mended := ⟨f17, _, ⟨⟨oc17, od17, _, kV17, dc17, pm17, an17, cd17, ct17, sl17, rfl, l17, c17, .inl ⟨rfl, rfl⟩, .inl rfl⟩, k17⟩, PySem.W.mg_of X G a17⟩
  t_ends_of_text := ⟨f18, _, ⟨⟨oc18, od18, _, kV18, dc18, pm18, an18, cd18, ct18, sl18, rfl, l18, c18, .inl ⟨rfl, rfl⟩, .inl rfl⟩, k18⟩, PySem.W.mg_of X G a18⟩
  t_overlaps := ⟨f19, _, ⟨⟨oc19, od19, _, kV19, dc19, pm19, an19, cd19, ct19, sl19, rfl, l19, c19, .inl ⟨rfl, rfl⟩, .inl rfl⟩, k19⟩, PySem.W.mg_of X G a19⟩
  t_parted_text := ⟨f20, _, ⟨⟨oc20, od20, _, kV20, dc20, pm20, an20, cd20, ct20, sl20, rfl, l20, c20, .inl ⟨rfl, rfl⟩, .inl rfl⟩, k20⟩, PySem.W.mg_of X G a20⟩
  t_is_one_way := ⟨f21, _, ⟨⟨oc21, od21, _, kV21, dc21, pm21, an21, cd21, ct21, sl21, rfl, l21, c21, .inl ⟨rfl, rfl⟩, .inl rfl⟩, k21⟩, PySem.W.mg_of X G a21⟩
  t_overlap := ⟨f22, _, ⟨⟨oc22, od22, _, kV22, dc22, pm22, an22, cd22, ct22, sl22, rfl, l22, c22, .inl ⟨rfl, rfl⟩, .inl rfl⟩, k22⟩, PySem.W.mg_of X G a22⟩
  t__law_taken := ⟨f23, _, ⟨⟨oc23, od23, _, kV23, dc23, pm23, an23, cd23, ct23, sl23, rfl, l23, c23, .inl ⟨rfl, rfl⟩, .inl rfl⟩, k23⟩, PySem.W.mg_of X G a23⟩
  t__law_pick := ⟨f24, _, ⟨⟨oc24, od24, _, kV24, dc24, pm24, an24, cd24, ct24, sl24, rfl, l24, c24, .inl ⟨rfl, rfl⟩, .inl rfl⟩, k24⟩, PySem.W.mg_of X G a24⟩
  t__law_alike := ⟨f25, _, ⟨⟨oc25, od25, _, kV25, dc25, pm25, an25, cd25, ct25, sl25, rfl, l25, c25, .inl ⟨rfl, rfl⟩, .inl rfl⟩, k25⟩, PySem.W.mg_of X G a25⟩
  t__law_text := ⟨f26, _, ⟨⟨oc26, od26, _, kV26, dc26, pm26, an26, cd26, ct26, sl26, rfl, l26, c26, .inl ⟨rfl, rfl⟩, .inl rfl⟩, k26⟩, PySem.W.mg_of X G a26⟩
  t__law_texts := ⟨f27, _, ⟨⟨oc27, od27, _, kV27, dc27, pm27, an27, cd27, ct27, sl27, rfl, l27, c27, .inl ⟨rfl, rfl⟩, .inl rfl⟩, k27⟩, PySem.W.mg_of X G a27⟩
  t__law_deeds := ⟨lc28, lp28, ⟨f28, oc28, od28, kV28, dc28, pm28, an28, ct28, sl28, l28, c28, k28, PySem.W.mg_of X G a28⟩, ⟨te28, td28, tv28, ts28, t28, u28⟩, o28⟩
  t__law_behind := ⟨f29, _, ⟨⟨oc29, od29, _, kV29, dc29, pm29, an29, cd29, ct29, sl29, rfl, l29, c29, .inl ⟨rfl, rfl⟩, .inl rfl⟩, k29⟩, PySem.W.mg_of X G a29⟩
  t__law_mender := ⟨f30, _, ⟨⟨oc30, od30, _, kV30, dc30, pm30, an30, cd30, ct30, sl30, rfl, l30, c30, .inl ⟨rfl, rfl⟩, .inl rfl⟩, k30⟩, PySem.W.mg_of X G a30⟩
  t__law_ends := ⟨f31, _, ⟨⟨oc31, od31, _, kV31, dc31, pm31, an31, cd31, ct31, sl31, rfl, l31, c31, .inl ⟨rfl, rfl⟩, .inl rfl⟩, k31⟩, PySem.W.mg_of X G a31⟩
  t_law := ⟨f32, _, ⟨⟨oc32, od32, _, kV32, dc32, pm32, an32, cd32, ct32, sl32, rfl, l32, c32, .inl ⟨rfl, rfl⟩, .inl rfl⟩, k32⟩, PySem.W.mg_of X G a32⟩
  g_SMALL := ⟨gt0, PySem.W.mg_of X G gg0⟩
  g_MOST_LETTERS := ⟨gt1, PySem.W.mg_of X G gg1⟩
  g_MOST_SIGNS := ⟨gt2, PySem.W.mg_of X G gg2⟩
  g_MOST_KINDS := ⟨gt3, PySem.W.mg_of X G gg3⟩
  bi := ⟨PySem.W.mg_none_of X G z_len, PySem.W.mg_none_of X G z_all, PySem.W.mg_none_of X G z_any, PySem.W.mg_none_of X G z_isinstance, PySem.W.mg_none_of X G z_int, PySem.W.mg_none_of X G z_str, PySem.W.mg_none_of X G z_bool, PySem.W.mg_none_of X G z_tuple, PySem.W.mg_none_of X G z_list, PySem.W.mg_none_of X G z_dict, PySem.W.mg_none_of X G z_set, PySem.W.mg_none_of X G z_range, PySem.W.mg_none_of X G z_enumerate, PySem.W.mg_none_of X G z_zip, PySem.W.mg_none_of X G z_max, PySem.W.mg_none_of X G z_min, PySem.W.mg_none_of X G z_sum, PySem.W.mg_none_of X G z_sorted⟩
abbrev theRow := PySem.Challenge.rw_anyscribe_k24_one_way_exactly
end KL
namespace KL
open PySem L2 NdefX Sc
def smallS : Str := "abcdefghijklmnopqrstuvwxyz"
def inS (t : Str) (c : Nat) : Bool := decide (c ∈ t.cps.toList)
/-- is_letters of a text -/
def lettersS (z : Str) : Bool := (decide ((1 : Int) ≤ (z.length : Nat)) && decide (((z.length : Nat) : Int) ≤ 4)) && (z.cps.toList.all (inS smallS)) && (z.cps.toList.zip z.cps.toList.tail).all fun p => decide (p.1 < p.2)
def lettersD : PyData → Bool
  | .str z => lettersS z
  | _ => false
def hd1 : List PyData → PyData
  | d :: _ => d
  | [] => .none
/-- one sign -/
def sg (c : Nat) : PyData := .str ⟨#[c]⟩
/-- texts are short -/
def Short (d : PyData) : Prop := ∀ z, d = .str z → z.length ≤ 10000
variable {P : Program} {w : World} {K : PySem.W.Frag} {mg : Str → Option Value} {base : Heap} {Tb : List NTab}
theorem line_of {n : Nat} (h : n ≤ 10000) : n ≤ sizeLine := Nat.le_trans h (by decide)
theorem d_is_letters (T : Tops K mg) {k : Nat} : Def P w K mg base Tb (k + 1) "is_letters" [] (FnR 1 (fun ds => ∀ d ∈ ds, Short d) fun ds => .r (.d (.bool (lettersD (hd1 ds))))) := by
  refine def_fn T.t_is_letters sc_is_letters rfl (fun _ _ _ _ _ _ us hl => match us, hl with | [_], _ => rfl) ?_
  intro fa cdv A outer s H E C ds hl hd
  obtain ⟨v, rfl⟩ : ∃ v, ds = [v] := by
    match ds, hl with
    | [v], _ => exact ⟨v, rfl⟩
  obtain ⟨tS, gS⟩ := T.g_SMALL
  obtain ⟨tM, gM⟩ := T.g_MOST_LETTERS
  refine EA.end (f := true) ?_
  by_cases hv : ∃ z, v = .str z
  · obtain ⟨z, rfl⟩ := hv
    have hz2 := line_of (hd _ (List.mem_singleton.mpr rfl) z rfl)
    refine ea_if (tv_tw (tw_or (tv_not (tv_val (ev_isi T.bi (ev_var 0 rfl) (kit_str _) T.bi.str rfl))) fun _ => tw_or (tv_not (tv_chain op_le op_le c_leI (fun _ => c_leI) ev_int (ev_lenS T.bi (ev_var 0 rfl) hz2) (fun _ => ev_glI gM))) fun _ => tw_or1 (tv_not (tv_val (ev_allM T.bi C.calm (ev_lcF C [("sign", 1)] (iv_str (ev_var 0 rfl)) (cf_allE (xs := z.cps.toList) (en := sg) (f := fun c => .bool (inS smallS c)) rfl (fun c _ s H C' cl fp => gw_name 1 C.nd) (fun c _ s H C' cl fp => ev_inS (ev_var 1 rfl) (ev_glS gS)) rfl) ?_)))))) (fun h => ?_) (fun h => ?_)
    · rw [List.length_map, ← len_cps]
      exact hz2
    · refine eb_stop (ea_retB ev_bl ?_)
      rw [show instD "str" (PyData.str z) = true from rfl] at h
      show false = lettersS z
      unfold lettersS
      revert h
      cases (decide ((1 : Int) ≤ (z.length : Nat)) && decide (((z.length : Nat) : Int) ≤ 4)) <;> cases (z.cps.toList.all (inS smallS)) <;> simp
    · refine eb_nil (ea_retB (ev_allM T.bi C.calm (ev_lcF C [("one", 2), ("other", 3)] (iv_zip T.bi (ev_var 0 rfl) (ev_slS (ev_var 0 rfl) (.some ev_int) .none hz2) rfl rfl)
        (cf_allE (xs := z.cps.toList.zip z.cps.toList.tail) (en := fun p => .tuple [sg p.1, sg p.2]) (f := fun p => .bool (decide (p.1 < p.2))) ?_ (fun p _ s H C' cl fp => gw_tup C.calm (gws_cons (gw_name 2 C.nd) (gws_cons (gw_name 3 C.nd) gws_nil))) (fun p _ s H C' cl fp => EV.eqb (ev_ltS (ev_var 2 rfl) (ev_var 3 rfl)) ?_) rfl) ?_)) ?_)
      · show zipD (z.cps.toList.map sg) ((cutS z (some ((1 : Nat) : Int)) none).cps.toList.map sg) = _
        rw [zipD_map, cut_from, List.drop_one]
      · simp [List.cons_lt_cons_iff]
      · rw [List.length_map, List.length_zip, ← len_cps]
        exact Nat.le_trans (Nat.min_le_left _ _) hz2
      · show _ = lettersS z
        rw [show instD "str" (PyData.str z) = true from rfl] at h
        unfold lettersS
        revert h
        cases (decide ((1 : Int) ≤ (z.length : Nat)) && decide (((z.length : Nat) : Int) ≤ 4)) <;> cases (z.cps.toList.all (inS smallS)) <;> simp
  · have e : instD "str" v = false := by
      cases v <;> first | rfl | exact absurd ⟨_, rfl⟩ hv
    refine ea_if (t := true) (TV.eq (tv_tw (tw_or (x := true) (y := false) (TV.eq (tv_not (tv_val (ev_isi T.bi (ev_var 0 rfl) (kit_str _) T.bi.str rfl))) (by rw [e]; rfl)) (fun h => nomatch h))) rfl) (fun h => ?_) (fun h => nomatch h)
    refine eb_stop (ea_retB ev_bl ?_)
    cases v <;> first | rfl | exact absurd ⟨_, rfl⟩ hv
def a1 : List PyData → PyData
  | _ :: d :: _ => d
  | _ => .none
def a2 : List PyData → PyData
  | _ :: _ :: d :: _ => d
  | _ => .none
theorem len1 {ds : List PyData} (h : ds.length = 1) : ∃ a, ds = [a] := by
  match ds, h with
  | [a], _ => exact ⟨a, rfl⟩
theorem len2 {ds : List PyData} (h : ds.length = 2) : ∃ a b, ds = [a, b] := by
  match ds, h with
  | [a, b], _ => exact ⟨a, b, rfl⟩
theorem len3 {ds : List PyData} (h : ds.length = 3) : ∃ a b c, ds = [a, b, c] := by
  match ds, h with
  | [a, b, c], _ => exact ⟨a, b, c, rfl⟩
def textD (lz : Str) (v : PyData) (m : Int) : Bool := match v with
  | .str z => decide (((z.length : Nat) : Int) ≤ m) && z.cps.toList.all (inS lz)
  | _ => false
def asStr : PyData → Str
  | .str z => z
  | _ => ⟨#[]⟩
def asInt : PyData → Int
  | .int z => z
  | _ => 0
theorem not_str {v : PyData} (h : ¬ ∃ z, v = .str z) : instD "str" v = false := by
  cases v <;> first | rfl | exact absurd ⟨_, rfl⟩ h
abbrev R_is_text : List Sl → Out → Prop := FnR 3 (fun ds => ∃ lz v m, ds = [.str lz, v, .int m] ∧ Short v) fun ds => .r (.d (.bool (textD (asStr (hd1 ds)) (a1 ds) (asInt (a2 ds)))))
theorem d_is_text (T : Tops K mg) : Def P w K mg base Tb 1 "is_text" [.int 40] R_is_text ∧ Def P w K mg base Tb 1 "is_text" [] R_is_text := by
  refine def_dflt T.t_is_text (fun h => .int 40) sc_is_text rfl (fun t _ _ _ _ _ _ us its hu hi => ⟨_, rfl, ?_⟩) (fun t _ _ _ _ _ _ us its hu hi => ⟨_, rfl, ?_⟩) ?_
  · match us, hu, its, hi with
    | [_, _], _, [_], _ => rfl
  · match us, hu, its, hi with
    | [_, _, _], _, [_], _ => rfl
  intro fa cdv A outer s H E C ds hl ⟨lz, v, m, hds, hS⟩
  subst hds
  refine EA.end (f := true) ?_
  by_cases hv : ∃ z, v = .str z
  · obtain ⟨z, rfl⟩ := hv
    have hz2 := line_of (hS z rfl)
    refine ea_retB (ev_and (ev_isi T.bi (ev_var 1 rfl) (kit_str _) T.bi.str rfl) fun _ => ev_and (ev_leI (ev_lenS T.bi (ev_var 1 rfl) hz2) (ev_var 2 rfl)) fun _ => ev_one (ev_allM T.bi C.calm (ev_lcF C [("sign", 3)] (iv_str (ev_var 1 rfl)) (cf_allE (xs := z.cps.toList) (en := sg) (f := fun c => .bool (inS lz c)) rfl (fun c _ s H C' cl fp => gw_name 3 C.nd) (fun c _ s H C' cl fp => ev_inS (ev_var 3 rfl) (ev_var 0 rfl)) rfl) ?_))) ?_
    · rw [List.length_map, ← len_cps]
      exact hz2
    · rfl
  · refine ea_retB (EV.eqb (ev_and (x := false) (y := false) (EV.eqb (ev_isi T.bi (ev_var 1 rfl) (kit_str _) T.bi.str rfl) (not_str hv)) (fun h => nomatch h)) rfl) ?_
    cases v <;> first | rfl | exact absurd ⟨_, rfl⟩ hv
abbrev R_need (n : Nat) (dom : List PyData → Prop) : List Sl → Out → Prop := FnR n dom fun _ => .r (.d .none)
theorem d_need_letters (T : Tops K mg) : Def P w K mg base Tb 2 "need_letters" [] (R_need 1 fun ds => ∃ z, ds = [.str z] ∧ lettersS z = true ∧ z.length ≤ 10000) := by
  refine def_fn T.t_need_letters sc_need_letters rfl (fun _ _ _ _ _ _ us hl => match us, hl with | [_], _ => rfl) ?_
  intro fa cdv A outer s H E C ds hl ⟨z, hds, hz, hl2⟩
  subst hds
  refine EA.end (f := false) ?_
  refine ea_if (t := false) (TV.eq (tv_not (tv_val (ev_cf (d_is_letters T (k := 0)) (C.less (by decide)) (xs := [.str z]) (al_cons (ev_var 0 rfl) al_nil) rfl (fun d hd y e => ?_)))) ?_) (fun h => nomatch h) (fun h => eb_nil ea_nil)
  · rw [List.mem_singleton.mp hd] at e
    cases e
    exact hl2
  · show (!lettersS z) = false
    rw [hz]
    rfl
theorem d_need_text (T : Tops K mg) : Def P w K mg base Tb 2 "need_text" [] (R_need 2 fun ds => ∃ lz z, ds = [.str lz, .str z] ∧ textD lz (.str z) 40 = true ∧ z.length ≤ 10000) := by
  refine def_fn T.t_need_text sc_need_text rfl (fun _ _ _ _ _ _ us hl => match us, hl with | [_, _], _ => rfl) ?_
  intro fa cdv A outer s H E C ds hl ⟨lz, z, hds, hz, hl2⟩
  subst hds
  refine EA.end (f := false) ?_
  refine ea_if (t := false) (TV.eq (tv_not (tv_val (ev_cf (d_is_text T).1 (C.less (by decide)) (xs := [.str lz, .str z]) (al_cons (ev_var 0 rfl) (al_cons (ev_var 1 rfl) al_nil)) rfl ⟨lz, .str z, 40, rfl, fun y e => ?_⟩))) ?_) (fun h => nomatch h) (fun h => eb_nil ea_nil)
  · cases e
    exact hl2
  · show (!textD lz (.str z) 40) = false
    rw [hz]
    rfl
def kindD (lz : Str) (v : PyData) : Bool := match v with
  | .tuple [a, b] => textD lz a 3 && (textD lz b 1 && !decide (asStr a = asStr b))
  | _ => false
theorem text_str {lz : Str} {v : PyData} {m : Int} (h : textD lz v m = true) : v = .str (asStr v) := by
  cases v <;> first | rfl | cases h
theorem d_is_kind (T : Tops K mg) : Def P w K mg base Tb 2 "is_kind" [] (FnR 2 (fun ds => ∃ lz v, ds = [.str lz, v] ∧ ∀ xs, v = .tuple xs → xs.length ≤ 10000 ∧ ∀ x ∈ xs, Short x) fun ds => .r (.d (.bool (kindD (asStr (hd1 ds)) (a1 ds))))) := by
  refine def_fn T.t_is_kind sc_is_kind rfl (fun _ _ _ _ _ _ us hl => match us, hl with | [_, _], _ => rfl) ?_
  intro fa cdv A outer s H E C ds hl ⟨lz, v, hds, hS⟩
  subst hds
  refine EA.end (f := true) ?_
  by_cases hv : ∃ xs, v = .tuple xs
  · obtain ⟨xs, rfl⟩ := hv
    obtain ⟨hxl, hxs⟩ := hS xs rfl
    refine ea_if (tv_tw (tw_or (tv_not (tv_val (ev_isi T.bi (ev_var 1 rfl) (kit_tuple _) T.bi.tuple rfl))) fun _ => tw_or1 (tv_neI (ev_lenT T.bi (ev_var 1 rfl)) ev_int))) (fun h => ?_) (fun h => ?_)
    · refine eb_stop (ea_retB ev_bl ?_)
      match xs, h with
      | [], _ => rfl
      | [_], _ => rfl
      | _ :: _ :: _ :: _, _ => rfl
      | [_, _], h => simp [instD, instN, tyD] at h
    · obtain ⟨a, b, rfl⟩ : ∃ a b, xs = [a, b] := by
        match xs, h with
        | [a, b], _ => exact ⟨a, b, rfl⟩
        | [], h => simp [instD, instN, tyD] at h
        | [_], h => simp [instD, instN, tyD] at h
        | x :: y :: z :: r, h =>
          exfalso
          simp [instD, instN, tyD] at h
          omega
      have ha : Short a := hxs a (by simp)
      have hb : Short b := hxs b (by simp)
      refine eb_nil (ea_retB (ev_and (ev_cf (d_is_text T).2 (C.less (by decide)) (xs := [.str lz, a, .int 3]) (al_cons (ev_var 0 rfl) (al_cons (ev_ixT (ev_var 1 rfl) ev_int rfl) (al_cons ev_int al_nil))) rfl ⟨lz, a, 3, rfl, ha⟩) fun h1 =>
        ev_and (ev_cf (d_is_text T).2 (C.less (by decide)) (xs := [.str lz, b, .int 1]) (al_cons (ev_var 0 rfl) (al_cons (ev_ixT (ev_var 1 rfl) ev_int rfl) (al_cons ev_int al_nil))) rfl ⟨lz, b, 1, rfl, hb⟩) fun h2 => ev_one (ev_neS (x := asStr a) (y := asStr b) (EV.eq (ev_ixT (ev_var 1 rfl) ev_int rfl) (text_str h1)) (EV.eq (ev_ixT (ev_var 1 rfl) ev_int rfl) (text_str h2)))) ?_)
      rfl
  · have e : instD "tuple" v = false := by
      cases v <;> first | rfl | exact absurd ⟨_, rfl⟩ hv
    refine ea_if (t := true) (TV.eq (tv_tw (tw_or (x := true) (y := false) (TV.eq (tv_not (tv_val (ev_isi T.bi (ev_var 1 rfl) (kit_tuple _) T.bi.tuple rfl))) (by rw [e]; rfl)) (fun h => nomatch h))) rfl) (fun h => ?_) (fun h => nomatch h)
    refine eb_stop (ea_retB ev_bl ?_)
    cases v <;> first | rfl | exact absurd ⟨_, rfl⟩ hv
end KL
namespace KL
open PySem L2 NdefX Sc
variable {P : Program} {w : World} {K : PySem.W.Frag} {mg : Str → Option Value} {base : Heap} {Tb : List NTab}
abbrev Kd : Type := Str × Str
def kd (p : Kd) : PyData := .tuple [.str p.1, .str p.2]
def asTup : PyData → List PyData
  | .tuple ds => ds
  | _ => []
def asKd (d : PyData) : Kd := (asStr (hd1 (asTup d)), asStr (a1 (asTup d)))
def kindsD (lz : Str) (v : PyData) : Bool := match v with
  | .tuple ds => decide (ds.length ≤ 12) && (ds.all (kindD lz) && decide ((ds.map asKd).Nodup))
  | _ => false
theorem kind_kd {lz : Str} {d : PyData} (h : kindD lz d = true) : d = kd (asKd d) := by
  unfold kindD at h
  split at h
  · rename_i a b
    simp only [Bool.and_eq_true] at h
    rw [kd, asKd, asTup]
    show PyData.tuple [a, b] = .tuple [.str (asStr a), .str (asStr b)]
    rw [← text_str h.1, ← text_str h.2.1]
  · cases h
theorem nodup_pairs (ds : List Kd) : (ds.map fun p => [p.1, p.2]).Nodup ↔ ds.Nodup := by
  unfold List.Nodup
  rw [List.pairwise_map]
  constructor
  · exact fun h => h.imp fun {a b} q e => q (by rw [e])
  · exact fun h => h.imp fun {a b} q e => q (Prod.ext (List.cons.inj e).1 (List.cons.inj (List.cons.inj e).2).1)
theorem d_are_kinds (T : Tops K mg) : Def P w K mg base Tb 3 "are_kinds" [] (FnR 2 (fun ds => ∃ lz v, ds = [.str lz, v] ∧ ∀ xs, v = .tuple xs → xs.length ≤ 10000 ∧ ∀ x ∈ xs, ∀ ys, x = .tuple ys → ys.length ≤ 10000 ∧ ∀ y ∈ ys, Short y) fun ds => .r (.d (.bool (kindsD (asStr (hd1 ds)) (a1 ds))))) := by
  refine def_fn T.t_are_kinds sc_are_kinds rfl (fun _ _ _ _ _ _ us hl => match us, hl with | [_, _], _ => rfl) ?_
  intro fa cdv A outer s H E C ds hl ⟨lz, v, hds, hS⟩
  subst hds
  obtain ⟨tM, gM⟩ := T.g_MOST_KINDS
  refine EA.end (f := true) ?_
  by_cases hv : ∃ xs, v = .tuple xs
  · obtain ⟨xs, rfl⟩ := hv
    obtain ⟨hxl, hxs⟩ := hS xs rfl
    refine ea_if (tv_tw (tw_or (tv_not (tv_val (ev_isi T.bi (ev_var 1 rfl) (kit_tuple _) T.bi.tuple rfl))) fun _ => tw_or (tv_gtI (ev_lenT T.bi (ev_var 1 rfl)) (ev_glI gM)) fun _ => tw_or1 (tv_not (tv_val (ev_allM T.bi C.calm (ev_lcF C [("kind", 2)] (iv_tup (ev_var 1 rfl)) (cf_allE (xs := xs) (en := id) (f := fun x => .bool (kindD lz x)) (List.map_id xs).symm (fun c _ s H C' cl fp => gw_name 2 C.nd)
      (fun x hx s H C' cl fp => ev_cf (d_is_kind T) (C.less (by decide)) (xs := [.str lz, x]) (al_cons (ev_var 0 rfl) (al_cons (ev_var 2 rfl) al_nil)) rfl ⟨lz, x, rfl, hxs x hx⟩) rfl) ?_)))))) (fun h => ?_) (fun h => ?_)
    · rw [List.length_map]
      exact line_of hxl
    · refine eb_stop (ea_retB ev_bl ?_)
      show false = kindsD lz (.tuple xs)
      show false = (decide (xs.length ≤ 12) && (xs.all (kindD lz) && decide ((xs.map asKd).Nodup)))
      revert h
      cases h1 : xs.all (kindD lz) with
      | false => simp
      | true =>
        by_cases h2 : xs.length ≤ 12
        · simp [instD, instN, tyD]
          omega
        · simp [h2]
    · have h' : xs.length ≤ 12 ∧ xs.all (kindD lz) = true := by
        revert h
        cases h1 : xs.all (kindD lz) <;> simp [instD, instN, tyD]
        omega
      have hk : xs = (xs.map asKd).map kd := by
        rw [List.map_map]
        conv => lhs; rw [← List.map_id xs]
        exact List.map_congr_left fun x hx => kind_kd (List.all_eq_true.mp h'.2 x hx)
      have hk2 : PyData.tuple xs = .tuple (((xs.map asKd).map fun p => [p.1, p.2]).map fun k => .tuple (k.map .str)) := by
        rw [List.map_map]
        exact congrArg _ hk
      refine eb_nil (ea_retB (ev_eqI (ev_lenSet C T.bi (ks := (xs.map asKd).map fun p => [p.1, p.2]) (EV.eq (ev_var 1 rfl) hk2) (by simp; omega)) (ev_lenT T.bi (ev_var 1 rfl))) ?_)
      show _ = (decide (xs.length ≤ 12) && (xs.all (kindD lz) && decide ((xs.map asKd).Nodup)))
      rw [h'.2, decide_eq_true h'.1, Bool.true_and, Bool.true_and]
      refine decide_eq_decide.mpr ?_
      rw [← nodup_pairs, ← cnt_nodup, List.length_map, List.length_map]
      omega
  · have e : instD "tuple" v = false := by
      cases v <;> first | rfl | exact absurd ⟨_, rfl⟩ hv
    refine ea_if (t := true) (TV.eq (tv_tw (tw_or (x := true) (y := false) (TV.eq (tv_not (tv_val (ev_isi T.bi (ev_var 1 rfl) (kit_tuple _) T.bi.tuple rfl))) (by rw [e]; rfl)) (fun h => nomatch h))) rfl) (fun h => ?_) (fun h => nomatch h)
    refine eb_stop (ea_retB ev_bl ?_)
    cases v <;> first | rfl | exact absurd ⟨_, rfl⟩ hv
end KL
namespace KL
open PySem L2 NdefX Sc
variable {P : Program} {w : World} {K : PySem.W.Frag} {mg : Str → Option Value} {base : Heap} {Tb : List NTab}
/-- kinds as data -/
def kdsD (ps : List Kd) : PyData := .tuple (ps.map kd)
/-- kinds in order -/
structure KindsOk (lz : Str) (ps : List Kd) : Prop where
  few : ps.length ≤ 12
  nd : ps.Nodup
  each : ∀ p ∈ ps, p.1.length ≤ 3 ∧ p.2.length ≤ 1 ∧ p.1 ≠ p.2 ∧ (∀ c ∈ p.1.cps.toList, inS lz c = true) ∧ ∀ c ∈ p.2.cps.toList, inS lz c = true
theorem asKd_kd (p : Kd) : asKd (kd p) = p := rfl
theorem kinds_ok {lz : Str} {ps : List Kd} (h : KindsOk lz ps) : kindsD lz (kdsD ps) = true := by
  show (decide ((ps.map kd).length ≤ 12) && ((ps.map kd).all (kindD lz) && decide (((ps.map kd).map asKd).Nodup))) = true
  rw [List.length_map, decide_eq_true h.few, Bool.true_and, List.map_map, show (asKd ∘ kd) = id from funext fun _ => rfl, List.map_id, decide_eq_true h.nd, Bool.and_true, List.all_map, List.all_eq_true]
  intro p hp
  obtain ⟨h1, h2, h3, h4, h5⟩ := h.each p hp
  show (textD lz (.str p.1) 3 && (textD lz (.str p.2) 1 && !decide (asStr (.str p.1) = asStr (.str p.2)))) = true
  show ((decide (((p.1.length : Nat) : Int) ≤ 3) && p.1.cps.toList.all (inS lz)) && ((decide (((p.2.length : Nat) : Int) ≤ 1) && p.2.cps.toList.all (inS lz)) && !decide (p.1 = p.2))) = true
  rw [List.all_eq_true.mpr h4, List.all_eq_true.mpr h5, decide_eq_true (by omega), decide_eq_true (by omega), decide_eq_false h3]
  rfl
theorem kds_short {lz : Str} {ps : List Kd} (h : KindsOk lz ps) : ∀ xs, kdsD ps = .tuple xs → xs.length ≤ 10000 ∧ ∀ x ∈ xs, ∀ ys, x = .tuple ys → ys.length ≤ 10000 ∧ ∀ y ∈ ys, Short y := by
  intro xs e
  cases e
  refine ⟨by rw [List.length_map]; have := h.few; omega, fun x hx ys ey => ?_⟩
  obtain ⟨p, hp, rfl⟩ := List.mem_map.mp hx
  cases ey
  obtain ⟨h1, h2, _⟩ := h.each p hp
  refine ⟨by simp, fun y hy z ez => ?_⟩
  simp at hy
  rcases hy with e | e
  · rw [e] at ez
    cases ez
    omega
  · rw [e] at ez
    cases ez
    omega
theorem d_need_kinds (T : Tops K mg) : Def P w K mg base Tb 4 "need_kinds" [] (R_need 2 fun ds => ∃ lz ps, ds = [.str lz, kdsD ps] ∧ KindsOk lz ps) := by
  refine def_fn T.t_need_kinds sc_need_kinds rfl (fun _ _ _ _ _ _ us hl => match us, hl with | [_, _], _ => rfl) ?_
  intro fa cdv A outer s H E C ds hl ⟨lz, ps, hds, hk⟩
  subst hds
  refine EA.end (f := false) ?_
  refine ea_if (t := false) (TV.eq (tv_not (tv_val (ev_cf (d_are_kinds T) (C.less (by decide)) (xs := [.str lz, kdsD ps]) (al_cons (ev_var 0 rfl) (al_cons (ev_var 1 rfl) al_nil)) rfl ⟨lz, kdsD ps, rfl, kds_short hk⟩))) ?_) (fun h => nomatch h) (fun h => eb_nil ea_nil)
  show (!kindsD lz (kdsD ps)) = false
  rw [kinds_ok hk]
  rfl
/-- a deed as data -/
abbrev Dd : Type := Nat × Kd
def dd (d : Dd) : PyData := .tuple [.int (d.1 : Nat), .str d.2.1, .str d.2.2]
def behindS (z : Str) (d : Dd) : Str := (cutS z none (some ((d.1 : Nat) : Int)) ++ d.2.2) ++ cutS z (some ((d.1 : Nat) + (d.2.1.length : Nat) : Int)) none
theorem behind_cps (z : Str) (d : Dd) : (behindS z d).cps.toList = z.cps.toList.take d.1 ++ d.2.2.cps.toList ++ z.cps.toList.drop (d.1 + d.2.1.length) := by
  show ((cutS z none (some ((d.1 : Nat) : Int)) ++ d.2.2) ++ cutS z (some ((d.1 + d.2.1.length : Nat) : Int)) none).cps.toList = _
  rw [app_cps, app_cps, cut_to, cut_from]
theorem behind_len (z : Str) (d : Dd) : (behindS z d).length ≤ z.length + d.2.2.length := by
  rw [len_cps, behind_cps, len_cps z, len_cps d.2.2]
  simp only [List.length_append, List.length_take, List.length_drop]
  omega
theorem d_behind_deed (T : Tops K mg) : Def P w K mg base Tb 1 "behind_deed" [] (FnR 2 (fun ds => ∃ z d, ds = [.str z, dd d] ∧ z.length ≤ 4000 ∧ d.2.1.length ≤ 1000 ∧ d.2.2.length ≤ 1000) fun ds => .r (.d (.str (behindS (asStr (hd1 ds)) ((asInt (hd1 (asTup (a1 ds)))).toNat, (asStr (a1 (asTup (a1 ds))), asStr (a2 (asTup (a1 ds))))))))) := by
  refine def_fn T.t_behind_deed sc_behind_deed rfl (fun _ _ _ _ _ _ us hl => match us, hl with | [_, _], _ => rfl) ?_
  intro fa cdv A outer s H E C ds hl ⟨z, ⟨n, l, r⟩, hds, h1, h2, h3⟩
  subst hds
  refine EA.end (f := true) ?_
  have hz : z.length ≤ sizeLine := line_of (by omega)
  have hl2 : l.length ≤ sizeLine := line_of (Nat.le_trans h2 (by decide))
  have c1 : (cutS z none (some (n : Int))).length ≤ z.length := by
    rw [len_cps, cut_to, len_cps z, List.length_take]
    omega
  have c2 : (cutS z (some ((n + l.length : Nat) : Int)) none).length ≤ z.length := by
    rw [len_cps, cut_from, len_cps z, List.length_drop]
    omega
  have c3 : (cutS z none (some (n : Int)) ++ r).length ≤ z.length + r.length := by
    rw [len_cps, app_cps, List.length_append, ← len_cps, ← len_cps]
    omega
  have h3' : r.length ≤ 1000 := h3
  refine ea_cons (sv_asg (ev_var 1 rfl) (gw_tup (vs := [2, 3, 4]) C.calm (gws_cons (gw_name 2 C.nd) (gws_cons (gw_name 3 C.nd) (gws_cons (gw_name 4 C.nd) gws_nil)))).gv) ?_
  refine ea_retD (ev_addS (ev_addS (ev_slS (ev_var 0 rfl) .none (.some (ev_var 2 rfl)) hz) (ev_var 4 rfl) ?_) (ev_slS (ev_var 0 rfl) (.some (ev_add (ev_var 2 rfl) (ev_lenS T.bi (ev_var 3 rfl) hl2))) .none hz) ?_) rfl
  · refine line_of ?_
    show (cutS z none (some (n : Int))).length + r.length ≤ 10000
    omega
  · refine line_of ?_
    show (cutS z none (some (n : Int)) ++ r).length + (cutS z (some ((n + l.length : Nat) : Int)) none).length ≤ 10000
    omega
theorem range_en (n : Nat) : rangeD 0 ((n : Nat) : Int).toNat = (List.range n).map fun p => PyData.int (p : Nat) := by
  unfold rangeD
  rw [Int.toNat_natCast]
  exact List.map_congr_left fun p _ => by rw [Int.zero_add]
end KL
namespace KL
open PySem L2 NdefX Sc PySem.W
variable {P : Program} {w : World} {K : PySem.W.Frag} {mg : Str → Option Value} {base : Heap} {Tb : List NTab}
/-- the law's row of numbers -/
structure Rw where
  sc : List Int
  i : Nat
  sd : Int
  big : Int
def rwD (r : Rw) : List PyData := [.list (r.sc.map .int), .int (r.i : Nat), .int r.sd, .int r.big]
def RwOk (r : Rw) : Prop := r.sc.length ≤ 63 ∧ 0 ≤ r.sd ∧ r.sd < 2147483647
def seed1 (r : Rw) : Int := (r.sd * 48271 + 11) % 2147483647
def seed2 (r : Rw) (c : Int) : Int := (r.sd * 48271 + c + 11) % 2147483647
def taken (r : Rw) (m : Int) : Int × Rw :=
  if 0 < r.big then (r.big % m, ⟨r.sc, r.i, r.sd, r.big / m⟩)
  else match r.sc[r.i]? with
    | none => (seed1 r / 7 % m, ⟨r.sc, r.i + 1, seed1 r, r.big⟩)
    | some c => (c % m, ⟨r.sc, r.i + 1, seed2 r c, if 10 ^ 18 ≤ c then c / m else r.big⟩)
theorem taken_ok {r : Rw} {m : Int} (h : RwOk r) (hm : 0 < m) : RwOk (taken r m).2 ∧ 0 ≤ (taken r m).1 ∧ (taken r m).1 < m := by
  obtain ⟨h1, h2, h3⟩ := h
  unfold taken
  split
  · exact ⟨⟨h1, h2, h3⟩, Int.emod_nonneg _ (by omega), Int.emod_lt_of_pos _ hm⟩
  · split
    · exact ⟨⟨h1, Int.emod_nonneg _ (by decide), Int.emod_lt_of_pos _ (by decide)⟩, Int.emod_nonneg _ (by omega), Int.emod_lt_of_pos _ hm⟩
    · exact ⟨⟨h1, Int.emod_nonneg _ (by decide), Int.emod_lt_of_pos _ (by decide)⟩, Int.emod_nonneg _ (by omega), Int.emod_lt_of_pos _ hm⟩
theorem d_taken (T : Tops K mg) : Def P w K mg base Tb 1 "_law_taken" [] (LendR rwD 1 (fun r ds => ∃ m, ds = [.int m] ∧ RwOk r ∧ 0 < m ∧ m < 1073741824) fun r ds => (.int (taken r (asInt (hd1 ds))).1, (taken r (asInt (hd1 ds))).2)) := by
  refine def_lend T.t__law_taken sc__law_taken rfl (fun _ _ _ _ _ _ us hl => match us, hl with | [_, _], _ => rfl) ?_
  intro fa cdv A outer s H E C r ds hl ⟨m, hds, ⟨h1, h2, h3⟩, hm, hm2⟩
  subst hds
  show EP _ Tb _ true _ [.b (.lst (rwD r)), .d (.int m), .no, .no] (fun of => ∃ δf, of = .ret (.d (.int (taken r m).1)) δf ∧ δf[0]? = some (.b (.lst (rwD (taken r m).2))))
  refine ep_if (tv_gtI (ev_ixO 0 rfl rfl ev_int rfl) ev_int) (fun h => ?_) (fun h => ?_)
  · have hb : 0 < r.big := of_decide_eq_true h
    refine eq_stop (ep_cons (sv_let C 2 (ev_mod (ev_intI T.bi (ev_ixO 0 rfl rfl ev_int rfl)) (ev_var 1 rfl) hm)) ?_)
    refine ep_cons (sv_setL 0 rfl rfl (ev_fdiv (ev_ixO 0 rfl rfl ev_int rfl) (ev_var 1 rfl) ⟨hm, hm2⟩) ev_int rfl) ?_
    refine ep_ret (ev_var 2 rfl) ?_
    unfold taken
    rw [if_pos hb]
    exact ⟨_, rfl, rfl⟩
  · have hb : ¬ 0 < r.big := of_decide_eq_false h
    refine eq_nil (ep_cons (sv_setL 0 rfl rfl (ev_add (ev_ixO 0 rfl rfl ev_int rfl) ev_int) ev_int rfl) ?_)
    refine ep_if (tv_gtI (ev_ixO 0 rfl rfl ev_int rfl) (ev_lenL T.bi (ev_ixO 0 rfl rfl ev_int rfl))) (fun h => ?_) (fun h => ?_)
    · have hc : r.sc[r.i]? = none := by
        have q : (((r.sc.map PyData.int).length : Nat) : Int) < (r.i : Nat) + 1 := of_decide_eq_true h
        rw [List.length_map] at q
        exact List.getElem?_eq_none (by omega)
      refine eq_stop (ep_cons (sv_setL 0 rfl rfl (ev_mod (ev_intI T.bi (ev_add (ev_mul (ev_ixO 0 rfl rfl ev_int rfl) ev_int (.inr (by decide))) ev_int)) ev_int (by decide)) ev_int rfl) ?_)
      refine ep_ret (ev_mod (ev_intI T.bi (ev_fdiv (ev_ixO 0 rfl rfl ev_int rfl) ev_int ⟨by decide, by decide⟩)) (ev_var 1 rfl) hm) ?_
      unfold taken
      rw [if_neg hb, hc]
      exact ⟨_, rfl, rfl⟩
    · have hi : r.i < r.sc.length := by
        have q : ¬ (((r.sc.map PyData.int).length : Nat) : Int) < (r.i : Nat) + 1 := of_decide_eq_false h
        rw [List.length_map] at q
        omega
      have hc : r.sc[r.i]? = some r.sc[r.i] := List.getElem?_eq_getElem hi
      generalize r.sc[r.i] = c at hc
      have hix : atI (r.sc.map PyData.int) (((r.i : Nat) : Int) + 1 - 1) = some (.int c) := by
        rw [show ((r.i : Nat) : Int) + 1 - 1 = ((r.i : Nat) : Int) by omega]
        exact atI_nat (by rw [List.getElem?_map, hc]; rfl)
      refine eq_nil (ep_cons (sv_let C 3 (ev_ixL (ev_ixO 0 rfl rfl ev_int rfl) (ev_sub (ev_ixO 0 rfl rfl ev_int rfl) ev_int) hix)) ?_)
      refine ep_cons (sv_setL 0 rfl rfl (ev_mod (ev_intI T.bi (ev_add (ev_add (ev_mul (ev_ixO 0 rfl rfl ev_int rfl) ev_int (.inr (by decide))) (ev_var 3 rfl)) ev_int)) ev_int (by decide)) ev_int rfl) ?_
      refine ep_if (tv_geI (ev_var 3 rfl) (ev_pow ev_int ev_int ⟨by decide, by decide, by decide⟩)) (fun h => ?_) (fun h => ?_)
      · refine eq_go (svs_one (sv_setL 0 rfl rfl (ev_fdiv (ev_var 3 rfl) (ev_var 1 rfl) ⟨hm, hm2⟩) ev_int rfl)) ?_
        refine ep_ret (ev_mod (ev_intI T.bi (ev_var 3 rfl)) (ev_var 1 rfl) hm) ?_
        unfold taken
        rw [if_neg hb, hc]
        show ∃ δf, _ = Out.ret (.d (.int (c % m))) δf ∧ δf[0]? = some (.b (.lst (rwD ⟨r.sc, r.i + 1, seed2 r c, if 10 ^ 18 ≤ c then c / m else r.big⟩)))
        rw [if_pos (show (10 : Int) ^ 18 ≤ c from of_decide_eq_true h)]
        exact ⟨_, rfl, rfl⟩
      · refine eq_nil (ep_ret (ev_mod (ev_intI T.bi (ev_var 3 rfl)) (ev_var 1 rfl) hm) ?_)
        unfold taken
        rw [if_neg hb, hc]
        show ∃ δf, _ = Out.ret (.d (.int (c % m))) δf ∧ δf[0]? = some (.b (.lst (rwD ⟨r.sc, r.i + 1, seed2 r c, if 10 ^ 18 ≤ c then c / m else r.big⟩)))
        rw [if_neg (show ¬ (10 : Int) ^ 18 ≤ c from of_decide_eq_false h)]
        exact ⟨_, rfl, rfl⟩
end KL
namespace KL
open PySem L2 NdefX Sc PySem.W
variable {P : Program} {w : World} {K : PySem.W.Frag} {mg : Str → Option Value} {base : Heap} {Tb : List NTab}
def asList : PyData → List PyData
  | .list ds => ds
  | _ => []
def picked (r : Rw) (xs : List PyData) : PyData × Rw := (xs.getD (taken r (xs.length : Nat)).1.toNat .none, (taken r (xs.length : Nat)).2)
theorem picked_at {r : Rw} {xs : List PyData} (h : RwOk r) (hx : xs ≠ []) : atI xs (taken r (xs.length : Nat)).1 = some (picked r xs).1 := by
  have hl : 0 < xs.length := List.length_pos_iff.mpr hx
  obtain ⟨_, h1, h2⟩ := taken_ok (m := (xs.length : Nat)) h (by omega)
  have e : (taken r (xs.length : Nat)).1 = (((taken r (xs.length : Nat)).1.toNat : Nat) : Int) := by omega
  have hlt : (taken r (xs.length : Nat)).1.toNat < xs.length := by omega
  rw [e]
  refine atI_nat ?_
  unfold picked
  rw [List.getD_eq_getElem?_getD, List.getElem?_eq_getElem hlt]
  rfl
theorem picked_mem {r : Rw} {xs : List PyData} (h : RwOk r) (hx : xs ≠ []) : (picked r xs).1 ∈ xs ∧ RwOk (picked r xs).2 := by
  have q := picked_at h hx
  have hl : 0 < xs.length := List.length_pos_iff.mpr hx
  obtain ⟨h0, h1, h2⟩ := taken_ok (m := (xs.length : Nat)) h (by omega)
  refine ⟨?_, h0⟩
  have hlt : (taken r (xs.length : Nat)).1.toNat < xs.length := by omega
  unfold picked
  rw [List.getD_eq_getElem?_getD, List.getElem?_eq_getElem hlt]
  exact List.getElem_mem hlt
theorem d_pick (T : Tops K mg) : Def P w K mg base Tb 2 "_law_pick" [] (LendR rwD 1 (fun r ds => ∃ xs, ds = [.list xs] ∧ RwOk r ∧ xs ≠ [] ∧ xs.length ≤ 100000) fun r ds => picked r (asList (hd1 ds))) := by
  refine def_lend T.t__law_pick sc__law_pick rfl (fun _ _ _ _ _ _ us hl => match us, hl with | [_, _], _ => rfl) ?_
  intro fa cdv A outer s H E C r ds hl ⟨xs, hds, h1, hx, hz⟩
  subst hds
  have hl : 0 < xs.length := List.length_pos_iff.mpr hx
  refine ep_ret (ev_ixL (ev_var 1 rfl) (ev_cl (d_taken T) (C.less (by decide)) (a := r) (xs := [.int (xs.length : Nat)]) (al_lend 0 rfl rfl (al_cons (ev_lenL T.bi (ev_var 1 rfl)) al_nil)) ⟨_, rfl, h1, by omega, by omega⟩ rfl rfl) (picked_at h1 hx)) ?_
  exact ⟨_, rfl, rfl⟩
def lettersL : List Str := ["a", "ab", "ab", "ab", "bz", "abc", "cdx"]
/-- n signs drawn of an alphabet -/
def drawn : Nat → Rw → List Nat → List Nat × Rw
  | 0, r, _ => ([], r)
  | n + 1, r, al => ((asStr (picked r (al.map sg)).1).cps.toList ++ (drawn n (picked r (al.map sg)).2 al).1, (drawn n (picked r (al.map sg)).2 al).2)
theorem picked_sg {r : Rw} {al : List Nat} (h : RwOk r) (ha : al ≠ []) : ∃ c ∈ al, (picked r (al.map sg)).1 = sg c ∧ RwOk (picked r (al.map sg)).2 := by
  obtain ⟨h1, h2⟩ := picked_mem (xs := al.map sg) h (by simpa using ha)
  obtain ⟨c, hc, e⟩ := List.mem_map.mp h1
  exact ⟨c, hc, e.symm, h2⟩
theorem drawn_ok {al : List Nat} (ha : al ≠ []) : ∀ (n : Nat) {r : Rw}, RwOk r → RwOk (drawn n r al).2 ∧ (drawn n r al).1.length = n ∧ ∀ c ∈ (drawn n r al).1, c ∈ al
  | 0, r, h => ⟨h, rfl, fun c hc => by cases hc⟩
  | n + 1, r, h => by
    obtain ⟨c, hc, e, h2⟩ := picked_sg h ha
    obtain ⟨h3, h4, h5⟩ := drawn_ok ha n h2
    refine ⟨h3, ?_, ?_⟩
    · unfold drawn
      rw [e, List.length_append, h4]
      show 1 + n = n + 1
      omega
    · intro x hx
      unfold drawn at hx
      rw [e] at hx
      rcases List.mem_append.mp hx with q | q
      · have q' : x ∈ [c] := q
        rw [List.mem_singleton.mp q']
        exact hc
      · exact h5 x q
def mkS (cs : List Nat) : Str := ⟨cs.toArray⟩
def textR (r : Rw) (lz : Str) (m : Int) : Str × Rw := (mkS (drawn (taken r (m + 1)).1.toNat (taken r (m + 1)).2 lz.cps.toList).1, (drawn (taken r (m + 1)).1.toNat (taken r (m + 1)).2 lz.cps.toList).2)
theorem mkS_cps (cs : List Nat) : (mkS cs).cps.toList = cs := by simp [mkS]
theorem textR_ok {r : Rw} {lz : Str} {m : Int} (h : RwOk r) (hl : lz.cps.toList ≠ []) (hm : 0 ≤ m) : RwOk (textR r lz m).2 ∧ ((textR r lz m).1.length : Int) ≤ m ∧ ∀ c ∈ (textR r lz m).1.cps.toList, c ∈ lz.cps.toList := by
  obtain ⟨h1, h2, h3⟩ := taken_ok (m := m + 1) h (by omega)
  obtain ⟨h4, h5, h6⟩ := drawn_ok hl (taken r (m + 1)).1.toNat h1
  refine ⟨h4, ?_, ?_⟩
  · show (((mkS (drawn (taken r (m + 1)).1.toNat (taken r (m + 1)).2 lz.cps.toList).1).length : Nat) : Int) ≤ m
    rw [len_cps, mkS_cps, h5]
    omega
  · show ∀ c ∈ (mkS (drawn (taken r (m + 1)).1.toNat (taken r (m + 1)).2 lz.cps.toList).1).cps.toList, _
    rw [mkS_cps]
    exact h6
theorem join_signs : ∀ cs : List Nat, (Txt.join ⟨#[]⟩ (cs.map fun c => ⟨#[c]⟩)) = mkS cs := by
  intro cs
  have key : ∀ cs : List Nat, TL.joinL [] ((cs.map fun c => (⟨#[c]⟩ : Str)).map TL.tl) = cs := by
    intro cs
    induction cs with
    | nil => rfl
    | cons c cs ih =>
      cases cs with
      | nil => rfl
      | cons d ds =>
        show [c] ++ ([] ++ TL.joinL [] (((d :: ds).map fun c => (⟨#[c]⟩ : Str)).map TL.tl)) = c :: d :: ds
        rw [ih]
        rfl
  refine str_ext ?_
  rw [mkS_cps]
  show TL.tl (Builtin.Str.glued ⟨#[]⟩ _) = cs
  rw [StrLaws.glued_eq_join, TL.tl_join]
  exact key cs
theorem d_text (T : Tops K mg) : Def P w K mg base Tb 3 "_law_text" [] (LendR rwD 2 (fun r ds => ∃ lz m, ds = [.str lz, .int m] ∧ RwOk r ∧ lz.cps.toList ≠ [] ∧ lz.length ≤ 1000 ∧ 0 ≤ m ∧ m ≤ 1000) fun r ds => (.str (textR r (asStr (hd1 ds)) (asInt (a1 ds))).1, (textR r (asStr (hd1 ds)) (asInt (a1 ds))).2)) := by
  refine def_lend T.t__law_text sc__law_text rfl (fun _ _ _ _ _ _ us hl => match us, hl with | [_, _, _], _ => rfl) ?_
  intro fa cdv A outer s H E C r ds hl ⟨lz, m, hds, h1, hlz, hlz2, hm, hm2⟩
  subst hds
  obtain ⟨t1, t2, t3⟩ := taken_ok (m := m + 1) h1 (by omega)
  obtain ⟨t4, t5, t6⟩ := drawn_ok hlz (taken r (m + 1)).1.toNat t1
  have turns : ∀ (ds : List PyData) (r : Rw), RwOk r → ∀ {scope : Scope} {elt : Expr}, (∀ (r : Rw) (v : PyData), RwOk r → Bl (cxOf (L2.CX P w) P w K mg base n__law_text "_law_text" (defScope s__law_text) fa cdv A outer s H E) scope fun X => EV X Tb elt [.b (.lst (rwD r)), .d (.str lz), .d (.int m), .d v] (.d (picked r (lz.cps.toList.map sg)).1) [.b (.lst (rwD (picked r (lz.cps.toList.map sg)).2)), .d (.str lz), .d (.int m), .d v]) →
      ∀ {tg : Expr}, (∀ (r : Rw) (v : PyData), Bl (cxOf (L2.CX P w) P w K mg base n__law_text "_law_text" (defScope s__law_text) fa cdv A outer s H E) scope fun X => GW X Tb [3] tg (.d v) [.b (.lst (rwD r)), .d (.str lz), .d (.int m), .no] [.b (.lst (rwD r)), .d (.str lz), .d (.int m), .d v]) →
      CompF (cxOf (L2.CX P w) P w K mg base n__law_text "_law_text" (defScope s__law_text) fa cdv A outer s H E) Tb scope [3] tg [] elt ds [.b (.lst (rwD r)), .d (.str lz), .d (.int m), .no] ((drawn ds.length r lz.cps.toList).1.map sg) [.b (.lst (rwD (drawn ds.length r lz.cps.toList).2)), .d (.str lz), .d (.int m), .no] := by
    intro ds
    induction ds with
    | nil => exact fun r h1 scope elt he tg hg => cf_nil
    | cons d ds ih =>
      intro r h1 scope elt he tg hg
      obtain ⟨c, hc, e, h2⟩ := picked_sg h1 hlz
      have q := cf_yes (ds := ds) (hg r d) (fun s H C cl fp => tvs_nil) (he r d h1) (ih _ h2 he hg)
      have e2 : ((drawn (d :: ds).length r lz.cps.toList).1.map sg) = (picked r (lz.cps.toList.map sg)).1 :: (drawn ds.length (picked r (lz.cps.toList.map sg)).2 lz.cps.toList).1.map sg := by
        show (((asStr (picked r (lz.cps.toList.map sg)).1).cps.toList ++ _).map sg) = _
        rw [List.map_append, e]
        rfl
      rw [e2]
      exact q
  generalize hn : (taken r (m + 1)).1.toNat = n at *
  have rl : (rangeD 0 n).length = n := by simp [rangeD]
  refine ep_ret (ev_join (a := ⟨#[]⟩) (ys := (drawn n (taken r (m + 1)).2 lz.cps.toList).1.map fun c => ⟨#[c]⟩) ev_str (EV.eq (ev_lcD (ys := (drawn n (taken r (m + 1)).2 lz.cps.toList).1.map sg) (δ2 := [.b (.lst (rwD (drawn n (taken r (m + 1)).2 lz.cps.toList).2)), .d (.str lz), .d (.int m), .no]) (ds := rangeD 0 n) C [("_law_turn", 3)] (IV.eq (iv_range1 T.bi (ev_cl (i := 0) (d_taken T) (C.less (by decide)) (a := r) (xs := [.int (m + 1)]) (al_lend 0 rfl rfl (al_cons (ev_add (ev_var 2 rfl) ev_int) al_nil)) ⟨_, rfl, h1, by omega, by omega⟩ rfl rfl) (by show -(2 ^ 62) ≤ (taken r (m + 1)).1; omega) (by show (taken r (m + 1)).1 < 2 ^ 62; omega)) (by show rangeD 0 (taken r (m + 1)).1.toNat = _; rw [hn]))
    ?comp ?_) ?_) ?_) ?_
  case comp =>
    have q := fun {scope : Scope} {elt : Expr} => turns (rangeD 0 n) (taken r (m + 1)).2 t1 (scope := scope) (elt := elt)
    rw [rl] at q
    refine q (fun r v h1 s H C' cl fp => ?_) (fun r v s H C' cl fp => gw_name 3 C.nd)
    refine EV.cast (ev_cl (i := 0) (d_pick T) (C.less (by decide)) (a := r) (xs := [.list (lz.cps.toList.map sg)]) (al_lend 0 rfl rfl (al_cons (EV.eq (ev_frz (ev_lstS T.bi C.calm (ev_var 1 rfl) (line_of (by omega)))) ?_) al_nil)) ⟨_, rfl, h1, by simpa using hlz, ?_⟩ rfl rfl) rfl rfl
    · show PyData.list ((lz.cps.toList.map fun c => (⟨#[c]⟩ : Str)).map .str) = _
      rw [List.map_map]
      rfl
    · rw [List.length_map, ← len_cps]
      omega
  · rw [List.length_map, t5]
    exact line_of (by omega)
  · rw [List.map_map]
    rfl
  · have one : ∀ cs : List Nat, ((cs.map fun c => (⟨#[c]⟩ : Str)).map (·.length)).sum = cs.length := by
      intro cs
      induction cs with
      | nil => rfl
      | cons c cs ih =>
        rw [List.map_cons, List.map_cons, List.sum_cons, ih, List.length_cons]
        show 1 + _ = _
        omega
    rw [one, t5, List.length_map, t5]
    show n + n * 0 ≤ _
    omega
  · have e : textR r lz m = (mkS (drawn n (taken r (m + 1)).2 lz.cps.toList).1, (drawn n (taken r (m + 1)).2 lz.cps.toList).2) := by
      unfold textR
      rw [hn]
    show ∃ δf, _ = Out.ret (.d (.str (textR r lz m).1)) δf ∧ δf[0]? = some (.b (.lst (rwD (textR r lz m).2)))
    rw [e, join_signs]
    exact ⟨_, rfl, rfl⟩
end KL
namespace KL
open PySem L2 NdefX Sc PySem.W
variable {P : Program} {w : World} {K : PySem.W.Frag} {mg : Str → Option Value} {base : Heap} {Tb : List NTab}
theorem d_law_behind (T : Tops K mg) : Def P w K mg base Tb 1 "_law_behind" [] (FnR 2 (fun ds => ∃ z d, ds = [.str z, dd d] ∧ z.length ≤ 4000 ∧ d.2.1.length ≤ 1000 ∧ d.2.2.length ≤ 1000) fun ds => .r (.d (.str (behindS (asStr (hd1 ds)) ((asInt (hd1 (asTup (a1 ds)))).toNat, (asStr (a1 (asTup (a1 ds))), asStr (a2 (asTup (a1 ds))))))))) := by
  refine def_fn T.t__law_behind sc__law_behind rfl (fun _ _ _ _ _ _ us hl => match us, hl with | [_, _], _ => rfl) ?_
  intro fa cdv A outer s H E C ds hl ⟨z, ⟨n, l, r⟩, hds, h1, h2, h3⟩
  subst hds
  refine EA.end (f := true) ?_
  have hz : z.length ≤ sizeLine := line_of (by omega)
  have hl2 : l.length ≤ sizeLine := line_of (Nat.le_trans h2 (by decide))
  have c1 : (cutS z none (some (n : Int))).length ≤ z.length := by
    rw [len_cps, cut_to, len_cps z, List.length_take]
    omega
  have c2 : (cutS z (some ((n + l.length : Nat) : Int)) none).length ≤ z.length := by
    rw [len_cps, cut_from, len_cps z, List.length_drop]
    omega
  have c3 : (cutS z none (some (n : Int)) ++ r).length ≤ z.length + r.length := by
    rw [len_cps, app_cps, List.length_append, ← len_cps, ← len_cps]
    omega
  have h3' : r.length ≤ 1000 := h3
  refine ea_retD (ev_addS (ev_addS (ev_slS (ev_var 0 rfl) .none (.some (ev_ixT (ev_var 1 rfl) ev_int rfl)) hz) (ev_ixT (ev_var 1 rfl) ev_int rfl) ?_) (ev_slS (ev_var 0 rfl) (.some (ev_add (ev_ixT (ev_var 1 rfl) ev_int rfl) (ev_lenS T.bi (ev_ixT (ev_var 1 rfl) ev_int rfl) hl2))) .none hz) ?_) rfl
  · refine line_of ?_
    show (cutS z none (some (n : Int))).length + r.length ≤ 10000
    omega
  · refine line_of ?_
    show (cutS z none (some (n : Int)) ++ r).length + (cutS z (some ((n + l.length : Nat) : Int)) none).length ≤ 10000
    omega
end KL
namespace KL
open PySem L2 NdefX Sc PySem.W
variable {P : Program} {w : World} {K : PySem.W.Frag} {mg : Str → Option Value} {base : Heap} {Tb : List NTab}
def kindR (r : Rw) (lz : Str) : Kd × Rw :=
  let t := textR r lz 2
  let p := picked t.2 (lz.cps.toList.map sg)
  let l := t.1 ++ asStr p.1
  if 1 < l.length then ((l, (textR p.2 lz 1).1), (textR p.2 lz 1).2) else ((l, ⟨#[]⟩), p.2)
def menderR : Nat → Rw → Str → List Kd → List Kd × Rw
  | 0, r, _, ks => (ks, r)
  | n + 1, r, lz, ks => menderR n (kindR r lz).2 lz (if (kindR r lz).1 ∈ ks then ks else ks ++ [(kindR r lz).1])
/-- what is known of kinds drawn -/
def KindOk (lz : Str) (p : Kd) : Prop := p.1.length ≤ 3 ∧ p.2.length ≤ 1 ∧ p.2.length < p.1.length ∧ (∀ c ∈ p.1.cps.toList, c ∈ lz.cps.toList) ∧ ∀ c ∈ p.2.cps.toList, c ∈ lz.cps.toList
theorem kindR_ok {r : Rw} {lz : Str} (h : RwOk r) (hl : lz.cps.toList ≠ []) : KindOk lz (kindR r lz).1 ∧ RwOk (kindR r lz).2 := by
  obtain ⟨t1, t2, t3⟩ := textR_ok (m := 2) h hl (by decide)
  obtain ⟨c, hc, e, p2⟩ := picked_sg t1 hl
  have e1 : (asStr (picked (textR r lz 2).2 (lz.cps.toList.map sg)).1).cps.toList = [c] := by
    rw [e]
    rfl
  have e2 : ((textR r lz 2).1 ++ asStr (picked (textR r lz 2).2 (lz.cps.toList.map sg)).1).cps.toList = (textR r lz 2).1.cps.toList ++ [c] := by rw [app_cps, e1]
  have e3 : ((textR r lz 2).1 ++ asStr (picked (textR r lz 2).2 (lz.cps.toList.map sg)).1).length = (textR r lz 2).1.length + 1 := by
    rw [len_cps, e2, List.length_append, ← len_cps]
    rfl
  have in1 : ∀ x ∈ ((textR r lz 2).1 ++ asStr (picked (textR r lz 2).2 (lz.cps.toList.map sg)).1).cps.toList, x ∈ lz.cps.toList := by
    rw [e2]
    intro x hx
    rcases List.mem_append.mp hx with q | q
    · exact t3 x q
    · rw [List.mem_singleton.mp q]
      exact hc
  unfold kindR
  simp only
  by_cases h1 : 1 < ((textR r lz 2).1 ++ asStr (picked (textR r lz 2).2 (lz.cps.toList.map sg)).1).length
  · rw [if_pos h1]
    obtain ⟨u1, u2, u3⟩ := textR_ok (m := 1) p2 hl (by decide)
    refine ⟨⟨?_, ?_, ?_, in1, u3⟩, u1⟩
    · show ((textR r lz 2).1 ++ asStr (picked (textR r lz 2).2 (lz.cps.toList.map sg)).1).length ≤ 3
      omega
    · show (textR _ lz 1).1.length ≤ 1
      omega
    · show (textR _ lz 1).1.length < ((textR r lz 2).1 ++ asStr (picked (textR r lz 2).2 (lz.cps.toList.map sg)).1).length
      omega
  · rw [if_neg h1]
    refine ⟨⟨?_, Nat.zero_le _, ?_, in1, fun x hx => by cases hx⟩, p2⟩
    · show ((textR r lz 2).1 ++ asStr (picked (textR r lz 2).2 (lz.cps.toList.map sg)).1).length ≤ 3
      omega
    · show 0 < ((textR r lz 2).1 ++ asStr (picked (textR r lz 2).2 (lz.cps.toList.map sg)).1).length
      omega
theorem menderR_ok {lz : Str} (hl : lz.cps.toList ≠ []) : ∀ (n : Nat) {r : Rw} {ks : List Kd}, RwOk r → (∀ p ∈ ks, KindOk lz p) → ks.Nodup → RwOk (menderR n r lz ks).2 ∧ (∀ p ∈ (menderR n r lz ks).1, KindOk lz p) ∧ (menderR n r lz ks).1.Nodup ∧ (menderR n r lz ks).1.length ≤ ks.length + n
  | 0, r, ks, h, hk, hn => ⟨h, hk, hn, Nat.le_refl _⟩
  | n + 1, r, ks, h, hk, hn => by
    obtain ⟨k1, k2⟩ := kindR_ok h hl
    unfold menderR
    by_cases hm : (kindR r lz).1 ∈ ks
    · rw [if_pos hm]
      obtain ⟨a, b, c, d⟩ := menderR_ok hl n k2 hk hn
      exact ⟨a, b, c, by omega⟩
    · rw [if_neg hm]
      obtain ⟨a, b, c, d⟩ := menderR_ok hl n (ks := ks ++ [(kindR r lz).1]) k2 (fun p hp => (List.mem_append.mp hp).elim (hk p) fun q => by rw [List.mem_singleton.mp q]; exact k1) (by
        rw [List.nodup_append]
        refine ⟨hn, by simp, fun a ha b hb e => ?_⟩
        rw [List.mem_singleton.mp hb] at e
        exact hm (e ▸ ha))
      rw [List.length_append, List.length_singleton] at d
      exact ⟨a, b, c, by omega⟩
theorem eqv_kd (a b : Kd) : PyData.eqv (kd a) (kd b) = decide (a = b) := by
  show PyData.eqv (.tuple [.str a.1, .str a.2]) (.tuple [.str b.1, .str b.2]) = _
  simp only [PyData.eqv, PyData.eqvAll, Bool.and_true]
  cases h : decide (a = b) with
  | true =>
    have e := of_decide_eq_true h
    rw [e]
    simp
  | false =>
    have e := of_decide_eq_false h
    by_cases h1 : a.1 = b.1
    · have h2 : ¬ a.2 = b.2 := fun h2 => e (Prod.ext h1 h2)
      simp [h1, h2]
    · simp [h1]
theorem any_kd (ks : List Kd) (p : Kd) : ((ks.map kd).any fun z => PyData.eqv z (kd p)) = decide (p ∈ ks) := by
  rw [List.any_map]
  cases h : decide (p ∈ ks) with
  | true =>
    rw [List.any_eq_true]
    exact ⟨p, of_decide_eq_true h, by show PyData.eqv (kd p) (kd p) = true; rw [eqv_kd]; simp⟩
  | false =>
    rw [List.any_eq_false]
    intro q hq
    show ¬ PyData.eqv (kd q) (kd p) = true
    rw [eqv_kd]
    simp
    rintro rfl
    exact of_decide_eq_false h hq
end KL
namespace KL
open PySem L2 NdefX Sc PySem.W
variable {P : Program} {w : World} {K : PySem.W.Frag} {mg : Str → Option Value} {base : Heap} {Tb : List NTab}
theorem sgn_list (z : Str) : PyData.list ((signs z).map .str) = .list (z.cps.toList.map sg) := by
  show PyData.list ((z.cps.toList.map fun c => (⟨#[c]⟩ : Str)).map .str) = _
  rw [List.map_map]
  rfl
theorem shp_kd {lz : Str} (hlz : Ok lz) {p : Kd} (h : KindOk lz p) : Shp 1 (kd p) := by
  obtain ⟨_, _, _, h4, h5⟩ := h
  refine shp_tup fun d hd => ?_
  simp at hd
  rcases hd with e | e
  · rw [e]; exact shp_str (ok_sub hlz h4)
  · rw [e]; exact shp_str (ok_sub hlz h5)
section
variable {X : Cx} {T : List NTab} {δ δ1 : List Sl} {e : Expr} {es : List Expr} {p pos : Pos}
theorem ev_taken (D : Def X.prog X.w X.K X.mg X.base T 1 "_law_taken" [] (LendR rwD 1 (fun r ds => ∃ m, ds = [.int m] ∧ RwOk r ∧ 0 < m ∧ m < 1073741824) fun r ds => (.int (taken r (asInt (hd1 ds))).1, (taken r (asInt (hd1 ds))).2))) (hr : Room 1 X.A) (i : Nat) {r : Rw} {m : Int} {s : Sl}
    (ha : AL X T (e :: es) δ [.lend i, .r (.d (.int m))] δ1) (h : RwOk r) (hm : 0 < m) (hm2 : m < 1073741824) (hs : δ1[i]? = some s := by rfl) (hw : s.ow = some (.lst (rwD r)) := by rfl) (hg : Gl X "_law_taken" := by rfl) (he : starEach (e :: es) X.env = (false, eval e X.env) :: starEach es X.env := by rfl) (hpl : (backTo pos (starEach es X.env)).any (·.1) = false := by rfl) :
    EV X T (.Call (.Name "_law_taken" p) (e :: es) [] pos) δ (.d (.int (taken r m).1)) (δ1.set i (s.put (.lst (rwD (taken r m).2)))) := ev_cl D hr (a := r) (xs := [.int m]) ha ⟨m, rfl, h, hm, hm2⟩ hs hw rfl rfl hg (by decide) he hpl
theorem ev_pick (D : Def X.prog X.w X.K X.mg X.base T 2 "_law_pick" [] (LendR rwD 1 (fun r ds => ∃ xs, ds = [.list xs] ∧ RwOk r ∧ xs ≠ [] ∧ xs.length ≤ 100000) fun r ds => picked r (asList (hd1 ds)))) (hr : Room 2 X.A) (i : Nat) {r : Rw} {xs : List PyData} {s : Sl}
    (ha : AL X T (e :: es) δ [.lend i, .r (.d (.list xs))] δ1) (h : RwOk r) (hx : xs ≠ []) (hx2 : xs.length ≤ 100000) (hs : δ1[i]? = some s := by rfl) (hw : s.ow = some (.lst (rwD r)) := by rfl) (hg : Gl X "_law_pick" := by rfl) (he : starEach (e :: es) X.env = (false, eval e X.env) :: starEach es X.env := by rfl) (hpl : (backTo pos (starEach es X.env)).any (·.1) = false := by rfl) :
    EV X T (.Call (.Name "_law_pick" p) (e :: es) [] pos) δ (.d (picked r xs).1) (δ1.set i (s.put (.lst (rwD (picked r xs).2)))) := ev_cl D hr (a := r) (xs := [.list xs]) ha ⟨xs, rfl, h, hx, hx2⟩ hs hw rfl rfl hg (by decide) he hpl
theorem ev_text (D : Def X.prog X.w X.K X.mg X.base T 3 "_law_text" [] (LendR rwD 2 (fun r ds => ∃ lz m, ds = [.str lz, .int m] ∧ RwOk r ∧ lz.cps.toList ≠ [] ∧ lz.length ≤ 1000 ∧ 0 ≤ m ∧ m ≤ 1000) fun r ds => (.str (textR r (asStr (hd1 ds)) (asInt (a1 ds))).1, (textR r (asStr (hd1 ds)) (asInt (a1 ds))).2))) (hr : Room 3 X.A) (i : Nat) {r : Rw} {lz : Str} {m : Int} {s : Sl}
    (ha : AL X T (e :: es) δ [.lend i, .r (.d (.str lz)), .r (.d (.int m))] δ1) (h : RwOk r) (hl : lz.cps.toList ≠ []) (hl2 : lz.length ≤ 1000) (hm : 0 ≤ m) (hm2 : m ≤ 1000) (hs : δ1[i]? = some s := by rfl) (hw : s.ow = some (.lst (rwD r)) := by rfl) (hg : Gl X "_law_text" := by rfl) (he : starEach (e :: es) X.env = (false, eval e X.env) :: starEach es X.env := by rfl) (hpl : (backTo pos (starEach es X.env)).any (·.1) = false := by rfl) :
    EV X T (.Call (.Name "_law_text" p) (e :: es) [] pos) δ (.d (.str (textR r lz m).1)) (δ1.set i (s.put (.lst (rwD (textR r lz m).2)))) := ev_cl D hr (a := r) (xs := [.str lz, .int m]) ha ⟨lz, m, rfl, h, hl, hl2, hm, hm2⟩ hs hw rfl rfl hg (by decide) he hpl
end
theorem d_law_mender (T : Tops K mg) : Def P w K mg base Tb 4 "_law_mender" [] (LendR rwD 1 (fun r ds => ∃ lz, ds = [.str lz] ∧ RwOk r ∧ lz.cps.toList ≠ [] ∧ lz.length ≤ 100 ∧ Ok lz) fun r ds => (kdsD (menderR (1 + (taken r 4).1).toNat (taken r 4).2 (asStr (hd1 ds)) []).1, (menderR (1 + (taken r 4).1).toNat (taken r 4).2 (asStr (hd1 ds)) []).2)) := by
  refine def_lend T.t__law_mender sc__law_mender rfl (fun _ _ _ _ _ _ us hl => match us, hl with | [_, _], _ => rfl) ?_
  intro fa cdv A outer s H E C r ds hl ⟨lz, hds, h1, hlz, hlz2, hok⟩
  subst hds
  obtain ⟨t1, t2, t3⟩ := taken_ok (m := 4) h1 (by decide)
  show EP _ Tb _ true _ [.b (.lst (rwD r)), .d (.str lz), .no, .no, .no, .no] fun of => ∃ δf, of = .ret (.d (kdsD (menderR (1 + (taken r 4).1).toNat (taken r 4).2 lz []).1)) δf ∧ δf[0]? = some (.b (.lst (rwD (menderR (1 + (taken r 4).1).toNat (taken r 4).2 lz []).2)))
  generalize hn : (1 + (taken r 4).1).toNat = n
  have hn4 : n ≤ 4 := by omega
  refine ep_cons (sv_let C 2 (ev_lstd (rs := []) av_nil)) ?_
  refine ep_cons (sv_forF (o := .nx [.b (.lst (rwD (menderR n (taken r 4).2 lz []).2)), .d (.str lz), .d (.list ((menderR n (taken r 4).2 lz []).1.map kd)), .no, .no, .no]) C (IV.eq (iv_range1 T.bi (ev_add ev_int (ev_taken (d_taken T) (C.less (by decide)) 0 (al_lend 0 rfl rfl (al_cons ev_int al_nil)) h1 (by decide) (by decide))) (by omega) (by omega)) (by rw [hn])) ?_) ?_
  · have hlen : (rangeD 0 n).length = n := by simp [rangeD]
    generalize rangeD 0 n = ds at hlen
    show LoopF _ Tb _ _ _ ds [.b (.lst (rwD (taken r 4).2)), .d (.str lz), .d (.list (([] : List Kd).map kd)), .no, .no, .no] _
    have hks : ([] : List Kd).length + n ≤ 4 := by simpa using hn4
    have hko : ∀ p ∈ ([] : List Kd), KindOk lz p := fun p hp => by cases hp
    generalize ([] : List Kd) = ks at hks hko ⊢
    generalize (taken r 4).2 = r0 at t1 ⊢
    clear hn hn4 t2 t3
    induction ds generalizing n r0 ks with
    | nil =>
      have e : n = 0 := hlen.symm
      subst e
      exact lf_nil
    | cons d ds ih =>
      obtain ⟨n, rfl⟩ : ∃ m, n = m + 1 := ⟨ds.length, by rw [← hlen]; rfl⟩
      have hlen' : ds.length = n := by simpa using hlen
      obtain ⟨x1, x2, x3⟩ := textR_ok (m := 2) t1 hlz (by decide)
      obtain ⟨c, hc, ec, p2⟩ := picked_sg x1 hlz
      obtain ⟨k1, k2⟩ := kindR_ok t1 hlz
      have q := ih n hlen' (if (kindR r0 lz).1 ∈ ks then ks else ks ++ [(kindR r0 lz).1]) (by split <;> (try rw [List.length_append, List.length_singleton]) <;> omega) (by
        split
        · exact hko
        · exact fun p hp => (List.mem_append.mp hp).elim (hko p) fun q => by rw [List.mem_singleton.mp q]; exact k1) _ k2
      refine lf_nx (gw_name 3 C.nd).gv ?_ q
      have elen : ((textR r0 lz 2).1 ++ asStr (picked (textR r0 lz 2).2 (lz.cps.toList.map sg)).1).length = (textR r0 lz 2).1.length + 1 := by
        rw [len_cps, app_cps, List.length_append, ← len_cps, ec]
        rfl
      have hsize : ((textR r0 lz 2).1 ++ asStr (picked (textR r0 lz 2).2 (lz.cps.toList.map sg)).1).length ≤ 3 := by omega
      have ekr : kindR r0 lz = if 1 < ((textR r0 lz 2).1 ++ asStr (picked (textR r0 lz 2).2 (lz.cps.toList.map sg)).1).length then (((textR r0 lz 2).1 ++ asStr (picked (textR r0 lz 2).2 (lz.cps.toList.map sg)).1, (textR (picked (textR r0 lz 2).2 (lz.cps.toList.map sg)).2 lz 1).1), (textR (picked (textR r0 lz 2).2 (lz.cps.toList.map sg)).2 lz 1).2) else (((textR r0 lz 2).1 ++ asStr (picked (textR r0 lz 2).2 (lz.cps.toList.map sg)).1, ⟨#[]⟩), (picked (textR r0 lz 2).2 (lz.cps.toList.map sg)).2) := rfl
      have ep : (picked (textR r0 lz 2).2 (lz.cps.toList.map sg)).1 = .str (asStr (picked (textR r0 lz 2).2 (lz.cps.toList.map sg)).1) := by rw [ec]; rfl
      refine SVs.eq (svs_wipe [3, 4, 5] (δ1 := [.b (.lst (rwD (kindR r0 lz).2)), .d (.str lz), .d (.list ((if (kindR r0 lz).1 ∈ ks then ks else ks ++ [(kindR r0 lz).1]).map kd)), .d d, .d (.str ((textR r0 lz 2).1 ++ asStr (picked (textR r0 lz 2).2 (lz.cps.toList.map sg)).1)), .d (kd (kindR r0 lz).1)]) ?_) rfl
      refine svs_cons (δ1 := [.b (.lst (rwD (picked (textR r0 lz 2).2 (lz.cps.toList.map sg)).2)), .d (.str lz), .d (.list (ks.map kd)), .d d, .d (.str ((textR r0 lz 2).1 ++ asStr (picked (textR r0 lz 2).2 (lz.cps.toList.map sg)).1)), .no]) (SV.eq (sv_let C 4 (ev_addS (ev_text (d_text T) (C.less (by decide)) 0 (al_lend 0 rfl rfl (al_cons (ev_var 1 rfl) (al_cons ev_int al_nil))) t1 hlz (by omega) (by decide) (by decide))
        (EV.eq (ev_pick (d_pick T) (C.less (by decide)) 0 (al_lend 0 rfl rfl (al_cons (EV.eq (ev_frz (ev_lstS T.bi C.calm (ev_var 1 rfl) (line_of (by omega)))) (sgn_list lz)) al_nil)) x1 (by simpa using hlz) (by rw [List.length_map, ← len_cps]; omega)) ep) ?_)) rfl) ?_
      · have e1 : (asStr (picked (textR r0 lz 2).2 (lz.cps.toList.map sg)).1).length = 1 := by rw [ec]; rfl
        rw [e1]
        exact line_of (by omega)
      · generalize (textR r0 lz 2).1 ++ asStr (picked (textR r0 lz 2).2 (lz.cps.toList.map sg)).1 = l at *
        generalize (picked (textR r0 lz 2).2 (lz.cps.toList.map sg)).2 = r1 at *
        refine svs_cons (δ1 := [.b (.lst (rwD (kindR r0 lz).2)), .d (.str lz), .d (.list (ks.map kd)), .d d, .d (.str l), .d (kd (kindR r0 lz).1)]) ?_ ?_
        · by_cases h1l : 1 < l.length
          · rw [if_pos h1l] at ekr
            rw [ekr]
            refine SV.eq (sv_let C 5 (ev_tup (rs := [.str l, .str (textR r1 lz 1).1]) (av_cons (ev_var 4 rfl) (av_cons (ev_if (t := true) (TV.eq (tv_gtI (ev_lenS T.bi (ev_var 4 rfl) (line_of (by omega))) ev_int) (decide_eq_true (by omega))) (fun _ => ev_text (d_text T) (C.less (by decide)) 0 (al_lend 0 rfl rfl (al_cons (ev_var 1 rfl) (al_cons ev_int al_nil))) p2 hlz (by omega) (by decide) (by decide)) (fun h => nomatch h)) av_nil)))) rfl
          · rw [if_neg h1l] at ekr
            rw [ekr]
            refine SV.eq (sv_let C 5 (ev_tup (rs := [.str l, .str ⟨#[]⟩]) (av_cons (ev_var 4 rfl) (av_cons (ev_if (t := false) (TV.eq (tv_gtI (ev_lenS T.bi (ev_var 4 rfl) (line_of (by omega))) ev_int) (decide_eq_false (by omega))) (fun h => nomatch h) (fun _ => ev_str)) av_nil)))) rfl
        · have hsk : ∀ x ∈ ks.map kd, Shp 1 x := fun x hx => by
            obtain ⟨q, hq, rfl⟩ := List.mem_map.mp hx
            exact shp_kd hok (hko q hq)
          have hlk : (ks.map kd).length ≤ 3 := by rw [List.length_map]; omega
          refine svs_one (SV.eq (sv_let C 2 (r := .d (.list ((if (kindR r0 lz).1 ∈ ks then ks else ks ++ [(kindR r0 lz).1]).map kd))) (EV.eq (ev_frz (ev_cat (ev_var 2 rfl) (ev_frz (ev_rep (ev_lstd (rs := [kd (kindR r0 lz).1]) (av_cons (ev_var 5 rfl) av_nil)) (ev_intB T.bi (ev_ninD (ev_var 5 rfl) (ev_var 2 rfl) C.u65 (shp_kd hok k1).ok (shp_lst hsk).ok)) ?_ ?_ ?_)) ?_)) ?_)) rfl)
          · split <;> decide
          · split <;> decide
          · show 1 * _ ≤ _
            split <;> decide
          · refine line_of ?_
            split <;> simp <;> omega
          · rw [any_kd]
            by_cases hm : (kindR r0 lz).1 ∈ ks
            · rw [if_pos hm, decide_eq_true hm]
              simp
            · rw [if_neg hm, decide_eq_false hm]
              simp
  · exact ep_ret (ev_tupL T.bi (ev_var 2 rfl)) ⟨_, rfl, rfl⟩
end KL
namespace KL
open PySem L2 NdefX Sc PySem.W
variable {P : Program} {w : World} {K : PySem.W.Frag} {mg : Str → Option Value} {base : Heap} {Tb : List NTab}
section
variable {X : Cx} {T : List NTab} {δ δ1 δ2 : List Sl} {a b e : Expr} {p pos : Pos}
theorem ev_ixA {d x : PyData} {xs : List PyData} {i : Int} (h : d = .list xs ∨ d = .tuple xs) (ha : EV X T a δ (.d d) δ1) (hb : EV X T b δ1 (.d (.int i)) δ2) (hd : atI xs i = some x) (hs : PlainIx b := by intro _ _; rfl) : EV X T (.Subscript a b pos) δ (.d x) δ2 := by
  rcases h with h | h
  · subst h
    exact ev_ixL ha hb hd hs
  · subst h
    exact ev_ixT ha hb hd hs
theorem ev_lenA {d : PyData} {xs : List PyData} (B : Bi X.mg) (hd : d = .list xs ∨ d = .tuple xs) (h : EV X T e δ (.d d) δ1) (hg : Gl X "len" := by rfl) (he : starEach [e] X.env = (false, eval e X.env) :: starEach [] X.env := by rfl) (hpl : (backTo pos (starEach [] X.env)).any (·.1) = false := by rfl) :
    EV X T (.Call (.Name "len" p) [e] [] pos) δ (.d (.int (xs.length : Nat))) δ1 := by
  rcases hd with q | q
  · subst q
    exact ev_lenL B h hg he hpl
  · subst q
    exact ev_lenT B h hg he hpl
end
/-- what may be compared with itself -/
inductive Al : Nat → PyData → Prop
  | non {n : Nat} : Al n .none
  | bool {n : Nat} (b : Bool) : Al n (.bool b)
  | int {n : Nat} (i : Int) : Al n (.int i)
  | str {n : Nat} {z : Str} (h : Ok z) : Al n (.str z)
  | list {n : Nat} {ds : List PyData} (h : ∀ d ∈ ds, Al n d) (hl : ds.length ≤ 10000) : Al (n + 1) (.list ds)
  | tuple {n : Nat} {ds : List PyData} (h : ∀ d ∈ ds, Al n d) (hl : ds.length ≤ 10000) : Al (n + 1) (.tuple ds)
def Alike (n : Nat) : List Sl → Out → Prop := FnR 2 (fun ds => ∃ d, ds = [d, d] ∧ Al n d) fun _ => .r (.d (.bool true))
theorem alike_leaf (T : Tops K mg) {k : Nat} {fa : Addr} {cdv : Value} {A : Around} {outer : List PySem.Env} {s : Shared} {H : Hp} {E : XK} (C : Cok (cxOf (L2.CX P w) P w K mg base n__law_alike "_law_alike" (defScope s__law_alike) fa cdv A outer s H E) (fun cls d _ H => E cls d H) k) {d : PyData} (h1 : instD "tuple" d = false) (h2 : instD "list" d = false) (h3 : instD "dict" d = false) (hs : Shp 0 d) (hk : isNone d = true ∨ instD "str" d = true ∨ instD "int" d = true) :
    EA (cxOf (L2.CX P w) P w K mg base n__law_alike "_law_alike" (defScope s__law_alike) fa cdv A outer s H E) Tb (fun cls d _ H => E cls d H) true (defBody s__law_alike) ([d, d].map .d ++ List.replicate (n__law_alike.length - 2) .no) (.r (.d (.bool true))) := by
  refine ea_if (t := false) (TV.eq (tv_val (ev_isi2 T.bi (ev_var 1 rfl) (kit_tuple _) (kit_list _) T.bi.tuple T.bi.list rfl rfl)) (by rw [h1, h2]; rfl)) (fun h => nomatch h) (fun _ => eb_nil ?_)
  refine ea_if (t := false) (TV.eq (tv_val (ev_isi T.bi (ev_var 1 rfl) (kit_dict _) T.bi.dict rfl)) h3) (fun h => nomatch h) (fun _ => eb_nil ?_)
  refine ea_if (tv_tw (tw_or (tv_isN (ev_var 1 rfl) ev_non) fun _ => tw_or1 (tv_val (ev_isi T.bi (ev_var 1 rfl) (kit_str _) T.bi.str rfl)))) (fun h => eb_stop ?_) (fun h => eb_nil ?_)
  · refine ea_retB (ev_and (ev_eqD (ev_var 0 rfl) (ev_var 1 rfl) C.u64 hs.ok hs.ok) fun _ => ev_one (ev_eqB (ev_isi T.bi (ev_var 0 rfl) (kit_str _) T.bi.str rfl) (ev_isi T.bi (ev_var 1 rfl) (kit_str _) T.bi.str rfl))) ?_
    rw [hs.self]
    simp
  · have hi : instD "int" d = true := by
      rcases hk with q | q | q
      · rw [q] at h
        cases h
      · rw [q] at h
        simp at h
      · exact q
    refine ea_retB (ev_and (ev_isi T.bi (ev_var 0 rfl) (kit_int _) T.bi.int rfl) fun _ => ev_and (ev_eqB (ev_isi T.bi (ev_var 0 rfl) (kit_bool _) T.bi.bool rfl) (ev_isi T.bi (ev_var 1 rfl) (kit_bool _) T.bi.bool rfl)) fun _ => ev_one (ev_eqD (ev_var 0 rfl) (ev_var 1 rfl) C.u64 hs.ok hs.ok)) ?_
    rw [hs.self, hi]
    simp
theorem alike_seq (T : Tops K mg) {n k : Nat} (hk : n + 1 ≤ k) (ih : Def P w K mg base Tb (n + 1) "_law_alike" [] (Alike n)) {fa : Addr} {cdv : Value} {A : Around} {outer : List PySem.Env} {s : Shared} {H : Hp} {E : XK} (C : Cok (cxOf (L2.CX P w) P w K mg base n__law_alike "_law_alike" (defScope s__law_alike) fa cdv A outer s H E) (fun cls d _ H => E cls d H) k) {d : PyData} {xs : List PyData} (hd : d = .list xs ∨ d = .tuple xs) (hx : ∀ x ∈ xs, Al n x) (hz : xs.length ≤ 10000) :
    EA (cxOf (L2.CX P w) P w K mg base n__law_alike "_law_alike" (defScope s__law_alike) fa cdv A outer s H E) Tb (fun cls d _ H => E cls d H) true (defBody s__law_alike) ([d, d].map .d ++ List.replicate (n__law_alike.length - 2) .no) (.r (.d (.bool true))) := by
  have i2 : (instD "tuple" d || instD "list" d) = true := by rcases hd with e | e <;> rw [e] <;> rfl
  refine ea_if (t := true) (TV.eq (tv_val (ev_isi2 T.bi (ev_var 1 rfl) (kit_tuple _) (kit_list _) T.bi.tuple T.bi.list rfl rfl)) i2) (fun _ => eb_stop ?_) (fun h => nomatch h)
  refine ea_if (t := false) (TV.eq (tv_tw (tw_or (tv_not (tv_val (ev_isi2 T.bi (ev_var 0 rfl) (kit_tuple _) (kit_list _) T.bi.tuple T.bi.list rfl rfl))) fun _ => tw_or1 (tv_neB (ev_isi T.bi (ev_var 0 rfl) (kit_list _) T.bi.list rfl) (ev_isi T.bi (ev_var 1 rfl) (kit_list _) T.bi.list rfl)))) (by rw [i2]; simp)) (fun h => nomatch h) (fun _ => eb_nil ?_)
  refine ea_if (t := false) (TV.eq (tv_neI (ev_lenA T.bi hd (ev_var 0 rfl)) (ev_lenA T.bi hd (ev_var 1 rfl))) (by simp)) (fun h => nomatch h) (fun _ => eb_nil ?_)
  refine ea_retB (ev_eqD (x := .list []) (y := .list []) (ev_lcD C [("_law_k", 2)] (iv_range1 T.bi (ev_lenA T.bi hd (ev_var 1 rfl)) (by omega) (by omega)) (cf_mapE (xs := List.range xs.length) (en := fun p => .int (p : Nat)) (f := fun p => .int (p : Nat)) (c := fun _ => false) (st2 := fun p => [.d d, .d d, .d (.int (p : Nat)), .no]) (st3 := fun p => [.d d, .d d, .d (.int (p : Nat)), .no]) (range_en _) (fun p _ s H C' cl fp => gw_name 2 C.nd) (fun p hp s H C' cl fp => ?_) (fun p hp h => nomatch h) (by simp)) (Nat.zero_le _)) (ev_lstd (rs := []) av_nil) C.u64 rfl rfl) rfl
  have hp' := List.mem_range.mp hp
  have hat : atI xs ((p : Nat) : Int) = some xs[p] := atI_nat (List.getElem?_eq_getElem hp')
  exact tvs_one (TV.eq (tv_not (tv_val (ev_cf ih (C.less hk) (xs := [xs[p], xs[p]]) (al_cons (ev_ixA hd (ev_var 0 rfl) (ev_var 2 rfl) hat) (al_cons (ev_ixA hd (ev_var 1 rfl) (ev_var 2 rfl) hat) al_nil)) rfl ⟨_, rfl, hx _ (List.getElem_mem hp')⟩))) rfl)
theorem d_alike (T : Tops K mg) : ∀ n : Nat, Def P w K mg base Tb (n + 1) "_law_alike" [] (Alike n) := by
  intro n
  induction n with
  | zero =>
    refine def_fn T.t__law_alike sc__law_alike rfl (fun _ _ _ _ _ _ us hl => match us, hl with | [_, _], _ => rfl) ?_
    intro fa cdv A outer s H E C ds hl ⟨d, hds, ha⟩
    subst hds
    refine EA.end (f := true) ?_
    cases ha with
    | non => exact alike_leaf T C rfl rfl rfl shp_none (.inl rfl)
    | bool b => exact alike_leaf T C rfl rfl rfl (shp_bool b) (.inr (.inr rfl))
    | int i => exact alike_leaf T C rfl rfl rfl (shp_int i) (.inr (.inr rfl))
    | str h => exact alike_leaf T C rfl rfl rfl (shp_str h) (.inr (.inl rfl))
  | succ n ih =>
    refine def_fn T.t__law_alike sc__law_alike rfl (fun _ _ _ _ _ _ us hl => match us, hl with | [_, _], _ => rfl) ?_
    intro fa cdv A outer s H E C ds hl ⟨d, hds, ha⟩
    subst hds
    refine EA.end (f := true) ?_
    cases ha with
    | non => exact alike_leaf T C rfl rfl rfl shp_none (.inl rfl)
    | bool b => exact alike_leaf T C rfl rfl rfl (shp_bool b) (.inr (.inr rfl))
    | int i => exact alike_leaf T C rfl rfl rfl (shp_int i) (.inr (.inr rfl))
    | str h => exact alike_leaf T C rfl rfl rfl (shp_str h) (.inr (.inl rfl))
    | list h hz => exact alike_seq T (Nat.le_refl _) ih C (.inl rfl) h hz
    | tuple h hz => exact alike_seq T (Nat.le_refl _) ih C (.inr rfl) h hz
end KL
namespace KL
open PySem L2 NdefX Sc PySem.W
variable {P : Program} {w : World} {K : PySem.W.Frag} {mg : Str → Option Value} {base : Heap} {Tb : List NTab}
def kLen (d : PyData) : PyData := .tuple [.int ((asStr d).length : Nat), d]
theorem d_by_length (T : Tops K mg) : Def P w K mg base Tb 1 "by_length" [] (FnR 1 (fun ds => ∃ z, ds = [.str z] ∧ z.length ≤ 10000) fun ds => .r (.d (kLen (hd1 ds)))) := by
  refine def_fn T.t_by_length sc_by_length rfl (fun _ _ _ _ _ _ us hl => match us, hl with | [_], _ => rfl) ?_
  intro fa cdv A outer s H E C ds hl ⟨z, hds, hz⟩
  subst hds
  refine EA.end (f := true) (ea_retD (ev_tup2 (ev_lenS T.bi (ev_var 0 rfl) ?_) (ev_var 0 rfl)) rfl)
  exact line4 hz
def kPlace : PyData → PyData
  | .tuple [p, l, r] => .tuple [p, kLen l, kLen r]
  | _ => .none
theorem d_by_place (T : Tops K mg) : Def P w K mg base Tb 2 "by_place" [] (FnR 1 (fun ds => ∃ d, ds = [dd d] ∧ d.2.1.length ≤ 10000 ∧ d.2.2.length ≤ 10000) fun ds => .r (.d (kPlace (hd1 ds)))) := by
  refine def_fn T.t_by_place sc_by_place rfl (fun _ _ _ _ _ _ us hl => match us, hl with | [_], _ => rfl) ?_
  intro fa cdv A outer s H E C ds hl ⟨⟨p, l, r⟩, hds, h1, h2⟩
  subst hds
  refine EA.end (f := true) (ea_retD (ev_tup3 (ev_ixT (ev_var 0 rfl) ev_int rfl) (ev_r1 (d_by_length T) (C.less (by decide)) (ev_ixT (ev_var 0 rfl) ev_int rfl) ?_) (ev_r1 (d_by_length T) (C.less (by decide)) (ev_ixT (ev_var 0 rfl) ev_int rfl) ?_)) rfl)
  · exact ⟨l, rfl, h1⟩
  · exact ⟨r, rfl, h2⟩
/-- where a kind stands -/
def occP (z : Str) (l : Str) (p : Nat) : Bool := decide (cutS z (some (p : Int)) (some ((p : Int) + (l.length : Nat))) = l)
def rawOf (z : Str) (k : Kd) : List Dd := ((List.range (z.length + 1)).filter (occP z k.1)).map fun p => (p, k)
def rawDeeds (ps : List Kd) (z : Str) : List Dd := ps.flatMap (rawOf z)
def deedsOn (ps : List Kd) (z : Str) : List Dd := (rawDeeds ps z).mergeSort (dataLe false fun d => kPlace (dd d))
/-- sides are short -/
def KindsShort (ps : List Kd) : Prop := ps.length ≤ 100 ∧ ∀ p ∈ ps, p.1.length ≤ 100 ∧ p.2.length ≤ 100
theorem raw_len (z : Str) (k : Kd) : (rawOf z k).length ≤ z.length + 1 := by
  unfold rawOf
  rw [List.length_map]
  exact Nat.le_trans (List.length_filter_le _ _) (by rw [List.length_range]; exact Nat.le_refl _)
theorem raw_mem {ps : List Kd} {z : Str} {d : Dd} : d ∈ rawDeeds ps z ↔ d.2 ∈ ps ∧ d.1 ≤ z.length ∧ occP z d.2.1 d.1 = true := by
  unfold rawDeeds rawOf
  rw [List.mem_flatMap]
  constructor
  · rintro ⟨k, hk, h⟩
    obtain ⟨p, hp, rfl⟩ := List.mem_map.mp h
    obtain ⟨h1, h2⟩ := List.mem_filter.mp hp
    exact ⟨hk, by have := List.mem_range.mp h1; show p ≤ _; omega, h2⟩
  · rintro ⟨h1, h2, h3⟩
    refine ⟨d.2, h1, List.mem_map.mpr ⟨d.1, List.mem_filter.mpr ⟨List.mem_range.mpr (by omega), h3⟩, rfl⟩⟩
theorem deeds_perm (ps : List Kd) (z : Str) : (deedsOn ps z).Perm (rawDeeds ps z) := List.mergeSort_perm _ _
theorem deeds_mem {ps : List Kd} {z : Str} {d : Dd} : d ∈ deedsOn ps z ↔ d.2 ∈ ps ∧ d.1 ≤ z.length ∧ occP z d.2.1 d.1 = true := (deeds_perm ps z).mem_iff.trans raw_mem
theorem deeds_data (ps : List Kd) (z : Str) : sortD kPlace ((rawDeeds ps z).map dd) = (deedsOn ps z).map dd := (sort_maps dd fun _ _ _ _ => rfl).symm
theorem foldl_app {α β : Type} (f : α → List β) : ∀ (xs : List α) (acc : List β), xs.foldl (fun a k => a ++ f k) acc = acc ++ xs.flatMap f
  | [], acc => by simp
  | x :: xs, acc => by rw [List.foldl_cons, foldl_app f xs, List.flatMap_cons, List.append_assoc]
theorem alike_dd (a b : Dd) : alike (kPlace (dd a)) (kPlace (dd b)) = true := by
  simp [kPlace, dd, kLen, alike, alikeAll]
theorem depth_dd (a : Dd) : (kPlace (dd a)).depth ≤ 60 := by
  simp [kPlace, dd, kLen, PyData.depth, PyData.depthAll]
theorem d_deeds_on (T : Tops K mg) : Def P w K mg base Tb 5 "deeds_on" [] (Fn2 kdsD PyData.str (fun ps z => KindsShort ps ∧ z.length ≤ 5000) fun ps z => .r (.o (.lst ((deedsOn ps z).map dd)))) := by
  refine def_2 T.t_deeds_on sc_deeds_on rfl (fun _ _ _ _ _ _ us hl => match us, hl with | [_, _], _ => rfl) ?_
  intro fa cdv A outer s H E C ps z ⟨⟨hn, hp⟩, hz⟩
  have hz2 := line_of (show z.length ≤ 10000 by omega)
  refine EA.end (f := true) ?_
  refine ea_cons (sv_let C 2 ev_lst0) ?_
  show EA _ Tb _ true _ [.d (kdsD ps), .d (.str z), .o (.lst []), .no, .no, .no] (.r (.o (.lst ((deedsOn ps z).map dd))))
  refine ea_cons (sv_forF C (iv_tup (ev_var 0 rfl)) (lf_fold (st := fun acc : List Dd => [.d (kdsD ps), .d (.str z), .o (.lst (acc.map dd)), .no, .no, .no]) (step := fun acc k => acc ++ rawOf z k) (fun xs acc => (∀ x ∈ xs, x ∈ ps) ∧ acc.length + xs.length * 5001 ≤ 1000000) ?_ ps [] ⟨fun _ h => h, ?_⟩)) ?_
  · intro k xs acc ⟨hx, hl⟩
    obtain ⟨hk1, hk2⟩ := hp k (hx k List.mem_cons_self)
    have hr := raw_len z k
    have hl2 : xs.length * 5001 + 5001 = (k :: xs).length * 5001 := by rw [List.length_cons, Nat.add_mul, Nat.one_mul]
    refine ⟨⟨fun x h => hx x (List.mem_cons_of_mem _ h), by rw [List.length_append]; omega⟩, _, (gw_tup (vs := [3, 4]) C.calm (gws_cons (gw_name 3 C.nd) (gws_cons (gw_name 4 C.nd) gws_nil))).gv, ?_⟩
    have er : (((List.range ((z.length : Int) + 1).toNat).filter fun x : Nat => decide (cutS z (some (x : Int)) (some ((x : Int) + (k.1.length : Nat))) = k.1)).map fun x : Nat => PyData.tuple [.int (x : Nat), .str k.1, .str k.2]) = (rawOf z k).map dd := by
      unfold rawOf
      rw [List.map_map]
      rfl
    have el : ((rawOf z k).map dd).length ≤ 5001 := by rw [List.length_map]; omega
    refine SVs.eq (svs_wipe [3, 4, 5] (svs_one (sv_expr (ev_extend 2 rfl rfl ⟨_, _, rfl, rfl⟩ (ev_lcF C [("place", 5)] (iv_rangeZ T.bi (ev_add (ev_lenS T.bi (ev_var 1 rfl) ?_) ev_int) ?_ ?_) (cf_mapE rfl (fun x hx s H C' cl fp => gw_name 5 C.nd) (fun x hx s H C' cl fp => tvs_one (tv_eqS (ev_slS (ev_var 1 rfl) (.some (ev_var 5 rfl)) (.some (ev_add (ev_var 5 rfl) (ev_lenS T.bi (ev_var 3 rfl) ?_))) ?_) (ev_var 3 rfl))) (fun x hx hc s H C' cl fp => (ev_tup3 (ev_var 5 rfl) (ev_var 3 rfl) (ev_var 4 rfl))) rfl) ?_) ?_)))) ?_
    · exact hz2
    · omega
    · omega
    · exact line_of (by omega)
    · exact hz2
    · rw [er]
      exact line_of (by omega)
    · rw [er, List.length_map]
      exact Nat.le_trans (show acc.length + ((rawOf z k).map dd).length ≤ 1000000 by omega) (by decide)
    · rw [er]
      show [Sl.d (kdsD ps), .d (.str z), .o (.lst (acc.map dd ++ (rawOf z k).map dd)), .no, .no, .no] = _
      rw [List.map_append]
  · rw [List.length_nil]
    have : ps.length * 5001 ≤ 100 * 5001 := Nat.mul_le_mul_right _ hn
    omega
  · rw [foldl_app, List.nil_append]
    show EA _ Tb _ true _ [.d (kdsD ps), .d (.str z), .o (.lst ((rawDeeds ps z).map dd)), .no, .no, .no] _
    refine ea_retO (ev_sortK C T.bi (d_by_place T) (by decide) (ev_frz (ev_move 2 rfl)) ?_ ?_ ?_ ?_) (deeds_data ps z)
    · intro d hd
      obtain ⟨d, h1, rfl⟩ := List.mem_map.mp hd
      obtain ⟨h2, h3⟩ := hp _ (raw_mem.mp h1).1
      exact ⟨⟨d, rfl, by omega, by omega⟩, rfl⟩
    · rw [List.map_map]
      exact AllAlike.of (enc := fun d => kPlace (dd d)) alike_dd
    · rw [List.map_map]
      exact Sortable.tuples (enc := fun d => kPlace (dd d)) fun d => ⟨_, _, rfl⟩
    · intro d hd
      obtain ⟨d, h1, rfl⟩ := List.mem_map.mp hd
      exact depth_dd d
end KL
namespace KL
open PySem L2 NdefX Sc PySem.W
variable {P : Program} {w : World} {K : PySem.W.Frag} {mg : Str → Option Value} {base : Heap} {Tb : List NTab}
theorem KindsOk.short {lz : Str} {ps : List Kd} (h : KindsOk lz ps) : KindsShort ps := ⟨Nat.le_trans h.few (by decide), fun p hp => ⟨Nat.le_trans (h.each p hp).1 (by decide), Nat.le_trans (h.each p hp).2.1 (by decide)⟩⟩
/-- what is handed in: letters, kinds, a text -/
structure AllOk (lz : Str) (ps : List Kd) (z : Str) : Prop where
  lt : lettersS lz = true
  ll : lz.length ≤ 4
  k : KindsOk lz ps
  t : textD lz (.str z) 40 = true
theorem AllOk.len {lz : Str} {ps : List Kd} {z : Str} (h : AllOk lz ps z) : z.length ≤ 40 := by
  have q := h.t
  have q : (decide (((z.length : Nat) : Int) ≤ 40) && z.cps.toList.all (inS lz)) = true := q
  simp only [Bool.and_eq_true, decide_eq_true_eq] at q
  omega
/-- the texts are good -/
theorem inL_of {lz z : Str} (h : textD lz (.str z) 40 = true) : ∀ c ∈ z.cps.toList, c ∈ lz.cps.toList := by
  intro c hc
  have q : (decide (((z.length : Nat) : Int) ≤ 40) && z.cps.toList.all (inS lz)) = true := h
  rw [Bool.and_eq_true] at q
  exact of_decide_eq_true (List.all_eq_true.mp q.2 c hc)
theorem shp_dd {lz : Str} (hl : Ok lz) {ps : List Kd} (hk : KindsOk lz ps) {d : Dd} (h : d.2 ∈ ps) : Shp 1 (dd d) := by
  have q := hk.each _ h
  refine shp_tup fun x hx => ?_
  simp only [List.mem_cons, List.not_mem_nil, or_false] at hx
  rcases hx with rfl | rfl | rfl
  · exact shp_int _
  · exact shp_str (ok_sub hl fun c hc => of_decide_eq_true (q.2.2.2.1 c hc))
  · exact shp_str (ok_sub hl fun c hc => of_decide_eq_true (q.2.2.2.2 c hc))
theorem deed_short {lz : Str} {ps : List Kd} (hk : KindsOk lz ps) {z : Str} {d : Dd} (h : d ∈ deedsOn ps z) : d.2.1.length ≤ 3 ∧ d.2.2.length ≤ 1 ∧ d.1 ≤ z.length := by
  obtain ⟨h1, h2, _⟩ := deeds_mem.mp h
  exact ⟨(hk.each _ h1).1, (hk.each _ h1).2.1, h2⟩
/-- the copies, least first -/
def copiesOf (ps : List Kd) (z : Str) (zs : List Str) : Prop := zs.Nodup ∧ (∀ y, y ∈ zs ↔ ∃ d ∈ deedsOn ps z, behindS z d = y) ∧ zs.Pairwise fun a b => dataLe false (fun s => kLen (.str s)) a b = true
theorem alike_kLen (a b : Str) : alike (kLen (.str a)) (kLen (.str b)) = true := by simp [kLen, alike, alikeAll]
theorem sort_texts {zs : List Str} : sortD kLen (zs.map .str) = (zs.mergeSort (dataLe false fun s => kLen (.str s))).map .str := (sort_maps PyData.str fun _ _ _ _ => rfl).symm
def copiesL (ps : List Kd) (z : Str) (zs : List Str) : List Str := zs.mergeSort (dataLe false fun s => kLen (.str s))
theorem d_behind (T : Tops K mg) : Def P w K mg base Tb 1 "behind_deed" [] (Fn2 PyData.str dd (fun z d => z.length ≤ 4000 ∧ d.2.1.length ≤ 1000 ∧ d.2.2.length ≤ 1000) fun z d => .r (.d (.str (behindS z d)))) :=
  (d_behind_deed T).mono fun δ o ⟨z, d, h1, h2, h3⟩ => ⟨[.str z, dd d], rfl, ⟨z, d, rfl, h1⟩, h2, h3⟩
theorem raw_all {ps : List Kd} {z : Str} : (rawDeeds ps z).length ≤ ps.length * (z.length + 1) := by
  unfold rawDeeds
  induction ps with
  | nil => simp
  | cons p ps ih =>
    have := raw_len z p
    rw [List.flatMap_cons, List.length_append, List.length_cons, Nat.add_mul, Nat.one_mul]
    omega
theorem deeds_len {ps : List Kd} {z : Str} : (deedsOn ps z).length ≤ ps.length * (z.length + 1) := by
  rw [(deeds_perm ps z).length_eq]
  exact raw_all
def keyTexts (ps : List Kd) (z : Str) : List PyData := keysD (dictD ((deedsOn ps z).map fun d => (tK (behindS z d), PyData.bool true)) [])
theorem key_ends (zs : List Str) : AllAlike ((zs.map PyData.str).map kLen) ∧ Sortable ((zs.map PyData.str).map kLen) := by
  rw [List.map_map]
  exact ⟨AllAlike.of (enc := fun z => kLen (.str z)) alike_kLen, Sortable.tuples (enc := fun z => kLen (.str z)) fun z => ⟨_, _, rfl⟩⟩
theorem key_texts {ps : List Kd} {z : Str} : ∃ zs : List Str, zs.Nodup ∧ (∀ y, y ∈ zs ↔ ∃ d ∈ deedsOn ps z, behindS z d = y) ∧ keyTexts ps z = zs.map .str ∧ sortD kLen (keyTexts ps z) = (zs.mergeSort (dataLe false fun s => kLen (.str s))).map .str := by
  obtain ⟨zs, z1, z2, z3⟩ := keys_texts (behindS z) (fun _ => PyData.bool true) (deedsOn ps z)
  refine ⟨zs, z1, z2, z3, ?_⟩
  unfold keyTexts
  rw [z3]
  exact sort_texts
end KL
namespace KL
open PySem L2 NdefX Sc PySem.W
variable {P : Program} {w : World} {K : PySem.W.Frag} {mg : Str → Option Value} {base : Heap} {Tb : List NTab}
/-! the draws, by the sorts of what they are given -/
theorem l_taken (T : Tops K mg) : Def P w K mg base Tb 1 "_law_taken" [] (Ld1 rwD PyData.int PyData.int (fun r m => RwOk r ∧ 0 < m ∧ m < 1073741824) taken) :=
  (d_taken T).mono fun δ o ⟨r, m, h1, h2, h3⟩ => ⟨r, [.int m], rfl, ⟨m, rfl, h1⟩, h2, h3⟩
theorem l_pick (T : Tops K mg) : Def P w K mg base Tb 2 "_law_pick" [] (Ld1 rwD id PyData.list (fun r xs => RwOk r ∧ xs ≠ [] ∧ xs.length ≤ 100000) picked) :=
  (d_pick T).mono fun δ o ⟨r, xs, h1, h2, h3⟩ => ⟨r, [.list xs], rfl, ⟨xs, rfl, h1⟩, h2, h3⟩
theorem l_text (T : Tops K mg) : Def P w K mg base Tb 3 "_law_text" [] (Ld2 rwD PyData.str PyData.str PyData.int (fun r lz m => RwOk r ∧ lz.cps.toList ≠ [] ∧ lz.length ≤ 1000 ∧ 0 ≤ m ∧ m ≤ 1000) textR) :=
  (d_text T).mono fun δ o ⟨r, lz, m, h1, h2, h3⟩ => ⟨r, [.str lz, .int m], rfl, ⟨lz, m, rfl, h1⟩, h2, h3⟩
/-- one of some numbers -/
def pickI (r : Rw) (ns : List Int) : Int × Rw := (asInt (picked r (ns.map .int)).1, (picked r (ns.map .int)).2)
theorem pickI_ok {r : Rw} {ns : List Int} (h : RwOk r) (hn : ns ≠ []) : (pickI r ns).1 ∈ ns ∧ RwOk (pickI r ns).2 ∧ (picked r (ns.map .int)).1 = .int (pickI r ns).1 := by
  obtain ⟨h1, h2⟩ := picked_mem (xs := ns.map PyData.int) h (by simpa using hn)
  obtain ⟨n, hn, e⟩ := List.mem_map.mp h1
  unfold pickI
  refine ⟨?_, h2, ?_⟩
  · show asInt (picked r (ns.map .int)).1 ∈ ns
    rw [← e]
    exact hn
  · rw [← e]
    rfl
/-- one of some texts -/
def pickS (r : Rw) (zs : List Str) : Str × Rw := (asStr (picked r (zs.map .str)).1, (picked r (zs.map .str)).2)
theorem pickS_ok {r : Rw} {zs : List Str} (h : RwOk r) (hn : zs ≠ []) : (pickS r zs).1 ∈ zs ∧ RwOk (pickS r zs).2 ∧ (picked r (zs.map .str)).1 = .str (pickS r zs).1 := by
  obtain ⟨h1, h2⟩ := picked_mem (xs := zs.map PyData.str) h (by simpa using hn)
  obtain ⟨n, hn, e⟩ := List.mem_map.mp h1
  unfold pickS
  refine ⟨?_, h2, ?_⟩
  · show asStr (picked r (zs.map .str)).1 ∈ zs
    rw [← e]
    exact hn
  · rw [← e]
    rfl
/-- texts of the letters -/
def InL (lz z : Str) : Prop := ∀ c ∈ z.cps.toList, c ∈ lz.cps.toList
/-- a kind drawn -/
def sizesL : List Int := [1, 1, 2, 2, 3]
def kindK (r : Rw) (lz : Str) : Kd × Rw :=
  let p := pickI r sizesL
  let t := textR p.2 lz p.1
  let u := textR t.2 lz 1
  ((t.1, u.1), u.2)
def addK (ks : List Kd) (k : Kd) : List Kd := if k.1 ≠ k.2 ∧ k ∉ ks then ks ++ [k] else ks
def stepK (lz : Str) (s : Rw × List Kd) (_ : Nat) : Rw × List Kd := ((kindK s.1 lz).2, addK s.2 (kindK s.1 lz).1)
def kindsR (r : Rw) (lz : Str) (m : Int) : List Kd × Rw :=
  let t := taken r (m + 1)
  let s := (List.range t.1.toNat).foldl (stepK lz) (t.2, [])
  (s.2, s.1)
structure KdGood (lz : Str) (p : Kd) : Prop where
  l : p.1.length ≤ 3
  r : p.2.length ≤ 1
  ne : p.1 ≠ p.2
  il : InL lz p.1
  ir : InL lz p.2
theorem kindK_ok {r : Rw} {lz : Str} (h : RwOk r) (hl : lz.cps.toList ≠ []) : RwOk (kindK r lz).2 ∧ (kindK r lz).1.1.length ≤ 3 ∧ (kindK r lz).1.2.length ≤ 1 ∧ InL lz (kindK r lz).1.1 ∧ InL lz (kindK r lz).1.2 := by
  obtain ⟨p1, p2, _⟩ := pickI_ok (ns := sizesL) h (by decide)
  have hp : 0 ≤ (pickI r sizesL).1 ∧ (pickI r sizesL).1 ≤ 3 := by
    have : ∀ n ∈ sizesL, 0 ≤ n ∧ n ≤ 3 := by decide
    exact this _ p1
  obtain ⟨t1, t2, t3⟩ := textR_ok (m := (pickI r sizesL).1) p2 hl hp.1
  obtain ⟨u1, u2, u3⟩ := textR_ok (m := 1) t1 hl (by decide)
  unfold kindK
  exact ⟨u1, by show (textR _ _ _).1.length ≤ 3; omega, by show (textR _ _ _).1.length ≤ 1; omega, t3, u3⟩
def KsOk (lz : Str) (s : Rw × List Kd) (n : Nat) : Prop := RwOk s.1 ∧ s.2.length ≤ n ∧ s.2.Nodup ∧ ∀ p ∈ s.2, KdGood lz p
theorem stepK_ok {lz : Str} (hl : lz.cps.toList ≠ []) {s : Rw × List Kd} {n x : Nat} (h : KsOk lz s n) : KsOk lz (stepK lz s x) (n + 1) := by
  obtain ⟨h1, h2, h3, h4⟩ := h
  obtain ⟨k1, k2, k3, k4, k5⟩ := kindK_ok h1 hl
  refine ⟨k1, ?_⟩
  show (addK s.2 (kindK s.1 lz).1).length ≤ _ ∧ (addK s.2 (kindK s.1 lz).1).Nodup ∧ ∀ p ∈ addK s.2 (kindK s.1 lz).1, _
  unfold addK
  split
  · rename_i hk
    refine ⟨by rw [List.length_append, List.length_singleton]; omega, ?_, fun p hp => (List.mem_append.mp hp).elim (h4 p) fun q => ?_⟩
    · rw [List.nodup_append]
      refine ⟨h3, by simp, fun a ha b hb e => ?_⟩
      rw [List.mem_singleton.mp hb] at e
      exact hk.2 (e ▸ ha)
    · rw [List.mem_singleton.mp q]
      exact ⟨k2, k3, hk.1, k4, k5⟩
  · exact ⟨by omega, h3, h4⟩
theorem foldK_ok {lz : Str} (hl : lz.cps.toList ≠ []) : ∀ (xs : List Nat) {s : Rw × List Kd} {n : Nat}, KsOk lz s n → KsOk lz (xs.foldl (stepK lz) s) (n + xs.length)
  | [], s, n, h => h
  | x :: xs, s, n, h => by
    have q := foldK_ok hl xs (stepK_ok (x := x) hl h)
    rw [List.length_cons]
    rw [show n + (xs.length + 1) = n + 1 + xs.length by omega]
    exact q
theorem kindsR_ok {r : Rw} {lz : Str} {m : Int} (h : RwOk r) (hl : lz.cps.toList ≠ []) (hm : 0 ≤ m) (hm2 : m ≤ 1000) : KsOk lz ((kindsR r lz m).2, (kindsR r lz m).1) m.toNat := by
  obtain ⟨t1, t2, t3⟩ := taken_ok (m := m + 1) h (by omega)
  have q := foldK_ok (lz := lz) hl (List.range (taken r (m + 1)).1.toNat) (s := ((taken r (m + 1)).2, [])) (n := 0) ⟨t1, Nat.le_refl _, List.nodup_nil, fun p hp => nomatch hp⟩
  obtain ⟨q1, q2, q3⟩ := q
  refine ⟨q1, ?_, q3⟩
  rw [List.length_range] at q2
  have q2' : (kindsR r lz m).1.length ≤ 0 + (taken r (m + 1)).1.toNat := q2
  show (kindsR r lz m).1.length ≤ _
  omega
theorem shp_kd2 {lz : Str} (hlz : Ok lz) {p : Kd} (h1 : InL lz p.1) (h2 : InL lz p.2) : Shp 1 (kd p) := shp_tup fun x hx => by
  simp only [List.mem_cons, List.not_mem_nil, or_false] at hx
  rcases hx with rfl | rfl
  · exact shp_str (ok_sub hlz h1)
  · exact shp_str (ok_sub hlz h2)
theorem l_pickI (T : Tops K mg) : Def P w K mg base Tb 2 "_law_pick" [] (Ld1 rwD PyData.int (fun ns : List Int => PyData.list (ns.map .int)) (fun r ns => RwOk r ∧ ns ≠ [] ∧ ns.length ≤ 100000) pickI) :=
  (d_pick T).mono fun δ o ⟨r, ns, ⟨h0, h1, h1'⟩, h2, h3⟩ => ⟨r, [.list (ns.map .int)], rfl, ⟨ns.map .int, rfl, h0, by simpa using h1, by simpa using h1'⟩, h2, by rw [h3, ← (pickI_ok h0 h1).2.2]; rfl⟩
theorem l_pickS (T : Tops K mg) : Def P w K mg base Tb 2 "_law_pick" [] (Ld1 rwD PyData.str (fun ns : List Str => PyData.list (ns.map .str)) (fun r ns => RwOk r ∧ ns ≠ [] ∧ ns.length ≤ 100000) pickS) :=
  (d_pick T).mono fun δ o ⟨r, ns, ⟨h0, h1, h1'⟩, h2, h3⟩ => ⟨r, [.list (ns.map .str)], rfl, ⟨ns.map .str, rfl, h0, by simpa using h1, by simpa using h1'⟩, h2, by rw [h3, ← (pickS_ok h0 h1).2.2]; rfl⟩
end KL
namespace KL
open PySem L2 NdefX Sc PySem.W
variable {P : Program} {w : World} {K : PySem.W.Frag} {mg : Str → Option Value} {base : Heap} {Tb : List NTab}
def occ (z : Str) (p : Nat) (l : Str) : Bool := decide ((z.cps.toList.drop p).take l.length = l.cps.toList)
theorem occP_occ (z l : Str) (p : Nat) : occP z l p = occ z p l := by
  unfold occP occ
  refine decide_eq_decide.mpr ?_
  have e : (cutS z (some (p : Int)) (some ((p : Int) + (l.length : Nat)))).cps.toList = (z.cps.toList.drop p).take l.length := by
    have q := cut_mid z p (p + l.length)
    rw [show p + l.length - p = l.length by omega] at q
    exact q
  constructor
  · intro h
    rw [← e, h]
  · intro h
    exact str_ext (e.trans h)
theorem starts_occ (z l : Str) (p : Nat) : Txt.startswith (cutS z (some (p : Int)) none) l = occ z p l := by
  have e := cut_from z p
  show (decide (0 + l.length ≤ (cutS z (some (p : Int)) none).length) && Builtin.Str.subAt (cutS z (some (p : Int)) none) l 0) = _
  rw [StrLaws.subAt_eq, List.drop_zero, e]
  unfold occ
  by_cases h : (z.cps.toList.drop p).take l.length = l.cps.toList
  · rw [h, decide_eq_true rfl]
    have hl := congrArg List.length h
    rw [List.length_take, ← len_cps] at hl
    have : 0 + l.length ≤ (cutS z (some (p : Int)) none).length := by
      have e3 := len_cps (cutS z (some (p : Int)) none)
      rw [e] at e3
      omega
    rw [decide_eq_true this]
    simp
  · rw [decide_eq_false h]
    have : ((z.cps.toList.drop p).take l.length == l.cps.toList) = false := by simpa using h
    rw [this, Bool.and_false]
def kLaw : PyData → PyData
  | .tuple [l, r] => .tuple [.int ((asStr l).length : Nat), l, .int ((asStr r).length : Nat), r]
  | _ => .none
def atPlace (ps : List Kd) (z : Str) (p : Nat) : List Kd := (ps.filter fun q => occ z p q.1).mergeSort (dataLe false fun k => kLaw (kd k))
def placed (ps : List Kd) (z : Str) (p : Nat) : List Dd := (atPlace ps z p).map fun k => (p, k)
def lawDeeds (ps : List Kd) (z : Str) : List Dd := (List.range (z.length + 1)).flatMap (placed ps z)
theorem atPlace_perm (ps : List Kd) (z : Str) (p : Nat) : (atPlace ps z p).Perm (ps.filter fun q => occ z p q.1) := List.mergeSort_perm _ _
theorem atPlace_mem {ps : List Kd} {z : Str} {p : Nat} {k : Kd} : k ∈ atPlace ps z p ↔ k ∈ ps ∧ occ z p k.1 = true := (atPlace_perm ps z p).mem_iff.trans List.mem_filter
theorem atPlace_len (ps : List Kd) (z : Str) (p : Nat) : (atPlace ps z p).length ≤ ps.length := by
  rw [(atPlace_perm ps z p).length_eq]
  exact List.length_filter_le _ _
theorem atPlace_data (ps : List Kd) (z : Str) (p : Nat) : sortD kLaw ((ps.filter fun q => occ z p q.1).map kd) = (atPlace ps z p).map kd := (sort_maps kd fun _ _ _ _ => rfl).symm
theorem alike_law (a b : Kd) : alike (kLaw (kd a)) (kLaw (kd b)) = true := by
  simp [kLaw, kd, alike, alikeAll]
theorem depth_law (a : Kd) : (kLaw (kd a)).depth ≤ 60 := by
  simp [kLaw, kd, PyData.depth, PyData.depthAll]
def lamQ : Str := Str.ofString "_law_deeds" ++ Str.ofString ".<locals>." ++ Str.ofString "<lambda>"
theorem l_deeds {c Pt : Addr} {T0 : List (Addr × Str)} (T : Tops K mg) (S : TxtC K mg "_law_deeds" s__law_deeds c Pt) (TB : LamX.TabB base mg c Pt) (hT : (Pt, lamQ) ∈ T0) (hT1 : ∀ p ∈ T0, p.1 = Pt → p.2 = lamQ) : Def P w K mg base (tabsOf T0) 6 "_law_deeds" [] (Fn2 kdsD PyData.str (fun ps z => KindsShort ps ∧ z.length ≤ 5000) fun ps z => .r (.d (.list ((lawDeeds ps z).map dd)))) := by
  refine Def.mono (R := FnR 2 (fun ds => ∃ ps z, ds = [kdsD ps, .str z] ∧ KindsShort ps ∧ z.length ≤ 5000) fun ds => .r (.d (.list ((lawDeeds ((asTup (hd1 ds)).map asKd) (asStr (a1 ds))).map dd)))) ?_ (fun δ o ⟨ps, z, h1, h2, h3⟩ => ⟨[kdsD ps, .str z], rfl, ⟨ps, z, rfl, h1⟩, h2, by rw [h3]; show _ = (An.r (.d (.list ((lawDeeds ((ps.map kd).map asKd) z).map dd)))).out _; rw [List.map_map, show (asKd ∘ kd) = id from funext fun _ => rfl, List.map_id]; rfl⟩)
  refine def_fnC S sc__law_deeds rfl (fun _ _ _ _ _ _ us hl => match us, hl with | [_, _], _ => rfl) ?_
  intro fa A outer s H E C ds hl ⟨ps, z, hds, ⟨hn, hp⟩, hz⟩
  subst hds
  have hz2 := line_of (show z.length ≤ 10000 by omega)
  refine EA.end (f := true) ?_
  rw [show (asTup (hd1 [kdsD ps, .str z])).map asKd = ps by show (ps.map kd).map asKd = ps; rw [List.map_map, show (asKd ∘ kd) = id from funext fun _ => rfl, List.map_id]]
  refine ea_cons (sv_let C 2 ev_lstd0) ?_
  refine ea_cons (sv_forF C (iv_rangeZ T.bi (ev_add (ev_lenS T.bi (ev_var 1 rfl) ?_) ev_int) ?_ ?_) (lf_fold (st := fun acc : List Dd => [.d (kdsD ps), .d (.str z), .d (.list (acc.map dd)), .no, .no, .no, .no, .no]) (step := fun acc p => acc ++ placed ps z p) (fun xs acc => acc.length + xs.length * 100 ≤ 1000000) ?_ (List.range ((z.length : Int) + 1).toNat) [] ?_)) ?_
  · exact hz2
  · omega
  · omega
  · intro p xs acc hI
    have hI2 : acc.length + xs.length * 100 + 100 ≤ 1000000 := by rw [List.length_cons, Nat.add_mul] at hI; omega
    have hpl : (placed ps z p).length ≤ 100 := by unfold placed; rw [List.length_map]; exact Nat.le_trans (atPlace_len ps z p) hn
    refine ⟨by rw [List.length_append]; omega, _, (gw_name 3 C.nd).gv, ?_⟩
    have e0 : (((ps.filter fun q => Txt.startswith (cutS z (some (p : Int)) none) q.1).map kd)) = (ps.filter fun q => occ z p q.1).map kd := by
      rw [List.filter_congr fun q _ => starts_occ z q.1 p]
    have hfl : (ps.filter fun q => occ z p q.1).length ≤ 100 := Nat.le_trans (List.length_filter_le _ _) hn
    refine svs_wipe (δ1 := [.d (kdsD ps), .d (.str z), .d (.list ((acc ++ placed ps z p).map dd)), .d (.int (p : Nat)), .no, .no, .no, .no]) [3, 4, 5, 6, 7] (svs_cons (SV.eq (δ2 := [.d (kdsD ps), .d (.str z), .d (.list (acc.map dd)), .d (.int (p : Nat)), .o (.lst ((ps.filter fun q => occ z p q.1).map kd)), .no, .no, .no]) (sv_setLcF C [("_law_kind", 5)] 4 (iv_tup (ev_var 0 rfl)) (cf_mapE rfl (fun x hx s H C' cl fp => gw_name 5 C.nd) (fun x hx s H C' cl fp => tvs_one (tv_val (ev_startswith (ev_slS (ev_var 1 rfl) (.some (ev_var 3 rfl)) .none ?_) (ev_ixT (ev_var 5 rfl) ev_int rfl)))) (fun x hx hc s H C' cl fp => (ev_var 5 rfl)) rfl) ?_) ?_) ?_)
    · exact hz2
    · exact line_of (by rw [List.length_map]; exact Nat.le_trans (List.length_filter_le _ _) (by omega))
    · rw [show ((List.filter (fun x => Txt.startswith (cutS z (some (p : Int)) none) x.1) ps).map fun x => kd x) = (ps.filter fun q => occ z p q.1).map kd from e0]
      rfl
    refine svs_cons (δ1 := [.d (kdsD ps), .d (.str z), .d (.list (acc.map dd)), .d (.int (p : Nat)), .o (.lst ((atPlace ps z p).map kd)), .no, .no, .no]) ?_ ?_
    · refine SV.eq (sv_let C 4 (r := .o (.lst (sortD kLaw ((ps.filter fun q => occ z p q.1).map kd)))) (δ1 := [.d (kdsD ps), .d (.str z), .d (.list (acc.map dd)), .d (.int (p : Nat)), .no, .no, .no, .no]) ?_) (by rw [atPlace_data]; rfl)
      have hm3 : 1 + 3 ≤ 5 := by decide
      apply ev_sortL (k := 1) (N := ["_law_kind"]) (a := "_law_kind") (D := fun d => ∃ k ∈ ps, d = kd k) (kf := kLaw) C T.bi TB rfl hT hT1 hm3
      case he => exact ev_frz (ev_move 4 rfl)
      case hD =>
        intro d hd
        obtain ⟨k, hk, rfl⟩ := List.mem_map.mp hd
        exact ⟨k, (List.mem_filter.mp hk).1, rfl⟩
      case hal =>
        rw [List.map_map]
        exact AllAlike.of (enc := fun k => kLaw (kd k)) alike_law
      case hsk =>
        rw [List.map_map]
        exact Sortable.tuples (enc := fun k => kLaw (kd k)) fun k => ⟨_, _, rfl⟩
      case hu =>
        intro d hd
        obtain ⟨k, hk, rfl⟩ := List.mem_map.mp hd
        exact depth_law k
      case hb => exact fun _ _ _ _ us hl => match us, hl with | [_], _ => rfl
      case S => exact nscope_by (by decide +kernel)
      case hbody =>
        intro f c' A' outer' s' H' E' C' d ⟨k, hk, hd⟩
        subst hd
        obtain ⟨q1, q2⟩ := hp k hk
        refine EV.cast (ev_tup4 (ev_lenS T.bi (ev_ixT (ev_var 0 rfl) ev_int rfl) ?_) (ev_ixT (ev_var 0 rfl) ev_int rfl) (ev_lenS T.bi (ev_ixT (ev_var 0 rfl) ev_int rfl) ?_) (ev_ixT (ev_var 0 rfl) ev_int rfl)) rfl rfl
        · exact line_of (by omega)
        · exact line_of (by omega)
    · refine svs_one (SV.eq (sv_let C 2 (ev_frz (ev_cat (ev_var 2 rfl) (ev_frz (ev_lcF C [("_law_l", 6), ("_law_r", 7)] (iv_list (ev_frz (ev_move 4 rfl))) (cf_allE rfl (fun x hx s H C' cl fp => gw_tup (vs := [6, 7]) C.calm (gws_cons (gw_name 6 C.nd) (gws_cons (gw_name 7 C.nd) gws_nil))) (fun x hx s H C' cl fp => (ev_tup3 (ev_var 3 rfl) (ev_var 6 rfl) (ev_var 7 rfl))) rfl) ?_)) ?_))) ?_)
      · rw [List.length_map]
        exact line_of (by have := atPlace_len ps z p; omega)
      · rw [List.length_map, List.length_map]
        exact Nat.le_trans (show acc.length + (atPlace ps z p).length ≤ 1000000 by have := atPlace_len ps z p; omega) (by decide)
      · have e : ((atPlace ps z p).map fun x => PyData.tuple [.int (p : Nat), .str x.1, .str x.2]) = (placed ps z p).map dd := by
          unfold placed
          rw [List.map_map]
          rfl
        rw [e, ← List.map_append]
        rfl
  · rw [List.length_range, List.length_nil]
    omega
  · rw [foldl_app, List.nil_append]
    exact ea_retD (ev_var 2 rfl) rfl
end KL
namespace KL
open PySem L2 NdefX Sc PySem.W PyProof.Rows
/-! the deeds of the program are those of the law, in the same order -/
def ltD (a b : Dd) : Bool := dataLt (kPlace (dd a)) (kPlace (dd b))
def leD (a b : Dd) : Bool := dataLe false (fun d => kPlace (dd d)) a b
theorem leD_eq (a b : Dd) : leD a b = !ltD b a := rfl
theorem ltD_eq (p q : Nat) (l r l' r' : Str) : ltD (p, l, r) (q, l', r') = decide (p < q ∨ (p = q ∧ (l.length < l'.length ∨ (l.length = l'.length ∧ (l.cps.toList < l'.cps.toList ∨ (l = l' ∧ (r.length < r'.length ∨ (r.length = r'.length ∧ r.cps.toList < r'.cps.toList)))))))) := by
  unfold ltD kPlace dd kLen asStr
  simp only
  rw [dataLt_tuple, dataLt_cons (by simp [alike]), dataLt_cons (by simp [alike, alikeAll]), dataLt_cons (by simp [alike, alikeAll])]
  have e : PyProof.Rows.lexLt itemOrd (keyToksAll []) (keyToksAll []) = false := lex_irrefl _
  rw [e, dataLt_pair (by simp [alike]) (by simp [alike]), dataLt_pair (by simp [alike]) (by simp [alike]), dataLt_int, dataLt_int, dataLt_int, dataLt_str, dataLt_str]
  simp only [PyData.eqv, PyData.eqvAll, beq_iff_eq, Bool.and_true, Bool.and_eq_true]
  have i1 : l = l' → ¬ l.cps.toList < l'.cps.toList := by rintro rfl; exact List.lt_irrefl _
  have i2 : r = r' → ¬ r.cps.toList < r'.cps.toList := by rintro rfl; exact List.lt_irrefl _
  have i3 : l = l' → l.length = l'.length := by rintro rfl; rfl
  have i4 : r = r' → r.length = r'.length := by rintro rfl; rfl
  have c1 : ((l.length : Nat) : Int) = (l'.length : Nat) ↔ l.length = l'.length := by omega
  have c2 : ((r.length : Nat) : Int) = (r'.length : Nat) ↔ r.length = r'.length := by omega
  have c3 : ((l.length : Nat) : Int) < (l'.length : Nat) ↔ l.length < l'.length := by omega
  have c4 : ((r.length : Nat) : Int) < (r'.length : Nat) ↔ r.length < r'.length := by omega
  have c5 : ((p : Nat) : Int) = (q : Nat) ↔ p = q := by omega
  have c6 : ((p : Nat) : Int) < (q : Nat) ↔ p < q := by omega
  simp only [c1, c2, c3, c4, c5, c6]
  generalize l.cps.toList = x at *
  generalize l'.cps.toList = x' at *
  generalize r.cps.toList = y at *
  generalize r'.cps.toList = y' at *
  generalize l.length = a at *
  generalize l'.length = a' at *
  generalize r.length = b at *
  generalize r'.length = b' at *
  clear c1 c2 c3 c4 c5 c6 e
  by_cases h1 : p = q
  · by_cases h2 : l = l'
    · have j1 := i1 h2
      have j3 := i3 h2
      subst j3
      by_cases h3 : r = r'
      · have j2 := i2 h3
        have j4 := i4 h3
        subst j4
        simp [h1, h2, h3, j1, j2]
      · by_cases h4 : b = b' <;> simp [h1, h2, h3, h4, j1]
    · by_cases h4 : a = a'
      · simp [h1, h2, h4]
      · simp [h1, h2, h4]
  · simp [h1]
/-- the law's order of kinds is that of deeds at one place -/
theorem kLaw_lt (p : Nat) (a b : Kd) : dataLt (kLaw (kd a)) (kLaw (kd b)) = ltD (p, a) (p, b) := by
  obtain ⟨l, r⟩ := a
  obtain ⟨l', r'⟩ := b
  rw [ltD_eq]
  unfold kLaw kd asStr
  simp only
  rw [dataLt_tuple, dataLt_cons (by simp [alike]), dataLt_cons (by simp [alike]), dataLt_cons (by simp [alike]), dataLt_cons (by simp [alike])]
  have e : PyProof.Rows.lexLt itemOrd (keyToksAll []) (keyToksAll []) = false := lex_irrefl _
  rw [e, dataLt_int, dataLt_int, dataLt_str, dataLt_str]
  simp only [PyData.eqv, beq_iff_eq]
  have i1 : l = l' → ¬ l.cps.toList < l'.cps.toList := by rintro rfl; exact List.lt_irrefl _
  have i2 : r = r' → ¬ r.cps.toList < r'.cps.toList := by rintro rfl; exact List.lt_irrefl _
  have i3 : l = l' → l.length = l'.length := by rintro rfl; rfl
  have i4 : r = r' → r.length = r'.length := by rintro rfl; rfl
  have c1 : ((l.length : Nat) : Int) = (l'.length : Nat) ↔ l.length = l'.length := by omega
  have c2 : ((r.length : Nat) : Int) = (r'.length : Nat) ↔ r.length = r'.length := by omega
  have c3 : ((l.length : Nat) : Int) < (l'.length : Nat) ↔ l.length < l'.length := by omega
  have c4 : ((r.length : Nat) : Int) < (r'.length : Nat) ↔ r.length < r'.length := by omega
  simp only [c1, c2, c3, c4]
  generalize l.cps.toList = x at *
  generalize l'.cps.toList = x' at *
  generalize r.cps.toList = y at *
  generalize r'.cps.toList = y' at *
  generalize l.length = a at *
  generalize l'.length = a' at *
  generalize r.length = b at *
  generalize r'.length = b' at *
  clear c1 c2 c3 c4 e
  by_cases h2 : l = l'
  · have j1 := i1 h2
    have j3 := i3 h2
    subst j3
    by_cases h3 : r = r'
    · have j2 := i2 h3
      have j4 := i4 h3
      subst j4
      simp [h2, h3, j1, j2]
    · by_cases h4 : b = b' <;> simp [h2, h3, h4, j1]
  · by_cases h4 : a = a'
    · simp [h2, h4]
    · simp [h2, h4]
theorem leD_total : TotalLe leD := sortLe_total (PyProof.Rows.listOrd itemOrd) false fun d => keyToks (kPlace (dd d))
theorem nat_eq {a b : Nat} (h1 : ¬ a < b) (h2 : ¬ b < a) : a = b := by omega
theorem str_eq {l l' : Str} (h1 : ¬ l.cps.toList < l'.cps.toList) (h2 : ¬ l'.cps.toList < l.cps.toList) : l = l' := str_ext (List.le_antisymm (List.not_lt.mp h2) (List.not_lt.mp h1))
theorem leD_anti {a b : Dd} (h1 : leD a b = true) (h2 : leD b a = true) : a = b := by
  obtain ⟨p, l, r⟩ := a
  obtain ⟨q, l', r'⟩ := b
  rw [leD_eq, ltD_eq] at h1 h2
  rw [Bool.not_eq_true', decide_eq_false_iff_not] at h1 h2
  have e1 : p = q := nat_eq (fun h => h2 (.inl h)) (fun h => h1 (.inl h))
  subst e1
  have h1 := fun h => h1 (.inr ⟨rfl, h⟩)
  have h2 := fun h => h2 (.inr ⟨rfl, h⟩)
  have e2 : l.length = l'.length := nat_eq (fun h => h2 (.inl h)) (fun h => h1 (.inl h))
  have h1 := fun h => h1 (.inr ⟨e2.symm, h⟩)
  have h2 := fun h => h2 (.inr ⟨e2, h⟩)
  have e3 : l = l' := str_eq (fun h => h2 (.inl h)) (fun h => h1 (.inl h))
  subst e3
  have h1 := fun h => h1 (.inr ⟨rfl, h⟩)
  have h2 := fun h => h2 (.inr ⟨rfl, h⟩)
  have e4 : r.length = r'.length := nat_eq (fun h => h2 (.inl h)) (fun h => h1 (.inl h))
  have h1 := fun h => h1 (.inr ⟨e4.symm, h⟩)
  have h2 := fun h => h2 (.inr ⟨e4, h⟩)
  have e5 : r = r' := str_eq h2 h1
  rw [e5]
theorem perm_sorted {α : Type} {le : α → α → Bool} (anti : ∀ a b, le a b = true → le b a = true → a = b) : ∀ {l m : List α}, l.Perm m → l.Pairwise (fun a b => le a b = true) → m.Pairwise (fun a b => le a b = true) → l = m
  | [], m, p, _, _ => p.nil_eq
  | a :: l, [], p, _, _ => (p.symm.nil_eq.symm)
  | a :: l, b :: m, p, hl, hm => by
    obtain ⟨h1, h2⟩ := List.pairwise_cons.mp hl
    obtain ⟨h3, h4⟩ := List.pairwise_cons.mp hm
    have e : a = b := by
      have ha : a ∈ b :: m := p.mem_iff.mp List.mem_cons_self
      have hb : b ∈ a :: l := p.mem_iff.mpr List.mem_cons_self
      rcases List.mem_cons.mp ha with e | ha
      · exact e
      · rcases List.mem_cons.mp hb with e | hb
        · exact e.symm
        · exact anti a b (h1 b hb) (h3 a ha)
    subst e
    rw [perm_sorted anti p.cons_inv h2 h4]
theorem placed_mem {ps : List Kd} {z : Str} {p : Nat} {d : Dd} : d ∈ placed ps z p ↔ d.1 = p ∧ d.2 ∈ ps ∧ occ z p d.2.1 = true := by
  unfold placed
  rw [List.mem_map]
  constructor
  · rintro ⟨k, hk, rfl⟩
    exact ⟨rfl, atPlace_mem.mp hk⟩
  · rintro ⟨h1, h2⟩
    exact ⟨d.2, atPlace_mem.mpr h2, by rw [← h1]⟩
theorem placed_sorted (ps : List Kd) (z : Str) (p : Nat) : (placed ps z p).Pairwise fun a b => leD a b = true := by
  unfold placed
  rw [List.pairwise_map]
  have q := sort_pairwise (le := dataLe false fun k => kLaw (kd k)) (sortLe_total (PyProof.Rows.listOrd itemOrd) false fun k => keyToks (kLaw (kd k))) (ps.filter fun q => occ z p q.1)
  refine q.imp fun {a b} h => ?_
  rw [leD_eq, ← kLaw_lt]
  exact h
theorem less_place {a b : Dd} (h : a.1 < b.1) : leD a b = true := by
  obtain ⟨p, l, r⟩ := a
  obtain ⟨q, l', r'⟩ := b
  have h' : p < q := h
  rw [leD_eq, ltD_eq, Bool.not_eq_true', decide_eq_false_iff_not]
  rintro (h | ⟨h, _⟩) <;> omega
theorem law_sorted (ps : List Kd) (z : Str) : (lawDeeds ps z).Pairwise fun a b => leD a b = true := by
  unfold lawDeeds
  rw [List.pairwise_flatMap]
  refine ⟨fun p _ => placed_sorted ps z p, ?_⟩
  refine List.pairwise_lt_range.imp fun {p q} hpq a ha b hb => ?_
  have h1 := (placed_mem.mp ha).1
  have h2 := (placed_mem.mp hb).1
  exact less_place (by omega)
theorem perm_flat {α β γ : Type} (xs : List α) (ys : List β) (f : α → β → List γ) : (xs.flatMap fun x => ys.flatMap fun y => f x y).Perm (ys.flatMap fun y => xs.flatMap fun x => f x y) := by
  induction xs with
  | nil =>
    induction ys with
    | nil => exact .refl _
    | cons y ys ih => exact ih
  | cons x xs ih =>
    rw [List.flatMap_cons]
    have key : ∀ ys : List β, (ys.flatMap fun y => (x :: xs).flatMap fun x => f x y).Perm ((ys.flatMap fun y => f x y) ++ ys.flatMap fun y => xs.flatMap fun x => f x y) := by
      intro ys
      induction ys with
      | nil => exact .refl _
      | cons y ys ih2 =>
        rw [List.flatMap_cons, List.flatMap_cons, List.flatMap_cons, List.flatMap_cons]
        refine (List.Perm.append_left _ ih2).trans ?_
        rw [List.append_assoc, List.append_assoc]
        refine List.Perm.append_left _ ?_
        rw [← List.append_assoc, ← List.append_assoc]
        exact List.Perm.append_right _ List.perm_append_comm
    exact (List.Perm.append_left _ ih).trans (key ys).symm
theorem filter_flat {α β : Type} (c : α → Bool) (f : α → β) : ∀ xs : List α, (xs.filter c).map f = xs.flatMap fun x => if c x = true then [f x] else []
  | [] => rfl
  | x :: xs => by
    rw [List.flatMap_cons, ← filter_flat c f xs]
    by_cases h : c x = true
    · rw [List.filter_cons_of_pos h, if_pos h]
      rfl
    · rw [List.filter_cons_of_neg h, if_neg h]
      rfl
theorem flat_perm {α β : Type} {f g : α → List β} (h : ∀ x, (f x).Perm (g x)) : ∀ xs : List α, (xs.flatMap f).Perm (xs.flatMap g)
  | [] => .refl _
  | x :: xs => by
    rw [List.flatMap_cons, List.flatMap_cons]
    exact (h x).append (flat_perm h xs)
theorem law_perm (ps : List Kd) (z : Str) : (lawDeeds ps z).Perm (rawDeeds ps z) := by
  have e1 : rawDeeds ps z = ps.flatMap fun k => (List.range (z.length + 1)).flatMap fun p => if occ z p k.1 = true then [(p, k)] else [] := by
    unfold rawDeeds
    congr 1
    funext k
    unfold rawOf
    rw [filter_flat]
    congr 1
    funext p
    rw [occP_occ]
  rw [e1]
  refine List.Perm.trans ?_ (perm_flat _ _ fun (p : Nat) (k : Kd) => if occ z p k.1 = true then [(p, k)] else [])
  unfold lawDeeds
  refine flat_perm (fun p => ?_) _
  unfold placed
  refine ((atPlace_perm ps z p).map _).trans ?_
  rw [filter_flat]
theorem deeds_law (ps : List Kd) (z : Str) : deedsOn ps z = lawDeeds ps z :=
  perm_sorted (fun _ _ => leD_anti) ((deeds_perm ps z).trans (law_perm ps z).symm) (sort_pairwise leD_total _) (law_sorted ps z)
end KL
namespace KL
open PySem L2 NdefX Sc PySem.W
variable {P : Program} {w : World} {K : PySem.W.Frag} {mg : Str → Option Value} {base : Heap} {Tb : List NTab}
theorem letters_ok : ∀ z ∈ lettersL, lettersS z = true ∧ z.length ≤ 4 ∧ PyData.strOk z = true ∧ z.cps.toList ≠ [] := by decide +kernel
theorem rw_start {ns : List Int} {i : Int} (hl : ns.length ≤ 63) (h0 : 0 ≤ i) (h1 : i < 2147483647) : RwOk ⟨ns, 0, i, 0⟩ := ⟨hl, h0, h1⟩
/-- letters as they are drawn -/
structure LetOk (lz : Str) : Prop where
  lt : lettersS lz = true
  ll : lz.length ≤ 4
  ok : Ok lz
  ne : lz.cps.toList ≠ []
theorem LetOk.of {lz : Str} (h : lz ∈ lettersL) : LetOk lz := let ⟨a, b, c, d⟩ := letters_ok lz h; ⟨a, b, c, d⟩
theorem text_of {lz z : Str} {m : Int} (h : InL lz z) (hl : ((z.length : Nat) : Int) ≤ m) : textD lz (.str z) m = true := by
  show (decide (((z.length : Nat) : Int) ≤ m) && z.cps.toList.all (inS lz)) = true
  rw [decide_eq_true hl, Bool.true_and, List.all_eq_true]
  exact fun c hc => decide_eq_true (h c hc)
theorem kinds_of {lz : Str} {ks : List Kd} (h1 : ks.length ≤ 12) (h2 : ks.Nodup) (h3 : ∀ p ∈ ks, KdGood lz p) : KindsOk lz ks :=
  ⟨h1, h2, fun p hp => ⟨(h3 p hp).l, (h3 p hp).r, (h3 p hp).ne, fun c hc => decide_eq_true ((h3 p hp).il c hc), fun c hc => decide_eq_true ((h3 p hp).ir c hc)⟩⟩
theorem behind_in {lz z : Str} {d : Dd} (h : InL lz z) (h2 : InL lz d.2.2) : InL lz (behindS z d) := by
  intro c hc
  rw [behind_cps] at hc
  rcases List.mem_append.mp hc with hc | hc
  · rcases List.mem_append.mp hc with hc | hc
    · exact h c (List.mem_of_mem_take hc)
    · exact h2 c hc
  · exact h c (List.mem_of_mem_drop hc)
theorem KindsOk.il {lz : Str} {ps : List Kd} (h : KindsOk lz ps) {p : Kd} (hp : p ∈ ps) : InL lz p.1 ∧ InL lz p.2 :=
  ⟨fun c hc => of_decide_eq_true ((h.each p hp).2.2.2.1 c hc), fun c hc => of_decide_eq_true ((h.each p hp).2.2.2.2 c hc)⟩
theorem al_dd {lz : Str} {n : Nat} (hl : Ok lz) {d : Dd} (h1 : InL lz d.2.1) (h2 : InL lz d.2.2) : Al (n + 1) (dd d) := by
  refine .tuple (fun u hu => ?_) (by simp)
  simp at hu
  rcases hu with e | e | e
  · rw [e]; exact .int _
  · rw [e]; exact .str (ok_sub hl h1)
  · rw [e]; exact .str (ok_sub hl h2)
end KL
namespace KL
open PySem L2 NdefX Sc
variable {P : Program} {w : World} {K : PySem.W.Frag} {mg : Str → Option Value} {base : Heap} {Tb : List NTab}
def menderB (ps : List Kd) : Bool := ps.all fun p => decide (((p.2.length : Nat) : Int) < (p.1.length : Nat))
theorem d_is_mender (T : Tops K mg) : Def P w K mg base Tb 1 "is_mender" [] (FnR 1 (fun ds => ∃ lz ps, ds = [kdsD ps] ∧ KindsOk lz ps) fun ds => .r (.d (.bool (menderB ((asTup (hd1 ds)).map asKd))))) := by
  refine def_fn T.t_is_mender sc_is_mender rfl (fun _ _ _ _ _ _ us hl => match us, hl with | [_], _ => rfl) ?_
  intro fa cdv A outer s H E C ds hl ⟨lz, ps, hds, hk⟩
  subst hds
  refine EA.end (f := true) ?_
  refine ea_retB (ev_allM T.bi C.calm (ev_lcF C [("l", 1), ("r", 2)] (iv_tup (ev_var 0 rfl)) (cf_allE (xs := ps) (en := kd) (f := fun p => .bool (decide (((p.2.length : Nat) : Int) < (p.1.length : Nat)))) rfl (fun p _ s H C' cl fp => gw_tup C.calm (gws_cons (gw_name 1 C.nd) (gws_cons (gw_name 2 C.nd) gws_nil)))
    (fun p hp s H C' cl fp => ev_gtI (ev_lenS T.bi (ev_var 1 rfl) (line_of (Nat.le_trans (hk.each p hp).1 (by decide)))) (ev_lenS T.bi (ev_var 2 rfl) (line_of (Nat.le_trans (hk.each p hp).2.1 (by decide))))) rfl) ?_)) ?_
  · rw [List.length_map]
    exact line_of (Nat.le_trans hk.few (by decide))
  · show _ = menderB ((ps.map kd).map asKd)
    rw [List.map_map, show (asKd ∘ kd) = id from funext fun _ => rfl, List.map_id]
    rfl
structure MenderOk (lz : Str) (ps : List Kd) : Prop where
  k : KindsOk lz ps
  less : ∀ p ∈ ps, p.2.length < p.1.length
theorem menderB_ok {ps : List Kd} (h : ∀ p ∈ ps, p.2.length < p.1.length) : menderB ps = true := by
  unfold menderB
  rw [List.all_eq_true]
  intro p hp
  have := h p hp
  exact decide_eq_true (by omega)
theorem d_need_mender (T : Tops K mg) : Def P w K mg base Tb 5 "need_mender" [] (R_need 2 fun ds => ∃ lz ps, ds = [.str lz, kdsD ps] ∧ MenderOk lz ps) := by
  refine def_fn T.t_need_mender sc_need_mender rfl (fun _ _ _ _ _ _ us hl => match us, hl with | [_, _], _ => rfl) ?_
  intro fa cdv A outer s H E C ds hl ⟨lz, ps, hds, hk⟩
  subst hds
  refine EA.end (f := false) ?_
  refine ea_cons (sv_expr (ev_cf (d_need_kinds T) (C.less (by decide)) (xs := [.str lz, kdsD ps]) (al_cons (ev_var 0 rfl) (al_cons (ev_var 1 rfl) al_nil)) rfl ⟨lz, ps, rfl, hk.k⟩)) ?_
  refine ea_if (t := false) (TV.eq (tv_not (tv_val (ev_cf (d_is_mender T) (C.less (by decide)) (xs := [kdsD ps]) (al_cons (ev_var 1 rfl) al_nil) rfl ⟨lz, ps, rfl, hk.k⟩))) ?_) (fun h => nomatch h) (fun h => eb_nil ea_nil)
  show (!menderB ((ps.map kd).map asKd)) = false
  rw [List.map_map, show (asKd ∘ kd) = id from funext fun _ => rfl, List.map_id, menderB_ok hk.less]
  rfl
/-- where l stands -/
def placesN (z l : Str) : List Nat := (List.range z.length).filter fun p => decide (cutS z (some (p : Int)) (some ((p : Int) + (l.length : Nat))) = l)
theorem d_places_of (T : Tops K mg) : Def P w K mg base Tb 1 "places_of" [] (FnR 2 (fun ds => ∃ z l, ds = [.str z, .str l] ∧ z.length ≤ 4000 ∧ l.length ≤ 1000) fun ds => .r (.o (.lst ((placesN (asStr (hd1 ds)) (asStr (a1 ds))).map fun p => .int (p : Nat))))) := by
  refine def_fn T.t_places_of sc_places_of rfl (fun _ _ _ _ _ _ us hl => match us, hl with | [_, _], _ => rfl) ?_
  intro fa cdv A outer s H E C ds hl ⟨z, l, hds, h1, h2⟩
  subst hds
  refine EA.end (f := true) ?_
  have hz : z.length ≤ sizeLine := line_of (by omega)
  have hl2 : l.length ≤ sizeLine := line_of (Nat.le_trans h2 (by decide))
  refine ea_retO (ev_lcF C [("place", 2)] (iv_range1 T.bi (ev_lenS T.bi (ev_var 0 rfl) hz) (by omega) (by omega)) (cf_mapE (xs := List.range z.length) (en := fun p => .int (p : Nat)) (f := fun p => .int (p : Nat)) (c := fun p => decide (cutS z (some (p : Int)) (some ((p : Int) + (l.length : Nat))) = l)) (range_en _) (fun p _ s H C' cl fp => gw_name 2 C.nd)
    (fun p hp s H C' cl fp => tvs_one (tv_eqS (ev_slS (ev_var 0 rfl) (.some (ev_var 2 rfl)) (.some (ev_add (ev_var 2 rfl) (ev_lenS T.bi (ev_var 1 rfl) hl2))) hz) (ev_var 1 rfl))) (fun p hp _ s H C' cl fp => ev_var 2 rfl) rfl) ?_) ?_
  · rw [List.length_map]
    refine Nat.le_trans (List.length_filter_le _ _) ?_
    rw [List.length_range]
    exact hz
  · rfl
end KL
namespace KL
open PySem L2 NdefX Sc PySem.W
variable {P : Program} {w : World} {K : PySem.W.Frag} {mg : Str → Option Value} {base : Heap} {Tb : List NTab}
def menderL (r : Rw) (lz : Str) : List Kd × Rw := menderR (1 + (taken r 4).1).toNat (taken r 4).2 lz []
theorem l_mender (T : Tops K mg) : Def P w K mg base Tb 4 "_law_mender" [] (Ld1 rwD kdsD PyData.str (fun r lz => RwOk r ∧ lz.cps.toList ≠ [] ∧ lz.length ≤ 100 ∧ Ok lz) menderL) :=
  (d_law_mender T).mono fun δ o ⟨r, lz, h1, h2, h3⟩ => ⟨r, [.str lz], rfl, ⟨lz, rfl, h1⟩, h2, h3⟩
theorem menderL_ok {r : Rw} {lz : Str} (h : RwOk r) (hl : lz.cps.toList ≠ []) : RwOk (menderL r lz).2 ∧ (∀ p ∈ (menderL r lz).1, KindOk lz p) ∧ (menderL r lz).1.Nodup ∧ (menderL r lz).1.length ≤ 4 := by
  obtain ⟨t1, t2, t3⟩ := taken_ok (m := 4) h (by decide)
  obtain ⟨m1, m2, m3, m4⟩ := menderR_ok hl (1 + (taken r 4).1).toNat (ks := []) t1 (fun p hp => by cases hp) List.nodup_nil
  refine ⟨m1, m2, m3, ?_⟩
  have q : (menderL r lz).1.length ≤ 0 + (1 + (taken r 4).1).toNat := m4
  omega
theorem mender_of {lz : Str} {ks : List Kd} (h1 : ks.length ≤ 12) (h2 : ks.Nodup) (h3 : ∀ p ∈ ks, KindOk lz p) : MenderOk lz ks :=
  ⟨⟨h1, h2, fun p hp => ⟨(h3 p hp).1, (h3 p hp).2.1, fun e => by have := (h3 p hp).2.2.1; rw [e] at this; omega, fun c hc => decide_eq_true ((h3 p hp).2.2.2.1 c hc), fun c hc => decide_eq_true ((h3 p hp).2.2.2.2 c hc)⟩⟩, fun p hp => (h3 p hp).2.2.1⟩
end KL
namespace KL
open PySem L2 NdefX Sc PySem.W
variable {P : Program} {w : World} {K : PySem.W.Frag} {mg : Str → Option Value} {base : Heap} {Tb : List NTab}
def tri (pl : Nat) (l : Str) (at_ : Nat) : Tup Int := ⟨[(pl : Int), -((l.length : Nat) : Int), (at_ : Nat)]⟩
def tellOf (z : Str) (p : Kd × Nat) : List (Tup Int) := (placesN z p.1.1).map fun pl => tri pl p.1.1 p.2
/-- what is told of the places -/
def toldL (ps : List Kd) (z : Str) : List (Tup Int) := (ps.zipIdx).flatMap (tellOf z)
def tgt (ps : List Kd) (t : Tup Int) : Dd := ((t.items.getD 0 0).toNat, ps.getD (t.items.getD 2 0).toNat (⟨#[]⟩, ⟨#[]⟩))
def nextD (ps : List Kd) (z : Str) : Option Dd := match toldL ps z with
  | [] => none
  | t :: ts => some (tgt ps (minOf t ts))
def ansD : Option Dd → PyData
  | none => .none
  | some d => dd d
theorem told_mem {ps : List Kd} {z : Str} {t : Tup Int} (h : t ∈ toldL ps z) : ∃ (pl at_ : Nat) (p : Kd), t = tri pl p.1 at_ ∧ ps[at_]? = some p ∧ pl ∈ placesN z p.1 := by
  obtain ⟨⟨p, i⟩, h1, h2⟩ := List.mem_flatMap.mp h
  obtain ⟨pl, h3, h4⟩ := List.mem_map.mp h2
  have q := List.mem_zipIdx h1
  refine ⟨pl, i, p, h4.symm, ?_, h3⟩
  obtain ⟨_, h5, h6⟩ := q
  rw [h6]
  simp
theorem told_len {lz : Str} {ps : List Kd} (hk : KindsOk lz ps) {z : Str} (hz : z.length ≤ 4000) : (toldL ps z).length ≤ 12 * 4000 := by
  have key : ∀ (qs : List (Kd × Nat)), (qs.flatMap (tellOf z)).length ≤ qs.length * 4000 := by
    intro qs
    induction qs with
    | nil => simp
    | cons q qs ih =>
      rw [List.flatMap_cons, List.length_append, List.length_cons]
      have h1 : (tellOf z q).length ≤ 4000 := by
        unfold tellOf placesN
        rw [List.length_map]
        exact Nat.le_trans (List.length_filter_le _ _) (by rw [List.length_range]; exact hz)
      have : (qs.length + 1) * 4000 = qs.length * 4000 + 4000 := by rw [Nat.add_mul, Nat.one_mul]
      omega
  have q := key ps.zipIdx
  rw [List.length_zipIdx] at q
  have := hk.few
  have h2 : ps.length * 4000 ≤ 12 * 4000 := Nat.mul_le_mul_right _ this
  show ((ps.zipIdx).flatMap (tellOf z)).length ≤ _
  exact Nat.le_trans q h2
theorem d_next_deed (T : Tops K mg) : Def P w K mg base Tb 2 "next_deed" [] (FnR 2 (fun ds => ∃ lz ps z, ds = [kdsD ps, .str z] ∧ KindsOk lz ps ∧ z.length ≤ 4000) fun ds => .r (.d (ansD (nextD ((asTup (hd1 ds)).map asKd) (asStr (a1 ds)))))) := by
  refine def_fn T.t_next_deed sc_next_deed rfl (fun _ _ _ _ _ _ us hl => match us, hl with | [_, _], _ => rfl) ?_
  intro fa cdv A outer s H E C ds hl ⟨lz, ps, z, hds, hk, hz⟩
  subst hds
  refine EA.end (f := true) ?_
  have e0 : (asTup (hd1 [kdsD ps, .str z])).map asKd = ps := by
    show (ps.map kd).map asKd = ps
    rw [List.map_map, show (asKd ∘ kd) = id from funext fun _ => rfl, List.map_id]
  rw [e0]
  have hz2 : z.length ≤ sizeLine := line_of (by omega)
  refine ea_cons (sv_setLc2F C (vs1 := [3]) [("at", 5), ("l", 6), ("r", 7), ("place", 3)] 2 (iv_enum T.bi (ev_var 0 rfl) rfl)
    (c2_allE (xs := ps.zipIdx) (en := fun p => .tuple [.int (p.2 : Nat), kd p.1]) (es := fun p => (placesN z p.1.1).map fun n => .int (n : Nat)) (ys := fun p => (tellOf z p).map Datum.toD) (enumD_map kd 0 ps)
      (fun p _ s H C' cl fp => gw_tup C.calm (gws_cons (gw_name 5 C.nd) (gws_cons (gw_tup (vs := [6, 7]) C.calm (gws_cons (gw_name 6 C.nd) (gws_cons (gw_name 7 C.nd) gws_nil))) gws_nil)))
      (fun p hp s H C' cl fp => iv_list (ev_frz (ev_cf (d_places_of T) (C.less (by decide)) (xs := [.str z, .str p.1.1]) (al_cons (ev_var 1 rfl) (al_cons (ev_var 6 rfl) al_nil)) rfl ⟨z, p.1.1, rfl, hz, ?_⟩)))
      (fun p hp => cf_allE (xs := placesN z p.1.1) (en := fun n => .int (n : Nat)) (f := fun n => Datum.toD (tri n p.1.1 p.2)) rfl (fun n _ s H C' cl fp => gw_name 3 C.nd)
        (fun n _ s H C' cl fp => ev_tup (rs := [.int (n : Nat), .int (-((p.1.1.length : Nat) : Int)), .int (p.2 : Nat)]) (av_cons (ev_var 3 rfl) (av_cons (ev_neg (ev_lenS T.bi (ev_var 6 rfl) ?_)) (av_cons (ev_var 5 rfl) av_nil)))) ?_) rfl) ?_) ?_
  · have hp' : p.1 ∈ ps := by
      obtain ⟨_, h5, h6⟩ := List.mem_zipIdx hp
      rw [h6]
      exact List.getElem_mem _
    exact Nat.le_trans (hk.each _ hp').1 (by decide)
  · have hp' : p.1 ∈ ps := by
      obtain ⟨_, h5, h6⟩ := List.mem_zipIdx hp
      rw [h6]
      exact List.getElem_mem _
    exact line_of (Nat.le_trans (hk.each _ hp').1 (by decide))
  · show _ = ((placesN z p.1.1).map fun pl => tri pl p.1.1 p.2).map Datum.toD
    rw [List.map_map]
    rfl
  · have e : (ps.zipIdx.flatMap fun p => (tellOf z p).map Datum.toD).length = (toldL ps z).length := by
      unfold toldL
      rw [List.length_flatMap, List.length_flatMap]
      congr 1
      exact List.map_congr_left fun p _ => List.length_map _
    rw [e]
    exact Nat.le_trans (told_len hk hz) (by decide)
  · have e1 : (ps.zipIdx.flatMap fun p => (tellOf z p).map Datum.toD) = (toldL ps z).map Datum.toD := by
      unfold toldL
      rw [List.map_flatMap]
    rw [e1]
    have hshp : ∀ d ∈ (toldL ps z).map Datum.toD, Shp 1 d := by
      intro d hd
      obtain ⟨t, _, rfl⟩ := List.mem_map.mp hd
      refine shp_tup fun x hx => ?_
      obtain ⟨i, _, rfl⟩ := List.mem_map.mp hx
      exact shp_int i
    show EA _ Tb _ true _ [.d (kdsD ps), .d (.str z), .o (.lst ((toldL ps z).map Datum.toD)), .no, .no, .no, .no, .no] (.r (.d (ansD (nextD ps z))))
    refine ea_if (tv_look (tv_eqD (ev_var 2 rfl) (ev_lstd (rs := []) av_nil) C.u64 (shp_lst hshp).ok (by rfl))) (fun h => ?_) (fun h => ?_)
    · refine eb_stop (ea_retD ev_non ?_)
      unfold nextD
      cases e : toldL ps z with
      | nil => rfl
      | cons t ts =>
        rw [e] at h
        cases h
    · refine eb_nil ?_
      unfold nextD
      cases e : toldL ps z with
      | nil =>
        rw [e] at h
        cases h
      | cons t ts =>
        rw [e] at hshp
        have hm := minOf_mem t ts
        have hm' : minOf t ts ∈ toldL ps z := by rw [e]; exact hm
        obtain ⟨pl, at_, p, ht, hat, hpl⟩ := told_mem hm'
        have hat2 : atI (ps.map kd) ((at_ : Nat) : Int) = some (kd p) := atI_nat (by rw [List.getElem?_map, hat]; rfl)
        refine ea_cons (sv_asg (r := .d (.tuple [.int (pl : Nat), .int (-((p.1.length : Nat) : Int)), .int (at_ : Nat)])) (EV.eq (ev_min T.bi C.calm C.u66 (d := Datum.toD t) (ds := ts.map Datum.toD) (ev_frz (ev_move 2 rfl)) (alikeAll_datum (t :: ts)) ?_) ?_) (gw_tup (vs := [3, 4, 5]) C.calm (gws_cons (gw_name 3 C.nd) (gws_cons (gw_name 4 C.nd) (gws_cons (gw_name 5 C.nd) gws_nil)))).gv) ?_
        · refine depAll (n := 64) fun d hd => ?_
          have q := (hshp d hd).2
          omega
        · rw [minD_map, ht]
          rfl
        · refine ea_retD (ev_tup (rs := [.int (pl : Nat), .str p.1, .str p.2]) (av_cons (ev_var 3 rfl) (av_star (ev_ixT (ev_var 0 rfl) (ev_var 5 rfl) hat2) av_nil))) ?_
          show _ = dd (tgt ps (minOf t ts))
          rw [ht]
          show _ = dd (((pl : Int)).toNat, ps.getD ((at_ : Int)).toNat _)
          rw [Int.toNat_natCast, Int.toNat_natCast, List.getD_eq_getElem?_getD, hat]
          rfl
end KL
namespace KL
open PySem L2 NdefX Sc PySem.W
variable {P : Program} {w : World} {K : PySem.W.Frag} {mg : Str → Option Value} {base : Heap} {Tb : List NTab}
theorem next_some {ps : List Kd} {z : Str} {d : Dd} (h : nextD ps z = some d) : d.2 ∈ ps ∧ d.1 ∈ placesN z d.2.1 := by
  unfold nextD at h
  cases e : toldL ps z with
  | nil => rw [e] at h; cases h
  | cons t ts =>
    rw [e] at h
    have hm' : minOf t ts ∈ toldL ps z := by rw [e]; exact minOf_mem t ts
    obtain ⟨pl, at_, p, ht, hat, hpl⟩ := told_mem hm'
    have h2 : d = (pl, p) := by
      have h' := Option.some.inj h
      rw [← h']
      show tgt ps (minOf t ts) = (pl, p)
      rw [ht]
      show (((pl : Int)).toNat, ps.getD ((at_ : Int)).toNat _) = _
      rw [Int.toNat_natCast, Int.toNat_natCast, List.getD_eq_getElem?_getD, hat]
      rfl
    rw [h2]
    exact ⟨List.mem_of_getElem? hat, hpl⟩
theorem places_mem {z l : Str} {p : Nat} (h : p ∈ placesN z l) : p < z.length ∧ (z.cps.toList.drop p).take l.length = l.cps.toList := by
  obtain ⟨h1, h2⟩ := List.mem_filter.mp h
  refine ⟨List.mem_range.mp h1, ?_⟩
  have h3 : cutS z (some (p : Int)) (some ((p + l.length : Nat) : Int)) = l := of_decide_eq_true h2
  have h4 := congrArg (fun s : Str => s.cps.toList) h3
  rw [cut_mid] at h4
  rw [show p + l.length - p = l.length by omega] at h4
  exact h4
theorem places_fit {z l : Str} {p : Nat} (h : p ∈ placesN z l) : p + l.length ≤ z.length := by
  obtain ⟨h1, h2⟩ := places_mem h
  have h3 := congrArg List.length h2
  rw [List.length_take, List.length_drop, ← len_cps, ← len_cps] at h3
  omega
theorem behind_less {lz : Str} {ps : List Kd} {z : Str} {d : Dd} (hk : MenderOk lz ps) (h : nextD ps z = some d) : (behindS z d).length < z.length := by
  obtain ⟨h1, h2⟩ := next_some h
  have h3 := hk.less _ h1
  have h4 := places_fit h2
  have e1 := len_cps z
  have e2 := len_cps d.2.2
  rw [len_cps (behindS z d), behind_cps]
  simp only [List.length_append, List.length_take, List.length_drop]
  omega
theorem next_zero {ps : List Kd} {z : Str} (h : z.length = 0) : nextD ps z = none := by
  cases e : nextD ps z with
  | none => rfl
  | some d =>
    have q := (places_mem (next_some e).2).1
    omega
def mendN : Nat → List Kd → Str → Str × List Dd
  | 0, _, z => (z, [])
  | n + 1, ps, z => match nextD ps z with
    | none => (z, [])
    | some d => ((mendN n ps (behindS z d)).1, d :: (mendN n ps (behindS z d)).2)
def mendS (ps : List Kd) (z : Str) : Str × List Dd := mendN z.length ps z
theorem mend_less {lz : Str} {ps : List Kd} (hk : MenderOk lz ps) : ∀ (n : Nat) (z : Str), z.length ≤ n → mendN n ps z = mendS ps z := by
  intro n
  induction n with
  | zero =>
    intro z hz
    have e : z.length = 0 := by omega
    unfold mendS
    rw [e]
  | succ n ih =>
    intro z hz
    unfold mendS
    cases e : nextD ps z with
    | none =>
      cases hl : z.length with
      | zero => simp [mendN, e]
      | succ m => simp [mendN, e]
    | some d =>
      have hb := behind_less hk e
      cases hl : z.length with
      | zero => omega
      | succ m =>
        simp only [mendN, e]
        have h1 := ih (behindS z d) (by omega)
        have h2 : mendN m ps (behindS z d) = mendS ps (behindS z d) := by
          rcases Nat.lt_or_ge m n with h | h
          · -- the same by the measure
            have aux : ∀ (k j : Nat) (y : Str), y.length ≤ k → k ≤ j → mendN j ps y = mendN k ps y := by
              intro k
              induction k with
              | zero =>
                intro j y hy hj
                have e0 : y.length = 0 := by omega
                cases j with
                | zero => rfl
                | succ j => simp [mendN, next_zero e0]
              | succ k ihk =>
                intro j y hy hj
                cases j with
                | zero => omega
                | succ j =>
                  cases ey : nextD ps y with
                  | none => simp [mendN, ey]
                  | some dy =>
                    have hby := behind_less hk ey
                    simp only [mendN, ey]
                    rw [ihk j (behindS y dy) (by omega) (by omega)]
            have q := aux m n (behindS z d) (by omega) (by omega)
            rw [← q]
            exact h1
          · have e1 : m = n := by omega
            rw [e1]
            exact h1
        rw [h1, h2]
theorem mend_none {ps : List Kd} {z : Str} (h : nextD ps z = none) : mendS ps z = (z, []) := by
  unfold mendS
  cases z.length with
  | zero => rfl
  | succ m => simp [mendN, h]
theorem mend_some {lz : Str} {ps : List Kd} (hk : MenderOk lz ps) {z : Str} {d : Dd} (h : nextD ps z = some d) : mendS ps z = ((mendS ps (behindS z d)).1, d :: (mendS ps (behindS z d)).2) := by
  have hb := behind_less hk h
  unfold mendS
  cases hl : z.length with
  | zero => omega
  | succ m =>
    simp only [mendN, h]
    rw [mend_less hk m (behindS z d) (by omega)]
    rfl
theorem kdsD_as (ps : List Kd) : (asTup (kdsD ps)).map asKd = ps := by
  show (ps.map kd).map asKd = ps
  rw [List.map_map, show (asKd ∘ kd) = id from funext fun _ => rfl, List.map_id]
def rowD (r : Str × List Dd) : PyData := .tuple [.str r.1, .list (r.2.map dd)]
theorem isNone_ansD (o : Option Dd) : isNone (ansD o) = o.isNone := by cases o <;> rfl
theorem mend_row_len {lz : Str} {ps : List Kd} (hk : MenderOk lz ps) : ∀ (n : Nat) (z : Str), z.length ≤ n → (mendS ps z).2.length ≤ n ∧ (mendS ps z).1.length ≤ z.length := by
  intro n
  induction n with
  | zero =>
    intro z hz
    rw [mend_none (next_zero (by omega))]
    exact ⟨Nat.le_refl _, Nat.le_refl _⟩
  | succ n ih =>
    intro z hz
    cases e : nextD ps z with
    | none =>
      rw [mend_none e]
      exact ⟨Nat.zero_le _, Nat.le_refl _⟩
    | some d =>
      have hb := behind_less hk e
      rw [mend_some hk e]
      obtain ⟨h1, h2⟩ := ih (behindS z d) (by omega)
      exact ⟨Nat.succ_le_succ h1, by show (mendS ps (behindS z d)).1.length ≤ _; omega⟩
theorem d_mended_by (T : Tops K mg) : Def P w K mg base Tb 3 "mended_by" [] (FnR 2 (fun ds => ∃ lz ps z, ds = [kdsD ps, .str z] ∧ MenderOk lz ps ∧ z.length ≤ 4000) fun ds => .r (.d (rowD (mendS ((asTup (hd1 ds)).map asKd) (asStr (a1 ds)))))) := by
  refine def_fn T.t_mended_by sc_mended_by rfl (fun _ _ _ _ _ _ us hl => match us, hl with | [_, _], _ => rfl) ?_
  intro fa cdv A outer s H E C ds hl ⟨lz, ps, z, hds, hk, hz⟩
  subst hds
  refine EA.end (f := true) ?_
  show EA _ Tb _ true _ [.d (kdsD ps), .d (.str z), .no, .no] (.r (.d (rowD (mendS ((asTup (kdsD ps)).map asKd) z))))
  rw [kdsD_as]
  have next : ∀ (z : Str) (r : Sl), z.length ≤ 4000 → ∀ (δ : List Sl) {p1 p2 p3 p4 : Pos}, δ[0]? = some (.d (kdsD ps)) → δ[1]? = some (.d (.str z)) → EV (cxOf (CX P w) P w K mg base n_mended_by "mended_by" (defScope s_mended_by) fa cdv A outer s H E) Tb (.Call (.Name "next_deed" p1) [.Name "mender" p2, .Name "text" p3] [] p4) δ (.d (ansD (nextD ps z))) δ := fun z r hz δ p1 p2 p3 p4 h0 h1 => by
    have q : EV (cxOf (CX P w) P w K mg base n_mended_by "mended_by" (defScope s_mended_by) fa cdv A outer s H E) Tb (.Call (.Name "next_deed" p1) [.Name "mender" p2, .Name "text" p3] [] p4) δ (.d (ansD (nextD ((asTup (kdsD ps)).map asKd) z))) δ := ev_cf (d_next_deed T) (C.less (by decide)) (xs := [kdsD ps, .str z]) (al_cons (ev_var 0 h0) (al_cons (ev_var 1 h1) al_nil)) rfl ⟨lz, ps, z, rfl, hk.k, hz⟩
    rw [kdsD_as] at q
    exact q
  refine ea_cons (sv_par2 (i := 2) (j := 3) C.calm C.nd rfl rfl (by decide) (ao_cons (ev_lst (rs := []) av_nil) (ao_cons (next z .no hz _ rfl rfl) ao_nil)) rfl) ?_
  refine ea_cons (sv_while (o := .nx [.d (kdsD ps), .d (.str (mendS ps z).1), .o (.lst ([] ++ (mendS ps z).2.map dd)), .d .none]) C ?_) ?_
  · show Whl _ Tb _ _ _ [.d (kdsD ps), .d (.str z), .o (.lst []), .d (ansD (nextD ps z))] _
    clear hl
    have hr : ([] : List PyData).length + z.length ≤ 4000 := by simpa using hz
    generalize ([] : List PyData) = row at hr ⊢
    obtain ⟨n, hn, hr', hz'⟩ : ∃ n, z.length ≤ n ∧ row.length + n ≤ 4000 ∧ n ≤ 4000 := ⟨z.length, Nat.le_refl _, hr, hz⟩
    clear hr hz
    induction n generalizing z row with
    | zero =>
      have e0 := next_zero (ps := ps) (z := z) (by omega)
      rw [mend_none e0, e0]
      rw [show row ++ List.map dd [] = row by simp]
      exact .done (TV.eq (tv_notN (ev_var 3 rfl) ev_non) rfl)
    | succ n ih =>
      cases e : nextD ps z with
      | none =>
        rw [mend_none e]
        rw [show row ++ List.map dd [] = row by simp]
        exact .done (TV.eq (tv_notN (ev_var 3 rfl) ev_non) rfl)
      | some d =>
        have hb := behind_less hk e
        obtain ⟨hd1, hd2⟩ := next_some e
        have hk3 := hk.k.each _ hd1
        have q := ih (behindS z d) (row ++ [dd d]) (by omega) (by rw [List.length_append, List.length_singleton]; omega) (by omega)
        rw [mend_some hk e]
        rw [show row ++ [dd d] ++ (mendS ps (behindS z d)).2.map dd = row ++ (d :: (mendS ps (behindS z d)).2).map dd by simp] at q
        refine .nx (δ1 := [.d (kdsD ps), .d (.str z), .o (.lst row), .d (dd d)]) (TV.eq (tv_notN (ev_var 3 rfl) ev_non) rfl) ?_ q
        refine svs_cons (sv_expr (ev_append 2 rfl rfl ⟨_, _, rfl, rfl⟩ (ev_var 3 rfl) (Nat.lt_of_le_of_lt (show row.length ≤ 4000 by omega) (by decide)))) ?_
        refine svs_cons (sv_let C 1 (ev_cf (d_behind_deed T) (C.less (by decide)) (xs := [.str z, dd d]) (al_cons (ev_var 1 rfl) (al_cons (ev_var 3 rfl) al_nil)) rfl ⟨z, d, rfl, by omega, by omega, by omega⟩)) ?_
        exact svs_one (sv_let C 3 (next (behindS z d) .no (by omega) _ rfl rfl))
  · refine ea_retD (ev_tup (rs := [.str (mendS ps z).1, .list ((mendS ps z).2.map dd)]) (av_cons (ev_var 1 rfl) (av_cons (ev_frz (ev_move 2 rfl)) av_nil))) rfl
structure CallOk (lz : Str) (ps : List Kd) (z : Str) : Prop where
  lt : lettersS lz = true
  ll : lz.length ≤ 4
  m : MenderOk lz ps
  t : textD lz (.str z) 40 = true
theorem CallOk.len {lz : Str} {ps : List Kd} {z : Str} (h : CallOk lz ps z) : z.length ≤ 40 := by
  have q := h.t
  have q : (decide (((z.length : Nat) : Int) ≤ 40) && z.cps.toList.all (inS lz)) = true := q
  simp only [Bool.and_eq_true, decide_eq_true_eq] at q
  omega
abbrev Args3 (ds : List PyData) : Prop := ∃ lz ps z, ds = [.str lz, kdsD ps, .str z] ∧ CallOk lz ps z
theorem d_need_mending (T : Tops K mg) : Def P w K mg base Tb 6 "need_mending" [] (R_need 3 Args3) := by
  refine def_fn T.t_need_mending sc_need_mending rfl (fun _ _ _ _ _ _ us hl => match us, hl with | [_, _, _], _ => rfl) ?_
  intro fa cdv A outer s H E C ds hl ⟨lz, ps, z, hds, hk⟩
  subst hds
  refine EA.end (f := false) ?_
  refine ea_cons (sv_expr (ev_cf (d_need_letters T) (C.less (by decide)) (xs := [.str lz]) (al_cons (ev_var 0 rfl) al_nil) rfl ⟨lz, rfl, hk.lt, Nat.le_trans hk.ll (by decide)⟩)) ?_
  refine ea_cons (sv_expr (ev_cf (d_need_mender T) (C.less (by decide)) (xs := [.str lz, kdsD ps]) (al_cons (ev_var 0 rfl) (al_cons (ev_var 1 rfl) al_nil)) rfl ⟨lz, ps, rfl, hk.m⟩)) ?_
  refine ea_cons (sv_expr (ev_cf (d_need_text T) (C.less (by decide)) (xs := [.str lz, .str z]) (al_cons (ev_var 0 rfl) (al_cons (ev_var 2 rfl) al_nil)) rfl ⟨lz, z, rfl, hk.t, Nat.le_trans hk.len (by decide)⟩)) ?_
  exact ea_nil
theorem ev_mended_by {k : Nat} {X : Cx} {W : WX} (C : Cok X W k) (h3 : 3 ≤ k) {δ : List Sl} {lz : Str} {ps : List Kd} {z : Str} (hk : CallOk lz ps z) (D : Def X.prog X.w X.K X.mg X.base Tb 3 "mended_by" [] (FnR 2 (fun ds => ∃ lz ps z, ds = [kdsD ps, .str z] ∧ MenderOk lz ps ∧ z.length ≤ 4000) fun ds => .r (.d (rowD (mendS ((asTup (hd1 ds)).map asKd) (asStr (a1 ds)))))))
    {e1 e2 : Expr} {p pos : Pos} (h1 : EV X Tb e1 δ (.d (kdsD ps)) δ) (h2 : EV X Tb e2 δ (.d (.str z)) δ) (hg : Gl X "mended_by" := by rfl) (he : starEach [e1, e2] X.env = (false, eval e1 X.env) :: starEach [e2] X.env := by rfl) (he2 : starEach [e2] X.env = (false, eval e2 X.env) :: starEach [] X.env := by rfl) (hpl : (backTo pos (starEach [e2] X.env)).any (·.1) = false := by rfl) :
    EV X Tb (.Call (.Name "mended_by" p) [e1, e2] [] pos) δ (.d (rowD (mendS ps z))) δ := by
  have q : EV X Tb (.Call (.Name "mended_by" p) [e1, e2] [] pos) δ (.d (rowD (mendS ((asTup (kdsD ps)).map asKd) z))) δ := ev_cf D (C.less h3) (xs := [kdsD ps, .str z]) (al_cons h1 (al_cons h2 al_nil he2) he) rfl ⟨lz, ps, z, rfl, hk.m, Nat.le_trans hk.len (by decide)⟩ rfl rfl hg (by decide) he hpl
  rw [kdsD_as] at q
  exact q
theorem d_mended (T : Tops K mg) : Def P w K mg base Tb 7 "mended" [] (FnR 3 Args3 fun ds => .r (.d (.str (mendS ((asTup (a1 ds)).map asKd) (asStr (a2 ds))).1))) := by
  refine def_fn T.t_mended sc_mended rfl (fun _ _ _ _ _ _ us hl => match us, hl with | [_, _, _], _ => rfl) ?_
  intro fa cdv A outer s H E C ds hl ⟨lz, ps, z, hds, hk⟩
  subst hds
  refine EA.end (f := true) ?_
  show EA _ Tb _ true _ [.d (.str lz), .d (kdsD ps), .d (.str z)] (.r (.d (.str (mendS ((asTup (kdsD ps)).map asKd) z).1)))
  rw [kdsD_as]
  refine ea_cons (sv_expr (ev_cf (d_need_mending T) (C.less (by decide)) (xs := [.str lz, kdsD ps, .str z]) (al_cons (ev_var 0 rfl) (al_cons (ev_var 1 rfl) (al_cons (ev_var 2 rfl) al_nil))) rfl ⟨lz, ps, z, rfl, hk⟩)) ?_
  exact ea_ret (ev_ixT (ev_mended_by C (by decide) hk (d_mended_by T) (ev_var 1 rfl) (ev_var 2 rfl)) ev_int rfl)
def deedsD (ds : List Dd) : PyData := .tuple (ds.map dd)
end KL
namespace KL
open PySem L2 NdefX Sc PySem.W
variable {P : Program} {w : World} {K : PySem.W.Frag} {mg : Str → Option Value} {base : Heap} {Tb : List NTab}
theorem m_mended (T : Tops K mg) : Def P w K mg base Tb 7 "mended" [] (Fn3 PyData.str kdsD PyData.str CallOk fun _ ps z => .r (.d (.str (mendS ps z).1))) :=
  (d_mended T).mono fun δ o ⟨lz, ps, z, h1, h2, h3⟩ => ⟨[.str lz, kdsD ps, .str z], rfl, ⟨lz, ps, z, rfl, h1⟩, h2, by
    rw [h3]
    show _ = (An.r (.d (.str (mendS ((asTup (kdsD ps)).map asKd) z).1))).out _
    rw [kdsD_as]
    rfl⟩
theorem m_by (T : Tops K mg) : Def P w K mg base Tb 3 "mended_by" [] (Fn2 kdsD PyData.str (fun ps z => (∃ lz, MenderOk lz ps) ∧ z.length ≤ 4000) fun ps z => .r (.d (rowD (mendS ps z)))) :=
  (d_mended_by T).mono fun δ o ⟨ps, z, ⟨⟨lz, h0⟩, h1⟩, h2, h3⟩ => ⟨[kdsD ps, .str z], rfl, ⟨lz, ps, z, rfl, h0, h1⟩, h2, by
    rw [h3]
    show _ = (An.r (.d (rowD (mendS ((asTup (kdsD ps)).map asKd) z)))).out _
    rw [kdsD_as]
    rfl⟩
/-- the copies as texts -/
noncomputable def copyL (ps : List Kd) (z : Str) : List Str := (Classical.choose (key_texts (ps := ps) (z := z))).mergeSort (dataLe false fun s => kLen (.str s))
theorem copyL_data (ps : List Kd) (z : Str) : sortD kLen (keyTexts ps z) = (copyL ps z).map .str := (Classical.choose_spec (key_texts (ps := ps) (z := z))).2.2.2
theorem copyL_mem {ps : List Kd} {z y : Str} : y ∈ copyL ps z ↔ ∃ d ∈ deedsOn ps z, behindS z d = y := by
  unfold copyL
  rw [(List.mergeSort_perm _ _).mem_iff]
  exact (Classical.choose_spec (key_texts (ps := ps) (z := z))).2.1 y
theorem dict_len : ∀ (ys acc : List (Key × PyData)), (dictD ys acc).length ≤ acc.length + ys.length
  | [], acc => Nat.le_refl _
  | y :: ys, acc => by
    have h1 := putD_len acc y.1 y.2
    have h2 := dict_len ys (putD acc y.1 y.2)
    show (dictD ys (putD acc y.1 y.2)).length ≤ _
    rw [List.length_cons]
    omega
theorem copyL_len (ps : List Kd) (z : Str) : (copyL ps z).length ≤ ps.length * (z.length + 1) := by
  have e := congrArg List.length (copyL_data ps z)
  unfold sortD keyTexts keysD at e
  rw [List.length_mergeSort, List.length_map, List.length_map] at e
  have q := dict_len ((deedsOn ps z).map fun d => (tK (behindS z d), PyData.bool true)) []
  rw [List.length_map, List.length_nil] at q
  have q2 := deeds_len (ps := ps) (z := z)
  omega
/-- texts in order -/
def sortT (ts : List Str) : List Str := ts.mergeSort (dataLe false fun s => kLen (.str s))
def addS (s : List Str × List Str) (t : Str) : List Str × List Str := if t ∈ s.1 then s else (insT s.1 t, insT s.2 t)
noncomputable def nextS (ks : List Kd) (s : List Str × List Str) : List Str × List Str := s.2.foldl (fun a one => (copyL ks one).foldl addS a) (s.1, [])
noncomputable def failC (ks md : List Kd) (z : Str) : Nat → List Str × List Str → Option Str
  | 0, _ => none
  | n + 1, s => match (sortT s.2).find? (fun one => !decide ((mendS md one).1 = z)) with
    | some one => some one
    | none => failC ks md z n (nextS ks s)
theorem addS_len {s : List Str × List Str} {t : Str} : (addS s t).1.length ≤ s.1.length + 1 ∧ (addS s t).2.length ≤ s.2.length + 1 := by
  unfold addS
  split
  · omega
  · exact ⟨insT_len _ _, insT_len _ _⟩
def ansT : Option Str → PyData
  | some t => .str t
  | none => .none
theorem addS_fold {b : Nat} : ∀ (ts : List Str) (s : List Str × List Str), s.1.length + ts.length ≤ b → s.2.length + ts.length ≤ b → (ts.foldl addS s).1.length ≤ s.1.length + ts.length ∧ (ts.foldl addS s).2.length ≤ s.2.length + ts.length
  | [], s, _, _ => ⟨Nat.le_refl _, Nat.le_refl _⟩
  | t :: ts, s, h1, h2 => by
    have q := addS_len (s := s) (t := t)
    rw [List.length_cons] at h1 h2
    have q2 := addS_fold (b := b) ts (addS s t) (by omega) (by omega)
    rw [List.foldl_cons, List.length_cons]
    omega
theorem addS_mem : ∀ (ts : List Str) (s : List Str × List Str) (y : Str), y ∈ (ts.foldl addS s).2 → y ∈ s.2 ∨ y ∈ ts
  | [], s, y, h => .inl h
  | t :: ts, s, y, h => by
    rcases addS_mem ts (addS s t) y h with h | h
    · unfold addS at h
      split at h
      · exact .inl h
      · rcases insT_mem.mp h with h | h
        · exact .inl h
        · exact .inr (by rw [h]; exact List.mem_cons_self)
    · exact .inr (List.mem_cons_of_mem _ h)
theorem nextS_fold {ks : List Kd} {b l : Nat} (hk : KindsShort ks) (hb : ks.length * (l + 1) ≤ b) : ∀ (xs : List Str) (a : List Str × List Str), (∀ t ∈ xs, t.length ≤ l) → (xs.foldl (fun a one => (copyL ks one).foldl addS a) a).1.length ≤ a.1.length + xs.length * b ∧ (xs.foldl (fun a one => (copyL ks one).foldl addS a) a).2.length ≤ a.2.length + xs.length * b
  | [], a, _ => by simp
  | x :: xs, a, hl => by
    have h1 := copyL_len ks x
    have h2 : ks.length * (x.length + 1) ≤ ks.length * (l + 1) := Nat.mul_le_mul_left _ (by have := hl x List.mem_cons_self; omega)
    have q := addS_fold (b := a.1.length + a.2.length + (copyL ks x).length) (copyL ks x) a (by omega) (by omega)
    have q2 := nextS_fold hk hb xs ((copyL ks x).foldl addS a) fun t ht => hl t (List.mem_cons_of_mem _ ht)
    rw [List.foldl_cons, List.length_cons, Nat.add_mul, Nat.one_mul]
    omega
theorem nextS_mem {ks : List Kd} : ∀ (xs : List Str) (a : List Str × List Str) (y : Str), y ∈ (xs.foldl (fun a one => (copyL ks one).foldl addS a) a).2 → y ∈ a.2 ∨ ∃ x ∈ xs, y ∈ copyL ks x
  | [], a, y, h => .inl h
  | x :: xs, a, y, h => by
    rcases nextS_mem xs _ y h with h | ⟨x', h1, h2⟩
    · rcases addS_mem _ _ _ h with h | h
      · exact .inl h
      · exact .inr ⟨x, List.mem_cons_self, h⟩
    · exact .inr ⟨x', List.mem_cons_of_mem _ h1, h2⟩
theorem copyL_short {ks : List Kd} (hr : ∀ p ∈ ks, p.2.length ≤ 1) {x y : Str} (h : y ∈ copyL ks x) : y.length ≤ x.length + 1 := by
  obtain ⟨d, hd, rfl⟩ := copyL_mem.mp h
  have := behind_len x d
  have := hr _ (deeds_mem.mp hd).1
  omega
/-- how much there may be: l letters, n texts, for m turns more -/
structure Few (ks : List Kd) (s : List Str × List Str) (l m : Nat) : Prop where
  hl : l + m ≤ 12
  t : ∀ t ∈ s.2, t.length ≤ l
  n : ∃ n, s.1.length ≤ n ∧ s.2.length ≤ n ∧ n * (ks.length * 12 + 1) ^ m ≤ 4000000
theorem Few.next {ks : List Kd} {s : List Str × List Str} {l m : Nat} (hk : KindsShort ks) (hr : ∀ p ∈ ks, p.2.length ≤ 1) (h : Few ks s l (m + 1)) : Few ks (nextS ks s) (l + 1) m := by
  obtain ⟨hl, ht, n, h1, h2, h3⟩ := h
  refine ⟨by omega, fun t h => ?_, n * (ks.length * 12 + 1), ?_, ?_, ?_⟩
  · rcases nextS_mem _ _ _ h with h | ⟨x, hx, h⟩
    · cases h
    · have := copyL_short hr h
      have := ht x hx
      omega
  · have q := (nextS_fold hk (b := ks.length * 12) (Nat.mul_le_mul_left _ (show l + 1 ≤ 12 by omega)) s.2 (s.1, []) ht).1
    have q2 : s.2.length * (ks.length * 12) ≤ n * (ks.length * 12) := Nat.mul_le_mul_right _ h2
    rw [Nat.mul_add, Nat.mul_one]
    have q3 : (nextS ks s).1.length ≤ s.1.length + s.2.length * (ks.length * 12) := q
    omega
  · have q := (nextS_fold hk (b := ks.length * 12) (Nat.mul_le_mul_left _ (show l + 1 ≤ 12 by omega)) s.2 (s.1, []) ht).2
    have q2 : s.2.length * (ks.length * 12) ≤ n * (ks.length * 12) := Nat.mul_le_mul_right _ h2
    rw [Nat.mul_add, Nat.mul_one]
    have q3 : (nextS ks s).2.length ≤ 0 + s.2.length * (ks.length * 12) := q
    omega
  · rw [Nat.mul_assoc, ← Nat.pow_succ']
    exact h3
theorem sortT_data (ts : List Str) : sortD kLen (ts.map .str) = (sortT ts).map .str := sort_texts
theorem sortT_mem {ts : List Str} {t : Str} : t ∈ sortT ts ↔ t ∈ ts := (List.mergeSort_perm _ _).mem_iff
noncomputable def stepF (ks md : List Kd) (z : Str) (s : List Str × List Str) (_ : Nat) : (List Str × List Str) ⊕ Str := match (sortT s.2).find? (fun one => !decide ((mendS md one).1 = z)) with
  | some one => .inr one
  | none => .inl (nextS ks s)
theorem failC_run (ks md : List Kd) (z : Str) : ∀ (n a : Nat) (s : List Str × List Str), (match runE (stepF ks md z) (List.range' a n) s with | .inl _ => none | .inr one => some one) = failC ks md z n s := by
  intro n
  induction n with
  | zero => exact fun a s => rfl
  | succ n ih =>
    intro a s
    rw [List.range'_succ]
    unfold runE failC stepF
    cases (sortT s.2).find? (fun one => !decide ((mendS md one).1 = z)) with
    | some one => rfl
    | none => exact ih (a + 1) (nextS ks s)
abbrev fcS (ks md : List Kd) (m : Nat) (z : Str) (s : List Str × List Str) : List Sl := [.d (kdsD ks), .d (.int (m : Nat)), .d (kdsD md), .d (.str z), .o (.dk (dkT s.1)), .o (.lst (s.2.map .str)), .no, .no, .no, .no]
noncomputable def fcOf (ks md : List Kd) (m : Nat) (z : Str) : Option Str := failC ks md z (m + 1) ([z], [z])
noncomputable def failOf (ks md : List Kd) (m : Nat) (zs : List Str) : PyData := match zs.find? (fun z => (fcOf ks md m z).isSome) with
  | some z => .tuple [.str z, ansT (fcOf ks md m z)]
  | none => .none
structure FailOk (ks md : List Kd) (m : Nat) (zs : List Str) : Prop where
  k : KindsShort ks
  r : ∀ p ∈ ks, p.2.length ≤ 1
  md : ∃ lz, MenderOk lz md
  n : m ≤ 100
  f : ∀ z ∈ zs, Few ks ([z], [z]) z.length (m + 1)
theorem isNone_ansT (o : Option Str) : isNone (ansT o) = !o.isSome := by cases o <;> rfl
def txtsD (zs : List Str) : PyData := .tuple (zs.map .str)
structure NeedF (lz : Str) (ks : List Kd) (m : Nat) (md : List Kd) (zs : List Str) : Prop where
  lt : lettersS lz = true
  ll : lz.length ≤ 4
  k : KindsOk lz ks
  n : m ≤ 3
  md : MenderOk lz md
  zl : zs.length ≤ 20
  z : ∀ z ∈ zs, textD lz (.str z) 8 = true
theorem NeedF.z8 {lz : Str} {ks md : List Kd} {m : Nat} {zs : List Str} (h : NeedF lz ks m md zs) : ∀ z ∈ zs, z.length ≤ 8 := by
  intro z hz
  have q : (decide (((z.length : Nat) : Int) ≤ 8) && z.cps.toList.all (inS lz)) = true := h.z z hz
  simp only [Bool.and_eq_true, decide_eq_true_eq] at q
  omega
theorem t_is_text (T : Tops K mg) : Def P w K mg base Tb 1 "is_text" [] (Fn3 PyData.str PyData.str PyData.int (fun _ z _ => z.length ≤ 10000) fun lz z m => .r (.d (.bool (textD lz (.str z) m)))) :=
  (d_is_text T).2.mono fun δ o ⟨lz, z, m, h1, h2, h3⟩ => ⟨[.str lz, .str z, .int m], rfl, ⟨lz, .str z, m, rfl, fun y e => by cases e; exact h1⟩, h2, h3⟩
theorem NeedF.fails {lz : Str} {ks md : List Kd} {m : Nat} {zs : List Str} (h : NeedF lz ks m md zs) (hf : (ks.length * 12 + 1) ^ (m + 1) ≤ 4000000) : FailOk ks md m zs :=
  ⟨h.k.short, fun p hp => (h.k.each p hp).2.1, ⟨lz, h.md⟩, Nat.le_trans h.n (by decide), fun z hz => ⟨by have := h.z8 z hz; have := h.n; omega, fun t ht => by rw [List.mem_singleton.mp ht]; exact Nat.le_refl _, 1, Nat.le_refl _, Nat.le_refl _, by rw [Nat.one_mul]; exact hf⟩⟩
end KL
namespace KL
open PySem L2 NdefX Sc PySem.W PyProof.Rows
/-! texts in order -/
def leT (a b : Str) : Bool := dataLe false (fun s => kLen (.str s)) a b
theorem ltT_eq (a b : Str) : dataLt (kLen (.str a)) (kLen (.str b)) = decide (a.length < b.length ∨ (a.length = b.length ∧ a.cps.toList < b.cps.toList)) := by
  unfold kLen asStr
  simp only
  rw [dataLt_pair (by simp [alike]) (by simp [alike]), dataLt_int, dataLt_str]
  simp only [PyData.eqv, beq_iff_eq]
  have i1 : a = b → ¬ a.cps.toList < b.cps.toList := by rintro rfl; exact List.lt_irrefl _
  have c1 : ((a.length : Nat) : Int) = (b.length : Nat) ↔ a.length = b.length := by omega
  have c3 : ((a.length : Nat) : Int) < (b.length : Nat) ↔ a.length < b.length := by omega
  simp only [c1, c3]
  generalize a.cps.toList = x at *
  generalize b.cps.toList = y at *
  have i3 : a = b → a.length = b.length := by rintro rfl; rfl
  generalize a.length = n at *
  generalize b.length = k at *
  by_cases h2 : a = b
  · have j1 := i1 h2
    have j3 := i3 h2
    subst j3
    simp [h2, j1]
  · by_cases h4 : n = k
    · simp [h2, h4]
    · simp [h2, h4]
theorem leT_eq (a b : Str) : leT a b = !decide (b.length < a.length ∨ (b.length = a.length ∧ b.cps.toList < a.cps.toList)) := by
  rw [← ltT_eq]
  rfl
theorem leT_total : TotalLe leT := sortLe_total (PyProof.Rows.listOrd itemOrd) false fun s => keyToks (kLen (.str s))
theorem leT_anti (a b : Str) (h1 : leT a b = true) (h2 : leT b a = true) : a = b := by
  rw [leT_eq, Bool.not_eq_true', decide_eq_false_iff_not] at h1 h2
  have e : a.length = b.length := nat_eq (fun h => h2 (.inl h)) (fun h => h1 (.inl h))
  exact str_eq (fun h => h2 (.inr ⟨e, h⟩)) (fun h => h1 (.inr ⟨e.symm, h⟩))
theorem sortT_perm {a b : List Str} (h : a.Perm b) : sortT a = sortT b :=
  perm_sorted leT_anti (((List.mergeSort_perm _ _).trans h).trans (List.mergeSort_perm _ _).symm) (sort_pairwise leT_total _) (sort_pairwise leT_total _)
/-! the law's layers of copies and the program's -/
def lawNext (ks : List Kd) (s : List Str × List Str) : List Str × List Str := s.2.foldl (fun a one => (lawDeeds ks one).foldl (fun a d => addS a (behindS one d)) a) (s.1, [])
structure SameS (s s' : List Str × List Str) : Prop where
  a : ∀ t, t ∈ s.1 ↔ t ∈ s'.1
  b : ∀ t, t ∈ s.2 ↔ t ∈ s'.2
  n : s.2.Nodup
  n' : s'.2.Nodup
theorem addS_all : ∀ (ts : List Str) (s : List Str × List Str), s.2.Nodup → (∀ t, t ∈ (ts.foldl addS s).1 ↔ t ∈ s.1 ∨ t ∈ ts) ∧ (∀ t, t ∈ (ts.foldl addS s).2 ↔ t ∈ s.2 ∨ (t ∈ ts ∧ t ∉ s.1)) ∧ (ts.foldl addS s).2.Nodup
  | [], s, h => ⟨fun t => by simp, fun t => by simp, h⟩
  | x :: ts, s, h => by
    have hn : (addS s x).2.Nodup := by
      unfold addS
      split
      · exact h
      · exact insT_nodup h x
    obtain ⟨h1, h2, h3⟩ := addS_all ts (addS s x) hn
    refine ⟨fun t => ?_, fun t => ?_, h3⟩
    · rw [List.foldl_cons, h1]
      unfold addS
      split
      · rename_i hx
        constructor
        · exact fun q => q.elim .inl fun q => .inr (List.mem_cons_of_mem _ q)
        · rintro (q | q)
          · exact .inl q
          · rcases List.mem_cons.mp q with q | q
            · exact .inl (q ▸ hx)
            · exact .inr q
      · show t ∈ insT s.1 x ∨ _ ↔ _
        rw [insT_mem, List.mem_cons]
        constructor
        · rintro ((q | q) | q)
          · exact .inl q
          · exact .inr (.inl q)
          · exact .inr (.inr q)
        · rintro (q | q | q)
          · exact .inl (.inl q)
          · exact .inl (.inr q)
          · exact .inr q
    · rw [List.foldl_cons, h2]
      unfold addS
      split
      · rename_i hx
        constructor
        · exact fun q => q.elim .inl fun q => .inr ⟨List.mem_cons_of_mem _ q.1, q.2⟩
        · rintro (q | ⟨q, q2⟩)
          · exact .inl q
          · rcases List.mem_cons.mp q with q | q
            · exact absurd (q ▸ hx) q2
            · exact .inr ⟨q, q2⟩
      · rename_i hx
        show t ∈ insT s.2 x ∨ (t ∈ ts ∧ t ∉ insT s.1 x) ↔ _
        rw [insT_mem, insT_mem, List.mem_cons]
        constructor
        · rintro ((q | q) | ⟨q, q2⟩)
          · exact .inl q
          · exact .inr ⟨.inl q, q ▸ hx⟩
          · exact .inr ⟨.inr q, fun z => q2 (.inl z)⟩
        · rintro (q | ⟨q | q, q2⟩)
          · exact .inl (.inl q)
          · exact .inl (.inr q)
          · by_cases e : t = x
            · exact .inl (.inr e)
            · exact .inr ⟨q, fun z => z.elim q2 e⟩
theorem nextS_flat (ks : List Kd) (s : List Str × List Str) : nextS ks s = (s.2.flatMap (copyL ks)).foldl addS (s.1, []) := by
  unfold nextS
  rw [List.foldl_flatMap]
theorem lawNext_flat (ks : List Kd) (s : List Str × List Str) : lawNext ks s = (s.2.flatMap fun one => (lawDeeds ks one).map (behindS one)).foldl addS (s.1, []) := by
  unfold lawNext
  rw [List.foldl_flatMap]
  congr 1
  funext a one
  rw [List.foldl_map]
theorem SameS.next {ks : List Kd} {s s' : List Str × List Str} (h : SameS s s') : SameS (lawNext ks s) (nextS ks s') := by
  rw [nextS_flat, lawNext_flat]
  have hm : ∀ t, (t ∈ s.2.flatMap fun one => (lawDeeds ks one).map (behindS one)) ↔ t ∈ s'.2.flatMap (copyL ks) := by
    intro t
    rw [List.mem_flatMap, List.mem_flatMap]
    constructor
    · rintro ⟨one, h1, h2⟩
      obtain ⟨d, h3, h4⟩ := List.mem_map.mp h2
      exact ⟨one, (h.b one).mp h1, copyL_mem.mpr ⟨d, by rw [deeds_law]; exact h3, h4⟩⟩
    · rintro ⟨one, h1, h2⟩
      obtain ⟨d, h3, h4⟩ := copyL_mem.mp h2
      exact ⟨one, (h.b one).mpr h1, List.mem_map.mpr ⟨d, by rw [← deeds_law]; exact h3, h4⟩⟩
  obtain ⟨a1, a2, a3⟩ := addS_all (s.2.flatMap fun one => (lawDeeds ks one).map (behindS one)) (s.1, []) List.nodup_nil
  obtain ⟨b1, b2, b3⟩ := addS_all (s'.2.flatMap (copyL ks)) (s'.1, []) List.nodup_nil
  refine ⟨fun t => ?_, fun t => ?_, a3, b3⟩
  · rw [a1, b1, hm]
    exact or_congr (h.a t) Iff.rfl
  · rw [a2, b2, hm]
    exact or_congr Iff.rfl (and_congr Iff.rfl (not_congr (h.a t)))
theorem SameS.sort {s s' : List Str × List Str} (h : SameS s s') : sortT s.2 = sortT s'.2 := sortT_perm ((List.perm_ext_iff_of_nodup h.n h.n').mpr h.b)
/-! what is due -/
def wrongOf (md : List Kd) (z : Str) (s : List Str × List Str) : List Str := (sortT s.2).filter fun one => !decide ((mendS md one).1 = z)
def dueStep (md : List Kd) (z : Str) (s : List Str × List Str) (due : Option (Str × Str)) : Option (Str × Str) := match due with
  | some d => some d
  | none => (wrongOf md z s).head?.map fun one => (z, one)
def lawText (ks md : List Kd) (z : Str) : Nat → List Str × List Str → Option (Str × Str) → Option (Str × Str)
  | 0, _, due => due
  | n + 1, s, due => lawText ks md z n (lawNext ks s) (dueStep md z s due)
theorem lawText_some (ks md : List Kd) (z : Str) (d : Str × Str) : ∀ (n : Nat) (s : List Str × List Str), lawText ks md z n s (some d) = some d
  | 0, _ => rfl
  | n + 1, s => lawText_some ks md z d n _
theorem lawText_none (ks md : List Kd) (z : Str) : ∀ (n : Nat) (s s' : List Str × List Str), SameS s s' → lawText ks md z n s none = (failC ks md z n s').map fun one => (z, one)
  | 0, _, _, _ => rfl
  | n + 1, s, s', h => by
    unfold lawText failC dueStep wrongOf
    rw [h.sort, List.head?_filter]
    cases (sortT s'.2).find? (fun one => !decide ((mendS md one).1 = z)) with
    | some one => exact lawText_some ks md z (z, one) n _
    | none => exact lawText_none ks md z n _ _ h.next
def dueD : Option (Str × Str) → PyData
  | some d => .tuple [.str d.1, .str d.2]
  | none => .none
def lawDue (ks md : List Kd) (m : Nat) (zs : List Str) (due : Option (Str × Str)) : Option (Str × Str) := zs.foldl (fun due z => lawText ks md z (m + 1) ([z], [z]) due) due
theorem lawDue_some (ks md : List Kd) (m : Nat) (d : Str × Str) : ∀ zs : List Str, lawDue ks md m zs (some d) = some d
  | [] => rfl
  | z :: zs => by
    show lawDue ks md m zs (lawText ks md z (m + 1) ([z], [z]) (some d)) = _
    rw [lawText_some, lawDue_some]
theorem lawDue_none (ks md : List Kd) (m : Nat) : ∀ zs : List Str, dueD (lawDue ks md m zs none) = failOf ks md m zs
  | [] => rfl
  | z :: zs => by
    show dueD (lawDue ks md m zs (lawText ks md z (m + 1) ([z], [z]) none)) = _
    rw [lawText_none ks md z (m + 1) _ ([z], [z]) ⟨fun _ => Iff.rfl, fun _ => Iff.rfl, by simp, by simp⟩]
    unfold failOf
    cases e : failC ks md z (m + 1) ([z], [z]) with
    | some one =>
      have e2 : (fcOf ks md m z).isSome = true := by unfold fcOf; rw [e]; rfl
      rw [List.find?_cons_of_pos (p := fun z => (fcOf ks md m z).isSome) e2]
      show dueD (lawDue ks md m zs (some (z, one))) = _
      rw [lawDue_some]
      show dueD (some (z, one)) = PyData.tuple [PyData.str z, ansT (failC ks md z (m + 1) ([z], [z]))]
      rw [e]
      rfl
    | none =>
      have e2 : ¬ (fcOf ks md m z).isSome = true := by unfold fcOf; rw [e]; exact Bool.false_ne_true
      rw [List.find?_cons_of_neg (p := fun z => (fcOf ks md m z).isSome) e2]
      exact lawDue_none ks md m zs
end KL
namespace KL
/-! rewriting of rows by rules that shorten: a least parted row is an overlap -/
section
variable {α : Type} {R : List (List α × List α)} {u v w t x y : List α} {A : α → Prop}
def Stp (R : List (List α × List α)) (u v : List α) : Prop := ∃ x l r y, (l, r) ∈ R ∧ u = x ++ (l ++ y) ∧ v = x ++ (r ++ y)
inductive Rch (R : List (List α × List α)) : List α → List α → Prop
  | refl (u : List α) : Rch R u u
  | step {u v w : List α} : Stp R u v → Rch R v w → Rch R u w
def Nrm (R : List (List α × List α)) (u : List α) : Prop := ∀ v, ¬ Stp R u v
def EndOf (R : List (List α × List α)) (u t : List α) : Prop := Rch R u t ∧ Nrm R t
def Parted (R : List (List α × List α)) (u : List α) : Prop := ∃ t t', EndOf R u t ∧ EndOf R u t' ∧ t ≠ t'
def Over (A : α → Prop) (u : List α) : Prop := ∀ c ∈ u, A c
def Ovl (R : List (List α × List α)) (w : List α) : Prop := ∃ p ∈ R, ∃ q ∈ R, (∃ a s b, s ≠ [] ∧ p.1 = a ++ s ∧ q.1 = s ++ b ∧ w = a ++ (s ++ b)) ∨ ∃ a b, p.1 = a ++ (q.1 ++ b) ∧ w = p.1
theorem Rch.one (h : Stp R u v) : Rch R u v := .step h (.refl v)
theorem Rch.trans (a : Rch R u v) (b : Rch R v w) : Rch R u w := by
  induction a with
  | refl u => exact b
  | step h _ ih => exact .step h (ih b)
theorem Stp.ctx (x y : List α) (h : Stp R u v) : Stp R (x ++ (u ++ y)) (x ++ (v ++ y)) := by
  obtain ⟨a, l, r, b, h1, rfl, rfl⟩ := h
  exact ⟨x ++ a, l, r, b ++ y, h1, by simp, by simp⟩
theorem Rch.ctx (x y : List α) (h : Rch R u v) : Rch R (x ++ (u ++ y)) (x ++ (v ++ y)) := by
  induction h with
  | refl u => exact .refl _
  | step h _ ih => exact .step (h.ctx x y) ih
theorem Stp.less (hs : ∀ p ∈ R, p.2.length < p.1.length) (h : Stp R u v) : v.length < u.length := by
  obtain ⟨a, l, r, b, h1, rfl, rfl⟩ := h
  have : r.length < l.length := hs _ h1
  simp only [List.length_append]
  omega
theorem Rch.le (hs : ∀ p ∈ R, p.2.length < p.1.length) (h : Rch R u v) : v.length ≤ u.length := by
  induction h with
  | refl u => exact Nat.le_refl _
  | step h _ ih => exact Nat.le_trans ih (Nat.le_of_lt (h.less hs))
theorem Over.app : Over A (x ++ y) ↔ Over A x ∧ Over A y := by
  unfold Over
  constructor
  · exact fun h => ⟨fun c hc => h c (List.mem_append_left _ hc), fun c hc => h c (List.mem_append_right _ hc)⟩
  · exact fun ⟨h1, h2⟩ c hc => (List.mem_append.mp hc).elim (h1 c) (h2 c)
theorem Stp.over (hA : ∀ p ∈ R, Over A p.2) (h : Stp R u v) (hu : Over A u) : Over A v := by
  obtain ⟨a, l, r, b, h1, rfl, rfl⟩ := h
  rw [Over.app, Over.app] at hu ⊢
  exact ⟨hu.1, hA _ h1, hu.2.2⟩
theorem Rch.over (hA : ∀ p ∈ R, Over A p.2) (h : Rch R u v) (hu : Over A u) : Over A v := by
  induction h with
  | refl u => exact hu
  | step h _ ih => exact ih (h.over hA hu)
theorem EndOf.back (a : Rch R u v) (b : EndOf R v t) : EndOf R u t := ⟨a.trans b.1, b.2⟩
theorem end_ex (hs : ∀ p ∈ R, p.2.length < p.1.length) : ∀ (n : Nat) (u : List α), u.length ≤ n → ∃ t, EndOf R u t := by
  intro n
  induction n with
  | zero =>
    intro u hu
    refine ⟨u, .refl u, fun v h => ?_⟩
    have := h.less hs
    omega
  | succ n ih =>
    intro u hu
    by_cases h : Nrm R u
    · exact ⟨u, .refl u, h⟩
    · obtain ⟨v, hv⟩ : ∃ v, Stp R u v := by
        unfold Nrm at h
        rw [Classical.not_forall] at h
        obtain ⟨v, hv⟩ := h
        exact ⟨v, Classical.not_not.mp hv⟩
      obtain ⟨t, ht⟩ := ih v (by have := hv.less hs; omega)
      exact ⟨t, ht.back (.one hv)⟩
theorem ends_one (hs : ∀ p ∈ R, p.2.length < p.1.length) (h : ¬ Parted R u) {t t' : List α} (a : EndOf R u t) (b : EndOf R u t') : t = t' := by
  by_cases e : t = t'
  · exact e
  · exact absurd ⟨t, t', a, b, e⟩ h
theorem two_steps {x1 x2 l1 l2 r1 r2 y1 y2 : List α} (h1 : (l1, r1) ∈ R) (h2 : (l2, r2) ∈ R) (hx : x1.length ≤ x2.length) (e : x1 ++ (l1 ++ y1) = x2 ++ (l2 ++ y2)) :
    (∃ z, Rch R (x1 ++ (r1 ++ y1)) z ∧ Rch R (x2 ++ (r2 ++ y2)) z) ∨
      ∃ x w y w1 w2, x1 ++ (l1 ++ y1) = x ++ (w ++ y) ∧ Ovl R w ∧ Stp R w w1 ∧ Stp R w w2 ∧ x1 ++ (r1 ++ y1) = x ++ (w1 ++ y) ∧ x2 ++ (r2 ++ y2) = x ++ (w2 ++ y) := by
  obtain ⟨m, rfl, ee⟩ : ∃ m, x2 = x1 ++ m ∧ l1 ++ y1 = m ++ (l2 ++ y2) := by
    rcases List.append_eq_append_iff.mp e with ⟨a, h, h'⟩ | ⟨a, h, h'⟩
    · exact ⟨a, h, h'⟩
    · have hl := congrArg List.length h
      rw [List.length_append] at hl
      have : a = [] := List.length_eq_zero_iff.mp (by omega)
      subst this
      exact ⟨[], by simpa using h.symm, by simpa using h'.symm⟩
  have far : ∀ m', y1 = m' ++ (l2 ++ y2) → m = l1 ++ m' → ∃ z, Rch R (x1 ++ (r1 ++ y1)) z ∧ Rch R (x1 ++ m ++ (r2 ++ y2)) z := fun m' e1 e2 => by
    subst e1
    subst e2
    refine ⟨x1 ++ (r1 ++ (m' ++ (r2 ++ y2))), .one ⟨x1 ++ (r1 ++ m'), l2, r2, y2, h2, by simp, by simp⟩, .one ⟨x1, l1, r1, m' ++ (r2 ++ y2), h1, by simp, by simp⟩⟩
  rcases List.append_eq_append_iff.mp ee with ⟨m', e1, e2⟩ | ⟨s, e1, e2⟩
  · exact .inl (far m' e2 e1)
  · by_cases hs : s = []
    · subst hs
      exact .inl (far [] (by simpa using e2.symm) (by simpa using e1.symm))
    · refine .inr ?_
      rcases List.append_eq_append_iff.mp e2 with ⟨b, e3, e4⟩ | ⟨b, e3, e4⟩
      · -- s = l2 ++ b
        subst e3
        subst e4
        subst e1
        exact ⟨x1, m ++ (l2 ++ b), y1, r1, m ++ (r2 ++ b), by simp, ⟨_, h1, _, h2, .inr ⟨m, b, rfl, rfl⟩⟩, ⟨[], _, r1, [], h1, by simp, by simp⟩, ⟨m, l2, r2, b, h2, by simp, by simp⟩, by simp, by simp⟩
      · -- l2 = s ++ b
        subst e3
        subst e4
        subst e1
        exact ⟨x1, m ++ (s ++ b), y2, r1 ++ b, m ++ r2, by simp, ⟨_, h1, _, h2, .inl ⟨m, s, b, hs, rfl, rfl, rfl⟩⟩, ⟨[], _, r1, b, h1, by simp, by simp⟩, ⟨m, _, r2, [], h2, by simp, by simp⟩, by simp, by simp⟩
theorem parted_ovl (hs : ∀ p ∈ R, p.2.length < p.1.length) (hA : ∀ p ∈ R, Over A p.2) (hu : Over A u) (hp : Parted R u) (hm : ∀ v, v.length < u.length → Over A v → ¬ Parted R v) : Ovl R u := by
  obtain ⟨t, t', ht, ht', hne⟩ := hp
  have key : ∀ {v1 v2 : List α}, Stp R u v1 → Stp R u v2 → EndOf R v1 t → EndOf R v2 t' → (∃ z, Rch R v1 z ∧ Rch R v2 z) → False := fun {v1 v2} s1 s2 e1 e2 ⟨z, z1, z2⟩ => by
    obtain ⟨f, hf⟩ := end_ex hs _ z (Nat.le_refl _)
    have a1 := ends_one hs (hm _ (s1.less hs) (s1.over hA hu)) e1 (hf.back z1)
    have a2 := ends_one hs (hm _ (s2.less hs) (s2.over hA hu)) e2 (hf.back z2)
    exact hne (a1.trans a2.symm)
  have main : ∀ {x1 x2 l1 l2 r1 r2 y1 y2 : List α} {t t' : List α}, (l1, r1) ∈ R → (l2, r2) ∈ R → x1.length ≤ x2.length → u = x1 ++ (l1 ++ y1) → u = x2 ++ (l2 ++ y2) →
      ((∃ z, Rch R (x1 ++ (r1 ++ y1)) z ∧ Rch R (x2 ++ (r2 ++ y2)) z) → False) → Ovl R u := fun {x1 x2 l1 l2 r1 r2 y1 y2 t t'} h1 h2 hx e1 e2 no => by
    rcases two_steps h1 h2 hx (e1.symm.trans e2) with j | ⟨x, w, y, w1, w2, e, ov, s1, s2, q1, q2⟩
    · exact (no j).elim
    · by_cases hl : w.length < u.length
      · exfalso
        have eu : u = x ++ (w ++ y) := e1.trans e
        have ow : Over A w := by
          rw [eu, Over.app, Over.app] at hu
          exact hu.2.1
        obtain ⟨f1, hf1⟩ := end_ex hs _ w1 (Nat.le_refl _)
        obtain ⟨f2, hf2⟩ := end_ex hs _ w2 (Nat.le_refl _)
        have ef := ends_one hs (hm _ hl ow) (hf1.back (.one s1)) (hf2.back (.one s2))
        subst ef
        refine no ⟨x ++ (f1 ++ y), ?_, ?_⟩
        · rw [q1]
          exact hf1.1.ctx x y
        · rw [q2]
          exact hf2.1.ctx x y
      · have eu : u = x ++ (w ++ y) := e1.trans e
        have hl2 := congrArg List.length eu
        simp only [List.length_append] at hl2
        have hx0 : x = [] := List.length_eq_zero_iff.mp (by omega)
        have hy0 : y = [] := List.length_eq_zero_iff.mp (by omega)
        subst hx0
        subst hy0
        rw [eu]
        simpa using ov
  obtain ⟨r1, n1⟩ := ht
  obtain ⟨r2, n2⟩ := ht'
  cases r1 with
  | refl _ =>
    cases r2 with
    | refl _ => exact (hne rfl).elim
    | step s _ => exact (n1 _ s).elim
  | step s1 q1 =>
    cases r2 with
    | refl _ => exact (n2 _ s1).elim
    | step s2 q2 =>
      have no := key s1 s2 ⟨q1, n1⟩ ⟨q2, n2⟩
      obtain ⟨x1, l1, k1, y1, m1, e1, v1⟩ := s1
      obtain ⟨x2, l2, k2, y2, m2, e2, v2⟩ := s2
      subst v1
      subst v2
      rcases Nat.le_total x1.length x2.length with hx | hx
      · exact main (t := t) (t' := t') m1 m2 hx e1 e2 no
      · exact main (t := t) (t' := t') m2 m1 hx e2 e1 fun ⟨z, a, b⟩ => no ⟨z, b, a⟩
theorem Ovl.len {n : Nat} (h : ∀ p ∈ R, p.1.length ≤ n) (hw : Ovl R w) : w.length ≤ 2 * n - 1 := by
  obtain ⟨p, hp, q, hq, ⟨a, s, b, hs, e1, e2, e3⟩ | ⟨a, b, e1, e2⟩⟩ := hw
  · have h1 := h p hp
    have h2 := h q hq
    rw [e1] at h1
    rw [e2] at h2
    rw [e3]
    have : 0 < s.length := List.length_pos_iff.mpr hs
    simp only [List.length_append] at *
    omega
  · rw [e2]
    have := h p hp
    by_cases hn : n = 0
    · omega
    · omega
theorem Ovl.over (h : ∀ p ∈ R, Over A p.1) (hw : Ovl R w) : Over A w := by
  obtain ⟨p, hp, q, hq, ⟨a, s, b, hs, e1, e2, e3⟩ | ⟨a, b, e1, e2⟩⟩ := hw
  · have h1 := h p hp
    have h2 := h q hq
    rw [e1, Over.app] at h1
    rw [e2, Over.app] at h2
    rw [e3, Over.app, Over.app]
    exact ⟨h1.1, h1.2, h2.2⟩
  · rw [e2]
    exact h p hp
/-- no overlap is parted: no row is -/
theorem none_parted (hs : ∀ p ∈ R, p.2.length < p.1.length) (hA : ∀ p ∈ R, Over A p.2) (h : ∀ w, Over A w → Ovl R w → ¬ Parted R w) : ∀ (n : Nat) (u : List α), u.length ≤ n → Over A u → ¬ Parted R u := by
  intro n
  induction n with
  | zero => exact fun u hu ou hp => h u ou (parted_ovl hs hA ou hp fun v hv _ => by omega) hp
  | succ n ih => exact fun u hu ou hp => h u ou (parted_ovl hs hA ou hp fun v hv ov => ih v (by omega) ov) hp
end
end KL
namespace KL
open PySem L2 NdefX Sc PySem.W
/-! deeds of a mender as steps; the ends of a text by a work list -/
def RL (ps : List Kd) : List (List Nat × List Nat) := ps.map fun p => (p.1.cps.toList, p.2.cps.toList)
def toS (u : List Nat) : Str := ⟨u.toArray⟩
theorem toS_list (u : List Nat) : (toS u).cps.toList = u := rfl
theorem toS_of (z : Str) : toS z.cps.toList = z := str_ext rfl
theorem stp_deed {ps : List Kd} {z : Str} {v : List Nat} : Stp (RL ps) z.cps.toList v ↔ ∃ d ∈ deedsOn ps z, v = (behindS z d).cps.toList := by
  constructor
  · rintro ⟨x, l, r, y, hm, e1, e2⟩
    obtain ⟨p, hp, e⟩ := List.mem_map.mp hm
    cases e
    refine ⟨(x.length, p), deeds_mem.mpr ⟨hp, ?_, ?_⟩, ?_⟩
    · show x.length ≤ z.length
      rw [len_cps, e1, List.length_append]
      omega
    · rw [occP_occ]
      show decide ((z.cps.toList.drop x.length).take p.1.length = p.1.cps.toList) = true
      rw [decide_eq_true_eq, e1, List.drop_left', len_cps, List.take_left']
      · rfl
      · rfl
    · rw [behind_cps, e1, e2]
      show _ = (x ++ (p.1.cps.toList ++ y)).take x.length ++ p.2.cps.toList ++ (x ++ (p.1.cps.toList ++ y)).drop (x.length + p.1.length)
      rw [List.take_left', len_cps, ← List.drop_drop, List.drop_left', List.drop_left']
      · simp
      · rfl
      · rfl
      · rfl
  · rintro ⟨⟨n, p⟩, hd, rfl⟩
    obtain ⟨hp, hn, ho⟩ := deeds_mem.mp hd
    rw [occP_occ] at ho
    have ho : (z.cps.toList.drop n).take p.1.length = p.1.cps.toList := of_decide_eq_true ho
    refine ⟨z.cps.toList.take n, p.1.cps.toList, p.2.cps.toList, z.cps.toList.drop (n + p.1.length), List.mem_map.mpr ⟨p, hp, rfl⟩, ?_, ?_⟩
    · rw [← ho, ← List.drop_drop, List.take_append_drop, List.take_append_drop]
    · rw [behind_cps, List.append_assoc]
theorem deeds_nil {ps : List Kd} {z : Str} : deedsOn ps z = [] ↔ Nrm (RL ps) z.cps.toList := by
  constructor
  · intro h v hv
    obtain ⟨d, hd, _⟩ := stp_deed.mp hv
    rw [h] at hd
    cases hd
  · intro h
    cases e : deedsOn ps z with
    | nil => rfl
    | cons d ds => exact (h _ (stp_deed.mpr ⟨d, by rw [e]; exact List.mem_cons_self, rfl⟩)).elim
/-- such a list tells the ends of z -/
structure GoodE (ps : List Kd) (z : Str) (L : List Str) : Prop where
  nd : L.Nodup
  mem : ∀ u : Str, u ∈ L ↔ EndOf (RL ps) z.cps.toList u.cps.toList
theorem RL_less {lz : Str} {ps : List Kd} (h : MenderOk lz ps) : ∀ p ∈ RL ps, p.2.length < p.1.length := fun p hp => by
  obtain ⟨q, hq, rfl⟩ := List.mem_map.mp hp
  have := h.less q hq
  rw [len_cps, len_cps] at this
  exact this
abbrev inLz (lz : Str) (c : Nat) : Prop := c ∈ lz.cps.toList
theorem RL_in {lz : Str} {ps : List Kd} (h : KindsOk lz ps) : ∀ p ∈ RL ps, Over (inLz lz) p.1 ∧ Over (inLz lz) p.2 := fun p hp => by
  obtain ⟨q, hq, rfl⟩ := List.mem_map.mp hp
  exact h.il hq
theorem RL_len {lz : Str} {ps : List Kd} (h : KindsOk lz ps) : ∀ p ∈ RL ps, p.1.length ≤ 3 := fun p hp => by
  obtain ⟨q, hq, rfl⟩ := List.mem_map.mp hp
  have := (h.each q hq).1
  rw [len_cps] at this
  exact this
theorem GoodE.parted {ps : List Kd} {z : Str} {L : List Str} (h : GoodE ps z L) : 1 < L.length ↔ Parted (RL ps) z.cps.toList := by
  constructor
  · intro hl
    match L, h, hl with
    | a :: b :: r, h, _ =>
      refine ⟨_, _, (h.mem a).mp (by simp), (h.mem b).mp (by simp), fun e => ?_⟩
      have := str_ext e
      have nd := h.nd
      rw [this] at nd
      simp at nd
  · rintro ⟨t, t', h1, h2, hne⟩
    have m1 := (h.mem (toS t)).mpr h1
    have m2 := (h.mem (toS t')).mpr h2
    have ne : toS t ≠ toS t' := fun e => hne (by rw [← toS_list t, e, toS_list])
    match L, m1, m2 with
    | [a], m1, m2 => exact absurd ((List.mem_singleton.mp m1).trans (List.mem_singleton.mp m2).symm) ne
    | a :: b :: r, _, _ => simp
theorem GoodE.ne {lz : Str} {ps : List Kd} {z : Str} {L : List Str} (hm : MenderOk lz ps) (h : GoodE ps z L) : L ≠ [] := fun e => by
  obtain ⟨t, ht⟩ := end_ex (RL_less hm) _ z.cps.toList (Nat.le_refl _)
  have := (h.mem (toS t)).mpr ht
  rw [e] at this
  cases this
/-! all texts of some letters -/
def allT (al : List Nat) : Nat → List (List Nat)
  | 0 => [[]]
  | n + 1 => [] :: al.flatMap fun c => (allT al n).map (c :: ·)
theorem allT_mem {al : List Nat} : ∀ {n : Nat} {u : List Nat}, u ∈ allT al n ↔ u.length ≤ n ∧ ∀ c ∈ u, c ∈ al
  | 0, u => by
    cases u <;> simp [allT]
  | n + 1, [] => by simp [allT]
  | n + 1, c :: u => by
    unfold allT
    rw [List.mem_cons, List.mem_flatMap]
    constructor
    · rintro (h | ⟨a, ha, h⟩)
      · cases h
      · obtain ⟨t, ht, e⟩ := List.mem_map.mp h
        cases e
        obtain ⟨h1, h2⟩ := allT_mem.mp ht
        refine ⟨by rw [List.length_cons]; omega, fun x hx => ?_⟩
        rcases List.mem_cons.mp hx with rfl | hx
        · exact ha
        · exact h2 x hx
    · rintro ⟨h1, h2⟩
      rw [List.length_cons] at h1
      exact .inr ⟨c, h2 c List.mem_cons_self, List.mem_map.mpr ⟨u, allT_mem.mpr ⟨by omega, fun x hx => h2 x (List.mem_cons_of_mem _ hx)⟩, rfl⟩⟩
def capT (k : Nat) : Nat → Nat
  | 0 => 1
  | n + 1 => 1 + k * capT k n
theorem allT_len {al : List Nat} {k : Nat} (h : al.length ≤ k) : ∀ n, (allT al n).length ≤ capT k n
  | 0 => Nat.le_refl _
  | n + 1 => by
    have ih := allT_len h n
    have key : ∀ bl : List Nat, (bl.flatMap fun c => (allT al n).map (c :: ·)).length = bl.length * (allT al n).length := by
      intro bl
      induction bl with
      | nil => simp
      | cons b bl ihb => rw [List.flatMap_cons, List.length_append, ihb, List.length_map, List.length_cons, Nat.add_mul, Nat.one_mul, Nat.add_comm]
    unfold allT capT
    rw [List.length_cons, key]
    have := Nat.mul_le_mul h ih
    omega
theorem nodup_sub_len {β : Type} [DecidableEq β] : ∀ {l m : List β}, l.Nodup → (∀ x ∈ l, x ∈ m) → l.length ≤ m.length
  | [], _, _, _ => Nat.zero_le _
  | x :: l, m, nd, h => by
    rw [List.nodup_cons] at nd
    have hx := h x List.mem_cons_self
    have q := nodup_sub_len (l := l) (m := m.erase x) nd.2 fun y hy => (List.mem_erase_of_ne (fun (e : y = x) => nd.1 (e ▸ hy))).mpr (h y (List.mem_cons_of_mem _ hy))
    rw [List.length_erase_of_mem hx] at q
    have : 0 < m.length := List.length_pos_of_mem hx
    rw [List.length_cons]
    omega
/-! the work list -/
def pushE (ps : List Kd) (one : Str) (s : List Str × List Str) : List Str × List Str := (deedsOn ps one).foldl (fun a d => addS a (behindS one d)) s
theorem pushE_eq (ps : List Kd) (one : Str) (s : List Str × List Str) : pushE ps one s = ((deedsOn ps one).map (behindS one)).foldl addS s := by
  unfold pushE
  rw [List.foldl_map]
def wlE (ps : List Kd) : Nat → List Str × List Str → List Str × List Str
  | 0, s => s
  | n + 1, s => match s.2.getLast? with
    | none => s
    | some one => wlE ps n (pushE ps one (s.1, s.2.dropLast))
def endsF (ps : List Kd) (z : Str) : List Str := (wlE ps 4000 ([z], [z])).1.filter fun t => decide (deedsOn ps t = [])
theorem addS_nd1 : ∀ (ts : List Str) (s : List Str × List Str), s.1.Nodup → (ts.foldl addS s).1.Nodup
  | [], s, h => h
  | t :: ts, s, h => by
    rw [List.foldl_cons]
    refine addS_nd1 ts _ ?_
    unfold addS
    split
    · exact h
    · exact insT_nodup h t
theorem addS_len2 : ∀ (ts : List Str) (s : List Str × List Str), (∀ t ∈ s.2, t ∈ s.1) → (∀ t ∈ (ts.foldl addS s).2, t ∈ (ts.foldl addS s).1) ∧ (ts.foldl addS s).2.length + s.1.length = (ts.foldl addS s).1.length + s.2.length ∧ s.1.length ≤ (ts.foldl addS s).1.length
  | [], s, h => ⟨h, by simp only [List.foldl_nil]; omega, Nat.le_refl _⟩
  | t :: ts, s, h => by
    rw [List.foldl_cons]
    by_cases ht : t ∈ s.1
    · have e : addS s t = s := by unfold addS; rw [if_pos ht]
      rw [e]
      exact addS_len2 ts s h
    · have e : addS s t = (s.1 ++ [t], s.2 ++ [t]) := by
        unfold addS
        rw [if_neg ht, insT_new ht, insT_new fun z => ht (h t z)]
      rw [e]
      obtain ⟨a, b, c⟩ := addS_len2 ts (s.1 ++ [t], s.2 ++ [t]) (fun y hy => by
        rcases List.mem_append.mp hy with hy | hy
        · exact List.mem_append_left _ (h y hy)
        · exact List.mem_append_right _ hy)
      simp only [List.length_append, List.length_singleton] at b c
      exact ⟨a, by omega, by omega⟩
structure EI (lz : Str) (ps : List Kd) (z : Str) (s : List Str × List Str) : Prop where
  nd1 : s.1.Nodup
  nd2 : s.2.Nodup
  sub : ∀ t ∈ s.2, t ∈ s.1
  has : z ∈ s.1
  rch : ∀ t ∈ s.1, Rch (RL ps) z.cps.toList t.cps.toList
  cls : ∀ t ∈ s.1, t ∉ s.2 → ∀ d ∈ deedsOn ps t, behindS t d ∈ s.1
theorem EI.start (lz : Str) (ps : List Kd) (z : Str) : EI lz ps z ([z], [z]) :=
  ⟨by simp, by simp, fun t h => h, by simp, fun t h => by rw [List.mem_singleton.mp h]; exact .refl _, fun t h n => absurd h n⟩
theorem EI.step {lz : Str} {ps : List Kd} {z : Str} {s : List Str × List Str} {one : Str} {init : List Str} (I : EI lz ps z s) (h : s.2 = init ++ [one]) : EI lz ps z (pushE ps one (s.1, init)) ∧ (pushE ps one (s.1, init)).2.length + s.1.length = (pushE ps one (s.1, init)).1.length + init.length ∧ s.1.length ≤ (pushE ps one (s.1, init)).1.length := by
  have nd2 := I.nd2
  rw [h, List.nodup_append] at nd2
  obtain ⟨n1, _, n3⟩ := nd2
  have hone : one ∈ s.1 := I.sub one (by rw [h]; simp)
  obtain ⟨a1, a2, a3⟩ := addS_all ((deedsOn ps one).map (behindS one)) (s.1, init) n1
  obtain ⟨b1, b2, b3⟩ := addS_len2 ((deedsOn ps one).map (behindS one)) (s.1, init) (fun t ht => I.sub t (by rw [h]; exact List.mem_append_left _ ht))
  have c1 := addS_nd1 ((deedsOn ps one).map (behindS one)) (s.1, init) I.nd1
  rw [← pushE_eq] at a1 a2 a3 b1 b2 b3 c1
  refine ⟨⟨c1, a3, b1, (a1 z).mpr (.inl I.has), fun t ht => ?_, fun t ht hn d hd => ?_⟩, b2, b3⟩
  · rcases (a1 t).mp ht with ht | ht
    · exact I.rch t ht
    · obtain ⟨d, hd, rfl⟩ := List.mem_map.mp ht
      exact (I.rch one hone).trans (.one (stp_deed.mpr ⟨d, hd, rfl⟩))
  · refine (a1 _).mpr ?_
    by_cases e : t = one
    · subst e
      exact .inr (List.mem_map.mpr ⟨d, hd, rfl⟩)
    · have ht1 : t ∈ s.1 := by
        rcases (a1 t).mp ht with ht | ht
        · exact ht
        · by_cases hs : t ∈ s.1
          · exact hs
          · exact absurd ((a2 t).mpr (.inr ⟨ht, hs⟩)) hn
      refine .inl (I.cls t ht1 (fun hm => ?_) d hd)
      rw [h] at hm
      rcases List.mem_append.mp hm with hm | hm
      · exact hn ((a2 t).mpr (.inl hm))
      · exact e (List.mem_singleton.mp hm)
theorem EI.few {lz : Str} {ps : List Kd} {z : Str} {s : List Str × List Str} (I : EI lz ps z s) (hm : MenderOk lz ps) (hz : InL lz z) (hl : lz.length ≤ 4) (h5 : z.length ≤ 5) : s.1.length ≤ 1365 := by
  have q : (s.1.map fun t => t.cps.toList).length ≤ (allT lz.cps.toList 5).length := by
    refine nodup_sub_len ?_ fun u hu => ?_
    · refine List.Pairwise.map _ (fun a b hab e => hab (str_ext e)) I.nd1
    · obtain ⟨t, ht, rfl⟩ := List.mem_map.mp hu
      have r := I.rch t ht
      refine allT_mem.mpr ⟨?_, r.over (fun p hp => (RL_in hm.k p hp).2) hz⟩
      have := r.le (RL_less hm)
      rw [len_cps] at h5
      omega
  rw [List.length_map] at q
  exact Nat.le_trans q (Nat.le_trans (allT_len (k := 4) (by rw [← len_cps]; exact hl) 5) (by decide))
theorem wlE_ok {lz : Str} {ps : List Kd} {z : Str} (hm : MenderOk lz ps) (hz : InL lz z) (hl : lz.length ≤ 4) (h5 : z.length ≤ 5) : ∀ (n : Nat) (s : List Str × List Str), EI lz ps z s → 2 * (1365 - s.1.length) + s.2.length ≤ n → EI lz ps z (wlE ps n s) ∧ (wlE ps n s).2 = [] := by
  intro n
  induction n with
  | zero =>
    intro s I hn
    exact ⟨I, List.length_eq_zero_iff.mp (by show s.2.length = 0; omega)⟩
  | succ n ih =>
    intro s I hn
    unfold wlE
    cases e : s.2.getLast? with
    | none => exact ⟨I, List.getLast?_eq_none_iff.mp e⟩
    | some one =>
      have e2 : s.2 = s.2.dropLast ++ [one] := by
        have hne : s.2 ≠ [] := fun z => by rw [z] at e; cases e
        have := List.dropLast_concat_getLast hne
        rw [List.getLast?_eq_some_getLast hne] at e
        rw [← Option.some.inj e]
        exact this.symm
      obtain ⟨J, l1, l2⟩ := I.step e2
      have f := J.few hm hz hl h5
      refine ih _ J ?_
      have h3 := congrArg List.length e2
      rw [List.length_append, List.length_singleton] at h3
      omega
theorem EI.all {lz : Str} {ps : List Kd} {z : Str} {s : List Str × List Str} (I : EI lz ps z s) (he : s.2 = []) : ∀ {u v : List Nat}, Rch (RL ps) u v → toS u ∈ s.1 → toS v ∈ s.1 := by
  intro u v r
  induction r with
  | refl u => exact id
  | step h _ ih =>
    intro hu
    refine ih ?_
    obtain ⟨d, hd, e⟩ := (stp_deed (z := toS _)).mp h
    rw [e, toS_of]
    exact I.cls _ hu (by rw [he]; simp) d hd
theorem endsF_good {lz : Str} {ps : List Kd} {z : Str} (hm : MenderOk lz ps) (hz : InL lz z) (hl : lz.length ≤ 4) (h5 : z.length ≤ 5) : GoodE ps z (endsF ps z) := by
  obtain ⟨I, he⟩ := wlE_ok hm hz hl h5 4000 _ (EI.start lz ps z) (by simp)
  refine ⟨I.nd1.filter _, fun u => ?_⟩
  unfold endsF
  rw [List.mem_filter, decide_eq_true_eq, deeds_nil]
  constructor
  · exact fun ⟨h1, h2⟩ => ⟨I.rch u h1, h2⟩
  · rintro ⟨h1, h2⟩
    refine ⟨?_, h2⟩
    have := I.all he h1 (by rw [toS_of]; exact I.has)
    rw [toS_of] at this
    exact this
end KL
namespace KL
open PySem L2 NdefX Sc PySem.W
variable {P : Program} {w : World} {K : PySem.W.Frag} {mg : Str → Option Value} {base : Heap} {Tb : List NTab}
abbrev etS (ps : List Kd) (z : Str) (s : List Str × List Str) : List Sl := [.d (kdsD ps), .d (.str z), .o (.dk (dkT s.1)), .o (.lst (s.2.map .str)), .no, .no, .no]
/-- what a mender and a text must be -/
structure EOk (lz : Str) (ps : List Kd) (z : Str) : Prop where
  m : MenderOk lz ps
  ok : Ok lz
  ll : lz.length ≤ 4
  il : InL lz z
  zl : z.length ≤ 5
theorem EI.il {lz : Str} {ps : List Kd} {z : Str} {s : List Str × List Str} (I : EI lz ps z s) (h : EOk lz ps z) : ∀ t ∈ s.1, InL lz t ∧ t.length ≤ 5 := fun t ht => by
  have r := I.rch t ht
  refine ⟨r.over (fun p hp => (RL_in h.m.k p hp).2) h.il, ?_⟩
  have := r.le (RL_less h.m)
  have h5 := h.zl
  rw [len_cps] at h5 ⊢
  omega
theorem addS_le : ∀ (ts : List Str) (s : List Str × List Str), (ts.foldl addS s).1.length ≤ s.1.length + ts.length
  | [], s => Nat.le_refl _
  | t :: ts, s => by
    rw [List.foldl_cons, List.length_cons]
    have h1 := addS_le ts (addS s t)
    have h2 := (addS_len (s := s) (t := t)).1
    omega
theorem d_ends_of_text (T : Tops K mg) : Def P w K mg base Tb 6 "ends_of_text" [] (Fn2 kdsD PyData.str (fun ps z => ∃ lz, EOk lz ps z) fun ps z => .r (.o (.lst ((endsF ps z).map .str)))) := by
  refine def_2 T.t_ends_of_text sc_ends_of_text rfl (fun _ _ _ _ _ _ us hl => match us, hl with | [_, _], _ => rfl) ?_
  intro fa cdv A outer sh H E C ps z ⟨lz, h⟩
  refine EA.end (f := true) ?_
  refine ea_cons (SV.eq (δ2 := etS ps z ([z], [z])) (sv_par2 (i := 2) (j := 3) C.calm C.nd rfl rfl (by decide) (ao_cons (ev_d1S (ev_var 1 rfl) ev_bl) (ao_cons (ev_lst1 (ev_var 1 rfl)) ao_nil)) rfl) rfl) ?_
  have I0 := EI.start lz ps z
  have hM : 2 * (1365 - ([z] : List Str).length) + ([z] : List Str).length ≤ 4000 := by simp
  have hE := wlE_ok h.m h.il h.ll h.zl 4000 _ I0 hM
  refine ea_cons (δ1 := etS ps z (wlE ps 4000 ([z], [z]))) (sv_while C ?_) ?_
  · clear hE
    have hM : 2 * (1365 - (([z], [z]) : List Str × List Str).1.length) + (([z], [z]) : List Str × List Str).2.length ≤ 4000 := hM
    generalize ([z], [z]) = s at I0 hM ⊢
    have I := I0
    have hn := hM
    clear I0 hM
    generalize 4000 = n at hn ⊢
    induction n generalizing s with
    | zero =>
      have e : s.2 = [] := List.length_eq_zero_iff.mp (by show s.2.length = 0; omega)
      show Whl _ _ _ _ _ (etS ps z s) (.nx (etS ps z s))
      obtain ⟨s1, s2⟩ := s
      have e : s2 = [] := e
      subst e
      refine Whl.done (TV.eq (tv_look (tv_neD (ev_var 3 rfl) ev_lstd0 C.u64 ?_ ?_)) rfl)
      · rfl
      · rfl
    | succ n ih =>
      unfold wlE
      cases e : s.2.getLast? with
      | none =>
        have e : s.2 = [] := List.getLast?_eq_none_iff.mp e
        obtain ⟨s1, s2⟩ := s
        have e : s2 = [] := e
        subst e
        refine Whl.done (TV.eq (tv_look (tv_neD (ev_var 3 rfl) ev_lstd0 C.u64 ?_ ?_)) rfl)
        · rfl
        · rfl
      | some one =>
        have e2 : s.2 = s.2.dropLast ++ [one] := by
          have hne : s.2 ≠ [] := fun z => by rw [z] at e; cases e
          have := List.dropLast_concat_getLast hne
          rw [List.getLast?_eq_some_getLast hne] at e
          rw [← Option.some.inj e]
          exact this.symm
        obtain ⟨J, l1, l2⟩ := I.step e2
        have f := J.few h.m h.il h.ll h.zl
        have il := I.il h
        have sub := I.sub
        have q := ih (s := _) J (by
          have h3 := congrArg List.length e2
          rw [List.length_append, List.length_singleton] at h3
          omega)
        obtain ⟨s1, s2⟩ := s
        simp only at e2 q J l1 l2 f il sub ⊢
        generalize s2.dropLast = init at e2 q J l1 l2 f
        subst e2
        have hone := il one (sub one (by simp))
        have hsh : ∀ t ∈ init ++ [one], Ok t := fun t ht => ok_sub h.ok (il t (sub t ht)).1
        refine Whl.nx (TV.eq (tv_look (tv_neD (ev_var 3 rfl) ev_lstd0 C.u64 ?_ ?_)) ?_) ?_ q
        · exact (shp_lst (n := 0) fun d hd => by obtain ⟨t, ht, rfl⟩ := List.mem_map.mp hd; exact shp_str (hsh t ht)).ok
        · rfl
        · rw [List.map_append]
          cases init <;> rfl
        · unfold etS
          rw [List.map_append, List.map_singleton]
          have hds : KindsShort ps := h.m.k.short
          refine svs_wipe (δ1 := [.d (kdsD ps), .d (.str z), .o (.dk (dkT (pushE ps one (s1, init)).1)), .o (.lst ((pushE ps one (s1, init)).2.map .str)), .d (.str one), .no, .no]) [4] (svs_cons (SV.eq (δ2 := [.d (kdsD ps), .d (.str z), .o (.dk (dkT s1)), .o (.lst (init.map .str)), .d (.str one), .no, .no]) (sv_let C 4 (ev_pop 3 rfl rfl)) rfl) (svs_one (sv_forF C (iv_list (ev_frz (ev_c2 (d_deeds_on T) (C.less (by decide)) (ev_var 0 rfl) (ev_var 4 rfl) ?_))) (lf_fold (st := fun a : List Str × List Str => [.d (kdsD ps), .d (.str z), .o (.dk (dkT a.1)), .o (.lst (a.2.map .str)), .d (.str one), .no, .no]) (step := fun a d => addS a (behindS one d)) (fun xs a => (∀ d ∈ xs, d ∈ deedsOn ps one) ∧ (∀ t ∈ a.2, t ∈ a.1) ∧ a.1.length + xs.length ≤ 5000 ∧ a.2.length + xs.length ≤ 5000) ?_ (deedsOn ps one) (s1, init) ⟨fun _ h => h, fun t ht => sub t (List.mem_append_left _ ht), ?_, ?_⟩))))
          · exact ⟨hds, by omega⟩
          · intro d ds a ⟨q1, q2, q3, q4⟩
            have hd := deed_short h.m.k (q1 d List.mem_cons_self)
            have b3 := addS_len (s := a) (t := behindS one d)
            rw [List.length_cons] at q3 q4
            refine ⟨⟨fun x hx => q1 x (List.mem_cons_of_mem _ hx), ?_, by omega, by omega⟩, _, (gw_name 5 C.nd).gv, ?_⟩
            · have := (addS_len2 [behindS one d] a q2).1
              exact this
            · refine svs_wipe (δ1 := [.d (kdsD ps), .d (.str z), .o (.dk (dkT (addS a (behindS one d)).1)), .o (.lst ((addS a (behindS one d)).2.map .str)), .d (.str one), .d (dd d), .d (.str (behindS one d))]) [5, 6] (svs_cons (SV.eq (δ2 := [.d (kdsD ps), .d (.str z), .o (.dk (dkT a.1)), .o (.lst (a.2.map .str)), .d (.str one), .d (dd d), .d (.str (behindS one d))]) (sv_let C 6 (ev_c2 (d_behind T) (C.less (by decide)) (ev_var 4 rfl) (ev_var 5 rfl) ?_)) rfl) (EP.svs (f := false) (ep_if (tv_ninKS C 2 rfl rfl (ev_var 6 rfl)) (fun h => eq_go (svs_cons (sv_putKS C 2 rfl rfl ev_bl (ev_var 6 rfl) ?_) (svs_one (sv_expr (ev_append 3 rfl rfl ⟨_, _, rfl, rfl⟩ (ev_var 6 rfl) ?_)))) (ep_nil ?_)) (fun h => eq_nil (ep_nil ?_)))))
              · exact ⟨by omega, by omega, by omega⟩
              · have : (dkT a.1).length = a.1.length := List.length_map _
                exact Nat.lt_of_le_of_lt (show (dkT a.1).length ≤ 5000 by omega) (by decide)
              · have : (a.2.map PyData.str).length = a.2.length := List.length_map _
                exact Nat.lt_of_le_of_lt (show (a.2.map PyData.str).length ≤ 5000 by omega) (by decide)
              · rw [dkT_val] at h
                have h' : behindS one d ∉ a.1 := fun hm => by rw [decide_eq_true hm] at h; cases h
                unfold addS
                rw [if_neg h', ← dkT_put, insT_new fun z => h' (q2 _ z), List.map_append]
                rfl
              · rw [dkT_val] at h
                have h' : behindS one d ∈ a.1 := by
                  by_cases hm : behindS one d ∈ a.1
                  · exact hm
                  · rw [decide_eq_false hm] at h; cases h
                unfold addS
                rw [if_pos h']
          · have q5 := deeds_len (ps := ps) (z := one)
            have q6 : ps.length * (one.length + 1) ≤ 12 * 6 := Nat.mul_le_mul h.m.k.few (by omega)
            show s1.length + _ ≤ 5000
            have := I.few h.m h.il h.ll h.zl
            have q7 : s1.length ≤ 1365 := this
            omega
          · have q5 := deeds_len (ps := ps) (z := one)
            have q6 : ps.length * (one.length + 1) ≤ 12 * 6 := Nat.mul_le_mul h.m.k.few (by omega)
            show init.length + _ ≤ 5000
            have q7 : s1.length ≤ 1365 := I.few h.m h.il h.ll h.zl
            have q8 : init.length ≤ s1.length := nodup_sub_len (by have := I.nd2; simp only at this; rw [List.nodup_append] at this; exact this.1) fun t ht => sub t (List.mem_append_left _ ht)
            omega
  obtain ⟨I, he⟩ := hE
  have il := I.il h
  have fw := I.few h.m h.il h.ll h.zl
  unfold endsF
  generalize wlE ps 4000 ([z], [z]) = s at I he il fw ⊢
  refine ea_retO (ev_lcK C [("one", 4)] 2 rfl rfl (fun od r => cq_mapF (en := PyData.str) (f := PyData.str) (c := fun t => decide (deedsOn ps t = [])) (dkT_keys s.1) (fun x hx s H C' cl fp => (gw_name 4 C.nd)) (fun x hx s H C' cl fp => tvs_one (TV.eq (tv_eqD (ev_frz (ev_c2 (d_deeds_on T) (C.less (by decide)) (ev_var 0 rfl) (ev_var 4 rfl) ?_)) ev_lstd0 C.u64 ?_ ?_) ?_)) (fun x hx hc s H C' cl fp => ev_var 4 rfl) rfl) ?_) ?_
  · exact ⟨h.m.k.short, by have := (il x hx).2; omega⟩
  · exact (shp_lst (n := 1) fun d hd => by obtain ⟨y, hy, rfl⟩ := List.mem_map.mp hd; exact shp_dd h.ok h.m.k (deeds_mem.mp hy).1).ok
  · rfl
  · cases deedsOn ps x <;> rfl
  · rw [List.length_map]
    exact line_of (Nat.le_trans (List.length_filter_le _ _) (by omega))
  · rfl
end KL
namespace KL
open PySem L2 NdefX Sc PySem.W
variable {P : Program} {w : World} {K : PySem.W.Frag} {mg : Str → Option Value} {base : Heap} {Tb : List NTab}
/-! the overlaps -/
abbrev ovC (one other : Str) (i : Nat) : Bool := decide (cutS one (some (((one.length : Nat) : Int) - (1 + (i : Nat)))) none = cutS other none (some (1 + (i : Nat))))
abbrev ovT (one other : Str) (i : Nat) : Str := one ++ cutS other (some (1 + (i : Nat))) none
def ovAdd (one other : Str) (acc : List Str) (i : Nat) : List Str := if ovC one other i = true then insT acc (ovT one other i) else acc
def ovPair (one : Str) (acc : List Str) (q : Kd) : List Str :=
  if hasS one q.1 = true then insT ((List.range (min one.length q.1.length)).foldl (ovAdd one q.1) acc) one else (List.range (min one.length q.1.length)).foldl (ovAdd one q.1) acc
def ovKind (ps : List Kd) (acc : List Str) (p : Kd) : List Str := ps.foldl (ovPair p.1) acc
def overR (ps : List Kd) : List Str := ps.foldl (ovKind ps) []
def overL (ps : List Kd) : List Str := sortT (overR ps)
theorem ovAdd_mem (one other : Str) : ∀ (xs : List Nat) (acc : List Str) (t : Str), t ∈ xs.foldl (ovAdd one other) acc ↔ t ∈ acc ∨ ∃ i ∈ xs, ovC one other i = true ∧ t = ovT one other i
  | [], acc, t => by simp
  | x :: xs, acc, t => by
    rw [List.foldl_cons, ovAdd_mem one other xs]
    unfold ovAdd
    by_cases h : ovC one other x = true
    · rw [if_pos h, insT_mem]
      simp only [List.mem_cons, exists_eq_or_imp, h, true_and]
      constructor
      · rintro ((h | h) | h)
        · exact .inl h
        · exact .inr (.inl h)
        · exact .inr (.inr h)
      · rintro (h | h | h)
        · exact .inl (.inl h)
        · exact .inl (.inr h)
        · exact .inr h
    · rw [if_neg h]
      simp only [List.mem_cons, exists_eq_or_imp, h, false_and, false_or]
      simp
theorem ovAdd_nd (one other : Str) : ∀ (xs : List Nat) (acc : List Str), acc.Nodup → (xs.foldl (ovAdd one other) acc).Nodup ∧ (xs.foldl (ovAdd one other) acc).length ≤ acc.length + xs.length
  | [], acc, h => ⟨h, Nat.le_refl _⟩
  | x :: xs, acc, h => by
    rw [List.foldl_cons, List.length_cons]
    have h1 : (ovAdd one other acc x).Nodup := by
      unfold ovAdd
      split
      · exact insT_nodup h _
      · exact h
    have h2 : (ovAdd one other acc x).length ≤ acc.length + 1 := by
      unfold ovAdd
      split
      · exact insT_len _ _
      · omega
    obtain ⟨a, b⟩ := ovAdd_nd one other xs _ h1
    exact ⟨a, by omega⟩
def ovIn (p q : Kd) (t : Str) : Prop := (∃ i < min p.1.length q.1.length, ovC p.1 q.1 i = true ∧ t = ovT p.1 q.1 i) ∨ (hasS p.1 q.1 = true ∧ t = p.1)
theorem ovPair_mem (p q : Kd) (acc : List Str) (t : Str) : t ∈ ovPair p.1 acc q ↔ t ∈ acc ∨ ovIn p q t := by
  unfold ovPair ovIn
  have e := ovAdd_mem p.1 q.1 (List.range (min p.1.length q.1.length)) acc t
  simp only [List.mem_range] at e
  by_cases h : hasS p.1 q.1 = true
  · rw [if_pos h, insT_mem, e]
    simp only [h, true_and, or_assoc]
  · rw [if_neg h, e]
    simp only [h, false_and, or_false]
    simp
theorem ovPair_nd (p q : Kd) (acc : List Str) (h : acc.Nodup) : (ovPair p.1 acc q).Nodup ∧ (ovPair p.1 acc q).length ≤ acc.length + p.1.length + 1 := by
  obtain ⟨a, b⟩ := ovAdd_nd p.1 q.1 (List.range (min p.1.length q.1.length)) acc h
  rw [List.length_range] at b
  have c := Nat.min_le_left p.1.length q.1.length
  unfold ovPair
  split
  · exact ⟨insT_nodup a _, Nat.le_trans (insT_len _ _) (by omega)⟩
  · exact ⟨a, by omega⟩
theorem fold_mem {β γ : Type} {f : List γ → β → List γ} {R : β → γ → Prop} (h : ∀ acc b t, t ∈ f acc b ↔ t ∈ acc ∨ R b t) : ∀ (xs : List β) (acc : List γ) (t : γ), t ∈ xs.foldl f acc ↔ t ∈ acc ∨ ∃ b ∈ xs, R b t
  | [], acc, t => by simp
  | x :: xs, acc, t => by
    rw [List.foldl_cons, fold_mem h xs, h]
    simp only [List.mem_cons, exists_eq_or_imp, or_assoc]
theorem fold_nd {β γ : Type} {f : List γ → β → List γ} {n : Nat} : ∀ (xs : List β) (acc : List γ), (∀ acc, ∀ b ∈ xs, acc.Nodup → (f acc b).Nodup ∧ (f acc b).length ≤ acc.length + n) → acc.Nodup → (xs.foldl f acc).Nodup ∧ (xs.foldl f acc).length ≤ acc.length + xs.length * n
  | [], acc, h, ha => ⟨ha, by simp⟩
  | x :: xs, acc, h, ha => by
    obtain ⟨a, b⟩ := h acc x List.mem_cons_self ha
    obtain ⟨c, d⟩ := fold_nd xs (f acc x) (fun acc b hb => h acc b (List.mem_cons_of_mem _ hb)) a
    rw [List.foldl_cons, List.length_cons, Nat.add_mul, Nat.one_mul]
    exact ⟨c, by omega⟩
theorem ovKind_mem (ps : List Kd) (acc : List Str) (p : Kd) (t : Str) : t ∈ ovKind ps acc p ↔ t ∈ acc ∨ ∃ q ∈ ps, ovIn p q t := fold_mem (fun acc q t => ovPair_mem p q acc t) ps acc t
theorem overR_mem {ps : List Kd} {t : Str} : t ∈ overR ps ↔ ∃ p ∈ ps, ∃ q ∈ ps, ovIn p q t := by
  have q := fold_mem (f := ovKind ps) (fun acc p t => ovKind_mem ps acc p t) ps [] t
  unfold overR
  rw [q]
  simp only [List.not_mem_nil, false_or]
theorem ovKind_nd {lz : Str} {ps qs : List Kd} (hk : KindsOk lz ps) (hq : qs.length ≤ 12) {p : Kd} (hp : p ∈ ps) (acc : List Str) (h : acc.Nodup) : (ovKind qs acc p).Nodup ∧ (ovKind qs acc p).length ≤ acc.length + 48 := by
  obtain ⟨a, b⟩ := fold_nd (n := 4) qs acc (fun acc q _ ha => by
    obtain ⟨a, b⟩ := ovPair_nd p q acc ha
    have := (hk.each p hp).1
    exact ⟨a, by omega⟩) h
  refine ⟨a, ?_⟩
  have b' : (ovKind qs acc p).length ≤ acc.length + qs.length * 4 := b
  omega
theorem overR_nd {lz : Str} {ps : List Kd} (hk : KindsOk lz ps) : (overR ps).Nodup ∧ (overR ps).length ≤ 12 * 48 := by
  obtain ⟨a, b⟩ := fold_nd (n := 48) ps [] (fun acc p hp ha => ovKind_nd hk hk.few hp acc ha) (by simp)
  refine ⟨a, ?_⟩
  have b' : (overR ps).length ≤ ([] : List Str).length + ps.length * 48 := b
  have := hk.few
  rw [List.length_nil] at b'
  omega
theorem ovIn_iff {p q : Kd} {t : Str} : ovIn p q t ↔ (∃ a s b : List Nat, s ≠ [] ∧ p.1.cps.toList = a ++ s ∧ q.1.cps.toList = s ++ b ∧ t.cps.toList = a ++ (s ++ b)) ∨ ∃ a b, p.1.cps.toList = a ++ (q.1.cps.toList ++ b) ∧ t.cps.toList = p.1.cps.toList := by
  have lp := len_cps p.1
  have lq := len_cps q.1
  have c1 : ∀ i < min p.1.length q.1.length, (ovC p.1 q.1 i = true ↔ p.1.cps.toList.drop (p.1.length - (1 + i)) = q.1.cps.toList.take (1 + i)) ∧ (ovT p.1 q.1 i).cps.toList = p.1.cps.toList ++ q.1.cps.toList.drop (1 + i) := fun i hi => by
    have e1 : (((p.1.length : Nat) : Int) - (1 + (i : Nat))) = ((p.1.length - (1 + i) : Nat) : Int) := by omega
    have e2 : ((1 : Int) + (i : Nat)) = ((1 + i : Nat) : Int) := by omega
    unfold ovC ovT
    rw [e1, e2, decide_eq_true_eq]
    refine ⟨⟨fun h => ?_, fun h => str_ext ?_⟩, ?_⟩
    · rw [← cut_from p.1, ← cut_to q.1, h]
    · rw [cut_from, cut_to]
      exact h
    · rw [app_cps, cut_from]
  unfold ovIn
  constructor
  · rintro (⟨i, hi, h1, h2⟩ | ⟨h1, h2⟩)
    · obtain ⟨c2, c3⟩ := c1 i hi
      have h3 := c2.mp h1
      refine .inl ⟨p.1.cps.toList.take (p.1.length - (1 + i)), q.1.cps.toList.take (1 + i), q.1.cps.toList.drop (1 + i), fun e => ?_, ?_, ?_, ?_⟩
      · have := congrArg List.length e
        rw [List.length_take, ← lq] at this
        simp at this
        omega
      · rw [← h3, List.take_append_drop]
      · rw [List.take_append_drop]
      · rw [h2, c3, ← List.append_assoc, ← h3, List.take_append_drop]
    · refine .inr ?_
      obtain ⟨a, b, e⟩ := hasS_iff.mp h1
      exact ⟨a, b, e, by rw [h2]⟩
  · rintro (⟨a, s, b, hs, e1, e2, e3⟩ | ⟨a, b, e1, e2⟩)
    · have hl : 0 < s.length := List.length_pos_iff.mpr hs
      have f1 := congrArg List.length e1
      have f2 := congrArg List.length e2
      rw [List.length_append, ← lp] at f1
      rw [List.length_append, ← lq] at f2
      have hi : s.length - 1 < min p.1.length q.1.length := by omega
      obtain ⟨c2, c3⟩ := c1 _ hi
      rw [show 1 + (s.length - 1) = s.length by omega] at c2 c3
      refine .inl ⟨s.length - 1, hi, c2.mpr ?_, str_ext ?_⟩
      · rw [e1, e2, show p.1.length - s.length = a.length by omega, List.drop_left', List.take_left']
        · rfl
        · rfl
      · rw [c3, e3, e1, e2, List.drop_left', List.append_assoc]
        rfl
    · exact .inr ⟨hasS_iff.mpr ⟨a, b, e1⟩, str_ext e2⟩
theorem overL_mem {ps : List Kd} {t : Str} : t ∈ overL ps ↔ Ovl (RL ps) t.cps.toList := by
  unfold overL
  rw [sortT_mem, overR_mem]
  constructor
  · rintro ⟨p, hp, q, hq, h⟩
    exact ⟨_, List.mem_map.mpr ⟨p, hp, rfl⟩, _, List.mem_map.mpr ⟨q, hq, rfl⟩, ovIn_iff.mp h⟩
  · rintro ⟨p', hp, q', hq, h⟩
    obtain ⟨p, hp2, rfl⟩ := List.mem_map.mp hp
    obtain ⟨q, hq2, rfl⟩ := List.mem_map.mp hq
    exact ⟨p, hp2, q, hq2, ovIn_iff.mpr h⟩
/-- what the mender must be -/
structure MdOk (lz : Str) (ps : List Kd) : Prop where
  m : MenderOk lz ps
  ok : Ok lz
  ll : lz.length ≤ 4
theorem MdOk.e {lz : Str} {ps : List Kd} (h : MdOk lz ps) {t : Str} (ht : t ∈ overL ps) : EOk lz ps t := by
  have o := overL_mem.mp ht
  refine ⟨h.m, h.ok, h.ll, o.over fun p hp => (RL_in h.m.k p hp).1, ?_⟩
  have := o.len (n := 3) (RL_len h.m.k)
  rw [len_cps]
  omega
abbrev ovS (ps : List Kd) (acc : List Str) (a b c d e : Sl) : List Sl := [.d (kdsD ps), .o (.dk (dkT acc)), a, b, c, d, e]
theorem d_overlaps (T : Tops K mg) : Def P w K mg base Tb 5 "overlaps" [] (Fn1 kdsD (fun ps => ∃ lz, MdOk lz ps) fun ps => .r (.o (.lst ((overL ps).map .str)))) := by
  refine def_1 T.t_overlaps sc_overlaps rfl (fun _ _ _ _ _ _ us hl => match us, hl with | [_], _ => rfl) ?_
  intro fa cdv A outer sh H E C ps ⟨lz, h⟩
  refine EA.end (f := true) ?_
  have few := h.m.k.few
  have each := h.m.k.each
  refine ea_cons (SV.eq (δ2 := ovS ps [] .no .no .no .no .no) (sv_let C 1 ev_dnil) rfl) (ea_cons (sv_forF C (iv_tup (ev_var 0 rfl)) (lf_fold (st := fun acc => ovS ps acc .no .no .no .no .no) (step := ovKind ps) (fun xs acc => (∀ p ∈ xs, p ∈ ps) ∧ acc.Nodup ∧ acc.length + xs.length * 48 ≤ 1000) ?_ ps [] ⟨fun _ h => h, by simp, ?_⟩)) ?_)
  · intro p xs acc ⟨q1, q2, q3⟩
    have hp := q1 p List.mem_cons_self
    obtain ⟨k1, k2⟩ := ovKind_nd h.m.k few hp acc q2
    rw [List.length_cons, Nat.add_mul, Nat.one_mul] at q3
    refine ⟨⟨fun x hx => q1 x (List.mem_cons_of_mem _ hx), k1, by omega⟩, _, (gw_tup (vs := [2, 3]) C.calm (gws_cons (gw_name 2 C.nd) (gws_cons (gw_name 3 C.nd) gws_nil))).gv, ?_⟩
    have hp3 := each p hp
    refine svs_wipe (δ1 := ovS ps (ovKind ps acc p) (.d (.str p.1)) (.d (.str p.2)) .no .no .no) [2, 3] (svs_one (sv_forF C (iv_tup (ev_var 0 rfl)) (lf_fold (st := fun acc => ovS ps acc (.d (.str p.1)) (.d (.str p.2)) .no .no .no) (step := ovPair p.1) (fun xs acc => (∀ p ∈ xs, p ∈ ps) ∧ acc.Nodup ∧ acc.length + xs.length * 4 ≤ 1000) ?_ ps acc ⟨fun _ h => h, q2, by omega⟩)))
    intro q ys acc ⟨r1, r2, r3⟩
    have hq := r1 q List.mem_cons_self
    have hq3 := each q hq
    obtain ⟨k3, k4⟩ := ovPair_nd p q acc r2
    rw [List.length_cons, Nat.add_mul, Nat.one_mul] at r3
    refine ⟨⟨fun x hx => r1 x (List.mem_cons_of_mem _ hx), k3, by omega⟩, _, (gw_tup (vs := [4, 5]) C.calm (gws_cons (gw_name 4 C.nd) (gws_cons (gw_name 5 C.nd) gws_nil))).gv, ?_⟩
    generalize hb : (List.range (min p.1.length q.1.length)).foldl (ovAdd p.1 q.1) acc = acc2
    have hb2 : acc2.length ≤ acc.length + 3 := by
      have := (ovAdd_nd p.1 q.1 (List.range (min p.1.length q.1.length)) acc r2).2
      rw [hb, List.length_range] at this
      have := Nat.min_le_left p.1.length q.1.length
      omega
    have hmin : (min ((p.1.length : Nat) : Int) ((q.1.length : Nat) : Int) + 1 - 1).toNat = min p.1.length q.1.length := by omega
    refine svs_wipe (δ1 := ovS ps (ovPair p.1 acc q) (.d (.str p.1)) (.d (.str p.2)) (.d (.str q.1)) (.d (.str q.2)) .no) [4, 5] (svs_cons (δ1 := ovS ps acc2 (.d (.str p.1)) (.d (.str p.2)) (.d (.str q.1)) (.d (.str q.2)) .no) (SV.eq (sv_forF C (IV.eq (iv_range2 T.bi ev_int (ev_add (ev_min2 T.bi C.calm (ev_lenS T.bi (ev_var 2 rfl) ?_) (ev_lenS T.bi (ev_var 4 rfl) ?_)) ev_int) ?_ ?_ ?_ ?_) (by rw [hmin]; rfl)) (lf_fold (en := fun i : Nat => PyData.int (1 + (i : Nat))) (st := fun acc => ovS ps acc (.d (.str p.1)) (.d (.str p.2)) (.d (.str q.1)) (.d (.str q.2)) .no) (step := ovAdd p.1 q.1) (fun xs acc => acc.length + xs.length ≤ 2000) ?_ (List.range (min p.1.length q.1.length)) acc ?_)) (by rw [hb])) (EP.svs (f := false) (ep_if (tv_inSS (ev_var 4 rfl) (ev_var 2 rfl)) (fun hh => eq_go (svs_one (sv_putKS C 1 rfl rfl ev_bl (ev_var 2 rfl) ?_)) (ep_nil ?_)) (fun hh => eq_nil (ep_nil ?_)))))
    · exact line_of (by omega)
    · exact line_of (by omega)
    · decide
    · decide
    · omega
    · omega
    · intro i is acc q5
      rw [List.length_cons] at q5
      have k5 : (ovAdd p.1 q.1 acc i).length ≤ acc.length + 1 := by
        unfold ovAdd
        split
        · exact insT_len _ _
        · omega
      refine ⟨by omega, _, (gw_name 6 C.nd).gv, ?_⟩
      refine svs_wipe (δ1 := ovS ps (ovAdd p.1 q.1 acc i) (.d (.str p.1)) (.d (.str p.2)) (.d (.str q.1)) (.d (.str q.2)) (.d (.int (1 + (i : Nat))))) [6] (EP.svs (f := false) (ep_if (tv_eqS (ev_slS (ev_var 2 rfl) (.some (ev_sub (ev_lenS T.bi (ev_var 2 rfl) ?_) (ev_var 6 rfl))) .none ?_) (ev_slS (ev_var 4 rfl) .none (.some (ev_var 6 rfl)) ?_)) (fun hh => eq_go (svs_one (sv_putKS C 1 rfl rfl ev_bl (ev_addS (ev_var 2 rfl) (ev_slS (ev_var 4 rfl) (.some (ev_var 6 rfl)) .none ?_) ?_) ?_)) (ep_nil ?_)) (fun hh => eq_nil (ep_nil ?_))))
      · exact line_of (by omega)
      · exact line_of (by omega)
      · exact line_of (by omega)
      · exact line_of (by omega)
      · have e : ((1 : Int) + (i : Nat)) = ((1 + i : Nat) : Int) := by omega
        have e2 : (cutS q.1 (some (1 + (i : Nat))) none).length ≤ q.1.length := by
          rw [e, len_cps, cut_from, len_cps q.1, List.length_drop]
          omega
        exact line_of (by omega)
      · have : (dkT acc).length = acc.length := List.length_map _
        exact Nat.lt_of_le_of_lt (show (dkT acc).length ≤ 5000 by omega) (by decide)
      · unfold ovAdd
        rw [if_pos hh, dkT_put]
        rfl
      · unfold ovAdd
        rw [if_neg (fun z : ovC p.1 q.1 i = true => by rw [show ovC p.1 q.1 i = false from hh] at z; cases z)]
        rfl
    · rw [List.length_range]
      have := Nat.min_le_left p.1.length q.1.length
      omega
    · have : (dkT acc2).length = acc2.length := List.length_map _
      exact Nat.lt_of_le_of_lt (show (dkT acc2).length ≤ 5000 by omega) (by decide)
    · unfold ovPair
      rw [if_pos hh, hb, dkT_put]
      rfl
    · unfold ovPair
      rw [if_neg (by rw [hh]; exact Bool.false_ne_true), hb]
  · rw [List.length_nil]
    omega
  · show EA _ Tb _ true _ (ovS ps (overR ps) .no .no .no .no .no) _
    have hr := (overR_nd h.m.k).2
    refine ea_retO (d := sortD kLen (keysD (dkT (overR ps)))) (ev_sortKK C T.bi (d_by_length T) (by decide) 1 rfl rfl ?_ ?_ ?_ ?_) ?_
    · intro d hd
      rw [dkT_keys] at hd
      obtain ⟨y, hy, rfl⟩ := List.mem_map.mp hd
      have := (h.e (sortT_mem.mpr hy)).zl
      exact ⟨⟨y, rfl, by omega⟩, rfl⟩
    · rw [dkT_keys]
      exact (key_ends _).1
    · rw [dkT_keys]
      exact (key_ends _).2
    · intro d hd
      rw [dkT_keys] at hd
      obtain ⟨y, hy, rfl⟩ := List.mem_map.mp hd
      simp [kLen, PyData.depth, PyData.depthAll]
    · rw [dkT_keys]
      exact sortT_data _
/-- the least parted overlap -/
def partT (ps : List Kd) : Option Str := (overL ps).find? fun t => decide (1 < (endsF ps t).length)
theorem d_parted_text (T : Tops K mg) : Def P w K mg base Tb 7 "parted_text" [] (Fn1 kdsD (fun ps => ∃ lz, MdOk lz ps) fun ps => .r (.d (ansT (partT ps)))) := by
  refine def_1 T.t_parted_text sc_parted_text rfl (fun _ _ _ _ _ _ us hl => match us, hl with | [_], _ => rfl) ?_
  intro fa cdv A outer sh H E C ps ⟨lz, h⟩
  refine EA.end (f := true) ?_
  refine ea_scan (xs := overL ps) (en := PyData.str) (p := fun t => decide (1 < (endsF ps t).length)) (δ := [.d (kdsD ps), .no]) (ret := fun z => .d (.str z)) C (iv_list (ev_frz (ev_c1 (d_overlaps T) (C.less (by decide)) (ev_var 0 rfl) ?_))) (fun z hz => ?_) (fun hn => ?_) (fun z hz => ?_)
  · exact ⟨lz, h⟩
  · have e : decide (((1 : Nat) : Int) < (((endsF ps z).map PyData.str).length : Nat)) = decide (1 < (endsF ps z).length) := by
      rw [List.length_map]
      exact decide_eq_decide.mpr (by omega)
    refine ⟨_, (gw_name 1 C.nd).gv, fun hp => ?_, fun hp => ?_⟩
    · refine svs_wipe (δ1 := [.d (kdsD ps), .d (.str z)]) [1] (svs_one (sv_if (t := false) (TV.eq (tv_gtI (ev_lenL T.bi (ev_frz (ev_c2 (d_ends_of_text T) (C.less (by decide)) (ev_var 0 rfl) (ev_var 1 rfl) ?_))) ev_int) (e.trans hp)) (fun h => nomatch h) (fun _ => svs_nil)))
      exact ⟨lz, h.e hz⟩
    · refine ⟨_, svs_one (sv_if (t := true) (TV.eq (tv_gtI (ev_lenL T.bi (ev_frz (ev_c2 (d_ends_of_text T) (C.less (by decide)) (ev_var 0 rfl) (ev_var 1 rfl) ?_))) ev_int) (e.trans hp)) (fun _ => svs_stop (sv_ret (ev_var 1 rfl))) (fun h => nomatch h))⟩
      exact ⟨lz, h.e hz⟩
  · refine ea_retD ev_non ?_
    unfold partT
    rw [hn]
    rfl
  · unfold partT
    rw [hz]
    rfl
theorem d_is_one_way (T : Tops K mg) : Def P w K mg base Tb 8 "is_one_way" [] (Fn2 PyData.str kdsD (fun lz ps => MdOk lz ps ∧ lettersS lz = true) fun _ ps => .r (.d (.bool (partT ps).isNone))) := by
  refine def_2 T.t_is_one_way sc_is_one_way rfl (fun _ _ _ _ _ _ us hl => match us, hl with | [_, _], _ => rfl) ?_
  intro fa cdv A outer s H E C lz ps ⟨h, hl⟩
  refine EA.end (f := true) (ea_cons (sv_expr (ev_r1 (d_need_letters T) (C.less (by decide)) (ev_var 0 rfl) ⟨lz, rfl, hl, Nat.le_trans h.ll (by decide)⟩)) (ea_cons (sv_expr (ev_r2 (d_need_mender T) (C.less (by decide)) (ev_var 0 rfl) (ev_var 1 rfl) ⟨lz, ps, rfl, h.m⟩)) (ea_retB (ev_isN (ev_c1 (d_parted_text T) (C.less (by decide)) (ev_var 1 rfl) ⟨lz, h⟩) ev_non) ?_)))
  cases partT ps <;> rfl
theorem d_overlap (T : Tops K mg) : Def P w K mg base Tb 8 "overlap" [] (Fn2 PyData.str kdsD (fun lz ps => MdOk lz ps ∧ lettersS lz = true) fun _ ps => .r (.d (ansT (partT ps)))) := by
  refine def_2 T.t_overlap sc_overlap rfl (fun _ _ _ _ _ _ us hl => match us, hl with | [_, _], _ => rfl) ?_
  intro fa cdv A outer s H E C lz ps ⟨h, hl⟩
  exact EA.end (f := true) (ea_cons (sv_expr (ev_r1 (d_need_letters T) (C.less (by decide)) (ev_var 0 rfl) ⟨lz, rfl, hl, Nat.le_trans h.ll (by decide)⟩)) (ea_cons (sv_expr (ev_r2 (d_need_mender T) (C.less (by decide)) (ev_var 0 rfl) (ev_var 1 rfl) ⟨lz, ps, rfl, h.m⟩)) (ea_ret (ev_c1 (d_parted_text T) (C.less (by decide)) (ev_var 1 rfl) ⟨lz, h⟩))))
end KL
namespace KL
open PySem L2 NdefX Sc PySem.W
/-! the law's ends of a text, known ones kept -/
abbrev Kn : Type := List (Str × List Str)
def dkK (kn : Kn) : List (Key × PyData) := kn.map fun e => (tK e.1, .list (e.2.map .str))
def lookK (kn : Kn) (z : Str) : Option (List Str) := (kn.find? fun e => decide (e.1 = z)).map (·.2)
def putN (kn : Kn) (z : Str) (l : List Str) : Kn := if (kn.any fun e => decide (e.1 = z)) = true then kn.map (fun e => if e.1 = z then (e.1, l) else e) else kn ++ [(z, l)]
theorem tK_inj {a b : Str} : (tK a = tK b) ↔ a = b := ⟨fun e => Sum.inr.inj e, fun e => by rw [e]⟩
theorem dkK_val (kn : Kn) (z : Str) : valD (dkK kn) (tK z) = (lookK kn z).map fun l => .list (l.map .str) := by
  unfold valD dkK lookK
  rw [List.find?_map, Option.map_map, Option.map_map]
  have : ((fun kv : Key × PyData => decide (kv.1 = tK z)) ∘ fun e : Str × List Str => (tK e.1, PyData.list (e.2.map .str))) = fun e => decide (e.1 = z) := by
    funext e
    show decide (tK e.1 = tK z) = _
    rw [decide_eq_decide]
    exact tK_inj
  rw [this]
  rfl
theorem dkK_put (kn : Kn) (z : Str) (l : List Str) : putD (dkK kn) (tK z) (.list (l.map .str)) = dkK (putN kn z l) := by
  have h : ((dkK kn).any fun kv => decide (kv.1 = tK z)) = kn.any fun e => decide (e.1 = z) := by
    unfold dkK
    rw [List.any_map]
    congr 1
    funext e
    show decide (tK e.1 = tK z) = _
    rw [decide_eq_decide]
    exact tK_inj
  unfold putD putN
  rw [h]
  split
  · unfold dkK
    rw [List.map_map, List.map_map]
    refine List.map_congr_left fun e _ => ?_
    show (if tK e.1 = tK z then _ else _) = _
    by_cases he : e.1 = z
    · rw [if_pos (tK_inj.mpr he)]
      show _ = (tK (if e.1 = z then (e.1, l) else e).1, PyData.list ((if e.1 = z then (e.1, l) else e).2.map .str))
      rw [if_pos he]
    · rw [if_neg (fun q => he (tK_inj.mp q))]
      show _ = (tK (if e.1 = z then (e.1, l) else e).1, PyData.list ((if e.1 = z then (e.1, l) else e).2.map .str))
      rw [if_neg he]
  · unfold dkK
    rw [List.map_append]
    rfl
def sortS (ts : List Str) : List Str := ts.mergeSort (dataLe false PyData.str)
theorem sortS_data (ts : List Str) : sortD id (ts.map .str) = (sortS ts).map .str := (sort_maps PyData.str fun _ _ _ _ => rfl).symm
theorem sortS_perm (ts : List Str) : (sortS ts).Perm ts := List.mergeSort_perm _ _
def endsK (ps : List Kd) : Nat → Str → Kn → List Str × Kn
  | 0, _, kn => ([], kn)
  | n + 1, z, kn => match lookK kn z with
    | some l => (l, kn)
    | none =>
      let s := (lawDeeds ps z).foldl (fun (a : List Str × Kn) d => ((endsK ps n (behindS z d) a.2).1.foldl insT a.1, (endsK ps n (behindS z d) a.2).2)) ([], kn)
      let r := if s.1 = [] then [z] else sortS s.1
      (r, putN s.2 z r)
/-- what is known is true -/
structure KnOk (lz : Str) (ps : List Kd) (kn : Kn) : Prop where
  nd : (kn.map (·.1)).Nodup
  ok : ∀ e ∈ kn, GoodE ps e.1 e.2 ∧ InL lz e.1 ∧ e.1.length ≤ 7
theorem KnOk.few {lz : Str} {ps : List Kd} {kn : Kn} (h : KnOk lz ps kn) (hl : lz.length ≤ 4) : kn.length ≤ 21845 := by
  have q : ((kn.map (·.1)).map fun t => t.cps.toList).length ≤ (allT lz.cps.toList 7).length := by
    refine nodup_sub_len (List.Pairwise.map _ (fun a b hab e => hab (str_ext e)) h.nd) fun u hu => ?_
    obtain ⟨t, ht, rfl⟩ := List.mem_map.mp hu
    obtain ⟨e, he, rfl⟩ := List.mem_map.mp ht
    obtain ⟨_, h2, h3⟩ := h.ok e he
    exact allT_mem.mpr ⟨by rw [← len_cps]; exact h3, h2⟩
  rw [List.length_map, List.length_map] at q
  exact Nat.le_trans q (Nat.le_trans (allT_len (k := 4) (by rw [← len_cps]; exact hl) 7) (by decide))
theorem lookK_mem {kn : Kn} {z : Str} {l : List Str} (h : lookK kn z = some l) : (z, l) ∈ kn := by
  unfold lookK at h
  cases e : kn.find? fun e => decide (e.1 = z) with
  | none => rw [e] at h; cases h
  | some x =>
    rw [e] at h
    cases h
    have h1 := List.find?_some e
    have h2 := List.mem_of_find?_eq_some e
    have h3 : x.1 = z := of_decide_eq_true h1
    rw [← h3]
    exact h2
theorem KnOk.put {lz : Str} {ps : List Kd} {kn : Kn} (h : KnOk lz ps kn) {z : Str} {l : List Str} (g : GoodE ps z l) (hz : InL lz z) (h7 : z.length ≤ 7) : KnOk lz ps (putN kn z l) := by
  unfold putN
  split
  · refine ⟨?_, fun e he => ?_⟩
    · rw [List.map_map]
      have : ((fun e : Str × List Str => e.1) ∘ fun e : Str × List Str => if e.1 = z then (e.1, l) else e) = fun e => e.1 := by
        funext e
        show (if e.1 = z then (e.1, l) else e).1 = e.1
        split <;> rfl
      rw [this]
      exact h.nd
    · obtain ⟨x, hx, rfl⟩ := List.mem_map.mp he
      split
      · rename_i hxz
        show GoodE ps x.1 l ∧ _
        rw [hxz]
        exact ⟨g, hz, h7⟩
      · exact h.ok x hx
  · rename_i hn
    refine ⟨?_, fun e he => ?_⟩
    · rw [List.map_append, List.nodup_append]
      refine ⟨h.nd, by simp, fun a ha b hb e => ?_⟩
      have hb : b = z := List.mem_singleton.mp hb
      obtain ⟨x, hx, hxa⟩ := List.mem_map.mp ha
      refine hn (List.any_eq_true.mpr ⟨x, hx, decide_eq_true ?_⟩)
      rw [hxa, e, hb]
    · rcases List.mem_append.mp he with he | he
      · exact h.ok e he
      · rw [List.mem_singleton.mp he]
        exact ⟨g, hz, h7⟩
theorem insT_fold : ∀ (ts acc : List Str), acc.Nodup → (ts.foldl insT acc).Nodup ∧ ∀ t, t ∈ ts.foldl insT acc ↔ t ∈ acc ∨ t ∈ ts
  | [], acc, h => ⟨h, fun t => by simp⟩
  | x :: ts, acc, h => by
    obtain ⟨a, b⟩ := insT_fold ts (insT acc x) (insT_nodup h x)
    rw [List.foldl_cons]
    refine ⟨a, fun t => ?_⟩
    rw [b, insT_mem, List.mem_cons, or_assoc]
theorem law_deeds_mem {lz : Str} {ps : List Kd} (hk : KindsOk lz ps) {z : Str} {d : Dd} : d ∈ lawDeeds ps z ↔ d ∈ deedsOn ps z := by
  unfold lawDeeds
  rw [List.mem_flatMap, deeds_mem]
  unfold placed
  constructor
  · rintro ⟨p, hp, h⟩
    obtain ⟨k, hk2, rfl⟩ := List.mem_map.mp h
    obtain ⟨h1, h2⟩ := atPlace_mem.mp hk2
    refine ⟨h1, ?_, by rw [occP_occ]; exact h2⟩
    have := List.mem_range.mp hp
    show p ≤ _
    omega
  · rintro ⟨h1, h2, h3⟩
    rw [occP_occ] at h3
    exact ⟨d.1, List.mem_range.mpr (by omega), List.mem_map.mpr ⟨d.2, atPlace_mem.mpr ⟨h1, h3⟩, rfl⟩⟩
theorem end_step {ps : List Kd} {z u : Str} {d : Dd} (hd : d ∈ deedsOn ps z) : EndOf (RL ps) (behindS z d).cps.toList u.cps.toList → EndOf (RL ps) z.cps.toList u.cps.toList := fun h => h.back (.one (stp_deed.mpr ⟨d, hd, rfl⟩))
theorem end_some {ps : List Kd} {z u : Str} (hne : deedsOn ps z ≠ []) (h : EndOf (RL ps) z.cps.toList u.cps.toList) : ∃ d ∈ deedsOn ps z, EndOf (RL ps) (behindS z d).cps.toList u.cps.toList := by
  obtain ⟨r, n⟩ := h
  have key : ∀ {x y : List Nat}, Rch (RL ps) x y → x = z.cps.toList → y = u.cps.toList → ∃ d ∈ deedsOn ps z, EndOf (RL ps) (behindS z d).cps.toList u.cps.toList := by
    intro x y r
    cases r with
    | refl _ =>
      intro e1 e2
      have : z = u := str_ext (e1.symm.trans e2)
      subst this
      exact absurd (deeds_nil.mpr n) hne
    | step s q =>
      intro e1 e2
      subst e1 e2
      obtain ⟨d, hd, rfl⟩ := stp_deed.mp s
      exact ⟨d, hd, q, n⟩
  exact key r rfl rfl
theorem behind_lt {lz : Str} {ps : List Kd} {z : Str} {d : Dd} (hm : MenderOk lz ps) (hd : d ∈ deedsOn ps z) : (behindS z d).length < z.length := by
  have := (stp_deed.mpr ⟨d, hd, rfl⟩ : Stp (RL ps) z.cps.toList _).less (RL_less hm)
  rw [len_cps, len_cps]
  exact this
theorem behind_il {lz : Str} {ps : List Kd} {z : Str} {d : Dd} (hk : KindsOk lz ps) (hz : InL lz z) (hd : d ∈ deedsOn ps z) : InL lz (behindS z d) := (stp_deed.mpr ⟨d, hd, rfl⟩ : Stp (RL ps) z.cps.toList _).over (fun p hp => (RL_in hk p hp).2) hz
/-- what the turns over some deeds have found -/
structure FndOk (lz : Str) (ps : List Kd) (ds : List Dd) (z : Str) (a : List Str × Kn) : Prop where
  kn : KnOk lz ps a.2
  nd : a.1.Nodup
  mem : ∀ u : Str, u ∈ a.1 ↔ ∃ d ∈ ds, EndOf (RL ps) (behindS z d).cps.toList u.cps.toList
abbrev stepK2 (ps : List Kd) (n : Nat) (z : Str) (a : List Str × Kn) (d : Dd) : List Str × Kn := ((endsK ps n (behindS z d) a.2).1.foldl insT a.1, (endsK ps n (behindS z d) a.2).2)
theorem FndOk.step {lz : Str} {ps : List Kd} {ds : List Dd} {z : Str} {a : List Str × Kn} {n : Nat} {d : Dd} (h : FndOk lz ps ds z a) (hr : KnOk lz ps (endsK ps n (behindS z d) a.2).2 ∧ GoodE ps (behindS z d) (endsK ps n (behindS z d) a.2).1) : FndOk lz ps (ds ++ [d]) z (stepK2 ps n z a d) := by
  obtain ⟨f1, f2⟩ := insT_fold (endsK ps n (behindS z d) a.2).1 a.1 h.nd
  refine ⟨hr.1, f1, fun u => ?_⟩
  show u ∈ List.foldl insT a.1 _ ↔ _
  rw [f2, h.mem, hr.2.mem]
  constructor
  · rintro (⟨x, hx, h⟩ | h)
    · exact ⟨x, List.mem_append_left _ hx, h⟩
    · exact ⟨d, by simp, h⟩
  · rintro ⟨x, hx, h⟩
    rcases List.mem_append.mp hx with hx | hx
    · exact .inl ⟨x, hx, h⟩
    · rw [List.mem_singleton.mp hx] at h
      exact .inr h
theorem endsK_ok {lz : Str} {ps : List Kd} (hm : MenderOk lz ps) : ∀ (n : Nat) (z : Str) (kn : Kn), z.length < n → z.length ≤ 7 → InL lz z → KnOk lz ps kn → KnOk lz ps (endsK ps n z kn).2 ∧ GoodE ps z (endsK ps n z kn).1 := by
  intro n
  induction n with
  | zero => exact fun z kn h => absurd h (Nat.not_lt_zero _)
  | succ n ih =>
    intro z kn hn h7 hz hk
    unfold endsK
    cases e : lookK kn z with
    | some l => exact ⟨hk, (hk.ok _ (lookK_mem e)).1⟩
    | none =>
      have key : ∀ (ds done : List Dd) (a : List Str × Kn), (∀ d ∈ ds, d ∈ deedsOn ps z) → FndOk lz ps done z a → FndOk lz ps (done ++ ds) z (ds.foldl (stepK2 ps n z) a) := by
        intro ds
        induction ds with
        | nil => exact fun done a _ h => by rw [List.append_nil]; exact h
        | cons d ds ihd =>
          intro done a hds h
          have hd := hds d List.mem_cons_self
          have hlt := behind_lt hm hd
          have q := ihd (done ++ [d]) _ (fun x hx => hds x (List.mem_cons_of_mem _ hx)) (h.step (ih (behindS z d) a.2 (by omega) (by omega) (behind_il hm.k hz hd) h.kn))
          rw [List.append_assoc] at q
          exact q
      have F := key (lawDeeds ps z) [] ([], kn) (fun d hd => (law_deeds_mem hm.k).mp hd) ⟨hk, by simp, fun u => by simp⟩
      rw [List.nil_append] at F
      show KnOk lz ps (putN ((lawDeeds ps z).foldl (stepK2 ps n z) ([], kn)).2 z _) ∧ GoodE ps z (if ((lawDeeds ps z).foldl (stepK2 ps n z) ([], kn)).1 = [] then [z] else sortS ((lawDeeds ps z).foldl (stepK2 ps n z) ([], kn)).1)
      generalize (lawDeeds ps z).foldl (stepK2 ps n z) ([], kn) = s at F ⊢
      have good : GoodE ps z (if s.1 = [] then [z] else sortS s.1) := by
        by_cases hd : deedsOn ps z = []
        · have hs : s.1 = [] := by
            cases e1 : s.1 with
            | nil => rfl
            | cons u us =>
              obtain ⟨d, hd2, _⟩ := (F.mem u).mp (by rw [e1]; exact List.mem_cons_self)
              rw [law_deeds_mem hm.k, hd] at hd2
              cases hd2
          rw [if_pos hs]
          refine ⟨by simp, fun u => ?_⟩
          rw [List.mem_singleton]
          constructor
          · rintro rfl
            exact ⟨.refl _, deeds_nil.mp hd⟩
          · rintro ⟨r, _⟩
            have key : ∀ {x y : List Nat}, Rch (RL ps) x y → x = z.cps.toList → y = u.cps.toList → u = z := by
              intro x y r
              cases r with
              | refl _ => exact fun e1 e2 => str_ext (e2.symm.trans e1)
              | step s q =>
                intro e1 _
                subst e1
                exact absurd s (deeds_nil.mp hd _)
            exact key r rfl rfl
        · have hs : s.1 ≠ [] := by
            obtain ⟨t, ht⟩ := end_ex (RL_less hm) _ z.cps.toList (Nat.le_refl _)
            obtain ⟨d, hd2, h2⟩ := end_some (u := toS t) hd ht
            intro e1
            have := (F.mem (toS t)).mpr ⟨d, (law_deeds_mem hm.k).mpr hd2, h2⟩
            rw [e1] at this
            cases this
          rw [if_neg hs]
          refine ⟨(sortS_perm _).nodup_iff.mpr F.nd, fun u => ?_⟩
          rw [(sortS_perm _).mem_iff, F.mem]
          constructor
          · rintro ⟨d, hd2, h2⟩
            exact end_step ((law_deeds_mem hm.k).mp hd2) h2
          · intro h
            obtain ⟨d, hd2, h2⟩ := end_some hd h
            exact ⟨d, (law_deeds_mem hm.k).mpr hd2, h2⟩
      exact ⟨F.kn.put good hz h7, good⟩
end KL
namespace KL
open PySem L2 NdefX Sc PySem.W
variable {P : Program} {w : World} {K : PySem.W.Frag} {mg : Str → Option Value} {base : Heap} {Tb : List NTab}
/-- the promise of _law_ends for texts of less than n letters -/
def EndR (n : Nat) : List Sl → Out → Prop := fun δ o => ∃ (lz : Str) (ps : List Kd) (z : Str) (kn : Kn), MdOk lz ps ∧ z.length < n ∧ z.length ≤ 7 ∧ InL lz z ∧ KnOk lz ps kn ∧ δ = [.d (kdsD ps), .d (.str z), .b (.dk (dkK kn))] ∧
  o = .ret (.d (.list ((endsK ps n z kn).1.map .str))) [.d (kdsD ps), .d (.str z), .b (.dk (dkK (endsK ps n z kn).2))]
section
variable {X : Cx} {T : List NTab} {δ δ1 δ2 : List Sl} {a b : Expr} {x : Str} {p py pos : Pos}
/-- _law_ends(a, b, a lent dict) -/
theorem ev_ends {n k : Nat} {lz : Str} {ps : List Kd} {z : Str} {kn : Kn} {s : Sl} (D : Def X.prog X.w X.K X.mg X.base T k "_law_ends" [] (EndR n)) (hr : Room k X.A) (i : Nat) (ha : EV X T a δ (.d (kdsD ps)) δ) (hb : EV X T b δ (.d (.str z)) δ) (hs : δ[i]? = some s) (hw : s.ow = some (.dk (dkK kn))) (h1 : MdOk lz ps) (h2 : z.length < n) (h3 : z.length ≤ 7) (h4 : InL lz z) (h5 : KnOk lz ps kn)
    (hN : X.N[i]? = some x := by rfl) (hv : Vis X.env.scope x := by first | exact Or.inl rfl | exact Or.inr (Or.inl rfl) | exact Or.inr (Or.inr rfl)) (hdb : (x == ("__debug__" : Str)) = false := by decide) (hcd : (x == ("__classdict__" : Str)) = false := by decide)
    (hg : Gl X "_law_ends" := by rfl) (t0 : starEach [a, b, .Name x py] X.env = (false, eval a X.env) :: starEach [b, .Name x py] X.env := by rfl) (t1 : starEach [b, .Name x py] X.env = (false, eval b X.env) :: starEach [.Name x py] X.env := by rfl) (t2 : starEach [.Name x py] X.env = (false, eval (.Name x py) X.env) :: starEach [] X.env := by rfl) (hpl : (backTo pos (starEach [b, .Name x py] X.env)).any (·.1) = false := by rfl) :
    EV X T (.Call (.Name "_law_ends" p) [a, b, .Name x py] [] pos) δ (.d (.list ((endsK ps n z kn).1.map .str))) (δ.set i (s.put (.dk (dkK (endsK ps n z kn).2)))) := by
  have e : arSl δ (.lend i) = .b (.dk (dkK kn)) := by
    unfold arSl
    simp only [hs, hw]
  refine ev_c (δc := [.d (kdsD ps), .d (.str z), .b (.dk (dkK (endsK ps n z kn).2))]) D hr (al_cons ha (al_cons hb (al_lend i hs hw al_nil hN hv hdb hcd t2) t1) t0) ⟨lz, ps, z, kn, h1, h2, h3, h4, h5, ?_, rfl⟩ (bk_one (j := 2) (i := i) rfl rfl hs (by rw [hw]; rfl) rfl) rfl hg (by decide) t0 hpl
  show [arSl δ (.r (.d (kdsD ps))), arSl δ (.r (.d (.str z))), arSl δ (.lend i)] ++ [] = _
  rw [e]
  rfl
end
theorem _root_.Sc.Cok.down {X : Cx} {W : WX} {j k : Nat} (C : Cok X W k) (h : j ≤ k) : Cok X W j := ⟨C.nd, C.calm, C.own, C.tk, C.room.mono h⟩
theorem lookK_put (kn : Kn) (z : Str) (l : List Str) : lookK (putN kn z l) z = some l := by
  unfold lookK putN
  split
  · rename_i h
    rw [List.find?_map]
    have e : ((fun e : Str × List Str => decide (e.1 = z)) ∘ fun e : Str × List Str => if e.1 = z then (e.1, l) else e) = fun e => decide (e.1 = z) := by
      funext e
      show decide ((if e.1 = z then (e.1, l) else e).1 = z) = _
      split <;> rfl
    rw [e]
    cases q : kn.find? fun e => decide (e.1 = z) with
    | none =>
      rw [List.find?_eq_none] at q
      obtain ⟨x, hx, hx2⟩ := List.any_eq_true.mp h
      exact absurd hx2 (q x hx)
    | some x =>
      have h0 := List.find?_some q
      have h1 : x.1 = z := by simpa using h0
      show some (if x.1 = z then (x.1, l) else x).2 = _
      rw [if_pos h1]
  · rename_i h
    rw [List.find?_append]
    have q : (kn.find? fun e => decide (e.1 = z)) = none := by
      rw [List.find?_eq_none]
      intro x hx hx2
      exact h (List.any_eq_true.mpr ⟨x, hx, hx2⟩)
    rw [q]
    simp
theorem texts_few {lz : Str} {L : List Str} (nd : L.Nodup) (h : ∀ t ∈ L, InL lz t ∧ t.length ≤ 7) (hl : lz.length ≤ 4) : L.length ≤ 21845 := by
  have q : (L.map fun t => t.cps.toList).length ≤ (allT lz.cps.toList 7).length := by
    refine nodup_sub_len (List.Pairwise.map _ (fun a b hab e => hab (str_ext e)) nd) fun u hu => ?_
    obtain ⟨t, ht, rfl⟩ := List.mem_map.mp hu
    obtain ⟨h2, h3⟩ := h t ht
    exact allT_mem.mpr ⟨by rw [← len_cps]; exact h3, h2⟩
  rw [List.length_map] at q
  exact Nat.le_trans q (Nat.le_trans (allT_len (k := 4) (by rw [← len_cps]; exact hl) 7) (by decide))
theorem end_il {lz : Str} {ps : List Kd} (hm : MenderOk lz ps) {z u : Str} (hz : InL lz z) (h : EndOf (RL ps) z.cps.toList u.cps.toList) : InL lz u ∧ u.length ≤ z.length := by
  refine ⟨h.1.over (fun p hp => (RL_in hm.k p hp).2) hz, ?_⟩
  have := h.1.le (RL_less hm)
  rw [len_cps, len_cps]
  exact this
theorem GoodE.few {lz : Str} {ps : List Kd} {z : Str} {L : List Str} (g : GoodE ps z L) (h : MdOk lz ps) (hz : InL lz z) (h7 : z.length ≤ 7) : L.length ≤ 21845 := texts_few g.nd (fun t ht => by
  obtain ⟨a, b⟩ := end_il h.m hz ((g.mem t).mp ht)
  exact ⟨a, by omega⟩) h.ll
theorem FndOk.few {lz : Str} {ps : List Kd} {ds : List Dd} {z : Str} {a : List Str × Kn} (g : FndOk lz ps ds z a) (h : MdOk lz ps) (hz : InL lz z) (h7 : z.length ≤ 7) (hd : ∀ d ∈ ds, d ∈ deedsOn ps z) : a.1.length ≤ 21845 := texts_few g.nd (fun t ht => by
  obtain ⟨d, hd2, h2⟩ := (g.mem t).mp ht
  obtain ⟨a, b⟩ := end_il h.m (behind_il h.m.k hz (hd d hd2)) h2
  have := behind_lt h.m (hd d hd2)
  exact ⟨a, by omega⟩) h.ll
theorem plain_sort (ts : List Str) : AllAlike (ts.map PyData.str) ∧ Sortable (ts.map PyData.str) := ⟨AllAlike.of (enc := PyData.str) fun a b => by simp [alike], Sortable.others (enc := PyData.str) fun b => ⟨(fun z => nomatch z), (fun _ z => nomatch z)⟩⟩
theorem law_beh2 (T : Tops K mg) : Def P w K mg base Tb 1 "_law_behind" [] (Fn2 PyData.str dd (fun z d => z.length ≤ 4000 ∧ d.2.1.length ≤ 1000 ∧ d.2.2.length ≤ 1000) fun z d => .r (.d (.str (behindS z d)))) :=
  (d_law_behind T).mono fun δ o ⟨z, d, h1, h2, h3⟩ => ⟨[.str z, dd d], rfl, ⟨z, d, rfl, h1⟩, h2, h3⟩
abbrev leS (ps : List Kd) (z : Str) (kn : Kn) (f : Sl) (d : Sl) (o : Sl) : List Sl := [.d (kdsD ps), .d (.str z), .b (.dk (dkK kn)), f, d, o]
theorem l_ends (T : Tops K mg) (Dd : Def P w K mg base Tb 6 "_law_deeds" [] (Fn2 kdsD PyData.str (fun ps z => KindsShort ps ∧ z.length ≤ 5000) fun ps z => .r (.d (.list ((lawDeeds ps z).map dd))))) : ∀ n, Def P w K mg base Tb (8 + n) "_law_ends" [] (EndR n) := by
  intro n
  induction n with
  | zero => exact def_gen T.t__law_ends sc__law_ends rfl (fun δ o ⟨lz, ps, z, kn, _, h, _⟩ => absurd h (Nat.not_lt_zero _)) (fun _ _ _ _ _ _ us hl => match us, hl with | [_, _, _], _ => rfl) fun fa cdv A outer s H E C δ o ⟨lz, ps, z, kn, _, h, _⟩ => absurd h (Nat.not_lt_zero _)
  | succ n ih =>
    refine def_gen T.t__law_ends sc__law_ends rfl (fun δ o ⟨lz, ps, z, kn, _, _, _, _, _, h, _⟩ => by rw [h]; rfl) (fun _ _ _ _ _ _ us hl => match us, hl with | [_, _, _], _ => rfl) fun fa cdv A outer sh H E CC δ o ⟨lz, ps, z, kn, hM, hn, h7, hz, hk, hδ, ho⟩ => ?_
    subst hδ ho
    have C := CC.down (show 8 ≤ 8 + n by omega)
    have fin : ∀ {δf : List Sl} {kn' : Kn} {r : Sl}, δf[2]? = some (.b (.dk (dkK kn'))) → Fin [.d (kdsD ps), .d (.str z), .b (.dk (dkK kn))] (.ret r δf) (.ret r [.d (kdsD ps), .d (.str z), .b (.dk (dkK kn'))]) := fun {δf kn' r} h => by
      refine .ret ⟨rfl, fun i w e => ?_, fun i s e hs => ?_, fun i w e => ?_⟩
      · match i, e with
        | 2, e => exact ⟨_, h, rfl⟩
      · match i, e with
        | 0, e => cases e; rfl
        | 1, e => cases e; rfl
        | 2, e => cases e; cases hs
      · match i, e with
        | 0, e => cases e
        | 1, e => cases e
        | 2, e => cases e
    obtain ⟨kn', gd⟩ := endsK_ok hM.m (n + 1) z kn hn h7 hz hk
    have key : EP (cxOf (L2.CX P w) P w K mg base n__law_ends "_law_ends" (defScope s__law_ends) fa cdv A outer sh H E) Tb (fun cls d _ H => E cls d H) true (defBody s__law_ends) (leS ps z kn .no .no .no) (fun of => ∃ δf, of = .ret (.d (.list ((endsK ps (n + 1) z kn).1.map .str))) δf ∧ δf[2]? = some (.b (.dk (dkK (endsK ps (n + 1) z kn).2)))) := by
      refine ep_if (tv_ninKS C 2 rfl rfl (ev_var 1 rfl)) (fun h => ?_) (fun h => ?_)
      · rw [dkK_val] at h
        have hl : lookK kn z = none := by
          cases e : lookK kn z with
          | none => rfl
          | some l => rw [e] at h; cases h
        have e : endsK ps (n + 1) z kn = (if ((lawDeeds ps z).foldl (stepK2 ps n z) ([], kn)).1 = [] then [z] else sortS ((lawDeeds ps z).foldl (stepK2 ps n z) ([], kn)).1, putN ((lawDeeds ps z).foldl (stepK2 ps n z) ([], kn)).2 z (if ((lawDeeds ps z).foldl (stepK2 ps n z) ([], kn)).1 = [] then [z] else sortS ((lawDeeds ps z).foldl (stepK2 ps n z) ([], kn)).1)) := by
          show endsK ps (n + 1) z kn = _
          rw [endsK, hl]
        have hds : ∀ d ∈ lawDeeds ps z, d ∈ deedsOn ps z := fun d hd => (law_deeds_mem hM.m.k).mp hd
        rw [e]
        have F : ∀ (ds done : List KL.Dd) (a : List Str × Kn), (∀ d ∈ ds, d ∈ deedsOn ps z) → FndOk lz ps done z a → FndOk lz ps (done ++ ds) z (ds.foldl (stepK2 ps n z) a) := by
          intro ds
          induction ds with
          | nil => exact fun done a _ h => by rw [List.append_nil]; exact h
          | cons d ds ihd =>
            intro done a hd h
            have hd1 := hd d List.mem_cons_self
            have hlt := behind_lt hM.m hd1
            have q := ihd (done ++ [d]) _ (fun x hx => hd x (List.mem_cons_of_mem _ hx)) (h.step (endsK_ok hM.m n (behindS z d) a.2 (by omega) (by omega) (behind_il hM.m.k hz hd1) h.kn))
            rw [List.append_assoc] at q
            exact q
        have F0 : FndOk lz ps [] z ([], kn) := ⟨hk, by simp, fun u => by simp⟩
        have F1 := F _ [] _ hds F0
        rw [List.nil_append] at F1
        have few1 := F1.few hM hz h7 hds
        have few2 := F1.kn.few hM.ll
        refine eq_go (δ1 := leS ps z (putN ((lawDeeds ps z).foldl (stepK2 ps n z) ([], kn)).2 z (if ((lawDeeds ps z).foldl (stepK2 ps n z) ([], kn)).1 = [] then [z] else sortS ((lawDeeds ps z).foldl (stepK2 ps n z) ([], kn)).1)) (.o (.dk (dkT ((lawDeeds ps z).foldl (stepK2 ps n z) ([], kn)).1))) .no .no) (svs_cons (SV.eq (δ2 := leS ps z kn (.o (.dk (dkT []))) .no .no) (sv_let C 3 ev_dnil) rfl) (svs_cons (sv_forF C (iv_list (ev_c2 Dd (C.less (by decide)) (ev_var 0 rfl) (ev_var 1 rfl) ?_)) (lf_fold (st := fun a : List Str × Kn => leS ps z a.2 (.o (.dk (dkT a.1))) .no .no) (step := stepK2 ps n z) (fun xs a => ∃ done, (∀ d ∈ done, d ∈ deedsOn ps z) ∧ (∀ d ∈ xs, d ∈ deedsOn ps z) ∧ FndOk lz ps done z a) ?_ (lawDeeds ps z) ([], kn) ⟨[], (fun _ h => nomatch h), hds, F0⟩)) (svs_one (SV.eq (sv_putKS C 2 rfl rfl (ev_if (t := !(dkT ((lawDeeds ps z).foldl (stepK2 ps n z) ([], kn)).1).isEmpty) (tv_neK0 C 3 rfl rfl) (fun h => EV.eq (d' := .list ((if ((lawDeeds ps z).foldl (stepK2 ps n z) ([], kn)).1 = [] then [z] else sortS ((lawDeeds ps z).foldl (stepK2 ps n z) ([], kn)).1).map .str)) (ev_frz (ev_sortZ C T.bi (ev_frz (ev_lstK T.bi C.calm 3 rfl rfl)) ?_ ?_ ?_)) ?_) (fun h => EV.eq (ev_lstd1 (ev_var 1 rfl)) ?_)) (ev_var 1 rfl) ?_) ?_)))) (ep_ret (ev_getKS (d := .list ((if ((lawDeeds ps z).foldl (stepK2 ps n z) ([], kn)).1 = [] then [z] else sortS ((lawDeeds ps z).foldl (stepK2 ps n z) ([], kn)).1).map .str)) C 2 rfl rfl (ev_var 1 rfl) ?_) ⟨_, rfl, rfl⟩)
        · exact ⟨hM.m.k.short, by omega⟩
        · intro d xs a ⟨done, q1, q2, q3⟩
          have hd := q2 d List.mem_cons_self
          have hlt := behind_lt hM.m hd
          have bil := behind_il hM.m.k hz hd
          have r := endsK_ok hM.m n (behindS z d) a.2 (by omega) (by omega) bil q3.kn
          have q4 := q3.step r
          refine ⟨⟨done ++ [d], fun x hx => ?_, fun x hx => q2 x (List.mem_cons_of_mem _ hx), q4⟩, _, (gw_name 4 C.nd).gv, ?_⟩
          · rcases List.mem_append.mp hx with hx | hx
            · exact q1 x hx
            · rw [List.mem_singleton.mp hx]
              exact hd
          have f1 := q3.few hM hz h7 q1
          have f2 := r.2.few hM bil (by omega)
          have hs := deed_short hM.m.k hd
          refine svs_wipe (δ1 := leS ps z (stepK2 ps n z a d).2 (.o (.dk (dkT (stepK2 ps n z a d).1))) (.d (dd d)) .no) [4] (svs_one (sv_forF C (iv_list (ev_ends ih (CC.less (Nat.le_refl _)) 2 (ev_var 0 rfl) (ev_c2 (law_beh2 T) (C.less (by decide)) (ev_var 1 rfl) (ev_var 4 rfl) ?_) rfl rfl hM (by omega) (by omega) bil q3.kn)) (lf_fold (en := PyData.str) (st := fun acc : List Str => leS ps z (stepK2 ps n z a d).2 (.o (.dk (dkT acc))) (.d (dd d)) .no) (step := insT) (fun xs acc => acc.length + xs.length ≤ 60000) ?_ (endsK ps n (behindS z d) a.2).1 a.1 (by omega))))
          · exact ⟨by omega, by omega, by omega⟩
          · intro one ys acc q5
            rw [List.length_cons] at q5
            have q6 := insT_len acc one
            refine ⟨by omega, _, (gw_name 5 C.nd).gv, ?_⟩
            refine svs_wipe (δ1 := leS ps z (stepK2 ps n z a d).2 (.o (.dk (dkT (insT acc one)))) (.d (dd d)) (.d (.str one))) [5] (svs_one (SV.eq (sv_putKS C 3 rfl rfl ev_bl (ev_var 5 rfl) ?_) ?_))
            · have : (dkT acc).length = acc.length := List.length_map _
              exact Nat.lt_of_le_of_lt (show (dkT acc).length ≤ 60000 by omega) (by decide)
            · rw [dkT_put]
              rfl
        · rw [dkT_keys]
          exact (plain_sort _).1
        · rw [dkT_keys]
          exact (plain_sort _).2
        · intro d hd
          rw [dkT_keys] at hd
          obtain ⟨y, hy, rfl⟩ := List.mem_map.mp hd
          simp [PyData.depth]
        · have hne : ((lawDeeds ps z).foldl (stepK2 ps n z) ([], kn)).1 ≠ [] := fun e1 => by rw [e1] at h; cases h
          rw [if_neg hne, dkT_keys, sortS_data]
        · have he : ((lawDeeds ps z).foldl (stepK2 ps n z) ([], kn)).1 = [] := by
            cases e1 : ((lawDeeds ps z).foldl (stepK2 ps n z) ([], kn)).1 with
            | nil => rfl
            | cons _ _ => rw [e1] at h; cases h
          rw [if_pos he]
          rfl
        · have : (dkK ((lawDeeds ps z).foldl (stepK2 ps n z) ([], kn)).2).length = ((lawDeeds ps z).foldl (stepK2 ps n z) ([], kn)).2.length := List.length_map _
          exact Nat.lt_of_le_of_lt (show (dkK ((lawDeeds ps z).foldl (stepK2 ps n z) ([], kn)).2).length ≤ 60000 by omega) (by decide)
        · rw [dkK_put]
          rfl
        · rw [dkK_val, lookK_put]
          rfl
      · rw [dkK_val] at h
        obtain ⟨l, hl⟩ : ∃ l, lookK kn z = some l := by
          cases e : lookK kn z with
          | none => rw [e] at h; cases h
          | some l => exact ⟨l, rfl⟩
        have e : endsK ps (n + 1) z kn = (l, kn) := by
          rw [endsK, hl]
        rw [e]
        refine eq_nil (ep_ret (ev_getKS (d := .list (l.map .str)) C 2 rfl rfl (ev_var 1 rfl) ?_) ⟨_, rfl, rfl⟩)
        rw [dkK_val, hl]
        rfl
    obtain ⟨of, h1, ⟨δf, rfl, h2⟩, _⟩ := key
    exact ⟨_, h1, fin h2⟩
end KL
namespace KL
open PySem L2 NdefX Sc PySem.W
/-! _law_alike: the same data -/
mutual
def alikeB : PyData → PyData → Bool
  | .none, f => match f with | .none => true | _ => false
  | .bool b, f => match f with | .bool c => b == c | _ => false
  | .int i, f => match f with | .int j => decide (i = j) | _ => false
  | .str z, f => match f with | .str y => decide (z = y) | _ => false
  | .list ds, f => match f with | .list fs => alikeL ds fs | _ => false
  | .tuple ds, f => match f with | .tuple fs => alikeL ds fs | _ => false
  | .dict _, _ => false
def alikeL : List PyData → List PyData → Bool
  | [], [] => true
  | d :: ds, f :: fs => alikeB d f && alikeL ds fs
  | _, _ => false
end
mutual
def wideB : PyData → Bool
  | .list ds => decide (ds.length ≤ 100000) && wideL ds
  | .tuple ds => decide (ds.length ≤ 100000) && wideL ds
  | .dict _ => false
  | _ => true
def wideL : List PyData → Bool
  | [] => true
  | d :: ds => wideB d && wideL ds
end
mutual
theorem alikeB_eq : ∀ (d f : PyData), alikeB d f = true → f = d
  | .none, f, h => by cases f <;> first | rfl | cases h
  | .bool b, f, h => by cases f <;> first | (rw [show b = _ from eq_of_beq h]) | cases h
  | .int i, f, h => by cases f <;> first | (rw [show i = _ from of_decide_eq_true h]) | cases h
  | .str z, f, h => by cases f <;> first | (rw [show z = _ from of_decide_eq_true h]) | cases h
  | .list ds, f, h => by
    cases f with
    | list fs => rw [alikeL_eq ds fs h]
    | _ => cases h
  | .tuple ds, f, h => by
    cases f with
    | tuple fs => rw [alikeL_eq ds fs h]
    | _ => cases h
  | .dict _, f, h => by cases h
theorem alikeL_eq : ∀ (ds fs : List PyData), alikeL ds fs = true → fs = ds
  | [], [], _ => rfl
  | [], _ :: _, h => by cases h
  | _ :: _, [], h => by cases h
  | d :: ds, f :: fs, h => by
    have h : (alikeB d f && alikeL ds fs) = true := h
    rw [Bool.and_eq_true] at h
    rw [alikeB_eq d f h.1, alikeL_eq ds fs h.2]
end
mutual
theorem alikeB_self : ∀ (d : PyData), wideB d = true → alikeB d d = true
  | .none, _ => rfl
  | .bool b, _ => beq_self_eq_true b
  | .int i, _ => decide_eq_true rfl
  | .str z, _ => decide_eq_true rfl
  | .list ds, h => alikeL_self ds (Bool.and_eq_true_iff.mp h).2
  | .tuple ds, h => alikeL_self ds (Bool.and_eq_true_iff.mp h).2
  | .dict _, h => by cases h
theorem alikeL_self : ∀ (ds : List PyData), wideL ds = true → alikeL ds ds = true
  | [], _ => rfl
  | d :: ds, h => by
    have h : (wideB d && wideL ds) = true := h
    rw [Bool.and_eq_true] at h
    show (alikeB d d && alikeL ds ds) = true
    rw [alikeB_self d h.1, alikeL_self ds h.2]
    rfl
end
theorem alikeB_iff {d f : PyData} (h : wideB d = true) : alikeB d f = true ↔ f = d := ⟨alikeB_eq d f, fun e => by rw [e]; exact alikeB_self d h⟩
theorem wideL_mem : ∀ {ds : List PyData}, wideL ds = true → ∀ d ∈ ds, wideB d = true
  | d :: ds, h, x, hx => by
    have h : (wideB d && wideL ds) = true := h
    rw [Bool.and_eq_true] at h
    rcases List.mem_cons.mp hx with rfl | hx
    · exact h.1
    · exact wideL_mem h.2 x hx
theorem lay_mem : ∀ {ds : List PyData}, PyData.canLayAll0 ds = true → ∀ d ∈ ds, d.canLay0 = true
  | d :: ds, h, x, hx => by
    simp only [PyData.canLayAll0, Bool.and_eq_true] at h
    rcases List.mem_cons.mp hx with rfl | hx
    · exact h.1
    · exact lay_mem h.2 x hx
theorem depth_mem : ∀ {ds : List PyData} {n : Nat}, PyData.depthAll ds ≤ n → ∀ d ∈ ds, d.depth ≤ n
  | d :: ds, n, h, x, hx => by
    simp only [PyData.depthAll] at h
    rcases List.mem_cons.mp hx with rfl | hx
    · omega
    · exact depth_mem (by omega) x hx
def itemsOf : PyData → List PyData
  | .list ds => ds
  | .tuple ds => ds
  | _ => []
theorem shp_item {n : Nat} {d : PyData} (h : Shp (n + 1) d) : ∀ x ∈ itemsOf d, Shp n x := by
  obtain ⟨h1, h2⟩ := h
  cases d with
  | list ds =>
    simp only [PyData.canLay0, PyData.depth] at h1 h2
    exact fun x (hx : x ∈ ds) => ⟨lay_mem h1 x hx, depth_mem (ds := ds) (by omega) x hx⟩
  | tuple ds =>
    simp only [PyData.canLay0, PyData.depth] at h1 h2
    exact fun x (hx : x ∈ ds) => ⟨lay_mem h1 x hx, depth_mem (ds := ds) (by omega) x hx⟩
  | _ => exact fun x hx => nomatch hx
theorem alikeL_ix {ds fs : List PyData} (h : fs.length = ds.length) : alikeL ds fs = ((List.range ds.length).filter fun k => !alikeB (ds.getD k .none) (fs.getD k .none)).isEmpty := by
  induction ds generalizing fs with
  | nil =>
    cases fs with
    | nil => rfl
    | cons _ _ => cases h
  | cons d ds ih =>
    cases fs with
    | nil => cases h
    | cons f fs =>
      show (alikeB d f && alikeL ds fs) = _
      rw [ih (by simpa using h), List.length_cons, List.range_succ_eq_map, List.filter_cons, List.filter_map]
      show (alikeB d f && _) = (if (!alikeB d f) = true then _ else _ : List Nat).isEmpty
      have e : ((fun k => !alikeB ((d :: ds).getD k .none) ((f :: fs).getD k .none)) ∘ Nat.succ) = fun k => !alikeB (ds.getD k .none) (fs.getD k .none) := rfl
      rw [e]
      cases alikeB d f with
      | true => simp
      | false => rfl
variable {P : Program} {w : World} {K : PySem.W.Frag} {mg : Str → Option Value} {base : Heap} {Tb : List NTab}
theorem eqv_data {d f : PyData} (hd : (match d with | .none | .str _ => true | _ => false) = true) : (PyData.eqv f d && (instD "str" f == instD "str" d)) = alikeB d f := by
  cases d <;> first | cases hd | skip
  · cases f <;> rfl
  · cases f <;> first | rfl | skip
    rename_i z y
    show (PyData.eqv (.str y) (.str z) && (true == true)) = decide (z = y)
    by_cases h : z = y
    · subst h
      simp [PyData.eqv]
    · have h' : ¬ y = z := fun e => h e.symm
      simp [PyData.eqv, h, h']
theorem eqv_data2 {d f : PyData} (hd : (match d with | .none | .str _ => true | _ => false) = true) : (PyData.eqv f d && decide (instD "str" f = instD "str" d)) = alikeB d f := by
  rw [← eqv_data hd]
  cases instD "str" f <;> cases instD "str" d <;> rfl
theorem eqv_num {d f : PyData} (hd : (match d with | .int _ | .bool _ => true | _ => false) = true) : (instD "int" f && (decide (instD "bool" f = instD "bool" d) && PyData.eqv f d)) = alikeB d f := by
  cases d <;> first | cases hd | skip
  · cases f <;> first | rfl | skip
    rename_i b c
    show (true && (decide (true = true) && PyData.eqv (.bool c) (.bool b))) = (b == c)
    cases b <;> cases c <;> rfl
  · cases f <;> first | rfl | skip
    rename_i i j
    show (true && (decide (false = false) && PyData.eqv (.int j) (.int i))) = decide (i = j)
    by_cases h : i = j
    · subst h
      simp [PyData.eqv]
    · have h' : ¬ j = i := fun e => h e.symm
      simp [PyData.eqv, h, h']
def atomB : PyData → Bool
  | .list _ => false
  | .tuple _ => false
  | .dict _ => false
  | _ => true
theorem alike_atom (T : Tops K mg) {fa : Addr} {cdv : Value} {A : Around} {outer : List PySem.Env} {s : Shared} {H : Hp} {E : XK} {k : Nat} (C : Cok (cxOf (L2.CX P w) P w K mg base n__law_alike "_law_alike" (defScope s__law_alike) fa cdv A outer s H E) (fun cls d _ H => E cls d H) k) {f d : PyData} (hf : Shp 60 f) (hd : Shp 60 d)
    (ha : atomB d = true) : EA (cxOf (L2.CX P w) P w K mg base n__law_alike "_law_alike" (defScope s__law_alike) fa cdv A outer s H E) Tb (fun cls d _ H => E cls d H) true (defBody s__law_alike) [.d f, .d d, .no, .no] (.r (.d (.bool (alikeB d f)))) := by
  cases d with
  | list _ => cases ha
  | tuple _ => cases ha
  | dict _ => cases ha
  | none =>
    refine ea_if (t := false) (TV.eq (tv_val (ev_isi2 T.bi (ev_var 1 rfl) (kit_tuple _) (kit_list _) T.bi.tuple T.bi.list rfl rfl)) rfl) (fun h => nomatch h) (fun _ => eb_nil (ea_if (t := false) (TV.eq (tv_val (ev_isi T.bi (ev_var 1 rfl) (kit_dict _) T.bi.dict rfl)) rfl) (fun h => nomatch h) (fun _ => eb_nil (ea_if (t := true) (TV.eq (tv_tw (tw_or (tv_isN (ev_var 1 rfl) ev_non) fun h1 => tw_or1 (tv_val (ev_isi T.bi (ev_var 1 rfl) (kit_str _) T.bi.str rfl)))) rfl) (fun _ => eb_stop (ea_retB (ev_and (ev_eqD (ev_var 0 rfl) (ev_var 1 rfl) C.u64 ?_ ?_) fun h1 => ev_one (ev_eqB (ev_isi T.bi (ev_var 0 rfl) (kit_str _) T.bi.str rfl) (ev_isi T.bi (ev_var 1 rfl) (kit_str _) T.bi.str rfl))) (eqv_data2 rfl))) (fun h => nomatch h)))))
    · exact hf.ok
    · exact hd.ok
  | str z =>
    refine ea_if (t := false) (TV.eq (tv_val (ev_isi2 T.bi (ev_var 1 rfl) (kit_tuple _) (kit_list _) T.bi.tuple T.bi.list rfl rfl)) rfl) (fun h => nomatch h) (fun _ => eb_nil (ea_if (t := false) (TV.eq (tv_val (ev_isi T.bi (ev_var 1 rfl) (kit_dict _) T.bi.dict rfl)) rfl) (fun h => nomatch h) (fun _ => eb_nil (ea_if (t := true) (TV.eq (tv_tw (tw_or (tv_isN (ev_var 1 rfl) ev_non) fun h1 => tw_or1 (tv_val (ev_isi T.bi (ev_var 1 rfl) (kit_str _) T.bi.str rfl)))) rfl) (fun _ => eb_stop (ea_retB (ev_and (ev_eqD (ev_var 0 rfl) (ev_var 1 rfl) C.u64 ?_ ?_) fun h1 => ev_one (ev_eqB (ev_isi T.bi (ev_var 0 rfl) (kit_str _) T.bi.str rfl) (ev_isi T.bi (ev_var 1 rfl) (kit_str _) T.bi.str rfl))) (eqv_data2 rfl))) (fun h => nomatch h)))))
    · exact hf.ok
    · exact hd.ok
  | int i =>
    refine ea_if (t := false) (TV.eq (tv_val (ev_isi2 T.bi (ev_var 1 rfl) (kit_tuple _) (kit_list _) T.bi.tuple T.bi.list rfl rfl)) rfl) (fun h => nomatch h) (fun _ => eb_nil (ea_if (t := false) (TV.eq (tv_val (ev_isi T.bi (ev_var 1 rfl) (kit_dict _) T.bi.dict rfl)) rfl) (fun h => nomatch h) (fun _ => eb_nil (ea_if (t := false) (TV.eq (tv_tw (tw_or (tv_isN (ev_var 1 rfl) ev_non) fun h1 => tw_or1 (tv_val (ev_isi T.bi (ev_var 1 rfl) (kit_str _) T.bi.str rfl)))) rfl) (fun h => nomatch h) (fun _ => eb_nil (ea_retB (ev_and (ev_isi T.bi (ev_var 0 rfl) (kit_int _) T.bi.int rfl) fun h1 => (ev_and (ev_eqB (ev_isi T.bi (ev_var 0 rfl) (kit_bool _) T.bi.bool rfl) (ev_isi T.bi (ev_var 1 rfl) (kit_bool _) T.bi.bool rfl)) fun h2 => ev_one (ev_eqD (ev_var 0 rfl) (ev_var 1 rfl) C.u64 ?_ ?_))) (eqv_num rfl)))))))
    · exact hf.ok
    · exact hd.ok
  | bool b =>
    refine ea_if (t := false) (TV.eq (tv_val (ev_isi2 T.bi (ev_var 1 rfl) (kit_tuple _) (kit_list _) T.bi.tuple T.bi.list rfl rfl)) rfl) (fun h => nomatch h) (fun _ => eb_nil (ea_if (t := false) (TV.eq (tv_val (ev_isi T.bi (ev_var 1 rfl) (kit_dict _) T.bi.dict rfl)) rfl) (fun h => nomatch h) (fun _ => eb_nil (ea_if (t := false) (TV.eq (tv_tw (tw_or (tv_isN (ev_var 1 rfl) ev_non) fun h1 => tw_or1 (tv_val (ev_isi T.bi (ev_var 1 rfl) (kit_str _) T.bi.str rfl)))) rfl) (fun h => nomatch h) (fun _ => eb_nil (ea_retB (ev_and (ev_isi T.bi (ev_var 0 rfl) (kit_int _) T.bi.int rfl) fun h1 => (ev_and (ev_eqB (ev_isi T.bi (ev_var 0 rfl) (kit_bool _) T.bi.bool rfl) (ev_isi T.bi (ev_var 1 rfl) (kit_bool _) T.bi.bool rfl)) fun h2 => ev_one (ev_eqD (ev_var 0 rfl) (ev_var 1 rfl) C.u64 ?_ ?_))) (eqv_num rfl)))))))
    · exact hf.ok
    · exact hd.ok
theorem itemless {d : PyData} (h : Shp 0 d) (hw : wideB d = true) : atomB d = true := by
  cases d with
  | list ds => obtain ⟨_, h2⟩ := h; simp only [PyData.depth] at h2; omega
  | tuple ds => obtain ⟨_, h2⟩ := h; simp only [PyData.depth] at h2; omega
  | dict _ => cases hw
  | _ => rfl
theorem getD_mem {ds : List PyData} {k : Nat} (h : k < ds.length) : ds.getD k .none ∈ ds ∧ atI ds ((k : Nat) : Int) = some (ds.getD k .none) := by
  have e : ds[k]? = some ds[k] := List.getElem?_eq_getElem h
  have e2 : ds.getD k .none = ds[k] := by rw [List.getD_eq_getElem?_getD, e]; rfl
  rw [e2]
  exact ⟨List.getElem_mem h, atI_nat e⟩
theorem eqv_empty (ks : List Nat) : PyData.eqv (.list (ks.map fun k => .int (k : Nat))) (.list []) = ks.isEmpty := by cases ks <;> rfl
theorem l_alike (T : Tops K mg) : ∀ n, n ≤ 40 → Def P w K mg base Tb (1 + n) "_law_alike" [] (Fn2 id id (fun f d => Shp (n + 9) f ∧ Shp n d ∧ wideB d = true) fun f d => .r (.d (.bool (alikeB d f)))) := by
  intro n
  induction n with
  | zero =>
    intro _
    refine def_2 T.t__law_alike sc__law_alike rfl (fun _ _ _ _ _ _ us hl => match us, hl with | [_, _], _ => rfl) ?_
    intro fa cdv A outer s H E C f d ⟨hf, hd, hw⟩
    exact EA.end (f := true) (alike_atom T C (hf.mono (by decide)) (hd.mono (by decide)) (itemless hd hw))
  | succ n ih =>
    intro hn
    have ih := ih (by omega)
    refine def_2 T.t__law_alike sc__law_alike rfl (fun _ _ _ _ _ _ us hl => match us, hl with | [_, _], _ => rfl) ?_
    intro fa cdv A outer s H E C f d ⟨hf, hd, hw⟩
    refine EA.end (f := true) ?_
    have hdi := shp_item hd
    have hfi := shp_item (n := n + 9) (by exact hf)
    cases d with
    | dict _ => cases hw
    | none => exact alike_atom T C (hf.mono (by omega)) (hd.mono (by omega)) rfl
    | str _ => exact alike_atom T C (hf.mono (by omega)) (hd.mono (by omega)) rfl
    | int _ => exact alike_atom T C (hf.mono (by omega)) (hd.mono (by omega)) rfl
    | bool _ => exact alike_atom T C (hf.mono (by omega)) (hd.mono (by omega)) rfl
    | list ds =>
      have hw2 := Bool.and_eq_true_iff.mp hw
      have hl : ds.length ≤ 100000 := of_decide_eq_true hw2.1
      have hwi := wideL_mem hw2.2
      refine ea_if (t := true) (TV.eq (tv_val (ev_isi2 T.bi (ev_var 1 rfl) (kit_tuple _) (kit_list _) T.bi.tuple T.bi.list rfl rfl)) rfl) (fun _ => eb_stop ?_) (fun h => nomatch h)
      cases f with
      | list fs =>
        refine ea_if (t := false) (TV.eq (tv_tw (tw_or (tv_not (tv_val (ev_isi2 T.bi (ev_var 0 rfl) (kit_tuple _) (kit_list _) T.bi.tuple T.bi.list rfl rfl))) fun h1 => tw_or1 (tv_neB (ev_isi T.bi (ev_var 0 rfl) (kit_list _) T.bi.list rfl) (ev_isi T.bi (ev_var 1 rfl) (kit_list _) T.bi.list rfl)))) rfl) (fun h => nomatch h) (fun _ => eb_nil (ea_if (tv_neI (ev_lenL T.bi (ev_var 0 rfl)) (ev_lenL T.bi (ev_var 1 rfl))) (fun h => eb_stop (ea_retB ev_bl ?_)) (fun h => eb_nil ?_)))
        · cases e : alikeB (.list ds) (.list fs) with
          | false => rfl
          | true =>
            have := alikeB_eq _ _ e
            cases this
            simp at h
        · have hlen : fs.length = ds.length := by
            have h : (!decide (((fs.length : Nat) : Int) = (ds.length : Nat))) = false := h
            simp at h
            omega
          refine ea_retB (ev_eqD (ev_frz (ev_lcF C [("_law_k", 2)] (iv_rangeZ T.bi (ev_lenL T.bi (ev_var 1 rfl)) ?_ ?_) (cf_mapE (xs := List.range ds.length) (en := fun k : Nat => PyData.int (k : Nat)) (f := fun k : Nat => PyData.int (k : Nat)) (c := fun k => !alikeB (ds.getD k .none) (fs.getD k .none)) rfl (fun x hx s H C' cl fp => (gw_name 2 C.nd)) (fun x hx s H C' cl fp => tvs_one (tv_not (tv_val (ev_c2 (x1 := fs.getD x .none) (x2 := ds.getD x .none) ih (C.less (show 1 + n ≤ _ from Nat.le_refl _)) (ev_ixL (ev_var 0 rfl) (ev_var 2 rfl) ?_) (ev_ixL (ev_var 1 rfl) (ev_var 2 rfl) ?_) ?_)))) (fun x hx hc s H C' cl fp => ev_var 2 rfl) rfl) ?_)) (ev_lstd (rs := []) av_nil) C.u64 ?_ ?_) ?_
          · omega
          · omega
          · exact (getD_mem (by have hx' : x < fs.length := (by rw [hlen]; exact List.mem_range.mp hx); exact hx')).2
          · exact (getD_mem (List.mem_range.mp hx)).2
          · exact ⟨hfi _ (getD_mem (by have hx' : x < fs.length := (by rw [hlen]; exact List.mem_range.mp hx); exact hx')).1, hdi _ (getD_mem (List.mem_range.mp hx)).1, hwi _ (getD_mem (List.mem_range.mp hx)).1⟩
          · rw [List.length_map]
            refine Nat.le_trans (List.length_filter_le _ _) ?_
            rw [List.length_range]
            exact Nat.le_trans hl (by decide)
          · exact (shp_lst (n := 0) fun d hd => by obtain ⟨y, hy, rfl⟩ := List.mem_map.mp hd; exact shp_int _).ok
          · rfl
          · rw [eqv_empty]
            exact (alikeL_ix hlen).symm
      | tuple fs => exact ea_if (t := true) (TV.eq (tv_tw (tw_or (tv_not (tv_val (ev_isi2 T.bi (ev_var 0 rfl) (kit_tuple _) (kit_list _) T.bi.tuple T.bi.list rfl rfl))) fun h1 => tw_or1 (tv_neB (ev_isi T.bi (ev_var 0 rfl) (kit_list _) T.bi.list rfl) (ev_isi T.bi (ev_var 1 rfl) (kit_list _) T.bi.list rfl)))) rfl) (fun _ => eb_stop (ea_retB ev_bl rfl)) (fun h => nomatch h)
      | none => exact ea_if (t := true) (TV.eq (tv_tw (tw_or (x := true) (y := false) (TV.eq (tv_not (tv_val (ev_isi2 T.bi (ev_var 0 rfl) (kit_tuple _) (kit_list _) T.bi.tuple T.bi.list rfl rfl))) rfl) (fun h => nomatch h))) rfl) (fun _ => eb_stop (ea_retB ev_bl rfl)) (fun h => nomatch h)
      | str _ => exact ea_if (t := true) (TV.eq (tv_tw (tw_or (x := true) (y := false) (TV.eq (tv_not (tv_val (ev_isi2 T.bi (ev_var 0 rfl) (kit_tuple _) (kit_list _) T.bi.tuple T.bi.list rfl rfl))) rfl) (fun h => nomatch h))) rfl) (fun _ => eb_stop (ea_retB ev_bl rfl)) (fun h => nomatch h)
      | int _ => exact ea_if (t := true) (TV.eq (tv_tw (tw_or (x := true) (y := false) (TV.eq (tv_not (tv_val (ev_isi2 T.bi (ev_var 0 rfl) (kit_tuple _) (kit_list _) T.bi.tuple T.bi.list rfl rfl))) rfl) (fun h => nomatch h))) rfl) (fun _ => eb_stop (ea_retB ev_bl rfl)) (fun h => nomatch h)
      | bool _ => exact ea_if (t := true) (TV.eq (tv_tw (tw_or (x := true) (y := false) (TV.eq (tv_not (tv_val (ev_isi2 T.bi (ev_var 0 rfl) (kit_tuple _) (kit_list _) T.bi.tuple T.bi.list rfl rfl))) rfl) (fun h => nomatch h))) rfl) (fun _ => eb_stop (ea_retB ev_bl rfl)) (fun h => nomatch h)
      | dict _ => exact ea_if (t := true) (TV.eq (tv_tw (tw_or (x := true) (y := false) (TV.eq (tv_not (tv_val (ev_isi2 T.bi (ev_var 0 rfl) (kit_tuple _) (kit_list _) T.bi.tuple T.bi.list rfl rfl))) rfl) (fun h => nomatch h))) rfl) (fun _ => eb_stop (ea_retB ev_bl rfl)) (fun h => nomatch h)
    | tuple ds =>
      have hw2 := Bool.and_eq_true_iff.mp hw
      have hl : ds.length ≤ 100000 := of_decide_eq_true hw2.1
      have hwi := wideL_mem hw2.2
      refine ea_if (t := true) (TV.eq (tv_val (ev_isi2 T.bi (ev_var 1 rfl) (kit_tuple _) (kit_list _) T.bi.tuple T.bi.list rfl rfl)) rfl) (fun _ => eb_stop ?_) (fun h => nomatch h)
      cases f with
      | tuple fs =>
        refine ea_if (t := false) (TV.eq (tv_tw (tw_or (tv_not (tv_val (ev_isi2 T.bi (ev_var 0 rfl) (kit_tuple _) (kit_list _) T.bi.tuple T.bi.list rfl rfl))) fun h1 => tw_or1 (tv_neB (ev_isi T.bi (ev_var 0 rfl) (kit_list _) T.bi.list rfl) (ev_isi T.bi (ev_var 1 rfl) (kit_list _) T.bi.list rfl)))) rfl) (fun h => nomatch h) (fun _ => eb_nil (ea_if (tv_neI (ev_lenT T.bi (ev_var 0 rfl)) (ev_lenT T.bi (ev_var 1 rfl))) (fun h => eb_stop (ea_retB ev_bl ?_)) (fun h => eb_nil ?_)))
        · cases e : alikeB (.tuple ds) (.tuple fs) with
          | false => rfl
          | true =>
            have := alikeB_eq _ _ e
            cases this
            simp at h
        · have hlen : fs.length = ds.length := by
            have h : (!decide (((fs.length : Nat) : Int) = (ds.length : Nat))) = false := h
            simp at h
            omega
          refine ea_retB (ev_eqD (ev_frz (ev_lcF C [("_law_k", 2)] (iv_rangeZ T.bi (ev_lenT T.bi (ev_var 1 rfl)) ?_ ?_) (cf_mapE (xs := List.range ds.length) (en := fun k : Nat => PyData.int (k : Nat)) (f := fun k : Nat => PyData.int (k : Nat)) (c := fun k => !alikeB (ds.getD k .none) (fs.getD k .none)) rfl (fun x hx s H C' cl fp => (gw_name 2 C.nd)) (fun x hx s H C' cl fp => tvs_one (tv_not (tv_val (ev_c2 (x1 := fs.getD x .none) (x2 := ds.getD x .none) ih (C.less (show 1 + n ≤ _ from Nat.le_refl _)) (ev_ixT (ev_var 0 rfl) (ev_var 2 rfl) ?_) (ev_ixT (ev_var 1 rfl) (ev_var 2 rfl) ?_) ?_)))) (fun x hx hc s H C' cl fp => ev_var 2 rfl) rfl) ?_)) (ev_lstd (rs := []) av_nil) C.u64 ?_ ?_) ?_
          · omega
          · omega
          · exact (getD_mem (by have hx' : x < fs.length := (by rw [hlen]; exact List.mem_range.mp hx); exact hx')).2
          · exact (getD_mem (List.mem_range.mp hx)).2
          · exact ⟨hfi _ (getD_mem (by have hx' : x < fs.length := (by rw [hlen]; exact List.mem_range.mp hx); exact hx')).1, hdi _ (getD_mem (List.mem_range.mp hx)).1, hwi _ (getD_mem (List.mem_range.mp hx)).1⟩
          · rw [List.length_map]
            refine Nat.le_trans (List.length_filter_le _ _) ?_
            rw [List.length_range]
            exact Nat.le_trans hl (by decide)
          · exact (shp_lst (n := 0) fun d hd => by obtain ⟨y, hy, rfl⟩ := List.mem_map.mp hd; exact shp_int _).ok
          · rfl
          · rw [eqv_empty]
            exact (alikeL_ix hlen).symm
      | list fs => exact ea_if (t := true) (TV.eq (tv_tw (tw_or (tv_not (tv_val (ev_isi2 T.bi (ev_var 0 rfl) (kit_tuple _) (kit_list _) T.bi.tuple T.bi.list rfl rfl))) fun h1 => tw_or1 (tv_neB (ev_isi T.bi (ev_var 0 rfl) (kit_list _) T.bi.list rfl) (ev_isi T.bi (ev_var 1 rfl) (kit_list _) T.bi.list rfl)))) rfl) (fun _ => eb_stop (ea_retB ev_bl rfl)) (fun h => nomatch h)
      | none => exact ea_if (t := true) (TV.eq (tv_tw (tw_or (x := true) (y := false) (TV.eq (tv_not (tv_val (ev_isi2 T.bi (ev_var 0 rfl) (kit_tuple _) (kit_list _) T.bi.tuple T.bi.list rfl rfl))) rfl) (fun h => nomatch h))) rfl) (fun _ => eb_stop (ea_retB ev_bl rfl)) (fun h => nomatch h)
      | str _ => exact ea_if (t := true) (TV.eq (tv_tw (tw_or (x := true) (y := false) (TV.eq (tv_not (tv_val (ev_isi2 T.bi (ev_var 0 rfl) (kit_tuple _) (kit_list _) T.bi.tuple T.bi.list rfl rfl))) rfl) (fun h => nomatch h))) rfl) (fun _ => eb_stop (ea_retB ev_bl rfl)) (fun h => nomatch h)
      | int _ => exact ea_if (t := true) (TV.eq (tv_tw (tw_or (x := true) (y := false) (TV.eq (tv_not (tv_val (ev_isi2 T.bi (ev_var 0 rfl) (kit_tuple _) (kit_list _) T.bi.tuple T.bi.list rfl rfl))) rfl) (fun h => nomatch h))) rfl) (fun _ => eb_stop (ea_retB ev_bl rfl)) (fun h => nomatch h)
      | bool _ => exact ea_if (t := true) (TV.eq (tv_tw (tw_or (x := true) (y := false) (TV.eq (tv_not (tv_val (ev_isi2 T.bi (ev_var 0 rfl) (kit_tuple _) (kit_list _) T.bi.tuple T.bi.list rfl rfl))) rfl) (fun h => nomatch h))) rfl) (fun _ => eb_stop (ea_retB ev_bl rfl)) (fun h => nomatch h)
      | dict _ => exact ea_if (t := true) (TV.eq (tv_tw (tw_or (x := true) (y := false) (TV.eq (tv_not (tv_val (ev_isi2 T.bi (ev_var 0 rfl) (kit_tuple _) (kit_list _) T.bi.tuple T.bi.list rfl rfl))) rfl) (fun h => nomatch h))) rfl) (fun _ => eb_stop (ea_retB ev_bl rfl)) (fun h => nomatch h)
end KL
namespace KL
open PySem L2 NdefX Sc PySem.W
variable {P : Program} {w : World} {K : PySem.W.Frag} {mg : Str → Option Value} {base : Heap} {Tb : List NTab}
/-! _law_texts: the texts by layers -/
def extT (lz t : Str) : List Str := lz.cps.toList.map fun c => t ++ (⟨#[c]⟩ : Str)
def growT (lz : Str) (ts : List Str) : List Str := ts.flatMap (extT lz)
def layE (lz : Str) (s : List Str × List Str) : List Str × List Str := (s.1 ++ growT lz s.2, growT lz s.2)
def layN (lz : Str) : Nat → List Str × List Str → List Str × List Str
  | 0, s => s
  | n + 1, s => layN lz n (layE lz s)
def textsL (lz : Str) (n : Nat) : List Str := (layN lz n ([""], [""])).1
theorem layN_fold (lz : Str) : ∀ (xs : List Nat) (s : List Str × List Str), xs.foldl (fun s _ => layE lz s) s = layN lz xs.length s
  | [], s => rfl
  | x :: xs, s => layN_fold lz xs _
theorem ext_len (lz t : Str) : (extT lz t).length = lz.length := by unfold extT; rw [List.length_map, len_cps]
theorem grow_len (lz : Str) (ts : List Str) : (growT lz ts).length = ts.length * lz.length := by
  unfold growT
  induction ts with
  | nil => simp
  | cons t ts ih => rw [List.flatMap_cons, List.length_append, ih, ext_len, List.length_cons, Nat.add_mul, Nat.one_mul, Nat.add_comm]
abbrev teS (lz : Str) (n : Nat) (a b c d e f : Sl) : List Sl := [.d (.str lz), .d (.int (n : Nat)), a, b, c, d, e, f]
theorem app_len (a b : Str) : (a ++ b).length = a.length + b.length := by rw [len_cps, app_cps, List.length_append, ← len_cps, ← len_cps]
theorem l_texts (T : Tops K mg) : Def P w K mg base Tb 1 "_law_texts" [] (Fn2 PyData.str (fun n : Nat => PyData.int (n : Nat)) (fun lz n => lz.length ≤ 4 ∧ n ≤ 6) fun lz n => .r (.o (.lst ((textsL lz n).map .str)))) := by
  refine def_2 T.t__law_texts sc__law_texts rfl (fun _ _ _ _ _ _ us hl => match us, hl with | [_, _], _ => rfl) ?_
  intro fa cdv A outer sh H E C lz n ⟨h4, h6⟩
  refine EA.end (f := true) ?_
  refine ea_cons (SV.eq (δ2 := teS lz n (.o (.lst (([""] : List Str).map .str))) (.o (.lst (([""] : List Str).map .str))) .no .no .no .no) (sv_par2 (i := 2) (j := 3) C.calm C.nd rfl rfl (by decide) (ao_cons (ev_lst1 ev_str) (ao_cons (ev_lst1 ev_str) ao_nil)) rfl) rfl) ?_
  refine ea_hold 3 ?_
  refine ea_cons (SV.eq (sv_forF C (iv_rangeZ T.bi (ev_var 1 rfl) ?_ ?_) (lf_fold (st := fun s : List Str × List Str => teS lz n (.o (.lst (s.1.map .str))) (.d (.list (s.2.map .str))) .no .no .no .no) (step := fun s _ => layE lz s) (fun xs s => s.1.length + s.2.length * 8 ^ xs.length ≤ 262145 ∧ ∀ t ∈ s.2, t.length + xs.length ≤ 6) ?_ (List.range n) ([""], [""]) ⟨?_, ?_⟩)) (δ2 := teS lz n (.o (.lst ((textsL lz n).map .str))) (.d (.list ((layN lz n ([""], [""])).2.map .str))) .no .no .no .no) (by rw [layN_fold, List.length_range]; rfl)) (ea_ret (ev_move 2 rfl))
  · omega
  · omega
  · intro i xs s ⟨q1, q2⟩
    rw [List.length_cons, Nat.pow_succ] at q1
    have hp : 1 ≤ 8 ^ xs.length := Nat.one_le_pow _ _ (by omega)
    have hg : (growT lz s.2).length ≤ s.2.length * 4 := by rw [grow_len]; exact Nat.mul_le_mul_left _ h4
    have hm : s.2.length ≤ s.2.length * 8 ^ xs.length := Nat.le_mul_of_pos_right _ hp
    have hm2 : (growT lz s.2).length * 8 ^ xs.length ≤ s.2.length * 4 * 8 ^ xs.length := Nat.mul_le_mul_right _ hg
    have e1 : s.2.length * 4 * 8 ^ xs.length = 4 * (s.2.length * 8 ^ xs.length) := by rw [Nat.mul_comm s.2.length 4, Nat.mul_assoc]
    have e2 : s.2.length * (8 ^ xs.length * 8) = 8 * (s.2.length * 8 ^ xs.length) := by rw [← Nat.mul_assoc, Nat.mul_comm]
    rw [e2] at q1
    have hh : s.2.length ≤ 40000 := by omega
    refine ⟨⟨?_, ?_⟩, _, (gw_name 4 C.nd).gv, ?_⟩
    · show (s.1 ++ growT lz s.2).length + _ ≤ _
      rw [List.length_append]
      show s.1.length + (growT lz s.2).length + (growT lz s.2).length * 8 ^ xs.length ≤ _
      omega
    · intro t ht
      obtain ⟨u, hu, ht⟩ := List.mem_flatMap.mp ht
      obtain ⟨c, hc, rfl⟩ := List.mem_map.mp ht
      have := q2 u hu
      rw [List.length_cons] at this
      rw [app_len]
      have : (⟨#[c]⟩ : Str).length = 1 := rfl
      omega
    refine svs_wipe (δ1 := teS lz n (.o (.lst ((layE lz s).1.map .str))) (.d (.list ((layE lz s).2.map .str))) (.d (.int (i : Nat))) (.d (.list ((growT lz s.2).map .str))) .no .no) [4, 5] ?_
    refine svs_cons (SV.eq (δ2 := teS lz n (.o (.lst (s.1.map .str))) (.d (.list (s.2.map .str))) (.d (.int (i : Nat))) (.o (.lst (([] : List Str).map .str))) .no .no) (sv_let C 5 ev_lst0) rfl) ?_
    refine svs_cons (SV.eq (sv_forF C (iv_list (ev_var 3 rfl)) (lf_fold (st := fun acc : List Str => teS lz n (.o (.lst (s.1.map .str))) (.d (.list (s.2.map .str))) (.d (.int (i : Nat))) (.o (.lst (acc.map .str))) .no .no) (step := fun acc t => acc ++ extT lz t) (fun ys acc => (∀ t ∈ ys, t ∈ s.2) ∧ acc.length + ys.length * 4 ≤ 262145) ?_ s.2 [] ⟨fun _ h => h, by rw [List.length_nil]; omega⟩)) (δ2 := teS lz n (.o (.lst (s.1.map .str))) (.d (.list (s.2.map .str))) (.d (.int (i : Nat))) (.o (.lst ((growT lz s.2).map .str))) .no .no) (by rw [foldl_app, List.nil_append]; rfl)) (svs_hold 5 ?W)
    · intro t ys acc ⟨r1, r2⟩
      have ht := q2 t (r1 t List.mem_cons_self)
      rw [List.length_cons, Nat.add_mul, Nat.one_mul] at r2
      have el := ext_len lz t
      refine ⟨⟨fun x h => r1 x (List.mem_cons_of_mem _ h), by rw [List.length_append]; omega⟩, _, (gw_name 6 C.nd).gv, ?_⟩
      refine svs_wipe (δ1 := teS lz n (.o (.lst (s.1.map .str))) (.d (.list (s.2.map .str))) (.d (.int (i : Nat))) (.o (.lst ((acc ++ extT lz t).map .str))) (.d (.str t)) .no) [6] (svs_one (SV.eq (sv_let C 5 (ev_cat (ev_frz (ev_move 5 rfl)) (ev_frz (ev_lcF C [("_law_sign", 7)] (iv_str (ev_var 0 rfl)) (cf_allE rfl (fun x hx s H C' cl fp => gw_name 7 C.nd) (fun x hx s H C' cl fp => (ev_addS (ev_var 6 rfl) (ev_var 7 rfl) ?_)) rfl) ?_)) ?_)) ?_))
      · have : (⟨#[x]⟩ : Str).length = 1 := rfl
        exact line_of (by omega)
      · rw [List.length_map, ← len_cps]
        exact line_of (by omega)
      · rw [List.length_map, List.length_map, ← len_cps]
        exact Nat.le_trans (show _ ≤ 1000000 by omega) (by decide)
      · show teS lz n (.o (.lst (s.1.map .str))) (.d (.list (s.2.map .str))) (.d (.int (i : Nat))) (.o (.lst (acc.map .str ++ lz.cps.toList.map fun x => PyData.str (t ++ (⟨#[x]⟩ : Str))))) (.d (.str t)) .no = _
        rw [List.map_append, extT, List.map_map]
        rfl
    case W =>
      refine svs_one (SV.eq (sv_par2 (i := 2) (j := 3) C.calm C.nd rfl rfl (by decide) (ao_cons (ev_cat (ev_frz (ev_move 2 rfl)) (ev_var 5 rfl) ?_) (ao_cons (ev_var 5 rfl) ao_nil)) rfl) ?_)
      · rw [List.length_map, List.length_map]
        exact Nat.le_trans (show _ ≤ 1000000 by omega) (by decide)
      · show teS lz n (.o (.lst (s.1.map .str ++ (growT lz s.2).map .str))) _ _ _ _ _ = teS lz n (.o (.lst ((s.1 ++ growT lz s.2).map .str))) _ _ _ _ _
        rw [List.map_append]
        rfl
  · rw [List.length_range]
    show 1 + 1 * 8 ^ n ≤ 262145
    have : 8 ^ n ≤ 8 ^ 6 := Nat.pow_le_pow_right (by decide) h6
    omega
  · intro t ht
    rw [List.mem_singleton.mp ht, List.length_range]
    have : ("" : Str).length = 0 := rfl
    omega
end KL
namespace KL
open PySem L2 NdefX Sc PySem.W
/-! the mended text is an end -/
theorem places_deed {ps : List Kd} {z : Str} {d : Dd} (h1 : d.2 ∈ ps) (h2 : d.1 ∈ placesN z d.2.1) : d ∈ deedsOn ps z := by
  rw [deeds_mem]
  have h3 := (places_mem h2).1
  obtain ⟨_, h4⟩ := List.mem_filter.mp h2
  exact ⟨h1, by omega, h4⟩
theorem next_none {lz : Str} {ps : List Kd} {z : Str} (hm : MenderOk lz ps) (h : nextD ps z = none) : deedsOn ps z = [] := by
  rw [List.eq_nil_iff_forall_not_mem]
  intro d hd
  obtain ⟨h1, h2, h3⟩ := deeds_mem.mp hd
  have hl := hm.less _ h1
  have h4 : d.1 < z.length := by
    rw [occP_occ] at h3
    have h4 : (z.cps.toList.drop d.1).take d.2.1.length = d.2.1.cps.toList := of_decide_eq_true h3
    have h5 := congrArg List.length h4
    rw [List.length_take, List.length_drop, ← len_cps, ← len_cps] at h5
    omega
  have h5 : d.1 ∈ placesN z d.2.1 := List.mem_filter.mpr ⟨List.mem_range.mpr h4, h3⟩
  obtain ⟨i, hi, e⟩ := List.mem_iff_getElem.mp h1
  have h6 : tri d.1 d.2.1 i ∈ toldL ps z := by
    refine List.mem_flatMap.mpr ⟨(d.2, i), ?_, List.mem_map.mpr ⟨d.1, h5, rfl⟩⟩
    exact List.mem_zipIdx_iff_getElem?.mpr (by rw [List.getElem?_eq_getElem hi, e])
  unfold nextD at h
  cases e2 : toldL ps z with
  | nil => rw [e2] at h6; cases h6
  | cons t ts => rw [e2] at h; cases h
theorem mend_end {lz : Str} {ps : List Kd} (hm : MenderOk lz ps) : ∀ (n : Nat) (z : Str), z.length ≤ n → EndOf (RL ps) z.cps.toList (mendS ps z).1.cps.toList := by
  intro n
  induction n with
  | zero =>
    intro z hz
    have h := next_zero (ps := ps) (z := z) (by omega)
    rw [mend_none h]
    exact ⟨.refl _, deeds_nil.mp (next_none hm h)⟩
  | succ n ih =>
    intro z hz
    cases h : nextD ps z with
    | none =>
      rw [mend_none h]
      exact ⟨.refl _, deeds_nil.mp (next_none hm h)⟩
    | some d =>
      rw [mend_some hm h]
      have hl := behind_less hm h
      obtain ⟨h1, h2⟩ := next_some h
      exact end_step (places_deed h1 h2) (ih (behindS z d) (by omega))
/-! the order of texts -/
def ltT (a b : Str) : Prop := a.length < b.length ∨ (a.length = b.length ∧ a.cps.toList < b.cps.toList)
theorem ltT_irr {a : Str} : ¬ ltT a a := fun h => by
  rcases h with h | ⟨_, h⟩
  · omega
  · exact List.lt_irrefl _ h
theorem ltT_asym {a b : Str} (h : ltT a b) : ¬ ltT b a := fun h2 => by
  rcases h with h | ⟨e, h⟩
  · rcases h2 with h2 | ⟨e2, _⟩ <;> omega
  · rcases h2 with h2 | ⟨_, h2⟩
    · omega
    · exact List.lt_asymm h h2
theorem leT_lt {a b : Str} (h : leT a b = true) (hne : a ≠ b) : ltT a b := by
  rw [leT_eq, Bool.not_eq_true', decide_eq_false_iff_not] at h
  by_cases q : ltT a b
  · exact q
  · refine absurd ?_ hne
    have e : a.length = b.length := nat_eq (fun h1 => q (.inl h1)) (fun h1 => h (.inl h1))
    exact str_eq (fun h1 => q (.inr ⟨e, h1⟩)) (fun h1 => h (.inr ⟨e.symm, h1⟩))
theorem sortT_lt {ts : List Str} (h : ts.Nodup) : (sortT ts).Pairwise ltT := by
  have h1 : (sortT ts).Pairwise fun a b => leT a b = true := sort_pairwise leT_total _
  have h2 : (sortT ts).Nodup := (List.mergeSort_perm _ _).nodup_iff.mpr h
  exact (List.Pairwise.and h1 h2).imp fun {a b} h => leT_lt h.1 h.2
theorem find_least {p : Str → Bool} : ∀ {L : List Str} {t : Str}, L.Pairwise ltT → t ∈ L → p t = true → (∀ u ∈ L, p u = true → ¬ ltT u t) → L.find? p = some t
  | x :: xs, t, pw, ht, hp, hm => by
    obtain ⟨h1, h2⟩ := List.pairwise_cons.mp pw
    by_cases hx : p x = true
    · rw [List.find?_cons_of_pos hx]
      rcases List.mem_cons.mp ht with e | ht
      · rw [e]
      · exact absurd (h1 t ht) (hm x List.mem_cons_self hx)
    · rw [List.find?_cons_of_neg hx]
      rcases List.mem_cons.mp ht with e | ht
      · rw [e] at hp; exact absurd hp hx
      · exact find_least h2 ht hp fun u hu => hm u (List.mem_cons_of_mem _ hu)
theorem find_min {p : Str → Bool} : ∀ {L : List Str} {t : Str}, L.Pairwise ltT → L.find? p = some t → ∀ u ∈ L, p u = true → ¬ ltT u t
  | x :: xs, t, pw, h, u, hu, hp => by
    obtain ⟨h1, h2⟩ := List.pairwise_cons.mp pw
    by_cases hx : p x = true
    · rw [List.find?_cons_of_pos hx] at h
      cases h
      rcases List.mem_cons.mp hu with e | hu
      · rw [e]; exact ltT_irr
      · exact ltT_asym (h1 u hu)
    · rw [List.find?_cons_of_neg hx] at h
      rcases List.mem_cons.mp hu with e | hu
      · rw [e] at hp; exact absurd hp hx
      · exact find_min h2 h u hu hp
/-! all texts, in order -/
theorem lex_app {a b x y : List Nat} : a.length = b.length → a < b → a ++ x < b ++ y := by
  intro hl h
  induction h with
  | nil => cases hl
  | rel h => exact .rel h
  | cons h ih => exact .cons (ih (by simpa using hl))
theorem lex_last {a : List Nat} {c d : Nat} (h : c < d) : a ++ [c] < a ++ [d] := by
  induction a with
  | nil => exact .rel h
  | cons x a ih => exact .cons ih
structure LayOk (lz : Str) (k : Nat) (s : List Str × List Str) : Prop where
  a : ∀ t, t ∈ s.1 ↔ InL lz t ∧ t.length ≤ k
  b : ∀ t, t ∈ s.2 ↔ InL lz t ∧ t.length = k
  pa : s.1.Pairwise ltT
  pb : s.2.Pairwise ltT
theorem grow_mem {lz : Str} {ts : List Str} {k : Nat} (h : ∀ t, t ∈ ts ↔ InL lz t ∧ t.length = k) (u : Str) : u ∈ growT lz ts ↔ InL lz u ∧ u.length = k + 1 := by
  unfold growT extT
  rw [List.mem_flatMap]
  constructor
  · rintro ⟨t, ht, hu⟩
    obtain ⟨c, hc, rfl⟩ := List.mem_map.mp hu
    obtain ⟨h1, h2⟩ := (h t).mp ht
    refine ⟨fun x hx => ?_, ?_⟩
    · rw [app_cps] at hx
      rcases List.mem_append.mp hx with hx | hx
      · exact h1 x hx
      · rw [List.mem_singleton.mp hx]; exact hc
    · rw [app_len, h2]
      rfl
  · rintro ⟨h1, h2⟩
    have hne : u.cps.toList ≠ [] := fun e => by
      have := len_cps u
      rw [e, List.length_nil] at this
      omega
    have e := List.dropLast_concat_getLast hne
    refine ⟨⟨u.cps.toList.dropLast.toArray⟩, (h _).mpr ⟨fun c hc => h1 c (List.dropLast_subset _ hc), ?_⟩, List.mem_map.mpr ⟨u.cps.toList.getLast hne, h1 _ (List.getLast_mem hne), str_ext ?_⟩⟩
    · rw [len_cps]
      show u.cps.toList.dropLast.length = k
      rw [List.length_dropLast, ← len_cps]
      omega
    · rw [app_cps]
      exact e
theorem grow_sorted {lz : Str} (hs : lz.cps.toList.Pairwise (· < ·)) {ts : List Str} (h : ∀ t ∈ ts, ∀ u ∈ ts, t.length = u.length) (pw : ts.Pairwise ltT) : (growT lz ts).Pairwise ltT := by
  unfold growT extT
  rw [List.pairwise_flatMap]
  refine ⟨fun t ht => ?_, ?_⟩
  · rw [List.pairwise_map]
    refine hs.imp fun {c d} hcd => .inr ⟨by rw [app_len, app_len]; rfl, ?_⟩
    rw [app_cps, app_cps]
    exact lex_last hcd
  · refine (List.Pairwise.imp_of_mem (S := fun a b => ltT a b ∧ a.length = b.length) (fun {a b} ha hb hab => ⟨hab, h a ha b hb⟩) pw).imp fun {a b} ⟨h1, h2⟩ x hx y hy => ?_
    obtain ⟨c, hc, rfl⟩ := List.mem_map.mp hx
    obtain ⟨d, hd, rfl⟩ := List.mem_map.mp hy
    rcases h1 with h1 | ⟨_, h1⟩
    · omega
    · refine .inr ⟨by rw [app_len, app_len, h2]; rfl, ?_⟩
      rw [app_cps, app_cps]
      exact lex_app (by rw [← len_cps, ← len_cps]; exact h2) h1
theorem LayOk.next {lz : Str} (hs : lz.cps.toList.Pairwise (· < ·)) {k : Nat} {s : List Str × List Str} (h : LayOk lz k s) : LayOk lz (k + 1) (layE lz s) := by
  have gm := grow_mem h.b
  refine ⟨fun t => ?_, gm, ?_, grow_sorted hs (fun t ht u hu => by rw [((h.b t).mp ht).2, ((h.b u).mp hu).2]) h.pb⟩
  · show t ∈ s.1 ++ growT lz s.2 ↔ _
    rw [List.mem_append, gm, h.a]
    constructor
    · rintro (⟨a, b⟩ | ⟨a, b⟩)
      · exact ⟨a, by omega⟩
      · exact ⟨a, by omega⟩
    · rintro ⟨a, b⟩
      by_cases q : t.length ≤ k
      · exact .inl ⟨a, q⟩
      · exact .inr ⟨a, by omega⟩
  · show (s.1 ++ growT lz s.2).Pairwise ltT
    rw [List.pairwise_append]
    refine ⟨h.pa, grow_sorted hs (fun t ht u hu => by rw [((h.b t).mp ht).2, ((h.b u).mp hu).2]) h.pb, fun a ha b hb => .inl ?_⟩
    have h1 := ((h.a a).mp ha).2
    have h2 := ((gm b).mp hb).2
    omega
theorem layN_ok {lz : Str} (hs : lz.cps.toList.Pairwise (· < ·)) : ∀ (n k : Nat) (s : List Str × List Str), LayOk lz k s → LayOk lz (k + n) (layN lz n s)
  | 0, k, s, h => h
  | n + 1, k, s, h => by
    have := layN_ok hs n (k + 1) (layE lz s) (h.next hs)
    rw [show k + 1 + n = k + (n + 1) by omega] at this
    exact this
theorem texts_ok {lz : Str} (hs : lz.cps.toList.Pairwise (· < ·)) (n : Nat) : (∀ t, t ∈ textsL lz n ↔ InL lz t ∧ t.length ≤ n) ∧ (textsL lz n).Pairwise ltT := by
  have e : ∀ t : Str, t.length = 0 → t = "" := fun t h => str_ext (by
    have := len_cps t
    rw [h] at this
    rw [List.eq_nil_of_length_eq_zero this.symm]
    rfl)
  have e2 : ("" : Str).length = 0 := rfl
  have e3 : InL lz "" := fun c hc => nomatch hc
  have h0 : LayOk lz 0 ([""], [""]) := by
    refine ⟨fun t => ?_, fun t => ?_, List.pairwise_singleton _ _, List.pairwise_singleton _ _⟩
    · rw [List.mem_singleton]
      exact ⟨fun h => by rw [h]; exact ⟨e3, by omega⟩, fun h => e t (by omega)⟩
    · rw [List.mem_singleton]
      exact ⟨fun h => by rw [h]; exact ⟨e3, e2⟩, fun h => e t h.2⟩
  have h := layN_ok hs n 0 _ h0
  rw [Nat.zero_add] at h
  exact ⟨h.a, h.pa⟩
/-! the least parted text is an overlap -/
def partB (ps : List Kd) (u : Str) : Bool := decide (1 < (endsK ps 8 u []).1.length)
theorem kn_nil (lz : Str) (ps : List Kd) : KnOk lz ps [] := ⟨List.nodup_nil, fun e he => nomatch he⟩
theorem partB_iff {lz : Str} {ps : List Kd} (hm : MenderOk lz ps) {u : Str} (hu : InL lz u) (h7 : u.length ≤ 7) : partB ps u = true ↔ Parted (RL ps) u.cps.toList := by
  unfold partB
  rw [decide_eq_true_eq]
  exact (endsK_ok hm 8 u [] (by omega) h7 hu (kn_nil lz ps)).2.parted
theorem partF_iff {lz : Str} {ps : List Kd} (h : MdOk lz ps) {t : Str} (ht : t ∈ overL ps) : decide (1 < (endsF ps t).length) = true ↔ Parted (RL ps) t.cps.toList := by
  rw [decide_eq_true_eq]
  have e := h.e ht
  exact (endsF_good h.m e.il h.ll e.zl).parted
theorem law_part {lz : Str} {ps : List Kd} (h : MdOk lz ps) (hs : lz.cps.toList.Pairwise (· < ·)) {n : Nat} (h5 : 5 ≤ n) (h7 : n ≤ 7) : (textsL lz n).find? (partB ps) = partT ps := by
  obtain ⟨hA, pA⟩ := texts_ok hs n
  have oin : ∀ t ∈ overL ps, InL lz t ∧ t.length ≤ 5 := fun t ht => ⟨(h.e ht).il, (h.e ht).zl⟩
  have pO : (overL ps).Pairwise ltT := sortT_lt (overR_nd h.m.k).1
  have both : ∀ t ∈ overL ps, (decide (1 < (endsF ps t).length) = true ↔ partB ps t = true) := fun t ht => (partF_iff h ht).trans (partB_iff h.m (oin t ht).1 (by have := (oin t ht).2; omega)).symm
  unfold partT
  cases e : (textsL lz n).find? (partB ps) with
  | none =>
    symm
    rw [List.find?_eq_none] at e ⊢
    intro t ht hp
    exact e t ((hA t).mpr ⟨(oin t ht).1, by have := (oin t ht).2; omega⟩) ((both t ht).mp hp)
  | some t =>
    symm
    have hp : partB ps t = true := List.find?_some e
    have ht := List.mem_of_find?_eq_some e
    have hmin := find_min pA e
    obtain ⟨h1, h2⟩ := (hA t).mp ht
    have hP := (partB_iff h.m h1 (by omega)).mp hp
    have ho : Ovl (RL ps) t.cps.toList := parted_ovl (A := inLz lz) (RL_less h.m) (fun p hp => (RL_in h.m.k p hp).2) h1 hP fun v hv hvl hvp => by
      have e3 : (toS v).length = v.length := by rw [len_cps, toS_list]
      have hlt : (toS v).length < t.length := by rw [e3, len_cps t]; exact hv
      refine hmin (toS v) ((hA _).mpr ⟨hvl, by omega⟩) ((partB_iff h.m (u := toS v) hvl (by omega)).mpr hvp) (.inl hlt)
    have hO := overL_mem.mpr ho
    refine find_least pO hO ((both t hO).mpr hp) fun u hu hpu => hmin u ((hA u).mpr ⟨(oin u hu).1, by have := (oin u hu).2; omega⟩) ((both u hu).mp hpu)
theorem part_none {lz : Str} {ps : List Kd} (h : MdOk lz ps) (e : partT ps = none) {u : Str} (hu : InL lz u) : ¬ Parted (RL ps) u.cps.toList := by
  refine none_parted (A := inLz lz) (RL_less h.m) (fun p hp => (RL_in h.m.k p hp).2) (fun w hw ho hp => ?_) u.cps.toList.length _ (Nat.le_refl _) hu
  have hO : toS w ∈ overL ps := overL_mem.mpr ho
  unfold partT at e
  rw [List.find?_eq_none] at e
  exact e _ hO ((partF_iff h hO).mpr hp)
end KL
namespace Sc
open PySem L2 NdefX PySem.W
section
variable {X : Cx} {T : List NTab} {scope : Scope} {vs : List Nat} {tg elt : Expr} {ifs : List Expr}
/-- a comprehension whose test changes a state -/
theorem cf_foldC {α σ : Type} {en f : α → PyData} {st : σ → List Sl} {c : α → Bool} {step : σ → α → σ} (I : List α → σ → Prop)
    (h : ∀ x xs s, I (x :: xs) s → I xs (step s x) ∧ ∃ δ1 δ2, Bl X scope (fun X => GW X T vs tg (.d (en x)) (st s) δ1) ∧ Bl X scope (fun X => TVs X T ifs δ1 (c x) δ2) ∧ (c x = true → Bl X scope (fun X => EV X T elt δ2 (.d (f x)) δ2)) ∧ wipeD δ2 vs = st (step s x)) :
    ∀ xs s, I xs s → CompF X T scope vs tg ifs elt (xs.map en) (st s) ((xs.filter c).map f) (st (xs.foldl step s))
  | [], s, _ => cf_nil
  | x :: xs, s, hI => by
    obtain ⟨h1, δ1, δ2, h2, h3, h4, h5⟩ := h x xs s hI
    have q := cf_foldC I h xs _ h1
    rw [← h5] at q
    rw [List.foldl_cons, List.map_cons]
    cases e : c x with
    | true =>
      rw [List.filter_cons_of_pos e, List.map_cons]
      rw [e] at h3
      exact cf_yes h2 h3 (h4 e) q
    | false =>
      rw [List.filter_cons_of_neg (by rw [e]; exact Bool.false_ne_true)]
      rw [e] at h3
      exact cf_no h2 h3 q
end
end Sc
namespace KL
open PySem L2 NdefX Sc PySem.W
abbrev lawK : Nat := 40
def letters24 : List Str := ["a", "ab", "ab", "abc"]
theorem letters24_ok : ∀ z ∈ letters24, z ∈ lettersL ∧ z.length ≤ 3 ∧ z.cps.toList.Pairwise (· < ·) := by decide +kernel
def most24 (lz : Str) : Nat := if decide (((lz.length : Nat) : Int) < 3) = true then 6 else 5
def partsL (ps : List Kd) (lz : Str) : List Str := (textsL lz (most24 lz)).filter (partB ps)
def stepKn (ps : List Kd) (kn : Kn) (u : Str) : Kn := (endsK ps 8 u kn).2
abbrev sl24 (sc : PyData) (r : Rw) (lz : Str) (ps : List Kd) (kn : Kn) (a b c d : Sl) : List Sl := [.d sc, .o (.lst (rwD r)), .d (.str lz), .d (kdsD ps), .o (.dk (dkK kn)), a, b, c, d]
theorem texts_shape {lz : Str} (hs : lz.cps.toList.Pairwise (· < ·)) (hl : lz.length ≤ 4) {n : Nat} (h : n ≤ 7) : (textsL lz n).length ≤ 21845 := by
  obtain ⟨h1, h2⟩ := texts_ok hs n
  refine texts_few (lz := lz) (h2.imp fun {a b} hab e => by rw [e] at hab; exact ltT_irr hab) (fun t ht => ?_) hl
  obtain ⟨a, b⟩ := (h1 t).mp ht
  exact ⟨a, by omega⟩
theorem shp_txts {lz : Str} (hl : Ok lz) {ts : List Str} (h : ∀ t ∈ ts, InL lz t) : Shp 1 (.list (ts.map .str)) := shp_lst fun x hx => by
  obtain ⟨t, ht, rfl⟩ := List.mem_map.mp hx
  exact shp_str (ok_sub hl (h t ht))
section
variable {X : Cx} {T : List NTab} {δ δ1 δ2 : List Sl} {a b : Expr} {x : Str} {p py pos : Pos}
theorem ev_ends0 {i n k : Nat} {lz : Str} {ps : List Kd} {z : Str} {kn : Kn} {s : Sl} (D : Def X.prog X.w X.K X.mg X.base T k "_law_ends" [] (EndR n)) (hr : Room k X.A) (ha : EV X T a δ (.d (kdsD ps)) δ) (hb : EV X T b δ (.d (.str z)) δ) (hs : δ[i]? = some s) (hw : s.ow = some (.dk (dkK kn))) (h1 : MdOk lz ps) (h2 : z.length < n) (h3 : z.length ≤ 7) (h4 : InL lz z) (h5 : KnOk lz ps kn)
    (hN : X.N[i]? = some x := by rfl) (hv : Vis X.env.scope x := by first | exact Or.inl rfl | exact Or.inr (Or.inl rfl) | exact Or.inr (Or.inr rfl)) (hdb : (x == ("__debug__" : Str)) = false := by decide) (hcd : (x == ("__classdict__" : Str)) = false := by decide)
    (hg : Gl X "_law_ends" := by rfl) (t0 : starEach [a, b, .Name x py] X.env = (false, eval a X.env) :: starEach [b, .Name x py] X.env := by rfl) (t1 : starEach [b, .Name x py] X.env = (false, eval b X.env) :: starEach [.Name x py] X.env := by rfl) (t2 : starEach [.Name x py] X.env = (false, eval (.Name x py) X.env) :: starEach [] X.env := by rfl) (hpl : (backTo pos (starEach [b, .Name x py] X.env)).any (·.1) = false := by rfl) :
    EV X T (.Call (.Name "_law_ends" p) [a, b, .Name x py] [] pos) δ (.d (.list ((endsK ps n z kn).1.map .str))) (δ.set i (s.put (.dk (dkK (endsK ps n z kn).2)))) := ev_ends D hr i ha hb hs hw h1 h2 h3 h4 h5 hN hv hdb hcd hg t0 t1 t2 hpl
end
theorem law_ok {w : World} {K : PySem.W.Frag} {mg : Str → Option Value} {fa : Addr} {h : Heap} (T : Tops K mg) (KX : K.In h) (td : Sc.TabledX mg "_law_deeds" h) (hm : mg "law" = some (.ref fa)) : LamX.LawAtS theRow w K (L2.CX theRow.prog w) (lawK + 1) 63 "_law_script" mg fa h := by
  obtain ⟨c, Pt, S⟩ := T.t__law_deeds
  have hc := tabled S KX td
  refine law_atT (cs := [(c, Pt)]) (T0 := [(Pt, lamQ)]) (fun p hp => by rw [List.mem_singleton.mp hp]; exact hc) (fun p hp => ⟨(c, Pt), List.mem_singleton.mpr rfl, by rw [List.mem_singleton.mp hp]⟩) T.t_law hm sc_law (fun _ _ _ _ _ _ us hl => match us, hl with | [_], _ => rfl) ?_
  intro base hK hN hTB fa cdv A outer s H E C ns hl hz
  have TB := hTB (c, Pt) (List.mem_singleton.mpr rfl)
  have Dd := fun P => l_deeds (P := P) (w := w) (T0 := [(Pt, lamQ)]) T S TB (by simp) (by simp)
  generalize theRow.prog = P at *
  refine EA.end (f := true) ?_
  show EA _ _ _ true _ [.d (.list (ns.map .int)), .no, .no, .no, .no, .no, .no, .no, .no] _
  generalize hr0 : (⟨ns, 0, 7424, 0⟩ : Rw) = r0
  have ok0 : RwOk r0 := by rw [← hr0]; exact rw_start hl (by decide) (by decide)
  refine ea_cons (SV.eq (δ2 := [.d (.list (ns.map .int)), .o (.lst (rwD r0)), .no, .no, .no, .no, .no, .no, .no]) (sv_let C 1 (ev_lst4 (ev_var 0 rfl) ev_int ev_int ev_int)) (by rw [← hr0]; rfl)) ?_
  obtain ⟨pl1, ok1, _⟩ := pickS_ok (zs := letters24) ok0 (by decide)
  refine ea_cons (SV.eq (δ2 := [.d (.list (ns.map .int)), .o (.lst (rwD (pickS r0 letters24).2)), .d (.str (pickS r0 letters24).1), .no, .no, .no, .no, .no, .no]) (sv_let C 2 (ev_l1 (l_pickS T) (x1 := letters24) (C.less (by decide)) 1 (ev_lstd4 ev_str ev_str ev_str ev_str) ?_)) rfl) ?_
  · exact ⟨ok0, by decide, by decide⟩
  generalize pickS r0 letters24 = lr at pl1 ok1
  obtain ⟨lz, r1⟩ := lr
  obtain ⟨pl2, l3, srt⟩ := letters24_ok lz pl1
  have L := LetOk.of pl2
  obtain ⟨ok3, mk, mn, ml⟩ := menderL_ok ok1 L.ne
  have hM : MenderOk lz (menderL r1 lz).1 := mender_of (Nat.le_trans ml (by decide)) mn mk
  refine ea_cons (SV.eq (δ2 := sl24 (.list (ns.map .int)) (menderL r1 lz).2 lz (menderL r1 lz).1 [] .no .no .no .no) (sv_parT (is := [3, 4]) C.calm C.nd (ao_cons (ev_l1 (l_mender T) (C.less (by decide)) 1 (ev_var 2 rfl) ?_) (ao_cons ev_dnil ao_nil)) (.cons rfl (by first | exact .inl rfl | exact .inr rfl) (by first | exact .inl rfl | exact .inr rfl) rfl (.cons rfl (by first | exact .inl rfl | exact .inr rfl) (by first | exact .inl rfl | exact .inr rfl) rfl .nil))) rfl) ?_
  · exact ⟨ok1, L.ne, Nat.le_trans L.ll (by decide), L.ok⟩
  generalize (menderL r1 lz).1 = ps at *
  generalize (menderL r1 lz).2 = r3 at *
  have MD : MdOk lz ps := ⟨hM, L.ok, L.ll⟩
  have n5 : 5 ≤ most24 lz := by unfold most24; split <;> omega
  have n6 : most24 lz ≤ 6 := by unfold most24; split <;> omega
  have few := texts_shape srt L.ll (Nat.le_trans n6 (by decide))
  obtain ⟨tmem, tsrt⟩ := texts_ok srt (most24 lz)
  have Ed := l_ends (P := P) (w := w) T (Dd P) 8
  have K1 : KnOk lz ps ((textsL lz (most24 lz)).foldl (stepKn ps) []) := by
    have key : ∀ (us : List Str) (kn : Kn), (∀ u ∈ us, u ∈ textsL lz (most24 lz)) → KnOk lz ps kn → KnOk lz ps (us.foldl (stepKn ps) kn) := by
      intro us
      induction us with
      | nil => exact fun kn _ h => h
      | cons u us ih =>
        intro kn hu hk
        obtain ⟨a, b⟩ := (tmem u).mp (hu u List.mem_cons_self)
        exact ih _ (fun x hx => hu x (List.mem_cons_of_mem _ hx)) (endsK_ok hM 8 u kn (by omega) (by omega) a hk).1
    exact key _ [] (fun _ h => h) (kn_nil lz ps)
  refine ea_cons (SV.eq (δ2 := sl24 (.list (ns.map .int)) r3 lz ps ((textsL lz (most24 lz)).foldl (stepKn ps) []) (.o (.lst ((partsL ps lz).map .str))) .no .no .no) (sv_setLcF C [("_law_text_here", 7)] 5 (iv_list (ev_frz (ev_c2 (l_texts T) (C.less (by decide)) (x1 := lz) (x2 := most24 lz) (ev_var 2 rfl) (ev_if (tv_ltI (ev_lenS T.bi (ev_var 2 rfl) ?_) ev_int) (fun h => EV.eq ev_int (by unfold most24; rw [if_pos h]; rfl)) (fun h => EV.eq ev_int (by unfold most24; rw [if_neg (by rw [h]; exact Bool.false_ne_true)]; rfl))) ?_))) (cf_foldC (en := PyData.str) (f := PyData.str) (c := partB ps) (st := fun kn : Kn => sl24 (.list (ns.map .int)) r3 lz ps kn .no .no .no .no) (step := stepKn ps) (fun us kn => (∀ u ∈ us, u ∈ textsL lz (most24 lz)) ∧ KnOk lz ps kn) ?_ (textsL lz (most24 lz)) [] ⟨fun _ h => h, kn_nil lz ps⟩) ?_) rfl) ?_
  · exact line_of (Nat.le_trans L.ll (by decide))
  · exact ⟨L.ll, n6⟩
  · intro u us kn ⟨q1, q2⟩
    obtain ⟨a, b⟩ := (tmem u).mp (q1 u List.mem_cons_self)
    have g := endsK_ok hM 8 u kn (by omega) (by omega) a q2
    refine ⟨⟨fun x hx => q1 x (List.mem_cons_of_mem _ hx), g.1⟩, sl24 (.list (ns.map .int)) r3 lz ps kn .no .no (.d (.str u)) .no, sl24 (.list (ns.map .int)) r3 lz ps (stepKn ps kn u) .no .no (.d (.str u)) .no, fun s H C' cl fp => gw_name 7 C.nd, fun s H C' cl fp => tvs_one (TV.eq (tv_gtI (ev_lenL T.bi (ev_ends0 (i := 4) Ed (C.less (by decide)) (ev_var 3 rfl) (ev_var 7 rfl) rfl rfl MD (by omega) (by omega) a q2)) ev_int) ?_), fun _ s H C' cl fp => ev_var 7 rfl, rfl⟩
    rw [List.length_map]
    have e : 1 < (endsK ps 8 u kn).1.length ↔ partB ps u = true := g.2.parted.trans (partB_iff hM a (by omega)).symm
    have e2 : decide (((1 : Nat) : Int) < ((endsK ps 8 u kn).1.length : Nat)) = decide (partB ps u = true) := decide_eq_decide.mpr (by rw [← e]; omega)
    refine e2.trans ?_
    cases partB ps u <;> rfl
  · rw [List.length_map]
    exact Nat.le_trans (Nat.le_trans (List.length_filter_le _ _) few) (by decide)
  generalize (textsL lz (most24 lz)).foldl (stepKn ps) [] = kn at K1
  refine ea_hold 5 ?_
  have due : (partsL ps lz).head? = partT ps := by
    unfold partsL
    rw [List.head?_filter]
    exact law_part MD srt n5 (Nat.le_trans n6 (by decide))
  have pin : ∀ t ∈ partsL ps lz, InL lz t := fun t ht => ((tmem t).mp (List.mem_filter.mp ht).1).1
  have pfew : (partsL ps lz).length ≤ 21845 := Nat.le_trans (List.length_filter_le _ _) few
  have pshp : Shp 1 (.list ((partsL ps lz).map .str)) := shp_txts L.ok pin
  generalize partsL ps lz = pts at due pin pfew pshp
  refine ea_cons (SV.eq (δ2 := sl24 (.list (ns.map .int)) r3 lz ps kn (.d (.list (pts.map .str))) (.d (ansT (partT ps))) .no .no) (sv_let C 6 (ev_if (t := !pts.isEmpty) (TV.eq (tv_neD (ev_var 5 rfl) ev_lstd0 C.u64 ?_ ?_) ?_) (fun h => EV.eq (d' := ansT (partT ps)) (ev_ixL (d := ansT (partT ps)) (ev_var 5 rfl) ev_int ?_) rfl) (fun h => EV.eq ev_non ?_))) rfl) ?_
  · exact pshp.ok
  · rfl
  · cases pts <;> rfl
  · cases pts with
    | nil => cases h
    | cons t ts =>
      rw [← due]
      exact atI_nat (j := 0) rfl
  · cases pts with
    | nil => rw [← due]; rfl
    | cons t ts => cases h
  have ash : Shp 0 (ansT (partT ps)) ∧ wideB (ansT (partT ps)) = true ∧ isNone (ansT (partT ps)) = (partT ps).isNone := by
    cases e : partT ps with
    | none => exact ⟨⟨rfl, Nat.le_refl _⟩, rfl, rfl⟩
    | some t =>
      rw [e] at due
      exact ⟨shp_str (ok_sub L.ok (pin t (List.mem_of_mem_head? due))), rfl, rfl⟩
  have lsh : Shp 1 (.list [ansT (partT ps), .bool (partT ps).isNone]) := shp_lst fun x hx => by
    rcases List.mem_cons.mp hx with rfl | hx
    · exact ash.1
    · rw [List.mem_singleton.mp hx]
      exact ⟨rfl, Nat.le_refl _⟩
  have lw : wideB (.list [ansT (partT ps), .bool (partT ps).isNone]) = true := by
    show (decide (2 ≤ 100000) && (wideB (ansT (partT ps)) && (wideB (.bool _) && true))) = true
    rw [ash.2.1]
    rfl
  refine ea_if (t := false) (TV.eq (tv_not (tv_val (ev_c2 (l_alike T 3 (by decide)) (C.less (by decide)) (ev_lstd2 (ev_c2 (d_overlap T) (C.less (by decide)) (ev_var 2 rfl) (ev_var 3 rfl) ?_) (ev_c2 (d_is_one_way T) (C.less (by decide)) (ev_var 2 rfl) (ev_var 3 rfl) ?_)) (ev_lstd2 (ev_var 6 rfl) (ev_isN (ev_var 6 rfl) ev_non)) ?_))) ?_) (fun h => nomatch h) (fun _ => eb_nil ?_)
  · exact ⟨MD, L.lt⟩
  · exact ⟨MD, L.lt⟩
  · rw [ash.2.2]
    exact ⟨lsh.mono (by decide), lsh.mono (by decide), lw⟩
  · rw [ash.2.2, alikeB_self _ lw]
    rfl
  obtain ⟨ok4, tl, ti⟩ := textR_ok (m := 7) ok3 L.ne (by decide)
  refine ea_cons (SV.eq (δ2 := sl24 (.list (ns.map .int)) (textR r3 lz 7).2 lz ps kn (.d (.list (pts.map .str))) (.d (ansT (partT ps))) (.d (.str (textR r3 lz 7).1)) .no) (sv_let C 7 (ev_l2 (l_text T) (C.less (by decide)) 1 (ev_var 2 rfl) ev_int ?_)) rfl) ?_
  · exact ⟨ok3, L.ne, Nat.le_trans L.ll (by decide), by decide, by decide⟩
  generalize (textR r3 lz 7).1 = z at *
  generalize (textR r3 lz 7).2 = r4 at *
  have hz7 : z.length ≤ 7 := Int.ofNat_le.mp tl
  have g := endsK_ok hM 8 z kn (by omega) hz7 ti K1
  refine ea_cons (SV.eq (δ2 := sl24 (.list (ns.map .int)) r4 lz ps (endsK ps 8 z kn).2 (.d (.list (pts.map .str))) (.d (ansT (partT ps))) (.d (.str z)) (.d (.list ((endsK ps 8 z kn).1.map .str)))) (sv_let C 8 (ev_ends0 (i := 4) Ed (C.less (by decide)) (ev_var 3 rfl) (ev_var 7 rfl) rfl rfl MD (by omega) hz7 ti K1)) rfl) ?_
  have me := mend_end hM z.length z (Nat.le_refl _)
  refine ea_retB (ev_and (ev_inD (ev_c3 (m_mended T) (C.less (by decide)) (ev_var 2 rfl) (ev_var 3 rfl) (ev_var 7 rfl) ?_) (ev_var 8 rfl) C.u65 ?_ ?_) fun h1 => ev_one (ev_or (ev_notN (ev_var 6 rfl) ev_non) fun h2 => ev_one (ev_eqI (ev_lenL T.bi (ev_var 8 rfl)) ev_int))) ?_
  · exact ⟨L.lt, L.ll, hM, text_of ti (by omega)⟩
  · exact (shp_str (ok_sub L.ok (end_il hM ti me).1)).ok
  · exact (shp_txts L.ok fun t ht => (end_il hM ti ((g.2.mem t).mp ht)).1).ok
  · have h1 : ((endsK ps 8 z kn).1.map PyData.str).any (fun y => PyData.eqv y (.str (mendS ps z).1)) = true := by
      rw [List.any_eq_true]
      exact ⟨_, List.mem_map.mpr ⟨_, (g.2.mem _).mpr me, rfl⟩, by simp [PyData.eqv]⟩
    rw [h1, Bool.true_and, ash.2.2, List.length_map]
    cases e : partT ps with
    | some t => rfl
    | none =>
      have h2 : ¬ 1 < (endsK ps 8 z kn).1.length := fun q => part_none MD e ti (g.2.parted.mp q)
      have h3 := g.2.ne hM
      have h4 : (endsK ps 8 z kn).1.length ≠ 0 := fun q => h3 (List.length_eq_zero_iff.mp q)
      have h5 : (((endsK ps 8 z kn).1.length : Nat) : Int) = 1 := by omega
      rw [decide_eq_true h5, Bool.or_true]
end KL
open PySem PySem.W PyProof.Rows in
set_option maxRecDepth 100000 in
set_option maxHeartbeats 0 in
theorem PySem.Challenge.cw_anyscribe_k24_one_way_exactly_holds : PySem.Challenge.rw_anyscribe_k24_one_way_exactly.Holds := by
  w_on; o_law; k_head; (case hw => w_witness2)
  k_fill
  refine Sc.law_walkT (l := PySem.Challenge.rw_anyscribe_k24_one_way_exactly) (k := KL.lawK) (x := "_law_script") (Tp := KL.Tops) rfl rfl ⟨rfl, by decide, by decide⟩ (fun w h Y => by first | exact PySem.W.kIn_of Y | exact Y.1) ?F fun w K mg fa h T KX tabs hm => KL.law_ok T KX (tabs "_law_deeds" (by decide +kernel)) hm
  case F =>
    intro w mg fa h KX G hmg
    refine' KL.tops_mk KX G ?a0 ?l0 ?c0 ?k0 ?a1 ?l1 ?c1 ?k1 ?a2 ?l2 ?c2 ?k2 ?d2 ?a3 ?l3 ?c3 ?k3 ?a4 ?l4 ?c4 ?k4 ?a5 ?l5 ?c5 ?k5 ?a6 ?l6 ?c6 ?k6 ?a7 ?l7 ?c7 ?k7 ?a8 ?l8 ?c8 ?k8 ?a9 ?l9 ?c9 ?k9 ?a10 ?l10 ?c10 ?k10 ?a11 ?l11 ?c11 ?k11 ?a12 ?l12 ?c12 ?k12 ?a13 ?l13 ?c13 ?k13 ?a14 ?l14 ?c14 ?k14 ?a15 ?l15 ?c15 ?k15 ?a16 ?l16 ?c16 ?k16 ?a17 ?l17 ?c17 ?k17 ?a18 ?l18 ?c18 ?k18 ?a19 ?l19 ?c19 ?k19 ?a20 ?l20 ?c20 ?k20 ?a21 ?l21 ?c21 ?k21 ?a22 ?l22 ?c22 ?k22 ?a23 ?l23 ?c23 ?k23 ?a24 ?l24 ?c24 ?k24 ?a25 ?l25 ?c25 ?k25 ?a26 ?l26 ?c26 ?k26 ?a27 ?l27 ?c27 ?k27 ?a28 ?l28 ?c28 ?k28 ?t28 ?u28 ?o28 ?a29 ?l29 ?c29 ?k29 ?a30 ?l30 ?c30 ?k30 ?a31 ?l31 ?c31 ?k31 ?a32 ?l32 ?c32 ?k32 ?gg0 ?gg1 ?gg2 ?gg3 ?z_len ?z_all ?z_any ?z_isinstance ?z_int ?z_str ?z_bool ?z_tuple ?z_list ?z_dict ?z_set ?z_range ?z_enumerate ?z_zip ?z_max ?z_min ?z_sum ?z_sorted
    (case a0 => k_is)
    (case l0 => k_is)
    (case c0 => k_is)
    (case k0 => k_is)
    (case a1 => k_is)
    (case l1 => k_is)
    (case c1 => k_is)
    (case k1 => k_is)
    (case a2 => k_is)
    (case l2 => k_is)
    (case c2 => k_is)
    (case k2 => k_is)
    (case d2 => k_is)
    (case a3 => k_is)
    (case l3 => k_is)
    (case c3 => k_is)
    (case k3 => k_is)
    (case a4 => k_is)
    (case l4 => k_is)
    (case c4 => k_is)
    (case k4 => k_is)
    (case a5 => k_is)
    (case l5 => k_is)
    (case c5 => k_is)
    (case k5 => k_is)
    (case a6 => k_is)
    (case l6 => k_is)
    (case c6 => k_is)
    (case k6 => k_is)
    (case a7 => k_is)
    (case l7 => k_is)
    (case c7 => k_is)
    (case k7 => k_is)
    (case a8 => k_is)
    (case l8 => k_is)
    (case c8 => k_is)
    (case k8 => k_is)
    (case a9 => k_is)
    (case l9 => k_is)
    (case c9 => k_is)
    (case k9 => k_is)
    (case a10 => k_is)
    (case l10 => k_is)
    (case c10 => k_is)
    (case k10 => k_is)
    (case a11 => k_is)
    (case l11 => k_is)
    (case c11 => k_is)
    (case k11 => k_is)
    (case a12 => k_is)
    (case l12 => k_is)
    (case c12 => k_is)
    (case k12 => k_is)
    (case a13 => k_is)
    (case l13 => k_is)
    (case c13 => k_is)
    (case k13 => k_is)
    (case a14 => k_is)
    (case l14 => k_is)
    (case c14 => k_is)
    (case k14 => k_is)
    (case a15 => k_is)
    (case l15 => k_is)
    (case c15 => k_is)
    (case k15 => k_is)
    (case a16 => k_is)
    (case l16 => k_is)
    (case c16 => k_is)
    (case k16 => k_is)
    (case a17 => k_is)
    (case l17 => k_is)
    (case c17 => k_is)
    (case k17 => k_is)
    (case a18 => k_is)
    (case l18 => k_is)
    (case c18 => k_is)
    (case k18 => k_is)
    (case a19 => k_is)
    (case l19 => k_is)
    (case c19 => k_is)
    (case k19 => k_is)
    (case a20 => k_is)
    (case l20 => k_is)
    (case c20 => k_is)
    (case k20 => k_is)
    (case a21 => k_is)
    (case l21 => k_is)
    (case c21 => k_is)
    (case k21 => k_is)
    (case a22 => k_is)
    (case l22 => k_is)
    (case c22 => k_is)
    (case k22 => k_is)
    (case a23 => k_is)
    (case l23 => k_is)
    (case c23 => k_is)
    (case k23 => k_is)
    (case a24 => k_is)
    (case l24 => k_is)
    (case c24 => k_is)
    (case k24 => k_is)
    (case a25 => k_is)
    (case l25 => k_is)
    (case c25 => k_is)
    (case k25 => k_is)
    (case a26 => k_is)
    (case l26 => k_is)
    (case c26 => k_is)
    (case k26 => k_is)
    (case a27 => k_is)
    (case l27 => k_is)
    (case c27 => k_is)
    (case k27 => k_is)
    (case a28 => k_is)
    (case l28 => k_is)
    (case c28 => k_is)
    (case k28 => k_is)
    (case t28 => k_is)
    (case u28 => rfl)
    (case o28 => first | k_is | rfl | kernel_rfl | decide +kernel)
    (case a29 => k_is)
    (case l29 => k_is)
    (case c29 => k_is)
    (case k29 => k_is)
    (case a30 => k_is)
    (case l30 => k_is)
    (case c30 => k_is)
    (case k30 => k_is)
    (case a31 => k_is)
    (case l31 => k_is)
    (case c31 => k_is)
    (case k31 => k_is)
    (case a32 => k_is)
    (case l32 => k_is)
    (case c32 => k_is)
    (case k32 => k_is)
    (case gg0 => k_is)
    (case gg1 => k_is)
    (case gg2 => k_is)
    (case gg3 => k_is)
    (case z_len => k_is)
    (case z_all => k_is)
    (case z_any => k_is)
    (case z_isinstance => k_is)
    (case z_int => k_is)
    (case z_str => k_is)
    (case z_bool => k_is)
    (case z_tuple => k_is)
    (case z_list => k_is)
    (case z_dict => k_is)
    (case z_set => k_is)
    (case z_range => k_is)
    (case z_enumerate => k_is)
    (case z_zip => k_is)
    (case z_max => k_is)
    (case z_min => k_is)
    (case z_sum => k_is)
    (case z_sorted => k_is)
