import PyProof.Rows.All
import Wide.All
import OpenK.AllK
import Wide.FinOn
import HandS.Words
import HandS.WordsList
import HandS.WordsExc
import HandS.Evl
import HandS.Lambda
import HandS.ExcCtx
import HandS.IsInst
import HandS.Wide
import KE.GoesComp
import KE.GoesMore
import PyProof.SumWalkG
import HandS.HotCalls
import HandS.ExcIs
import HandS.Deep
import HandS.Defaults
import HandS.EndTab
import HandS.HeadWalk
import HandS.Head0
import HandS.Head1
import HandS.Head2
import HandS.HeadHook1
import HandS.HeadHook2
import HandS.HeadHook3
import HandS.HeadHook4
import KE.KTupSum
import HandS.SortInts
import HandS.Style
import HandS.SetFor
import HandS.TupAny
import HandS.Strs
import PyProof.P3In
import KE.DataMinMax
import KE.SortData
import HandS.TupSets
import HandS.Dict
import HandS.Text
import OpenK.KOps
import KE.GoesEnum
import PyProof.StrOps2
import PySem.Challenge.RW_knotropes_k21_errors_apart
set_option Elab.async false
set_option linter.all false
set_option maxRecDepth 100000
set_option maxHeartbeats 4000000
/-! DL: a layer over the hand layer in which values are plain data -/
namespace DL
open PySem PySem.Spec PyProof.Rows L2

abbrev D := PyData
abbrev Tb := List (Addr × Str)
/-- not a table -/
def NT (o : HO) : Prop := ∀ ps, o ≠ .tbl ps
theorem nt_lst {xs} : NT (.lst xs) := fun _ h => by cases h
theorem nt_tup {xs} : NT (.tup xs) := fun _ h => by cases h
theorem nt_ext {p} : NT (.ext p) := fun _ h => by cases h
theorem nt_dK {p} : NT (.dK p) := fun _ h => by cases h
theorem nt_ins {a b c} : NT (.ins a b c) := fun _ h => by cases h
theorem nt_own {a} : NT (.own a) := fun _ h => by cases h
theorem nt_set {a b} : NT (.set a b) := fun _ h => by cases h
theorem nt_frz {a b} : NT (.frz a b) := fun _ h => by cases h

/-- no list, no table -/
def Fix (o : HO) : Prop := NT o ∧ (∀ xs, o ≠ .lst xs) ∧ ∀ a b c, o ≠ .ins a b c
theorem fix_ext {p} : Fix (.ext p) := ⟨nt_ext, (fun _ h => by cases h), (fun _ _ _ h => by cases h)⟩
/-- the order of abstract heaps: all but the tables stays -/
structure Le (T : Tb) (H H' : Hp) : Prop where
  h : ∀ b o, H b = some o → NT o → H' b = some o
  t : LamX.Tabs T H → LamX.Tabs T H'
theorem Le.refl (T : Tb) (H : Hp) : Le T H H := ⟨fun _ _ h _ => h, fun h => h⟩
theorem Le.trans {T : Tb} {H H1 H2 : Hp} (a : Le T H H1) (b : Le T H1 H2) : Le T H H2 :=
  ⟨fun c o h n => b.h c o (a.h c o h n) n, fun h => b.t (a.t h)⟩
theorem Le.of {T : Tb} {H H' : Hp} (e : ∀ b o, H b = some o → H' b = some o) : Le T H H' :=
  ⟨fun b o h _ => e b o h, fun h => LamX.Tabs.ext h e⟩
/-- nothing stands there, or a table -/
def Fr (H : Hp) (b : Addr) : Prop := ∀ o, H b = some o → ¬ NT o
theorem fr_none {H : Hp} {b : Addr} (h : H b = none) : Fr H b := fun o e => by
  rw [h] at e
  cases e
theorem Le.fr {T : Tb} {H H' : Hp} {b : Addr} (l : Le T H H') (h : Fr H' b) : Fr H b := fun o e n => h o (l.h b o e n) n
theorem fr_ne {H : Hp} {a b : Addr} {o : HO} (h : H a = some o) (n : NT o) (f : Fr H b) : a ≠ b := fun z => f o (z ▸ h) n
theorem Le.new {T : Tb} {H : Hp} {p : Addr} {o : HO} (h : H p = none) : Le T H (upd H p o) := .of (Evl.Ex.new h)

/-- G: the part of H that never changes (data) -/
def Sub (G H : Hp) : Prop := ∀ b o, G b = some o → H b = some o ∧ NT o
structure Stp (T : Tb) (G H G' H' : Hp) : Prop where
  le : Le T H H'
  g : Evl.Ex G G'
  s : Sub G' H'
  n : ∀ b o, G b = none → H b = some o → NT o → G' b = none
section
variable {T : Tb} {G H G1 H1 G2 H2 : Hp} {p : Addr} {o : HO}
theorem Stp.refl (h : Sub G H) : Stp T G H G H := ⟨.refl T H, Evl.Ex.refl G, h, fun _ _ h _ _ => h⟩
theorem Stp.trans (a : Stp T G H G1 H1) (b : Stp T G1 H1 G2 H2) : Stp T G H G2 H2 :=
  ⟨a.le.trans b.le, a.g.trans b.g, b.s, fun c o h1 h2 h3 => b.n c o (a.n c o h1 h2 h3) (a.le.h c o h2 h3) h3⟩
theorem Stp.keep (s : Sub G H) (l : Le T H H1) : Stp T G H G H1 := ⟨l, Evl.Ex.refl G, fun b o h => ⟨l.h b o (s b o h).1 (s b o h).2, (s b o h).2⟩, fun _ _ h _ _ => h⟩
theorem Sub.none (s : Sub G H) (h : H p = none) : G p = none := by
  cases q : G p with
  | none => rfl
  | some o =>
    rw [(s p o q).1] at h
    cases h
theorem Stp.new (s : Sub G H) (h : H p = none) (n : NT o) : Stp T G H (upd G p o) (upd H p o) := by
  refine ⟨.new h, Evl.Ex.new (s.none h), fun b u e => ?_, fun b u h1 h2 _ => ?_⟩
  · by_cases hb : b = p
    · subst hb
      rw [upd_same] at e ⊢
      cases e
      exact ⟨rfl, n⟩
    · rw [upd_ne hb] at e ⊢
      exact s b u e
  · rw [upd_ne (ne_of_none h2 h)]
    exact h1
end

theorem tabs_mut {T : Tb} {H : Hp} {p : Addr} {xs : List V} {o : HO} (h : H p = some (.lst xs)) (t : LamX.Tabs T H) : LamX.Tabs T (upd H p o) := fun q hq => by
  obtain ⟨ps, h1, h2, h3⟩ := t q hq
  have n1 : q.1 ≠ p := fun z => by
    rw [z, h] at h1
    cases h1
  refine ⟨ps, by rw [upd_ne n1]; exact h1, h2, fun pos cv hc => ?_⟩
  obtain ⟨c, e1, e2⟩ := h3 pos cv hc
  have n2 : c ≠ p := fun z => by
    rw [z, h] at e2
    unfold LamX.CodeO at e2
    cases e2
  exact ⟨c, e1, by rw [upd_ne n2]; exact e2⟩
/-- a list that is not among the old ones changes -/
theorem Stp.mut {T : Tb} {G H G1 H1 : Hp} {p : Addr} {xs ys : List V} (a : Stp T G H G1 H1) (h0 : Fr H p) (h1 : H1 p = some (.lst xs)) (hg : G1 p = none) : Stp T G H G1 (upd H1 p (.lst ys)) := by
  refine ⟨⟨fun b o e n => ?_, fun t => tabs_mut h1 (a.le.t t)⟩, a.g, fun b o e => ?_, a.n⟩
  · rw [upd_ne (fr_ne e n h0)]
    exact a.le.h b o e n
  · rw [upd_ne (ne_of_none e hg)]
    exact a.s b o e
/-! ### data in a heap -/
mutual
theorem dp_mono {K : PySem.W.Frag} {G G' : Hp} (e : Evl.Ex G G') : ∀ (d : D) (v : V), Dp K G v d → Dp K G' v d
  | .none, _, .non => .non
  | .bool _, _, .bl b => .bl b
  | .int _, _, .int i => .int i
  | .str _, _, .str x => .str x
  | .list ds, _, .lst s a => .lst (Evl.ex_l e s) (dpa_mono e ds _ a)
  | .tuple ds, _, .tup s a => .tup (Evl.ex_t e s) (dpa_mono e ds _ a)
theorem dpa_mono {K : PySem.W.Frag} {G G' : Hp} (e : Evl.Ex G G') : ∀ (ds : List D) (vs : List V), DpAll K G vs ds → DpAll K G' vs ds
  | [], _, .nil => .nil
  | d :: ds, _, .cons a b => .cons (dp_mono e d _ a) (dpa_mono e ds _ b)
end
theorem dpa_len {K : PySem.W.Frag} {G : Hp} : ∀ {vs : List V} {ds : List D}, DpAll K G vs ds → vs.length = ds.length
  | _, _, .nil => rfl
  | _, _, .cons _ b => by rw [List.length_cons, List.length_cons, dpa_len b]
theorem dpa_get {K : PySem.W.Frag} {G : Hp} : ∀ {vs : List V} {ds : List D} {i : Nat} {v : V}, DpAll K G vs ds → vs[i]? = some v → ∃ d, ds[i]? = some d ∧ Dp K G v d
  | _, _, _, _, .nil, e => by simp at e
  | _, _, 0, _, .cons a _, e => by
    simp at e
    subst e
    exact ⟨_, rfl, a⟩
  | _, _, i + 1, v, .cons _ b, e => by
    obtain ⟨d, h1, h2⟩ := dpa_get (i := i) (v := v) b (by simpa using e)
    exact ⟨d, by simpa using h1, h2⟩
theorem dpa_at {K : PySem.W.Frag} {G : Hp} : ∀ {vs : List V} {ds : List D} {i : Nat} {d : D}, DpAll K G vs ds → ds[i]? = some d → ∃ v, vs[i]? = some v ∧ Dp K G v d
  | _, _, _, _, .nil, e => by simp at e
  | _, _, 0, _, .cons a _, e => by
    simp at e
    subst e
    exact ⟨_, rfl, a⟩
  | _, _, i + 1, v, .cons _ b, e => by
    obtain ⟨d, h1, h2⟩ := dpa_at (i := i) (d := v) b (by simpa using e)
    exact ⟨d, by simpa using h1, h2⟩
theorem dpa_app {K : PySem.W.Frag} {G : Hp} : ∀ {vs ws : List V} {ds es : List D}, DpAll K G vs ds → DpAll K G ws es → DpAll K G (vs ++ ws) (ds ++ es)
  | _, _, _, _, .nil, h => h
  | _, _, _, _, .cons a b, h => .cons a (dpa_app b h)

/-! ### slots -/
/-- a thing told by a reading that bears what others do -/
structure GSl where
  R : Hp → Hp → Option V → Prop
  mono : ∀ {T : Tb} {G H G1 H1 : Hp} {w : Option V}, Stp T G H G1 H1 → R G H w → R G1 H1 w
  stab : ∀ {G H : Hp} {w : Option V} {q : Addr} {vs ys : List V}, H q = some (.lst vs) → R G H w → R G (upd H q (.lst ys)) w
  stbD : ∀ {G H : Hp} {w : Option V} {q : Addr} {vs ys : List (Key × V)}, H q = some (.dK vs) → R G H w → R G (upd H q (.dK ys)) w
  frz : ∀ {G H : Hp} {w : Option V} {q : Addr} {vs : List V}, G q = none → H q = some (.lst vs) → R G H w → R (upd G q (.lst vs)) H w
inductive Sl where
  /-- data -/
  | dat (d : D)
  /-- a value as it is -/
  | raw (v : V)
  /-- an object that is tracked and stays -/
  | obj (a : Addr) (o : HO)
  /-- a list of one's own: it may change -/
  | own (xs : List D)
  /-- a dict of ints of one's own -/
  | dct (kvs : List (Int × Int))
  | gen (g : GSl)
  | no
def dKV (q : Int × Int) : Key × V := (Sum.inl q.1, V.int q.2)
@[simp] def Sl.isOwn : Sl → Bool
  | .dat _ => false
  | .raw _ => false
  | .obj _ _ => false
  | .own _ => true
  | .dct _ => true
  | .gen _ => false
  | .no => false
abbrev NoO (s : Sl) : Prop := s.isOwn = false
theorem NoO.ne {s : Sl} (h : NoO s) (ys : List D) : s ≠ .own ys := fun e => by
  rw [e] at h
  cases h
theorem NoO.nd {s : Sl} (h : NoO s) (ys : List (Int × Int)) : s ≠ .dct ys := fun e => by
  rw [e] at h
  cases h
def SlR (K : PySem.W.Frag) (H0 G H : Hp) : Sl → Option V → Prop
  | .dat d, w => ∃ v, w = some v ∧ Dp K G v d
  | .raw v, w => w = some v
  | .obj a o, w => w = some (.ref a) ∧ H a = some o ∧ Fix o
  | .own xs, w => ∃ p vs, w = some (.ref p) ∧ G p = none ∧ Fr H0 p ∧ H p = some (.lst vs) ∧ DpAll K G vs xs
  | .dct kvs, w => ∃ p, w = some (.ref p) ∧ G p = none ∧ Fr H0 p ∧ H p = some (.dK (kvs.map dKV))
  | .gen g, w => g.R G H w
  | .no, _ => True
structure Fx where
  G0 : Hp
  H0 : Hp
  R : Str → Prop
structure EnvR (T : Tb) (K : PySem.W.Frag) (f : Fx) (Γ : List Sl) (σ : L2.St) (G H : Hp) : Prop where
  st : Stp T f.G0 f.H0 G H
  sl : ∀ (i : Nat) (s : Sl), Γ[i]? = some s → ∃ w, σ[i]? = some w ∧ SlR K f.H0 G H s w
  ln : Γ.length = σ.length
section
variable {T : Tb} {K : PySem.W.Frag} {f : Fx} {Γ : List Sl} {σ : L2.St} {G H G1 H1 : Hp}
theorem slR_mono {H0 : Hp} {s : Sl} {w : Option V} (st : Stp T G H G1 H1) (h : SlR K H0 G H s w) : SlR K H0 G1 H1 s w := by
  cases s with
  | dat d =>
    obtain ⟨v, e, h⟩ := h
    exact ⟨v, e, dp_mono st.g _ _ h⟩
  | raw v => exact h
  | obj a o =>
    obtain ⟨e, h, n⟩ := h
    exact ⟨e, st.le.h _ _ h n.1, n⟩
  | own xs =>
    obtain ⟨p, vs, e, h1, h2, h3, h4⟩ := h
    exact ⟨p, vs, e, st.n p _ h1 h3 nt_lst, h2, st.le.h _ _ h3 nt_lst, dpa_mono st.g _ _ h4⟩
  | dct kvs =>
    obtain ⟨p, e, h1, h2, h3⟩ := h
    exact ⟨p, e, st.n p _ h1 h3 nt_dK, h2, st.le.h _ _ h3 nt_dK⟩
  | gen g => exact g.mono st h
  | no => trivial
theorem EnvR.step (h : EnvR T K f Γ σ G H) (st : Stp T G H G1 H1) : EnvR T K f Γ σ G1 H1 :=
  ⟨h.st.trans st, fun i s e => by
    obtain ⟨w, e1, q⟩ := h.sl i s e
    exact ⟨w, e1, slR_mono st q⟩, h.ln⟩
theorem EnvR.sub (h : EnvR T K f Γ σ G H) : Sub G H := h.st.s
theorem EnvR.dat {i : Nat} {d : D} (h : EnvR T K f Γ σ G H) (e : Γ[i]? = some (.dat d)) : ∃ v, σ[i]? = some (some v) ∧ Dp K G v d := by
  obtain ⟨w, e1, v, e2, q⟩ := h.sl i _ e
  exact ⟨v, by rw [e1, e2], q⟩
theorem EnvR.raw {i : Nat} {v : V} (h : EnvR T K f Γ σ G H) (e : Γ[i]? = some (.raw v)) : σ[i]? = some (some v) := by
  obtain ⟨w, e1, e2⟩ := h.sl i _ e
  rw [e1]
  exact congrArg some e2
theorem EnvR.obj {i : Nat} {a : Addr} {o : HO} (h : EnvR T K f Γ σ G H) (e : Γ[i]? = some (.obj a o)) : σ[i]? = some (some (.ref a)) ∧ H a = some o ∧ Fix o := by
  obtain ⟨w, e1, e2, q⟩ := h.sl i _ e
  exact ⟨by rw [e1, e2], q⟩
theorem EnvR.own {i : Nat} {xs : List D} (h : EnvR T K f Γ σ G H) (e : Γ[i]? = some (.own xs)) : ∃ p vs, σ[i]? = some (some (.ref p)) ∧ G p = none ∧ Fr f.H0 p ∧ H p = some (.lst vs) ∧ DpAll K G vs xs := by
  obtain ⟨w, e1, p, vs, e2, q⟩ := h.sl i _ e
  exact ⟨p, vs, by rw [e1, e2], q⟩
theorem EnvR.dct {i : Nat} {kvs : List (Int × Int)} (h : EnvR T K f Γ σ G H) (e : Γ[i]? = some (.dct kvs)) : ∃ p, σ[i]? = some (some (.ref p)) ∧ G p = none ∧ Fr f.H0 p ∧ H p = some (.dK (kvs.map dKV)) := by
  obtain ⟨w, e1, p, e2, q⟩ := h.sl i _ e
  exact ⟨p, by rw [e1, e2], q⟩
/-- a slot is set -/
theorem EnvR.set {i : Nat} {s : Sl} {w : Option V} (h : EnvR T K f Γ σ G H) (q : SlR K f.H0 G H s w) (hl : i < Γ.length) : EnvR T K f (Γ.set i s) (σ.set i w) G H := by
  refine ⟨h.st, fun j u e => ?_, by rw [List.length_set, List.length_set]; exact h.ln⟩
  by_cases hj : i = j
  · subst hj
    have hi : i < Γ.length := by
      have := (List.getElem?_eq_some_iff.mp e).1
      rwa [List.length_set] at this
    rw [List.getElem?_set_self hi] at e
    cases e
    exact ⟨w, List.getElem?_set_self (by rw [← h.ln]; exact hl), q⟩
  · rw [List.getElem?_set_ne hj] at e
    obtain ⟨w', e1, q1⟩ := h.sl j u e
    exact ⟨w', by rw [List.getElem?_set_ne hj]; exact e1, q1⟩
/-- less is known -/
theorem EnvR.weak {Γ' : List Sl} (h : EnvR T K f Γ σ G H) (w : ∀ (i : Nat) (s : Sl), Γ'[i]? = some s → s = .no ∨ Γ[i]? = some s) (hl : Γ'.length = Γ.length) : EnvR T K f Γ' σ G H :=
  ⟨h.st, fun i s e => by
    rcases w i s e with z | z
    · subst z
      have hi : i < σ.length := by
        rw [← h.ln, ← hl]
        exact (List.getElem?_eq_some_iff.mp e).1
      exact ⟨_, List.getElem?_eq_getElem hi, trivial⟩
    · exact h.sl i s z, hl.trans h.ln⟩
end

/-! ### judgements -/
section
variable (T : Tb) (X : Cx) (f : Fx) (Γ : List Sl)
def EP2 (pins : List (Addr × Obj)) (σ : L2.St) (G H : Hp) (Q : D → Prop) (u : Value) (s' : Shared) : Prop :=
  ∃ v d G' H', Inv X pins σ H' s' ∧ RelV v u ∧ Stp T G H G' H' ∧ Dp X.K G' v d ∧ Q d
/-- the expression gives data d with Q d -/
structure WE (e : Expr) (Q : D → Prop) : Prop where
  run : ∀ (pins : List (Addr × Obj)) (s : Shared) (σ : L2.St) (G H : Hp), Inv X pins σ H s → EnvR T X.K f Γ σ G H →
  wpAny (model X.prog X.w) X.A (eval e X.env) (EP2 T X pins σ G H Q) X.xe s
abbrev DE (e : Expr) (d : D) : Prop := WE T X f Γ e fun z => z = d
def TP2 (pins : List (Addr × Obj)) (σ : L2.St) (G H : Hp) (Q : Bool → Prop) (b : Bool) (s' : Shared) : Prop :=
  ∃ G' H', Inv X pins σ H' s' ∧ Stp T G H G' H' ∧ Q b
structure WT (e : Expr) (Q : Bool → Prop) : Prop where
  run : ∀ (pins : List (Addr × Obj)) (s : Shared) (σ : L2.St) (G H : Hp), Inv X pins σ H s → EnvR T X.K f Γ σ G H →
  wpAny (model X.prog X.w) X.A (isTrue e X.env (eval e X.env)) (TP2 T X pins σ G H Q) X.xe s
abbrev DT (e : Expr) (b : Bool) : Prop := WT T X f Γ e fun z => z = b
/-- arguments -/
def AR (K : PySem.W.Frag) (G H : Hp) : List V → List Sl → Prop
  | [], [] => True
  | v :: vs, a :: as => SlR K (fun _ => none) G H a (some v) ∧ AR K G H vs as
  | _, _ => False
def SP2 (pins : List (Addr × Obj)) (G : Hp) (N : List Sl → Prop) (Rt : D → Prop) (fl : Flow) (s' : Shared) : Prop :=
  match fl with
  | .next => ∃ Γ' σ' G' H', Inv X pins σ' H' s' ∧ EnvR T X.K f Γ' σ' G' H' ∧ Evl.Ex G G' ∧ N Γ'
  | .ret u => ∃ v d σ' G' H', Inv X pins σ' H' s' ∧ RelV v u ∧ Stp T f.G0 f.H0 G' H' ∧ Dp X.K G' v d ∧ Rt d
  | .brk => False
  | .cont => False
structure WS (st : Stmt) (N : List Sl → Prop) (Rt : D → Prop) : Prop where
  run : ∀ (pins : List (Addr × Obj)) (s : Shared) (σ : L2.St) (G H : Hp), Inv X pins σ H s → EnvR T X.K f Γ σ G H →
  wpAny (model X.prog X.w) X.A (exec st X.env) (SP2 T X f pins G N Rt) X.xe s
structure WSs (st : List Stmt) (N : List Sl → Prop) (Rt : D → Prop) : Prop where
  run : ∀ (pins : List (Addr × Obj)) (s : Shared) (σ : L2.St) (G H : Hp), Inv X pins σ H s → EnvR T X.K f Γ σ G H →
  wpAny (model X.prog X.w) X.A (execs st X.env) (SP2 T X f pins G N Rt) X.xe s
end
instance {T : Tb} {X : Cx} {f : Fx} {Γ : List Sl} {e : Expr} {Q : D → Prop} : CoeFun (WE T X f Γ e Q) (fun _ => ∀ (pins : List (Addr × Obj)) (s : Shared) (σ : L2.St) (G H : Hp), Inv X pins σ H s → EnvR T X.K f Γ σ G H → wpAny (model X.prog X.w) X.A (eval e X.env) (EP2 T X pins σ G H Q) X.xe s) := ⟨WE.run⟩
instance {T : Tb} {X : Cx} {f : Fx} {Γ : List Sl} {e : Expr} {Q : Bool → Prop} : CoeFun (WT T X f Γ e Q) (fun _ => ∀ (pins : List (Addr × Obj)) (s : Shared) (σ : L2.St) (G H : Hp), Inv X pins σ H s → EnvR T X.K f Γ σ G H → wpAny (model X.prog X.w) X.A (isTrue e X.env (eval e X.env)) (TP2 T X pins σ G H Q) X.xe s) := ⟨WT.run⟩
instance {T : Tb} {X : Cx} {f : Fx} {Γ : List Sl} {st : Stmt} {N : List Sl → Prop} {Rt : D → Prop} : CoeFun (WS T X f Γ st N Rt) (fun _ => ∀ (pins : List (Addr × Obj)) (s : Shared) (σ : L2.St) (G H : Hp), Inv X pins σ H s → EnvR T X.K f Γ σ G H → wpAny (model X.prog X.w) X.A (exec st X.env) (SP2 T X f pins G N Rt) X.xe s) := ⟨WS.run⟩
instance {T : Tb} {X : Cx} {f : Fx} {Γ : List Sl} {st : List Stmt} {N : List Sl → Prop} {Rt : D → Prop} : CoeFun (WSs T X f Γ st N Rt) (fun _ => ∀ (pins : List (Addr × Obj)) (s : Shared) (σ : L2.St) (G H : Hp), Inv X pins σ H s → EnvR T X.K f Γ σ G H → wpAny (model X.prog X.w) X.A (execs st X.env) (SP2 T X f pins G N Rt) X.xe s) := ⟨WSs.run⟩
section
variable {T : Tb} {X : Cx} {f : Fx} {Γ : List Sl} {e a b : Expr} {Q Q' : D → Prop} {t : TE}
/-- what is wanted behind data -/
abbrev Wnt (T : Tb) (X : Cx) (G H : Hp) (Q : D → Prop) (QQ : VK) : Prop := ∀ v d G' H', Stp T G H G' H' → Dp X.K G' v d → Q d → QQ v H'
def rd (T : Tb) (X : Cx) (f : Fx) (Γ : List Sl) (Q : D → Prop) : TE := fun σ H QQ => ∃ G, EnvR T X.K f Γ σ G H ∧ Wnt T X G H Q QQ
theorem WE.pe (h : WE T X f Γ e Q) : PE X e (rd T X f Γ Q) := ⟨fun pins s σ H QQ I ⟨G, en, k⟩ => thn (h pins s σ G H I en) fun u s' ⟨v, d, G', H', I', r, st, dp, q⟩ => ⟨v, H', I', r, k v d G' H' st dp q⟩⟩
theorem WE.of (h : PE X e t) (k : ∀ σ G H QQ, EnvR T X.K f Γ σ G H → Wnt T X G H Q QQ → t σ H QQ) : WE T X f Γ e Q := .mk fun pins s σ G H I en =>
  thn (h.run pins s σ H (fun v H' => ∃ d G', Stp T G H G' H' ∧ Dp X.K G' v d ∧ Q d) I (k σ G H _ en fun v d G' H' st dp q => ⟨d, G', st, dp, q⟩)) fun u s' ⟨v, H', I', r, d, G', st, dp, q⟩ => ⟨v, d, G', H', I', r, st, dp, q⟩
theorem WE.mono (h : WE T X f Γ e Q) (k : ∀ d, Q d → Q' d) : WE T X f Γ e Q' := .mk fun pins s σ G H I en =>
  thn (h pins s σ G H I en) fun u s' ⟨v, d, G', H', I', r, st, dp, q⟩ => ⟨v, d, G', H', I', r, st, dp, k d q⟩
theorem DE.we {d : D} (h : DE T X f Γ e d) (q : Q d) : WE T X f Γ e Q := h.mono fun _ z => z ▸ q
theorem DE.is {d d' : D} (h : DE T X f Γ e d) (q : d = d') : DE T X f Γ e d' := q ▸ h
/-- whatever it gives -/
def best (T : Tb) (X : Cx) (f : Fx) (Γ : List Sl) (e : Expr) : TE := fun σ H QQ => ∃ Q, WE T X f Γ e Q ∧ rd T X f Γ Q σ H QQ
theorem pe_best : PE X e (best T X f Γ e) := ⟨fun pins s σ H QQ I ⟨_, h, q⟩ => (h.pe).run pins s σ H QQ I q⟩
def rdT (T : Tb) (X : Cx) (f : Fx) (Γ : List Sl) (Q : Bool → Prop) : TT := fun σ H QQ => ∃ G, EnvR T X.K f Γ σ G H ∧ ∀ b G' H', Stp T G H G' H' → Q b → QQ b H'
theorem WT.pt {Q : Bool → Prop} (h : WT T X f Γ e Q) : PT X e (rdT T X f Γ Q) := ⟨fun pins s σ H QQ I ⟨G, en, k⟩ => thn (h pins s σ G H I en) fun b s' ⟨G', H', I', st, q⟩ => ⟨H', I', k b G' H' st q⟩⟩
theorem WT.of {Q : Bool → Prop} {t : TT} (h : PT X e t) (k : ∀ σ G H QQ, EnvR T X.K f Γ σ G H → (∀ b G' H', Stp T G H G' H' → Q b → QQ b H') → t σ H QQ) : WT T X f Γ e Q := .mk fun pins s σ G H I en =>
  thn (h.run pins s σ H (fun b H' => ∃ G', Stp T G H G' H' ∧ Q b) I (k σ G H _ en fun b G' H' st q => ⟨G', st, q⟩)) fun b s' ⟨H', I', G', st, q⟩ => ⟨G', H', I', st, q⟩
theorem WT.mono {Q Q' : Bool → Prop} (h : WT T X f Γ e Q) (k : ∀ b, Q b → Q' b) : WT T X f Γ e Q' := .mk fun pins s σ G H I en =>
  thn (h pins s σ G H I en) fun b s' ⟨G', H', I', st, q⟩ => ⟨G', H', I', st, k b q⟩
theorem DT.is {b b' : Bool} (h : DT T X f Γ e b) (q : b = b') : DT T X f Γ e b' := q ▸ h
end
end DL
set_option Elab.async false
set_option linter.all false
set_option maxRecDepth 100000
set_option maxHeartbeats 4000000
namespace DL
open PySem PySem.Spec PyProof.Rows L2
section
variable {T : Tb} {X : Cx} {f : Fx} {Γ : List Sl} {e a b c : Expr} {es : List Expr} {Q Qa Qb : D → Prop} {pos : Pos} {i j k : Int} {x y z d : D}
/-! ### names, constants -/
theorem de_var {n : Nat} {y : Str} (h : Γ[n]? = some (.dat d)) (hN : X.N[n]? = some y) (hv : Vis X.env.scope y) (hd : (y == ("__debug__" : Str)) = false := by decide) (hcd : (y == ("__classdict__" : Str)) = false := by decide) : DE T X f Γ (.Name y pos) d :=
  .of (pe_var hN hv hd hcd) fun σ G H QQ en w => by
    obtain ⟨v, e, dp⟩ := en.dat h
    exact ⟨v, e, w v d G H (.refl en.sub) dp rfl⟩
theorem de_int {i j} : DE T X f Γ (.Constant (.int i) j pos) (.int i) := .of pe_int fun σ G H QQ en w => w _ _ G H (.refl en.sub) (.int i) rfl
theorem de_bl {b j} : DE T X f Γ (.Constant (.bool b) j pos) (.bool b) := .of pe_bl fun σ G H QQ en w => w _ _ G H (.refl en.sub) (.bl b) rfl
theorem de_non {j} : DE T X f Γ (.Constant .none j pos) .none := .of pe_non fun σ G H QQ en w => w _ _ G H (.refl en.sub) .non rfl
theorem de_str {x j} : DE T X f Γ (.Constant (.str x) j pos) (.str x) := .of pe_str fun σ G H QQ en w => w _ _ G H (.refl en.sub) (.str x) rfl
/-! ### two operands -/
theorem we_op {r : R2} (hp : PE X e (tOp r (rd T X f Γ Qa) (rd T X f Γ Qb))) (hr : ∀ x y G H v w QQ, Qa x → Qb y → Sub G H → Dp X.K G v x → Dp X.K G w y → Wnt T X G H Q QQ → r v w H QQ) : WE T X f Γ e Q :=
  .of hp fun σ G H QQ en w => ⟨G, en, fun v1 d1 G1 H1 s1 p1 q1 => ⟨G1, en.step s1, fun v2 d2 G2 H2 s2 p2 q2 =>
    hr d1 d2 G2 H2 v1 v2 QQ q1 q2 s2.s (dp_mono s2.g _ _ p1) p2 fun v d G' H' st dp q => w v d G' H' ((s1.trans s2).trans st) dp q⟩⟩
theorem de_op {r : R2} (hp : PE X e (tOp r (rd T X f Γ (fun w => w = x)) (rd T X f Γ (fun w => w = y)))) (hr : ∀ G H v w QQ, Sub G H → Dp X.K G v x → Dp X.K G w y → Wnt T X G H (fun w => w = z) QQ → r v w H QQ) : DE T X f Γ e z :=
  we_op hp fun x' y' G H v w QQ e1 e2 s d1 d2 k => by
    subst e1 e2
    exact hr G H v w QQ s d1 d2 k
theorem de_opI {C : Int → Int → Prop} {g : Int → Int → V} (hp : PE X e (tOp (rI C g) (rd T X f Γ (fun w => w = .int i)) (rd T X f Γ (fun w => w = .int j)))) (hc : C i j) (hg : ∀ (K : PySem.W.Frag) (G : Hp), Dp K G (g i j) z) : DE T X f Γ e z :=
  de_op hp fun G H v w QQ s d1 d2 k => by
    cases d1
    cases d2
    exact ⟨i, j, rfl, rfl, hc, k _ _ G H (.refl s) (hg _ _) rfl⟩
theorem de_opI0 {g : Int → Int → V} (hp : PE X e (tOp (rI0 g) (rd T X f Γ (fun w => w = .int i)) (rd T X f Γ (fun w => w = .int j)))) (hg : ∀ (K : PySem.W.Frag) (G : Hp), Dp K G (g i j) z) : DE T X f Γ e z :=
  de_op hp fun G H v w QQ s d1 d2 k => by
    cases d1
    cases d2
    exact ⟨i, j, rfl, rfl, k _ _ G H (.refl s) (hg _ _) rfl⟩
variable (ha : DE T X f Γ a (.int i)) (hb : DE T X f Γ b (.int j))
theorem de_add (ha : DE T X f Γ a (.int i)) (hb : DE T X f Γ b (.int j)) : DE T X f Γ (.BinOp a .Add b pos) (.int (i + j)) := de_opI0 (pe_op op_add ha.pe hb.pe) fun _ _ => .int _
theorem de_sub (ha : DE T X f Γ a (.int i)) (hb : DE T X f Γ b (.int j)) : DE T X f Γ (.BinOp a .Sub b pos) (.int (i - j)) := de_opI0 (pe_op op_sub ha.pe hb.pe) fun _ _ => .int _
theorem de_mul (ha : DE T X f Γ a (.int i)) (hb : DE T X f Γ b (.int j)) (hc : CMul i j) : DE T X f Γ (.BinOp a .Mult b pos) (.int (i * j)) := de_opI (pe_op op_mul ha.pe hb.pe) hc fun _ _ => .int _
theorem de_fdiv (ha : DE T X f Γ a (.int i)) (hb : DE T X f Γ b (.int j)) (hc : CDiv i j) : DE T X f Γ (.BinOp a .FloorDiv b pos) (.int (i / j)) := de_opI (pe_op op_fdiv ha.pe hb.pe) hc fun _ _ => .int _
theorem de_mod (ha : DE T X f Γ a (.int i)) (hb : DE T X f Γ b (.int j)) (hc : 0 < j) : DE T X f Γ (.BinOp a .Mod b pos) (.int (i % j)) := de_opI (pe_op op_mod ha.pe hb.pe) hc fun _ _ => .int _
theorem de_pow (ha : DE T X f Γ a (.int i)) (hb : DE T X f Γ b (.int j)) (hc : CPow i j) : DE T X f Γ (.BinOp a .Pow b pos) (.int (i ^ j.toNat)) := de_opI (pe_op op_pow ha.pe hb.pe) hc fun _ _ => .int _
theorem de_neg (ha : DE T X f Γ a (.int i)) : DE T X f Γ (.UnaryOp .USub a pos) (.int (-i)) := .of (pe_un un_neg ha.pe) fun σ G H QQ en w => ⟨G, en, fun v d G' H' st dp q => by
  subst q
  cases dp
  exact ⟨i, rfl, w _ _ G' H' st (.int _) rfl⟩⟩
/-! ### comparisons of ints -/
theorem de_cmp {op : CmpOp} {p : Int → Int → Bool} (ho : OpR X (compareOp op) (rI0 fun i j => .bl (p i j))) (ha : DE T X f Γ a (.int i)) (hb : DE T X f Γ b (.int j)) (hm : behindInMarks op b = false) : DE T X f Γ (.Compare a [op] [b] pos) (.bool (p i j)) :=
  de_opI0 (pe_cmpR ho ha.pe hb.pe hm) fun _ _ => .bl _
theorem op_eqI : OpR X (compareOp .Eq) (rI0 fun i j => .bl (decide (i = j))) := opB0 fun _ _ _ _ _ _ _ q => eq_int (by rw [Bool.beq_eq_decide_eq]; exact q)
theorem op_neI : OpR X (compareOp .NotEq) (rI0 fun i j => .bl (!decide (i = j))) := opB0 fun _ _ _ _ _ _ _ q => ne_int (by rw [bne, Bool.beq_eq_decide_eq]; exact q)
theorem de_lt (ha : DE T X f Γ a (.int i)) (hb : DE T X f Γ b (.int j)) : DE T X f Γ (.Compare a [.Lt] [b] pos) (.bool (decide (i < j))) := de_cmp op_lt ha hb (nomark _)
theorem de_le (ha : DE T X f Γ a (.int i)) (hb : DE T X f Γ b (.int j)) : DE T X f Γ (.Compare a [.LtE] [b] pos) (.bool (decide (i ≤ j))) := de_cmp op_le ha hb (nomark _)
theorem de_gt (ha : DE T X f Γ a (.int i)) (hb : DE T X f Γ b (.int j)) : DE T X f Γ (.Compare a [.Gt] [b] pos) (.bool (decide (j < i))) := de_cmp op_gt ha hb (nomark _)
theorem de_ge (ha : DE T X f Γ a (.int i)) (hb : DE T X f Γ b (.int j)) : DE T X f Γ (.Compare a [.GtE] [b] pos) (.bool (decide (j ≤ i))) := de_cmp op_ge ha hb (nomark _)
theorem de_eqI (ha : DE T X f Γ a (.int i)) (hb : DE T X f Γ b (.int j)) : DE T X f Γ (.Compare a [.Eq] [b] pos) (.bool (decide (i = j))) := de_cmp op_eqI ha hb (nomark _)
theorem de_neI (ha : DE T X f Γ a (.int i)) (hb : DE T X f Γ b (.int j)) : DE T X f Γ (.Compare a [.NotEq] [b] pos) (.bool (!decide (i = j))) := de_cmp op_neI ha hb (nomark _)
/-- == of data -/
theorem de_eq (ha : DE T X f Γ a x) (hb : DE T X f Γ b y) (hu : X.A.units + 64 < cLine) (hx : SeqAt.shaped x = true) (hy : SeqAt.shaped y = true) : DE T X f Γ (.Compare a [.Eq] [b] pos) (.bool (PyData.eqv x y)) :=
  de_op (pe_cmpR (op_eqD hu) ha.pe hb.pe (nomark _)) fun G H v w QQ s d1 d2 k => ⟨x, y, dp_mono (fun b o h => (s b o h).1) _ _ d1, dp_mono (fun b o h => (s b o h).1) _ _ d2, hx, hy, k _ _ G H (.refl s) (.bl _) rfl⟩
theorem de_ne (ha : DE T X f Γ a x) (hb : DE T X f Γ b y) (hu : X.A.units + 64 < cLine) (hx : SeqAt.shaped x = true) (hy : SeqAt.shaped y = true) : DE T X f Γ (.Compare a [.NotEq] [b] pos) (.bool (!PyData.eqv x y)) :=
  de_op (pe_cmpR (op_neD hu) ha.pe hb.pe (nomark _)) fun G H v w QQ s d1 d2 k => ⟨x, y, dp_mono (fun b o h => (s b o h).1) _ _ d1, dp_mono (fun b o h => (s b o h).1) _ _ d2, hx, hy, k _ _ G H (.refl s) (.bl _) rfl⟩
/-- is None -/
def isN : D → Bool
  | .none => true
  | _ => false
theorem dp_non {K : PySem.W.Frag} {G : Hp} {v : V} {d : D} (h : Dp K G v d) : decide (v = .non) = isN d := by
  cases h <;> rfl
theorem de_isN {j p} (ha : DE T X f Γ a x) : DE T X f Γ (.Compare a [.Is] [.Constant .none j p] pos) (.bool (isN x)) :=
  de_op (y := .none) (pe_cmpR op_isN ha.pe de_non.pe (nomark _)) fun G H v w QQ s d1 d2 k => by
    cases d2
    refine ⟨rfl, ?_⟩
    rw [dp_non d1]
    exact k _ _ G H (.refl s) (.bl _) rfl
theorem de_notN {j p} (ha : DE T X f Γ a x) : DE T X f Γ (.Compare a [.IsNot] [.Constant .none j p] pos) (.bool (!isN x)) :=
  de_op (y := .none) (pe_cmpR op_notN ha.pe de_non.pe (nomark _)) fun G H v w QQ s d1 d2 k => by
    cases d2
    refine ⟨rfl, ?_⟩
    rw [dp_non d1]
    exact k _ _ G H (.refl s) (.bl _) rfl
/-! ### and, or, not, if: as values -/
theorem de_one {op} (h : WE T X f Γ a Q) : WE T X f Γ (.BoolOp op [a] pos) Q := .of (pe_one h.pe) fun σ G H QQ en w => ⟨G, en, w⟩
variable {rest : List Expr} {p q : Bool}
theorem de_and (ha : DE T X f Γ a (.bool p)) (hb : p = true → DE T X f Γ (.BoolOp .And (b :: rest) pos) (.bool q)) : DE T X f Γ (.BoolOp .And (a :: b :: rest) pos) (.bool (p && q)) :=
  .of (pe_and ha.pe (pe_best (T := T) (f := f) (Γ := Γ))) fun σ G H QQ en w => ⟨G, en, fun v d G' H' st dp e => by
    subst e
    cases dp
    refine ⟨p, rfl, ?_⟩
    cases p with
    | true => exact ⟨_, hb rfl, G', en.step st, fun v d G2 H2 st2 dp q => w v d G2 H2 (st.trans st2) dp q⟩
    | false => exact w _ _ G' H' st (.bl _) rfl⟩
theorem de_or (ha : DE T X f Γ a (.bool p)) (hb : p = false → DE T X f Γ (.BoolOp .Or (b :: rest) pos) (.bool q)) : DE T X f Γ (.BoolOp .Or (a :: b :: rest) pos) (.bool (p || q)) :=
  .of (pe_or ha.pe (pe_best (T := T) (f := f) (Γ := Γ))) fun σ G H QQ en w => ⟨G, en, fun v d G' H' st dp e => by
    subst e
    cases dp
    refine ⟨p, rfl, ?_⟩
    cases p with
    | false => exact ⟨_, hb rfl, G', en.step st, fun v d G2 H2 st2 dp q => w v d G2 H2 (st.trans st2) dp q⟩
    | true => exact w _ _ G' H' st (.bl _) rfl⟩
theorem de_not (ha : DE T X f Γ a (.bool p)) : DE T X f Γ (.UnaryOp .Not a pos) (.bool (!p)) :=
  .of (pe_not ha.pe) fun σ G H QQ en w => ⟨G, en, fun v d G' H' st dp e => by
    subst e
    cases dp
    exact ⟨p, rfl, w _ _ G' H' st (.bl _) rfl⟩⟩
theorem we_if {Qc : Bool → Prop} (hc : WT T X f Γ c Qc) (ha : Qc true → WE T X f Γ a Q) (hb : Qc false → WE T X f Γ b Q) : WE T X f Γ (.IfExp c a b pos) Q :=
  .of (pe_ifExp hc.pt (pe_best (T := T) (f := f) (Γ := Γ)) (pe_best (T := T) (f := f) (Γ := Γ))) fun σ G H QQ en w => ⟨G, en, fun v G' H' st e => by
    cases v with
    | true => exact ⟨_, ha e, G', en.step st, fun v d G2 H2 st2 dp q => w v d G2 H2 (st.trans st2) dp q⟩
    | false => exact ⟨_, hb e, G', en.step st, fun v d G2 H2 st2 dp q => w v d G2 H2 (st.trans st2) dp q⟩⟩
theorem de_if (hc : DT T X f Γ c p) (ha : p = true → DE T X f Γ a d) (hb : p = false → DE T X f Γ b d) : DE T X f Γ (.IfExp c a b pos) d := we_if hc (fun e => ha e.symm) (fun e => hb e.symm)
/-! ### tests -/
theorem wt_val (h : WE T X f Γ e fun d => ∃ b, d = .bool b ∧ Qc b) (he : ∀ whole, isTrue e X.env whole = (do let v ← whole; standAt e.pos; holding [v] (truthy v)) := by intro _; rfl) : WT T X f Γ e Qc :=
  .of (pt_val h.pe he) fun σ G H QQ en w => ⟨G, en, fun v d G' H' st dp ⟨b, e, q⟩ => by
    subst e
    cases dp
    exact ⟨b, rfl, w _ G' H' st q⟩⟩
theorem dt_val (h : DE T X f Γ e (.bool p)) (he : ∀ whole, isTrue e X.env whole = (do let v ← whole; standAt e.pos; holding [v] (truthy v)) := by intro _; rfl) : DT T X f Γ e p := wt_val (h.mono fun d e => ⟨p, e, rfl⟩) he
theorem dt_op {r : R2} {op : CmpOp} (ho : OpR X (compareOp op) r) (ha : DE T X f Γ a x) (hb : DE T X f Γ b y) (hm : behindInMarks op b = false)
    (hr : ∀ G H v w QQ, Sub G H → Dp X.K G v x → Dp X.K G w y → Wnt T X G H (fun w => w = .bool p) QQ → r v w H QQ) : DT T X f Γ (.Compare a [op] [b] pos) p :=
  .of (pt_cmpR ho ha.pe hb.pe hm) fun σ G H QQ en w => ⟨G, en, fun v1 d1 G1 H1 s1 p1 q1 => ⟨G1, en.step s1, fun v2 d2 G2 H2 s2 p2 q2 => by
    subst q1 q2
    refine hr G2 H2 v1 v2 _ s2.s (dp_mono s2.g _ _ p1) p2 fun v d G' H' st dp q => ?_
    subst q
    cases dp
    exact ⟨p, rfl, w p G' H' ((s1.trans s2).trans st) rfl⟩⟩⟩
theorem dt_cmp {op : CmpOp} {p : Int → Int → Bool} (ho : OpR X (compareOp op) (rI0 fun i j => .bl (p i j))) (ha : DE T X f Γ a (.int i)) (hb : DE T X f Γ b (.int j)) (hm : behindInMarks op b = false) : DT T X f Γ (.Compare a [op] [b] pos) (p i j) :=
  dt_op ho ha hb hm fun G H v w QQ s d1 d2 k => by
    cases d1
    cases d2
    exact ⟨i, j, rfl, rfl, k _ _ G H (.refl s) (.bl _) rfl⟩
theorem dt_lt (ha : DE T X f Γ a (.int i)) (hb : DE T X f Γ b (.int j)) : DT T X f Γ (.Compare a [.Lt] [b] pos) (decide (i < j)) := dt_cmp op_lt ha hb (nomark _)
theorem dt_le (ha : DE T X f Γ a (.int i)) (hb : DE T X f Γ b (.int j)) : DT T X f Γ (.Compare a [.LtE] [b] pos) (decide (i ≤ j)) := dt_cmp op_le ha hb (nomark _)
theorem dt_gt (ha : DE T X f Γ a (.int i)) (hb : DE T X f Γ b (.int j)) : DT T X f Γ (.Compare a [.Gt] [b] pos) (decide (j < i)) := dt_cmp op_gt ha hb (nomark _)
theorem dt_ge (ha : DE T X f Γ a (.int i)) (hb : DE T X f Γ b (.int j)) : DT T X f Γ (.Compare a [.GtE] [b] pos) (decide (j ≤ i)) := dt_cmp op_ge ha hb (nomark _)
theorem dt_eqI (ha : DE T X f Γ a (.int i)) (hb : DE T X f Γ b (.int j)) : DT T X f Γ (.Compare a [.Eq] [b] pos) (decide (i = j)) := dt_cmp op_eqI ha hb (nomark _)
theorem dt_neI (ha : DE T X f Γ a (.int i)) (hb : DE T X f Γ b (.int j)) : DT T X f Γ (.Compare a [.NotEq] [b] pos) (!decide (i = j)) := dt_cmp op_neI ha hb (nomark _)
theorem dt_eq (ha : DE T X f Γ a x) (hb : DE T X f Γ b y) (hu : X.A.units + 64 < cLine) (hx : SeqAt.shaped x = true) (hy : SeqAt.shaped y = true) : DT T X f Γ (.Compare a [.Eq] [b] pos) (PyData.eqv x y) :=
  dt_op (op_eqD hu) ha hb (nomark _) fun G H v w QQ s d1 d2 k => ⟨x, y, dp_mono (fun b o h => (s b o h).1) _ _ d1, dp_mono (fun b o h => (s b o h).1) _ _ d2, hx, hy, k _ _ G H (.refl s) (.bl _) rfl⟩
theorem dt_ne (ha : DE T X f Γ a x) (hb : DE T X f Γ b y) (hu : X.A.units + 64 < cLine) (hx : SeqAt.shaped x = true) (hy : SeqAt.shaped y = true) : DT T X f Γ (.Compare a [.NotEq] [b] pos) (!PyData.eqv x y) :=
  dt_op (op_neD hu) ha hb (nomark _) fun G H v w QQ s d1 d2 k => ⟨x, y, dp_mono (fun b o h => (s b o h).1) _ _ d1, dp_mono (fun b o h => (s b o h).1) _ _ d2, hx, hy, k _ _ G H (.refl s) (.bl _) rfl⟩
theorem dt_isN {j p} (ha : DE T X f Γ a x) : DT T X f Γ (.Compare a [.Is] [.Constant .none j p] pos) (isN x) :=
  dt_op (y := .none) op_isN ha de_non (nomark _) fun G H v w QQ s d1 d2 k => by
    cases d2
    refine ⟨rfl, ?_⟩
    rw [dp_non d1]
    exact k _ _ G H (.refl s) (.bl _) rfl
theorem dt_notN {j p} (ha : DE T X f Γ a x) : DT T X f Γ (.Compare a [.IsNot] [.Constant .none j p] pos) (!isN x) :=
  dt_op (y := .none) op_notN ha de_non (nomark _) fun G H v w QQ s d1 d2 k => by
    cases d2
    refine ⟨rfl, ?_⟩
    rw [dp_non d1]
    exact k _ _ G H (.refl s) (.bl _) rfl
/-- a test whatever its whole is -/
structure WW (T : Tb) (X : Cx) (f : Fx) (Γ : List Sl) (e : Expr) (Q : Bool → Prop) : Prop where
  run : ∀ (wh : Sem Value) (pins : List (Addr × Obj)) (s : Shared) (σ : L2.St) (G H : Hp), Inv X pins σ H s → EnvR T X.K f Γ σ G H →
  wpAny (model X.prog X.w) X.A (isTrue e X.env wh) (TP2 T X pins σ G H Q) X.xe s
abbrev DW (T : Tb) (X : Cx) (f : Fx) (Γ : List Sl) (e : Expr) (b : Bool) : Prop := WW T X f Γ e fun z => z = b
theorem WW.wt {Q : Bool → Prop} (h : WW T X f Γ e Q) : WT T X f Γ e Q := .mk fun pins s σ G H I en => h.run _ pins s σ G H I en
def bestW (T : Tb) (X : Cx) (f : Fx) (Γ : List Sl) (e : Expr) : TT := fun σ H QQ => ∃ Q, WW T X f Γ e Q ∧ rdT T X f Γ Q σ H QQ
theorem pw_best : PW X e (bestW T X f Γ e) := ⟨fun wh pins s σ H QQ I ⟨_, h, G, en, k⟩ => thn (h.run wh pins s σ G H I en) fun b s' ⟨G', H', I', st, q⟩ => ⟨H', I', k b G' H' st q⟩⟩
theorem WW.of {Q : Bool → Prop} {t : TT} (h : PW X e t) (k : ∀ σ G H QQ, EnvR T X.K f Γ σ G H → (∀ b G' H', Stp T G H G' H' → Q b → QQ b H') → t σ H QQ) : WW T X f Γ e Q := .mk fun wh pins s σ G H I en =>
  thn (h.run wh pins s σ H (fun b H' => ∃ G', Stp T G H G' H' ∧ Q b) I (k σ G H _ en fun b G' H' st q => ⟨G', st, q⟩)) fun b s' ⟨H', I', G', st, q⟩ => ⟨G', H', I', st, q⟩
theorem dw_and1 {Qc : Bool → Prop} (h : WT T X f Γ a Qc) : WW T X f Γ (.BoolOp .And [a] pos) Qc := .of (pw_and1 h.pt) fun σ G H QQ en w => ⟨G, en, w⟩
theorem dw_or1 {Qc : Bool → Prop} (h : WT T X f Γ a Qc) : WW T X f Γ (.BoolOp .Or [a] pos) Qc := .of (pw_or1 h.pt) fun σ G H QQ en w => ⟨G, en, w⟩
theorem ww_and {Qa Qc : Bool → Prop} (ha : WT T X f Γ a Qa) (hf : Qa false → Qc false) (hb : Qa true → WW T X f Γ (.BoolOp .And (b :: rest) pos) Qc) : WW T X f Γ (.BoolOp .And (a :: b :: rest) pos) Qc :=
  .of (pw_and ha.pt (pw_best (T := T) (f := f) (Γ := Γ))) fun σ G H QQ en w => ⟨G, en, fun v G' H' st e => by
    cases v with
    | true => exact ⟨_, hb e, G', en.step st, fun v G2 H2 st2 q => w v G2 H2 (st.trans st2) q⟩
    | false => exact w _ G' H' st (hf e)⟩
theorem ww_or {Qa Qc : Bool → Prop} (ha : WT T X f Γ a Qa) (hf : Qa true → Qc true) (hb : Qa false → WW T X f Γ (.BoolOp .Or (b :: rest) pos) Qc) : WW T X f Γ (.BoolOp .Or (a :: b :: rest) pos) Qc :=
  .of (pw_or ha.pt (pw_best (T := T) (f := f) (Γ := Γ))) fun σ G H QQ en w => ⟨G, en, fun v G' H' st e => by
    cases v with
    | false => exact ⟨_, hb e, G', en.step st, fun v G2 H2 st2 q => w v G2 H2 (st.trans st2) q⟩
    | true => exact w _ G' H' st (hf e)⟩
theorem dw_and (ha : DT T X f Γ a p) (hb : p = true → DW T X f Γ (.BoolOp .And (b :: rest) pos) q) : DW T X f Γ (.BoolOp .And (a :: b :: rest) pos) (p && q) :=
  ww_and ha (fun e => by rw [← e]; rfl) fun e => by
    subst e
    exact hb rfl
theorem dw_or (ha : DT T X f Γ a p) (hb : p = false → DW T X f Γ (.BoolOp .Or (b :: rest) pos) q) : DW T X f Γ (.BoolOp .Or (a :: b :: rest) pos) (p || q) :=
  ww_or ha (fun e => by rw [← e]; rfl) fun e => by
    subst e
    exact hb rfl
theorem dt_not (ha : DT T X f Γ a p) : DT T X f Γ (.UnaryOp .Not a pos) (!p) := .of (pt_not ha.pt) fun σ G H QQ en w => ⟨G, en, fun v G' H' st e => by
  subst e
  exact w _ G' H' st rfl⟩
/-! ### chains of ints -/
variable {op op' op'' : CmpOp} {g g' g'' : Int → Int → Bool} {l : Int}
theorem de_chain (ho : OpR X (compareOp op) (rI0 fun i j => .bl (g i j))) (ho' : OpR X (compareOp op') (rI0 fun i j => .bl (g' i j))) (ha : DE T X f Γ a (.int i)) (hb : DE T X f Γ b (.int j)) (hc : DE T X f Γ c (.int k))
    (hm : lastMarks [op, op'] [b, c] = false := by with_unfolding_all rfl) : DE T X f Γ (.Compare a [op, op'] [b, c] pos) (.bool (g i j && g' j k)) :=
  .of (pe_chain ho ho' ha.pe hb.pe hc.pe hm) fun σ G H QQ en w => ⟨G, en, fun v1 d1 G1 H1 s1 p1 q1 => ⟨G1, en.step s1, fun v2 d2 G2 H2 s2 p2 q2 => by
    subst q1 q2
    cases p1
    cases p2
    refine ⟨i, j, rfl, rfl, _, rfl, ?_⟩
    cases hg : g i j with
    | true => exact ⟨G2, (en.step s1).step s2, fun v3 d3 G3 H3 s3 p3 q3 => by
        subst q3
        cases p3
        exact ⟨j, k, rfl, rfl, w _ _ G3 H3 ((s1.trans s2).trans s3) (.bl _) (by rw [hg]; rfl)⟩⟩
    | false => exact w _ _ G2 H2 (s1.trans s2) (.bl _) (by rw [hg]; rfl)⟩⟩
theorem dt_chain (ho : OpR X (compareOp op) (rI0 fun i j => .bl (g i j))) (ho' : OpR X (compareOp op') (rI0 fun i j => .bl (g' i j))) (ha : DE T X f Γ a (.int i)) (hb : DE T X f Γ b (.int j)) (hc : DE T X f Γ c (.int k))
    (hm : lastMarks [op, op'] [b, c] = false := by with_unfolding_all rfl) : DT T X f Γ (.Compare a [op, op'] [b, c] pos) (g i j && g' j k) :=
  .of (pt_chain ho ho' ha.pe hb.pe hc.pe hm) fun σ G H QQ en w => ⟨G, en, fun v1 d1 G1 H1 s1 p1 q1 => ⟨G1, en.step s1, fun v2 d2 G2 H2 s2 p2 q2 => by
    subst q1 q2
    cases p1
    cases p2
    refine ⟨i, j, rfl, rfl, _, rfl, ?_⟩
    cases hg : g i j with
    | true => exact ⟨G2, (en.step s1).step s2, fun v3 d3 G3 H3 s3 p3 q3 => by
        subst q3
        cases p3
        exact ⟨j, k, rfl, rfl, _, rfl, w _ G3 H3 ((s1.trans s2).trans s3) (by rw [hg]; rfl)⟩⟩
    | false => exact ⟨_, rfl, w _ G2 H2 (s1.trans s2) (by rw [hg]; rfl)⟩⟩⟩
/-- a op b op' c op'' d -/
theorem de_chain3 {dd : Expr} (ho : OpR X (compareOp op) (rI0 fun i j => .bl (g i j))) (ho' : OpR X (compareOp op') (rI0 fun i j => .bl (g' i j))) (ho'' : OpR X (compareOp op'') (rI0 fun i j => .bl (g'' i j)))
    (ha : DE T X f Γ a (.int i)) (hb : DE T X f Γ b (.int j)) (hc : DE T X f Γ c (.int k)) (hd : DE T X f Γ dd (.int l))
    (hm : lastMarks [op, op', op''] [b, c, dd] = false := by with_unfolding_all rfl) : DE T X f Γ (.Compare a [op, op', op''] [b, c, dd] pos) (.bool (g i j && (g' j k && g'' k l))) := by
  refine ⟨fun pins s σ G H I en => ?_⟩
  refine Compare_chain (thn (ha pins s σ G H I en) fun u1 s1 ⟨v1, d1, G1, H1, I1, r1, t1, p1, q1⟩ => ?_) hm
  subst q1
  cases p1
  have en1 := en.step t1
  refine chain_link (thn (hb pins s1 σ G1 H1 I1 en1) fun u2 s2 ⟨v2, d2, G2, H2, I2, r2, t2, p2, q2⟩ => ?_)
  subst q2
  cases p2
  have en2 := en1.step t2
  refine thn (ho pins s2 σ H2 (.int i) (.int j) u1 u2 (fun z H' => z = .bl (g i j) ∧ H' = H2) I2 r1 r2 ⟨i, j, rfl, rfl, rfl, rfl⟩) fun w3 s3 ⟨z3, H3, I3, r3, e3, e4⟩ => ?_
  subst e3 e4
  cases r3
  refine wpAny_truthy_bool ?_
  cases g i j with
  | false => exact ite_ff ⟨.bl false, _, G2, _, I3, rfl, t1.trans t2, .bl _, rfl⟩
  | true =>
    refine ite_tt ?_
    show wpAny _ _ (compareChain pos u2 [op', op''] [eval c X.env, eval dd X.env]) _ _ _
    refine chain_link (thn (hc pins s3 σ G2 _ I3 en2) fun u4 s4 ⟨v4, d4, G4, H4, I4, r4, t4, p4, q4⟩ => ?_)
    subst q4
    cases p4
    have en4 := en2.step t4
    refine thn (ho' pins s4 σ H4 (.int j) (.int k) u2 u4 (fun z H' => z = .bl (g' j k) ∧ H' = H4) I4 r2 r4 ⟨j, k, rfl, rfl, rfl, rfl⟩) fun w5 s5 ⟨z5, H5, I5, r5, e5, e6⟩ => ?_
    subst e5 e6
    cases r5
    refine wpAny_truthy_bool ?_
    cases g' j k with
    | false => exact ite_ff ⟨.bl false, _, G4, _, I5, rfl, (t1.trans t2).trans t4, .bl _, rfl⟩
    | true =>
      refine ite_tt ?_
      show wpAny _ _ (compareChain pos u4 [op''] [eval dd X.env]) _ _ _
      refine chain_last (thn (hd pins s5 σ G4 _ I5 en4) fun u6 s6 ⟨v6, d6, G6, H6, I6, r6, t6, p6, q6⟩ => ?_)
      subst q6
      cases p6
      refine thn (ho'' pins s6 σ H6 (.int k) (.int l) u4 u6 (fun z H' => z = .bl (g'' k l) ∧ H' = H6) I6 r4 r6 ⟨k, l, rfl, rfl, rfl, rfl⟩) fun w7 s7 ⟨z7, H7, I7, r7, e7, e8⟩ => ?_
      subst e7 e8
      exact ⟨_, _, G6, _, I7, r7, ((t1.trans t2).trans t4).trans t6, .bl _, by rfl⟩
end
end DL
set_option Elab.async false
set_option linter.all false
set_option maxRecDepth 100000
set_option maxHeartbeats 4000000
namespace DL
open PySem PySem.Spec PyProof.Rows L2
/-! ### arguments -/
theorem ar_mono {T : Tb} {K : PySem.W.Frag} {G H G1 H1 : Hp} (st : Stp T G H G1 H1) : ∀ {vs : List V} {as : List Sl}, AR K G H vs as → AR K G1 H1 vs as
  | [], [], _ => trivial
  | _ :: _, _ :: _, h => ⟨slR_mono st h.1, ar_mono st h.2⟩
  | [], _ :: _, h => h.elim
  | _ :: _, [], h => h.elim
theorem ar_len {K : PySem.W.Frag} {G H : Hp} : ∀ {vs : List V} {as : List Sl}, AR K G H vs as → vs.length = as.length
  | [], [], _ => rfl
  | _ :: _, _ :: _, h => by rw [List.length_cons, List.length_cons, ar_len h.2]
  | [], _ :: _, h => h.elim
  | _ :: _, [], h => h.elim
theorem ar_dats {K : PySem.W.Frag} {G H : Hp} : ∀ {vs : List V} {ds : List D}, AR K G H vs (ds.map .dat) → DpAll K G vs ds
  | [], [], _ => .nil
  | _ :: _, _ :: _, h => by
    obtain ⟨⟨v, e, d⟩, r⟩ := h
    cases e
    exact .cons d (ar_dats r)
  | [], _ :: _, h => h.elim
  | _ :: _, [], h => h.elim
theorem dats_ar {K : PySem.W.Frag} {G H : Hp} : ∀ {vs : List V} {ds : List D}, DpAll K G vs ds → AR K G H vs (ds.map .dat)
  | _, _, .nil => trivial
  | _, _, .cons a b => ⟨⟨_, rfl, a⟩, dats_ar b⟩
section
variable {T : Tb} {X : Cx} {f : Fx} {Γ : List Sl} {e a b c : Expr} {es : List Expr} {Q Qa Qb : D → Prop} {pos : Pos} {i j k : Int} {x y z d : D} {ds : List D} {as : List Sl}
def rdA (T : Tb) (X : Cx) (f : Fx) (Γ : List Sl) (Q : List Sl → Prop) : TA := fun σ H QQ => ∃ G, EnvR T X.K f Γ σ G H ∧ ∀ vs as G' H', Stp T G H G' H' → AR X.K G' H' vs as → Q as → QQ vs H'
/-- the arguments are such -/
def WA (T : Tb) (X : Cx) (f : Fx) (Γ : List Sl) (es : List Expr) (Q : List Sl → Prop) : Prop := PA X es (rdA T X f Γ Q)
def rdD (T : Tb) (X : Cx) (f : Fx) (Γ : List Sl) (Q : List D → Prop) : TA := fun σ H QQ => ∃ G, EnvR T X.K f Γ σ G H ∧ ∀ vs ds G' H', Stp T G H G' H' → DpAll X.K G' vs ds → Q ds → QQ vs H'
/-- the items are data -/
def WD (T : Tb) (X : Cx) (f : Fx) (Γ : List Sl) (es : List Expr) (Q : List D → Prop) : Prop := PA X es (rdD T X f Γ Q)
abbrev DA (T : Tb) (X : Cx) (f : Fx) (Γ : List Sl) (es : List Expr) (ds : List D) : Prop := WD T X f Γ es fun z => z = ds
theorem pa_imp {t t' : TA} (h : PA X es t) (k : ∀ σ H Q, t' σ H Q → t σ H Q) : PA X es t' := ⟨fun pos pins s σ H Q I q => h.run pos pins s σ H Q I (k σ H Q q)⟩
theorem wd_nil {Q : List D → Prop} (q : Q []) : WD T X f Γ [] Q := pa_imp pa_nil fun σ H QQ ⟨G, en, w⟩ => w [] [] G H (.refl en.sub) .nil q
theorem da_nil : DA T X f Γ [] [] := wd_nil rfl
theorem wd_cons {Qr Q : List D → Prop} (h : WE T X f Γ e Qa) (hr : WD T X f Γ es Qr) (hq : ∀ d ds, Qa d → Qr ds → Q (d :: ds)) (hs : starEach (e :: es) X.env = (false, eval e X.env) :: starEach es X.env := by rfl) : WD T X f Γ (e :: es) Q :=
  pa_imp (pa_cons h.pe hr hs) fun σ H QQ ⟨G, en, w⟩ => ⟨G, en, fun v1 d1 G1 H1 s1 p1 q1 => ⟨G1, en.step s1, fun vs ds G2 H2 s2 p2 q2 => w _ _ G2 H2 (s1.trans s2) (.cons (dp_mono s2.g _ _ p1) p2) (hq _ _ q1 q2)⟩⟩
theorem da_cons (h : DE T X f Γ e d) (hr : DA T X f Γ es ds) (hs : starEach (e :: es) X.env = (false, eval e X.env) :: starEach es X.env := by rfl) : DA T X f Γ (e :: es) (d :: ds) :=
  wd_cons h hr (fun _ _ e1 e2 => by rw [e1, e2]) hs
theorem DA.wa (h : DA T X f Γ es ds) : WA T X f Γ es fun z => z = ds.map .dat := pa_imp h fun σ H QQ ⟨G, en, w⟩ => ⟨G, en, fun vs es G' H' st dp q => by
  subst q
  exact w vs _ G' H' st (dats_ar dp) rfl⟩
theorem wa_nil : WA T X f Γ [] fun z => z = [] := pa_imp pa_nil fun σ H QQ ⟨G, en, w⟩ => w [] [] G H (.refl en.sub) trivial rfl
theorem wa_cons (h : DE T X f Γ e d) (hr : WA T X f Γ es fun z => z = as) (hs : starEach (e :: es) X.env = (false, eval e X.env) :: starEach es X.env := by rfl) : WA T X f Γ (e :: es) fun z => z = .dat d :: as :=
  pa_imp (pa_cons h.pe hr hs) fun σ H QQ ⟨G, en, w⟩ => ⟨G, en, fun v1 d1 G1 H1 s1 p1 q1 => ⟨G1, en.step s1, fun vs rs G2 H2 s2 p2 q2 => by
    subst q1 q2
    exact w _ (.dat _ :: _) G2 H2 (s1.trans s2) ⟨⟨_, rfl, dp_mono s2.g _ _ p1⟩, p2⟩ rfl⟩⟩
/-- a name whose slot holds an object -/
theorem wa_obj {n : Nat} {y : Str} {p : Pos} {ad : Addr} {o : HO} (h : Γ[n]? = some (.obj ad o)) (hr : WA T X f Γ es fun z => z = as) (hN : X.N[n]? = some y) (hv : Vis X.env.scope y) (hd : (y == ("__debug__" : Str)) = false := by decide) (hcd : (y == ("__classdict__" : Str)) = false := by decide)
    (hs : starEach (.Name y p :: es) X.env = (false, eval (.Name y p) X.env) :: starEach es X.env := by rfl) : WA T X f Γ (.Name y p :: es) fun z => z = .obj ad o :: as :=
  pa_imp (pa_cons (pe_var hN hv hd hcd) hr hs) fun σ H QQ ⟨G, en, w⟩ => by
    obtain ⟨e1, e2, e3⟩ := en.obj h
    refine ⟨_, e1, G, en, fun vs rs G2 H2 s2 p2 q2 => ?_⟩
    subst q2
    exact w _ (.obj _ _ :: _) G2 H2 s2 ⟨⟨rfl, s2.le.h _ _ e2 e3.1, e3⟩, p2⟩ rfl
theorem wa_raw {n : Nat} {y : Str} {p : Pos} {v : V} (h : Γ[n]? = some (.raw v)) (hr : WA T X f Γ es fun z => z = as) (hN : X.N[n]? = some y) (hv : Vis X.env.scope y) (hd : (y == ("__debug__" : Str)) = false := by decide) (hcd : (y == ("__classdict__" : Str)) = false := by decide)
    (hs : starEach (.Name y p :: es) X.env = (false, eval (.Name y p) X.env) :: starEach es X.env := by rfl) : WA T X f Γ (.Name y p :: es) fun z => z = .raw v :: as :=
  pa_imp (pa_cons (pe_var hN hv hd hcd) hr hs) fun σ H QQ ⟨G, en, w⟩ => by
    refine ⟨_, en.raw h, G, en, fun vs rs G2 H2 s2 p2 q2 => ?_⟩
    subst q2
    exact w _ (.raw _ :: _) G2 H2 s2 ⟨rfl, p2⟩ rfl
/-! ### displays -/
theorem small (h : ds.length ≤ 100000) : ds.length ≤ sizeLine := Evl.sz_of h
theorem we_tup {Qs : List D → Prop} {m} (h : WD T X f Γ es Qs) (hl : ∀ ds, Qs ds → ds.length ≤ 100000 ∧ Q (.tuple ds)) : WE T X f Γ (.Tuple es m pos) Q :=
  .of (pe_tup h) fun σ G H QQ en w => ⟨G, en, fun vs ds G' H' st dp q => ⟨by rw [dpa_len dp]; exact small (hl ds q).1, fun p hp => w _ _ _ _ (st.trans (.new st.s hp nt_tup)) (.tup (.of upd_same) (dpa_mono (Evl.Ex.new (st.s.none hp)) _ _ dp)) (hl ds q).2⟩⟩
theorem de_tup {m} (h : DA T X f Γ es ds) (hl : ds.length ≤ 100000 := by exact Nat.le_of_ble_eq_true rfl) : DE T X f Γ (.Tuple es m pos) (.tuple ds) := we_tup h fun _ e => by
  subst e
  exact ⟨hl, rfl⟩
theorem we_lst {Qs : List D → Prop} (h : WD T X f Γ es Qs) (hl : ∀ ds, Qs ds → ds.length ≤ 100000 ∧ Q (.list ds)) : WE T X f Γ (.List es pos) Q :=
  .of (pe_lst h) fun σ G H QQ en w => ⟨G, en, fun vs ds G' H' st dp q => ⟨by rw [dpa_len dp]; exact small (hl ds q).1, fun p hp => w _ _ _ _ (st.trans (.new st.s hp nt_lst)) (.lst (.of upd_same) (dpa_mono (Evl.Ex.new (st.s.none hp)) _ _ dp)) (hl ds q).2⟩⟩
theorem de_lst (h : DA T X f Γ es ds) (hl : ds.length ≤ 100000 := by exact Nat.le_of_ble_eq_true rfl) : DE T X f Γ (.List es pos) (.list ds) := we_lst h fun _ e => by
  subst e
  exact ⟨hl, rfl⟩
/-! ### places -/
theorem dpa_atI {K : PySem.W.Frag} {G : Hp} {vs : List V} {ds : List D} {i : Int} {d : D} (h : DpAll K G vs ds) (e : atI ds i = some d) : ∃ v, atI vs i = some v ∧ Dp K G v d := by
  unfold atI at e ⊢
  rw [dpa_len h]
  cases q : ixN ds.length i with
  | none =>
    rw [q] at e
    cases e
  | some j =>
    rw [q] at e
    exact dpa_at h e
theorem sq_up {K : PySem.W.Frag} {G H : Hp} {a : Addr} {xs : List V} (s : Sub G H) (h : SqL K G a xs) : SqL K H a xs := Evl.ex_l (fun b o h => (s b o h).1) h
theorem st_up {K : PySem.W.Frag} {G H : Hp} {a : Addr} {xs : List V} (s : Sub G H) (h : SqT K G a xs) : SqT K H a xs := Evl.ex_t (fun b o h => (s b o h).1) h
theorem we_ixT (ha : WE T X f Γ a Qa) (hb : WE T X f Γ b Qb) (hq : ∀ x y, Qa x → Qb y → ∃ ds i d, x = .tuple ds ∧ y = .int i ∧ atI ds i = some d ∧ Q d) (hs : PlainIx b := by intro _ _; rfl) : WE T X f Γ (.Subscript a b pos) Q :=
  we_op (pe_ix ix_tup ha.pe hb.pe hs) fun x y G H v w QQ q1 q2 s d1 d2 k => by
    obtain ⟨ds, i, d, rfl, rfl, e, q⟩ := hq x y q1 q2
    cases d2
    cases d1 with
    | tup sq al =>
      obtain ⟨v, e1, e2⟩ := dpa_atI al e
      exact ⟨_, _, i, v, rfl, rfl, st_up s sq, e1, k _ _ G H (.refl s) e2 q⟩
theorem we_ixL (ha : WE T X f Γ a Qa) (hb : WE T X f Γ b Qb) (hq : ∀ x y, Qa x → Qb y → ∃ ds i d, x = .list ds ∧ y = .int i ∧ atI ds i = some d ∧ Q d) (hs : PlainIx b := by intro _ _; rfl) : WE T X f Γ (.Subscript a b pos) Q :=
  we_op (pe_ix ix_list ha.pe hb.pe hs) fun x y G H v w QQ q1 q2 s d1 d2 k => by
    obtain ⟨ds, i, d, rfl, rfl, e, q⟩ := hq x y q1 q2
    cases d2
    cases d1 with
    | lst sq al =>
      obtain ⟨v, e1, e2⟩ := dpa_atI al e
      exact ⟨_, _, i, v, rfl, rfl, sq_up s sq, e1, k _ _ G H (.refl s) e2 q⟩
theorem de_ixT (ha : DE T X f Γ a (.tuple ds)) (hb : DE T X f Γ b (.int i)) (h : atI ds i = some d) (hs : PlainIx b := by intro _ _; rfl) : DE T X f Γ (.Subscript a b pos) d :=
  we_ixT ha hb (fun x y e1 e2 => ⟨ds, i, d, e1, e2, h, rfl⟩) hs
theorem de_ixL (ha : DE T X f Γ a (.list ds)) (hb : DE T X f Γ b (.int i)) (h : atI ds i = some d) (hs : PlainIx b := by intro _ _; rfl) : DE T X f Γ (.Subscript a b pos) d :=
  we_ixL ha hb (fun x y e1 e2 => ⟨ds, i, d, e1, e2, h, rfl⟩) hs
/-! ### built-ins -/
theorem we_cb {Qs : List D → Prop} {r : List V → Hp → VK → Prop} (hp : PE X e (tCB r (rdD T X f Γ Qs))) (hr : ∀ ds G H vs QQ, Qs ds → Sub G H → DpAll X.K G vs ds → Wnt T X G H Q QQ → r vs H QQ) : WE T X f Γ e Q :=
  .of hp fun σ G H QQ en w => ⟨G, en, fun vs ds G' H' st dp q => hr ds G' H' vs QQ q st.s dp fun v d G2 H2 s2 p2 q2 => w v d G2 H2 (st.trans s2) p2 q2⟩
theorem de_cb {r : List V → Hp → VK → Prop} (hp : PE X e (tCB r (rdD T X f Γ (fun w => w = ds)))) (hr : ∀ G H vs QQ, Sub G H → DpAll X.K G vs ds → Wnt T X G H (fun w => w = z) QQ → r vs H QQ) : DE T X f Γ e z :=
  we_cb hp fun ds' G H vs QQ q s dp k => by
    subst q
    exact hr G H vs QQ s dp k
end
/-! ### what a def promises -/
abbrev Oc := Except Str D
abbrev Ct := List Sl → (Oc → Prop) → Prop
def spD (T : Tb) (K : PySem.W.Frag) (mg : Str → Option Value) (C : Ct) : Sp := fun vs H Q E => ∃ G as S, Sub G H ∧ AR K G H vs as ∧ C as S ∧
  (∀ d, S (.ok d) → ∀ v G' H', Stp T G H G' H' → Dp K G' v d → Q v H') ∧ ∀ n, S (.error n) → ∀ c H', mg n = some (.ref c) → Le T H H' → E (.ref c) none H'
/-- what may be raised -/
def ER (T : Tb) (mg : Str → Option Value) (H0 : Hp) (R : Str → Prop) : XK := fun cls d H' => d = none ∧ Le T H0 H' ∧ ∃ n c, R n ∧ mg n = some (.ref c) ∧ cls = .ref c
/-- the place where code runs: exceptions, room -/
structure Bd (T : Tb) (X : Cx) (f : Fx) (k : Nat) : Prop where
  tk : L2N.Takes X (fun cls d _ H => ER T X.mg f.H0 f.R cls d H)
  po : PassesOwn (model X.prog X.w) X.A X.env X.xe
  rm : Room k X.A
  calm : X.calm = true
theorem tk_none {T : Tb} {X : Cx} {f : Fx} (h : ∀ n, ¬ f.R n) : L2N.Takes X (fun cls d _ H => ER T X.mg f.H0 f.R cls d H) := fun u s' x => by
  obtain ⟨a, B, sI, pins, σ, H, cls, d, e, I, nb, up, sky, na, os, ag, w⟩ := x
  obtain ⟨_, _, n, c, r, _⟩ := w
  exact (h n r).elim
theorem Bd.units {T : Tb} {X : Cx} {f : Fx} {k : Nat} (h : Bd T X f k) : X.A.units + 64 < cLine := h.rm.units
/-- a def of the module -/
structure Dfn (T : Tb) (P : Program) (w : World) (K : PySem.W.Frag) (mg : Str → Option Value) (base : Heap) (x : Str) (k : Nat) (C : Ct) : Prop where
  ex : ∃ (fa : Addr) (fd : FuncData) (ps : List Str), FnOk P w K mg base (L2N.CX P w) k fa fd ps (spD T K mg C) ∧ mg x = some (.ref fa) ∧ PySem.W.keepIn K (.ref fa) = true ∧ Binds K fd ps []
section
variable {T : Tb} {X : Cx} {f : Fx} {Γ : List Sl} {e a b c : Expr} {es : List Expr} {Q : D → Prop} {pos p : Pos} {d : D} {ds : List D} {as : List Sl} {k m : Nat} {x : Str} {C : Ct} {S : Oc → Prop}
def Okr (Q : D → Prop) (R : Str → Prop) : Oc → Prop
  | .ok d => Q d
  | .error n => R n
theorem we_call (F : Dfn T X.prog X.w X.K X.mg X.base x k C) (B : Bd T X f m) (hk : k ≤ m) (ha : WA T X f Γ (e :: es) fun z => z = as) (hC : C as S) (hS : ∀ r, S r → Okr Q f.R r) (hg : Gl X x := by rfl) (hdb : (x == ("__debug__" : Str)) = false := by decide)
    (he : starEach (e :: es) X.env = (false, eval e X.env) :: starEach es X.env := by rfl) (hpl : (backTo pos (starEach es X.env)).any (·.1) = false := by rfl) : WE T X f Γ (.Call (.Name x p) (e :: es) [] pos) Q := by
  obtain ⟨fa, fd, ps, G, hm, kp, bi⟩ := F.ex
  refine .of (pe_call (CX := L2N.CX X.prog X.w) (E := ER T X.mg f.H0 f.R) G (B.rm.mono hk) hg hm kp bi .nil (L2N.passes_call B.tk fun cls d σ H h => h) ha hdb he hpl) fun σ G H QQ en w => ⟨G, en, fun vs as' G' H' st ar q => ?_⟩
  subst q
  refine ⟨G', _, S, st.s, (by rw [List.append_nil]; exact ar), hC, fun d hd v G2 H2 s2 p2 => w v d G2 H2 (st.trans s2) p2 (hS _ hd), fun n hn c H2 hc l2 => ⟨rfl, (en.st.le.trans st.le).trans l2, n, c, hS _ hn, hc, rfl⟩⟩
theorem de_call (F : Dfn T X.prog X.w X.K X.mg X.base x k C) (B : Bd T X f m) (hk : k ≤ m) (ha : DA T X f Γ (e :: es) ds) (hC : C (ds.map .dat) (fun r => r = .ok d)) (hg : Gl X x := by rfl) (hdb : (x == ("__debug__" : Str)) = false := by decide)
    (he : starEach (e :: es) X.env = (false, eval e X.env) :: starEach es X.env := by rfl) (hpl : (backTo pos (starEach es X.env)).any (·.1) = false := by rfl) : DE T X f Γ (.Call (.Name x p) (e :: es) [] pos) d :=
  we_call F B hk ha.wa hC (fun r e => by
    subst e
    exact rfl) hg hdb he hpl
end
/-! ### statements -/
section
variable {T : Tb} {X : Cx} {f : Fx} {Γ Γ' : List Sl} {e a b c : Expr} {es : List Expr} {Q : D → Prop} {pos p : Pos} {d : D} {ds : List D} {as : List Sl} {k m n : Nat} {x : Str} {st : Stmt} {rest : List Stmt} {N N' : List Sl → Prop} {Rt : D → Prop}
theorem wss_nil (h : N Γ) : WSs T X f Γ [] N Rt := .mk fun pins s σ G H I en => wpAny_execs_nil ⟨Γ, σ, G, H, I, en, Evl.Ex.refl G, h⟩
theorem wss_cons (h1 : WS T X f Γ st N' Rt) (h2 : ∀ Γ', N' Γ' → WSs T X f Γ' rest N Rt) : WSs T X f Γ (st :: rest) N Rt := .mk fun pins s σ G H I en =>
  wpAny_execs_cons (thn (h1 pins s σ G H I en) fun fl s1 q => by
    cases fl with
    | next =>
      obtain ⟨Γ1, σ1, G1, H1, I1, en1, g1, q1⟩ := q
      refine thn (h2 Γ1 q1 pins s1 σ1 G1 H1 I1 en1) fun fl s2 q2 => ?_
      cases fl with
      | next =>
        obtain ⟨Γ2, σ2, G2, H2, I2, en2, g2, q2⟩ := q2
        exact ⟨Γ2, σ2, G2, H2, I2, en2, g1.trans g2, q2⟩
      | ret u => exact q2
      | brk => exact q2
      | cont => exact q2
    | ret u => exact q
    | brk => exact q
    | cont => exact q)
theorem wss_one (h1 : WS T X f Γ st N Rt) : WSs T X f Γ [st] N Rt := wss_cons h1 fun _ h => wss_nil h
theorem ws_ret (h : WE T X f Γ e Rt) : WS T X f Γ (.Return (some e) pos) N Rt := .mk fun pins s σ G H I en =>
  wpAny_Return_some (thn (h pins s σ G H I en) fun u s1 ⟨v, d, G1, H1, I1, r1, t1, p1, q1⟩ => ⟨v, d, σ, G1, H1, I1, r1, en.st.trans t1, p1, q1⟩)
theorem wss_ret (h : WE T X f Γ e Rt) : WSs T X f Γ (.Return (some e) pos :: rest) N Rt := wss_cons (N' := fun _ => False) (ws_ret h) fun _ z => z.elim
theorem ws_asg {pn : Pos} (h : WE T X f Γ e fun d => N (Γ.set n (.dat d))) (hN : X.N.Nodup) (hi : X.N[n]? = some x) (hx : Loc X.env.scope x) (hs : swapsWith e (some (.Name x pn)) pos.line X.env = pure false := by rfl)
    (hf : X.fn x = true ∨ X.env.scope.names.lookup x = some .local := by first | exact .inl rfl | exact .inr rfl) : WS T X f Γ (.Assign [.Name x pn] e pos) N Rt := .mk fun pins s σ G H I en =>
  wpAny_Assign_Name (thn (h pins s σ G H I en) fun u s1 ⟨v, d, G1, H1, I1, r1, t1, p1, q1⟩ => store_ok I1 hN hi hx r1 (fun s2 I2 =>
    ⟨_, _, G1, H1, I2, (en.step t1).set (s := .dat d) ⟨v, rfl, p1⟩ (by rw [en.ln, I1.len]; exact (List.getElem?_eq_some_iff.mp hi).1), t1.g, q1⟩) hf) hs
theorem ws_if {Qc : Bool → Prop} {xs ys : List Stmt} (hc : WT T X f Γ c Qc) (h1 : Qc true → WSs T X f Γ xs N Rt) (h2 : Qc false → WSs T X f Γ ys N Rt) : WS T X f Γ (.If c xs ys pos) N Rt := .mk fun pins s σ G H I en =>
  wpAny_If (thn (hc pins s σ G H I en) fun v s1 ⟨G1, H1, I1, t1, q1⟩ => by
    have en1 := en.step t1
    have fin : ∀ fl s2, SP2 T X f pins G1 N Rt fl s2 → SP2 T X f pins G N Rt fl s2 := fun fl s2 q2 => by
      cases fl with
      | next =>
        obtain ⟨Γ2, σ2, G2, H2, I2, en2, g2, q2⟩ := q2
        exact ⟨Γ2, σ2, G2, H2, I2, en2, t1.g.trans g2, q2⟩
      | ret u => exact q2
      | brk => exact q2
      | cont => exact q2
    cases v with
    | true => exact thn (h1 q1 pins s1 σ G1 H1 I1 en1) fin
    | false => exact thn (h2 q1 pins s1 σ G1 H1 I1 en1) fin)
theorem wss_ifF {xs : List Stmt} (hc : DT T X f Γ c false) (h : WSs T X f Γ rest N Rt) : WSs T X f Γ (.If c xs [] pos :: rest) N Rt :=
  wss_cons (N' := fun Γ' => Γ' = Γ) (ws_if hc (fun e => by cases e) (fun _ => wss_nil rfl)) fun _ e => e ▸ h
theorem wss_asg {pn : Pos} (h : DE T X f Γ e d) (k : WSs T X f (Γ.set n (.dat d)) rest N Rt) (hN : X.N.Nodup) (hi : X.N[n]? = some x) (hx : Loc X.env.scope x) (hs : swapsWith e (some (.Name x pn)) pos.line X.env = pure false := by rfl)
    (hf : X.fn x = true ∨ X.env.scope.names.lookup x = some .local := by first | exact .inl rfl | exact .inr rfl) : WSs T X f Γ (.Assign [.Name x pn] e pos :: rest) N Rt :=
  wss_cons (N' := fun Γ' => Γ' = Γ.set n (.dat d)) (ws_asg (h.mono fun _ e => by rw [e]) hN hi hx hs hf) fun _ e => e ▸ k
theorem ws_expr (h : WE T X f Γ e Q) (hs : swapsWith e none pos.line X.env = pure false := by rfl) : WS T X f Γ (.Expr e pos) (fun Γ' => Γ' = Γ ∧ ∃ d, Q d) Rt := .mk fun pins s σ G H I en =>
  wpAny_Expr_any (thn (h pins s σ G H I en) fun v s1 ⟨v, d, G1, H1, I1, r1, t1, p1, q1⟩ => ⟨Γ, σ, G1, H1, I1, en.step t1, t1.g, rfl, d, q1⟩) I.quiet hs
theorem wss_expr (h : WE T X f Γ e Q) (k : (∃ d, Q d) → WSs T X f Γ rest N Rt) (hs : swapsWith e none pos.line X.env = pure false := by rfl) : WSs T X f Γ (.Expr e pos :: rest) N Rt :=
  wss_cons (ws_expr h hs) fun _ ⟨e, d⟩ => e ▸ k d
theorem WSs.mono (h : WSs T X f Γ rest N' Rt) (k : ∀ Γ', N' Γ' → N Γ') : WSs T X f Γ rest N Rt := .mk fun pins s σ G H I en => thn (h pins s σ G H I en) fun fl s1 q => by
  cases fl with
  | next =>
    obtain ⟨Γ2, σ2, G2, H2, I2, en2, g2, q2⟩ := q
    exact ⟨Γ2, σ2, G2, H2, I2, en2, g2, k _ q2⟩
  | ret u => exact q
  | brk => exact q
  | cont => exact q
end
/-! ### a def, by its body -/
def stG (N : List Str) (as : List Sl) : List Sl := as ++ List.replicate (N.length - as.length) .no
section
variable {T : Tb} {P : Program} {w : World} {K : PySem.W.Frag} {mg : Str → Option Value} {base : Heap}
theorem st_env {N : List Str} {vs : List V} {as : List Sl} {G H : Hp} {R : Str → Prop} (s : Sub G H) (h : AR K G H vs as) (hl : ∀ a ∈ as, Sl.isOwn a = false) : EnvR T K ⟨G, H, R⟩ (stG N as) (L2.start N vs) G H := by
  have len := ar_len h
  refine ⟨.refl s, fun i sl e => ?_, by unfold stG L2.start; rw [List.length_append, List.length_append, List.length_map, len, List.length_replicate, List.length_replicate]⟩
  have main : ∀ (vs : List V) (as : List Sl) (i : Nat) (a : Sl), AR K G H vs as → (∀ a ∈ as, Sl.isOwn a = false) → as[i]? = some a → ∃ v, vs[i]? = some v ∧ SlR K H G H a (some v) := by
    intro vs
    induction vs with
    | nil =>
      intro as i a h ho e
      cases as with
      | nil => simp at e
      | cons _ _ => exact h.elim
    | cons v vs ih =>
      intro as i a h ho e
      cases as with
      | nil => exact h.elim
      | cons b bs =>
        cases i with
        | zero =>
          simp at e
          subst e
          refine ⟨v, rfl, ?_⟩
          have h1 := h.1
          cases b with
          | dat d => exact h1
          | raw d => exact h1
          | obj d o => exact h1
          | own xs => exact absurd rfl (NoO.ne (ho _ List.mem_cons_self) xs)
          | dct xs => exact absurd rfl (NoO.nd (ho _ List.mem_cons_self) xs)
          | gen g => exact h1
          | no => trivial
        | succ i =>
          obtain ⟨v', e1, e2⟩ := ih bs i a h.2 (fun a ha => ho a (List.mem_cons_of_mem _ ha)) (by simpa using e)
          exact ⟨v', by simpa using e1, e2⟩
  unfold stG at e
  by_cases hi : i < as.length
  · rw [List.getElem?_append_left hi] at e
    obtain ⟨v, e1, e2⟩ := main vs as i sl h hl e
    refine ⟨some v, ?_, e2⟩
    unfold L2.start
    rw [List.getElem?_append_left (by rw [List.length_map, len]; exact hi), List.getElem?_map, e1]
    rfl
  · have hi' : as.length ≤ i := Nat.le_of_not_lt hi
    rw [List.getElem?_append_right hi', List.getElem?_replicate] at e
    split at e
    · rename_i hlt
      cases e
      refine ⟨none, ?_, trivial⟩
      unfold L2.start
      rw [List.getElem?_append_right (by rw [List.length_map, len]; exact hi'), List.getElem?_replicate, if_pos (by rw [List.length_map, len]; exact hlt)]
    · cases e
theorem fn_d {x : Str} {st : Stmt} {fa : Addr} {fd : FuncData} {N ps : List Str} {k : Nat} {C : Ct} (F : Fun K x x st fa fd) (S : FnScope N ps (defScope st)) (len : ∀ as S, C as S → as.length = ps.length ∧ ∀ a ∈ as, Sl.isOwn a = false)
    (body : ∀ (cdv : Value) (A : Around) (outer : List Env) (s : Shared) (G H : Hp) (E : XK) (as : List Sl) (S : Oc → Prop), C as S →
      Bd T (cxOf (L2N.CX P w) P w K mg base N x (defScope st) fa cdv A outer s H E) ⟨G, H, fun n => S (.error n)⟩ k →
      WSs T (cxOf (L2N.CX P w) P w K mg base N x (defScope st) fa cdv A outer s H E) ⟨G, H, fun n => S (.error n)⟩ (stG N as) (defBody st) (fun _ => S (.ok .none)) (fun d => S (.ok d))) :
    FnOk P w K mg base (L2N.CX P w) (k + 1) fa fd ps (spD T K mg C) := by
  obtain ⟨oc, od, kV, doc, pm, an, cdv, ct, osl, rfl, lk, hcd⟩ := F.ex
  refine fn_of lk hcd S (fun vs H Q E h => ?_) fun A outer s H vs Q E hr h => ?_
  · obtain ⟨G, as, S, s, ar, hC, _⟩ := h
    rw [ar_len ar]
    exact (len as S hC).1
  · obtain ⟨G, as, S, sb, ar, hC, k1, k2⟩ := h
    have er : ∀ cls d H', ER T mg H (fun n => S (.error n)) cls d H' → E cls d H' := fun cls d H' h => by
      obtain ⟨rfl, l, n, c, hn, hc, rfl⟩ := h
      exact k2 n hn c H' hc l
    have B : Bd T (cxOf (L2N.CX P w) P w K mg base N x (defScope st) fa cdv A outer s H E) ⟨G, H, fun n => S (.error n)⟩ k :=
      ⟨(L2N.takes_of (X := cxOf (L2N.CX P w) P w K mg base N x (defScope st) fa cdv A outer s H E) (E := E) rfl rfl rfl rfl).imp fun cls d σ H h => er cls d H h, PassesOwn.leaving, hr, rfl⟩
    have W := body cdv A outer s G H E as S hC B
    refine ⟨fun D' σ H' => D'.nx = (fun _ H' => Q .non H') ∧ D'.rt = Q ∧ σ = start N vs ∧ H' = H, ⟨fun pins s' σ H' D' I h => ?_⟩, rfl, rfl, rfl, rfl⟩
    obtain ⟨e1, e2, e3, e4⟩ := h
    subst e3
    rw [e4] at I
    refine thn (W pins s' _ G H I (st_env sb ar (len as S hC).2)) fun fl s2 q => ?_
    cases fl with
    | next =>
      obtain ⟨Γ', σ', G', H', I', en, g, q⟩ := q
      refine ⟨σ', H', I', ?_⟩
      rw [e1]
      exact k1 _ q .non G' H' en.st .non
    | ret u =>
      obtain ⟨v, d, σ', G', H', I', r, t, dp, q⟩ := q
      refine ⟨v, σ', H', I', r, ?_⟩
      rw [e2]
      exact k1 d q v G' H' t dp
    | brk => exact q.elim
    | cont => exact q.elim
end
end DL
set_option Elab.async false
set_option linter.all false
set_option maxRecDepth 100000
set_option maxHeartbeats 4000000
namespace DL
open PySem PySem.Spec PyProof.Rows L2
/-! ### statements as readings -/
section
variable {T : Tb} {X : Cx} {f : Fx} {Γ Γ' : List Sl} {pos p : Pos} {st : Stmt} {sts : List Stmt} {N N' : List Sl → Prop} {Rt : D → Prop}
structure Wns (T : Tb) (X : Cx) (f : Fx) (G : Hp) (N : List Sl → Prop) (Rt : D → Prop) (E : Ends) : Prop where
  nx : ∀ Γ' σ' G' H', EnvR T X.K f Γ' σ' G' H' → Evl.Ex G G' → N Γ' → E.nx σ' H'
  rt : ∀ v d G' H', Stp T f.G0 f.H0 G' H' → Dp X.K G' v d → Rt d → E.rt v H'
theorem WS.of {t : TS} (h : PS X st t) (k : ∀ σ G H E, EnvR T X.K f Γ σ G H → Wns T X f G N Rt E → t E σ H) : WS T X f Γ st N Rt := .mk fun pins s σ G H I en =>
  thn (h.run pins s σ H { nx := fun σ' H' => ∃ Γ' G', EnvR T X.K f Γ' σ' G' H' ∧ Evl.Ex G G' ∧ N Γ', rt := fun v H' => ∃ d G', Stp T f.G0 f.H0 G' H' ∧ Dp X.K G' v d ∧ Rt d } I
    (k σ G H _ en ⟨fun Γ' σ' G' H' en' g q => ⟨Γ', G', en', g, q⟩, fun v d G' H' t dp q => ⟨d, G', t, dp, q⟩⟩)) fun fl s1 q => by
      cases fl with
      | next =>
        obtain ⟨σ', H', I', Γ', G', en', g, q⟩ := q
        exact ⟨Γ', σ', G', H', I', en', g, q⟩
      | ret u =>
        obtain ⟨v, σ', H', I', r, d, G', t, dp, q⟩ := q
        exact ⟨v, d, σ', G', H', I', r, t, dp, q⟩
      | brk =>
        obtain ⟨_, _, _, q⟩ := q
        exact q.elim
      | cont =>
        obtain ⟨_, _, _, q⟩ := q
        exact q.elim
def bestS (T : Tb) (X : Cx) (f : Fx) (sts : List Stmt) : TS := fun E σ H => ∃ Γ N Rt G, WSs T X f Γ sts N Rt ∧ EnvR T X.K f Γ σ G H ∧ Wns T X f G N Rt E
theorem pss_best : PSs X sts (bestS T X f sts) := ⟨fun pins s σ H E I ⟨Γ, N, Rt, G, h, en, w⟩ => thn (h pins s σ G H I en) fun fl s1 q => by
  cases fl with
  | next =>
    obtain ⟨Γ', σ', G', H', I', en', g, q⟩ := q
    exact ⟨σ', H', I', w.nx _ _ _ _ en' g q⟩
  | ret u =>
    obtain ⟨v, d, σ', G', H', I', r, t, dp, q⟩ := q
    exact ⟨v, σ', H', I', r, w.rt _ _ _ _ t dp q⟩
  | brk => exact q.elim
  | cont => exact q.elim⟩
/-! ### targets -/
/-- storing d at the target turns Γ into Γ'; ns: the slots that are set -/
def WG (T : Tb) (X : Cx) (f : Fx) (tg : Expr) (ns : List Nat) (Tg : D → List Sl → List Sl → Prop) : Prop := ∃ g, PG X tg g ∧ ∀ v d σ G H Γ Γ' (Q : L2.St → Hp → Prop), EnvR T X.K f Γ σ G H → Dp X.K G v d → Tg d Γ Γ' → (∀ σ' : L2.St, EnvR T X.K f Γ' σ' G H → (∀ i : Nat, i ∉ ns → σ'[i]? = σ[i]?) → σ'.length = σ.length → Q σ' H) → g v σ H Q
theorem wg_name {n : Nat} {x : Str} (hN : X.N.Nodup) (hi : X.N[n]? = some x) (hx : Loc X.env.scope x) (hf : X.fn x = true ∨ X.env.scope.names.lookup x = some .local := by first | exact .inl rfl | exact .inr rfl) :
    WG T X f (.Name x pos) [n] (fun d Γ Γ' => n < Γ.length ∧ Γ' = Γ.set n (.dat d)) :=
  ⟨_, pg_name hN hi hx hf, fun v d σ G H Γ Γ' Q en dp ⟨hl, e⟩ k => by
    subst e
    exact k _ (en.set (s := .dat d) ⟨v, rfl, dp⟩ hl) (fun i hi => List.getElem?_set_ne (fun z => hi (by rw [z]; exact List.mem_cons_self))) List.length_set⟩
def WGs (T : Tb) (X : Cx) (f : Fx) (tgs : List Expr) (ns : List Nat) (Tg : List D → List Sl → List Sl → Prop) : Prop := ∃ g, PGs X tgs g ∧ ∀ vs ds σ G H Γ Γ' (Q : L2.St → Hp → Prop), EnvR T X.K f Γ σ G H → DpAll X.K G vs ds → Tg ds Γ Γ' → (∀ σ' : L2.St, EnvR T X.K f Γ' σ' G H → (∀ i : Nat, i ∉ ns → σ'[i]? = σ[i]?) → σ'.length = σ.length → Q σ' H) → g vs σ H Q
theorem wgs_nil : WGs T X f [] [] (fun ds Γ Γ' => ds = [] ∧ Γ' = Γ) := ⟨_, pgs_nil, fun vs ds σ G H Γ Γ' Q en dp ⟨e1, e2⟩ k => by
  subst e1 e2
  cases dp
  exact ⟨rfl, k σ en (fun _ _ => rfl) rfl⟩⟩
theorem wgs_cons {e : Expr} {es : List Expr} {n1 n2 : List Nat} {T1 : D → List Sl → List Sl → Prop} {T2 : List D → List Sl → List Sl → Prop} (h1 : WG T X f e n1 T1) (h2 : WGs T X f es n2 T2)
    (hs : (assignEach (e :: es) X.env).map (·.2) = assign e X.env :: (assignEach es X.env).map (·.2) := by rfl) : WGs T X f (e :: es) (n1 ++ n2) (fun ds Γ Γ' => ∃ d r Γ1, ds = d :: r ∧ T1 d Γ Γ1 ∧ T2 r Γ1 Γ') := by
  obtain ⟨g1, p1, k1⟩ := h1
  obtain ⟨g2, p2, k2⟩ := h2
  refine ⟨_, pgs_cons p1 p2 hs, fun vs ds σ G H Γ Γ' Q en dp ⟨d, r, Γ1, e1, t1, t2⟩ k => ?_⟩
  subst e1
  cases dp with
  | cons a b => exact ⟨_, _, rfl, k1 _ _ _ _ _ _ _ _ en a t1 fun σ1 en1 q1 l1 => k2 _ _ _ _ _ _ _ _ en1 b t2 fun σ2 en2 q2 l2 => k σ2 en2 (fun i hi => (q2 i fun z => hi (List.mem_append_right _ z)).trans (q1 i fun z => hi (List.mem_append_left _ z))) (l2.trans l1)⟩
theorem wg_tup {es : List Expr} {m : Nat} {ns : List Nat} {Tg : List D → List Sl → List Sl → Prop} {n : Nat} (hc : X.calm = true) (h : WGs T X f es ns Tg)
    (hn : (assignEach es X.env).length = n := by rfl) (hst : (assignEach es X.env).findIdx? (·.1) = none := by rfl) : WG T X f (.Tuple es m pos) ns (fun d Γ Γ' => ∃ ds, d = .tuple ds ∧ ds.length = n ∧ Tg ds Γ Γ') := by
  obtain ⟨g, p, k⟩ := h
  refine ⟨_, pg_tup hc p hn hst, fun v d σ G H Γ Γ' Q en dp ⟨ds, e, hl, t⟩ kq => ?_⟩
  subst e
  cases dp with
  | tup sq al => exact ⟨_, _, rfl, st_up en.sub sq, (dpa_len al).trans hl, k _ _ _ _ _ _ _ _ en al t kq⟩
theorem wg_lst {es : List Expr} {m : Nat} {ns : List Nat} {Tg : List D → List Sl → List Sl → Prop} {n : Nat} (hc : X.calm = true) (h : WGs T X f es ns Tg)
    (hn : (assignEach es X.env).length = n := by rfl) (hst : (assignEach es X.env).findIdx? (·.1) = none := by rfl) : WG T X f (.Tuple es m pos) ns (fun d Γ Γ' => ∃ ds, d = .list ds ∧ ds.length = n ∧ Tg ds Γ Γ') := by
  obtain ⟨g, p, k⟩ := h
  refine ⟨_, pg_lst hc p hn hst, fun v d σ G H Γ Γ' Q en dp ⟨ds, e, hl, t⟩ kq => ?_⟩
  subst e
  cases dp with
  | lst sq al => exact ⟨_, _, rfl, sq_up en.sub sq, (dpa_len al).trans hl, k _ _ _ _ _ _ _ _ en al t kq⟩
/-- three names, two names -/
def Tg3 (n1 n2 n3 : Nat) (a b c : D) (Γ Γ' : List Sl) : Prop := n1 < Γ.length ∧ n2 < Γ.length ∧ n3 < Γ.length ∧ Γ' = ((Γ.set n1 (.dat a)).set n2 (.dat b)).set n3 (.dat c)
def Tg2 (n1 n2 : Nat) (a b : D) (Γ Γ' : List Sl) : Prop := n1 < Γ.length ∧ n2 < Γ.length ∧ Γ' = (Γ.set n1 (.dat a)).set n2 (.dat b)
section
variable {m n1 n2 n3 : Nat} {x1 x2 x3 : Str} {p1 p2 p3 : Pos}
theorem wgs_3 (hN : X.N.Nodup) (h1 : X.N[n1]? = some x1) (l1 : Loc X.env.scope x1) (h2 : X.N[n2]? = some x2) (l2 : Loc X.env.scope x2) (h3 : X.N[n3]? = some x3) (l3 : Loc X.env.scope x3)
    (f1 : X.fn x1 = true ∨ X.env.scope.names.lookup x1 = some .local := by first | exact .inl rfl | exact .inr rfl) (f2 : X.fn x2 = true ∨ X.env.scope.names.lookup x2 = some .local := by first | exact .inl rfl | exact .inr rfl) (f3 : X.fn x3 = true ∨ X.env.scope.names.lookup x3 = some .local := by first | exact .inl rfl | exact .inr rfl) :
    WGs T X f [.Name x1 p1, .Name x2 p2, .Name x3 p3] [n1, n2, n3] (fun ds Γ Γ' => ∃ a b c, ds = [a, b, c] ∧ Tg3 n1 n2 n3 a b c Γ Γ') := by
  obtain ⟨g, p, k⟩ := wgs_cons (T := T) (f := f) (wg_name (pos := p1) hN h1 l1 f1) (wgs_cons (wg_name (pos := p2) hN h2 l2 f2) (wgs_cons (wg_name (pos := p3) hN h3 l3 f3) wgs_nil))
  refine ⟨g, p, fun v d σ G H Γ Γ' Q en dp ⟨a, b, c, e, e1, e2, e3, e4⟩ kq => k v d σ G H Γ Γ' Q en dp ⟨_, _, _, e, ⟨e1, rfl⟩, _, _, _, rfl, ⟨by rw [List.length_set]; exact e2, rfl⟩, _, _, _, rfl, ⟨by rw [List.length_set, List.length_set]; exact e3, rfl⟩, rfl, e4⟩ kq⟩
theorem wgs_2 (hN : X.N.Nodup) (h1 : X.N[n1]? = some x1) (l1 : Loc X.env.scope x1) (h2 : X.N[n2]? = some x2) (l2 : Loc X.env.scope x2)
    (f1 : X.fn x1 = true ∨ X.env.scope.names.lookup x1 = some .local := by first | exact .inl rfl | exact .inr rfl) (f2 : X.fn x2 = true ∨ X.env.scope.names.lookup x2 = some .local := by first | exact .inl rfl | exact .inr rfl) :
    WGs T X f [.Name x1 p1, .Name x2 p2] [n1, n2] (fun ds Γ Γ' => ∃ a b, ds = [a, b] ∧ Tg2 n1 n2 a b Γ Γ') := by
  obtain ⟨g, p, k⟩ := wgs_cons (T := T) (f := f) (wg_name (pos := p1) hN h1 l1 f1) (wgs_cons (wg_name (pos := p2) hN h2 l2 f2) wgs_nil)
  refine ⟨g, p, fun v d σ G H Γ Γ' Q en dp ⟨a, b, e, e1, e2, e4⟩ kq => k v d σ G H Γ Γ' Q en dp ⟨_, _, _, e, ⟨e1, rfl⟩, _, _, _, rfl, ⟨by rw [List.length_set]; exact e2, rfl⟩, rfl, e4⟩ kq⟩
end
theorem ws_unp {e tg : Expr} {ns : List Nat} {Tg : D → List Sl → List Sl → Prop} (h : WE T X f Γ e fun d => ∃ Γ', Tg d Γ Γ' ∧ N Γ') (hg : WG T X f tg ns Tg) (hs : swapsWithSole [tg] e pos.line X.env = pure false := by rfl) (hw : swappedStores [tg] e X.env = pure none := by rfl)
    (h1 : (assignEach [tg] X.env).map (·.2) = [assign tg X.env] := by rfl) : WS T X f Γ (.Assign [tg] e pos) N Rt := by
  obtain ⟨g, p, k⟩ := hg
  exact .of (ps_asg h.pe p hs hw h1) fun σ G H E en w => ⟨G, en, fun v d G' H' st dp ⟨Γ', t, q⟩ => k v d σ G' H' Γ Γ' _ (en.step st) dp t fun σ' en' _ _ => w.nx _ _ _ _ en' st.g q⟩
theorem wss_unp {e tg : Expr} {d : D} {rest : List Stmt} {ns : List Nat} {Tg : D → List Sl → List Sl → Prop} (h : DE T X f Γ e d) (hg : WG T X f tg ns Tg) (ht : Tg d Γ Γ') (k : WSs T X f Γ' rest N Rt) (hs : swapsWithSole [tg] e pos.line X.env = pure false := by rfl) (hw : swappedStores [tg] e X.env = pure none := by rfl)
    (h1 : (assignEach [tg] X.env).map (·.2) = [assign tg X.env] := by rfl) : WSs T X f Γ (.Assign [tg] e pos :: rest) N Rt :=
  wss_cons (N' := fun Γ2 => Γ2 = Γ') (ws_unp (h.mono fun _ e => ⟨Γ', by rw [e]; exact ht, rfl⟩) hg hs hw h1) fun _ e => e ▸ k
/-! ### what is walked -/
def ItOk (K : PySem.W.Frag) (J : It) (G1 : Hp) (ds : List D) : Prop := ∀ (i : Nat) (G2 H : Hp), Evl.Ex G1 G2 → Sub G2 H →
  (∀ d, ds[i]? = some d → J.go i H ∧ ∀ x H', J.yld i H x H' → H' = H ∧ Dp K G2 x d) ∧ (ds.length ≤ i → J.stop i H)
def WI (T : Tb) (X : Cx) (f : Fx) (Γ : List Sl) (tg iter : Expr) (Qi : List D → Prop) : Prop := ∃ wi, PI X tg iter wi ∧ ∀ σ G H R, EnvR T X.K f Γ σ G H → (∀ J ds G' H', Stp T G H G' H' → ItOk X.K J G' ds → Qi ds → R J H') → wi σ H R
theorem it_list {K : PySem.W.Frag} {G1 : Hp} {a : Addr} {xs : List V} {ds : List D} (s : SqL K G1 a xs) (al : DpAll K G1 xs ds) : ItOk K (Itl K a) G1 ds := fun i G2 H g sb => by
  have s2 : SqL K H a xs := sq_up sb (Evl.ex_l g s)
  refine ⟨fun d e => ?_, fun h => ⟨xs, s2, by rw [dpa_len al]; exact h⟩⟩
  obtain ⟨v, e1, e2⟩ := dpa_at al e
  refine ⟨⟨xs, v, s2, e1⟩, fun x H' ⟨e3, e4⟩ => ⟨e3, ?_⟩⟩
  have e5 := e4 xs s2
  rw [e1] at e5
  cases e5
  exact dp_mono g _ _ e2
theorem it_tup {K : PySem.W.Frag} {G1 : Hp} {a : Addr} {xs : List V} {ds : List D} (s : SqT K G1 a xs) (al : DpAll K G1 xs ds) : ItOk K (Itt K a) G1 ds := fun i G2 H g sb => by
  have s2 : SqT K H a xs := st_up sb (Evl.ex_t g s)
  refine ⟨fun d e => ?_, fun h => ⟨xs, s2, by rw [dpa_len al]; exact h⟩⟩
  obtain ⟨v, e1, e2⟩ := dpa_at al e
  refine ⟨⟨xs, v, s2, e1⟩, fun x H' ⟨e3, e4⟩ => ⟨e3, ?_⟩⟩
  have e5 := e4 xs s2
  rw [e1] at e5
  cases e5
  exact dp_mono g _ _ e2
/-- lo, lo + 1, .. -/
def rngD (lo : Int) (n : Nat) : List D := (List.range n).map fun (i : Nat) => .int (lo + (i : Int))
theorem rngD_len (lo : Int) (n : Nat) : (rngD lo n).length = n := by
  unfold rngD
  rw [List.length_map, List.length_range]
theorem rngD_at {lo : Int} {n i : Nat} {d : D} (h : (rngD lo n)[i]? = some d) : i < n ∧ d = .int (lo + (i : Int)) := by
  unfold rngD at h
  rw [List.getElem?_map] at h
  by_cases hi : i < n
  · rw [List.getElem?_range hi] at h
    cases h
    exact ⟨hi, rfl⟩
  · rw [List.getElem?_eq_none (by rw [List.length_range]; exact Nat.le_of_not_lt hi)] at h
    cases h
theorem it_rng {K : PySem.W.Frag} {G1 : Hp} {lo : Int} {n : Nat} : ItOk K (Itr lo n) G1 (rngD lo n) := fun i G2 H g sb => by
  refine ⟨fun d e => ?_, fun h => by rw [rngD_len] at h; exact h⟩
  obtain ⟨h1, rfl⟩ := rngD_at e
  exact ⟨h1, fun x H' ⟨e1, e2⟩ => ⟨e1, by rw [e2]; exact .int _⟩⟩
theorem wi_list {tg e : Expr} {Qi : List D → Prop} (h : WE T X f Γ e fun d => ∃ ds, d = .list ds ∧ Qi ds) : WI T X f Γ tg e Qi := ⟨_, pi_list h.pe, fun σ G H R en k => ⟨G, en, fun v d G' H' st dp ⟨ds, e, q⟩ => by
  subst e
  cases dp with
  | lst sq al => exact ⟨_, rfl, ⟨_, sq_up st.s sq⟩, k _ _ _ _ st (it_list sq al) q⟩⟩⟩
theorem wi_tup {tg e : Expr} {Qi : List D → Prop} (h : WE T X f Γ e fun d => ∃ ds, d = .tuple ds ∧ Qi ds) : WI T X f Γ tg e Qi := ⟨_, pi_tup h.pe, fun σ G H R en k => ⟨G, en, fun v d G' H' st dp ⟨ds, e, q⟩ => by
  subst e
  cases dp with
  | tup sq al => exact ⟨_, rfl, ⟨_, st_up st.s sq⟩, k _ _ _ _ st (it_tup sq al) q⟩⟩⟩
theorem di_list {tg e : Expr} {ds : List D} (h : DE T X f Γ e (.list ds)) : WI T X f Γ tg e (fun z => z = ds) := wi_list (h.mono fun _ e => ⟨ds, e, rfl⟩)
theorem di_tup {tg e : Expr} {ds : List D} (h : DE T X f Γ e (.tuple ds)) : WI T X f Γ tg e (fun z => z = ds) := wi_tup (h.mono fun _ e => ⟨ds, e, rfl⟩)
theorem di_rng1 {tg a : Expr} {j : Int} (h : DE T X f Γ a (.int j)) (hm : X.mg "range" = none) (h1 : -(2 ^ 62) ≤ j) (h2 : j < 2 ^ 62) (hg : Gl X "range" := by rfl) (hs : starEach [a] X.env = [(false, eval a X.env)] := by rfl) :
    WI T X f Γ tg (.Call (.Name "range" p) [a] [] pos) (fun z => z = rngD 0 j.toNat) := ⟨_, pi_range1 hg hm (da_cons h da_nil hs) hs, fun σ G H R en k => ⟨G, en, fun vs ds G' H' st dp q => by
  subst q
  cases dp with
  | cons a b =>
    cases b
    cases a
    exact ⟨j, rfl, h1, h2, k _ _ _ _ st it_rng rfl⟩⟩⟩
theorem di_rng2 {tg a b : Expr} {i j : Int} (h : DE T X f Γ a (.int i)) (h' : DE T X f Γ b (.int j)) (hm : X.mg "range" = none) (hb : -(2 ^ 62) ≤ i ∧ i < 2 ^ 62 ∧ -(2 ^ 62) ≤ j ∧ j < 2 ^ 62) (hg : Gl X "range" := by rfl)
    (hs : starEach [a, b] X.env = [(false, eval a X.env), (false, eval b X.env)] := by rfl) (hs2 : starEach [b] X.env = [(false, eval b X.env)] := by rfl) :
    WI T X f Γ tg (.Call (.Name "range" p) [a, b] [] pos) (fun z => z = rngD i (j - i).toNat) := ⟨_, pi_range2 hg hm (da_cons h (da_cons h' da_nil hs2) (by rw [hs, hs2])) hs hs2, fun σ G H R en k => ⟨G, en, fun vs ds G' H' st dp q => by
  subst q
  cases dp with
  | cons a b =>
    cases b with
    | cons b c =>
      cases c
      cases a
      cases b
      exact ⟨i, j, rfl, hb, k _ _ _ _ st it_rng rfl⟩⟩⟩
/-! ### for -/
theorem ws_for {tg iter : Expr} {body : List Stmt} {ds : List D} {ns : List Nat} {Tg : D → List Sl → List Sl → Prop} {k : Nat} (B : Bd T X f k) (hi : WI T X f Γ tg iter (fun z => z = ds)) (hg : WG T X f tg ns Tg) (I : Nat → List Sl → Prop) (h0 : I 0 Γ)
    (hs : ∀ i d Γ', ds[i]? = some d → I i Γ' → ∃ Γ'', Tg d Γ' Γ'' ∧ WSs T X f Γ'' body (I (i + 1)) Rt) (hd : ∀ Γ', I ds.length Γ' → N Γ') (hfs : ∀ x, foldedSetIterable iter X.env x = pure x := by intro _; rfl) : WS T X f Γ (.For tg iter body [] pos) N Rt := by
  obtain ⟨wi, p, kw⟩ := hi
  obtain ⟨g, pg, kg⟩ := hg
  refine .of (ps_for B.po B.calm p pg (pss_best (T := T) (f := f)) hfs) fun σ G H E en w => kw σ G H _ en fun J ds' G1 H1 st1 it e => ?_
  subst e
  refine ⟨fun i m σ' H' => m = ds'.length - i ∧ i ≤ ds'.length ∧ ∃ Γ' G', EnvR T X.K f Γ' σ' G' H' ∧ Evl.Ex G1 G' ∧ I i Γ', ⟨ds'.length, by simp, Nat.zero_le _, Γ, G1, en.step st1, Evl.Ex.refl _, h0⟩, ?_⟩
  rintro i m σ' H' ⟨rfl, hi, Γ1, G', en', g', hI⟩
  obtain ⟨i1, i2⟩ := it i G' H' g' en'.sub
  by_cases hlt : i < ds'.length
  · obtain ⟨go, yl⟩ := i1 _ (List.getElem?_eq_getElem hlt)
    obtain ⟨Γ2, t2, w2⟩ := hs i _ Γ1 (List.getElem?_eq_getElem hlt) hI
    refine .inr ⟨go, fun σ2 H2 => ∃ Γ3 G3, EnvR T X.K f Γ3 σ2 G3 H2 ∧ Evl.Ex G1 G3 ∧ I (i + 1) Γ3, fun σ2 H2 ⟨Γ3, G3, en3, g3, q3⟩ => ⟨_, by omega, rfl, hlt, Γ3, G3, en3, g3, q3⟩, fun x H2 y => ?_⟩
    obtain ⟨e, dp⟩ := yl x H2 y
    subst e
    exact kg x _ σ' G' _ Γ1 Γ2 _ en' dp t2 fun σ2 en2 _ _ => ⟨Γ2, _, Rt, G', w2, en2, ⟨fun Γ3 σ3 G3 H3 en3 g3 q3 => ⟨Γ3, G3, en3, g'.trans g3, q3⟩, w.rt⟩⟩
  · have e : i = ds'.length := by omega
    subst e
    exact .inl ⟨i2 (Nat.le_refl _), w.nx _ _ _ _ en' (st1.g.trans g') (hd _ hI)⟩
theorem wss_for {tg iter : Expr} {body rest : List Stmt} {ds : List D} {ns : List Nat} {Tg : D → List Sl → List Sl → Prop} {k : Nat} (B : Bd T X f k) (hi : WI T X f Γ tg iter (fun z => z = ds)) (hg : WG T X f tg ns Tg) (I : Nat → List Sl → Prop) (h0 : I 0 Γ)
    (hs : ∀ i d Γ', ds[i]? = some d → I i Γ' → ∃ Γ'', Tg d Γ' Γ'' ∧ WSs T X f Γ'' body (I (i + 1)) Rt) (hd : ∀ Γ', I ds.length Γ' → WSs T X f Γ' rest N Rt) (hfs : ∀ x, foldedSetIterable iter X.env x = pure x := by intro _; rfl) : WSs T X f Γ (.For tg iter body [] pos :: rest) N Rt :=
  wss_cons (N' := I ds.length) (ws_for B hi hg I h0 hs (fun _ h => h) hfs) hd
/-! ### while -/
theorem ws_while {c : Expr} {body : List Stmt} {k : Nat} (B : Bd T X f k) (I : Nat → List Sl → Prop) (m0 : Nat) (h0 : I m0 Γ)
    (hs : ∀ m Γ', I m Γ' → ∃ b, DT T X f Γ' c b ∧ (b = true → WSs T X f Γ' body (fun Γ'' => ∃ m', m' < m ∧ I m' Γ'') Rt) ∧ (b = false → N Γ')) : WS T X f Γ (.While c body [] pos) N Rt := by
  refine .of (ps_while B.po (tc := fun σ H QQ => ∃ Γ b, DT T X f Γ c b ∧ rdT T X f Γ (fun z => z = b) σ H QQ) ⟨fun pins s σ H QQ I ⟨Γ, b, h, q⟩ => (h.pt).run pins s σ H QQ I q⟩ (pss_best (T := T) (f := f))) fun σ G H E en w => ?_
  refine ⟨fun m σ' H' => ∃ Γ' G', EnvR T X.K f Γ' σ' G' H' ∧ Evl.Ex G G' ∧ I m Γ', ⟨m0, Γ, G, en, Evl.Ex.refl _, h0⟩, ?_⟩
  rintro m σ' H' ⟨Γ1, G1, en1, g1, i1⟩
  obtain ⟨b, hb, h1, h2⟩ := hs m Γ1 i1
  refine ⟨Γ1, b, hb, G1, en1, fun b' G2 H2 st2 e => ?_⟩
  subst e
  cases b' with
  | true => exact ⟨fun σ3 H3 => ∃ Γ3 G3, EnvR T X.K f Γ3 σ3 G3 H3 ∧ Evl.Ex G G3 ∧ ∃ m', m' < m ∧ I m' Γ3, fun σ3 H3 ⟨Γ3, G3, en3, g3, m', hm, q⟩ => ⟨m', hm, Γ3, G3, en3, g3, q⟩,
      Γ1, _, Rt, G2, h1 rfl, en1.step st2, ⟨fun Γ3 σ3 G3 H3 en3 g3 q3 => ⟨Γ3, G3, en3, (g1.trans st2.g).trans g3, q3⟩, w.rt⟩⟩
  | false => exact w.nx _ _ _ _ (en1.step st2) (g1.trans st2.g) (h2 rfl)
theorem wss_while {c : Expr} {body rest : List Stmt} {k : Nat} (B : Bd T X f k) (I : Nat → List Sl → Prop) (m0 : Nat) (h0 : I m0 Γ)
    (hs : ∀ m Γ', I m Γ' → ∃ b, DT T X f Γ' c b ∧ (b = true → WSs T X f Γ' body (fun Γ'' => ∃ m', m' < m ∧ I m' Γ'') Rt) ∧ (b = false → WSs T X f Γ' rest N Rt)) : WSs T X f Γ (.While c body [] pos :: rest) N Rt :=
  wss_cons (N' := fun Γ' => WSs T X f Γ' rest N Rt) (ws_while B I m0 h0 hs) fun _ h => h
/-! ### a list of one's own -/
/-- it becomes data -/
theorem wss_frz {n : Nat} {xs : List D} (h : Γ[n]? = some (.own xs)) (ho : ∀ j ys, j ≠ n → Γ[j]? ≠ some (.own ys)) (k : WSs T X f (Γ.set n (.dat (.list xs))) sts N Rt) : WSs T X f Γ sts N Rt := .mk fun pins s σ G H I en => by
  obtain ⟨p, vs, e1, e2, e3, e4, e5⟩ := en.own h
  have gx : Evl.Ex G (upd G p (.lst vs)) := Evl.Ex.new e2
  have st : Stp T f.G0 f.H0 (upd G p (.lst vs)) H := by
    refine ⟨en.st.le, en.st.g.trans gx, fun b o e => ?_, fun b o h1 h2 h3 => ?_⟩
    · by_cases hb : b = p
      · subst hb
        rw [upd_same] at e
        cases e
        exact ⟨e4, nt_lst⟩
      · rw [upd_ne hb] at e
        exact en.sub b o e
    · rw [upd_ne (fr_ne h2 h3 e3)]
      exact en.st.n b o h1 h2 h3
  have hl : n < Γ.length := (List.getElem?_eq_some_iff.mp h).1
  have en' : EnvR T X.K f (Γ.set n (.dat (.list xs))) σ (upd G p (.lst vs)) H := by
    refine ⟨st, fun j sl e => ?_, by rw [List.length_set]; exact en.ln⟩
    by_cases hj : n = j
    · subst hj
      rw [List.getElem?_set_self hl] at e
      cases e
      exact ⟨_, e1, _, rfl, .lst (.of upd_same) (dpa_mono gx _ _ e5)⟩
    · rw [List.getElem?_set_ne hj] at e
      obtain ⟨w, w1, w2⟩ := en.sl j sl e
      refine ⟨w, w1, ?_⟩
      cases sl with
      | dat d =>
        obtain ⟨v, a1, a2⟩ := w2
        exact ⟨v, a1, dp_mono gx _ _ a2⟩
      | raw v => exact w2
      | obj a o => exact w2
      | own ys => exact absurd e (ho j ys (Ne.symm hj))
      | dct kvs =>
        obtain ⟨q, a1, a2, a3, a4⟩ := w2
        have hq : q ≠ p := fun z => by
          rw [z, e4] at a4
          cases a4
        exact ⟨q, a1, by rw [upd_ne hq]; exact a2, a3, a4⟩
      | gen g => exact g.frz e2 e4 w2
      | no => trivial
  refine thn (k pins s σ _ H I en') fun fl s1 q => ?_
  cases fl with
  | next =>
    obtain ⟨Γ2, σ2, G2, H2, I2, en2, g2, q2⟩ := q
    exact ⟨Γ2, σ2, G2, H2, I2, en2, gx.trans g2, q2⟩
  | ret u => exact q
  | brk => exact q
  | cont => exact q
end
end DL
set_option Elab.async false
set_option linter.all false
set_option maxRecDepth 100000
set_option maxHeartbeats 4000000
namespace DL
open PySem PySem.Spec PyProof.Rows L2
/-! ### kinds -/
def dty : D → String
  | .none => "NoneType"
  | .bool _ => "bool"
  | .int _ => "int"
  | .str _ => "str"
  | .list _ => "list"
  | .tuple _ => "tuple"
  | .dict _ => "dict"
def isIntD : D → Bool
  | .int _ => true
  | .bool _ => true
  | _ => false
def isBoolD : D → Bool
  | .bool _ => true
  | _ => false
def isTupD : D → Bool
  | .tuple _ => true
  | _ => false
def isStrD : D → Bool
  | .str _ => true
  | _ => false
theorem kd_int : ∀ d : D, kitB (dty d) "int" = some (isIntD d)
  | .none => (by decide +kernel : kitB "NoneType" "int" = some false)
  | .bool _ => (by decide +kernel : kitB "bool" "int" = some true)
  | .int _ => (by decide +kernel : kitB "int" "int" = some true)
  | .str _ => (by decide +kernel : kitB "str" "int" = some false)
  | .list _ => (by decide +kernel : kitB "list" "int" = some false)
  | .tuple _ => (by decide +kernel : kitB "tuple" "int" = some false)
  | .dict _ => (by decide +kernel : kitB "dict" "int" = some false)
theorem kd_bool : ∀ d : D, kitB (dty d) "bool" = some (isBoolD d)
  | .none => (by decide +kernel : kitB "NoneType" "bool" = some false)
  | .bool _ => (by decide +kernel : kitB "bool" "bool" = some true)
  | .int _ => (by decide +kernel : kitB "int" "bool" = some false)
  | .str _ => (by decide +kernel : kitB "str" "bool" = some false)
  | .list _ => (by decide +kernel : kitB "list" "bool" = some false)
  | .tuple _ => (by decide +kernel : kitB "tuple" "bool" = some false)
  | .dict _ => (by decide +kernel : kitB "dict" "bool" = some false)
theorem kd_tup : ∀ d : D, kitB (dty d) "tuple" = some (isTupD d)
  | .none => (by decide +kernel : kitB "NoneType" "tuple" = some false)
  | .bool _ => (by decide +kernel : kitB "bool" "tuple" = some false)
  | .int _ => (by decide +kernel : kitB "int" "tuple" = some false)
  | .str _ => (by decide +kernel : kitB "str" "tuple" = some false)
  | .list _ => (by decide +kernel : kitB "list" "tuple" = some false)
  | .tuple _ => (by decide +kernel : kitB "tuple" "tuple" = some true)
  | .dict _ => (by decide +kernel : kitB "dict" "tuple" = some false)
theorem kd_str : ∀ d : D, kitB (dty d) "str" = some (isStrD d)
  | .none => (by decide +kernel : kitB "NoneType" "str" = some false)
  | .bool _ => (by decide +kernel : kitB "bool" "str" = some false)
  | .int _ => (by decide +kernel : kitB "int" "str" = some false)
  | .str _ => (by decide +kernel : kitB "str" "str" = some true)
  | .list _ => (by decide +kernel : kitB "list" "str" = some false)
  | .tuple _ => (by decide +kernel : kitB "tuple" "str" = some false)
  | .dict _ => (by decide +kernel : kitB "dict" "str" = some false)
theorem dp_ty {K : PySem.W.Frag} {G H : Hp} {v : V} {d : D} (s : Sub G H) (h : Dp K G v d) : TyX K H v (.type (dty d)) := by
  cases h with
  | non => exact .base .non
  | bl b => exact .base (.bl b)
  | int i => exact .base (.int i)
  | str x => exact .base (.str x)
  | lst sq al =>
    rcases sq_up s sq with (h | ⟨o, h⟩) | ⟨o, its, n, hk, hc, _⟩
    · exact .base (.lst h)
    · exact .base (.frz h)
    · exact .kList hk hc
  | tup sq al =>
    rcases st_up s sq with (h | ⟨o, h⟩) | ⟨o, its, n, hk, hc, _⟩
    · exact .base (.tup h)
    · exact .fTuple h
    · exact .kTuple hk hc
section
variable {T : Tb} {X : Cx} {f : Fx} {Γ Γ' : List Sl} {e a b c : Expr} {es : List Expr} {Q Qa Qb : D → Prop} {pos p p1 p2 : Pos} {i j k : Int} {x y z d : D} {ds : List D}
theorem de_isi {n : Str} {cn : String} {r : Bool} (h : DE T X f Γ e d) (hk : kitB (dty d) cn = some r) (mi : X.mg "isinstance" = none) (mn : X.mg n = none) (hb : bootBuiltins n = some (.type cn)) (hg : Gl X "isinstance" := by rfl) (hgn : Gl X n := by rfl)
    (hs : starEach [e, .Name n p1] X.env = (false, eval e X.env) :: starEach [.Name n p1] X.env := by rfl) (hpl : (backTo pos (starEach [.Name n p1] X.env)).any (·.1) = false := by rfl) (hn : n ≠ "__name__" := by decide) (hd : (n == ("__debug__" : Str)) = false := by decide) :
    DE T X f Γ (.Call (.Name "isinstance" p) [e, .Name n p1] [] pos) (.bool r) :=
  .of (pe_callB call_isi hg mi (by decide +kernel) (pa_cons h.pe (pa_cons (pe_bltn (v := .ty cn) hgn mn hb rfl hn hd) pa_nil) hs) (by decide) (by decide) hs hpl) fun σ G H QQ en w => ⟨G, en, fun v d' G' H' st dp q => by
    subst q
    exact ⟨v, .ty cn, _, _, r, rfl, .ty cn, dp_ty st.s dp, kit_ty hk, w _ _ G' H' st (.bl _) rfl⟩⟩
theorem de_isInt (h : DE T X f Γ e d) (mi : X.mg "isinstance" = none) (mn : X.mg "int" = none) (hg : Gl X "isinstance" := by rfl) (hgn : Gl X "int" := by rfl)
    (hs : starEach [e, .Name "int" p1] X.env = (false, eval e X.env) :: starEach [.Name "int" p1] X.env := by rfl) : DE T X f Γ (.Call (.Name "isinstance" p) [e, .Name "int" p1] [] pos) (.bool (isIntD d)) :=
  de_isi h (kd_int d) mi mn (by decide +kernel) hg hgn hs
theorem de_isBool (h : DE T X f Γ e d) (mi : X.mg "isinstance" = none) (mn : X.mg "bool" = none) (hg : Gl X "isinstance" := by rfl) (hgn : Gl X "bool" := by rfl)
    (hs : starEach [e, .Name "bool" p1] X.env = (false, eval e X.env) :: starEach [.Name "bool" p1] X.env := by rfl) : DE T X f Γ (.Call (.Name "isinstance" p) [e, .Name "bool" p1] [] pos) (.bool (isBoolD d)) :=
  de_isi h (kd_bool d) mi mn (by decide +kernel) hg hgn hs
theorem de_isTup (h : DE T X f Γ e d) (mi : X.mg "isinstance" = none) (mn : X.mg "tuple" = none) (hg : Gl X "isinstance" := by rfl) (hgn : Gl X "tuple" := by rfl)
    (hs : starEach [e, .Name "tuple" p1] X.env = (false, eval e X.env) :: starEach [.Name "tuple" p1] X.env := by rfl) : DE T X f Γ (.Call (.Name "isinstance" p) [e, .Name "tuple" p1] [] pos) (.bool (isTupD d)) :=
  de_isi h (kd_tup d) mi mn (by decide +kernel) hg hgn hs
theorem de_isStr (h : DE T X f Γ e d) (mi : X.mg "isinstance" = none) (mn : X.mg "str" = none) (hg : Gl X "isinstance" := by rfl) (hgn : Gl X "str" := by rfl)
    (hs : starEach [e, .Name "str" p1] X.env = (false, eval e X.env) :: starEach [.Name "str" p1] X.env := by rfl) : DE T X f Γ (.Call (.Name "isinstance" p) [e, .Name "str" p1] [] pos) (.bool (isStrD d)) :=
  de_isi h (kd_str d) mi mn (by decide +kernel) hg hgn hs
/-! ### len, sum, all, tuple, list, max, min, abs, int -/
theorem dpa_1 {K : PySem.W.Frag} {G : Hp} {vs : List V} {d : D} (h : DpAll K G vs [d]) : ∃ v, vs = [v] ∧ Dp K G v d := by
  cases h with
  | cons a b =>
    cases b
    exact ⟨_, rfl, a⟩
theorem dpa_2 {K : PySem.W.Frag} {G : Hp} {vs : List V} {d d' : D} (h : DpAll K G vs [d, d']) : ∃ v v', vs = [v, v'] ∧ Dp K G v d ∧ Dp K G v' d' := by
  cases h with
  | cons a b =>
    obtain ⟨v, rfl, q⟩ := dpa_1 b
    exact ⟨_, _, rfl, a, q⟩
abbrev Sta (X : Cx) (e : Expr) : Prop := starEach [e] X.env = (false, eval e X.env) :: starEach [] X.env
abbrev Few (X : Cx) (cpos : Pos) (e : Expr) : Prop := ((backTo cpos (starEach [e] X.env)).all (fun x => !x.1) && (backToKw cpos (keywordEach [] X.env)).all (fun x => x.1.isSome)
  && decide ([e].length + ([] : List Keyword).length + (if ([] : List Keyword).isEmpty then 0 else 1) < 30)) = true
theorem bpl {X : Cx} {pos : Pos} : (backTo pos (starEach [] X.env)).any (·.1) = false := rfl
theorem we_lenL {Qs : List D → Prop} (h : WE T X f Γ e fun d => ∃ ds, (d = .list ds ∨ d = .tuple ds) ∧ Q (.int ds.length)) (hm : X.mg "len" = none) (hg : Gl X "len" := by rfl) (hs : Sta X e := by rfl) : WE T X f Γ (.Call (.Name "len" p) [e] [] pos) Q :=
  we_cb (Qs := fun z => ∃ d ds, z = [d] ∧ (d = .list ds ∨ d = .tuple ds) ∧ Q (.int ds.length)) (pe_callB call_len_seq hg hm (by decide +kernel) (wd_cons h da_nil (fun d ds q e => by
    subst e
    obtain ⟨ds, q⟩ := q
    exact ⟨d, ds, rfl, q⟩) hs) (by decide) (by decide) hs bpl) fun ds G H vs QQ q s dp k => by
    obtain ⟨d, ds, rfl, q1, q2⟩ := q
    obtain ⟨v, rfl, dq⟩ := dpa_1 dp
    rcases q1 with rfl | rfl
    · cases dq with
      | lst sq al => exact ⟨_, _, rfl, .inl (sq_up s sq), by rw [dpa_len al]; exact k _ _ G H (.refl s) (.int _) q2⟩
    · cases dq with
      | tup sq al => exact ⟨_, _, rfl, .inr (st_up s sq), by rw [dpa_len al]; exact k _ _ G H (.refl s) (.int _) q2⟩
theorem de_lenL (h : DE T X f Γ e (.list ds)) (hm : X.mg "len" = none) (hg : Gl X "len" := by rfl) (hs : Sta X e := by rfl) : DE T X f Γ (.Call (.Name "len" p) [e] [] pos) (.int ds.length) := we_lenL (Qs := fun _ => True) (h.mono fun _ e => ⟨ds, .inl e, rfl⟩) hm hg hs
theorem de_lenT (h : DE T X f Γ e (.tuple ds)) (hm : X.mg "len" = none) (hg : Gl X "len" := by rfl) (hs : Sta X e := by rfl) : DE T X f Γ (.Call (.Name "len" p) [e] [] pos) (.int ds.length) := we_lenL (Qs := fun _ => True) (h.mono fun _ e => ⟨ds, .inr e, rfl⟩) hm hg hs
def iL (ns : List Int) : List D := ns.map .int
def bL (bs : List Bool) : List D := bs.map .bool
theorem dpa_iL {K : PySem.W.Frag} {G : Hp} : ∀ {ns : List Int} {vs : List V}, DpAll K G vs (iL ns) → vs = ns.map V.int
  | [], _, .nil => rfl
  | n :: ns, _, .cons a b => by
    cases a
    rw [dpa_iL (ns := ns) b]
    rfl
theorem dpa_bL {K : PySem.W.Frag} {G : Hp} : ∀ {bs : List Bool} {vs : List V}, DpAll K G vs (bL bs) → vs = bs.map V.bl
  | [], _, .nil => rfl
  | n :: ns, _, .cons a b => by
    cases a
    rw [dpa_bL (bs := ns) b]
    rfl
theorem iL_dpa {K : PySem.W.Frag} {G : Hp} : ∀ (ns : List Int), DpAll K G (ns.map V.int) (iL ns)
  | [] => .nil
  | n :: ns => .cons (.int n) (iL_dpa ns)
theorem de_all {bs : List Bool} (B : X.calm = true) (h : DE T X f Γ e (.list (bL bs))) (hm : X.mg "all" = none) (hg : Gl X "all" := by rfl) (hs : Sta X e := by rfl) : DE T X f Γ (.Call (.Name "all" p) [e] [] pos) (.bool (bs.all id)) :=
  de_cb (pe_callB (cr_all B) hg hm (by decide +kernel) (da_cons h da_nil hs) (by decide) (by decide) hs bpl) fun G H vs QQ s dp k => by
    obtain ⟨v, rfl, dq⟩ := dpa_1 dp
    cases dq with
    | lst sq al =>
      have e := dpa_bL al
      subst e
      exact ⟨_, _, rfl, sq_up s sq, k _ _ G H (.refl s) (.bl _) rfl⟩
theorem de_sumL {ns : List Int} (B : X.calm = true) (h : DE T X f Γ e (.list (iL ns))) (hm : X.mg "sum" = none) (hg : Gl X "sum" := by rfl) (hs : Sta X e := by rfl) : DE T X f Γ (.Call (.Name "sum" p) [e] [] pos) (.int ns.sum) :=
  de_cb (pe_callB (cr_sum B) hg hm (by decide +kernel) (da_cons h da_nil hs) (by decide) (by decide) hs bpl) fun G H vs QQ s dp k => by
    obtain ⟨v, rfl, dq⟩ := dpa_1 dp
    cases dq with
    | lst sq al =>
      have e := dpa_iL al
      subst e
      exact ⟨_, _, rfl, sq_up s sq, k _ _ G H (.refl s) (.int _) rfl⟩
/-- tuple(list), tuple(tuple), list(..) -/
theorem we_tupleL (h : WE T X f Γ e fun d => ∃ ds, d = .list ds ∧ Q (.tuple ds)) (hm : X.mg "tuple" = none) (hg : Gl X "tuple" := by rfl) (hs : Sta X e := by rfl) : WE T X f Γ (.Call (.Name "tuple" p) [e] [] pos) Q :=
  we_cb (Qs := fun z => ∃ ds, z = [.list ds] ∧ Q (.tuple ds)) (pe_callTy call_tuple_of hg hm (by decide +kernel) (wd_cons h da_nil (fun d ds q e => by
    subst e
    obtain ⟨ds, rfl, q⟩ := q
    exact ⟨ds, rfl, q⟩) hs) (by decide) (by decide) hs bpl) fun ds G H vs QQ q s dp k => by
    obtain ⟨ds, rfl, q2⟩ := q
    obtain ⟨v, rfl, dq⟩ := dpa_1 dp
    cases dq with
    | lst sq al => exact ⟨_, _, rfl, .inl ⟨sq_up s sq, fun l hl => k _ _ _ _ (.new s hl nt_tup) (.tup (.of upd_same) (dpa_mono (Evl.Ex.new (s.none hl)) _ _ al)) q2⟩⟩
theorem de_tupleL (h : DE T X f Γ e (.list ds)) (hm : X.mg "tuple" = none) (hg : Gl X "tuple" := by rfl) (hs : Sta X e := by rfl) : DE T X f Γ (.Call (.Name "tuple" p) [e] [] pos) (.tuple ds) := we_tupleL (h.mono fun _ e => ⟨ds, e, rfl⟩) hm hg hs
theorem de_listT (h : DE T X f Γ e (.tuple ds)) (hm : X.mg "list" = none) (hg : Gl X "list" := by rfl) (hs : Sta X e := by rfl) : DE T X f Γ (.Call (.Name "list" p) [e] [] pos) (.list ds) :=
  de_cb (pe_callTy call_list_of hg hm (by decide +kernel) (da_cons h da_nil hs) (by decide) (by decide) hs bpl) fun G H vs QQ s dp k => by
    obtain ⟨v, rfl, dq⟩ := dpa_1 dp
    cases dq with
    | tup sq al => exact ⟨_, _, rfl, .inr (st_up s sq), fun l hl => k _ _ _ _ (.new s hl nt_lst) (.lst (.of upd_same) (dpa_mono (Evl.Ex.new (s.none hl)) _ _ al)) rfl⟩
theorem de_intB {r : Bool} (h : DE T X f Γ e (.bool r)) (hm : X.mg "int" = none) (hg : Gl X "int" := by rfl) (hs : Sta X e := by rfl) : DE T X f Γ (.Call (.Name "int" p) [e] [] pos) (.int (if r then 1 else 0)) :=
  de_cb (pe_callTy call_int1 hg hm (by decide +kernel) (da_cons h da_nil hs) (by decide) (by decide) hs bpl) fun G H vs QQ s dp k => by
    obtain ⟨v, rfl, dq⟩ := dpa_1 dp
    cases dq
    exact .inr ⟨r, rfl, k _ _ G H (.refl s) (.int _) rfl⟩
theorem de_abs (h : DE T X f Γ e (.int i)) (hm : X.mg "abs" = none) (hg : Gl X "abs" := by rfl) (hs : Sta X e := by rfl) : DE T X f Γ (.Call (.Name "abs" p) [e] [] pos) (.int (if i < 0 then -i else i)) :=
  de_cb (pe_callB call_abs hg hm (by decide +kernel) (da_cons h da_nil hs) (by decide) (by decide) hs bpl) fun G H vs QQ s dp k => by
    obtain ⟨v, rfl, dq⟩ := dpa_1 dp
    cases dq
    exact ⟨i, rfl, k _ _ G H (.refl s) (.int _) rfl⟩
theorem de_max2 (B : X.calm = true) (h : DE T X f Γ a (.int i)) (h' : DE T X f Γ b (.int j)) (hm : X.mg "max" = none) (hg : Gl X "max" := by rfl) (hs : starEach [a, b] X.env = (false, eval a X.env) :: starEach [b] X.env := by rfl) (hs' : Sta X b := by rfl)
    (hpl : (backTo pos (starEach [b] X.env)).any (·.1) = false := by rfl) : DE T X f Γ (.Call (.Name "max" p) [a, b] [] pos) (.int (if j > i then j else i)) :=
  de_cb (pe_callB (call_max2 B) hg hm (by decide +kernel) (da_cons h (da_cons h' da_nil hs') hs) (by decide) (by decide) hs hpl) fun G H vs QQ s dp k => by
    obtain ⟨v, v', rfl, dq, dq'⟩ := dpa_2 dp
    cases dq
    cases dq'
    exact ⟨i, j, rfl, k _ _ G H (.refl s) (.int _) rfl⟩
theorem de_min2 (B : X.calm = true) (h : DE T X f Γ a (.int i)) (h' : DE T X f Γ b (.int j)) (hm : X.mg "min" = none) (hg : Gl X "min" := by rfl) (hs : starEach [a, b] X.env = (false, eval a X.env) :: starEach [b] X.env := by rfl) (hs' : Sta X b := by rfl)
    (hpl : (backTo pos (starEach [b] X.env)).any (·.1) = false := by rfl) : DE T X f Γ (.Call (.Name "min" p) [a, b] [] pos) (.int (if j < i then j else i)) :=
  de_cb (pe_callB (call_min2 B) hg hm (by decide +kernel) (da_cons h (da_cons h' da_nil hs') hs) (by decide) (by decide) hs hpl) fun G H vs QQ s dp k => by
    obtain ⟨v, v', rfl, dq, dq'⟩ := dpa_2 dp
    cases dq
    cases dq'
    exact ⟨i, j, rfl, k _ _ G H (.refl s) (.int _) rfl⟩
/-! ### raise -/
/-- an error class of the module -/
structure XC (K : PySem.W.Frag) (mg : Str → Option Value) (n : Str) (c : Addr) : Prop where
  g : mg n = some (.ref c)
  kp : PySem.W.keepIn K (.ref c) = true
  sb : PySem.W.subIn K (.ref c) (.type "BaseException") = some true
  ty : PySem.W.typeIn K (.ref c) = some (.type "type")
  ei : PySem.W.excIn K c [.type "ValueError", .type "Exception", .type "BaseException", .type "object"] "ValueError.__new__" = true
theorem ws_raise {n m : Str} {c : Addr} {j kk : Nat} {N : List Sl → Prop} {Rt : D → Prop} (B : Bd T X f kk) (C : XC X.K X.mg n c) (hR : f.R n) (hg : Gl X n := by rfl) (hdb : (n == ("__debug__" : Str)) = false := by decide) :
    WS T X f Γ (.Raise (some (.Call (.Name n p) [.Constant (.str m) j p1] [] p2)) none pos) N Rt :=
  .of (L2N.ps_raise B.calm B.tk (L2N.pmk_own PySem.F.excBase_ValueError C.ei C.g C.kp (raises_own C.sb C.ty) hg hdb)) fun σ G H E en w => ⟨rfl, en.st.le, n, c, hR, C.g, rfl⟩
/-! ### a list of one's own -/
theorem ws_new {n : Nat} {x : Str} {pn : Pos} {N : List Sl → Prop} {Rt : D → Prop} (hq : N (Γ.set n (.own []))) (hN : X.N.Nodup) (hi : X.N[n]? = some x) (hx : Loc X.env.scope x) (hl : n < Γ.length) (hs : swapsWith (.List [] p) (some (.Name x pn)) pos.line X.env = pure false := by rfl)
    (hf : X.fn x = true ∨ X.env.scope.names.lookup x = some .local := by first | exact .inl rfl | exact .inr rfl) : WS T X f Γ (.Assign [.Name x pn] (.List [] p) pos) N Rt :=
  .of (ps_set hN hi hx (pe_lst pa_nil) hs hf) fun σ G H E en w => ⟨by decide, fun q hq' => by
    have en' : EnvR T X.K f Γ σ G (upd H q (.lst [])) := en.step (.keep en.sub (.new hq'))
    have h0 : Fr f.H0 q := en.st.le.fr (fr_none hq')
    exact w.nx _ _ G _ (en'.set (s := .own []) ⟨q, [], rfl, en.sub.none hq', h0, upd_same, .nil⟩ hl) (Evl.Ex.refl G) hq⟩
/-- Γ has no other list of one's own -/
def OneOwn (Γ : List Sl) (n : Nat) : Prop := ∀ (j : Nat) ys, j ≠ n → Γ[j]? ≠ some (.own ys)
theorem env_app {σ : L2.St} {G H : Hp} {n : Nat} {xs : List D} {q : Addr} {vs : List V} {v : V} {d : D} (en : EnvR T X.K f Γ σ G H) (ho : OneOwn Γ n) (hn : Γ[n]? = some (.own xs)) (e1 : σ[n]? = some (some (.ref q))) (e2 : G q = none) (e3 : Fr f.H0 q) (e4 : H q = some (.lst vs)) (e5 : DpAll X.K G vs xs) (dp : Dp X.K G v d) :
    EnvR T X.K f (Γ.set n (.own (xs ++ [d]))) σ G (upd H q (.lst (vs ++ [v]))) := by
  have st := en.st.mut (ys := vs ++ [v]) e3 e4 e2
  have hl : n < Γ.length := (List.getElem?_eq_some_iff.mp hn).1
  refine ⟨st, fun j sl e => ?_, by rw [List.length_set]; exact en.ln⟩
  by_cases hj : n = j
  · subst hj
    rw [List.getElem?_set_self hl] at e
    cases e
    exact ⟨_, e1, q, _, rfl, e2, e3, upd_same, dpa_app e5 (.cons dp .nil)⟩
  · rw [List.getElem?_set_ne hj] at e
    obtain ⟨w, w1, w2⟩ := en.sl j sl e
    refine ⟨w, w1, ?_⟩
    cases sl with
    | dat d => exact w2
    | raw v => exact w2
    | obj a o =>
      obtain ⟨a1, a2, a3⟩ := w2
      have hb : a ≠ q := fun z => by
        rw [z, e4] at a2
        exact a3.2.1 _ (Option.some.inj a2).symm
      exact ⟨a1, by rw [upd_ne hb]; exact a2, a3⟩
    | own ys => exact absurd e (ho j ys (Ne.symm hj))
    | dct kvs =>
      obtain ⟨r, a1, a2, a3, a4⟩ := w2
      have hb : r ≠ q := fun z => by
        rw [z, e4] at a4
        cases a4
      exact ⟨r, a1, a2, a3, by rw [upd_ne hb]; exact a4⟩
    | gen g => exact g.stab e4 w2
    | no => trivial
/-- x.append(e) -/
theorem ws_app {n : Nat} {x : Str} {xs : List D} {pa pc : Pos} {N : List Sl → Prop} {Rt : D → Prop} (hn : Γ[n]? = some (.own xs)) (ho : OneOwn Γ n) (h : DE T X f Γ e d) (hz : xs.length < 100000) (hq : N (Γ.set n (.own (xs ++ [d])))) (hN : X.N[n]? = some x) (hv : Vis X.env.scope x)
    (hs : Sta X e := by rfl) (hfew : Few X pc e := by rfl) (hline : (pa.endLine == pc.line) = true := by rfl) (hpl : swapsWith (.Call (.Attribute (.Name x p) "append" pa) [e] [] pc) none pos.line X.env = pure false := by rfl) (hd : (x == ("__debug__" : Str)) = false := by decide) (hcd : (x == ("__classdict__" : Str)) = false := by decide) :
    WS T X f Γ (.Expr (.Call (.Attribute (.Name x p) "append" pa) [e] [] pc) pos) N Rt :=
  .of (ps_expr (pe_bm PySem.F.plainAttrs_list PySem.F.slot_list_append PySem.F.type_list_append mt_append (pe_var hN hv hd hcd) (pa_cons h.pe pa_nil hs) (by rfl) hfew hline hs bpl) hpl) fun σ G H E en w => by
    obtain ⟨q, vs, e1, e2, e3, e4, e5⟩ := en.own hn
    refine ⟨_, e1, .inl ⟨rfl, _, .of e4⟩, G, en, fun v d' G' H' st dp e => ?_⟩
    subst e
    have en' := en.step st
    obtain ⟨q', vs', a1, a2, a3, a4, a5⟩ := en'.own hn
    rw [e1] at a1
    cases a1
    have a4' := st.le.h _ _ e4 nt_lst
    rw [a4] at a4'
    cases a4'
    exact ⟨_, vs, v, rfl, rfl, a4, Evl.sz_lt (by rw [dpa_len a5]; exact hz), w.nx _ _ _ _ (env_app en' ho hn e1 a2 a3 a4 a5 dp) st.g hq⟩
theorem wss_new {n : Nat} {x : Str} {pn : Pos} {rest : List Stmt} {N : List Sl → Prop} {Rt : D → Prop} (hN : X.N.Nodup) (hi : X.N[n]? = some x) (hx : Loc X.env.scope x) (hl : n < Γ.length) (k : WSs T X f (Γ.set n (.own [])) rest N Rt) (hs : swapsWith (.List [] p) (some (.Name x pn)) pos.line X.env = pure false := by rfl)
    (hf : X.fn x = true ∨ X.env.scope.names.lookup x = some .local := by first | exact .inl rfl | exact .inr rfl) : WSs T X f Γ (.Assign [.Name x pn] (.List [] p) pos :: rest) N Rt :=
  wss_cons (N' := fun Γ' => Γ' = Γ.set n (.own [])) (ws_new rfl hN hi hx hl hs hf) fun _ e => e ▸ k
end
/-! ### comprehensions -/
theorem wipe_at (σ : L2.St) : ∀ (vs : List Nat) (i : Nat), (wipe σ vs)[i]? = if i ∈ vs ∧ i < σ.length then some none else σ[i]?
  | [], i => by simp [wipe]
  | v :: vs, i => by
    unfold wipe
    by_cases h : v = i
    · subst h
      by_cases hl : v < σ.length
      · rw [List.getElem?_set_self (by rw [wipe_length]; exact hl), if_pos ⟨List.mem_cons_self, hl⟩]
      · rw [List.getElem?_eq_none (by rw [List.length_set, wipe_length]; omega), if_neg (fun z => hl z.2), List.getElem?_eq_none (by omega)]
    · rw [List.getElem?_set_ne h, wipe_at σ vs i]
      have e : (i ∈ v :: vs ∧ i < σ.length) ↔ (i ∈ vs ∧ i < σ.length) := by
        rw [List.mem_cons]
        exact ⟨fun ⟨a, b⟩ => ⟨a.resolve_left fun z => h z.symm, b⟩, fun ⟨a, b⟩ => ⟨.inr a, b⟩⟩
      by_cases q : i ∈ vs ∧ i < σ.length
      · rw [if_pos q, if_pos (e.mpr q)]
      · rw [if_neg q, if_neg (fun z => q (e.mp z))]
def wipeG (Γ : List Sl) : List Nat → List Sl
  | [] => Γ
  | v :: vs => (wipeG Γ vs).set v .no
theorem wipeG_len (Γ : List Sl) : ∀ vs, (wipeG Γ vs).length = Γ.length
  | [] => rfl
  | v :: vs => by
    unfold wipeG
    rw [List.length_set, wipeG_len Γ vs]
theorem env_wipe {T : Tb} {K : PySem.W.Frag} {f : Fx} {Γ : List Sl} {σ : L2.St} {G H : Hp} (en : EnvR T K f Γ σ G H) : ∀ vs, EnvR T K f (wipeG Γ vs) (wipe σ vs) G H
  | [] => en
  | v :: vs => by
    have h := env_wipe en vs
    unfold wipeG wipe
    by_cases hl : v < (wipeG Γ vs).length
    · exact h.set (s := .no) (w := none) trivial hl
    · rw [List.set_eq_of_length_le (by omega), List.set_eq_of_length_le (by rw [← h.ln]; omega)]
      exact h
abbrev Fx.no (f : Fx) : Fx := { f with R := fun _ => False }
theorem EnvR.no {T : Tb} {K : PySem.W.Frag} {f : Fx} {Γ : List Sl} {σ : L2.St} {G H : Hp} (en : EnvR T K f Γ σ G H) : EnvR T K f.no Γ σ G H := ⟨en.st, en.sl, en.ln⟩
theorem EnvR.ofno {T : Tb} {K : PySem.W.Frag} {f : Fx} {Γ : List Sl} {σ : L2.St} {G H : Hp} (en : EnvR T K f.no Γ σ G H) : EnvR T K f Γ σ G H := ⟨en.st, en.sl, en.ln⟩
theorem Bd.blk {T : Tb} {X : Cx} {f : Fx} {k : Nat} (B : Bd T X f k) (s : Shared) (H : Hp) (scope : Scope) (ce : Env) (fp : List Addr) : Bd T (X.blk s H scope ce fp) f.no k :=
  ⟨tk_none fun _ h => h, PassesOwn.never, B.rm, B.calm⟩
section
variable {T : Tb} {X : Cx} {f : Fx} {Γ : List Sl} {pos : Pos}
/-- the tests of a comprehension -/
def WTs (T : Tb) (X : Cx) (f : Fx) (Γ : List Sl) (ifs : List Expr) (b : Bool) : Prop := PTs X ifs (rdT T X f Γ (fun z => z = b))
theorem wts_nil : WTs T X f Γ [] true := ⟨fun pins s σ H QQ I ⟨G, en, w⟩ => pts_nil.run pins s σ H QQ I (w _ G H (.refl en.sub) rfl)⟩
theorem wts_one {c : Expr} {b : Bool} (h : DT T X f Γ c b) : WTs T X f Γ [c] b := pts_one h.pt
abbrev Cx.bk (X : Cx) (scope : Scope) (s : Shared) (H : Hp) (C : Addr) (cl : List (Str × Addr)) (fp : List Addr) : Cx := X.blk s H scope (compEnvC scope cl C X.env) fp
theorem wipe_same {σ σ' : L2.St} {vs ns : List Nat} (hn : ∀ i ∈ ns, i ∈ vs) (hl : σ'.length = σ.length) (h : ∀ i : Nat, i ∉ ns → σ'[i]? = (wipe σ vs)[i]?) : wipe σ' vs = wipe σ vs := by
  refine List.ext_getElem? fun i => ?_
  rw [wipe_at, wipe_at]
  by_cases hi : i ∈ vs
  · rw [hl]
    by_cases hz : i < σ.length
    · rw [if_pos ⟨hi, hz⟩, if_pos ⟨hi, hz⟩]
    · rw [if_neg (fun z => hz z.2), if_neg (fun z => hz z.2), List.getElem?_eq_none (by omega), List.getElem?_eq_none (by omega)]
  · rw [if_neg (fun z => hi z.1), if_neg (fun z => hi z.1), h i fun z => hi (hn i z), wipe_at, if_neg (fun z => hi z.1)]
theorem de_lc {elt tg iter : Expr} {ifs : List Expr} {scope : Scope} {own : List (Str × Nat)} {ds : List D} {ns : List Nat} {Tg : D → List Sl → List Sl → Prop} {gd : D → Bool} {vd : D → D} {k : Nat} (B : Bd T X f k) (hN : X.N.Nodup)
    (hi : WI T X f Γ tg iter (fun z => z = ds)) (ok : BlkOk X.N X.env.scope scope own) (hn : ∀ i ∈ ns, i ∈ own.map (·.2)) (hg : ∀ s H C cl fp, WG T (Cx.bk X scope s H C cl fp) f.no tg ns Tg)
    (hd : ∀ (i : Nat) (d : D), ds[i]? = some d → ∃ Γ1, Tg d (wipeG Γ (own.map (·.2))) Γ1 ∧ (∀ s H C cl fp, WTs T (Cx.bk X scope s H C cl fp) f.no Γ1 ifs (gd d)) ∧ (gd d = true → ∀ s H C cl fp, DE T (Cx.bk X scope s H C cl fp) f.no Γ1 elt (vd d)))
    (hz : ds.length ≤ 90000) (hs : ∀ x, foldedSetIterable iter X.env x = pure x := by intro _; rfl) : DE T X f Γ (.ListComp elt [⟨tg, iter, ifs, 0⟩] scope pos) (.list ((ds.filter gd).map vd)) := by
  obtain ⟨wi, p, kw⟩ := hi
  refine .of (pe_lc (own := own) (wi := wi) B.calm hN p ok
    (g := fun v σ H Q => ∀ s H' C cl fp, ∃ g, PG (Cx.bk X scope s H' C cl fp) tg g ∧ g v σ H Q)
    (tt := fun σ H QQ => ∃ Γ1 b, (∀ s H' C cl fp, WTs T (Cx.bk X scope s H' C cl fp) f.no Γ1 ifs b) ∧ rdT T X f.no Γ1 (fun z => z = b) σ H QQ)
    (te := fun σ H QQ => ∃ Γ1 d, (∀ s H' C cl fp, DE T (Cx.bk X scope s H' C cl fp) f.no Γ1 elt d) ∧ rd T X f.no Γ1 (fun z => z = d) σ H QQ)
    (fun s H C cl fp => ⟨fun pins s' σ H' v u Q I r h => ?_⟩) (fun s H C cl fp => ⟨fun pins s' σ H' Q I h => ?_⟩) (fun s H C cl fp => ⟨fun pins s' σ H' Q I h => ?_⟩) hs) fun σ G H QQ en w => kw σ G H _ en fun J ds' G1 H1 st1 it e => ?_
  · obtain ⟨g, pg, hq⟩ := h s H C cl fp
    exact pg.run pins s' σ H' v u Q I r hq
  · obtain ⟨Γ1, b, h1, h2⟩ := h
    exact (h1 s H C cl fp).run pins s' σ H' Q I h2
  · obtain ⟨Γ1, d, h1, h2⟩ := h
    exact (h1 s H C cl fp).pe.run pins s' σ H' Q I h2
  · subst e
    intro q hq
    have en1 := en.step st1
    refine ⟨fun i m H' => m = ds'.length - i ∧ i ≤ ds'.length ∧ ∃ G' acc, Stp T G1 H1 G' H' ∧ G' q = none ∧ H' q = some (.lst acc) ∧ DpAll X.K G' acc (((ds'.take i).filter gd).map vd), ⟨ds'.length, by simp, Nat.zero_le _, G1, [], ?_, st1.s.none hq, upd_same, ?_⟩, ?_⟩
    · exact .keep st1.s (.new hq)
    · rw [List.take_zero]
      exact .nil
    · rintro i m H' ⟨rfl, hi, G', acc, st', g0, h0, al⟩
      obtain ⟨i1, i2⟩ := it i G' H' st'.g st'.s
      by_cases hlt : i < ds'.length
      · have e0 := List.getElem?_eq_getElem hlt
        obtain ⟨go, yl⟩ := i1 _ e0
        obtain ⟨Γ1, t1, ht, he⟩ := hd i _ e0
        have tk : ds'.take (i + 1) = ds'.take i ++ [ds'[i]] := by
          rw [List.take_succ, e0]
          rfl
        refine .inr ⟨go, fun H2 => ∃ G2 acc2, Stp T G1 H1 G2 H2 ∧ G2 q = none ∧ H2 q = some (.lst acc2) ∧ DpAll X.K G2 acc2 (((ds'.take (i + 1)).filter gd).map vd), fun H2 ⟨G2, acc2, a1, a2, a3, a4⟩ => ⟨_, by omega, rfl, hlt, G2, acc2, a1, a2, a3, a4⟩, fun x H2 y s5 H5 C5 cl5 fp5 => ?_⟩
        obtain ⟨e, dp⟩ := yl x H2 y
        subst e
        obtain ⟨g, pg, kg⟩ := hg s5 H5 C5 cl5 fp5
        have enw := (env_wipe (en1.step st') (own.map (·.2))).no
        refine ⟨g, pg, kg x _ _ G' _ _ Γ1 _ enw dp t1 fun σ2 en2 q2 l2 => ⟨wipe_same hn ?_ q2, Γ1, gd ds'[i], ht, G', en2, fun b G3 H3 s3 eb => ?_⟩⟩
        · rw [l2, wipe_length]
        · subst eb
          cases hb : gd ds'[i] with
          | true =>
            refine ⟨Γ1, vd ds'[i], he hb, G3, en2.step s3, fun v d G4 H4 s4 dp4 e4 => ?_⟩
            subst e4
            have s34 := s3.trans s4
            have h4 := s34.le.h _ _ h0 nt_lst
            have g4 := s34.n q _ g0 h0 nt_lst
            refine ⟨acc, h4, Evl.sz_lt ?_, G4, acc ++ [v], (st'.trans s34).mut (fr_none hq) h4 g4, g4, upd_same, ?_⟩
            · rw [dpa_len al, List.length_map]
              have := List.length_filter_le gd (ds'.take i)
              rw [List.length_take] at this
              omega
            · rw [tk, List.filter_append, List.map_append, List.filter_cons, if_pos hb]
              exact dpa_app (dpa_mono s34.g _ _ al) (.cons dp4 .nil)
          | false =>
            refine ⟨G3, acc, st'.trans s3, s3.n q _ g0 h0 nt_lst, s3.le.h _ _ h0 nt_lst, ?_⟩
            rw [tk, List.filter_append, List.map_append, List.filter_cons, if_neg (by rw [hb]; decide)]
            rw [List.filter_nil, List.map_nil, List.append_nil]
            exact dpa_mono s3.g _ _ al
      · have e : i = ds'.length := by omega
        subst e
        refine .inl ⟨i2 (Nat.le_refl _), ?_⟩
        rw [List.take_length] at al
        have gx : Evl.Ex G' (upd G' q (.lst acc)) := Evl.Ex.new g0
        have st2 : Stp T G1 H1 (upd G' q (.lst acc)) H' := by
          refine ⟨st'.le, st'.g.trans gx, fun b o e => ?_, fun b o h1 h2 h3 => ?_⟩
          · by_cases hb : b = q
            · subst hb
              rw [upd_same] at e
              cases e
              exact ⟨h0, nt_lst⟩
            · rw [upd_ne hb] at e
              exact st'.s b o e
          · rw [upd_ne (ne_of_none h2 hq)]
            exact st'.n b o h1 h2 h3
        exact w _ _ _ _ (st1.trans st2) (.lst (.of upd_same) (dpa_mono gx _ _ al)) rfl
end
end DL
set_option Elab.async false
set_option linter.all false
set_option maxRecDepth 100000
set_option maxHeartbeats 4000000
namespace DL
open PySem PySem.Spec PyProof.Rows L2
theorem nof {p : Prop} (h : false = true) : p := by cases h
theorem noT {p : Prop} (h : true = false) : p := by cases h
def Ret (r : Oc) : Oc → Prop := fun z => z = r
theorem cmulL {i j : Int} (h1 : -18446744073709551616 < i) (h2 : i < 18446744073709551616) : CMul i j := .inl ⟨by omega, by omega⟩
theorem cmulR {i j : Int} (h1 : -18446744073709551616 < j) (h2 : j < 18446744073709551616) : CMul i j := .inr ⟨by omega, by omega⟩
section
variable {T : Tb} {X : Cx} {f : Fx} {Γ : List Sl} {e a b c : Expr} {es : List Expr} {Q Qa Qb : D → Prop} {pos p p1 p2 : Pos} {i j k : Int} {x y z d : D} {ds : List D}
theorem dv (n : Nat) {y : Str} (h : Γ[n]? = some (.dat d)) (hN : X.N[n]? = some y := by rfl) (hv : Vis X.env.scope y := by first | exact Or.inl rfl | exact Or.inr (Or.inl rfl) | exact Or.inr (Or.inr rfl))
    (hd : (y == ("__debug__" : Str)) = false := by decide) (hcd : (y == ("__classdict__" : Str)) = false := by decide) : DE T X f Γ (.Name y pos) d := de_var h hN hv hd hcd
theorem de_mulW (ha : DE T X f Γ a (.int i)) (hb : DE T X f Γ b (.int j)) (hc : CMulW i j) : DE T X f Γ (.BinOp a .Mult b pos) (.int (i * j)) := de_opI (pe_op op_mulW ha.pe hb.pe) hc fun _ _ => .int _
theorem de_fdivW (ha : DE T X f Γ a (.int i)) (hb : DE T X f Γ b (.int j)) (hc : CDivW i j) : DE T X f Γ (.BinOp a .FloorDiv b pos) (.int (i / j)) := de_opI (pe_op op_fdivW ha.pe hb.pe) hc fun _ _ => .int _
/-- statements in short -/
theorem asg (n : Nat) {x : Str} {pn : Pos} {rest : List Stmt} {N : List Sl → Prop} {Rt : D → Prop} (hN : X.N.Nodup) (h : DE T X f Γ e d) (k : WSs T X f (Γ.set n (.dat d)) rest N Rt) (hi : X.N[n]? = some x := by rfl) (hx : Loc X.env.scope x := by first | exact Or.inl rfl | exact Or.inr rfl)
    (hs : swapsWith e (some (.Name x pn)) pos.line X.env = pure false := by rfl) (hf : X.fn x = true ∨ X.env.scope.names.lookup x = some .local := by first | exact .inl rfl | exact .inr rfl) : WSs T X f Γ (.Assign [.Name x pn] e pos :: rest) N Rt :=
  wss_asg h k hN hi hx hs hf
/-! ### a list of one's own, read and changed by place -/
theorem de_ixO {n : Nat} {x : Str} {xs : List D} (h : Γ[n]? = some (.own xs)) (hb : DE T X f Γ b (.int i)) (ha : atI xs i = some d) (hN : X.N[n]? = some x := by rfl) (hv : Vis X.env.scope x := by first | exact Or.inl rfl | exact Or.inr (Or.inl rfl) | exact Or.inr (Or.inr rfl))
    (hs : PlainIx b := by intro _ _; rfl) (hd : (x == ("__debug__" : Str)) = false := by decide) (hcd : (x == ("__classdict__" : Str)) = false := by decide) : DE T X f Γ (.Subscript (.Name x p) b pos) d :=
  .of (pe_ix ix_list (pe_var hN hv hd hcd) hb.pe hs) fun σ G H QQ en w => by
    obtain ⟨q, vs, e1, e2, e3, e4, e5⟩ := en.own h
    refine ⟨_, e1, G, en, fun v d' G' H' st dp e => ?_⟩
    subst e
    cases dp
    obtain ⟨v, a1, a2⟩ := dpa_atI e5 ha
    exact ⟨q, vs, i, v, rfl, rfl, .of (st.le.h _ _ e4 nt_lst), a1, w v d G' H' st (dp_mono st.g _ _ a2) rfl⟩
theorem ixN_of {n : Nat} {i : Int} {j : Nat} (h : i = (j : Int)) (hj : j < n) : ixN n i = some j := by
  rw [h]
  exact Evl.ixN_nat hj
theorem env_setO {σ : L2.St} {G H : Hp} {n j : Nat} {xs : List D} {q : Addr} {vs : List V} {v : V} {d : D} (en : EnvR T X.K f Γ σ G H) (ho : OneOwn Γ n) (hn : Γ[n]? = some (.own xs)) (e1 : σ[n]? = some (some (.ref q))) (e2 : G q = none) (e3 : Fr f.H0 q) (e4 : H q = some (.lst vs)) (e5 : DpAll X.K G vs xs) (dp : Dp X.K G v d) :
    EnvR T X.K f (Γ.set n (.own (xs.set j d))) σ G (upd H q (.lst (vs.set j v))) := by
  have st := en.st.mut (ys := vs.set j v) e3 e4 e2
  have hl : n < Γ.length := (List.getElem?_eq_some_iff.mp hn).1
  have al : ∀ (vs : List V) (xs : List D) (j : Nat), DpAll X.K G vs xs → DpAll X.K G (vs.set j v) (xs.set j d) := by
    intro vs
    induction vs with
    | nil =>
      intro xs j h
      cases h
      exact .nil
    | cons a r ih =>
      intro xs j h
      cases h with
      | cons p1 p2 =>
        cases j with
        | zero => exact .cons dp p2
        | succ j => exact .cons p1 (ih _ j p2)
  refine ⟨st, fun k sl e => ?_, by rw [List.length_set]; exact en.ln⟩
  by_cases hj : n = k
  · subst hj
    rw [List.getElem?_set_self hl] at e
    cases e
    exact ⟨_, e1, q, _, rfl, e2, e3, upd_same, al _ _ _ e5⟩
  · rw [List.getElem?_set_ne hj] at e
    obtain ⟨w, w1, w2⟩ := en.sl k sl e
    refine ⟨w, w1, ?_⟩
    cases sl with
    | dat d => exact w2
    | raw v => exact w2
    | obj a o =>
      obtain ⟨a1, a2, a3⟩ := w2
      have hb : a ≠ q := fun z => by
        rw [z, e4] at a2
        exact a3.2.1 _ (Option.some.inj a2).symm
      exact ⟨a1, by rw [upd_ne hb]; exact a2, a3⟩
    | own ys => exact absurd e (ho k ys (Ne.symm hj))
    | dct kvs =>
      obtain ⟨r, a1, a2, a3, a4⟩ := w2
      have hb : r ≠ q := fun z => by
        rw [z, e4] at a4
        cases a4
      exact ⟨r, a1, a2, a3, by rw [upd_ne hb]; exact a4⟩
    | gen g => exact g.stab e4 w2
    | no => trivial
/-- x[i] = e -/
theorem ws_setO {n m : Nat} {x : Str} {xs : List D} {pa : Pos} {N : List Sl → Prop} {Rt : D → Prop} (hn : Γ[n]? = some (.own xs)) (ho : OneOwn Γ n) (h : DE T X f Γ e d) (hb : DE T X f Γ b (.int i)) (hi : i = (m : Int)) (hm : m < xs.length) (hq : N (Γ.set n (.own (xs.set m d))))
    (hN : X.N[n]? = some x := by rfl) (hv : Vis X.env.scope x := by first | exact Or.inl rfl | exact Or.inr (Or.inl rfl) | exact Or.inr (Or.inr rfl)) (hd : (x == ("__debug__" : Str)) = false := by decide) (hcd : (x == ("__classdict__" : Str)) = false := by decide)
    (ha : ∀ v, assign (.Subscript (.Name x p) b pa) X.env v = (do
      let ov ← holding [v] (eval (.Name x p) X.env)
      let iv ← holding [v, ov] (eval b X.env)
      standAt pa
      holding [v, ov, iv] (setItem ov iv v)
      release [v, ov, iv] []) := by intro _; rfl)
    (hs : swapsWithSole [.Subscript (.Name x p) b pa] e pos.line X.env = pure false := by rfl) (hw : swappedStores [.Subscript (.Name x p) b pa] e X.env = pure none := by rfl)
    (h1 : (assignEach [.Subscript (.Name x p) b pa] X.env).map (·.2) = [assign (.Subscript (.Name x p) b pa) X.env] := by rfl) : WS T X f Γ (.Assign [.Subscript (.Name x p) b pa] e pos) N Rt :=
  .of (ps_asg h.pe (pg_sub (pe_var hN hv hd hcd) hb.pe set_list ha) hs hw h1) fun σ G H E en w => ⟨G, en, fun v d' G' H' st dp e' => by
    subst e'
    have en' := en.step st
    obtain ⟨q, vs, e1, e2, e3, e4, e5⟩ := en'.own hn
    refine ⟨_, e1, G', en', fun v2 d2 G2 H2 s2 dp2 e2' => ?_⟩
    subst e2'
    cases dp2
    have en2 := en'.step s2
    obtain ⟨q', vs', a1, a2, a3, a4, a5⟩ := en2.own hn
    rw [e1] at a1
    cases a1
    exact ⟨q, vs', i, m, rfl, rfl, a4, ixN_of hi (by rw [dpa_len a5]; exact hm), w.nx _ _ _ _ (env_setO en2 ho hn e1 a2 a3 a4 a5 (dp_mono s2.g _ _ dp)) (st.g.trans s2.g) hq⟩⟩
theorem wss_setO {n m : Nat} {x : Str} {xs : List D} {pa : Pos} {rest : List Stmt} {N : List Sl → Prop} {Rt : D → Prop} (hn : Γ[n]? = some (.own xs)) (ho : OneOwn Γ n) (h : DE T X f Γ e d) (hb : DE T X f Γ b (.int i)) (hi : i = (m : Int)) (hm : m < xs.length) (k : WSs T X f (Γ.set n (.own (xs.set m d))) rest N Rt)
    (hN : X.N[n]? = some x := by rfl) (hv : Vis X.env.scope x := by first | exact Or.inl rfl | exact Or.inr (Or.inl rfl) | exact Or.inr (Or.inr rfl)) (hd : (x == ("__debug__" : Str)) = false := by decide) (hcd : (x == ("__classdict__" : Str)) = false := by decide)
    (ha : ∀ v, assign (.Subscript (.Name x p) b pa) X.env v = (do
      let ov ← holding [v] (eval (.Name x p) X.env)
      let iv ← holding [v, ov] (eval b X.env)
      standAt pa
      holding [v, ov, iv] (setItem ov iv v)
      release [v, ov, iv] []) := by intro _; rfl)
    (hs : swapsWithSole [.Subscript (.Name x p) b pa] e pos.line X.env = pure false := by rfl) (hw : swappedStores [.Subscript (.Name x p) b pa] e X.env = pure none := by rfl)
    (h1 : (assignEach [.Subscript (.Name x p) b pa] X.env).map (·.2) = [assign (.Subscript (.Name x p) b pa) X.env] := by rfl) : WSs T X f Γ (.Assign [.Subscript (.Name x p) b pa] e pos :: rest) N Rt :=
  wss_cons (N' := fun Γ' => Γ' = Γ.set n (.own (xs.set m d))) (ws_setO hn ho h hb hi hm rfl hN hv hd hcd ha hs hw h1) fun _ e => e ▸ k
theorem wss_if {Qc : Bool → Prop} {xs ys rest : List Stmt} {N : List Sl → Prop} {Rt : D → Prop} (hc : WT T X f Γ c Qc) (h1 : Qc true → WSs T X f Γ xs (fun Γ' => WSs T X f Γ' rest N Rt) Rt) (h2 : Qc false → WSs T X f Γ ys (fun Γ' => WSs T X f Γ' rest N Rt) Rt) : WSs T X f Γ (.If c xs ys pos :: rest) N Rt :=
  wss_cons (ws_if hc h1 h2) fun _ h => h
theorem dif {q : Bool} {xs ys rest : List Stmt} {N : List Sl → Prop} {Rt : D → Prop} (hc : DT T X f Γ c q) (h1 : q = true → WSs T X f Γ xs (fun Γ' => WSs T X f Γ' rest N Rt) Rt) (h2 : q = false → WSs T X f Γ ys (fun Γ' => WSs T X f Γ' rest N Rt) Rt) : WSs T X f Γ (.If c xs ys pos :: rest) N Rt :=
  wss_if hc (fun e => h1 e.symm) (fun e => h2 e.symm)
end
/-! ### the dice: a list of two ints, whose content is not told -/
def DiceP (d : Addr) (h : Heap) : Prop := ∃ (x y : Int) (t u : Tok) (n : Nat), h.get? d = some { cls := .type "list", data := .seq #[.int x t, .int y u] n }
def DiceO (d : Addr) : HO := .ext (DiceP d)
theorem dice_ok {P : Program} {w : World} {H : Hp} {h : Heap} {d : Addr} (p : DiceP d h) : ObjOk P w H h d (DiceO d) := by
  refine ⟨p, ?_, fun h1 h2 q k => ?_⟩
  · obtain ⟨x, y, t, u, n, e⟩ := p
    exact ⟨_, e⟩
  · obtain ⟨x, y, t, u, n, e⟩ := q
    exact ⟨x, y, t, u, n, k _ e⟩
theorem dice_of {P : Program} {w : World} {H : Hp} {h : Heap} {d : Addr} {x y : Int} (o : ObjOk P w H h d (.lst [.int x, .int y])) : DiceP d h := by
  obtain ⟨_, its, n, r, e⟩ := o
  obtain ⟨t, u, rfl⟩ := Vals.int2 r
  exact ⟨x, y, t, u, n, e⟩
theorem dice_lst {P : Program} {w : World} {H : Hp} {h : Heap} {d : Addr} (p : DiceP d h) : ∃ x y, ObjOk P w H h d (.lst [.int x, .int y]) := by
  obtain ⟨x, y, t, u, n, e⟩ := p
  exact ⟨x, y, by show 2 ≤ sizeLine; decide, [.int x t, .int y u], n, .cons ⟨t, rfl⟩ (.cons ⟨u, rfl⟩ .nil), e⟩
/-- a roll, told of the list itself -/
def spRoll0 (T : Tb) : Sp := fun vs H Q _ => ∃ (d : Addr) (x y many : Int), vs = [.ref d, .int many] ∧ H d = some (.lst [.int x, .int y]) ∧ 0 < many ∧ many ≤ 100000 ∧
  ∀ v x' y' H', 0 ≤ v → v < many → Le T (fun b => if b = d then none else H b) H' → H' d = some (.lst [.int x', .int y']) → Q (.int v) H'
def cRoll : Ct := fun as S => ∃ d many, as = [.obj d (DiceO d), .dat (.int many)] ∧ 0 < many ∧ many ≤ 100000 ∧ S = (fun r => ∃ v, 0 ≤ v ∧ v < many ∧ r = .ok (.int v))
theorem roll_wrap {T : Tb} {P : Program} {w : World} {K : PySem.W.Frag} {mg : Str → Option Value} {base : Heap} {CX : CXT} {k : Nat} {fa : Addr} {fd : FuncData} {ps : List Str} (hps : ps.length = 2) (hCX : ∀ outer H H' s E e s', CX outer H s (fun _ _ _ => False) e s' → CX outer H' s E e s')
    (F : FnOk P w K mg base CX k fa fd ps (spRoll0 T)) : FnOk P w K mg base CX k fa fd ps (spD T K mg cRoll) := by
  refine ⟨fun vs H Q E h => ?_, fun A outer s H args us vs Q E hr he hb hv h => ?_⟩
  · obtain ⟨G, as, S, _, ar, ⟨d, many, rfl, _⟩, _⟩ := h
    rw [ar_len ar, hps]
    rfl
  · obtain ⟨G, as, S, sb, ar, ⟨d, many, rfl, h1, h2, rfl⟩, k1, _⟩ := h
    match vs, ar with
    | [v1, v2], ⟨a1, a2, _⟩ =>
      obtain ⟨e1, hd, _⟩ := a1
      obtain ⟨v2', e2, dp⟩ := a2
      cases e1
      cases e2
      cases dp
      have nb : ∀ b, H b = none → b ≠ d := fun b hn z => by
        rw [z, hd] at hn
        cases hn
      obtain ⟨x, y, ol⟩ := dice_lst (P := P) (w := w) (H := upd H d (.lst [])) (show DiceP d s.heap from (he.hok d _ hd).1)
      have mu : Mut (H d) := by
        rw [hd]
        trivial
      have hok1 : HOk P w (upd H d (.lst [.int x, .int y])) s.heap := HOk.write he.hok mu (.inl rfl) (fun b u _ q => q) (by obtain ⟨o, ho⟩ := objOk_get ol; exact ⟨o, ho⟩) (by
        obtain ⟨z, its, n, r, e⟩ := ol
        exact ⟨z, its, n, r, e⟩)
      have he1 : Env0 P w K mg base A outer s (upd H d (.lst [.int x, .int y])) :=
        ⟨he.frames, he.mod, fun b o e => ⟨(he.bs b o e).1, by rw [upd_ne (nb b (he.bs b o e).2)]; exact (he.bs b o e).2⟩, he.bsz, he.funs, fun b hb => by rw [upd_ne (nb b (he.frf b hb))]; exact he.frf b hb, hok1, he.bare⟩
      refine codeAny_mono (F.run A outer s (upd H d (.lst [.int x, .int y])) args us _ (fun v H' => ∃ n x' y', v = .int n ∧ 0 ≤ n ∧ n < many ∧ Le T (fun b => if b = d then none else upd H d (.lst [.int x, .int y]) b) H' ∧ H' d = some (.lst [.int x', .int y'])) (fun _ _ _ => False) hr he1 hb hv ⟨d, x, y, many, rfl, upd_same, h1, h2, fun v x' y' H' q1 q2 q3 q4 => ⟨v, x', y', rfl, q1, q2, q3, q4⟩⟩) fun r s' hq => ?_
      cases r with
      | error e => exact hCX _ _ _ _ _ _ _ hq
      | ok fl =>
        cases fl with
        | next => exact hq
        | brk => exact hq
        | cont => exact hq
        | ret u =>
          obtain ⟨v, H', os, bare, un, hok, rv, n, x', y', rfl, q1, q2, le, q4⟩ := hq
          have back : ∀ b o, b ≠ d → H b = some o → NT o → H' b = some o := fun b o hb e nt => le.h b o (by show (if b = d then none else upd H d (.lst [.int x, .int y]) b) = some o; rw [if_neg hb, upd_ne hb]; exact e) nt
          have nd : ∀ q : Str, DiceO d ≠ LamX.CodeO d q := fun q z => by
            have hp : DiceP d s.heap := (he.hok d _ hd).1
            have z2 : DiceP d = fun h : Heap => ∃ (oc : Obj) (vs : Array Value) (t : Tok), h.get? d = some oc ∧ oc.data = .fields vs ∧ vs[1]? = some (.str q t) := HO.ext.inj z
            rw [z2] at hp
            obtain ⟨oc, vs, t, e1, e2, _⟩ := hp
            obtain ⟨x, y, t, u, n, e⟩ := (he.hok d _ hd).1
            rw [e] at e1
            cases e1
            cases e2
          have tb : LamX.Tabs T H → LamX.Tabs T (fun b => if b = d then none else upd H d (.lst [.int x, .int y]) b) := fun t p hp => by
            obtain ⟨ps, c1, c2, c3⟩ := t p hp
            have n1 : p.1 ≠ d := fun z => by
              rw [z, hd] at c1
              cases c1
            refine ⟨ps, ?_, c2, fun pos cv hc => ?_⟩
            · show (if p.1 = d then none else upd H d (.lst [.int x, .int y]) p.1) = _
              rw [if_neg n1, upd_ne n1]
              exact c1
            · obtain ⟨c, f1, f2⟩ := c3 pos cv hc
              have n2 : c ≠ d := fun z => by
                rw [z, hd] at f2
                exact nd _ (Option.some.inj f2)
              refine ⟨c, f1, ?_⟩
              show (if c = d then none else upd H d (.lst [.int x, .int y]) c) = _
              rw [if_neg n2, upd_ne n2]
              exact f2
          have le2 : Le T H (upd H' d (DiceO d)) := by
            refine ⟨fun b o e nt => ?_, fun t => tabs_mut q4 (le.t (tb t))⟩
            by_cases hb : b = d
            · rw [hb, hd] at e
              cases e
              rw [hb]
              exact upd_same
            · rw [upd_ne hb]
              exact back b o hb e nt
          refine ⟨.int n, upd H' d (DiceO d), os, bare, ⟨fun b o e hn hf hx => ?_, fun b o e hn hf hx => ?_, fun b o e hn hx => ?_, un.there, fun b xs e => ?_, fun b o u e => ?_, fun b ps e => ?_⟩, ?_, rv, k1 _ ⟨n, q1, q2, rfl⟩ _ G _ (.keep sb le2) (.int n)⟩
          · exact un.keep b o e (by rw [upd_ne (nb b hn)]; exact hn) hf hx
          · exact un.slot b o e (by rw [upd_ne (nb b hn)]; exact hn) hf hx
          · rw [upd_ne (nb b hn)]
            exact un.free b o e (by rw [upd_ne (nb b hn)]; exact hn) hx
          · have hb : b ≠ d := fun z => by
              rw [z, hd] at e
              cases e
            rw [upd_ne hb]
            exact un.tups b xs (by rw [upd_ne hb]; exact e)
          · have hb : b ≠ d := fun z => by
              rw [z, hd] at e
              cases e
            rw [upd_ne hb]
            exact un.frzs b o u (by rw [upd_ne hb]; exact e)
          · have hb : b ≠ d := fun z => by
              rw [z, hd] at e
              cases e
            rw [upd_ne hb]
            exact un.tbls b ps (by rw [upd_ne hb]; exact e)
          · refine HOk.write hok ?_ (.inl rfl) (fun b u _ q => q) ?_ (dice_ok (dice_of (hok d _ q4)))
            · rw [q4]
              trivial
            · obtain ⟨o, ho⟩ := objOk_get (hok d _ q4)
              exact ⟨o, ho⟩
    | [], h => exact h.elim
    | [_], h => exact h.2.elim
    | _ :: _ :: _ :: _, h => exact h.2.2.elim
end DL
set_option Elab.async false
set_option linter.all false
set_option maxRecDepth 100000
set_option maxHeartbeats 4000000
namespace DL
open PySem PySem.Spec PyProof.Rows L2
/-! ### shapes of data -/
structure Shp (n : Nat) (d : D) : Prop where
  c : d.canLay0 = true
  d : d.depth ≤ n
theorem Shp.ok {n : Nat} {d : D} (h : Shp n d) (hn : n ≤ 64 := by decide) : SeqAt.shaped d = true := by
  unfold SeqAt.shaped
  rw [h.c, decide_eq_true (Nat.le_trans h.d hn)]
  rfl
theorem shp_int (i : Int) : Shp 0 (.int i) := ⟨rfl, Nat.le_refl _⟩
theorem shp_all {n : Nat} : ∀ {xs : List D}, (∀ x ∈ xs, Shp n x) → PyData.canLayAll0 xs = true ∧ PyData.depthAll xs ≤ n
  | [], _ => ⟨rfl, Nat.zero_le _⟩
  | x :: xs, h => by
    obtain ⟨a, b⟩ := shp_all fun y hy => h y (List.mem_cons_of_mem _ hy)
    have hx := h x List.mem_cons_self
    refine ⟨?_, ?_⟩
    · show (PyData.canLay0 x && PyData.canLayAll0 xs) = true
      rw [hx.c, a]
      rfl
    · show max (PyData.depth x) (PyData.depthAll xs) ≤ n
      exact Nat.max_le.mpr ⟨hx.d, b⟩
theorem shp_list {n : Nat} {xs : List D} (h : ∀ x ∈ xs, Shp n x) : Shp (n + 1) (.list xs) := ⟨(shp_all h).1, Nat.succ_le_succ (shp_all h).2⟩
theorem shp_tup {n : Nat} {xs : List D} (h : ∀ x ∈ xs, Shp n x) : Shp (n + 1) (.tuple xs) := ⟨(shp_all h).1, Nat.succ_le_succ (shp_all h).2⟩
theorem shp_iL (ns : List Int) : ∀ x ∈ iL ns, Shp 0 x := fun x hx => by
  obtain ⟨i, _, rfl⟩ := List.mem_map.mp hx
  exact shp_int i
theorem shp_listI (ns : List Int) : Shp 1 (.list (iL ns)) := shp_list (shp_iL ns)
theorem shp_tupI (ns : List Int) : Shp 1 (.tuple (iL ns)) := shp_tup (shp_iL ns)
theorem eqv_same {d : D} (h : d.canLay0 = true) : PyData.eqv d d = true := SeqAt.eqv_refl d h
/-! ### equality without truth values -/
mutual
def nb : D → Bool
  | .none => true
  | .bool _ => false
  | .int _ => true
  | .str _ => true
  | .list xs => nbA xs
  | .tuple xs => nbA xs
  | .dict _ => false
def nbA : List D → Bool
  | [] => true
  | x :: xs => nb x && nbA xs
end
mutual
theorem eqv_eq : ∀ (d e : D), nb d = true → nb e = true → PyData.eqv d e = true → d = e
  | .none, .none, _, _, _ => rfl
  | .int i, .int j, _, _, h => by
    have : (i == j) = true := h
    rw [eq_of_beq this]
  | .str i, .str j, _, _, h => by
    have : (i == j) = true := h
    rw [eq_of_beq this]
  | .list xs, .list ys, h1, h2, h => by rw [eqvA_eq xs ys h1 h2 h]
  | .tuple xs, .tuple ys, h1, h2, h => by rw [eqvA_eq xs ys h1 h2 h]
  | .bool _, _, h, _, _ => nof h
  | _, .bool _, _, h, _ => nof h
  | .dict _, _, h, _, _ => nof h
  | _, .dict _, _, h, _ => nof h
  | .none, .int _, _, _, h | .none, .str _, _, _, h | .none, .list _, _, _, h | .none, .tuple _, _, _, h => nof h
  | .int _, .none, _, _, h | .int _, .str _, _, _, h | .int _, .list _, _, _, h | .int _, .tuple _, _, _, h => nof h
  | .str _, .none, _, _, h | .str _, .int _, _, _, h | .str _, .list _, _, _, h | .str _, .tuple _, _, _, h => nof h
  | .list _, .none, _, _, h | .list _, .int _, _, _, h | .list _, .str _, _, _, h | .list _, .tuple _, _, _, h => nof h
  | .tuple _, .none, _, _, h | .tuple _, .int _, _, _, h | .tuple _, .str _, _, _, h | .tuple _, .list _, _, _, h => nof h
theorem eqvA_eq : ∀ (ds es : List D), nbA ds = true → nbA es = true → PyData.eqvAll ds es = true → ds = es
  | [], [], _, _, _ => rfl
  | x :: xs, y :: ys, h1, h2, h => by
    have a1 : (nb x && nbA xs) = true := h1
    have a2 : (nb y && nbA ys) = true := h2
    have a3 : (PyData.eqv x y && PyData.eqvAll xs ys) = true := h
    rw [Bool.and_eq_true] at a1 a2 a3
    rw [eqv_eq x y a1.1 a2.1 a3.1, eqvA_eq xs ys a1.2 a2.2 a3.2]
  | [], _ :: _, _, _, h => nof h
  | _ :: _, [], _, _, h => nof h
end
theorem eqv_iff {d e : D} (h1 : nb d = true) (h2 : nb e = true) (hd : d.canLay0 = true) : PyData.eqv d e = true ↔ d = e := ⟨eqv_eq d e h1 h2, fun h => by
  subst h
  exact eqv_same hd⟩
theorem iL_inj {a b : List Int} (h : iL a = iL b) : a = b := by
  induction a generalizing b with
  | nil =>
    cases b with
    | nil => rfl
    | cons _ _ => cases h
  | cons x xs ih =>
    cases b with
    | nil => cases h
    | cons y ys =>
      have h1 := List.cons.inj h
      rw [PyData.int.inj h1.1, ih h1.2]
theorem nbA_iL : ∀ ns : List Int, nbA (iL ns) = true
  | [] => rfl
  | n :: ns => by
    show (true && nbA (iL ns)) = true
    rw [nbA_iL ns]
    rfl
theorem eqv_iL {a b : List Int} : PyData.eqvAll (iL a) (iL b) = decide (a = b) := by
  by_cases h : a = b
  · subst h
    rw [decide_eq_true rfl]
    exact eqv_same (d := .list (iL a)) (shp_listI a).c
  · rw [decide_eq_false h]
    cases q : PyData.eqvAll (iL a) (iL b) with
    | false => rfl
    | true => exact absurd (iL_inj (eqvA_eq _ _ (nbA_iL a) (nbA_iL b) q)) h
theorem eqv_tI {a b : List Int} : PyData.eqv (.tuple (iL a)) (.tuple (iL b)) = decide (a = b) := eqv_iL
theorem eqv_lI {a b : List Int} : PyData.eqv (.list (iL a)) (.list (iL b)) = decide (a = b) := eqv_iL
end DL
namespace DL
open PySem PySem.Spec PyProof.Rows L2
/-! ### a def of the module, by its text -/
structure DefAt (K : PySem.W.Frag) (mg : Str → Option Value) (n : Str) (st : Stmt) : Prop where
  ex : ∃ fa fd, Fun K n n st fa fd ∧ mg n = some (.ref fa)
/-- the built-ins stand -/
structure Mb (mg : Str → Option Value) : Prop where
  isinstance : mg "isinstance" = none
  int : mg "int" = none
  bool : mg "bool" = none
  tuple : mg "tuple" = none
  str : mg "str" = none
  list : mg "list" = none
  len : mg "len" = none
  all : mg "all" = none
  sum : mg "sum" = none
  range : mg "range" = none
  max : mg "max" = none
  min : mg "min" = none
  abs : mg "abs" = none
  sorted : mg "sorted" = none
  set : mg "set" = none
  enumerate : mg "enumerate" = none
section
variable {T : Tb} {P : Program} {w : World} {K : PySem.W.Frag} {mg : Str → Option Value} {base : Heap}
theorem dfn_of {n : Str} {st : Stmt} {ps : List Str} {k : Nat} {C : Ct} (A : DefAt K mg n st)
    (bi : ∀ (kV doc pm : Value) (an : Option Addr) (cdv ct : Value) (us : List Value), us.length = ps.length → bindArgs (PySem.W.fnOf n n (defArgs st) (defBody st) (defScope st) .none kV doc pm an cdv ct) ⟨us, []⟩ = pure (ps.zip us))
    (h : ∀ fa fd, Fun K n n st fa fd → FnOk P w K mg base (L2N.CX P w) k fa fd ps (spD T K mg C)) : Dfn T P w K mg base n k C := by
  obtain ⟨fa, fd, F, g⟩ := A.ex
  exact ⟨fa, fd, ps, h fa fd F, g, F.kp, F.binds bi⟩
theorem fn_dfn {n : Str} {st : Stmt} {N ps : List Str} {k : Nat} {C : Ct} (A : DefAt K mg n st) (S : FnScope N ps (defScope st))
    (bi : ∀ (kV doc pm : Value) (an : Option Addr) (cdv ct : Value) (us : List Value), us.length = ps.length → bindArgs (PySem.W.fnOf n n (defArgs st) (defBody st) (defScope st) .none kV doc pm an cdv ct) ⟨us, []⟩ = pure (ps.zip us))
    (len : ∀ as S, C as S → as.length = ps.length ∧ ∀ a ∈ as, Sl.isOwn a = false)
    (body : ∀ (fa : Addr) (cdv : Value) (A : Around) (outer : List Env) (s : Shared) (G H : Hp) (E : XK) (as : List Sl) (S : Oc → Prop), C as S →
      Bd T (cxOf (L2N.CX P w) P w K mg base N n (defScope st) fa cdv A outer s H E) ⟨G, H, fun n => S (.error n)⟩ k →
      WSs T (cxOf (L2N.CX P w) P w K mg base N n (defScope st) fa cdv A outer s H E) ⟨G, H, fun n => S (.error n)⟩ (stG N as) (defBody st) (fun _ => S (.ok .none)) (fun d => S (.ok d))) : Dfn T P w K mg base n (k + 1) C :=
  dfn_of A bi fun fa fd F => fn_d F S len fun cdv A outer s G H E as S hC B => body fa cdv A outer s G H E as S hC B
theorem Dfn.mono {n : Str} {j k : Nat} {C : Ct} (D : Dfn T P w K mg base n j C) (h : j ≤ k) : Dfn T P w K mg base n k C := by
  obtain ⟨fa, fd, ps, F, r⟩ := D.ex
  exact ⟨fa, fd, ps, F.mono h, r⟩
end
section
variable {T : Tb} {X : Cx} {f : Fx} {Γ : List Sl} {a b c : Expr} {pos : Pos} {x y : D} {p : Bool}
theorem de_ite (hc : DT T X f Γ c p) (ha : DE T X f Γ a x) (hb : DE T X f Γ b y) : DE T X f Γ (.IfExp c a b pos) (cond p x y) :=
  de_if hc (fun e => by rw [e]; exact ha) (fun e => by rw [e]; exact hb)
variable {rest : List Expr} {q : Bool}
theorem de_andF (ha : DE T X f Γ a (.bool p)) (hp : p = false) : DE T X f Γ (.BoolOp .And (a :: b :: rest) pos) (.bool false) := by
  subst hp
  exact DE.is (de_and (q := false) ha fun h => nof h) rfl
theorem de_andT (ha : DE T X f Γ a (.bool p)) (hp : p = true) (hb : DE T X f Γ (.BoolOp .And (b :: rest) pos) (.bool q)) : DE T X f Γ (.BoolOp .And (a :: b :: rest) pos) (.bool q) := by
  subst hp
  exact DE.is (de_and ha fun _ => hb) rfl
theorem de_orT (ha : DE T X f Γ a (.bool p)) (hp : p = true) : DE T X f Γ (.BoolOp .Or (a :: b :: rest) pos) (.bool true) := by
  subst hp
  exact DE.is (de_or (q := false) ha fun h => noT h) rfl
theorem de_orF (ha : DE T X f Γ a (.bool p)) (hp : p = false) (hb : DE T X f Γ (.BoolOp .Or (b :: rest) pos) (.bool q)) : DE T X f Γ (.BoolOp .Or (a :: b :: rest) pos) (.bool q) := by
  subst hp
  exact DE.is (de_or ha fun _ => hb) rfl
theorem DW.is {e : Expr} {b b' : Bool} (h : DW T X f Γ e b) (q : b = b') : DW T X f Γ e b' := q ▸ h
theorem dw_andF (ha : DT T X f Γ a p) (hp : p = false) : DW T X f Γ (.BoolOp .And (a :: b :: rest) pos) false := by
  subst hp
  exact DW.is (dw_and (q := false) ha fun h => nof h) rfl
theorem dw_andT (ha : DT T X f Γ a p) (hp : p = true) (hb : DW T X f Γ (.BoolOp .And (b :: rest) pos) q) : DW T X f Γ (.BoolOp .And (a :: b :: rest) pos) q := by
  subst hp
  exact DW.is (dw_and ha fun _ => hb) rfl
theorem dw_orT (ha : DT T X f Γ a p) (hp : p = true) : DW T X f Γ (.BoolOp .Or (a :: b :: rest) pos) true := by
  subst hp
  exact DW.is (dw_or (q := false) ha fun h => noT h) rfl
theorem dw_orF (ha : DT T X f Γ a p) (hp : p = false) (hb : DW T X f Γ (.BoolOp .Or (b :: rest) pos) q) : DW T X f Γ (.BoolOp .Or (a :: b :: rest) pos) q := by
  subst hp
  exact DW.is (dw_or ha fun _ => hb) rfl
end
theorem passN {X : Cx} : Passes (L2N.CX X.prog X.w) X E0 := fun _ _ _ _ _ _ _ h => by
  obtain ⟨_, _, _, _, _, _, _, _, _, _, _, _, z⟩ := h
  exact z.elim
end DL
set_option Elab.async false
set_option linter.all false
set_option maxRecDepth 100000
set_option maxHeartbeats 4000000
namespace DL
open PySem PySem.Spec PyProof.Rows L2
/-! ### the law's rounds: a list of new lists of two ints -/
structure Rounds (T : Tb) (H H' : Hp) (p : Addr) (as : List Addr) : Prop where
  le : Le T H H'
  hp : H' p = some (.lst (as.map V.ref))
  it : ∀ a ∈ as, Fr H a ∧ ∃ c, H' a = some (.lst [.int c, .int 0])
section
variable {T : Tb} {X : Cx} {f : Fx} {Γ : List Sl} {pos : Pos}
def rdR (T : Tb) (X : Cx) (f : Fx) (Γ : List Sl) : TE := fun σ H QQ => ∃ G, EnvR T X.K f Γ σ G H ∧ ∀ p H' as, Rounds T H H' p as → QQ (.ref p) H'
theorem rounds_pe {e1 tg iter : Expr} {scope : Scope} {own : List (Str × Nat)} {ds : List D} {ns : List Nat} {Tg : D → List Sl → List Sl → Prop} {k j : Nat} {p0 lp : Pos} (B : Bd T X f k) (hN : X.N.Nodup)
    (hi : WI T X f Γ tg iter (fun z => z = ds)) (ok : BlkOk X.N X.env.scope scope own) (hn : ∀ i ∈ ns, i ∈ own.map (·.2)) (hg : ∀ s H C cl fp, WG T (Cx.bk X scope s H C cl fp) f.no tg ns Tg)
    (hd : ∀ (i : Nat) (d : D), ds[i]? = some d → ∃ Γ1, Tg d (wipeG Γ (own.map (·.2))) Γ1 ∧ ∀ s H C cl fp, WE T (Cx.bk X scope s H C cl fp) f.no Γ1 e1 fun d => ∃ c, d = .int c)
    (hz : ds.length ≤ 90000) (hst : ∀ s H C cl fp, starEach [e1, .Constant (.int 0) j p0] (Cx.bk X scope s H C cl fp).env = (false, eval e1 (Cx.bk X scope s H C cl fp).env) :: starEach [.Constant (.int 0) j p0] (Cx.bk X scope s H C cl fp).env) (hs : ∀ x, foldedSetIterable iter X.env x = pure x := by intro _; rfl) :
    PE X (.ListComp (.List [e1, .Constant (.int 0) j p0] lp) [⟨tg, iter, [], 0⟩] scope pos) (rdR T X f Γ) := by
  obtain ⟨wi, p, kw⟩ := hi
  refine ⟨fun pins s σ H QQ I ⟨G, en, w⟩ => ?_⟩
  have main : PE X (.ListComp (.List [e1, .Constant (.int 0) j p0] lp) [⟨tg, iter, [], 0⟩] scope pos) _ := pe_lc (own := own) (wi := wi) B.calm hN p ok
    (g := fun v σ H Q => ∀ s H' C cl fp, ∃ g, PG (Cx.bk X scope s H' C cl fp) tg g ∧ g v σ H Q)
    (tt := tYes)
    (te := tLst (tCons (fun σ H QQ => ∃ Γ1, (∀ s H' C cl fp, WE T (Cx.bk X scope s H' C cl fp) f.no Γ1 e1 fun d => ∃ c, d = .int c) ∧ rd T X f.no Γ1 (fun d => ∃ c, d = .int c) σ H QQ) (tCons (tC (.int 0)) tNil)))
    (fun s H C cl fp => ⟨fun pins s' σ H' v u Q I r h => by
      obtain ⟨g, pg, hq⟩ := h s H C cl fp
      exact pg.run pins s' σ H' v u Q I r hq⟩) (fun s H C cl fp => pts_nil) (fun s H C cl fp => pe_lst (pa_cons ⟨fun pins s' σ H' Q I h => by
      obtain ⟨Γ1, h1, h2⟩ := h
      exact (h1 s H C cl fp).pe.run pins s' σ H' Q I h2⟩ (pa_cons pe_int pa_nil) (hst s H C cl fp))) hs
  refine main.run pins s σ H QQ I (kw σ G H _ en fun J ds' G1 H1 st1 it e => ?_)
  subst e
  intro q hq
  have en1 := en.step st1
  refine ⟨fun i m H' => m = ds'.length - i ∧ i ≤ ds'.length ∧ ∃ G' as, Stp T G1 H1 G' H' ∧ G' q = none ∧ H' q = some (.lst (as.map V.ref)) ∧ as.length = i ∧ ∀ a ∈ as, Fr H1 a ∧ a ≠ q ∧ ∃ c, H' a = some (.lst [.int c, .int 0]), ⟨ds'.length, by simp, Nat.zero_le _, G1, [], ?_, st1.s.none hq, upd_same, rfl, ?_⟩, ?_⟩
  · exact .keep st1.s (.new hq)
  · intro a ha
    cases ha
  · rintro i m H' ⟨rfl, hi, G', as, st', g0, h0, hl, al⟩
    obtain ⟨i1, i2⟩ := it i G' H' st'.g st'.s
    by_cases hlt : i < ds'.length
    · have e0 := List.getElem?_eq_getElem hlt
      obtain ⟨go, yl⟩ := i1 _ e0
      obtain ⟨Γ1, t1, he⟩ := hd i _ e0
      refine .inr ⟨go, fun H2 => ∃ G2 as2, Stp T G1 H1 G2 H2 ∧ G2 q = none ∧ H2 q = some (.lst (as2.map V.ref)) ∧ as2.length = i + 1 ∧ ∀ a ∈ as2, Fr H1 a ∧ a ≠ q ∧ ∃ c, H2 a = some (.lst [.int c, .int 0]), fun H2 ⟨G2, as2, a1, a2, a3, a4, a5⟩ => ⟨_, by omega, rfl, hlt, G2, as2, a1, a2, a3, a4, a5⟩, fun x H2 y s5 H5 C5 cl5 fp5 => ?_⟩
      obtain ⟨e, dp⟩ := yl x H2 y
      subst e
      obtain ⟨g, pg, kg⟩ := hg s5 H5 C5 cl5 fp5
      have enw := (env_wipe (en1.step st') (own.map (·.2))).no
      refine ⟨g, pg, kg x _ _ G' _ _ Γ1 _ enw dp t1 fun σ2 en2 q2 l2 => ⟨wipe_same hn (by rw [l2, wipe_length]) q2, ?_⟩⟩
      refine ⟨Γ1, he, G', en2, fun v d G3 H3 s3 dp3 ⟨c, e⟩ => ?_⟩
      subst e
      cases dp3
      refine ⟨by show 2 ≤ sizeLine; decide, fun r hr => ?_⟩
      have h3 := s3.le.h _ _ h0 nt_lst
      have g3 := s3.n q _ g0 h0 nt_lst
      have rq : r ≠ q := fun z => by
        rw [z, h3] at hr
        cases hr
      have h1r : Fr H1 r := (st'.le.trans s3.le).fr (fr_none hr)
      refine ⟨as.map V.ref, ?_, ?_, G3, as ++ [r], ?_, g3, ?_, ?_, fun a ha => ?_⟩
      · rw [upd_ne (Ne.symm rq)]
        exact h3
      · rw [List.length_map]
        exact Evl.sz_lt (by omega)
      · have s4 : Stp T G1 H1 G3 (upd H3 r (.lst [.int c, .int 0])) := (st'.trans s3).trans (.keep s3.s (.new hr))
        exact s4.mut (fr_none hq) (by rw [upd_ne (Ne.symm rq)]; exact h3) g3
      · rw [upd_same, List.map_append]
        rfl
      · rw [List.length_append, hl]
        rfl
      · rcases List.mem_append.mp ha with ha | ha
        · obtain ⟨b1, b2, c', b3⟩ := al a ha
          have b4 := s3.le.h _ _ b3 nt_lst
          refine ⟨b1, b2, c', ?_⟩
          rw [upd_ne b2, upd_ne (ne_of_none b4 hr)]
          exact b4
        · have e : a = r := by simpa using ha
          subst e
          exact ⟨h1r, rq, c, by rw [upd_ne rq, upd_same]⟩
    · have e : i = ds'.length := by omega
      subst e
      exact .inl ⟨i2 (Nat.le_refl _), w q H' as ⟨st1.le.trans st'.le, h0, fun a ha => ⟨st1.le.fr (al a ha).1, (al a ha).2.2⟩⟩⟩
end
/-- what the rounds promise -/
def spRounds (T : Tb) (K : PySem.W.Frag) : Sp := fun vs H Q _ => ∃ G v ns most, vs = [v, .int most] ∧ Sub G H ∧ Dp K G v (.list (iL ns)) ∧ ns.length ≤ 63 ∧ 1 ≤ most ∧ most ≤ 10 ∧
  ∀ (p : Addr) (H' : Hp) (as : List Addr), Le T H H' → H' p = some (.lst (as.map V.ref)) → (∀ a ∈ as, H' a = some (DiceO a)) → Q (.ref p) H'
def spRounds0 (T : Tb) (K : PySem.W.Frag) : Sp := fun vs H Q _ => ∃ G v ns most, vs = [v, .int most] ∧ Sub G H ∧ Dp K G v (.list (iL ns)) ∧ ns.length ≤ 63 ∧ 1 ≤ most ∧ most ≤ 10 ∧
  ∀ p H' as, Rounds T H H' p as → Q (.ref p) H'
def diceAll (H : Hp) (as : List Addr) : Hp := fun b => if b ∈ as then some (DiceO b) else H b
theorem rounds_wrap {T : Tb} {P : Program} {w : World} {K : PySem.W.Frag} {mg : Str → Option Value} {base : Heap} {CX : CXT} {k : Nat} {fa : Addr} {fd : FuncData} {ps : List Str}
    (F : FnOk P w K mg base CX k fa fd ps (spRounds0 T K)) : FnOk P w K mg base CX k fa fd ps (spRounds T K) := by
  refine ⟨fun vs H Q E h => ?_, fun A outer s H args us vs Q E hr he hb hv h => ?_⟩
  · obtain ⟨G, v, ns, most, rfl, a, b, c, d, e, f⟩ := h
    exact F.len _ H (fun _ _ => True) E ⟨G, v, ns, most, rfl, a, b, c, d, e, fun _ _ _ _ => trivial⟩
  · obtain ⟨G, v, ns, most, rfl, c1, c2, c3, c4, c5, q⟩ := h
    refine codeAny_mono (F.run A outer s H args us _ (fun v H' => ∃ p as, v = .ref p ∧ Rounds T H H' p as) E hr he hb hv ⟨G, v, ns, most, rfl, c1, c2, c3, c4, c5, fun p H' as r => ⟨p, as, rfl, r⟩⟩) fun r s' hq => ?_
    cases r with
    | error e => exact hq
    | ok fl =>
      cases fl with
      | next => exact hq
      | brk => exact hq
      | cont => exact hq
      | ret u =>
        obtain ⟨v, H', os, bare, un, hok, rv, p, as, rfl, R⟩ := hq
        have isl : ∀ b ∈ as, ∃ c, H' b = some (.lst [.int c, .int 0]) := fun b hb => (R.it b hb).2
        have nin : ∀ b o, H' b = some o → (∀ xs, o ≠ .lst xs) → b ∉ as := fun b o e n hb => by
          obtain ⟨c, e2⟩ := isl b hb
          rw [e] at e2
          exact n _ (Option.some.inj e2)
        have nn : ∀ b, H' b = none → b ∉ as := fun b e hb => by
          obtain ⟨c, e2⟩ := isl b hb
          rw [e] at e2
          cases e2
        have no : ∀ b, b ∉ as → diceAll H' as b = H' b := fun b hb => if_neg hb
        have pas : p ∉ as := fun hb => by
          obtain ⟨c, e2⟩ := isl p hb
          rw [R.hp] at e2
          cases as with
          | nil => cases hb
          | cons x r => cases e2
        have le2 : Le T H (diceAll H' as) := by
          refine ⟨fun b o e nt => ?_, fun t => ?_⟩
          · have hb : b ∉ as := fun z => (R.it b z).1 o e nt
            rw [no b hb]
            exact R.le.h b o e nt
          · intro q hq
            obtain ⟨ps, t1, t2, t3⟩ := R.le.t t q hq
            refine ⟨ps, ?_, t2, fun pos cv hc => ?_⟩
            · rw [no _ (nin _ _ t1 fun xs z => by cases z)]
              exact t1
            · obtain ⟨c, f1, f2⟩ := t3 pos cv hc
              refine ⟨c, f1, ?_⟩
              rw [no _ (nin _ _ f2 fun xs z => by unfold LamX.CodeO at z; cases z)]
              exact f2
        refine ⟨.ref p, diceAll H' as, os, bare, ⟨un.keep, un.slot, fun b o e hn hx => ?_, un.there, fun b xs e => ?_, fun b o u e => ?_, fun b ps e => ?_⟩, fun b o e => ?_, rv, q p _ as le2 ?_ fun a ha => if_pos ha⟩
        · have z := un.free b o e hn hx
          rw [no b (nn b z)]
          exact z
        · have z := un.tups b xs e
          rw [no b (nin b _ z fun _ y => by cases y)]
          exact z
        · have z := un.frzs b o u e
          rw [no b (nin b _ z fun _ y => by cases y)]
          exact z
        · obtain ⟨more, z⟩ := un.tbls b ps e
          exact ⟨more, by rw [no b (nin b _ z fun _ y => by cases y)]; exact z⟩
        · by_cases hb : b ∈ as
          · have e2 : diceAll H' as b = some (DiceO b) := if_pos hb
            rw [e2] at e
            cases e
            obtain ⟨c, e3⟩ := isl b hb
            exact dice_ok (dice_of (hok b _ e3))
          · rw [no b hb] at e
            refine (hok b o e).stay (fun c u _ z => z) (fun c z => ?_) fun c xs z => ?_
            · rw [no c (nin c _ z fun _ y => by cases y)]
              exact z
            · rw [no c (nin c _ z fun _ y => by cases y)]
              exact z
        · rw [no p pas]
          exact R.hp
end DL
set_option Elab.async false
set_option linter.all false
set_option maxRecDepth 100000
set_option maxHeartbeats 4000000
namespace HX
open PySem PySem.Spec PyProof.Rows HotX
section
variable {prog : Program} {w : World} {A : Around} {E : Value → Shared → Prop} {s : Shared}
/-- a list's iterator ends while an exception is handled -/
theorem list_end_hot {it l x1 : Addr} {i : Nat} {its : Array Value} {Q : Option Value → Shared → Prop} (hot : HotAt A x1 s.heap) (hne : x1 ≠ it) (hit : s.heap.IsListIter it l i) (hl : s.heap.IsList l its) (hx : its[i]? = none)
    (hQ : ∀ h', Heap.ExtBut it s.heap h' → Q none { s with heap := h' }) : wpAny (model prog w) A (pyNext (.ref it)) Q E s := by
  obtain ⟨hh, o1, vs1, h1, d1, c1⟩ := hot; obtain ⟨o, ho, hc, hd⟩ := id hit; obtain ⟨ol, hol, _, nl, hdl⟩ := hl
  unfold pyNext
  refine wpAny_bind (wpAny_attempt (wpAny_callSpecial?_slot (name := Str.ofString "__next__") hit.typeIs slot_listiter_next (wpAny_call_entry slot_listiter_next hit.typeIs entry_listiter_next ?_ (args_listiter_next _))))
  show wpAny _ _ (field (.ref it) 0 >>= _) _ _ s; refine wpAny_bind (wpAny_field ho hd (x := .ref l) rfl ?_)
  show wpAny _ _ (if (Value.ref l == Value.none) = true then _ else _) _ _ s; rw [if_neg (show ¬ ((Value.ref l == Value.none) = true) from Bool.false_ne_true)]
  show wpAny _ _ (field (.ref it) 1 >>= _) _ _ s; refine wpAny_bind (wpAny_field ho hd (x := .int i 0) rfl ?_)
  show wpAny _ _ (seqItems? (.ref l) >>= _) _ _ s; refine wpAny_bind (wpAny_seqItems hol hdl ?_)
  simp only [Int.toNat_natCast, hx]
  refine wpAny_bind (wpAny_rule (wpAny_bind (wpAny_setField ho hd (by simp) ?_)))
  show wpAny _ _ (newExc (.type "StopIteration") [] >>= _) _ _ _; refine wpAny_bind ?_
  simp only [newExc, newTuple]; refine wpAny_bind (wpAny_newObj_type ?_ (by size_fits))
  refine wpAny_bind (m := firstArgMember _ _) (wpAny_of_eq (a := Value.none) (by first | rfl | (simp only [firstArgMember]; rfl)) ?_); refine wpAny_newObj_type ?_ (by size_fits)
  have h1' := (Heap.get?_update_other s.heap (Obj.mapFields (·.setIfInBounds 0 Value.none)) (Ne.symm hne)).trans h1
  refine raiseNew_hot ⟨hh, o1, vs1, Heap.get?_push_of_some _ (Heap.get?_push_of_some _ h1'), d1, c1⟩ (Nat.ne_of_lt (Heap.lt_size (Heap.get?_push_of_some _ h1'))) (Heap.get?_push_size _ rfl) rfl (by first | (simp; done) | (simp; omega) | (simp only [Array.size_append]; simp; omega)) ?_
  refine wpAny_bind (wpAny_isInstance (T := "StopIteration") (b := true) ⟨_, Heap.get?_update_self _ (Heap.get?_push_size _ rfl) rfl, rfl⟩ isSubtype_stop ?_)
  refine wpAny_pure (hQ _ fun b ob hb e => ?_)
  have e1 := (Heap.get?_update_other s.heap (Obj.mapFields (·.setIfInBounds 0 Value.none)) (Ne.symm hb)).trans e
  rw [Heap.get?_update_other _ _ (Nat.ne_of_gt (Heap.lt_size (Heap.get?_push_of_some _ e1)))]
  exact Heap.get?_push_of_some _ (Heap.get?_push_of_some _ e1)
theorem walks_hot {x1 : Addr} {o1 : Obj} {vs1 : Array Value} (hh : A.handled = some (.ref x1)) (d1 : o1.data = .fields vs1) (c1 : vs1[2]? = some .none) (I ax : Addr) (hne : ax ≠ I) (hx : x1 ≠ I) (its : Array Value) :
    Walks prog w A I [I, ax, x1] [I] its.size (fun i v => its[i]? = some v) (fun i h => h.IsListIter I ax i ∧ h.IsList ax its ∧ h.get? x1 = some o1) where
  sub := fun b hb => by
    simp at hb
    simp [hb]
  frame := fun _ _ _ st hk => ⟨st.1.at fun o e => hk I (by simp) o e, st.2.1.at fun o e => hk ax (by simp) o e, hk x1 (by simp) _ st.2.2⟩
  item := fun i s Q E hi st hQ => wpAny_pyNext_list_item st.1 st.2.1 (x := its[i]) (by simp [hi]) fun h' hit' hs' =>
    hQ _ h' s.toks (by simp [hi]) ⟨hit', st.2.1.extBut hs'.extBut hne, hs'.extBut _ _ hx st.2.2⟩ fun b o hb e => hs'.extBut b o (fun h => hb (by simp [h])) e
  done := fun s Q E st hQ => list_end_hot ⟨hh, o1, vs1, st.2.2, d1, c1⟩ hx st.1 st.2.1 (by simp) fun h' he' => hQ h' s.toks fun b o hb e => he' b o (fun h => hb (by simp [h])) e
  self := fun _ _ _ _ st hQ => wpAny_pyIter_listiter st.1 hQ
theorem goes_hot {target : Expr} {x1 : Addr} {o1 : Obj} {vs1 : Array Value} (hh : A.handled = some (.ref x1)) (d1 : o1.data = .fields vs1) (c1 : vs1[2]? = some .none) (I ax : Addr) (hne : ax ≠ I) (hx : x1 ≠ I) (its : Array Value) :
    Goes prog w A target I [I, ax, x1] [I] its.size (fun i v _ => its[i]? = some v) (fun i h => h.IsListIter I ax i ∧ h.IsList ax its ∧ h.get? x1 = some o1) :=
  .ofWalks (walks_hot hh d1 c1 I ax hne hx its) fun i v s Q E st q => by
    obtain ⟨o, ho, hc, hd⟩ := st.1
    exact letGo_of_cls ho hc hd (by decide) q
/-- sum(xs) while an exception is handled -/
theorem sum_hot {x1 l : Addr} {o1 : Obj} {vs1 : Array Value} {ns : List Int} {its : List Value} {Q : Value → Shared → Prop} (hh : A.handled = some (.ref x1)) (hx : s.heap.get? x1 = some o1) (d1 : o1.data = .fields vs1) (c1 : vs1[2]? = some .none) (hl : s.heap.IsList l its.toArray) (hi : IntsAre its ns)
    (h : ∀ h' tk t', (∀ b o, s.heap.get? b = some o → h'.get? b = some o) → Q (.int ns.sum t') { s with heap := h', toks := tk }) : wpAny (model prog w) A (call (.builtin "sum") [.ref l]) Q E s := by
  obtain ⟨xs, e⟩ := hi.allInts.items
  have hn : numsOf (intItems xs).toList = ns := by rw [← e]; exact hi.numsOf
  rw [nums_intItems] at hn
  rw [e] at hl
  have hlt : l < s.heap.objs.size := by obtain ⟨_, q, _⟩ := hl; exact Heap.lt_size q
  refine call_sum_walkG (iter_intList hl fun s2 e2 st hfp hlI => ?_)
  subst e2
  refine ⟨_, _, _, _, _, _, numAt xs, rfl, walks_hot (A := A.in1) hh d1 c1 _ l hlI (Nat.ne_of_lt (Heap.lt_size hx)) (intItems xs), ⟨st.1, st.2, Heap.get?_push_of_some _ hx⟩, fun b hb => ?_, (fun _ _ => intItems_at), fun h' tk t' hk => ?_⟩
  · rcases List.mem_cons.mp hb with rfl | hb
    · exact hfp _ (by simp)
    · rcases List.mem_cons.mp hb with rfl | hb
      · exact hfp _ (by simp)
      · have e : b = x1 := by simpa using hb
        rw [e]
        exact Heap.lt_size (Heap.get?_push_of_some _ hx)
  · have q := h h' tk t' fun b o e => hk b o (fun z => absurd (Heap.lt_size e) (by
      have z2 : b = s.heap.objs.size := by simpa using z
      rw [z2]
      exact Nat.lt_irrefl _)) (Heap.get?_push_of_some _ e)
    have e3 : preSum (numAt xs) (intItems xs).size = ns.sum := by
      rw [preSum_eq, List.take_of_length_le (by simp [intItems]), hn]
    rw [e3]
    exact q
theorem ints_snoc {us : List Value} {ns : List Int} {n : Int} {t : Tok} (h : IntsAre us ns) : IntsAre (us ++ [.int n t]) (ns ++ [n]) := by
  induction h with
  | nil => exact .cons n t .nil
  | cons a b _ ih => exact .cons a b ih
/-- [int(flag) for flag in flags] while an exception is handled -/
theorem comp_hot {env : Env} {scope : Scope} {cl : List (Str × Addr)} {x1 l : Addr} {o1 : Obj} {vs1 : Array Value} {bs : List Bool} {iter : Expr} {mg mb : Str → Option Value} {pf p1 p2 p3 pos : Pos} {Q : Value → Shared → Prop}
    (hh : A.handled = some (.ref x1)) (hx : s.heap.get? x1 = some o1) (d1 : o1.data = .fields vs1) (c1 : vs1[2]? = some .none)
    (hclos : closureFor scope env = pure cl) (hcell : ∀ y ∈ scope.names, y.2 ≠ .cell) (hkind : scope.kind = .function) (hnames : ∀ y ∈ scope.names, y.2 = .local → scope.names.lookup y.1 = some .local)
    (hf : scope.names.lookup ("flag" : Str) = some .local) (hi : ∀ C, (compEnvC scope cl C env).kindOf "int" = some .globalImplicit) (hG : s.heap.Ns env.globals mg) (hm : mg "int" = none) (hB : s.heap.Ns env.builtins mb) (hb : mb "int" = some (.type "int"))
    (hl : s.heap.IsList l (bs.map Value.bool).toArray) (hsz : bs.length ≤ sizeLine) (hit : ∀ {R : Value → Shared → Prop}, R (.ref l) s → wpAny (model prog w) A (eval iter env) R E s) (hs : ∀ x, foldedSetIterable iter env x = pure x)
    (hst : ∀ C, starEach [.Name ("flag" : Str) p2] (compEnvC scope cl C env) = (false, eval (.Name ("flag" : Str) p2) (compEnvC scope cl C env)) :: starEach [] (compEnvC scope cl C env))
    (h : ∀ D h' tk (us : List Value), s.heap.objs.size ≤ D → h'.PlainList D us.toArray → IntsAre us (bs.map fun b => if b then 1 else 0) → (∀ b o, s.heap.get? b = some o → h'.get? b = some o) → Q (.ref D) { s with heap := h', toks := tk }) :
    wpAny (model prog w) A (eval (.ListComp (.Call (.Name "int" p1) [.Name "flag" p2] [] p3) [⟨.Name "flag" pf, iter, [], 0⟩] scope pos) env) Q E s := by
  have hlt : l < s.heap.objs.size := by obtain ⟨o, ho, _⟩ := hl; exact Heap.lt_size ho
  have hltx : x1 < s.heap.objs.size := Heap.lt_size hx
  refine ListComp_goes hclos hcell hkind hnames (hit (wpAny_pyIter_list hl ?_)) hs
  have szs : (bs.map Value.bool).toArray.size = bs.length := by simp
  refine ⟨_, _, _, _, _, _, rfl, goes_hot hh d1 c1 s.heap.objs.size l (Nat.ne_of_lt hlt) (Nat.ne_of_lt hltx) (bs.map Value.bool).toArray, by rw [szs]; exact hsz, ⟨⟨_, Heap.get?_push_size _ rfl, rfl, rfl⟩, hl.push _, Heap.get?_push_of_some _ hx⟩, ?_, fun D C s3 hB3 => ?_⟩
  · intro b hb
    show b < (s.heap.push _).objs.size
    rw [Heap.size_push]
    have hb' : b = s.heap.objs.size ∨ b = l ∨ b = x1 := by simpa using hb
    rcases hb' with rfl | rfl | rfl
    · exact Nat.lt_succ_self _
    · exact Nat.lt_succ_of_lt hlt
    · exact Nat.lt_succ_of_lt hltx
  · obtain ⟨⟨h3, tk3, rfl⟩, old, nD, nC, hDC, hnm⟩ := hB3
    have nC' : s.heap.objs.size < C := by have q : (s.heap.push _).objs.size ≤ C := nC; rw [Heap.size_push] at q; exact q
    have nD' : s.heap.objs.size < D := by have q : (s.heap.push _).objs.size ≤ D := nD; rw [Heap.size_push] at q; exact q
    have old' : ∀ b o, s.heap.get? b = some o → h3.get? b = some o := fun b o e => old b o (Heap.get?_push_of_some _ e)
    have kinds : (compEnvC scope cl C env).kindOf "flag" = some .local := lookup_relabel_local hf
    have hp : ((compEnvC scope cl C env).scope.kind == .class || ((compEnvC scope cl C env).scope.kind == .module && (compEnvC scope cl C env).locals != (compEnvC scope cl C env).globals)) = false := by
      show (scope.kind == .class || (scope.kind == .module && _)) = false; rw [hkind]; rfl
    refine ⟨fun i us s1 => ∃ h' tk m, s1 = { s with heap := h', toks := tk } ∧ h'.Ns C m ∧ IntsAre us ((bs.take i).map fun b => if b then 1 else 0) ∧ ∀ b o, s.heap.get? b = some o → h'.get? b = some o, ⟨h3, tk3, _, rfl, hnm, by simp; exact .nil, old'⟩, ?_, ?_, ?_⟩
    · rintro i us s1 h' tk ⟨h4, tk4, m, rfl, n4, e4, k4⟩ hk' _
      have off : ∀ b : Addr, (b < s.heap.objs.size ∨ b = C) → b ∉ D :: [s.heap.objs.size] := fun b hb hm => by
        have hm' : b = D ∨ b = s.heap.objs.size := by simpa using hm
        rcases hb with hb | rfl
        · rcases hm' with rfl | rfl
          · exact Nat.lt_irrefl _ (Nat.lt_trans hb nD')
          · exact Nat.lt_irrefl _ hb
        · rcases hm' with z | z
          · exact hDC z.symm
          · rw [z] at nC'; exact Nat.lt_irrefl _ nC'
      exact ⟨h', tk, m, rfl, n4.at' fun o e => hk' _ o (off _ (.inr rfl)) e, e4, fun b o e => hk' b o (off _ (.inl (Heap.lt_size e))) (k4 b o e)⟩
    · rintro i v us s1 hi2 hy st ⟨h4, tk4, m, rfl, n4, e4, k4⟩ hpl
      have hlt2 : i < bs.length := by rw [szs] at hi2; exact hi2
      have hv : v = .bool bs[i] := by
        have q : (bs.map Value.bool).toArray[i]? = some v := hy
        have q2 : (bs.map Value.bool)[i]? = some v := by simpa using q
        rw [List.getElem?_map, List.getElem?_eq_getElem hlt2] at q2
        exact (Option.some.inj q2).symm
      subst hv
      refine wpAny_assign_Name (wpAny_storeName_local kinds n4 (fun h5 n5 s5 => ?_) hp)
      refine wpAny_tests_nil ?_
      have up5 : ∀ b o, b ≠ C → h4.get? b = some o → h5.get? b = some o := fun b o hb e => s5.extBut _ _ hb e
      have ne5 : ∀ b, b < s.heap.objs.size → b ≠ C := fun b hb z => by rw [z] at hb; exact Nat.lt_irrefl _ (Nat.lt_trans hb nC')
      have k5 : ∀ b o, s.heap.get? b = some o → h5.get? b = some o := fun b o e => up5 b o (ne5 b (Heap.lt_size e)) (k4 b o e)
      have nsk : ∀ {a : Addr} {mm : Str → Option Value}, s.heap.Ns a mm → h5.Ns a mm := fun hn => hn.at' fun o e => k5 _ o e
      show wpAny _ _ (eval (.Call (.Name "int" p1) [.Name "flag" p2] [] p3) _) _ _ _
      refine wpAny_Call_Name_kw (Calls.Name_function_global hkind (hi C) (Calls.loadGlobal_builtin (nsk hG) hm (nsk hB) hb ?_))
      refine PyProof.Rows.callWith_type1 ?_ (hst C) rfl
      rw [hst C]
      refine Calls.spliced_cons ?_
      rw [eval_Name _ _ _ (by decide)]
      refine wpAny_bind (wpAny_standAt (wpAny_loadName_local hkind kinds n5 (v := .bool bs[i]) (by simp) ?_))
      refine Calls.spliced_nil (call_int_bool ?_)
      refine ⟨⟨h5, _, _, rfl, n5, ?_, k5⟩, ⟨st.1.at fun o e => up5 _ o (Nat.ne_of_lt nC') e, st.2.1.at fun o e => up5 _ o (ne5 _ hlt) e, up5 _ _ (ne5 _ hltx) st.2.2⟩, hpl.at fun o e => up5 _ o hDC e⟩
      rw [List.take_add_one, List.getElem?_eq_getElem hlt2, List.map_append]
      exact ints_snoc e4
    · rintro us s1 ⟨h4, tk4, m, rfl, n4, e4, k4⟩ hpl
      have e5 : (bs.take (bs.map Value.bool).toArray.size) = bs := by rw [szs]; exact List.take_length
      rw [e5] at e4
      refine ⟨m, n4, fun h' hs' => h D h' tk4 us (Nat.le_of_lt nD') (hpl.extBut hs'.extBut hDC) e4 fun b o e => hs'.extBut b o (fun z => ?_) (k4 b o e)⟩
      rw [z] at e; exact Nat.lt_irrefl _ (Nat.lt_trans (Heap.lt_size e) nC')
end
end HX
namespace DL
open PySem PySem.Spec PyProof.Rows L2 HotX
section
variable {T : Tb} {X : Cx} {f : Fx} {Γ : List Sl} {pos : Pos}
/-- sum([int(flag) for flag in flags]) while an exception is handled -/
theorem de_hotcount {n : Nat} {x : Str} {bs : List Bool} {scope : Scope} {p p0 pf p1 p2 p3 lp : Pos} (hc : L2H.HotC X) (h : Γ[n]? = some (.dat (.list (bL bs)))) (hs1 : X.mg "sum" = none) (hs2 : X.mg "int" = none) (hsz : bs.length ≤ 1000) (hkind : scope.kind = .function)
    (hcf : ∀ y ∈ scope.names, y.2 ≠ .cell ∧ y.2 ≠ .free) (hnames : ∀ y ∈ scope.names, y.2 = .local → scope.names.lookup y.1 = some .local) (hf : scope.names.lookup ("flag" : Str) = some .local)
    (hi : ∀ C, (compEnvC scope (cloFrom X.env.cells scope.names []) C X.env).kindOf "int" = some .globalImplicit)
    (hst : ∀ C, starEach [.Name ("flag" : Str) p2] (compEnvC scope (cloFrom X.env.cells scope.names []) C X.env) = (false, eval (.Name ("flag" : Str) p2) (compEnvC scope (cloFrom X.env.cells scope.names []) C X.env)) :: starEach [] (compEnvC scope (cloFrom X.env.cells scope.names []) C X.env))
    (hN : X.N[n]? = some x := by rfl) (hv : Vis X.env.scope x := by first | exact Or.inl rfl | exact Or.inr (Or.inl rfl) | exact Or.inr (Or.inr rfl)) (hg : Gl X "sum" := by rfl)
    (hst2 : Sta X (.ListComp (.Call (.Name "int" p1) [.Name "flag" p2] [] p3) [⟨.Name "flag" pf, .Name x p0, [], 0⟩] scope lp) := by rfl) (hfs : ∀ z, foldedSetIterable (.Name x p0) X.env z = pure z := by intro _; rfl)
    (hd : (x == ("__debug__" : Str)) = false := by decide) (hcd : (x == ("__classdict__" : Str)) = false := by decide) :
    DE T X f Γ (.Call (.Name "sum" p) [.ListComp (.Call (.Name "int" p1) [.Name "flag" p2] [] p3) [⟨.Name "flag" pf, .Name x p0, [], 0⟩] scope lp] [] pos) (.int (bs.map fun b => if b then (1 : Int) else 0).sum) := by
  refine ⟨fun pins s σ G H I en => ?_⟩
  obtain ⟨q, ⟨hh, vs1, d1, c1⟩, hq⟩ := hc
  obtain ⟨hx, _⟩ := I.pin q (List.mem_append_left _ hq)
  obtain ⟨v, e1, dp⟩ := en.dat h
  cases dp with
  | lst sq al =>
    have e2 := dpa_bL al
    subst e2
    obtain ⟨its, rv, ⟨o, n', e3, e4, e5, e6⟩, hz⟩ := I.list (sq_up en.sub sq)
    have e7 := Vals.bls rv
    subst e7
    obtain ⟨mb, b1, b2⟩ := I.mod.blt
    refine wpAny_Call_Name_kw (ld_blt (u := .builtin "sum") I hg hs1 (by decide +kernel) ?_)
    refine callWith_builtin1 ?_ hst2 rfl
    rw [hst2]
    refine Calls.spliced_cons (HX.comp_hot (mg := X.mg) (mb := mb) hh hx d1 c1 (closure_ok fun y hy z => absurd z (hcf y hy).2) (fun y hy => (hcf y hy).1) hkind hnames hf hi (by rw [I.ok.glob]; exact I.mod.glob.keeps I.bk) hs2 (by rw [I.ok.blt]; exact b1.keeps I.bk)
      ((b2 "int" (by decide)).trans (by decide +kernel)) ⟨o, e3, e4, n', e6⟩ (by rw [sizeLine_eq]; omega) (fun {R} r => ?_) hfs hst (fun D h' tk us nD pl ia k => Calls.spliced_nil (HX.sum_hot hh (k _ _ hx) d1 c1 pl.isList ia fun h2 tk2 t2 k2 => ?_)))
    · obtain ⟨mm, hn, hl⟩ := I.loc
      obtain ⟨u, r1, lk⟩ := hl n x _ hN e1 hv
      cases r1
      rcases lk with ⟨hk, hm⟩ | ⟨hk | hk, c, hcc, hcell⟩
      · exact wpAny_Name (wpAny_loadName_local I.ok.kind hk hn hm r) hd
      · exact wpAny_Name (wpAny_loadName_cell I.ok.kind hk hcc hcell r) hd
      · exact wpAny_Name (wpAny_loadName_free I.ok.kind hk hcc hcell r hcd) hd
    · exact ⟨.int _, _, G, H, I.kept fun b o e => k2 b o (k b o e), ⟨_, rfl⟩, .refl en.sub, .int _, rfl⟩
end
end DL
set_option Elab.async false
set_option linter.all false
set_option maxRecDepth 100000
set_option maxHeartbeats 4000000
namespace DL
open PySem PySem.Spec PyProof.Rows L2 HotX
section
variable {T : Tb} {X : Cx} {f : Fx} {Γ : List Sl} {a b e o : Expr} {pos p p1 p2 : Pos} {ds es : List D}
/-! ### list + list -/
def rCatG (K : PySem.W.Frag) : R2 := fun x y H Q => ∃ l m xs zs, x = .ref l ∧ y = .ref m ∧ SqL K H l xs ∧ SqL K H m zs ∧ xs.length + zs.length ≤ 100000 ∧ ∀ q, H q = none → Q (.ref q) (upd H q (.lst (xs ++ zs)))
theorem op_catG : OpR X (binaryOp .Add) (rCatG X.K) := by
  intro pins s σ H x y v u Q I rx ry h
  obtain ⟨l, m, xs, zs, rfl, rfl, hl, hm, hz, q⟩ := h
  cases rx
  cases ry
  obtain ⟨is1, r1, ⟨⟨c1, d1, t1, s1⟩, n1, o1, hc1, hd1, ht1⟩, z1⟩ := I.list hl
  obtain ⟨is2, r2, ⟨⟨c2, d2, t2, s2⟩, n2, o2, hc2, hd2, ht2⟩, z2⟩ := I.list hm
  simp only at hc1 ht1 hc2 ht2
  subst hc1 ht1 hc2 ht2
  have k1 := r1.length
  have k2 := r2.length
  have hsz : is1.toArray.size + is2.toArray.size ≤ sizeLine := by
    rw [sizeLine_eq, List.size_toArray, List.size_toArray]
    omega
  refine concat_meets ⟨_, o1, rfl⟩ ⟨_, o2, rfl⟩ noFill_list_add seq_list_add F.slot_list_add F.entry_list_add
    (F.args_list_add_2 _ _) (list_addW l m is1.toArray is2.toArray n1 n2 d1 d2 s1 s2 hsz) ⟨o1, o2, ?_⟩
  have ea : is1.toArray ++ is2.toArray = (is1 ++ is2).toArray := by simp
  rw [ea]
  refine ⟨.ref _, _, I.lnew (t' := s.toks) (r1.append r2) (by rw [List.length_append, sizeLine_eq]; omega), rfl, q _ I.fresh⟩
theorem de_cat (ha : DE T X f Γ a (.list ds)) (hb : DE T X f Γ b (.list es)) (hl : ds.length + es.length ≤ 100000 := by exact Nat.le_of_ble_eq_true rfl) : DE T X f Γ (.BinOp a .Add b pos) (.list (ds ++ es)) :=
  de_op (pe_op op_catG ha.pe hb.pe) fun G H v w QQ s d1 d2 k => by
    cases d1 with
    | lst q1 l1 =>
      cases d2 with
      | lst q2 l2 =>
        refine ⟨_, _, _, _, rfl, rfl, sq_up s q1, sq_up s q2, by rw [dpa_len l1, dpa_len l2]; exact hl, fun q hq => k _ _ _ _ (.new s hq nt_lst) (.lst (.of upd_same) (dpa_mono (Evl.Ex.new (s.none hq)) _ _ (dpa_app l1 l2))) rfl⟩
/-! ### isinstance(e, C), e the error at hand -/
theorem call_isP {ad dc : Addr} {oe : Obj} (C : ExcC X.K dc) (hz : Zc (.ref dc) none oe) (hf : ∃ vs, oe.data = .fields vs) (hp : (ad, oe) ∈ X.pn) : CallR X (.builtin "isinstance") (rIsE X.K dc ad) := by
  intro pins s σ H xs us Q I r h
  obtain ⟨c, cv, bb, rfl, hcv, e, q⟩ := h
  cases r with
  | cons rx rr =>
    cases rr with
    | cons rt rr =>
      cases rr
      cases rx
      have ec := hcv _ rt
      subst ec
      obtain ⟨hget, _⟩ := I.pin (ad, oe) (List.mem_append_left _ hp)
      obtain ⟨vs, hv⟩ := hf
      have J : PySem.W.InstAt s.heap ad oe dc none := by
        obtain ⟨oc, od, oda, osl⟩ := oe
        obtain ⟨h1, h2⟩ := hz
        dsimp only at h1 h2 hv
        subst h1 h2 hv
        exact ⟨hget, rfl, rfl, trivial⟩
      have kx := PySem.W.handS_kitx_exc (x := ad) (ox := oe) C.hg C.hk C.hs C.hd C.ha C.hn C.ht C.hm
      exact PySem.W.kia_one kx I.kIn J e (fun z => nomatch z) fun tk =>
        ⟨.bl bb, H, I.kept (t' := tk) fun _ _ z => z, rfl, q⟩
theorem de_isE {n : Nat} {y cn : Str} {ad dc cc : Addr} {oe : Obj} {r : Bool} (C : ExcC X.K dc) (hz : Zc (.ref dc) none oe) (hf : ∃ vs, oe.data = .fields vs) (hp : (ad, oe) ∈ X.pn) (h : Γ[n]? = some (.raw (.ref ad))) (hk : PySem.W.kitOne X.K (.ref dc) (.ref cc) = some r)
    (mi : X.mg "isinstance" = none) (mc : X.mg cn = some (.ref cc)) (hN : X.N[n]? = some y := by rfl) (hv : Vis X.env.scope y := by first | exact Or.inl rfl | exact Or.inr (Or.inl rfl) | exact Or.inr (Or.inr rfl)) (hg : Gl X "isinstance" := by rfl) (hgn : Gl X cn := by rfl)
    (hs : starEach [.Name y p2, .Name cn p1] X.env = (false, eval (.Name y p2) X.env) :: starEach [.Name cn p1] X.env := by rfl) (hpl : (backTo pos (starEach [.Name cn p1] X.env)).any (·.1) = false := by rfl)
    (hd : (cn == ("__debug__" : Str)) = false := by decide) (hd1 : (y == ("__debug__" : Str)) = false := by decide) (hd2 : (y == ("__classdict__" : Str)) = false := by decide) :
    DE T X f Γ (.Call (.Name "isinstance" p) [.Name y p2, .Name cn p1] [] pos) (.bool r) :=
  .of (pe_callB (call_isP C hz hf hp) hg mi (by decide +kernel) (pa_cons (pe_var hN hv hd1 hd2) (pa_cons (pe_glob (v := .ref cc) hgn mc rfl hd) pa_nil) hs) (by decide) (by decide) hs hpl) fun σ G H QQ en w => ⟨_, en.raw h, .ref cc, .ref cc, r, rfl, fun u ru => ru, hk, w _ _ G H (.refl en.sub) (.bl _) rfl⟩
theorem de_isEB {n : Nat} {y cn : Str} {bn : String} {ad dc : Addr} {oe : Obj} {r : Bool} (C : ExcC X.K dc) (hz : Zc (.ref dc) none oe) (hf : ∃ vs, oe.data = .fields vs) (hp : (ad, oe) ∈ X.pn) (h : Γ[n]? = some (.raw (.ref ad))) (hk : PySem.W.kitOne X.K (.ref dc) (.type bn) = some r)
    (mi : X.mg "isinstance" = none) (mc : X.mg cn = none) (hb : bootBuiltins cn = some (.type bn)) (hN : X.N[n]? = some y := by rfl) (hv : Vis X.env.scope y := by first | exact Or.inl rfl | exact Or.inr (Or.inl rfl) | exact Or.inr (Or.inr rfl)) (hg : Gl X "isinstance" := by rfl) (hgn : Gl X cn := by rfl)
    (hs : starEach [.Name y p2, .Name cn p1] X.env = (false, eval (.Name y p2) X.env) :: starEach [.Name cn p1] X.env := by rfl) (hpl : (backTo pos (starEach [.Name cn p1] X.env)).any (·.1) = false := by rfl)
    (hn : cn ≠ "__name__" := by decide) (hd : (cn == ("__debug__" : Str)) = false := by decide) (hd1 : (y == ("__debug__" : Str)) = false := by decide) (hd2 : (y == ("__classdict__" : Str)) = false := by decide) :
    DE T X f Γ (.Call (.Name "isinstance" p) [.Name y p2, .Name cn p1] [] pos) (.bool r) :=
  .of (pe_callB (call_isP C hz hf hp) hg mi (by decide +kernel) (pa_cons (pe_var hN hv hd1 hd2) (pa_cons (pe_bltn (v := .ty bn) hgn mc hb rfl hn hd) pa_nil) hs) (by decide) (by decide) hs hpl) fun σ G H QQ en w => ⟨_, en.raw h, .ty bn, .type bn, r, rfl, fun u ru => ru, hk, w _ _ G H (.refl en.sub) (.bl _) rfl⟩
/-! ### flags.index(True) -/
theorem de_ixTrue {bs : List Bool} {j : Nat} {apos cpos : Pos} {jj : Nat} (h : DE T X f Γ o (.list (bL bs))) (hj : bs[j]? = some true) (hno : ∀ m, m < j → bs[m]? = some false)
    (hbase : attributeBase o "index" X.env (eval o X.env) = eval o X.env := by rfl) (hfew : Few X cpos (.Constant (.bool true) jj p) := by rfl) (hline : (apos.endLine == cpos.line) = true := by rfl) (hs : Sta X (.Constant (.bool true) jj p) := by rfl) :
    DE T X f Γ (.Call (.Attribute o "index" apos) [.Constant (.bool true) jj p] [] cpos) (.int j) :=
  .of (pe_bm PySem.F.plainAttrs_list PySem.F.slot_list_index PySem.F.type_list_index mt_index h.pe (pa_cons pe_bl pa_nil hs) hbase hfew hline hs bpl) fun σ G H QQ en w => ⟨G, en, fun v d G' H' st dp q => by
    subst q
    cases dp with
    | lst sq al =>
      have e := dpa_bL al
      subst e
      refine ⟨.inl ⟨rfl, _, sq_up st.s sq⟩, _, _, .bl true, j, .bl true, rfl, rfl, sq_up st.s sq, rfl, ?_, ?_, rfl, fun m z' hm hz' => ?_, w _ _ G' H' st (.int _) rfl⟩
      · rw [List.all_map]
        exact List.all_eq_true.mpr fun _ _ => rfl
      · rw [List.getElem?_map, hj]
        rfl
      · rw [List.getElem?_map, hno m hm] at hz'
        cases hz'
        rfl⟩
end
/-! ### a def that is called within an except suite, the error known -/
theorem run_hot {CX : CXT} {P : Program} {w : World} {K : PySem.W.Frag} {mg : Str → Option Value} {base : Heap} {k : Nat} {f : Addr} {name qual : Str} {params : Arguments} {body : List Stmt} {scope : Scope} {dV kV doc pm cdv ct oc : Value} {an od : Option Addr}
    {osl : Array (Option Value)} {N ps : List Str} {A : Around} {outer : List Env} {s : Shared} {H : Hp} {us : List Value} {vs : List V} {Q : VK} {E : XK} {q : Addr × Obj}
    (lk : K.lookup f = some ⟨oc, od, .func (PySem.W.fnOf name qual params body scope dV kV doc pm an cdv ct), osl⟩) (hcd : PySem.W.codeIn K cdv qual = true) (S : FnScope N ps scope) (hl : vs.length = ps.length)
    (hb : Binds K (PySem.W.fnOf name qual params body scope dV kV doc pm an cdv ct) ps []) (hr : L2H.RoomH (k + 1) A) (hpin : L2H.PinOk outer H s q) (e0 : Env0 P w K mg base A outer s H) (r : Vals vs us)
    (hbody : ∃ t, PSs (L2H.cxH CX P w K mg base N qual scope f cdv A outer s H E q) body t ∧ t { nx := fun _ H' => Q .non H', rt := Q } (L2.start N vs) H) :
    codeAny (model P w) A (.call (.ref f) ⟨us, []⟩) (CR CX outer P w H s Q E) s := by
  have kin : K.In s.heap := e0.mod.kin.keeps fun c o e => (e0.bs c o e).1
  have lim : s.heap.NoLimit := e0.mod.nolimit.keeps fun c o e => (e0.bs c o e).1
  have hul : (us ++ []).length = ps.length := by
    rw [List.append_nil, ← r.length]
    exact hl
  have bd := hb s us kin hul
  rw [List.append_nil] at bd
  have kinds : ∀ y ∈ ps.zip us, scope.names.lookup y.1 = some .local ∨ (scope.names.lookup y.1 = some .cell ∧ ((cellsFrom (s.heap.objs.size + 1) scope.names []).lookup y.1).isSome = true) := by
    rintro ⟨n, v⟩ hy
    rcases S.par n (List.of_mem_zip hy).1 with z | z
    · exact .inl z
    · exact .inr ⟨z, PySem.W.cellsFrom_some _ _ _ (.inl z)⟩
  refine codeAny_call_function hr.depth (kin _ _ lk) rfl S.co S.gen rfl
    (PySem.W.codeRec_of kin hcd) (bd _ _ _ _ ?_)
  refine wpAny_newFunctionEnv_cells S.kind kinds fun env he s1 x => ?_
  subst he
  refine ⟨lim.keeps x.toInCall.keep, codeAny_func ?_⟩
  obtain ⟨t, ht, hq⟩ := hbody
  have I := L2H.inv_startH (CX := CX) (E := E) (cd := cdv) S hpin e0 hl r x
  refine wpAny_mono (ht.run [] s1 (L2.start N vs) H _ I hq) (fun fl s' hs => ?_) fun _ _ z => z
  cases fl with
  | ret u =>
    obtain ⟨v, σ', H', J, rv, z⟩ := hs
    exact ⟨v, H', J.os, J.bare, J.base, J.hok, rv, z⟩
  | next =>
    obtain ⟨σ', H', J, z⟩ := hs
    exact ⟨.non, H', J.os, J.bare, J.base, J.hok, rfl, z⟩
  | brk =>
    obtain ⟨_, _, _, z⟩ := hs
    exact z.elim
  | cont =>
    obtain ⟨_, _, _, z⟩ := hs
    exact z.elim
end DL
set_option Elab.async false
set_option linter.all false
set_option maxRecDepth 100000
set_option maxHeartbeats 4000000
namespace DL
open PySem PySem.Spec PyProof.Rows L2 HotX
/-! ### the package's errors -/
def errN : List Str := ["InvalidTriangle", "InvalidRope", "InvalidNumber", "InvalidPlace", "InvalidText", "NotRight", "NotWhole", "NoLeg", "NoTriangle", "TooGreat", "NothingToUndo"]
structure Errs (K : PySem.W.Frag) (mg : Str → Option Value) (c : Nat → Addr) (cR : Addr) : Prop where
  g : ∀ i n, errN[i]? = some n → mg n = some (.ref (c i))
  r : mg "RopeError" = some (.ref cR)
  ve : mg "ValueError" = none
  kit : ∀ i j, i < 11 → j < 11 → PySem.W.kitOne K (.ref (c j)) (.ref (c i)) = some (decide (i = j))
  kv : ∀ j, j < 11 → PySem.W.kitOne K (.ref (c j)) (.type "ValueError") = some true
  ex : ∀ j, j < 11 → ExcC K (c j)
  em : ∀ j, j < 11 → PySem.W.exmOne K (.ref (c j)) (.ref cR) = some true
abbrev termD (n : Str) : D := .tuple [.str "error", .str n]
/-- what _law_term does while the error is handled -/
def TermRun (T : Tb) (P : Program) (w : World) (K : PySem.W.Frag) (mg : Str → Option Value) (base : Heap) (c : Nat → Addr) : Prop :=
  ∃ fa, mg "_law_term" = some (.ref fa) ∧ PySem.W.keepIn K (.ref fa) = true ∧
    ∀ (A : Around) (outer : List Env) (s : Shared) (G H : Hp) (Q : VK) (j : Nat) (n : Str) (a : Addr) (oe : Obj), errN[j]? = some n → L2H.RoomH 2 A → L2H.PinOk outer H s (a, oe) → L2H.Hot1 A (a, oe) → Env0 P w K mg base A outer s H →
      L2N.Zn (.ref (c j)) none oe → Sub G H → (∀ v G' H', Stp T G H G' H' → Dp K G' v (termD n) → Q v H') → codeAny (model P w) A (.call (.ref fa) ⟨[.ref a], []⟩) (CR (L2N.CX P w) outer P w H s Q (fun _ _ _ => False)) s
section
variable {T : Tb} {P : Program} {w : World} {K : PySem.W.Frag} {mg : Str → Option Value} {base : Heap} {c : Nat → Addr} {cR : Addr}
theorem term_run {st : Stmt} (A : DefAt K mg "_law_term" st) (S : FnScope ["e", "flags", "kinds"] ["e"] (defScope st))
    (bi : ∀ (kV doc pm : Value) (an : Option Addr) (cdv ct : Value) (us : List Value), us.length = 1 → bindArgs (PySem.W.fnOf "_law_term" "_law_term" (defArgs st) (defBody st) (defScope st) .none kV doc pm an cdv ct) ⟨us, []⟩ = pure ((["e"] : List Str).zip us))
    (body : ∀ (fa : Addr) (cdv : Value) (A : Around) (outer : List Env) (s : Shared) (G H : Hp) (j : Nat) (n : Str) (a : Addr) (oe : Obj), errN[j]? = some n → L2H.HotC (L2H.cxH (L2N.CX P w) P w K mg base ["e", "flags", "kinds"] "_law_term" (defScope st) fa cdv A outer s H (fun _ _ _ => False) (a, oe)) → L2N.Zn (.ref (c j)) none oe → (∃ vs, oe.data = .fields vs) →
      WSs T (L2H.cxH (L2N.CX P w) P w K mg base ["e", "flags", "kinds"] "_law_term" (defScope st) fa cdv A outer s H (fun _ _ _ => False) (a, oe)) ⟨G, H, fun _ => False⟩ [.raw (.ref a), .no, .no] (defBody st) (fun _ => False) (fun d => d = termD n)) : TermRun T P w K mg base c := by
  obtain ⟨fa, fd, F, g⟩ := A.ex
  obtain ⟨oc, od, kV, doc, pm, an, cdv, ct, osl, rfl, lk, hcd⟩ := F.ex
  refine ⟨fa, g, F.kp, fun A outer s G H Q j n a oe hj hr hpin hot e0 hz sb hq => ?_⟩
  have hfv : ∃ vs, oe.data = .fields vs := by
    obtain ⟨_, vs, e, _⟩ := hot
    exact ⟨vs, e⟩
  have hotC : L2H.HotC (L2H.cxH (L2N.CX P w) P w K mg base ["e", "flags", "kinds"] "_law_term" (defScope st) fa cdv A outer s H (fun _ _ _ => False) (a, oe)) := ⟨(a, oe), hot, List.mem_cons_self⟩
  have W := body fa cdv A outer s G H j n a oe hj hotC hz hfv
  refine run_hot (k := 1) (us := [.ref a]) (vs := [.ref a]) lk hcd S rfl (F.binds bi) hr hpin e0 (.cons rfl .nil) ?_
  refine ⟨fun D' σ H' => D'.rt = Q ∧ σ = start ["e", "flags", "kinds"] [.ref a] ∧ H' = H, ⟨fun pins s' σ H' D' I h => ?_⟩, rfl, rfl, rfl⟩
  obtain ⟨e2, e3, e4⟩ := h
  subst e3
  rw [e4] at I
  have en : EnvR T K ⟨G, H, fun _ => False⟩ (stG ["e", "flags", "kinds"] [.raw (.ref a)]) (start ["e", "flags", "kinds"] [.ref a]) G H := st_env sb ⟨rfl, trivial⟩ (by simp)
  refine thn (W pins s' _ G H I en) fun fl s2 q => ?_
  cases fl with
  | next =>
    obtain ⟨_, _, _, _, _, _, _, z⟩ := q
    exact z.elim
  | ret u =>
    obtain ⟨v, d, σ', G', H', I', r, t, dp, q⟩ := q
    refine ⟨v, σ', H', I', r, ?_⟩
    rw [e2]
    exact hq v G' H' t (q ▸ dp)
  | brk => exact q.elim
  | cont => exact q.elim
end
/-! ### _law_told(lambda: body) -/
def toldBody (p1 p2 p3 p4 p5 p6 p7 p8 p9 p10 : Pos) : List Stmt :=
  [.Try [.Return (some (.Call (.Name "deed" p1) [] [] p2)) p3] [.ExceptHandler (some (.Name "RopeError" p4)) (some "e") [.Return (some (.Call (.Name "_law_term" p5) [.Name "e" p6] [] p7)) p8] p9] [] [] p10]
structure Told (T : Tb) (P : Program) (w : World) (K : PySem.W.Frag) (mg : Str → Option Value) (base : Heap) (c : Nat → Addr) (cR : Addr) : Prop where
  term : TermRun T P w K mg base c
  er : Errs K mg c cR
  ex : ∃ fa fd st, Fun K "_law_told" "_law_told" st fa fd ∧ mg "_law_told" = some (.ref fa) ∧ FnScope ["deed", "e"] ["deed"] (defScope st) ∧ (∃ p1 p2 p3 p4 p5 p6 p7 p8 p9 p10, defBody st = toldBody p1 p2 p3 p4 p5 p6 p7 p8 p9 p10) ∧ Binds K fd ["deed"] [] ∧
    (defScope st).names.lookup ("RopeError" : Str) = some .globalImplicit ∧ (defScope st).names.lookup ("_law_term" : Str) = some .globalImplicit ∧ (defScope st).names.lookup ("e" : Str) = some .local ∧ (defScope st).names.lookup ("deed" : Str) = some .local
/-- the caller's table of code objects -/
def LamT (T : Tb) (X : Cx) : Prop := ∃ cc PP, LamX.TabB X.base X.mg cc PP ∧ X.env.code = .ref cc ∧ (PP, X.env.qual ++ "<lambda>") ∈ T ∧ ∀ p ∈ T, p.1 = PP → p.2 = X.env.qual ++ "<lambda>"
def lamN (T : Tb) (X : Cx) (A : Around) (outer : List Env) (s : Shared) (H : Hp) (R : Str → Prop) (scope : Scope) (f c' : Addr) : Cx :=
  (LamX.lamCx X A outer s H (fun _ _ _ => False) scope f c').wish fun e s' => wpAny (model X.prog X.w) (A.deeper (LamX.lamEnv X scope s.heap.objs.size f c')) (leaving (LamX.lamEnv X scope s.heap.objs.size f c') e)
    (fun _ s'' => L2N.CX X.prog X.w outer H s (ER T X.mg H R) e s'') (fun e' s'' => L2N.CX X.prog X.w outer H s (ER T X.mg H R) e' s'') s'
theorem tkF {X : Cx} : L2N.Takes X (fun _ _ _ _ => False) := fun _ _ x => by
  obtain ⟨_, _, _, _, _, _, _, _, _, _, _, _, _, _, _, _, z⟩ := x
  exact z.elim
section
variable {T : Tb} {X : Cx} {f : Fx} {Γ : List Sl} {c : Nat → Addr} {cR : Addr} {Q : D → Prop} {k m : Nat} {params : Arguments} {body : Expr} {scope : Scope} {p lpos pos : Pos}
theorem we_told {R : Str → Prop} (O : Told T X.prog X.w X.K X.mg X.base c cR) (B : Bd T X f m) (hkm : k + 2 ≤ m) (h3 : 3 ≤ m) (LT : LamT T X) (hT : LamX.Tabs T f.H0) (hno : ∀ s ∈ Γ, NoO s) (L : LamX.LamS X.env.scope scope)
    (hR : ∀ n, R n → ∃ j : Nat, errN[j]? = some n ∧ Q (termD n))
    (hbody : ∀ (A : Around) (outer : List Env) (s : Shared) (G H : Hp) (fa c' : Addr), Bd T (lamN T X A outer s H R scope fa c') ⟨G, H, R⟩ k → WE T (lamN T X A outer s H R scope fa c') ⟨G, H, R⟩ Γ body Q)
    (hdef : defaultsOf params X.env = ([], []) := by rfl)
    (hbind : ∀ (q : Str) (cl : List (Str × Addr)) (pm cv ctv : Value), bindArgs (PySem.W.kla_fn "<lambda>" q params body scope cl pm cv ctv) ⟨[], []⟩ = pure [] := by intro _ _ _ _ _; rfl)
    (hg : Gl X "_law_told" := by rfl) : WE T X f Γ (.Call (.Name "_law_told" p) [.Lambda params body scope lpos] [] pos) Q := by
  refine ⟨fun pins s σ G H I en => ?_⟩
  obtain ⟨g, fd, st, F, hm, Sg, ⟨p1, p2, p3, p4, p5, p6, p7, p8, p9, p10, hbd⟩, hb, gR, gT, lE, lD⟩ := O.ex
  obtain ⟨oc, od, kV, doc, pm, an, cdv, ct, osl, rfl, lk, hcg⟩ := F.ex
  obtain ⟨cc, PP, TB, hcode, hmT, hu⟩ := LT
  obtain ⟨fT, mT, kT, runT⟩ := O.term
  refine wpAny_Call_Name_kw (ld_glob I hg hm ?_ (by decide))
  refine PySem.W.callWith_K (h₀ := X.base) I.ok.mod.kin F.kp ?_ (by rfl) (by rfl)
  show wpAny _ _ (spliced ((false, eval (.Lambda params body scope lpos) X.env) :: backTo pos (starEach [] X.env))) _ _ s
  refine Calls.spliced_cons (LamX.lam_make2 I TB hcode hmT hu (en.st.le.t hT) hdef (L.has I.ok) fun fl c' pm' ctv H1 s' I1 eN T1 hf hfn hfr hco => ?_)
  refine Calls.spliced_nil ⟨I1.kIn, ?_⟩
  have st1 : Stp T G H G H1 := .keep en.sub ⟨fun b o h n => eN b o h n, fun _ => T1⟩
  have en1 := en.step st1
  have enZ : EnvR T X.K ⟨G, H1, R⟩ Γ σ G H1 := ⟨.refl en1.sub, fun i sl e => by
    obtain ⟨w', e1, q⟩ := en1.sl i sl e
    refine ⟨w', e1, ?_⟩
    cases sl with
    | own xs => exact absurd rfl (NoO.ne (hno _ (List.mem_of_getElem? e)) xs)
    | dct xs => exact absurd rfl (NoO.nd (hno _ (List.mem_of_getElem? e)) xs)
    | gen g => exact q
    | dat d => exact q
    | raw d => exact q
    | obj a o => exact q
    | no => trivial, en1.ln⟩
  have rc : codeAny (model X.prog X.w) X.A (.call (.ref g) ⟨[.ref fl], []⟩) (CR (L2N.CX X.prog X.w) X.stack X.prog X.w H1 s' (fun v H' => ∃ d G', Stp T G H1 G' H' ∧ Dp X.K G' v d ∧ Q d) (fun _ _ _ => False)) s' := by
    have B3 := B.rm.mono (show k + 2 ≤ m from hkm)
    have B2 := B.rm.mono (show 2 + 1 ≤ m from h3)
    refine LamX.run_ofS (k := k + 1) (N := ["deed", "e"]) (ps := ["deed"]) (us := [.ref fl]) (vs := [.ref fl]) lk hcg Sg B3 I1.env0 (hb s' [.ref fl] I1.kIn rfl) (.cons rfl .nil) rfl fun hr' => ?_
    have hrT : L2H.RoomH 2 (X.A.deeper (envOfC "_law_told" (defScope st) s'.heap.objs.size g cdv)) := L2H.roomH_of (B2.deeper _)
    rw [hbd]
    -- the lambda's call
    have act : ∀ (pn : List (Addr × Obj)) (xe : Value → Shared → Prop) (W : WX), L2N.Takes ((cxOf (L2N.CX X.prog X.w) X.prog X.w X.K X.mg X.base ["deed", "e"] "_law_told" (defScope st) g cdv X.A X.stack s' H1 (fun _ _ _ => False)).tr pn xe) W →
        PE ((cxOf (L2N.CX X.prog X.w) X.prog X.w X.K X.mg X.base ["deed", "e"] "_law_told" (defScope st) g cdv X.A X.stack s' H1 (fun _ _ _ => False)).tr pn xe) (.Call (.Name "deed" p1) [] [] p2)
          (fun σZ HZ QQ => σZ[0]? = some (some (.ref fl)) ∧ HZ = H1 ∧ (∀ cls d σ' H', ER T X.mg H1 R cls d H' → W cls d σ' H') ∧ ∀ v d G' H', Stp T G H1 G' H' → Dp X.K G' v d → Q d → QQ v H') := fun pn xe W tk => by
      refine ⟨fun pinsZ sZ σZ HZ QQ IZ h => ?_⟩
      obtain ⟨hs, eHZ, hW, hQ⟩ := h
      rw [eHZ] at IZ
      refine wpAny_Call_Name_kw (thn ((pe_var (pos := p1) (i := 0) rfl (.inl lD)).run pinsZ sZ σZ H1 (fun v H' => v = .ref fl ∧ H' = H1) IZ ⟨.ref fl, hs, rfl, rfl⟩) fun u s1 ⟨v, H2, J1, r1, ev, eH⟩ => ?_)
      subst ev
      rw [eH] at J1
      obtain rfl : u = Value.ref fl := r1
      have of1 := J1.base.keep fl _ hf hfn hfr (fun z => nomatch (show fl ∈ ([] : List Addr) from z))
      refine PySem.W.callWith_F0 ⟨_, _, _, _, of1⟩ ?_
      have un : Un (frs X.stack) [] H1 H1 s'.heap s1.heap := J1.base
      obtain ⟨⟨oc2, vs2, t2, hoc, hdc, hvc⟩, _, _⟩ := J1.hok c' _ hco
      have rl : codeAny (model X.prog X.w) (X.A.deeper (envOfC "_law_told" (defScope st) s'.heap.objs.size g cdv)) (.call (.ref fl) ⟨[], []⟩)
          (CR (L2N.CX X.prog X.w) (envOfC "_law_told" (defScope st) s'.heap.objs.size g cdv :: X.stack) X.prog X.w H1 s1 QQ (ER T X.mg H1 R)) s1 := by
        refine PySem.W.kla_callFunE hr'.depth of1 rfl L.co L.gen rfl ⟨c', oc2, vs2, t2, rfl, hoc, hdc, hvc⟩ ?_
        rw [hbind]
        refine wpAny_pure (wpAny_newFunctionEnv (fun y hy => (L.own y hy).2) (fun y hy => absurd hy (by simp)) (fun h₁ hns hsb => ⟨J1.nolimit.fresh _ hsb, ?_⟩) L.kind)
        show codeAny _ _ (.expr body (LamX.lamEnv X scope s1.heap.objs.size fl c')) _ _
        have kp : ∀ b o, s1.heap.get? b = some o → h₁.get? b = some o := fun b o e =>
          hsb.extBut b o (Nat.ne_of_lt (Heap.lt_size e)) (Heap.get?_push_of_some _ e)
        have J : Inv (lamN T X (X.A.deeper (envOfC "_law_told" (defScope st) s'.heap.objs.size g cdv)) (envOfC "_law_told" (defScope st) s'.heap.objs.size g cdv :: X.stack) s1 H1 R scope fl c') [] σ H1 { s1 with heap := h₁, toks := s1.toks + ([] : List (Str × Value)).length } :=
          (LamX.lam_start2 I1 L J1.env0 hr'.hd un hns kp).wish _
        have Bl : Bd T (lamN T X (X.A.deeper (envOfC "_law_told" (defScope st) s'.heap.objs.size g cdv)) (envOfC "_law_told" (defScope st) s'.heap.objs.size g cdv :: X.stack) s1 H1 R scope fl c') ⟨G, H1, R⟩ k :=
          ⟨L2N.takes_of (E := ER T X.mg H1 R) rfl rfl rfl rfl, PassesOwn.leaving, hr'.deeper _, rfl⟩
        refine PySem.W.kla_codeExpr (wpAny_mono (hbody _ _ s1 G H1 fl c' Bl [] _ σ G H1 J enZ) (fun v s2 hq => ?_) fun e s2 hq => hq)
        obtain ⟨w', d, G', H', J', rv, st2, dp, q⟩ := hq
        exact ⟨w', H', J'.os, J'.bare, J'.base, J'.hok, rv, hQ w' d G' H' st2 dp q⟩
      refine wpAny_call (codeAny_mono rl fun r s2 hq => ?_)
      cases r with
      | error e => exact L2N.passes_call (E := ER T X.mg H1 R) tk hW pinsZ σZ H1 s1 e s2 J1 hq
      | ok w2 =>
        cases w2 with
        | ret u => exact J1.after hq
        | next => exact False.elim hq
        | brk => exact False.elim hq
        | cont => exact False.elim hq
    -- the suite
    have suite : ∀ (a : Addr) (oe : Obj) (cls : Value) (d : Option Addr) (pn : List (Addr × Obj)), L2N.Zn cls d oe → (∃ vs, oe.data = .fields vs) →
        PE ((cxOf (L2N.CX X.prog X.w) X.prog X.w X.K X.mg X.base ["deed", "e"] "_law_told" (defScope st) g cdv X.A X.stack s' H1 (fun _ _ _ => False)).suite a ((a, oe) :: pn)) (.Call (.Name "_law_term" p5) [.Name "e" p6] [] p7)
          (fun σ2 H2 QQ => (σ2.length = 2 → σ2[1]? = some (some (.ref a))) ∧ ∃ j n, errN[j]? = some n ∧ cls = .ref (c j) ∧ d = none ∧ Sub G H2 ∧ ∀ v G' H', Stp T G H2 G' H' → Dp X.K G' v (termD n) → QQ v H') := fun a oe cls d pn hz hfv => by
      refine ⟨fun pins2 s2 σ2 H2 QQ I2 h => ?_⟩
      obtain ⟨h1, j, n, hj, rfl, rfl, sb, hQ⟩ := h
      have h1 := h1 I2.len
      refine wpAny_Call_Name_kw (ld_glob I2 gT mT ?_ (by decide))
      refine PySem.W.callWith_K (h₀ := X.base) I2.ok.mod.kin kT (thn ((pa_cons (pe_var (pos := p6) (i := 1) rfl (.inl lE)) pa_nil).run p7 pins2 s2 σ2 H2 (fun vs H' => vs = [.ref a] ∧ H' = H2) I2 ⟨.ref a, h1, rfl, rfl⟩) fun us s3 ⟨vs, H3, I3, r3, ev, eH⟩ => ⟨I3.kIn, ?_⟩) (by rfl) (by rfl)
      subst ev
      rw [eH] at I3
      have eu : us = [.ref a] := by
        cases r3 with
        | cons r1 r2 =>
          cases r2
          cases r1
          rfl
      subst eu
      have P1 := I3.pin (a, oe) (List.mem_append_left _ List.mem_cons_self)
      have hpin : L2H.PinOk _ H2 s3 (a, oe) := ⟨P1.1, P1.2.1, fun hm => (List.mem_cons.mp (I3.stkSub a hm)).elim P1.2.2.1 P1.2.2.2.1, P1.2.2.2.2⟩
      obtain ⟨vs, hv⟩ := hfv
      refine wpAny_call (codeAny_mono (runT _ _ s3 G H2 QQ j n a oe hj ⟨hrT.dp, hrT.un⟩ hpin ⟨rfl, vs, hv, hz.2.2 vs hv⟩ I3.env0 hz sb hQ) fun r s4 hq => ?_)
      cases r with
      | error e =>
        obtain ⟨_, _, _, _, _, _, _, _, _, _, _, _, z⟩ := hq
        exact z.elim
      | ok w2 =>
        cases w2 with
        | ret u => exact I3.after hq
        | next => exact False.elim hq
        | brk => exact False.elim hq
        | cont => exact False.elim hq
    refine ⟨_, pss_one (L2N.ps_try_as (c := .ref cR) (i := 1) (Wout := fun _ _ _ _ => False) (tb := fun W D σZ HZ => σZ[0]? = some (some (.ref fl)) ∧ HZ = H1 ∧ (∀ cls d σ' H', ER T X.mg H1 R cls d H' → W cls d σ' H') ∧ ∀ v d G' H', Stp T G H1 G' H' → Dp X.K G' v d → Q d → D.rt v H')
      (ts := fun a cls d D σ2 H2 => (σ2.length = 2 → σ2[1]? = some (some (.ref a))) ∧ ∃ j n, errN[j]? = some n ∧ cls = .ref (c j) ∧ d = none ∧ Sub G H2 ∧ ∀ v G' H', Stp T G H2 G' H' → Dp X.K G' v (termD n) → D.rt v H')
      rfl rfl Sg.nd rfl lE ⟨gR, by decide, .inl O.er.r⟩ tkF (fun W pn xe tk _ => ?_) (fun a oe cls d pn hz hfv => pss_one (ps_ret (suite a oe cls d pn hz hfv)))), ?_⟩
    · exact ⟨fun pinsZ sZ σZ HZ D IZ h => (pss_one (ps_ret (pos := p3) (act pn xe W tk))).run pinsZ sZ σZ HZ D IZ h⟩
    · refine ⟨rfl, rfl, fun cls d σ' H' er => ?_, fun v d G' H' st2 dp q => ⟨d, G', st2, dp, q⟩⟩
      obtain ⟨rfl, le, n, cn, hn, hcn, rfl⟩ := er
      obtain ⟨j, hj, q⟩ := hR n hn
      have hj11 : j < 11 := (List.getElem?_eq_some_iff.mp hj).1
      have ec := (O.er.g j n hj).symm.trans hcn
      injection ec with ec
      injection ec with ec
      subst ec
      have s2 := Stp.keep (T := T) en1.sub le
      refine ⟨true, O.er.em j hj11, fun _ a na => ⟨fun hl => ?_, j, n, hj, rfl, rfl, s2.s, fun v G' H2 st3 dp => ⟨_, G', s2.trans st3, dp, q⟩⟩, fun z => nomatch z⟩
      rw [List.length_set] at hl
      exact List.getElem?_set_self (by omega)
  refine wpAny_call (codeAny_mono rc fun r s2 hq => ?_)
  cases r with
  | error e =>
    obtain ⟨_, _, _, _, _, _, _, _, _, _, _, _, z⟩ := hq
    exact z.elim
  | ok w2 =>
    cases w2 with
    | ret u =>
      obtain ⟨v, H', I', rv, d, G', st2, dp, q⟩ := I1.after hq
      exact ⟨v, d, G', H', I', rv, st1.trans st2, dp, q⟩
    | next => exact False.elim hq
    | brk => exact False.elim hq
    | cont => exact False.elim hq
end
end DL
set_option Elab.async false
set_option linter.all false
set_option maxRecDepth 100000
set_option maxHeartbeats 4000000
namespace DL
open PySem PySem.Spec PyProof.Rows L2
/-! ### the law: for dice in _law_rounds(script, n): .. -/
def spLaw (T : Tb) (K : PySem.W.Frag) : Sp := fun vs H Q _ => ∃ a ns, vs = [.ref a] ∧ SqL K H a ((ns : List Int).map V.int) ∧ ns.length ≤ 63 ∧ LamX.Tabs T H ∧ ∀ H', Q (.bl true) H'
abbrev noG : Hp := fun _ => none
theorem sub_noG {H : Hp} : Sub noG H := fun _ _ e => nomatch e
abbrev diceG (n nd : Nat) (d : Addr) : List Sl := (List.replicate n .no).set nd (.obj d (DiceO d))
section
variable {T : Tb} {P : Program} {w : World} {K : PySem.W.Frag} {mg : Str → Option Value} {base : Heap}
def lawBody (most : Int) (body : List Stmt) (j1 j2 : Nat) (p1 p2 p3 p4 p5 p6 p7 p8 : Pos) : List Stmt :=
  [.For (.Name "dice" p1) (.Call (.Name "_law_rounds" p2) [.Name "script" p3, .Constant (.int most) j1 p4] [] p5) body [] p6, .Return (some (.Constant (.bool true) j2 p7)) p8]
theorem law_ok {st : Stmt} {N : List Str} {nd k : Nat} {fa : Addr} {oc kV doc pm cdv ct : Value} {od an : Option Addr} {osl : Array (Option Value)} {body : List Stmt} {most : Int} {j1 j2 : Nat} {p1 p2 p3 p4 p5 p6 p7 p8 : Pos}
    (lk : K.lookup fa = some ⟨oc, od, .func (PySem.W.fnOf "law" "law" (defArgs st) (defBody st) (defScope st) .none kV doc pm an cdv ct), osl⟩) (hcd : PySem.W.codeIn K cdv "law" = true) (S : FnScope N ["script"] (defScope st))
    (hb : defBody st = lawBody most body j1 j2 p1 p2 p3 p4 p5 p6 p7 p8) (Rd : ∃ fr fdr, FnOk P w K mg base (L2N.CX P w) 2 fr fdr ["script", "most"] (spRounds T K) ∧ mg "_law_rounds" = some (.ref fr) ∧ PySem.W.keepIn K (.ref fr) = true ∧ Binds K fdr ["script", "most"] [])
    (hm1 : 1 ≤ most) (hm2 : most ≤ 10) (hN0 : N[0]? = some (("script" : Str))) (hNd : N[nd]? = some (("dice" : Str))) (lS : (defScope st).names.lookup ("script" : Str) = some .local) (lD : (defScope st).names.lookup ("dice" : Str) = some .local) (gR : (defScope st).names.lookup ("_law_rounds" : Str) = some .globalImplicit) (h2k : 2 ≤ k)
    (hbody : ∀ (A : Around) (outer : List Env) (s : Shared) (H0 H : Hp) (E : XK) (d : Addr), Bd T (cxOf (L2N.CX P w) P w K mg base N "law" (defScope st) fa cdv A outer s H0 E) ⟨noG, H, fun _ => False⟩ k → LamX.Tabs T H →
      WSs T (cxOf (L2N.CX P w) P w K mg base N "law" (defScope st) fa cdv A outer s H0 E) ⟨noG, H, fun _ => False⟩ (diceG N.length nd d) body (fun _ => True) (fun _ => False)) : FnOk P w K mg base (L2N.CX P w) (k + 1) fa (PySem.W.fnOf "law" "law" (defArgs st) (defBody st) (defScope st) .none kV doc pm an cdv ct) ["script"] (spLaw T K) := by
  obtain ⟨fr, fdr, FR, gRd, kR, bR⟩ := Rd
  refine fn_of lk hcd S (fun vs H Q E h => ?_) fun A outer s H vs Q E hr h => ?_
  · obtain ⟨a, ns, rfl, _⟩ := h
    rfl
  · obtain ⟨a, ns, rfl, hS, hl, hT, hQ⟩ := h
    rw [hb]
    have hndl : nd < N.length := (List.getElem?_eq_some_iff.mp hNd).1
    refine ⟨tSeq (fun D σ H' => D.nx = D.nx ∧ σ[0]? = some (some (.ref a)) ∧ H' = H ∧ ∀ σ' H', D.nx σ' H') (tRet (tC (.bl true))), pss_cons ⟨fun pins s' σ H' D I h => ?_⟩ (pss_one (ps_ret pe_bl)), rfl, ?_, rfl, fun σ' H' => hQ H'⟩
    · obtain ⟨_, h1, e, hnx⟩ := h
      rw [e] at I
      have po : PassesOwn (model P w) (cxOf (L2N.CX P w) P w K mg base N "law" (defScope st) fa cdv A outer s H E).A (cxOf (L2N.CX P w) P w K mg base N "law" (defScope st) fa cdv A outer s H E).env (cxOf (L2N.CX P w) P w K mg base N "law" (defScope st) fa cdv A outer s H E).xe := PassesOwn.leaving
      have tb : ∀ H1 : Hp, LamX.Tabs T H1 → PSs (cxOf (L2N.CX P w) P w K mg base N "law" (defScope st) fa cdv A outer s H E) body (fun E1 σ H2 => ∃ d, (σ.length = N.length → σ[nd]? = some (some (.ref d))) ∧ H2 d = some (DiceO d) ∧ Le T H1 H2 ∧ ∀ σ' H', Le T H1 H' → E1.nx σ' H') := fun H1 T1 => by
        refine ⟨fun pins s2 σ2 H2 E1 I2 ⟨d, q1, q2, q3, q4⟩ => ?_⟩
        have hl2 : σ2.length = N.length := I2.len
        have en : EnvR T K ⟨noG, H1, fun _ => False⟩ (diceG N.length nd d) σ2 noG H2 := by
          refine ⟨⟨q3, Evl.Ex.refl _, sub_noG, fun _ _ _ _ _ => rfl⟩, fun i sl e => ?_, by rw [List.length_set, List.length_replicate, hl2]⟩
          by_cases hi : nd = i
          · subst hi
            rw [List.getElem?_set_self (by rw [List.length_replicate]; exact hndl)] at e
            cases e
            exact ⟨_, q1 hl2, rfl, q2, fix_ext⟩
          · rw [List.getElem?_set_ne hi, List.getElem?_replicate] at e
            split at e
            · rename_i hlt
              cases e
              exact ⟨_, List.getElem?_eq_getElem (by rw [hl2]; exact hlt), trivial⟩
            · cases e
        have B : Bd T (cxOf (L2N.CX P w) P w K mg base N "law" (defScope st) fa cdv A outer s H E) ⟨noG, H1, fun _ => False⟩ k := ⟨tk_none fun _ z => z, po, hr, rfl⟩
        refine thn (hbody A outer s H H1 E d B T1 pins s2 σ2 noG H2 I2 en) fun fl s3 q => ?_
        cases fl with
        | next =>
          obtain ⟨Γ', σ', G', H', I', en', g, _⟩ := q
          exact ⟨σ', H', I', q4 σ' H' en'.st.le⟩
        | ret u =>
          obtain ⟨_, _, _, _, _, _, _, _, _, z⟩ := q
          exact z.elim
        | brk => exact q.elim
        | cont => exact q.elim
      have tball : PSs (cxOf (L2N.CX P w) P w K mg base N "law" (defScope st) fa cdv A outer s H E) body (fun E1 σ H2 => ∃ H1, LamX.Tabs T H1 ∧ ∃ d, (σ.length = N.length → σ[nd]? = some (some (.ref d))) ∧ H2 d = some (DiceO d) ∧ Le T H1 H2 ∧ ∀ σ' H', Le T H1 H' → E1.nx σ' H') :=
        ⟨fun pins s2 σ2 H2 E1 I2 ⟨H1, T1, q⟩ => (tb H1 T1).run pins s2 σ2 H2 E1 I2 q⟩
      have ci := pe_call (X := cxOf (L2N.CX P w) P w K mg base N "law" (defScope st) fa cdv A outer s H E) (CX := L2N.CX P w) (E := E0) (pos := p5) (p := p2) FR (hr.mono h2k) gR gRd kR bR .nil passN (pa_cons (pe_var (pos := p3) hN0 (.inl lS)) (pa_cons (pe_int (i := most) (j := j1) (pos := p4)) pa_nil))
      refine (ps_for po rfl (pi_list ci) (pg_name (pos := p1) S.nd hNd (.inl lD) (.inr lD)) tball).run pins s' σ H D I ?_
      have hGS : ∃ G, Sub G H ∧ Dp K G (.ref a) (.list (iL ns)) := by
        rcases hS with z | z
        · have hnt : ∃ o, H a = some o ∧ NT o := by
            rcases z with z | ⟨o, z⟩
            · exact ⟨_, z, nt_lst⟩
            · exact ⟨_, z, nt_frz⟩
          obtain ⟨o, ho, hn⟩ := hnt
          refine ⟨upd noG a o, fun b u e => ?_, .lst (.inl ?_) (iL_dpa ns)⟩
          · by_cases hb : b = a
            · subst hb
              rw [upd_same] at e
              cases e
              exact ⟨ho, hn⟩
            · rw [upd_ne hb] at e
              cases e
          · rcases z with z | ⟨o', z⟩
            · exact .inl (by rw [upd_same, ← ho]; exact z)
            · exact .inr ⟨o', by rw [upd_same, ← ho]; exact z⟩
        · exact ⟨noG, sub_noG, .lst (.inr z) (iL_dpa ns)⟩
      obtain ⟨G, sG, dG⟩ := hGS
      refine ⟨.ref a, h1, G, .ref a, ns, most, rfl, sG, dG, hl, hm1, hm2, fun p H1 as le hp hd => ?_⟩
      have T1 := le.t hT
      refine ⟨p, rfl, ⟨_, .of hp⟩, ?_⟩
      refine for_list (K := K) (g := gName nd) (tb := fun E1 σ H2 => ∃ H1, LamX.Tabs T H1 ∧ ∃ d, (σ.length = N.length → σ[nd]? = some (some (.ref d))) ∧ H2 d = some (DiceO d) ∧ Le T H1 H2 ∧ ∀ σ' H', Le T H1 H' → E1.nx σ' H') (D := D) (xs := as.map V.ref) (fun i σ' H' => Le T H1 H') (.refl T H1) (fun i σ' H' _ l => .of (l.h _ _ hp nt_lst)) (fun i x σ' H' hx l => ?_) (fun σ' H' l => hnx σ' H')
      rw [List.getElem?_map] at hx
      cases hq : as[i]? with
      | none =>
        rw [hq] at hx
        cases hx
      | some d =>
        rw [hq] at hx
        cases hx
        refine ⟨H1, T1, d, fun hl2 => ?_, l.h _ _ (hd d (List.mem_of_getElem? hq)) nt_ext, l, fun σ2 H2 l2 => l2⟩
        rw [List.length_set] at hl2
        exact List.getElem?_set_self (by rw [hl2]; exact hndl)
    · rfl
/-! ### what the head tells -/
abbrev dOf (n : Str) (st : Stmt) : He.DefD := ⟨(n, none), n, n, defArgs st, defBody st, defScope st, [], []⟩
theorem fun_of {n : Str} {st : Stmt} {f : Addr} {fd : FuncData} (F : FunD K n n (defArgs st) (defBody st) (defScope st) [] [] f fd) : Fun K n n st f fd := by
  obtain ⟨oc, od, dV, kV, doc, pm, an, cdv, ct, osl, e, lk, hcd, hd, _⟩ := F.ex
  have e2 : dV = .none := by
    rcases hd with ⟨_, z⟩ | ⟨z, _⟩
    · exact z
    · exact absurd rfl z
  subst e2
  exact ⟨⟨oc, od, kV, doc, pm, an, cdv, ct, osl, e, lk, hcd⟩, F.kp⟩
theorem def_at {h : Heap} {fa : List He.Fa} {fn : List He.DefD} {n : Str} {st : Stmt} (X : K.In h) (G : h.Ns mainGlobals mg) (c : He.SaysD fa fn K) (i : Nat) (hi : fn[i]? = some (dOf n st)) (hg : He.Fa.glo n ∈ fa) : DefAt K mg n st := by
  obtain ⟨fd, F⟩ := c.def_ i hi
  exact ⟨_, fd, fun_of F, He.glo_ok X G (c.facts hg)⟩
theorem xc_at {h : Heap} {fa : List He.Fa} {fn : List He.DefD} {n : Str} (X : K.In h) (G : h.Ns mainGlobals mg) (c : He.SaysD fa fn K) (hg : He.Fa.glo n ∈ fa) (he : He.Fa.exc n ∈ fa) : XC K mg n (He.ga K n) := by
  obtain ⟨a, b, d, e⟩ := He.exc_ok (c.facts he)
  exact ⟨He.glo_ok X G (c.facts hg), b, d, e, a⟩
def bltN : List Str := ["isinstance", "int", "bool", "tuple", "str", "list", "len", "all", "sum", "range", "max", "min", "abs", "sorted", "set", "enumerate", "ValueError"]
def errB (K : PySem.W.Frag) : Bool :=
  (errN.all fun x => errN.all fun y => decide (PySem.W.kitOne K (.ref (He.ga K x)) (.ref (He.ga K y)) = some (decide (x = y)))) &&
  ((errN.all fun x => decide (PySem.W.kitOne K (.ref (He.ga K x)) (.type "ValueError") = some true)) &&
  ((errN.all fun x => decide (PySem.W.exmOne K (.ref (He.ga K x)) (.ref (He.ga K "RopeError")) = some true)) &&
  (errN.all fun x => (He.eqO (PySem.W.findIn K (.ref (He.ga K x)) "__getattribute__") (some (some (.builtin "BaseException.__getattribute__"))) && He.eqO (PySem.W.findIn K (.ref (He.ga K x)) "__getattr__") (some none)) &&
    (decide (PySem.W.subIn K (.ref (He.ga K x)) (.type "BaseException") = some true) && (PySem.W.hasDictIn K (He.ga K x) && (He.eqO (PySem.W.findIn K (.ref (He.ga K x)) "__class__") (some (some (.builtin "object.__class__"))) &&
    (He.eqO (PySem.W.specialIn K (.builtin "object.__class__") "__get__") (some (some (.builtin "getset_descriptor.__get__"))) && (decide (PySem.W.takesIn K (.builtin "object.__class__") = some true) && decide (PySem.W.mroIn K (He.ga K x) (.type "object") = some true)))))))))
theorem errN_injF : ∀ i j : Fin 11, (decide (errN.getD j.1 Str.empty = errN.getD i.1 Str.empty) = decide (i.1 = j.1)) := by decide +kernel
theorem errN_inj (i j : Nat) (hi : i < 11) (hj : j < 11) : (decide (errN.getD j Str.empty = errN.getD i Str.empty) = decide (i = j)) := errN_injF ⟨i, hi⟩ ⟨j, hj⟩
theorem errN_mem (i : Nat) (h : i < 11) : errN.getD i Str.empty ∈ errN := by
  have e : errN.getD i Str.empty = errN[i]'h := by
    show (errN[i]?).getD Str.empty = _
    rw [List.getElem?_eq_getElem (show i < errN.length from h)]
    rfl
  rw [e]
  exact List.getElem_mem h
theorem errs_of {h : Heap} {fa : List He.Fa} {fn : List He.DefD} (X : K.In h) (G : h.Ns mainGlobals mg) (c : He.SaysD fa fn K) (hx : errB K = true) (hg : ∀ n ∈ errN, He.Fa.glo n ∈ fa) (hr : He.Fa.glo "RopeError" ∈ fa) (hv : He.Fa.free "ValueError" ∈ fa) :
    Errs K mg (fun i => He.ga K (errN.getD i Str.empty)) (He.ga K "RopeError") := by
  unfold errB at hx
  obtain ⟨h1, hx⟩ := He.ba hx
  obtain ⟨h2, hx⟩ := He.ba hx
  obtain ⟨h3, h4⟩ := He.ba hx
  refine ⟨fun i n hn => ?_, He.glo_ok X G (c.facts hr), He.free_ok X G (c.facts hv), fun i j hi hj => ?_, fun j hj => ?_, fun j hj => ?_, fun j hj => ?_⟩
  · have e : errN.getD i Str.empty = n := by simp [List.getD, hn]
    show mg n = some (.ref (He.ga K (errN.getD i Str.empty)))
    rw [e]
    exact He.glo_ok X G (c.facts (hg n (List.mem_of_getElem? hn)))
  · have q := of_decide_eq_true (List.all_eq_true.mp (List.all_eq_true.mp h1 _ (errN_mem j hj)) _ (errN_mem i hi))
    rw [errN_inj i j hi hj] at q
    exact q
  · exact of_decide_eq_true (List.all_eq_true.mp h2 _ (errN_mem j hj))
  · have q := List.all_eq_true.mp h4 _ (errN_mem j hj)
    obtain ⟨q1, q⟩ := He.ba q
    obtain ⟨a1, a2⟩ := He.ba q1
    obtain ⟨a3, q⟩ := He.ba q
    obtain ⟨a4, q⟩ := He.ba q
    obtain ⟨a5, q⟩ := He.ba q
    obtain ⟨a6, q⟩ := He.ba q
    obtain ⟨a7, a8⟩ := He.ba q
    exact ⟨He.eqO_ok a1, He.eqO_ok a2, of_decide_eq_true a3, a4, He.eqO_ok a5, He.eqO_ok a6, of_decide_eq_true a7, of_decide_eq_true a8⟩
  · exact of_decide_eq_true (List.all_eq_true.mp h3 _ (errN_mem j hj))
theorem mb_of {h : Heap} {fa : List He.Fa} {fn : List He.DefD} (X : K.In h) (G : h.Ns mainGlobals mg) (c : He.SaysD fa fn K) (hb : ∀ n ∈ bltN, He.Fa.free n ∈ fa) : Mb mg := by
  have k : ∀ n ∈ bltN, mg n = none := fun n hn => He.free_ok X G (c.facts (hb n hn))
  constructor <;> exact k _ (by decide)
end
end DL
namespace DL
open PySem PySem.Spec PyProof.Rows L2
/-! ### _law_term's flags -/
def flagsOf (j : Nat) : List Bool := [decide (0 = j), decide (1 = j), decide (2 = j), decide (3 = j), decide (4 = j), decide (5 = j), decide (6 = j), decide (7 = j), decide (8 = j), decide (9 = j), decide (10 = j)]
theorem flags_sumF : ∀ j : Fin 11, ((flagsOf j.1).map fun b => if b then (1 : Int) else 0).sum = 1 := by decide +kernel
theorem flags_sum (j : Nat) (h : j < 11) : ((flagsOf j).map fun b => if b then (1 : Int) else 0).sum = 1 := flags_sumF ⟨j, h⟩
theorem flags_atF : ∀ j : Fin 11, (flagsOf j.1)[j.1]? = some true := by decide +kernel
theorem flags_at (j : Nat) (h : j < 11) : (flagsOf j)[j]? = some true := flags_atF ⟨j, h⟩
theorem flags_noF : ∀ j m : Fin 11, m.1 < j.1 → (flagsOf j.1)[m.1]? = some false := by decide +kernel
theorem flags_no (j : Nat) (h : j < 11) (m : Nat) (hm : m < j) : (flagsOf j)[m]? = some false := flags_noF ⟨j, h⟩ ⟨m, Nat.lt_trans hm h⟩ hm
end DL
set_option Elab.async false
set_option linter.all false
set_option maxRecDepth 100000
set_option maxHeartbeats 4000000
namespace DL
open PySem PySem.Spec PyProof.Rows L2
section
variable {T : Tb} {X : Cx} {f : Fx} {Γ : List Sl} {a b e : Expr} {pos p : Pos} {ds : List D}
/-- sum(t), t a tuple of ints -/
theorem cr_sumT (hc : X.calm = true) : CallR X (.builtin "sum") (fun vs H Q => ∃ (t : Addr) (ns : List Int), vs = [V.ref t] ∧ SqT X.K H t (ns.map V.int) ∧ Q (.int ns.sum) H) := by
  intro pins s σ H vs us Q I r h
  obtain ⟨t, ns, rfl, hs, q⟩ := h
  obtain ⟨its, rv, hl, _⟩ := I.tuple hs
  rw [Vals.ref1 r]
  have hi : IntsAre its ns := rv.ints
  obtain ⟨xs, e⟩ := hi.allInts.items
  have hn : numsOf (intItems xs).toList = ns := by
    rw [← e]
    exact hi.numsOf
  rw [nums_intItems] at hn
  rw [e] at hl
  refine PySem.W.ktm_sumG (I.ok.hd hc) hl fun h' tk t' hk => ?_
  have e3 : preSum (numAt xs) xs.size = ns.sum := by
    rw [preSum_eq, List.take_of_length_le (by simp), hn]
  rw [e3]
  exact ⟨.int _, H, I.kept hk, ⟨_, rfl⟩, q⟩
theorem de_sumT {ns : List Int} (B : X.calm = true) (h : DE T X f Γ e (.tuple (iL ns))) (hm : X.mg "sum" = none) (hg : Gl X "sum" := by rfl) (hs : Sta X e := by rfl) : DE T X f Γ (.Call (.Name "sum" p) [e] [] pos) (.int ns.sum) :=
  de_cb (pe_callB (cr_sumT B) hg hm (by decide +kernel) (da_cons h da_nil hs) (by decide) (by decide) hs bpl) fun G H vs QQ s dp k => by
    obtain ⟨v, rfl, dq⟩ := dpa_1 dp
    cases dq with
    | tup sq al =>
      have e := dpa_iL al
      subst e
      exact ⟨_, _, rfl, st_up s sq, k _ _ G H (.refl s) (.int _) rfl⟩
end
end DL
namespace DL
open PySem PySem.Spec PyProof.Rows L2
/-! ### slots that are no lists of one's own -/
theorem noO_no : NoO .no := rfl
theorem noO_dat {d : D} : NoO (.dat d) := rfl
theorem noO_obj {a : Addr} {o : HO} : NoO (.obj a o) := rfl
theorem oneOwn4 {a b c : Sl} {xs : List D} (ha : NoO a) (hb : NoO b) (hc : NoO c) : OneOwn [a, .own xs, b, c] 1 := fun j ys hj e => by
  match j, hj, e with
  | 0, _, e => exact NoO.ne ha ys (Option.some.inj e)
  | 1, h, _ => exact h rfl
  | 2, _, e => exact NoO.ne hb ys (Option.some.inj e)
  | 3, _, e => exact NoO.ne hc ys (Option.some.inj e)
  | j + 4, _, e => simp at e
theorem oneOwn5 {a b c d : Sl} {xs : List D} (ha : NoO a) (hb : NoO b) (hc : NoO c) (hd : NoO d) : OneOwn [a, .own xs, b, c, d] 1 := fun j ys hj e => by
  match j, hj, e with
  | 0, _, e => exact NoO.ne ha ys (Option.some.inj e)
  | 1, h, _ => exact h rfl
  | 2, _, e => exact NoO.ne hb ys (Option.some.inj e)
  | 3, _, e => exact NoO.ne hc ys (Option.some.inj e)
  | 4, _, e => exact NoO.ne hd ys (Option.some.inj e)
  | j + 5, _, e => simp at e
end DL
set_option Elab.async false
set_option linter.all false
set_option maxRecDepth 100000
set_option maxHeartbeats 4000000
namespace DL
open PySem PySem.Spec PyProof.Rows L2
section
variable {T : Tb} {X : Cx} {f : Fx} {Γ : List Sl} {a b e : Expr} {pos p : Pos} {ds : List D} {Q Qd : D → Prop}
/-! ### values of which not all is known -/
theorem asgW (n : Nat) {x : Str} {pn : Pos} {rest : List Stmt} {N : List Sl → Prop} {Rt : D → Prop} (hN : X.N.Nodup) (h : WE T X f Γ e Qd) (k : ∀ d, Qd d → WSs T X f (Γ.set n (.dat d)) rest N Rt) (hi : X.N[n]? = some x := by rfl) (hx : Loc X.env.scope x := by first | exact Or.inl rfl | exact Or.inr rfl)
    (hs : swapsWith e (some (.Name x pn)) pos.line X.env = pure false := by rfl) (hf : X.fn x = true ∨ X.env.scope.names.lookup x = some .local := by first | exact .inl rfl | exact .inr rfl) : WSs T X f Γ (.Assign [.Name x pn] e pos :: rest) N Rt :=
  wss_cons (N' := fun Γ' => ∃ d, Qd d ∧ Γ' = Γ.set n (.dat d)) (ws_asg (h.mono fun d q => ⟨d, q, rfl⟩) hN hi hx hs hf) fun Γ' ⟨d, q, e⟩ => e ▸ k d q
theorem we_add {P1 P2 : Int → Prop} (ha : WE T X f Γ a fun d => ∃ i, d = .int i ∧ P1 i) (hb : WE T X f Γ b fun d => ∃ i, d = .int i ∧ P2 i) (hq : ∀ i j, P1 i → P2 j → Q (.int (i + j))) : WE T X f Γ (.BinOp a .Add b pos) Q :=
  we_op (pe_op op_add ha.pe hb.pe) fun x y G H v w QQ q1 q2 s d1 d2 k => by
    obtain ⟨i, rfl, p1⟩ := q1
    obtain ⟨j, rfl, p2⟩ := q2
    cases d1
    cases d2
    exact ⟨i, j, rfl, rfl, k _ _ G H (.refl s) (.int _) (hq i j p1 p2)⟩
theorem we_roll {n k m : Nat} {y : Str} {d : Addr} {many : Int} {p1 p2 : Pos} (F : Dfn T X.prog X.w X.K X.mg X.base "_law_roll" k cRoll) (B : Bd T X f m) (hk : k ≤ m) (h : Γ[n]? = some (.obj d (DiceO d))) (hb : DE T X f Γ b (.int many)) (h0 : 0 < many) (h1 : many ≤ 100000)
    (hN : X.N[n]? = some y := by rfl) (hv : Vis X.env.scope y := by first | exact Or.inl rfl | exact Or.inr (Or.inl rfl) | exact Or.inr (Or.inr rfl)) (hg : Gl X "_law_roll" := by rfl) (hd : (y == ("__debug__" : Str)) = false := by decide) (hcd : (y == ("__classdict__" : Str)) = false := by decide)
    (hs : starEach [.Name y p2, b] X.env = (false, eval (.Name y p2) X.env) :: starEach [b] X.env := by rfl) (hs2 : starEach [b] X.env = (false, eval b X.env) :: starEach [] X.env := by rfl) (hpl : (backTo pos (starEach [b] X.env)).any (·.1) = false := by rfl) :
    WE T X f Γ (.Call (.Name "_law_roll" p1) [.Name y p2, b] [] pos) (fun z => ∃ v, z = .int v ∧ 0 ≤ v ∧ v < many) :=
  we_call F B hk (wa_obj h (wa_cons hb wa_nil hs2) hN hv hd hcd hs) ⟨d, many, rfl, h0, h1, rfl⟩ (fun r ⟨v, a, b, e⟩ => by
    subst e
    exact ⟨v, rfl, a, b⟩) hg (by decide) hs hpl
theorem all_true {α : Type} {xs : List α} {g : α → Bool} (h : ∀ x ∈ xs, g x = true) : (xs.map g).all id = true := by
  rw [List.all_map]
  exact List.all_eq_true.mpr h
end
/-! ### facts by names -/
def hasG (n : Str) : List He.Fa → Bool
  | [] => false
  | .glo x :: r => decide (x = n) || hasG n r
  | _ :: r => hasG n r
def hasF (n : Str) : List He.Fa → Bool
  | [] => false
  | .free x :: r => decide (x = n) || hasF n r
  | _ :: r => hasF n r
def hasE (n : Str) : List He.Fa → Bool
  | [] => false
  | .exc x :: r => decide (x = n) || hasE n r
  | _ :: r => hasE n r
theorem hasG_ok {n : Str} : ∀ {fa : List He.Fa}, hasG n fa = true → He.Fa.glo n ∈ fa
  | [], h => nomatch h
  | f :: r, h => by
    cases f with
    | glo x =>
      have h2 : (decide (x = n) || hasG n r) = true := h
      rcases Bool.or_eq_true_iff.mp h2 with z | z
      · rw [of_decide_eq_true z]
        exact List.mem_cons_self
      · exact List.mem_cons_of_mem _ (hasG_ok z)
    | _ => exact List.mem_cons_of_mem _ (hasG_ok h)
theorem hasF_ok {n : Str} : ∀ {fa : List He.Fa}, hasF n fa = true → He.Fa.free n ∈ fa
  | [], h => nomatch h
  | f :: r, h => by
    cases f with
    | free x =>
      have h2 : (decide (x = n) || hasF n r) = true := h
      rcases Bool.or_eq_true_iff.mp h2 with z | z
      · rw [of_decide_eq_true z]
        exact List.mem_cons_self
      · exact List.mem_cons_of_mem _ (hasF_ok z)
    | _ => exact List.mem_cons_of_mem _ (hasF_ok h)
theorem hasE_ok {n : Str} : ∀ {fa : List He.Fa}, hasE n fa = true → He.Fa.exc n ∈ fa
  | [], h => nomatch h
  | f :: r, h => by
    cases f with
    | exc x =>
      have h2 : (decide (x = n) || hasE n r) = true := h
      rcases Bool.or_eq_true_iff.mp h2 with z | z
      · rw [of_decide_eq_true z]
        exact List.mem_cons_self
      · exact List.mem_cons_of_mem _ (hasE_ok z)
    | _ => exact List.mem_cons_of_mem _ (hasE_ok h)
theorem hasGs_ok {ns : List Str} {fa : List He.Fa} (h : (ns.all fun n => hasG n fa) = true) (n : Str) (hn : n ∈ ns) : He.Fa.glo n ∈ fa := hasG_ok (List.all_eq_true.mp h n hn)
theorem hasFs_ok {ns : List Str} {fa : List He.Fa} (h : (ns.all fun n => hasF n fa) = true) (n : Str) (hn : n ∈ ns) : He.Fa.free n ∈ fa := hasF_ok (List.all_eq_true.mp h n hn)
/-! ### the end -/
def forBody : List Stmt → List Stmt
  | [.For _ _ b _ _, _] => b
  | _ => []
abbrev lawQ : Str := (envOfC "law" ⟨.function, [], false, false, []⟩ 0 0 .none).qual ++ "<lambda>"
theorem law_end {l : PySem.W.OpenLaw} {w : World} {K : PySem.W.Frag} {h : Heap} {mg : Str → Option Value} {f : Addr} {fa : List He.Fa} {fn : List He.DefD} {ex : PySem.W.Frag → Bool} {st : Stmt} {k : Nat} (KX : K.In h) (c : He.SaysX fa fn [] [("law", none)] ex w h K) (G : h.Ns mainGlobals mg) (hmg : mg "law" = some (.ref f))
    (hg : He.Fa.glo "law" ∈ fa) (i : Nat) (hi : fn[i]? = some (dOf "law" st))
    (bi : ∀ (kV doc pm : Value) (an : Option Addr) (cdv ct : Value) (us : List Value), us.length = 1 → bindArgs (PySem.W.fnOf "law" "law" (defArgs st) (defBody st) (defScope st) .none kV doc pm an cdv ct) ⟨us, []⟩ = pure ((["script"] : List Str).zip us))
    (F : ∀ (base : Heap) (cc PP : Addr) (oc kV doc pm ct : Value) (od an : Option Addr) (osl : Array (Option Value)), K.In base → base.Ns mainGlobals mg → LamX.TabB base mg cc PP →
      K.lookup f = some ⟨oc, od, .func (PySem.W.fnOf "law" "law" (defArgs st) (defBody st) (defScope st) .none kV doc pm an (.ref cc) ct), osl⟩ → PySem.W.codeIn K (.ref cc) "law" = true →
      FnOk l.prog w K mg base (L2N.CX l.prog w) k f (PySem.W.fnOf "law" "law" (defArgs st) (defBody st) (defScope st) .none kV doc pm an (.ref cc) ct) ["script"] (spLaw [(PP, lawQ)] K)) :
    LamX.LawAtS l w K (L2N.CX l.prog w) k 63 "script" mg f h := by
  obtain ⟨fd, FD⟩ := c.t.d.def_ i hi
  have e0 := hmg.symm.trans (He.glo_ok KX G (c.t.d.facts hg))
  injection e0 with e0
  injection e0 with e0
  subst e0
  have FF := fun_of FD
  obtain ⟨oc, od, kV, doc, pm, an, cdv, ct, osl, rfl, lk, hcd⟩ := FF.ex
  obtain ⟨cc, rfl⟩ := He.codeIn_ref hcd
  have ec : He.codeOf K ("law", none) = cc := He.codeOf_eq lk rfl
  have e1 : (He.cT K ("law", none)).1 = cc := ec
  refine ⟨PySem.W.fnOf "law" "law" (defArgs st) (defBody st) (defScope st) .none kV doc pm an (.ref cc) ct, [He.cT K ("law", none)], spLaw [((He.cT K ("law", none)).2, lawQ)] K, fun p hp => ?_, fun p hp => ?_, fun p hp => ?_, fun s u => ?_, fun H a ns hl _ hT hS => ?_, fun base KB GB TB => ?_⟩
  · rw [List.mem_singleton.mp hp]
    exact c.empty _ List.mem_cons_self
  · rw [List.mem_singleton.mp hp]
    exact c.out _ List.mem_cons_self
  · rw [List.mem_singleton.mp hp]
    exact PySem.W.codeHd_of_K KX (c.hd _ List.mem_cons_self)
  · exact .of_eq (bi kV doc pm an _ ct [u] rfl)
  · refine ⟨a, ns, rfl, hS, hl, fun q hq => ?_, fun _ => rfl⟩
    rw [List.mem_singleton.mp hq]
    exact LamX.TabS.nil (hT _ List.mem_cons_self)
  · have T1 := TB _ List.mem_cons_self
    rw [e1] at T1
    exact F base cc _ oc kV doc pm ct od an osl KB GB T1 lk hcd
end DL
set_option Elab.async false
set_option linter.all false
set_option maxRecDepth 100000
namespace KR
open PySem DL
/-! ### the mirror: triangles -/
abbrev D := PySem.PyData
def isWhole (d : D) (lo hi : Int) : Bool := match d with
  | .int i => decide (lo ≤ i) && decide (i ≤ hi)
  | _ => false
structure Tri (a b c : Int) : Prop where
  a1 : 1 ≤ a
  ab : a ≤ b
  bc : b ≤ c
  c100 : c ≤ 100
  lt : c < a + b
def tri (a b c : Int) : D := .tuple [.int a, .int b, .int c]
def chain3 (x y z : D) : Bool := match x, y, z with
  | .int a, .int b, .int c => decide (a ≤ b) && (decide (b ≤ c) && decide (c < a + b))
  | _, _, _ => false
def isTriD (d : D) : Bool := match d with
  | .tuple [x, y, z] => (isWhole x 1 100 && (isWhole y 1 100 && (isWhole z 1 100 && true))) && chain3 x y z
  | _ => false
theorem isTri_tri {a b c : Int} (h : Tri a b c) : isTriD (tri a b c) = true := by
  obtain ⟨h1, h2, h3, h4, h5⟩ := h
  show ((decide (1 ≤ a) && decide (a ≤ 100)) && ((decide (1 ≤ b) && decide (b ≤ 100)) && ((decide (1 ≤ c) && decide (c ≤ 100)) && true)) && (decide (a ≤ b) && (decide (b ≤ c) && decide (c < a + b)))) = true
  simp only [Bool.and_eq_true, decide_eq_true_eq, Bool.and_true]
  omega
theorem isWhole_int {d : D} {lo hi : Int} (h : isWhole d lo hi = true) : ∃ i, d = .int i ∧ lo ≤ i ∧ i ≤ hi := by
  cases d with
  | int i =>
    have q : (decide (lo ≤ i) && decide (i ≤ hi)) = true := h
    simp only [Bool.and_eq_true, decide_eq_true_eq] at q
    exact ⟨i, rfl, q.1, q.2⟩
  | _ => cases h
theorem tri_of_isTri {a b c : Int} (h : isTriD (tri a b c) = true) : Tri a b c := by
  have q : ((decide (1 ≤ a) && decide (a ≤ 100)) && ((decide (1 ≤ b) && decide (b ≤ 100)) && ((decide (1 ≤ c) && decide (c ≤ 100)) && true)) && (decide (a ≤ b) && (decide (b ≤ c) && decide (c < a + b)))) = true := h
  simp only [Bool.and_eq_true, decide_eq_true_eq, Bool.and_true] at q
  exact ⟨by omega, by omega, by omega, by omega, by omega⟩
theorem isTri_shape {d : D} (h : isTriD d = true) : ∃ a b c, d = tri a b c ∧ Tri a b c := by
  cases d with
  | tuple ds =>
    match ds, h with
    | [x, y, z], h =>
      have q : ((isWhole x 1 100 && (isWhole y 1 100 && (isWhole z 1 100 && true))) && chain3 x y z) = true := h
      simp only [Bool.and_eq_true] at q
      obtain ⟨⟨hx, hy, hz, _⟩, _⟩ := q
      obtain ⟨a, rfl, _⟩ := isWhole_int hx
      obtain ⟨b, rfl, _⟩ := isWhole_int hy
      obtain ⟨c, rfl, _⟩ := isWhole_int hz
      exact ⟨a, b, c, rfl, tri_of_isTri h⟩
    | [], h => cases h
    | [_], h => cases h
    | [_, _], h => cases h
    | _ :: _ :: _ :: _ :: _, h => cases h
  | _ => cases h
def cIsWhole : Ct := fun as S => ∃ d lo hi, as = [.dat d, .dat (.int lo), .dat (.int hi)] ∧ S = Ret (.ok (.bool (isWhole d lo hi)))
def cIsTri : Ct := fun as S => ∃ d, as = [.dat d] ∧ S = Ret (.ok (.bool (isTriD d)))
def cNeedTri : Ct := fun as S => (∃ d, isTriD d = true ∧ as = [.dat d] ∧ S = Ret (.ok .none)) ∨ (∃ d, isTriD d = false ∧ as = [.dat d] ∧ S = Ret (.error "InvalidTriangle"))
/-- a def of one triangle -/
def cTri (g : Int → Int → Int → D) : Ct := fun as S => (∃ a b c, Tri a b c ∧ as = [.dat (tri a b c)] ∧ S = Ret (.ok (g a b c))) ∨ (∃ d, isTriD d = false ∧ as = [.dat d] ∧ S = Ret (.error "InvalidTriangle"))
def cPerimeter : Ct := cTri fun a b c => .int (a + b + c)
/-! ### ropes -/
def Rope (n : Int) : Prop := 3 ≤ n ∧ n ≤ 60
def cNeedRope : Ct := fun as S => (∃ n, Rope n ∧ as = [.dat (.int n)] ∧ S = Ret (.ok .none)) ∨ (∃ d, isWhole d 3 60 = false ∧ as = [.dat d] ∧ S = Ret (.error "InvalidRope"))
theorem rope_whole {n : Int} (h : Rope n) : isWhole (.int n) 3 60 = true := by
  show (decide (3 ≤ n) && decide (n ≤ 60)) = true
  rw [decide_eq_true h.1, decide_eq_true h.2]
  rfl
/-- the law's draws -/
def cCell : Ct := fun as S => ∃ ns k, as = [.dat (.list (iL ns)), .dat (.int k)] ∧ ns.length ≤ 63 ∧ 0 ≤ k ∧ k ≤ 1000 ∧ S = (fun r => ∃ v, r = .ok (.int v))
def cDrawn : Ct := fun as S => ∃ c k, as = [.dat (.int c), .dat (.int k)] ∧ S = (fun r => ∃ v, r = .ok (.int v))
end KR
set_option Elab.async false
set_option linter.all false
set_option maxRecDepth 100000
namespace KR
open PySem DL
/-! ### lists by loops -/
def rngI (lo : Int) (m : Nat) : List Int := (List.range m).map fun (i : Nat) => lo + (i : Int)
theorem rngI_succ (lo : Int) (m : Nat) : rngI lo (m + 1) = rngI lo m ++ [lo + (m : Int)] := by
  unfold rngI
  rw [List.range_succ, List.map_append]
  rfl
theorem rngI_len (lo : Int) (m : Nat) : (rngI lo m).length = m := by
  unfold rngI
  rw [List.length_map, List.length_range]
theorem mem_rngI {lo x : Int} {m : Nat} : x ∈ rngI lo m ↔ lo ≤ x ∧ x < lo + (m : Int) := by
  unfold rngI
  rw [List.mem_map]
  constructor
  · rintro ⟨i, hi, rfl⟩
    have := List.mem_range.mp hi
    omega
  · intro h
    exact ⟨(x - lo).toNat, List.mem_range.mpr (by omega), by omega⟩
/-- for x in lo ..: if P x: append (g x) -/
def rowIn {α : Type} (P : Int → Bool) (g : Int → α) (lo : Int) (m : Nat) : List α := ((rngI lo m).filter P).map g
theorem rowIn_succT {α : Type} {P : Int → Bool} {g : Int → α} {lo : Int} {m : Nat} (h : P (lo + (m : Int)) = true) : rowIn P g lo (m + 1) = rowIn P g lo m ++ [g (lo + (m : Int))] := by
  unfold rowIn
  rw [rngI_succ, List.filter_append, List.map_append]
  simp [h]
theorem rowIn_succF {α : Type} {P : Int → Bool} {g : Int → α} {lo : Int} {m : Nat} (h : P (lo + (m : Int)) = false) : rowIn P g lo (m + 1) = rowIn P g lo m := by
  unfold rowIn
  rw [rngI_succ, List.filter_append, List.map_append]
  simp [h]
theorem rowIn_len {α : Type} {P : Int → Bool} {g : Int → α} {lo : Int} {m : Nat} : (rowIn P g lo m).length ≤ m := by
  unfold rowIn
  rw [List.length_map]
  have h := List.length_filter_le P (rngI lo m)
  rw [rngI_len] at h
  exact h
/-- rows, one behind the other -/
def rows {α : Type} (F : Int → List α) (lo : Int) (m : Nat) : List α := (rngI lo m).flatMap F
theorem rows_succ {α : Type} {F : Int → List α} {lo : Int} {m : Nat} : rows F lo (m + 1) = rows F lo m ++ F (lo + (m : Int)) := by
  unfold rows
  rw [rngI_succ, List.flatMap_append]
  simp
theorem rows_len {α : Type} {F : Int → List α} {lo : Int} {B : Nat} (h : ∀ x, (F x).length ≤ B) : ∀ m, (rows F lo m).length ≤ m * B
  | 0 => by simp [rows, rngI]
  | m + 1 => by
    rw [rows_succ, List.length_append, Nat.succ_mul]
    have := rows_len (lo := lo) h m
    have := h (lo + (m : Int))
    omega
theorem rows_lenB {α : Type} {F : Int → List α} {lo : Int} {B : Nat} : ∀ m : Nat, (∀ x, lo ≤ x → x < lo + (m : Int) → (F x).length ≤ B) → (rows F lo m).length ≤ m * B
  | 0, _ => by simp [rows, rngI]
  | m + 1, h => by
    rw [rows_succ, List.length_append, Nat.succ_mul]
    have := rows_lenB (lo := lo) (F := F) (B := B) m (fun x h1 h2 => h x h1 (by omega))
    have := h (lo + (m : Int)) (by omega) (by omega)
    omega
/-! ### the triangles of a rope -/
abbrev Tr := Int × Int × Int
def trD (t : Tr) : D := tri t.1 t.2.1 t.2.2
def laidRow (n a : Int) (m : Nat) : List Tr := rowIn (fun b => decide (n - a - b < a + b)) (fun b => (a, b, n - a - b)) a m
def laidUp (n : Int) (m : Nat) : List Tr := rows (fun a => laidRow n a ((n - a) / 2 + 1 - a).toNat) 1 m
def laidT (n : Int) : List Tr := laidUp n (n / 3 + 1 - 1).toNat
def lawRow (n a : Int) (m : Nat) : List Tr := rowIn (fun b => decide (b ≤ n - a - b) && decide (n - a - b < a + b)) (fun b => (a, b, n - a - b)) a m
def lawUp (n : Int) (m : Nat) : List Tr := rows (fun a => lawRow n a (n - a).toNat) 1 m
def lawT (n : Int) : List Tr := lawUp n (n - 1).toNat
def baseOf (n : Int) : Int := if n % 2 = 0 then n else n + 3
def countT (n : Int) : Int := (baseOf n * baseOf n + 24) / 48
/-- a fact of all ropes -/
theorem ropes_by (P : Int → Bool) (h : ((List.range 58).all fun i => P (3 + (i : Int))) = true) (n : Int) (hn : Rope n) : P n = true := by
  have q := List.all_eq_true.mp h (n - 3).toNat (List.mem_range.mpr (by have := hn.1; have := hn.2; omega))
  have e : 3 + (((n - 3).toNat : Nat) : Int) = n := by have := hn.1; omega
  rw [e] at q
  exact q
theorem law_laid (n : Int) (h : Rope n) : lawT n = laidT n := of_decide_eq_true (ropes_by (fun n => decide (lawT n = laidT n)) (by decide +kernel) n h)
theorem laid_count (n : Int) (h : Rope n) : ((laidT n).length : Int) = countT n := of_decide_eq_true (ropes_by (fun n => decide (((laidT n).length : Int) = countT n)) (by decide +kernel) n h)
theorem count_near (n : Int) (h : Rope n) : -24 ≤ 48 * countT n - baseOf n * baseOf n ∧ 48 * countT n - baseOf n * baseOf n ≤ 24 := of_decide_eq_true (ropes_by (fun n => decide (-24 ≤ 48 * countT n - baseOf n * baseOf n ∧ 48 * countT n - baseOf n * baseOf n ≤ 24)) (by decide +kernel) n h)
theorem count_odd (n : Int) (h : Rope n) : n % 2 = 1 → countT n = countT (n + 3) := of_decide_eq_true (ropes_by (fun n => decide (n % 2 = 1 → countT n = countT (n + 3))) (by decide +kernel) n h)
def triB (t : Tr) (n : Int) : Bool := decide (1 ≤ t.1 ∧ t.1 ≤ t.2.1 ∧ t.2.1 ≤ t.2.2 ∧ t.2.2 ≤ 100 ∧ t.2.2 < t.1 + t.2.1 ∧ t.1 + t.2.1 + t.2.2 = n)
theorem laid_tris (n : Int) (h : Rope n) : (laidT n).all (fun t => triB t n) = true := ropes_by (fun n => (laidT n).all (fun t => triB t n)) (by decide +kernel) n h
theorem laid_tri {n : Int} (h : Rope n) {t : Tr} (ht : t ∈ laidT n) : Tri t.1 t.2.1 t.2.2 ∧ t.1 + t.2.1 + t.2.2 = n := by
  have q := of_decide_eq_true (List.all_eq_true.mp (laid_tris n h) t ht)
  exact ⟨⟨q.1, q.2.1, q.2.2.1, q.2.2.2.1, q.2.2.2.2.1⟩, q.2.2.2.2.2⟩
theorem laid_len (n : Int) (h : Rope n) : (laidT n).length ≤ 100 := of_decide_eq_true (ropes_by (fun n => decide ((laidT n).length ≤ 100)) (by decide +kernel) n h)
/-! ### contracts -/
def trL (ts : List Tr) : List D := ts.map trD
theorem trL_app (a b : List Tr) : trL (a ++ b) = trL a ++ trL b := List.map_append
/-- a def of a rope -/
def cRope (g : Int → D) : Ct := fun as S => (∃ n, Rope n ∧ as = [.dat (.int n)] ∧ S = Ret (.ok (g n))) ∨ (∃ d, isWhole d 3 60 = false ∧ as = [.dat d] ∧ S = Ret (.error "InvalidRope"))
def cRope0 (g : Int → D) : Ct := fun as S => ∃ n, Rope n ∧ as = [.dat (.int n)] ∧ S = Ret (.ok (g n))
def cRopeX : Ct := fun as S => ∃ d, isWhole d 3 60 = false ∧ as = [.dat d] ∧ S = Ret (.error "InvalidRope")
def cLaid : Ct := cRope0 fun n => .list (trL (laidT n))
def cLawLaid : Ct := cRope0 fun n => .list (trL (lawT n))
def cTriangles : Ct := cRope fun n => .tuple (trL (laidT n))
def cCount : Ct := cRope fun n => .int (countT n)
end KR
set_option Elab.async false
set_option linter.all false
set_option maxRecDepth 100000
set_option maxHeartbeats 4000000
namespace DL
open PySem PySem.Spec PyProof.Rows L2
/-! ### sorted lists of ints -/
def insI (x : Int) : List Int → List Int
  | [] => [x]
  | y :: r => if x ≤ y then x :: y :: r else y :: insI x r
def sortI : List Int → List Int
  | [] => []
  | x :: r => insI x (sortI r)
theorem insI_perm (x : Int) : ∀ l, (insI x l).Perm (x :: l)
  | [] => .refl _
  | y :: r => by
    unfold insI
    split
    · exact .refl _
    · exact ((insI_perm x r).cons y).trans (.swap x y r)
theorem sortI_perm : ∀ l, (sortI l).Perm l
  | [] => .refl _
  | x :: r => (insI_perm x (sortI r)).trans ((sortI_perm r).cons x)
theorem insI_sorted (x : Int) : ∀ l, l.Pairwise (· ≤ ·) → (insI x l).Pairwise (· ≤ ·)
  | [], _ => List.pairwise_singleton _ _
  | y :: r, h => by
    unfold insI
    obtain ⟨h1, h2⟩ := List.pairwise_cons.mp h
    split
    · rename_i hle
      refine List.pairwise_cons.mpr ⟨fun z hz => ?_, h⟩
      rcases List.mem_cons.mp hz with rfl | hz
      · exact hle
      · exact Int.le_trans hle (h1 z hz)
    · rename_i hle
      refine List.pairwise_cons.mpr ⟨fun z hz => ?_, insI_sorted x r h2⟩
      rcases List.mem_cons.mp ((insI_perm x r).mem_iff.mp hz) with rfl | hz
      · omega
      · exact h1 z hz
theorem sortI_sorted : ∀ l, (sortI l).Pairwise (· ≤ ·)
  | [] => .nil
  | x :: r => insI_sorted x _ (sortI_sorted r)
theorem sorted_unique : ∀ {a b : List Int}, a.Perm b → a.Pairwise (· ≤ ·) → b.Pairwise (· ≤ ·) → a = b
  | [], b, p, _, _ => (List.nil_perm.mp p).symm
  | x :: xs, [], p, _, _ => (List.perm_nil.mp p)
  | x :: xs, y :: ys, p, h1, h2 => by
    obtain ⟨a1, a2⟩ := List.pairwise_cons.mp h1
    obtain ⟨b1, b2⟩ := List.pairwise_cons.mp h2
    have e : x = y := by
      have hx : x ∈ y :: ys := p.mem_iff.mp List.mem_cons_self
      have hy : y ∈ x :: xs := p.mem_iff.mpr List.mem_cons_self
      rcases List.mem_cons.mp hx with z | z
      · exact z
      · rcases List.mem_cons.mp hy with w | w
        · exact w.symm
        · exact Int.le_antisymm (a1 y w) (b1 x z)
    subst e
    rw [sorted_unique (List.Perm.cons_inv p) a2 b2]
theorem sortI_of {a b : List Int} (p : a.Perm b) (h : a.Pairwise (· ≤ ·)) : a = sortI b := sorted_unique (p.trans (sortI_perm b).symm) h (sortI_sorted b)
section
variable {T : Tb} {X : Cx} {f : Fx} {Γ : List Sl} {a b c e : Expr} {pos p : Pos} {ds : List D} {Q Qd : D → Prop}
theorem we_sorted (h : WE T X f Γ e fun d => ∃ ns, d = .list (iL ns) ∧ Q (.list (iL (sortI ns)))) (hm : X.mg "sorted" = none) (hg : Gl X "sorted" := by rfl) (hs : Sta X e := by rfl) : WE T X f Γ (.Call (.Name "sorted" p) [e] [] pos) Q :=
  we_cb (Qs := fun z => ∃ ns, z = [.list (iL ns)] ∧ Q (.list (iL (sortI ns)))) (pe_callB cr_sortedI hg hm (by decide +kernel) (wd_cons h da_nil (fun d ds q e => by
    subst e
    obtain ⟨ns, rfl, q⟩ := q
    exact ⟨ns, rfl, q⟩) hs) (by decide) (by decide) hs bpl) fun ds G H vs QQ q s dp k => by
    obtain ⟨ns, rfl, q2⟩ := q
    obtain ⟨v, rfl, dq⟩ := dpa_1 dp
    cases dq with
    | lst sq al =>
      have e := dpa_iL al
      subst e
      refine ⟨_, ns, rfl, sq_up s sq, fun ns' q pm so hq => ?_⟩
      rw [sortI_of pm so]
      exact k _ _ _ _ (.new s hq nt_lst) (.lst (.of upd_same) (iL_dpa _)) q2
theorem de_sorted {ns : List Int} (h : DE T X f Γ e (.list (iL ns))) (hm : X.mg "sorted" = none) (hg : Gl X "sorted" := by rfl) (hs : Sta X e := by rfl) : DE T X f Γ (.Call (.Name "sorted" p) [e] [] pos) (.list (iL (sortI ns))) :=
  we_sorted (h.mono fun _ e => ⟨ns, e, rfl⟩) hm hg hs
/-! ### a, b = x, y -/
theorem wss_par {i j : Nat} {x y : Str} {d1 d2 : D} {px py pt pt2 : Pos} {kt k2 : Nat} {rest : List Stmt} {N : List Sl → Prop} {Rt : D → Prop} (B : X.calm = true) (hN : X.N.Nodup) (ha : DE T X f Γ a d1) (hb : DE T X f Γ b d2) (k : WSs T X f ((Γ.set i (.dat d1)).set j (.dat d2)) rest N Rt)
    (hij : i ≠ j) (hil : i < Γ.length) (hjl : j < Γ.length) (hi : X.N[i]? = some x := by rfl) (hj : X.N[j]? = some y := by rfl) (hx : X.env.scope.names.lookup x = some .local := by rfl) (hy : X.env.scope.names.lookup y = some .local := by rfl)
    (hw : swappedStores [.Tuple [.Name x px, .Name y py] kt pt] (.Tuple [a, b] k2 pt2) X.env = pure (some [x, y]) := by rfl)
    (hs : swapsWithSole [.Tuple [.Name x px, .Name y py] kt pt] (.Tuple [a, b] k2 pt2) pos.line X.env = pure false := by rfl) (s1 : starEach [a, b] X.env = (false, eval a X.env) :: starEach [b] X.env := by rfl) (s2 : starEach [b] X.env = (false, eval b X.env) :: starEach [] X.env := by rfl) :
    WSs T X f Γ (.Assign [.Tuple [.Name x px, .Name y py] kt pt] (.Tuple [a, b] k2 pt2) pos :: rest) N Rt :=
  wss_cons (N' := fun Γ' => Γ' = (Γ.set i (.dat d1)).set j (.dat d2)) (.of (ps_par B hN hi hj hij hx hy (da_cons ha (da_cons hb da_nil s2) s1) hw hs) fun σ G H E en w => ⟨G, en, fun vs ds G' H' st dp q => by
    subst q
    obtain ⟨v1, v2, rfl, p1, p2⟩ := dpa_2 dp
    refine ⟨v1, v2, rfl, w.nx _ _ G' H' (((en.step st).set (s := .dat d1) ⟨v1, rfl, p1⟩ hil).set (s := .dat d2) ⟨v2, rfl, p2⟩ (by rw [List.length_set]; exact hjl)) st.g rfl⟩⟩) fun _ e => e ▸ k
/-! ### tests of ints of which not all is known -/
theorem wt_cmp {P1 P2 : Int → Prop} {Qc : Bool → Prop} {op : CmpOp} {g : Int → Int → Bool} (ho : OpR X (compareOp op) (rI0 fun i j => .bl (g i j))) (ha : WE T X f Γ a fun d => ∃ i, d = .int i ∧ P1 i) (hb : WE T X f Γ b fun d => ∃ i, d = .int i ∧ P2 i) (hm : behindInMarks op b = false) (hq : ∀ i j, P1 i → P2 j → Qc (g i j)) : WT T X f Γ (.Compare a [op] [b] pos) Qc :=
  .of (pt_cmpR ho ha.pe hb.pe hm) fun σ G H QQ en w => ⟨G, en, fun v1 d1 G1 H1 s1 p1 q1 => ⟨G1, en.step s1, fun v2 d2 G2 H2 s2 p2 q2 => by
    obtain ⟨i, rfl, c1⟩ := q1
    obtain ⟨j, rfl, c2⟩ := q2
    cases p1
    cases p2
    exact ⟨i, j, rfl, rfl, g i j, rfl, w _ G2 H2 (s1.trans s2) (hq i j c1 c2)⟩⟩⟩
theorem we_k {i : Int} (h : DE T X f Γ e (.int i)) : WE T X f Γ e fun d => ∃ j, d = .int j ∧ j = i := h.mono fun _ e => ⟨i, e, rfl⟩
theorem we_mul {P1 P2 : Int → Prop} (ha : WE T X f Γ a fun d => ∃ i, d = .int i ∧ P1 i) (hb : WE T X f Γ b fun d => ∃ i, d = .int i ∧ P2 i) (hc : ∀ i j, P1 i → P2 j → CMul i j ∧ Q (.int (i * j))) : WE T X f Γ (.BinOp a .Mult b pos) Q :=
  we_op (pe_op op_mul ha.pe hb.pe) fun x y G H v w QQ q1 q2 s d1 d2 k => by
    obtain ⟨i, rfl, p1⟩ := q1
    obtain ⟨j, rfl, p2⟩ := q2
    cases d1
    cases d2
    exact ⟨i, j, rfl, rfl, (hc i j p1 p2).1, k _ _ G H (.refl s) (.int _) (hc i j p1 p2).2⟩
end
end DL
namespace DL
open PySem PySem.Spec PyProof.Rows L2
section
variable {T : Tb} {X : Cx} {f : Fx} {Γ : List Sl} {e : Expr} {pos p p1 p2 p3 : Pos} {d1 d2 d3 : D} {rest : List Stmt} {N : List Sl → Prop} {Rt : D → Prop} {x1 x2 x3 : Str} {m : Nat}
theorem unp3 (n1 n2 n3 : Nat) (B : X.calm = true) (hN : X.N.Nodup) (h : DE T X f Γ e (.tuple [d1, d2, d3])) (k : WSs T X f (((Γ.set n1 (.dat d1)).set n2 (.dat d2)).set n3 (.dat d3)) rest N Rt) (l1 : n1 < Γ.length := by exact Nat.le_of_ble_eq_true rfl) (l2 : n2 < Γ.length := by exact Nat.le_of_ble_eq_true rfl) (l3 : n3 < Γ.length := by exact Nat.le_of_ble_eq_true rfl)
    (h1 : X.N[n1]? = some x1 := by rfl) (h2 : X.N[n2]? = some x2 := by rfl) (h3 : X.N[n3]? = some x3 := by rfl) (c1 : Loc X.env.scope x1 := by first | exact Or.inl rfl | exact Or.inr rfl) (c2 : Loc X.env.scope x2 := by first | exact Or.inl rfl | exact Or.inr rfl) (c3 : Loc X.env.scope x3 := by first | exact Or.inl rfl | exact Or.inr rfl)
    (f1 : X.fn x1 = true ∨ X.env.scope.names.lookup x1 = some .local := by first | exact .inl rfl | exact .inr rfl) (f2 : X.fn x2 = true ∨ X.env.scope.names.lookup x2 = some .local := by first | exact .inl rfl | exact .inr rfl) (f3 : X.fn x3 = true ∨ X.env.scope.names.lookup x3 = some .local := by first | exact .inl rfl | exact .inr rfl)
    (hs : swapsWithSole [.Tuple [.Name x1 p1, .Name x2 p2, .Name x3 p3] m p] e pos.line X.env = pure false := by rfl) (hw : swappedStores [.Tuple [.Name x1 p1, .Name x2 p2, .Name x3 p3] m p] e X.env = pure none := by rfl)
    (ha : (assignEach [.Tuple [.Name x1 p1, .Name x2 p2, .Name x3 p3] m p] X.env).map (·.2) = [assign (.Tuple [.Name x1 p1, .Name x2 p2, .Name x3 p3] m p) X.env] := by rfl) :
    WSs T X f Γ (.Assign [.Tuple [.Name x1 p1, .Name x2 p2, .Name x3 p3] m p] e pos :: rest) N Rt :=
  wss_unp h (wg_tup (n := 3) B (wgs_3 hN h1 c1 h2 c2 h3 c3 f1 f2 f3)) ⟨_, rfl, rfl, _, _, _, rfl, l1, l2, l3, rfl⟩ k hs hw ha
theorem unp3L (n1 n2 n3 : Nat) (B : X.calm = true) (hN : X.N.Nodup) (h : DE T X f Γ e (.list [d1, d2, d3])) (k : WSs T X f (((Γ.set n1 (.dat d1)).set n2 (.dat d2)).set n3 (.dat d3)) rest N Rt) (l1 : n1 < Γ.length := by exact Nat.le_of_ble_eq_true rfl) (l2 : n2 < Γ.length := by exact Nat.le_of_ble_eq_true rfl) (l3 : n3 < Γ.length := by exact Nat.le_of_ble_eq_true rfl)
    (h1 : X.N[n1]? = some x1 := by rfl) (h2 : X.N[n2]? = some x2 := by rfl) (h3 : X.N[n3]? = some x3 := by rfl) (c1 : Loc X.env.scope x1 := by first | exact Or.inl rfl | exact Or.inr rfl) (c2 : Loc X.env.scope x2 := by first | exact Or.inl rfl | exact Or.inr rfl) (c3 : Loc X.env.scope x3 := by first | exact Or.inl rfl | exact Or.inr rfl)
    (f1 : X.fn x1 = true ∨ X.env.scope.names.lookup x1 = some .local := by first | exact .inl rfl | exact .inr rfl) (f2 : X.fn x2 = true ∨ X.env.scope.names.lookup x2 = some .local := by first | exact .inl rfl | exact .inr rfl) (f3 : X.fn x3 = true ∨ X.env.scope.names.lookup x3 = some .local := by first | exact .inl rfl | exact .inr rfl)
    (hs : swapsWithSole [.Tuple [.Name x1 p1, .Name x2 p2, .Name x3 p3] m p] e pos.line X.env = pure false := by rfl) (hw : swappedStores [.Tuple [.Name x1 p1, .Name x2 p2, .Name x3 p3] m p] e X.env = pure none := by rfl)
    (ha : (assignEach [.Tuple [.Name x1 p1, .Name x2 p2, .Name x3 p3] m p] X.env).map (·.2) = [assign (.Tuple [.Name x1 p1, .Name x2 p2, .Name x3 p3] m p) X.env] := by rfl) :
    WSs T X f Γ (.Assign [.Tuple [.Name x1 p1, .Name x2 p2, .Name x3 p3] m p] e pos :: rest) N Rt :=
  wss_unp h (wg_lst (n := 3) B (wgs_3 hN h1 c1 h2 c2 h3 c3 f1 f2 f3)) ⟨_, rfl, rfl, _, _, _, rfl, l1, l2, l3, rfl⟩ k hs hw ha
theorem unp2 (n1 n2 : Nat) (B : X.calm = true) (hN : X.N.Nodup) (h : DE T X f Γ e (.tuple [d1, d2])) (k : WSs T X f ((Γ.set n1 (.dat d1)).set n2 (.dat d2)) rest N Rt) (l1 : n1 < Γ.length := by exact Nat.le_of_ble_eq_true rfl) (l2 : n2 < Γ.length := by exact Nat.le_of_ble_eq_true rfl)
    (h1 : X.N[n1]? = some x1 := by rfl) (h2 : X.N[n2]? = some x2 := by rfl) (c1 : Loc X.env.scope x1 := by first | exact Or.inl rfl | exact Or.inr rfl) (c2 : Loc X.env.scope x2 := by first | exact Or.inl rfl | exact Or.inr rfl)
    (f1 : X.fn x1 = true ∨ X.env.scope.names.lookup x1 = some .local := by first | exact .inl rfl | exact .inr rfl) (f2 : X.fn x2 = true ∨ X.env.scope.names.lookup x2 = some .local := by first | exact .inl rfl | exact .inr rfl)
    (hs : swapsWithSole [.Tuple [.Name x1 p1, .Name x2 p2] m p] e pos.line X.env = pure false := by rfl) (hw : swappedStores [.Tuple [.Name x1 p1, .Name x2 p2] m p] e X.env = pure none := by rfl)
    (ha : (assignEach [.Tuple [.Name x1 p1, .Name x2 p2] m p] X.env).map (·.2) = [assign (.Tuple [.Name x1 p1, .Name x2 p2] m p) X.env] := by rfl) :
    WSs T X f Γ (.Assign [.Tuple [.Name x1 p1, .Name x2 p2] m p] e pos :: rest) N Rt :=
  wss_unp h (wg_tup (n := 2) B (wgs_2 hN h1 c1 h2 c2 f1 f2)) ⟨_, rfl, rfl, _, _, rfl, l1, l2, rfl⟩ k hs hw ha
end
end DL
namespace DL
open PySem PySem.Spec PyProof.Rows L2
section
variable {T : Tb} {X : Cx} {f : Fx} {Γ : List Sl} {e a b : Expr} {pos p p1 p2 p3 pt pt2 : Pos} {rest : List Stmt} {N : List Sl → Prop} {Rt : D → Prop} {x1 x2 x3 : Str} {m k2 : Nat}
theorem unp2W {Qd : D → D → Prop} (n1 n2 : Nat) (B : X.calm = true) (hN : X.N.Nodup) (h : WE T X f Γ e fun d => ∃ d1 d2, d = .tuple [d1, d2] ∧ Qd d1 d2) (k : ∀ d1 d2, Qd d1 d2 → WSs T X f ((Γ.set n1 (.dat d1)).set n2 (.dat d2)) rest N Rt) (l1 : n1 < Γ.length := by exact Nat.le_of_ble_eq_true rfl) (l2 : n2 < Γ.length := by exact Nat.le_of_ble_eq_true rfl)
    (h1 : X.N[n1]? = some x1 := by rfl) (h2 : X.N[n2]? = some x2 := by rfl) (c1 : Loc X.env.scope x1 := by first | exact Or.inl rfl | exact Or.inr rfl) (c2 : Loc X.env.scope x2 := by first | exact Or.inl rfl | exact Or.inr rfl)
    (f1 : X.fn x1 = true ∨ X.env.scope.names.lookup x1 = some .local := by first | exact .inl rfl | exact .inr rfl) (f2 : X.fn x2 = true ∨ X.env.scope.names.lookup x2 = some .local := by first | exact .inl rfl | exact .inr rfl)
    (hs : swapsWithSole [.Tuple [.Name x1 p1, .Name x2 p2] m p] e pos.line X.env = pure false := by rfl) (hw : swappedStores [.Tuple [.Name x1 p1, .Name x2 p2] m p] e X.env = pure none := by rfl)
    (ha : (assignEach [.Tuple [.Name x1 p1, .Name x2 p2] m p] X.env).map (·.2) = [assign (.Tuple [.Name x1 p1, .Name x2 p2] m p) X.env] := by rfl) :
    WSs T X f Γ (.Assign [.Tuple [.Name x1 p1, .Name x2 p2] m p] e pos :: rest) N Rt :=
  wss_cons (N' := fun Γ' => ∃ d1 d2, Qd d1 d2 ∧ Γ' = (Γ.set n1 (.dat d1)).set n2 (.dat d2)) (ws_unp (h.mono fun d ⟨d1, d2, e, q⟩ => ⟨_, ⟨_, e, rfl, _, _, rfl, l1, l2, rfl⟩, d1, d2, q, rfl⟩) (wg_tup (n := 2) B (wgs_2 hN h1 c1 h2 c2 f1 f2)) hs hw ha) fun Γ' ⟨d1, d2, q, e⟩ => e ▸ k d1 d2 q
theorem we_tup2 {Q1 Q2 : D → Prop} (ha : WE T X f Γ a Q1) (hb : WE T X f Γ b Q2) (s1 : starEach [a, b] X.env = (false, eval a X.env) :: starEach [b] X.env := by rfl) (s2 : starEach [b] X.env = (false, eval b X.env) :: starEach [] X.env := by rfl) :
    WE T X f Γ (.Tuple [a, b] m pos) (fun d => ∃ d1 d2, d = .tuple [d1, d2] ∧ Q1 d1 ∧ Q2 d2) :=
  we_tup (wd_cons (Q := fun ds => ∃ d1 d2, ds = [d1, d2] ∧ Q1 d1 ∧ Q2 d2) ha (wd_cons (Q := fun ds => ∃ d2, ds = [d2] ∧ Q2 d2) hb (wd_nil (Q := fun z => z = []) rfl) (fun d ds q e => ⟨d, by rw [e], q⟩) s2) (fun d ds q ⟨d2, e, q2⟩ => ⟨d, d2, by rw [e], q, q2⟩) s1) fun ds ⟨d1, d2, e, q1, q2⟩ => by
    subst e
    exact ⟨Nat.le_of_ble_eq_true rfl, d1, d2, rfl, q1, q2⟩
theorem we_lst2 {Q1 Q2 : D → Prop} (ha : WE T X f Γ a Q1) (hb : WE T X f Γ b Q2) (s1 : starEach [a, b] X.env = (false, eval a X.env) :: starEach [b] X.env := by rfl) (s2 : starEach [b] X.env = (false, eval b X.env) :: starEach [] X.env := by rfl) :
    WE T X f Γ (.List [a, b] pos) (fun d => ∃ d1 d2, d = .list [d1, d2] ∧ Q1 d1 ∧ Q2 d2) :=
  we_lst (wd_cons (Q := fun ds => ∃ d1 d2, ds = [d1, d2] ∧ Q1 d1 ∧ Q2 d2) ha (wd_cons (Q := fun ds => ∃ d2, ds = [d2] ∧ Q2 d2) hb (wd_nil (Q := fun z => z = []) rfl) (fun d ds q e => ⟨d, by rw [e], q⟩) s2) (fun d ds q ⟨d2, e, q2⟩ => ⟨d, d2, by rw [e], q, q2⟩) s1) fun ds ⟨d1, d2, e, q1, q2⟩ => by
    subst e
    exact ⟨Nat.le_of_ble_eq_true rfl, d1, d2, rfl, q1, q2⟩
theorem parW {i j : Nat} {Q1 Q2 : D → Prop} (B : X.calm = true) (hN : X.N.Nodup) (ha : WE T X f Γ a Q1) (hb : WE T X f Γ b Q2) (k : ∀ d1 d2, Q1 d1 → Q2 d2 → WSs T X f ((Γ.set i (.dat d1)).set j (.dat d2)) rest N Rt)
    (hij : i ≠ j) (hil : i < Γ.length) (hjl : j < Γ.length) (hi : X.N[i]? = some x1 := by rfl) (hj : X.N[j]? = some x2 := by rfl) (hx : X.env.scope.names.lookup x1 = some .local := by rfl) (hy : X.env.scope.names.lookup x2 = some .local := by rfl)
    (hw : swappedStores [.Tuple [.Name x1 p1, .Name x2 p2] m pt] (.Tuple [a, b] k2 pt2) X.env = pure (some [x1, x2]) := by rfl)
    (hs : swapsWithSole [.Tuple [.Name x1 p1, .Name x2 p2] m pt] (.Tuple [a, b] k2 pt2) pos.line X.env = pure false := by rfl) (s1 : starEach [a, b] X.env = (false, eval a X.env) :: starEach [b] X.env := by rfl) (s2 : starEach [b] X.env = (false, eval b X.env) :: starEach [] X.env := by rfl) :
    WSs T X f Γ (.Assign [.Tuple [.Name x1 p1, .Name x2 p2] m pt] (.Tuple [a, b] k2 pt2) pos :: rest) N Rt :=
  wss_cons (N' := fun Γ' => ∃ d1 d2, Q1 d1 ∧ Q2 d2 ∧ Γ' = (Γ.set i (.dat d1)).set j (.dat d2)) (.of (ps_par B hN hi hj hij hx hy (wd_cons (Q := fun ds => ∃ d1 d2, ds = [d1, d2] ∧ Q1 d1 ∧ Q2 d2) ha (wd_cons (Q := fun ds => ∃ d2, ds = [d2] ∧ Q2 d2) hb (wd_nil (Q := fun z => z = []) rfl) (fun d ds q e => ⟨d, by rw [e], q⟩) s2) (fun d ds q ⟨d2, e, q2⟩ => ⟨d, d2, by rw [e], q, q2⟩) s1) hw hs) fun σ G H E en w => ⟨G, en, fun vs ds G' H' st dp q => by
    obtain ⟨d1, d2, rfl, q1, q2⟩ := q
    obtain ⟨v1, v2, rfl, p1, p2⟩ := dpa_2 dp
    refine ⟨v1, v2, rfl, w.nx _ _ G' H' (((en.step st).set (s := .dat d1) ⟨v1, rfl, p1⟩ hil).set (s := .dat d2) ⟨v2, rfl, p2⟩ (by rw [List.length_set]; exact hjl)) st.g ⟨d1, d2, q1, q2, rfl⟩⟩⟩) fun _ ⟨d1, d2, q1, q2, e⟩ => e ▸ k d1 d2 q1 q2
end
theorem sort3a {a b c : Int} (h1 : a ≤ b) (h2 : b ≤ c) : sortI [a, b, c] = [a, b, c] := (sortI_of (.refl _) (by simp; omega)).symm
theorem sort3b {a b c : Int} (h1 : b ≤ a) (h2 : a ≤ c) : sortI [a, b, c] = [b, a, c] := (sortI_of (.swap a b [c]) (by simp; omega)).symm
end DL
set_option Elab.async false
set_option linter.all false
set_option maxRecDepth 100000
set_option maxHeartbeats 4000000
namespace DL
open PySem PySem.Spec PyProof.Rows L2
/-! ### the members of a list of ints, rising -/
def insU (x : Int) : List Int → List Int
  | [] => [x]
  | y :: r => if x < y then x :: y :: r else if x = y then y :: r else y :: insU x r
def sortU : List Int → List Int
  | [] => []
  | x :: r => insU x (sortU r)
theorem insU_mem {x z : Int} : ∀ {l : List Int}, z ∈ insU x l ↔ z = x ∨ z ∈ l
  | [] => by simp [insU]
  | y :: r => by
    unfold insU
    split
    · simp
    · split
      · rename_i h
        subst h
        simp
      · rw [List.mem_cons, insU_mem (l := r), List.mem_cons]
        constructor
        · rintro (h | h | h)
          · exact .inr (.inl h)
          · exact .inl h
          · exact .inr (.inr h)
        · rintro (h | h | h)
          · exact .inr (.inl h)
          · exact .inl h
          · exact .inr (.inr h)
theorem sortU_mem {z : Int} : ∀ {l : List Int}, z ∈ sortU l ↔ z ∈ l
  | [] => by simp [sortU]
  | x :: r => by
    unfold sortU
    rw [insU_mem, sortU_mem (l := r), List.mem_cons]
theorem insU_asc (x : Int) : ∀ l : List Int, l.Pairwise (· < ·) → (insU x l).Pairwise (· < ·)
  | [], _ => List.pairwise_singleton _ _
  | y :: r, h => by
    unfold insU
    obtain ⟨h1, h2⟩ := List.pairwise_cons.mp h
    split
    · rename_i hlt
      refine List.pairwise_cons.mpr ⟨fun z hz => ?_, h⟩
      rcases List.mem_cons.mp hz with rfl | hz
      · exact hlt
      · exact Int.lt_trans hlt (h1 z hz)
    · split
      · exact h
      · refine List.pairwise_cons.mpr ⟨fun z hz => ?_, insU_asc x r h2⟩
        rcases insU_mem.mp hz with rfl | hz
        · omega
        · exact h1 z hz
theorem sortU_asc : ∀ l, (sortU l).Pairwise (· < ·)
  | [] => .nil
  | x :: r => insU_asc x _ (sortU_asc r)
theorem asc_unique : ∀ {a b : List Int}, (∀ z, z ∈ a ↔ z ∈ b) → a.Pairwise (· < ·) → b.Pairwise (· < ·) → a = b
  | [], [], _, _, _ => rfl
  | [], y :: ys, p, _, _ => absurd ((p y).mpr List.mem_cons_self) (by simp)
  | x :: xs, [], p, _, _ => absurd ((p x).mp List.mem_cons_self) (by simp)
  | x :: xs, y :: ys, p, h1, h2 => by
    obtain ⟨a1, a2⟩ := List.pairwise_cons.mp h1
    obtain ⟨b1, b2⟩ := List.pairwise_cons.mp h2
    have e : x = y := by
      have hx := (p x).mp List.mem_cons_self
      have hy := (p y).mpr List.mem_cons_self
      rcases List.mem_cons.mp hx with z | z
      · exact z
      · rcases List.mem_cons.mp hy with w | w
        · exact w.symm
        · have q1 := a1 y w
          have q2 := b1 x z
          omega
    subst e
    have m : ∀ z, z ∈ xs ↔ z ∈ ys := fun z => by
      have q := p z
      rw [List.mem_cons, List.mem_cons] at q
      constructor
      · intro hz
        rcases q.mp (.inr hz) with w | w
        · have := a1 z hz
          omega
        · exact w
      · intro hz
        rcases q.mpr (.inr hz) with w | w
        · have := b1 z hz
          omega
        · exact w
    rw [asc_unique m a2 b2]
theorem sortU_of {a b : List Int} (h : a.Pairwise (· < ·)) (m : ∀ z, z ∈ a ↔ z ∈ b) : a = sortU b := asc_unique (fun z => (m z).trans sortU_mem.symm) h (sortU_asc b)
theorem insI_asc (x : Int) : ∀ l : List Int, x ∉ l → l.Pairwise (· < ·) → (insI x l).Pairwise (· < ·)
  | [], _, _ => List.pairwise_singleton _ _
  | y :: r, hn, h => by
    unfold insI
    obtain ⟨h1, h2⟩ := List.pairwise_cons.mp h
    have ne : x ≠ y := fun z => hn (by rw [z]; exact List.mem_cons_self)
    split
    · rename_i hle
      refine List.pairwise_cons.mpr ⟨fun z hz => ?_, h⟩
      rcases List.mem_cons.mp hz with rfl | hz
      · omega
      · have := h1 z hz
        omega
    · refine List.pairwise_cons.mpr ⟨fun z hz => ?_, insI_asc x r (fun z => hn (List.mem_cons_of_mem _ z)) h2⟩
      rcases List.mem_cons.mp ((insI_perm x r).mem_iff.mp hz) with rfl | hz
      · omega
      · exact h1 z hz
theorem sortI_asc : ∀ l : List Int, l.Nodup → (sortI l).Pairwise (· < ·)
  | [], _ => .nil
  | x :: r, h => by
    obtain ⟨h1, h2⟩ := List.nodup_cons.mp h
    exact insI_asc x _ (fun z => h1 ((sortI_perm r).mem_iff.mp z)) (sortI_asc r h2)
theorem nodup_count {l b : List Int} (h : l.Nodup) (m : ∀ z, z ∈ l ↔ z ∈ b) : l.length = (sortU b).length := by
  rw [← sortU_of (sortI_asc l h) (fun z => (sortI_perm l).mem_iff.trans (m z)), (sortI_perm l).length_eq]
/-- how many unlike ints -/
def dst (ns : List Int) : Int := ((sortU ns).length : Int)
section
variable {T : Tb} {X : Cx} {f : Fx} {Γ : List Sl} {a b c e : Expr} {pos p p2 q : Pos} {ds es : List D} {x y d : D}
/-! ### set(t), t a tuple of ints -/
def rSetTI (K : PySem.W.Frag) (w : World) : List V → Hp → VK → Prop := fun vs H Q => ∃ (t : Addr) (ns : List Int), vs = [.ref t] ∧ SqT K H t (ns.map V.int) ∧ ns.length ≤ 60 ∧
  ∀ r, H r = none → Q (.ref r) (upd H r (SetO w r (fun j => decide (j ∈ ns)) (sortU ns).length))
theorem cr_setTI (hc : X.calm = true) : CallR X (.type "set") (rSetTI X.K X.w) := by
  intro pins s σ H vs us Q I r h
  obtain ⟨t, ns, rfl, hs, hl, qq⟩ := h
  obtain ⟨its, rv, hl2, _⟩ := I.tuple hs
  rw [Vals.ref1 r]
  refine call_set_tupI ns (I.ok.hd hc) hl2 (by simpa using rv.ints) (by unfold scanBound; omega) fun h' tk cc hS hcn hk => ?_
  have e : cc = (sortU ns).length := by
    obtain ⟨o, es, ep, tt, ho, hx, hd, g, nd, hm, hb, hf, hn, _⟩ := hS
    have z := nodup_count (b := ns) nd (fun z => by
      have := hm z
      rw [decide_eq_true_eq] at this
      exact this.symm)
    rw [List.length_map, Array.length_toList] at z
    omega
  subst e
  exact ⟨.ref _, _, I.laid (t' := tk) (fun b u z => hk b u z) (Nat.le_refl _) (setO_new hS), rfl, qq _ (I.hok.fresh (Nat.le_refl _))⟩
def rLenSet (w : World) : List V → Hp → VK → Prop := fun vs H Q => ∃ (t : Addr) (S : Int → Bool) (n : Nat), vs = [.ref t] ∧ H t = some (SetO w t S n) ∧ Q (.int n) H
theorem cr_lenSet : CallR X (.builtin "len") (rLenSet X.w) := by
  intro pins s σ H vs us Q I r h
  obtain ⟨t, S, n, rfl, hs, qq⟩ := h
  rw [Vals.ref1 r]
  obtain ⟨o, es, ep, tt, ho, hx, hd, g, nd, hm, hb, hf, hn, _⟩ := setO_get I hs
  subst hn
  refine call_len_set ho hx hd hf (by have z : es.size < scanBound := hb; unfold scanBound at z; omega) ⟨.int _, H, I.tok _, ⟨_, rfl⟩, qq⟩
theorem de_lenSetT {ns : List Int} (B : X.calm = true) (h : DE T X f Γ e (.tuple (iL ns))) (hl : ns.length ≤ 60) (hm : X.mg "len" = none) (hm2 : X.mg "set" = none) (hg : Gl X "len" := by rfl) (hg2 : Gl X "set" := by rfl) (hs : Sta X e := by rfl) (hs2 : Sta X (.Call (.Name "set" p2) [e] [] q) := by rfl) :
    DE T X f Γ (.Call (.Name "len" p) [.Call (.Name "set" p2) [e] [] q] [] pos) (.int (dst ns)) :=
  .of (pe_callB cr_lenSet hg hm (by decide +kernel) (pa_cons (pe_callTy (cr_setTI B) hg2 hm2 (by decide +kernel) (da_cons h da_nil hs) (by decide) (by decide) hs bpl) pa_nil hs2) (by decide) (by decide) hs2 bpl) fun σ G H QQ en w => ⟨G, en, fun vs ds G' H' st dp qd => by
    subst qd
    obtain ⟨v, rfl, dq⟩ := dpa_1 dp
    cases dq with
    | tup sq al =>
      have e := dpa_iL al
      subst e
      refine ⟨_, ns, rfl, st_up st.s sq, hl, fun r hr => ⟨r, _, _, rfl, upd_same, w _ _ G' _ (st.trans (.keep st.s (.new hr))) (.int _) rfl⟩⟩⟩
/-- sorted(set(t)) -/
theorem de_sortedSetT {ns : List Int} (B : X.calm = true) (h : DE T X f Γ e (.tuple (iL ns))) (hl : ns.length ≤ 60) (hlu : (sortU ns).length < 64) (hm : X.mg "sorted" = none) (hm2 : X.mg "set" = none) (hg : Gl X "sorted" := by rfl) (hg2 : Gl X "set" := by rfl) (hs : Sta X e := by rfl) (hs2 : Sta X (.Call (.Name "set" p2) [e] [] q) := by rfl) :
    DE T X f Γ (.Call (.Name "sorted" p) [.Call (.Name "set" p2) [e] [] q] [] pos) (.list (iL (sortU ns))) :=
  .of (pe_callB (cr_sortedSet B) hg hm (by decide +kernel) (pa_cons (pe_callTy (cr_setTI B) hg2 hm2 (by decide +kernel) (da_cons h da_nil hs) (by decide) (by decide) hs bpl) pa_nil hs2) (by decide) (by decide) hs2 bpl) fun σ G H QQ en w => ⟨G, en, fun vs ds G' H' st dp qd => by
    subst qd
    obtain ⟨v, rfl, dq⟩ := dpa_1 dp
    cases dq with
    | tup sq al =>
      have e := dpa_iL al
      subst e
      refine ⟨_, ns, rfl, st_up st.s sq, hl, fun r hr => ⟨r, _, _, rfl, upd_same, hlu, fun ms p ha hm hn hp => ?_⟩⟩
      have e2 : ms = sortU ns := sortU_of ha fun z => (hm z).trans (by rw [decide_eq_true_eq])
      subst e2
      have s1 : Stp T G H G' (upd H' r (SetO X.w r (fun j => decide (j ∈ ns)) (sortU ns).length)) := st.trans (.keep st.s (.new hr))
      exact w _ _ _ _ (s1.trans (.new s1.s hp nt_lst)) (.lst (.of upd_same) (iL_dpa _)) rfl⟩
/-! ### x in xs -/
def rInT (K : PySem.W.Frag) : R2 := fun x y H Q => ∃ d ds, Dp K H x d ∧ Dp K H y (.tuple ds) ∧ SeqAt.shaped d = true ∧ SeqAt.shaped (.tuple ds) = true ∧ Q (.bl (ds.any fun z => PyData.eqv z d)) H
def rNotInT (K : PySem.W.Frag) : R2 := fun x y H Q => ∃ d ds, Dp K H x d ∧ Dp K H y (.tuple ds) ∧ SeqAt.shaped d = true ∧ SeqAt.shaped (.tuple ds) = true ∧ Q (.bl (!ds.any fun z => PyData.eqv z d)) H
theorem op_inT (hu : X.A.units + 65 < cLine) : OpR X (compareOp .In) (rInT X.K) := by
  intro pins s σ H x y v u Q I rx ry ⟨d, ds, hd, he, sd, se, q⟩
  obtain ⟨as, r1⟩ := Dp.reads I d x v hd rx
  obtain ⟨bs, r2⟩ := Dp.reads I (.tuple ds) y u he ry
  refine SeqAt.in_tuple_reads r2 r1 (SeqAt.canLay_of_shaped se) (SeqAt.canLay_of_shaped sd) (room_in_shaped sd hu) ?_
  exact ⟨.bl _, H, I, rfl, q⟩
theorem op_notInT (hu : X.A.units + 65 < cLine) : OpR X (compareOp .NotIn) (rNotInT X.K) := by
  intro pins s σ H x y v u Q I rx ry ⟨d, ds, hd, he, sd, se, q⟩
  obtain ⟨as, r1⟩ := Dp.reads I d x v hd rx
  obtain ⟨bs, r2⟩ := Dp.reads I (.tuple ds) y u he ry
  refine SeqAt.notIn_tuple_reads r2 r1 (SeqAt.canLay_of_shaped se) (SeqAt.canLay_of_shaped sd) (room_in_shaped sd hu) ?_
  exact ⟨.bl _, H, I, rfl, q⟩
theorem Bd.units5 {k : Nat} (h : Bd T X f k) : X.A.units + 65 < cLine := by
  have := h.rm.un
  omega
def inD (d : D) (ds : List D) : Bool := ds.any fun z => PyData.eqv z d
theorem up {G H : Hp} {v : V} {K : PySem.W.Frag} (s : Sub G H) (h : Dp K G v d) : Dp K H v d := dp_mono (fun b o h => (s b o h).1) _ _ h
theorem de_inT (ha : DE T X f Γ a x) (hb : DE T X f Γ b (.tuple ds)) (hu : X.A.units + 65 < cLine) (hx : SeqAt.shaped x = true) (hy : SeqAt.shaped (.tuple ds) = true) (hm : behindInMarks .In b = false := by rfl) : DE T X f Γ (.Compare a [.In] [b] pos) (.bool (inD x ds)) :=
  de_op (pe_cmpR (op_inT hu) ha.pe hb.pe hm) fun G H v w QQ s d1 d2 k => ⟨x, ds, up s d1, up s d2, hx, hy, k _ _ G H (.refl s) (.bl _) rfl⟩
theorem dt_inT (ha : DE T X f Γ a x) (hb : DE T X f Γ b (.tuple ds)) (hu : X.A.units + 65 < cLine) (hx : SeqAt.shaped x = true) (hy : SeqAt.shaped (.tuple ds) = true) (hm : behindInMarks .In b = false := by rfl) : DT T X f Γ (.Compare a [.In] [b] pos) (inD x ds) :=
  dt_op (op_inT hu) ha hb hm fun G H v w QQ s d1 d2 k => ⟨x, ds, up s d1, up s d2, hx, hy, k _ _ G H (.refl s) (.bl _) rfl⟩
theorem de_ninT (ha : DE T X f Γ a x) (hb : DE T X f Γ b (.tuple ds)) (hu : X.A.units + 65 < cLine) (hx : SeqAt.shaped x = true) (hy : SeqAt.shaped (.tuple ds) = true) (hm : behindInMarks .NotIn b = false := by rfl) : DE T X f Γ (.Compare a [.NotIn] [b] pos) (.bool (!inD x ds)) :=
  de_op (pe_cmpR (op_notInT hu) ha.pe hb.pe hm) fun G H v w QQ s d1 d2 k => ⟨x, ds, up s d1, up s d2, hx, hy, k _ _ G H (.refl s) (.bl _) rfl⟩
theorem dt_ninT (ha : DE T X f Γ a x) (hb : DE T X f Γ b (.tuple ds)) (hu : X.A.units + 65 < cLine) (hx : SeqAt.shaped x = true) (hy : SeqAt.shaped (.tuple ds) = true) (hm : behindInMarks .NotIn b = false := by rfl) : DT T X f Γ (.Compare a [.NotIn] [b] pos) (!inD x ds) :=
  dt_op (op_notInT hu) ha hb hm fun G H v w QQ s d1 d2 k => ⟨x, ds, up s d1, up s d2, hx, hy, k _ _ G H (.refl s) (.bl _) rfl⟩
theorem de_inL (ha : DE T X f Γ a x) (hb : DE T X f Γ b (.list ds)) (hu : X.A.units + 65 < cLine) (hx : SeqAt.shaped x = true) (hy : SeqAt.shaped (.list ds) = true) (hm : behindInMarks .In b = false := by rfl) : DE T X f Γ (.Compare a [.In] [b] pos) (.bool (inD x ds)) :=
  de_op (pe_cmpR (op_inD hu) ha.pe hb.pe hm) fun G H v w QQ s d1 d2 k => ⟨x, ds, up s d1, up s d2, hx, hy, k _ _ G H (.refl s) (.bl _) rfl⟩
theorem dt_inL (ha : DE T X f Γ a x) (hb : DE T X f Γ b (.list ds)) (hu : X.A.units + 65 < cLine) (hx : SeqAt.shaped x = true) (hy : SeqAt.shaped (.list ds) = true) (hm : behindInMarks .In b = false := by rfl) : DT T X f Γ (.Compare a [.In] [b] pos) (inD x ds) :=
  dt_op (op_inD hu) ha hb hm fun G H v w QQ s d1 d2 k => ⟨x, ds, up s d1, up s d2, hx, hy, k _ _ G H (.refl s) (.bl _) rfl⟩
theorem dt_ninL (ha : DE T X f Γ a x) (hb : DE T X f Γ b (.list ds)) (hu : X.A.units + 65 < cLine) (hx : SeqAt.shaped x = true) (hy : SeqAt.shaped (.list ds) = true) (hm : behindInMarks .NotIn b = false := by rfl) : DT T X f Γ (.Compare a [.NotIn] [b] pos) (!inD x ds) :=
  dt_op (op_notInD hu) ha hb hm fun G H v w QQ s d1 d2 k => ⟨x, ds, up s d1, up s d2, hx, hy, k _ _ G H (.refl s) (.bl _) rfl⟩
/-! ### parts of lists and tuples -/
def cutD (xs : List D) (lo hi : Option Int) : List D := (xs.drop (HT.sIx xs.length 0 lo)).take (HT.sIx xs.length xs.length hi - HT.sIx xs.length 0 lo)
theorem dpa_drop {K : PySem.W.Frag} {G : Hp} : ∀ {vs : List V} {ds : List D} (n : Nat), DpAll K G vs ds → DpAll K G (vs.drop n) (ds.drop n)
  | _, _, 0, h => h
  | _, _, n + 1, .nil => .nil
  | _, _, n + 1, .cons _ b => dpa_drop n b
theorem dpa_take {K : PySem.W.Frag} {G : Hp} : ∀ {vs : List V} {ds : List D} (n : Nat), DpAll K G vs ds → DpAll K G (vs.take n) (ds.take n)
  | _, _, 0, h => by
    rw [List.take_zero, List.take_zero]
    exact .nil
  | _, _, n + 1, .nil => .nil
  | _, _, n + 1, .cons a b => .cons a (dpa_take n b)
theorem dpa_cut {K : PySem.W.Frag} {G : Hp} {vs : List V} {ds : List D} {lo hi : Option Int} (h : DpAll K G vs ds) : DpAll K G (cutV vs lo hi) (cutD ds lo hi) := by
  unfold cutV cutD
  rw [dpa_len h]
  exact dpa_take _ (dpa_drop _ h)
/-- an end of a part: left out, or an int -/
structure DO (T : Tb) (X : Cx) (f : Fx) (Γ : List Sl) (o : Option Expr) (v : Option Int) : Prop where
  ex : ∃ t, PO X o t ∧ ∀ σ G H (QQ : Option Int → Hp → Prop), EnvR T X.K f Γ σ G H → (∀ G' H', Stp T G H G' H' → QQ v H') → t σ H QQ
theorem do_none : DO T X f Γ none none := ⟨_, po_none, fun σ G H QQ en k => k G H (.refl en.sub)⟩
theorem do_some {i : Int} (h : DE T X f Γ e (.int i)) : DO T X f Γ (some e) (some i) := ⟨_, po_some h.pe, fun σ G H QQ en k => ⟨G, en, fun v d G' H' st dp q => by
  subst q
  cases dp
  exact ⟨i, rfl, k G' H' st⟩⟩⟩
variable {l u : Option Expr} {lo hi : Option Int}
theorem de_slL (h : DE T X f Γ e (.list ds)) (hl : DO T X f Γ l lo) (hh : DO T X f Γ u hi) : DE T X f Γ (.Subscript e (.Slice l u none p2) pos) (.list (cutD ds lo hi)) := by
  obtain ⟨t1, p1, k1⟩ := hl.ex
  obtain ⟨t2, p2, k2⟩ := hh.ex
  refine .of (pe_slice sl_list h.pe p1 p2) fun σ G H QQ en w => ⟨G, en, fun v d G1 H1 s1 dp q => k1 σ G1 H1 _ (en.step s1) fun G2 H2 s2 => k2 σ G2 H2 _ ((en.step s1).step s2) fun G3 H3 s3 => ?_⟩
  subst q
  cases dp with
  | lst sq al =>
    have s23 := s2.trans s3
    refine ⟨_, _, rfl, sq_up s3.s (Evl.ex_l s23.g sq), fun r hr => w _ _ _ _ ((s1.trans s23).trans (.new s3.s hr nt_lst)) (.lst (.of upd_same) (dpa_mono (Evl.Ex.new (s3.s.none hr)) _ _ (dpa_cut (dpa_mono s23.g _ _ al)))) rfl⟩
theorem de_slT (h : DE T X f Γ e (.tuple ds)) (hl : DO T X f Γ l lo) (hh : DO T X f Γ u hi) : DE T X f Γ (.Subscript e (.Slice l u none p2) pos) (.tuple (cutD ds lo hi)) := by
  obtain ⟨t1, p1, k1⟩ := hl.ex
  obtain ⟨t2, p2, k2⟩ := hh.ex
  refine .of (pe_slice sl_tupA h.pe p1 p2) fun σ G H QQ en w => ⟨G, en, fun v d G1 H1 s1 dp q => k1 σ G1 H1 _ (en.step s1) fun G2 H2 s2 => k2 σ G2 H2 _ ((en.step s1).step s2) fun G3 H3 s3 => ?_⟩
  subst q
  cases dp with
  | tup sq al =>
    have s23 := s2.trans s3
    refine ⟨_, _, rfl, st_up s3.s (Evl.ex_t s23.g sq), fun hw => ?_, fun hw r hr => w _ _ _ _ ((s1.trans s23).trans (.new s3.s hr nt_tup)) (.tup (.of upd_same) (dpa_mono (Evl.Ex.new (s3.s.none hr)) _ _ (dpa_cut (dpa_mono s23.g _ _ al)))) rfl⟩
    have ec : cutD ds lo hi = ds := by
      rw [dpa_len al] at hw
      unfold cutD
      rw [hw.1, hw.2, List.drop_zero, Nat.sub_zero, List.take_length]
    rw [ec] at w
    exact w _ _ _ _ (s1.trans s23) (.tup (Evl.ex_t s23.g sq) (dpa_mono s23.g _ _ al)) rfl
end
end DL
set_option Elab.async false
set_option linter.all false
set_option maxRecDepth 100000
set_option maxHeartbeats 4000000
namespace DL
open PySem PySem.Spec PyProof.Rows L2
section
variable {T : Tb} {X : Cx} {f : Fx} {Γ : List Sl} {e a b c : Expr} {pos p p1 p2 p3 pt pt2 : Pos} {rest : List Stmt} {N : List Sl → Prop} {Rt : D → Prop} {x1 x2 x3 : Str} {m k2 : Nat}
theorem wd_3 {Q1 Q2 Q3 : D → Prop} (ha : WE T X f Γ a Q1) (hb : WE T X f Γ b Q2) (hc : WE T X f Γ c Q3) (s1 : starEach [a, b, c] X.env = (false, eval a X.env) :: starEach [b, c] X.env := by rfl) (s2 : starEach [b, c] X.env = (false, eval b X.env) :: starEach [c] X.env := by rfl) (s3 : starEach [c] X.env = (false, eval c X.env) :: starEach [] X.env := by rfl) :
    WD T X f Γ [a, b, c] (fun ds => ∃ d1 d2 d3, ds = [d1, d2, d3] ∧ Q1 d1 ∧ Q2 d2 ∧ Q3 d3) :=
  wd_cons (Qr := fun ds => ∃ d2 d3, ds = [d2, d3] ∧ Q2 d2 ∧ Q3 d3) ha (wd_cons (Qr := fun ds => ∃ d3, ds = [d3] ∧ Q3 d3) hb (wd_cons (Qr := fun ds => ds = []) hc (wd_nil rfl) (fun d ds q e => ⟨d, by rw [e], q⟩) s3) (fun d ds q ⟨d3, e, q3⟩ => ⟨d, d3, by rw [e], q, q3⟩) s2) (fun d ds q ⟨d2, d3, e, q2, q3⟩ => ⟨d, d2, d3, by rw [e], q, q2, q3⟩) s1
theorem we_tup3 {Q1 Q2 Q3 : D → Prop} (ha : WE T X f Γ a Q1) (hb : WE T X f Γ b Q2) (hc : WE T X f Γ c Q3) (s1 : starEach [a, b, c] X.env = (false, eval a X.env) :: starEach [b, c] X.env := by rfl) (s2 : starEach [b, c] X.env = (false, eval b X.env) :: starEach [c] X.env := by rfl) (s3 : starEach [c] X.env = (false, eval c X.env) :: starEach [] X.env := by rfl) :
    WE T X f Γ (.Tuple [a, b, c] m pos) (fun d => ∃ d1 d2 d3, d = .tuple [d1, d2, d3] ∧ Q1 d1 ∧ Q2 d2 ∧ Q3 d3) :=
  we_tup (wd_3 ha hb hc s1 s2 s3) fun ds ⟨d1, d2, d3, e, q1, q2, q3⟩ => by
    subst e
    exact ⟨Nat.le_of_ble_eq_true rfl, d1, d2, d3, rfl, q1, q2, q3⟩
theorem unp3W {Qd : D → D → D → Prop} (n1 n2 n3 : Nat) (B : X.calm = true) (hN : X.N.Nodup) (h : WE T X f Γ e fun d => ∃ d1 d2 d3, d = .tuple [d1, d2, d3] ∧ Qd d1 d2 d3) (k : ∀ d1 d2 d3, Qd d1 d2 d3 → WSs T X f (((Γ.set n1 (.dat d1)).set n2 (.dat d2)).set n3 (.dat d3)) rest N Rt) (l1 : n1 < Γ.length := by exact Nat.le_of_ble_eq_true rfl) (l2 : n2 < Γ.length := by exact Nat.le_of_ble_eq_true rfl) (l3 : n3 < Γ.length := by exact Nat.le_of_ble_eq_true rfl)
    (h1 : X.N[n1]? = some x1 := by rfl) (h2 : X.N[n2]? = some x2 := by rfl) (h3 : X.N[n3]? = some x3 := by rfl) (c1 : Loc X.env.scope x1 := by first | exact Or.inl rfl | exact Or.inr rfl) (c2 : Loc X.env.scope x2 := by first | exact Or.inl rfl | exact Or.inr rfl) (c3 : Loc X.env.scope x3 := by first | exact Or.inl rfl | exact Or.inr rfl)
    (f1 : X.fn x1 = true ∨ X.env.scope.names.lookup x1 = some .local := by first | exact .inl rfl | exact .inr rfl) (f2 : X.fn x2 = true ∨ X.env.scope.names.lookup x2 = some .local := by first | exact .inl rfl | exact .inr rfl) (f3 : X.fn x3 = true ∨ X.env.scope.names.lookup x3 = some .local := by first | exact .inl rfl | exact .inr rfl)
    (hs : swapsWithSole [.Tuple [.Name x1 p1, .Name x2 p2, .Name x3 p3] m p] e pos.line X.env = pure false := by rfl) (hw : swappedStores [.Tuple [.Name x1 p1, .Name x2 p2, .Name x3 p3] m p] e X.env = pure none := by rfl)
    (ha : (assignEach [.Tuple [.Name x1 p1, .Name x2 p2, .Name x3 p3] m p] X.env).map (·.2) = [assign (.Tuple [.Name x1 p1, .Name x2 p2, .Name x3 p3] m p) X.env] := by rfl) :
    WSs T X f Γ (.Assign [.Tuple [.Name x1 p1, .Name x2 p2, .Name x3 p3] m p] e pos :: rest) N Rt :=
  wss_cons (N' := fun Γ' => ∃ d1 d2 d3, Qd d1 d2 d3 ∧ Γ' = ((Γ.set n1 (.dat d1)).set n2 (.dat d2)).set n3 (.dat d3)) (ws_unp (h.mono fun d ⟨d1, d2, d3, e, q⟩ => ⟨_, ⟨_, e, rfl, _, _, _, rfl, l1, l2, l3, rfl⟩, d1, d2, d3, q, rfl⟩) (wg_tup (n := 3) B (wgs_3 hN h1 c1 h2 c2 h3 c3 f1 f2 f3)) hs hw ha) fun Γ' ⟨d1, d2, d3, q, e⟩ => e ▸ k d1 d2 d3 q
end
end DL
set_option Elab.async false
set_option linter.all false
set_option maxRecDepth 100000
set_option maxHeartbeats 4000000
namespace DL
open PySem PySem.Spec PyProof.Rows L2
open PySem.W
/-! ### least and greatest of data -/
theorem minD_mem (x : D) : ∀ ds : List D, minD x ds ∈ x :: ds := fun ds => by
  unfold minD
  induction ds generalizing x with
  | nil => exact List.mem_cons_self
  | cons y ys ih =>
    show (List.foldl _ (if dataLt y x then y else x) ys) ∈ _
    rcases List.mem_cons.mp (ih (if dataLt y x then y else x)) with h | h
    · rw [h]
      split
      · exact List.mem_cons_of_mem _ List.mem_cons_self
      · exact List.mem_cons_self
    · exact List.mem_cons_of_mem _ (List.mem_cons_of_mem _ h)
theorem maxD_mem (x : D) : ∀ ds : List D, maxD x ds ∈ x :: ds := fun ds => by
  unfold maxD
  induction ds generalizing x with
  | nil => exact List.mem_cons_self
  | cons y ys ih =>
    show (List.foldl _ (if dataLt x y then y else x) ys) ∈ _
    rcases List.mem_cons.mp (ih (if dataLt x y then y else x)) with h | h
    · rw [h]
      split
      · exact List.mem_cons_of_mem _ List.mem_cons_self
      · exact List.mem_cons_self
    · exact List.mem_cons_of_mem _ (List.mem_cons_of_mem _ h)
theorem vals_get : ∀ {xs : List V} {us : List Value} {i : Nat} {u : Value}, Vals xs us → us[i]? = some u → ∃ v, xs[i]? = some v ∧ RelV v u
  | _, _, _, _, .nil, e => by simp at e
  | _, _, 0, _, .cons a _, e => by
    simp at e
    subst e
    exact ⟨_, rfl, a⟩
  | _, _, i + 1, u, .cons _ b, e => by
    obtain ⟨v, h1, h2⟩ := vals_get (i := i) (u := u) b (by simpa using e)
    exact ⟨v, by simpa using h1, h2⟩
def rBst (g : D → List D → D) (K : PySem.W.Frag) : List V → Hp → VK → Prop := fun vs H Q => ∃ (a : Addr) (xs : List V) (x : D) (ds : List D), vs = [.ref a] ∧ (SqL K H a xs ∨ SqT K H a xs) ∧ DpAll K H xs (x :: ds) ∧ AlikeAll (x :: ds) ∧ PyData.depthAll (x :: ds) ≤ 60 ∧
  ∀ (i : Nat) v, xs[i]? = some v → (x :: ds)[i]? = some (g x ds) → Q v H
section
variable {T : Tb} {X : Cx} {f : Fx} {Γ : List Sl} {a b c e : Expr} {pos p p2 q : Pos} {x d : D} {ds : List D}
theorem best_at {pins : List (Addr × Obj)} {σ : L2.St} {H : Hp} {s : Shared} {xs : List V} {its : List Value} {i : Nat} {u : Value} {z : D} {h' : Heap} {bs : List Addr} (I : Inv X pins σ H s) (dp : DpAll X.K H xs ds) (rv : Vals xs its) (hi : its[i]? = some u) (rd : Reads h' u z bs) (hk : ∀ b o, s.heap.get? b = some o → h'.get? b = some o) (hz : z ∈ ds) (al : AlikeAll ds) : ∃ v, xs[i]? = some v ∧ RelV v u ∧ ds[i]? = some z := by
  obtain ⟨v, h1, h2⟩ := vals_get rv hi
  obtain ⟨y, h3, h4⟩ := dpa_get dp h1
  obtain ⟨as, r1⟩ := Dp.reads I y v u h4 h2
  have e : y = z := alike_unique y z u _ _ (al.1 y (List.mem_of_getElem? h3) z hz) (reads_keeps hk r1) rd
  exact ⟨v, h1, h2, by rw [h3, e]⟩
theorem cr_minD (hc : X.calm = true) (hu : X.A.units + 65 < cLine) : CallR X (.builtin "min") (rBst minD X.K) := by
  intro pins s σ H vs us Q I r h
  obtain ⟨l, xs, x, ds, rfl, hs, dp, al, dl, k⟩ := h
  rw [Vals.ref1 r]
  rcases hs with hs | hs
  · obtain ⟨its, rv, hl, _⟩ := I.list hs
    obtain ⟨as, ra⟩ := Dp.readsAll I _ _ _ dp rv
    refine min_list_data (I.ok.hd hc) hl.isList (by simpa using ra) al (by omega) fun i u h' tk bs hi rd hk => ?_
    obtain ⟨v, h1, h2, h3⟩ := best_at I dp rv (by simpa using hi) rd hk (minD_mem x ds) al
    exact ⟨v, H, I.kept hk, h2, k i v h1 h3⟩
  · obtain ⟨its, rv, hl, _⟩ := I.tuple hs
    obtain ⟨as, ra⟩ := Dp.readsAll I _ _ _ dp rv
    refine min_tuple_data (I.ok.hd hc) hl (by simpa using ra) al (by omega) fun i u h' tk bs hi rd hk => ?_
    obtain ⟨v, h1, h2, h3⟩ := best_at I dp rv (by simpa using hi) rd hk (minD_mem x ds) al
    exact ⟨v, H, I.kept hk, h2, k i v h1 h3⟩
theorem cr_maxD (hc : X.calm = true) (hu : X.A.units + 65 < cLine) : CallR X (.builtin "max") (rBst maxD X.K) := by
  intro pins s σ H vs us Q I r h
  obtain ⟨l, xs, x, ds, rfl, hs, dp, al, dl, k⟩ := h
  rw [Vals.ref1 r]
  rcases hs with hs | hs
  · obtain ⟨its, rv, hl, _⟩ := I.list hs
    obtain ⟨as, ra⟩ := Dp.readsAll I _ _ _ dp rv
    refine max_list_data (I.ok.hd hc) hl.isList (by simpa using ra) al (by omega) fun i u h' tk bs hi rd hk => ?_
    obtain ⟨v, h1, h2, h3⟩ := best_at I dp rv (by simpa using hi) rd hk (maxD_mem x ds) al
    exact ⟨v, H, I.kept hk, h2, k i v h1 h3⟩
  · obtain ⟨its, rv, hl, _⟩ := I.tuple hs
    obtain ⟨as, ra⟩ := Dp.readsAll I _ _ _ dp rv
    refine max_tuple_data (I.ok.hd hc) hl (by simpa using ra) al (by omega) fun i u h' tk bs hi rd hk => ?_
    obtain ⟨v, h1, h2, h3⟩ := best_at I dp rv (by simpa using hi) rd hk (maxD_mem x ds) al
    exact ⟨v, H, I.kept hk, h2, k i v h1 h3⟩
theorem dpa_up {G H : Hp} {K : PySem.W.Frag} {vs : List V} (s : Sub G H) (h : DpAll K G vs ds) : DpAll K H vs ds := dpa_mono (fun b o h => (s b o h).1) _ _ h
theorem de_min (B : X.calm = true) (h : DE T X f Γ e d) (hd : d = .list (x :: ds) ∨ d = .tuple (x :: ds)) (al : AlikeAll (x :: ds)) (dl : PyData.depthAll (x :: ds) ≤ 60) (hu : X.A.units + 65 < cLine) (hm : X.mg "min" = none) (hg : Gl X "min" := by rfl) (hs : Sta X e := by rfl) : DE T X f Γ (.Call (.Name "min" p) [e] [] pos) (minD x ds) :=
  de_cb (pe_callB (cr_minD B hu) hg hm (by decide +kernel) (da_cons h da_nil hs) (by decide) (by decide) hs bpl) fun G H vs QQ s dp k => by
    obtain ⟨v, rfl, dq⟩ := dpa_1 dp
    rcases hd with rfl | rfl
    · cases dq with
      | lst sq al2 =>
        refine ⟨_, _, x, ds, rfl, .inl (sq_up s sq), dpa_up s al2, al, dl, fun i v hi hx => ?_⟩
        obtain ⟨d', e1, e2⟩ := dpa_get al2 hi
        rw [hx] at e1
        cases e1
        exact k _ _ G H (.refl s) e2 rfl
    · cases dq with
      | tup sq al2 =>
        refine ⟨_, _, x, ds, rfl, .inr (st_up s sq), dpa_up s al2, al, dl, fun i v hi hx => ?_⟩
        obtain ⟨d', e1, e2⟩ := dpa_get al2 hi
        rw [hx] at e1
        cases e1
        exact k _ _ G H (.refl s) e2 rfl
theorem de_max (B : X.calm = true) (h : DE T X f Γ e d) (hd : d = .list (x :: ds) ∨ d = .tuple (x :: ds)) (al : AlikeAll (x :: ds)) (dl : PyData.depthAll (x :: ds) ≤ 60) (hu : X.A.units + 65 < cLine) (hm : X.mg "max" = none) (hg : Gl X "max" := by rfl) (hs : Sta X e := by rfl) : DE T X f Γ (.Call (.Name "max" p) [e] [] pos) (maxD x ds) :=
  de_cb (pe_callB (cr_maxD B hu) hg hm (by decide +kernel) (da_cons h da_nil hs) (by decide) (by decide) hs bpl) fun G H vs QQ s dp k => by
    obtain ⟨v, rfl, dq⟩ := dpa_1 dp
    rcases hd with rfl | rfl
    · cases dq with
      | lst sq al2 =>
        refine ⟨_, _, x, ds, rfl, .inl (sq_up s sq), dpa_up s al2, al, dl, fun i v hi hx => ?_⟩
        obtain ⟨d', e1, e2⟩ := dpa_get al2 hi
        rw [hx] at e1
        cases e1
        exact k _ _ G H (.refl s) e2 rfl
    · cases dq with
      | tup sq al2 =>
        refine ⟨_, _, x, ds, rfl, .inr (st_up s sq), dpa_up s al2, al, dl, fun i v hi hx => ?_⟩
        obtain ⟨d', e1, e2⟩ := dpa_get al2 hi
        rw [hx] at e1
        cases e1
        exact k _ _ G H (.refl s) e2 rfl
end
end DL
set_option Elab.async false
set_option linter.all false
set_option maxRecDepth 100000
set_option maxHeartbeats 4000000
namespace DL
open PySem PySem.Spec PyProof.Rows L2
open PySem.W (dataLe AllAlike Sortable EachIs)
section
variable {T : Tb} {X : Cx} {f : Fx} {Γ : List Sl} {a b c e o : Expr} {pos p p2 q : Pos} {x d : D} {ds : List D}
/-! ### sorted(xs), xs data -/
theorem each_vals {β : Type} {P : V → β → Prop} : ∀ {xs : List V} {us : List Value} {bs : List β}, EachIs P xs bs → Vals xs us → EachIs (fun u b => ∃ v, P v b ∧ RelV v u) us bs
  | _, _, _, .nil, .nil => .nil
  | _, _, _, .cons a r, .cons a' r' => .cons ⟨_, a, a'⟩ (each_vals r r')
theorem vals_each {β : Type} {P : V → β → Prop} : ∀ {us : List Value} {bs : List β}, EachIs (fun u b => ∃ v, P v b ∧ RelV v u) us bs → ∃ ys, Vals ys us ∧ EachIs P ys bs
  | _, _, .nil => ⟨[], .nil, .nil⟩
  | _, _, .cons ⟨v, h1, h2⟩ r => by
    obtain ⟨ys, k1, k2⟩ := vals_each r
    exact ⟨v :: ys, .cons h2 k1, .cons h1 k2⟩
def rSrtD {β : Type} (enc : β → D) (bs : List β) (K : PySem.W.Frag) : List V → Hp → VK → Prop := fun vs H Q => ∃ (l : Addr) (xs : List V) (P : V → β → Prop), vs = [.ref l] ∧ SqL K H l xs ∧ EachIs P xs bs ∧ (∀ v b, P v b → Dp K H v (enc b)) ∧
  ∀ r ys, H r = none → EachIs P ys (bs.mergeSort (dataLe false enc)) → Q (.ref r) (upd H r (.lst ys))
theorem cr_sortedD {β : Type} {enc : β → D} {bs : List β} (hal : AllAlike (bs.map enc)) (hk : Sortable (bs.map enc)) (hL : bs.length ≤ 100000) (hd : ∀ b ∈ bs, (enc b).depth ≤ 60) (hu : X.A.units + 65 < cLine) : CallR X (.builtin "sorted") (rSrtD enc bs X.K) := by
  intro pins s σ H vs us Q I r h
  obtain ⟨l, xs, P, rfl, hs, ep, hp, k⟩ := h
  rw [Vals.ref1 r]
  obtain ⟨its, rv, hl, hz⟩ := I.list hs
  have e1 := each_vals ep rv
  have e2 : EachIs (fun v b => ∃ as, Reads s.heap v (enc b) as) its bs := e1.mono fun u b ⟨v, h1, h2⟩ => Dp.reads I _ v u (hp v b h1) h2
  have hL' : bs.length ≤ sizeLine := by rw [sizeLine_eq]; omega
  refine PySem.W.sorted_data hl.isList e1 e2 hal hk hL' (fun b hb => by have := hd b hb; omega) fun out ho eo => ?_
  obtain ⟨ys, k1, k2⟩ := vals_each eo
  obtain ⟨ep, he'⟩ := PyProof.Rows.sortedAll_at s.heap its out.toArray
  refine ⟨.ref _, upd H (s.heap.objs.size + 1) (.lst ys), I.laid (t' := s.toks) (fun _ _ => PyProof.Rows.sortedAll_old) (Nat.le_succ _) ⟨?_, out, ep, k1, he'⟩, rfl, k _ ys (I.hok.fresh (Nat.le_succ _)) k2⟩
  rw [k1.length, ho]
  exact hL'
theorem each_dp {β : Type} {K : PySem.W.Frag} {G : Hp} {enc : β → D} : ∀ {xs : List V} {bs : List β}, DpAll K G xs (bs.map enc) → EachIs (fun v b => Dp K G v (enc b)) xs bs
  | _, [], .nil => .nil
  | _, _ :: _, .cons a r => .cons a (each_dp r)
theorem dp_each {β : Type} {K : PySem.W.Frag} {G : Hp} {enc : β → D} : ∀ {xs : List V} {bs : List β}, EachIs (fun v b => Dp K G v (enc b)) xs bs → DpAll K G xs (bs.map enc)
  | _, [], .nil => .nil
  | _, _ :: _, .cons a r => .cons a (dp_each r)
theorem de_sortedD {β : Type} {enc : β → D} {bs : List β} (h : DE T X f Γ e (.list (bs.map enc))) (hal : AllAlike (bs.map enc)) (hk : Sortable (bs.map enc)) (hL : bs.length ≤ 100000) (hd : ∀ b ∈ bs, (enc b).depth ≤ 60) (hu : X.A.units + 65 < cLine) (hm : X.mg "sorted" = none) (hg : Gl X "sorted" := by rfl) (hs : Sta X e := by rfl) :
    DE T X f Γ (.Call (.Name "sorted" p) [e] [] pos) (.list ((bs.mergeSort (dataLe false enc)).map enc)) :=
  de_cb (pe_callB (cr_sortedD hal hk hL hd hu) hg hm (by decide +kernel) (da_cons h da_nil hs) (by decide) (by decide) hs bpl) fun G H vs QQ s dp k => by
    obtain ⟨v, rfl, dq⟩ := dpa_1 dp
    cases dq with
    | lst sq al =>
      refine ⟨_, _, fun v b => Dp X.K G v (enc b), rfl, sq_up s sq, each_dp al, fun v b h => up s h, fun r ys hr ey => k _ _ _ _ (.new s hr nt_lst) (.lst (.of upd_same) (dpa_mono (Evl.Ex.new (s.none hr)) _ _ (dp_each ey))) rfl⟩
/-! ### xs.count(y) -/
theorem count_eqU {x : V} : ∀ {xs : List V} {us : List Value}, Vals xs us → xs.all flatV = true → us.countP (eqU x) = xs.countP fun y => eqV y x
  | _, _, .nil, _ => rfl
  | _, _, .cons (a := y) (l₁ := ys) a r, h => by
    have h2 : (flatV y && ys.all flatV) = true := h
    rw [Bool.and_eq_true] at h2
    rw [List.countP_cons, List.countP_cons, count_eqU r h2.2, eqU_of a h2.1]
def rCntF (K : PySem.W.Frag) : V → List V → Hp → VK → Prop := fun x xs H Q => ∃ (l : Addr) (ys : List V) (y : V), x = .ref l ∧ xs = [y] ∧ SqL K H l ys ∧ flatV y = true ∧ ys.all flatV = true ∧ Q (.int ((ys.countP fun z => eqV z y : Nat) : Int)) H
theorem vals_mem : ∀ {xs : List V} {us : List Value} {u : Value}, Vals xs us → u ∈ us → ∃ v ∈ xs, RelV v u
  | _, _, _, .nil, h => by cases h
  | _, _, u, .cons a r, h => by
    rcases List.mem_cons.mp h with rfl | h
    · exact ⟨_, List.mem_cons_self, a⟩
    · obtain ⟨v, h1, h2⟩ := vals_mem r h
      exact ⟨v, List.mem_cons_of_mem _ h1, h2⟩
theorem mt_countF : MtR X "list.count" (rCntF X.K) := by
  intro pins s σ H x xs v us Q I rx rxs ⟨l, ys, y, e1, e2, hs, fy, fa, k⟩
  subst e1 e2
  cases rx
  obtain ⟨u, rfl, ru⟩ := rxs.one
  obtain ⟨its, rv, ⟨⟨cls, dd, data, sl⟩, n, ho, hc, hdn, hd⟩, hlen⟩ := I.list hs
  simp only at hc hd
  subst hc hd
  refine call_meets PySem.F.slot_list_count ⟨_, ho, rfl⟩ PySem.F.entry_list_count (PySem.F.args_list_count_2 _ _) (SeqAt.list_countAt l its.toArray n dd sl u (eqU y)) ⟨ho, fun z hz => ?_, ?_⟩
  · obtain ⟨w, hw, rw'⟩ := vals_mem rv (show z ∈ its by simpa using hz)
    have fw := List.all_eq_true.mp fa w hw
    have q := eqAt_V (A := X.A.in1) (s := s) rw' ru fw fy
    rw [← eqU_of rw' fw] at q
    exact q
  · refine ⟨.int _, H, I.tok _, ⟨s.toks, ?_⟩, k⟩
    show Value.int ((its.toArray.toList.countP (eqU y) : Nat) : Int) s.toks = Value.int ((ys.countP (fun z => eqV z y) : Nat) : Int) s.toks
    rw [List.toList_toArray, count_eqU rv fa]
def sL (ss : List Str) : List D := ss.map .str
theorem dpa_sL {K : PySem.W.Frag} {G : Hp} : ∀ {ss : List Str} {vs : List V}, DpAll K G vs (sL ss) → vs = ss.map V.str
  | [], _, .nil => rfl
  | n :: ns, _, .cons a b => by
    cases a
    rw [dpa_sL (ss := ns) b]
    rfl
theorem sL_dpa {K : PySem.W.Frag} {G : Hp} : ∀ (ss : List Str), DpAll K G (ss.map V.str) (sL ss)
  | [] => .nil
  | n :: ns => .cons (.str n) (sL_dpa ns)
theorem de_countS {ss : List Str} {k : Str} {apos cpos : Pos} (h : DE T X f Γ o (.list (sL ss))) (hk : DE T X f Γ e (.str k))
    (hbase : attributeBase o "count" X.env (eval o X.env) = eval o X.env := by rfl) (hfew : Few X cpos e := by rfl) (hline : (apos.endLine == cpos.line) = true := by rfl) (hs : Sta X e := by rfl) :
    DE T X f Γ (.Call (.Attribute o "count" apos) [e] [] cpos) (.int ((ss.countP fun z => z == k : Nat) : Int)) :=
  .of (pe_bm PySem.F.plainAttrs_list PySem.F.slot_list_count PySem.F.type_list_count mt_countF h.pe (pa_cons hk.pe pa_nil hs) hbase hfew hline hs bpl) fun σ G H QQ en w => ⟨G, en, fun v d G' H' st dp q => by
    subst q
    cases dp with
    | lst sq al =>
      have e := dpa_sL al
      subst e
      refine ⟨.inl ⟨rfl, _, sq_up st.s sq⟩, G', en.step st, fun v2 d2 G2 H2 st2 dp2 q2 => ?_⟩
      subst q2
      cases dp2
      refine ⟨_, _, .str k, rfl, rfl, sq_up st2.s (Evl.ex_l st2.g sq), rfl, ?_, ?_⟩
      · rw [List.all_map]
        exact List.all_eq_true.mpr fun _ _ => rfl
      · rw [List.countP_map]
        exact w _ _ G2 H2 (st.trans st2) (.int _) rfl⟩
theorem de_countI {ns : List Int} {k : Int} {apos cpos : Pos} (h : DE T X f Γ o (.list (iL ns))) (hk : DE T X f Γ e (.int k))
    (hbase : attributeBase o "count" X.env (eval o X.env) = eval o X.env := by rfl) (hfew : Few X cpos e := by rfl) (hline : (apos.endLine == cpos.line) = true := by rfl) (hs : Sta X e := by rfl) :
    DE T X f Γ (.Call (.Attribute o "count" apos) [e] [] cpos) (.int ((ns.countP fun z => z == k : Nat) : Int)) :=
  .of (pe_bm PySem.F.plainAttrs_list PySem.F.slot_list_count PySem.F.type_list_count mt_countF h.pe (pa_cons hk.pe pa_nil hs) hbase hfew hline hs bpl) fun σ G H QQ en w => ⟨G, en, fun v d G' H' st dp q => by
    subst q
    cases dp with
    | lst sq al =>
      have e := dpa_iL al
      subst e
      refine ⟨.inl ⟨rfl, _, sq_up st.s sq⟩, G', en.step st, fun v2 d2 G2 H2 st2 dp2 q2 => ?_⟩
      subst q2
      cases dp2
      refine ⟨_, _, .int k, rfl, rfl, sq_up st2.s (Evl.ex_l st2.g sq), rfl, ?_, ?_⟩
      · rw [List.all_map]
        exact List.all_eq_true.mpr fun _ _ => rfl
      · rw [List.countP_map]
        exact w _ _ G2 H2 (st.trans st2) (.int _) rfl⟩
/-! ### a, b, c = x, y, z; the middle one a list of one's own -/
variable {rest : List Stmt} {N : List Sl → Prop} {Rt : D → Prop}
theorem wss_par3o {i j l : Nat} {x y z : Str} {d1 d3 : D} {es : List Expr} {bp px py pz pt pt2 : Pos} {kt k2 : Nat} (B : X.calm = true) (hN : X.N.Nodup) (ha : DE T X f Γ a d1) (hb : DA T X f Γ es ds) (hds : ds.length ≤ 1000) (hc : DE T X f Γ c d3) (k : WSs T X f (((Γ.set i (.dat d1)).set j (.own ds)).set l (.dat d3)) rest N Rt)
    (hij : i ≠ j) (hil : i ≠ l) (hjl : j ≠ l) (li : i < Γ.length) (lj : j < Γ.length) (ll : l < Γ.length) (hi : X.N[i]? = some x := by rfl) (hj : X.N[j]? = some y := by rfl) (hl : X.N[l]? = some z := by rfl) (hx : X.env.scope.names.lookup x = some .local := by rfl) (hy : X.env.scope.names.lookup y = some .local := by rfl) (hz : X.env.scope.names.lookup z = some .local := by rfl)
    (hw : swappedStores [.Tuple [.Name x px, .Name y py, .Name z pz] kt pt] (.Tuple [a, .List es bp, c] k2 pt2) X.env = pure (some [x, y, z]) := by rfl)
    (hs : swapsWithSole [.Tuple [.Name x px, .Name y py, .Name z pz] kt pt] (.Tuple [a, .List es bp, c] k2 pt2) pos.line X.env = pure false := by rfl) (s1 : starEach [a, .List es bp, c] X.env = (false, eval a X.env) :: starEach [.List es bp, c] X.env := by rfl) (s2 : starEach [.List es bp, c] X.env = (false, eval (.List es bp) X.env) :: starEach [c] X.env := by rfl) (s3 : starEach [c] X.env = (false, eval c X.env) :: starEach [] X.env := by rfl) :
    WSs T X f Γ (.Assign [.Tuple [.Name x px, .Name y py, .Name z pz] kt pt] (.Tuple [a, .List es bp, c] k2 pt2) pos :: rest) N Rt :=
  wss_cons (N' := fun Γ' => Γ' = ((Γ.set i (.dat d1)).set j (.own ds)).set l (.dat d3)) (.of (ps_par3 B hN hi hj hl hij hil hjl hx hy hz (pa_cons ha.pe (pa_cons (pe_lst hb) (pa_cons hc.pe pa_nil s3) s2) s1) hw hs) fun σ G H E en w => ⟨G, en, fun v1 e1 G1 H1 t1 p1 q1 => by
    rw [q1] at p1
    refine ⟨G1, en.step t1, fun vs es G2 H2 t2 p2 q2 => ?_⟩
    rw [q2] at p2
    refine ⟨by rw [dpa_len p2]; exact small (by omega), fun r hr => ?_⟩
    have t3 : Stp T G2 H2 G2 (upd H2 r (.lst vs)) := .keep t2.s (.new hr)
    refine ⟨G2, ((en.step t1).step t2).step t3, fun v3 e3 G3 H3 t4 p3 q3 => ?_⟩
    rw [q3] at p3
    have g2 : G2 r = none := t2.s.none hr
    have h0 : Fr f.H0 r := (en.st.trans (t1.trans t2)).le.fr (fr_none hr)
    have en3 := (((en.step t1).step t2).step t3).step t4
    refine ⟨_, _, _, rfl, w.nx _ _ G3 H3 (((en3.set (s := .dat d1) ⟨v1, rfl, dp_mono (t2.g.trans t4.g) _ _ p1⟩ li).set (s := .own _) ⟨r, vs, rfl, t4.n r _ g2 upd_same nt_lst, h0, t4.le.h _ _ upd_same nt_lst, dpa_mono t4.g _ _ p2⟩ (by rw [List.length_set]; exact lj)).set (s := .dat d3) ⟨v3, rfl, p3⟩ (by rw [List.length_set, List.length_set]; exact ll)) ((t1.g.trans t2.g).trans t4.g) rfl⟩⟩) fun _ e => e ▸ k
end
end DL
set_option Elab.async false
set_option linter.all false
set_option maxRecDepth 100000
set_option maxHeartbeats 4000000
namespace DL
open PySem PySem.Spec PyProof.Rows L2
section
variable {T : Tb} {X : Cx} {f : Fx} {Γ : List Sl} {pos : Pos}
theorem lc_rd {elt tg iter : Expr} {ifs : List Expr} {scope : Scope} {own : List (Str × Nat)} {ds : List D} {ns : List Nat} {Tg : D → List Sl → List Sl → Prop} {gd : D → Bool} {vd : D → D} {k : Nat} (B : Bd T X f k) (hN : X.N.Nodup)
    (hi : WI T X f Γ tg iter (fun z => z = ds)) (ok : BlkOk X.N X.env.scope scope own) (hn : ∀ i ∈ ns, i ∈ own.map (·.2)) (hg : ∀ s H C cl fp, WG T (Cx.bk X scope s H C cl fp) f.no tg ns Tg)
    (hd : ∀ (i : Nat) (d : D), ds[i]? = some d → ∃ Γ1, Tg d (wipeG Γ (own.map (·.2))) Γ1 ∧ (∀ s H C cl fp, WTs T (Cx.bk X scope s H C cl fp) f.no Γ1 ifs (gd d)) ∧ (gd d = true → ∀ s H C cl fp, DE T (Cx.bk X scope s H C cl fp) f.no Γ1 elt (vd d)))
    (hz : ds.length ≤ 90000) : ∃ (wi : TI) (g : TG) (tt : TT) (te : TE), PI X tg iter wi ∧ (∀ s H C cl fp, PG (Cx.bk X scope s H C cl fp) tg g) ∧ (∀ s H C cl fp, PTs (Cx.bk X scope s H C cl fp) ifs tt) ∧ (∀ s H C cl fp, PE (Cx.bk X scope s H C cl fp) elt te) ∧
    ∀ σ G H QQ, EnvR T X.K f Γ σ G H → Wnt T X G H (fun z => z = .list ((ds.filter gd).map vd)) QQ → tLc wi g tt te (own.map (·.2)) σ H QQ := by
  obtain ⟨wi, p, kw⟩ := hi
  refine ⟨wi, fun v σ H Q => ∀ s H' C cl fp, ∃ g, PG (Cx.bk X scope s H' C cl fp) tg g ∧ g v σ H Q, fun σ H QQ => ∃ Γ1 b, (∀ s H' C cl fp, WTs T (Cx.bk X scope s H' C cl fp) f.no Γ1 ifs b) ∧ rdT T X f.no Γ1 (fun z => z = b) σ H QQ,
    fun σ H QQ => ∃ Γ1 d, (∀ s H' C cl fp, DE T (Cx.bk X scope s H' C cl fp) f.no Γ1 elt d) ∧ rd T X f.no Γ1 (fun z => z = d) σ H QQ, p,
    fun s H C cl fp => ⟨fun pins s' σ H' v u Q I r h => ?_⟩, fun s H C cl fp => ⟨fun pins s' σ H' Q I h => ?_⟩, fun s H C cl fp => ⟨fun pins s' σ H' Q I h => ?_⟩, fun σ G H QQ en w => kw σ G H _ en fun J ds' G1 H1 st1 it e => ?_⟩
  · obtain ⟨g, pg, hq⟩ := h s H C cl fp
    exact pg.run pins s' σ H' v u Q I r hq
  · obtain ⟨Γ1, b, h1, h2⟩ := h
    exact (h1 s H C cl fp).run pins s' σ H' Q I h2
  · obtain ⟨Γ1, d, h1, h2⟩ := h
    exact (h1 s H C cl fp).pe.run pins s' σ H' Q I h2
  · subst e
    intro q hq
    have en1 := en.step st1
    refine ⟨fun i m H' => m = ds'.length - i ∧ i ≤ ds'.length ∧ ∃ G' acc, Stp T G1 H1 G' H' ∧ G' q = none ∧ H' q = some (.lst acc) ∧ DpAll X.K G' acc (((ds'.take i).filter gd).map vd), ⟨ds'.length, by simp, Nat.zero_le _, G1, [], ?_, st1.s.none hq, upd_same, ?_⟩, ?_⟩
    · exact .keep st1.s (.new hq)
    · rw [List.take_zero]
      exact .nil
    · rintro i m H' ⟨rfl, hi, G', acc, st', g0, h0, al⟩
      obtain ⟨i1, i2⟩ := it i G' H' st'.g st'.s
      by_cases hlt : i < ds'.length
      · have e0 := List.getElem?_eq_getElem hlt
        obtain ⟨go, yl⟩ := i1 _ e0
        obtain ⟨Γ1, t1, ht, he⟩ := hd i _ e0
        have tk : ds'.take (i + 1) = ds'.take i ++ [ds'[i]] := by
          rw [List.take_succ, e0]
          rfl
        refine .inr ⟨go, fun H2 => ∃ G2 acc2, Stp T G1 H1 G2 H2 ∧ G2 q = none ∧ H2 q = some (.lst acc2) ∧ DpAll X.K G2 acc2 (((ds'.take (i + 1)).filter gd).map vd), fun H2 ⟨G2, acc2, a1, a2, a3, a4⟩ => ⟨_, by omega, rfl, hlt, G2, acc2, a1, a2, a3, a4⟩, fun x H2 y s5 H5 C5 cl5 fp5 => ?_⟩
        obtain ⟨e, dp⟩ := yl x H2 y
        subst e
        obtain ⟨g, pg, kg⟩ := hg s5 H5 C5 cl5 fp5
        have enw := (env_wipe (en1.step st') (own.map (·.2))).no
        refine ⟨g, pg, kg x _ _ G' _ _ Γ1 _ enw dp t1 fun σ2 en2 q2 l2 => ⟨wipe_same hn ?_ q2, Γ1, gd ds'[i], ht, G', en2, fun b G3 H3 s3 eb => ?_⟩⟩
        · rw [l2, wipe_length]
        · subst eb
          cases hb : gd ds'[i] with
          | true =>
            refine ⟨Γ1, vd ds'[i], he hb, G3, en2.step s3, fun v d G4 H4 s4 dp4 e4 => ?_⟩
            subst e4
            have s34 := s3.trans s4
            have h4 := s34.le.h _ _ h0 nt_lst
            have g4 := s34.n q _ g0 h0 nt_lst
            refine ⟨acc, h4, Evl.sz_lt ?_, G4, acc ++ [v], (st'.trans s34).mut (fr_none hq) h4 g4, g4, upd_same, ?_⟩
            · rw [dpa_len al, List.length_map]
              have := List.length_filter_le gd (ds'.take i)
              rw [List.length_take] at this
              omega
            · rw [tk, List.filter_append, List.map_append, List.filter_cons, if_pos hb]
              exact dpa_app (dpa_mono s34.g _ _ al) (.cons dp4 .nil)
          | false =>
            refine ⟨G3, acc, st'.trans s3, s3.n q _ g0 h0 nt_lst, s3.le.h _ _ h0 nt_lst, ?_⟩
            rw [tk, List.filter_append, List.map_append, List.filter_cons, if_neg (by rw [hb]; decide)]
            rw [List.filter_nil, List.map_nil, List.append_nil]
            exact dpa_mono s3.g _ _ al
      · have e : i = ds'.length := by omega
        subst e
        refine .inl ⟨i2 (Nat.le_refl _), ?_⟩
        rw [List.take_length] at al
        have gx : Evl.Ex G' (upd G' q (.lst acc)) := Evl.Ex.new g0
        have st2 : Stp T G1 H1 (upd G' q (.lst acc)) H' := by
          refine ⟨st'.le, st'.g.trans gx, fun b o e => ?_, fun b o h1 h2 h3 => ?_⟩
          · by_cases hb : b = q
            · subst hb
              rw [upd_same] at e
              cases e
              exact ⟨h0, nt_lst⟩
            · rw [upd_ne hb] at e
              exact st'.s b o e
          · rw [upd_ne (ne_of_none h2 hq)]
            exact st'.n b o h1 h2 h3
        exact w _ _ _ _ (st1.trans st2) (.lst (.of upd_same) (dpa_mono gx _ _ al)) rfl
/-- y = [..], y a plain local -/
theorem wss_lc {n : Nat} {y : Str} {py spos : Pos} {rest : List Stmt} {N : List Sl → Prop} {Rt : D → Prop} {elt tg iter : Expr} {ifs : List Expr} {scope : Scope} {own : List (Str × Nat)} {ds : List D} {ns : List Nat} {Tg : D → List Sl → List Sl → Prop} {gd : D → Bool} {vd : D → D} {k : Nat} (B : Bd T X f k) (hN : X.N.Nodup)
    (hi : WI T X f Γ tg iter (fun z => z = ds)) (ok : BlkOk X.N X.env.scope scope own) (hn : ∀ i ∈ ns, i ∈ own.map (·.2)) (hg : ∀ s H C cl fp, WG T (Cx.bk X scope s H C cl fp) f.no tg ns Tg)
    (hd : ∀ (i : Nat) (d : D), ds[i]? = some d → ∃ Γ1, Tg d (wipeG Γ (own.map (·.2))) Γ1 ∧ (∀ s H C cl fp, WTs T (Cx.bk X scope s H C cl fp) f.no Γ1 ifs (gd d)) ∧ (gd d = true → ∀ s H C cl fp, DE T (Cx.bk X scope s H C cl fp) f.no Γ1 elt (vd d)))
    (hz : ds.length ≤ 90000) (hl : n < Γ.length) (kk : WSs T X f (Γ.set n (.dat (.list ((ds.filter gd).map vd)))) rest N Rt) (hy : X.N[n]? = some y := by rfl) (hyl : X.env.scope.names.lookup y = some .local := by rfl)
    (hsw : swapsWith (.ListComp elt [⟨tg, iter, ifs, 0⟩] scope pos) (some (.Name y py)) spos.line X.env = pure true := by exact sw_true rfl rfl rfl (by decide +kernel)) (hs : ∀ x, foldedSetIterable iter X.env x = pure x := by intro _; rfl) :
    WSs T X f Γ (.Assign [.Name y py] (.ListComp elt [⟨tg, iter, ifs, 0⟩] scope pos) spos :: rest) N Rt := by
  obtain ⟨wi, g, tt, te, p1, p2, p3, p4, rd⟩ := lc_rd B hN hi ok hn hg hd hz
  refine wss_cons (N' := fun Γ' => Γ' = Γ.set n (.dat (.list ((ds.filter gd).map vd)))) (.of (ps_setLc B.calm hN hy hyl hsw p1 ok p2 p3 p4 hs) fun σ G H E en w => rd σ G H _ en fun v d G' H' st dp q => ?_) fun _ e => e ▸ kk
  subst q
  exact w.nx _ _ G' H' ((en.step st).set (s := .dat _) ⟨v, rfl, dp⟩ hl) st.g rfl
end
end DL
set_option Elab.async false
set_option linter.all false
set_option maxRecDepth 100000
set_option maxHeartbeats 4000000
namespace DL
open PySem PySem.Spec PyProof.Rows L2
section
variable {T : Tb} {X : Cx} {f : Fx} {Γ : List Sl} {a b c e o : Expr} {pos p p2 q : Pos} {x d : D} {ds : List D}
/-! ### len(set(xs)), xs a list of tuples of ints -/
def rLenSetT (P : Program) (w : World) : List V → Hp → VK → Prop := fun vs H Q => ∃ (t : Addr) (L : List (Addr × List Int)), vs = [.ref t] ∧ H t = some (SetTO P w t L) ∧ ((L.map (·.2)).Nodup → Q (.int (L.length : Nat)) H)
theorem cr_lenSetT : CallR X (.builtin "len") (rLenSetT X.prog X.w) := by
  intro pins s σ H vs us Q I r h
  obtain ⟨t, L, rfl, hs, qq⟩ := h
  rw [Vals.ref1 r]
  have R0 : SetT0 X.prog X.w s.heap t L := (I.hok t _ hs).1
  obtain ⟨es, ep, tt, ⟨o, ho, hx, hd⟩, h2, h3, h4, h5, h6, h7, h8⟩ := R0.ex
  have hsz : es.size = L.length := by
    have z := congrArg List.length h2
    unfold rowsOf at z
    rw [Array.length_toList, List.length_map] at z
    exact z
  have hf : tt.fits es.size = true := by
    have z : tt.place.size = L.length := by
      have := h3.sz
      rw [List.length_map] at this
      exact this
    have dm := h3.dm
    unfold SetTable.fits
    refine (Bool.and_eq_true _ _).mpr ⟨beq_iff_eq.mpr (z.trans hsz.symm), decide_eq_true ?_⟩
    unfold SetTable.fill
    rw [dm, z]
    show L.length + 0 ≤ tt.mask
    omega
  refine call_len_set ho hx hd hf (by omega) ⟨.int (L.length : Nat), H, I.tok _, ⟨_, by rw [hsz]⟩, qq h4⟩
/-- tuples of ints as data -/
def tiL (kss : List (List Int)) : List D := kss.map fun k => .tuple (iL k)
theorem tiL_split {K : PySem.W.Frag} {G : Hp} : ∀ {vs : List V} {kss : List (List Int)}, DpAll K G vs (tiL kss) → ∃ ks : List (Addr × List Int), vs = ks.map (fun p => V.ref p.1) ∧ kss = ks.map (·.2) ∧ ∀ p ∈ ks, SqT K G p.1 (p.2.map V.int)
  | _, [], .nil => ⟨[], rfl, rfl, fun p h => by cases h⟩
  | _, k :: kss, .cons a r => by
    obtain ⟨ks, h1, h2, h3⟩ := tiL_split r
    cases a with
    | tup sq al =>
      have e := dpa_iL al
      subst e
      refine ⟨(_, k) :: ks, by rw [h1]; rfl, by rw [h2]; rfl, fun p hp => ?_⟩
      rcases List.mem_cons.mp hp with rfl | hp
      · exact sq
      · exact h3 p hp
theorem nodup_len {α : Type} [DecidableEq α] : ∀ (l m : List α), l.Nodup → (∀ x ∈ l, x ∈ m) → l.length ≤ m.length
  | [], m, _, _ => Nat.zero_le _
  | x :: l, m, h, hs => by
    obtain ⟨h1, h2⟩ := List.nodup_cons.mp h
    have hx := hs x List.mem_cons_self
    have ih := nodup_len l (m.erase x) h2 fun y hy => (List.mem_erase_of_ne (fun (z : y = x) => h1 (by rw [← z]; exact hy))).mpr (hs y (List.mem_cons_of_mem _ hy))
    rw [List.length_erase_of_mem hx] at ih
    have := List.length_pos_of_mem hx
    rw [List.length_cons]
    omega
theorem de_lenSetTs {kss : List (List Int)} (B : X.calm = true) (h : DE T X f Γ e (.list (tiL kss))) (hnd : kss.Nodup) (hl : kss.length < 64) (hu : X.A.units + 64 < cLine) (hm : X.mg "len" = none) (hm2 : X.mg "set" = none) (hg : Gl X "len" := by rfl) (hg2 : Gl X "set" := by rfl) (hs : Sta X e := by rfl) (hs2 : Sta X (.Call (.Name "set" p2) [e] [] q) := by rfl) :
    DE T X f Γ (.Call (.Name "len" p) [.Call (.Name "set" p2) [e] [] q] [] pos) (.int (kss.length : Nat)) :=
  .of (pe_callB cr_lenSetT hg hm (by decide +kernel) (pa_cons (pe_callTy (cr_setOfT B hu) hg2 hm2 (by decide +kernel) (da_cons h da_nil hs) (by decide) (by decide) hs bpl) pa_nil hs2) (by decide) (by decide) hs2 bpl) fun σ G H QQ en w => ⟨G, en, fun vs ds G' H' st dp qd => by
    subst qd
    obtain ⟨v, rfl, dq⟩ := dpa_1 dp
    cases dq with
    | lst sq al =>
      obtain ⟨ks, e1, e2, e3⟩ := tiL_split al
      subst e1 e2
      rw [List.length_map] at hl
      refine ⟨_, ks, rfl, sq_up st.s sq, fun p hp => st_up st.s (e3 p hp), hl, fun r L hr h1 h2 => ⟨r, L, rfl, upd_same, fun nd => ?_⟩⟩
      have el : L.length = ks.length := by
        have l1 := nodup_len (L.map (·.2)) (ks.map (·.2)) nd fun x hx => by
          obtain ⟨p, hp, rfl⟩ := List.mem_map.mp hx
          exact List.mem_map.mpr ⟨p, h1 p hp, rfl⟩
        have l2 := nodup_len (ks.map (·.2)) (L.map (·.2)) hnd fun x hx => by
          obtain ⟨p, hp, rfl⟩ := List.mem_map.mp hx
          exact h2 p hp
        rw [List.length_map, List.length_map] at l1 l2
        omega
      refine w _ _ G' _ (st.trans (.keep st.s (.new hr))) (.int _) ?_
      rw [el, List.length_map]⟩
end
end DL
set_option Elab.async false
set_option linter.all false
set_option maxRecDepth 100000
set_option maxHeartbeats 4000000
namespace DL
open PySem PySem.Spec PyProof.Rows L2
/-! ### a dict of ints of one's own -/
def dgt (kvs : List (Int × Int)) (k : Int) : Option Int := (kvs.find? fun q => decide (q.1 = k)).map (·.2)
theorem dgt_valV (k : Int) : ∀ kvs : List (Int × Int), valV (kvs.map dKV) (Sum.inl k) = (dgt kvs k).map V.int
  | [] => rfl
  | q :: r => by
    have ih := dgt_valV k r
    by_cases e : q.1 = k
    · rw [List.map_cons, valV_pos (by show Sum.inl q.1 = _; rw [e])]
      unfold dgt
      rw [List.find?_cons, decide_eq_true e]
      rfl
    · rw [List.map_cons, valV_neg (fun z => e (Sum.inl.inj z)), ih]
      unfold dgt
      rw [List.find?_cons, decide_eq_false e]
theorem put_new {kvs : List (Int × Int)} {k v : Int} (h : dgt kvs k = none) : putK (kvs.map dKV) (Sum.inl k) (V.int v) = (kvs ++ [(k, v)]).map dKV := by
  unfold putK
  rw [valV_any, dgt_valV, h, if_neg (by simp), List.map_append]
  rfl
theorem tabs_mutD {T : Tb} {H : Hp} {p : Addr} {kvs : List (Key × V)} {o : HO} (h : H p = some (.dK kvs)) (t : LamX.Tabs T H) : LamX.Tabs T (upd H p o) := fun q hq => by
  obtain ⟨ps, h1, h2, h3⟩ := t q hq
  have n1 : q.1 ≠ p := fun z => by
    rw [z, h] at h1
    cases h1
  refine ⟨ps, by rw [upd_ne n1]; exact h1, h2, fun pos cv hc => ?_⟩
  obtain ⟨c, e1, e2⟩ := h3 pos cv hc
  have n2 : c ≠ p := fun z => by
    rw [z, h] at e2
    unfold LamX.CodeO at e2
    cases e2
  exact ⟨c, e1, by rw [upd_ne n2]; exact e2⟩
theorem Stp.mutD {T : Tb} {G H G1 H1 : Hp} {p : Addr} {kvs : List (Key × V)} {o : HO} (a : Stp T G H G1 H1) (h0 : Fr H p) (h1 : H1 p = some (.dK kvs)) (hg : G1 p = none) : Stp T G H G1 (upd H1 p o) := by
  refine ⟨⟨fun b o e n => ?_, fun t => tabs_mutD h1 (a.le.t t)⟩, a.g, fun b o e => ?_, a.n⟩
  · rw [upd_ne (fr_ne e n h0)]
    exact a.le.h b o e n
  · rw [upd_ne (ne_of_none e hg)]
    exact a.s b o e
/-- what may stand beside a dict of one's own -/
def dok : Sl → Bool
  | .obj _ (.ext _) => true
  | .obj _ _ => false
  | .dct _ => false
  | _ => true
def OneDct (Γ : List Sl) (n : Nat) : Prop := ∀ (j : Nat) s, j ≠ n → Γ[j]? = some s → dok s = true
theorem oneDct_app {pre post : List Sl} {s : Sl} (h1 : ∀ s ∈ pre, dok s = true) (h2 : ∀ s ∈ post, dok s = true) : OneDct (pre ++ s :: post) pre.length := fun j t hj e => by
  rcases Nat.lt_trichotomy j pre.length with l | l | l
  · rw [List.getElem?_append_left l] at e
    exact h1 _ (List.mem_of_getElem? e)
  · exact absurd l hj
  · rw [List.getElem?_append_right (by omega)] at e
    obtain ⟨m, hm⟩ : ∃ m, j - pre.length = m + 1 := ⟨j - pre.length - 1, by omega⟩
    rw [hm, List.getElem?_cons_succ] at e
    exact h2 _ (List.mem_of_getElem? e)
theorem doks_nil : ∀ s ∈ ([] : List Sl), dok s = true := fun s h => by cases h
theorem doks_cons {a : Sl} {r : List Sl} (h1 : dok a = true) (h2 : ∀ s ∈ r, dok s = true) : ∀ s ∈ a :: r, dok s = true := fun s h => by
  rcases List.mem_cons.mp h with rfl | h
  · exact h1
  · exact h2 s h
section
variable {T : Tb} {X : Cx} {f : Fx} {Γ : List Sl} {a b c e o : Expr} {pos p p1 p2 q : Pos} {x d : D} {ds : List D} {rest : List Stmt} {N : List Sl → Prop} {Rt : D → Prop} {k v : Int} {kvs : List (Int × Int)}
theorem env_putD {σ : L2.St} {G H : Hp} {n : Nat} {kvs' : List (Int × Int)} {r : Addr} (en : EnvR T X.K f Γ σ G H) (ho : OneDct Γ n) (hn : Γ[n]? = some (.dct kvs)) (e1 : σ[n]? = some (some (.ref r))) (e2 : G r = none) (e3 : Fr f.H0 r) (e4 : H r = some (.dK (kvs.map dKV))) :
    EnvR T X.K f (Γ.set n (.dct kvs')) σ G (upd H r (.dK (kvs'.map dKV))) := by
  have st := en.st.mutD (o := .dK (kvs'.map dKV)) e3 e4 e2
  have hl : n < Γ.length := (List.getElem?_eq_some_iff.mp hn).1
  refine ⟨st, fun j sl e => ?_, by rw [List.length_set]; exact en.ln⟩
  by_cases hj : n = j
  · subst hj
    rw [List.getElem?_set_self hl] at e
    cases e
    exact ⟨_, e1, r, rfl, e2, e3, upd_same⟩
  · rw [List.getElem?_set_ne hj] at e
    obtain ⟨w, w1, w2⟩ := en.sl j sl e
    refine ⟨w, w1, ?_⟩
    cases sl with
    | dat d => exact w2
    | raw v => exact w2
    | obj a o =>
      obtain ⟨a1, a2, a3⟩ := w2
      have hb : a ≠ r := fun z => by
        rw [z, e4] at a2
        have k := ho j _ (Ne.symm hj) e
        rw [← Option.some.inj a2] at k
        cases k
      exact ⟨a1, by rw [upd_ne hb]; exact a2, a3⟩
    | own ys =>
      obtain ⟨q, vs, a1, a2, a3, a4, a5⟩ := w2
      have hb : q ≠ r := fun z => by
        rw [z, e4] at a4
        cases a4
      exact ⟨q, vs, a1, a2, a3, by rw [upd_ne hb]; exact a4, a5⟩
    | dct ys => exact nof (ho j _ (Ne.symm hj) e)
    | gen g => exact g.stbD e4 w2
    | no => trivial
/-- x = {} -/
theorem wss_newD {n : Nat} {x : Str} {pn : Pos} (hN : X.N.Nodup) (hl : n < Γ.length) (kk : WSs T X f (Γ.set n (.dct [])) rest N Rt) (hi : X.N[n]? = some x := by rfl) (hx : Loc X.env.scope x := by first | exact Or.inl rfl | exact Or.inr rfl) (hs : swapsWith (.Dict [] [] p) (some (.Name x pn)) pos.line X.env = pure false := by rfl)
    (hf : X.fn x = true ∨ X.env.scope.names.lookup x = some .local := by first | exact .inl rfl | exact .inr rfl) : WSs T X f Γ (.Assign [.Name x pn] (.Dict [] [] p) pos :: rest) N Rt :=
  wss_cons (N' := fun Γ' => Γ' = Γ.set n (.dct [])) (.of (ps_set hN hi hx pe_dnewK hs hf) fun σ G H E en w => fun r hr => by
    have en' : EnvR T X.K f Γ σ G (upd H r (.dK [])) := en.step (.keep en.sub (.new hr))
    exact w.nx _ _ G _ (en'.set (s := .dct []) ⟨r, rfl, en.sub.none hr, en.st.le.fr (fr_none hr), upd_same⟩ hl) (Evl.Ex.refl G) rfl) fun _ e => e ▸ kk
/-- x, y = {}, [] -/
theorem wss_par2D {i j : Nat} {x y : Str} {px py pt pt2 pd pl : Pos} {kt k2 : Nat} (B : X.calm = true) (hN : X.N.Nodup) (kk : WSs T X f ((Γ.set i (.dct [])).set j (.own [])) rest N Rt)
    (hij : i ≠ j) (hil : i < Γ.length) (hjl : j < Γ.length) (hi : X.N[i]? = some x := by rfl) (hj : X.N[j]? = some y := by rfl) (hx : X.env.scope.names.lookup x = some .local := by rfl) (hy : X.env.scope.names.lookup y = some .local := by rfl)
    (hw : swappedStores [.Tuple [.Name x px, .Name y py] kt pt] (.Tuple [.Dict [] [] pd, .List [] pl] k2 pt2) X.env = pure (some [x, y]) := by rfl)
    (hs : swapsWithSole [.Tuple [.Name x px, .Name y py] kt pt] (.Tuple [.Dict [] [] pd, .List [] pl] k2 pt2) pos.line X.env = pure false := by rfl) (s1 : starEach [.Dict [] [] pd, .List [] pl] X.env = (false, eval (.Dict [] [] pd) X.env) :: starEach [.List [] pl] X.env := by rfl) (s2 : starEach [.List [] pl] X.env = (false, eval (.List [] pl) X.env) :: starEach [] X.env := by rfl) :
    WSs T X f Γ (.Assign [.Tuple [.Name x px, .Name y py] kt pt] (.Tuple [.Dict [] [] pd, .List [] pl] k2 pt2) pos :: rest) N Rt :=
  wss_cons (N' := fun Γ' => Γ' = (Γ.set i (.dct [])).set j (.own [])) (.of (ps_par B hN hi hj hij hx hy (pa_cons pe_dnewK (pa_cons (pe_lst pa_nil) pa_nil s2) s1) hw hs) fun σ G H E en w => fun r hr => ⟨by decide, fun t ht => by
    have t1 : Stp T G H G (upd H r (.dK [])) := .keep en.sub (.new hr)
    have t2 : Stp T G (upd H r (.dK [])) G (upd (upd H r (.dK [])) t (.lst [])) := .keep t1.s (.new ht)
    have en2 := (en.step t1).step t2
    have hrt : r ≠ t := fun z => by
      rw [← z, upd_same] at ht
      cases ht
    refine ⟨_, _, rfl, w.nx _ _ G _ ((en2.set (s := .dct []) ⟨r, rfl, en.sub.none hr, en.st.le.fr (fr_none hr), by rw [upd_ne hrt]; exact upd_same⟩ hil).set (s := .own []) ⟨t, [], rfl, t1.s.none ht, (en.st.trans t1).le.fr (fr_none ht), upd_same, .nil⟩ (by rw [List.length_set]; exact hjl)) (Evl.Ex.refl G) rfl⟩⟩) fun _ e => e ▸ kk
/-- x, y = a, [] -/
theorem wss_parWo {i j : Nat} {x y : Str} {Q1 : D → Prop} {px py pt pt2 pl : Pos} {kt k2 : Nat} (B : X.calm = true) (hN : X.N.Nodup) (ha : WE T X f Γ a Q1) (kk : ∀ d, Q1 d → WSs T X f ((Γ.set i (.dat d)).set j (.own [])) rest N Rt)
    (hij : i ≠ j) (hil : i < Γ.length) (hjl : j < Γ.length) (hi : X.N[i]? = some x := by rfl) (hj : X.N[j]? = some y := by rfl) (hx : X.env.scope.names.lookup x = some .local := by rfl) (hy : X.env.scope.names.lookup y = some .local := by rfl)
    (hw : swappedStores [.Tuple [.Name x px, .Name y py] kt pt] (.Tuple [a, .List [] pl] k2 pt2) X.env = pure (some [x, y]) := by rfl)
    (hs : swapsWithSole [.Tuple [.Name x px, .Name y py] kt pt] (.Tuple [a, .List [] pl] k2 pt2) pos.line X.env = pure false := by rfl) (s1 : starEach [a, .List [] pl] X.env = (false, eval a X.env) :: starEach [.List [] pl] X.env := by rfl) (s2 : starEach [.List [] pl] X.env = (false, eval (.List [] pl) X.env) :: starEach [] X.env := by rfl) :
    WSs T X f Γ (.Assign [.Tuple [.Name x px, .Name y py] kt pt] (.Tuple [a, .List [] pl] k2 pt2) pos :: rest) N Rt :=
  wss_cons (N' := fun Γ' => ∃ d, Q1 d ∧ Γ' = (Γ.set i (.dat d)).set j (.own [])) (.of (ps_par B hN hi hj hij hx hy (pa_cons ha.pe (pa_cons (pe_lst pa_nil) pa_nil s2) s1) hw hs) fun σ G H E en w => ⟨G, en, fun v1 d1 G1 H1 t1 p1 q1 => ⟨by decide, fun t ht => by
    have t2 : Stp T G1 H1 G1 (upd H1 t (.lst [])) := .keep t1.s (.new ht)
    have en2 := (en.step t1).step t2
    exact ⟨_, _, rfl, w.nx _ _ G1 _ ((en2.set (s := .dat d1) ⟨v1, rfl, p1⟩ hil).set (s := .own []) ⟨t, [], rfl, t1.s.none ht, (en.st.trans t1).le.fr (fr_none ht), upd_same, .nil⟩ (by rw [List.length_set]; exact hjl)) t1.g ⟨d1, q1, rfl⟩⟩⟩⟩) fun _ ⟨d1, q1, e⟩ => e ▸ kk d1 q1
/-- x[a] = e, the key new -/
theorem wss_putD {n : Nat} {x : Str} {pa : Pos} (hn : Γ[n]? = some (.dct kvs)) (ho : OneDct Γ n) (hk : DE T X f Γ a (.int k)) (hv : DE T X f Γ e (.int v)) (hnew : dgt kvs k = none) (hz : kvs.length < 100000) (hu : X.A.units + 1 < cLine) (kk : WSs T X f (Γ.set n (.dct (kvs ++ [(k, v)]))) rest N Rt)
    (hN : X.N[n]? = some x := by rfl) (hvs : Vis X.env.scope x := by first | exact Or.inl rfl | exact Or.inr (Or.inl rfl) | exact Or.inr (Or.inr rfl)) (hd : (x == ("__debug__" : Str)) = false := by decide) (hcd : (x == ("__classdict__" : Str)) = false := by decide)
    (hs : swapsWith e (some (.Subscript (.Name x p) a pa)) pos.line X.env = pure false := by rfl) : WSs T X f Γ (.Assign [.Subscript (.Name x p) a pa] e pos :: rest) N Rt :=
  wss_cons (N' := fun Γ' => Γ' = Γ.set n (.dct (kvs ++ [(k, v)]))) (.of (ps_dput hu (pe_var hN hvs hd hcd) hk.pe hv.pe hs) fun σ G H E en w => ⟨G, en, fun u1 d1 G1 H1 t1 p1 q1 => by
    subst q1
    cases p1
    have en1 := en.step t1
    obtain ⟨r, e1, e2, e3, e4⟩ := en1.dct hn
    refine ⟨_, e1, G1, en1, fun u2 d2 G2 H2 t2 p2 q2 => ?_⟩
    subst q2
    cases p2
    have en2 := en1.step t2
    obtain ⟨r', f1, f2, f3, f4⟩ := en2.dct hn
    rw [e1] at f1
    cases f1
    have hlen : (kvs.map dKV).length < sizeLine := by
      rw [List.length_map]
      exact Evl.sz_lt hz
    have pk := DPut.k (k := Sum.inl k) (v := V.int v) f4 hlen
    rw [put_new hnew] at pk
    exact ⟨r, _, rfl, pk, w.nx _ _ _ _ (env_putD en2 ho hn e1 f2 f3 f4) (t1.g.trans t2.g) rfl⟩⟩) fun _ e => e ▸ kk
/-- a in x -/
theorem dt_inDct {n : Nat} {x : Str} (hn : Γ[n]? = some (.dct kvs)) (hk : DE T X f Γ a (.int k)) (hu : X.A.units + 1 < cLine) (hN : X.N[n]? = some x := by rfl) (hvs : Vis X.env.scope x := by first | exact Or.inl rfl | exact Or.inr (Or.inl rfl) | exact Or.inr (Or.inr rfl)) (hd : (x == ("__debug__" : Str)) = false := by decide) (hcd : (x == ("__classdict__" : Str)) = false := by decide) :
    DT T X f Γ (.Compare a [.In] [.Name x p] pos) (dgt kvs k).isSome :=
  .of (pt_cmp (pc_din hu hk.pe (pe_var hN hvs hd hcd))) fun σ G H QQ en w => ⟨G, en, fun u1 d1 G1 H1 t1 p1 q1 => by
    subst q1
    cases p1
    have en1 := en.step t1
    obtain ⟨r, e1, e2, e3, e4⟩ := en1.dct hn
    refine ⟨_, e1, r, _, rfl, DGet.k (k := Sum.inl k) e4, _, rfl, ?_⟩
    rw [dgt_valV, Option.isSome_map]
    exact w _ G1 H1 t1 rfl⟩
/-- x[a] -/
theorem de_getD {n : Nat} {x : Str} (hn : Γ[n]? = some (.dct kvs)) (hk : DE T X f Γ a (.int k)) (hg : dgt kvs k = some v) (hu : X.A.units + 1 < cLine) (hN : X.N[n]? = some x := by rfl) (hvs : Vis X.env.scope x := by first | exact Or.inl rfl | exact Or.inr (Or.inl rfl) | exact Or.inr (Or.inr rfl)) (hns : NoSl a := by intro _ _; rfl) (hd : (x == ("__debug__" : Str)) = false := by decide) (hcd : (x == ("__classdict__" : Str)) = false := by decide) :
    DE T X f Γ (.Subscript (.Name x p) a pos) (.int v) :=
  .of (pe_dget hu (pe_var hN hvs hd hcd) hk.pe hns) fun σ G H QQ en w => by
    obtain ⟨r, e1, e2, e3, e4⟩ := en.dct hn
    refine ⟨_, e1, G, en, fun u1 d1 G1 H1 t1 p1 q1 => ?_⟩
    subst q1
    cases p1
    have f4 := t1.le.h _ _ e4 nt_dK
    refine ⟨r, .int v, rfl, ?_, w _ _ G1 H1 t1 (.int v) rfl⟩
    have z := DGet.k (k := Sum.inl k) f4
    rw [dgt_valV, hg] at z
    exact z
/-- less is known -/
theorem wss_weak {Γ' : List Sl} (h : WSs T X f Γ' rest N Rt) (w : ∀ (i : Nat) (s : Sl), Γ'[i]? = some s → s = .no ∨ Γ[i]? = some s) (hl : Γ'.length = Γ.length) : WSs T X f Γ rest N Rt := .mk fun pins s σ G H I en => h pins s σ G H I (en.weak w hl)
theorem Bd.units1 {k : Nat} (h : Bd T X f k) : X.A.units + 1 < cLine := by
  have := h.rm.un
  omega
end
end DL
set_option Elab.async false
set_option linter.all false
set_option maxRecDepth 100000
set_option maxHeartbeats 4000000
namespace DL
open PySem PySem.Spec PyProof.Rows L2
/-! ### set(xs), xs a list of ints: with what a walk over it asks -/
abbrev set0 (w : World) : Obj := { cls := .type "set", dict := none, data := .set #[] 0 (.fresh 0 0 (!w.params.followText "set-order")) }
abbrev heap0 (w : World) (h : Heap) : Heap := h.push (set0 w)
section
variable {P : Program} {w : World} {A : Around} {E : Value → Shared → Prop} {s : Shared}
/-- what the set is once the list is walked -/
def SetDone (w : World) (s : Shared) (ns : List Int) (s2 : Shared) : Prop := ∃ h2 tk n, s2 = { s with heap := h2, toks := tk } ∧ SetR w h2 s.heap.objs.size (fun j => decide (j ∈ ns)) n ∧ ∀ b o, s.heap.get? b = some o → h2.get? b = some o
theorem setlist_init {A' : Around} {E' : Value → Shared → Prop} {l : Addr} {its : Array Value} {ns : List Int} {R : PySem.Fin → Shared → Prop} (quiet : A'.handled = none) (hl : s.heap.IsList l its) (hi : IntsAre its.toList ns) (few : ns.length + 1 < scanBound)
    (k : ∀ s2, SetDone w s ns s2 → wpAny (model P w) A' (ret Value.none) R E' s2) : wpAny (model P w) A' (Builtin.«set.__init__» ⟨[.ref s.heap.objs.size, .ref l], []⟩) R E' { s with heap := heap0 w s.heap } := by
  have nlen : its.size = ns.length := by rw [← Array.length_toList]; exact hi.length
  obtain ⟨⟨c1, d1, dat1, sl1⟩, got, e1, cap, e2⟩ := hl
  simp only at e1 e2
  subst e1 e2
  have below : l < s.heap.objs.size := Heap.lt_size got
  have got1 : (heap0 w s.heap).get? l = some { cls := .type "list", dict := d1, data := .seq its cap, slots := sl1 } := Heap.get?_push_of_some _ got
  have isl : (heap0 w s.heap).IsList l its := ⟨_, got1, rfl, cap, rfl⟩
  have own : (heap0 w s.heap).get? s.heap.objs.size = some (set0 w) := Heap.get?_push_size _ rfl
  have no1 := F.sub_list_set
  have no2 := F.sub_list_frozenset
  have no3 : (Value.type "list" == Value.type "dict") = false := by decide
  have ofTy : Shared.TypeIs { s with heap := heap0 w s.heap } (.ref s.heap.objs.size) "set" := ⟨_, own, rfl⟩
  unfold Builtin.«set.__init__» noKeywords Builtin.Frozenset.updateFrom
  generalize iter : pyIter = it0
  wp_walk
  subst iter
  refine wpAny_pyIter_list isl (wpAny_bind (wpAny_runValue ?_))
  have sz : (heap0 w s.heap).objs.size = s.heap.objs.size + 1 := Heap.size_push ..
  have far : l ≠ (heap0 w s.heap).objs.size := by rw [sz]; exact Nat.ne_of_lt (Nat.lt_succ_of_lt below)
  have apart : s.heap.objs.size ∉ [(heap0 w s.heap).objs.size, l] := by
    rw [sz, List.mem_cons, List.mem_singleton]
    exact fun z => z.elim (fun e => Nat.ne_of_lt (Nat.lt_succ_self _) e) (fun e => Nat.ne_of_gt below e)
  have item : ∀ (i : Nat) (v : Value), its[i]? = some v → ∃ k t, ns[i]? = some k ∧ v = .int k t := fun i v hv => by
    have lt : i < ns.length := by rw [← nlen]; exact (Array.getElem?_eq_some_iff.mp hv).1
    obtain ⟨t, e⟩ := hi.int_at i v (by rw [Array.getElem?_toList]; exact hv)
    rw [List.getD_eq_getElem?_getD, List.getElem?_eq_getElem lt] at e
    exact ⟨ns[i], t, List.getElem?_eq_getElem lt, e⟩
  have calm3 : A'.in1.handled = none := quiet
  refine set_update_ints ((Walks.list calm3 _ l far its).toS) s.heap.objs.size apart ns nlen few item _ 0 _ rfl (Nat.zero_le _) ⟨⟨_, Heap.get?_push_size _ rfl, rfl, rfl⟩, isl.push _⟩ ⟨0, Nat.le_refl 0, setR_new_at (Heap.get?_push_of_some _ own)⟩ fun s2 n mv _ done => ?_
  refine wpAny_pure (k _ ⟨s2.heap, s2.toks, n, ?_, done, fun b o e => ?_⟩)
  · have g1 : s2.gens = s.gens := mv.gens
    have g2 : s2.drawn = s.drawn := mv.drawn
    have g3 : s2.os = s.os := mv.os
    obtain ⟨h2, g, d, tk, os⟩ := s2
    simp only at g1 g2 g3
    subst g1 g2 g3
    rfl
  · have lt := Heap.lt_size e
    refine mv.heap b o (fun z => ?_) (Heap.get?_push_of_some _ (Heap.get?_push_of_some _ e))
    rw [List.mem_cons, List.mem_singleton, sz] at z
    exact z.elim (fun q => Nat.ne_of_lt lt q) (fun q => Nat.ne_of_lt (Nat.lt_succ_of_lt lt) q)
theorem setlist_call {l : Addr} {its : Array Value} {ns : List Int} {Q : Value → Shared → Prop} (quiet : A.handled = none) (hl : s.heap.IsList l its) (hi : IntsAre its.toList ns) (few : ns.length + 1 < scanBound)
    (k : ∀ s2, SetDone w s ns s2 → Q (.ref s.heap.objs.size) s2) : wpAny (model P w) A (call (.type "set") [.ref l]) Q E s := by
  obtain ⟨_, _, mro⟩ := F.called_set.mro
  have made := F.called_set.made
  have sub := F.called_set.sub
  have nt := F.called_set.notType
  have cc := F.called_set.canCreate
  have ct := F.typeCall_set_1 (.ref l)
  refine wpAny_call (codeAny_of_tree (wpAny_pure ⟨Code.quiet_builtin _ (by decide +kernel), codeAny_builtin F.entry_type_call ?_⟩))
  rw [Around.under_plain (weight_type_call_type "set" [.ref l] []) rfl]
  repeat (any_goals (first | assumption | wp_step))
  refine codeAny_mono (code_set_led1 (.ref l) (E := E) (Q₁ := fun v s1 => v = .ref s.heap.objs.size ∧ s1 = { s with heap := heap0 w s.heap }) ⟨rfl, rfl⟩) fun r s1 hr => ?_
  match r, hr with
  | .ok (.ret v), hr =>
    obtain ⟨rfl, rfl⟩ := hr
    have own : (heap0 w s.heap).get? s.heap.objs.size = some (set0 w) := Heap.get?_push_size _ rfl
    have ofTy : Shared.TypeIs { s with heap := heap0 w s.heap } (.ref s.heap.objs.size) "set" := ⟨_, own, rfl⟩
    have lk := F.called_set.init.lookup
    have bn := F.called_set.init.bind (.ref s.heap.objs.size)
    repeat (any_goals (first | assumption | wp_step))
    refine codeAny_mono (codeAny_call_builtin (R := wants (fun v s2 => v = .none ∧ SetDone w s ns s2) E) F.called_set.init.plain F.entry_set_init (check_set_init_1 ofTy (setlist_init quiet hl hi few fun s2 d => wpAny_pure ⟨rfl, d⟩))) fun r2 s2 h2 => ?_
    match r2, h2 with
    | .ok (.ret v), h2 =>
      obtain ⟨rfl, d⟩ := h2
      repeat (any_goals (first | assumption | wp_step))
      exact k _ d
    | .ok .next, h2 => exact h2.elim
    | .ok .brk, h2 => exact h2.elim
    | .ok .cont, h2 => exact h2.elim
    | .error e, h2 => exact h2
  | .ok .next, hr => exact hr.elim
  | .ok .brk, hr => exact hr.elim
  | .ok .cont, hr => exact hr.elim
  | .error e, hr => exact hr
end
section
variable {T : Tb} {X : Cx} {f : Fx} {Γ : List Sl} {e : Expr} {pos p p2 q : Pos}
def rSetLI (K : PySem.W.Frag) (w : World) : List V → Hp → VK → Prop := fun vs H Q => ∃ (t : Addr) (ns : List Int), vs = [.ref t] ∧ SqL K H t (ns.map V.int) ∧ ns.length ≤ 60 ∧
  ∀ r n, H r = none → n ≤ ns.length → Q (.ref r) (upd H r (SetO w r (fun j => decide (j ∈ ns)) n))
theorem setR_le {w : World} {h : Heap} {a : Addr} {ns : List Int} {n : Nat} (R : SetR w h a (fun j => decide (j ∈ ns)) n) : n ≤ ns.length := by
  obtain ⟨o, es, ep, tt, ho, hx, hd, g, nd, hm, hb, hf, hn, _⟩ := R
  have z := nodup_len (es.toList.map keyOf) ns nd fun x hx => of_decide_eq_true ((hm x).mpr hx)
  rw [List.length_map, Array.length_toList] at z
  omega
theorem cr_setLI (hc : X.calm = true) : CallR X (.type "set") (rSetLI X.K X.w) := by
  intro pins s σ H vs us Q I r h
  obtain ⟨t, ns, rfl, hs, hl, qq⟩ := h
  obtain ⟨its, rv, hl2, _⟩ := I.list hs
  rw [Vals.ref1 r]
  refine setlist_call (ns := ns) (I.ok.hd hc) hl2.isList (by simpa using rv.ints) (by unfold scanBound; omega) fun s2 ⟨h2, tk, n, e, R, kp⟩ => ?_
  subst e
  exact ⟨.ref _, _, I.laid (t' := tk) (fun b u z => kp b u z) (Nat.le_refl _) (setO_new R), rfl, qq _ n (I.hok.fresh (Nat.le_refl _)) (setR_le R)⟩
/-- sorted(set(xs)), xs a list -/
theorem de_sortedSetL {ns : List Int} (B : X.calm = true) (h : DE T X f Γ e (.list (iL ns))) (hl : ns.length ≤ 60) (hm : X.mg "sorted" = none) (hm2 : X.mg "set" = none) (hg : Gl X "sorted" := by rfl) (hg2 : Gl X "set" := by rfl) (hs : Sta X e := by rfl) (hs2 : Sta X (.Call (.Name "set" p2) [e] [] q) := by rfl) :
    DE T X f Γ (.Call (.Name "sorted" p) [.Call (.Name "set" p2) [e] [] q] [] pos) (.list (iL (sortU ns))) :=
  .of (pe_callB (cr_sortedSet B) hg hm (by decide +kernel) (pa_cons (pe_callTy (cr_setLI B) hg2 hm2 (by decide +kernel) (da_cons h da_nil hs) (by decide) (by decide) hs bpl) pa_nil hs2) (by decide) (by decide) hs2 bpl) fun σ G H QQ en w => ⟨G, en, fun vs ds G' H' st dp qd => by
    subst qd
    obtain ⟨v, rfl, dq⟩ := dpa_1 dp
    cases dq with
    | lst sq al =>
      have e := dpa_iL al
      subst e
      refine ⟨_, ns, rfl, sq_up st.s sq, hl, fun r n hr hn => ⟨r, _, n, rfl, upd_same, by omega, fun ms p ha hm hn hp => ?_⟩⟩
      have e2 : ms = sortU ns := sortU_of ha fun z => (hm z).trans (by rw [decide_eq_true_eq])
      subst e2
      have s1 : Stp T G H G' (upd H' r (SetO X.w r (fun j => decide (j ∈ ns)) n)) := st.trans (.keep st.s (.new hr))
      exact w _ _ _ _ (s1.trans (.new s1.s hp nt_lst)) (.lst (.of upd_same) (iL_dpa _)) rfl⟩
end
end DL
set_option Elab.async false
set_option linter.all false
set_option maxRecDepth 100000
set_option maxHeartbeats 4000000
namespace DL
open PySem PySem.Spec PyProof.Rows L2
/-! ### the law: x = e; for dice in _law_rounds(script, n): .. -/
section
variable {T : Tb} {X : Cx} {f : Fx} {Γ : List Sl} {st : Stmt} {N : List Sl → Prop} {Rt : D → Prop}
theorem WS.ps (h : WS T X f Γ st N Rt) : PS X st (fun E σ H => ∃ G, EnvR T X.K f Γ σ G H ∧ Wns T X f G N Rt E) := ⟨fun pins s σ H E I ⟨G, en, w⟩ => thn (h pins s σ G H I en) fun fl s1 q => by
  cases fl with
  | next =>
    obtain ⟨Γ', σ', G', H', I', en', g, q⟩ := q
    exact ⟨σ', H', I', w.nx _ _ _ _ en' g q⟩
  | ret u =>
    obtain ⟨v, d, σ', G', H', I', r, t, dp, q⟩ := q
    exact ⟨v, σ', H', I', r, w.rt _ _ _ _ t dp q⟩
  | brk => exact q.elim
  | cont => exact q.elim⟩
end
section
variable {T : Tb} {P : Program} {w : World} {K : PySem.W.Frag} {mg : Str → Option Value} {base : Heap}
abbrev knG (n nk nd : Nat) (kd : D) (d : Addr) : List Sl := ((List.replicate n .no).set nk (.dat kd)).set nd (.obj d (DiceO d))
def lawBodyK (pre : Stmt) (most : Int) (body : List Stmt) (j1 j2 : Nat) (p1 p2 p3 p4 p5 p6 p7 p8 : Pos) : List Stmt := pre :: lawBody most body j1 j2 p1 p2 p3 p4 p5 p6 p7 p8
theorem law_okK {st : Stmt} {N : List Str} {nd nk k : Nat} {kd : D} {fa : Addr} {oc kV doc pm cdv ct : Value} {od an : Option Addr} {osl : Array (Option Value)} {pre : Stmt} {body : List Stmt} {most : Int} {j1 j2 : Nat} {p1 p2 p3 p4 p5 p6 p7 p8 : Pos}
    (lk : K.lookup fa = some ⟨oc, od, .func (PySem.W.fnOf "law" "law" (defArgs st) (defBody st) (defScope st) .none kV doc pm an cdv ct), osl⟩) (hcd : PySem.W.codeIn K cdv "law" = true) (S : FnScope N ["script"] (defScope st))
    (hb : defBody st = lawBodyK pre most body j1 j2 p1 p2 p3 p4 p5 p6 p7 p8) (Rd : ∃ fr fdr, FnOk P w K mg base (L2N.CX P w) 2 fr fdr ["script", "most"] (spRounds T K) ∧ mg "_law_rounds" = some (.ref fr) ∧ PySem.W.keepIn K (.ref fr) = true ∧ Binds K fdr ["script", "most"] [])
    (hm1 : 1 ≤ most) (hm2 : most ≤ 10) (hN0 : N[0]? = some (("script" : Str))) (hNd : N[nd]? = some (("dice" : Str))) (hnk0 : nk ≠ 0) (hnkd : nk ≠ nd) (hnkl : nk < N.length) (lS : (defScope st).names.lookup ("script" : Str) = some .local) (lD : (defScope st).names.lookup ("dice" : Str) = some .local) (gR : (defScope st).names.lookup ("_law_rounds" : Str) = some .globalImplicit) (h2k : 2 ≤ k)
    (hpre : ∀ (A : Around) (outer : List Env) (s : Shared) (H0 H : Hp) (E : XK) (a : Addr), Bd T (cxOf (L2N.CX P w) P w K mg base N "law" (defScope st) fa cdv A outer s H0 E) ⟨noG, H, fun _ => False⟩ k →
      WS T (cxOf (L2N.CX P w) P w K mg base N "law" (defScope st) fa cdv A outer s H0 E) ⟨noG, H, fun _ => False⟩ ((List.replicate N.length .no).set 0 (.raw (.ref a))) pre (fun Γ' => Γ' = ((List.replicate N.length .no).set 0 (.raw (.ref a))).set nk (.dat kd)) (fun _ => False))
    (hbody : ∀ (A : Around) (outer : List Env) (s : Shared) (H0 G H : Hp) (E : XK) (d : Addr), Bd T (cxOf (L2N.CX P w) P w K mg base N "law" (defScope st) fa cdv A outer s H0 E) ⟨G, H, fun _ => False⟩ k → LamX.Tabs T H →
      WSs T (cxOf (L2N.CX P w) P w K mg base N "law" (defScope st) fa cdv A outer s H0 E) ⟨G, H, fun _ => False⟩ (knG N.length nk nd kd d) body (fun Γ' => Γ'[nk]? = some (.dat kd)) (fun _ => False)) : FnOk P w K mg base (L2N.CX P w) (k + 1) fa (PySem.W.fnOf "law" "law" (defArgs st) (defBody st) (defScope st) .none kV doc pm an cdv ct) ["script"] (spLaw T K) := by
  obtain ⟨fr, fdr, FR, gRd, kR, bR⟩ := Rd
  refine fn_of lk hcd S (fun vs H Q E h => ?_) fun A outer s H vs Q E hr h => ?_
  · obtain ⟨a, ns, rfl, _⟩ := h
    rfl
  · obtain ⟨a, ns, rfl, hS, hl, hT, hQ⟩ := h
    rw [hb]
    have hndl : nd < N.length := (List.getElem?_eq_some_iff.mp hNd).1
    have h0l : 0 < N.length := (List.getElem?_eq_some_iff.mp hN0).1
    have po : PassesOwn (model P w) (cxOf (L2N.CX P w) P w K mg base N "law" (defScope st) fa cdv A outer s H E).A (cxOf (L2N.CX P w) P w K mg base N "law" (defScope st) fa cdv A outer s H E).env (cxOf (L2N.CX P w) P w K mg base N "law" (defScope st) fa cdv A outer s H E).xe := PassesOwn.leaving
    have mkB : ∀ (G H1 : Hp), Bd T (cxOf (L2N.CX P w) P w K mg base N "law" (defScope st) fa cdv A outer s H E) ⟨G, H1, fun _ => False⟩ k := fun G H1 => ⟨tk_none fun _ z => z, po, hr, rfl⟩
    -- what stands between two turns
    let J : L2.St → Hp → Prop := fun σ H' => ∃ G v, Sub G H' ∧ σ[nk]? = some (some v) ∧ Dp K G v kd ∧ LamX.Tabs T H'
    have tb : PSs (cxOf (L2N.CX P w) P w K mg base N "law" (defScope st) fa cdv A outer s H E) body (fun E1 σ H2 => ∃ d, (σ.length = N.length → σ[nd]? = some (some (.ref d))) ∧ H2 d = some (DiceO d) ∧ J σ H2 ∧ ∀ σ' H', J σ' H' → Le T H2 H' → E1.nx σ' H') := by
      refine ⟨fun pins s2 σ2 H2 E1 I2 ⟨d, q1, q2, ⟨G, v, q3, q4, q5, q6⟩, q7⟩ => ?_⟩
      have hl2 : σ2.length = N.length := I2.len
      have en : EnvR T K ⟨G, H2, fun _ => False⟩ (knG N.length nk nd kd d) σ2 G H2 := by
        refine ⟨.refl q3, fun i sl e => ?_, by rw [List.length_set, List.length_set, List.length_replicate, hl2]⟩
        by_cases hi : nd = i
        · subst hi
          rw [List.getElem?_set_self (by rw [List.length_set, List.length_replicate]; exact hndl)] at e
          cases e
          exact ⟨_, q1 hl2, rfl, q2, fix_ext⟩
        · rw [List.getElem?_set_ne hi] at e
          by_cases hk : nk = i
          · subst hk
            rw [List.getElem?_set_self (by rw [List.length_replicate]; exact hnkl)] at e
            cases e
            exact ⟨_, q4, v, rfl, q5⟩
          · rw [List.getElem?_set_ne hk, List.getElem?_replicate] at e
            split at e
            · rename_i hlt
              cases e
              exact ⟨_, List.getElem?_eq_getElem (by rw [hl2]; exact hlt), trivial⟩
            · cases e
      refine thn (hbody A outer s H G H2 E d (mkB G H2) q6 pins s2 σ2 G H2 I2 en) fun fl s3 q => ?_
      cases fl with
      | next =>
        obtain ⟨Γ', σ', G', H', I', en', g, hn⟩ := q
        obtain ⟨v', e1, e2⟩ := en'.dat hn
        exact ⟨σ', H', I', q7 σ' H' ⟨G', v', en'.sub, e1, e2, en'.st.le.t q6⟩ en'.st.le⟩
      | ret u =>
        obtain ⟨_, _, _, _, _, _, _, _, _, z⟩ := q
        exact z.elim
      | brk => exact q.elim
      | cont => exact q.elim
    have forP : PS (cxOf (L2N.CX P w) P w K mg base N "law" (defScope st) fa cdv A outer s H E) (.For (.Name "dice" p1) (.Call (.Name "_law_rounds" p2) [.Name "script" p3, .Constant (.int most) j1 p4] [] p5) body [] p6) (fun D σ H1 => σ[0]? = some (some (.ref a)) ∧ J σ H1 ∧ Le T H H1 ∧ ∀ σ' H', D.nx σ' H') := by
      refine ⟨fun pins s' σ H1 D I ⟨h1, hJ, hle, hnx⟩ => ?_⟩
      have ci := pe_call (X := cxOf (L2N.CX P w) P w K mg base N "law" (defScope st) fa cdv A outer s H E) (CX := L2N.CX P w) (E := E0) (pos := p5) (p := p2) FR (hr.mono h2k) gR gRd kR bR .nil passN (pa_cons (pe_var (pos := p3) hN0 (.inl lS)) (pa_cons (pe_int (i := most) (j := j1) (pos := p4)) pa_nil))
      refine (ps_for po rfl (pi_list ci) (pg_name (pos := p1) S.nd hNd (.inl lD) (.inr lD)) tb).run pins s' σ H1 D I ?_
      have hS1 : SqL K H1 a (ns.map V.int) := by
        rcases hS with z | z
        · rcases z with z | ⟨o, z⟩
          · exact .inl (.inl (hle.h _ _ z nt_lst))
          · exact .inl (.inr ⟨o, hle.h _ _ z nt_frz⟩)
        · exact .inr z
      have hGS : ∃ G, Sub G H1 ∧ Dp K G (.ref a) (.list (iL ns)) := by
        rcases hS1 with z | z
        · have hnt : ∃ o, H1 a = some o ∧ NT o := by
            rcases z with z | ⟨o, z⟩
            · exact ⟨_, z, nt_lst⟩
            · exact ⟨_, z, nt_frz⟩
          obtain ⟨o, ho, hn⟩ := hnt
          refine ⟨upd noG a o, fun b u e => ?_, .lst (.inl ?_) (iL_dpa ns)⟩
          · by_cases hb : b = a
            · subst hb
              rw [upd_same] at e
              cases e
              exact ⟨ho, hn⟩
            · rw [upd_ne hb] at e
              cases e
          · rcases z with z | ⟨o', z⟩
            · exact .inl (by rw [upd_same, ← ho]; exact z)
            · exact .inr ⟨o', by rw [upd_same, ← ho]; exact z⟩
        · exact ⟨noG, sub_noG, .lst (.inr z) (iL_dpa ns)⟩
      obtain ⟨G, sG, dG⟩ := hGS
      refine ⟨.ref a, h1, G, .ref a, ns, most, rfl, sG, dG, hl, hm1, hm2, fun p H2 as le hp hd => ?_⟩
      refine ⟨p, rfl, ⟨_, .of hp⟩, ?_⟩
      have up1 : ∀ {σ : L2.St} {H1 H2 : Hp}, Le T H1 H2 → J σ H1 → J σ H2 := fun {σ H1 H2} l ⟨G, v, j1, j2, j3, j4⟩ => ⟨G, v, fun b o e => ⟨l.h _ _ (j1 b o e).1 (j1 b o e).2, (j1 b o e).2⟩, j2, j3, l.t j4⟩
      refine for_list (K := K) (g := gName nd) (tb := fun E1 σ H2 => ∃ d, (σ.length = N.length → σ[nd]? = some (some (.ref d))) ∧ H2 d = some (DiceO d) ∧ J σ H2 ∧ ∀ σ' H', J σ' H' → Le T H2 H' → E1.nx σ' H') (D := D) (xs := as.map V.ref) (fun i σ' H' => Le T H2 H' ∧ J σ' H') ⟨.refl T H2, up1 le hJ⟩ (fun i σ' H' _ l => .of (l.1.h _ _ hp nt_lst)) (fun i x σ' H' hx l => ?_) (fun σ' H' l => hnx σ' H')
      rw [List.getElem?_map] at hx
      cases hq : as[i]? with
      | none =>
        rw [hq] at hx
        cases hx
      | some d =>
        rw [hq] at hx
        cases hx
        obtain ⟨l1, G3, v3, j1, j2, j3, j4⟩ := l
        refine ⟨d, fun hl2 => ?_, l1.h _ _ (hd d (List.mem_of_getElem? hq)) nt_ext, ⟨G3, v3, j1, ?_, j3, j4⟩, fun σ4 H4 j l4 => ⟨l1.trans l4, j⟩⟩
        · rw [List.length_set] at hl2
          exact List.getElem?_set_self (by rw [hl2]; exact hndl)
        · rw [List.getElem?_set_ne (Ne.symm hnkd)]
          exact j2
    refine ⟨tSeq _ (tSeq _ (tRet (tC (.bl true)))), pss_cons (hpre A outer s H H E a (mkB noG H)).ps (pss_cons forP (pss_one (ps_ret pe_bl))), ?_⟩
    refine ⟨noG, ?_, ⟨fun Γ' σ' G' H' en' g e => ?_, fun v d G' H' t dp z => z.elim⟩⟩
    · refine ⟨.refl sub_noG, fun i sl e => ?_, by rw [List.length_set, List.length_replicate]; unfold L2.start; rw [List.length_append, List.length_map, List.length_replicate]; show N.length = 1 + (N.length - 1); omega⟩
      by_cases hi : 0 = i
      · subst hi
        rw [List.getElem?_set_self (by rw [List.length_replicate]; exact h0l)] at e
        cases e
        exact ⟨_, rfl, rfl⟩
      · rw [List.getElem?_set_ne hi, List.getElem?_replicate] at e
        split at e
        · rename_i hlt
          cases e
          exact ⟨_, List.getElem?_eq_getElem (by unfold L2.start; rw [List.length_append, List.length_map, List.length_replicate]; show i < 1 + (N.length - 1); omega), trivial⟩
        · cases e
    · subst e
      have e0 : σ'[0]? = some (some (.ref a)) := en'.raw (by rw [List.getElem?_set_ne hnk0, List.getElem?_set_self (by rw [List.length_replicate]; exact h0l)])
      obtain ⟨v, e1, e2⟩ := en'.dat (i := nk) (d := kd) (by rw [List.getElem?_set_self (by rw [List.length_set, List.length_replicate]; exact hnkl)])
      exact ⟨e0, ⟨G', v, en'.sub, e1, e2, en'.st.le.t hT⟩, en'.st.le, fun σ'' H'' => hQ H''⟩
end
end DL
set_option Elab.async false
set_option linter.all false
set_option maxRecDepth 100000
set_option maxHeartbeats 4000000
namespace DL
open PySem PySem.Spec PyProof.Rows L2
/-! ### a comprehension whose element may let an exception of a call out -/
section
variable {X : Cx} {pins : List (Addr × Obj)} {σ : L2.St} {H : Hp} {s s' : Shared} {E : XK}
/-- behind a call that let an exception out: the state without it, in the def's own picture -/
theorem call_air (I : L2.Inv X pins σ H s) {u : Value} (c : L2N.CX X.prog X.w X.stack H s E u s') :
    ∃ (a : Addr) (B : Heap) (sI : Shared) (H' : Hp) (cls : Value) (d : Option Addr), u = .ref a ∧ L2.Inv X pins σ H' sI ∧ (∀ b o, sI.heap.get? b = some o → b ∉ frs X.stack → B.get? b = some o) ∧ sI.heap.UpToSlots s'.heap ∧
      HandSPX.FlyingZ B X.stack a (L2N.Zn cls d) s'.heap ∧ H' a = none ∧ s'.os = sI.os ∧ AllBare s'.gens ∧ E cls d H' ∧ UB (frs X.stack) H H' s.heap B s'.heap := by
  obtain ⟨a, B, H', cls, d, rfl, fl, hok, ub, na, os, ag, hE⟩ := c
  obtain ⟨G, g1, g2⟩ := restrict s'.heap fun b => (B.get? b).isSome || decide (b ∈ frs X.stack)
  have inB : ∀ b o, B.get? b = some o → G.get? b = some o := fun b o e => (g1 b (by simp [e])).trans (fl.1 b o e)
  have inF : ∀ b, b ∈ frs X.stack → G.get? b = s'.heap.get? b := fun b hb => g1 b (by simp [hb])
  have out : ∀ b o, G.get? b = some o → s'.heap.get? b = some o ∧ (B.get? b = some o ∨ b ∈ frs X.stack) := fun b o e => by
    cases q : ((B.get? b).isSome || decide (b ∈ frs X.stack)) with
    | false => rw [g2 b q] at e; cases e
    | true =>
      rw [g1 b q] at e
      refine ⟨e, ?_⟩
      rcases (Bool.or_eq_true _ _).mp q with z | z
      · obtain ⟨o', q'⟩ := Option.isSome_iff_exists.mp z
        have := fl.1 b o' q'
        rw [e] at this
        cases this
        exact .inl q'
      · exact .inr (of_decide_eq_true z)
  refine ⟨a, B, { s with heap := G, gens := s'.gens, drawn := s'.drawn, toks := s'.toks }, H', cls, d, rfl, ?_, fun b o e hb => (out b o e).2.resolve_right hb, Heap.UpToSlots.of_keeps fun b o e => (out b o e).1, fl, na, os, ag, hE, ub⟩
  refine I.call (ch := []) ⟨fun b o e n hb _ => inB b o (ub.keep b o e n hb), fun b o e n hb _ => ?_, fun b o e n _ => ub.free b o e n, fun b o e _ => ?_, ub.tups, ub.frzs, ub.tbls⟩ (hok.kept inB) ag (fun _ z => nomatch z)
  · obtain ⟨sl, q⟩ := ub.slot b o e hb
    exact ⟨sl, (inF b hb).trans q⟩
  · by_cases hb : b ∈ frs X.stack
    · obtain ⟨sl, q⟩ := ub.slot b o e hb
      exact ⟨_, (inF b hb).trans q⟩
    · obtain ⟨o', q⟩ := ub.there b o e hb
      exact ⟨o', inB b o' q⟩
theorem frames_keep {h h' base : Heap} : ∀ {l : List Env}, h.FunFrames base l → (∀ L ∈ frs l, ∀ o, h.get? L = some o → h'.get? L = some o) → h'.FunFrames base l
  | [], _, _ => trivial
  | env :: l, ⟨hk, ⟨L, o, hf, hn, ho, hd⟩, hr⟩, k => by
    have e : frs (env :: l) = L :: frs l := by
      unfold frs
      rw [List.filterMap_cons, hf]
    refine ⟨hk, ⟨L, o, hf, hn, k L (by rw [e]; exact List.mem_cons_self) o ho, hd⟩, frames_keep hr fun M hM => k M (by rw [e]; exact List.mem_cons_of_mem _ hM)⟩
/-- the exception is noted, the comprehension's own names go, it flies on in the def's own frame -/
theorem comp_fails (hs : X.stack = X.env :: X.outer) (hf : X.env.frame = some X.env.locals) (tk : L2N.Takes X (fun cls d _ H => E cls d H)) {ce : Env} (hce : ce.frame = X.env.frame) {u : Value}
    (I : L2.Inv X pins σ H s) (c : L2N.CX X.prog X.w X.stack H s E u s') (fC : FpOk X pins H ce.locals) {m : Str → Option Value} (nC : s.heap.Ns ce.locals m) :
    notedBy (model X.prog X.w) X.A ce (fun e s'' => CompFails (model X.prog X.w) X.A X.xe ce e s'') u s' := by
  have nfr : ce.locals ∉ frs X.stack := fun z => by
    rcases List.mem_cons.mp (I.stkSub _ z) with q | q
    · exact fC.2.1 q
    · exact fC.2.2.1 q
  obtain ⟨a, B, sI, H', cls, d, rfl, J, nb, up, fl, na, os, ag, hE, ub⟩ := call_air I c
  obtain ⟨oC, es, ep, hoC, hdC, rC⟩ := nC
  have hfr : X.A.frames = some (X.env :: X.outer) := by rw [I.ok.frames, hs]
  have hC' : s'.heap.get? ce.locals = some oC := fl.1 _ _ (ub.keep _ _ hoC fC.1 nfr)
  have fC' : FpOk X pins H' ce.locals := ⟨ub.free _ _ hoC fC.1, fC.2⟩
  have hnote : noteFrame (.ref a) ce = noteFrame (.ref a) X.env := by
    unfold noteFrame PySem.frameOf
    rw [hce]
  show wpAny (model X.prog X.w) X.A (noteFrame (.ref a) ce) _ _ s'
  rw [hnote]
  rw [hs] at fl
  refine PXN.looks_onZ L2N.Zn.steady hfr hf fl fun h1 hh up1 => ?_
  obtain ⟨sl, hC1⟩ := up1 _ _ hC' (fun vs z => by rw [hdC] at z; cases z)
  obtain ⟨k1, k2, k3, k4⟩ := hh
  refine ⟨m, ⟨_, es, ep, hC1, hdC, rC⟩, fun h2 m2 _ sb => ?_⟩
  obtain ⟨oe, vs, T, oT, ts, he, hz, hd, hv1, hnT, hTe, hT, hdT, h3⟩ := k4
  have aC : a ≠ ce.locals := fun z => by
    rw [z, hC1] at he
    cases he
    rw [hdC] at hd
    cases hd
  have tC : T ≠ ce.locals := fun z => by
    rw [z, hC1] at hT
    cases hT
    rw [hdC] at hdT
    cases hdT
  have kp : ∀ b o, b ≠ ce.locals → h1.get? b = some o → h2.get? b = some o := fun b o hb e => (sb.2 b hb).trans e
  -- the ground without the names
  have hideB : ∀ b o, (PySem.W.hideAll B [ce.locals]).get? b = some o → B.get? b = some o ∧ b ≠ ce.locals := fun b o e => ⟨PySem.W.of_hideAll _ e, fun z => by
    rw [z, PySem.W.hideAll_none _ (List.mem_singleton.mpr rfl)] at e
    cases e⟩
  have frC : ∀ L ∈ frs (X.env :: X.outer), L ≠ ce.locals := fun L hL z => nfr (by rw [hs, ← z]; exact hL)
  have nB : ∀ b, B.get? b = none → (PySem.W.hideAll B [ce.locals]).get? b = none := fun b e => by
    cases q : (PySem.W.hideAll B [ce.locals]).get? b with
    | none => rfl
    | some o =>
      rw [(hideB b o q).1] at e
      cases e
  have held : HandSPX.HeldZ (PySem.W.hideAll B [ce.locals]) (X.env :: X.outer) a (L2N.Zn cls d) X.env.locals h2 := by
    refine ⟨fun b o e => kp b o (hideB b o e).2 (k1 b o (hideB b o e).1), nB _ k2, ?_, oe, vs, T, oT, ts, kp _ _ aC he, hz, hd, hv1, nB _ hnT, hTe, kp _ _ tC hT, hdT, h3⟩
    have q : h1.FunFrames (PySem.W.hideAll B [ce.locals]) (X.env :: X.outer) := funFrames_none k3 fun L hL => nB _ (k3.mem hL).1
    exact frames_keep q fun L hL o e => kp L o (frC L hL) e
  unfold PySem.passOn
  refine wpAny_bind (wpAny_field (kp _ _ aC he) hd hv1 ?_)
  rw [if_neg (show ¬ ((Value.ref T == Value.none) = true) from by simp)]
  rw [hce, hf]
  refine wpAny_bind (HandSPX.setFlight_onZ held fun h3' held' up3 => ?_)
  refine wpAny_throw ?_
  have J2 : L2.Inv X pins σ H' { sI with heap := PySem.W.hideAll sI.heap [ce.locals], toks := sI.toks } := J.turned (fun b o hb e => PySem.W.hideAll_get _ e (fun z => hb (List.mem_singleton.mp z))) fC'.1 fC'.2.1 fC'.2.2.2.1 fC'.2.2.2.2.1 fC'.2.2.2.2.2
  refine tk _ _ ⟨a, PySem.W.hideAll B [ce.locals], _, pins, σ, H', cls, d, rfl, J2, fun b o e hb => ?_, fun b o e hn => ?_, ?_, na, os, ag, hE⟩
  · have e0 := PySem.W.of_hideAll _ e
    refine PySem.W.hideAll_get _ (nb b o e0 hb) fun z => ?_
    rw [List.mem_singleton.mp z, PySem.W.hideAll_none _ (List.mem_singleton.mpr rfl)] at e
    cases e
  · have e0 := PySem.W.of_hideAll _ e
    have bC : b ≠ ce.locals := fun z => by
      rw [z, PySem.W.hideAll_none _ (List.mem_singleton.mpr rfl)] at e
      cases e
    obtain ⟨s1, e1⟩ := up b o e0 hn
    obtain ⟨s2, e2⟩ := up1 b _ e1 hn
    obtain ⟨s3, e3⟩ := up3 b { o with slots := s2 } (kp b _ bC e2) hn
    exact ⟨s3, e3⟩
  · rw [hs]
    exact .inr (.inr held')
end
end DL
set_option Elab.async false
set_option linter.all false
set_option maxRecDepth 100000
set_option maxHeartbeats 4000000
namespace DL
open PySem PySem.Spec PyProof.Rows L2
abbrev Cx.wx (X : Cx) (xe : Value → Shared → Prop) : Cx := { X with xe := xe }
theorem ok_wx {X : Cx} (ok : X.Ok) (xe : Value → Shared → Prop) : (Cx.wx X xe).Ok :=
  ⟨ok.mod, ok.kind, ok.glob, ok.blt, ok.above, ok.inj, ok.has, ok.cab, ok.hd, ok.frames, ok.stk, ok.exf, ok.bs, ok.bsz, ok.noex, ok.exfs, ok.funs, ok.frf⟩
theorem ok_xw {X : Cx} {xe : Value → Shared → Prop} (ok : (Cx.wx X xe).Ok) : X.Ok :=
  ⟨ok.mod, ok.kind, ok.glob, ok.blt, ok.above, ok.inj, ok.has, ok.cab, ok.hd, ok.frames, ok.stk, ok.exf, ok.bs, ok.bsz, ok.noex, ok.exfs, ok.funs, ok.frf⟩
theorem inv_wx {X : Cx} {pins : List (Addr × Obj)} {σ : L2.St} {H : Hp} {s : Shared} (I : L2.Inv X pins σ H s) (xe : Value → Shared → Prop) : L2.Inv (Cx.wx X xe) pins σ H s :=
  ⟨ok_wx I.ok _, I.os, I.bare, I.base, I.loc, I.cell, I.free, I.freeC, I.pin, I.hok, I.len⟩
theorem inv_xw {X : Cx} {pins : List (Addr × Obj)} {σ : L2.St} {H : Hp} {s : Shared} {xe : Value → Shared → Prop} (I : L2.Inv (Cx.wx X xe) pins σ H s) : L2.Inv X pins σ H s :=
  ⟨ok_xw I.ok, I.os, I.bare, I.base, I.loc, I.cell, I.free, I.freeC, I.pin, I.hok, I.len⟩
/-- what a call in the block lets out -/
def bxe (X : Cx) (E : XK) (u : Value) (s' : Shared) : Prop := ∃ (pins : List (Addr × Obj)) (σ : L2.St) (H : Hp) (s : Shared), L2.Inv X pins σ H s ∧ L2N.CX X.prog X.w X.stack H s E u s'
/-- the block's context, a call's exception let out -/
abbrev Cx.bkE (X : Cx) (E : XK) (scope : Scope) (s : Shared) (H : Hp) (C : Addr) (cl : List (Str × Addr)) (fp : List Addr) : Cx := Cx.wx (Cx.bk X scope s H C cl fp) (bxe (Cx.bk X scope s H C cl fp) E)
section
variable {X : Cx} {E : XK}
theorem lcX_core {pins : List (Addr × Obj)} {s : Shared} {σ : L2.St} {H : Hp} {Q : VK} {elt tg iter : Expr} {ifs : List Expr} {scope : Scope} {own : List (Str × Nat)} {pos pos' : Pos} {wi : TI} {g : TG} {tt : TT} {te : TE} {Qf : Value → Shared → Prop}
    (hst : X.stack = X.env :: X.outer) (hfr : X.env.frame = some X.env.locals) (tk : L2N.Takes X (fun cls d _ H => E cls d H))
    (hc : X.calm = true) (hN : X.N.Nodup) (I : L2.Inv X pins σ H s) (hi : PI X tg iter wi) (ok : BlkOk X.N X.env.scope scope own)
    (hg : ∀ s H C cl fp, PG (Cx.bk X scope s H C cl fp) tg g) (ht : ∀ s H C cl fp, PTs (Cx.bk X scope s H C cl fp) ifs tt) (he : ∀ s H C cl fp, PE (Cx.bkE X E scope s H C cl fp) elt te)
    (hs : ∀ x, foldedSetIterable iter X.env x = pure x) (h : tLc wi g tt te (own.map (·.2)) σ H Q)
    (hRR : ∀ D C s' m H', L2.Inv X pins σ H' s' → Q (.ref D) H' → s'.heap.Ns C m → FpOk X pins H' C → ∀ h', Heap.SameBut C s'.heap h' → Qf (.ref D) { s' with heap := h' }) :
    wpAny (model X.prog X.w) X.A (comprehension (.ListComp elt [⟨tg, iter, ifs, 0⟩] scope pos) scope X.env pos' (newList []) false (eval iter X.env) none) Qf X.xe s := by
  have hfree : ∀ y ∈ scope.names, y.2 = .free → ∃ c, X.env.cells.lookup y.1 = some c := fun y hy e => by
    rcases ok.free y hy e with k | k
    · exact I.ok.has _ (.inl k)
    · exact I.ok.has _ (.inr k)
  refine comprehension_at (use := none) rfl hs (closure_ok hfree) ok.kind (fun y hy e => by rw [ok.uniq y hy, e])
    (thn (hi.run pins s σ H _ I h) fun xv s1 hx => thn hx fun itv s2 h2 => ?_)
  obtain ⟨it, fp, tn, J, H2, e, I2, T, st2, f2, q⟩ := h2
  subst e
  refine wpAny_newObj_type (newEnv_comp ?_) (by show 0 ≤ sizeLine; decide)
  generalize hD : s2.heap.objs.size = D
  have hDn : H2 D = none := I2.hok.fresh (Nat.le_of_eq hD)
  obtain ⟨W, ⟨m0, w0⟩, turn⟩ := q D hDn
  generalize hs3 : ({ s2 with heap := s2.heap.push { cls := .type "list", data := .seq ([] : List Value).toArray } } : Shared) = s3
  have I3 : L2.Inv X pins σ (upd H2 D (.lst [])) s3 := by
    rw [← hs3]
    refine I2.laid (t' := s2.toks) (fun b o e => Heap.get?_push_of_some _ e) (Nat.le_of_eq hD) ⟨Nat.zero_le _, [], 0, .nil, ?_⟩
    rw [← hD]
    exact Heap.get?_push_size _ rfl
  have h3 : s3.heap = s2.heap.push { cls := .type "list", data := .seq ([] : List Value).toArray } := by rw [← hs3]
  have sz : ∀ b ∈ fp, b < s2.heap.objs.size := fun b hb => by
    obtain ⟨o, e, _⟩ := T.obj _ _ st2 b hb
    exact Heap.lt_size e
  have f3 : ∀ b ∈ fp, FpOk X pins (upd H2 D (.lst [])) b ∧ b < s3.heap.objs.size := fun b hb => by
    have hlt := sz b hb
    refine ⟨⟨?_, (f2 b hb).2⟩, by rw [h3, Heap.size_push]; exact Nat.lt_succ_of_lt hlt⟩
    rw [upd_ne (by rw [← hD]; exact Nat.ne_of_lt hlt)]
    exact (f2 b hb).1
  have st3 : tn 0 s3.heap := T.keep _ _ _ st2 fun b _ o e => by rw [h3]; exact Heap.get?_push_of_some _ e
  have I4 := block_start I3 ok hN f3
  have pg : PG (X.blk s3 (upd H2 D (.lst [])) scope (compEnvC scope (cellsFrom (s3.heap.objs.size + 1) scope.names (cloFrom X.env.cells scope.names [])) s3.heap.objs.size X.env) fp) tg g := hg s3 (upd H2 D (.lst [])) s3.heap.objs.size (cellsFrom (s3.heap.objs.size + 1) scope.names (cloFrom X.env.cells scope.names [])) fp
  have pt : PTs (X.blk s3 (upd H2 D (.lst [])) scope (compEnvC scope (cellsFrom (s3.heap.objs.size + 1) scope.names (cloFrom X.env.cells scope.names [])) s3.heap.objs.size X.env) fp) ifs tt := ht s3 (upd H2 D (.lst [])) s3.heap.objs.size (cellsFrom (s3.heap.objs.size + 1) scope.names (cloFrom X.env.cells scope.names [])) fp
  have pe : PE (Cx.wx (X.blk s3 (upd H2 D (.lst [])) scope (compEnvC scope (cellsFrom (s3.heap.objs.size + 1) scope.names (cloFrom X.env.cells scope.names [])) s3.heap.objs.size X.env) fp) (bxe (X.blk s3 (upd H2 D (.lst [])) scope (compEnvC scope (cellsFrom (s3.heap.objs.size + 1) scope.names (cloFrom X.env.cells scope.names [])) s3.heap.objs.size X.env) fp) E)) elt te := he s3 (upd H2 D (.lst [])) s3.heap.objs.size (cellsFrom (s3.heap.objs.size + 1) scope.names (cloFrom X.env.cells scope.names [])) fp
  show codeAny _ _ (.compStart (.ListComp elt [⟨tg, iter, ifs, 0⟩] scope pos) 0 (.ref it) (.ref D) (compEnvC scope (cellsFrom (s3.heap.objs.size + 1) scope.names (cloFrom X.env.cells scope.names [])) s3.heap.objs.size X.env)) (compEnds (model X.prog X.w) X.A X.xe none Qf (.ref D) (compEnvC scope (cellsFrom (s3.heap.objs.size + 1) scope.names (cloFrom X.env.cells scope.names [])) s3.heap.objs.size X.env)) { s3 with heap := pushCells (s3.heap.push { cls := .type "dict", data := .dict #[] }) scope.names }
  have nfp : ∀ b ∈ fp, (upd H2 D (.lst [])) b = none := fun b hb => (f3 b hb).1.1
  have cF : (compEnvC scope (cellsFrom (s3.heap.objs.size + 1) scope.names (cloFrom X.env.cells scope.names [])) s3.heap.objs.size X.env).frame = X.env.frame := rfl
  have cL : (compEnvC scope (cellsFrom (s3.heap.objs.size + 1) scope.names (cloFrom X.env.cells scope.names [])) s3.heap.objs.size X.env).locals = s3.heap.objs.size := rfl
  generalize hce : compEnvC scope (cellsFrom (s3.heap.objs.size + 1) scope.names (cloFrom X.env.cells scope.names [])) s3.heap.objs.size X.env = ce at I4 pg pt pe cF cL ⊢
  generalize hH3 : upd H2 D (.lst []) = H3 at I3 I4 pg pt pe w0 nfp f3
  generalize hs4 : ({ s3 with heap := pushCells (s3.heap.push { cls := .type "dict", data := .dict #[] }) scope.names } : Shared) = s4 at I4 ⊢
  have st4 : tn 0 s4.heap := T.keep _ _ _ st3 fun b _ o e => by rw [← hs4]; exact pushCells_keeps _ _ _ _ (Heap.get?_push_of_some _ e)
  have stat : ∀ {σ' : L2.St} {H' : Hp} {s' : Shared}, L2.Inv (X.blk s3 H3 scope ce fp) [] σ' H' s' → (∀ b ∈ fp, H' b = none) → ∀ b ∈ fp, FpOk (X.blk s3 H3 scope ce fp) [] H' b := fun {σ' H' s'} I' hn b hb =>
    ⟨hn b hb, (I'.ok.exf b hb).1, I'.ok.exfs b hb, .inl hb, fun x c e => (I'.ok.exf b hb).2 x c e, fun p hp => absurd (show p ∈ ([] : List (Addr × Obj)) ++ [] from hp) (by simp)⟩
  have back : ∀ {pins' : List (Addr × Obj)} {σ' : L2.St} {H' : Hp} {s' : Shared}, L2.Inv (X.blk s3 H3 scope ce fp) pins' σ' H' s' → L2.Inv X pins σ H' s' ∧ (∃ m, s'.heap.Ns ce.locals m) ∧ FpOk X pins H' ce.locals := fun {pins' σ' H' s'} I' => by
    refine ⟨I3.call' (ch := fp) I'.os I'.base I'.hok I'.bare fun b hb => ⟨(f3 b hb).1.2.2.2.1, (f3 b hb).1.2.1, (f3 b hb).1.2.2.2.2.1, (f3 b hb).1.2.2.2.2.2⟩, ?_, ?_⟩
    · obtain ⟨m, hn, _⟩ := I'.loc
      exact ⟨m, hn⟩
    · exact I3.fpOk (Nat.le_of_eq cL.symm) I'.free
  have loop : codeAny (model X.prog X.w) X.A (.compLoop (.ListComp elt [⟨tg, iter, ifs, 0⟩] scope pos) 0 (.ref it) (.ref D) ce) (compEnds (model X.prog X.w) X.A X.xe none Qf (.ref D) ce) s4 := by
    refine compLoop_any (fun n s' => ∃ i H', L2.Inv (X.blk s3 H3 scope ce fp) [] (wipe σ (own.map (·.2))) H' s' ∧ tn i s'.heap ∧ (∀ b ∈ fp, H' b = none) ∧ W i n H') ?_ m0 ⟨0, H3, I4, st4, nfp, w0⟩
    rintro n s5 ⟨i, H5, I5, st5, n5, w5⟩
    rcases turn i n H5 w5 with ⟨stop, qq⟩ | ⟨go, Nx, hNx, step⟩
    · have td := T.done (X.blk s3 H3 scope ce fp) rfl rfl rfl hc i [] s5 _ H5 (fun _ _ => False) I5 (stat I5 n5) st5 stop
      refine thnF td fun r s6 ⟨hr, I6⟩ => ?_
      subst hr
      obtain ⟨I7, ⟨m, hn⟩, fC⟩ := back I6
      exact ⟨m, hn, fun h' sb => hRR D ce.locals s6 m H5 I7 qq hn fC h' sb⟩
    · have ti := T.item (X.blk s3 H3 scope ce fp) rfl rfl rfl hc i [] s5 _ H5 (fun _ _ => False) I5 (stat I5 n5) st5 go
      refine thnF ti fun r s6 ⟨u, hr, h6⟩ => ?_
      subst hr
      refine thnF h6 fun _ s7 ⟨x, H7, I7, r7, y7, st7, n7⟩ => ?_
      have I7' := I7.pinned (stat I7 n7) (T.obj _ _ st7)
      refine thnF (pg.run _ s7 _ H7 x u _ I7' r7 (step x H7 y7)) fun _ s8 ⟨σ8, H8, I8, hw8, q8⟩ => ?_
      refine thnF (pt.run _ s8 σ8 H8 _ I8 q8) fun b s9 ⟨H9, I9, q9⟩ => ?_
      have fin : ∀ {s' : Shared} {H' : Hp}, L2.Inv (X.blk s3 H3 scope ce fp) ([] ++ pinsAt fp s7.heap) σ8 H' s' → Nx H' → ∃ m, m < n ∧ ∃ i H', L2.Inv (X.blk s3 H3 scope ce fp) [] (wipe σ (own.map (·.2))) H' s' ∧ tn i s'.heap ∧ (∀ b ∈ fp, H' b = none) ∧ W i m H' := fun {s' H'} I' nx => by
        obtain ⟨m', hm, w'⟩ := hNx H' nx
        have pin' : ∀ b ∈ fp, ∀ o, s7.heap.get? b = some o → s'.heap.get? b = some o ∧ H' b = none := fun b hb o e =>
          let z := I'.pin (b, o) (List.mem_append_right _ (List.mem_append_right _ (mem_pinsAt hb e)))
          ⟨z.1, z.2.1⟩
        have hl : (wipe σ (own.map (·.2))).length = σ8.length := by rw [← hw8, wipe_length]
        refine ⟨m', hm, i + 1, H', (I'.unpinned (pins := [])).weak hl (fun j v e => ?_), T.keep _ _ _ st7 fun b hb o e => (pin' b hb o e).1, fun b hb => ?_, w'⟩
        · rw [← hw8] at e
          exact (wipe_some e).1
        · obtain ⟨o, e, _⟩ := T.obj _ _ st7 b hb
          exact (pin' b hb o e).2
      cases b with
      | false =>
        simp only [Bool.false_eq_true, if_false] at q9 ⊢
        exact fin I9 q9
      | true =>
        simp only [if_true] at q9 ⊢
        refine wpAny_mono (pe.run _ s9 σ8 H9 _ (inv_wx I9 _) q9) (fun z s10 ⟨yv, H10, I10, r10, acc, hD10, hz10, nx⟩ => ?_) (fun u s10 ⟨p5, σ5, H5', s5', I5', c5⟩ => ?_)
        · exact app_ok (X := X.blk s3 H3 scope ce fp) (inv_xw I10) hD10 hz10 r10 fun s11 I11 => fin I11 nx
        · obtain ⟨I7, ⟨m, hn⟩, fC⟩ := back I5'
          exact comp_fails hst hfr tk cF I7 c5 fC hn
  exact codeAny_compStart_list loop (T.self X.A 0 _ _ _ st4 loop)
theorem pe_lcX {elt tg iter : Expr} {ifs : List Expr} {scope : Scope} {own : List (Str × Nat)} {pos : Pos} {wi : TI} {g : TG} {tt : TT} {te : TE}
    (hst : X.stack = X.env :: X.outer) (hfr : X.env.frame = some X.env.locals) (tk : L2N.Takes X (fun cls d _ H => E cls d H))
    (hc : X.calm = true) (hN : X.N.Nodup) (hi : PI X tg iter wi) (ok : BlkOk X.N X.env.scope scope own)
    (hg : ∀ s H C cl fp, PG (Cx.bk X scope s H C cl fp) tg g) (ht : ∀ s H C cl fp, PTs (Cx.bk X scope s H C cl fp) ifs tt) (he : ∀ s H C cl fp, PE (Cx.bkE X E scope s H C cl fp) elt te)
    (hs : ∀ x, foldedSetIterable iter X.env x = pure x := by intro _; rfl) : PE X (.ListComp elt [⟨tg, iter, ifs, 0⟩] scope pos) (tLc wi g tt te (own.map (·.2))) := by
  refine ⟨fun pins s σ H Q I h => ?_⟩
  rw [eval_ListComp]
  refine lcX_core hst hfr tk hc hN I hi ok hg ht he hs h fun D C s' m H' I' q hn f h'' sb => ?_
  obtain ⟨f0, f1, f2, f3, f4, f5⟩ := f
  exact ⟨.ref D, H', I'.turned (t' := s'.toks) (fun b o hb e => (sb.2 b hb).trans e) f0 f1 f3 f4 f5, rfl, q⟩
end
end DL
set_option Elab.async false
set_option linter.all false
set_option maxRecDepth 100000
set_option maxHeartbeats 4000000
namespace DL
open PySem PySem.Spec PyProof.Rows L2
/-! ### a comprehension whose element may raise -/
section
variable {T : Tb} {X : Cx} {f : Fx} {Γ : List Sl} {e a b c o : Expr} {es : List Expr} {Q : D → Prop} {pos p : Pos} {ds : List D} {as : List Sl} {k m : Nat}
theorem we_callX {x : Str} {C : Ct} {S : Oc → Prop} (F : Dfn T X.prog X.w X.K X.mg X.base x k C) (hx : Passes (L2N.CX X.prog X.w) X (ER T X.mg f.H0 f.R)) (hr : Room m X.A) (hk : k ≤ m) (ha : WA T X f Γ (e :: es) fun z => z = as) (hC : C as S) (hS : ∀ r, S r → Okr Q f.R r) (hg : Gl X x := by rfl) (hdb : (x == ("__debug__" : Str)) = false := by decide)
    (he : starEach (e :: es) X.env = (false, eval e X.env) :: starEach es X.env := by rfl) (hpl : (backTo pos (starEach es X.env)).any (·.1) = false := by rfl) : WE T X f Γ (.Call (.Name x p) (e :: es) [] pos) Q := by
  obtain ⟨fa, fd, ps, G, hm, kp, bi⟩ := F.ex
  refine .of (pe_call (CX := L2N.CX X.prog X.w) (E := ER T X.mg f.H0 f.R) G (hr.mono hk) hg hm kp bi .nil hx ha hdb he hpl) fun σ G H QQ en w => ⟨G, en, fun vs as' G' H' st ar q => ?_⟩
  subst q
  refine ⟨G', _, S, st.s, (by rw [List.append_nil]; exact ar), hC, fun d hd v G2 H2 s2 p2 => w v d G2 H2 (st.trans s2) p2 (hS _ hd), fun n hn c H2 hc l2 => ⟨rfl, (en.st.le.trans st.le).trans l2, n, c, hS _ hn, hc, rfl⟩⟩
theorem passE {E : XK} {scope : Scope} {s : Shared} {H : Hp} {C : Addr} {cl : List (Str × Addr)} {fp : List Addr} : Passes (L2N.CX X.prog X.w) (Cx.bkE X E scope s H C cl fp) E := fun pins σ H s e s' I c => ⟨pins, σ, H, s, inv_xw I, c⟩
theorem we_lcX {elt tg iter : Expr} {scope : Scope} {own : List (Str × Nat)} {ns : List Nat} {Tg : D → List Sl → List Sl → Prop} {gd : D → Bool} {vd : D → D} (B : Bd T X f k) (hst : X.stack = X.env :: X.outer) (hfr : X.env.frame = some X.env.locals) (hN : X.N.Nodup)
    (hi : WI T X f Γ tg iter (fun z => z = ds)) (ok : BlkOk X.N X.env.scope scope own) (hn : ∀ i ∈ ns, i ∈ own.map (·.2)) (hg : ∀ s H C cl fp, WG T (Cx.bk X scope s H C cl fp) f.no tg ns Tg)
    (hd : ∀ (i : Nat) (d : D), ds[i]? = some d → ∃ Γ1, Tg d (wipeG Γ (own.map (·.2))) Γ1 ∧ ∀ s H C cl fp, WE T (Cx.bkE X (ER T X.mg f.H0 f.R) scope s H C cl fp) f Γ1 elt (fun z => gd d = true ∧ z = vd d))
    (hz : ds.length ≤ 90000) (hs : ∀ x, foldedSetIterable iter X.env x = pure x := by intro _; rfl) : WE T X f Γ (.ListComp elt [⟨tg, iter, [], 0⟩] scope pos) (fun z => (∀ d ∈ ds, gd d = true) ∧ z = .list (ds.map vd)) := by
  obtain ⟨wi, p, kw⟩ := hi
  refine .of (pe_lcX (own := own) (wi := wi) (E := ER T X.mg f.H0 f.R) hst hfr B.tk B.calm hN p ok
    (g := fun v σ H Q => ∀ s H' C cl fp, ∃ g, PG (Cx.bk X scope s H' C cl fp) tg g ∧ g v σ H Q)
    (tt := tYes)
    (te := fun σ H QQ => ∃ Γ1 Q, (∀ s H' C cl fp, WE T (Cx.bkE X (ER T X.mg f.H0 f.R) scope s H' C cl fp) f Γ1 elt Q) ∧ rd T X f Γ1 Q σ H QQ)
    (fun s H C cl fp => ⟨fun pins s' σ H' v u Q I r h => ?_⟩) (fun s H C cl fp => pts_nil) (fun s H C cl fp => ⟨fun pins s' σ H' Q I h => ?_⟩) hs) fun σ G H QQ en w => kw σ G H _ en fun J ds' G1 H1 st1 it e => ?_
  · obtain ⟨g, pg, hq⟩ := h s H C cl fp
    exact pg.run pins s' σ H' v u Q I r hq
  · obtain ⟨Γ1, d, h1, h2⟩ := h
    exact (h1 s H C cl fp).pe.run pins s' σ H' Q I h2
  · subst e
    intro q hq
    have en1 := en.step st1
    refine ⟨fun i m H' => m = ds'.length - i ∧ i ≤ ds'.length ∧ ∃ G' acc, Stp T G1 H1 G' H' ∧ G' q = none ∧ H' q = some (.lst acc) ∧ (∀ d ∈ ds'.take i, gd d = true) ∧ DpAll X.K G' acc ((ds'.take i).map vd), ⟨ds'.length, by simp, Nat.zero_le _, G1, [], ?_, st1.s.none hq, upd_same, ?_, ?_⟩, ?_⟩
    · exact .keep st1.s (.new hq)
    · rw [List.take_zero]
      intro d hd
      cases hd
    · rw [List.take_zero]
      exact .nil
    · rintro i m H' ⟨rfl, hi, G', acc, st', g0, h0, oks, al⟩
      obtain ⟨i1, i2⟩ := it i G' H' st'.g st'.s
      by_cases hlt : i < ds'.length
      · have e0 := List.getElem?_eq_getElem hlt
        obtain ⟨go, yl⟩ := i1 _ e0
        obtain ⟨Γ1, t1, he⟩ := hd i _ e0
        have tk : ds'.take (i + 1) = ds'.take i ++ [ds'[i]] := by
          rw [List.take_succ, e0]
          rfl
        refine .inr ⟨go, fun H2 => ∃ G2 acc2, Stp T G1 H1 G2 H2 ∧ G2 q = none ∧ H2 q = some (.lst acc2) ∧ (∀ d ∈ ds'.take (i + 1), gd d = true) ∧ DpAll X.K G2 acc2 ((ds'.take (i + 1)).map vd), fun H2 ⟨G2, acc2, a1, a2, a3, a4, a5⟩ => ⟨_, by omega, rfl, hlt, G2, acc2, a1, a2, a3, a4, a5⟩, fun x H2 y s5 H5 C5 cl5 fp5 => ?_⟩
        obtain ⟨e, dp⟩ := yl x H2 y
        subst e
        obtain ⟨g, pg, kg⟩ := hg s5 H5 C5 cl5 fp5
        have enw := (env_wipe (en1.step st') (own.map (·.2))).no
        refine ⟨g, pg, kg x _ _ G' _ _ Γ1 _ enw dp t1 fun σ2 en2 q2 l2 => ⟨wipe_same hn ?_ q2, Γ1, _, he, G', en2.ofno, fun v d G4 H4 s4 dp4 ⟨o4, e4⟩ => ?_⟩⟩
        · rw [l2, wipe_length]
        · subst e4
          have h4 := s4.le.h _ _ h0 nt_lst
          have g4 := s4.n q _ g0 h0 nt_lst
          refine ⟨acc, h4, Evl.sz_lt ?_, G4, acc ++ [v], (st'.trans s4).mut (fr_none hq) h4 g4, g4, upd_same, ?_, ?_⟩
          · rw [dpa_len al, List.length_map, List.length_take]
            omega
          · rw [tk]
            intro d hd
            rcases List.mem_append.mp hd with z | z
            · exact oks d z
            · rw [List.mem_singleton.mp z]
              exact o4
          · rw [tk, List.map_append]
            exact dpa_app (dpa_mono s4.g _ _ al) (.cons dp4 .nil)
      · have e : i = ds'.length := by omega
        subst e
        refine .inl ⟨i2 (Nat.le_refl _), ?_⟩
        rw [List.take_length] at al oks
        have gx : Evl.Ex G' (upd G' q (.lst acc)) := Evl.Ex.new g0
        have st2 : Stp T G1 H1 (upd G' q (.lst acc)) H' := by
          refine ⟨st'.le, st'.g.trans gx, fun b o e => ?_, fun b o h1 h2 h3 => ?_⟩
          · by_cases hb : b = q
            · subst hb
              rw [upd_same] at e
              cases e
              exact ⟨h0, nt_lst⟩
            · rw [upd_ne hb] at e
              exact st'.s b o e
          · rw [upd_ne (ne_of_none h2 hq)]
            exact st'.n b o h1 h2 h3
        exact w _ _ _ _ (st1.trans st2) (.lst (.of upd_same) (dpa_mono gx _ _ al)) ⟨oks, rfl⟩
end
/-! ### texts -/
theorem szT {n : Nat} (h : n ≤ 100000) : n ≤ sizeLine := Evl.sz_of h
/-- the signs of a text, each a text -/
def chD (x : Str) : List D := x.cps.toList.map fun c => .str ⟨#[c]⟩
theorem it_str {K : PySem.W.Frag} {G1 : Hp} {x : Str} : ItOk K (Its x) G1 (chD x) := fun i G2 H g sb => by
  have e0 : x.cps.toList[i]? = x.cps[i]? := Array.getElem?_toList
  refine ⟨fun d e => ?_, fun h => ?_⟩
  · unfold chD at e
    rw [List.getElem?_map] at e
    cases q : x.cps.toList[i]? with
    | none =>
      rw [q] at e
      cases e
    | some c =>
      rw [q] at e
      cases e
      have hl := (List.getElem?_eq_some_iff.mp q).1
      rw [Array.length_toList] at hl
      refine ⟨hl, fun y H' ⟨e1, c', e2, e3⟩ => ⟨e1, ?_⟩⟩
      rw [← e0, q] at e2
      cases e2
      rw [e3]
      exact .str _
  · unfold chD at h
    rw [List.length_map, Array.length_toList] at h
    exact h
section
variable {T : Tb} {X : Cx} {f : Fx} {Γ : List Sl} {e a b c o tg : Expr} {Q Qa Qb : D → Prop} {pos p p2 apos : Pos} {i j : Int} {x y z : Str} {l u : Option Expr} {lo hi : Option Int}
theorem de_strI (h : DE T X f Γ e (.int i)) (hi : i.natAbs.log2 < 1920) (hm : X.mg "str" = none) (hg : Gl X "str" := by rfl) (hs : Sta X e := by rfl) : DE T X f Γ (.Call (.Name "str" p) [e] [] pos) (.str (toString i)) :=
  de_cb (pe_callTy call_str_int hg hm (by decide +kernel) (da_cons h da_nil hs) (by decide) (by decide) hs bpl) fun G H vs QQ s dp k => by
    obtain ⟨v, rfl, dq⟩ := dpa_1 dp
    cases dq
    exact ⟨i, rfl, hi, k _ _ G H (.refl s) (.str _) rfl⟩
theorem de_adds (ha : DE T X f Γ a (.str x)) (hb : DE T X f Γ b (.str y)) (hl : x.length + y.length ≤ 100000) : DE T X f Γ (.BinOp a .Add b pos) (.str (x ++ y)) :=
  de_op (pe_op op_add_str ha.pe hb.pe) fun G H v w QQ s d1 d2 k => by
    cases d1
    cases d2
    exact ⟨x, y, rfl, rfl, szT hl, k _ _ G H (.refl s) (.str _) rfl⟩
theorem we_adds {P1 P2 : Str → Prop} (ha : WE T X f Γ a fun d => ∃ x, d = .str x ∧ P1 x) (hb : WE T X f Γ b fun d => ∃ x, d = .str x ∧ P2 x) (hl : ∀ x y, P1 x → P2 y → x.length + y.length ≤ 100000 ∧ Q (.str (x ++ y))) : WE T X f Γ (.BinOp a .Add b pos) Q :=
  we_op (pe_op op_add_str ha.pe hb.pe) fun x y G H v w QQ q1 q2 s d1 d2 k => by
    obtain ⟨x, rfl, q1⟩ := q1
    obtain ⟨y, rfl, q2⟩ := q2
    cases d1
    cases d2
    exact ⟨x, y, rfl, rfl, szT (hl x y q1 q2).1, k _ _ G H (.refl s) (.str _) (hl x y q1 q2).2⟩
theorem de_lenS (h : DE T X f Γ e (.str x)) (hl : x.length ≤ 100000) (hm : X.mg "len" = none) (hg : Gl X "len" := by rfl) (hs : Sta X e := by rfl) : DE T X f Γ (.Call (.Name "len" p) [e] [] pos) (.int x.length) :=
  de_cb (pe_callB call_len_str hg hm (by decide +kernel) (da_cons h da_nil hs) (by decide) (by decide) hs bpl) fun G H vs QQ s dp k => by
    obtain ⟨v, rfl, dq⟩ := dpa_1 dp
    cases dq
    exact ⟨x, rfl, szT hl, k _ _ G H (.refl s) (.int _) rfl⟩
theorem we_ixS (ha : DE T X f Γ a (.str x)) (hb : WE T X f Γ b Qb) (hl : x.length ≤ 100000) (hq : ∀ y, Qb y → ∃ i c, y = .int i ∧ atI x.cps.toList i = some c ∧ Q (.str ⟨#[c]⟩)) (hs : PlainIx b := by intro _ _; rfl) : WE T X f Γ (.Subscript a b pos) Q :=
  we_op (pe_ix ix_str ha.pe hb.pe hs) fun x' y G H v w QQ q1 q2 s d1 d2 k => by
    subst q1
    obtain ⟨i, c, rfl, e, q⟩ := hq y q2
    cases d1
    cases d2
    exact ⟨x, i, c, rfl, rfl, szT hl, e, k _ _ G H (.refl s) (.str _) q⟩
theorem de_slS (h : DE T X f Γ e (.str x)) (hl : DO T X f Γ l lo) (hh : DO T X f Γ u hi) (hz : x.length ≤ 100000) : DE T X f Γ (.Subscript e (.Slice l u none p2) pos) (.str (cutS x lo hi)) := by
  obtain ⟨t1, p1, k1⟩ := hl.ex
  obtain ⟨t2, p2, k2⟩ := hh.ex
  refine .of (pe_slice sl_str h.pe p1 p2) fun σ G H QQ en w => ⟨G, en, fun v d G1 H1 s1 dp q => k1 σ G1 H1 _ (en.step s1) fun G2 H2 s2 => k2 σ G2 H2 _ ((en.step s1).step s2) fun G3 H3 s3 => ?_⟩
  subst q
  cases dp
  exact ⟨x, rfl, szT hz, w _ _ _ _ (s1.trans (s2.trans s3)) (.str _) rfl⟩
theorem di_str (h : DE T X f Γ e (.str x)) : WI T X f Γ tg e (fun z => z = chD x) := ⟨_, pi_str h.pe, fun σ G H R en k => ⟨G, en, fun v d G' H' st dp q => by
  subst q
  cases dp
  exact ⟨x, rfl, k _ _ _ _ st it_str rfl⟩⟩⟩
theorem de_inS {n : Nat} (ha : DE T X f Γ a (.str ⟨#[n]⟩)) (hb : DE T X f Γ b (.str z)) (hm : behindInMarks .In b = false := by rfl) : DE T X f Γ (.Compare a [.In] [b] pos) (.bool (decide (n ∈ z.cps.toList))) :=
  de_op (pe_cmpR op_in_sign ha.pe hb.pe hm) fun G H v w QQ s d1 d2 k => by
    cases d1
    cases d2
    exact ⟨n, z, rfl, rfl, k _ _ G H (.refl s) (.bl _) rfl⟩
theorem dt_neS (ha : DE T X f Γ a (.str x)) (hb : DE T X f Γ b (.str y)) : DT T X f Γ (.Compare a [.NotEq] [b] pos) (!decide (x = y)) :=
  dt_op op_ne ha hb (nomark _) fun G H v w QQ s d1 d2 k => by
    cases d1
    cases d2
    refine ⟨rfl, ?_⟩
    rw [show decide (V.str x = V.str y) = decide (x = y) from decide_eq_decide.mpr ⟨fun h => V.str.inj h, fun h => congrArg V.str h⟩]
    exact k _ _ G H (.refl s) (.bl _) rfl
theorem de_intS (h : DE T X f Γ e (.str x)) (hi : PySem.intText? x = some i) (hl : x.length ≤ 640) (hm : X.mg "int" = none) (hg : Gl X "int" := by rfl) (hs : Sta X e := by rfl) : DE T X f Γ (.Call (.Name "int" p) [e] [] pos) (.int i) :=
  de_cb (pe_callTy call_int_str hg hm (by decide +kernel) (da_cons h da_nil hs) (by decide) (by decide) hs bpl) fun G H vs QQ s dp k => by
    obtain ⟨v, rfl, dq⟩ := dpa_1 dp
    cases dq
    exact ⟨x, i, rfl, hi, hl, k _ _ G H (.refl s) (.int _) rfl⟩
theorem de_join {ys : List Str} (ho : DE T X f Γ o (.str x)) (h : DE T X f Γ e (.list (sL ys))) (hl : (ys.map (·.length)).sum + ys.length * x.length ≤ 16777216) (hs : starEach [e] X.env = [(false, eval e X.env)] := by rfl) (hbase : attributeBase o "join" X.env (eval o X.env) = eval o X.env := by rfl) (hline : (apos.endLine == pos.line) = true := by rfl) :
    DE T X f Γ (.Call (.Attribute o "join" apos) [e] [] pos) (.str (Txt.join x ys)) :=
  .of (pe_join ho.pe h.pe hs hbase hline) fun σ G H QQ en w => ⟨G, en, fun v d G1 H1 s1 dp q => by
    subst q
    cases dp
    refine ⟨⟨_, rfl⟩, G1, en.step s1, fun v2 d2 G2 H2 s2 dp2 q2 => ?_⟩
    subst q2
    cases dp2 with
    | lst sq al =>
      have e := dpa_sL al
      subst e
      exact ⟨x, _, ys, rfl, rfl, .inl (sq_up s2.s sq), hl, w _ _ G2 H2 (s1.trans s2) (.str _) rfl⟩⟩
theorem de_split (ho : DE T X f Γ o (.str x)) (h : DE T X f Γ e (.str y)) (hy : (y.length == 0) = false) (hl : x.length + 2 ≤ 100000) (hs : starEach [e] X.env = [(false, eval e X.env)] := by rfl) (hbase : attributeBase o "split" X.env (eval o X.env) = eval o X.env := by rfl) (hline : (apos.endLine == pos.line) = true := by rfl) :
    DE T X f Γ (.Call (.Attribute o "split" apos) [e] [] pos) (.list (sL (Txt.split x y))) :=
  .of (pe_split ho.pe h.pe hs hbase hline) fun σ G H QQ en w => ⟨G, en, fun v d G1 H1 s1 dp q => by
    subst q
    cases dp
    refine ⟨⟨_, rfl⟩, G1, en.step s1, fun v2 d2 G2 H2 s2 dp2 q2 => ?_⟩
    subst q2
    cases dp2
    exact ⟨x, y, rfl, rfl, hy, szT hl, fun r hr => w _ _ _ _ ((s1.trans s2).trans (.new s2.s hr nt_lst)) (.lst (.of upd_same) (sL_dpa _)) rfl⟩⟩
end
end DL
set_option Elab.async false
set_option linter.all false
set_option maxRecDepth 100000
namespace KR
open PySem DL
/-! ### roots -/
def rootN : Nat → Nat
  | 0 => 0
  | n + 1 => if (rootN n + 1) * (rootN n + 1) ≤ n + 1 then rootN n + 1 else rootN n
theorem rootN_spec : ∀ n, rootN n * rootN n ≤ n ∧ n < (rootN n + 1) * (rootN n + 1)
  | 0 => by decide
  | n + 1 => by
    obtain ⟨h1, h2⟩ := rootN_spec n
    unfold rootN
    split
    · rename_i h
      refine ⟨h, ?_⟩
      have : (rootN n + 1 + 1) * (rootN n + 1 + 1) = (rootN n + 1) * (rootN n + 1) + 2 * (rootN n + 1) + 1 := by grind
      omega
    · rename_i h
      exact ⟨by omega, by omega⟩
def rootI (n : Int) : Int := (rootN n.toNat : Int)
theorem sq_le_sq {a b : Int} (ha : 0 ≤ a) (h : a ≤ b) : a * a ≤ b * b := Int.mul_le_mul h h ha (Int.le_trans ha h)
theorem lt_of_sq {a b : Int} (hb : 0 ≤ b) (h : a * a < b * b) : a < b := by
  rcases Int.lt_or_le a b with z | z
  · exact z
  · have := sq_le_sq hb z
    omega
theorem rootI_spec {n : Int} (h : 0 ≤ n) : 0 ≤ rootI n ∧ rootI n * rootI n ≤ n ∧ n < (rootI n + 1) * (rootI n + 1) := by
  obtain ⟨h1, h2⟩ := rootN_spec n.toNat
  refine ⟨Int.natCast_nonneg _, ?_, ?_⟩
  · have z : ((rootN n.toNat * rootN n.toNat : Nat) : Int) ≤ (n.toNat : Int) := Int.ofNat_le.mpr h1
    rw [Int.toNat_of_nonneg h, Int.natCast_mul] at z
    exact z
  · have z : (n.toNat : Int) < (((rootN n.toNat + 1) * (rootN n.toNat + 1) : Nat) : Int) := Int.ofNat_lt.mpr h2
    rw [Int.toNat_of_nonneg h, Int.natCast_mul] at z
    exact z
theorem rootI_unique {n r : Int} (h : 0 ≤ n) (h0 : 0 ≤ r) (h1 : r * r ≤ n) (h2 : n < (r + 1) * (r + 1)) : r = rootI n := by
  obtain ⟨g0, g1, g2⟩ := rootI_spec h
  have a : r < rootI n + 1 := lt_of_sq (by omega) (by omega)
  have b : rootI n < r + 1 := lt_of_sq (by omega) (by omega)
  omega
theorem rootI_sq {r : Int} (h : 0 ≤ r) : rootI (r * r) = r := (rootI_unique (Int.mul_nonneg h h) h (Int.le_refl _) (by grind)).symm
/-! ### common divisors -/
theorem gcd_step {x y : Int} (hy : y ≠ 0) : Int.gcd y (x % y) = Int.gcd x y := by
  have e : x % y = x - x / y * y := by
    have := Int.emod_def x y
    rw [this, Int.mul_comm]
  rw [e, Int.gcd_sub_mul_right_right, Int.gcd_comm]
theorem gcd_pos {a b : Int} (h : 0 < a) : 0 < (Int.gcd a b : Int) := by
  have : 0 < Int.gcd a b := Int.gcd_pos_of_ne_zero_left _ (by omega)
  omega
theorem gcd_le {a b : Int} (h : 0 < a) : (Int.gcd a b : Int) ≤ a := Int.le_of_dvd h (Int.gcd_dvd_left ..)
/-! ### triangles -/
def sq16 (a b c : Int) : Int := (a + b + c) * (a + b + c - 2 * a) * (a + b + c - 2 * b) * (a + b + c - 2 * c)
def areaD (a b c : Int) : D := if rootI (sq16 a b c) * rootI (sq16 a b c) = sq16 a b c ∧ rootI (sq16 a b c) % 4 = 0 then .int (rootI (sq16 a b c) / 4) else .none
def gcd3 (a b c : Int) : Int := (Int.gcd (Int.gcd a b : Int) c : Int)
def redD (a b c : Int) : D := tri (a / gcd3 a b c) (b / gcd3 a b c) (c / gcd3 a b c)
def kindS (a b c : Int) : Str := if 0 < a * a + b * b - c * c then "acute" else if a * a + b * b - c * c < 0 then "obtuse" else "right"
theorem Tri.le {a b c : Int} (h : Tri a b c) : a ≤ 100 ∧ b ≤ 100 ∧ 1 ≤ b ∧ 1 ≤ c := by
  obtain ⟨h1, h2, h3, h4, h5⟩ := h
  omega
theorem sq16_pos {a b c : Int} (h : Tri a b c) : 0 < sq16 a b c := by
  obtain ⟨h1, h2, h3, h4, h5⟩ := h
  unfold sq16
  exact Int.mul_pos (Int.mul_pos (Int.mul_pos (by omega) (by omega)) (by omega)) (by omega)
theorem mul_le {x y X Y : Int} (hx : 0 ≤ x) (hy : 0 ≤ y) (h1 : x ≤ X) (h2 : y ≤ Y) : x * y ≤ X * Y := Int.mul_le_mul h1 h2 hy (by omega)
theorem sq16_le {a b c : Int} (h : Tri a b c) : sq16 a b c ≤ 2400000000 := by
  obtain ⟨h1, h2, h3, h4, h5⟩ := h
  unfold sq16
  have q1 : (a + b + c) * (a + b + c - 2 * a) ≤ 300 * 200 := mul_le (by omega) (by omega) (by omega) (by omega)
  have p1 : 0 ≤ (a + b + c) * (a + b + c - 2 * a) := Int.mul_nonneg (by omega) (by omega)
  have q2 : (a + b + c) * (a + b + c - 2 * a) * (a + b + c - 2 * b) ≤ 300 * 200 * 200 := mul_le p1 (by omega) q1 (by omega)
  have p2 : 0 ≤ (a + b + c) * (a + b + c - 2 * a) * (a + b + c - 2 * b) := Int.mul_nonneg p1 (by omega)
  have q3 := mul_le p2 (show 0 ≤ a + b + c - 2 * c by omega) q2 (show a + b + c - 2 * c ≤ 200 by omega)
  omega
theorem gcd3_pos {a b c : Int} (h : Tri a b c) : 0 < gcd3 a b c ∧ gcd3 a b c ≤ 100 := by
  have h1 := h.a1
  have h2 := h.le
  have p : 0 < (Int.gcd a b : Int) := gcd_pos (by omega)
  have q : (Int.gcd a b : Int) ≤ a := gcd_le (by omega)
  have r := gcd_le (b := c) p
  have t : 0 < (Int.gcd (Int.gcd a b : Int) c : Int) := gcd_pos p
  unfold gcd3
  exact ⟨t, by omega⟩
theorem gcd3_dvd {a b c : Int} : gcd3 a b c ∣ a ∧ gcd3 a b c ∣ b ∧ gcd3 a b c ∣ c := by
  unfold gcd3
  have g1 : (Int.gcd (Int.gcd a b : Int) c : Int) ∣ (Int.gcd a b : Int) := Int.gcd_dvd_left ..
  exact ⟨Int.dvd_trans g1 (Int.gcd_dvd_left ..), Int.dvd_trans g1 (Int.gcd_dvd_right ..), Int.gcd_dvd_right ..⟩
/-- the least triangle -/
theorem red_tri {a b c : Int} (h : Tri a b c) : ∃ x y z, x = a / gcd3 a b c ∧ y = b / gcd3 a b c ∧ z = c / gcd3 a b c ∧ a = gcd3 a b c * x ∧ b = gcd3 a b c * y ∧ c = gcd3 a b c * z ∧ Tri x y z := by
  obtain ⟨p, q⟩ := gcd3_pos h
  obtain ⟨⟨x, hx⟩, ⟨y, hy⟩, ⟨z, hz⟩⟩ := gcd3_dvd (a := a) (b := b) (c := c)
  generalize hg : gcd3 a b c = g at *
  refine ⟨x, y, z, ?_, ?_, ?_, hx, hy, hz, ?_⟩
  · rw [hx, Int.mul_ediv_cancel_left _ (by omega)]
  · rw [hy, Int.mul_ediv_cancel_left _ (by omega)]
  · rw [hz, Int.mul_ediv_cancel_left _ (by omega)]
  · obtain ⟨h1, h2, h3, h4, h5⟩ := h
    have lt : ∀ {u v : Int}, g * u < g * v → u < v := fun {u v} w => Int.lt_of_mul_lt_mul_left w (by omega)
    have le : ∀ {u v : Int}, g * u ≤ g * v → u ≤ v := fun {u v} w => Int.le_of_mul_le_mul_left w p
    have x0 : 0 < x := lt (by rw [← hx]; omega)
    refine ⟨by omega, le (by rw [← hx, ← hy]; exact h2), le (by rw [← hy, ← hz]; exact h3), ?_, lt ?_⟩
    · have z0 : 0 ≤ z := by
        have : x ≤ y := le (by rw [← hx, ← hy]; exact h2)
        have : y ≤ z := le (by rw [← hy, ← hz]; exact h3)
        omega
      have : 1 * z ≤ g * z := Int.mul_le_mul_of_nonneg_right (by omega) z0
      omega
    · rw [Int.mul_add, ← hx, ← hy, ← hz]
      exact h5
/-! ### contracts -/
def cDivisor : Ct := fun as S => ∃ a b : Int, 0 ≤ a ∧ 0 ≤ b ∧ as = [.dat (.int a), .dat (.int b)] ∧ S = Ret (.ok (.int (Int.gcd a b)))
def cRoot : Ct := fun as S => ∃ n : Int, 0 ≤ n ∧ n ≤ 1000000000000 ∧ as = [.dat (.int n)] ∧ S = Ret (.ok (.int (rootI n)))
def lowD (t u : Int) : D := .tuple [.int (t / (Int.gcd t u : Int)), .int (u / (Int.gcd t u : Int))]
def cLowest : Ct := fun as S => ∃ t u : Int, 0 ≤ t ∧ 0 < u ∧ u ≤ 1000000 ∧ as = [.dat (.int t), .dat (.int u)] ∧ S = Ret (.ok (lowD t u))
/-- of a triangle, not looked at -/
def cTri0 (g : Int → Int → Int → D) : Ct := fun as S => ∃ a b c, Tri a b c ∧ as = [.dat (tri a b c)] ∧ S = Ret (.ok (g a b c))
def cSquaresOf : Ct := cTri0 fun a b c => .int (sq16 a b c)
def cSixteen : Ct := cTri fun a b c => .int (sq16 a b c)
def cAreaOf : Ct := cTri0 areaD
def cArea : Ct := cTri areaD
def cReducedOf : Ct := cTri0 redD
def cReduced : Ct := cTri redD
def cKindOf : Ct := cTri0 fun a b c => .str (kindS a b c)
def cKind : Ct := cTri fun a b c => .str (kindS a b c)
def cAlike : Ct := fun as S => (∃ a b c x y z, Tri a b c ∧ Tri x y z ∧ as = [.dat (tri a b c), .dat (tri x y z)] ∧ S = Ret (.ok (.bool (PyData.eqv (redD a b c) (redD x y z))))) ∨
  (∃ d e, isTriD d = false ∧ as = [.dat d, .dat e] ∧ S = Ret (.error "InvalidTriangle")) ∨ (∃ d e, isTriD d = true ∧ isTriD e = false ∧ as = [.dat d, .dat e] ∧ S = Ret (.error "InvalidTriangle"))
def cScaled : Ct := fun as S => (∃ a b c k, Tri a b c ∧ 1 ≤ k ∧ c * k ≤ 100 ∧ as = [.dat (tri a b c), .dat (.int k)] ∧ S = Ret (.ok (tri (a * k) (b * k) (c * k)))) ∨
  (∃ a b c k, Tri a b c ∧ 1 ≤ k ∧ k ≤ 100 ∧ 100 < c * k ∧ as = [.dat (tri a b c), .dat (.int k)] ∧ S = Ret (.error "TooGreat")) ∨
  (∃ a b c e, Tri a b c ∧ isWhole e 1 100 = false ∧ as = [.dat (tri a b c), .dat e] ∧ S = Ret (.error "InvalidNumber"))
def cAnyTri : Ct := fun as S => ∃ d most, 1 ≤ most ∧ most ≤ 100 ∧ as = [.obj d (DiceO d), .dat (.int most)] ∧ S = (fun r => ∃ a b c, Tri a b c ∧ c ≤ most ∧ r = .ok (tri a b c))
theorem iL_at {ns : List Int} {i : Nat} {d : D} (h : (iL ns)[i]? = some d) : ∃ x, ns[i]? = some x ∧ d = .int x := by
  unfold iL at h
  rw [List.getElem?_map] at h
  cases q : ns[i]? with
  | none =>
    rw [q] at h
    cases h
  | some x =>
    rw [q] at h
    exact ⟨x, rfl, (Option.some.inj h).symm⟩
def mapI (g : Int → Int) : D → D
  | .int x => .int (g x)
  | d => d
end KR
set_option Elab.async false
set_option linter.all false
set_option maxRecDepth 100000
namespace KR
open PySem DL
/-! ### shapes -/
theorem gcd3_mul {g x y z : Int} (h : 0 ≤ g) : gcd3 (g * x) (g * y) (g * z) = g * gcd3 x y z := by
  unfold gcd3
  have e1 : (Int.gcd (g * x) (g * y) : Int) = g * (Int.gcd x y : Int) := by
    rw [Int.gcd_mul_left, Int.natCast_mul]
    congr 1
    omega
  rw [e1, Int.gcd_mul_left, Int.natCast_mul]
  congr 1
  omega
theorem gcd3_one {a b c x y z : Int} (h : Tri a b c) (hx : a = gcd3 a b c * x) (hy : b = gcd3 a b c * y) (hz : c = gcd3 a b c * z) : gcd3 x y z = 1 := by
  obtain ⟨p, _⟩ := gcd3_pos h
  have e : gcd3 a b c = gcd3 a b c * gcd3 x y z := by
    have q := gcd3_mul (g := gcd3 a b c) (x := x) (y := y) (z := z) (by omega)
    rw [← hx, ← hy, ← hz] at q
    exact q
  have e2 : gcd3 a b c * 1 = gcd3 a b c * gcd3 x y z := by rw [Int.mul_one]; exact e
  exact (Int.eq_of_mul_eq_mul_left (by omega) e2).symm
/-- the least triangle of a shape -/
structure Red (a b c x y z : Int) : Prop where
  tri : Tri x y z
  one : gcd3 x y z = 1
  ea : a = gcd3 a b c * x
  eb : b = gcd3 a b c * y
  ec : c = gcd3 a b c * z
  d : redD a b c = KR.tri x y z
theorem red_ex {a b c : Int} (h : Tri a b c) : ∃ x y z, Red a b c x y z := by
  obtain ⟨x, y, z, e1, e2, e3, hx, hy, hz, ht⟩ := red_tri h
  refine ⟨x, y, z, ht, gcd3_one h hx hy hz, hx, hy, hz, ?_⟩
  unfold redD
  rw [e1, e2, e3]
theorem red_self {x y z : Int} (h : gcd3 x y z = 1) : redD x y z = tri x y z := by
  unfold redD
  rw [h, Int.ediv_one, Int.ediv_one, Int.ediv_one]
theorem red_scaled {a b c k : Int} (h : Tri a b c) (hk : 1 ≤ k) : redD (a * k) (b * k) (c * k) = redD a b c := by
  obtain ⟨p, _⟩ := gcd3_pos h
  have e : gcd3 (a * k) (b * k) (c * k) = k * gcd3 a b c := by
    rw [Int.mul_comm a, Int.mul_comm b, Int.mul_comm c]
    exact gcd3_mul (by omega)
  unfold redD
  have q : ∀ u : Int, u * k / (k * gcd3 a b c) = u / gcd3 a b c := fun u => by
    rw [Int.mul_comm u k]
    exact Int.mul_ediv_mul_of_pos u (gcd3 a b c) (by omega)
  rw [e, q, q, q]
theorem tri_scaled {a b c k : Int} (h : Tri a b c) (hk : 1 ≤ k) (h2 : c * k ≤ 100) : Tri (a * k) (b * k) (c * k) := by
  obtain ⟨h1, h2', h3, h4, h5⟩ := h
  have k0 : 0 ≤ k := by omega
  refine ⟨?_, Int.mul_le_mul_of_nonneg_right h2' k0, Int.mul_le_mul_of_nonneg_right h3 k0, h2, ?_⟩
  · have := Int.mul_le_mul h1 hk (by omega) (by omega)
    omega
  · rw [← Int.add_mul]
    exact Int.mul_lt_mul_of_pos_right h5 (by omega)
theorem dvd_gcd3 {p x y z : Int} (h1 : p ∣ x) (h2 : p ∣ y) (h3 : p ∣ z) : p ∣ gcd3 x y z := by
  unfold gcd3
  exact Int.dvd_coe_gcd (Int.dvd_coe_gcd h1 h2) h3
theorem dvd_of_prop {p q r u v w : Int} (h1 : gcd3 p q r = 1) (hu : 0 ≤ u) (e1 : p * v = q * u) (e2 : p * w = r * u) : p ∣ u := by
  have k := dvd_gcd3 (p := p) (x := u * p) (y := u * q) (z := u * r) ⟨u, Int.mul_comm u p⟩ ⟨v, by rw [e1, Int.mul_comm]⟩ ⟨w, by rw [e2, Int.mul_comm]⟩
  rw [gcd3_mul hu, h1, Int.mul_one] at k
  exact k
theorem tri_inj {a b c x y z : Int} (h : tri a b c = tri x y z) : a = x ∧ b = y ∧ c = z := by
  unfold tri at h
  injection h with h
  injection h with h1 h
  injection h with h2 h
  injection h with h3 h
  injection h1 with h1
  injection h2 with h2
  injection h3 with h3
  exact ⟨h1, h2, h3⟩
theorem alike_iff {a b c x y z : Int} (h : Tri a b c) (h' : Tri x y z) : redD a b c = redD x y z ↔ (a * y = b * x ∧ a * z = c * x) := by
  obtain ⟨p, q, r, R⟩ := red_ex h
  obtain ⟨u, v, w, S⟩ := red_ex h'
  rw [R.d, S.d]
  have g0 := (gcd3_pos h).1
  have k0 := (gcd3_pos h').1
  obtain ⟨R1, R2, R3, R4, R5, _⟩ := R
  obtain ⟨S1, S2, S3, S4, S5, _⟩ := S
  generalize gcd3 a b c = g at *
  generalize gcd3 x y z = k at *
  subst R3 R4 R5 S3 S4 S5
  constructor
  · intro e
    obtain ⟨rfl, rfl, rfl⟩ := tri_inj e
    constructor <;> grind
  · rintro ⟨e1, e2⟩
    have c : ∀ m n m' n' : Int, g * m * (k * n) = g * m' * (k * n') → m * n = m' * n' := fun m n m' n' e => by
      have e3 : (g * k) * (m * n) = (g * k) * (m' * n') := by grind
      exact Int.eq_of_mul_eq_mul_left (by have := Int.mul_pos g0 k0; omega) e3
    have f1 := c _ _ _ _ e1
    have f2 := c _ _ _ _ e2
    have p0 := R1.a1
    have u0 := S1.a1
    have d1 : p ∣ u := dvd_of_prop R2 (by omega) f1 f2
    have d2 : u ∣ p := dvd_of_prop S2 (by omega) (by rw [Int.mul_comm u q, Int.mul_comm v p]; exact f1.symm) (by rw [Int.mul_comm u r, Int.mul_comm w p]; exact f2.symm)
    have l1 := Int.le_of_dvd (by omega) d1
    have l2 := Int.le_of_dvd (by omega) d2
    have e : p = u := by omega
    subst e
    have e3 : v = q := Int.eq_of_mul_eq_mul_left (a := p) (by omega) (by rw [f1, Int.mul_comm])
    have e4 : w = r := Int.eq_of_mul_eq_mul_left (a := p) (by omega) (by rw [f2, Int.mul_comm])
    rw [e3, e4]
theorem alike_dec {a b c x y z : Int} (h : Tri a b c) (h' : Tri x y z) : PyData.eqv (redD a b c) (redD x y z) = (decide (a * y = b * x) && decide (a * z = c * x)) := by
  have q : PyData.eqv (redD a b c) (redD x y z) = true ↔ redD a b c = redD x y z := eqv_iff rfl rfl rfl
  have k := alike_iff h h'
  cases w : PyData.eqv (redD a b c) (redD x y z) with
  | true =>
    obtain ⟨k1, k2⟩ := k.mp (q.mp w)
    rw [decide_eq_true k1, decide_eq_true k2]
    rfl
  | false =>
    have n : ¬ (a * y = b * x ∧ a * z = c * x) := fun z => by
      rw [q.mpr (k.mpr z)] at w
      cases w
    rw [← Bool.decide_and]
    exact (decide_eq_false n).symm
end KR
namespace DL
def noOwnB : List Sl → Bool
  | [] => true
  | a :: r => !a.isOwn && noOwnB r
theorem noOwn_of : ∀ {Γ : List Sl}, noOwnB Γ = true → ∀ s ∈ Γ, NoO s
  | [], _, s, hs => by cases hs
  | a :: r, h, s, hs => by
    have h2 : (!a.isOwn && noOwnB r) = true := h
    obtain ⟨h3, h4⟩ := (Bool.and_eq_true _ _).mp h2
    rcases List.mem_cons.mp hs with z | z
    · subst z
      show s.isOwn = false
      cases q : s.isOwn with
      | false => rfl
      | true =>
        rw [q] at h3
        cases h3
    · exact noOwn_of h4 s z
end DL
set_option Elab.async false
set_option linter.all false
set_option maxRecDepth 100000
namespace KR
open PySem DL
/-! ### areas -/
theorem sq4 (x : Int) : (x % 2 = 0 ∧ (x * x) % 4 = 0) ∨ (x % 2 = 1 ∧ (x * x) % 4 = 1) := by
  have e : x = 2 * (x / 2) + x % 2 := by omega
  rcases (show x % 2 = 0 ∨ x % 2 = 1 by omega) with h | h
  · left
    refine ⟨h, ?_⟩
    have q : x * x = 4 * ((x / 2) * (x / 2)) := by
      rw [h] at e
      grind
    omega
  · right
    refine ⟨h, ?_⟩
    have q : x * x = 4 * ((x / 2) * (x / 2) + x / 2) + 1 := by
      rw [h] at e
      grind
    omega
theorem sq16_eq (a b c : Int) : sq16 a b c + (a * a + b * b - c * c) * (a * a + b * b - c * c) = 4 * ((a * b) * (a * b)) := by
  unfold sq16
  grind
theorem sq16_root {a b c s : Int} (h : s * s = sq16 a b c) : s % 4 = 0 ∧ (a + b + c) % 2 = 0 := by
  have e := sq16_eq a b c
  rw [← h] at e
  obtain ⟨u, hu⟩ : ∃ u, u = a * a + b * b - c * c := ⟨_, rfl⟩
  rw [← hu] at e
  have s1 := sq4 s
  have u1 := sq4 u
  have se : s % 2 = 0 := by omega
  have ue : u % 2 = 0 := by omega
  obtain ⟨t, ht⟩ : ∃ t, s = 2 * t := ⟨s / 2, by omega⟩
  obtain ⟨v, hv⟩ : ∃ v, u = 2 * v := ⟨u / 2, by omega⟩
  have e2 : t * t + v * v = (a * b) * (a * b) := by
    rw [ht, hv] at e
    grind
  have a1 := sq4 a
  have b1 := sq4 b
  have c1 := sq4 c
  have t1 := sq4 t
  have v1 := sq4 v
  have p1 := sq4 (a * b)
  have ab : (a * b) % 2 = ((a % 2) * (b % 2)) % 2 := Int.mul_emod a b 2
  refine ⟨?_, by omega⟩
  rcases t1 with ⟨t1, _⟩ | ⟨t1, t2⟩
  · omega
  · exfalso
    have hab : (a * b) % 2 = 1 := by omega
    have ha : a % 2 = 1 := by
      rcases a1 with ⟨z, _⟩ | ⟨z, _⟩
      · rw [z, Int.zero_mul] at ab
        omega
      · exact z
    have hb : b % 2 = 1 := by
      rcases b1 with ⟨z, _⟩ | ⟨z, _⟩
      · rw [z, Int.mul_zero] at ab
        omega
      · exact z
    omega
theorem sq_inj {x y : Int} (hx : 0 ≤ x) (hy : 0 ≤ y) (h : x * x = y * y) : x = y := by
  have a1 : ¬ x < y := fun z => by
    have := sq_le_sq (a := x + 1) (b := y) (by omega) (by omega)
    have e : (x + 1) * (x + 1) = x * x + 2 * x + 1 := by grind
    omega
  have a2 : ¬ y < x := fun z => by
    have := sq_le_sq (a := y + 1) (b := x) (by omega) (by omega)
    have e : (y + 1) * (y + 1) = y * y + 2 * y + 1 := by grind
    omega
  omega
/-- a whole area, or none -/
theorem area_cases {a b c : Int} (h : Tri a b c) : (∃ m, 1 ≤ m ∧ (4 * m) * (4 * m) = sq16 a b c ∧ (a + b + c) % 2 = 0 ∧ areaD a b c = .int m) ∨ ((∀ s : Int, s * s ≠ sq16 a b c) ∧ areaD a b c = .none) := by
  have p := sq16_pos h
  obtain ⟨g0, g1, g2⟩ := rootI_spec (Int.le_of_lt p)
  by_cases q : rootI (sq16 a b c) * rootI (sq16 a b c) = sq16 a b c
  · obtain ⟨k1, k2⟩ := sq16_root q
    left
    refine ⟨rootI (sq16 a b c) / 4, ?_, ?_, k2, ?_⟩
    · have : rootI (sq16 a b c) ≠ 0 := fun z => by
        rw [z] at q
        omega
      omega
    · have e : 4 * (rootI (sq16 a b c) / 4) = rootI (sq16 a b c) := by omega
      rw [e]
      exact q
    · unfold areaD
      rw [if_pos ⟨q, k1⟩]
  · right
    refine ⟨fun s hs => q ?_, ?_⟩
    · rcases Int.le_total 0 s with z | z
      · rw [← hs, rootI_sq z]
      · have e : s * s = (-s) * (-s) := by grind
        rw [← hs, e, rootI_sq (by omega)]
    · unfold areaD
      rw [if_neg (fun z => q z.1)]
theorem sq16_scaled (a b c k : Int) : sq16 (a * k) (b * k) (c * k) = sq16 a b c * k * k * k * k := by
  unfold sq16
  grind
theorem nat_sq_dvd {a b : Nat} (ha : 0 < a) (h : a * a ∣ b * b) : a ∣ b := by
  have h' : a ^ 2 ∣ b ^ 2 := by
    rw [Nat.pow_two, Nat.pow_two]
    exact h
  exact (Nat.pow_dvd_pow_iff (by decide)).mp h'
theorem sq_of_mul {s n q : Int} (hq : 0 < q) (h : s * s = n * (q * q)) : ∃ t : Int, t * t = n := by
  have d : q.natAbs * q.natAbs ∣ s.natAbs * s.natAbs := by
    rw [← Int.natAbs_mul, ← Int.natAbs_mul]
    exact Int.natAbs_dvd_natAbs.mpr ⟨n, by rw [h, Int.mul_comm]⟩
  have d2 := nat_sq_dvd (by omega) d
  obtain ⟨t, ht⟩ := Int.natAbs_dvd_natAbs.mp d2
  refine ⟨t, ?_⟩
  rw [ht] at h
  have e : (q * q) * (t * t) = (q * q) * n := by grind
  exact Int.eq_of_mul_eq_mul_left (by have := Int.mul_pos hq hq; omega) e
theorem area_scaled {a b c k : Int} (h : Tri a b c) (hk : 1 ≤ k) (hc : c * k ≤ 100) : (∃ m, areaD a b c = .int m ∧ areaD (a * k) (b * k) (c * k) = .int (m * k * k)) ∨ (areaD a b c = .none ∧ areaD (a * k) (b * k) (c * k) = .none) := by
  have hs := tri_scaled h hk hc
  have es := sq16_scaled a b c k
  rcases area_cases h with ⟨m, m1, m2, _, m3⟩ | ⟨n1, n2⟩
  · left
    refine ⟨m, m3, ?_⟩
    have e : (4 * (m * k * k)) * (4 * (m * k * k)) = sq16 (a * k) (b * k) (c * k) := by
      rw [es, ← m2]
      grind
    rcases area_cases hs with ⟨m', w1, w2, _, w3⟩ | ⟨w1, _⟩
    · have p : 0 ≤ m * k * k := Int.mul_nonneg (Int.mul_nonneg (by omega) (by omega)) (by omega)
      have z := sq_inj (x := 4 * m') (y := 4 * (m * k * k)) (by omega) (by omega) (w2.trans e.symm)
      have z2 : m' = m * k * k := by omega
      rw [w3, z2]
    · exact absurd e (w1 _)
  · right
    refine ⟨n2, ?_⟩
    rcases area_cases hs with ⟨m', w1, w2, _, w3⟩ | ⟨_, w3⟩
    · exfalso
      rw [es] at w2
      obtain ⟨t, ht⟩ := sq_of_mul (s := 4 * m') (n := sq16 a b c) (q := k * k) (Int.mul_pos (by omega) (by omega)) (by rw [w2]; grind)
      exact n1 t ht
    · exact w3
def lawRootD (n : Int) : D := if rootI n * rootI n = n then .int (rootI n) else .none
def cLawRoot : Ct := fun as S => ∃ n : Int, 0 ≤ n ∧ n ≤ 1000000000000 ∧ as = [.dat (.int n)] ∧ S = Ret (.ok (lawRootD n))
theorem area_shaped {a b c : Int} : SeqAt.shaped (areaD a b c) = true := by
  unfold areaD
  split <;> rfl
theorem area_eqv {a b c : Int} : PyData.eqv (areaD a b c) (areaD a b c) = true := by
  unfold areaD
  split
  · exact eqv_same rfl
  · rfl
theorem area_345 : areaD 3 4 5 = .int 6 := by
  unfold areaD
  rw [show sq16 3 4 5 = 24 * 24 by decide, rootI_sq (by decide)]
  rfl
theorem area_131415 : areaD 13 14 15 = .int 84 := by
  unfold areaD
  rw [show sq16 13 14 15 = 336 * 336 by decide, rootI_sq (by decide)]
  rfl
theorem area_52930 : areaD 5 29 30 = .int 72 := by
  unfold areaD
  rw [show sq16 5 29 30 = 288 * 288 by decide, rootI_sq (by decide)]
  rfl
theorem area_111 : areaD 1 1 1 = .none := by
  unfold areaD
  rw [if_neg (by decide +kernel)]
end KR
set_option Elab.async false
set_option linter.all false
set_option maxRecDepth 100000
namespace KR
open PySem DL
/-! ### fractions of a whole area -/
def cArea3 (g : Int → Int → Int → Int → D) : Ct := fun as S => (∃ a b c m, Tri a b c ∧ areaD a b c = .int m ∧ as = [.dat (tri a b c)] ∧ S = Ret (.ok (g a b c m))) ∨
  (∃ a b c, Tri a b c ∧ areaD a b c = .none ∧ as = [.dat (tri a b c)] ∧ S = Ret (.error "NotWhole")) ∨ (∃ d, isTriD d = false ∧ as = [.dat d] ∧ S = Ret (.error "InvalidTriangle"))
def cNeedArea : Ct := cArea3 fun _ _ _ m => .int m
def cHeight : Ct := cArea3 fun _ _ c m => lowD (2 * m) c
def cSplit : Ct := cArea3 fun a b c _ => .tuple [lowD (a * a + c * c - b * b) (2 * c), lowD (b * b + c * c - a * a) (2 * c)]
def cInner : Ct := cArea3 fun a b c m => lowD (2 * m) (a + b + c)
def cOuter : Ct := cArea3 fun a b c m => lowD (a * b * c) (4 * m)
theorem area_some {a b c m : Int} (h : Tri a b c) (e : areaD a b c = .int m) : 1 ≤ m ∧ (4 * m) * (4 * m) = sq16 a b c ∧ m ≤ 20000 := by
  rcases area_cases h with ⟨m', m1, m2, _, m3⟩ | ⟨_, m3⟩
  · rw [e] at m3
    injection m3 with m3
    subst m3
    refine ⟨m1, m2, ?_⟩
    have p := sq16_le h
    have : 4 * m < 50000 := lt_of_sq (by omega) (by omega)
    omega
  · rw [e] at m3
    cases m3
/-- a fraction in lowest terms -/
structure Low (t u p q : Int) : Prop where
  d : lowD t u = .tuple [.int p, .int q]
  one : Int.gcd p q = 1
  eq : p * u = t * q
  q1 : 1 ≤ q
  qu : q ≤ u
  p0 : 0 ≤ p
  pt : p ≤ t
theorem low_ex {t u : Int} (ht : 0 ≤ t) (hu : 0 < u) : ∃ p q, Low t u p q := by
  have g1 : 0 < (Int.gcd t u : Int) := by
    rw [Int.gcd_comm]
    exact gcd_pos hu
  obtain ⟨p, hp⟩ : (Int.gcd t u : Int) ∣ t := Int.gcd_dvd_left ..
  obtain ⟨q, hq⟩ : (Int.gcd t u : Int) ∣ u := Int.gcd_dvd_right ..
  obtain ⟨g, hg⟩ : ∃ g : Int, g = (Int.gcd t u : Int) := ⟨_, rfl⟩
  rw [← hg] at hp hq g1
  have q0 : 0 < q := Int.pos_of_mul_pos_right (a := g) (by rw [← hq]; exact hu) (by omega)
  have p0 : 0 ≤ p := Int.nonneg_of_mul_nonneg_right (a := g) (by rw [← hp]; exact ht) g1
  refine ⟨p, q, ?_, ?_, ?_, by omega, ?_, p0, ?_⟩
  · unfold lowD
    rw [← hg]
    have e1 : t / g = p := by rw [hp, Int.mul_ediv_cancel_left _ (by omega)]
    have e2 : u / g = q := by rw [hq, Int.mul_ediv_cancel_left _ (by omega)]
    rw [e1, e2]
  · have e : (Int.gcd t u : Int) = g * (Int.gcd p q : Int) := by
      rw [hp, hq, Int.gcd_mul_left, Int.natCast_mul]
      congr 1
      omega
    rw [← hg] at e
    have e2 : g * 1 = g * (Int.gcd p q : Int) := by
      rw [Int.mul_one]
      exact e
    have e3 := Int.eq_of_mul_eq_mul_left (by omega) e2
    omega
  · rw [hp, hq]
    grind
  · have := Int.mul_le_mul_of_nonneg_right (show 1 ≤ g by omega) (show 0 ≤ q by omega)
    omega
  · have := Int.mul_le_mul_of_nonneg_right (show 1 ≤ g by omega) p0
    omega
def cSame : Ct := fun as S => ∃ p q t u : Int, 0 ≤ p ∧ p ≤ 100000000 ∧ 1 ≤ q ∧ q ≤ 100000000 ∧ as = [.dat (.tuple [.int p, .int q]), .dat (.int t), .dat (.int u)] ∧ S = Ret (.ok (.bool (decide ((Int.gcd p q : Int) = 1) && decide (p * u = t * q))))
theorem split_pos {a b c : Int} (h : Tri a b c) : 0 < a * a + c * c - b * b ∧ 0 < b * b + c * c - a * a ∧ a * a + c * c - b * b ≤ 20000 ∧ b * b + c * c - a * a ≤ 20000 := by
  obtain ⟨h1, h2, h3, h4, h5⟩ := h
  have e1 := sq_le_sq (a := b) (b := c) (by omega) h3
  have e2 := sq_le_sq (a := a) (b := b) (by omega) h2
  have e3 := sq_le_sq (a := 1) (b := a) (by omega) h1
  have e4 := sq_le_sq (a := c) (b := 100) (by omega) h4
  omega
/-- two fractions over one side -/
theorem fr_id {p q r s m c x L : Int} (h1 : p * c = 2 * m * q) (h2 : r * (2 * c) = L * s) (h3 : (4 * m) * (4 * m) + L * L = 4 * (x * x) * (c * c)) : 4 * (c * c) * ((p * s) * (p * s) + (r * q) * (r * q)) = 4 * (c * c) * ((x * q * s) * (x * q * s)) := by
  have e1 : 4 * (c * c) * ((p * s) * (p * s)) = (4 * m) * (4 * m) * ((q * s) * (q * s)) := by
    have : 4 * (c * c) * ((p * s) * (p * s)) = 4 * ((p * c) * (p * c)) * (s * s) := by grind
    rw [this, h1]
    grind
  have e2 : 4 * (c * c) * ((r * q) * (r * q)) = L * L * ((q * s) * (q * s)) := by
    have : 4 * (c * c) * ((r * q) * (r * q)) = ((r * (2 * c)) * (r * (2 * c))) * (q * q) := by grind
    rw [this, h2]
    grind
  rw [Int.mul_add, e1, e2, ← Int.add_mul, h3]
  grind
theorem area_556 : areaD 5 5 6 = .int 12 := by
  unfold areaD
  rw [show sq16 5 5 6 = 48 * 48 by decide, rootI_sq (by decide)]
  rfl
theorem low_345h : lowD (2 * 6) 5 = .tuple [.int 12, .int 5] := rfl
theorem low_345s : PyData.tuple [lowD (3 * 3 + 5 * 5 - 4 * 4) (2 * 5), lowD (4 * 4 + 5 * 5 - 3 * 3) (2 * 5)] = .tuple [.tuple [.int 9, .int 5], .tuple [.int 16, .int 5]] := rfl
theorem low_556s : PyData.tuple [lowD (5 * 5 + 6 * 6 - 5 * 5) (2 * 6), lowD (5 * 5 + 6 * 6 - 5 * 5) (2 * 6)] = .tuple [.tuple [.int 3, .int 1], .tuple [.int 3, .int 1]] := rfl
end KR
set_option Elab.async false
set_option linter.all false
set_option maxRecDepth 100000
namespace KR
open PySem DL
/-! ### kinds -/
theorem kind_cases (a b c : Int) : kindS a b c = "acute" ∨ kindS a b c = "obtuse" ∨ kindS a b c = "right" := by
  unfold kindS
  split
  · exact .inl rfl
  · split
    · exact .inr (.inl rfl)
    · exact .inr (.inr rfl)
theorem kind_shaped (a b c : Int) : SeqAt.shaped (.str (kindS a b c)) = true := by
  rcases kind_cases a b c with e | e | e <;> rw [e] <;> decide +kernel
theorem kind_same (a b c : Int) : PyData.eqv (.str (kindS a b c)) (.str (kindS a b c)) = true := by
  rcases kind_cases a b c with e | e | e <;> rw [e] <;> decide +kernel
def rightB (a b c : Int) : Bool := decide (a * a + b * b = c * c)
theorem kind_right {a b c : Int} : PyData.eqv (.str (kindS a b c)) (.str "right") = rightB a b c := by
  unfold kindS rightB
  by_cases q1 : 0 < a * a + b * b - c * c
  · rw [if_pos q1, decide_eq_false (by omega)]
    decide +kernel
  · rw [if_neg q1]
    by_cases q2 : a * a + b * b - c * c < 0
    · rw [if_pos q2, decide_eq_false (by omega)]
      decide +kernel
    · rw [if_neg q2, decide_eq_true (by omega)]
      decide +kernel
def cIsRight : Ct := fun as S => (∃ a b c, Tri a b c ∧ as = [.dat (tri a b c)] ∧ S = Ret (.ok (.bool (rightB a b c)))) ∨ (∃ d, isTriD d = false ∧ as = [.dat d] ∧ S = Ret (.ok (.bool false)))
end KR
set_option Elab.async false
set_option linter.all false
set_option maxRecDepth 100000
namespace KR
open PySem DL L2
/-! ### the law's right triangles -/
def pairsL : List (Int × Int) := [(2, 1), (3, 2), (4, 1), (4, 3), (5, 2), (5, 4), (6, 1), (6, 5), (7, 2), (7, 4), (8, 1), (8, 3), (9, 2), (9, 4)]
def pairD (p : Int × Int) : D := .tuple [.int p.1, .int p.2]
theorem atI_mem {ds : List D} {v : Int} (h0 : 0 ≤ v) (h1 : v < (ds.length : Int)) : ∃ d, atI ds v = some d ∧ d ∈ ds := by
  have hlt : v.toNat < ds.length := by omega
  have e : ((v.toNat : Nat) : Int) = v := by omega
  have q := atI_nat (List.getElem?_eq_getElem hlt)
  rw [e] at q
  exact ⟨_, q, List.getElem_mem hlt⟩
/-- k, m, n tell a right triangle -/
structure RightBy (k m n : Int) : Prop where
  mem : (m, n) ∈ pairsL
  k1 : 1 ≤ k
  kc : k * (m * m + n * n) ≤ 100
def rightD (k m n : Int) : D := .tuple (iL (sortI [k * (m * m - n * n), 2 * k * m * n, k * (m * m + n * n)]))
theorem pairs_ok : ∀ p ∈ pairsL, 1 ≤ p.2 ∧ p.2 < p.1 ∧ p.1 ≤ 9 ∧ p.1 * p.1 + p.2 * p.2 ≤ 100 ∧ 5 ≤ p.1 * p.1 + p.2 * p.2 ∧ (Int.gcd p.1 p.2 : Int) = 1 ∧ (p.1 + p.2) % 2 = 1 := by decide +kernel
theorem right_tri {k m n : Int} (h : RightBy k m n) : ∃ a b c, rightD k m n = tri a b c ∧ Tri a b c ∧ a * a + b * b = c * c ∧ c = k * (m * m + n * n) := by
  obtain ⟨h1, h2, h3, h4, h5, _, _⟩ := pairs_ok (m, n) h.mem
  have hk := h.k1
  have hc := h.kc
  have x0 : 0 < m * m - n * n := by
    have := sq_le_sq (a := n + 1) (b := m) (by omega) (by omega)
    have e : (n + 1) * (n + 1) = n * n + 2 * n + 1 := by grind
    omega
  have y0 : 0 < m * n := Int.mul_pos (by omega) (by omega)
  have px : 0 < k * (m * m - n * n) := Int.mul_pos (by omega) x0
  have py : 0 < 2 * k * m * n := by
    have : 0 < k * (m * n) := Int.mul_pos (by omega) y0
    have e : 2 * k * m * n = 2 * (k * (m * n)) := by grind
    omega
  have e1 : k * (m * m - n * n) + 2 * (k * (n * n)) = k * (m * m + n * n) := by grind
  have e2 : 2 * k * m * n + k * ((m - n) * (m - n)) = k * (m * m + n * n) := by grind
  have n0 : 0 < k * (n * n) := Int.mul_pos (by omega) (Int.mul_pos (by omega) (by omega))
  have d0 : 0 < k * ((m - n) * (m - n)) := Int.mul_pos (by omega) (Int.mul_pos (by omega) (by omega))
  have e3 : k * (m * m + n * n) + 2 * (k * (n * (m - n))) = k * (m * m - n * n) + 2 * k * m * n := by grind
  have f0 : 0 < k * (n * (m - n)) := Int.mul_pos (by omega) (Int.mul_pos (by omega) (by omega))
  have sq : (k * (m * m - n * n)) * (k * (m * m - n * n)) + (2 * k * m * n) * (2 * k * m * n) = (k * (m * m + n * n)) * (k * (m * m + n * n)) := by grind
  generalize hX : k * (m * m - n * n) = X at *
  generalize hY : 2 * k * m * n = Y at *
  generalize hZ : k * (m * m + n * n) = Z at *
  unfold rightD
  rw [hX, hY, hZ]
  rcases Int.le_total X Y with z | z
  · rw [sort3a z (by omega)]
    exact ⟨X, Y, Z, rfl, ⟨by omega, z, by omega, by omega, by omega⟩, sq, rfl⟩
  · rw [sort3b z (by omega)]
    exact ⟨Y, X, Z, rfl, ⟨by omega, z, by omega, by omega, by omega⟩, by omega, rfl⟩
def cLawRight : Ct := fun as S => ∃ d, as = [.obj d (DiceO d)] ∧ S = (fun r => ∃ k m n, RightBy k m n ∧ r = .ok (rightD k m n))
end KR
set_option Elab.async false
set_option linter.all false
set_option maxRecDepth 100000
namespace KR
open PySem DL
/-! ### circles -/
theorem amgm (x y : Int) : 4 * (x * y) ≤ (x + y) * (x + y) := by
  have e : (x + y) * (x + y) = 4 * (x * y) + (x - y) * (x - y) := by grind
  have q : 0 ≤ (x - y) * (x - y) := by
    rcases Int.le_total 0 (x - y) with z | z
    · exact Int.mul_nonneg z z
    · have e2 : (x - y) * (x - y) = (y - x) * (y - x) := by grind
      rw [e2]
      exact Int.mul_nonneg (by omega) (by omega)
  omega
theorem le_of_sq {a b : Int} (hb : 0 ≤ b) (h : a * a ≤ b * b) : a ≤ b := by
  rcases Int.lt_or_le b a with z | z
  · have := sq_le_sq (a := b + 1) (b := a) (by omega) (by omega)
    have e : (b + 1) * (b + 1) = b * b + 2 * b + 1 := by grind
    omega
  · exact z
theorem euler {a b c : Int} (h : Tri a b c) : sq16 a b c ≤ a * b * c * (a + b + c) := by
  obtain ⟨h1, h2, h3, h4, h5⟩ := h
  obtain ⟨x, hx⟩ : ∃ x, x = b + c - a := ⟨_, rfl⟩
  obtain ⟨y, hy⟩ : ∃ y, y = a + c - b := ⟨_, rfl⟩
  obtain ⟨z, hz⟩ : ∃ z, z = a + b - c := ⟨_, rfl⟩
  have x0 : 0 < x := by omega
  have y0 : 0 < y := by omega
  have z0 : 0 < z := by omega
  have q1 : x * y ≤ c * c := by
    have := amgm x y
    have e : (x + y) * (x + y) = 4 * (c * c) := by
      rw [show x + y = 2 * c by omega]
      grind
    omega
  have q2 : y * z ≤ a * a := by
    have := amgm y z
    have e : (y + z) * (y + z) = 4 * (a * a) := by
      rw [show y + z = 2 * a by omega]
      grind
    omega
  have q3 : x * z ≤ b * b := by
    have := amgm x z
    have e : (x + z) * (x + z) = 4 * (b * b) := by
      rw [show x + z = 2 * b by omega]
      grind
    omega
  have r1 := mul_le (Int.le_of_lt (Int.mul_pos x0 y0)) (Int.le_of_lt (Int.mul_pos y0 z0)) q1 q2
  have r2 := mul_le (Int.le_of_lt (Int.mul_pos (Int.mul_pos x0 y0) (Int.mul_pos y0 z0))) (Int.le_of_lt (Int.mul_pos x0 z0)) r1 q3
  have e1 : (x * y) * (y * z) * (x * z) = (x * y * z) * (x * y * z) := by grind
  have e2 : (c * c) * (a * a) * (b * b) = (a * b * c) * (a * b * c) := by grind
  rw [e1, e2] at r2
  have p0 : 0 ≤ a * b * c := Int.mul_nonneg (Int.mul_nonneg (by omega) (by omega)) (by omega)
  have r3 : x * y * z ≤ a * b * c := le_of_sq p0 r2
  have r4 := Int.mul_le_mul_of_nonneg_right r3 (show 0 ≤ a + b + c by omega)
  have e3 : sq16 a b c = x * y * z * (a + b + c) := by
    unfold sq16
    rw [hx, hy, hz]
    grind
  rw [e3]
  exact r4
/-- the radii of a right triangle -/
theorem right_area {a b c m : Int} (h : Tri a b c) (e : areaD a b c = .int m) (r : a * a + b * b = c * c) : 4 * m = 2 * (a * b) := by
  obtain ⟨m1, m2, _⟩ := area_some h e
  have q := sq16_eq a b c
  have z : a * a + b * b - c * c = 0 := by omega
  rw [z, Int.zero_mul, Int.add_zero, ← m2] at q
  have h1 := h.a1
  have h2 := h.le
  have p : 0 < a * b := Int.mul_pos (by omega) (by omega)
  exact sq_inj (by omega) (by omega) (by rw [q]; grind)
theorem circ_le {a b c m p q r s : Int} (h : Tri a b c) (m1 : 1 ≤ m) (m2 : (4 * m) * (4 * m) = sq16 a b c) (h1 : p * (a + b + c) = 2 * m * q) (h2 : r * (4 * m) = a * b * c * s) (hq : 1 ≤ q) (hs : 1 ≤ s) : ¬ r * q < 2 * p * s := fun z => by
  have t1 := h.a1
  have t2 := h.le
  have P : 0 < (a + b + c) * (4 * m) := Int.mul_pos (by omega) (by omega)
  have z2 := Int.mul_lt_mul_of_pos_right z P
  have e1 : r * q * ((a + b + c) * (4 * m)) = a * b * c * (a + b + c) * (q * s) := by
    have : r * q * ((a + b + c) * (4 * m)) = r * (4 * m) * (q * (a + b + c)) := by grind
    rw [this, h2]
    grind
  have e2 : 2 * p * s * ((a + b + c) * (4 * m)) = sq16 a b c * (q * s) := by
    have : 2 * p * s * ((a + b + c) * (4 * m)) = p * (a + b + c) * (8 * m * s) := by grind
    rw [this, h1, ← m2]
    grind
  rw [e1, e2] at z2
  have := Int.mul_le_mul_of_nonneg_right (euler h) (Int.le_of_lt (Int.mul_pos (show 0 < q by omega) (show 0 < s by omega)))
  omega
theorem circ_in {a b c m p q : Int} (h : Tri a b c) (hm : 4 * m = 2 * (a * b)) (hr : a * a + b * b = c * c) (h1 : p * (a + b + c) = 2 * m * q) : p * 2 = (a + b - c) * q := by
  have t1 := h.a1
  have t2 := h.le
  refine Int.eq_of_mul_eq_mul_left (a := a + b + c) (by omega) ?_
  have e1 : (a + b + c) * (p * 2) = 4 * m * q := by
    have : (a + b + c) * (p * 2) = 2 * (p * (a + b + c)) := by grind
    rw [this, h1]
    grind
  have e2 : (a + b + c) * ((a + b - c) * q) = (a * a + b * b + 2 * (a * b) - c * c) * q := by grind
  rw [e1, e2, hm, hr]
  grind
theorem circ_out {a b c m r s : Int} (h : Tri a b c) (hm : 4 * m = 2 * (a * b)) (h2 : r * (4 * m) = a * b * c * s) : r * 2 = c * s := by
  have t1 := h.a1
  have t2 := h.le
  have p : 0 < a * b := Int.mul_pos (by omega) (by omega)
  refine Int.eq_of_mul_eq_mul_left (a := a * b) (by omega) ?_
  rw [hm] at h2
  grind
theorem right_and {a b c : Int} {q : Bool} (h : a * a + b * b = c * c → (!q) = false) : (rightB a b c && !q) = false := by
  unfold rightB
  by_cases z : a * a + b * b = c * c
  · rw [h z, Bool.and_false]
  · rw [decide_eq_false z]
    rfl
theorem low_345i : lowD (2 * 6) (3 + 4 + 5) = .tuple [.int 1, .int 1] := rfl
theorem low_345o : lowD (3 * 4 * 5) (4 * 6) = .tuple [.int 5, .int 2] := rfl
theorem low_13i : lowD (2 * 84) (13 + 14 + 15) = .tuple [.int 4, .int 1] := rfl
end KR
set_option Elab.async false
set_option linter.all false
set_option maxRecDepth 100000
namespace KR
open PySem DL
/-! ### unlike sides -/
def cUnlike : Ct := cTri fun a b c => .int (dst [a, b, c])
theorem dst_same (a : Int) : dst [a, a, a] = 1 := by
  simp [dst, sortU, insU]
theorem kind_gap {a b c k : Int} (hk : 1 ≤ k) : (a * k) * (a * k) + (b * k) * (b * k) - (c * k) * (c * k) = (a * a + b * b - c * c) * (k * k) := by grind
theorem kind_scaled {a b c k : Int} (hk : 1 ≤ k) : kindS (a * k) (b * k) (c * k) = kindS a b c := by
  have p : 0 < k * k := Int.mul_pos (by omega) (by omega)
  unfold kindS
  rw [kind_gap hk]
  by_cases q1 : 0 < a * a + b * b - c * c
  · rw [if_pos q1, if_pos (Int.mul_pos q1 p)]
  · by_cases q2 : a * a + b * b - c * c < 0
    · have e : (a * a + b * b - c * c) * (k * k) < 0 := Int.mul_neg_of_neg_of_pos q2 p
      rw [if_neg q1, if_pos q2, if_neg (by omega), if_pos e]
    · have e : a * a + b * b - c * c = 0 := by omega
      rw [e, Int.zero_mul]
theorem kind_red {a b c x y z : Int} (h : Tri a b c) (r : Red a b c x y z) : kindS x y z = kindS a b c := by
  obtain ⟨p, _⟩ := gcd3_pos h
  have e := kind_scaled (a := x) (b := y) (c := z) (k := gcd3 a b c) (by omega)
  rw [Int.mul_comm x, Int.mul_comm y, Int.mul_comm z, ← r.ea, ← r.eb, ← r.ec] at e
  exact e.symm
theorem kind_acute {a b c : Int} (h : 0 < a * a + b * b - c * c) : kindS a b c = "acute" := if_pos h
theorem kind_obtuse {a b c : Int} (h : a * a + b * b - c * c < 0) : kindS a b c = "obtuse" := by
  unfold kindS
  rw [if_neg (by omega), if_pos h]
def dueS (g : Int) : Str := if 0 < g then "acute" else if g = 0 then "right" else "obtuse"
theorem due_kind (a b c : Int) : dueS (a * a + b * b - c * c) = kindS a b c := by
  unfold dueS kindS
  generalize a * a + b * b - c * c = g
  by_cases q1 : 0 < g
  · rw [if_pos q1, if_pos q1]
  · by_cases q2 : g = 0
    · rw [if_neg q1, if_neg q1, if_pos q2, if_neg (by omega)]
    · rw [if_neg q1, if_neg q1, if_neg q2, if_pos (by omega)]
end KR
set_option Elab.async false
set_option linter.all false
set_option maxRecDepth 100000
namespace KR
open PySem DL
/-! ### all right triangles -/
def rightsN : List (Nat × Nat × Nat) := ([(3, 4, 5), (5, 12, 13), (6, 8, 10), (7, 24, 25), (8, 15, 17), (9, 12, 15), (9, 40, 41), (10, 24, 26), (11, 60, 61), (12, 16, 20), (12, 35, 37), (13, 84, 85), (14, 48, 50)] : List (Nat × Nat × Nat)) ++ ([(15, 20, 25), (15, 36, 39), (16, 30, 34), (16, 63, 65), (18, 24, 30), (18, 80, 82), (20, 21, 29), (20, 48, 52), (21, 28, 35), (21, 72, 75), (24, 32, 40), (24, 45, 51), (24, 70, 74)] : List (Nat × Nat × Nat)) ++ ([(25, 60, 65), (27, 36, 45), (28, 45, 53), (28, 96, 100), (30, 40, 50), (30, 72, 78), (32, 60, 68), (33, 44, 55), (33, 56, 65), (35, 84, 91), (36, 48, 60), (36, 77, 85), (39, 52, 65)] : List (Nat × Nat × Nat)) ++ ([(39, 80, 89), (40, 42, 58), (40, 75, 85), (42, 56, 70), (45, 60, 75), (48, 55, 73), (48, 64, 80), (51, 68, 85), (54, 72, 90), (57, 76, 95), (60, 63, 87), (60, 80, 100), (65, 72, 97)] : List (Nat × Nat × Nat))
def rightsL : List Tr := ([(3, 4, 5), (5, 12, 13), (6, 8, 10), (7, 24, 25), (8, 15, 17), (9, 12, 15), (9, 40, 41), (10, 24, 26), (11, 60, 61), (12, 16, 20), (12, 35, 37), (13, 84, 85), (14, 48, 50)] : List Tr) ++ ([(15, 20, 25), (15, 36, 39), (16, 30, 34), (16, 63, 65), (18, 24, 30), (18, 80, 82), (20, 21, 29), (20, 48, 52), (21, 28, 35), (21, 72, 75), (24, 32, 40), (24, 45, 51), (24, 70, 74)] : List Tr) ++ ([(25, 60, 65), (27, 36, 45), (28, 45, 53), (28, 96, 100), (30, 40, 50), (30, 72, 78), (32, 60, 68), (33, 44, 55), (33, 56, 65), (35, 84, 91), (36, 48, 60), (36, 77, 85), (39, 52, 65)] : List Tr) ++ ([(39, 80, 89), (40, 42, 58), (40, 75, 85), (42, 56, 70), (45, 60, 75), (48, 55, 73), (48, 64, 80), (51, 68, 85), (54, 72, 90), (57, 76, 95), (60, 63, 87), (60, 80, 100), (65, 72, 97)] : List Tr)
def memN (a b c : Nat) : Bool := rightsN.any fun t => Nat.beq t.1 a && (Nat.beq t.2.1 b && Nat.beq t.2.2 c)
def chkR (i : Nat) : Bool := (List.range (100 - i)).all fun j => (List.range (101 - (i + 1 + j))).all fun k => if Nat.beq ((i + 1) * (i + 1) + (i + 1 + j) * (i + 1 + j)) ((i + 1 + j + k) * (i + 1 + j + k)) then memN (i + 1) (i + 1 + j) (i + 1 + j + k) else true
theorem chkR_all : ((List.range 100).all chkR) = true := by decide +kernel
theorem rightsN_L : (rightsN.all fun t => decide (((t.1 : Int), (t.2.1 : Int), (t.2.2 : Int)) ∈ rightsL)) = true := by decide +kernel
theorem right_mem {a b c : Int} (h : Tri a b c) (r : a * a + b * b = c * c) : (a, b, c) ∈ rightsL := by
  obtain ⟨h1, h2, h3, h4, h5⟩ := h
  have q := List.all_eq_true.mp chkR_all (a - 1).toNat (List.mem_range.mpr (by omega))
  unfold chkR at q
  have q := List.all_eq_true.mp q (b - a).toNat (List.mem_range.mpr (by omega))
  have q := List.all_eq_true.mp q (c - b).toNat (List.mem_range.mpr (by omega))
  obtain ⟨x, ex⟩ : ∃ x : Nat, (x : Int) = a := ⟨a.toNat, by omega⟩
  obtain ⟨y, ey⟩ : ∃ y : Nat, (y : Int) = b := ⟨b.toNat, by omega⟩
  obtain ⟨z, ez⟩ : ∃ z : Nat, (z : Int) = c := ⟨c.toNat, by omega⟩
  have e1 : (a - 1).toNat + 1 = x := by omega
  have e2 : x + (b - a).toNat = y := by omega
  have e3 : y + (c - b).toNat = z := by omega
  rw [e1, e2, e3] at q
  have e4 : x * x + y * y = z * z := by
    have : ((x * x + y * y : Nat) : Int) = ((z * z : Nat) : Int) := by
      rw [Int.natCast_add, Int.natCast_mul, Int.natCast_mul, Int.natCast_mul, ex, ey, ez]
      exact r
    omega
  rw [if_pos (by rw [e4]; exact Nat.beq_refl _)] at q
  obtain ⟨t, ht, e⟩ := List.any_eq_true.mp q
  rw [Bool.and_eq_true, Bool.and_eq_true] at e
  have f1 := Nat.eq_of_beq_eq_true e.1
  have f2 := Nat.eq_of_beq_eq_true e.2.1
  have f3 := Nat.eq_of_beq_eq_true e.2.2
  have k := of_decide_eq_true (List.all_eq_true.mp rightsN_L t ht)
  rw [f1, f2, f3, ex, ey, ez] at k
  exact k
theorem rights_tri : (rightsL.all fun t => decide (1 ≤ t.1 ∧ t.1 ≤ t.2.1 ∧ t.2.1 ≤ t.2.2 ∧ t.2.2 ≤ 100 ∧ t.2.2 < t.1 + t.2.1 ∧ t.1 * t.1 + t.2.1 * t.2.1 = t.2.2 * t.2.2)) = true := by decide +kernel
theorem right_of {a b c : Int} (h : (a, b, c) ∈ rightsL) : Tri a b c ∧ a * a + b * b = c * c := by
  have q := of_decide_eq_true (List.all_eq_true.mp rights_tri _ h)
  exact ⟨⟨q.1, q.2.1, q.2.2.1, q.2.2.2.1, q.2.2.2.2.1⟩, q.2.2.2.2.2⟩
/-! ### the numbers that tell a right triangle -/
def oddOf (a b : Int) : Int := if b / (Int.gcd a b : Int) % 2 = 0 then a / (Int.gcd a b : Int) else b / (Int.gcd a b : Int)
def evenOf (a b : Int) : Int := if b / (Int.gcd a b : Int) % 2 = 0 then b / (Int.gcd a b : Int) else a / (Int.gcd a b : Int)
def tm (a b c : Int) : Int := rootI ((c / (Int.gcd a b : Int) + oddOf a b) / 2)
def toldT (a b c : Int) : Tr := ((Int.gcd a b : Int), tm a b c, evenOf a b / 2 / tm a b c)
def toldD (a b c : Int) : D := trD (toldT a b c)
def cTold : Ct := fun as S => (∃ a b c, Tri a b c ∧ a * a + b * b = c * c ∧ as = [.dat (tri a b c)] ∧ S = Ret (.ok (toldD a b c))) ∨ (∃ a b c, Tri a b c ∧ rightB a b c = false ∧ as = [.dat (tri a b c)] ∧ S = Ret (.error "NotRight")) ∨
  (∃ d, isTriD d = false ∧ as = [.dat d] ∧ S = Ret (.error "InvalidTriangle"))
def cNeedRight : Ct := fun as S => (∃ a b c, Tri a b c ∧ rightB a b c = true ∧ as = [.dat (tri a b c)] ∧ S = Ret (.ok .none)) ∨ (∃ a b c, Tri a b c ∧ rightB a b c = false ∧ as = [.dat (tri a b c)] ∧ S = Ret (.error "NotRight"))
/-- k, m, n are such numbers -/
structure Nums (k m n : Int) : Prop where
  k1 : 1 ≤ k
  k2 : k ≤ 100
  m1 : 1 ≤ m
  m2 : m ≤ 100
  n1 : 1 ≤ n
  n2 : n ≤ 100
def suchB (m n : Int) : Bool := decide (n < m) && (decide ((Int.gcd m n : Int) = 1) && decide ((m + n) % 2 = 1))
def cRightFrom : Ct := fun as S => (∃ k m n, Nums k m n ∧ suchB m n = true ∧ k * (m * m + n * n) ≤ 100 ∧ as = [.dat (.int k), .dat (.int m), .dat (.int n)] ∧ S = Ret (.ok (rightD k m n))) ∨
  (∃ k m n, Nums k m n ∧ suchB m n = true ∧ 100 < k * (m * m + n * n) ∧ as = [.dat (.int k), .dat (.int m), .dat (.int n)] ∧ S = Ret (.error "TooGreat")) ∨
  (∃ k m n, Nums k m n ∧ suchB m n = false ∧ as = [.dat (.int k), .dat (.int m), .dat (.int n)] ∧ S = Ret (.error "InvalidNumber")) ∨
  (∃ x y z, (isWhole x 1 100 && (isWhole y 1 100 && (isWhole z 1 100 && true))) = false ∧ as = [.dat x, .dat y, .dat z] ∧ S = Ret (.error "InvalidNumber"))
/-! ### each right triangle is told by just one triple -/
def rightT (k m n : Int) : List Int := sortI [k * (m * m - n * n), 2 * k * m * n, k * (m * m + n * n)]
def trI (t : Tr) : List Int := [t.1, t.2.1, t.2.2]
theorem told_back : (rightsL.all fun t => decide ((let u := toldT t.1 t.2.1 t.2.2; 1 ≤ u.1 ∧ u.1 ≤ 100 ∧ 1 ≤ u.2.2 ∧ u.2.1 ≤ 100 ∧ suchB u.2.1 u.2.2 = true ∧ u.1 * (u.2.1 * u.2.1 + u.2.2 * u.2.2) = t.2.2 ∧ rightT u.1 u.2.1 u.2.2 = trI t))) = true := by decide +kernel
end KR
namespace KR
open PySem DL
def suchOk (k m n : Nat) : Bool := if suchB (m : Int) (n : Int) && decide ((k : Int) * ((m : Int) * (m : Int) + (n : Int) * (n : Int)) ≤ 100) then
  (match rightT (k : Int) (m : Int) (n : Int) with
  | [a, b, c] => decide ((a, b, c) ∈ rightsL) && decide (toldT a b c = ((k : Int), (m : Int), (n : Int)))
  | _ => false) else true
theorem such_all : ((List.range 20).all fun i => (List.range 10).all fun j => (List.range 10).all fun l => suchOk (i + 1) (j + 1) (l + 1)) = true := by decide +kernel
theorem such_told {k m n : Int} (h : Nums k m n) (hs : suchB m n = true) (hc : k * (m * m + n * n) ≤ 100) : ∃ a b c, rightD k m n = tri a b c ∧ Tri a b c ∧ a * a + b * b = c * c ∧ toldT a b c = (k, m, n) ∧ c = k * (m * m + n * n) := by
  obtain ⟨k1, k2, m1, m2, n1, n2⟩ := h
  have hs' := hs
  unfold suchB at hs'
  simp only [Bool.and_eq_true, decide_eq_true_eq] at hs'
  have hnm := hs'.1
  have q1 := sq_le_sq (a := n + 1) (b := m) (by omega) (by omega)
  have q2 : 1 ≤ n * n := by
    have := Int.mul_le_mul n1 n1 (by omega) (by omega)
    omega
  have q3 : 5 ≤ m * m + n * n := by
    have e : (n + 1) * (n + 1) = n * n + 2 * n + 1 := by grind
    omega
  have q4 : k * 5 ≤ k * (m * m + n * n) := Int.mul_le_mul_of_nonneg_left q3 (by omega)
  have q5 : 1 * (m * m + n * n) ≤ k * (m * m + n * n) := Int.mul_le_mul_of_nonneg_right k1 (by omega)
  have q6 : m < 10 := lt_of_sq (by omega) (by omega)
  obtain ⟨x, ex⟩ : ∃ x : Nat, (x : Int) + 1 = k := ⟨(k - 1).toNat, by omega⟩
  obtain ⟨y, ey⟩ : ∃ y : Nat, (y : Int) + 1 = m := ⟨(m - 1).toNat, by omega⟩
  obtain ⟨z, ez⟩ : ∃ z : Nat, (z : Int) + 1 = n := ⟨(n - 1).toNat, by omega⟩
  have q := List.all_eq_true.mp (List.all_eq_true.mp (List.all_eq_true.mp such_all x (List.mem_range.mpr (by omega))) y (List.mem_range.mpr (by omega))) z (List.mem_range.mpr (by omega))
  unfold suchOk at q
  have f1 : (((x + 1 : Nat)) : Int) = k := by omega
  have f2 : (((y + 1 : Nat)) : Int) = m := by omega
  have f3 : (((z + 1 : Nat)) : Int) = n := by omega
  rw [f1, f2, f3, if_pos (by rw [hs, decide_eq_true hc]; rfl)] at q
  match hr : rightT k m n, q with
  | [a, b, c], q =>
    rw [Bool.and_eq_true, decide_eq_true_eq, decide_eq_true_eq] at q
    obtain ⟨t1, t2⟩ := right_of q.1
    have b1 := of_decide_eq_true (List.all_eq_true.mp told_back _ q.1)
    refine ⟨a, b, c, ?_, t1, t2, q.2, ?_⟩
    · unfold rightD
      unfold rightT at hr
      rw [hr]
      rfl
    · have e := b1.2.2.2.2.2.1
      rw [q.2] at e
      exact e.symm
  | [], q => exact nof q
  | [_], q => exact nof q
  | [_, _], q => exact nof q
  | _ :: _ :: _ :: _ :: _, q => exact nof q
theorem told_pos {a b c : Int} (h : Tri a b c) : 1 ≤ (Int.gcd a b : Int) ∧ (Int.gcd a b : Int) ≤ 100 ∧ 0 ≤ a / (Int.gcd a b : Int) ∧ 0 ≤ b / (Int.gcd a b : Int) ∧ 0 ≤ c / (Int.gcd a b : Int) ∧ b / (Int.gcd a b : Int) ≤ 100 ∧ a / (Int.gcd a b : Int) ≤ 100 ∧ c / (Int.gcd a b : Int) ≤ 100 ∧ 1 ≤ oddOf a b ∧ oddOf a b ≤ 100 ∧ 0 ≤ evenOf a b ∧ evenOf a b ≤ 100 ∧ 1 ≤ (c / (Int.gcd a b : Int) + oddOf a b) / 2 := by
  obtain ⟨h1, h2, h3, h4, h5⟩ := h
  have g1 : 0 < (Int.gcd a b : Int) := gcd_pos (by omega)
  have g2 : (Int.gcd a b : Int) ≤ a := gcd_le (by omega)
  have d : ∀ x : Int, (Int.gcd a b : Int) ≤ x → 1 ≤ x / (Int.gcd a b : Int) := fun x hx => Int.le_ediv_of_mul_le g1 (by omega)
  have u : ∀ x : Int, 0 ≤ x → x ≤ 100 → x / (Int.gcd a b : Int) ≤ 100 := fun x h0 hx => Int.le_trans (Int.ediv_le_self _ h0) hx
  have d1 := d a g2
  have d2 := d b (by omega)
  have d3 := d c (by omega)
  have u1 := u a (by omega) (by omega)
  have u2 := u b (by omega) (by omega)
  have u3 := u c (by omega) (by omega)
  have o : 1 ≤ oddOf a b ∧ oddOf a b ≤ 100 := by unfold oddOf; split <;> omega
  have e : 0 ≤ evenOf a b ∧ evenOf a b ≤ 100 := by unfold evenOf; split <;> omega
  refine ⟨by omega, by omega, by omega, by omega, by omega, u2, u1, u3, o.1, o.2, e.1, e.2, by omega⟩
theorem tm_pos {a b c : Int} (h : Tri a b c) : 1 ≤ tm a b c ∧ tm a b c ≤ 100 := by
  obtain ⟨_, _, _, _, c0, _, _, c1, o1, o2, _, _, z⟩ := told_pos h
  obtain ⟨r0, r1, r2⟩ := rootI_spec (n := (c / (Int.gcd a b : Int) + oddOf a b) / 2) (by omega)
  have e : rootI ((c / (Int.gcd a b : Int) + oddOf a b) / 2) = tm a b c := rfl
  rw [e] at r0 r1 r2
  have l : tm a b c < 11 := lt_of_sq (by omega) (by omega)
  refine ⟨?_, by omega⟩
  rcases (show tm a b c = 0 ∨ 1 ≤ tm a b c by omega) with w | w
  · rw [w] at r2
    omega
  · exact w
theorem notTri {x y z : Int} (h : ¬ Tri x y z) : isTriD (tri x y z) = false := by
  cases q : isTriD (tri x y z) with
  | false => rfl
  | true => exact absurd (tri_of_isTri q) h
end KR
set_option Elab.async false
set_option linter.all false
set_option maxRecDepth 100000
namespace KR
open PySem DL
theorem right_nums {k m n : Int} (h : RightBy k m n) : Nums k m n ∧ suchB m n = true ∧ k * (m * m + n * n) ≤ 100 := by
  obtain ⟨h1, h2, h3, h4, h5, h6, h7⟩ := pairs_ok (m, n) h.mem
  have h1 : 1 ≤ n := h1
  have h2 : n < m := h2
  have h3 : m ≤ 9 := h3
  have h5 : 5 ≤ m * m + n * n := h5
  have h6 : (Int.gcd m n : Int) = 1 := h6
  have h7 : (m + n) % 2 = 1 := h7
  have hk := h.k1
  have hc := h.kc
  have q4 : k * 5 ≤ k * (m * m + n * n) := Int.mul_le_mul_of_nonneg_left h5 (by omega)
  refine ⟨⟨hk, by omega, by omega, by omega, h1, by omega⟩, ?_, hc⟩
  unfold suchB
  rw [decide_eq_true h2, decide_eq_true h6, decide_eq_true h7]
  rfl
def dueR (x y z : Int) : D := if suchB y z = true then (if 100 < x * (y * y + z * z) then termD "TooGreat" else rightD x y z) else termD "InvalidNumber"
theorem right_shaped (k m n : Int) : SeqAt.shaped (rightD k m n) = true := (shp_tupI _).ok
theorem right_same (k m n : Int) : PyData.eqv (rightD k m n) (rightD k m n) = true := eqv_same (shp_tupI _).c
theorem dueR_ok (x y z : Int) : SeqAt.shaped (dueR x y z) = true ∧ PyData.eqv (dueR x y z) (dueR x y z) = true := by
  unfold dueR
  split
  · split
    · exact ⟨by decide +kernel, by decide +kernel⟩
    · exact ⟨right_shaped _ _ _, right_same _ _ _⟩
  · exact ⟨by decide +kernel, by decide +kernel⟩
theorem such_not {y z : Int} (hy : 1 ≤ y) : (decide (y ≤ z) || ((!decide ((Int.gcd y z : Int) = 1)) || decide ((y + z) % 2 = 0))) = !suchB y z := by
  unfold suchB
  rw [Bool.not_and, Bool.not_and, ← decide_not, ← decide_not, ← decide_not]
  have f1 : (y ≤ z) ↔ ¬ z < y := by omega
  have f3 : ((y + z) % 2 = 0) ↔ ¬ (y + z) % 2 = 1 := by omega
  rw [decide_eq_decide.mpr f1, decide_eq_decide.mpr f3]
end KR
set_option Elab.async false
set_option linter.all false
set_option maxRecDepth 100000
namespace KR
open PySem DL
/-! ### scaled triangles -/
def dst3 (a b c : Int) : Int := if a = b then (if b = c then 1 else 2) else (if b = c then 2 else 3)
theorem dst_3 {a b c : Int} (h1 : a ≤ b) (h2 : b ≤ c) : dst [a, b, c] = dst3 a b c := by
  unfold dst3
  by_cases e1 : a = b
  · subst e1
    by_cases e2 : a = c
    · subst e2
      rw [if_pos rfl, if_pos rfl]
      exact dst_same a
    · rw [if_pos rfl, if_neg e2]
      have l : a < c := by omega
      simp [dst, sortU, insU, l, e2]
  · have l1 : a < b := by omega
    by_cases e2 : b = c
    · subst e2
      rw [if_neg e1, if_pos rfl]
      simp [dst, sortU, insU, l1]
    · have l2 : b < c := by omega
      rw [if_neg e1, if_neg e2]
      simp [dst, sortU, insU, l1, l2]
theorem mul_eq_iff {a b k : Int} (hk : 1 ≤ k) : a * k = b * k ↔ a = b := ⟨fun h => Int.eq_of_mul_eq_mul_right (by omega) h, fun h => by rw [h]⟩
theorem dst_scaled {a b c k : Int} (h : Tri a b c) (hk : 1 ≤ k) (hc : c * k ≤ 100) : dst [a * k, b * k, c * k] = dst [a, b, c] := by
  have hs := tri_scaled h hk hc
  rw [dst_3 hs.ab hs.bc, dst_3 h.ab h.bc]
  unfold dst3
  simp only [mul_eq_iff hk]
theorem right_scaled {a b c k : Int} (hk : 1 ≤ k) : rightB (a * k) (b * k) (c * k) = rightB a b c := by
  unfold rightB
  have e : (a * k) * (a * k) + (b * k) * (b * k) = (c * k) * (c * k) ↔ a * a + b * b = c * c := by
    have p : k * k ≠ 0 := by have := Int.mul_pos (show 0 < k by omega) (show 0 < k by omega); omega
    have f1 : (a * k) * (a * k) + (b * k) * (b * k) = (k * k) * (a * a + b * b) := by grind
    have f2 : (c * k) * (c * k) = (k * k) * (c * c) := by grind
    rw [f1, f2]
    exact ⟨fun z => Int.eq_of_mul_eq_mul_left p z, fun z => by rw [z]⟩
  rw [decide_eq_decide.mpr e]
theorem frac_scaled {t u p q t' u' p' q' k s : Int} (h1 : p * u = t * q) (h2 : p' * u' = t' * q') (e1 : t' = t * k * s) (e2 : u' = u * s) (hu : 0 < u) (hs : 0 < s) : p' * q = p * k * q' := by
  have n : u * s ≠ 0 := by have := Int.mul_pos hu hs; omega
  refine Int.eq_of_mul_eq_mul_left n ?_
  have f1 : u * s * (p' * q) = p' * u' * q := by rw [e2]; grind
  have f2 : u * s * (p * k * q') = (p * u) * (k * s * q') := by grind
  rw [f1, f2, h1, h2, e1]
  grind
theorem area_scaled' {a b c k m : Int} (h : Tri a b c) (hk : 1 ≤ k) (hc : c * k ≤ 100) (hm : areaD a b c = .int m) : areaD (a * k) (b * k) (c * k) = .int (m * k * k) := by
  rcases area_scaled h hk hc with ⟨m', e1, e2⟩ | ⟨e1, e2⟩
  · rw [hm] at e1
    injection e1 with e1
    rw [e1]
    exact e2
  · rw [hm] at e1
    cases e1
theorem told_scaled0 : (rightsL.all fun t => (List.range 20).all fun i => decide (t.2.2 * ((i : Int) + 1) ≤ 100 → toldT (t.1 * ((i : Int) + 1)) (t.2.1 * ((i : Int) + 1)) (t.2.2 * ((i : Int) + 1)) = ((toldT t.1 t.2.1 t.2.2).1 * ((i : Int) + 1), (toldT t.1 t.2.1 t.2.2).2.1, (toldT t.1 t.2.1 t.2.2).2.2))) = true := by decide +kernel
theorem told_scaled {a b c k : Int} (h : Tri a b c) (hr : a * a + b * b = c * c) (hk : 1 ≤ k) (hc : c * k ≤ 100) : toldT (a * k) (b * k) (c * k) = ((toldT a b c).1 * k, (toldT a b c).2.1, (toldT a b c).2.2) := by
  have hm := right_mem h hr
  have c5 : 3 ≤ c := by
    have b1 := of_decide_eq_true (List.all_eq_true.mp rights_tri _ hm)
    obtain ⟨h1, h2, h3, h4, h5⟩ := h
    rcases (show c = 1 ∨ c = 2 ∨ 3 ≤ c by omega) with e | e | e
    · subst e
      have : a = 1 := by omega
      subst this
      have : b = 1 := by omega
      subst this
      omega
    · subst e
      rcases (show a = 1 ∨ a = 2 by omega) with e | e <;> rcases (show b = 1 ∨ b = 2 by omega) with f | f <;> subst e <;> subst f <;> omega
    · exact e
  have c5' : 5 ≤ c := by
    rcases (show c = 3 ∨ c = 4 ∨ 5 ≤ c by omega) with e | e | e
    · subst e
      have hh := hm
      simp [rightsL] at hh
    · subst e
      have hh := hm
      simp [rightsL] at hh
    · exact e
  have k20 : k ≤ 20 := by
    have := Int.mul_le_mul_of_nonneg_right c5' (show 0 ≤ k by omega)
    omega
  have q := of_decide_eq_true (List.all_eq_true.mp (List.all_eq_true.mp told_scaled0 _ hm) (k - 1).toNat (List.mem_range.mpr (by omega)))
  have e : (((k - 1).toNat : Nat) : Int) + 1 = k := by omega
  rw [e] at q
  exact q hc
theorem told_red0 : (rightsL.all fun t => decide (toldT (t.1 / gcd3 t.1 t.2.1 t.2.2) (t.2.1 / gcd3 t.1 t.2.1 t.2.2) (t.2.2 / gcd3 t.1 t.2.1 t.2.2) = (1, (toldT t.1 t.2.1 t.2.2).2.1, (toldT t.1 t.2.1 t.2.2).2.2) ∧ gcd3 t.1 t.2.1 t.2.2 = (toldT t.1 t.2.1 t.2.2).1)) = true := by decide +kernel
theorem told_red {a b c x y z : Int} (h : Tri a b c) (hr : a * a + b * b = c * c) (R : Red a b c x y z) : toldT x y z = (1, (toldT a b c).2.1, (toldT a b c).2.2) ∧ x * x + y * y = z * z ∧ gcd3 a b c = (toldT a b c).1 := by
  have q := of_decide_eq_true (List.all_eq_true.mp told_red0 _ (right_mem h hr))
  have e := R.d
  unfold redD at e
  obtain ⟨e1, e2, e3⟩ := tri_inj e
  have q1 : toldT (a / gcd3 a b c) (b / gcd3 a b c) (c / gcd3 a b c) = _ := q.1
  rw [e1, e2, e3] at q1
  refine ⟨q1, ?_, q.2⟩
  have f : rightB x y z = rightB a b c := by
    have g := right_scaled (a := x) (b := y) (c := z) (k := gcd3 a b c) (by have := (gcd3_pos h).1; omega)
    rw [Int.mul_comm x, Int.mul_comm y, Int.mul_comm z, ← R.ea, ← R.eb, ← R.ec] at g
    exact g.symm
  have f2 : rightB a b c = true := decide_eq_true hr
  rw [f2] at f
  exact of_decide_eq_true f
/-! ### alike on a rope -/
def alikeX (x y z n : Int) : D := if x * (n / (x + y + z)) + y * (n / (x + y + z)) + z * (n / (x + y + z)) = n ∧ isTriD (tri (x * (n / (x + y + z))) (y * (n / (x + y + z))) (z * (n / (x + y + z)))) = true then tri (x * (n / (x + y + z))) (y * (n / (x + y + z))) (z * (n / (x + y + z))) else .none
def alikeD (a b c n : Int) : D := alikeX (a / gcd3 a b c) (b / gcd3 a b c) (c / gcd3 a b c) n
theorem alike_red {a b c x y z n : Int} (R : Red a b c x y z) : alikeD a b c n = alikeX x y z n := by
  have e := R.d
  unfold redD at e
  obtain ⟨e1, e2, e3⟩ := tri_inj e
  unfold alikeD
  rw [e1, e2, e3]
def cAlikeOn : Ct := fun as S => (∃ a b c n, Tri a b c ∧ Rope n ∧ as = [.dat (tri a b c), .dat (.int n)] ∧ S = Ret (.ok (alikeD a b c n))) ∨ (∃ a b c d, Tri a b c ∧ isWhole d 3 60 = false ∧ as = [.dat (tri a b c), .dat d] ∧ S = Ret (.error "InvalidRope"))
theorem alike_scaled {a b c k : Int} (h : Tri a b c) (hk : 1 ≤ k) (hc : c * k ≤ 100) (hn : a * k + b * k + c * k ≤ 60) : alikeD a b c (a * k + b * k + c * k) = tri (a * k) (b * k) (c * k) := by
  obtain ⟨x, y, z, R⟩ := red_ex h
  rw [alike_red R]
  obtain ⟨p, _⟩ := gcd3_pos h
  have t := R.tri
  have t1 := t.a1
  have t2 := t.le
  have e1 := R.ea
  have e2 := R.eb
  have e3 := R.ec
  generalize gcd3 a b c = g at *
  have f : a * k + b * k + c * k = (x + y + z) * (g * k) := by rw [e1, e2, e3]; grind
  unfold alikeX
  have d : (x + y + z) * (g * k) / (x + y + z) = g * k := Int.mul_ediv_cancel_left _ (by omega)
  have g1 : x * (g * k) = a * k := by rw [e1]; grind
  have g2 : y * (g * k) = b * k := by rw [e2]; grind
  have g3 : z * (g * k) = c * k := by rw [e3]; grind
  rw [f, d, g1, g2, g3, ← f, if_pos ⟨rfl, isTri_tri (tri_scaled h hk hc)⟩]
theorem alikeX_cases {x y z n : Int} : alikeX x y z n = .none ∨ ∃ p q r, Tri p q r ∧ alikeX x y z n = tri p q r ∧ p + q + r = n := by
  unfold alikeX
  split
  · rename_i h
    exact .inr ⟨_, _, _, tri_of_isTri h.2, rfl, h.1⟩
  · exact .inl rfl
theorem alike_shaped (a b c n : Int) : SeqAt.shaped (alikeD a b c n) = true := by
  rcases alikeX_cases (x := a / gcd3 a b c) (y := b / gcd3 a b c) (z := c / gcd3 a b c) (n := n) with e | ⟨p, q, r, _, e, _⟩
  · unfold alikeD
    rw [e]
    rfl
  · unfold alikeD
    rw [e]
    exact (shp_tupI [_, _, _]).ok
end KR
set_option Elab.async false
set_option linter.all false
set_option maxRecDepth 100000
namespace DL
theorem oneOwn_app {pre post : List Sl} {xs : List D} (h1 : ∀ s ∈ pre, NoO s) (h2 : ∀ s ∈ post, NoO s) : OneOwn (pre ++ .own xs :: post) pre.length := fun j ys hj e => by
  rcases Nat.lt_trichotomy j pre.length with l | l | l
  · rw [List.getElem?_append_left l] at e
    exact NoO.ne (h1 _ (List.mem_of_getElem? e)) ys rfl
  · exact hj l
  · rw [List.getElem?_append_right (by omega)] at e
    obtain ⟨m, hm⟩ : ∃ m, j - pre.length = m + 1 := ⟨j - pre.length - 1, by omega⟩
    rw [hm, List.getElem?_cons_succ] at e
    exact NoO.ne (h2 _ (List.mem_of_getElem? e)) ys rfl
theorem noOs_nil : ∀ s ∈ ([] : List Sl), NoO s := fun s h => by cases h
theorem noOs_cons {a : Sl} {r : List Sl} (h1 : NoO a) (h2 : ∀ s ∈ r, NoO s) : ∀ s ∈ a :: r, NoO s := fun s h => by
  rcases List.mem_cons.mp h with rfl | h
  · exact h1
  · exact h2 s h
end DL
namespace KR
open PySem DL
/-! ### triangles as data -/
def onB (p : Tr → Bool) (d : D) : Bool := match d with
  | .tuple [.int a, .int b, .int c] => p (a, b, c)
  | _ => false
def onD (g : Tr → D) (d : D) : D := match d with
  | .tuple [.int a, .int b, .int c] => g (a, b, c)
  | _ => d
theorem filt_tr {p : Tr → Bool} : ∀ ts : List Tr, (trL ts).filter (onB p) = trL (ts.filter p)
  | [] => rfl
  | t :: ts => by
    show (trD t :: trL ts).filter (onB p) = _
    rw [List.filter_cons, List.filter_cons, filt_tr ts]
    show (if p t = true then _ else _) = _
    split <;> rfl
theorem map_tr {g : Tr → D} : ∀ ts : List Tr, (trL ts).map (onD g) = ts.map g
  | [] => rfl
  | t :: ts => by
    show onD g (trD t) :: (trL ts).map (onD g) = _
    rw [map_tr ts]
    rfl
theorem filt_all {α : Type} (xs : List α) : xs.filter (fun _ => true) = xs := List.filter_eq_self.mpr fun _ _ => rfl
theorem trL_at {ts : List Tr} {i : Nat} {d : D} (h : (trL ts)[i]? = some d) : ∃ t, ts[i]? = some t ∧ d = trD t := by
  unfold trL at h
  rw [List.getElem?_map] at h
  cases q : ts[i]? with
  | none =>
    rw [q] at h
    cases h
  | some t =>
    rw [q] at h
    exact ⟨t, rfl, (Option.some.inj h).symm⟩
theorem trL_len (ts : List Tr) : (trL ts).length = ts.length := List.length_map ..
theorem shp_trT (ts : List Tr) : Shp 2 (.tuple (trL ts)) := shp_tup fun x hx => by
  obtain ⟨t, _, rfl⟩ := List.mem_map.mp hx
  exact shp_tupI [t.1, t.2.1, t.2.2]
theorem shp_trLs (ts : List Tr) : Shp 2 (.list (trL ts)) := shp_list fun x hx => by
  obtain ⟨t, _, rfl⟩ := List.mem_map.mp hx
  exact shp_tupI [t.1, t.2.1, t.2.2]
/-! ### kinds of a rope -/
def kindT (t : Tr) : Str := kindS t.1 t.2.1 t.2.2
def hasA (t : Tr) : Bool := !isN (areaD t.1 t.2.1 t.2.2)
def isR (t : Tr) : Bool := rightB t.1 t.2.1 t.2.2
def cntK (ts : List Tr) (k : Str) : Int := ((ts.countP fun t => kindT t == k : Nat) : Int)
def kindsD (ts : List Tr) : D := .tuple [.int (cntK ts "acute"), .int (cntK ts "right"), .int (cntK ts "obtuse")]
def wholeT (n : Int) : List Tr := (laidT n).filter hasA
def cCountKinds : Ct := cRope fun n => kindsD (laidT n)
def cWhole : Ct := cRope fun n => .tuple (trL (wholeT n))
theorem beqs : (("acute" : Str) == "acute") = true ∧ (("acute" : Str) == "right") = false ∧ (("acute" : Str) == "obtuse") = false ∧ (("right" : Str) == "acute") = false ∧ (("right" : Str) == "right") = true ∧ (("right" : Str) == "obtuse") = false ∧ (("obtuse" : Str) == "acute") = false ∧ (("obtuse" : Str) == "right") = false ∧ (("obtuse" : Str) == "obtuse") = true := by decide +kernel
theorem cntK_snoc (ts : List Tr) (t : Tr) (k : Str) : cntK (ts ++ [t]) k = cntK ts k + (if kindT t == k then 1 else 0) := by
  unfold cntK
  rw [List.countP_append, List.countP_singleton]
  split <;> simp
theorem cntK_cons (ts : List Tr) (t : Tr) (k : Str) : cntK (t :: ts) k = cntK ts k + (if kindT t == k then 1 else 0) := by
  unfold cntK
  rw [List.countP_cons]
  split <;> simp
theorem cntK_nonneg (ts : List Tr) (k : Str) : 0 ≤ cntK ts k := Int.natCast_nonneg _
theorem kinds_sum : ∀ ts : List Tr, cntK ts "acute" + cntK ts "right" + cntK ts "obtuse" = (ts.length : Int)
  | [] => rfl
  | t :: ts => by
    have ih := kinds_sum ts
    obtain ⟨e1, e2, e3, e4, e5, e6, e7, e8, e9⟩ := beqs
    rw [cntK_cons, cntK_cons, cntK_cons, List.length_cons]
    rcases kind_cases t.1 t.2.1 t.2.2 with e | e | e
    · rw [show kindT t = "acute" from e, e1, e2, e3]
      simp
      omega
    · rw [show kindT t = "obtuse" from e, e7, e8, e9]
      simp
      omega
    · rw [show kindT t = "right" from e, e4, e5, e6]
      simp
      omega
theorem kindT_right (t : Tr) : (kindT t == "right") = isR t := by
  have h := kind_right (a := t.1) (b := t.2.1) (c := t.2.2)
  exact h
theorem right_hasA {a b c : Int} (h : Tri a b c) (hr : rightB a b c = true) : hasA (a, b, c) = true := by
  have hr : a * a + b * b = c * c := of_decide_eq_true hr
  show (!isN (areaD a b c)) = true
  rcases area_cases h with ⟨m, _, _, _, e⟩ | ⟨n, _⟩
  · rw [e]
    rfl
  · exfalso
    refine n (2 * (a * b)) ?_
    have e := sq16_eq a b c
    have z : a * a + b * b - c * c = 0 := by omega
    rw [z, Int.zero_mul, Int.add_zero] at e
    rw [e]
    grind
theorem whole_odd {n : Int} (hn : Rope n) (h : n % 2 = 1) : wholeT n = [] := by
  unfold wholeT
  refine List.filter_eq_nil_iff.mpr fun t ht => ?_
  obtain ⟨h1, h2⟩ := laid_tri hn ht
  intro hq
  rcases area_cases h1 with ⟨m, _, _, e, _⟩ | ⟨_, e⟩
  · omega
  · unfold hasA at hq
    rw [e] at hq
    cases hq
theorem rights_whole : ∀ ts : List Tr, (∀ t ∈ ts, Tri t.1 t.2.1 t.2.2) → cntK ts "right" = (((ts.filter hasA).filter isR).length : Int)
  | [], _ => rfl
  | t :: ts, h => by
    have ih := rights_whole ts fun t ht => h t (List.mem_cons_of_mem _ ht)
    have ht := h t List.mem_cons_self
    rw [cntK_cons, kindT_right, List.filter_cons]
    cases hr : isR t with
    | true =>
      have ha : hasA t = true := right_hasA ht hr
      rw [if_pos ha, List.filter_cons, if_pos hr, List.length_cons, ih]
      simp
    | false =>
      simp
      split
      · rw [List.filter_cons, if_neg (by rw [hr]; decide), ih]
      · exact ih
theorem kinds_12 : kindsD (laidT 12) = .tuple [.int 2, .int 1, .int 0] := by
  unfold kindsD
  rw [show cntK (laidT 12) "acute" = 2 by decide +kernel, show cntK (laidT 12) "right" = 1 by decide +kernel, show cntK (laidT 12) "obtuse" = 0 by decide +kernel]
theorem kinds_4 : kindsD (laidT 4) = .tuple [.int 0, .int 0, .int 0] := by
  unfold kindsD
  rw [show cntK (laidT 4) "acute" = 0 by decide +kernel, show cntK (laidT 4) "right" = 0 by decide +kernel, show cntK (laidT 4) "obtuse" = 0 by decide +kernel]
theorem whole_12 : wholeT 12 = [(3, 4, 5)] := by decide +kernel
/-- the place of a kind -/
def atK (t : Tr) : Int := if 0 < t.1 * t.1 + t.2.1 * t.2.1 - t.2.2 * t.2.2 then 0 else if t.1 * t.1 + t.2.1 * t.2.1 - t.2.2 * t.2.2 = 0 then 1 else 2
theorem atK_cases (t : Tr) : (atK t = 0 ∧ kindT t = "acute") ∨ (atK t = 1 ∧ kindT t = "right") ∨ (atK t = 2 ∧ kindT t = "obtuse") := by
  have e := due_kind t.1 t.2.1 t.2.2
  unfold atK
  show _ ∨ (_ ∧ kindS t.1 t.2.1 t.2.2 = _) ∨ _
  unfold kindT
  rw [← e]
  unfold dueS
  generalize t.1 * t.1 + t.2.1 * t.2.1 - t.2.2 * t.2.2 = g
  by_cases q1 : 0 < g
  · rw [if_pos q1, if_pos q1]
    exact .inl ⟨rfl, rfl⟩
  · by_cases q2 : g = 0
    · rw [if_neg q1, if_neg q1, if_pos q2, if_pos q2]
      exact .inr (.inl ⟨rfl, rfl⟩)
    · rw [if_neg q1, if_neg q1, if_neg q2, if_neg q2]
      exact .inr (.inr ⟨rfl, rfl⟩)
def cnts (ts : List Tr) : List D := [.int (cntK ts "acute"), .int (cntK ts "right"), .int (cntK ts "obtuse")]
theorem cnts_snoc (ts : List Tr) (t : Tr) : ∃ (m : Nat) (v : Int), atK t = (m : Int) ∧ m < 3 ∧ (cnts ts)[m]? = some (.int v) ∧ (cnts ts).set m (.int (v + 1)) = cnts (ts ++ [t]) := by
  obtain ⟨e1, e2, e3, e4, e5, e6, e7, e8, e9⟩ := beqs
  unfold cnts
  rw [cntK_snoc, cntK_snoc, cntK_snoc]
  rcases atK_cases t with ⟨h1, h2⟩ | ⟨h1, h2⟩ | ⟨h1, h2⟩
  · rw [h2, e1, e2, e3]
    exact ⟨0, cntK ts "acute", h1, by decide, rfl, by simp⟩
  · rw [h2, e4, e5, e6]
    exact ⟨1, cntK ts "right", h1, by decide, rfl, by simp⟩
  · rw [h2, e7, e8, e9]
    exact ⟨2, cntK ts "obtuse", h1, by decide, rfl, by simp⟩
end KR
set_option Elab.async false
set_option linter.all false
set_option maxRecDepth 100000
namespace KR
open PySem DL PySem.W
/-! ### greatest and least areas -/
def sqT (t : Tr) : Int := sq16 t.1 t.2.1 t.2.2
def stepG (b : Option Tr) (t : Tr) : Option Tr := match b with
  | none => some t
  | some u => if sqT u < sqT t then some t else some u
def stepL (b : Option Tr) (t : Tr) : Option Tr := match b with
  | none => some t
  | some u => if sqT t < sqT u then some t else some u
def bestG (ts : List Tr) : Option Tr := ts.foldl stepG none
def bestL (ts : List Tr) : Option Tr := ts.foldl stepL none
def optD : Option Tr → D
  | none => .none
  | some t => trD t
theorem bestG_snoc (ts : List Tr) (t : Tr) : bestG (ts ++ [t]) = stepG (bestG ts) t := by
  unfold bestG
  rw [List.foldl_append]
  rfl
theorem bestL_snoc (ts : List Tr) (t : Tr) : bestL (ts ++ [t]) = stepL (bestL ts) t := by
  unfold bestL
  rw [List.foldl_append]
  rfl
theorem bestG_mem : ∀ (ts : List Tr) (b : Option Tr) (u : Tr), ts.foldl stepG b = some u → b = some u ∨ u ∈ ts
  | [], b, u, h => .inl h
  | t :: ts, b, u, h => by
    rcases bestG_mem ts _ u h with e | e
    · unfold stepG at e
      split at e
      · cases e
        exact .inr List.mem_cons_self
      · split at e
        · cases e
          exact .inr List.mem_cons_self
        · exact .inl e
    · exact .inr (List.mem_cons_of_mem _ e)
theorem bestL_mem : ∀ (ts : List Tr) (b : Option Tr) (u : Tr), ts.foldl stepL b = some u → b = some u ∨ u ∈ ts
  | [], b, u, h => .inl h
  | t :: ts, b, u, h => by
    rcases bestL_mem ts _ u h with e | e
    · unfold stepL at e
      split at e
      · cases e
        exact .inr List.mem_cons_self
      · split at e
        · cases e
          exact .inr List.mem_cons_self
        · exact .inl e
    · exact .inr (List.mem_cons_of_mem _ e)
theorem bestG_in {ts : List Tr} {u : Tr} (h : bestG ts = some u) : u ∈ ts := (bestG_mem ts none u h).resolve_left (by simp)
theorem bestL_in {ts : List Tr} {u : Tr} (h : bestL ts = some u) : u ∈ ts := (bestL_mem ts none u h).resolve_left (by simp)
def cGreat : Ct := cRope fun n => optD (bestG (laidT n))
def cLeast : Ct := cRope fun n => optD (bestL (laidT n))
/-! ### min, max by an encoding -/
def minBy {β : Type} (enc : β → D) (x : β) (xs : List β) : β := xs.foldl (fun a y => if dataLt (enc y) (enc a) then y else a) x
theorem minD_map {β : Type} (enc : β → D) : ∀ (xs : List β) (x : β), minD (enc x) (xs.map enc) = enc (minBy enc x xs)
  | [], x => rfl
  | y :: ys, x => by
    have ih := minD_map enc ys (if dataLt (enc y) (enc x) then y else x)
    unfold minD minBy at *
    show List.foldl _ (if dataLt (enc y) (enc x) = true then enc y else enc x) (ys.map enc) = _
    have e : (if dataLt (enc y) (enc x) = true then enc y else enc x) = enc (if dataLt (enc y) (enc x) = true then y else x) := by split <;> rfl
    rw [e, ih]
    rfl
theorem minBy_mem {β : Type} (enc : β → D) : ∀ (xs : List β) (x : β), minBy enc x xs ∈ x :: xs
  | [], x => List.mem_cons_self
  | y :: ys, x => by
    have ih := minBy_mem enc ys (if dataLt (enc y) (enc x) then y else x)
    show minBy enc (if dataLt (enc y) (enc x) then y else x) ys ∈ _
    rcases List.mem_cons.mp ih with e | e
    · rw [e]
      split
      · exact List.mem_cons_of_mem _ List.mem_cons_self
      · exact List.mem_cons_self
    · exact List.mem_cons_of_mem _ (List.mem_cons_of_mem _ e)
def prD (t : Tr) : D := .tuple [.int (sqT t), trD t]
def k06 (n : Int) : Bool := match laidT n with
  | [] => decide (n = 4)
  | t :: r => match (t :: r).filter (fun u => decide (sqT u = (r.map sqT).foldl max (sqT t))), bestG (t :: r), bestL (t :: r) with
    | s :: sr, some hi, some lo => decide (n ≠ 4) && (decide (hi = minBy trD s sr) && (decide (lo = minBy prD t r) && (decide (hi.2.2 - hi.1 ≤ 1) && (decide (sqT lo ≤ sqT hi) && (decide (lo.1 = (if n % 2 = 1 then 1 else 2)) && decide (lo.2.1 = lo.2.2))))))
    | _, _, _ => false
theorem k06_all : ((List.range 58).all fun i => k06 (3 + (i : Int))) = true := by decide +kernel
end KR
namespace KR
open PySem DL PySem.W
theorem alikeAll_map {β : Type} {enc : β → D} (h : ∀ a b, alike (enc a) (enc b) = true) (hn : ∀ a, enc a ≠ .none) (x : β) (xs : List β) : AlikeAll (enc x :: xs.map enc) := by
  have m : ∀ d ∈ enc x :: xs.map enc, ∃ b, d = enc b := fun d hd => by
    rcases List.mem_cons.mp hd with rfl | hd
    · exact ⟨x, rfl⟩
    · obtain ⟨b, _, rfl⟩ := List.mem_map.mp hd
      exact ⟨b, rfl⟩
  refine ⟨fun a ha b hb => ?_, fun a ha => ?_⟩
  · obtain ⟨a, rfl⟩ := m a ha
    obtain ⟨b, rfl⟩ := m b hb
    exact h a b
  · obtain ⟨a, rfl⟩ := m a ha
    exact hn a
theorem depth_map {β : Type} {enc : β → D} {k : Nat} (h : ∀ a, (enc a).depth ≤ k) : ∀ xs : List β, PyData.depthAll (xs.map enc) ≤ k
  | [] => Nat.zero_le _
  | x :: xs => by
    show max (PyData.depth (enc x)) (PyData.depthAll (xs.map enc)) ≤ k
    exact Nat.max_le.mpr ⟨h x, depth_map h xs⟩
theorem al_int (x : Int) (xs : List Int) : AlikeAll (.int x :: xs.map .int) := alikeAll_map (enc := PyData.int) (fun _ _ => rfl) (fun _ z => by cases z) x xs
theorem al_tr (x : Tr) (xs : List Tr) : AlikeAll (trD x :: xs.map trD) := alikeAll_map (fun _ _ => rfl) (fun _ z => by cases z) x xs
theorem al_pr (x : Tr) (xs : List Tr) : AlikeAll (prD x :: xs.map prD) := alikeAll_map (fun _ _ => rfl) (fun _ z => by cases z) x xs
theorem dp_int (xs : List Int) : PyData.depthAll (xs.map .int) ≤ 60 := Nat.le_trans (depth_map (k := 0) (fun _ => Nat.le_refl _) xs) (by decide)
theorem dp_tr (xs : List Tr) : PyData.depthAll (xs.map trD) ≤ 60 := Nat.le_trans (depth_map (k := 1) (fun _ => (shp_tupI [_, _, _]).d) xs) (by decide)
theorem dp_pr (xs : List Tr) : PyData.depthAll (xs.map prD) ≤ 60 := Nat.le_trans (depth_map (k := 2) (fun t => Nat.le_refl _) xs) (by decide)
def fstD : D → D
  | .tuple [x, _] => x
  | d => d
def sndD : D → D
  | .tuple [_, y] => y
  | d => d
def fstIs (m : Int) : D → Bool
  | .tuple [.int x, _] => decide (x = m)
  | _ => false
theorem prL_fst (ts : List Tr) : ((ts.map prD).filter (fun _ => true)).map fstD = iL (ts.map sqT) := by
  rw [filt_all, List.map_map]
  unfold iL
  rw [List.map_map]
  rfl
theorem prL_sel (m : Int) : ∀ ts : List Tr, ((ts.map prD).filter (fstIs m)).map sndD = trL (ts.filter fun u => decide (sqT u = m))
  | [] => rfl
  | t :: ts => by
    have ih := prL_sel m ts
    rw [List.map_cons, List.filter_cons, List.filter_cons]
    show List.map sndD (if decide (sqT t = m) = true then _ else _) = _
    split
    · rw [List.map_cons, ih]
      rfl
    · exact ih
theorem maxI3 {a b c : Int} (h1 : a ≤ b) (h2 : b ≤ c) : maxD (.int a) [.int b, .int c] = .int c := by
  rw [show ([.int b, .int c] : List D) = [b, c].map .int from rfl, maxD_ints]
  show PyData.int (max (max a b) c) = _
  congr 1
  omega
theorem minI3 {a b c : Int} (h1 : a ≤ b) (h2 : b ≤ c) : minD (.int a) [.int b, .int c] = .int a := by
  rw [show ([.int b, .int c] : List D) = [b, c].map .int from rfl, minD_ints]
  show PyData.int (min (min a b) c) = _
  congr 1
  omega
theorem shp_pr (ts : List Tr) : Shp 3 (.list (ts.map prD)) := shp_list fun x hx => by
  obtain ⟨t, _, rfl⟩ := List.mem_map.mp hx
  refine shp_tup fun y hy => ?_
  simp only [List.mem_cons, List.not_mem_nil, or_false] at hy
  rcases hy with rfl | rfl
  · exact ⟨rfl, Nat.zero_le _⟩
  · exact shp_tupI [t.1, t.2.1, t.2.2]
theorem prL_at {ts : List Tr} {i : Nat} {d : D} (h : (ts.map prD)[i]? = some d) : ∃ t, ts[i]? = some t ∧ d = prD t := by
  rw [List.getElem?_map] at h
  cases q : ts[i]? with
  | none =>
    rw [q] at h
    cases h
  | some t =>
    rw [q] at h
    exact ⟨t, rfl, (Option.some.inj h).symm⟩
end KR
set_option Elab.async false
set_option linter.all false
set_option maxRecDepth 100000
namespace KR
open PySem DL PySem.W
/-! ### roots, fast -/
def goR : Nat → Nat → Nat → Nat → Nat
  | 0, _, lo, _ => lo
  | f + 1, n, lo, hi => if ((lo + hi) / 2) * ((lo + hi) / 2) ≤ n then goR f n ((lo + hi) / 2) hi else goR f n lo ((lo + hi) / 2)
def rtF (t : Tr) : Int := (goR 17 (sqT t).toNat 0 131072 : Int)
def rtOk (t : Tr) : Bool := decide (0 ≤ rtF t) && (decide (rtF t * rtF t ≤ sqT t) && decide (sqT t < (rtF t + 1) * (rtF t + 1)))
def hasF (t : Tr) : Bool := decide (rtF t * rtF t = sqT t)
theorem hasA_F {t : Tr} (h : Tri t.1 t.2.1 t.2.2) (ok : rtOk t = true) : hasA t = hasF t := by
  unfold rtOk at ok
  simp only [Bool.and_eq_true, decide_eq_true_eq] at ok
  have e := rootI_unique (Int.le_of_lt (sq16_pos h)) ok.1 ok.2.1 ok.2.2
  unfold hasA hasF
  rw [e]
  rcases area_cases h with ⟨m, m1, m2, _, m3⟩ | ⟨n1, n2⟩
  · rw [m3]
    have z : rootI (sq16 t.1 t.2.1 t.2.2) * rootI (sq16 t.1 t.2.1 t.2.2) = sqT t := by
      rw [← m2, rootI_sq (by omega)]
      exact m2
    rw [decide_eq_true z]
    rfl
  · have z : ¬ rootI (sq16 t.1 t.2.1 t.2.2) * rootI (sq16 t.1 t.2.1 t.2.2) = sqT t := n1 _
    rw [n2, decide_eq_false z]
    rfl
theorem rtOk_all : ((List.range 58).all fun i => (laidT (3 + (i : Int))).all rtOk) = true := by decide +kernel
def wholeF (n : Int) : List Tr := (laidT n).filter hasF
theorem whole_F {n : Int} (hn : Rope n) : wholeT n = wholeF n := by
  have q := ropes_by (fun n => (laidT n).all rtOk) rtOk_all n hn
  unfold wholeT wholeF
  exact List.filter_congr fun t ht => hasA_F (laid_tri hn ht).1 (List.all_eq_true.mp q t ht)
theorem wholeF_all : ((List.range 58).all fun i => decide ((wholeF (3 + (i : Int))).length < 60)) = true := by decide +kernel
theorem whole_len {n : Int} (hn : Rope n) : (wholeT n).length < 60 := by
  rw [whole_F hn]
  exact of_decide_eq_true (ropes_by (fun n => decide ((wholeF n).length < 60)) wholeF_all n hn)
/-! ### membership -/
theorem tr_eqv (t u : Tr) : PyData.eqv (trD t) (trD u) = decide (t = u) := by
  have e := eqv_tI (a := [t.1, t.2.1, t.2.2]) (b := [u.1, u.2.1, u.2.2])
  show PyData.eqv (.tuple (iL [t.1, t.2.1, t.2.2])) (.tuple (iL [u.1, u.2.1, u.2.2])) = _
  rw [e]
  refine decide_eq_decide.mpr ⟨fun h => ?_, fun h => by rw [h]⟩
  injection h with h1 h
  injection h with h2 h
  injection h with h3 h
  exact Prod.ext h1 (Prod.ext h2 h3)
theorem in_tr (t : Tr) : ∀ ts : List Tr, inD (trD t) (trL ts) = decide (t ∈ ts)
  | [] => rfl
  | u :: ts => by
    have ih := in_tr t ts
    show (PyData.eqv (trD u) (trD t) || inD (trD t) (trL ts)) = _
    rw [ih, tr_eqv, ← Bool.decide_or]
    refine decide_eq_decide.mpr ⟨fun h => ?_, fun h => ?_⟩
    · rcases h with h | h
      · rw [h]
        exact List.mem_cons_self
      · exact List.mem_cons_of_mem _ h
    · rcases List.mem_cons.mp h with h | h
      · exact .inl h.symm
      · exact .inr h
theorem laid_complete {a b c n : Int} (hn : Rope n) (h : Tri a b c) (hs : a + b + c = n) : (a, b, c) ∈ laidT n := by
  obtain ⟨h1, h2, h3, h4, h5⟩ := h
  obtain ⟨n1, n2⟩ := hn
  unfold laidT laidUp rows
  refine List.mem_flatMap.mpr ⟨a, mem_rngI.mpr ⟨by omega, by omega⟩, ?_⟩
  unfold laidRow rowIn
  refine List.mem_map.mpr ⟨b, List.mem_filter.mpr ⟨mem_rngI.mpr ⟨h2, by omega⟩, decide_eq_true (by omega)⟩, ?_⟩
  have e : n - a - b = c := by omega
  rw [e]
theorem mem_laid {n : Int} (hn : Rope n) {t : Tr} : t ∈ laidT n ↔ Tri t.1 t.2.1 t.2.2 ∧ t.1 + t.2.1 + t.2.2 = n := ⟨fun h => laid_tri hn h, fun h => laid_complete hn h.1 h.2⟩
theorem mem_whole {n : Int} (hn : Rope n) {t : Tr} : t ∈ wholeT n ↔ (Tri t.1 t.2.1 t.2.2 ∧ t.1 + t.2.1 + t.2.2 = n) ∧ hasA t = true := by
  unfold wholeT
  rw [List.mem_filter, mem_laid hn]
theorem hasA_int {a b c m : Int} (h : areaD a b c = .int m) : hasA (a, b, c) = true := by
  show (!isN (areaD a b c)) = true
  rw [h]
  rfl
/-! ### shapes of a rope -/
def redT (t : Tr) : Tr := (t.1 / gcd3 t.1 t.2.1 t.2.2, t.2.1 / gcd3 t.1 t.2.1 t.2.2, t.2.2 / gcd3 t.1 t.2.1 t.2.2)
theorem redT_D (t : Tr) : redD t.1 t.2.1 t.2.2 = trD (redT t) := rfl
def shapesT (n : Int) : List Tr := ((laidT n).map redT).mergeSort (dataLe false trD)
def cShapes : Ct := cRope fun n => .tuple (trL (shapesT n))
theorem reds_all : ((List.range 58).all fun i => decide (((laidT (3 + (i : Int))).map redT).Nodup)) = true := by decide +kernel
theorem reds_nodup {n : Int} (hn : Rope n) : ((laidT n).map redT).Nodup := of_decide_eq_true (ropes_by (fun n => decide (((laidT n).map redT).Nodup)) reds_all n hn)
theorem mem_shapes {n : Int} {t : Tr} : t ∈ shapesT n ↔ t ∈ (laidT n).map redT := (List.mergeSort_perm _ _).mem_iff
theorem area_558 : areaD 5 5 8 = .int 12 := by
  unfold areaD
  rw [show sq16 5 5 8 = 48 * 48 by decide, rootI_sq (by decide)]
  rfl
theorem trs_alike (ts : List Tr) : AllAlike (ts.map trD) := AllAlike.of fun _ _ => rfl
theorem trs_sortable (ts : List Tr) : Sortable (ts.map trD) := Sortable.tuples fun _ => ⟨_, _, rfl⟩
def trI3 (t : Tr) : List Int := [t.1, t.2.1, t.2.2]
theorem trL_ti (ts : List Tr) : trL ts = tiL (ts.map trI3) := by
  unfold trL tiL
  rw [List.map_map]
  rfl
theorem trI3_inj {t u : Tr} (h : trI3 t = trI3 u) : t = u := by
  injection h with h1 h
  injection h with h2 h
  injection h with h3 h
  exact Prod.ext h1 (Prod.ext h2 h3)
theorem nodup_ti : ∀ {ts : List Tr}, ts.Nodup → (ts.map trI3).Nodup
  | [], _ => List.nodup_nil
  | t :: ts, h => by
    obtain ⟨h1, h2⟩ := List.nodup_cons.mp h
    refine List.nodup_cons.mpr ⟨fun z => ?_, nodup_ti h2⟩
    obtain ⟨u, hu, e⟩ := List.mem_map.mp z
    exact h1 (trI3_inj e ▸ hu)
end KR
set_option Elab.async false
set_option linter.all false
set_option maxRecDepth 100000
namespace KR
open PySem DL
/-! ### joining -/
def legsB (x y l : Int) : Bool := decide (l = x) || decide (l = y)
def sharedI (a b x y : Int) : List Int := (sortU [a, b]).filter (legsB x y)
theorem in_two (x y l : Int) : inD (.int l) [.int x, .int y] = legsB x y l := by
  show ((x == l) || ((y == l) || false)) = _
  unfold legsB
  rw [Bool.or_false]
  have e : ∀ u : Int, (u == l) = decide (l = u) := fun u => by
    rw [Bool.beq_eq_decide_eq]
    exact decide_eq_decide.mpr ⟨Eq.symm, Eq.symm⟩
  rw [e, e]
theorem in_iL (l : Int) : ∀ ns : List Int, inD (.int l) (iL ns) = decide (l ∈ ns)
  | [] => rfl
  | n :: ns => by
    have ih := in_iL l ns
    show ((n == l) || inD (.int l) (iL ns)) = _
    rw [ih, Bool.beq_eq_decide_eq, ← Bool.decide_or]
    exact decide_eq_decide.mpr ⟨fun h => by rcases h with h | h; rw [h]; exact List.mem_cons_self; exact List.mem_cons_of_mem _ h, fun h => by rcases List.mem_cons.mp h with h | h; exact .inl h.symm; exact .inr h⟩
theorem sortU2_len (a b : Int) : (sortU [a, b]).length < 64 := by
  have h : (sortU [a, b]).length ≤ [a, b].length := nodup_len _ _ ((sortU_asc [a, b]).imp fun h => Int.ne_of_lt h) fun x hx => sortU_mem.mp hx
  have : [a, b].length = 2 := rfl
  omega
theorem mem_shared {a b x y l : Int} : l ∈ sharedI a b x y ↔ (l = a ∨ l = b) ∧ (l = x ∨ l = y) := by
  unfold sharedI
  rw [List.mem_filter, sortU_mem]
  unfold legsB
  simp only [List.mem_cons, List.not_mem_nil, or_false, Bool.or_eq_true, decide_eq_true_eq]
def cShared : Ct := fun as S => ∃ a b c x y z, Tri a b c ∧ Tri x y z ∧ as = [.dat (tri a b c), .dat (tri x y z)] ∧ S = Ret (.ok (.list (iL (sharedI a b x y))))
def cNeedBoth : Ct := fun as S => ∃ a b c x y z, Tri a b c ∧ Tri x y z ∧ as = [.dat (tri a b c), .dat (tri x y z)] ∧ S = Ret (.ok .none)
def cCommon : Ct := fun as S => (∃ a b c x y z, Tri a b c ∧ Tri x y z ∧ rightB a b c = true ∧ rightB x y z = true ∧ as = [.dat (tri a b c), .dat (tri x y z)] ∧ S = Ret (.ok (.tuple (iL (sharedI a b x y))))) ∨
  (∃ a b c x y z, Tri a b c ∧ Tri x y z ∧ rightB a b c = false ∧ as = [.dat (tri a b c), .dat (tri x y z)] ∧ S = Ret (.error "NotRight"))
def restOf (a b x y l : Int) : Int := a + b - l + (x + y) - l
def joinD (a b c x y z l : Int) : D := .tuple (iL (sortI [c, z, restOf a b x y l]))
structure BothR (a b c x y z : Int) : Prop where
  t1 : Tri a b c
  t2 : Tri x y z
  r1 : rightB a b c = true
  r2 : rightB x y z = true
def cJoin : Ct := fun as S => (∃ a b c x y z l, BothR a b c x y z ∧ l ∈ sharedI a b x y ∧ restOf a b x y l ≤ 100 ∧ as = [.dat (tri a b c), .dat (tri x y z), .dat (.int l)] ∧ S = Ret (.ok (joinD a b c x y z l))) ∨
  (∃ a b c x y z l, BothR a b c x y z ∧ l ∈ sharedI a b x y ∧ 100 < restOf a b x y l ∧ as = [.dat (tri a b c), .dat (tri x y z), .dat (.int l)] ∧ S = Ret (.error "TooGreat")) ∨
  (∃ a b c x y z l, BothR a b c x y z ∧ l ∉ sharedI a b x y ∧ as = [.dat (tri a b c), .dat (tri x y z), .dat (.int l)] ∧ S = Ret (.error "NoLeg")) ∨
  (∃ a b c x y z d, BothR a b c x y z ∧ isWhole d 1 100 = false ∧ as = [.dat (tri a b c), .dat (tri x y z), .dat d] ∧ S = Ret (.error "NoLeg")) ∨
  (∃ a b c x y z d, Tri a b c ∧ Tri x y z ∧ rightB a b c = true ∧ rightB x y z = false ∧ as = [.dat (tri a b c), .dat (tri x y z), .dat d] ∧ S = Ret (.error "NotRight"))
/-! ### whole areas up to 30 -/
def all30 : List Tr := (List.range 30).flatMap fun (i : Nat) => (List.range (30 - i)).flatMap fun (j : Nat) => (List.range (30 - i - j)).map fun (k : Nat) => (((i : Int) + 1), ((i : Int) + 1 + (j : Int)), ((i : Int) + 1 + (j : Int) + (k : Int)))
theorem mem_all30 {a b c : Int} (h : Tri a b c) (hc : c ≤ 30) : (a, b, c) ∈ all30 := by
  obtain ⟨h1, h2, h3, h4, h5⟩ := h
  unfold all30
  refine List.mem_flatMap.mpr ⟨(a - 1).toNat, List.mem_range.mpr (by omega), List.mem_flatMap.mpr ⟨(b - a).toNat, List.mem_range.mpr (by omega), List.mem_map.mpr ⟨(c - b).toNat, List.mem_range.mpr (by omega), ?_⟩⟩⟩
  refine Prod.ext ?_ (Prod.ext ?_ ?_)
  · show (((a - 1).toNat : Nat) : Int) + 1 = a
    omega
  · show (((a - 1).toNat : Nat) : Int) + 1 + (((b - a).toNat : Nat) : Int) = b
    omega
  · show (((a - 1).toNat : Nat) : Int) + 1 + (((b - a).toNat : Nat) : Int) + (((c - b).toNat : Nat) : Int) = c
    omega
def triBt (t : Tr) : Bool := decide (t.2.2 < t.1 + t.2.1)
def gI (x y : Int) : Int := (Int.gcd x y : Int)
structure V14 where
  p : Int
  q : Int
  r : Int
  s : Int
  v : Int
  w : Int
def v14 (t : Tr) (m : Int) : V14 := ⟨2 * m / gI (2 * m) t.2.2, t.2.2 / gI (2 * m) t.2.2, (t.1 * t.1 + t.2.2 * t.2.2 - t.2.1 * t.2.1) / gI (t.1 * t.1 + t.2.2 * t.2.2 - t.2.1 * t.2.1) (2 * t.2.2), 2 * t.2.2 / gI (t.1 * t.1 + t.2.2 * t.2.2 - t.2.1 * t.2.1) (2 * t.2.2), (t.2.1 * t.2.1 + t.2.2 * t.2.2 - t.1 * t.1) / gI (t.2.1 * t.2.1 + t.2.2 * t.2.2 - t.1 * t.1) (2 * t.2.2), 2 * t.2.2 / gI (t.2.1 * t.2.1 + t.2.2 * t.2.2 - t.1 * t.1) (2 * t.2.2)⟩
def scl (z : V14) : Int := z.q * z.s / gI z.q z.s
def tal (z : V14) : Int := z.p * scl z / z.q
def nea (z : V14) : Int := z.r * scl z / z.s
def isTriR (l : List Int) : Bool := match l with
  | [a, b, c] => decide (1 ≤ a ∧ a ≤ b ∧ b ≤ c ∧ c ≤ 100 ∧ c < a + b ∧ a * a + b * b = c * c)
  | _ => false
def join14 (f l : List Int) (k : Int) (t : List Int) : Bool := match f, l with
  | [a, b, c], [x, y, z] => decide (k ∈ sharedI a b x y ∧ restOf a b x y k ≤ 100 ∧ sortI [c, z, restOf a b x y k] = t)
  | _, _ => false
def ok14 (t : Tr) (z : V14) : Bool := decide (0 ≤ z.p ∧ z.p ≤ 100000 ∧ 1 ≤ z.q ∧ z.q ≤ 100 ∧ 0 ≤ z.r ∧ z.r ≤ 100000 ∧ 1 ≤ z.s ∧ z.s ≤ 100 ∧ 0 ≤ z.v ∧ z.v ≤ 100000 ∧ 1 ≤ z.w ∧ z.w ≤ 100 ∧ 1 ≤ scl z ∧ scl z ≤ 10000 ∧ 1 ≤ tal z ∧ tal z ≤ 100000 ∧ 0 ≤ nea z ∧ nea z ≤ 100000 ∧
  (t.2.2 * scl z - nea z) * z.w = z.v * scl z ∧ tal z * tal z + nea z * nea z = t.1 * t.1 * scl z * scl z ∧ tal z * tal z + (t.2.2 * scl z - nea z) * (t.2.2 * scl z - nea z) = t.2.1 * t.2.1 * scl z * scl z) &&
  (match sortI [tal z, nea z, t.1 * scl z], sortI [tal z, t.2.2 * scl z - nea z, t.2.1 * scl z] with
   | [a, b, c], [x, y, w] => !(decide (c ≤ 100) && (decide (w ≤ 100) && decide (t.2.2 * scl z ≤ 100))) || (isTriR [a, b, c] && (isTriR [x, y, w] && join14 [a, b, c] [x, y, w] (tal z) [t.1 * scl z, t.2.1 * scl z, t.2.2 * scl z]))
   | _, _ => false)
def chk14 (t : Tr) : Bool := if triBt t then rtOk t && (if hasF t then ok14 t (v14 t (rtF t / 4)) else true) else true
theorem chk14_all : (all30.all chk14) = true := by decide +kernel
end KR
namespace KR
open PySem DL
theorem ok14_of {a b c m : Int} (h : Tri a b c) (hc : c ≤ 30) (hm : areaD a b c = .int m) : ok14 (a, b, c) (v14 (a, b, c) m) = true := by
  have q := List.all_eq_true.mp chk14_all _ (mem_all30 h hc)
  unfold chk14 at q
  rw [if_pos (show triBt (a, b, c) = true from decide_eq_true h.lt)] at q
  obtain ⟨q1, q2⟩ := (Bool.and_eq_true _ _).mp q
  have hA := hasA_int hm
  rw [hasA_F (t := (a, b, c)) h q1] at hA
  rw [if_pos hA] at q2
  obtain ⟨m1, m2, _⟩ := area_some h hm
  unfold rtOk at q1
  simp only [Bool.and_eq_true, decide_eq_true_eq] at q1
  have e : rtF (a, b, c) = 4 * m := by
    have z := rootI_unique (Int.le_of_lt (sq16_pos h)) q1.1 q1.2.1 q1.2.2
    rw [z, ← m2, rootI_sq (by omega)]
  have e2 : rtF (a, b, c) / 4 = m := by omega
  rw [e2] at q2
  exact q2
theorem sort3_ex (x y z : Int) : ∃ a b c, sortI [x, y, z] = [a, b, c] := by
  have l := (sortI_perm [x, y, z]).length_eq
  match h : sortI [x, y, z], l with
  | [a, b, c], _ => exact ⟨a, b, c, rfl⟩
theorem isTriR_of {a b c : Int} (h : isTriR [a, b, c] = true) : Tri a b c ∧ rightB a b c = true := by
  have q : 1 ≤ a ∧ a ≤ b ∧ b ≤ c ∧ c ≤ 100 ∧ c < a + b ∧ a * a + b * b = c * c := of_decide_eq_true h
  exact ⟨⟨q.1, q.2.1, q.2.2.1, q.2.2.2.1, q.2.2.2.2.1⟩, decide_eq_true q.2.2.2.2.2⟩
end KR
set_option Elab.async false
set_option linter.all false
set_option maxRecDepth 100000
namespace KR
open PySem DL L2
/-! ### the mirror: texts -/
def dash : Str := "-"
def digS : Str := "0123456789"
def numS (n : Int) : Str := toString n
def writtenS (ns : List Int) : Str := Txt.join dash (ns.map numS)
def sideOk (w : Str) : Bool := (decide (1 ≤ (w.length : Int)) && decide ((w.length : Int) ≤ 3)) && (w.cps.toList.all fun c => decide (c ∈ digS.cps.toList))
def sideV (w : Str) : Int := ((NumText.digitsVal w.cps.toList : Nat) : Int)
def wordsOf (t : Str) : List Str := Txt.split t dash
def madeOf (t : Str) : List Int := (wordsOf t).map sideV
def parseOk (t : Str) : Bool := ((wordsOf t).all sideOk && isTriD (.tuple (iL (madeOf t)))) && (writtenS (madeOf t) == t)
theorem digS_mem {c : Nat} (h : c ∈ digS.cps.toList) : 48 ≤ c ∧ c ≤ 57 := by
  have e : digS.cps.toList = [48, 49, 50, 51, 52, 53, 54, 55, 56, 57] := by decide +kernel
  rw [e] at h
  simp only [List.mem_cons, List.not_mem_nil, or_false] at h
  omega
theorem mem_digS {c : Nat} (h1 : 48 ≤ c) (h2 : c ≤ 57) : c ∈ digS.cps.toList := by
  have e : digS.cps.toList = [48, 49, 50, 51, 52, 53, 54, 55, 56, 57] := by decide +kernel
  rw [e]
  simp only [List.mem_cons, List.not_mem_nil, or_false]
  omega
theorem side_int {w : Str} (h : sideOk w = true) : intText? w = some (sideV w) ∧ w.length ≤ 640 := by
  unfold sideOk at h
  simp only [Bool.and_eq_true, decide_eq_true_eq, List.all_eq_true] at h
  obtain ⟨⟨h1, h2⟩, h3⟩ := h
  refine ⟨PySem.intText_digits (fun c hc => digS_mem (h3 c hc)) (fun z => ?_) (by omega), by omega⟩
  have e : w.length = w.cps.toList.length := by rw [Array.length_toList]; rfl
  rw [z] at e
  simp at e
  omega
theorem tl_numS {n : Int} (h : 0 ≤ n) : TL.tl (numS n) = TL.numL n.toNat := by
  obtain ⟨m, rfl⟩ := Int.eq_ofNat_of_zero_le h
  exact TL.tl_num m
theorem numS_len {n : Int} (h : 0 ≤ n) (h2 : n ≤ 100) : (numS n).length ≤ 3 := by
  rw [TL.len_tl, tl_numS h]
  exact TL.numL_len (by decide) (by omega)
theorem numS_ok {n : Int} (h : 0 ≤ n) (h2 : n ≤ 100) : sideOk (numS n) = true := by
  have l3 := numS_len h h2
  have l1 : 1 ≤ (numS n).length := by
    rw [TL.len_tl, tl_numS h]
    exact List.length_pos_iff.mpr (TL.numL_ne _)
  unfold sideOk
  simp only [Bool.and_eq_true, decide_eq_true_eq, List.all_eq_true]
  refine ⟨⟨by omega, by omega⟩, fun c hc => ?_⟩
  have hc2 : c ∈ TL.tl (numS n) := hc
  rw [tl_numS h] at hc2
  obtain ⟨a, b⟩ := TL.numL_digits _ c hc2
  exact mem_digS a b
theorem numS_val {n : Int} (h : 0 ≤ n) : sideV (numS n) = n := by
  unfold sideV
  have e : (numS n).cps.toList = TL.numL n.toNat := tl_numS h
  rw [e, TL.numL_val]
  omega
theorem words_written {ns : List Int} (hne : ns ≠ []) (h : ∀ n ∈ ns, 0 ≤ n) : wordsOf (writtenS ns) = ns.map numS := by
  have ey : TL.tl dash = 45 :: [] := by decide +kernel
  refine TL.split_join ey (by decide +kernel) (fun z => hne (List.map_eq_nil_iff.mp z)) fun p hp => ?_
  obtain ⟨n, hn, rfl⟩ := List.mem_map.mp hp
  rw [tl_numS (h n hn)]
  exact TL.numL_free (.inl (by decide))
theorem made_written {ns : List Int} (hne : ns ≠ []) (h : ∀ n ∈ ns, 0 ≤ n) : madeOf (writtenS ns) = ns := by
  unfold madeOf
  rw [words_written hne h, List.map_map]
  have e : ∀ n ∈ ns, (sideV ∘ numS) n = n := fun n hn => numS_val (h n hn)
  exact (List.map_congr_left e).trans (List.map_id _)
theorem tri_in {a b c : Int} (h : Tri a b c) : ∀ n ∈ [a, b, c], 0 ≤ n ∧ n ≤ 100 := by
  obtain ⟨h1, h2, h3, h4, h5⟩ := h
  intro n hn
  simp only [List.mem_cons, List.not_mem_nil, or_false] at hn
  omega
theorem parse_written {a b c : Int} (h : Tri a b c) : parseOk (writtenS [a, b, c]) = true ∧ madeOf (writtenS [a, b, c]) = [a, b, c] := by
  have hn := tri_in h
  have m := made_written (ns := [a, b, c]) (by simp) fun n z => (hn n z).1
  refine ⟨?_, m⟩
  unfold parseOk
  rw [m, words_written (by simp) fun n z => (hn n z).1]
  have e : ((List.map numS [a, b, c]).all sideOk) = true := by
    rw [List.all_eq_true]
    intro w hw
    obtain ⟨n, hm, rfl⟩ := List.mem_map.mp hw
    exact numS_ok (hn n hm).1 (hn n hm).2
  rw [e, show isTriD (.tuple (iL [a, b, c])) = true from isTri_tri h, beq_self_eq_true]
  rfl
theorem parse_text {t : Str} (h : parseOk t = true) : ∃ a b c, Tri a b c ∧ madeOf t = [a, b, c] ∧ writtenS [a, b, c] = t := by
  unfold parseOk at h
  simp only [Bool.and_eq_true] at h
  obtain ⟨⟨h1, h2⟩, h3⟩ := h
  obtain ⟨a, b, c, e, ht⟩ := isTri_shape h2
  have e2 : madeOf t = [a, b, c] := iL_inj (show iL (madeOf t) = iL [a, b, c] from PyData.tuple.inj e)
  refine ⟨a, b, c, ht, e2, ?_⟩
  rw [← e2]
  exact eq_of_beq h3
theorem text_written (a b c : Int) : numS a ++ dash ++ numS b ++ dash ++ numS c = writtenS [a, b, c] := by
  refine TL.ext_tl ?_
  unfold writtenS
  rw [TL.join_eq, TL.tl_join]
  simp only [TL.tl_append, List.map_cons, List.map_nil, TL.joinL, List.append_assoc]
theorem str_app (x y : Str) : (x ++ y).length = x.length + y.length := by
  rw [TL.len_tl, TL.tl_append, List.length_append, ← TL.len_tl, ← TL.len_tl]
theorem written_len {a b c : Int} (h : Tri a b c) : (writtenS [a, b, c]).length ≤ 11 := by
  have hn := tri_in h
  have l1 := numS_len (hn a (by simp)).1 (hn a (by simp)).2
  have l2 := numS_len (hn b (by simp)).1 (hn b (by simp)).2
  have l3 := numS_len (hn c (by simp)).1 (hn c (by simp)).2
  have l4 : dash.length = 1 := by decide +kernel
  rw [← text_written, str_app, str_app, str_app, str_app]
  omega
/-- the signs of a word, each looked up -/
def sgD (d : D) : D := match d with
  | .str x => .bool (decide (x.cps.toList.headD 0 ∈ digS.cps.toList))
  | _ => .bool false
theorem chD_at {w : Str} {i : Nat} {d : D} (h : (chD w)[i]? = some d) : ∃ c : Nat, d = .str ⟨#[c]⟩ := by
  unfold chD at h
  rw [List.getElem?_map] at h
  cases q : w.cps.toList[i]? with
  | none =>
    rw [q] at h
    cases h
  | some c =>
    rw [q] at h
    cases h
    exact ⟨c, rfl⟩
theorem chD_len (w : Str) : (chD w).length = w.length := by
  unfold chD
  rw [List.length_map, Array.length_toList]
  rfl
theorem chD_sg (w : Str) : ((chD w).filter (fun _ => true)).map sgD = bL (w.cps.toList.map fun c => decide (c ∈ digS.cps.toList)) := by
  rw [List.filter_eq_self.mpr (fun _ _ => rfl)]
  unfold chD bL
  rw [List.map_map, List.map_map]
  rfl
theorem side_not (w : Str) : ((!(decide (1 ≤ (w.length : Int)) && decide ((w.length : Int) ≤ 3))) || !((w.cps.toList.map fun c => decide (c ∈ digS.cps.toList)).all id)) = !sideOk w := by
  unfold sideOk
  rw [List.all_map]
  exact (Bool.not_and _ _).symm
theorem split_len (x : Str) : (wordsOf x).length ≤ x.length + 2 := PyProof.Rows.split_le x dash
theorem spl_mem (S : List Nat) : ∀ (l : List Nat) (k : Nat) (acc p : List Nat), p ∈ TL.spl S k acc l → p.length ≤ acc.length + l.length
  | [], k, acc, p, h => by
    rw [TL.spl_nil] at h
    rw [List.mem_singleton.mp h]
    omega
  | c :: r, 0, acc, p, h => by
    cases hp : TL.pre S (c :: r) with
    | true =>
      rw [TL.spl_hit hp] at h
      rcases List.mem_cons.mp h with e | h
      · rw [e]
        omega
      · have := spl_mem S r _ [] p h
        rw [List.length_nil] at this
        rw [List.length_cons]
        omega
    | false =>
      rw [TL.spl_miss hp] at h
      have := spl_mem S r 0 (acc ++ [c]) p h
      rw [List.length_append, List.length_singleton] at this
      rw [List.length_cons]
      omega
  | c :: r, k + 1, acc, p, h => by
    have := spl_mem S r k acc p h
    rw [List.length_cons]
    omega
theorem word_len {t w : Str} (h : w ∈ wordsOf t) : w.length ≤ t.length := by
  have ey : TL.tl dash = 45 :: [] := by decide +kernel
  have e := TL.split_spl t dash (by rw [ey]; simp) (TL.kind_ok (by decide +kernel))
  have m : TL.tl w ∈ (Txt.split t dash).map TL.tl := List.mem_map.mpr ⟨w, h, rfl⟩
  rw [e] at m
  have := spl_mem _ _ _ _ _ m
  rw [List.length_nil] at this
  rw [TL.len_tl, TL.len_tl]
  omega
/-- sides as data -/
def sdB (d : D) : Bool := match d with
  | .str x => sideOk x
  | _ => false
def sdV (d : D) : D := match d with
  | .str x => .int (sideV x)
  | _ => .none
theorem sL_at {ys : List Str} {i : Nat} {d : D} (h : (sL ys)[i]? = some d) : ∃ y, y ∈ ys ∧ d = .str y := by
  unfold sL at h
  rw [List.getElem?_map] at h
  cases q : ys[i]? with
  | none =>
    rw [q] at h
    cases h
  | some c =>
    rw [q] at h
    cases h
    exact ⟨c, List.mem_of_getElem? q, rfl⟩
theorem sL_ok {ys : List Str} (h : ∀ d ∈ sL ys, sdB d = true) : ys.all sideOk = true := by
  rw [List.all_eq_true]
  intro y hy
  exact h (.str y) (List.mem_map.mpr ⟨y, hy, rfl⟩)
theorem sL_no {ys : List Str} (h : ys.all sideOk = false) : ¬ ∀ d ∈ sL ys, sdB d = true := fun z => by
  rw [sL_ok z] at h
  cases h
theorem sL_vals (ys : List Str) : (sL ys).map sdV = iL (ys.map sideV) := by
  unfold sL iL
  rw [List.map_map, List.map_map]
  rfl
theorem nOs_nil : ∀ s ∈ ([] : List Sl), NoO s := fun _ h => nomatch h
theorem nOs_cons {a : Sl} {r : List Sl} (h1 : NoO a) (h2 : ∀ s ∈ r, NoO s) : ∀ s ∈ a :: r, NoO s := fun s h => by
  rcases List.mem_cons.mp h with e | e
  · rw [e]
    exact h1
  · exact h2 s e
theorem at_ok {α : Type} {l : List α} {k : Int} (h1 : 0 ≤ k) (h2 : k < (l.length : Int)) : ∃ c, L2.atI l k = some c := by
  obtain ⟨m, rfl⟩ := Int.eq_ofNat_of_zero_le h1
  have hm : m < l.length := by omega
  exact ⟨l[m], atI_nat (List.getElem?_eq_getElem hm)⟩
theorem ix4 {a b c d : D} {i : Int} {P : D → Prop} (h1 : P a) (h2 : P b) (h3 : P c) (h4 : P d) : ∃ z, L2.atI [a, b, c, d] (i % 4) = some z ∧ P z := by
  have h : i % 4 = 0 ∨ i % 4 = 1 ∨ i % 4 = 2 ∨ i % 4 = 3 := by omega
  rcases h with e | e | e | e <;> rw [e]
  · exact ⟨a, rfl, h1⟩
  · exact ⟨b, rfl, h2⟩
  · exact ⟨c, rfl, h3⟩
  · exact ⟨d, rfl, h4⟩
/-- a side as a text -/
def stD (d : D) : D := match d with
  | .int n => .str (numS n)
  | _ => .none
/-! contracts -/
def cSide : Ct := fun as S => (∃ w : Str, sideOk w = true ∧ w.length ≤ 1000 ∧ as = [.dat (.str w)] ∧ S = Ret (.ok (.int (sideV w)))) ∨ (∃ w : Str, sideOk w = false ∧ w.length ≤ 1000 ∧ as = [.dat (.str w)] ∧ S = Ret (.error "InvalidText"))
def cWritten : Ct := fun as S => ∃ a b c, Tri a b c ∧ as = [.dat (tri a b c)] ∧ S = Ret (.ok (.str (writtenS [a, b, c])))
def cParse : Ct := fun as S => (∃ t : Str, parseOk t = true ∧ t.length ≤ 900 ∧ as = [.dat (.str t)] ∧ S = Ret (.ok (.tuple (iL (madeOf t))))) ∨ (∃ t : Str, parseOk t = false ∧ t.length ≤ 900 ∧ as = [.dat (.str t)] ∧ S = Ret (.error "InvalidText")) ∨ (∃ d, isStrD d = false ∧ as = [.dat d] ∧ S = Ret (.error "InvalidText"))
theorem bad_1 : parseOk "" = false := by decide +kernel
theorem bad_2 : parseOk "-" = false := by decide +kernel
theorem bad_3 : parseOk "3-4" = false := by decide +kernel
theorem bad_4 : parseOk "3-4-5-6" = false := by decide +kernel
theorem bad_5 : parseOk "1-2-3" = false := by decide +kernel
theorem bad_6 : parseOk "5-4-3" = false := by decide +kernel
theorem bad_7 : parseOk "03-4-5" = false := by decide +kernel
theorem bad_8 : parseOk "3--4-5" = false := by decide +kernel
theorem bad_9 : parseOk "3-4-5 " = false := by decide +kernel
theorem bad_10 : parseOk "101-101-101" = false := by decide +kernel
theorem bad_11 : parseOk "a-b-c" = false := by decide +kernel
theorem good_1 : parseOk "100-100-100" = true ∧ madeOf "100-100-100" = [100, 100, 100] := by decide +kernel
theorem good_2 : writtenS [1, 1, 1] = "1-1-1" := by decide +kernel
end KR
set_option Elab.async false
set_option linter.all false
set_option maxRecDepth 100000
set_option maxHeartbeats 4000000
namespace DL
open PySem PySem.Spec PyProof.Rows L2
/-! ### an instance whose fields hold data -/
abbrev FS := List (Str × D)
inductive FsAll (K : PySem.W.Frag) (G : Hp) : List (Str × V) → FS → Prop
  | nil : FsAll K G [] []
  | cons {x : Str} {v : V} {d : D} {fs : List (Str × V)} {ns : FS} (h : Dp K G v d) (r : FsAll K G fs ns) : FsAll K G ((x, v) :: fs) ((x, d) :: ns)
def putD (f : Str) (d : D) : FS → FS
  | [] => [(f, d)]
  | (g, x) :: r => if g = f then (g, d) :: r else (g, x) :: putD f d r
section
variable {K : PySem.W.Frag} {G G1 : Hp}
theorem FsAll.mono (e : Evl.Ex G G1) : ∀ {fs : List (Str × V)} {ns : FS}, FsAll K G fs ns → FsAll K G1 fs ns
  | _, _, .nil => .nil
  | _, _, .cons h r => .cons (dp_mono e _ _ h) (r.mono e)
theorem FsAll.put {f : Str} {v : V} {d : D} (h : Dp K G v d) : ∀ {fs : List (Str × V)} {ns : FS}, FsAll K G fs ns → FsAll K G (putF f v fs) (putD f d ns)
  | _, _, .nil => .cons h .nil
  | _, _, .cons (x := x) h1 r => by
    unfold putF putD
    by_cases e : x = f
    · rw [if_pos e, if_pos e]
      exact .cons h r
    · rw [if_neg e, if_neg e]
      exact .cons h1 (r.put h)
theorem FsAll.get {f : Str} {d : D} : ∀ {fs : List (Str × V)} {ns : FS}, FsAll K G fs ns → ns.lookup f = some d → ∃ v, fs.lookup f = some v ∧ Dp K G v d
  | _, _, .nil, e => by cases e
  | _, _, .cons (x := x) (fs := fs) (ns := ns) h1 r, e => by
    rw [List.lookup_cons] at e ⊢
    cases q : f == x with
    | true =>
      rw [q] at e
      cases e
      exact ⟨_, rfl, h1⟩
    | false =>
      rw [q] at e
      exact r.get e
theorem FsAll.no {f : Str} : ∀ {fs : List (Str × V)} {ns : FS}, FsAll K G fs ns → ns.lookup f = none → fs.lookup f = none
  | _, _, .nil, _ => rfl
  | _, _, .cons (x := x) (fs := fs) (ns := ns) h1 r, e => by
    rw [List.lookup_cons] at e ⊢
    cases q : f == x with
    | true =>
      rw [q] at e
      cases e
    | false =>
      rw [q] at e
      exact r.no e
theorem FsAll.len : ∀ {fs : List (Str × V)} {ns : FS}, FsAll K G fs ns → fs.length = ns.length
  | _, _, .nil => rfl
  | _, _, .cons _ r => by rw [List.length_cons, List.length_cons, r.len]
end
def FrA (K : PySem.W.Frag) (C p : Addr) (z : FS) (G H : Hp) : Prop := G p = none ∧ ∃ dx fs, H p = some (.ins C dx fs) ∧ FsAll K G fs z
theorem FrA.mono {T : Tb} {K : PySem.W.Frag} {C p : Addr} {z : FS} {G H G1 H1 : Hp} (s : Stp T G H G1 H1) (h : FrA K C p z G H) : FrA K C p z G1 H1 := by
  obtain ⟨g, dx, fs, e, a⟩ := h
  exact ⟨s.n p _ g e nt_ins, dx, fs, s.le.h _ _ e nt_ins, a.mono s.g⟩
def frG (K : PySem.W.Frag) (C p : Addr) (z : FS) : GSl where
  R := fun G H w => w = some (.ref p) ∧ FrA K C p z G H
  mono := fun s ⟨e, h⟩ => ⟨e, h.mono s⟩
  stab := fun e ⟨e1, g, dx, fs, e2, a⟩ => ⟨e1, g, dx, fs, by rw [upd_ne (fun y => by rw [y, e] at e2; cases e2)]; exact e2, a⟩
  stbD := fun e ⟨e1, g, dx, fs, e2, a⟩ => ⟨e1, g, dx, fs, by rw [upd_ne (fun y => by rw [y, e] at e2; cases e2)]; exact e2, a⟩
  frz := fun g0 e ⟨e1, g, dx, fs, e2, a⟩ => ⟨e1, by rw [upd_ne (fun y => by rw [y, e] at e2; cases e2)]; exact g, dx, fs, e2, a.mono (Evl.Ex.new g0)⟩
/-- the heap without p -/
def cut (H : Hp) (p : Addr) : Hp := fun b => if b = p then none else H b
theorem cut_same {H : Hp} {p : Addr} : cut H p p = none := if_pos rfl
theorem cut_of {H : Hp} {p b : Addr} {o : HO} (e : cut H p b = some o) : H b = some o ∧ b ≠ p := by
  unfold cut at e
  by_cases h : b = p
  · rw [if_pos h] at e
    cases e
  · rw [if_neg h] at e
    exact ⟨e, h⟩
theorem cut_ne {H : Hp} {p b : Addr} (h : b ≠ p) : cut H p b = H b := if_neg h
section
variable {T : Tb} {G H G1 H1 : Hp} {p q : Addr}
theorem Le.cutl (l : Le T H H1) : Le T (cut H p) H1 := ⟨fun b o e n => l.h b o (cut_of e).1 n, fun t => l.t (t.ext fun b o e => (cut_of e).1)⟩
theorem Stp.cutl (s : Stp T G H G1 H1) : Stp T G (cut H p) G1 H1 := ⟨s.le.cutl, s.g, s.s, fun b o h1 h2 h3 => s.n b o h1 (cut_of h2).1 h3⟩
theorem fr_cut (h : Fr H q) : Fr (cut H p) q := fun o e => h o (cut_of e).1
theorem fr_cutp : Fr (cut H p) p := fr_none cut_same
theorem env_cut {K : PySem.W.Frag} {R R' : Str → Prop} {Γ : List Sl} {σ : L2.St} (en : EnvR T K ⟨G, H, R⟩ Γ σ G1 H1) : EnvR T K ⟨G, cut H p, R'⟩ Γ σ G1 H1 :=
  ⟨en.st.cutl, fun i s e => by
    obtain ⟨w, e1, q⟩ := en.sl i s e
    refine ⟨w, e1, ?_⟩
    cases s with
    | dat d => exact q
    | raw v => exact q
    | obj a o => exact q
    | own xs =>
      obtain ⟨p, vs, a1, a2, a3, a4⟩ := q
      exact ⟨p, vs, a1, a2, fr_cut a3, a4⟩
    | dct xs =>
      obtain ⟨p, a1, a2, a3, a4⟩ := q
      exact ⟨p, a1, a2, fr_cut a3, a4⟩
    | gen g => exact q
    | no => trivial, en.ln⟩
theorem tabs_ins {C dx : Addr} {fs : List (Str × V)} {o : HO} (h : H p = some (.ins C dx fs)) (t : LamX.Tabs T H) : LamX.Tabs T (upd H p o) := fun q hq => by
  obtain ⟨ps, h1, h2, h3⟩ := t q hq
  have n1 : q.1 ≠ p := fun z => by
    rw [z, h] at h1
    cases h1
  refine ⟨ps, by rw [upd_ne n1]; exact h1, h2, fun pos cv hc => ?_⟩
  obtain ⟨c, e1, e2⟩ := h3 pos cv hc
  have n2 : c ≠ p := fun z => by
    rw [z, h] at e2
    unfold LamX.CodeO at e2
    cases e2
  exact ⟨c, e1, by rw [upd_ne n2]; exact e2⟩
theorem Stp.mutI {C dx : Addr} {fs : List (Str × V)} {o : HO} (a : Stp T G H G1 H1) (h0 : Fr H p) (h1 : H1 p = some (.ins C dx fs)) (hg : G1 p = none) : Stp T G H G1 (upd H1 p o) := by
  refine ⟨⟨fun b o e n => ?_, fun t => tabs_ins h1 (a.le.t t)⟩, a.g, fun b o e => ?_, a.n⟩
  · rw [upd_ne (fr_ne e n h0)]
    exact a.le.h b o e n
  · rw [upd_ne (ne_of_none e hg)]
    exact a.s b o e
end
/-- no other thing of this kind, no list of one's own -/
def OneF (Γ : List Sl) (n : Nat) : Prop := ∀ (j : Nat) (s : Sl), j ≠ n → Γ[j]? = some s → (∀ g, s ≠ .gen g)
section
variable {T : Tb} {X : Cx} {f : Fx} {Γ : List Sl} {a b c e o : Expr} {es : List Expr} {Q : D → Prop} {pos p1 p2 apos : Pos} {d : D} {ds : List D} {as : List Sl} {k m n : Nat} {C p : Addr} {z : FS} {x y : Str} {rest : List Stmt} {N : List Sl → Prop} {Rt : D → Prop}
theorem EnvR.frm {σ : L2.St} {G H : Hp} (h : EnvR T X.K f Γ σ G H) (e : Γ[n]? = some (.gen (frG X.K C p z))) : σ[n]? = some (some (.ref p)) ∧ FrA X.K C p z G H := by
  obtain ⟨w, e1, e2, q⟩ := h.sl n _ e
  exact ⟨by rw [e1, e2], q⟩
/-- self.x -/
theorem de_fld (hn : Γ[n]? = some (.gen (frG X.K C p z))) (hl : z.lookup x = some d) (c : Cls X.K C) (na : NoAttr X.K C x) (hN : X.N[n]? = some y := by rfl) (hv : Vis X.env.scope y := by first | exact Or.inl rfl | exact Or.inr (Or.inl rfl) | exact Or.inr (Or.inr rfl))
    (hb : attributeBase (.Name y p1) x X.env (eval (.Name y p1) X.env) = eval (.Name y p1) X.env := by rfl) (hd : (y == ("__debug__" : Str)) = false := by decide) (hcd : (y == ("__classdict__" : Str)) = false := by decide) : DE T X f Γ (.Attribute (.Name y p1) x pos) d :=
  .of (pe_fld (pe_var hN hv hd hcd) hb) fun σ G H QQ en w => by
    obtain ⟨e1, g, dx, fs, e2, a⟩ := en.frm hn
    obtain ⟨v, l, dp⟩ := a.get hl
    exact ⟨_, e1, p, C, dx, fs, v, rfl, e2, c, na, l, w v d G H (.refl en.sub) dp rfl⟩
theorem env_fld {σ : L2.St} {G H : Hp} {dx : Addr} {fs : List (Str × V)} {v : V} (en : EnvR T X.K f Γ σ G H) (ho : OneF Γ n) (hn : Γ[n]? = some (.gen (frG X.K C p z))) (h0 : Fr f.H0 p) (e2 : H p = some (.ins C dx fs)) (al : FsAll X.K G fs z) (dp : Dp X.K G v d) :
    EnvR T X.K f (Γ.set n (.gen (frG X.K C p (putD x d z)))) σ G (upd H p (.ins C dx (putF x v fs))) := by
  obtain ⟨e1, g, _⟩ := en.frm hn
  have hl : n < Γ.length := (List.getElem?_eq_some_iff.mp hn).1
  refine ⟨en.st.mutI h0 e2 g, fun j sl e => ?_, by rw [List.length_set]; exact en.ln⟩
  by_cases hj : n = j
  · subst hj
    rw [List.getElem?_set_self hl] at e
    cases e
    exact ⟨_, e1, rfl, g, dx, _, upd_same, al.put dp⟩
  · rw [List.getElem?_set_ne hj] at e
    obtain ⟨w, w1, w2⟩ := en.sl j sl e
    refine ⟨w, w1, ?_⟩
    cases sl with
    | dat d => exact w2
    | raw v => exact w2
    | obj a o =>
      obtain ⟨a1, a2, a3⟩ := w2
      have hb : a ≠ p := fun y => by
        rw [y, e2] at a2
        exact a3.2.2 _ _ _ (Option.some.inj a2).symm
      exact ⟨a1, by rw [upd_ne hb]; exact a2, a3⟩
    | own ys =>
      obtain ⟨q, vs, a1, a2, a3, a4, a5⟩ := w2
      have hb : q ≠ p := fun y => by
        rw [y, e2] at a4
        cases a4
      exact ⟨q, vs, a1, a2, a3, by rw [upd_ne hb]; exact a4, a5⟩
    | dct kvs =>
      obtain ⟨q, a1, a2, a3, a4⟩ := w2
      have hb : q ≠ p := fun y => by
        rw [y, e2] at a4
        cases a4
      exact ⟨q, a1, a2, a3, by rw [upd_ne hb]; exact a4⟩
    | gen g => exact absurd rfl (ho j _ (Ne.symm hj) e g)
    | no => trivial
/-- self.x = e -/
theorem wss_fld (hn : Γ[n]? = some (.gen (frG X.K C p z))) (ho : OneF Γ n) (h0 : Fr f.H0 p) (h : DE T X f Γ e d) (c : Cls X.K C) (na : NoAttr X.K C x) (hz : z.length < 100) (kk : WSs T X f (Γ.set n (.gen (frG X.K C p (putD x d z)))) rest N Rt)
    (hN : X.N[n]? = some y := by rfl) (hv : Vis X.env.scope y := by first | exact Or.inl rfl | exact Or.inr (Or.inl rfl) | exact Or.inr (Or.inr rfl)) (hs : swapsWith e (some (.Attribute (.Name y p1) x p2)) pos.line X.env = pure false := by rfl)
    (hd : (y == ("__debug__" : Str)) = false := by decide) (hcd : (y == ("__classdict__" : Str)) = false := by decide) : WSs T X f Γ (.Assign [.Attribute (.Name y p1) x p2] e pos :: rest) N Rt :=
  wss_cons (N' := fun Γ' => Γ' = Γ.set n (.gen (frG X.K C p (putD x d z)))) (.of (ps_fld (pe_var hN hv hd hcd) h.pe hs) fun σ G H E en w => ⟨G, en, fun v d' G1 H1 st dp q => by
    subst q
    have en1 := en.step st
    obtain ⟨e1, g, dx, fs, e2, a⟩ := en1.frm hn
    exact ⟨_, e1, p, C, dx, fs, rfl, e2, c, na, by rw [a.len]; omega, w.nx _ _ G1 _ (env_fld en1 ho hn h0 e2 a dp) st.g rfl⟩⟩) fun _ e => e ▸ kk
/-- a method that changes nothing, or raises -/
theorem we_meth {mn : Str} {fa : Addr} {fd : FuncData} {ps : List Str} {CT : Ct} {S : Oc → Prop} (c : Cls X.K C) (hm : Meth X.K C mn fa) (F : FnOk X.prog X.w X.K X.mg X.base (L2N.CX X.prog X.w) k fa fd ps (spD T X.K X.mg CT)) (bi : Binds X.K fd ps []) (B : Bd T X f m) (hk : k ≤ m)
    (hn : Γ[n]? = some (.gen (frG X.K C p z))) (ha : WA T X f Γ (e :: es) fun w => w = as) (hC : CT (.gen (frG X.K C p z) :: as) S) (hS : ∀ r, S r → Okr Q f.R r) (hlk : z.lookup mn = none) (hN : X.N[n]? = some y := by rfl) (hv : Vis X.env.scope y := by first | exact Or.inl rfl | exact Or.inr (Or.inl rfl) | exact Or.inr (Or.inr rfl))
    (hst : starEach (e :: es) X.env = (false, eval e X.env) :: starEach es X.env := by rfl) (hpl : (backTo pos (starEach es X.env)).any (·.1) = false := by rfl) {pl : Sem Bool}
    (ht : eval (.Call (.Attribute (.Name y p1) mn apos) (e :: es) [] pos) X.env = (do
      let ov ← eval (.Name y p1) X.env
      standAt apos.atName
      let (f, first) ← holding [ov] (getMethod ov mn pl)
      callWith pos f first (backTo pos (starEach (e :: es) X.env)) (backToKw pos (keywordEach [] X.env))) := by rfl) (hd : (y == ("__debug__" : Str)) = false := by decide) (hcd : (y == ("__classdict__" : Str)) = false := by decide) :
    WE T X f Γ (.Call (.Attribute (.Name y p1) mn apos) (e :: es) [] pos) Q :=
  .of (pe_meth (CX := L2N.CX X.prog X.w) (E := ER T X.mg f.H0 f.R) (pe_var hN hv hd hcd) c hm F (B.rm.mono hk) bi .nil (L2N.passes_call B.tk fun cls d σ H h => h) ha hst hpl ht) fun σ G H QQ en w => by
    obtain ⟨e1, g, dx, fs, e2, a⟩ := en.frm hn
    refine ⟨_, e1, p, dx, fs, rfl, e2, a.no hlk, G, en, fun vs as' G' H' st ar q => ?_⟩
    subst q
    have en' := en.step st
    exact ⟨G', .gen (frG X.K C p z) :: as', S, st.s, ⟨⟨rfl, (en'.frm hn).2⟩, by rw [List.append_nil]; exact ar⟩, hC, fun d hd v G2 H2 s2 p2 => w v d G2 H2 (st.trans s2) p2 (hS _ hd), fun n hn c H2 hc l2 => ⟨rfl, (en.st.le.trans st.le).trans l2, n, c, hS _ hn, hc, rfl⟩⟩
theorem we_meth0 {mn : Str} {fa : Addr} {fd : FuncData} {ps : List Str} {CT : Ct} {S : Oc → Prop} (c : Cls X.K C) (hm : Meth X.K C mn fa) (F : FnOk X.prog X.w X.K X.mg X.base (L2N.CX X.prog X.w) k fa fd ps (spD T X.K X.mg CT)) (bi : Binds X.K fd ps []) (B : Bd T X f m) (hk : k ≤ m)
    (hn : Γ[n]? = some (.gen (frG X.K C p z))) (hC : CT [.gen (frG X.K C p z)] S) (hS : ∀ r, S r → Okr Q f.R r) (hlk : z.lookup mn = none) (hN : X.N[n]? = some y := by rfl) (hv : Vis X.env.scope y := by first | exact Or.inl rfl | exact Or.inr (Or.inl rfl) | exact Or.inr (Or.inr rfl)) {pl : Sem Bool}
    (ht : eval (.Call (.Attribute (.Name y p1) mn apos) [] [] pos) X.env = (do
      let ov ← eval (.Name y p1) X.env
      standAt apos.atName
      let (f, first) ← holding [ov] (getMethod ov mn pl)
      callWith pos f first (backTo pos (starEach [] X.env)) (backToKw pos (keywordEach [] X.env))) := by rfl) (hd : (y == ("__debug__" : Str)) = false := by decide) (hcd : (y == ("__classdict__" : Str)) = false := by decide) :
    WE T X f Γ (.Call (.Attribute (.Name y p1) mn apos) [] [] pos) Q :=
  .of (pe_meth0 (CX := L2N.CX X.prog X.w) (E := ER T X.mg f.H0 f.R) (pe_var hN hv hd hcd) c hm F (B.rm.mono hk) bi .nil (L2N.passes_call B.tk fun cls d σ H h => h) ht) fun σ G H QQ en w => by
    obtain ⟨e1, g, dx, fs, e2, a⟩ := en.frm hn
    exact ⟨_, e1, p, dx, fs, rfl, e2, a.no hlk, G, [.gen (frG X.K C p z)], S, en.sub, ⟨⟨rfl, (en.frm hn).2⟩, trivial⟩, hC, fun d hd v G2 H2 s2 p2 => w v d G2 H2 s2 p2 (hS _ hd), fun n hn c H2 hc l2 => ⟨rfl, en.st.le.trans l2, n, c, hS _ hn, hc, rfl⟩⟩
end
/-! ### defs by their body, with a name and a qualified name -/
section
variable {T : Tb} {P : Program} {w : World} {K : PySem.W.Frag} {mg : Str → Option Value} {base : Heap}
theorem fn_dq {x q : Str} {st : Stmt} {fa : Addr} {fd : FuncData} {N ps : List Str} {k : Nat} {C : Ct} (F : Fun K x q st fa fd) (S : FnScope N ps (defScope st)) (len : ∀ as S, C as S → as.length = ps.length ∧ ∀ a ∈ as, Sl.isOwn a = false)
    (body : ∀ (cdv : Value) (A : Around) (outer : List Env) (s : Shared) (G H : Hp) (E : XK) (as : List Sl) (S : Oc → Prop), C as S →
      Bd T (cxOf (L2N.CX P w) P w K mg base N q (defScope st) fa cdv A outer s H E) ⟨G, H, fun n => S (.error n)⟩ k →
      WSs T (cxOf (L2N.CX P w) P w K mg base N q (defScope st) fa cdv A outer s H E) ⟨G, H, fun n => S (.error n)⟩ (stG N as) (defBody st) (fun _ => S (.ok .none)) (fun d => S (.ok d))) :
    FnOk P w K mg base (L2N.CX P w) (k + 1) fa fd ps (spD T K mg C) := by
  obtain ⟨oc, od, kV, doc, pm, an, cdv, ct, osl, rfl, lk, hcd⟩ := F.ex
  refine fn_of lk hcd S (fun vs H Q E h => ?_) fun A outer s H vs Q E hr h => ?_
  · obtain ⟨G, as, S, s, ar, hC, _⟩ := h
    rw [ar_len ar]
    exact (len as S hC).1
  · obtain ⟨G, as, S, sb, ar, hC, k1, k2⟩ := h
    have er : ∀ cls d H', ER T mg H (fun n => S (.error n)) cls d H' → E cls d H' := fun cls d H' h => by
      obtain ⟨rfl, l, n, c, hn, hc, rfl⟩ := h
      exact k2 n hn c H' hc l
    have B : Bd T (cxOf (L2N.CX P w) P w K mg base N q (defScope st) fa cdv A outer s H E) ⟨G, H, fun n => S (.error n)⟩ k :=
      ⟨(L2N.takes_of (X := cxOf (L2N.CX P w) P w K mg base N q (defScope st) fa cdv A outer s H E) (E := E) rfl rfl rfl rfl).imp fun cls d σ H h => er cls d H h, PassesOwn.leaving, hr, rfl⟩
    have W := body cdv A outer s G H E as S hC B
    refine ⟨fun D' σ H' => D'.nx = (fun _ H' => Q .non H') ∧ D'.rt = Q ∧ σ = start N vs ∧ H' = H, ⟨fun pins s' σ H' D' I h => ?_⟩, rfl, rfl, rfl, rfl⟩
    obtain ⟨e1, e2, e3, e4⟩ := h
    subst e3
    rw [e4] at I
    refine thn (W pins s' _ G H I (st_env sb ar (len as S hC).2)) fun fl s2 q => ?_
    cases fl with
    | next =>
      obtain ⟨Γ', σ', G', H', I', en, g, q⟩ := q
      refine ⟨σ', H', I', ?_⟩
      rw [e1]
      exact k1 _ q .non G' H' en.st .non
    | ret u =>
      obtain ⟨v, d, σ', G', H', I', r, t, dp, q⟩ := q
      refine ⟨v, σ', H', I', r, ?_⟩
      rw [e2]
      exact k1 d q v G' H' t dp
    | brk => exact q.elim
    | cont => exact q.elim
/-- a method of the class C: where it stands -/
structure MetAt (K : PySem.W.Frag) (C : Addr) (mn q : Str) (st : Stmt) (fa : Addr) (fd : FuncData) : Prop where
  m : Meth K C mn fa
  f : Fun K mn q st fa fd
end
end DL
set_option Elab.async false
set_option linter.all false
set_option maxRecDepth 100000
set_option maxHeartbeats 4000000
namespace DL
open PySem PySem.Spec PyProof.Rows L2
/-! ### statements that return, told of value and heap -/
def RP (X : Cx) (pins : List (Addr × Obj)) (PR : V → Hp → Prop) (fl : Flow) (s' : Shared) : Prop := match fl with
  | .ret u => ∃ v σ' H', Inv X pins σ' H' s' ∧ RelV v u ∧ PR v H'
  | _ => False
structure WR (T : Tb) (X : Cx) (f : Fx) (Γ : List Sl) (sts : List Stmt) (PR : V → Hp → Prop) : Prop where
  run : ∀ (pins : List (Addr × Obj)) (s : Shared) (σ : L2.St) (G H : Hp), Inv X pins σ H s → EnvR T X.K f Γ σ G H → wpAny (model X.prog X.w) X.A (execs sts X.env) (RP X pins PR) X.xe s
section
variable {T : Tb} {X : Cx} {f : Fx} {Γ : List Sl} {a b c e o : Expr} {es : List Expr} {Q : D → Prop} {pos p1 p2 apos : Pos} {d : D} {ds : List D} {as : List Sl} {k m n : Nat} {C p : Addr} {z z' : FS} {x y : Str} {st : Stmt} {rest xs : List Stmt} {N : List Sl → Prop} {Rt : D → Prop} {PR : V → Hp → Prop}
theorem wr_cons (h1 : WS T X f Γ st N (fun _ => False)) (h2 : ∀ Γ', N Γ' → WR T X f Γ' rest PR) : WR T X f Γ (st :: rest) PR := ⟨fun pins s σ G H I en =>
  wpAny_execs_cons (thn (h1 pins s σ G H I en) fun fl s1 q => by
    cases fl with
    | next =>
      obtain ⟨Γ1, σ1, G1, H1, I1, en1, g1, q1⟩ := q
      exact (h2 Γ1 q1).run pins s1 σ1 G1 H1 I1 en1
    | ret u =>
      obtain ⟨_, _, _, _, _, _, _, _, _, q⟩ := q
      exact q.elim
    | brk => exact q
    | cont => exact q)⟩
theorem wr_if {Qc : Bool → Prop} (hc : WT T X f Γ c Qc) (h1 : Qc true → WR T X f Γ xs PR) (h2 : Qc false → WR T X f Γ rest PR) : WR T X f Γ (.If c xs [] pos :: rest) PR := ⟨fun pins s σ G H I en =>
  wpAny_execs_cons (wpAny_If (thn (hc pins s σ G H I en) fun v s1 ⟨G1, H1, I1, t1, q1⟩ => by
    have en1 := en.step t1
    cases v with
    | true =>
      refine thn ((h1 q1).run pins s1 σ G1 H1 I1 en1) fun fl s2 q => ?_
      cases fl with
      | next => exact q.elim
      | ret u => exact q
      | brk => exact q
      | cont => exact q
    | false => exact wpAny_execs_nil ((h2 q1).run pins s1 σ G1 H1 I1 en1)))⟩
/-- what a def that changes the thing at p gives -/
def PRF (T : Tb) (K : PySem.W.Frag) (C p : Addr) (S : D → FS → Prop) (G0 H0 : Hp) (v : V) (H' : Hp) : Prop := ∃ d z' G', S d z' ∧ Stp T G0 H0 G' H' ∧ FrA K C p z' G' H' ∧ Dp K G' v d
theorem wr_retF {S : D → FS → Prop} (hn : Γ[n]? = some (.gen (frG X.K C p z))) (h : WE T X f Γ e (fun d => S d z)) : WR T X f Γ (.Return (some e) pos :: rest) (PRF T X.K C p S f.G0 f.H0) := ⟨fun pins s σ G H I en =>
  wpAny_execs_cons (wpAny_Return_some (thn (h pins s σ G H I en) fun u s1 ⟨v, d, G1, H1, I1, r1, t1, p1, q1⟩ => ⟨v, σ, H1, I1, r1, d, z, G1, q1, en.st.trans t1, (en.frm hn).2.mono t1, p1⟩))⟩
theorem wr_retP {t : TE} (h : PE X e t) (kk : ∀ σ G H QQ, EnvR T X.K f Γ σ G H → (∀ v H', PR v H' → QQ v H') → t σ H QQ) : WR T X f Γ (.Return (some e) pos :: rest) PR := ⟨fun pins s σ G H I en =>
  wpAny_execs_cons (wpAny_Return_some (thn (h.run pins s σ H PR I (kk σ G H _ en fun v H' q => q)) fun u s1 ⟨v, H1, I1, r1, q1⟩ => ⟨v, σ, H1, I1, r1, q1⟩))⟩
def spF (T : Tb) (K : PySem.W.Frag) (C : Addr) (CF : Addr → FS → List Sl → (D → FS → Prop) → Prop) : Sp := fun vs H Q _ => ∃ G p z as S, Sub G H ∧ FrA K C p z G H ∧ AR K G H vs as ∧ CF p z as S ∧ ∀ v H', PRF T K C p S G (cut H p) v H' → Q v H'
def spFT (T : Tb) (K : PySem.W.Frag) (C : Addr) (CF : Addr → FS → List Sl → (D → FS → Prop) → Prop) : Sp := fun vs H Q E => LamX.Tabs T H ∧ spF T K C CF vs H Q E
theorem tabs_cut {H : Hp} {dx : Addr} {fs : List (Str × V)} (h : H p = some (.ins C dx fs)) (t : LamX.Tabs T H) : LamX.Tabs T (cut H p) := fun q hq => by
  obtain ⟨ps, h1, h2, h3⟩ := t q hq
  have n1 : q.1 ≠ p := fun z => by
    rw [z, h] at h1
    cases h1
  refine ⟨ps, by rw [cut_ne n1]; exact h1, h2, fun pos cv hc => ?_⟩
  obtain ⟨c, e1, e2⟩ := h3 pos cv hc
  have n2 : c ≠ p := fun z => by
    rw [z, h] at e2
    unfold LamX.CodeO at e2
    cases e2
  exact ⟨c, e1, by rw [cut_ne n2]; exact e2⟩
/-- the thing at p was changed by a call -/
theorem env_chg {σ : L2.St} {G H G1 H1 : Hp} (en : EnvR T X.K f Γ σ G H) (ho : OneF Γ n) (hn : Γ[n]? = some (.gen (frG X.K C p z))) (h0 : Fr f.H0 p) (s : Stp T G (cut H p) G1 H1) (fr : FrA X.K C p z' G1 H1) :
    EnvR T X.K f (Γ.set n (.gen (frG X.K C p z'))) σ G1 H1 := by
  obtain ⟨e1, g, dx, fs, e2, al⟩ := en.frm hn
  have hl : n < Γ.length := (List.getElem?_eq_some_iff.mp hn).1
  have le0 : ∀ b o, H b = some o → b ≠ p → NT o → H1 b = some o := fun b o e hb nt => s.le.h b o (by rw [cut_ne hb]; exact e) nt
  have stp : Stp T f.G0 f.H0 G1 H1 := by
    refine ⟨⟨fun b o e nt => le0 b o (en.st.le.h b o e nt) (fr_ne e nt h0) nt, fun t => s.le.t (tabs_cut e2 (en.st.le.t t))⟩, en.st.g.trans s.g, s.s, fun b o q1 q2 q3 => ?_⟩
    exact s.n b o (en.st.n b o q1 q2 q3) (by rw [cut_ne (fr_ne q2 q3 h0)]; exact en.st.le.h b o q2 q3) q3
  refine ⟨stp, fun j sl e => ?_, by rw [List.length_set]; exact en.ln⟩
  by_cases hj : n = j
  · subst hj
    rw [List.getElem?_set_self hl] at e
    cases e
    exact ⟨_, e1, rfl, fr⟩
  · rw [List.getElem?_set_ne hj] at e
    obtain ⟨w, w1, w2⟩ := en.sl j sl e
    refine ⟨w, w1, ?_⟩
    cases sl with
    | dat d =>
      obtain ⟨v, a1, a2⟩ := w2
      exact ⟨v, a1, dp_mono s.g _ _ a2⟩
    | raw v => exact w2
    | obj a o =>
      obtain ⟨a1, a2, a3⟩ := w2
      have hb : a ≠ p := fun y => by
        rw [y, e2] at a2
        exact a3.2.2 _ _ _ (Option.some.inj a2).symm
      exact ⟨a1, le0 _ _ a2 hb a3.1, a3⟩
    | own ys =>
      obtain ⟨q, vs, a1, a2, a3, a4, a5⟩ := w2
      have hb : q ≠ p := fun y => by
        rw [y, e2] at a4
        cases a4
      exact ⟨q, vs, a1, s.n q _ a2 (by rw [cut_ne hb]; exact a4) nt_lst, a3, le0 _ _ a4 hb nt_lst, dpa_mono s.g _ _ a5⟩
    | dct kvs =>
      obtain ⟨q, a1, a2, a3, a4⟩ := w2
      have hb : q ≠ p := fun y => by
        rw [y, e2] at a4
        cases a4
      exact ⟨q, a1, s.n q _ a2 (by rw [cut_ne hb]; exact a4) nt_dK, a3, le0 _ _ a4 hb nt_dK⟩
    | gen g => exact absurd rfl (ho j _ (Ne.symm hj) e g)
    | no => trivial
/-- a name whose slot holds such a thing, as an argument -/
theorem wa_gen {g : GSl} (h : Γ[n]? = some (.gen g)) (hr : WA T X f Γ es fun z => z = as) (hw : ∀ G H w, g.R G H w → ∃ v, w = some v) (hN : X.N[n]? = some y := by rfl) (hv : Vis X.env.scope y := by first | exact Or.inl rfl | exact Or.inr (Or.inl rfl) | exact Or.inr (Or.inr rfl)) (hd : (y == ("__debug__" : Str)) = false := by decide) (hcd : (y == ("__classdict__" : Str)) = false := by decide)
    (hs : starEach (.Name y p1 :: es) X.env = (false, eval (.Name y p1) X.env) :: starEach es X.env := by rfl) : WA T X f Γ (.Name y p1 :: es) fun z => z = .gen g :: as :=
  pa_imp (pa_cons (pe_var hN hv hd hcd) hr hs) fun σ H QQ ⟨G, en, w⟩ => by
    obtain ⟨w0, e1, e2⟩ := en.sl n _ h
    obtain ⟨v, rfl⟩ := hw _ _ _ e2
    refine ⟨v, e1, G, en, fun vs rs G2 H2 s2 p2 q2 => ?_⟩
    subst q2
    exact w _ (.gen g :: _) G2 H2 s2 ⟨g.mono s2 e2, p2⟩ rfl
theorem wa_frm (h : Γ[n]? = some (.gen (frG X.K C p z))) (hr : WA T X f Γ es fun z => z = as) (hN : X.N[n]? = some y := by rfl) (hv : Vis X.env.scope y := by first | exact Or.inl rfl | exact Or.inr (Or.inl rfl) | exact Or.inr (Or.inr rfl)) (hd : (y == ("__debug__" : Str)) = false := by decide) (hcd : (y == ("__classdict__" : Str)) = false := by decide)
    (hs : starEach (.Name y p1 :: es) X.env = (false, eval (.Name y p1) X.env) :: starEach es X.env := by rfl) : WA T X f Γ (.Name y p1 :: es) fun q => q = .gen (frG X.K C p z) :: as :=
  wa_gen h hr (fun _ _ _ q => ⟨_, q.1⟩) hN hv hd hcd hs
/-- a def of the module that changes the thing -/
structure DfF (T : Tb) (P : Program) (w : World) (K : PySem.W.Frag) (mg : Str → Option Value) (base : Heap) (x : Str) (k : Nat) (C : Addr) (CF : Addr → FS → List Sl → (D → FS → Prop) → Prop) : Prop where
  ex : ∃ (fa : Addr) (fd : FuncData) (ps : List Str), FnOk P w K mg base (L2N.CX P w) k fa fd ps (spFT T K C CF) ∧ mg x = some (.ref fa) ∧ PySem.W.keepIn K (.ref fa) = true ∧ Binds K fd ps []
theorem pe_callF {g : Str} {CF : Addr → FS → List Sl → (D → FS → Prop) → Prop} {S : D → FS → Prop} (F : DfF T X.prog X.w X.K X.mg X.base g k C CF) (hr : Room m X.A) (hk : k ≤ m) (hT : LamX.Tabs T f.H0) (hn : Γ[n]? = some (.gen (frG X.K C p z))) (ha : WA T X f Γ (e :: es) fun q => q = as) (hC : CF p z as S) (hg : Gl X g := by rfl) (hdb : (g == ("__debug__" : Str)) = false := by decide)
    (he : starEach (e :: es) X.env = (false, eval e X.env) :: starEach es X.env := by rfl) (hpl : (backTo pos (starEach es X.env)).any (·.1) = false := by rfl) :
    PE X (.Call (.Name g p1) (e :: es) [] pos) (fun σ H QQ => ∃ G, EnvR T X.K f Γ σ G H ∧ ∀ G1 H1, Stp T G H G1 H1 → ∀ v H', PRF T X.K C p S G1 (cut H1 p) v H' → QQ v H') := by
  obtain ⟨fa, fd, ps, FF, hm, kp, bi⟩ := F.ex
  refine ⟨fun pins s σ H QQ I ⟨G, en, w⟩ => ?_⟩
  refine (pe_call (CX := L2N.CX X.prog X.w) (E := E0) FF (hr.mono hk) hg hm kp bi .nil passN ha hdb he hpl).run pins s σ H QQ I ⟨G, en, fun vs as' G' H' st ar q => ?_⟩
  subst q
  exact ⟨(en.step st).st.le.t hT, G', p, z, _, S, st.s, ((en.step st).frm hn).2, (by rw [List.append_nil]; exact ar), hC, fun v H2 q => w G' H' st v H2 q⟩
/-- x = g(.., the thing, ..) -/
theorem ws_asgF {g : Str} {i : Nat} {pn sp : Pos} {CF : Addr → FS → List Sl → (D → FS → Prop) → Prop} {S : D → FS → Prop} (F : DfF T X.prog X.w X.K X.mg X.base g k C CF) (hr : Room m X.A) (hk : k ≤ m) (hT : LamX.Tabs T f.H0) (hn : Γ[n]? = some (.gen (frG X.K C p z))) (ho : OneF Γ n) (h0 : Fr f.H0 p) (ha : WA T X f Γ (e :: es) fun q => q = as) (hC : CF p z as S)
    (hq : ∀ d z', S d z' → N ((Γ.set n (.gen (frG X.K C p z'))).set i (.dat d))) (hil : i < Γ.length) (hNd : X.N.Nodup) (hi : X.N[i]? = some x := by rfl) (hx : Loc X.env.scope x := by first | exact Or.inl rfl | exact Or.inr rfl) (hg : Gl X g := by rfl) (hdb : (g == ("__debug__" : Str)) = false := by decide)
    (he : starEach (e :: es) X.env = (false, eval e X.env) :: starEach es X.env := by rfl) (hpl : (backTo pos (starEach es X.env)).any (·.1) = false := by rfl)
    (hs : swapsWith (.Call (.Name g p1) (e :: es) [] pos) (some (.Name x pn)) sp.line X.env = pure false := by rfl) (hf : X.fn x = true ∨ X.env.scope.names.lookup x = some .local := by first | exact .inl rfl | exact .inr rfl) :
    WS T X f Γ (.Assign [.Name x pn] (.Call (.Name g p1) (e :: es) [] pos) sp) N Rt :=
  .of (ps_set hNd hi hx (pe_callF F hr hk hT hn ha hC hg hdb he hpl) hs hf) fun σ G H E en w => ⟨G, en, fun G1 H1 st v H' ⟨d, z', G', q, s', fr, dp⟩ => by
    have en' := env_chg (en.step st) ho hn h0 s' fr
    exact w.nx _ _ G' H' (en'.set (s := .dat d) ⟨v, rfl, dp⟩ (by rw [List.length_set]; exact hil)) (st.g.trans s'.g) (hq d z' q)⟩
end
section
variable {T : Tb} {P : Program} {w : World} {K : PySem.W.Frag} {mg : Str → Option Value} {base : Heap} {C : Addr}
theorem fn_f {x q : Str} {st : Stmt} {fa : Addr} {fd : FuncData} {N ps : List Str} {k : Nat} {CF : Addr → FS → List Sl → (D → FS → Prop) → Prop} (F : Fun K x q st fa fd) (Sc : FnScope N ps (defScope st)) (len : ∀ p z as S, CF p z as S → as.length = ps.length ∧ ∀ a ∈ as, Sl.isOwn a = false)
    (body : ∀ (cdv : Value) (A : Around) (outer : List Env) (s : Shared) (G H : Hp) (E : XK) (p : Addr) (z : FS) (as : List Sl) (S : D → FS → Prop), CF p z as S →
      Bd T (cxOf (L2N.CX P w) P w K mg base N q (defScope st) fa cdv A outer s H E) ⟨G, cut H p, fun _ => False⟩ k → (LamX.Tabs T H → LamX.Tabs T (cut H p)) →
      WR T (cxOf (L2N.CX P w) P w K mg base N q (defScope st) fa cdv A outer s H E) ⟨G, cut H p, fun _ => False⟩ (stG N as) (defBody st) (PRF T K C p S G (cut H p))) :
    FnOk P w K mg base (L2N.CX P w) (k + 1) fa fd ps (spF T K C CF) := by
  obtain ⟨oc, od, kV, doc, pm, an, cdv, ct, osl, rfl, lk, hcd⟩ := F.ex
  refine fn_of lk hcd Sc (fun vs H Q E h => ?_) fun A outer s H vs Q E hr h => ?_
  · obtain ⟨G, p, z, as, S, sb, fr, ar, hC, _⟩ := h
    rw [ar_len ar]
    exact (len p z as S hC).1
  · obtain ⟨G, p, z, as, S, sb, fr, ar, hC, k1⟩ := h
    obtain ⟨g0, dx, fs, hp, _⟩ := fr
    have B : Bd T (cxOf (L2N.CX P w) P w K mg base N q (defScope st) fa cdv A outer s H E) ⟨G, cut H p, fun _ => False⟩ k := ⟨tk_none fun _ z => z, PassesOwn.leaving, hr, rfl⟩
    have W := body cdv A outer s G H E p z as S hC B (tabs_cut hp)
    refine ⟨fun D' σ H' => D'.rt = Q ∧ σ = start N vs ∧ H' = H, ⟨fun pins s' σ H' D' I h => ?_⟩, rfl, rfl, rfl⟩
    obtain ⟨e2, e3, e4⟩ := h
    subst e3
    rw [e4] at I
    refine thn (W.run pins s' _ G H I (env_cut (st_env (R := fun _ => False) sb ar (len p z as S hC).2))) fun fl s2 q => ?_
    cases fl with
    | next => exact q.elim
    | ret u =>
      obtain ⟨v, σ', H', I', r, q⟩ := q
      refine ⟨v, σ', H', I', r, ?_⟩
      rw [e2]
      exact k1 v H' q
    | brk => exact q.elim
    | cont => exact q.elim
/-- the same, the code's table known -/
theorem fn_ft {x q : Str} {st : Stmt} {fa : Addr} {N ps : List Str} {k : Nat} {oc kV doc pm cdv ct : Value} {od an : Option Addr} {osl : Array (Option Value)} {CF : Addr → FS → List Sl → (D → FS → Prop) → Prop}
    (lk : K.lookup fa = some ⟨oc, od, .func (PySem.W.fnOf x q (defArgs st) (defBody st) (defScope st) .none kV doc pm an cdv ct), osl⟩) (hcd : PySem.W.codeIn K cdv q = true) (Sc : FnScope N ps (defScope st)) (len : ∀ p z as S, CF p z as S → as.length = ps.length ∧ ∀ a ∈ as, Sl.isOwn a = false)
    (body : ∀ (A : Around) (outer : List Env) (s : Shared) (G H : Hp) (E : XK) (p : Addr) (z : FS) (as : List Sl) (S : D → FS → Prop), CF p z as S →
      Bd T (cxOf (L2N.CX P w) P w K mg base N q (defScope st) fa cdv A outer s H E) ⟨G, cut H p, fun _ => False⟩ k → LamX.Tabs T (cut H p) →
      WR T (cxOf (L2N.CX P w) P w K mg base N q (defScope st) fa cdv A outer s H E) ⟨G, cut H p, fun _ => False⟩ (stG N as) (defBody st) (PRF T K C p S G (cut H p))) :
    FnOk P w K mg base (L2N.CX P w) (k + 1) fa (PySem.W.fnOf x q (defArgs st) (defBody st) (defScope st) .none kV doc pm an cdv ct) ps (spFT T K C CF) := by
  refine fn_of lk hcd Sc (fun vs H Q E h => ?_) fun A outer s H vs Q E hr h => ?_
  · obtain ⟨_, G, p, z, as, S, sb, fr, ar, hC, _⟩ := h
    rw [ar_len ar]
    exact (len p z as S hC).1
  · obtain ⟨hT, G, p, z, as, S, sb, fr, ar, hC, k1⟩ := h
    obtain ⟨g0, dx, fs, hp, _⟩ := fr
    have B : Bd T (cxOf (L2N.CX P w) P w K mg base N q (defScope st) fa cdv A outer s H E) ⟨G, cut H p, fun _ => False⟩ k := ⟨tk_none fun _ z => z, PassesOwn.leaving, hr, rfl⟩
    have W := body A outer s G H E p z as S hC B (tabs_cut hp hT)
    refine ⟨fun D' σ H' => D'.rt = Q ∧ σ = start N vs ∧ H' = H, ⟨fun pins s' σ H' D' I h => ?_⟩, rfl, rfl, rfl⟩
    obtain ⟨e2, e3, e4⟩ := h
    subst e3
    rw [e4] at I
    refine thn (W.run pins s' _ G H I (env_cut (st_env (R := fun _ => False) sb ar (len p z as S hC).2))) fun fl s2 q => ?_
    cases fl with
    | next => exact q.elim
    | ret u =>
      obtain ⟨v, σ', H', I', r, q⟩ := q
      refine ⟨v, σ', H', I', r, ?_⟩
      rw [e2]
      exact k1 v H' q
    | brk => exact q.elim
    | cont => exact q.elim
end
end DL
set_option Elab.async false
set_option linter.all false
set_option maxRecDepth 100000
set_option maxHeartbeats 4000000
namespace DL
open PySem PySem.Spec PyProof.Rows L2
section
variable {T : Tb} {P : Program} {w : World} {K : PySem.W.Frag} {mg : Str → Option Value} {base : Heap} {C : Addr}
/-- a def without return -/
theorem fn_fi {x q : Str} {st : Stmt} {fa : Addr} {fd : FuncData} {N ps : List Str} {k : Nat} {CF : Addr → FS → List Sl → (D → FS → Prop) → Prop} (F : Fun K x q st fa fd) (Sc : FnScope N ps (defScope st)) (len : ∀ p z as S, CF p z as S → as.length = ps.length ∧ ∀ a ∈ as, Sl.isOwn a = false)
    (body : ∀ (cdv : Value) (A : Around) (outer : List Env) (s : Shared) (G H : Hp) (E : XK) (p : Addr) (z : FS) (as : List Sl) (S : D → FS → Prop), CF p z as S →
      Bd T (cxOf (L2N.CX P w) P w K mg base N q (defScope st) fa cdv A outer s H E) ⟨G, cut H p, fun _ => False⟩ k →
      WSs T (cxOf (L2N.CX P w) P w K mg base N q (defScope st) fa cdv A outer s H E) ⟨G, cut H p, fun _ => False⟩ (stG N as) (defBody st) (fun Γ' => ∃ (n : Nat) (z' : FS), Γ'[n]? = some (Sl.gen (frG K C p z')) ∧ S .none z') (fun _ => False)) :
    FnOk P w K mg base (L2N.CX P w) (k + 1) fa fd ps (spF T K C CF) := by
  obtain ⟨oc, od, kV, doc, pm, an, cdv, ct, osl, rfl, lk, hcd⟩ := F.ex
  refine fn_of lk hcd Sc (fun vs H Q E h => ?_) fun A outer s H vs Q E hr h => ?_
  · obtain ⟨G, p, z, as, S, sb, fr, ar, hC, _⟩ := h
    rw [ar_len ar]
    exact (len p z as S hC).1
  · obtain ⟨G, p, z, as, S, sb, fr, ar, hC, k1⟩ := h
    have B : Bd T (cxOf (L2N.CX P w) P w K mg base N q (defScope st) fa cdv A outer s H E) ⟨G, cut H p, fun _ => False⟩ k := ⟨tk_none fun _ z => z, PassesOwn.leaving, hr, rfl⟩
    have W := body cdv A outer s G H E p z as S hC B
    refine ⟨fun D' σ H' => D'.nx = (fun _ H' => Q .non H') ∧ σ = start N vs ∧ H' = H, ⟨fun pins s' σ H' D' I h => ?_⟩, rfl, rfl, rfl⟩
    obtain ⟨e1, e3, e4⟩ := h
    subst e3
    rw [e4] at I
    refine thn (W pins s' _ G H I (env_cut (st_env (R := fun _ => False) sb ar (len p z as S hC).2))) fun fl s2 hq => ?_
    cases fl with
    | next =>
      obtain ⟨Γ', σ', G', H', I', en, g, n, z', hn, hS⟩ := hq
      refine ⟨σ', H', I', ?_⟩
      rw [e1]
      exact k1 .non H' ⟨.none, z', G', hS, en.st, (en.frm (X := cxOf (L2N.CX P w) P w K mg base N q (defScope st) fa cdv A outer s H E) hn).2, .non⟩
    | ret u =>
      obtain ⟨_, _, _, _, _, _, _, _, _, hz⟩ := hq
      exact hz.elim
    | brk => exact hq.elim
    | cont => exact hq.elim
end
/-! ### C(e) -/
theorem stp_new {T : Tb} {G H G1 H1 : Hp} {x dx : Addr} {o1 o2 : HO} (s : Stp T G (cut (upd (upd H dx o1) x o2) x) G1 H1) (h1 : H x = none) (h2 : H dx = none) : Stp T G H G1 H1 := by
  have k : ∀ b o, H b = some o → cut (upd (upd H dx o1) x o2) x b = some o := fun b o e => by
    have n1 : b ≠ x := fun z => by
      rw [z, h1] at e
      cases e
    have n2 : b ≠ dx := fun z => by
      rw [z, h2] at e
      cases e
    rw [cut_ne n1, upd_ne n1, upd_ne n2]
    exact e
  exact ⟨⟨fun b o e n => s.le.h b o (k b o e) n, fun t => s.le.t (t.ext k)⟩, s.g, s.s, fun b o q1 q2 q3 => s.n b o q1 (k b o q2) q3⟩
section
variable {T : Tb} {X : Cx} {f : Fx} {Γ : List Sl} {a b c e o : Expr} {es : List Expr} {Q : D → Prop} {pos p1 p2 apos : Pos} {d : D} {ds : List D} {as : List Sl} {k m n : Nat} {C p : Addr} {z z' : FS} {x y : Str} {fi : Addr} {fdi : FuncData} {psi : List Str}
/-- what __init__ promises, and how it is reached -/
def cInit (K : PySem.W.Frag) (C : Addr) (ok : D → Bool) (z : D → FS) : Addr → FS → List Sl → (D → FS → Prop) → Prop := fun p z0 as S => ∃ d, ok d = true ∧ z0 = [] ∧ as = [.gen (frG K C p []), .dat d] ∧ S = fun r z' => r = .none ∧ z' = z d
def cInitX (K : PySem.W.Frag) (C : Addr) (ok : D → Bool) (n : Str) : Ct := fun as S => ∃ p d, ok d = false ∧ as = [.gen (frG K C p []), .dat d] ∧ S = Ret (.error n)
structure NewF (T : Tb) (P : Program) (w : World) (K : PySem.W.Frag) (mg : Str → Option Value) (base : Heap) (x : Str) (k : Nat) (C : Addr) (ok : D → Bool) (z : D → FS) (n : Str) : Prop where
  ex : ∃ fi fd ps, Mk K C fi ∧ FnOk P w K mg base (L2N.CX P w) k fi fd ps (spF T K C (cInit K C ok z)) ∧ FnOk P w K mg base (L2N.CX P w) k fi fd ps (spD T K mg (cInitX K C ok n)) ∧ mg x = some (.ref C) ∧ Binds K fd ps []
def rdN (T : Tb) (X : Cx) (f : Fx) (Γ : List Sl) (C : Addr) (z : FS) : TE := fun σ H QQ => ∃ G, EnvR T X.K f Γ σ G H ∧ ∀ p G' H', Fr H p → Stp T G H G' H' → FrA X.K C p z G' H' → QQ (.ref p) H'
theorem pe_newF {ok : D → Bool} {zd : D → FS} {nx : Str} (F : NewF T X.prog X.w X.K X.mg X.base x k C ok zd nx) (hr : Room m X.A) (hk : k + 1 ≤ m) (h : DE T X f Γ e d) (hd : ok d = true) (hg : Gl X x := by rfl) (hdb : (x == ("__debug__" : Str)) = false := by decide)
    (he : starEach [e] X.env = (false, eval e X.env) :: starEach [] X.env := by rfl) (hpl : (backTo pos (starEach [] X.env)).any (·.1) = false := by rfl) : PE X (.Call (.Name x p1) [e] [] pos) (rdN T X f Γ C (zd d)) := by
  obtain ⟨fi, fd, ps, M, F1, _, hm, bi⟩ := F.ex
  refine ⟨fun pins s σ H QQ I ⟨G, en, w⟩ => ?_⟩
  refine (pe_make (CX := L2N.CX X.prog X.w) (E := E0) M F1 (hr.mono hk) hg hm bi .nil passN (DA.wa (da_cons h da_nil he)) hdb he hpl).run pins s σ H QQ I ⟨G, en, fun vs as' G1 H1 st ar q p dx h1 h2 h3 => ?_⟩
  subst q
  have g1 : G1 p = none := st.s.none h1
  have st2 : Stp T G1 H1 G1 (upd (upd H1 dx (.own p)) p (.ins C dx [])) := by
    have a1 : Stp T G1 H1 G1 (upd H1 dx (.own p)) := .keep st.s (.new h2)
    exact a1.trans (.keep a1.s (.new (by rw [upd_ne (Ne.symm h3)]; exact h1)))
  refine ⟨G1, p, [], .gen (frG X.K C p []) :: [d].map .dat, _, st2.s, ⟨g1, dx, [], upd_same, .nil⟩, ⟨⟨rfl, g1, dx, [], upd_same, .nil⟩, by rw [List.append_nil]; exact ar_mono st2 ar⟩, ⟨d, hd, rfl, rfl, rfl⟩, fun v H' ⟨r, z', G', ⟨q1, q2⟩, s', fr, dp⟩ => ?_⟩
  subst q1 q2
  cases dp
  exact ⟨rfl, w p G' H' (st.le.fr (fr_none h1)) (st.trans (stp_new s' h1 h2)) fr⟩
theorem we_newX {ok : D → Bool} {zd : D → FS} {nx : Str} (F : NewF T X.prog X.w X.K X.mg X.base x k C ok zd nx) (B : Bd T X f m) (hk : k + 1 ≤ m) (h : DE T X f Γ e d) (hd : ok d = false) (hR : f.R nx) (hg : Gl X x := by rfl) (hdb : (x == ("__debug__" : Str)) = false := by decide)
    (he : starEach [e] X.env = (false, eval e X.env) :: starEach [] X.env := by rfl) (hpl : (backTo pos (starEach [] X.env)).any (·.1) = false := by rfl) : WE T X f Γ (.Call (.Name x p1) [e] [] pos) Q := by
  obtain ⟨fi, fd, ps, M, _, F2, hm, bi⟩ := F.ex
  refine .of (pe_make (CX := L2N.CX X.prog X.w) (E := ER T X.mg f.H0 f.R) M F2 (B.rm.mono hk) hg hm bi .nil (L2N.passes_call B.tk fun cls d σ H h => h) (DA.wa (da_cons h da_nil he)) hdb he hpl) fun σ G H QQ en w => ⟨G, en, fun vs as' G1 H1 st ar q p dx h1 h2 h3 => ?_⟩
  subst q
  have g1 : G1 p = none := st.s.none h1
  have st2 : Stp T G1 H1 G1 (upd (upd H1 dx (.own p)) p (.ins C dx [])) := by
    have a1 : Stp T G1 H1 G1 (upd H1 dx (.own p)) := .keep st.s (.new h2)
    exact a1.trans (.keep a1.s (.new (by rw [upd_ne (Ne.symm h3)]; exact h1)))
  refine ⟨G1, .gen (frG X.K C p []) :: [d].map .dat, Ret (.error nx), st2.s, ⟨⟨rfl, g1, dx, [], upd_same, .nil⟩, by rw [List.append_nil]; exact ar_mono st2 ar⟩, ⟨p, d, hd, rfl, rfl⟩, (fun d hd => by cases hd), (fun n hn c H2 hc l2 => ?_)⟩
  have e : n = nx := Except.error.inj hn
  subst e
  exact ⟨rfl, ((en.st.le.trans st.le).trans st2.le).trans l2, n, c, hR, hc, rfl⟩
/-- C(e0).m(..) that raises -/
theorem we_newmeth {e0 : Expr} {q0 : Pos} {ok : D → Bool} {zd : D → FS} {nx mn : Str} {j : Nat} {fa : Addr} {fd : FuncData} {ps : List Str} {CT : Ct} {S : Oc → Prop} (NF : NewF T X.prog X.w X.K X.mg X.base x j C ok zd nx) (hj : j + 1 ≤ m) (h : DE T X f Γ e0 d) (hd : ok d = true) (c : Cls X.K C) (hm : Meth X.K C mn fa) (F : FnOk X.prog X.w X.K X.mg X.base (L2N.CX X.prog X.w) k fa fd ps (spD T X.K X.mg CT)) (bi : Binds X.K fd ps []) (B : Bd T X f m) (hk : k ≤ m)
    (ha : WA T X f Γ (e :: es) fun w => w = as) (hC : ∀ p, CT (.gen (frG X.K C p (zd d)) :: as) S) (hS : ∀ r, S r → Okr Q f.R r) (hlk : (zd d).lookup mn = none)
    (hg : Gl X x := by rfl) (hdb : (x == ("__debug__" : Str)) = false := by decide) (he : starEach [e0] X.env = (false, eval e0 X.env) :: starEach [] X.env := by rfl)
    (hst : starEach (e :: es) X.env = (false, eval e X.env) :: starEach es X.env := by rfl) (hpl : (backTo pos (starEach es X.env)).any (·.1) = false := by rfl) {pl : Sem Bool}
    (ht : eval (.Call (.Attribute (.Call (.Name x p1) [e0] [] q0) mn apos) (e :: es) [] pos) X.env = (do
      let ov ← eval (.Call (.Name x p1) [e0] [] q0) X.env
      standAt apos.atName
      let (f, first) ← holding [ov] (getMethod ov mn pl)
      callWith pos f first (backTo pos (starEach (e :: es) X.env)) (backToKw pos (keywordEach [] X.env))) := by rfl) :
    WE T X f Γ (.Call (.Attribute (.Call (.Name x p1) [e0] [] q0) mn apos) (e :: es) [] pos) Q :=
  .of (pe_meth (CX := L2N.CX X.prog X.w) (E := ER T X.mg f.H0 f.R) (pe_newF NF B.rm hj h hd hg hdb he rfl) c hm F (B.rm.mono hk) bi .nil (L2N.passes_call B.tk fun cls d σ H h => h) ha hst hpl ht) fun σ G H QQ en w => by
    refine ⟨G, en, fun p G0 H0 h0 s0 fr => ?_⟩
    obtain ⟨g, dx, fs, e2, a⟩ := id fr
    refine ⟨p, dx, fs, rfl, e2, a.no hlk, G0, en.step s0, fun vs as' G' H' st ar q => ?_⟩
    subst q
    exact ⟨G', .gen (frG X.K C p (zd d)) :: as', S, st.s, ⟨⟨rfl, fr.mono st⟩, by rw [List.append_nil]; exact ar⟩, hC p, fun d hd v G2 H2 s2 p2 => w v d G2 H2 ((s0.trans st).trans s2) p2 (hS _ hd), fun n hn c H2 hc l2 => ⟨rfl, ((en.st.le.trans s0.le).trans st.le).trans l2, n, c, hS _ hn, hc, rfl⟩⟩
theorem we_newmeth0 {e0 : Expr} {q0 : Pos} {ok : D → Bool} {zd : D → FS} {nx mn : Str} {j : Nat} {fa : Addr} {fd : FuncData} {ps : List Str} {CT : Ct} {S : Oc → Prop} (NF : NewF T X.prog X.w X.K X.mg X.base x j C ok zd nx) (hj : j + 1 ≤ m) (h : DE T X f Γ e0 d) (hd : ok d = true) (c : Cls X.K C) (hm : Meth X.K C mn fa) (F : FnOk X.prog X.w X.K X.mg X.base (L2N.CX X.prog X.w) k fa fd ps (spD T X.K X.mg CT)) (bi : Binds X.K fd ps []) (B : Bd T X f m) (hk : k ≤ m)
    (hC : ∀ p, CT [.gen (frG X.K C p (zd d))] S) (hS : ∀ r, S r → Okr Q f.R r) (hlk : (zd d).lookup mn = none)
    (hg : Gl X x := by rfl) (hdb : (x == ("__debug__" : Str)) = false := by decide) (he : starEach [e0] X.env = (false, eval e0 X.env) :: starEach [] X.env := by rfl) {pl : Sem Bool}
    (ht : eval (.Call (.Attribute (.Call (.Name x p1) [e0] [] q0) mn apos) [] [] pos) X.env = (do
      let ov ← eval (.Call (.Name x p1) [e0] [] q0) X.env
      standAt apos.atName
      let (f, first) ← holding [ov] (getMethod ov mn pl)
      callWith pos f first (backTo pos (starEach [] X.env)) (backToKw pos (keywordEach [] X.env))) := by rfl) :
    WE T X f Γ (.Call (.Attribute (.Call (.Name x p1) [e0] [] q0) mn apos) [] [] pos) Q :=
  .of (pe_meth0 (CX := L2N.CX X.prog X.w) (E := ER T X.mg f.H0 f.R) (pe_newF NF B.rm hj h hd hg hdb he rfl) c hm F (B.rm.mono hk) bi .nil (L2N.passes_call B.tk fun cls d σ H h => h) ht) fun σ G H QQ en w => by
    refine ⟨G, en, fun p G0 H0 h0 s0 fr => ?_⟩
    obtain ⟨g, dx, fs, e2, a⟩ := id fr
    exact ⟨p, dx, fs, rfl, e2, a.no hlk, G0, [.gen (frG X.K C p (zd d))], S, s0.s, ⟨⟨rfl, fr⟩, trivial⟩, hC p, fun d hd v G2 H2 s2 p2 => w v d G2 H2 (s0.trans s2) p2 (hS _ hd), fun n hn c H2 hc l2 => ⟨rfl, (en.st.le.trans s0.le).trans l2, n, c, hS _ hn, hc, rfl⟩⟩
end
end DL
set_option Elab.async false
set_option linter.all false
set_option maxRecDepth 100000
set_option maxHeartbeats 4000000
namespace DL
open PySem PySem.Spec PyProof.Rows L2
section
variable {T : Tb} {X : Cx} {f : Fx} {Γ : List Sl} {a b c e o : Expr} {es : List Expr} {Q : D → Prop} {pos p1 p2 apos : Pos} {d : D} {ds : List D} {as : List Sl} {k m n : Nat} {C p : Addr} {z z' : FS} {x y : Str} {rest sts : List Stmt} {N : List Sl → Prop} {Rt : D → Prop} {PR : V → Hp → Prop}
theorem ws_fld (hn : Γ[n]? = some (.gen (frG X.K C p z))) (ho : OneF Γ n) (h0 : Fr f.H0 p) (h : DE T X f Γ e d) (c : Cls X.K C) (na : NoAttr X.K C x) (hz : z.length < 100) (kk : N (Γ.set n (.gen (frG X.K C p (putD x d z)))))
    (hN : X.N[n]? = some y := by rfl) (hv : Vis X.env.scope y := by first | exact Or.inl rfl | exact Or.inr (Or.inl rfl) | exact Or.inr (Or.inr rfl)) (hs : swapsWith e (some (.Attribute (.Name y p1) x p2)) pos.line X.env = pure false := by rfl)
    (hd : (y == ("__debug__" : Str)) = false := by decide) (hcd : (y == ("__classdict__" : Str)) = false := by decide) : WS T X f Γ (.Assign [.Attribute (.Name y p1) x p2] e pos) N Rt :=
  .of (ps_fld (pe_var hN hv hd hcd) h.pe hs) fun σ G H E en w => ⟨G, en, fun v d' G1 H1 st dp q => by
    subst q
    have en1 := en.step st
    obtain ⟨e1, g, dx, fs, e2, a⟩ := en1.frm hn
    exact ⟨_, e1, p, C, dx, fs, rfl, e2, c, na, by rw [a.len]; omega, w.nx _ _ G1 _ (env_fld en1 ho hn h0 e2 a dp) st.g kk⟩⟩
/-- x = list(e), of one's own -/
theorem ws_listO {i : Nat} {pn sp : Pos} (h : DE T X f Γ e (.tuple ds)) (hm : X.mg "list" = none) (kk : N (Γ.set i (.own ds))) (hNd : X.N.Nodup) (hil : i < Γ.length) (hi : X.N[i]? = some x := by rfl) (hx : Loc X.env.scope x := by first | exact Or.inl rfl | exact Or.inr rfl)
    (hg : Gl X "list" := by rfl) (hs : Sta X e := by rfl) (hsw : swapsWith (.Call (.Name "list" p1) [e] [] pos) (some (.Name x pn)) sp.line X.env = pure false := by rfl) (hf : X.fn x = true ∨ X.env.scope.names.lookup x = some .local := by first | exact .inl rfl | exact .inr rfl) :
    WS T X f Γ (.Assign [.Name x pn] (.Call (.Name "list" p1) [e] [] pos) sp) N Rt :=
  .of (ps_set hNd hi hx (pe_callTy call_list_of hg hm (by decide +kernel) (da_cons h da_nil hs) (by decide) (by decide) hs bpl) hsw hf) fun σ G H E en w => ⟨G, en, fun vs ds' G1 H1 st dp q => by
    subst q
    obtain ⟨v, rfl, dq⟩ := dpa_1 dp
    cases dq with
    | @tup _ vs _ sq al =>
      refine ⟨_, _, rfl, .inr (st_up st.s sq), fun l hl => ?_⟩
      have en1 := en.step st
      have en' : EnvR T X.K f Γ σ G1 (upd H1 l (.lst vs)) := en1.step (.keep en1.sub (.new hl))
      exact w.nx _ _ G1 _ (en'.set (s := .own ds) ⟨l, vs, rfl, st.s.none hl, en1.st.le.fr (fr_none hl), upd_same, al⟩ hil) st.g kk⟩
theorem env_frz {σ : L2.St} {G H : Hp} {xs : List D} (en : EnvR T X.K f Γ σ G H) (h : Γ[n]? = some (.own xs)) (ho : ∀ j ys, j ≠ n → Γ[j]? ≠ some (.own ys)) : ∃ G', Evl.Ex G G' ∧ EnvR T X.K f (Γ.set n (.dat (.list xs))) σ G' H := by
  obtain ⟨p, vs, e1, e2, e3, e4, e5⟩ := en.own h
  have gx : Evl.Ex G (upd G p (.lst vs)) := Evl.Ex.new e2
  have st : Stp T f.G0 f.H0 (upd G p (.lst vs)) H := by
    refine ⟨en.st.le, en.st.g.trans gx, fun b o e => ?_, fun b o h1 h2 h3 => ?_⟩
    · by_cases hb : b = p
      · subst hb
        rw [upd_same] at e
        cases e
        exact ⟨e4, nt_lst⟩
      · rw [upd_ne hb] at e
        exact en.sub b o e
    · rw [upd_ne (fr_ne h2 h3 e3)]
      exact en.st.n b o h1 h2 h3
  have hl : n < Γ.length := (List.getElem?_eq_some_iff.mp h).1
  refine ⟨_, gx, st, fun j sl e => ?_, by rw [List.length_set]; exact en.ln⟩
  by_cases hj : n = j
  · subst hj
    rw [List.getElem?_set_self hl] at e
    cases e
    exact ⟨_, e1, _, rfl, .lst (.of upd_same) (dpa_mono gx _ _ e5)⟩
  · rw [List.getElem?_set_ne hj] at e
    obtain ⟨w, w1, w2⟩ := en.sl j sl e
    refine ⟨w, w1, ?_⟩
    cases sl with
    | dat d =>
      obtain ⟨v, a1, a2⟩ := w2
      exact ⟨v, a1, dp_mono gx _ _ a2⟩
    | raw v => exact w2
    | obj a o => exact w2
    | own ys => exact absurd e (ho j ys (Ne.symm hj))
    | dct kvs =>
      obtain ⟨q, a1, a2, a3, a4⟩ := w2
      have hq : q ≠ p := fun z => by
        rw [z, e4] at a4
        cases a4
      exact ⟨q, a1, by rw [upd_ne hq]; exact a2, a3, a4⟩
    | gen g => exact g.frz e2 e4 w2
    | no => trivial
theorem wr_frz {xs : List D} (h : Γ[n]? = some (.own xs)) (ho : ∀ j ys, j ≠ n → Γ[j]? ≠ some (.own ys)) (kk : WR T X f (Γ.set n (.dat (.list xs))) sts PR) : WR T X f Γ sts PR := ⟨fun pins s σ G H I en => by
  obtain ⟨G', _, en'⟩ := env_frz en h ho
  exact kk.run pins s σ G' H I en'⟩
/-- a, b = x, y -/
theorem ws_parW {i j : Nat} {Q1 Q2 : D → Prop} {x1 x2 : Str} {pt pt2 : Pos} {kt k2 : Nat} (B : X.calm = true) (hN : X.N.Nodup) (ha : WE T X f Γ a Q1) (hb : WE T X f Γ b Q2) (kk : ∀ d1 d2, Q1 d1 → Q2 d2 → N ((Γ.set i (.dat d1)).set j (.dat d2)))
    (hij : i ≠ j) (hil : i < Γ.length) (hjl : j < Γ.length) (hi : X.N[i]? = some x1 := by rfl) (hj : X.N[j]? = some x2 := by rfl) (hx : X.env.scope.names.lookup x1 = some .local := by rfl) (hy : X.env.scope.names.lookup x2 = some .local := by rfl)
    (hw : swappedStores [.Tuple [.Name x1 p1, .Name x2 p2] kt pt] (.Tuple [a, b] k2 pt2) X.env = pure (some [x1, x2]) := by rfl)
    (hs : swapsWithSole [.Tuple [.Name x1 p1, .Name x2 p2] kt pt] (.Tuple [a, b] k2 pt2) pos.line X.env = pure false := by rfl) (s1 : starEach [a, b] X.env = (false, eval a X.env) :: starEach [b] X.env := by rfl) (s2 : starEach [b] X.env = (false, eval b X.env) :: starEach [] X.env := by rfl) :
    WS T X f Γ (.Assign [.Tuple [.Name x1 p1, .Name x2 p2] kt pt] (.Tuple [a, b] k2 pt2) pos) N Rt :=
  .of (ps_par B hN hi hj hij hx hy (wd_cons (Q := fun ds => ∃ d1 d2, ds = [d1, d2] ∧ Q1 d1 ∧ Q2 d2) ha (wd_cons (Q := fun ds => ∃ d2, ds = [d2] ∧ Q2 d2) hb (wd_nil (Q := fun z => z = []) rfl) (fun d ds q e => ⟨d, by rw [e], q⟩) s2) (fun d ds q ⟨d2, e, q2⟩ => ⟨d, d2, by rw [e], q, q2⟩) s1) hw hs) fun σ G H E en w => ⟨G, en, fun vs ds G' H' st dp q => by
    obtain ⟨d1, d2, rfl, q1, q2⟩ := q
    obtain ⟨v1, v2, rfl, p1, p2⟩ := dpa_2 dp
    exact ⟨v1, v2, rfl, w.nx _ _ G' H' (((en.step st).set (s := .dat d1) ⟨v1, rfl, p1⟩ hil).set (s := .dat d2) ⟨v2, rfl, p2⟩ (by rw [List.length_set]; exact hjl)) st.g (kk d1 d2 q1 q2)⟩⟩
/-! ### len(x), x an instance -/
def rLenO (C : Addr) (sp : Sp) (E : XK) : List V → Hp → VK → Prop := fun xs H Q => ∃ p dx fs, xs = [.ref p] ∧ H p = some (.ins C dx fs) ∧ sp [.ref p] H (fun v H' => ∃ n : Nat, v = .int (n : Int) ∧ n < 2 ^ 62 ∧ Q (.int (n : Int)) H') E
theorem call_lenO {fa : Addr} {fd : FuncData} {ps : List Str} {sp : Sp} {E : XK} (hm : Meth X.K C "__len__" fa) (F : FnOk X.prog X.w X.K X.mg X.base (L2N.CX X.prog X.w) k fa fd ps sp) (bi : Binds X.K fd ps []) (hr : Room (k + 1) X.A) (hx : Passes (L2N.CX X.prog X.w) X E) : CallR X (.builtin "len") (rLenO C sp E) := by
  intro pins s σ H xs us Q I r h
  obtain ⟨p, dx, fs, rfl, hp, q⟩ := h
  obtain ⟨u, rfl, ru⟩ := r.one
  cases (show u = Value.ref p from ru)
  obtain ⟨mA, O, _, _, _, _⟩ := ins_get I.hok hp
  obtain ⟨od, J, _⟩ := O.look
  obtain ⟨mm, hF⟩ := I.fr
  refine PySem.W.len_K hF I.ok.mod.kin J hm.at_ hm.fn ?_
  have hl : ([Value.ref p] : List Value).length = ps.length := by
    have := F.len _ _ _ _ q
    exact this
  refine wpAny_call (codeAny_mono (F.run X.A.in1 X.stack s H ⟨[.ref p], []⟩ [.ref p] [.ref p] _ E hr.in1 I.env0.in1 (by have z := bi s [.ref p] I.kIn (by rw [List.append_nil]; exact hl); rw [List.append_nil] at z; exact z) (.cons rfl .nil) q) fun r s' hq => ?_)
  cases r with
  | error e => exact hx pins σ H s e s' I hq
  | ok fl =>
    cases fl with
    | next => exact False.elim hq
    | brk => exact False.elim hq
    | cont => exact False.elim hq
    | ret v =>
      obtain ⟨v', H', I', rv, n, e, hn, qq⟩ := I.after hq
      subst e
      obtain ⟨t, rfl⟩ := (show ∃ t, v = Value.int (n : Int) t from rv)
      exact ⟨⟨by omega, by omega⟩, .int (n : Int), H', I'.tok _, ⟨_, rfl⟩, qq⟩
theorem de_lenF {fa : Addr} {fd : FuncData} {ps : List Str} {CT : Ct} {j : Nat} (hm : Meth X.K C "__len__" fa) (F : FnOk X.prog X.w X.K X.mg X.base (L2N.CX X.prog X.w) k fa fd ps (spD T X.K X.mg CT)) (bi : Binds X.K fd ps []) (B : Bd T X f m) (hk : k + 1 ≤ m)
    (hn : Γ[n]? = some (.gen (frG X.K C p z))) (hC : CT [.gen (frG X.K C p z)] (Ret (.ok (.int (j : Int))))) (hj : j < 2 ^ 62) (hml : X.mg "len" = none) (hg : Gl X "len" := by rfl) (hN : X.N[n]? = some y := by rfl) (hv : Vis X.env.scope y := by first | exact Or.inl rfl | exact Or.inr (Or.inl rfl) | exact Or.inr (Or.inr rfl))
    (hs : Sta X (.Name y p1) := by rfl) (hd : (y == ("__debug__" : Str)) = false := by decide) (hcd : (y == ("__classdict__" : Str)) = false := by decide) : DE T X f Γ (.Call (.Name "len" p2) [.Name y p1] [] pos) (.int (j : Int)) :=
  .of (pe_callB (call_lenO (E := E0) hm F bi (B.rm.mono hk) passN) hg hml (by decide +kernel) (pa_cons (pe_var hN hv hd hcd) pa_nil hs) (by decide) (by decide) hs bpl) fun σ G H QQ en w => by
    obtain ⟨e1, g, dx, fs, e2, a⟩ := en.frm hn
    refine ⟨_, e1, p, dx, fs, rfl, e2, G, [.gen (frG X.K C p z)], _, en.sub, ⟨⟨rfl, (en.frm hn).2⟩, trivial⟩, hC, fun d hd v G2 H2 s2 p2 => ?_, fun n hn => by cases hn⟩
    have e : d = .int (j : Int) := Except.ok.inj hd
    subst e
    cases p2
    exact ⟨j, rfl, hj, w _ _ G2 H2 s2 (.int _) rfl⟩
end
end DL
set_option Elab.async false
set_option linter.all false
set_option maxRecDepth 100000
set_option maxHeartbeats 4000000
namespace DL
open PySem PySem.Spec PyProof.Rows L2
section
variable {T : Tb} {X : Cx} {f : Fx} {Γ : List Sl} {c : Nat → Addr} {cR : Addr} {Q : D → Prop} {k m : Nat} {params : Arguments} {body : Expr} {scope : Scope} {p lpos pos : Pos}
/-- _law_told(lambda: body), body raises nothing and may change things -/
theorem pe_toldF {PQ : Hp → Hp → V → Hp → Prop} (O : Told T X.prog X.w X.K X.mg X.base c cR) (B : Bd T X f m) (hkm : k + 2 ≤ m) (LT : LamT T X) (hT : LamX.Tabs T f.H0) (hno : ∀ s ∈ Γ, NoO s) (L : LamX.LamS X.env.scope scope)
    (hbody : ∀ (A : Around) (outer : List Env) (s : Shared) (G H : Hp) (fa c' : Addr), Bd T (lamN T X A outer s H (fun _ => False) scope fa c') ⟨G, H, fun _ => False⟩ k →
      PE (lamN T X A outer s H (fun _ => False) scope fa c') body (fun σ HH QQ => EnvR T X.K ⟨G, H, fun _ => False⟩ Γ σ G HH ∧ HH = H ∧ ∀ v H', PQ G H v H' → QQ v H'))
    (hdef : defaultsOf params X.env = ([], []) := by rfl)
    (hbind : ∀ (q : Str) (cl : List (Str × Addr)) (pm cv ctv : Value), bindArgs (PySem.W.kla_fn "<lambda>" q params body scope cl pm cv ctv) ⟨[], []⟩ = pure [] := by intro _ _ _ _ _; rfl)
    (hg : Gl X "_law_told" := by rfl) : PE X (.Call (.Name "_law_told" p) [.Lambda params body scope lpos] [] pos) (fun σ H QQ => ∃ G, EnvR T X.K f Γ σ G H ∧ ∀ H1, Stp T G H G H1 → ∀ v H', PQ G H1 v H' → QQ v H') := by
  refine ⟨fun pins s σ H QW I ⟨G, en, kw⟩ => ?_⟩
  obtain ⟨g, fd, st, F, hm, Sg, ⟨p1, p2, p3, p4, p5, p6, p7, p8, p9, p10, hbd⟩, hb, gR, gT, lE, lD⟩ := O.ex
  obtain ⟨oc, od, kV, doc, pm, an, cdv, ct, osl, rfl, lk, hcg⟩ := F.ex
  obtain ⟨cc, PP, TB, hcode, hmT, hu⟩ := LT
  refine wpAny_Call_Name_kw (ld_glob I hg hm ?_ (by decide))
  refine PySem.W.callWith_K (h₀ := X.base) I.ok.mod.kin F.kp ?_ (by rfl) (by rfl)
  show wpAny _ _ (spliced ((false, eval (.Lambda params body scope lpos) X.env) :: backTo pos (starEach [] X.env))) _ _ s
  refine Calls.spliced_cons (LamX.lam_make2 I TB hcode hmT hu (en.st.le.t hT) hdef (L.has I.ok) fun fl c' pm' ctv H1 s' I1 eN T1 hf hfn hfr hco => ?_)
  refine Calls.spliced_nil ⟨I1.kIn, ?_⟩
  have st1 : Stp T G H G H1 := .keep en.sub ⟨fun b o h n => eN b o h n, fun _ => T1⟩
  have en1 := en.step st1
  have enZ : EnvR T X.K ⟨G, H1, fun _ => False⟩ Γ σ G H1 := ⟨.refl en1.sub, fun i sl e => by
    obtain ⟨w', e1, q⟩ := en1.sl i sl e
    refine ⟨w', e1, ?_⟩
    cases sl with
    | own xs => exact absurd rfl (NoO.ne (hno _ (List.mem_of_getElem? e)) xs)
    | dct xs => exact absurd rfl (NoO.nd (hno _ (List.mem_of_getElem? e)) xs)
    | gen g => exact q
    | dat d => exact q
    | raw d => exact q
    | obj a o => exact q
    | no => trivial, en1.ln⟩
  have rc : codeAny (model X.prog X.w) X.A (.call (.ref g) ⟨[.ref fl], []⟩) (CR (L2N.CX X.prog X.w) X.stack X.prog X.w H1 s' (fun v H' => PQ G H1 v H') (fun _ _ _ => False)) s' := by
    have B3 := B.rm.mono (show k + 2 ≤ m from hkm)
    refine LamX.run_ofS (k := k + 1) (N := ["deed", "e"]) (ps := ["deed"]) (us := [.ref fl]) (vs := [.ref fl]) lk hcg Sg B3 I1.env0 (hb s' [.ref fl] I1.kIn rfl) (.cons rfl .nil) rfl fun hr' => ?_
    rw [hbd]
    have act : ∀ (pn : List (Addr × Obj)) (xe : Value → Shared → Prop) (W : WX), L2N.Takes ((cxOf (L2N.CX X.prog X.w) X.prog X.w X.K X.mg X.base ["deed", "e"] "_law_told" (defScope st) g cdv X.A X.stack s' H1 (fun _ _ _ => False)).tr pn xe) W →
        PE ((cxOf (L2N.CX X.prog X.w) X.prog X.w X.K X.mg X.base ["deed", "e"] "_law_told" (defScope st) g cdv X.A X.stack s' H1 (fun _ _ _ => False)).tr pn xe) (.Call (.Name "deed" p1) [] [] p2)
          (fun σZ HZ QQ => σZ[0]? = some (some (.ref fl)) ∧ HZ = H1 ∧ (∀ cls d σ' H', ER T X.mg H1 (fun _ => False) cls d H' → W cls d σ' H') ∧ ∀ v H', PQ G H1 v H' → QQ v H') := fun pn xe W tk => by
      refine ⟨fun pinsZ sZ σZ HZ QQ IZ h => ?_⟩
      obtain ⟨hs, eHZ, hW, hQ⟩ := h
      rw [eHZ] at IZ
      refine wpAny_Call_Name_kw (thn ((pe_var (pos := p1) (i := 0) rfl (.inl lD)).run pinsZ sZ σZ H1 (fun v H' => v = .ref fl ∧ H' = H1) IZ ⟨.ref fl, hs, rfl, rfl⟩) fun u s1 ⟨v, H2, J1, r1, ev, eH⟩ => ?_)
      subst ev
      rw [eH] at J1
      obtain rfl : u = Value.ref fl := r1
      have of1 := J1.base.keep fl _ hf hfn hfr (fun z => nomatch (show fl ∈ ([] : List Addr) from z))
      refine PySem.W.callWith_F0 ⟨_, _, _, _, of1⟩ ?_
      have un : Un (frs X.stack) [] H1 H1 s'.heap s1.heap := J1.base
      obtain ⟨⟨oc2, vs2, t2, hoc, hdc, hvc⟩, _, _⟩ := J1.hok c' _ hco
      have rl : codeAny (model X.prog X.w) (X.A.deeper (envOfC "_law_told" (defScope st) s'.heap.objs.size g cdv)) (.call (.ref fl) ⟨[], []⟩)
          (CR (L2N.CX X.prog X.w) (envOfC "_law_told" (defScope st) s'.heap.objs.size g cdv :: X.stack) X.prog X.w H1 s1 QQ (ER T X.mg H1 (fun _ => False))) s1 := by
        refine PySem.W.kla_callFunE hr'.depth of1 rfl L.co L.gen rfl ⟨c', oc2, vs2, t2, rfl, hoc, hdc, hvc⟩ ?_
        rw [hbind]
        refine wpAny_pure (wpAny_newFunctionEnv (fun y hy => (L.own y hy).2) (fun y hy => absurd hy (by simp)) (fun h₁ hns hsb => ⟨J1.nolimit.fresh _ hsb, ?_⟩) L.kind)
        show codeAny _ _ (.expr body (LamX.lamEnv X scope s1.heap.objs.size fl c')) _ _
        have kp : ∀ b o, s1.heap.get? b = some o → h₁.get? b = some o := fun b o e =>
          hsb.extBut b o (Nat.ne_of_lt (Heap.lt_size e)) (Heap.get?_push_of_some _ e)
        have J : Inv (lamN T X (X.A.deeper (envOfC "_law_told" (defScope st) s'.heap.objs.size g cdv)) (envOfC "_law_told" (defScope st) s'.heap.objs.size g cdv :: X.stack) s1 H1 (fun _ => False) scope fl c') [] σ H1 { s1 with heap := h₁, toks := s1.toks + ([] : List (Str × Value)).length } :=
          (LamX.lam_start2 I1 L J1.env0 hr'.hd un hns kp).wish _
        have Bl : Bd T (lamN T X (X.A.deeper (envOfC "_law_told" (defScope st) s'.heap.objs.size g cdv)) (envOfC "_law_told" (defScope st) s'.heap.objs.size g cdv :: X.stack) s1 H1 (fun _ => False) scope fl c') ⟨G, H1, fun _ => False⟩ k :=
          ⟨L2N.takes_of (E := ER T X.mg H1 (fun _ => False)) rfl rfl rfl rfl, PassesOwn.leaving, hr'.deeper _, rfl⟩
        refine PySem.W.kla_codeExpr (wpAny_mono ((hbody _ _ s1 G H1 fl c' Bl).run [] _ σ H1 QQ J ⟨enZ, rfl, hQ⟩) (fun v s2 hq => ?_) fun e s2 hq => hq)
        obtain ⟨w', H', J', rv, q⟩ := hq
        exact ⟨w', H', J'.os, J'.bare, J'.base, J'.hok, rv, q⟩
      refine wpAny_call (codeAny_mono rl fun r s2 hq => ?_)
      cases r with
      | error e => exact L2N.passes_call (E := ER T X.mg H1 (fun _ => False)) tk hW pinsZ σZ H1 s1 e s2 J1 hq
      | ok w2 =>
        cases w2 with
        | ret u => exact J1.after hq
        | next => exact False.elim hq
        | brk => exact False.elim hq
        | cont => exact False.elim hq
    refine ⟨_, pss_one (L2N.ps_try_as (c := .ref cR) (i := 1) (Wout := fun _ _ _ _ => False) (tb := fun W D σZ HZ => σZ[0]? = some (some (.ref fl)) ∧ HZ = H1 ∧ (∀ cls d σ' H', ER T X.mg H1 (fun _ => False) cls d H' → W cls d σ' H') ∧ ∀ v H', PQ G H1 v H' → D.rt v H')
      (ts := fun a cls d D σ2 H2 => False)
      rfl rfl Sg.nd rfl lE ⟨gR, by decide, .inl O.er.r⟩ tkF (fun W pn xe tk _ => ?_) (fun a oe cls d pn hz hfv => ⟨fun _ _ _ _ _ _ z => z.elim⟩)), ?_⟩
    · exact ⟨fun pinsZ sZ σZ HZ D IZ h => (pss_one (ps_ret (pos := p3) (act pn xe W tk))).run pinsZ sZ σZ HZ D IZ h⟩
    · refine ⟨rfl, rfl, fun cls d σ' H' er => ?_, fun v H' q => q⟩
      obtain ⟨_, _, _, _, z, _⟩ := er
      exact z.elim
  refine wpAny_call (codeAny_mono rc fun r s2 hq => ?_)
  cases r with
  | error e =>
    obtain ⟨_, _, _, _, _, _, _, _, _, _, _, _, z⟩ := hq
    exact z.elim
  | ok w2 =>
    cases w2 with
    | ret u =>
      obtain ⟨v, H', I', rv, q⟩ := I1.after hq
      exact ⟨v, H', I', rv, kw H1 st1 v H' q⟩
    | next => exact False.elim hq
    | brk => exact False.elim hq
    | cont => exact False.elim hq
/-- a method that changes the thing, in such a lambda -/
theorem pe_methF {Y : Cx} {fa : Addr} {fd : FuncData} {ps : List Str} {CF : Addr → FS → List Sl → (D → FS → Prop) → Prop} {S : D → FS → Prop} {mn y : Str} {C pp : Addr} {z : FS} {G H : Hp} {R : Str → Prop} {e : Expr} {es : List Expr} {as : List Sl} {n : Nat} {p1 apos : Pos} (cl : Cls Y.K C) (hm : Meth Y.K C mn fa) (F : FnOk Y.prog Y.w Y.K Y.mg Y.base (L2N.CX Y.prog Y.w) k fa fd ps (spF T Y.K C CF)) (bi : Binds Y.K fd ps []) (hr : Room m Y.A) (hk : k ≤ m)
    (hn : Γ[n]? = some (.gen (frG Y.K C pp z))) (ha : WA T Y ⟨G, H, R⟩ Γ (e :: es) fun w => w = as) (hC : CF pp z (.gen (frG Y.K C pp z) :: as) S) (hlk : z.lookup mn = none) (hN : Y.N[n]? = some y := by rfl) (hv : Vis Y.env.scope y := by first | exact Or.inl rfl | exact Or.inr (Or.inl rfl) | exact Or.inr (Or.inr rfl))
    (hst : starEach (e :: es) Y.env = (false, eval e Y.env) :: starEach es Y.env := by rfl) (hpl : (backTo pos (starEach es Y.env)).any (·.1) = false := by rfl) {pl : Sem Bool}
    (ht : eval (.Call (.Attribute (.Name y p1) mn apos) (e :: es) [] pos) Y.env = (do
      let ov ← eval (.Name y p1) Y.env
      standAt apos.atName
      let (f, first) ← holding [ov] (getMethod ov mn pl)
      callWith pos f first (backTo pos (starEach (e :: es) Y.env)) (backToKw pos (keywordEach [] Y.env))) := by rfl) (hd : (y == ("__debug__" : Str)) = false := by decide) (hcd : (y == ("__classdict__" : Str)) = false := by decide) :
    PE Y (.Call (.Attribute (.Name y p1) mn apos) (e :: es) [] pos) (fun σ HH QQ => EnvR T Y.K ⟨G, H, R⟩ Γ σ G HH ∧ HH = H ∧ ∀ v H', PRF T Y.K C pp S G (cut H pp) v H' → QQ v H') := by
  refine ⟨fun pins s σ HH QQ I ⟨en, eH, kw⟩ => ?_⟩
  subst eH
  obtain ⟨e1, g, dx, fs, e2, a⟩ := en.frm hn
  refine (pe_meth (CX := L2N.CX Y.prog Y.w) (E := E0) (pe_var hN hv hd hcd) cl hm F (hr.mono hk) bi .nil passN ha hst hpl ht).run pins s σ HH QQ I ⟨_, e1, pp, dx, fs, rfl, e2, a.no hlk, G, en, fun vs as' G' H' st ar q => ?_⟩
  subst q
  refine ⟨G', pp, z, .gen (frG Y.K C pp z) :: as', S, st.s, ((en.step st).frm hn).2, ⟨⟨rfl, ((en.step st).frm hn).2⟩, by rw [List.append_nil]; exact ar⟩, hC, fun v H2 ⟨d, z', G2, q1, s2, fr, dp⟩ => kw v H2 ⟨d, z', G2, q1, ?_, fr, dp⟩⟩
  have l1 : ∀ b o, cut HH pp b = some o → NT o → cut H' pp b = some o := fun b o eb nt => by
    obtain ⟨q1, q2⟩ := cut_of eb
    rw [cut_ne q2]
    exact st.le.h b o q1 nt
  refine ⟨⟨fun b o eb nt => s2.le.h b o (l1 b o eb nt) nt, fun t => s2.le.t (tabs_cut (st.le.h _ _ e2 nt_ins) (st.le.t (t.ext fun b o e => (cut_of e).1)))⟩, st.g.trans s2.g, s2.s, fun b o q1 q2 q3 => ?_⟩
  exact s2.n b o (st.n b o q1 (cut_of q2).1 q3) (l1 b o q2 q3) q3
theorem pe_methF0 {Y : Cx} {fa : Addr} {fd : FuncData} {ps : List Str} {CF : Addr → FS → List Sl → (D → FS → Prop) → Prop} {S : D → FS → Prop} {mn y : Str} {C pp : Addr} {z : FS} {G H : Hp} {R : Str → Prop} {n : Nat} {p1 apos : Pos} (cl : Cls Y.K C) (hm : Meth Y.K C mn fa) (F : FnOk Y.prog Y.w Y.K Y.mg Y.base (L2N.CX Y.prog Y.w) k fa fd ps (spF T Y.K C CF)) (bi : Binds Y.K fd ps []) (hr : Room m Y.A) (hk : k ≤ m)
    (hn : Γ[n]? = some (.gen (frG Y.K C pp z))) (hC : CF pp z [.gen (frG Y.K C pp z)] S) (hlk : z.lookup mn = none) (hN : Y.N[n]? = some y := by rfl) (hv : Vis Y.env.scope y := by first | exact Or.inl rfl | exact Or.inr (Or.inl rfl) | exact Or.inr (Or.inr rfl)) {pl : Sem Bool}
    (ht : eval (.Call (.Attribute (.Name y p1) mn apos) [] [] pos) Y.env = (do
      let ov ← eval (.Name y p1) Y.env
      standAt apos.atName
      let (f, first) ← holding [ov] (getMethod ov mn pl)
      callWith pos f first (backTo pos (starEach [] Y.env)) (backToKw pos (keywordEach [] Y.env))) := by rfl) (hd : (y == ("__debug__" : Str)) = false := by decide) (hcd : (y == ("__classdict__" : Str)) = false := by decide) :
    PE Y (.Call (.Attribute (.Name y p1) mn apos) [] [] pos) (fun σ HH QQ => EnvR T Y.K ⟨G, H, R⟩ Γ σ G HH ∧ HH = H ∧ ∀ v H', PRF T Y.K C pp S G (cut H pp) v H' → QQ v H') := by
  refine ⟨fun pins s σ HH QQ I ⟨en, eH, kw⟩ => ?_⟩
  subst eH
  obtain ⟨e1, g, dx, fs, e2, a⟩ := en.frm hn
  exact (pe_meth0 (CX := L2N.CX Y.prog Y.w) (E := E0) (pe_var hN hv hd hcd) cl hm F (hr.mono hk) bi .nil passN ht).run pins s σ HH QQ I ⟨_, e1, pp, dx, fs, rfl, e2, a.no hlk, G, pp, z, [.gen (frG Y.K C pp z)], S, en.sub, (en.frm hn).2, ⟨⟨rfl, (en.frm hn).2⟩, trivial⟩, hC, kw⟩
end
end DL
set_option Elab.async false
set_option linter.all false
set_option maxRecDepth 100000
set_option maxHeartbeats 1000000
namespace KR
open PySem DL L2
/-! ### the mirror: frames -/
def F3 (a b c : D) : FS := [("now", a), ("earlier", b), ("undone", c)]
theorem put_now (d a b c : D) : putD "now" d (F3 a b c) = F3 d b c := by
  unfold F3 putD
  rw [if_pos rfl]
theorem put_ea (d a b c : D) : putD "earlier" d (F3 a b c) = F3 a d c := by
  unfold F3 putD
  rw [if_neg (by decide +kernel)]
  unfold putD
  rw [if_pos rfl]
theorem put_un (d a b c : D) : putD "undone" d (F3 a b c) = F3 a b d := by
  unfold F3 putD
  rw [if_neg (by decide +kernel)]
  unfold putD
  rw [if_neg (by decide +kernel)]
  unfold putD
  rw [if_pos rfl]
theorem put_0 (d : D) : putD "now" d [] = [(("now" : Str), d)] := rfl
theorem put_1 (a d : D) : putD "earlier" d [(("now" : Str), a)] = [(("now" : Str), a), (("earlier" : Str), d)] := by
  unfold putD
  rw [if_neg (by decide +kernel)]
  rfl
theorem put_2 (a b d : D) : putD "undone" d [(("now" : Str), a), (("earlier" : Str), b)] = F3 a b d := by
  unfold putD
  rw [if_neg (by decide +kernel)]
  unfold putD
  rw [if_neg (by decide +kernel)]
  rfl
theorem look_now (a b c : D) : (F3 a b c).lookup ("now" : Str) = some a := by
  unfold F3
  rw [List.lookup_cons, show (("now" : Str) == "now") = true by decide +kernel]
theorem look_ea (a b c : D) : (F3 a b c).lookup ("earlier" : Str) = some b := by
  unfold F3
  rw [List.lookup_cons, show (("earlier" : Str) == "now") = false by decide +kernel]
  show List.lookup _ _ = _
  rw [List.lookup_cons, show (("earlier" : Str) == "earlier") = true by decide +kernel]
theorem look_un (a b c : D) : (F3 a b c).lookup ("undone" : Str) = some c := by
  unfold F3
  rw [List.lookup_cons, show (("undone" : Str) == "now") = false by decide +kernel]
  show List.lookup _ _ = _
  rw [List.lookup_cons, show (("undone" : Str) == "earlier") = false by decide +kernel]
  show List.lookup _ _ = _
  rw [List.lookup_cons, show (("undone" : Str) == "undone") = true by decide +kernel]
theorem look_no {x : Str} (a b c : D) (h1 : (x == "now") = false) (h2 : (x == "earlier") = false) (h3 : (x == "undone") = false) : (F3 a b c).lookup x = none := by
  unfold F3
  rw [List.lookup_cons, h1]
  show List.lookup _ _ = _
  rw [List.lookup_cons, h2]
  show List.lookup _ _ = _
  rw [List.lookup_cons, h3]
  rfl
def fr (t : Tr) (ea un : List Tr) : FS := F3 (trD t) (.list (trL ea)) (.list (trL un))
def fr0 (d : D) : FS := F3 d (.list []) (.list [])
def l3 (t : Tr) : List Int := [t.1, t.2.1, t.2.2]
def chL (t : Tr) (m : Nat) (n : Int) : List Int := sortI ((l3 t).set m ((l3 t).getD m 0 + n))
def chT (t : Tr) (m : Nat) (n : Int) : D := .tuple (iL (chL t m n))
theorem shpL (ts : List Tr) : Shp 2 (.list (trL ts)) := shp_list fun x hx => by
  obtain ⟨t, _, rfl⟩ := List.mem_map.mp hx
  exact shp_tupI [t.1, t.2.1, t.2.2]
theorem trL_l (ts : List Tr) : (trL ts).length = ts.length := List.length_map ..
theorem eqv_nil (ts : List Tr) : PyData.eqv (.list (trL ts)) (.list []) = decide (ts = []) := by
  cases ts with
  | nil => rfl
  | cons t r => rfl
theorem atI_lst (ts : List Tr) (t : Tr) : L2.atI (trL (ts ++ [t])) (-1) = some (trD t) := by
  rw [trL_app]
  exact L2.atI_last _ _
theorem cut_lst (ts : List Tr) (t : Tr) : cutD (trL (ts ++ [t])) none (some (-1)) = trL ts := by
  unfold cutD
  rw [trL_app]
  have e1 : HT.sIx (trL ts ++ trL [t]).length 0 none = 0 := rfl
  have e2 : HT.sIx (trL ts ++ trL [t]).length (trL ts ++ trL [t]).length (some (-1)) = (trL ts).length := by
    have e3 : (trL ts ++ trL [t]).length = (trL ts).length + 1 := by
      rw [List.length_append]
      rfl
    rw [e3]
    show (-1 + (((trL ts).length + 1 : Nat) : Int)).toNat = _
    omega
  rw [e1, e2, List.drop_zero, Nat.sub_zero, List.take_left]
theorem getI {t : Tr} {m : Nat} (h : m < 3) : L2.atI (iL (l3 t)) (m : Int) = some (.int ((l3 t).getD m 0)) := by
  have e : (iL (l3 t))[m]? = some (.int ((l3 t).getD m 0)) := by
    rcases (show m = 0 ∨ m = 1 ∨ m = 2 by omega) with rfl | rfl | rfl <;> rfl
  exact atI_nat e
theorem iL_set (ns : List Int) (m : Nat) (v : Int) : (iL ns).set m (.int v) = iL (ns.set m v) := by
  unfold iL
  rw [List.map_set]
theorem tri_fit {t : Tr} {m : Nat} {n : Int} (h : isTriD (chT t m n) = true) : ∃ t', chT t m n = trD t' ∧ Tri t'.1 t'.2.1 t'.2.2 := by
  obtain ⟨a, b, c, e, ht⟩ := isTri_shape h
  exact ⟨(a, b, c), e, ht⟩
def cChX (K : PySem.W.Frag) (C : Addr) : Ct := fun as S => ∃ p t ea un pl nu, as = [.gen (frG K C p (fr t ea un)), .dat pl, .dat nu] ∧ ((isWhole pl 0 2 = false ∧ S = Ret (.error "InvalidPlace")) ∨ (isWhole pl 0 2 = true ∧ isWhole nu (-9) 9 = false ∧ S = Ret (.error "InvalidNumber")) ∨
  (∃ (m : Nat) (n : Int), m < 3 ∧ -9 ≤ n ∧ n ≤ 9 ∧ pl = .int (m : Int) ∧ nu = .int n ∧ isTriD (chT t m n) = false ∧ S = Ret (.error "NoTriangle")))
def cCh (K : PySem.W.Frag) (C : Addr) : Addr → FS → List Sl → (D → FS → Prop) → Prop := fun p z as S => ∃ (t : Tr) (ea un : List Tr) (m : Nat) (n : Int) (t' : Tr), ea.length ≤ 900 ∧ m < 3 ∧ -9 ≤ n ∧ n ≤ 9 ∧ chT t m n = trD t' ∧ isTriD (trD t') = true ∧ z = fr t ea un ∧ as = [.gen (frG K C p (fr t ea un)), .dat (.int (m : Int)), .dat (.int n)] ∧ S = fun d z' => d = trD t' ∧ z' = fr t' (ea ++ [t]) []
def cUnX (K : PySem.W.Frag) (C : Addr) : Ct := fun as S => ∃ p t un, as = [.gen (frG K C p (fr t [] un))] ∧ S = Ret (.error "NothingToUndo")
def cReX (K : PySem.W.Frag) (C : Addr) : Ct := fun as S => ∃ p t ea, as = [.gen (frG K C p (fr t ea []))] ∧ S = Ret (.error "NothingToUndo")
def cUn (K : PySem.W.Frag) (C : Addr) : Addr → FS → List Sl → (D → FS → Prop) → Prop := fun p z as S => ∃ (t : Tr) (ea un : List Tr) (t' : Tr), ea.length ≤ 900 ∧ un.length ≤ 900 ∧ z = fr t (ea ++ [t']) un ∧ as = [.gen (frG K C p (fr t (ea ++ [t']) un))] ∧ S = fun d z' => d = trD t' ∧ z' = fr t' ea (un ++ [t])
def cRe (K : PySem.W.Frag) (C : Addr) : Addr → FS → List Sl → (D → FS → Prop) → Prop := fun p z as S => ∃ (t : Tr) (ea un : List Tr) (t' : Tr), ea.length ≤ 900 ∧ un.length ≤ 900 ∧ z = fr t ea (un ++ [t']) ∧ as = [.gen (frG K C p (fr t ea (un ++ [t'])))] ∧ S = fun d z' => d = trD t' ∧ z' = fr t' (ea ++ [t]) un
def cTriM (K : PySem.W.Frag) (C : Addr) : Ct := fun as S => ∃ p t ea un, as = [.gen (frG K C p (fr t ea un))] ∧ S = Ret (.ok (trD t))
def cLenM (K : PySem.W.Frag) (C : Addr) : Ct := fun as S => ∃ p t ea un, as = [.gen (frG K C p (fr t ea un))] ∧ S = Ret (.ok (.int (ea.length : Int)))
/-- the class -/
structure FrC (K : PySem.W.Frag) (C : Addr) : Prop where
  c : Cls K C
  n1 : NoAttr K C "now"
  n2 : NoAttr K C "earlier"
  n3 : NoAttr K C "undone"
def clsS (st : Stmt) (i : Nat) : Stmt := match st with
  | .ClassDef _ _ _ body _ _ _ _ _ _ _ => body.getD i (.Pass ⟨0, 0, 0, 0⟩)
  | _ => .Pass ⟨0, 0, 0, 0⟩
theorem oneF0 {g : GSl} {r : List Sl} (h : ∀ s ∈ r, ∀ g', s ≠ .gen g') : OneF (.gen g :: r) 0 := fun j s hj e g' => by
  cases j with
  | zero => exact absurd rfl hj
  | succ j => exact h s (List.mem_of_getElem? (by simpa using e)) g'
theorem ng_nil : ∀ s ∈ ([] : List Sl), ∀ g', s ≠ .gen g' := fun _ h => nomatch h
theorem ng_cons {a : Sl} {r : List Sl} (h1 : ∀ g', a ≠ .gen g') (h2 : ∀ s ∈ r, ∀ g', s ≠ .gen g') : ∀ s ∈ a :: r, ∀ g', s ≠ .gen g' := fun s h => by
  rcases List.mem_cons.mp h with e | e
  · rw [e]
    exact h1
  · exact h2 s e
theorem ng_dat {d : D} : ∀ g', Sl.dat d ≠ .gen g' := fun _ h => nomatch h
theorem ng_no : ∀ g', Sl.no ≠ .gen g' := fun _ h => nomatch h
theorem ng_obj {a : Addr} {o : HO} : ∀ g', Sl.obj a o ≠ .gen g' := fun _ h => nomatch h
theorem ng_own {xs : List D} : ∀ g', Sl.own xs ≠ .gen g' := fun _ h => nomatch h
end KR
set_option Elab.async false
set_option linter.all false
set_option maxRecDepth 100000
set_option maxHeartbeats 4000000
/-! enumerate over a tuple -/
namespace PySem
open Sem (wp)
set_option maxHeartbeats 1000000 in
theorem dl_enum_new {v : Value} {o : Obj} {H : Heap → Prop} (B : Begins v o H) :
    Meets (Builtin.«enumerate.__new__» ⟨[.type "enumerate", v], []⟩) (fun _ R s => H s.heap ∧
      R (.ok (.ret (.ref (s.heap.push o).objs.size))) { s with heap := (s.heap.push o).push { cls := .type "enumerate", data := .fields #[.none, .bool false, .ref s.heap.objs.size, rawInt 0, .none, .none] } }) :=
  .of_wp fun prog w A R s h => by
    obtain ⟨hp, g, d, tk, os⟩ := s; obtain ⟨h1, h⟩ := h
    have hsub := sub_enumerate
    have q1 : ∀ {A' : Around} {E : Value → Shared → Prop} {Q : Value → Shared → Prop}, Q (.ref hp.objs.size) ⟨hp.push o, g, d, tk, os⟩ → wpAny (model prog w) A' (pyIter v) Q E ⟨hp, g, d, tk, os⟩ :=
      fun q => B.iter prog w _ _ ⟨hp, g, d, tk, os⟩ _ h1 q
    wp_walk using q1
    refine wpAny_stack_any fun st => wpAny_pure ?_
    split
    · rename_i c _ _ _ _ _
      cases (c == Value.type "enumerate")
      · wp_walk using q1
        exact ⟨_, rfl, h⟩
      · wp_walk using q1
        exact ⟨_, rfl, h⟩
    · wp_walk using q1
      exact ⟨_, rfl, h⟩
theorem dl_enum_begins {prog : Program} {w : World} {A : Around} {E : Value → Shared → Prop} {s : Shared} {v : Value} {o : Obj} {H : Heap → Prop} {Q : Value → Shared → Prop} (B : Begins v o H) (h1 : H s.heap)
    (h : ∀ h', IsEnum h' (s.heap.objs.size + 1) s.heap.objs.size 0 .none → h'.get? s.heap.objs.size = some o → h'.objs.size = s.heap.objs.size + 2 →
      (∀ b o, s.heap.get? b = some o → h'.get? b = some o) → Q (.ref (s.heap.objs.size + 1)) { s with heap := h' }) :
    wpAny (model prog w) A (call (.type "enumerate") [v]) Q E s := by
  refine callType_new F.called_enumerate (by decide) (F.typeCall_enumerate_1 _) (F.newCall_enumerate_1 _) (fun obj => F.args_object_init_2 obj _) F.entry_enumerate_new
    (dl_enum_new B) ⟨h1, ?_⟩
  have hz : (s.heap.push o).objs.size = s.heap.objs.size + 1 := Heap.size_push ..
  show _ ∧ _
  rw [hz]
  have he : IsEnum ((s.heap.push o).push { cls := .type "enumerate", data := .fields #[.none, .bool false, .ref s.heap.objs.size, rawInt 0, .none, .none] }) (s.heap.objs.size + 1) s.heap.objs.size 0 .none := by
    have := Heap.get?_push_size (s.heap.push o) (o := { cls := .type "enumerate", data := .fields #[.none, .bool false, .ref s.heap.objs.size, rawInt 0, .none, .none] }) rfl
    rw [hz] at this; exact this
  refine ⟨⟨_, he, rfl⟩, h _ he (Heap.get?_push_of_some _ (Heap.get?_push_size _ B.free)) (by rw [Heap.size_push, hz]) fun b o x => Heap.get?_push_of_some _ (Heap.get?_push_of_some _ x)⟩
end PySem
namespace DL
open PySem PySem.Spec PyProof.Rows L2
def IteT (K : PySem.W.Frag) (a : Addr) : It :=
  ⟨fun i H => ∃ (xs : List V) (x : V), SqT K H a xs ∧ xs[i]? = some x, fun i H v H' => ∃ T x, v = .ref T ∧ H T = none ∧ H' = upd H T (.tup [.int (i : Nat), x]) ∧ ∀ xs, SqT K H a xs → xs[i]? = some x, fun i H => ∃ xs : List V, SqT K H a xs ∧ xs.length ≤ i⟩
theorem turn_enumT {P : Program} {w : World} {K : PySem.W.Frag} {elts : List Expr} {kk : Nat} {tpos : Pos} (a e it : Addr) (hat : a ≠ it) (hae : a ≠ e) :
    Turn P w K (.Tuple elts kk tpos) (IteT K a) [e, it] e (fun i h => (∃ old, IsEnum h e it ((i : Nat) : Int) old) ∧ h.IsTupleIter it a i ∧ e ≠ it) where
  mem := by simp
  obj := fun i h st b hb => by
    obtain ⟨⟨old, he⟩, ⟨o, ho, hc, hd⟩, _⟩ := st
    have e' : b = e ∨ b = it := by simpa using hb
    rcases e' with z | z
    · rw [z]; exact ⟨_, he, fun v q => nomatch q⟩
    · rw [z]; exact ⟨o, ho, fun v q => by rw [hd] at q; cases q⟩
  keep := fun i h h' st k => let ⟨⟨old, he⟩, hi, hne⟩ := st; ⟨⟨old, k e (by simp) _ he⟩, hi.at fun o q => k it (by simp) o q, hne⟩
  item := by
    intro X hP hw hK hc i pins s σ H E I hf st hg
    subst hP hw hK
    obtain ⟨⟨old, he⟩, hit, hne⟩ := st
    obtain ⟨xs, x, hq, hx⟩ := hg
    obtain ⟨its, rv, p, hz⟩ := I.tuple hq
    obtain ⟨u, hu, ru⟩ := rv.get hx
    have hel : e < s.heap.objs.size := Heap.lt_size he
    have hil : it < s.heap.objs.size := by obtain ⟨_, q, _⟩ := hit; exact Heap.lt_size q
    have hil2 : i < its.toArray.size := by
      have := (List.getElem?_eq_some_iff.mp hu).1
      simpa using this
    have hT0 : s.heap.IsTuple a its.toArray := p
    refine wpAny_pyNext_enum_itemD (Draws.tuple (A := X.A.in1) (show X.A.in1.handled = none from I.ok.hd hc) it a hat its.toArray) he ⟨hit, hT0⟩ hil2 hne (fun z => ?_) fun u' h' tk hu' ho hit' hT hsz hk => ?_
    · have z' : e = it ∨ e = a := by simpa using z
      rcases z' with z' | z'
      · exact hne z'
      · exact hae z'.symm
    have eu : u' = u := by
      have h1 : its.toArray[i]? = some u := by simpa using hu
      rw [h1] at hu'
      exact (Option.some.inj hu').symm
    subst eu
    refine ⟨_, rfl, wpAny_letOwnedTupleGo_enum (s := { s with heap := h', toks := tk + 1 }) ho fun h'' he' sb => ?_⟩
    have hT2 : h''.get? s.heap.objs.size = some { cls := .type "tuple", data := .seq #[.int i tk, u'] } := (sb.2 _ (Nat.ne_of_gt hel)).trans hT
    have new : ObjOk X.prog X.w (upd H s.heap.objs.size (.tup [.int (i : Nat), x])) h'' s.heap.objs.size (.tup [.int (i : Nat), x]) :=
      ⟨by show 2 ≤ sizeLine; decide, [.int i tk, u'], .cons ⟨_, rfl⟩ (.cons ru .nil), ⟨_, hT2, rfl, _, rfl⟩⟩
    have I1 : Inv X pins σ (upd H s.heap.objs.size (.tup [.int (i : Nat), x])) { s with heap := h'', toks := tk + 1 } :=
      I.turnedNew (ch := [e, it]) (fun b ob hb q => (sb.2 b (fun z => hb (by simp [z]))).trans (hk b ob (fun z => hb (by simp [z])) (fun z => hb (by simp [z])) q)) hf (Nat.le_refl _) new
    refine ⟨.ref s.heap.objs.size, _, I1, rfl, ⟨_, x, rfl, I.hok.fresh (Nat.le_refl _), rfl, fun ys hy => by rw [I.tuple_inj hy hq]; exact hx⟩, ⟨⟨u', ?_⟩, hit'.1.at fun o q => (sb.2 it (Ne.symm hne)).trans q, hne⟩, fun b hb => ?_⟩
    · have e1 : ((i + 1 : Nat) : Int) = (i : Int) + 1 := by omega
      rw [e1]; exact he'
    · have hb' : b < s.heap.objs.size := by
        have e' : b = e ∨ b = it := by simpa using hb
        rcases e' with z | z
        · rw [z]; exact hel
        · rw [z]; exact hil
      rw [upd_ne (Nat.ne_of_lt hb')]
      exact (hf b hb).1
  done := by
    intro X hP hw hK hc i pins s σ H E I hf st hg
    subst hP hw hK
    obtain ⟨⟨old, he⟩, hit, hne⟩ := st
    obtain ⟨xs, hq, hx⟩ := hg
    obtain ⟨its, rv, p, hz⟩ := I.tuple hq
    obtain ⟨f0, f1, f2, f3, f4, f5⟩ := hf it (by simp)
    have hl := rv.length
    have hT : s.TypeIs (.ref e) "enumerate" := ⟨_, he, rfl⟩
    unfold pyNext
    refine wpAny_bind (wpAny_attempt (wpAny_callSpecial?_slot (name := Str.ofString "__next__") hT PySem.F.slot_enumerate_next
      (wpAny_call_entry PySem.F.slot_enumerate_next hT PySem.F.entry_enumerate_next ?_ (PySem.F.args_enumerate_next_1 _))))
    show wpAny _ _ (field (.ref e) 2 >>= _) _ _ _
    refine wpAny_bind (wpAny_field he rfl (x := .ref it) rfl ?_)
    refine wpAny_bind (wpAny_nextOf_tuple_end (items := its.toArray) (show X.A.in1.handled = none from I.ok.hd hc) hit p (by simp; omega) fun h' x he' hx' => ?_)
    obtain ⟨o, ho, hcl⟩ := hx'
    refine wpAny_bind (wpAny_isInstance (T := "StopIteration") (b := true) ⟨o, ho, hcl⟩ isSubtype_stop ?_)
    exact wpAny_pure ⟨rfl, I.turned (t' := s.toks) (fun b o hb q => he' b o hb q) f0 f1 f3 f4 f5⟩
  self := fun A i s Q E st h => let ⟨⟨_, he⟩, _⟩ := st; wpAny_pyIter_enum he h
end DL
set_option Elab.async false
set_option linter.all false
set_option maxRecDepth 100000
set_option maxHeartbeats 4000000
namespace DL
open PySem PySem.Spec PyProof.Rows L2
def iEnumT (K : PySem.W.Frag) (ta : TA) : TI := fun σ H R => ta σ H fun vs H1 => ∃ a xs, vs = [.ref a] ∧ SqT K H1 a xs ∧ R (IteT K a) H1
theorem pi_enumT {X : Cx} {e : Expr} {ta : TA} {p pos tpos : Pos} {elts : List Expr} {kk : Nat} (hg : Gl X "enumerate") (hm : X.mg "enumerate" = none) (ha : PA X [e] ta) (hs : starEach [e] X.env = [(false, eval e X.env)] := by rfl) :
    PI X (.Tuple elts kk tpos) (.Call (.Name "enumerate" p) [e] [] pos) (iEnumT X.K ta) := by
  refine ⟨fun pins s σ H R I h => ?_⟩
  refine Call_ (ld_blt I hg hm boot_enumerate (PyProof.Rows.callWith_type1 (thn (ha.run pos pins s σ H _ I h) fun us s1 ⟨vs, H1, I1, r1, q1⟩ => ?_) hs rfl))
  obtain ⟨a, xs, ex, hq, q⟩ := q1
  subst ex
  cases r1 with
  | cons r rr =>
    cases rr
    cases r
    obtain ⟨its, rv, p', hz⟩ := I1.tuple hq
    have hal : a < s1.heap.objs.size := by obtain ⟨o, q, _⟩ := p'; exact Heap.lt_size q
    refine dl_enum_begins (begins_tuple a its.toArray) p' fun h' he hit hsz hk => wpAny_pyIter_enum he ?_
    have I2 : Inv X pins σ H1 { s1 with heap := h' } := I1.kept (t' := s1.toks) hk
    refine ⟨s1.heap.objs.size + 1, [s1.heap.objs.size + 1, s1.heap.objs.size], _, _, H1, rfl, I2, turn_enumT a (s1.heap.objs.size + 1) s1.heap.objs.size (Nat.ne_of_lt hal) (Nat.ne_of_lt (Nat.lt_succ_of_lt hal)), ⟨⟨.none, he⟩, ⟨_, hit, rfl, rfl⟩, Nat.succ_ne_self _⟩, fun b hb => ?_, q⟩
    have e' : b = s1.heap.objs.size + 1 ∨ b = s1.heap.objs.size := by simpa using hb
    have hle : s1.heap.objs.size ≤ b := by
      rcases e' with z | z
      · rw [z]; exact Nat.le_add_right _ _
      · rw [z]; exact Nat.le_refl _
    exact I1.fpOk hle (I1.hok.fresh hle)
/-! ### what is walked, each item new -/
def ItOkE (T : Tb) (K : PySem.W.Frag) (J : It) (G1 : Hp) (ds : List D) : Prop := ∀ (i : Nat) (G2 H : Hp), Evl.Ex G1 G2 → Sub G2 H →
  (∀ d, ds[i]? = some d → J.go i H ∧ ∀ x H', J.yld i H x H' → ∃ G3, Stp T G2 H G3 H' ∧ Dp K G3 x d) ∧ (ds.length ≤ i → J.stop i H)
def WIE (T : Tb) (X : Cx) (f : Fx) (Γ : List Sl) (tg iter : Expr) (Qi : List D → Prop) : Prop := ∃ wi, PI X tg iter wi ∧ ∀ σ G H R, EnvR T X.K f Γ σ G H → (∀ J ds G' H', Stp T G H G' H' → ItOkE T X.K J G' ds → Qi ds → R J H') → wi σ H R
/-- (0, x), (1, y), .. -/
def enD (ds : List D) : List D := (List.range ds.length).map fun (i : Nat) => .tuple [.int (i : Int), ds.getD i .none]
theorem enD_len (ds : List D) : (enD ds).length = ds.length := by
  unfold enD
  rw [List.length_map, List.length_range]
theorem enD_at {ds : List D} {i : Nat} {d : D} (h : (enD ds)[i]? = some d) : ∃ x, ds[i]? = some x ∧ d = .tuple [.int (i : Int), x] := by
  unfold enD at h
  rw [List.getElem?_map] at h
  by_cases hi : i < ds.length
  · rw [List.getElem?_range hi] at h
    cases h
    refine ⟨ds[i], List.getElem?_eq_getElem hi, ?_⟩
    show PyData.tuple [.int (i : Int), (ds[i]?).getD .none] = _
    rw [List.getElem?_eq_getElem hi]
    rfl
  · rw [List.getElem?_eq_none (by rw [List.length_range]; exact Nat.le_of_not_lt hi)] at h
    cases h
theorem it_enumT {T : Tb} {K : PySem.W.Frag} {G1 : Hp} {a : Addr} {xs : List V} {ds : List D} (s : SqT K G1 a xs) (al : DpAll K G1 xs ds) : ItOkE T K (IteT K a) G1 (enD ds) := fun i G2 H g sb => by
  have s2 : SqT K H a xs := st_up sb (Evl.ex_t g s)
  refine ⟨fun d e => ?_, fun h => ⟨xs, s2, by rw [dpa_len al]; rw [enD_len] at h; exact h⟩⟩
  obtain ⟨x, ex, rfl⟩ := enD_at e
  obtain ⟨v, e1, e2⟩ := dpa_at al ex
  refine ⟨⟨xs, v, s2, e1⟩, fun y H' ⟨t, x', h1, h2, h3, h4⟩ => ?_⟩
  have e5 := h4 xs s2
  rw [e1] at e5
  cases e5
  subst h1 h3
  exact ⟨_, .new sb h2 nt_tup, .tup (.of upd_same) (.cons (.int _) (.cons (dp_mono (g.trans (Evl.Ex.new (sb.none h2))) _ _ e2) .nil))⟩
section
variable {T : Tb} {X : Cx} {f : Fx} {Γ : List Sl} {pos p tpos : Pos} {e : Expr} {elts : List Expr} {kk : Nat}
theorem di_enumT {ds : List D} (h : DE T X f Γ e (.tuple ds)) (hm : X.mg "enumerate" = none) (hg : Gl X "enumerate" := by rfl) (hs : starEach [e] X.env = [(false, eval e X.env)] := by rfl) : WIE T X f Γ (.Tuple elts kk tpos) (.Call (.Name "enumerate" p) [e] [] pos) (fun z => z = enD ds) :=
  ⟨_, pi_enumT hg hm (da_cons h da_nil hs) hs, fun σ G H R en k => ⟨G, en, fun vs ds' G' H' st dp q => by
    subst q
    obtain ⟨v, rfl, dq⟩ := dpa_1 dp
    cases dq with
    | tup sq al => exact ⟨_, _, rfl, st_up st.s sq, k _ _ _ _ st (it_enumT sq al) rfl⟩⟩⟩
theorem de_lcE {elt tg iter : Expr} {scope : Scope} {own : List (Str × Nat)} {ds : List D} {ns : List Nat} {Tg : D → List Sl → List Sl → Prop} {vd : D → D} {k : Nat} (B : Bd T X f k) (hN : X.N.Nodup)
    (hi : WIE T X f Γ tg iter (fun z => z = ds)) (ok : BlkOk X.N X.env.scope scope own) (hn : ∀ i ∈ ns, i ∈ own.map (·.2)) (hg : ∀ s H C cl fp, WG T (Cx.bk X scope s H C cl fp) f.no tg ns Tg)
    (hd : ∀ (i : Nat) (d : D), ds[i]? = some d → ∃ Γ1, Tg d (wipeG Γ (own.map (·.2))) Γ1 ∧ ∀ s H C cl fp, DE T (Cx.bk X scope s H C cl fp) f.no Γ1 elt (vd d))
    (hz : ds.length ≤ 90000) (hs : ∀ x, foldedSetIterable iter X.env x = pure x := by intro _; rfl) : DE T X f Γ (.ListComp elt [⟨tg, iter, [], 0⟩] scope pos) (.list (ds.map vd)) := by
  obtain ⟨wi, p, kw⟩ := hi
  refine .of (pe_lc (own := own) (wi := wi) B.calm hN p ok
    (g := fun v σ H Q => ∀ s H' C cl fp, ∃ g, PG (Cx.bk X scope s H' C cl fp) tg g ∧ g v σ H Q)
    (tt := tYes)
    (te := fun σ H QQ => ∃ Γ1 d, (∀ s H' C cl fp, DE T (Cx.bk X scope s H' C cl fp) f.no Γ1 elt d) ∧ rd T X f.no Γ1 (fun z => z = d) σ H QQ)
    (fun s H C cl fp => ⟨fun pins s' σ H' v u Q I r h => ?_⟩) (fun s H C cl fp => pts_nil) (fun s H C cl fp => ⟨fun pins s' σ H' Q I h => ?_⟩) hs) fun σ G H QQ en w => kw σ G H _ en fun J ds' G1 H1 st1 it e => ?_
  · obtain ⟨g, pg, hq⟩ := h s H C cl fp
    exact pg.run pins s' σ H' v u Q I r hq
  · obtain ⟨Γ1, d, h1, h2⟩ := h
    exact (h1 s H C cl fp).pe.run pins s' σ H' Q I h2
  · subst e
    intro q hq
    have en1 := en.step st1
    refine ⟨fun i m H' => m = ds'.length - i ∧ i ≤ ds'.length ∧ ∃ G' acc, Stp T G1 H1 G' H' ∧ G' q = none ∧ H' q = some (.lst acc) ∧ DpAll X.K G' acc ((ds'.take i).map vd), ⟨ds'.length, by simp, Nat.zero_le _, G1, [], ?_, st1.s.none hq, upd_same, ?_⟩, ?_⟩
    · exact .keep st1.s (.new hq)
    · rw [List.take_zero]
      exact .nil
    · rintro i m H' ⟨rfl, hi, G', acc, st', g0, h0, al⟩
      obtain ⟨i1, i2⟩ := it i G' H' st'.g st'.s
      by_cases hlt : i < ds'.length
      · have e0 := List.getElem?_eq_getElem hlt
        obtain ⟨go, yl⟩ := i1 _ e0
        obtain ⟨Γ1, t1, he⟩ := hd i _ e0
        have tk : ds'.take (i + 1) = ds'.take i ++ [ds'[i]] := by
          rw [List.take_succ, e0]
          rfl
        refine .inr ⟨go, fun H2 => ∃ G2 acc2, Stp T G1 H1 G2 H2 ∧ G2 q = none ∧ H2 q = some (.lst acc2) ∧ DpAll X.K G2 acc2 ((ds'.take (i + 1)).map vd), fun H2 ⟨G2, acc2, a1, a2, a3, a4⟩ => ⟨_, by omega, rfl, hlt, G2, acc2, a1, a2, a3, a4⟩, fun x H2 y s5 H5 C5 cl5 fp5 => ?_⟩
        obtain ⟨G3, s0, dp⟩ := yl x H2 y
        have st3 := st'.trans s0
        have h3 := s0.le.h _ _ h0 nt_lst
        have g3 := s0.n q _ g0 h0 nt_lst
        have al3 := dpa_mono s0.g _ _ al
        obtain ⟨g, pg, kg⟩ := hg s5 H5 C5 cl5 fp5
        have enw := (env_wipe (en1.step st3) (own.map (·.2))).no
        refine ⟨g, pg, kg x _ _ G3 _ _ Γ1 _ enw dp t1 fun σ2 en2 q2 l2 => ⟨wipe_same hn ?_ q2, Γ1, _, he, G3, en2, fun v d G4 H4 s4 dp4 e4 => ?_⟩⟩
        · rw [l2, wipe_length]
        · subst e4
          have h4 := s4.le.h _ _ h3 nt_lst
          have g4 := s4.n q _ g3 h3 nt_lst
          refine ⟨acc, h4, Evl.sz_lt ?_, G4, acc ++ [v], (st3.trans s4).mut (fr_none hq) h4 g4, g4, upd_same, ?_⟩
          · rw [dpa_len al, List.length_map, List.length_take]
            omega
          · rw [tk, List.map_append]
            exact dpa_app (dpa_mono s4.g _ _ al3) (.cons dp4 .nil)
      · have e : i = ds'.length := by omega
        subst e
        refine .inl ⟨i2 (Nat.le_refl _), ?_⟩
        rw [List.take_length] at al
        have gx : Evl.Ex G' (upd G' q (.lst acc)) := Evl.Ex.new g0
        have st2 : Stp T G1 H1 (upd G' q (.lst acc)) H' := by
          refine ⟨st'.le, st'.g.trans gx, fun b o e => ?_, fun b o h1 h2 h3 => ?_⟩
          · by_cases hb : b = q
            · subst hb
              rw [upd_same] at e
              cases e
              exact ⟨h0, nt_lst⟩
            · rw [upd_ne hb] at e
              exact st'.s b o e
          · rw [upd_ne (ne_of_none h2 hq)]
            exact st'.n b o h1 h2 h3
        exact w _ _ _ _ (st1.trans st2) (.lst (.of upd_same) (dpa_mono gx _ _ al)) rfl
end
end DL
set_option Elab.async false
set_option linter.all false
set_option maxRecDepth 100000
set_option maxHeartbeats 4000000
namespace DL
open PySem PySem.Spec PyProof.Rows L2
section
variable {T : Tb} {X : Cx} {f : Fx} {Γ : List Sl} {a b c e o tg : Expr} {es : List Expr} {Q : D → Prop} {pos p1 p2 p3 apos : Pos} {d : D} {ds : List D} {as : List Sl} {k m n : Nat} {C p : Addr} {z z' : FS} {x y : Str} {rest sts : List Stmt} {N : List Sl → Prop} {Rt : D → Prop} {j : Int}
theorem we_modk {P1 : Int → Prop} (ha : WE T X f Γ a fun d => ∃ i, d = .int i ∧ P1 i) (hb : DE T X f Γ b (.int j)) (hj : 0 < j) (hq : ∀ i, P1 i → Q (.int (i % j))) : WE T X f Γ (.BinOp a .Mod b pos) Q :=
  we_op (pe_op op_mod ha.pe hb.pe) fun x y G H v w QQ q1 q2 s d1 d2 k => by
    obtain ⟨i, rfl, q1⟩ := q1
    subst q2
    cases d1
    cases d2
    exact ⟨i, j, rfl, rfl, hj, k _ _ G H (.refl s) (.int _) (hq i q1)⟩
theorem we_subk {P1 : Int → Prop} (ha : WE T X f Γ a fun d => ∃ i, d = .int i ∧ P1 i) (hb : DE T X f Γ b (.int j)) (hq : ∀ i, P1 i → Q (.int (i - j))) : WE T X f Γ (.BinOp a .Sub b pos) Q :=
  we_op (pe_op op_sub ha.pe hb.pe) fun x y G H v w QQ q1 q2 s d1 d2 k => by
    obtain ⟨i, rfl, q1⟩ := q1
    subst q2
    cases d1
    cases d2
    exact ⟨i, j, rfl, rfl, k _ _ G H (.refl s) (.int _) (hq i q1)⟩
/-- a, .. = g(.., the thing, ..) -/
theorem ws_unpF {g : Str} {ns : List Nat} {Tg : D → List Sl → List Sl → Prop} {sp : Pos} {CF : Addr → FS → List Sl → (D → FS → Prop) → Prop} {S : D → FS → Prop} (F : DfF T X.prog X.w X.K X.mg X.base g k C CF) (hr : Room m X.A) (hk : k ≤ m) (hT : LamX.Tabs T f.H0) (hn : Γ[n]? = some (.gen (frG X.K C p z))) (ho : OneF Γ n) (h0 : Fr f.H0 p) (ha : WA T X f Γ (e :: es) fun q => q = as) (hC : CF p z as S)
    (hgt : WG T X f tg ns Tg) (hq : ∀ d z', S d z' → ∃ Γ', Tg d (Γ.set n (.gen (frG X.K C p z'))) Γ' ∧ N Γ') (hg : Gl X g := by rfl) (hdb : (g == ("__debug__" : Str)) = false := by decide)
    (he : starEach (e :: es) X.env = (false, eval e X.env) :: starEach es X.env := by rfl) (hpl : (backTo pos (starEach es X.env)).any (·.1) = false := by rfl)
    (hs : swapsWithSole [tg] (.Call (.Name g p1) (e :: es) [] pos) sp.line X.env = pure false := by rfl) (hw : swappedStores [tg] (.Call (.Name g p1) (e :: es) [] pos) X.env = pure none := by rfl) (h1 : (assignEach [tg] X.env).map (·.2) = [assign tg X.env] := by rfl) :
    WS T X f Γ (.Assign [tg] (.Call (.Name g p1) (e :: es) [] pos) sp) N Rt := by
  obtain ⟨gg, pg, kg⟩ := hgt
  exact .of (ps_asg (pe_callF F hr hk hT hn ha hC hg hdb he hpl) pg hs hw h1) fun σ G H E en w => ⟨G, en, fun G1 H1 st v H' ⟨d, z', G', q, s', fr, dp⟩ => by
    obtain ⟨Γ', t, hN⟩ := hq d z' q
    exact kg v d σ G' H' _ Γ' _ (env_chg (en.step st) ho hn h0 s' fr) dp t fun σ' en' _ _ => w.nx _ _ _ _ en' (st.g.trans s'.g) hN⟩
/-- frame, x, y = C(e), [], [] -/
theorem ws_newF {i1 i2 i3 : Nat} {x1 x2 x3 : Str} {q1 q2 q3 ql1 ql2 pt pt2 sp : Pos} {kt k2 : Nat} {ok : D → Bool} {zd : D → FS} {nx : Str} (F : NewF T X.prog X.w X.K X.mg X.base x k C ok zd nx) (B : Bd T X f m) (hk : k + 1 ≤ m) (h : DE T X f Γ e d) (hd : ok d = true) (hNd : X.N.Nodup)
    (hq : ∀ p, Fr f.H0 p → N (((Γ.set i1 (.gen (frG X.K C p (zd d)))).set i2 (.dat (.list []))).set i3 (.dat (.list [])))) (l1 : i1 < Γ.length) (l2 : i2 < Γ.length) (l3 : i3 < Γ.length)
    (h1 : X.N[i1]? = some x1 := by rfl) (h2 : X.N[i2]? = some x2 := by rfl) (h3 : X.N[i3]? = some x3 := by rfl) (hx1 : Loc X.env.scope x1 := by first | exact Or.inl rfl | exact Or.inr rfl) (hx2 : Loc X.env.scope x2 := by first | exact Or.inl rfl | exact Or.inr rfl) (hx3 : Loc X.env.scope x3 := by first | exact Or.inl rfl | exact Or.inr rfl)
    (f1 : X.fn x1 = true ∨ X.env.scope.names.lookup x1 = some .local := by first | exact .inl rfl | exact .inr rfl) (f2 : X.fn x2 = true ∨ X.env.scope.names.lookup x2 = some .local := by first | exact .inl rfl | exact .inr rfl) (f3 : X.fn x3 = true ∨ X.env.scope.names.lookup x3 = some .local := by first | exact .inl rfl | exact .inr rfl)
    (hg : Gl X x := by rfl) (hdb : (x == ("__debug__" : Str)) = false := by decide) (he : starEach [e] X.env = (false, eval e X.env) :: starEach [] X.env := by rfl)
    (hs : swapsWithSole [.Tuple [.Name x1 q1, .Name x2 q2, .Name x3 q3] kt pt] (.Tuple [.Call (.Name x p1) [e] [] pos, .List [] ql1, .List [] ql2] k2 pt2) sp.line X.env = pure false := by rfl)
    (hw : swappedStores [.Tuple [.Name x1 q1, .Name x2 q2, .Name x3 q3] kt pt] (.Tuple [.Call (.Name x p1) [e] [] pos, .List [] ql1, .List [] ql2] k2 pt2) X.env = pure none := by rfl)
    (ha1 : (assignEach [.Tuple [.Name x1 q1, .Name x2 q2, .Name x3 q3] kt pt] X.env).map (·.2) = [assign (.Tuple [.Name x1 q1, .Name x2 q2, .Name x3 q3] kt pt) X.env] := by rfl) :
    WS T X f Γ (.Assign [.Tuple [.Name x1 q1, .Name x2 q2, .Name x3 q3] kt pt] (.Tuple [.Call (.Name x p1) [e] [] pos, .List [] ql1, .List [] ql2] k2 pt2) sp) N Rt := by
  refine .of (ps_asg (pe_tup (pa_cons (pe_newF F B.rm hk h hd hg hdb he rfl) (pa_cons (pe_lst pa_nil) (pa_cons (pe_lst pa_nil) pa_nil)))) (pg_tup B.calm (pgs_cons (pg_name hNd h1 hx1 f1) (pgs_cons (pg_name hNd h2 hx2 f2) (pgs_cons (pg_name hNd h3 hx3 f3) pgs_nil))) rfl rfl) hs hw ha1) fun σ G H E en w => ?_
  refine ⟨G, en, fun p G1 H1 hp st fr => ?_⟩
  have en1 := en.step st
  have h0 : Fr f.H0 p := en.st.le.fr hp
  refine ⟨Nat.zero_le _, fun a ha => ?_⟩
  have sa : Stp T G1 H1 (upd G1 a (.lst [])) (upd H1 a (.lst [])) := .new st.s ha nt_lst
  refine ⟨Nat.zero_le _, fun b hb => ?_⟩
  have sb : Stp T (upd G1 a (.lst [])) (upd H1 a (.lst [])) (upd (upd G1 a (.lst [])) b (.lst [])) (upd (upd H1 a (.lst [])) b (.lst [])) := .new sa.s hb nt_lst
  refine ⟨by show 3 ≤ sizeLine; decide, fun t ht => ?_⟩
  have sc : Stp T (upd (upd G1 a (.lst [])) b (.lst [])) (upd (upd H1 a (.lst [])) b (.lst [])) (upd (upd G1 a (.lst [])) b (.lst [])) (upd (upd (upd H1 a (.lst [])) b (.lst [])) t (.tup [.ref p, .ref a, .ref b])) := .keep sb.s (.new ht)
  have s3 := (sa.trans sb).trans sc
  have en3 := en1.step s3
  refine ⟨t, [.ref p, .ref a, .ref b], rfl, .of upd_same, rfl, _, _, rfl, _, _, rfl, _, _, rfl, rfl, ?_⟩
  have ga : (upd (upd G1 a (.lst [])) b (.lst [])) a = some (.lst []) := by
    have hab : a ≠ b := fun y => by
      rw [← y, upd_same] at hb
      cases hb
    rw [upd_ne hab, upd_same]
  refine w.nx _ _ _ _ (((en3.set (s := .gen (frG X.K C p (zd d))) ⟨rfl, fr.mono s3⟩ l1).set (s := .dat (.list [])) ⟨_, rfl, .lst (.of ga) .nil⟩ (by rw [List.length_set]; exact l2)).set (s := .dat (.list [])) ⟨_, rfl, .lst (.of upd_same) .nil⟩ (by rw [List.length_set, List.length_set]; exact l3)) (st.g.trans s3.g) (hq p h0)
end
end DL
set_option Elab.async false
set_option linter.all false
set_option maxRecDepth 100000
set_option maxHeartbeats 4000000
namespace DL
open PySem PySem.Spec PyProof.Rows L2
section
variable {T : Tb} {X : Cx} {f : Fx} {Γ : List Sl} {e : Expr} {es : List Expr} {Q : D → Prop} {pos p p1 : Pos} {k m n : Nat} {x y : Str} {C : Ct} {Qa : List Sl → Prop}
theorem we_callW (F : Dfn T X.prog X.w X.K X.mg X.base x k C) (B : Bd T X f m) (hk : k ≤ m) (ha : WA T X f Γ (e :: es) Qa) (hC : ∀ as, Qa as → ∃ S, C as S ∧ ∀ r, S r → Okr Q f.R r) (hg : Gl X x := by rfl) (hdb : (x == ("__debug__" : Str)) = false := by decide)
    (he : starEach (e :: es) X.env = (false, eval e X.env) :: starEach es X.env := by rfl) (hpl : (backTo pos (starEach es X.env)).any (·.1) = false := by rfl) : WE T X f Γ (.Call (.Name x p) (e :: es) [] pos) Q := by
  obtain ⟨fa, fd, ps, G, hm, kp, bi⟩ := F.ex
  refine .of (pe_call (CX := L2N.CX X.prog X.w) (E := ER T X.mg f.H0 f.R) G (B.rm.mono hk) hg hm kp bi .nil (L2N.passes_call B.tk fun cls d σ H h => h) ha hdb he hpl) fun σ G H QQ en w => ⟨G, en, fun vs as' G' H' st ar q => ?_⟩
  obtain ⟨S, hC, hS⟩ := hC as' q
  refine ⟨G', _, S, st.s, (by rw [List.append_nil]; exact ar), hC, fun d hd v G2 H2 s2 p2 => w v d G2 H2 (st.trans s2) p2 (hS _ hd), fun n hn c H2 hc l2 => ⟨rfl, (en.st.le.trans st.le).trans l2, n, c, hS _ hn, hc, rfl⟩⟩
theorem wa_obj1W {ad : Addr} {o : HO} {Qd : D → Prop} (h : Γ[n]? = some (.obj ad o)) (hr : WE T X f Γ e Qd) (hN : X.N[n]? = some y := by rfl) (hv : Vis X.env.scope y := by first | exact Or.inl rfl | exact Or.inr (Or.inl rfl) | exact Or.inr (Or.inr rfl)) (hd : (y == ("__debug__" : Str)) = false := by decide) (hcd : (y == ("__classdict__" : Str)) = false := by decide)
    (hs : starEach (.Name y p :: [e]) X.env = (false, eval (.Name y p) X.env) :: starEach [e] X.env := by rfl) (hs2 : starEach [e] X.env = (false, eval e X.env) :: starEach [] X.env := by rfl) : WA T X f Γ [.Name y p, e] fun z => ∃ d, Qd d ∧ z = [.obj ad o, .dat d] :=
  pa_imp (pa_cons (pe_var hN hv hd hcd) (pa_cons hr.pe pa_nil hs2) hs) fun σ H QQ ⟨G, en, w⟩ => by
    obtain ⟨e1, e2, e3⟩ := en.obj h
    refine ⟨_, e1, G, en, fun v d G2 H2 s2 p2 q2 => ?_⟩
    exact w _ [.obj ad o, .dat d] G2 H2 s2 ⟨⟨rfl, s2.le.h _ _ e2 e3.1, e3⟩, ⟨v, rfl, p2⟩, trivial⟩ ⟨d, q2, rfl⟩
end
/-! ### the end, two defs with lambdas -/
abbrev lamQ (n : Str) : Str := (envOfC n ⟨.function, [], false, false, []⟩ 0 0 .none).qual ++ "<lambda>"
def errB2 (g : Str) (K : PySem.W.Frag) : Bool := errB K && decide ((He.cT K ("law", none)).2 ≠ (He.cT K (g, none)).2)
theorem law_end2 {l : PySem.W.OpenLaw} {w : World} {K : PySem.W.Frag} {h : Heap} {mg : Str → Option Value} {f : Addr} {fa : List He.Fa} {fn : List He.DefD} {st sg : Stmt} {g : Str} {k : Nat} (KX : K.In h) (c : He.SaysX fa fn [] [("law", none), (g, none)] (errB2 g) w h K) (G : h.Ns mainGlobals mg) (hmg : mg "law" = some (.ref f))
    (hg : He.Fa.glo "law" ∈ fa) (i : Nat) (hi : fn[i]? = some (dOf "law" st)) (hgg : He.Fa.glo g ∈ fa) (j : Nat) (hj : fn[j]? = some (dOf g sg))
    (bi : ∀ (kV doc pm : Value) (an : Option Addr) (cdv ct : Value) (us : List Value), us.length = 1 → bindArgs (PySem.W.fnOf "law" "law" (defArgs st) (defBody st) (defScope st) .none kV doc pm an cdv ct) ⟨us, []⟩ = pure ((["script"] : List Str).zip us))
    (F : ∀ (base : Heap) (cc PP : Addr) (oc kV doc pm ct : Value) (od an : Option Addr) (osl : Array (Option Value)) (gf gc gP : Addr) (goc gkV gdoc gpm gct : Value) (god gan : Option Addr) (gosl : Array (Option Value)), K.In base → base.Ns mainGlobals mg → LamX.TabB base mg cc PP → LamX.TabB base mg gc gP → PP ≠ gP →
      K.lookup f = some ⟨oc, od, .func (PySem.W.fnOf "law" "law" (defArgs st) (defBody st) (defScope st) .none kV doc pm an (.ref cc) ct), osl⟩ → PySem.W.codeIn K (.ref cc) "law" = true →
      mg g = some (.ref gf) → PySem.W.keepIn K (.ref gf) = true → K.lookup gf = some ⟨goc, god, .func (PySem.W.fnOf g g (defArgs sg) (defBody sg) (defScope sg) .none gkV gdoc gpm gan (.ref gc) gct), gosl⟩ → PySem.W.codeIn K (.ref gc) g = true →
      FnOk l.prog w K mg base (L2N.CX l.prog w) k f (PySem.W.fnOf "law" "law" (defArgs st) (defBody st) (defScope st) .none kV doc pm an (.ref cc) ct) ["script"] (spLaw [(PP, lawQ), (gP, lamQ g)] K)) :
    LamX.LawAtS l w K (L2N.CX l.prog w) k 63 "script" mg f h := by
  obtain ⟨fd, FD⟩ := c.t.d.def_ i hi
  have e0 := hmg.symm.trans (He.glo_ok KX G (c.t.d.facts hg))
  injection e0 with e0
  injection e0 with e0
  subst e0
  have FF := fun_of FD
  obtain ⟨oc, od, kV, doc, pm, an, cdv, ct, osl, rfl, lk, hcd⟩ := FF.ex
  obtain ⟨cc, rfl⟩ := He.codeIn_ref hcd
  have ec : He.codeOf K ("law", none) = cc := He.codeOf_eq lk rfl
  have e1 : (He.cT K ("law", none)).1 = cc := ec
  obtain ⟨gd, GD⟩ := c.t.d.def_ j hj
  have GF := fun_of GD
  obtain ⟨goc, god, gkV, gdoc, gpm, gan, gcdv, gct, gosl, rfl, glk, ghcd⟩ := GF.ex
  obtain ⟨gc, rfl⟩ := He.codeIn_ref ghcd
  have gec : He.codeOf K (g, none) = gc := He.codeOf_eq glk rfl
  have ge1 : (He.cT K (g, none)).1 = gc := gec
  have hne : (He.cT K ("law", none)).2 ≠ (He.cT K (g, none)).2 := by
    have q := c.more
    unfold errB2 at q
    exact of_decide_eq_true (Bool.and_eq_true_iff.mp q).2
  refine ⟨PySem.W.fnOf "law" "law" (defArgs st) (defBody st) (defScope st) .none kV doc pm an (.ref cc) ct, [He.cT K ("law", none), He.cT K (g, none)], spLaw [((He.cT K ("law", none)).2, lawQ), ((He.cT K (g, none)).2, lamQ g)] K, fun p hp => ?_, fun p hp => ?_, fun p hp => ?_, fun s u => ?_, fun H a ns hl _ hT hS => ?_, fun base KB GB TB => ?_⟩
  · rcases List.mem_cons.mp hp with rfl | hp
    · exact c.empty _ List.mem_cons_self
    · rw [List.mem_singleton.mp hp]
      exact c.empty _ (List.mem_cons_of_mem _ List.mem_cons_self)
  · rcases List.mem_cons.mp hp with rfl | hp
    · exact c.out _ List.mem_cons_self
    · rw [List.mem_singleton.mp hp]
      exact c.out _ (List.mem_cons_of_mem _ List.mem_cons_self)
  · rcases List.mem_cons.mp hp with rfl | hp
    · exact PySem.W.codeHd_of_K KX (c.hd _ List.mem_cons_self)
    · rw [List.mem_singleton.mp hp]
      exact PySem.W.codeHd_of_K KX (c.hd _ (List.mem_cons_of_mem _ List.mem_cons_self))
  · exact .of_eq (bi kV doc pm an _ ct [u] rfl)
  · refine ⟨a, ns, rfl, hS, hl, fun q hq => ?_, fun _ => rfl⟩
    rcases List.mem_cons.mp hq with rfl | hq
    · exact LamX.TabS.nil (hT _ List.mem_cons_self)
    · rw [List.mem_singleton.mp hq]
      exact LamX.TabS.nil (hT _ (List.mem_cons_of_mem _ List.mem_cons_self))
  · have T1 := TB _ List.mem_cons_self
    rw [e1] at T1
    have T2 := TB _ (List.mem_cons_of_mem _ List.mem_cons_self)
    rw [ge1] at T2
    exact F base cc _ oc kV doc pm ct od an osl _ gc _ goc gkV gdoc gpm gct god gan gosl KB GB T1 T2 hne lk hcd (He.glo_ok KX G (c.t.d.facts hgg)) GF.kp glk ghcd
/-- a method, by the head -/
theorem met_at {h : Heap} {K : PySem.W.Frag} {fa : List He.Fa} {fn : List He.DefD} {cn mn q : Str} {st : Stmt} (X : K.In h) (c : He.SaysD fa fn K) (i : Nat) (hi : fn[i]? = some ⟨(cn, some mn), mn, q, defArgs st, defBody st, defScope st, [], []⟩) (hm : He.Fa.meth cn mn ∈ fa) : ∃ f fd, Meth K (He.ga K cn) mn f ∧ Fun K mn q st f fd := by
  obtain ⟨fd, F⟩ := c.def_ i hi
  have M := He.meth_ok (c.facts hm)
  obtain ⟨oc, od, dV, kV, doc, pm, an, cdv, ct, osl, e, lk, hcd, hd, _⟩ := F.ex
  have e2 : dV = .none := by
    rcases hd with ⟨_, z⟩ | ⟨z, _⟩
    · exact z
    · exact absurd rfl z
  subst e2
  exact ⟨_, fd, M, ⟨⟨oc, od, kV, doc, pm, an, cdv, ct, osl, e, lk, hcd⟩, F.kp⟩⟩
end DL
set_option Elab.async false
set_option linter.all false
set_option maxRecDepth 100000
set_option maxHeartbeats 1000000
namespace KR
open PySem DL L2
def nextD (t : Tr) (i n : Int) : D := if 2 < i then termD "InvalidPlace" else if -9 ≤ n ∧ n ≤ 9 then (if isTriD (chT t i.toNat n) = true then chT t i.toNat n else termD "NoTriangle") else termD "InvalidNumber"
def cNext : Ct := fun as S => ∃ (t : Tr) (i n : Int), 0 ≤ i ∧ i ≤ 3 ∧ -10 ≤ n ∧ n ≤ 10 ∧ as = [.dat (trD t), .dat (.int i), .dat (.int n)] ∧ S = Ret (.ok (nextD t i n))
def nxV (i n : Int) (d : D) : D := match d with
  | .tuple [.int j, .int s] => .int (s + if j = i then n else 0)
  | _ => .none
def nxL (t : Tr) (i n : Int) : List Int := [t.1 + (if (0 : Int) = i then n else 0), t.2.1 + (if (1 : Int) = i then n else 0), t.2.2 + (if (2 : Int) = i then n else 0)]
theorem nx_map (t : Tr) (i n : Int) : (enD [.int t.1, .int t.2.1, .int t.2.2]).map (nxV i n) = iL (nxL t i n) := rfl
theorem nx_ch {t : Tr} {i n : Int} (h0 : 0 ≤ i) (h2 : i ≤ 2) : sortI (nxL t i n) = chL t i.toNat n := by
  unfold chL nxL
  rcases (show i = 0 ∨ i = 1 ∨ i = 2 by omega) with rfl | rfl | rfl
  · simp [l3]
  · simp [l3]
  · simp [l3]
theorem sort3_of (l : List Int) (h : l.length = 3) : ∃ a b c, sortI l = [a, b, c] ∧ a ≤ b ∧ b ≤ c := by
  have hl : (sortI l).length = 3 := (sortI_perm l).length_eq.trans h
  have hs := sortI_sorted l
  match q : sortI l, hl, hs with
  | [a, b, c], _, hs =>
    simp only [List.pairwise_cons, List.mem_cons, List.not_mem_nil, or_false] at hs
    exact ⟨a, b, c, rfl, hs.1 b (.inl rfl), hs.2.1 c rfl⟩
theorem tri_sorted {a b c : Int} (h1 : a ≤ b) (h2 : b ≤ c) : isTriD (tri a b c) = (decide (1 ≤ a) && (decide (c ≤ 100) && decide (c < a + b))) := by
  show ((decide (1 ≤ a) && decide (a ≤ 100)) && ((decide (1 ≤ b) && decide (b ≤ 100)) && ((decide (1 ≤ c) && decide (c ≤ 100)) && true)) && (decide (a ≤ b) && (decide (b ≤ c) && decide (c < a + b)))) = _
  rw [Bool.eq_iff_iff]
  simp only [Bool.and_eq_true, decide_eq_true_eq, Bool.and_true]
  omega
def DR (t : Tr) (ea un : List Tr) (nm : Str) (i n : Int) (d : D) (z' : FS) : Prop :=
  (nm = "change" ∧ ((∃ (m : Nat) (t' : Tr), i = (m : Int) ∧ m < 3 ∧ -9 ≤ n ∧ n ≤ 9 ∧ chT t m n = trD t' ∧ isTriD (trD t') = true ∧ d = trD t' ∧ z' = fr t' (ea ++ [t]) []) ∨ (∃ er, nextD t i n = termD er ∧ Shp 2 (termD er) ∧ d = termD er ∧ z' = fr t ea un))) ∨
  (nm = "undo" ∧ ((∃ r t', ea = r ++ [t'] ∧ d = trD t' ∧ z' = fr t' r (un ++ [t])) ∨ (ea = [] ∧ d = termD "NothingToUndo" ∧ z' = fr t ea un))) ∨
  (nm = "redo" ∧ ((∃ r t', un = r ++ [t'] ∧ d = trD t' ∧ z' = fr t' (ea ++ [t]) r) ∨ (un = [] ∧ d = termD "NothingToUndo" ∧ z' = fr t ea un)))
def cDone (K : PySem.W.Frag) (C : Addr) : Addr → FS → List Sl → (D → FS → Prop) → Prop := fun p z as S => ∃ (t : Tr) (ea un : List Tr) (nm : Str) (i n : Int), (nm = "change" ∨ nm = "undo" ∨ nm = "redo") ∧ ea.length ≤ 900 ∧ un.length ≤ 900 ∧ 0 ≤ i ∧ i ≤ 3 ∧ -10 ≤ n ∧ n ≤ 10 ∧ z = fr t ea un ∧
  as = [.gen (frG K C p (fr t ea un)), .dat (.str nm), .dat (.int i), .dat (.int n)] ∧ S = DR t ea un nm i n
def cTurn (K : PySem.W.Frag) (C : Addr) : Addr → FS → List Sl → (D → FS → Prop) → Prop := fun p z as S => ∃ (dd : Addr) (t : Tr) (ea un : List Tr), ea.length ≤ 800 ∧ un.length ≤ 800 ∧ z = fr t ea un ∧
  as = [.obj dd (DiceO dd), .gen (frG K C p (fr t ea un)), .dat (trD t), .dat (.list (trL ea)), .dat (.list (trL un))] ∧
  S = fun d z' => ∃ (m : D) (t' : Tr) (ea' un' : List Tr), Shp 2 m ∧ ea'.length ≤ ea.length + 1 ∧ un'.length ≤ un.length + 1 ∧ d = .tuple [m, m, trD t', .list (trL ea'), .list (trL un')] ∧ z' = fr t' ea' un'
theorem shp_term (e : Str) (h : SeqAt.shaped (.str e) = true) : Shp 2 (termD e) := by
  have hc : (PyData.str e).canLay0 = true := by
    unfold SeqAt.shaped at h
    exact (Bool.and_eq_true_iff.mp h).1
  have h0 : Shp 0 (.str e) := ⟨hc, Nat.le_refl _⟩
  have h1 : Shp 0 (.str "error") := ⟨by decide +kernel, Nat.le_refl _⟩
  have q : Shp 1 (.tuple [.str "error", .str e]) := shp_tup fun x hx => by
    simp only [List.mem_cons, List.not_mem_nil, or_false] at hx
    rcases hx with rfl | rfl
    · exact h1
    · exact h0
  exact ⟨q.c, Nat.le_succ_of_le q.d⟩
theorem shp_trD (t : Tr) : Shp 2 (trD t) := ⟨(shp_tupI [t.1, t.2.1, t.2.2]).c, Nat.le_succ_of_le (shp_tupI [t.1, t.2.1, t.2.2]).d⟩
theorem atI_memT {l : List D} {i : Int} {d : D} (h : L2.atI l i = some d) : d ∈ l := by
  unfold L2.atI at h
  cases q : L2.ixN l.length i with
  | none =>
    rw [q] at h
    cases h
  | some j =>
    rw [q] at h
    exact List.mem_of_getElem? h
/-- the last of a list that is not empty -/
theorem lst_of (l : List Tr) : l = [] ∨ ∃ r t, l = r ++ [t] := by
  cases h : l.getLast? with
  | none => exact .inl (List.getLast?_eq_none_iff.mp h)
  | some t =>
    obtain ⟨r, e⟩ := List.getLast?_eq_some_iff.mp h
    exact .inr ⟨r, t, e⟩
theorem oneF1 {a : Sl} {g : GSl} {r : List Sl} (h0 : ∀ g', a ≠ .gen g') (h : ∀ s ∈ r, ∀ g', s ≠ .gen g') : OneF (a :: .gen g :: r) 1 := fun j s hj e g' => by
  match j, hj, e with
  | 0, _, e =>
    cases e
    exact h0 g'
  | 1, hj, _ => exact absurd rfl hj
  | j + 2, _, e => exact h s (List.mem_of_getElem? (by simpa using e)) g'
/-- the methods, and what they promise -/
structure FrM (T : Tb) (P : Program) (w : World) (K : PySem.W.Frag) (mg : Str → Option Value) (base : Heap) (C : Addr) : Prop where
  fc : FrC K C
  nw : NewF T P w K mg base "Frame" 4 C isTriD fr0 "InvalidTriangle"
  ch : ∃ fa fd, Meth K C "change" fa ∧ FnOk P w K mg base (L2N.CX P w) 3 fa fd ["self", "place", "number"] (spF T K C (cCh K C)) ∧ FnOk P w K mg base (L2N.CX P w) 3 fa fd ["self", "place", "number"] (spD T K mg (cChX K C)) ∧ Binds K fd ["self", "place", "number"] []
  un : ∃ fa fd, Meth K C "undo" fa ∧ FnOk P w K mg base (L2N.CX P w) 1 fa fd ["self"] (spF T K C (cUn K C)) ∧ FnOk P w K mg base (L2N.CX P w) 1 fa fd ["self"] (spD T K mg (cUnX K C)) ∧ Binds K fd ["self"] []
  re : ∃ fa fd, Meth K C "redo" fa ∧ FnOk P w K mg base (L2N.CX P w) 1 fa fd ["self"] (spF T K C (cRe K C)) ∧ FnOk P w K mg base (L2N.CX P w) 1 fa fd ["self"] (spD T K mg (cReX K C)) ∧ Binds K fd ["self"] []
  tr : ∃ fa fd, Meth K C "triangle" fa ∧ FnOk P w K mg base (L2N.CX P w) 1 fa fd ["self"] (spD T K mg (cTriM K C)) ∧ Binds K fd ["self"] []
  ln : ∃ fa fd, Meth K C "__len__" fa ∧ FnOk P w K mg base (L2N.CX P w) 1 fa fd ["self"] (spD T K mg (cLenM K C)) ∧ Binds K fd ["self"] []
theorem no_change (t : Tr) (ea un : List Tr) : (fr t ea un).lookup ("change" : Str) = none := look_no _ _ _ (by decide +kernel) (by decide +kernel) (by decide +kernel)
theorem no_undo (t : Tr) (ea un : List Tr) : (fr t ea un).lookup ("undo" : Str) = none := look_no _ _ _ (by decide +kernel) (by decide +kernel) (by decide +kernel)
theorem no_redo (t : Tr) (ea un : List Tr) : (fr t ea un).lookup ("redo" : Str) = none := look_no _ _ _ (by decide +kernel) (by decide +kernel) (by decide +kernel)
theorem no_tri (t : Tr) (ea un : List Tr) : (fr t ea un).lookup ("triangle" : Str) = none := look_no _ _ _ (by decide +kernel) (by decide +kernel) (by decide +kernel)
end KR
set_option Elab.async false
set_option linter.all false
set_option maxRecDepth 100000
set_option maxHeartbeats 4000000
namespace DL
open PySem PySem.Spec PyProof.Rows L2
/-! ### an exception that was caught, kept as a value -/
def KexP (cls : Value) (a : Addr) (h : Heap) : Prop := ∃ (oe : Obj) (vs : Array Value), h.get? a = some oe ∧ Zc cls none oe ∧ oe.data = .fields vs
def KexO (cls : Value) (a : Addr) : HO := .ext (KexP cls a)
theorem kex_ok {P : Program} {w : World} {H : Hp} {h : Heap} {a : Addr} {cls : Value} (q : KexP cls a h) : ObjOk P w H h a (KexO cls a) := by
  refine ⟨q, ?_, fun h1 h2 r k => ?_⟩
  · obtain ⟨oe, vs, e, _⟩ := q
    exact ⟨oe, e⟩
  · obtain ⟨oe, vs, e, z, d⟩ := r
    exact ⟨oe, vs, k _ e, z, d⟩
section
variable {X : Cx} {pins : List (Addr × Obj)} {σ : L2.St} {H : Hp} {s : Shared} {a : Addr} {cls : Value}
theorem inv_keep (I : L2.Inv X pins σ H s) (q : KexP cls a s.heap) (na : H a = none) (n0 : X.s_0.heap.get? a = none) (nL : a ≠ X.env.locals) (nC : ∀ x c, X.env.cells.lookup x = some c → c ≠ a) (nP : ∀ p ∈ X.pn ++ pins, p.1 ≠ a) : L2.Inv X pins σ (upd H a (KexO cls a)) s := by
  have ne : ∀ {b : Addr} {o : HO}, H b = some o → b ≠ a := fun {b o} e z => by
    rw [z, na] at e
    cases e
  have n1 : ∀ {b : Addr} {o : Obj}, X.s_0.heap.get? b = some o → b ≠ a := fun {b o} e z => by
    rw [z, n0] at e
    cases e
  refine ⟨I.ok, I.os, I.bare, ⟨I.base.keep, I.base.slot, fun b o e h1 h2 => ?_, I.base.there, fun b xs e => ?_, fun b o u e => ?_, fun b ps e => ?_⟩, I.loc, I.cell, ?_, fun x c e => ?_, fun p hp => ?_, fun b o e => ?_, I.len⟩
  · rw [upd_ne (n1 e)]
    exact I.base.free b o e h1 h2
  · have z := I.base.tups b xs e
    rw [upd_ne (ne z)]
    exact z
  · have z := I.base.frzs b o u e
    rw [upd_ne (ne z)]
    exact z
  · obtain ⟨more, z⟩ := I.base.tbls b ps e
    exact ⟨more, by rw [upd_ne (ne z)]; exact z⟩
  · rw [upd_ne (Ne.symm nL)]
    exact I.free
  · rw [upd_ne (nC x c e)]
    exact I.freeC x c e
  · obtain ⟨p1, p2, p3, p4, p5⟩ := I.pin p hp
    exact ⟨p1, by rw [upd_ne (nP p hp)]; exact p2, p3, p4, p5⟩
  · by_cases hb : b = a
    · subst hb
      rw [upd_same] at e
      cases e
      exact kex_ok q
    · rw [upd_ne hb] at e
      exact (I.hok b o e).stay (fun c v _ z => z) (fun c z => by rw [upd_ne (ne z)]; exact z) (fun c xs z => by rw [upd_ne (ne z)]; exact z)
end
/-- what the clause wishes: the exception is kept, the def returns it -/
def wKeep (K : PySem.W.Frag) (c : Value) (D : Ends) : WX := fun cls d σ H => PySem.W.exmOne K cls c = some true ∧ d = none ∧ ∀ a, H a = none → D.rt (.ref a) (upd H a (KexO cls a))
theorem ps_try_keep {X : Cx} {x n : Str} {c : Value} {i : Nat} {body : List Stmt} {np rp rp' pos pos' : Pos} {tb : WX → TS} (hs : X.stack = X.env :: X.outer) (hf : X.env.frame = some X.env.locals) (hex : X.ex = []) (hN : X.N.Nodup) (hi : X.N[i]? = some n) (hln : X.env.kindOf n = some .local) (hvn : Vis X.env.scope n) (hnd : (n == ("__debug__" : Str)) = false) (hnc : (n == ("__classdict__" : Str)) = false) (hc : Names X x c)
    (hb : ∀ (W : WX) (pn : List (Addr × Obj)) (xe : Value → Shared → Prop), L2N.Takes (X.tr pn xe) W → PassesOwn (model X.prog X.w) X.A X.env xe → PSs (X.tr pn xe) body (tb W)) :
    PS X (.Try body [.ExceptHandler (some (.Name x np)) (some n) [.Return (some (.Name n rp)) rp'] pos'] [] [] pos) (fun D σ H => tb (wKeep X.K c D) D σ H) := by
  refine ⟨fun pins s σ H D I h => ?_⟩
  have ok := I.ok
  have hfr : X.A.frames = some (X.env :: X.outer) := by rw [ok.frames, hs]
  refine wpAny_Try_except ?_
  refine wpAny_mono ((hb (wKeep X.K c D) (X.pn ++ pins) (fun e s₁ => wpAny (model X.prog X.w) X.A (noteFrame e X.env) (fun _ s₂ => wpAny (model X.prog X.w) X.A (setFlight e none) (fun _ s₃ =>
    wpAny (model X.prog X.w) X.A (handleBy e X.env [.ExceptHandler (some (.Name x np)) (some n) [.Return (some (.Name n rp)) rp'] pos']) (SP X pins D) X.xe s₃) X.xe s₂) X.xe s₁) (fun u s' xx => ?land) PassesOwn.looking).run [] s σ H D (I.toTry _) h) (fun f s1 hsp => ?fin) (fun e s1 he => he)
  case land =>
    obtain ⟨a, B, sI, pins', σ', H', cls, d, rfl, J', nb, up, sky, na, os, ag, hb1, hd0, hyes⟩ := xx
    subst hd0
    have J : Inv X pins σ' H' sI := J'.ofTry ok
    have sky2 : Sky B (X.env :: X.outer) a (L2N.Zn cls none) X.env.locals s'.heap := hs ▸ sky
    show wpAny _ _ (noteFrame (.ref a) X.env) _ _ _
    refine L2N.Sky.land L2N.Zn.steady hfr hf sky2 fun h3 fl3 up3 => ?_
    have J3 : Inv X pins σ' H' { s' with heap := h3 } := J.landed nb fl3.1 (up.trans up3) os ag
    obtain ⟨oe3, vs3, he3, hz3, hd3⟩ := fl3.there
    have nfr : a ∉ frs (X.env :: X.outer) := fun hm => by
      obtain ⟨_, o', e', hnf⟩ := fl3.2.2.1.mem hm
      rw [he3] at e'
      cases e'
      exact hnf _ hd3
    have nL : a ≠ X.env.locals := fun z => nfr (List.mem_filterMap.mpr ⟨X.env, List.mem_cons_self, by rw [hf, z]⟩)
    have nF : a ∉ X.fs := fun hm => by
      obtain ⟨e, he, q⟩ := List.mem_filterMap.mp hm
      exact nfr (List.mem_filterMap.mpr ⟨e, List.mem_cons_of_mem _ he, q⟩)
    have sa : sI.heap.get? a = none := by
      cases q : sI.heap.get? a with
      | none => rfl
      | some o =>
        have z := nb a o q (by rw [hs]; exact nfr)
        rw [fl3.2.1] at z
        cases z
    have s0 : X.s_0.heap.get? a = none := by
      cases q : X.s_0.heap.get? a with
      | none => rfl
      | some o =>
        obtain ⟨o', z⟩ := J.base.there a o q (by rw [hex]; exact fun y => nomatch y)
        rw [sa] at z
        cases z
    have nC : ∀ y cc, X.env.cells.lookup y = some cc → cc ≠ a := fun y cc e z => by
      obtain ⟨v, o, ho, _⟩ := J.cell y cc e
      rw [z, sa] at ho
      cases ho
    have nP : ∀ p ∈ X.pn ++ pins, p.1 ≠ a := fun p hp z => by
      have w := (J.pin p hp).1
      rw [z, sa] at w
      cases w
    have S3 := J3.suite he3 hd3 na nL nF
    refine wpAny_handleBy_cons (codeAny_handlers_test ?_) (fun q => nomatch q)
    have LM := PySem.W.exm_one (M := model X.prog X.w) J3.kIn (fun A Q E s k q => wpAny_typeOf_ref (k _ _ he3) (by rw [hz3.1]; exact q)) hb1
    have test : ∀ {Q : Value → Shared → Prop} {E : Value → Shared → Prop}, Q c { s' with heap := h3 } → wpAny (model X.prog X.w) (X.A.mark (some (.ref a))) (eval (.Name x np) X.env) Q E { s' with heap := h3 } := fun {Q E} q => by
      obtain ⟨hg, hdbg, hm | ⟨hm, hv, hnn⟩⟩ := hc
      · exact ld_glob (X := X.suite a ((a, oe3) :: (X.pn ++ pins))) S3 hg hm q hdbg
      · exact ld_blt (X := X.suite a ((a, oe3) :: (X.pn ++ pins))) S3 hg hm hv q hnn hdbg
    refine test (LM.here ?_)
    refine codeAny_handlers_suite_as ?_
    refine HandSPX.lands_againZ fl3 fun h4 fl4 up4 => ?_
    have J4 : Inv X pins σ' H' { s' with heap := h4 } := J.landed nb fl4.1 ((up.trans up3).trans up4) os ag
    obtain ⟨oe4, vs4, he4, hz4, hd4⟩ := fl4.there
    have S4 := J4.suite he4 hd4 na nL nF
    refine store_ok (X := X.suite a ((a, oe4) :: (X.pn ++ pins))) (v := .ref a) S4 hN hi (.inl hln) rfl (fun s5 S5 => ?_) (.inr hln)
    have hlen : i < σ'.length := by
      rw [J.len]
      exact (List.getElem?_eq_some_iff.mp hi).1
    have suite := (pss_one (ps_ret (pos := rp') (pe_var (X := X.suite a ((a, oe4) :: (X.pn ++ pins))) (pos := rp) hi hvn hnd hnc))).run [] s5 (σ'.set i (some (.ref a))) H' { nx := fun _ _ => False, rt := fun v H6 => v = .ref a ∧ H6 = H' } S5 ⟨.ref a, List.getElem?_set_self hlen, rfl, rfl⟩
    refine wpAny_mono suite (fun f s6 hsp => ?_) (fun _ _ z => False.elim z)
    cases f with
    | next =>
      obtain ⟨_, _, _, z⟩ := hsp
      exact z.elim
    | brk =>
      obtain ⟨_, _, _, z⟩ := hsp
      exact z.elim
    | cont =>
      obtain ⟨_, _, _, z⟩ := hsp
      exact z.elim
    | ret u =>
      obtain ⟨v6, σ6, H6, S6, r6, e6, e7⟩ := hsp
      subst e6
      rw [e7] at S6
      have K6 : Inv X ((a, oe4) :: pins) σ6 H' s6 := ⟨ok, S6.os, S6.bare, S6.base, S6.loc, S6.cell, S6.free, S6.freeC, fun p hp => S6.pin p (List.mem_append_left _ (by
        rcases List.mem_append.mp hp with z | z
        · exact List.mem_cons_of_mem _ (List.mem_append_left _ z)
        · rcases List.mem_cons.mp z with z | z
          · rw [z]
            exact List.mem_cons_self
          · exact List.mem_cons_of_mem _ (List.mem_append_right _ z))), S6.hok, S6.len⟩
      refine gone_ok (Q := fun _ s7 => _) K6 hN hi hln fun s7 K7 => ?_
      have pa := (K7.pin (a, oe4) (List.mem_append_right _ List.mem_cons_self)).1
      have K8 : Inv X pins (σ6.set i none) H' s7 := ⟨K7.ok, K7.os, K7.bare, K7.base, K7.loc, K7.cell, K7.free, K7.freeC, fun p hp => K7.pin p (by
        rcases List.mem_append.mp hp with z | z
        · exact List.mem_append_left _ z
        · exact List.mem_append_right _ (List.mem_cons_of_mem _ z)), K7.hok, K7.len⟩
      exact ⟨.ref a, _, _, inv_keep K8 ⟨oe4, vs4, pa, hz4.zc, hd4⟩ na s0 nL nC nP, r6, hyes a na⟩
  case fin =>
    cases f with
    | next =>
      obtain ⟨σ', H', J', q⟩ := hsp
      exact wpAny_execs_nil ⟨σ', H', J'.ofTry ok, q⟩
    | brk =>
      obtain ⟨σ', H', J', q⟩ := hsp
      exact ⟨σ', H', J'.ofTry ok, q⟩
    | cont =>
      obtain ⟨σ', H', J', q⟩ := hsp
      exact ⟨σ', H', J'.ofTry ok, q⟩
    | ret u =>
      obtain ⟨v, σ', H', J', r, q⟩ := hsp
      exact ⟨v, σ', H', J'.ofTry ok, r, q⟩
end DL
set_option Elab.async false
set_option linter.all false
set_option maxRecDepth 100000
set_option maxHeartbeats 4000000
namespace DL
open PySem PySem.Spec PyProof.Rows L2 HotX
/-! ### _law_met(lambda: body), body raises -/
def metBody (j : Nat) (p1 p2 p3 p4 p5 p6 p7 p8 p9 p10 : Pos) : List Stmt :=
  [.Try [.Expr (.Call (.Name "deed" p1) [] [] p2) p3] [.ExceptHandler (some (.Name "RopeError" p4)) (some "e") [.Return (some (.Name "e" p5)) p6] p7] [] [] p8, .Return (some (.Constant .none j p9)) p10]
structure Met (T : Tb) (P : Program) (w : World) (K : PySem.W.Frag) (mg : Str → Option Value) (base : Heap) (c : Nat → Addr) (cR : Addr) : Prop where
  er : Errs K mg c cR
  ex : ∃ fa fd st, Fun K "_law_met" "_law_met" st fa fd ∧ mg "_law_met" = some (.ref fa) ∧ FnScope ["deed", "e"] ["deed"] (defScope st) ∧ (∃ j p1 p2 p3 p4 p5 p6 p7 p8 p9 p10, defBody st = metBody j p1 p2 p3 p4 p5 p6 p7 p8 p9 p10) ∧ Binds K fd ["deed"] [] ∧
    (defScope st).names.lookup ("RopeError" : Str) = some .globalImplicit ∧ (defScope st).names.lookup ("e" : Str) = some .local ∧ (defScope st).names.lookup ("deed" : Str) = some .local
section
variable {T : Tb} {X : Cx} {f : Fx} {Γ : List Sl} {c : Nat → Addr} {cR : Addr} {k m : Nat} {params : Arguments} {body : Expr} {scope : Scope} {p lpos pos : Pos}
theorem pe_met {R : Str → Prop} {PJ : Nat → Prop} (O : Met T X.prog X.w X.K X.mg X.base c cR) (B : Bd T X f m) (hkm : k + 2 ≤ m) (LT : LamT T X) (hT : LamX.Tabs T f.H0) (hno : ∀ s ∈ Γ, NoO s) (L : LamX.LamS X.env.scope scope)
    (hR : ∀ n, R n → ∃ j : Nat, errN[j]? = some n ∧ PJ j)
    (hbody : ∀ (A : Around) (outer : List Env) (s : Shared) (G H : Hp) (fa c' : Addr), Bd T (lamN T X A outer s H R scope fa c') ⟨G, H, R⟩ k → WE T (lamN T X A outer s H R scope fa c') ⟨G, H, R⟩ Γ body (fun _ => False))
    (hdef : defaultsOf params X.env = ([], []) := by rfl)
    (hbind : ∀ (q : Str) (cl : List (Str × Addr)) (pm cv ctv : Value), bindArgs (PySem.W.kla_fn "<lambda>" q params body scope cl pm cv ctv) ⟨[], []⟩ = pure [] := by intro _ _ _ _ _; rfl)
    (hg : Gl X "_law_met" := by rfl) : PE X (.Call (.Name "_law_met" p) [.Lambda params body scope lpos] [] pos) (fun σ H QQ => ∃ G, EnvR T X.K f Γ σ G H ∧ ∀ j a H', PJ j → Fr H a → Le T H H' → H' a = some (KexO (.ref (c j)) a) → QQ (.ref a) H') := by
  refine ⟨fun pins s σ H QW I ⟨G, en, kw⟩ => ?_⟩
  obtain ⟨g, fd, st, F, hm, Sg, ⟨j0, p1, p2, p3, p4, p5, p6, p7, p8, p9, p10, hbd⟩, hb, gR, lE, lD⟩ := O.ex
  obtain ⟨oc, od, kV, doc, pm, an, cdv, ct, osl, rfl, lk, hcg⟩ := F.ex
  obtain ⟨cc, PP, TB, hcode, hmT, hu⟩ := LT
  refine wpAny_Call_Name_kw (ld_glob I hg hm ?_ (by decide))
  refine PySem.W.callWith_K (h₀ := X.base) I.ok.mod.kin F.kp ?_ (by rfl) (by rfl)
  show wpAny _ _ (spliced ((false, eval (.Lambda params body scope lpos) X.env) :: backTo pos (starEach [] X.env))) _ _ s
  refine Calls.spliced_cons (LamX.lam_make2 I TB hcode hmT hu (en.st.le.t hT) hdef (L.has I.ok) fun fl c' pm' ctv H1 s' I1 eN T1 hf hfn hfr hco => ?_)
  refine Calls.spliced_nil ⟨I1.kIn, ?_⟩
  have st1 : Stp T G H G H1 := .keep en.sub ⟨fun b o h n => eN b o h n, fun _ => T1⟩
  have en1 := en.step st1
  have enZ : EnvR T X.K ⟨G, H1, R⟩ Γ σ G H1 := ⟨.refl en1.sub, fun i sl e => by
    obtain ⟨w', e1, q⟩ := en1.sl i sl e
    refine ⟨w', e1, ?_⟩
    cases sl with
    | own xs => exact absurd rfl (NoO.ne (hno _ (List.mem_of_getElem? e)) xs)
    | dct xs => exact absurd rfl (NoO.nd (hno _ (List.mem_of_getElem? e)) xs)
    | gen g => exact q
    | dat d => exact q
    | raw d => exact q
    | obj a o => exact q
    | no => trivial, en1.ln⟩
  have rc : codeAny (model X.prog X.w) X.A (.call (.ref g) ⟨[.ref fl], []⟩) (CR (L2N.CX X.prog X.w) X.stack X.prog X.w H1 s' (fun v H' => ∃ j a, v = .ref a ∧ PJ j ∧ Fr H a ∧ Le T H H' ∧ H' a = some (KexO (.ref (c j)) a)) (fun _ _ _ => False)) s' := by
    have B3 := B.rm.mono (show k + 2 ≤ m from hkm)
    refine LamX.run_ofS (k := k + 1) (N := ["deed", "e"]) (ps := ["deed"]) (us := [.ref fl]) (vs := [.ref fl]) lk hcg Sg B3 I1.env0 (hb s' [.ref fl] I1.kIn rfl) (.cons rfl .nil) rfl fun hr' => ?_
    rw [hbd]
    have act : ∀ (pn : List (Addr × Obj)) (xe : Value → Shared → Prop) (W : WX), L2N.Takes ((cxOf (L2N.CX X.prog X.w) X.prog X.w X.K X.mg X.base ["deed", "e"] "_law_met" (defScope st) g cdv X.A X.stack s' H1 (fun _ _ _ => False)).tr pn xe) W →
        PE ((cxOf (L2N.CX X.prog X.w) X.prog X.w X.K X.mg X.base ["deed", "e"] "_law_met" (defScope st) g cdv X.A X.stack s' H1 (fun _ _ _ => False)).tr pn xe) (.Call (.Name "deed" p1) [] [] p2)
          (fun σZ HZ QQ => σZ[0]? = some (some (.ref fl)) ∧ HZ = H1 ∧ (∀ cls d σ' H', ER T X.mg H1 R cls d H' → W cls d σ' H')) := fun pn xe W tk => by
      refine ⟨fun pinsZ sZ σZ HZ QQ IZ h => ?_⟩
      obtain ⟨hs, eHZ, hW⟩ := h
      rw [eHZ] at IZ
      refine wpAny_Call_Name_kw (thn ((pe_var (pos := p1) (i := 0) rfl (.inl lD)).run pinsZ sZ σZ H1 (fun v H' => v = .ref fl ∧ H' = H1) IZ ⟨.ref fl, hs, rfl, rfl⟩) fun u s1 ⟨v, H2, J1, r1, ev, eH⟩ => ?_)
      subst ev
      rw [eH] at J1
      obtain rfl : u = Value.ref fl := r1
      have of1 := J1.base.keep fl _ hf hfn hfr (fun z => nomatch (show fl ∈ ([] : List Addr) from z))
      refine PySem.W.callWith_F0 ⟨_, _, _, _, of1⟩ ?_
      have un : Un (frs X.stack) [] H1 H1 s'.heap s1.heap := J1.base
      obtain ⟨⟨oc2, vs2, t2, hoc, hdc, hvc⟩, _, _⟩ := J1.hok c' _ hco
      have rl : codeAny (model X.prog X.w) (X.A.deeper (envOfC "_law_met" (defScope st) s'.heap.objs.size g cdv)) (.call (.ref fl) ⟨[], []⟩)
          (CR (L2N.CX X.prog X.w) (envOfC "_law_met" (defScope st) s'.heap.objs.size g cdv :: X.stack) X.prog X.w H1 s1 QQ (ER T X.mg H1 R)) s1 := by
        refine PySem.W.kla_callFunE hr'.depth of1 rfl L.co L.gen rfl ⟨c', oc2, vs2, t2, rfl, hoc, hdc, hvc⟩ ?_
        rw [hbind]
        refine wpAny_pure (wpAny_newFunctionEnv (fun y hy => (L.own y hy).2) (fun y hy => absurd hy (by simp)) (fun h₁ hns hsb => ⟨J1.nolimit.fresh _ hsb, ?_⟩) L.kind)
        show codeAny _ _ (.expr body (LamX.lamEnv X scope s1.heap.objs.size fl c')) _ _
        have kp : ∀ b o, s1.heap.get? b = some o → h₁.get? b = some o := fun b o e =>
          hsb.extBut b o (Nat.ne_of_lt (Heap.lt_size e)) (Heap.get?_push_of_some _ e)
        have J : Inv (lamN T X (X.A.deeper (envOfC "_law_met" (defScope st) s'.heap.objs.size g cdv)) (envOfC "_law_met" (defScope st) s'.heap.objs.size g cdv :: X.stack) s1 H1 R scope fl c') [] σ H1 { s1 with heap := h₁, toks := s1.toks + ([] : List (Str × Value)).length } :=
          (LamX.lam_start2 I1 L J1.env0 hr'.hd un hns kp).wish _
        have Bl : Bd T (lamN T X (X.A.deeper (envOfC "_law_met" (defScope st) s'.heap.objs.size g cdv)) (envOfC "_law_met" (defScope st) s'.heap.objs.size g cdv :: X.stack) s1 H1 R scope fl c') ⟨G, H1, R⟩ k :=
          ⟨L2N.takes_of (E := ER T X.mg H1 R) rfl rfl rfl rfl, PassesOwn.leaving, hr'.deeper _, rfl⟩
        refine PySem.W.kla_codeExpr (wpAny_mono (hbody _ _ s1 G H1 fl c' Bl [] _ σ G H1 J enZ) (fun v s2 hq => ?_) fun e s2 hq => hq)
        obtain ⟨_, _, _, _, _, _, _, _, z⟩ := hq
        exact z.elim
      refine wpAny_call (codeAny_mono rl fun r s2 hq => ?_)
      cases r with
      | error e => exact L2N.passes_call (E := ER T X.mg H1 R) tk hW pinsZ σZ H1 s1 e s2 J1 hq
      | ok w2 =>
        cases w2 with
        | ret u => exact J1.after hq
        | next => exact False.elim hq
        | brk => exact False.elim hq
        | cont => exact False.elim hq
    refine ⟨_, pss_cons (ps_try_keep (c := .ref cR) (i := 1) (tb := fun W D σZ HZ => σZ[0]? = some (some (.ref fl)) ∧ HZ = H1 ∧ (∀ cls d σ' H', ER T X.mg H1 R cls d H' → W cls d σ' H')) rfl rfl rfl Sg.nd rfl lE (.inl lE) (by decide) (by decide) ⟨gR, by decide, .inl O.er.r⟩ (fun W pn xe tk _ => ?_)) (pss_one (ps_ret pe_non)), ?_⟩
    · exact ⟨fun pinsZ sZ σZ HZ D IZ h => (pss_one (ps_expr (pos := p3) (act pn xe W tk))).run pinsZ sZ σZ HZ D IZ h⟩
    · refine ⟨rfl, rfl, fun cls d σ' H' er => ?_⟩
      obtain ⟨rfl, le, n, cn, hn, hcn, rfl⟩ := er
      obtain ⟨j, hj, q⟩ := hR n hn
      have hj11 : j < 11 := (List.getElem?_eq_some_iff.mp hj).1
      have ec := (O.er.g j n hj).symm.trans hcn
      injection ec with ec
      injection ec with ec
      subst ec
      refine ⟨O.er.em j hj11, rfl, fun a na => ?_⟩
      have l2 : Le T H H' := st1.le.trans le
      exact ⟨j, a, rfl, q, l2.fr (fr_none na), l2.trans (.new na), upd_same⟩
  refine wpAny_call (codeAny_mono rc fun r s2 hq => ?_)
  cases r with
  | error e =>
    obtain ⟨_, _, _, _, _, _, _, _, _, _, _, _, z⟩ := hq
    exact z.elim
  | ok w2 =>
    cases w2 with
    | ret u =>
      obtain ⟨v, H', I', rv, j, a, rfl, q1, q2, q3, q4⟩ := I1.after hq
      exact ⟨.ref a, H', I', rv, kw j a H' q1 q2 q3 q4⟩
    | next => exact False.elim hq
    | brk => exact False.elim hq
    | cont => exact False.elim hq
end
/-! ### isinstance(e, C), e a kept exception -/
section
variable {T : Tb} {X : Cx} {f : Fx} {Γ : List Sl} {pos p p1 p2 : Pos}
theorem call_isK {dc : Addr} (C : ExcC X.K dc) : CallR X (.builtin "isinstance") (fun xs H Q => ∃ (a : Addr) (c : V) (cv : Value) (bb : Bool), xs = [.ref a, c] ∧ H a = some (KexO (.ref dc) a) ∧ (∀ u, RelV c u → u = cv) ∧ PySem.W.kitOne X.K (.ref dc) cv = some bb ∧ Q (.bl bb) H) := by
  intro pins s σ H xs us Q I r h
  obtain ⟨a, c, cv, bb, rfl, ha, hcv, e, q⟩ := h
  cases r with
  | cons rx rr =>
    cases rr with
    | cons rt rr =>
      cases rr
      cases rx
      have ec := hcv _ rt
      subst ec
      obtain ⟨oe, vs, hget, hz, hv⟩ := (I.hok a _ ha).1
      have J : PySem.W.InstAt s.heap a oe dc none := by
        obtain ⟨oc, od, oda, osl⟩ := oe
        obtain ⟨h1, h2⟩ := hz
        dsimp only at h1 h2 hv
        subst h1 h2 hv
        exact ⟨hget, rfl, rfl, trivial⟩
      have kx := PySem.W.handS_kitx_exc (x := a) (ox := oe) C.hg C.hk C.hs C.hd C.ha C.hn C.ht C.hm
      exact PySem.W.kia_one kx I.kIn J e (fun z => nomatch z) fun tk =>
        ⟨.bl bb, H, I.kept (t' := tk) fun _ _ z => z, rfl, q⟩
theorem de_isK {n : Nat} {y cn : Str} {ad dc cc : Addr} {r : Bool} (C : ExcC X.K dc) (h : Γ[n]? = some (.obj ad (KexO (.ref dc) ad))) (hk : PySem.W.kitOne X.K (.ref dc) (.ref cc) = some r)
    (mi : X.mg "isinstance" = none) (mc : X.mg cn = some (.ref cc)) (hN : X.N[n]? = some y := by rfl) (hv : Vis X.env.scope y := by first | exact Or.inl rfl | exact Or.inr (Or.inl rfl) | exact Or.inr (Or.inr rfl)) (hg : Gl X "isinstance" := by rfl) (hgn : Gl X cn := by rfl)
    (hs : starEach [.Name y p2, .Name cn p1] X.env = (false, eval (.Name y p2) X.env) :: starEach [.Name cn p1] X.env := by rfl) (hpl : (backTo pos (starEach [.Name cn p1] X.env)).any (·.1) = false := by rfl)
    (hd : (cn == ("__debug__" : Str)) = false := by decide) (hd1 : (y == ("__debug__" : Str)) = false := by decide) (hd2 : (y == ("__classdict__" : Str)) = false := by decide) :
    DE T X f Γ (.Call (.Name "isinstance" p) [.Name y p2, .Name cn p1] [] pos) (.bool r) :=
  .of (pe_callB (call_isK C) hg mi (by decide +kernel) (pa_cons (pe_var hN hv hd1 hd2) (pa_cons (pe_glob (v := .ref cc) hgn mc rfl hd) pa_nil) hs) (by decide) (by decide) hs hpl) fun σ G H QQ en w => ⟨_, (en.obj h).1, ad, .ref cc, .ref cc, r, rfl, (en.obj h).2.1, fun u ru => ru, hk, w _ _ G H (.refl en.sub) (.bl _) rfl⟩
theorem de_isKB {n : Nat} {y cn : Str} {bn : String} {ad dc : Addr} {r : Bool} (C : ExcC X.K dc) (h : Γ[n]? = some (.obj ad (KexO (.ref dc) ad))) (hk : PySem.W.kitOne X.K (.ref dc) (.type bn) = some r)
    (mi : X.mg "isinstance" = none) (mc : X.mg cn = none) (hb : bootBuiltins cn = some (.type bn)) (hN : X.N[n]? = some y := by rfl) (hv : Vis X.env.scope y := by first | exact Or.inl rfl | exact Or.inr (Or.inl rfl) | exact Or.inr (Or.inr rfl)) (hg : Gl X "isinstance" := by rfl) (hgn : Gl X cn := by rfl)
    (hs : starEach [.Name y p2, .Name cn p1] X.env = (false, eval (.Name y p2) X.env) :: starEach [.Name cn p1] X.env := by rfl) (hpl : (backTo pos (starEach [.Name cn p1] X.env)).any (·.1) = false := by rfl)
    (hn : cn ≠ "__name__" := by decide) (hd : (cn == ("__debug__" : Str)) = false := by decide) (hd1 : (y == ("__debug__" : Str)) = false := by decide) (hd2 : (y == ("__classdict__" : Str)) = false := by decide) :
    DE T X f Γ (.Call (.Name "isinstance" p) [.Name y p2, .Name cn p1] [] pos) (.bool r) :=
  .of (pe_callB (call_isK C) hg mi (by decide +kernel) (pa_cons (pe_var hN hv hd1 hd2) (pa_cons (pe_bltn (v := .ty bn) hgn mc hb rfl hn hd) pa_nil) hs) (by decide) (by decide) hs hpl) fun σ G H QQ en w => ⟨_, (en.obj h).1, ad, .ty bn, .type bn, r, rfl, (en.obj h).2.1, fun u ru => ru, hk, w _ _ G H (.refl en.sub) (.bl _) rfl⟩
end
end DL
set_option Elab.async false
set_option linter.all false
set_option maxRecDepth 100000
set_option maxHeartbeats 4000000
namespace DL
open PySem PySem.Spec PyProof.Rows L2 HotX
/-! ### a list of kept exceptions -/
structure MadeAt (T : Tb) (X : Cx) (f : Fx) (Γ : List Sl) (i1 : Nat) (c : Nat → Addr) (σ : L2.St) (G H : Hp) (p : Addr) (as : List Addr) : Prop where
  en : EnvR T X.K f Γ σ G H
  sl : σ[i1]? = some (some (.ref p))
  hp : H p = some (.lst (as.map V.ref))
  fr : Fr f.H0 p
  gp : G p = none
  ex : ∀ (i : Nat) (a : Addr), as[i]? = some a → H a = some (KexO (.ref (c i)) a)
section
variable {T : Tb} {X : Cx} {f : Fx} {Γ : List Sl} {c : Nat → Addr} {i1 k m : Nat} {σ : L2.St} {G H H1 : Hp} {p a : Addr} {as : List Addr} {N : List Sl → Prop} {Rt : D → Prop} {st : Stmt} {sts rest : List Stmt} {e call : Expr} {pos pn pa pc pl ps : Pos} {y : Str}
theorem MadeAt.step (M : MadeAt T X f Γ i1 c σ G H p as) (l : Le T H H1) : MadeAt T X f Γ i1 c σ G H1 p as :=
  ⟨M.en.step (.keep M.en.sub l), M.sl, l.h _ _ M.hp nt_lst, M.fr, M.gp, fun i a e => l.h _ _ (M.ex i a e) nt_ext⟩
theorem env_mutL (en : EnvR T X.K f Γ σ G H) (hno : ∀ s ∈ Γ, NoO s) (hng : ∀ s ∈ Γ, ∀ g, s ≠ .gen g) {xs ys : List V} (h0 : Fr f.H0 p) (h1 : H p = some (.lst xs)) (hg : G p = none) : EnvR T X.K f Γ σ G (upd H p (.lst ys)) := by
  refine ⟨en.st.mut h0 h1 hg, fun j sl e => ?_, en.ln⟩
  obtain ⟨w, w1, w2⟩ := en.sl j sl e
  refine ⟨w, w1, ?_⟩
  have hm := List.mem_of_getElem? e
  cases sl with
  | dat d => exact w2
  | raw v => exact w2
  | obj a o =>
    obtain ⟨a1, a2, a3⟩ := w2
    have hb : a ≠ p := fun z => by
      rw [z, h1] at a2
      exact a3.2.1 _ (Option.some.inj a2).symm
    exact ⟨a1, by rw [upd_ne hb]; exact a2, a3⟩
  | own ys => exact absurd rfl (NoO.ne (hno _ hm) ys)
  | dct ys => exact absurd rfl (NoO.nd (hno _ hm) ys)
  | gen g => exact absurd rfl (hng _ hm g)
  | no => trivial
theorem wss_of {t : TS} (h : PSs X sts t) (kk : ∀ σ G H E, EnvR T X.K f Γ σ G H → Wns T X f G N Rt E → t E σ H) : WSs T X f Γ sts N Rt := .mk fun pins s σ G H I en =>
  thn (h.run pins s σ H { nx := fun σ' H' => ∃ Γ' G', EnvR T X.K f Γ' σ' G' H' ∧ Evl.Ex G G' ∧ N Γ', rt := fun v H' => ∃ d G', Stp T f.G0 f.H0 G' H' ∧ Dp X.K G' v d ∧ Rt d } I
    (kk σ G H _ en ⟨fun Γ' σ' G' H' en' g q => ⟨Γ', G', en', g, q⟩, fun v d G' H' t dp q => ⟨d, G', t, dp, q⟩⟩)) fun fl s1 q => by
      cases fl with
      | next =>
        obtain ⟨σ', H', I', Γ', G', en', g, q⟩ := q
        exact ⟨Γ', σ', G', H', I', en', g, q⟩
      | ret u =>
        obtain ⟨v, σ', H', I', r, d, G', t, dp, q⟩ := q
        exact ⟨v, d, σ', G', H', I', r, t, dp, q⟩
      | brk =>
        obtain ⟨_, _, _, q⟩ := q
        exact q.elim
      | cont =>
        obtain ⟨_, _, _, q⟩ := q
        exact q.elim
def rdM (T : Tb) (X : Cx) (f : Fx) (Γ : List Sl) (c : Nat → Addr) (j : Nat) : TE := fun σ H QQ => ∃ G, EnvR T X.K f Γ σ G H ∧ ∀ j' a H', j' = j → Fr H a → Le T H H' → H' a = some (KexO (.ref (c j')) a) → QQ (.ref a) H'
/-- k exceptions are made; what follows is asked of the slots alone -/
def tM (T : Tb) (X : Cx) (f : Fx) (Γ : List Sl) (i1 : Nat) (c : Nat → Addr) (k : Nat) : TS := fun D σ H => ∃ G p as, MadeAt T X f Γ i1 c σ G H p as ∧ as.length = k ∧ ∀ σ' G' H', EnvR T X.K f Γ σ' G' H' → Evl.Ex G G' → D.nx σ' H'
theorem ms_0 (h : PE X call (rdM T X f Γ c 0)) (r : PSs X rest (tM T X f Γ i1 c 1)) (hs1 : Γ[i1]? = some .no) (hNd : X.N.Nodup) (hi : X.N[i1]? = some y := by rfl) (hx : Loc X.env.scope y := by first | exact Or.inl rfl | exact Or.inr rfl) (hst : starEach [call] X.env = (false, eval call X.env) :: starEach [] X.env := by rfl)
    (hs : swapsWith (.List [call] pl) (some (.Name y pn)) ps.line X.env = pure false := by rfl) (hf : X.fn y = true ∨ X.env.scope.names.lookup y = some .local := by first | exact .inl rfl | exact .inr rfl) :
    PSs X (.Assign [.Name y pn] (.List [call] pl) ps :: rest) (fun D σ H => ∃ G, EnvR T X.K f Γ σ G H ∧ ∀ σ' G' H', EnvR T X.K f Γ σ' G' H' → Evl.Ex G G' → D.nx σ' H') := by
  refine ⟨fun pins s σ H D I ⟨G, en, kk⟩ => ?_⟩
  refine (pss_cons (ps_set hNd hi hx (pe_lst (pa_cons h pa_nil hst)) hs hf) r).run pins s σ H D I ⟨G, en, fun j a H' ej ha l hk => ⟨by show 1 ≤ sizeLine; decide, fun q hq => ?_⟩⟩
  subst ej
  have hl : i1 < Γ.length := (List.getElem?_eq_some_iff.mp hs1).1
  have l2 : Le T H (upd H' q (.lst [.ref a])) := l.trans (.new hq)
  have en2 := en.step (.keep en.sub l2)
  have eΓ : Γ.set i1 .no = Γ := by
    refine List.ext_getElem? fun i => ?_
    by_cases z : i1 = i
    · subst z
      rw [List.getElem?_set_self hl, hs1]
    · rw [List.getElem?_set_ne z]
  have en3 := en2.set (i := i1) (s := .no) (w := some (.ref q)) trivial hl
  rw [eΓ] at en3
  have hqn : a ≠ q := ne_of_none hk hq
  refine ⟨G, q, [a], ⟨en3, List.getElem?_set_self (by rw [← en.ln]; exact hl), upd_same, (en.st.le.trans l).fr (fr_none hq), (Stp.keep en.sub l).s.none hq, fun i b e => ?_⟩, rfl, kk⟩
  match i, e with
  | 0, e =>
    cases e
    rw [upd_ne hqn]
    exact hk
theorem ms_app (h : PE X call (rdM T X f Γ c k)) (r : PSs X rest (tM T X f Γ i1 c (k + 1))) (hno : ∀ s ∈ Γ, NoO s) (hng : ∀ s ∈ Γ, ∀ g, s ≠ .gen g) (hk : k < 1000) (hN : X.N[i1]? = some y := by rfl) (hv : Vis X.env.scope y := by first | exact Or.inl rfl | exact Or.inr (Or.inl rfl) | exact Or.inr (Or.inr rfl))
    (hst : Sta X call := by rfl) (hfew : Few X pc call := by rfl) (hline : (pa.endLine == pc.line) = true := by rfl) (hpl : swapsWith (.Call (.Attribute (.Name y pn) "append" pa) [call] [] pc) none pos.line X.env = pure false := by rfl) (hd : (y == ("__debug__" : Str)) = false := by decide) (hcd : (y == ("__classdict__" : Str)) = false := by decide) :
    PSs X (.Expr (.Call (.Attribute (.Name y pn) "append" pa) [call] [] pc) pos :: rest) (tM T X f Γ i1 c k) := by
  refine ⟨fun pins s σ H D I ⟨G, p, as, M, hl, kk⟩ => ?_⟩
  refine (pss_cons (ps_expr (pe_bm PySem.F.plainAttrs_list PySem.F.slot_list_append PySem.F.type_list_append mt_append (pe_var hN hv hd hcd) (pa_cons h pa_nil hst) (by rfl) hfew hline hst bpl) hpl) r).run pins s σ H D I ⟨_, M.sl, .inl ⟨rfl, _, .of M.hp⟩, G, M.en, fun j a H' ej ha l hk2 => ?_⟩
  subst ej
  have M2 := M.step l
  refine ⟨p, as.map V.ref, .ref a, rfl, rfl, M2.hp, Evl.sz_lt (by rw [List.length_map, hl]; omega), G, p, as ++ [a], ⟨env_mutL M2.en hno hng M2.fr M2.hp M2.gp, M2.sl, ?_, M2.fr, M2.gp, fun i b e => ?_⟩, by rw [List.length_append, hl]; rfl, kk⟩
  · rw [upd_same, List.map_append]
    rfl
  · have hb : ∀ {b : Addr} {o : Value}, H' b = some (KexO o b) → b ≠ p := fun {b o} e z => by
      rw [z, M2.hp] at e
      cases e
    by_cases hi : i < as.length
    · rw [List.getElem?_append_left hi] at e
      have q := M2.ex i b e
      rw [upd_ne (hb q)]
      exact q
    · rw [List.getElem?_append_right (Nat.le_of_not_lt hi)] at e
      have ei : i - as.length = 0 := by
        have := (List.getElem?_eq_some_iff.mp e).1
        simp at this
        omega
      rw [ei] at e
      cases e
      have e2 : i = as.length := by omega
      rw [e2, hl, upd_ne (hb hk2)]
      exact hk2
/-- [elt for at, e in enumerate(made)], elt True at each -/
theorem pe_lcM {elt : Expr} {scope : Scope} {own : List (Str × Nat)} {x1 x2 : Str} {j1 j2 n : Nat} {q1 q2 qt qe qp qc qn : Pos} {kt : Nat} (B : Bd T X f m) (hNd : X.N.Nodup) (hme : X.mg "enumerate" = none) (hge : Gl X "enumerate")
    (ok : BlkOk X.N X.env.scope scope own) (hj1 : j1 ∈ own.map (·.2)) (hj2 : j2 ∈ own.map (·.2)) (hj : j1 ≠ j2) (hpg : ∃ g, (∀ s H C cl fp, PG (Cx.bk X scope s H C cl fp) (.Tuple [.Name x1 q1, .Name x2 q2] kt qt) g) ∧ ∀ (t : Addr) (v1 v2 : V) (σ : L2.St) (H : Hp) (Q : L2.St → Hp → Prop), H t = some (.tup [v1, v2]) → Q ((σ.set j1 (some v1)).set j2 (some v2)) H → g (.ref t) σ H Q)
    (hl1 : j1 < Γ.length) (hl2 : j2 < Γ.length) (hd : ∀ (i : Nat) (a : Addr), i < n → ∀ s H C cl fp, DE T (Cx.bk X scope s H C cl fp) f.no (((wipeG Γ (own.map (·.2))).set j1 (.dat (.int (i : Int)))).set j2 (.obj a (KexO (.ref (c i)) a))) elt (.bool true))
    (hn : n ≤ 1000) (hN : X.N[i1]? = some y := by rfl) (hv : Vis X.env.scope y := by first | exact Or.inl rfl | exact Or.inr (Or.inl rfl) | exact Or.inr (Or.inr rfl)) (hdb : (y == ("__debug__" : Str)) = false := by decide) (hcd : (y == ("__classdict__" : Str)) = false := by decide)
    (hs1 : starEach [.Name y qn] X.env = [(false, eval (.Name y qn) X.env)] := by rfl) (hs : ∀ x, foldedSetIterable (.Call (.Name "enumerate" qe) [.Name y qn] [] qc) X.env x = pure x := by intro _; rfl) :
    PE X (.ListComp elt [⟨.Tuple [.Name x1 q1, .Name x2 q2] kt qt, .Call (.Name "enumerate" qe) [.Name y qn] [] qc, [], 0⟩] scope qp) (fun σ H QQ => ∃ G p as, MadeAt T X f Γ i1 c σ G H p as ∧ as.length = n ∧ ∀ v G' H', Stp T G H G' H' → Dp X.K G' v (.list (bL (List.replicate n true))) → QQ v H') := by
  obtain ⟨g, pg, kg⟩ := hpg
  refine ⟨fun pins s σ H QQ I ⟨G, p, as, M, hlen, kk⟩ => ?_⟩
  have main := pe_lc (pos := qp) (own := own) B.calm hNd (pi_enum (p := qe) (pos := qc) (tpos := qt) (elts := [.Name x1 q1, .Name x2 q2]) (kk := kt) hge hme (pa_cons (pe_var (pos := qn) hN hv hdb hcd) pa_nil hs1) hs1) ok pg (tt := tYes)
    (te := fun σ H QQ => ∃ Γ1, (∀ s H' C cl fp, DE T (Cx.bk X scope s H' C cl fp) f.no Γ1 elt (.bool true)) ∧ rd T X f.no Γ1 (fun z => z = .bool true) σ H QQ)
    (fun s H C cl fp => pts_nil) (fun s H C cl fp => ⟨fun pins s' σ H' Q I h => by
      obtain ⟨Γ1, h1, h2⟩ := h
      exact (h1 s H C cl fp).pe.run pins s' σ H' Q I h2⟩) hs
  refine main.run pins s σ H QQ I ⟨_, M.sl, p, as.map V.ref, rfl, .of M.hp, fun q hq => ?_⟩
  have en := M.en
  have npq : p ≠ q := ne_of_none M.hp hq
  refine ⟨fun i m H' => m = n - i ∧ i ≤ n ∧ ∃ G' acc, Stp T G H G' H' ∧ G' q = none ∧ H' q = some (.lst acc) ∧ DpAll X.K G' acc (bL (List.replicate i true)), ⟨n, by simp, Nat.zero_le _, G, [], .keep en.sub (.new hq), en.sub.none hq, upd_same, .nil⟩, ?_⟩
  rintro i m H' ⟨rfl, hi, G', acc, st', g0, h0, al⟩
  have hp' := st'.le.h _ _ M.hp nt_lst
  by_cases hlt : i < n
  · have hia : i < as.length := by rw [hlen]; exact hlt
    have ea : as[i]? = some as[i] := List.getElem?_eq_getElem hia
    have ev : (as.map V.ref)[i]? = some (.ref as[i]) := by rw [List.getElem?_map, ea]; rfl
    refine .inr ⟨⟨_, _, .of hp', ev⟩, fun H2 => ∃ G2 acc2, Stp T G H G2 H2 ∧ G2 q = none ∧ H2 q = some (.lst acc2) ∧ DpAll X.K G2 acc2 (bL (List.replicate (i + 1) true)), fun H2 ⟨G2, acc2, a1, a2, a3, a4⟩ => ⟨_, by omega, rfl, hlt, G2, acc2, a1, a2, a3, a4⟩, fun x H2 y => ?_⟩
    obtain ⟨t, x', h1, h2, h3, h4⟩ := y
    have e5 := h4 _ (.of hp')
    rw [ev] at e5
    cases e5
    subst h1 h3
    have s0 : Stp T G' H' G' (upd H' t (.tup [.int (i : Nat), .ref as[i]])) := .keep st'.s (.new h2)
    have st3 := st'.trans s0
    have hq3 := s0.le.h _ _ h0 nt_lst
    have enw := (env_wipe (en.step st3) (own.map (·.2))).no
    have hka : (upd H' t (.tup [.int (i : Nat), .ref as[i]])) as[i] = some (KexO (.ref (c i)) as[i]) := st3.le.h _ _ (M.ex i _ ea) nt_ext
    refine kg t _ _ _ _ _ upd_same ⟨?_, ?_⟩
    · refine wipe_same (ns := [j1, j2]) (fun z hz => ?_) (by rw [List.length_set, List.length_set, wipe_length]) (fun z hz => ?_)
      · rcases List.mem_cons.mp hz with e | e
        · rw [e]; exact hj1
        · rw [List.mem_singleton.mp e]; exact hj2
      · have z1 : j1 ≠ z := fun e => hz (by rw [e]; exact List.mem_cons_self)
        have z2 : j2 ≠ z := fun e => hz (by rw [e]; exact List.mem_cons_of_mem _ List.mem_cons_self)
        rw [List.getElem?_set_ne z2, List.getElem?_set_ne z1]
    · have en2 := (enw.set (i := j1) (s := .dat (.int (i : Int))) (w := some (.int (i : Int))) ⟨_, rfl, .int _⟩ (by rw [wipeG_len]; exact hl1)).set (i := j2) (s := .obj as[i] (KexO (.ref (c i)) as[i])) (w := some (.ref as[i])) ⟨rfl, hka, fix_ext⟩ (by rw [List.length_set, wipeG_len]; exact hl2)
      refine ⟨_, hd i as[i] hlt, G', en2, fun v d G4 H4 s4 dp4 e4 => ?_⟩
      subst e4
      have h4' := s4.le.h _ _ hq3 nt_lst
      have g4 := s4.n q _ g0 hq3 nt_lst
      refine ⟨acc, h4', Evl.sz_lt ?_, G4, acc ++ [v], (st3.trans s4).mut (fr_none hq) h4' g4, g4, upd_same, ?_⟩
      · rw [dpa_len al]
        show (List.map PyData.bool (List.replicate i true)).length < 100000
        rw [List.length_map, List.length_replicate]
        omega
      · have e : bL (List.replicate (i + 1) true) = bL (List.replicate i true) ++ [.bool true] := by
          unfold bL
          rw [List.replicate_succ', List.map_append]
          rfl
        rw [e]
        exact dpa_app (dpa_mono s4.g _ _ al) (.cons dp4 .nil)
  · have e : i = n := by omega
    subst e
    refine .inl ⟨⟨_, .of hp', by rw [List.length_map, hlen]; exact Nat.le_refl _⟩, ?_⟩
    have gx : Evl.Ex G' (upd G' q (.lst acc)) := Evl.Ex.new g0
    have st2 : Stp T G H (upd G' q (.lst acc)) H' := by
      refine ⟨st'.le, st'.g.trans gx, fun b o e => ?_, fun b o h1 h2 h3 => ?_⟩
      · by_cases hb : b = q
        · subst hb
          rw [upd_same] at e
          cases e
          exact ⟨h0, nt_lst⟩
        · rw [upd_ne hb] at e
          exact st'.s b o e
      · rw [upd_ne (ne_of_none h2 hq)]
        exact st'.n b o h1 h2 h3
    exact kk _ _ _ st2 (.lst (.of upd_same) (dpa_mono gx _ _ al))
end
end DL
set_option Elab.async false
set_option linter.all false
set_option maxRecDepth 100000
set_option maxHeartbeats 4000000
namespace DL
open PySem PySem.Spec PyProof.Rows L2 HotX
section
variable {T : Tb} {X : Cx} {f : Fx} {Γ : List Sl} {c : Nat → Addr} {i1 k m n : Nat} {lc : Expr} {xs : List Stmt} {q1 q2 q3 q4 pos : Pos}
theorem all_rep (n : Nat) : (List.replicate n true).all id = true := by
  rw [List.all_eq_true]
  intro b hb
  rw [List.eq_of_mem_replicate hb]
  rfl
theorem ms_end (B : Bd T X f m) (h : PE X lc (fun σ H QQ => ∃ G p as, MadeAt T X f Γ i1 c σ G H p as ∧ as.length = n ∧ ∀ v G' H', Stp T G H G' H' → Dp X.K G' v (.list (bL (List.replicate n true))) → QQ v H')) (hma : X.mg "all" = none) (hg : Gl X "all" := by rfl) (hs : Sta X lc := by rfl) :
    PSs X [.If (.UnaryOp .Not (.Call (.Name "all" q1) [lc] [] q2) q3) xs [] q4] (tM T X f Γ i1 c n) := by
  refine ⟨fun pins s σ H D I ⟨G, p, as, M, hl, kk⟩ => ?_⟩
  have hx : PSs X xs (fun _ _ _ => False) := ⟨fun _ _ _ _ _ _ z => z.elim⟩
  refine (pss_one (ps_if (pos := q4) (pt_not (pt_val (pe_callB (cr_all B.calm) hg hma (by decide +kernel) (pa_cons h pa_nil hs) (by decide) (by decide) hs bpl))) hx pss_nil)).run pins s σ H D I ?_
  refine ⟨G, p, as, M, hl, fun v G' H' st dp => ?_⟩
  cases dp with
  | lst sq al =>
    have e := dpa_bL al
    subst e
    refine ⟨_, _, rfl, sq_up st.s sq, _, rfl, ?_⟩
    show (if (!((List.replicate n true).all id)) = true then False else D.nx σ H')
    rw [all_rep, if_neg (by decide)]
    exact kk σ G' H' (M.en.step st) st.g
/-- x * n, x a text -/
def repS (x : Str) (n : Nat) : Str := ⟨(List.replicate n x.cps).foldl (· ++ ·) #[]⟩
theorem rep_fold (d : Nat) : ∀ (k : Nat) (acc : Array Nat), ((List.replicate k #[d]).foldl (· ++ ·) acc).toList = acc.toList ++ List.replicate k d
  | 0, acc => by simp
  | k + 1, acc => by
    rw [List.replicate_succ, List.foldl_cons, rep_fold d k, Array.toList_append, List.append_assoc]
    rfl
theorem rep_tl (d k : Nat) : TL.tl (repS ⟨#[d]⟩ k) = List.replicate k d := by
  have e := rep_fold d k #[]
  have e0 : (#[] : Array Nat).toList = [] := rfl
  rw [e0, List.nil_append] at e
  exact e
theorem rep_len (d k : Nat) : (repS ⟨#[d]⟩ k).length = k := by
  rw [TL.len_tl, rep_tl, List.length_replicate]
theorem op_mulS : OpR X (binaryOp .Mult) (fun x y H Q => ∃ (d : Nat) (n : Int), x = .str ⟨#[d]⟩ ∧ y = .int n ∧ 2 ≤ n ∧ n ≤ 1000 ∧ Q (.str (repS ⟨#[d]⟩ n.toNat)) H) := by
  intro pins s σ H x y v u Q I rx ry h
  obtain ⟨d, n, rfl, rfl, h1, h2, q⟩ := h
  obtain ⟨t, rfl⟩ := rx
  obtain ⟨t', rfl⟩ := ry
  have h3 : (⟨#[d]⟩ : Str).length = 1 := rfl
  have hn : ¬ n < 1 := by omega
  have he : (n == 1 || (⟨#[d]⟩ : Str).length == 0) = false := by
    rw [h3]
    have : (n == 1) = false := by
      rw [beq_eq_false_iff_ne]
      omega
    rw [this]
    rfl
  refine PySem.P.mul_str ?_ (fun _ _ => ?_) (fun _ _ => ?_) ?_
  · rw [decide_eq_false (by omega), decide_eq_false (by omega)]
    rfl
  · rw [h3]
    have : (1 : Int) ≤ (2 ^ 63 - 1) / n := by
      rw [Int.le_ediv_iff_mul_le (by omega)]
      omega
    omega
  · rw [h3]
    have hle : 1 * n.toNat ≤ 1000 := by omega
    unfold Builtin.Str.tooLong
    exact decide_eq_false (by first | omega | (unfold sizeLine; omega))
  · rw [if_neg hn, he]
    refine ⟨?_, .str _, H, I.tok _, ⟨_, rfl⟩, q⟩
    have e := rep_len d n.toNat
    show (repS ⟨#[d]⟩ n.toNat).length ≤ sizeLine
    rw [e]
    exact szT (by omega)
end
section
variable {T : Tb} {X : Cx} {f : Fx} {Γ : List Sl} {a b : Expr} {pos : Pos}
theorem de_mulS {d : Nat} {n : Int} (ha : DE T X f Γ a (.str ⟨#[d]⟩)) (hb : DE T X f Γ b (.int n)) (h1 : 2 ≤ n) (h2 : n ≤ 1000) : DE T X f Γ (.BinOp a .Mult b pos) (.str (repS ⟨#[d]⟩ n.toNat)) :=
  de_op (pe_op op_mulS ha.pe hb.pe) fun G H v w QQ s d1 d2 k => by
    cases d1
    cases d2
    exact ⟨d, n, rfl, rfl, h1, h2, k _ _ G H (.refl s) (.str _) rfl⟩
end
end DL
set_option Elab.async false
set_option linter.all false
set_option maxRecDepth 100000
set_option maxHeartbeats 1000000
namespace KR
open PySem DL L2
def cAlone (c : Nat → Addr) : Ct := fun as S => ∃ (a : Addr) (j : Nat), j < 11 ∧ as = [.obj a (KexO (.ref (c j)) a), .dat (.int (j : Int))] ∧ S = Ret (.ok (.bool true))
def alV (j : Nat) (d : D) : D := match d with
  | .int i => .bool (decide (i = (j : Int)))
  | _ => .none
theorem alone_F : ∀ j : Fin 11, PyData.eqv (.list (bL (flagsOf j.1))) (.list (((rngD 0 11).filter (fun _ => true)).map (alV j.1))) = true := by decide +kernel
theorem alone_eq (j : Nat) (h : j < 11) : PyData.eqv (.list (bL (flagsOf j))) (.list (((rngD 0 11).filter (fun _ => true)).map (alV j))) = true := alone_F ⟨j, h⟩
theorem dash_no {n : Nat} (h : 1 ≤ n) : parseOk (repS ⟨#[45]⟩ n) = false := by
  cases q : parseOk (repS ⟨#[45]⟩ n) with
  | false => rfl
  | true =>
    obtain ⟨a, b, c, ht, _, ew⟩ := parse_text q
    have e := congrArg TL.tl ew
    rw [rep_tl] at e
    unfold writtenS at e
    rw [TL.join_eq, TL.tl_join] at e
    have ha : 0 ≤ a := (tri_in ht a (by simp)).1
    have e2 : TL.numL a.toNat ++ (TL.tl dash ++ TL.joinL (TL.tl dash) [TL.tl (numS b), TL.tl (numS c)]) = List.replicate n 45 := by
      rw [← tl_numS ha]
      exact e
    obtain ⟨m, rfl⟩ : ∃ m, n = m + 1 := ⟨n - 1, by omega⟩
    rw [List.replicate_succ] at e2
    cases q2 : TL.numL a.toNat with
    | nil => exact absurd q2 (TL.numL_ne _)
    | cons x r =>
      have hx := TL.numL_digits a.toNat x (by rw [q2]; exact List.mem_cons_self)
      rw [q2, List.cons_append] at e2
      have := (List.cons.inj e2).1
      omega
theorem ch_noF : ∀ x : Fin 8, isTriD (chT (3, 4, 5) 2 (2 + (x.1 : Int))) = false := by decide +kernel
theorem ch_no {n : Int} (h1 : 2 ≤ n) (h2 : n ≤ 9) : isTriD (chT (3, 4, 5) 2 n) = false := by
  have q := ch_noF ⟨(n - 2).toNat, by omega⟩
  have e : 2 + (((n - 2).toNat : Nat) : Int) = n := by omega
  rw [show (2 + (((⟨(n - 2).toNat, by omega⟩ : Fin 8).1 : Nat) : Int)) = n from e] at q
  exact q
theorem tri345 : Tri 3 4 5 := ⟨by decide, by decide, by decide, by decide, by decide⟩
theorem both345 : BothR 3 4 5 3 4 5 := ⟨tri345, tri345, by decide +kernel, by decide +kernel⟩
theorem no_whole {n lo hi : Int} (h : hi < n) : isWhole (.int n) lo hi = false := by
  show (decide (lo ≤ n) && decide (n ≤ hi)) = false
  rw [decide_eq_false (show ¬ n ≤ hi by omega), Bool.and_false]
theorem tri44 {n : Int} (h0 : 0 ≤ n) (h2 : n ≤ 2) : Tri 4 4 (4 + n) ∧ rightB 4 4 (4 + n) = false := by
  rcases (show n = 0 ∨ n = 1 ∨ n = 2 by omega) with rfl | rfl | rfl
  · exact ⟨⟨by decide, by decide, by decide, by decide, by decide⟩, by decide +kernel⟩
  · exact ⟨⟨by decide, by decide, by decide, by decide, by decide⟩, by decide +kernel⟩
  · exact ⟨⟨by decide, by decide, by decide, by decide, by decide⟩, by decide +kernel⟩
theorem area111 : areaD 1 1 1 = .none := by
  have e : isN (areaD 1 1 1) = true := by decide +kernel
  cases q : areaD 1 1 1 with
  | none => rfl
  | _ =>
    rw [q] at e
    cases e
theorem no_redo0 (d : D) : (fr0 d).lookup ("redo" : Str) = none := look_no _ _ _ (by decide +kernel) (by decide +kernel) (by decide +kernel)
theorem no_change0 (d : D) : (fr0 d).lookup ("change" : Str) = none := look_no _ _ _ (by decide +kernel) (by decide +kernel) (by decide +kernel)
end KR
set_option Elab.async false
set_option linter.all false
set_option maxRecDepth 100000
set_option maxHeartbeats 4000000
namespace KR
open PySem PySem.Spec PyProof.Rows L2 DL
def topS (i : Nat) : Stmt := PySem.Challenge.pw_knotropes_k21_errors_apart.main.body.getD i (.Pass ⟨0, 0, 0, 0⟩)
section
variable {T : Tb} {P : Program} {w : World} {K : PySem.W.Frag} {mg : Str → Option Value} {base : Heap}
abbrev s_is_whole : Stmt := topS 14
theorem sc_is_whole : FnScope ["value", "low", "high"] ["value", "low", "high"] (defScope s_is_whole) := ⟨rfl, rfl, rfl, by decide +kernel, rfl, by decide +kernel, by decide +kernel⟩
theorem ok_is_whole (M : Mb mg) (A : DefAt K mg "is_whole" s_is_whole) : Dfn T P w K mg base "is_whole" 1 cIsWhole := by
  refine fn_dfn (k := 0) A sc_is_whole (fun _ _ _ _ _ _ us hl => match us, hl with | [_, _, _], _ => rfl) (fun as S h => ?_) (fun fa cdv A outer s G H E as S hC B => ?_)
  · rcases h with ⟨d, lo, hi, rfl, rfl⟩ <;> exact ⟨rfl, by simp⟩
  · rcases hC with ⟨d, lo, hi, rfl, rfl⟩
    refine wss_ret ?_
    cases d with
    | int i => exact DE.we (de_and (de_isInt (dv 0 rfl) M.isinstance M.int) fun _ => (de_and (de_not (de_isBool (dv 0 rfl) M.isinstance M.bool)) fun _ => (de_one (de_chain op_le op_le (dv 1 rfl) (dv 0 rfl) (dv 2 rfl))))) rfl
    | bool i => exact DE.we (de_andT (de_isInt (dv 0 rfl) M.isinstance M.int) rfl (de_andF (de_not (de_isBool (dv 0 rfl) M.isinstance M.bool)) rfl)) rfl
    | none => exact DE.we (de_andF (de_isInt (dv 0 rfl) M.isinstance M.int) rfl) rfl
    | str z => exact DE.we (de_andF (de_isInt (dv 0 rfl) M.isinstance M.int) rfl) rfl
    | list z => exact DE.we (de_andF (de_isInt (dv 0 rfl) M.isinstance M.int) rfl) rfl
    | tuple z => exact DE.we (de_andF (de_isInt (dv 0 rfl) M.isinstance M.int) rfl) rfl
    | dict z => exact DE.we (de_andF (de_isInt (dv 0 rfl) M.isinstance M.int) rfl) rfl
end
end KR
set_option Elab.async false
set_option linter.all false
set_option maxRecDepth 100000
set_option maxHeartbeats 4000000
namespace KR
open PySem PySem.Spec PyProof.Rows L2 DL
section
variable {T : Tb} {P : Program} {w : World} {K : PySem.W.Frag} {mg : Str → Option Value} {base : Heap} {C : Addr}
abbrev s_F : Stmt := topS 28
abbrev s_F___init__ : Stmt := clsS s_F 0
theorem sc_F___init__ : FnScope ["self", "triangle"] ["self", "triangle"] (defScope s_F___init__) := ⟨rfl, rfl, rfl, by decide +kernel, rfl, by decide +kernel, by decide +kernel⟩
abbrev s_F_change : Stmt := clsS s_F 1
theorem sc_F_change : FnScope ["self", "place", "number", "sides", "made"] ["self", "place", "number"] (defScope s_F_change) := ⟨rfl, rfl, rfl, by decide +kernel, rfl, by decide +kernel, by decide +kernel⟩
abbrev s_F_triangle : Stmt := clsS s_F 2
theorem sc_F_triangle : FnScope ["self"] ["self"] (defScope s_F_triangle) := ⟨rfl, rfl, rfl, by decide +kernel, rfl, by decide +kernel, by decide +kernel⟩
abbrev s_F_undo : Stmt := clsS s_F 3
theorem sc_F_undo : FnScope ["self"] ["self"] (defScope s_F_undo) := ⟨rfl, rfl, rfl, by decide +kernel, rfl, by decide +kernel, by decide +kernel⟩
abbrev s_F_redo : Stmt := clsS s_F 4
theorem sc_F_redo : FnScope ["self"] ["self"] (defScope s_F_redo) := ⟨rfl, rfl, rfl, by decide +kernel, rfl, by decide +kernel, by decide +kernel⟩
abbrev s_F___len__ : Stmt := clsS s_F 5
theorem sc_F___len__ : FnScope ["self"] ["self"] (defScope s_F___len__) := ⟨rfl, rfl, rfl, by decide +kernel, rfl, by decide +kernel, by decide +kernel⟩
theorem own53 {a b c d : Sl} {xs : List D} (ha : NoO a) (hb : NoO b) (hc : NoO c) (hd : NoO d) : OneOwn [a, b, c, .own xs, d] 3 := fun j ys hj e => by
  match j, hj, e with
  | 0, _, e => exact NoO.ne ha ys (Option.some.inj e)
  | 1, _, e => exact NoO.ne hb ys (Option.some.inj e)
  | 2, _, e => exact NoO.ne hc ys (Option.some.inj e)
  | 3, h, _ => exact h rfl
  | 4, _, e => exact NoO.ne hd ys (Option.some.inj e)
  | j + 5, _, e => cases e
theorem ok_F_init {fa : Addr} {fd : FuncData} (F : Fun K "__init__" "Frame.__init__" s_F___init__ fa fd) (FC : FrC K C) (D_need_triangle : Dfn T P w K mg base "need_triangle" 3 cNeedTri) : FnOk P w K mg base (L2N.CX P w) 4 fa fd ["self", "triangle"] (spF T K C (cInit K C isTriD fr0)) := by
  refine fn_fi F sc_F___init__ (fun p z as S h => ?_) (fun cdv A outer s G H E p z as S hC B => ?_)
  · obtain ⟨d, _, _, rfl, _⟩ := h
    exact ⟨rfl, by simp⟩
  · obtain ⟨d, hd, rfl, rfl, rfl⟩ := hC
    refine wss_expr (Q := fun _ => True) (we_call D_need_triangle B (by decide) (DA.wa (da_cons (dv 1 rfl) da_nil)) (.inl ⟨_, hd, rfl, rfl⟩) (fun r e => by subst e; trivial)) (fun _ => ?_)
    refine wss_cons (N' := fun Γ' => Γ' = [.gen (frG K C p [(("now" : Str), d)]), .dat d]) (ws_fld (n := 0) rfl (oneF0 (ng_cons ng_dat ng_nil)) fr_cutp (dv 1 rfl) FC.c FC.n1 (by decide) rfl) ?_
    rintro _ rfl
    refine wss_cons (N' := fun Γ' => Γ' = [.gen (frG K C p [(("now" : Str), d), (("earlier" : Str), .list [])]), .dat d]) (ws_fld (n := 0) rfl (oneF0 (ng_cons ng_dat ng_nil)) fr_cutp (de_lst da_nil) FC.c FC.n2 (Nat.le_of_ble_eq_true rfl) (by rw [put_1]; rfl)) ?_
    rintro _ rfl
    refine wss_one (ws_fld (n := 0) rfl (oneF0 (ng_cons ng_dat ng_nil)) fr_cutp (de_lst da_nil) FC.c FC.n3 (Nat.le_of_ble_eq_true rfl) ?_)
    rw [put_2]
    exact ⟨0, _, rfl, rfl, rfl⟩
theorem ok_F_initX {fa : Addr} {fd : FuncData} (F : Fun K "__init__" "Frame.__init__" s_F___init__ fa fd) (FC : FrC K C) (D_need_triangle : Dfn T P w K mg base "need_triangle" 3 cNeedTri) : FnOk P w K mg base (L2N.CX P w) 4 fa fd ["self", "triangle"] (spD T K mg (cInitX K C isTriD "InvalidTriangle")) := by
  refine fn_dq F sc_F___init__ (fun as S h => ?_) (fun cdv A outer s G H E as S hC B => ?_)
  · obtain ⟨p, d, _, rfl, _⟩ := h
    exact ⟨rfl, by simp⟩
  · obtain ⟨p, d, hd, rfl, rfl⟩ := hC
    exact wss_expr (Q := fun _ => False) (we_call D_need_triangle B (by decide) (DA.wa (da_cons (dv 1 rfl) da_nil)) (.inr ⟨_, hd, rfl, rfl⟩) (fun r e => by subst e; exact rfl)) (fun ⟨_, z⟩ => z.elim)
theorem ok_F_changeX {fa : Addr} {fd : FuncData} (F : Fun K "change" "Frame.change" s_F_change fa fd) (FC : FrC K C) (M : Mb mg) (D_is_whole : Dfn T P w K mg base "is_whole" 1 cIsWhole) (D_is_triangle : Dfn T P w K mg base "is_triangle" 2 cIsTri) {c1 c2 c3 : Addr} (X_InvalidPlace : XC K mg "InvalidPlace" c1) (X_InvalidNumber : XC K mg "InvalidNumber" c2) (X_NoTriangle : XC K mg "NoTriangle" c3) : FnOk P w K mg base (L2N.CX P w) 3 fa fd ["self", "place", "number"] (spD T K mg (cChX K C)) := by
  refine fn_dq F sc_F_change (fun as S h => ?_) (fun cdv A outer s G H E as S hC B => ?_)
  · obtain ⟨p, t, ea, un, pl, nu, rfl, _⟩ := h
    exact ⟨rfl, by simp⟩
  obtain ⟨p, t, ea, un, pl, nu, rfl, h | h | h⟩ := hC
  · obtain ⟨h1, rfl⟩ := h
    exact dif (q := true) (DT.is (dt_not (dt_val (de_call D_is_whole B (by decide) (da_cons (dv 1 rfl) (da_cons de_int (da_cons de_int da_nil))) ⟨_, _, _, rfl, rfl⟩))) (by rw [h1]; rfl)) (fun _ => wss_one (ws_raise B X_InvalidPlace rfl)) (fun z => noT z)
  · obtain ⟨h1, h2, rfl⟩ := h
    refine dif (q := false) (DT.is (dt_not (dt_val (de_call D_is_whole B (by decide) (da_cons (dv 1 rfl) (da_cons de_int (da_cons de_int da_nil))) ⟨_, _, _, rfl, rfl⟩))) (by rw [h1]; rfl)) (fun z => nof z) (fun _ => wss_nil ?_)
    exact dif (q := true) (DT.is (dt_not (dt_val (de_call D_is_whole B (by decide) (da_cons (dv 2 rfl) (da_cons (de_neg de_int) (da_cons de_int da_nil))) ⟨_, _, _, rfl, rfl⟩))) (by rw [h2]; rfl)) (fun _ => wss_one (ws_raise B X_InvalidNumber rfl)) (fun z => noT z)
  · obtain ⟨m, n, hm, hn1, hn2, rfl, rfl, ht, rfl⟩ := h
    have hw1 : isWhole (.int (m : Int)) 0 2 = true := by
      show (decide ((0 : Int) ≤ (m : Int)) && decide ((m : Int) ≤ 2)) = true
      simp only [Bool.and_eq_true, decide_eq_true_eq]
      omega
    have hw2 : isWhole (.int n) (-9) 9 = true := by
      show (decide ((-9 : Int) ≤ n) && decide (n ≤ 9)) = true
      simp only [Bool.and_eq_true, decide_eq_true_eq]
      omega
    refine dif (q := false) (DT.is (dt_not (dt_val (de_call D_is_whole B (by decide) (da_cons (dv 1 rfl) (da_cons de_int (da_cons de_int da_nil))) ⟨_, _, _, rfl, rfl⟩))) (by rw [hw1]; rfl)) (fun z => nof z) (fun _ => wss_nil ?_)
    refine dif (q := false) (DT.is (dt_not (dt_val (de_call D_is_whole B (by decide) (da_cons (dv 2 rfl) (da_cons (de_neg de_int) (da_cons de_int da_nil))) ⟨_, _, _, rfl, rfl⟩))) (by rw [hw2]; rfl)) (fun z => nof z) (fun _ => wss_nil ?_)
    refine wss_cons (N' := fun Γ' => Γ' = [.gen (frG K C p (F3 (trD t) (.list (trL ea)) (.list (trL un)))), .dat (.int (m : Int)), .dat (.int n), .own (iL (l3 t)), .no]) (ws_listO (i := 3) (ds := iL (l3 t)) (de_fld (n := 0) (z := (F3 (trD t) (.list (trL ea)) (.list (trL un)))) rfl (look_now _ _ _) FC.c FC.n1) M.list rfl sc_F_change.nd (Nat.le_of_ble_eq_true rfl)) ?_
    rintro _ rfl
    refine wss_cons (N' := fun Γ' => Γ' = [.gen (frG K C p (F3 (trD t) (.list (trL ea)) (.list (trL un)))), .dat (.int (m : Int)), .dat (.int n), .own (iL ((l3 t).set m ((l3 t).getD m 0 + n))), .no]) (ws_setO (n := 3) (m := m) (xs := iL (l3 t)) rfl (own53 rfl rfl rfl rfl) (de_add (de_ixO (n := 3) rfl (dv 1 rfl) (getI hm)) (dv 2 rfl)) (dv 1 rfl) rfl hm (by rw [iL_set]; rfl)) ?_
    rintro _ rfl
    refine wss_frz (n := 3) rfl (own53 rfl rfl rfl rfl) ?_
    refine asg 4 sc_F_change.nd (DE.is (d' := chT t m n) (de_tupleL (de_sorted (ns := (l3 t).set m ((l3 t).getD m 0 + n)) (dv 3 rfl) M.sorted) M.tuple) rfl) ?_
    exact dif (q := true) (DT.is (dt_not (dt_val (de_call D_is_triangle B (by decide) (da_cons (dv 4 rfl) da_nil) ⟨_, rfl, rfl⟩))) (by rw [ht]; rfl)) (fun _ => wss_one (ws_raise B X_NoTriangle rfl)) (fun z => noT z)
theorem ok_F_change {fa : Addr} {fd : FuncData} (F : Fun K "change" "Frame.change" s_F_change fa fd) (FC : FrC K C) (M : Mb mg) (D_is_whole : Dfn T P w K mg base "is_whole" 1 cIsWhole) (D_is_triangle : Dfn T P w K mg base "is_triangle" 2 cIsTri) : FnOk P w K mg base (L2N.CX P w) 3 fa fd ["self", "place", "number"] (spF T K C (cCh K C)) := by
  refine fn_f F sc_F_change (fun p z as S h => ?_) (fun cdv A outer s G H E p z as S hC B _ => ?_)
  · obtain ⟨t, ea, un, m, n, t', _, _, _, _, _, _, _, rfl, _⟩ := h
    exact ⟨rfl, by simp⟩
  · obtain ⟨t, ea, un, m, n, t', hel, hm, hn1, hn2, ech, htr, rfl, rfl, rfl⟩ := hC
    have hw1 : isWhole (.int (m : Int)) 0 2 = true := by
      show (decide ((0 : Int) ≤ (m : Int)) && decide ((m : Int) ≤ 2)) = true
      simp only [Bool.and_eq_true, decide_eq_true_eq]
      omega
    have hw2 : isWhole (.int n) (-9) 9 = true := by
      show (decide ((-9 : Int) ≤ n) && decide (n ≤ 9)) = true
      simp only [Bool.and_eq_true, decide_eq_true_eq]
      omega
    refine wr_if (Qc := fun q => q = false) (DT.is (dt_not (dt_val (de_call D_is_whole B (by decide) (da_cons (dv 1 rfl) (da_cons de_int (da_cons de_int da_nil))) ⟨_, _, _, rfl, rfl⟩))) (by rw [hw1]; rfl)) (fun z => noT z) (fun _ => ?_)
    refine wr_if (Qc := fun q => q = false) (DT.is (dt_not (dt_val (de_call D_is_whole B (by decide) (da_cons (dv 2 rfl) (da_cons (de_neg de_int) (da_cons de_int da_nil))) ⟨_, _, _, rfl, rfl⟩))) (by rw [hw2]; rfl)) (fun z => noT z) (fun _ => ?_)
    refine wr_cons (N := fun Γ' => Γ' = [.gen (frG K C p (F3 (trD t) (.list (trL ea)) (.list (trL un)))), .dat (.int (m : Int)), .dat (.int n), .own (iL (l3 t)), .no]) (ws_listO (i := 3) (ds := iL (l3 t)) (de_fld (n := 0) (z := (F3 (trD t) (.list (trL ea)) (.list (trL un)))) rfl (look_now _ _ _) FC.c FC.n1) M.list rfl sc_F_change.nd (Nat.le_of_ble_eq_true rfl)) ?_
    rintro _ rfl
    refine wr_cons (N := fun Γ' => Γ' = [.gen (frG K C p (F3 (trD t) (.list (trL ea)) (.list (trL un)))), .dat (.int (m : Int)), .dat (.int n), .own (iL ((l3 t).set m ((l3 t).getD m 0 + n))), .no]) (ws_setO (n := 3) (m := m) (xs := iL (l3 t)) rfl (own53 rfl rfl rfl rfl) (de_add (de_ixO (n := 3) rfl (dv 1 rfl) (getI hm)) (dv 2 rfl)) (dv 1 rfl) rfl hm (by rw [iL_set]; rfl)) ?_
    rintro _ rfl
    refine wr_frz (n := 3) rfl (own53 rfl rfl rfl rfl) ?_
    refine wr_cons (N := fun Γ' => Γ' = [.gen (frG K C p (F3 (trD t) (.list (trL ea)) (.list (trL un)))), .dat (.int (m : Int)), .dat (.int n), .dat (.list (iL ((l3 t).set m ((l3 t).getD m 0 + n)))), .dat (chT t m n)]) (ws_asg (n := 4) (DE.we (DE.is (d' := chT t m n) (de_tupleL (de_sorted (ns := (l3 t).set m ((l3 t).getD m 0 + n)) (dv 3 rfl) M.sorted) M.tuple) rfl) rfl) sc_F_change.nd rfl (.inl rfl)) ?_
    rintro _ rfl
    rw [ech]
    refine wr_if (Qc := fun q => q = false) (DT.is (dt_not (dt_val (de_call D_is_triangle B (by decide) (da_cons (dv 4 rfl) da_nil) ⟨_, rfl, rfl⟩))) (by rw [htr]; rfl)) (fun z => noT z) (fun _ => ?_)
    refine wr_cons (N := fun Γ' => Γ' = [.gen (frG K C p (F3 (trD t) (.list (trL ea ++ [trD t])) (.list (trL un)))), .dat (.int (m : Int)), .dat (.int n), .dat (.list (iL ((l3 t).set m ((l3 t).getD m 0 + n)))), .dat (trD t')]) (ws_fld (n := 0) rfl (oneF0 (ng_cons ng_dat (ng_cons ng_dat (ng_cons ng_dat (ng_cons ng_dat ng_nil))))) fr_cutp (de_cat (de_fld (n := 0) (z := (F3 (trD t) (.list (trL ea)) (.list (trL un)))) rfl (look_ea _ _ _) FC.c FC.n2) (de_lst (da_cons (de_fld (n := 0) (z := (F3 (trD t) (.list (trL ea)) (.list (trL un)))) rfl (look_now _ _ _) FC.c FC.n1) da_nil)) (by rw [trL_l]; show ea.length + 1 ≤ 100000; omega)) FC.c FC.n2 (Nat.le_of_ble_eq_true rfl) (by rw [put_ea]; rfl)) ?_
    rintro _ rfl
    refine wr_cons (N := fun Γ' => Γ' = [.gen (frG K C p (F3 (trD t) (.list (trL ea ++ [trD t])) (.list []))), .dat (.int (m : Int)), .dat (.int n), .dat (.list (iL ((l3 t).set m ((l3 t).getD m 0 + n)))), .dat (trD t')]) (ws_fld (n := 0) rfl (oneF0 (ng_cons ng_dat (ng_cons ng_dat (ng_cons ng_dat (ng_cons ng_dat ng_nil))))) fr_cutp (de_lst da_nil) FC.c FC.n3 (Nat.le_of_ble_eq_true rfl) (by rw [put_un]; rfl)) ?_
    rintro _ rfl
    refine wr_cons (N := fun Γ' => Γ' = [.gen (frG K C p (F3 (trD t') (.list (trL ea ++ [trD t])) (.list []))), .dat (.int (m : Int)), .dat (.int n), .dat (.list (iL ((l3 t).set m ((l3 t).getD m 0 + n)))), .dat (trD t')]) (ws_fld (n := 0) rfl (oneF0 (ng_cons ng_dat (ng_cons ng_dat (ng_cons ng_dat (ng_cons ng_dat ng_nil))))) fr_cutp (dv 4 rfl) FC.c FC.n1 (Nat.le_of_ble_eq_true rfl) (by rw [put_now]; rfl)) ?_
    rintro _ rfl
    refine wr_retF (n := 0) rfl (DE.we (dv 4 rfl) ⟨rfl, ?_⟩)
    unfold fr
    rw [trL_app]
    rfl
theorem ok_F_triangle {fa : Addr} {fd : FuncData} (F : Fun K "triangle" "Frame.triangle" s_F_triangle fa fd) (FC : FrC K C) : FnOk P w K mg base (L2N.CX P w) 1 fa fd ["self"] (spD T K mg (cTriM K C)) := by
  refine fn_dq F sc_F_triangle (fun as S h => ?_) (fun cdv A outer s G H E as S hC B => ?_)
  · obtain ⟨p, t, ea, un, rfl, _⟩ := h
    exact ⟨rfl, by simp⟩
  · obtain ⟨p, t, ea, un, rfl, rfl⟩ := hC
    exact wss_ret (DE.we (de_fld (n := 0) (z := (F3 (trD t) (.list (trL ea)) (.list (trL un)))) rfl (look_now _ _ _) FC.c FC.n1) rfl)
theorem ok_F_len {fa : Addr} {fd : FuncData} (F : Fun K "__len__" "Frame.__len__" s_F___len__ fa fd) (FC : FrC K C) (M : Mb mg) : FnOk P w K mg base (L2N.CX P w) 1 fa fd ["self"] (spD T K mg (cLenM K C)) := by
  refine fn_dq F sc_F___len__ (fun as S h => ?_) (fun cdv A outer s G H E as S hC B => ?_)
  · obtain ⟨p, t, ea, un, rfl, _⟩ := h
    exact ⟨rfl, by simp⟩
  · obtain ⟨p, t, ea, un, rfl, rfl⟩ := hC
    exact wss_ret (DE.we (DE.is (de_lenL (de_fld (n := 0) (z := (F3 (trD t) (.list (trL ea)) (.list (trL un)))) rfl (look_ea _ _ _) FC.c FC.n2) M.len) (by rw [trL_l])) rfl)
theorem ok_F_undoX {fa : Addr} {fd : FuncData} (F : Fun K "undo" "Frame.undo" s_F_undo fa fd) (FC : FrC K C) {c1 : Addr} (X_NothingToUndo : XC K mg "NothingToUndo" c1) : FnOk P w K mg base (L2N.CX P w) 1 fa fd ["self"] (spD T K mg (cUnX K C)) := by
  refine fn_dq F sc_F_undo (fun as S h => ?_) (fun cdv A outer s G H E as S hC B => ?_)
  · obtain ⟨p, t, un, rfl, _⟩ := h
    exact ⟨rfl, by simp⟩
  · obtain ⟨p, t, un, rfl, rfl⟩ := hC
    exact dif (q := true) (DT.is (dt_eq (de_fld (n := 0) (z := (F3 (trD t) (.list (trL [])) (.list (trL un)))) rfl (look_ea _ _ _) FC.c FC.n2) (de_lst da_nil) B.units (shpL []).ok rfl) rfl) (fun _ => wss_one (ws_raise B X_NothingToUndo rfl)) (fun z => noT z)
theorem ok_F_undo {fa : Addr} {fd : FuncData} (F : Fun K "undo" "Frame.undo" s_F_undo fa fd) (FC : FrC K C) : FnOk P w K mg base (L2N.CX P w) 1 fa fd ["self"] (spF T K C (cUn K C)) := by
  refine fn_f F sc_F_undo (fun p z as S h => ?_) (fun cdv A outer s G H E p z as S hC B _ => ?_)
  · obtain ⟨t, ea, un, t', _, _, _, rfl, _⟩ := h
    exact ⟨rfl, by simp⟩
  · obtain ⟨t, ea, un, t', hel, hul, rfl, rfl, rfl⟩ := hC
    refine wr_if (Qc := fun q => q = false) (DT.is (dt_eq (de_fld (n := 0) (z := (F3 (trD t) (.list (trL (ea ++ [t']))) (.list (trL un)))) rfl (look_ea _ _ _) FC.c FC.n2) (de_lst da_nil) B.units (shpL (ea ++ [t'])).ok rfl) (by rw [eqv_nil]; exact decide_eq_false (by simp))) (fun z => noT z) (fun _ => ?_)
    refine wr_cons (N := fun Γ' => Γ' = [.gen (frG K C p (F3 (trD t) (.list (trL (ea ++ [t']))) (.list (trL un ++ [trD t]))))]) (ws_fld (n := 0) (z := (F3 (trD t) (.list (trL (ea ++ [t']))) (.list (trL un)))) rfl (oneF0 ng_nil) fr_cutp (de_cat (de_fld (n := 0) (z := (F3 (trD t) (.list (trL (ea ++ [t']))) (.list (trL un)))) rfl (look_un _ _ _) FC.c FC.n3) (de_lst (da_cons (de_fld (n := 0) (z := (F3 (trD t) (.list (trL (ea ++ [t']))) (.list (trL un)))) rfl (look_now _ _ _) FC.c FC.n1) da_nil)) (by rw [trL_l]; show un.length + 1 ≤ 100000; omega)) FC.c FC.n3 (Nat.le_of_ble_eq_true rfl) (by rw [put_un]; rfl)) ?_
    rintro _ rfl
    refine wr_cons (N := fun Γ' => Γ' = [.gen (frG K C p (F3 (trD t') (.list (trL (ea ++ [t']))) (.list (trL un ++ [trD t]))))]) (ws_fld (n := 0) rfl (oneF0 ng_nil) fr_cutp (de_ixL (de_fld (n := 0) (z := (F3 (trD t) (.list (trL (ea ++ [t']))) (.list (trL un ++ [trD t])))) rfl (look_ea _ _ _) FC.c FC.n2) (de_neg de_int) (atI_lst ea t')) FC.c FC.n1 (Nat.le_of_ble_eq_true rfl) (by rw [put_now]; rfl)) ?_
    rintro _ rfl
    refine wr_cons (N := fun Γ' => Γ' = [.gen (frG K C p (F3 (trD t') (.list (trL ea)) (.list (trL un ++ [trD t]))))]) (ws_fld (n := 0) rfl (oneF0 ng_nil) fr_cutp (DE.is (de_slL (de_fld (n := 0) (z := (F3 (trD t') (.list (trL (ea ++ [t']))) (.list (trL un ++ [trD t])))) rfl (look_ea _ _ _) FC.c FC.n2) do_none (do_some (de_neg de_int))) (by rw [cut_lst])) FC.c FC.n2 (Nat.le_of_ble_eq_true rfl) (by rw [put_ea]; rfl)) ?_
    rintro _ rfl
    refine wr_retF (n := 0) rfl (DE.we (de_fld (n := 0) (z := (F3 (trD t') (.list (trL ea)) (.list (trL un ++ [trD t])))) rfl (look_now _ _ _) FC.c FC.n1) ⟨rfl, ?_⟩)
    unfold fr
    rw [trL_app]
    rfl
theorem ok_F_redoX {fa : Addr} {fd : FuncData} (F : Fun K "redo" "Frame.redo" s_F_redo fa fd) (FC : FrC K C) {c1 : Addr} (X_NothingToUndo : XC K mg "NothingToUndo" c1) : FnOk P w K mg base (L2N.CX P w) 1 fa fd ["self"] (spD T K mg (cReX K C)) := by
  refine fn_dq F sc_F_redo (fun as S h => ?_) (fun cdv A outer s G H E as S hC B => ?_)
  · obtain ⟨p, t, ea, rfl, _⟩ := h
    exact ⟨rfl, by simp⟩
  · obtain ⟨p, t, ea, rfl, rfl⟩ := hC
    exact dif (q := true) (DT.is (dt_eq (de_fld (n := 0) (z := (F3 (trD t) (.list (trL ea)) (.list (trL [])))) rfl (look_un _ _ _) FC.c FC.n3) (de_lst da_nil) B.units (shpL []).ok rfl) rfl) (fun _ => wss_one (ws_raise B X_NothingToUndo rfl)) (fun z => noT z)
theorem ok_F_redo {fa : Addr} {fd : FuncData} (F : Fun K "redo" "Frame.redo" s_F_redo fa fd) (FC : FrC K C) : FnOk P w K mg base (L2N.CX P w) 1 fa fd ["self"] (spF T K C (cRe K C)) := by
  refine fn_f F sc_F_redo (fun p z as S h => ?_) (fun cdv A outer s G H E p z as S hC B _ => ?_)
  · obtain ⟨t, ea, un, t', _, _, _, rfl, _⟩ := h
    exact ⟨rfl, by simp⟩
  · obtain ⟨t, ea, un, t', hel, hul, rfl, rfl, rfl⟩ := hC
    refine wr_if (Qc := fun q => q = false) (DT.is (dt_eq (de_fld (n := 0) (z := (F3 (trD t) (.list (trL ea)) (.list (trL (un ++ [t']))))) rfl (look_un _ _ _) FC.c FC.n3) (de_lst da_nil) B.units (shpL (un ++ [t'])).ok rfl) (by rw [eqv_nil]; exact decide_eq_false (by simp))) (fun z => noT z) (fun _ => ?_)
    refine wr_cons (N := fun Γ' => Γ' = [.gen (frG K C p (F3 (trD t) (.list (trL ea ++ [trD t])) (.list (trL (un ++ [t'])))))]) (ws_fld (n := 0) (z := (F3 (trD t) (.list (trL ea)) (.list (trL (un ++ [t']))))) rfl (oneF0 ng_nil) fr_cutp (de_cat (de_fld (n := 0) (z := (F3 (trD t) (.list (trL ea)) (.list (trL (un ++ [t']))))) rfl (look_ea _ _ _) FC.c FC.n2) (de_lst (da_cons (de_fld (n := 0) (z := (F3 (trD t) (.list (trL ea)) (.list (trL (un ++ [t']))))) rfl (look_now _ _ _) FC.c FC.n1) da_nil)) (by rw [trL_l]; show ea.length + 1 ≤ 100000; omega)) FC.c FC.n2 (Nat.le_of_ble_eq_true rfl) (by rw [put_ea]; rfl)) ?_
    rintro _ rfl
    refine wr_cons (N := fun Γ' => Γ' = [.gen (frG K C p (F3 (trD t') (.list (trL ea ++ [trD t])) (.list (trL (un ++ [t'])))))]) (ws_fld (n := 0) rfl (oneF0 ng_nil) fr_cutp (de_ixL (de_fld (n := 0) (z := (F3 (trD t) (.list (trL ea ++ [trD t])) (.list (trL (un ++ [t']))))) rfl (look_un _ _ _) FC.c FC.n3) (de_neg de_int) (atI_lst un t')) FC.c FC.n1 (Nat.le_of_ble_eq_true rfl) (by rw [put_now]; rfl)) ?_
    rintro _ rfl
    refine wr_cons (N := fun Γ' => Γ' = [.gen (frG K C p (F3 (trD t') (.list (trL ea ++ [trD t])) (.list (trL un))))]) (ws_fld (n := 0) rfl (oneF0 ng_nil) fr_cutp (DE.is (de_slL (de_fld (n := 0) (z := (F3 (trD t') (.list (trL ea ++ [trD t])) (.list (trL (un ++ [t']))))) rfl (look_un _ _ _) FC.c FC.n3) do_none (do_some (de_neg de_int))) (by rw [cut_lst])) FC.c FC.n3 (Nat.le_of_ble_eq_true rfl) (by rw [put_un]; rfl)) ?_
    rintro _ rfl
    refine wr_retF (n := 0) rfl (DE.we (de_fld (n := 0) (z := (F3 (trD t') (.list (trL ea ++ [trD t])) (.list (trL un)))) rfl (look_now _ _ _) FC.c FC.n1) ⟨rfl, ?_⟩)
    unfold fr
    rw [trL_app]
    rfl
end
end KR
set_option Elab.async false
set_option linter.all false
set_option maxRecDepth 100000
set_option maxHeartbeats 4000000
namespace KR
open PySem PySem.Spec PyProof.Rows L2 DL
section
variable {T : Tb} {P : Program} {w : World} {K : PySem.W.Frag} {mg : Str → Option Value} {base : Heap}
abbrev s_is_triangle : Stmt := topS 15
theorem sc_is_triangle : FnScope ["value", "one"] ["value"] (defScope s_is_triangle) := ⟨rfl, rfl, rfl, by decide +kernel, rfl, by decide +kernel, by decide +kernel⟩
theorem ok_is_triangle (M : Mb mg) (A : DefAt K mg "is_triangle" s_is_triangle) (D_is_whole : Dfn T P w K mg base "is_whole" 1 cIsWhole) : Dfn T P w K mg base "is_triangle" 2 cIsTri := by
  refine fn_dfn (k := 1) A sc_is_triangle (fun _ _ _ _ _ _ us hl => match us, hl with | [_], _ => rfl) (fun as S h => ?_) (fun fa cdv A outer s G H E as S hC B => ?_)
  · rcases h with ⟨d, rfl, rfl⟩ <;> exact ⟨rfl, by simp⟩
  · rcases hC with ⟨d, rfl, rfl⟩
    have no : ∀ z, isTupD z = false → isTriD z = false := fun z hz => by cases z <;> first | rfl | cases hz
    cases hd : isTupD d with
    | false =>
      refine dif (q := true) (WW.wt (dw_orT (dt_not (dt_val (de_isTup (dv 0 rfl) M.isinstance M.tuple))) (by rw [hd]; rfl))) (fun _ => wss_ret (DE.we de_bl ?_)) (fun h => noT h)
      show Except.ok (PyData.bool false) = Except.ok (PyData.bool (isTriD d))
      rw [no d hd]
    | true =>
      cases d with
      | tuple ds =>
        match ds with
        | [x, y, z] =>
          refine dif (WW.wt (dw_orF (dt_not (dt_val (de_isTup (dv 0 rfl) M.isinstance M.tuple))) rfl (dw_orF (dt_neI (de_lenT (dv 0 rfl) M.len) de_int) rfl (dw_or1 (dt_not (dt_val (de_all B.calm (bs := [isWhole x 1 100, isWhole y 1 100, isWhole z 1 100]) (DE.is (de_lc (own := [("one", 1)]) B sc_is_triangle.nd (di_tup (dv 0 rfl)) (blkOk_by (N := ["value", "one"]) (sc := defScope s_is_triangle) (by decide +kernel)) (by simp) (fun _ _ _ _ _ => wg_name (n := 1) sc_is_triangle.nd rfl (.inl rfl)) (gd := fun _ => true) (vd := fun d => .bool (isWhole d 1 100)) (fun i d h => ⟨_, ⟨Nat.le_of_ble_eq_true rfl, rfl⟩, fun _ _ _ _ _ => wts_nil, fun _ s5 H5 C5 cl5 fp5 => de_call D_is_whole (B.blk s5 H5 _ _ fp5) (by decide) (da_cons (dv 1 rfl) (da_cons de_int (da_cons de_int da_nil))) ⟨_, _, _, rfl, rfl⟩⟩) (Nat.le_of_ble_eq_true rfl)) rfl) M.all))))))) (fun h => wss_ret (DE.we de_bl ?_)) (fun h => ?_)
          · show Except.ok (PyData.bool false) = Except.ok (PyData.bool (((isWhole x 1 100 && (isWhole y 1 100 && (isWhole z 1 100 && true)))) && chain3 x y z))
            have h2 : (!(isWhole x 1 100 && (isWhole y 1 100 && (isWhole z 1 100 && true)))) = true := h
            have h3 : (isWhole x 1 100 && (isWhole y 1 100 && (isWhole z 1 100 && true))) = false := by
              cases q : (isWhole x 1 100 && (isWhole y 1 100 && (isWhole z 1 100 && true))) with
              | false => rfl
              | true => rw [q] at h2; exact nof h2
            rw [h3]
            rfl
          · have h2 : (!(isWhole x 1 100 && (isWhole y 1 100 && (isWhole z 1 100 && true)))) = false := h
            have h3 : (isWhole x 1 100 && (isWhole y 1 100 && (isWhole z 1 100 && true))) = true := by
              cases q : (isWhole x 1 100 && (isWhole y 1 100 && (isWhole z 1 100 && true))) with
              | true => rfl
              | false => rw [q] at h2; exact noT h2
            have h4 := h3
            simp only [Bool.and_eq_true] at h4
            obtain ⟨hx, hy, hz, _⟩ := h4
            obtain ⟨a, rfl, _⟩ := isWhole_int hx
            obtain ⟨b, rfl, _⟩ := isWhole_int hy
            obtain ⟨c, rfl, _⟩ := isWhole_int hz
            refine wss_nil (wss_ret (DE.we (de_chain3 op_le op_le op_lt (de_ixT (dv 0 rfl) de_int rfl) (de_ixT (dv 0 rfl) de_int rfl) (de_ixT (dv 0 rfl) de_int rfl) (de_add (de_ixT (dv 0 rfl) de_int rfl) (de_ixT (dv 0 rfl) de_int rfl))) ?_))
            show Except.ok (PyData.bool (decide (a ≤ b) && (decide (b ≤ c) && decide (c < a + b)))) = Except.ok (PyData.bool ((isWhole (.int a) 1 100 && (isWhole (.int b) 1 100 && (isWhole (.int c) 1 100 && true))) && (decide (a ≤ b) && (decide (b ≤ c) && decide (c < a + b)))))
            rw [h3]
            rfl
        | [] => exact dif (q := true) (WW.wt (dw_orF (dt_not (dt_val (de_isTup (dv 0 rfl) M.isinstance M.tuple))) rfl (dw_orT (dt_neI (de_lenT (dv 0 rfl) M.len) de_int) rfl))) (fun _ => wss_ret (DE.we de_bl rfl)) (fun h => noT h)
        | [_] => exact dif (q := true) (WW.wt (dw_orF (dt_not (dt_val (de_isTup (dv 0 rfl) M.isinstance M.tuple))) rfl (dw_orT (dt_neI (de_lenT (dv 0 rfl) M.len) de_int) rfl))) (fun _ => wss_ret (DE.we de_bl rfl)) (fun h => noT h)
        | [_, _] => exact dif (q := true) (WW.wt (dw_orF (dt_not (dt_val (de_isTup (dv 0 rfl) M.isinstance M.tuple))) rfl (dw_orT (dt_neI (de_lenT (dv 0 rfl) M.len) de_int) rfl))) (fun _ => wss_ret (DE.we de_bl rfl)) (fun h => noT h)
        | _ :: _ :: _ :: _ :: r =>
          have hl : decide (((r.length + 4 : Nat) : Int) = 3) = false := decide_eq_false (by omega)
          exact dif (q := true) (WW.wt (dw_orF (dt_not (dt_val (de_isTup (dv 0 rfl) M.isinstance M.tuple))) rfl (dw_orT (dt_neI (de_lenT (dv 0 rfl) M.len) de_int) (by show (!decide (((r.length + 4 : Nat) : Int) = 3)) = true; rw [hl]; rfl)))) (fun _ => wss_ret (DE.we de_bl rfl)) (fun h => noT h)
      | _ => exact nof hd
abbrev s_need_triangle : Stmt := topS 16
theorem sc_need_triangle : FnScope ["triangle"] ["triangle"] (defScope s_need_triangle) := ⟨rfl, rfl, rfl, by decide +kernel, rfl, by decide +kernel, by decide +kernel⟩
theorem ok_need_triangle (M : Mb mg) (A : DefAt K mg "need_triangle" s_need_triangle) (D_is_triangle : Dfn T P w K mg base "is_triangle" 2 cIsTri) {c_InvalidTriangle : Addr} (X_InvalidTriangle : XC K mg "InvalidTriangle" c_InvalidTriangle) : Dfn T P w K mg base "need_triangle" 3 cNeedTri := by
  refine fn_dfn (k := 2) A sc_need_triangle (fun _ _ _ _ _ _ us hl => match us, hl with | [_], _ => rfl) (fun as S h => ?_) (fun fa cdv A outer s G H E as S hC B => ?_)
  · rcases h with ⟨d, h, rfl, rfl⟩ | ⟨d, h, rfl, rfl⟩ <;> exact ⟨rfl, by simp⟩
  · rcases hC with ⟨d, h, rfl, rfl⟩ | ⟨d, h, rfl, rfl⟩
    · refine dif (q := false) (DT.is (dt_not (dt_val (de_call D_is_triangle B (by decide) (da_cons (dv 0 rfl) da_nil) ⟨_, rfl, rfl⟩))) (by rw [h]; rfl)) (fun z => nof z) (fun _ => wss_nil (wss_nil rfl))
    · refine dif (q := true) (DT.is (dt_not (dt_val (de_call D_is_triangle B (by decide) (da_cons (dv 0 rfl) da_nil) ⟨_, rfl, rfl⟩))) (by rw [h]; rfl)) (fun _ => wss_one (ws_raise B X_InvalidTriangle rfl)) (fun z => noT z)
abbrev s_squares_of : Stmt := topS 18
theorem sc_squares_of : FnScope ["triangle", "a", "b", "c", "whole"] ["triangle"] (defScope s_squares_of) := ⟨rfl, rfl, rfl, by decide +kernel, rfl, by decide +kernel, by decide +kernel⟩
theorem ok_squares_of (M : Mb mg) (A : DefAt K mg "squares_of" s_squares_of) : Dfn T P w K mg base "squares_of" 1 cSquaresOf := by
  refine fn_dfn (k := 0) A sc_squares_of (fun _ _ _ _ _ _ us hl => match us, hl with | [_], _ => rfl) (fun as S h => ?_) (fun fa cdv A outer s G H E as S hC B => ?_)
  · rcases h with ⟨a, b, c, ht, rfl, rfl⟩ <;> exact ⟨rfl, by simp⟩
  · rcases hC with ⟨a, b, c, ht, rfl, rfl⟩
    have h1 := ht.a1
    have h2 := ht.ab
    have h3 := ht.bc
    have h4 := ht.c100
    refine unp3 1 2 3 B.calm sc_squares_of.nd (dv 0 rfl) ?_
    refine asg 4 sc_squares_of.nd (de_add (de_add (dv 1 rfl) (dv 2 rfl)) (dv 3 rfl)) ?_
    have t : ∀ k : Nat, True := fun _ => trivial
    exact wss_ret (DE.we (de_mul (de_mul (de_mul (dv 4 rfl) (de_sub (dv 4 rfl) (de_mul de_int (dv 1 rfl) (cmulL (by omega) (by omega)))) (cmulL (by omega) (by omega))) (de_sub (dv 4 rfl) (de_mul de_int (dv 2 rfl) (cmulL (by omega) (by omega)))) (cmulR (by omega) (by omega))) (de_sub (dv 4 rfl) (de_mul de_int (dv 3 rfl) (cmulL (by omega) (by omega)))) (cmulR (by omega) (by omega))) rfl)
abbrev s_root_of : Stmt := topS 19
theorem sc_root_of : FnScope ["number", "low", "high", "middle"] ["number"] (defScope s_root_of) := ⟨rfl, rfl, rfl, by decide +kernel, rfl, by decide +kernel, by decide +kernel⟩
theorem ok_root_of (M : Mb mg) (A : DefAt K mg "root_of" s_root_of) : Dfn T P w K mg base "root_of" 1 cRoot := by
  refine fn_dfn (k := 0) A sc_root_of (fun _ _ _ _ _ _ us hl => match us, hl with | [_], _ => rfl) (fun as S h => ?_) (fun fa cdv A outer s G H E as S hC B => ?_)
  · rcases h with ⟨n, hn, hn2, rfl, rfl⟩ <;> exact ⟨rfl, by simp⟩
  · rcases hC with ⟨n, hn, hn2, rfl, rfl⟩
    refine wss_par (i := 1) (j := 2) B.calm sc_root_of.nd de_int (de_add (dv 0 rfl) de_int) ?_ (by decide) (Nat.le_of_ble_eq_true rfl) (Nat.le_of_ble_eq_true rfl)
    refine wss_while B (fun m Γ => ∃ lo hi : Int, ∃ x, 0 ≤ lo ∧ lo < hi ∧ hi ≤ n + 1 ∧ lo * lo ≤ n ∧ n < hi * hi ∧ Γ = [.dat (.int n), .dat (.int lo), .dat (.int hi), x] ∧ m = (hi - lo).toNat) (n + 1 - 0).toNat ⟨0, n + 1, .no, by omega, by omega, by omega, by omega, ?_, rfl, rfl⟩ (fun m Γ' hI => ?_)
    · have := sq_le_sq (a := 1) (b := n + 1) (by omega) (by omega)
      have e : (n + 1) * (n + 1) = n * n + 2 * n + 1 := by grind
      have := Int.mul_nonneg hn hn
      omega
    obtain ⟨lo, hi, x, h0, h1, h2, h3, h4, rfl, rfl⟩ := hI
    refine ⟨_, (dt_gt (de_sub (dv 2 rfl) (dv 1 rfl)) de_int), fun h => ?_, fun h => ?_⟩
    · have hlt : 1 < hi - lo := of_decide_eq_true h
      refine asg 3 sc_root_of.nd (de_fdiv (de_add (dv 1 rfl) (dv 2 rfl)) de_int ⟨by omega, by omega⟩) ?_
      obtain ⟨md, em⟩ : ∃ md : Int, md = (lo + hi) / 2 := ⟨_, rfl⟩
      rw [← em]
      have hm1 : lo < md := by omega
      have hm2 : md < hi := by omega
      by_cases hq : md * md ≤ n
      · exact unp2 1 2 B.calm sc_root_of.nd (DE.is (de_ite (dt_le (de_mul (dv 3 rfl) (dv 3 rfl) (cmulL (by omega) (by omega))) (dv 0 rfl)) (de_tup (da_cons (dv 3 rfl) (da_cons (dv 2 rfl) da_nil))) (de_tup (da_cons (dv 1 rfl) (da_cons (dv 3 rfl) da_nil)))) (by rw [decide_eq_true hq]; rfl)) (wss_nil ⟨(hi - md).toNat, by omega, md, hi, .dat (.int md), by omega, hm2, h2, hq, h4, rfl, rfl⟩)
      · exact unp2 1 2 B.calm sc_root_of.nd (DE.is (de_ite (dt_le (de_mul (dv 3 rfl) (dv 3 rfl) (cmulL (by omega) (by omega))) (dv 0 rfl)) (de_tup (da_cons (dv 3 rfl) (da_cons (dv 2 rfl) da_nil))) (de_tup (da_cons (dv 1 rfl) (da_cons (dv 3 rfl) da_nil)))) (by rw [decide_eq_false hq]; rfl)) (wss_nil ⟨(md - lo).toNat, by omega, lo, md, .dat (.int md), by omega, hm1, by omega, h3, by omega, rfl, rfl⟩)
    · have hge : ¬ 1 < hi - lo := of_decide_eq_false h
      have e : hi = lo + 1 := by omega
      subst e
      have er := rootI_unique hn h0 h3 h4
      refine wss_ret (DE.we (dv 1 rfl) ?_)
      rw [er]
      rfl
end
end KR
set_option Elab.async false
set_option linter.all false
set_option maxRecDepth 100000
set_option maxHeartbeats 4000000
namespace KR
open PySem PySem.Spec PyProof.Rows L2 DL
section
variable {T : Tb} {P : Program} {w : World} {K : PySem.W.Frag} {mg : Str → Option Value} {base : Heap}
abbrev s_area_of : Stmt := topS 20
theorem sc_area_of : FnScope ["triangle", "own", "root"] ["triangle"] (defScope s_area_of) := ⟨rfl, rfl, rfl, by decide +kernel, rfl, by decide +kernel, by decide +kernel⟩
theorem ok_area_of (M : Mb mg) (A : DefAt K mg "area_of" s_area_of) (D_squares_of : Dfn T P w K mg base "squares_of" 1 cSquaresOf) (D_root_of : Dfn T P w K mg base "root_of" 1 cRoot) : Dfn T P w K mg base "area_of" 2 cAreaOf := by
  refine fn_dfn (k := 1) A sc_area_of (fun _ _ _ _ _ _ us hl => match us, hl with | [_], _ => rfl) (fun as S h => ?_) (fun fa cdv A outer s G H E as S hC B => ?_)
  · rcases h with ⟨a, b, c, ht, rfl, rfl⟩ <;> exact ⟨rfl, by simp⟩
  · rcases hC with ⟨a, b, c, ht, rfl, rfl⟩
    have hr0 := Int.le_of_lt (sq16_pos ht)
    have hr1 : sq16 a b c ≤ 1000000000000 := Int.le_trans (sq16_le ht) (by decide)
    obtain ⟨g0, g1, g2⟩ := rootI_spec hr0
    have g3 : rootI (sq16 a b c) < 1000001 := lt_of_sq (by omega) (by omega)
    refine asg 1 sc_area_of.nd (de_call D_squares_of B (by decide) (da_cons (dv 0 rfl) da_nil) ⟨_, _, _, ht, rfl, rfl⟩) ?_
    refine asg 2 sc_area_of.nd (de_call D_root_of B (by decide) (da_cons (dv 1 rfl) da_nil) ⟨_, hr0, hr1, rfl, rfl⟩) ?_
    refine wss_ret (DE.we (de_ite (WW.wt (dw_and (dt_eqI (de_mul (dv 2 rfl) (dv 2 rfl) (cmulL (by omega) (by omega))) (dv 1 rfl)) fun _ => dw_and1 (dt_eqI (de_mod (dv 2 rfl) de_int (by omega)) de_int))) (de_fdiv (dv 2 rfl) de_int ⟨by omega, by omega⟩) de_non) ?_)
    show Except.ok _ = Except.ok (areaD a b c)
    unfold areaD
    by_cases q1 : rootI (sq16 a b c) * rootI (sq16 a b c) = sq16 a b c
    · by_cases q2 : rootI (sq16 a b c) % 4 = 0
      · rw [decide_eq_true q1, decide_eq_true q2, if_pos ⟨q1, q2⟩]
        rfl
      · rw [decide_eq_true q1, decide_eq_false q2, if_neg (fun z => q2 z.2)]
        rfl
    · rw [decide_eq_false q1, if_neg (fun z => q1 z.1)]
      rfl
abbrev s_area : Stmt := topS 21
theorem sc_area : FnScope ["triangle"] ["triangle"] (defScope s_area) := ⟨rfl, rfl, rfl, by decide +kernel, rfl, by decide +kernel, by decide +kernel⟩
theorem ok_area (M : Mb mg) (A : DefAt K mg "area" s_area) (D_need_triangle : Dfn T P w K mg base "need_triangle" 3 cNeedTri) (D_area_of : Dfn T P w K mg base "area_of" 2 cAreaOf) : Dfn T P w K mg base "area" 4 cArea := by
  refine fn_dfn (k := 3) A sc_area (fun _ _ _ _ _ _ us hl => match us, hl with | [_], _ => rfl) (fun as S h => ?_) (fun fa cdv A outer s G H E as S hC B => ?_)
  · rcases h with ⟨a, b, c, ht, rfl, rfl⟩ | ⟨d, hd, rfl, rfl⟩ <;> exact ⟨rfl, by simp⟩
  · rcases hC with ⟨a, b, c, ht, rfl, rfl⟩ | ⟨d, hd, rfl, rfl⟩
    · refine wss_expr (Q := fun _ => True) (we_call D_need_triangle B (by decide) (DA.wa (da_cons (dv 0 rfl) da_nil)) (.inl ⟨_, isTri_tri ht, rfl, rfl⟩) (fun r e => by subst e; trivial)) (fun _ => ?_)
      exact wss_ret (DE.we (de_call D_area_of B (by decide) (da_cons (dv 0 rfl) da_nil) ⟨_, _, _, ht, rfl, rfl⟩) rfl)
    · refine wss_expr (Q := fun _ => False) (we_call D_need_triangle B (by decide) (DA.wa (da_cons (dv 0 rfl) da_nil)) (.inr ⟨_, hd, rfl, rfl⟩) (fun r e => by subst e; exact rfl)) (fun ⟨_, z⟩ => z.elim)
abbrev s_need_rope : Stmt := topS 37
theorem sc_need_rope : FnScope ["rope"] ["rope"] (defScope s_need_rope) := ⟨rfl, rfl, rfl, by decide +kernel, rfl, by decide +kernel, by decide +kernel⟩
theorem ok_need_rope (M : Mb mg) (A : DefAt K mg "need_rope" s_need_rope) (D_is_whole : Dfn T P w K mg base "is_whole" 1 cIsWhole) {c_InvalidRope : Addr} (X_InvalidRope : XC K mg "InvalidRope" c_InvalidRope) : Dfn T P w K mg base "need_rope" 2 cNeedRope := by
  refine fn_dfn (k := 1) A sc_need_rope (fun _ _ _ _ _ _ us hl => match us, hl with | [_], _ => rfl) (fun as S h => ?_) (fun fa cdv A outer s G H E as S hC B => ?_)
  · rcases h with ⟨n, h, rfl, rfl⟩ | ⟨d, h, rfl, rfl⟩ <;> exact ⟨rfl, by simp⟩
  · rcases hC with ⟨n, h, rfl, rfl⟩ | ⟨d, h, rfl, rfl⟩
    · refine dif (q := false) (DT.is (dt_not (dt_val (de_call D_is_whole B (by decide) (da_cons (dv 0 rfl) (da_cons de_int (da_cons de_int da_nil))) ⟨_, _, _, rfl, rfl⟩))) (by rw [rope_whole h]; rfl)) (fun z => nof z) (fun _ => wss_nil (wss_nil rfl))
    · refine dif (q := true) (DT.is (dt_not (dt_val (de_call D_is_whole B (by decide) (da_cons (dv 0 rfl) (da_cons de_int (da_cons de_int da_nil))) ⟨_, _, _, rfl, rfl⟩))) (by rw [h]; rfl)) (fun _ => wss_one (ws_raise B X_InvalidRope rfl)) (fun z => noT z)
abbrev s_laid : Stmt := topS 38
theorem sc_laid : FnScope ["rope", "found", "a", "b"] ["rope"] (defScope s_laid) := ⟨rfl, rfl, rfl, by decide +kernel, rfl, by decide +kernel, by decide +kernel⟩
theorem ok_laid (M : Mb mg) (A : DefAt K mg "laid" s_laid) : Dfn T P w K mg base "laid" 1 cLaid := by
  refine fn_dfn (k := 0) A sc_laid (fun _ _ _ _ _ _ us hl => match us, hl with | [_], _ => rfl) (fun as S h => ?_) (fun fa cdv A outer s G H E as S hC B => ?_)
  · rcases h with ⟨n, hn, rfl, rfl⟩ <;> exact ⟨rfl, by simp⟩
  · rcases hC with ⟨n, hn, rfl, rfl⟩
    have h1 := hn.1
    have h2 := hn.2
    refine wss_new (n := 1) sc_laid.nd rfl (.inl rfl) (Nat.le_of_ble_eq_true rfl) ?_
    refine wss_for B (di_rng2 (i := 1) (j := n / 3 + 1) de_int (de_add (de_fdiv (dv 0 rfl) de_int ⟨by omega, by omega⟩) de_int) M.range ⟨by omega, by omega, by omega, by omega⟩) (wg_name (n := 2) sc_laid.nd rfl (.inl rfl)) (fun i Γ => ∃ x y, NoO x ∧ NoO y ∧ Γ = [.dat (.int n), .own (trL (laidUp n i)), x, y]) ⟨.no, .no, noO_no, noO_no, rfl⟩ (fun i d Γ' hd hI => ?_) (fun Γ' hI => ?_)
    · obtain ⟨x, y, hx, hy, rfl⟩ := hI
      obtain ⟨hi, rfl⟩ := rngD_at hd
      refine ⟨_, ⟨Nat.le_of_ble_eq_true rfl, rfl⟩, ?_⟩
      obtain ⟨a, ea⟩ : ∃ a : Int, a = 1 + (i : Int) := ⟨_, rfl⟩
      have ha : 1 ≤ a ∧ a ≤ 20 := by omega
      have hup : (laidUp n i).length ≤ i * 60 := rows_lenB i (fun x h1 h2 => Nat.le_trans rowIn_len (by omega))
      rw [← ea]
      refine wss_for B (di_rng2 (i := a) (j := (n - a) / 2 + 1) (dv 2 rfl) (de_add (de_fdiv (de_sub (dv 0 rfl) (dv 2 rfl)) de_int ⟨by omega, by omega⟩) de_int) M.range ⟨by omega, by omega, by omega, by omega⟩) (wg_name (n := 3) sc_laid.nd rfl (.inl rfl)) (fun j Γ => ∃ y, NoO y ∧ Γ = [.dat (.int n), .own (trL (laidUp n i) ++ trL (laidRow n a j)), .dat (.int a), y]) ⟨y, hy, by rw [show trL (laidRow n a 0) = [] from rfl, List.append_nil]; rfl⟩ (fun j d Γ' hd hI => ?_) (fun Γ' hI => wss_nil ?_)
      · obtain ⟨y, hy, rfl⟩ := hI
        obtain ⟨hj, rfl⟩ := rngD_at hd
        refine ⟨_, ⟨Nat.le_of_ble_eq_true rfl, rfl⟩, ?_⟩
        have hlen : (trL (laidUp n i) ++ trL (laidRow n a j)).length < 100000 := by
          have z : (laidRow n a j).length ≤ j := rowIn_len
          have e1 : (trL (laidUp n i)).length = (laidUp n i).length := List.length_map ..
          have e2 : (trL (laidRow n a j)).length = (laidRow n a j).length := List.length_map ..
          rw [List.length_append, e1, e2]
          omega
        refine dif (dt_lt (de_sub (de_sub (dv 0 rfl) (dv 2 rfl)) (dv 3 rfl)) (de_add (dv 2 rfl) (dv 3 rfl))) (fun h => wss_one (ws_app (n := 1) rfl (oneOwn4 noO_dat noO_dat noO_dat) (de_tup (da_cons (dv 2 rfl) (da_cons (dv 3 rfl) (da_cons (de_sub (de_sub (dv 0 rfl) (dv 2 rfl)) (dv 3 rfl)) da_nil)))) hlen (wss_nil ⟨.dat (.int (a + (j : Int))), noO_dat, ?_⟩) rfl (.inl rfl))) (fun h => wss_nil (wss_nil ⟨.dat (.int (a + (j : Int))), noO_dat, ?_⟩))
        · show [Sl.dat (.int n), .own (trL (laidUp n i) ++ trL (laidRow n a j) ++ [trD (a, a + (j : Int), n - a - (a + (j : Int)))]), .dat (.int a), .dat (.int (a + (j : Int)))] = _
          rw [show laidRow n a (j + 1) = laidRow n a j ++ [(a, a + (j : Int), n - a - (a + (j : Int)))] from rowIn_succT h, trL_app, List.append_assoc]
          rfl
        · rw [show laidRow n a (j + 1) = laidRow n a j from rowIn_succF h]
          rfl
      · obtain ⟨y, hy, rfl⟩ := hI
        refine ⟨.dat (.int a), y, noO_dat, hy, ?_⟩
        rw [rngD_len, show laidUp n (i + 1) = laidUp n i ++ laidRow n (1 + (i : Int)) ((n - (1 + (i : Int))) / 2 + 1 - (1 + (i : Int))).toNat from rows_succ, trL_app, ← ea]
    · obtain ⟨x, y, hx, hy, rfl⟩ := hI
      refine wss_frz (n := 1) rfl (oneOwn4 noO_dat hx hy) (wss_ret (DE.we (dv 1 rfl) ?_))
      rw [rngD_len]
      rfl
end
end KR
set_option Elab.async false
set_option linter.all false
set_option maxRecDepth 100000
set_option maxHeartbeats 4000000
namespace KR
open PySem PySem.Spec PyProof.Rows L2 DL
section
variable {T : Tb} {P : Program} {w : World} {K : PySem.W.Frag} {mg : Str → Option Value} {base : Heap}
abbrev s_triangles : Stmt := topS 39
theorem sc_triangles : FnScope ["rope"] ["rope"] (defScope s_triangles) := ⟨rfl, rfl, rfl, by decide +kernel, rfl, by decide +kernel, by decide +kernel⟩
theorem ok_triangles (M : Mb mg) (A : DefAt K mg "triangles" s_triangles) (D_need_rope : Dfn T P w K mg base "need_rope" 2 cNeedRope) (D_laid : Dfn T P w K mg base "laid" 1 cLaid) : Dfn T P w K mg base "triangles" 3 cTriangles := by
  refine fn_dfn (k := 2) A sc_triangles (fun _ _ _ _ _ _ us hl => match us, hl with | [_], _ => rfl) (fun as S h => ?_) (fun fa cdv A outer s G H E as S hC B => ?_)
  · rcases h with ⟨n, hn, rfl, rfl⟩ | ⟨d, hd, rfl, rfl⟩ <;> exact ⟨rfl, by simp⟩
  · rcases hC with ⟨n, hn, rfl, rfl⟩ | ⟨d, hd, rfl, rfl⟩
    · refine wss_expr (Q := fun _ => True) (we_call D_need_rope B (by decide) (DA.wa (da_cons (dv 0 rfl) da_nil)) (.inl ⟨_, hn, rfl, rfl⟩) (fun r e => by subst e; trivial)) (fun _ => ?_)
      exact wss_ret (DE.we (de_tupleL (de_call D_laid B (by decide) (da_cons (dv 0 rfl) da_nil) ⟨_, hn, rfl, rfl⟩) M.tuple) rfl)
    · refine wss_expr (Q := fun _ => False) (we_call D_need_rope B (by decide) (DA.wa (da_cons (dv 0 rfl) da_nil)) (.inr ⟨_, hd, rfl, rfl⟩) (fun r e => by subst e; exact rfl)) (fun ⟨_, z⟩ => z.elim)
abbrev s_scaled : Stmt := topS 41
theorem sc_scaled : FnScope ["triangle", "number", "side"] ["triangle", "number"] (defScope s_scaled) := ⟨rfl, rfl, rfl, by decide +kernel, rfl, by decide +kernel, by decide +kernel⟩
theorem ok_scaled (M : Mb mg) (A : DefAt K mg "scaled" s_scaled) (D_need_triangle : Dfn T P w K mg base "need_triangle" 3 cNeedTri) (D_is_whole : Dfn T P w K mg base "is_whole" 1 cIsWhole) {c_InvalidNumber : Addr} (X_InvalidNumber : XC K mg "InvalidNumber" c_InvalidNumber) {c_TooGreat : Addr} (X_TooGreat : XC K mg "TooGreat" c_TooGreat) : Dfn T P w K mg base "scaled" 4 cScaled := by
  refine fn_dfn (k := 3) A sc_scaled (fun _ _ _ _ _ _ us hl => match us, hl with | [_, _], _ => rfl) (fun as S h => ?_) (fun fa cdv A outer s G H E as S hC B => ?_)
  · rcases h with ⟨a, b, c, k, ht, hk, hk2, rfl, rfl⟩ | ⟨a, b, c, k, ht, hk, hk2, hk3, rfl, rfl⟩ | ⟨a, b, c, e, ht, he, rfl, rfl⟩ <;> exact ⟨rfl, by simp⟩
  · rcases hC with ⟨a, b, c, k, ht, hk, hk2, rfl, rfl⟩ | ⟨a, b, c, k, ht, hk, hk2, hk3, rfl, rfl⟩ | ⟨a, b, c, e, ht, he, rfl, rfl⟩
    · have hl := ht.le
      have hk100 : k ≤ 100 := by
        have := Int.mul_le_mul_of_nonneg_right (show 1 ≤ c by omega) (show 0 ≤ k by omega)
        omega
      have hw : isWhole (.int k) 1 100 = true := by
        show (decide (1 ≤ k) && decide (k ≤ 100)) = true
        rw [decide_eq_true hk, decide_eq_true hk100]
        rfl
      refine wss_expr (Q := fun _ => True) (we_call D_need_triangle B (by decide) (DA.wa (da_cons (dv 0 rfl) da_nil)) (.inl ⟨_, isTri_tri ht, rfl, rfl⟩) (fun r e => by subst e; trivial)) (fun _ => ?_)
      refine dif (q := false) (DT.is (dt_not (dt_val (de_call D_is_whole B (by decide) (da_cons (dv 1 rfl) (da_cons de_int (da_cons de_int da_nil))) ⟨_, _, _, rfl, rfl⟩))) (by rw [hw]; rfl)) (fun z => nof z) (fun _ => wss_nil ?_)
      refine dif (q := false) (DT.is (dt_gt (de_mul (de_ixT (dv 0 rfl) de_int rfl) (dv 1 rfl) (cmulR (by omega) (by omega))) de_int) (decide_eq_false (by omega))) (fun z => nof z) (fun _ => wss_nil ?_)
      refine wss_ret (DE.we (de_tupleL (de_lc (own := [("side", 2)]) B sc_scaled.nd (di_tup (ds := iL [a, b, c]) (dv 0 rfl)) (blkOk_by (N := ["triangle", "number", "side"]) (sc := defScope s_scaled) (by decide +kernel)) (by simp) (fun _ _ _ _ _ => wg_name (n := 2) sc_scaled.nd rfl (.inl rfl)) (gd := fun _ => true) (vd := mapI fun x => x * k) (fun i d h => ⟨_, ⟨Nat.le_of_ble_eq_true rfl, rfl⟩, fun _ _ _ _ _ => wts_nil, fun _ s5 H5 C5 cl5 fp5 => ?e⟩) (Nat.le_of_ble_eq_true rfl)) M.tuple) rfl)
      obtain ⟨x, _, rfl⟩ := iL_at h
      exact de_mul (dv 2 rfl) (dv 1 rfl) (cmulR (by omega) (by omega))
    · have hw : isWhole (.int k) 1 100 = true := by
        show (decide (1 ≤ k) && decide (k ≤ 100)) = true
        rw [decide_eq_true hk, decide_eq_true hk2]
        rfl
      refine wss_expr (Q := fun _ => True) (we_call D_need_triangle B (by decide) (DA.wa (da_cons (dv 0 rfl) da_nil)) (.inl ⟨_, isTri_tri ht, rfl, rfl⟩) (fun r e => by subst e; trivial)) (fun _ => ?_)
      refine dif (q := false) (DT.is (dt_not (dt_val (de_call D_is_whole B (by decide) (da_cons (dv 1 rfl) (da_cons de_int (da_cons de_int da_nil))) ⟨_, _, _, rfl, rfl⟩))) (by rw [hw]; rfl)) (fun z => nof z) (fun _ => wss_nil ?_)
      exact dif (q := true) (DT.is (dt_gt (de_mul (de_ixT (dv 0 rfl) de_int rfl) (dv 1 rfl) (cmulR (by omega) (by omega))) de_int) (decide_eq_true hk3)) (fun _ => wss_one (ws_raise B X_TooGreat rfl)) (fun z => noT z)
    · refine wss_expr (Q := fun _ => True) (we_call D_need_triangle B (by decide) (DA.wa (da_cons (dv 0 rfl) da_nil)) (.inl ⟨_, isTri_tri ht, rfl, rfl⟩) (fun r e => by subst e; trivial)) (fun _ => ?_)
      exact dif (q := true) (DT.is (dt_not (dt_val (de_call D_is_whole B (by decide) (da_cons (dv 1 rfl) (da_cons de_int (da_cons de_int da_nil))) ⟨_, _, _, rfl, rfl⟩))) (by rw [he]; rfl)) (fun _ => wss_one (ws_raise B X_InvalidNumber rfl)) (fun z => noT z)
abbrev s_kind_of : Stmt := topS 17
theorem sc_kind_of : FnScope ["triangle", "a", "b", "c", "gap"] ["triangle"] (defScope s_kind_of) := ⟨rfl, rfl, rfl, by decide +kernel, rfl, by decide +kernel, by decide +kernel⟩
theorem ok_kind_of (M : Mb mg) (A : DefAt K mg "kind_of" s_kind_of) : Dfn T P w K mg base "kind_of" 1 cKindOf := by
  refine fn_dfn (k := 0) A sc_kind_of (fun _ _ _ _ _ _ us hl => match us, hl with | [_], _ => rfl) (fun as S h => ?_) (fun fa cdv A outer s G H E as S hC B => ?_)
  · rcases h with ⟨a, b, c, ht, rfl, rfl⟩ <;> exact ⟨rfl, by simp⟩
  · rcases hC with ⟨a, b, c, ht, rfl, rfl⟩
    have h1 := ht.a1
    have h2 := ht.le
    have h3 := ht.c100
    refine unp3 1 2 3 B.calm sc_kind_of.nd (dv 0 rfl) ?_
    refine asg 4 sc_kind_of.nd (de_sub (de_add (de_mul (dv 1 rfl) (dv 1 rfl) (cmulL (by omega) (by omega))) (de_mul (dv 2 rfl) (dv 2 rfl) (cmulL (by omega) (by omega)))) (de_mul (dv 3 rfl) (dv 3 rfl) (cmulL (by omega) (by omega)))) ?_
    refine wss_ret (DE.we (de_ite (dt_gt (dv 4 rfl) de_int) de_str (de_ite (dt_lt (dv 4 rfl) de_int) de_str de_str)) ?_)
    show Except.ok _ = Except.ok (PyData.str (kindS a b c))
    unfold kindS
    by_cases q1 : 0 < a * a + b * b - c * c
    · rw [decide_eq_true q1, if_pos q1]
      rfl
    · by_cases q2 : a * a + b * b - c * c < 0
      · rw [decide_eq_false q1, decide_eq_true q2, if_neg q1, if_pos q2]
        rfl
      · rw [decide_eq_false q1, decide_eq_false q2, if_neg q1, if_neg q2]
        rfl
abbrev s_need_right : Stmt := topS 30
theorem sc_need_right : FnScope ["triangle"] ["triangle"] (defScope s_need_right) := ⟨rfl, rfl, rfl, by decide +kernel, rfl, by decide +kernel, by decide +kernel⟩
theorem ok_need_right (M : Mb mg) (A : DefAt K mg "need_right" s_need_right) (D_kind_of : Dfn T P w K mg base "kind_of" 1 cKindOf) {c_NotRight : Addr} (X_NotRight : XC K mg "NotRight" c_NotRight) : Dfn T P w K mg base "need_right" 2 cNeedRight := by
  refine fn_dfn (k := 1) A sc_need_right (fun _ _ _ _ _ _ us hl => match us, hl with | [_], _ => rfl) (fun as S h => ?_) (fun fa cdv A outer s G H E as S hC B => ?_)
  · rcases h with ⟨a, b, c, ht, hr, rfl, rfl⟩ | ⟨a, b, c, ht, hr, rfl, rfl⟩ <;> exact ⟨rfl, by simp⟩
  · rcases hC with ⟨a, b, c, ht, hr, rfl, rfl⟩ | ⟨a, b, c, ht, hr, rfl, rfl⟩
    · exact dif (q := false) (DT.is (dt_ne (de_call D_kind_of B (by decide) (da_cons (dv 0 rfl) da_nil) ⟨_, _, _, ht, rfl, rfl⟩) de_str B.units (kind_shaped a b c) (by decide +kernel)) (by rw [kind_right, hr]; rfl)) (fun z => nof z) (fun _ => wss_nil (wss_nil rfl))
    · exact dif (q := true) (DT.is (dt_ne (de_call D_kind_of B (by decide) (da_cons (dv 0 rfl) da_nil) ⟨_, _, _, ht, rfl, rfl⟩) de_str B.units (kind_shaped a b c) (by decide +kernel)) (by rw [kind_right, hr]; rfl)) (fun _ => wss_one (ws_raise B X_NotRight rfl)) (fun z => noT z)
end
end KR
set_option Elab.async false
set_option linter.all false
set_option maxRecDepth 100000
set_option maxHeartbeats 4000000
namespace KR
open PySem PySem.Spec PyProof.Rows L2 DL
section
variable {T : Tb} {P : Program} {w : World} {K : PySem.W.Frag} {mg : Str → Option Value} {base : Heap}
abbrev s_divisor : Stmt := topS 22
theorem sc_divisor : FnScope ["one", "other"] ["one", "other"] (defScope s_divisor) := ⟨rfl, rfl, rfl, by decide +kernel, rfl, by decide +kernel, by decide +kernel⟩
theorem ok_divisor (M : Mb mg) (A : DefAt K mg "divisor" s_divisor) : Dfn T P w K mg base "divisor" 1 cDivisor := by
  refine fn_dfn (k := 0) A sc_divisor (fun _ _ _ _ _ _ us hl => match us, hl with | [_, _], _ => rfl) (fun as S h => ?_) (fun fa cdv A outer s G H E as S hC B => ?_)
  · rcases h with ⟨a, b, ha, hb, rfl, rfl⟩ <;> exact ⟨rfl, by simp⟩
  · rcases hC with ⟨a, b, ha, hb, rfl, rfl⟩
    refine wss_while B (fun m Γ => ∃ x y : Int, 0 ≤ x ∧ 0 ≤ y ∧ Γ = [.dat (.int x), .dat (.int y)] ∧ Int.gcd x y = Int.gcd a b ∧ m = y.toNat) b.toNat ⟨a, b, ha, hb, rfl, rfl, rfl⟩ (fun m Γ' hI => ?_)
    obtain ⟨x, y, hx, hy, rfl, hg, rfl⟩ := hI
    refine ⟨_, (dt_neI (dv 1 rfl) de_int), fun h => ?_, fun h => ?_⟩
    · have hy0 : y ≠ 0 := fun z => by rw [z] at h; exact nof h
      have m1 := Int.emod_nonneg x hy0
      have m2 := Int.emod_lt_of_pos x (show 0 < y by omega)
      exact wss_par (i := 0) (j := 1) B.calm sc_divisor.nd (dv 1 rfl) (de_mod (dv 0 rfl) (dv 1 rfl) (by omega)) (wss_nil ⟨(x % y).toNat, by omega, y, x % y, hy, m1, rfl, (gcd_step hy0).trans hg, rfl⟩) (by decide) (Nat.le_of_ble_eq_true rfl) (Nat.le_of_ble_eq_true rfl)
    · have hy0 : y = 0 := by
        by_cases z : y = 0
        · exact z
        · rw [decide_eq_false z] at h; exact noT h
      subst hy0
      refine wss_ret (DE.we (dv 0 rfl) ?_)
      show Except.ok (PyData.int x) = Except.ok (PyData.int (Int.gcd a b))
      rw [← hg, Int.gcd_zero_right]
      congr 2
      omega
abbrev s_told_by : Stmt := topS 31
theorem sc_told_by : FnScope ["triangle", "a", "b", "c", "k", "odd", "even", "m"] ["triangle"] (defScope s_told_by) := ⟨rfl, rfl, rfl, by decide +kernel, rfl, by decide +kernel, by decide +kernel⟩
theorem ok_told_by (M : Mb mg) (A : DefAt K mg "told_by" s_told_by) (D_need_triangle : Dfn T P w K mg base "need_triangle" 3 cNeedTri) (D_need_right : Dfn T P w K mg base "need_right" 2 cNeedRight) (D_divisor : Dfn T P w K mg base "divisor" 1 cDivisor) (D_root_of : Dfn T P w K mg base "root_of" 1 cRoot) : Dfn T P w K mg base "told_by" 4 cTold := by
  refine fn_dfn (k := 3) A sc_told_by (fun _ _ _ _ _ _ us hl => match us, hl with | [_], _ => rfl) (fun as S h => ?_) (fun fa cdv A outer s G H E as S hC B => ?_)
  · rcases h with ⟨a, b, c, ht, hr, rfl, rfl⟩ | ⟨a, b, c, ht, hr, rfl, rfl⟩ | ⟨d, hd, rfl, rfl⟩ <;> exact ⟨rfl, by simp⟩
  · rcases hC with ⟨a, b, c, ht, hr, rfl, rfl⟩ | ⟨a, b, c, ht, hr, rfl, rfl⟩ | ⟨d, hd, rfl, rfl⟩
    · have h1 := ht.a1
      have h2 := ht.le
      have h3 := ht.c100
      obtain ⟨g1, g2, a0, b0, c0, b1, a1, c1, o1, o2, e1, e2, z⟩ := told_pos ht
      obtain ⟨t1, t2⟩ := tm_pos ht
      refine wss_expr (Q := fun _ => True) (we_call D_need_triangle B (by decide) (DA.wa (da_cons (dv 0 rfl) da_nil)) (.inl ⟨_, isTri_tri ht, rfl, rfl⟩) (fun r e => by subst e; trivial)) (fun _ => ?_)
      refine wss_expr (Q := fun _ => True) (we_call D_need_right B (by decide) (DA.wa (da_cons (dv 0 rfl) da_nil)) (.inl ⟨_, _, _, ht, decide_eq_true hr, rfl, rfl⟩) (fun r e => by subst e; trivial)) (fun _ => ?_)
      refine unp3 1 2 3 B.calm sc_told_by.nd (dv 0 rfl) ?_
      refine asg 4 sc_told_by.nd (de_call D_divisor B (by decide) (da_cons (dv 1 rfl) (da_cons (dv 2 rfl) da_nil)) ⟨_, _, by omega, by omega, rfl, rfl⟩) ?_
      refine unp2 5 6 B.calm sc_told_by.nd (d1 := .int (oddOf a b)) (d2 := .int (evenOf a b)) (DE.is (de_ite (dt_eqI (de_mod (de_fdiv (dv 2 rfl) (dv 4 rfl) ⟨by omega, by omega⟩) de_int (by omega)) de_int) (de_tup (da_cons (de_fdiv (dv 1 rfl) (dv 4 rfl) ⟨by omega, by omega⟩) (da_cons (de_fdiv (dv 2 rfl) (dv 4 rfl) ⟨by omega, by omega⟩) da_nil))) (de_tup (da_cons (de_fdiv (dv 2 rfl) (dv 4 rfl) ⟨by omega, by omega⟩) (da_cons (de_fdiv (dv 1 rfl) (dv 4 rfl) ⟨by omega, by omega⟩) da_nil)))) ?e1) ?_
      case e1 =>
        unfold oddOf evenOf
        by_cases q : b / (Int.gcd a b : Int) % 2 = 0
        · rw [decide_eq_true q, if_pos q, if_pos q]
          rfl
        · rw [decide_eq_false q, if_neg q, if_neg q]
          rfl
      refine asg 7 sc_told_by.nd (d := .int (tm a b c)) (de_call D_root_of B (by decide) (da_cons (de_fdiv (de_add (de_fdiv (dv 3 rfl) (dv 4 rfl) ⟨by omega, by omega⟩) (dv 5 rfl)) de_int ⟨by omega, by omega⟩) da_nil) ⟨_, by omega, by omega, rfl, rfl⟩) ?_
      exact wss_ret (DE.we (de_tup (da_cons (dv 4 rfl) (da_cons (dv 7 rfl) (da_cons (de_fdiv (de_fdiv (dv 6 rfl) de_int ⟨by omega, by omega⟩) (dv 7 rfl) ⟨by omega, by omega⟩) da_nil)))) rfl)
    · refine wss_expr (Q := fun _ => True) (we_call D_need_triangle B (by decide) (DA.wa (da_cons (dv 0 rfl) da_nil)) (.inl ⟨_, isTri_tri ht, rfl, rfl⟩) (fun r e => by subst e; trivial)) (fun _ => ?_)
      exact wss_expr (Q := fun _ => False) (we_call D_need_right B (by decide) (DA.wa (da_cons (dv 0 rfl) da_nil)) (.inr ⟨_, _, _, ht, hr, rfl, rfl⟩) (fun r e => by subst e; exact rfl)) (fun ⟨_, z⟩ => z.elim)
    · exact wss_expr (Q := fun _ => False) (we_call D_need_triangle B (by decide) (DA.wa (da_cons (dv 0 rfl) da_nil)) (.inr ⟨_, hd, rfl, rfl⟩) (fun r e => by subst e; exact rfl)) (fun ⟨_, z⟩ => z.elim)
abbrev s_need_area : Stmt := topS 25
theorem sc_need_area : FnScope ["triangle", "own"] ["triangle"] (defScope s_need_area) := ⟨rfl, rfl, rfl, by decide +kernel, rfl, by decide +kernel, by decide +kernel⟩
theorem ok_need_area (M : Mb mg) (A : DefAt K mg "need_area" s_need_area) (D_need_triangle : Dfn T P w K mg base "need_triangle" 3 cNeedTri) (D_area_of : Dfn T P w K mg base "area_of" 2 cAreaOf) {c_NotWhole : Addr} (X_NotWhole : XC K mg "NotWhole" c_NotWhole) : Dfn T P w K mg base "need_area" 4 cNeedArea := by
  refine fn_dfn (k := 3) A sc_need_area (fun _ _ _ _ _ _ us hl => match us, hl with | [_], _ => rfl) (fun as S h => ?_) (fun fa cdv A outer s G H E as S hC B => ?_)
  · rcases h with ⟨a, b, c, m, ht, hm, rfl, rfl⟩ | ⟨a, b, c, ht, hm, rfl, rfl⟩ | ⟨d, hd, rfl, rfl⟩ <;> exact ⟨rfl, by simp⟩
  · rcases hC with ⟨a, b, c, m, ht, hm, rfl, rfl⟩ | ⟨a, b, c, ht, hm, rfl, rfl⟩ | ⟨d, hd, rfl, rfl⟩
    · refine wss_expr (Q := fun _ => True) (we_call D_need_triangle B (by decide) (DA.wa (da_cons (dv 0 rfl) da_nil)) (.inl ⟨_, isTri_tri ht, rfl, rfl⟩) (fun r e => by subst e; trivial)) (fun _ => ?_)
      refine asg 1 sc_need_area.nd (DE.is (de_call D_area_of B (by decide) (da_cons (dv 0 rfl) da_nil) ⟨_, _, _, ht, rfl, rfl⟩) hm) ?_
      exact dif (q := false) (DT.is (dt_isN (dv 1 rfl)) rfl) (fun z => nof z) (fun _ => wss_nil (wss_ret (DE.we (dv 1 rfl) rfl)))
    · refine wss_expr (Q := fun _ => True) (we_call D_need_triangle B (by decide) (DA.wa (da_cons (dv 0 rfl) da_nil)) (.inl ⟨_, isTri_tri ht, rfl, rfl⟩) (fun r e => by subst e; trivial)) (fun _ => ?_)
      refine asg 1 sc_need_area.nd (DE.is (de_call D_area_of B (by decide) (da_cons (dv 0 rfl) da_nil) ⟨_, _, _, ht, rfl, rfl⟩) hm) ?_
      exact dif (q := true) (DT.is (dt_isN (dv 1 rfl)) rfl) (fun _ => wss_one (ws_raise B X_NotWhole rfl)) (fun z => noT z)
    · exact wss_expr (Q := fun _ => False) (we_call D_need_triangle B (by decide) (DA.wa (da_cons (dv 0 rfl) da_nil)) (.inr ⟨_, hd, rfl, rfl⟩) (fun r e => by subst e; exact rfl)) (fun ⟨_, z⟩ => z.elim)
abbrev s_lowest : Stmt := topS 23
theorem sc_lowest : FnScope ["top", "under", "common"] ["top", "under"] (defScope s_lowest) := ⟨rfl, rfl, rfl, by decide +kernel, rfl, by decide +kernel, by decide +kernel⟩
theorem ok_lowest (M : Mb mg) (A : DefAt K mg "lowest" s_lowest) (D_divisor : Dfn T P w K mg base "divisor" 1 cDivisor) : Dfn T P w K mg base "lowest" 2 cLowest := by
  refine fn_dfn (k := 1) A sc_lowest (fun _ _ _ _ _ _ us hl => match us, hl with | [_, _], _ => rfl) (fun as S h => ?_) (fun fa cdv A outer s G H E as S hC B => ?_)
  · rcases h with ⟨t, u, ht, hu, hu2, rfl, rfl⟩ <;> exact ⟨rfl, by simp⟩
  · rcases hC with ⟨t, u, ht, hu, hu2, rfl, rfl⟩
    have g1 : 0 < (Int.gcd t u : Int) := by rw [Int.gcd_comm]; exact gcd_pos hu
    have g2 : (Int.gcd t u : Int) ≤ u := by rw [Int.gcd_comm]; exact gcd_le hu
    refine asg 2 sc_lowest.nd (de_call D_divisor B (by decide) (da_cons (dv 0 rfl) (da_cons (dv 1 rfl) da_nil)) ⟨_, _, by omega, by omega, rfl, rfl⟩) ?_
    exact wss_ret (DE.we (de_tup (da_cons (de_fdiv (dv 0 rfl) (dv 2 rfl) ⟨by omega, by omega⟩) (da_cons (de_fdiv (dv 1 rfl) (dv 2 rfl) ⟨by omega, by omega⟩) da_nil))) rfl)
end
end KR
set_option Elab.async false
set_option linter.all false
set_option maxRecDepth 100000
set_option maxHeartbeats 4000000
namespace KR
open PySem PySem.Spec PyProof.Rows L2 DL
section
variable {T : Tb} {P : Program} {w : World} {K : PySem.W.Frag} {mg : Str → Option Value} {base : Heap}
abbrev s_height : Stmt := topS 26
theorem sc_height : FnScope ["triangle", "own"] ["triangle"] (defScope s_height) := ⟨rfl, rfl, rfl, by decide +kernel, rfl, by decide +kernel, by decide +kernel⟩
theorem ok_height (M : Mb mg) (A : DefAt K mg "height" s_height) (D_need_area : Dfn T P w K mg base "need_area" 4 cNeedArea) (D_lowest : Dfn T P w K mg base "lowest" 2 cLowest) : Dfn T P w K mg base "height" 5 cHeight := by
  refine fn_dfn (k := 4) A sc_height (fun _ _ _ _ _ _ us hl => match us, hl with | [_], _ => rfl) (fun as S h => ?_) (fun fa cdv A outer s G H E as S hC B => ?_)
  · rcases h with ⟨a, b, c, m, ht, hm, rfl, rfl⟩ | ⟨a, b, c, ht, hm, rfl, rfl⟩ | ⟨d, hd, rfl, rfl⟩ <;> exact ⟨rfl, by simp⟩
  · rcases hC with ⟨a, b, c, m, ht, hm, rfl, rfl⟩ | ⟨a, b, c, ht, hm, rfl, rfl⟩ | ⟨d, hd, rfl, rfl⟩
    · obtain ⟨m1, m2, m3⟩ := area_some ht hm
      have h1 := ht.a1
      have h2 := ht.le
      have h3 := ht.c100
      refine asg 1 sc_height.nd (de_call D_need_area B (by decide) (da_cons (dv 0 rfl) da_nil) (.inl ⟨_, _, _, _, ht, hm, rfl, rfl⟩)) ?_
      exact wss_ret (DE.we (de_call D_lowest B (by decide) (da_cons (de_mul de_int (dv 1 rfl) (cmulL (by omega) (by omega))) (da_cons (de_ixT (dv 0 rfl) de_int rfl) da_nil)) ⟨_, _, by omega, by omega, by omega, rfl, rfl⟩) rfl)
    · refine asgW 1 sc_height.nd (we_call (Q := fun _ => False) D_need_area B (by decide) (DA.wa (da_cons (dv 0 rfl) da_nil)) (.inr (.inl ⟨_, _, _, ht, hm, rfl, rfl⟩)) (fun r e => by subst e; exact rfl)) (fun _ z => z.elim)
    · refine asgW 1 sc_height.nd (we_call (Q := fun _ => False) D_need_area B (by decide) (DA.wa (da_cons (dv 0 rfl) da_nil)) (.inr (.inr ⟨_, hd, rfl, rfl⟩)) (fun r e => by subst e; exact rfl)) (fun _ z => z.elim)
abbrev s_need_both : Stmt := topS 33
theorem sc_need_both : FnScope ["triangle", "other"] ["triangle", "other"] (defScope s_need_both) := ⟨rfl, rfl, rfl, by decide +kernel, rfl, by decide +kernel, by decide +kernel⟩
theorem ok_need_both (M : Mb mg) (A : DefAt K mg "need_both" s_need_both) (D_need_triangle : Dfn T P w K mg base "need_triangle" 3 cNeedTri) : Dfn T P w K mg base "need_both" 4 cNeedBoth := by
  refine fn_dfn (k := 3) A sc_need_both (fun _ _ _ _ _ _ us hl => match us, hl with | [_, _], _ => rfl) (fun as S h => ?_) (fun fa cdv A outer s G H E as S hC B => ?_)
  · rcases h with ⟨a, b, c, x, y, z, ht, hu, rfl, rfl⟩ <;> exact ⟨rfl, by simp⟩
  · rcases hC with ⟨a, b, c, x, y, z, ht, hu, rfl, rfl⟩
    refine wss_expr (Q := fun _ => True) (we_call D_need_triangle B (by decide) (DA.wa (da_cons (dv 0 rfl) da_nil)) (.inl ⟨_, isTri_tri ht, rfl, rfl⟩) (fun r e => by subst e; trivial)) (fun _ => ?_)
    refine wss_expr (Q := fun _ => True) (we_call D_need_triangle B (by decide) (DA.wa (da_cons (dv 1 rfl) da_nil)) (.inl ⟨_, isTri_tri hu, rfl, rfl⟩) (fun r e => by subst e; trivial)) (fun _ => ?_)
    exact wss_nil rfl
abbrev s_shared_legs : Stmt := topS 34
theorem sc_shared_legs : FnScope ["triangle", "other", "leg"] ["triangle", "other"] (defScope s_shared_legs) := ⟨rfl, rfl, rfl, by decide +kernel, rfl, by decide +kernel, by decide +kernel⟩
theorem ok_shared_legs (M : Mb mg) (A : DefAt K mg "shared_legs" s_shared_legs) : Dfn T P w K mg base "shared_legs" 1 cShared := by
  refine fn_dfn (k := 0) A sc_shared_legs (fun _ _ _ _ _ _ us hl => match us, hl with | [_, _], _ => rfl) (fun as S h => ?_) (fun fa cdv A outer s G H E as S hC B => ?_)
  · rcases h with ⟨a, b, c, x, y, z, ht, hu, rfl, rfl⟩ <;> exact ⟨rfl, by simp⟩
  · rcases hC with ⟨a, b, c, x, y, z, ht, hu, rfl, rfl⟩
    refine wss_ret (DE.we (de_lc (own := [("leg", 2)]) B sc_shared_legs.nd (di_list (de_sortedSetT (ns := [a, b]) B.calm (DE.is (de_slT (dv 0 rfl) do_none (do_some de_int)) rfl) (Nat.le_of_ble_eq_true rfl) (sortU2_len a b) M.sorted M.set)) (blkOk_by (N := ["triangle", "other", "leg"]) (sc := defScope s_shared_legs) (by decide +kernel)) (by simp) (fun _ _ _ _ _ => wg_name (n := 2) sc_shared_legs.nd rfl (.inl rfl)) (gd := fun d => match d with | .int l => legsB x y l | _ => false) (vd := fun d => d) (fun i d h => ?row) ?ln) ?_)
    case row =>
      obtain ⟨l, _, rfl⟩ := iL_at h
      exact ⟨_, ⟨Nat.le_of_ble_eq_true rfl, rfl⟩, fun s5 H5 C5 cl5 fp5 => wts_one (DT.is (dt_inT (x := .int l) (ds := [.int x, .int y]) (dv 2 rfl) (DE.is (de_slT (dv 1 rfl) do_none (do_some de_int)) rfl) (B.blk s5 H5 _ _ fp5).units5 rfl rfl) (in_two x y l)), fun _ _ _ _ _ _ => dv 2 rfl⟩
    case ln =>
      have q := sortU2_len a b
      rw [show (iL (sortU [a, b])).length = (sortU [a, b]).length from List.length_map ..]
      omega
    show Except.ok (PyData.list _) = Except.ok (PyData.list (iL (sharedI a b x y)))
    unfold sharedI iL
    rw [List.map_id', List.filter_map]
    rfl
abbrev s_join : Stmt := topS 35
theorem sc_join : FnScope ["triangle", "other", "leg", "rest"] ["triangle", "other", "leg"] (defScope s_join) := ⟨rfl, rfl, rfl, by decide +kernel, rfl, by decide +kernel, by decide +kernel⟩
theorem ok_join (M : Mb mg) (A : DefAt K mg "join" s_join) (D_need_both : Dfn T P w K mg base "need_both" 4 cNeedBoth) (D_need_right : Dfn T P w K mg base "need_right" 2 cNeedRight) (D_shared_legs : Dfn T P w K mg base "shared_legs" 1 cShared) (D_is_whole : Dfn T P w K mg base "is_whole" 1 cIsWhole) {c_NoLeg : Addr} (X_NoLeg : XC K mg "NoLeg" c_NoLeg) {c_TooGreat : Addr} (X_TooGreat : XC K mg "TooGreat" c_TooGreat) : Dfn T P w K mg base "join" 5 cJoin := by
  refine fn_dfn (k := 4) A sc_join (fun _ _ _ _ _ _ us hl => match us, hl with | [_, _, _], _ => rfl) (fun as S h => ?_) (fun fa cdv A outer s G H E as S hC B => ?_)
  · rcases h with ⟨a, b, c, x, y, z, l, hR, hl, hr, rfl, rfl⟩ | ⟨a, b, c, x, y, z, l, hR, hl, hr, rfl, rfl⟩ | ⟨a, b, c, x, y, z, l, hR, hl, rfl, rfl⟩ | ⟨a, b, c, x, y, z, d, hR, hw, rfl, rfl⟩ | ⟨a, b, c, x, y, z, d, ht, hu, r1, r2, rfl, rfl⟩ <;> exact ⟨rfl, by simp⟩
  · rcases hC with ⟨a, b, c, x, y, z, l, hR, hl, hr, rfl, rfl⟩ | ⟨a, b, c, x, y, z, l, hR, hl, hr, rfl, rfl⟩ | ⟨a, b, c, x, y, z, l, hR, hl, rfl, rfl⟩ | ⟨a, b, c, x, y, z, d, hR, hw, rfl, rfl⟩ | ⟨a, b, c, x, y, z, d, ht, hu, r1, r2, rfl, rfl⟩
    · refine wss_expr (Q := fun _ => True) (we_call D_need_both B (by decide) (DA.wa (da_cons (dv 0 rfl) (da_cons (dv 1 rfl) da_nil))) ⟨_, _, _, _, _, _, hR.t1, hR.t2, rfl, rfl⟩ (fun r e => by subst e; trivial)) (fun _ => ?_)
      refine wss_expr (Q := fun _ => True) (we_call D_need_right B (by decide) (DA.wa (da_cons (dv 0 rfl) da_nil)) (.inl ⟨_, _, _, hR.t1, hR.r1, rfl, rfl⟩) (fun r e => by subst e; trivial)) (fun _ => ?_)
      refine wss_expr (Q := fun _ => True) (we_call D_need_right B (by decide) (DA.wa (da_cons (dv 1 rfl) da_nil)) (.inl ⟨_, _, _, hR.t2, hR.r2, rfl, rfl⟩) (fun r e => by subst e; trivial)) (fun _ => ?_)
      have h1 := hR.t1.a1
      have h2 := hR.t1.le
      have u1 := hR.t2.a1
      have u2 := hR.t2.le
      have hl' := (mem_shared.mp hl).1
      have hw : isWhole (.int l) 1 100 = true := by
        show (decide (1 ≤ l) && decide (l ≤ 100)) = true
        rw [decide_eq_true (by omega), decide_eq_true (by omega)]
        rfl
      refine dif (q := false) (DT.is (WW.wt (dw_orF (dt_not (dt_val (de_call D_is_whole B (by decide) (da_cons (dv 2 rfl) (da_cons de_int (da_cons de_int da_nil))) ⟨_, _, _, rfl, rfl⟩))) (by rw [hw]; rfl) (dw_or1 (dt_ninL (dv 2 rfl) (de_call D_shared_legs B (by decide) (da_cons (dv 0 rfl) (da_cons (dv 1 rfl) da_nil)) ⟨_, _, _, _, _, _, hR.t1, hR.t2, rfl, rfl⟩) B.units5 rfl (shp_listI _).ok)))) (by rw [in_iL, decide_eq_true hl]; rfl)) (fun z => nof z) (fun _ => wss_nil ?_)
      refine asg 3 sc_join.nd (d := .int (restOf a b x y l)) (de_sub (de_add (de_sub (DE.is (d' := .int (a + b)) (de_sumT (ns := [a, b]) B.calm (DE.is (de_slT (dv 0 rfl) do_none (do_some de_int)) rfl) M.sum) (by show PyData.int (a + (b + 0)) = _; rw [Int.add_zero])) (dv 2 rfl)) (DE.is (d' := .int (x + y)) (de_sumT (ns := [x, y]) B.calm (DE.is (de_slT (dv 1 rfl) do_none (do_some de_int)) rfl) M.sum) (by show PyData.int (x + (y + 0)) = _; rw [Int.add_zero]))) (dv 2 rfl)) ?_
      refine dif (q := false) (DT.is (dt_gt (dv 3 rfl) de_int) (decide_eq_false (by omega))) (fun z => nof z) (fun _ => wss_nil ?_)
      exact wss_ret (DE.we (de_tupleL (de_sorted (ns := [c, z, restOf a b x y l]) (de_lst (da_cons (de_ixT (dv 0 rfl) de_int rfl) (da_cons (de_ixT (dv 1 rfl) de_int rfl) (da_cons (dv 3 rfl) da_nil)))) M.sorted) M.tuple) rfl)
    · refine wss_expr (Q := fun _ => True) (we_call D_need_both B (by decide) (DA.wa (da_cons (dv 0 rfl) (da_cons (dv 1 rfl) da_nil))) ⟨_, _, _, _, _, _, hR.t1, hR.t2, rfl, rfl⟩ (fun r e => by subst e; trivial)) (fun _ => ?_)
      refine wss_expr (Q := fun _ => True) (we_call D_need_right B (by decide) (DA.wa (da_cons (dv 0 rfl) da_nil)) (.inl ⟨_, _, _, hR.t1, hR.r1, rfl, rfl⟩) (fun r e => by subst e; trivial)) (fun _ => ?_)
      refine wss_expr (Q := fun _ => True) (we_call D_need_right B (by decide) (DA.wa (da_cons (dv 1 rfl) da_nil)) (.inl ⟨_, _, _, hR.t2, hR.r2, rfl, rfl⟩) (fun r e => by subst e; trivial)) (fun _ => ?_)
      have h1 := hR.t1.a1
      have h2 := hR.t1.le
      have u1 := hR.t2.a1
      have u2 := hR.t2.le
      have hl' := (mem_shared.mp hl).1
      have hw : isWhole (.int l) 1 100 = true := by
        show (decide (1 ≤ l) && decide (l ≤ 100)) = true
        rw [decide_eq_true (by omega), decide_eq_true (by omega)]
        rfl
      refine dif (q := false) (DT.is (WW.wt (dw_orF (dt_not (dt_val (de_call D_is_whole B (by decide) (da_cons (dv 2 rfl) (da_cons de_int (da_cons de_int da_nil))) ⟨_, _, _, rfl, rfl⟩))) (by rw [hw]; rfl) (dw_or1 (dt_ninL (dv 2 rfl) (de_call D_shared_legs B (by decide) (da_cons (dv 0 rfl) (da_cons (dv 1 rfl) da_nil)) ⟨_, _, _, _, _, _, hR.t1, hR.t2, rfl, rfl⟩) B.units5 rfl (shp_listI _).ok)))) (by rw [in_iL, decide_eq_true hl]; rfl)) (fun z => nof z) (fun _ => wss_nil ?_)
      refine asg 3 sc_join.nd (d := .int (restOf a b x y l)) (de_sub (de_add (de_sub (DE.is (d' := .int (a + b)) (de_sumT (ns := [a, b]) B.calm (DE.is (de_slT (dv 0 rfl) do_none (do_some de_int)) rfl) M.sum) (by show PyData.int (a + (b + 0)) = _; rw [Int.add_zero])) (dv 2 rfl)) (DE.is (d' := .int (x + y)) (de_sumT (ns := [x, y]) B.calm (DE.is (de_slT (dv 1 rfl) do_none (do_some de_int)) rfl) M.sum) (by show PyData.int (x + (y + 0)) = _; rw [Int.add_zero]))) (dv 2 rfl)) ?_
      exact dif (q := true) (DT.is (dt_gt (dv 3 rfl) de_int) (decide_eq_true hr)) (fun _ => wss_one (ws_raise B X_TooGreat rfl)) (fun z => noT z)
    · refine wss_expr (Q := fun _ => True) (we_call D_need_both B (by decide) (DA.wa (da_cons (dv 0 rfl) (da_cons (dv 1 rfl) da_nil))) ⟨_, _, _, _, _, _, hR.t1, hR.t2, rfl, rfl⟩ (fun r e => by subst e; trivial)) (fun _ => ?_)
      refine wss_expr (Q := fun _ => True) (we_call D_need_right B (by decide) (DA.wa (da_cons (dv 0 rfl) da_nil)) (.inl ⟨_, _, _, hR.t1, hR.r1, rfl, rfl⟩) (fun r e => by subst e; trivial)) (fun _ => ?_)
      refine wss_expr (Q := fun _ => True) (we_call D_need_right B (by decide) (DA.wa (da_cons (dv 1 rfl) da_nil)) (.inl ⟨_, _, _, hR.t2, hR.r2, rfl, rfl⟩) (fun r e => by subst e; trivial)) (fun _ => ?_)
      refine dif (q := true) ?cnd (fun _ => wss_one (ws_raise B X_NoLeg rfl)) (fun z => noT z)
      cases hw : isWhole (.int l) 1 100 with
      | false => exact WW.wt (dw_orT (dt_not (dt_val (de_call D_is_whole B (by decide) (da_cons (dv 2 rfl) (da_cons de_int (da_cons de_int da_nil))) ⟨_, _, _, rfl, rfl⟩))) (by rw [hw]; rfl))
      | true => exact DT.is (WW.wt (dw_orF (dt_not (dt_val (de_call D_is_whole B (by decide) (da_cons (dv 2 rfl) (da_cons de_int (da_cons de_int da_nil))) ⟨_, _, _, rfl, rfl⟩))) (by rw [hw]; rfl) (dw_or1 (dt_ninL (dv 2 rfl) (de_call D_shared_legs B (by decide) (da_cons (dv 0 rfl) (da_cons (dv 1 rfl) da_nil)) ⟨_, _, _, _, _, _, hR.t1, hR.t2, rfl, rfl⟩) B.units5 rfl (shp_listI _).ok)))) (by rw [in_iL, decide_eq_false hl]; rfl)
    · refine wss_expr (Q := fun _ => True) (we_call D_need_both B (by decide) (DA.wa (da_cons (dv 0 rfl) (da_cons (dv 1 rfl) da_nil))) ⟨_, _, _, _, _, _, hR.t1, hR.t2, rfl, rfl⟩ (fun r e => by subst e; trivial)) (fun _ => ?_)
      refine wss_expr (Q := fun _ => True) (we_call D_need_right B (by decide) (DA.wa (da_cons (dv 0 rfl) da_nil)) (.inl ⟨_, _, _, hR.t1, hR.r1, rfl, rfl⟩) (fun r e => by subst e; trivial)) (fun _ => ?_)
      refine wss_expr (Q := fun _ => True) (we_call D_need_right B (by decide) (DA.wa (da_cons (dv 1 rfl) da_nil)) (.inl ⟨_, _, _, hR.t2, hR.r2, rfl, rfl⟩) (fun r e => by subst e; trivial)) (fun _ => ?_)
      exact dif (q := true) (WW.wt (dw_orT (dt_not (dt_val (de_call D_is_whole B (by decide) (da_cons (dv 2 rfl) (da_cons de_int (da_cons de_int da_nil))) ⟨_, _, _, rfl, rfl⟩))) (by rw [hw]; rfl))) (fun _ => wss_one (ws_raise B X_NoLeg rfl)) (fun z => noT z)
    · refine wss_expr (Q := fun _ => True) (we_call D_need_both B (by decide) (DA.wa (da_cons (dv 0 rfl) (da_cons (dv 1 rfl) da_nil))) ⟨_, _, _, _, _, _, ht, hu, rfl, rfl⟩ (fun r e => by subst e; trivial)) (fun _ => ?_)
      refine wss_expr (Q := fun _ => True) (we_call D_need_right B (by decide) (DA.wa (da_cons (dv 0 rfl) da_nil)) (.inl ⟨_, _, _, ht, r1, rfl, rfl⟩) (fun r e => by subst e; trivial)) (fun _ => ?_)
      exact wss_expr (Q := fun _ => False) (we_call D_need_right B (by decide) (DA.wa (da_cons (dv 1 rfl) da_nil)) (.inr ⟨_, _, _, hu, r2, rfl, rfl⟩) (fun r e => by subst e; exact rfl)) (fun ⟨_, z⟩ => z.elim)
end
end KR
set_option Elab.async false
set_option linter.all false
set_option maxRecDepth 100000
set_option maxHeartbeats 4000000
namespace KR
open PySem PySem.Spec PyProof.Rows L2 DL
section
variable {T : Tb} {P : Program} {w : World} {K : PySem.W.Frag} {mg : Str → Option Value} {base : Heap}
abbrev s_written : Stmt := topS 43
theorem sc_written : FnScope ["triangle", "side"] ["triangle"] (defScope s_written) := ⟨rfl, rfl, rfl, by decide +kernel, rfl, by decide +kernel, by decide +kernel⟩
theorem ok_written (M : Mb mg) (A : DefAt K mg "written" s_written) : Dfn T P w K mg base "written" 1 cWritten := by
  refine fn_dfn (k := 0) A sc_written (fun _ _ _ _ _ _ us hl => match us, hl with | [_], _ => rfl) (fun as S h => ?_) (fun fa cdv A outer s G H E as S hC B => ?_)
  · rcases h with ⟨a, b, c, ht, rfl, rfl⟩ <;> exact ⟨rfl, by simp⟩
  · rcases hC with ⟨a, b, c, ht, rfl, rfl⟩
    have hn := tri_in ht
    have l1 := numS_len (hn a (by simp)).1 (hn a (by simp)).2
    have l2 := numS_len (hn b (by simp)).1 (hn b (by simp)).2
    have l3 := numS_len (hn c (by simp)).1 (hn c (by simp)).2
    have l4 : dash.length = 1 := by decide +kernel
    refine wss_ret (DE.we (de_join (x := dash) (ys := [numS a, numS b, numS c]) de_str (DE.is (d' := .list (sL [numS a, numS b, numS c])) (de_lc (own := [("side", 1)]) B sc_written.nd (di_tup (ds := [.int a, .int b, .int c]) (dv 0 rfl)) (blkOk_by (N := ["triangle", "side"]) (sc := defScope s_written) (by decide +kernel)) (by simp) (fun _ _ _ _ _ => wg_name (n := 1) sc_written.nd rfl (.inl rfl)) (gd := fun _ => true) (vd := stD) (fun i d h => ?row) (Nat.le_of_ble_eq_true rfl)) rfl) ?ln) rfl)
    case row =>
      obtain ⟨n, rfl, h1, h2⟩ : ∃ n : Int, d = .int n ∧ 0 ≤ n ∧ n ≤ 100 := by
        have hm := List.mem_of_getElem? h
        simp only [List.mem_cons, List.not_mem_nil, or_false] at hm
        rcases hm with rfl | rfl | rfl
        · exact ⟨a, rfl, hn a (by simp)⟩
        · exact ⟨b, rfl, hn b (by simp)⟩
        · exact ⟨c, rfl, hn c (by simp)⟩
      exact ⟨_, ⟨Nat.le_of_ble_eq_true rfl, rfl⟩, fun _ _ _ _ _ => wts_nil, fun _ s5 H5 C5 cl5 fp5 => de_strI (dv 1 rfl) (Nat.lt_of_le_of_lt (Nat.log2_le_self _) (by omega)) M.str⟩
    case ln =>
      show ((numS a).length + ((numS b).length + ((numS c).length + 0))) + 3 * dash.length ≤ 16777216
      omega
abbrev s_side_of : Stmt := topS 44
theorem sc_side_of : FnScope ["word", "sign"] ["word"] (defScope s_side_of) := ⟨rfl, rfl, rfl, by decide +kernel, rfl, by decide +kernel, by decide +kernel⟩
theorem ok_side_of (M : Mb mg) (A : DefAt K mg "side_of" s_side_of) {c_InvalidText : Addr} (X_InvalidText : XC K mg "InvalidText" c_InvalidText) : Dfn T P w K mg base "side_of" 1 cSide := by
  refine fn_dfn (k := 0) A sc_side_of (fun _ _ _ _ _ _ us hl => match us, hl with | [_], _ => rfl) (fun as S h => ?_) (fun fa cdv A outer s G H E as S hC B => ?_)
  · rcases h with ⟨w, hw, hl, rfl, rfl⟩ | ⟨w, hw, hl, rfl, rfl⟩ <;> exact ⟨rfl, by simp⟩
  · rcases hC with ⟨w, hw, hl, rfl, rfl⟩ | ⟨w, hw, hl, rfl, rfl⟩
    · refine dif (q := !sideOk w) (DT.is (b' := !sideOk w) (WW.wt (dw_or (dt_not (dt_chain op_le op_le de_int (de_lenS (dv 0 rfl) (by omega) M.len) de_int)) fun _ => dw_or1 (dt_not (dt_val (de_all B.calm (bs := w.cps.toList.map fun c => decide (c ∈ digS.cps.toList)) (DE.is (de_lc (own := [("sign", 1)]) B sc_side_of.nd (di_str (dv 0 rfl)) (blkOk_by (N := ["word", "sign"]) (sc := defScope s_side_of) (by decide +kernel)) (by simp) (fun _ _ _ _ _ => wg_name (n := 1) sc_side_of.nd rfl (.inl rfl)) (gd := fun _ => true) (vd := sgD) (fun i d h => ?row) (by rw [chD_len]; omega)) (by rw [chD_sg])) M.all))))) ?eq) (fun z => ?_) (fun _ => wss_nil (wss_ret (DE.we (de_intS (dv 0 rfl) (side_int hw).1 (side_int hw).2 M.int) rfl)))
      case row =>
        obtain ⟨n, rfl⟩ := chD_at h
        exact ⟨_, ⟨Nat.le_of_ble_eq_true rfl, rfl⟩, fun _ _ _ _ _ => wts_nil, fun _ s5 H5 C5 cl5 fp5 => de_inS (z := digS) (dv 1 rfl) de_str⟩
      case eq => exact side_not w
    
      · rw [hw] at z
        exact nof z
    · refine dif (q := !sideOk w) (DT.is (b' := !sideOk w) (WW.wt (dw_or (dt_not (dt_chain op_le op_le de_int (de_lenS (dv 0 rfl) (by omega) M.len) de_int)) fun _ => dw_or1 (dt_not (dt_val (de_all B.calm (bs := w.cps.toList.map fun c => decide (c ∈ digS.cps.toList)) (DE.is (de_lc (own := [("sign", 1)]) B sc_side_of.nd (di_str (dv 0 rfl)) (blkOk_by (N := ["word", "sign"]) (sc := defScope s_side_of) (by decide +kernel)) (by simp) (fun _ _ _ _ _ => wg_name (n := 1) sc_side_of.nd rfl (.inl rfl)) (gd := fun _ => true) (vd := sgD) (fun i d h => ?row) (by rw [chD_len]; omega)) (by rw [chD_sg])) M.all))))) ?eq) (fun _ => wss_one (ws_raise B X_InvalidText rfl)) (fun z => ?_)
      case row =>
        obtain ⟨n, rfl⟩ := chD_at h
        exact ⟨_, ⟨Nat.le_of_ble_eq_true rfl, rfl⟩, fun _ _ _ _ _ => wts_nil, fun _ s5 H5 C5 cl5 fp5 => de_inS (z := digS) (dv 1 rfl) de_str⟩
      case eq => exact side_not w
    
      · rw [hw] at z
        exact noT z
abbrev s_parse_triangle : Stmt := topS 45
theorem sc_parse_triangle : FnScope ["text", "made", "word"] ["text"] (defScope s_parse_triangle) := ⟨rfl, rfl, rfl, by decide +kernel, rfl, by decide +kernel, by decide +kernel⟩
theorem ok_parse_triangle (M : Mb mg) (A : DefAt K mg "parse_triangle" s_parse_triangle) (D_is_triangle : Dfn T P w K mg base "is_triangle" 2 cIsTri) (D_written : Dfn T P w K mg base "written" 1 cWritten) (D_side_of : Dfn T P w K mg base "side_of" 1 cSide) {c_InvalidText : Addr} (X_InvalidText : XC K mg "InvalidText" c_InvalidText) : Dfn T P w K mg base "parse_triangle" 4 cParse := by
  refine fn_dfn (k := 3) A sc_parse_triangle (fun _ _ _ _ _ _ us hl => match us, hl with | [_], _ => rfl) (fun as S h => ?_) (fun fa cdv A outer s G H E as S hC B => ?_)
  · rcases h with ⟨t, hp, hl, rfl, rfl⟩ | ⟨t, hp, hl, rfl, rfl⟩ | ⟨d, hd, rfl, rfl⟩ <;> exact ⟨rfl, by simp⟩
  · rcases hC with ⟨t, hp, hl, rfl, rfl⟩ | ⟨t, hp, hl, rfl, rfl⟩ | ⟨d, hd, rfl, rfl⟩
    · obtain ⟨a, b, c, ht, em, ew⟩ := parse_text hp
      have hall : (wordsOf t).all sideOk = true := by
        unfold parseOk at hp
        simp only [Bool.and_eq_true] at hp
        exact hp.1.1
      refine dif (q := false) (DT.is (dt_not (dt_val (de_isStr (dv 0 rfl) M.isinstance M.str))) rfl) (fun z => nof z) (fun _ => wss_nil ?_)
      refine asgW 1 sc_parse_triangle.nd (we_tupleL (Q := fun z => (wordsOf t).all sideOk = true ∧ z = .tuple (iL (madeOf t))) ((we_lcX (own := [("word", 2)]) (ds := sL (wordsOf t)) B rfl rfl sc_parse_triangle.nd (di_list (de_split (x := t) (y := dash) (dv 0 rfl) de_str (by decide +kernel) (by omega))) (blkOk_by (N := ["text", "made", "word"]) (sc := defScope s_parse_triangle) (by decide +kernel)) (by simp) (fun _ _ _ _ _ => wg_name (n := 2) sc_parse_triangle.nd rfl (.inl rfl)) (gd := sdB) (vd := sdV) (fun i d h => ?row) ?len).mono fun d ⟨h1, h2⟩ => ⟨_, h2, sL_ok h1, by rw [sL_vals]; rfl⟩) M.tuple) ?_
      case len =>
        have := split_len t
        rw [show (sL (wordsOf t)).length = (wordsOf t).length from List.length_map ..]
        omega
    
      case row =>
        obtain ⟨y, hy, rfl⟩ := sL_at h
        have hwl := word_len hy
        have hq : sideOk y = true := List.all_eq_true.mp hall y hy
        exact ⟨_, ⟨Nat.le_of_ble_eq_true rfl, rfl⟩, fun s5 H5 C5 cl5 fp5 => we_callX D_side_of passE B.rm (by decide) (DA.wa (da_cons (dv 2 rfl) da_nil)) (.inl ⟨y, hq, by omega, rfl, rfl⟩) (fun r e => by subst e; exact ⟨hq, rfl⟩)⟩
      rintro _ ⟨_, rfl⟩
      rw [em] at B ⊢
      refine dif (q := false) (DT.is (WW.wt (dw_orF (dt_not (dt_val (de_call D_is_triangle B (by decide) (da_cons (dv 1 rfl) da_nil) ⟨_, rfl, rfl⟩))) (by show (!isTriD (tri a b c)) = false; rw [isTri_tri ht]; rfl) (dw_or1 (dt_neS (de_call D_written B (by decide) (da_cons (dv 1 rfl) da_nil) ⟨a, b, c, ht, rfl, rfl⟩) (dv 0 rfl))))) (by rw [ew, decide_eq_true rfl]; rfl)) (fun z => nof z) (fun _ => wss_nil (wss_ret (DE.we (dv 1 rfl) rfl)))
    · refine dif (q := false) (DT.is (dt_not (dt_val (de_isStr (dv 0 rfl) M.isinstance M.str))) rfl) (fun z => nof z) (fun _ => wss_nil ?_)
      refine asgW 1 sc_parse_triangle.nd (we_tupleL (Q := fun z => (wordsOf t).all sideOk = true ∧ z = .tuple (iL (madeOf t))) ((we_lcX (own := [("word", 2)]) (ds := sL (wordsOf t)) B rfl rfl sc_parse_triangle.nd (di_list (de_split (x := t) (y := dash) (dv 0 rfl) de_str (by decide +kernel) (by omega))) (blkOk_by (N := ["text", "made", "word"]) (sc := defScope s_parse_triangle) (by decide +kernel)) (by simp) (fun _ _ _ _ _ => wg_name (n := 2) sc_parse_triangle.nd rfl (.inl rfl)) (gd := sdB) (vd := sdV) (fun i d h => ?row) ?len).mono fun d ⟨h1, h2⟩ => ⟨_, h2, sL_ok h1, by rw [sL_vals]; rfl⟩) M.tuple) ?_
      case len =>
        have := split_len t
        rw [show (sL (wordsOf t)).length = (wordsOf t).length from List.length_map ..]
        omega
    
      case row =>
        obtain ⟨y, hy, rfl⟩ := sL_at h
        have hwl := word_len hy
        refine ⟨_, ⟨Nat.le_of_ble_eq_true rfl, rfl⟩, fun s5 H5 C5 cl5 fp5 => ?_⟩
        cases hq : sideOk y with
        | true => exact we_callX D_side_of passE B.rm (by decide) (DA.wa (da_cons (dv 2 rfl) da_nil)) (.inl ⟨y, hq, by omega, rfl, rfl⟩) (fun r e => by subst e; exact ⟨hq, rfl⟩)
        | false => exact we_callX D_side_of passE B.rm (by decide) (DA.wa (da_cons (dv 2 rfl) da_nil)) (.inr ⟨y, hq, by omega, rfl, rfl⟩) (fun r e => by subst e; exact rfl)
      rintro _ ⟨hall, rfl⟩
      cases hq : isTriD (.tuple (iL (madeOf t))) with
      | false => exact dif (q := true) (DT.is (WW.wt (dw_orT (dt_not (dt_val (de_call D_is_triangle B (by decide) (da_cons (dv 1 rfl) da_nil) ⟨_, rfl, rfl⟩))) (by rw [hq]; rfl))) rfl) (fun _ => wss_one (ws_raise B X_InvalidText rfl)) (fun z => noT z)
      | true =>
        obtain ⟨a, b, c, e, ht⟩ := isTri_shape hq
        have em : madeOf t = [a, b, c] := iL_inj (show iL (madeOf t) = iL [a, b, c] from PyData.tuple.inj e)
        have en : ¬ writtenS [a, b, c] = t := fun q => by
          unfold parseOk at hp
          rw [hall, hq, em, q, beq_self_eq_true] at hp
          exact noT hp
        rw [em]
        exact dif (q := true) (DT.is (WW.wt (dw_orF (dt_not (dt_val (de_call D_is_triangle B (by decide) (da_cons (dv 1 rfl) da_nil) ⟨_, rfl, rfl⟩))) (by show (!isTriD (tri a b c)) = false; rw [isTri_tri ht]; rfl) (dw_or1 (dt_neS (de_call D_written B (by decide) (da_cons (dv 1 rfl) da_nil) ⟨a, b, c, ht, rfl, rfl⟩) (dv 0 rfl))))) (by rw [decide_eq_false en]; rfl)) (fun _ => wss_one (ws_raise B X_InvalidText rfl)) (fun z => noT z)
    · exact dif (q := true) (DT.is (dt_not (dt_val (de_isStr (dv 0 rfl) M.isinstance M.str))) (by rw [hd]; rfl)) (fun _ => wss_one (ws_raise B X_InvalidText rfl)) (fun z => noT z)
abbrev s__law_alone : Stmt := topS 52
theorem sc__law_alone : FnScope ["e", "own", "some", "at"] ["e", "own"] (defScope s__law_alone) := ⟨rfl, rfl, rfl, by decide +kernel, rfl, by decide +kernel, by decide +kernel⟩

theorem ok__law_alone (M : Mb mg) {c : Nat → Addr} {cR : Addr} (O : Errs K mg c cR) (A : DefAt K mg "_law_alone" s__law_alone) : Dfn T P w K mg base "_law_alone" 1 (cAlone c) := by
  refine fn_dfn (k := 0) A sc__law_alone (fun _ _ _ _ _ _ us hl => match us, hl with | [_, _], _ => rfl) (fun as S h => ?_) (fun fa cdv A outer s G H E as S hC B => ?_)
  · obtain ⟨a, j, hj, rfl, _⟩ := h
    exact ⟨rfl, by simp⟩
  · obtain ⟨a, j, hj, rfl, rfl⟩ := hC
    refine asg 2 sc__law_alone.nd (de_lst (da_cons (de_isK (n := 0) (O.ex j hj) rfl (O.kit 0 j (by decide) hj) M.isinstance (O.g 0 _ rfl)) (da_cons (de_isK (n := 0) (O.ex j hj) rfl (O.kit 1 j (by decide) hj) M.isinstance (O.g 1 _ rfl)) (da_cons (de_isK (n := 0) (O.ex j hj) rfl (O.kit 2 j (by decide) hj) M.isinstance (O.g 2 _ rfl)) da_nil)))) ?_
    refine asg 2 sc__law_alone.nd (de_cat (dv 2 rfl) (de_lst (da_cons (de_isK (n := 0) (O.ex j hj) rfl (O.kit 3 j (by decide) hj) M.isinstance (O.g 3 _ rfl)) (da_cons (de_isK (n := 0) (O.ex j hj) rfl (O.kit 4 j (by decide) hj) M.isinstance (O.g 4 _ rfl)) (da_cons (de_isK (n := 0) (O.ex j hj) rfl (O.kit 5 j (by decide) hj) M.isinstance (O.g 5 _ rfl)) da_nil))))) ?_
    refine asg 2 sc__law_alone.nd (de_cat (dv 2 rfl) (de_lst (da_cons (de_isK (n := 0) (O.ex j hj) rfl (O.kit 6 j (by decide) hj) M.isinstance (O.g 6 _ rfl)) (da_cons (de_isK (n := 0) (O.ex j hj) rfl (O.kit 7 j (by decide) hj) M.isinstance (O.g 7 _ rfl)) (da_cons (de_isK (n := 0) (O.ex j hj) rfl (O.kit 8 j (by decide) hj) M.isinstance (O.g 8 _ rfl)) da_nil))))) ?_
    refine asg 2 sc__law_alone.nd (de_cat (dv 2 rfl) (de_lst (da_cons (de_isK (n := 0) (O.ex j hj) rfl (O.kit 9 j (by decide) hj) M.isinstance (O.g 9 _ rfl)) (da_cons (de_isK (n := 0) (O.ex j hj) rfl (O.kit 10 j (by decide) hj) M.isinstance (O.g 10 _ rfl)) da_nil)))) ?_
    refine wss_ret (DE.we (d := .bool true) (DE.is (de_and (p := true) ?isv fun _ => de_one (de_eq (x := .list (bL (flagsOf j))) (y := .list (((rngD 0 11).filter (fun _ => true)).map (alV j))) ?own ?lc B.units ?sx ?sy)) ?eq) ?fin)
    case isv => exact de_isKB (n := 0) (O.ex j hj) rfl (O.kv j hj) M.isinstance O.ve (by decide +kernel)
    case own => exact dv 2 rfl
    case sx => rfl
    case sy => rfl
    case lc =>
      refine de_lc (own := [("at", 3)]) B sc__law_alone.nd (di_rng1 (j := 11) de_int M.range (by decide) (by decide)) (blkOk_by (N := ["e", "own", "some", "at"]) (sc := defScope s__law_alone) (by decide +kernel)) (by simp) (fun _ _ _ _ _ => wg_name (n := 3) sc__law_alone.nd rfl (.inl rfl)) (gd := fun _ => true) (vd := alV j) ?row (Nat.le_of_ble_eq_true rfl)
      case row =>
        intro i d h
        obtain ⟨hi, rfl⟩ := rngD_at h
        exact ⟨_, ⟨Nat.le_of_ble_eq_true rfl, rfl⟩, fun _ _ _ _ _ => wts_nil, fun _ s5 H5 C5 cl5 fp5 => de_eqI (dv 3 rfl) (dv 1 rfl)⟩
    case eq => rw [alone_eq j hj]; rfl
    case fin => rfl

end
end KR
set_option Elab.async false
set_option linter.all false
set_option maxRecDepth 100000
set_option maxHeartbeats 4000000
namespace KR
open PySem PySem.Spec PyProof.Rows L2 DL
section
variable {T : Tb} {P : Program} {w : World} {K : PySem.W.Frag} {mg : Str → Option Value} {base : Heap}
abbrev s__law_cell : Stmt := topS 47
theorem sc__law_cell : FnScope ["script", "k"] ["script", "k"] (defScope s__law_cell) := ⟨rfl, rfl, rfl, by decide +kernel, rfl, by decide +kernel, by decide +kernel⟩
theorem ok__law_cell (M : Mb mg) (A : DefAt K mg "_law_cell" s__law_cell) : Dfn T P w K mg base "_law_cell" 1 cCell := by
  refine fn_dfn (k := 0) A sc__law_cell (fun _ _ _ _ _ _ us hl => match us, hl with | [_, _], _ => rfl) (fun as S h => ?_) (fun fa cdv A outer s G H E as S hC B => ?_)
  · rcases h with ⟨ns, k, rfl, h1, h2, h3, rfl⟩ <;> exact ⟨rfl, by simp⟩
  · rcases hC with ⟨ns, k, rfl, h1, h2, h3, rfl⟩
    have hl : (iL ns).length = ns.length := List.length_map ..
    cases ns with
    | nil => exact dif (q := true) (DT.is (dt_eq (dv 0 rfl) (de_lst da_nil) B.units rfl rfl) rfl) (fun _ => wss_ret (DE.we (de_mul (dv 1 rfl) de_int (by first | exact cmulL (by omega) (by omega) | exact cmulR (by omega) (by omega))) ⟨_, rfl⟩)) (fun h => noT h)
    | cons n r =>
      refine dif (q := false) (DT.is (dt_eq (dv 0 rfl) (de_lst da_nil) B.units (shp_listI (n :: r)).ok rfl) rfl) (fun h => nof h) (fun _ => wss_nil (wss_ret ?_))
      have hr : ((iL (n :: r)).length : Int) = ((r.length + 1 : Nat) : Int) := by rw [hl]; rfl
      have hp : (0 : Int) < ((iL (n :: r)).length : Int) := by rw [hr]; omega
      have hq : ((iL (n :: r)).length : Int) < 1073741824 := by rw [hr]; have : r.length + 1 ≤ 63 := h1; omega
      have m1 : 0 ≤ k % ((iL (n :: r)).length : Int) := Int.emod_nonneg _ (by omega)
      have m2 : k % ((iL (n :: r)).length : Int) < ((iL (n :: r)).length : Int) := Int.emod_lt_of_pos _ hp
      obtain ⟨v, hv⟩ : ∃ v, atI (iL (n :: r)) (k % ((iL (n :: r)).length : Int)) = some (.int v) := by
        have hlt : (k % ((iL (n :: r)).length : Int)).toNat < (iL (n :: r)).length := by omega
        have e0 : ((k % ((iL (n :: r)).length : Int)).toNat : Int) = k % ((iL (n :: r)).length : Int) := by omega
        have hm : (iL (n :: r))[(k % ((iL (n :: r)).length : Int)).toNat]'hlt ∈ iL (n :: r) := List.getElem_mem hlt
        obtain ⟨v, _, ev⟩ := List.mem_map.mp hm
        refine ⟨v, ?_⟩
        rw [← e0, ev]
        exact atI_nat (List.getElem?_eq_getElem hlt)
      refine DE.we (de_add (de_ixL (dv 0 rfl) (de_mod (dv 1 rfl) (de_lenL (dv 0 rfl) M.len) hp) hv) (de_mul (de_fdiv (dv 1 rfl) (de_lenL (dv 0 rfl) M.len) ⟨hp, hq⟩) de_int (cmulR (by omega) (by omega)))) ⟨_, rfl⟩
abbrev s__law_drawn : Stmt := topS 48
theorem sc__law_drawn : FnScope ["cell", "k", "more"] ["cell", "k"] (defScope s__law_drawn) := ⟨rfl, rfl, rfl, by decide +kernel, rfl, by decide +kernel, by decide +kernel⟩
theorem ok__law_drawn (M : Mb mg) (A : DefAt K mg "_law_drawn" s__law_drawn) : Dfn T P w K mg base "_law_drawn" 1 cDrawn := by
  refine fn_dfn (k := 0) A sc__law_drawn (fun _ _ _ _ _ _ us hl => match us, hl with | [_, _], _ => rfl) (fun as S h => ?_) (fun fa cdv A outer s G H E as S hC B => ?_)
  · rcases h with ⟨c, k, rfl, rfl⟩ <;> exact ⟨rfl, by simp⟩
  · rcases hC with ⟨c, k, rfl, rfl⟩
    refine asg 2 sc__law_drawn.nd (de_mod (de_add (de_mul (dv 0 rfl) de_int (cmulR (by omega) (by omega))) (de_mul (de_add (dv 1 rfl) de_int) de_int (cmulR (by omega) (by omega)))) de_int (by omega)) ?_
    obtain ⟨m1, e1⟩ : ∃ m, m = (c * 6364136223846793005 + (k + 1) * 1442695040888963407) % 340282366920938463463374607431768211507 := ⟨_, rfl⟩
    rw [← e1]
    have a1 : 0 ≤ m1 := by omega
    have b1 : m1 < 340282366920938463463374607431768211507 := by omega
    have p130 : (2 : Nat) ^ 130 = 1361129467683753853853498429727072845824 := by decide
    have c1 : m1.natAbs < 2 ^ 130 := by omega
    refine asg 2 sc__law_drawn.nd (de_mod (de_mulW (dv 2 rfl) (dv 2 rfl) (wide_mul c1 c1 (by decide) (by decide) (by decide))) de_int (by omega)) ?_
    obtain ⟨m2, e2⟩ : ∃ m, m = m1 * m1 % 340282366920938463463374607431768211297 := ⟨_, rfl⟩
    rw [← e2]
    have a2 : 0 ≤ m2 := by rw [e2]; exact Int.emod_nonneg _ (by decide)
    have b2 : m2 < 340282366920938463463374607431768211297 := by rw [e2]; exact Int.emod_lt_of_pos _ (by decide)
    have c2 : m2.natAbs < 2 ^ 130 := by omega
    have c3 : (m2 % 18446744073709551557 + 1).natAbs < 2 ^ 130 := by omega
    have c4 : (m2 / 18446744073709551557 + 1).natAbs < 2 ^ 130 := by omega
    have c5 : (18446744073709551557 : Int).natAbs < 2 ^ 130 := by decide
    refine asg 2 sc__law_drawn.nd (de_mulW (de_mulW (de_add (de_mod (dv 2 rfl) de_int (by omega)) de_int) (de_add (de_fdivW (dv 2 rfl) de_int (wide_div (by omega) c5 (by decide) (by decide))) de_int) (wide_mul c3 c4 (by decide) (by decide) (by decide))) (dv 2 rfl) (wide_mul (wide_lt c3 c4) c2 (by decide) (by decide) (by decide))) ?_
    exact wss_ret (DE.we (de_mod (dv 2 rfl) de_int (by omega)) ⟨_, rfl⟩)
abbrev s__law_roll : Stmt := topS 49
theorem sc__law_roll : FnScope ["dice", "many", "told"] ["dice", "many"] (defScope s__law_roll) := ⟨rfl, rfl, rfl, by decide +kernel, rfl, by decide +kernel, by decide +kernel⟩

theorem ok__law_roll (M : Mb mg) (A : DefAt K mg "_law_roll" s__law_roll) (D__law_drawn : Dfn T P w K mg base "_law_drawn" 1 cDrawn) : Dfn T P w K mg base "_law_roll" 3 cRoll := by
  obtain ⟨fD, fdD, psD, GD, gD, kD, bD⟩ := D__law_drawn.ex
  refine dfn_of A (fun _ _ _ _ _ _ us hl => match us, hl with | [_, _], _ => rfl) fun fa fd F => roll_wrap (ps := ["dice", "many"]) rfl (fun outer H H' s E e s' h => ?_) ?_
  · obtain ⟨_, _, _, _, _, _, _, _, _, _, _, _, z⟩ := h
    exact z.elim
  · obtain ⟨oc, od, kV, doc, pm, an, cdv, ct, osl, rfl, lk, hcd⟩ := F.ex
    refine fn_of lk hcd sc__law_roll (fun vs H Q E h => ?_) (fun A outer s H vs Q E hr h => ?_)
    · obtain ⟨d, x, y, many, rfl, _⟩ := h
      rfl
    · obtain ⟨d, x, y, many, rfl, hd, h1, h2, q⟩ := h
      refine ⟨_, PSs.nox (pss_cons (ps_if (pt_cmpR op_ge (pe_ix ix_list (pv 0) pe_int (fun _ _ => rfl)) (pe_op op_pow pe_int pe_int) (nomark _))
          (pss_cons (ps_set (i := 2) sc__law_roll.nd rfl (.inl rfl) (pe_op op_mod (pe_ix ix_list (pv 0) pe_int (fun _ _ => rfl)) (pv 1)))
          (pss_cons (ps_asg (pe_op op_fdiv (pe_ix ix_list (pv 0) pe_int (fun _ _ => rfl)) (pv 1)) (pg_sub (pv 0) pe_int set_list)) (pss_one (ps_ret (pv 2))))) pss_nil)
        (pss_cons (ps_asg (pe_op op_add (pe_ix ix_list (pv 0) pe_int (fun _ _ => rfl)) pe_int) (pg_sub (pv 0) pe_int set_list))
        (pss_one (ps_ret (pe_op op_mod (pe_op op_fdiv (pe_call (CX := L2N.CX P w) (E := E0) GD (hr.mono (by decide)) rfl gD kD bD .nil passN (pa_cons (pe_ix ix_list (pv 0) pe_int (fun _ _ => rfl)) (pa_cons (pe_ix ix_list (pv 0) pe_int (fun _ _ => rfl)) pa_nil))) pe_int) (pv 1)))))), ?_⟩
      refine ⟨.ref d, rfl, d, [.int x, .int y], 0, .int x, rfl, rfl, .of hd, rfl, 10, 18, rfl, rfl, ⟨by decide, by decide, by decide⟩, x, _, rfl, rfl, _, rfl, ?_⟩
      have le : ∀ ys, Le T (fun b => if b = d then none else H b) (upd H d (.lst ys)) := fun ys => .of fun b o e => by
        by_cases hb : b = d
        · rw [if_pos hb] at e
          cases e
        · rw [if_neg hb] at e
          rw [upd_ne hb]
          exact e
      refine ite2 (fun _ => ?_) (fun _ => ?_)
      · refine ⟨.ref d, rfl, d, [.int x, .int y], 0, .int x, rfl, rfl, .of hd, rfl, .int many, rfl, x, many, rfl, rfl, h1, ?_⟩
        refine ⟨.ref d, rfl, d, [.int x, .int y], 0, .int x, rfl, rfl, .of hd, rfl, .int many, rfl, x, many, rfl, rfl, ⟨h1, by omega⟩, ?_⟩
        refine ⟨.ref d, rfl, d, [.int x, .int y], 0, 0, rfl, rfl, hd, rfl, ?_⟩
        exact ⟨_, rfl, q _ _ _ _ (Int.emod_nonneg _ (by omega)) (Int.emod_lt_of_pos _ h1) (le _) upd_same⟩
      · refine ⟨.ref d, rfl, d, [.int x, .int y], 1, .int y, rfl, rfl, .of hd, rfl, y, 1, rfl, rfl, ?_⟩
        refine ⟨.ref d, rfl, d, [.int x, .int y], 1, 1, rfl, rfl, hd, rfl, ?_⟩
        refine ⟨.ref d, rfl, d, [.int x, .int (y + 1)], 0, .int x, rfl, rfl, .of upd_same, rfl, .ref d, rfl, d, [.int x, .int (y + 1)], 1, .int (y + 1), rfl, rfl, .of upd_same, rfl, ?_⟩
        refine ⟨fun _ => none, [.dat (.int x), .dat (.int (y + 1))], fun r => ∃ v, r = .ok (.int v), (fun b o e => nomatch e), ⟨⟨_, rfl, .int x⟩, ⟨_, rfl, .int (y + 1)⟩, trivial⟩, ⟨x, y + 1, rfl, rfl⟩, fun e ⟨v, hv⟩ v' G' H' st dp => ?_, fun n ⟨v, hv⟩ => nomatch hv⟩
        cases hv
        cases dp
        refine ⟨v, 8, rfl, rfl, ⟨by decide, by decide⟩, .int many, rfl, v / 8, many, rfl, rfl, h1, ?_⟩
        exact q _ _ _ _ (Int.emod_nonneg _ (by omega)) (Int.emod_lt_of_pos _ h1) ((le _).trans st.le) (st.le.h _ _ upd_same nt_lst)

abbrev s__law_rounds : Stmt := topS 50
theorem sc__law_rounds : FnScope ["script", "most", "k"] ["script", "most"] (defScope s__law_rounds) := ⟨rfl, rfl, rfl, by decide +kernel, rfl, by decide +kernel, by decide +kernel⟩

theorem ok__law_rounds (M : Mb mg) (A : DefAt K mg "_law_rounds" s__law_rounds) (D__law_cell : Dfn T P w K mg base "_law_cell" 1 cCell) : ∃ fa fd, FnOk P w K mg base (L2N.CX P w) 2 fa fd ["script", "most"] (spRounds T K) ∧ mg "_law_rounds" = some (.ref fa) ∧ PySem.W.keepIn K (.ref fa) = true ∧ Binds K fd ["script", "most"] [] := by
  obtain ⟨fa, fd, F, g⟩ := A.ex
  refine ⟨fa, fd, rounds_wrap ?_, g, F.kp, F.binds fun _ _ _ _ _ _ us hl => match us, hl with | [_, _], _ => rfl⟩
  obtain ⟨oc, od, kV, doc, pm, an, cdv, ct, osl, rfl, lk, hcd⟩ := F.ex
  refine fn_of lk hcd sc__law_rounds (fun vs H Q E h => ?_) (fun A outer s H vs Q E hr h => ?_)
  · obtain ⟨G, v, ns, most, rfl, _⟩ := h
    rfl
  · obtain ⟨G, v, ns, most, rfl, sb, dp, h1, h2, h3, q⟩ := h
    have hl : ((iL ns).length : Int) = (ns.length : Int) := by rw [show (iL ns).length = ns.length from List.length_map ..]
    have B : Bd T (cxOf (L2N.CX P w) P w K mg base ["script", "most", "k"] "_law_rounds" (defScope s__law_rounds) fa cdv A outer s H E).nox ⟨G, H, fun _ => False⟩ 1 := ⟨tk_none fun _ z => z, PassesOwn.never, hr, rfl⟩
    refine ⟨_, PSs.nox (pss_one (ps_ret (rounds_pe (T := T) (f := ⟨G, H, fun _ => False⟩) (Γ := [.dat (.list (iL ns)), .dat (.int most), .no]) (own := [("k", 2)]) B sc__law_rounds.nd
      (di_rng1 (de_max2 rfl de_int (de_min2 rfl (dv 1 rfl) (de_lenL (dv 0 rfl) M.len) M.min) M.max) M.range ?b1 ?b2) (blkOk_by (N := ["script", "most", "k"]) (sc := defScope s__law_rounds) (by decide +kernel)) (by simp)
      (fun _ _ _ _ _ => wg_name (n := 2) sc__law_rounds.nd rfl (.inl rfl)) (fun i d h => ⟨_, ⟨Nat.le_of_ble_eq_true rfl, rfl⟩, fun s5 H5 C5 cl5 fp5 => ?e⟩) ?b3 (fun _ _ _ _ _ => rfl)))), G, ?_, fun p H' as r => q p H' as r⟩
    case b1 => rw [hl]; split <;> split <;> omega
    case b2 => rw [hl]; split <;> split <;> omega
    case b3 => rw [rngD_len, hl]; split <;> split <;> omega
    case e =>
      obtain ⟨hi, rfl⟩ := rngD_at h
      have hi2 : (i : Int) ≤ 1000 := by
        rw [hl] at hi
        split at hi <;> split at hi <;> omega
      exact we_call D__law_cell (B.blk s5 H5 _ _ fp5) (by decide) (DA.wa (da_cons (dv 0 rfl) (da_cons (dv 2 rfl) da_nil))) ⟨ns, 0 + (i : Int), rfl, h1, by omega, by omega, rfl⟩ (fun r ⟨v, hv⟩ => by subst hv; exact ⟨v, rfl⟩)
    · refine ⟨.refl sb, fun i sl e => ?_, rfl⟩
      match i, e with
      | 0, e => cases e; exact ⟨_, rfl, v, rfl, dp⟩
      | 1, e => cases e; exact ⟨_, rfl, _, rfl, .int most⟩
      | 2, e => cases e; exact ⟨_, rfl, trivial⟩

end
end KR
set_option Elab.async false
set_option linter.all false
set_option maxRecDepth 100000
set_option maxHeartbeats 4000000
namespace KR
open PySem PySem.Spec PyProof.Rows L2 DL
def fnL : List He.DefD := [dOf "is_whole" (topS 14), dOf "is_triangle" (topS 15), dOf "need_triangle" (topS 16), dOf "kind_of" (topS 17), dOf "squares_of" (topS 18), dOf "root_of" (topS 19), dOf "area_of" (topS 20), dOf "area" (topS 21), dOf "divisor" (topS 22), dOf "lowest" (topS 23), dOf "need_area" (topS 25), dOf "height" (topS 26), dOf "need_right" (topS 30), dOf "told_by" (topS 31), dOf "need_both" (topS 33), dOf "shared_legs" (topS 34), dOf "join" (topS 35), dOf "need_rope" (topS 37), dOf "laid" (topS 38), dOf "triangles" (topS 39), dOf "scaled" (topS 41), dOf "written" (topS 43), dOf "side_of" (topS 44), dOf "parse_triangle" (topS 45), dOf "_law_cell" (topS 47), dOf "_law_drawn" (topS 48), dOf "_law_roll" (topS 49), dOf "_law_rounds" (topS 50), dOf "_law_met" (topS 51), dOf "_law_alone" (topS 52), dOf "law" (topS 53), ⟨("Frame", some "__init__"), "__init__", "Frame.__init__", defArgs (clsS (topS 28) 0), defBody (clsS (topS 28) 0), defScope (clsS (topS 28) 0), [], []⟩, ⟨("Frame", some "change"), "change", "Frame.change", defArgs (clsS (topS 28) 1), defBody (clsS (topS 28) 1), defScope (clsS (topS 28) 1), [], []⟩, ⟨("Frame", some "triangle"), "triangle", "Frame.triangle", defArgs (clsS (topS 28) 2), defBody (clsS (topS 28) 2), defScope (clsS (topS 28) 2), [], []⟩, ⟨("Frame", some "undo"), "undo", "Frame.undo", defArgs (clsS (topS 28) 3), defBody (clsS (topS 28) 3), defScope (clsS (topS 28) 3), [], []⟩, ⟨("Frame", some "redo"), "redo", "Frame.redo", defArgs (clsS (topS 28) 4), defBody (clsS (topS 28) 4), defScope (clsS (topS 28) 4), [], []⟩, ⟨("Frame", some "__len__"), "__len__", "Frame.__len__", defArgs (clsS (topS 28) 5), defBody (clsS (topS 28) 5), defScope (clsS (topS 28) 5), [], []⟩]
def faC : List He.Fa := [.cls "Frame", .noat "Frame" "now", .noat "Frame" "earlier", .noat "Frame" "undone", .mkr "Frame", .meth "Frame" "__init__", .meth "Frame" "change", .meth "Frame" "triangle", .meth "Frame" "undo", .meth "Frame" "redo", .meth "Frame" "__len__"]
def faG : List He.Fa := [.glo "is_whole", .glo "is_triangle", .glo "need_triangle", .glo "kind_of", .glo "squares_of", .glo "root_of", .glo "area_of", .glo "area", .glo "divisor", .glo "lowest", .glo "need_area", .glo "height", .glo "need_right", .glo "told_by", .glo "need_both", .glo "shared_legs", .glo "join", .glo "need_rope", .glo "laid", .glo "triangles", .glo "scaled", .glo "written", .glo "side_of", .glo "parse_triangle", .glo "_law_cell", .glo "_law_drawn", .glo "_law_roll", .glo "_law_rounds", .glo "_law_met", .glo "_law_alone", .glo "law", .glo "RopeError", .glo "InvalidTriangle", .glo "InvalidRope", .glo "InvalidNumber", .glo "InvalidPlace", .glo "InvalidText", .glo "NotRight", .glo "NotWhole", .glo "NoLeg", .glo "NoTriangle", .glo "TooGreat", .glo "NothingToUndo", .glo "Frame"]
def faL : List He.Fa := faC ++ (faG ++ [.exc "InvalidTriangle", .exc "InvalidRope", .exc "InvalidNumber", .exc "InvalidPlace", .exc "InvalidText", .exc "NotRight", .exc "NotWhole", .exc "NoLeg", .exc "NoTriangle", .exc "TooGreat", .exc "NothingToUndo", .free "isinstance", .free "int", .free "bool", .free "tuple", .free "str", .free "list", .free "len", .free "all", .free "sum", .free "range", .free "max", .free "min", .free "abs", .free "sorted", .free "set", .free "enumerate", .free "ValueError"])
def looseL : List Str := (["RopeError", "InvalidTriangle", "InvalidRope", "InvalidNumber", "InvalidPlace", "InvalidText", "NotRight", "NotWhole", "NoLeg", "NoTriangle", "TooGreat", "NothingToUndo"] : List Str) ++ (["Frame", "is_whole", "is_triangle", "need_triangle", "kind_of", "squares_of", "root_of", "area_of", "area", "divisor", "lowest", "need_area"] : List Str) ++ (["height", "need_right", "told_by", "need_both", "shared_legs", "join", "need_rope", "laid", "triangles", "scaled", "written", "side_of"] : List Str) ++ (["parse_triangle", "_law_cell", "_law_drawn", "_law_roll", "_law_rounds", "_law_met", "_law_alone"] : List Str)
abbrev RR : PySem.W.OpenRow := PySem.W.OpenLaw.row PySem.Challenge.rw_knotropes_k21_errors_apart
abbrev hk : PySem.W.Hook := He.hookX 5 faL fnL [] [("law", none)] errB
def ob (s : PySem.W.SharedT) : He.AlX := He.obsX 5 faL fnL [] [("law", none)] errB (HandSHeadRun.getT s)
theorem ob_eq (s : PySem.W.SharedT) : ob s = hk.obs s.abs := He.obsX_eq (HandSHeadRun.getT_eq s)
set_option maxHeartbeats 0 in
theorem run (w : World) : HandSHeadRun.RunEq RR (PySem.W.view RR.prog [53]) hk ob 20000 looseL w := by
  intro os
  kernel_rfl
end KR
set_option Elab.async false
set_option linter.all false
set_option maxRecDepth 100000
set_option maxHeartbeats 4000000
namespace KR
open PySem PySem.Spec PyProof.Rows L2 DL
section
variable {T : Tb} {P : Program} {w : World} {K : PySem.W.Frag} {mg : Str → Option Value} {base : Heap}
abbrev s_law : Stmt := topS 53
theorem sc_law : FnScope ["script", "dice", "more", "one", "made", "at", "e"] ["script"] (defScope s_law) := ⟨rfl, rfl, rfl, by decide +kernel, rfl, by decide +kernel, by decide +kernel⟩
theorem law_step {cdv : Value} {C : Addr} {c : Nat → Addr} {cR : Addr} (M : Mb mg) (D__law_roll : Dfn T P w K mg base "_law_roll" 3 cRoll) (D_area : Dfn T P w K mg base "area" 4 cArea) (D_triangles : Dfn T P w K mg base "triangles" 3 cTriangles) (D_scaled : Dfn T P w K mg base "scaled" 4 cScaled) (D_told_by : Dfn T P w K mg base "told_by" 4 cTold) (D_height : Dfn T P w K mg base "height" 5 cHeight) (D_join : Dfn T P w K mg base "join" 5 cJoin) (D_parse_triangle : Dfn T P w K mg base "parse_triangle" 4 cParse) (D__law_alone : Dfn T P w K mg base "_law_alone" 1 (cAlone c)) (O : Met T P w K mg base c cR) (FM : FrM T P w K mg base C) (LT : ∃ cc PP, cdv = .ref cc ∧ LamX.TabB base mg cc PP ∧ (PP, lawQ) ∈ T ∧ ∀ p ∈ T, p.1 = PP → p.2 = lawQ) (fa : Addr) (A : Around) (outer : List Env) (s : Shared) (H0 H : Hp) (E : XK) (d : Addr) (B : Bd T (cxOf (L2N.CX P w) P w K mg base ["script", "dice", "more", "one", "made", "at", "e"] "law" (defScope s_law) fa cdv A outer s H0 E) ⟨noG, H, fun _ => False⟩ 9) (hT : LamX.Tabs T H) :
    WSs T (cxOf (L2N.CX P w) P w K mg base ["script", "dice", "more", "one", "made", "at", "e"] "law" (defScope s_law) fa cdv A outer s H0 E) ⟨noG, H, fun _ => False⟩ (diceG 7 1 d) (forBody (defBody s_law)) (fun _ => True) (fun _ => False) := by
  have LT : LamT T (cxOf (L2N.CX P w) P w K mg base ["script", "dice", "more", "one", "made", "at", "e"] "law" (defScope s_law) fa cdv A outer s H0 E) := by
    obtain ⟨cc, PP, e1, TB, e2, e3⟩ := LT
    subst e1
    exact ⟨cc, PP, TB, rfl, e2, e3⟩
  obtain ⟨fC, fdC, mC, C1, C2, bC⟩ := FM.ch
  obtain ⟨fR, fdR, mR, R1, R2, bR⟩ := FM.re
  refine unp2W (Qd := fun d1 d2 => (∃ m : Int, d1 = .int m ∧ 101 ≤ m ∧ m ≤ 190) ∧ d2 = tri 3 4 5) 2 3 B.calm sc_law.nd (we_tup2 (we_add (we_k de_int) (we_roll (n := 1) D__law_roll B (by decide) rfl de_int (by decide) (by decide)) (Q := fun z => ∃ m : Int, z = .int m ∧ 101 ≤ m ∧ m ≤ 190) (fun i j hi hj => ⟨_, rfl, by omega, by omega⟩)) (de_tup (da_cons de_int (da_cons de_int (da_cons de_int da_nil))))) ?_
  rintro _ _ ⟨⟨mo, rfl, m1, m2⟩, rfl⟩
  have hno : ∀ s ∈ ([.no, .obj d (DiceO d), .dat (.int mo), .dat (tri 3 4 5), .no, .no, .no] : List Sl), NoO s := nOs_cons rfl (nOs_cons rfl (nOs_cons rfl (nOs_cons rfl (nOs_cons rfl (nOs_cons rfl (nOs_cons rfl nOs_nil))))))
  have hng : ∀ s ∈ ([.no, .obj d (DiceO d), .dat (.int mo), .dat (tri 3 4 5), .no, .no, .no] : List Sl), ∀ g, s ≠ .gen g := ng_cons ng_no (ng_cons ng_obj (ng_cons ng_dat (ng_cons ng_dat (ng_cons ng_no (ng_cons ng_no (ng_cons ng_no ng_nil))))))
  refine wss_of (ms_0 (i1 := 4) (c := c) (Γ := [.no, .obj d (DiceO d), .dat (.int mo), .dat (tri 3 4 5), .no, .no, .no]) ?m0 ?_ rfl sc_law.nd) (fun σ G H E en w => ⟨G, en, fun σ' G' H' en' g => w.nx _ _ _ _ en' g trivial⟩)
  case m0 => exact pe_met (k := 6) (R := fun n => n = "InvalidTriangle") (PJ := fun j => j = 0) O B (by decide) LT hT hno (LamX.lamS_by (by show LamX.lamSB (defScope s_law) _ = true; decide +kernel)) (fun n hn => ⟨0, by rw [hn]; rfl, rfl⟩) (fun A outer s G H fa c1 B => we_call D_area B (by decide) (DA.wa (da_cons (de_tup (da_cons de_int (da_cons de_int (da_cons (dv 2 rfl) da_nil)))) da_nil)) (.inr ⟨_, notTri (fun z => by have := z.c100; omega), rfl, rfl⟩) (fun r e => by subst e; exact rfl))
  refine ms_app (i1 := 4) ?m1 ?_ hno hng (by decide)
  case m1 => exact pe_met (k := 6) (R := fun n => n = "InvalidRope") (PJ := fun j => j = 1) O B (by decide) LT hT hno (LamX.lamS_by (by show LamX.lamSB (defScope s_law) _ = true; decide +kernel)) (fun n hn => ⟨1, by rw [hn]; rfl, rfl⟩) (fun A outer s G H fa c1 B => we_call D_triangles B (by decide) (DA.wa (da_cons (dv 2 rfl) da_nil)) (.inr ⟨_, no_whole (by omega), rfl, rfl⟩) (fun r e => by subst e; exact rfl))
  refine ms_app (i1 := 4) ?m2 ?_ hno hng (by decide)
  case m2 => exact pe_met (k := 6) (R := fun n => n = "InvalidNumber") (PJ := fun j => j = 2) O B (by decide) LT hT hno (LamX.lamS_by (by show LamX.lamSB (defScope s_law) _ = true; decide +kernel)) (fun n hn => ⟨2, by rw [hn]; rfl, rfl⟩) (fun A outer s G H fa c1 B => we_call D_scaled B (by decide) (DA.wa (da_cons (dv 3 rfl) (da_cons (dv 2 rfl) da_nil))) (.inr (.inr ⟨3, 4, 5, _, tri345, no_whole (by omega), rfl, rfl⟩)) (fun r e => by subst e; exact rfl))
  refine ms_app (i1 := 4) ?m3 ?_ hno hng (by decide)
  case m3 => exact pe_met (k := 6) (R := fun n => n = "InvalidPlace") (PJ := fun j => j = 3) O B (by decide) LT hT hno (LamX.lamS_by (by show LamX.lamSB (defScope s_law) _ = true; decide +kernel)) (fun n hn => ⟨3, by rw [hn]; rfl, rfl⟩) (fun A outer s G H fa c1 B => we_newmeth FM.nw (by decide) (dv 3 rfl) (isTri_tri tri345) FM.fc.c mC C2 bC B (by decide) (wa_cons (dv 2 rfl) (wa_cons de_int wa_nil)) (fun p => ⟨p, (3, 4, 5), [], [], _, _, rfl, .inl ⟨no_whole (by omega), rfl⟩⟩) (fun r e => by subst e; exact rfl) (no_change0 _))
  refine ms_app (i1 := 4) ?m4 ?_ hno hng (by decide)
  case m4 => exact pe_met (k := 6) (R := fun n => n = "InvalidText") (PJ := fun j => j = 4) O B (by decide) LT hT hno (LamX.lamS_by (by show LamX.lamSB (defScope s_law) _ = true; decide +kernel)) (fun n hn => ⟨4, by rw [hn]; rfl, rfl⟩) (fun A outer s G H fa c1 B => we_call D_parse_triangle B (by decide) (DA.wa (da_cons (de_mulS (d := 45) (DE.is de_str (congrArg PyData.str (show (Str.ofString "-" : Str) = ⟨#[45]⟩ by decide +kernel))) (dv 2 rfl) (by omega) (by omega)) da_nil)) (.inr (.inl ⟨_, dash_no (by omega), by rw [rep_len]; omega, rfl, rfl⟩)) (fun r e => by subst e; exact rfl))
  refine ms_app (i1 := 4) ?m5 ?_ hno hng (by decide)
  case m5 => exact pe_met (k := 6) (R := fun n => n = "NotRight") (PJ := fun j => j = 5) O B (by decide) LT hT hno (LamX.lamS_by (by show LamX.lamSB (defScope s_law) _ = true; decide +kernel)) (fun n hn => ⟨5, by rw [hn]; rfl, rfl⟩) (fun A outer s G H fa c1 B => we_call D_told_by B (by decide) (DA.wa (da_cons (de_tup (da_cons de_int (da_cons de_int (da_cons (de_add de_int (de_mod (dv 2 rfl) de_int (by decide))) da_nil)))) da_nil)) (.inr (.inl ⟨4, 4, 4 + mo % 3, (tri44 (by omega) (by omega)).1, (tri44 (by omega) (by omega)).2, rfl, rfl⟩)) (fun r e => by subst e; exact rfl))
  refine ms_app (i1 := 4) ?m6 ?_ hno hng (by decide)
  case m6 => exact pe_met (k := 6) (R := fun n => n = "NotWhole") (PJ := fun j => j = 6) O B (by decide) LT hT hno (LamX.lamS_by (by show LamX.lamSB (defScope s_law) _ = true; decide +kernel)) (fun n hn => ⟨6, by rw [hn]; rfl, rfl⟩) (fun A outer s G H fa c1 B => we_call D_height B (by decide) (DA.wa (da_cons (de_tup (da_cons de_int (da_cons de_int (da_cons de_int da_nil)))) da_nil)) (.inr (.inl ⟨1, 1, 1, ⟨by decide, by decide, by decide, by decide, by decide⟩, area111, rfl, rfl⟩)) (fun r e => by subst e; exact rfl))
  refine ms_app (i1 := 4) ?m7 ?_ hno hng (by decide)
  case m7 => exact pe_met (k := 6) (R := fun n => n = "NoLeg") (PJ := fun j => j = 7) O B (by decide) LT hT hno (LamX.lamS_by (by show LamX.lamSB (defScope s_law) _ = true; decide +kernel)) (fun n hn => ⟨7, by rw [hn]; rfl, rfl⟩) (fun A outer s G H fa c1 B => we_call D_join B (by decide) (DA.wa (da_cons (dv 3 rfl) (da_cons (dv 3 rfl) (da_cons (dv 2 rfl) da_nil)))) (.inr (.inr (.inr (.inl ⟨3, 4, 5, 3, 4, 5, _, both345, no_whole (by omega), rfl, rfl⟩)))) (fun r e => by subst e; exact rfl))
  refine ms_app (i1 := 4) ?m8 ?_ hno hng (by decide)
  case m8 => exact pe_met (k := 6) (R := fun n => n = "NoTriangle") (PJ := fun j => j = 8) O B (by decide) LT hT hno (LamX.lamS_by (by show LamX.lamSB (defScope s_law) _ = true; decide +kernel)) (fun n hn => ⟨8, by rw [hn]; rfl, rfl⟩) (fun A outer s G H fa c1 B => we_newmeth FM.nw (by decide) (dv 3 rfl) (isTri_tri tri345) FM.fc.c mC C2 bC B (by decide) (wa_cons de_int (wa_cons (de_add de_int (de_mod (dv 2 rfl) de_int (by decide))) wa_nil)) (fun p => ⟨p, (3, 4, 5), [], [], _, _, rfl, .inr (.inr ⟨2, 2 + mo % 8, by decide, by omega, by omega, rfl, rfl, ch_no (by omega) (by omega), rfl⟩)⟩) (fun r e => by subst e; exact rfl) (no_change0 _))
  refine ms_app (i1 := 4) ?m9 ?_ hno hng (by decide)
  case m9 => exact pe_met (k := 6) (R := fun n => n = "TooGreat") (PJ := fun j => j = 9) O B (by decide) LT hT hno (LamX.lamS_by (by show LamX.lamSB (defScope s_law) _ = true; decide +kernel)) (fun n hn => ⟨9, by rw [hn]; rfl, rfl⟩) (fun A outer s G H fa c1 B => we_call D_scaled B (by decide) (DA.wa (da_cons (dv 3 rfl) (da_cons (de_add de_int (de_mod (dv 2 rfl) de_int (by decide))) da_nil))) (.inr (.inl ⟨3, 4, 5, 21 + mo % 80, tri345, by omega, by omega, by omega, rfl, rfl⟩)) (fun r e => by subst e; exact rfl))
  refine ms_app (i1 := 4) ?m10 ?_ hno hng (by decide)
  case m10 => exact pe_met (k := 6) (R := fun n => n = "NothingToUndo") (PJ := fun j => j = 10) O B (by decide) LT hT hno (LamX.lamS_by (by show LamX.lamSB (defScope s_law) _ = true; decide +kernel)) (fun n hn => ⟨10, by rw [hn]; rfl, rfl⟩) (fun A outer s G H fa c1 B => we_newmeth0 FM.nw (by decide) (dv 3 rfl) (isTri_tri tri345) FM.fc.c mR R2 bR B (by decide) (fun p => ⟨p, (3, 4, 5), [], rfl, rfl⟩) (fun r e => by subst e; exact rfl) (no_redo0 _))
  refine ms_end B ?_ M.all
  refine pe_lcM (own := [("at", 5), ("e", 6)]) (j1 := 5) (j2 := 6) (n := 11) B sc_law.nd M.enumerate rfl (blkOk_by (N := ["script", "dice", "more", "one", "made", "at", "e"]) (sc := defScope s_law) (by decide +kernel)) (by simp) (by simp) (by decide) ⟨gTup K 2 (gCons (gName 5) (gCons (gName 6) gNil)), ?pg, ?gk⟩ (Nat.le_of_ble_eq_true rfl) (Nat.le_of_ble_eq_true rfl) ?row (by decide)
  case pg =>
    intro s6 H6 C6 cl6 fp6
    refine pg_tup B.calm ?_ rfl rfl
    refine pgs_cons ?_ ?_
    · refine pg_name sc_law.nd rfl (.inl rfl)
    · refine pgs_cons ?_ pgs_nil
      refine pg_name sc_law.nd rfl (.inl rfl)
  case gk =>
    intro t v1 v2 σ H Q h q
    exact ⟨t, [v1, v2], rfl, .of h, rfl, v1, [v2], rfl, v2, [], rfl, rfl, q⟩
  case row =>
    intro i a hi s5 H5 C5 cl5 fp5
    exact we_call D__law_alone (B.blk s5 H5 _ _ fp5) (by decide) (wa_obj (n := 6) rfl (wa_cons (dv 5 rfl) wa_nil) rfl (.inl rfl)) ⟨a, i, hi, rfl, rfl⟩ (fun r e => by subst e; exact rfl)
end
end KR
set_option Elab.async false
set_option linter.all false
set_option maxRecDepth 100000
set_option maxHeartbeats 4000000
namespace KR
open PySem PySem.Spec PyProof.Rows L2 DL
abbrev s__law_met : Stmt := topS 51
theorem sc__law_met : FnScope ["deed", "e"] ["deed"] (defScope s__law_met) := ⟨rfl, rfl, rfl, by decide +kernel, rfl, by decide +kernel, by decide +kernel⟩
theorem law_at {w : World} {h : Heap} {mg : Str → Option Value} {f : Addr} {K : PySem.W.Frag} (KX : K.In h) (c : He.SaysX faL fnL [] [("law", none)] errB w h K) (G : h.Ns mainGlobals mg) (hmg : mg "law" = some (.ref f)) : LamX.LawAtS PySem.Challenge.rw_knotropes_k21_errors_apart w K (L2N.CX PySem.Challenge.rw_knotropes_k21_errors_apart.prog w) 10 63 "script" mg f h := by
  have D := c.t.d
  have M : Mb mg := mb_of KX G D (hasFs_ok (by decide +kernel))
  have ER := errs_of KX G D c.more (hasGs_ok (by decide +kernel)) (hasG_ok (by decide +kernel)) (hasF_ok (by decide +kernel))
  have A_is_whole : DefAt K mg "is_whole" s_is_whole := def_at KX G D 0 rfl (hasG_ok (by decide +kernel))
  have A_is_triangle : DefAt K mg "is_triangle" s_is_triangle := def_at KX G D 1 rfl (hasG_ok (by decide +kernel))
  have A_need_triangle : DefAt K mg "need_triangle" s_need_triangle := def_at KX G D 2 rfl (hasG_ok (by decide +kernel))
  have A_squares_of : DefAt K mg "squares_of" s_squares_of := def_at KX G D 4 rfl (hasG_ok (by decide +kernel))
  have A_root_of : DefAt K mg "root_of" s_root_of := def_at KX G D 5 rfl (hasG_ok (by decide +kernel))
  have A_area_of : DefAt K mg "area_of" s_area_of := def_at KX G D 6 rfl (hasG_ok (by decide +kernel))
  have A_area : DefAt K mg "area" s_area := def_at KX G D 7 rfl (hasG_ok (by decide +kernel))
  have A_need_rope : DefAt K mg "need_rope" s_need_rope := def_at KX G D 17 rfl (hasG_ok (by decide +kernel))
  have A_laid : DefAt K mg "laid" s_laid := def_at KX G D 18 rfl (hasG_ok (by decide +kernel))
  have A_triangles : DefAt K mg "triangles" s_triangles := def_at KX G D 19 rfl (hasG_ok (by decide +kernel))
  have A_scaled : DefAt K mg "scaled" s_scaled := def_at KX G D 20 rfl (hasG_ok (by decide +kernel))
  have A_kind_of : DefAt K mg "kind_of" s_kind_of := def_at KX G D 3 rfl (hasG_ok (by decide +kernel))
  have A_need_right : DefAt K mg "need_right" s_need_right := def_at KX G D 12 rfl (hasG_ok (by decide +kernel))
  have A_divisor : DefAt K mg "divisor" s_divisor := def_at KX G D 8 rfl (hasG_ok (by decide +kernel))
  have A_told_by : DefAt K mg "told_by" s_told_by := def_at KX G D 13 rfl (hasG_ok (by decide +kernel))
  have A_need_area : DefAt K mg "need_area" s_need_area := def_at KX G D 10 rfl (hasG_ok (by decide +kernel))
  have A_lowest : DefAt K mg "lowest" s_lowest := def_at KX G D 9 rfl (hasG_ok (by decide +kernel))
  have A_height : DefAt K mg "height" s_height := def_at KX G D 11 rfl (hasG_ok (by decide +kernel))
  have A_need_both : DefAt K mg "need_both" s_need_both := def_at KX G D 14 rfl (hasG_ok (by decide +kernel))
  have A_shared_legs : DefAt K mg "shared_legs" s_shared_legs := def_at KX G D 15 rfl (hasG_ok (by decide +kernel))
  have A_join : DefAt K mg "join" s_join := def_at KX G D 16 rfl (hasG_ok (by decide +kernel))
  have A_written : DefAt K mg "written" s_written := def_at KX G D 21 rfl (hasG_ok (by decide +kernel))
  have A_side_of : DefAt K mg "side_of" s_side_of := def_at KX G D 22 rfl (hasG_ok (by decide +kernel))
  have A_parse_triangle : DefAt K mg "parse_triangle" s_parse_triangle := def_at KX G D 23 rfl (hasG_ok (by decide +kernel))
  have A__law_cell : DefAt K mg "_law_cell" s__law_cell := def_at KX G D 24 rfl (hasG_ok (by decide +kernel))
  have A__law_drawn : DefAt K mg "_law_drawn" s__law_drawn := def_at KX G D 25 rfl (hasG_ok (by decide +kernel))
  have A__law_roll : DefAt K mg "_law_roll" s__law_roll := def_at KX G D 26 rfl (hasG_ok (by decide +kernel))
  have A__law_rounds : DefAt K mg "_law_rounds" s__law_rounds := def_at KX G D 27 rfl (hasG_ok (by decide +kernel))
  have A__law_alone : DefAt K mg "_law_alone" s__law_alone := def_at KX G D 29 rfl (hasG_ok (by decide +kernel))
  have A__law_met : DefAt K mg "_law_met" s__law_met := def_at KX G D 28 rfl (hasG_ok (by decide +kernel))
  have X_InvalidTriangle := xc_at (n := "InvalidTriangle") KX G D (hasG_ok (by decide +kernel)) (hasE_ok (by decide +kernel))
  have X_InvalidRope := xc_at (n := "InvalidRope") KX G D (hasG_ok (by decide +kernel)) (hasE_ok (by decide +kernel))
  have X_InvalidNumber := xc_at (n := "InvalidNumber") KX G D (hasG_ok (by decide +kernel)) (hasE_ok (by decide +kernel))
  have X_InvalidPlace := xc_at (n := "InvalidPlace") KX G D (hasG_ok (by decide +kernel)) (hasE_ok (by decide +kernel))
  have X_InvalidText := xc_at (n := "InvalidText") KX G D (hasG_ok (by decide +kernel)) (hasE_ok (by decide +kernel))
  have X_NotRight := xc_at (n := "NotRight") KX G D (hasG_ok (by decide +kernel)) (hasE_ok (by decide +kernel))
  have X_NotWhole := xc_at (n := "NotWhole") KX G D (hasG_ok (by decide +kernel)) (hasE_ok (by decide +kernel))
  have X_NoLeg := xc_at (n := "NoLeg") KX G D (hasG_ok (by decide +kernel)) (hasE_ok (by decide +kernel))
  have X_NoTriangle := xc_at (n := "NoTriangle") KX G D (hasG_ok (by decide +kernel)) (hasE_ok (by decide +kernel))
  have X_TooGreat := xc_at (n := "TooGreat") KX G D (hasG_ok (by decide +kernel)) (hasE_ok (by decide +kernel))
  have X_NothingToUndo := xc_at (n := "NothingToUndo") KX G D (hasG_ok (by decide +kernel)) (hasE_ok (by decide +kernel))
  obtain ⟨f___init__, fd___init__, m___init__, F___init__⟩ := met_at (st := clsS (topS 28) 0) KX D 31 rfl (List.mem_of_getElem? (i := 5) (l := faL) rfl)
  obtain ⟨f_change, fd_change, m_change, F_change⟩ := met_at (st := clsS (topS 28) 1) KX D 32 rfl (List.mem_of_getElem? (i := 6) (l := faL) rfl)
  obtain ⟨f_triangle, fd_triangle, m_triangle, F_triangle⟩ := met_at (st := clsS (topS 28) 2) KX D 33 rfl (List.mem_of_getElem? (i := 7) (l := faL) rfl)
  obtain ⟨f_undo, fd_undo, m_undo, F_undo⟩ := met_at (st := clsS (topS 28) 3) KX D 34 rfl (List.mem_of_getElem? (i := 8) (l := faL) rfl)
  obtain ⟨f_redo, fd_redo, m_redo, F_redo⟩ := met_at (st := clsS (topS 28) 4) KX D 35 rfl (List.mem_of_getElem? (i := 9) (l := faL) rfl)
  obtain ⟨f___len__, fd___len__, m___len__, F___len__⟩ := met_at (st := clsS (topS 28) 5) KX D 36 rfl (List.mem_of_getElem? (i := 10) (l := faL) rfl)
  have FC : FrC K (He.ga K "Frame") := ⟨He.cls_ok (D.facts (List.mem_of_getElem? (i := 0) (l := faL) rfl)), He.noat_ok (D.facts (List.mem_of_getElem? (i := 1) (l := faL) rfl)), He.noat_ok (D.facts (List.mem_of_getElem? (i := 2) (l := faL) rfl)), He.noat_ok (D.facts (List.mem_of_getElem? (i := 3) (l := faL) rfl))⟩
  have MK := He.mkr_ok (D.facts (List.mem_of_getElem? (i := 4) (l := faL) rfl))
  have gF : mg "Frame" = some (.ref (He.ga K "Frame")) := He.glo_ok KX G (D.facts (hasG_ok (by decide +kernel)))
  have ei : f___init__ = He.ma K (He.ga K "Frame") "__init__" := Value.ref.inj (Option.some.inj (Option.some.inj (m___init__.at_.symm.trans MK.init)))
  subst ei
  refine law_end KX c G hmg (hasG_ok (by decide +kernel)) 30 rfl (fun _ _ _ _ _ _ us hl => match us, hl with | [_], _ => rfl) fun base cc PP oc kV doc pm ct od an osl KB GB TB lk hcd => ?_
  have D_is_whole := ok_is_whole (T := [(PP, lawQ)]) (P := PySem.Challenge.rw_knotropes_k21_errors_apart.prog) (w := w) (base := base) M A_is_whole  
  have D_is_triangle := ok_is_triangle (T := [(PP, lawQ)]) (P := PySem.Challenge.rw_knotropes_k21_errors_apart.prog) (w := w) (base := base) M A_is_triangle D_is_whole 
  have D_need_triangle := ok_need_triangle (T := [(PP, lawQ)]) (P := PySem.Challenge.rw_knotropes_k21_errors_apart.prog) (w := w) (base := base) M A_need_triangle D_is_triangle X_InvalidTriangle
  have D_squares_of := ok_squares_of (T := [(PP, lawQ)]) (P := PySem.Challenge.rw_knotropes_k21_errors_apart.prog) (w := w) (base := base) M A_squares_of  
  have D_root_of := ok_root_of (T := [(PP, lawQ)]) (P := PySem.Challenge.rw_knotropes_k21_errors_apart.prog) (w := w) (base := base) M A_root_of  
  have D_area_of := ok_area_of (T := [(PP, lawQ)]) (P := PySem.Challenge.rw_knotropes_k21_errors_apart.prog) (w := w) (base := base) M A_area_of D_squares_of D_root_of 
  have D_area := ok_area (T := [(PP, lawQ)]) (P := PySem.Challenge.rw_knotropes_k21_errors_apart.prog) (w := w) (base := base) M A_area D_need_triangle D_area_of 
  have D_need_rope := ok_need_rope (T := [(PP, lawQ)]) (P := PySem.Challenge.rw_knotropes_k21_errors_apart.prog) (w := w) (base := base) M A_need_rope D_is_whole X_InvalidRope
  have D_laid := ok_laid (T := [(PP, lawQ)]) (P := PySem.Challenge.rw_knotropes_k21_errors_apart.prog) (w := w) (base := base) M A_laid  
  have D_triangles := ok_triangles (T := [(PP, lawQ)]) (P := PySem.Challenge.rw_knotropes_k21_errors_apart.prog) (w := w) (base := base) M A_triangles D_need_rope D_laid 
  have D_scaled := ok_scaled (T := [(PP, lawQ)]) (P := PySem.Challenge.rw_knotropes_k21_errors_apart.prog) (w := w) (base := base) M A_scaled D_need_triangle D_is_whole X_InvalidNumber X_TooGreat
  have D_kind_of := ok_kind_of (T := [(PP, lawQ)]) (P := PySem.Challenge.rw_knotropes_k21_errors_apart.prog) (w := w) (base := base) M A_kind_of  
  have D_need_right := ok_need_right (T := [(PP, lawQ)]) (P := PySem.Challenge.rw_knotropes_k21_errors_apart.prog) (w := w) (base := base) M A_need_right D_kind_of X_NotRight
  have D_divisor := ok_divisor (T := [(PP, lawQ)]) (P := PySem.Challenge.rw_knotropes_k21_errors_apart.prog) (w := w) (base := base) M A_divisor  
  have D_told_by := ok_told_by (T := [(PP, lawQ)]) (P := PySem.Challenge.rw_knotropes_k21_errors_apart.prog) (w := w) (base := base) M A_told_by D_need_triangle D_need_right D_divisor D_root_of 
  have D_need_area := ok_need_area (T := [(PP, lawQ)]) (P := PySem.Challenge.rw_knotropes_k21_errors_apart.prog) (w := w) (base := base) M A_need_area D_need_triangle D_area_of X_NotWhole
  have D_lowest := ok_lowest (T := [(PP, lawQ)]) (P := PySem.Challenge.rw_knotropes_k21_errors_apart.prog) (w := w) (base := base) M A_lowest D_divisor 
  have D_height := ok_height (T := [(PP, lawQ)]) (P := PySem.Challenge.rw_knotropes_k21_errors_apart.prog) (w := w) (base := base) M A_height D_need_area D_lowest 
  have D_need_both := ok_need_both (T := [(PP, lawQ)]) (P := PySem.Challenge.rw_knotropes_k21_errors_apart.prog) (w := w) (base := base) M A_need_both D_need_triangle 
  have D_shared_legs := ok_shared_legs (T := [(PP, lawQ)]) (P := PySem.Challenge.rw_knotropes_k21_errors_apart.prog) (w := w) (base := base) M A_shared_legs  
  have D_join := ok_join (T := [(PP, lawQ)]) (P := PySem.Challenge.rw_knotropes_k21_errors_apart.prog) (w := w) (base := base) M A_join D_need_both D_need_right D_shared_legs D_is_whole X_NoLeg X_TooGreat
  have D_written := ok_written (T := [(PP, lawQ)]) (P := PySem.Challenge.rw_knotropes_k21_errors_apart.prog) (w := w) (base := base) M A_written  
  have D_side_of := ok_side_of (T := [(PP, lawQ)]) (P := PySem.Challenge.rw_knotropes_k21_errors_apart.prog) (w := w) (base := base) M A_side_of  X_InvalidText
  have D_parse_triangle := ok_parse_triangle (T := [(PP, lawQ)]) (P := PySem.Challenge.rw_knotropes_k21_errors_apart.prog) (w := w) (base := base) M A_parse_triangle D_is_triangle D_written D_side_of X_InvalidText
  have D__law_cell := ok__law_cell (T := [(PP, lawQ)]) (P := PySem.Challenge.rw_knotropes_k21_errors_apart.prog) (w := w) (base := base) M A__law_cell  
  have D__law_drawn := ok__law_drawn (T := [(PP, lawQ)]) (P := PySem.Challenge.rw_knotropes_k21_errors_apart.prog) (w := w) (base := base) M A__law_drawn  
  have D__law_roll := ok__law_roll (T := [(PP, lawQ)]) (P := PySem.Challenge.rw_knotropes_k21_errors_apart.prog) (w := w) (base := base) M A__law_roll D__law_drawn
  have Rd := ok__law_rounds (T := [(PP, lawQ)]) (P := PySem.Challenge.rw_knotropes_k21_errors_apart.prog) (w := w) (base := base) M A__law_rounds D__law_cell
  have D__law_alone := ok__law_alone (T := [(PP, lawQ)]) (P := PySem.Challenge.rw_knotropes_k21_errors_apart.prog) (w := w) (base := base) M ER A__law_alone
  have O : Met [(PP, lawQ)] PySem.Challenge.rw_knotropes_k21_errors_apart.prog w K mg base (fun i => He.ga K (errN.getD i Str.empty)) (He.ga K "RopeError") := by
    obtain ⟨fa, fd, F, g⟩ := A__law_met.ex
    exact ⟨ER, fa, fd, s__law_met, F, g, sc__law_met, ⟨_, _, _, _, _, _, _, _, _, _, _, rfl⟩, F.binds (ps := ["deed"]) (fun _ _ _ _ _ _ us hl => match us, hl with | [_], _ => rfl), rfl, rfl, rfl⟩
  have FM : FrM [(PP, lawQ)] PySem.Challenge.rw_knotropes_k21_errors_apart.prog w K mg base (He.ga K "Frame") := ⟨FC, ⟨_, _, _, MK, ok_F_init F___init__ FC D_need_triangle, ok_F_initX F___init__ FC D_need_triangle, gF, (F___init__.binds (ps := ["self", "triangle"]) (fun _ _ _ _ _ _ us hl => match us, hl with | [_, _], _ => rfl))⟩, ⟨_, _, m_change, ok_F_change F_change FC M D_is_whole D_is_triangle, ok_F_changeX F_change FC M D_is_whole D_is_triangle X_InvalidPlace X_InvalidNumber X_NoTriangle, (F_change.binds (ps := ["self", "place", "number"]) (fun _ _ _ _ _ _ us hl => match us, hl with | [_, _, _], _ => rfl))⟩, ⟨_, _, m_undo, ok_F_undo F_undo FC, ok_F_undoX F_undo FC X_NothingToUndo, (F_undo.binds (ps := ["self"]) (fun _ _ _ _ _ _ us hl => match us, hl with | [_], _ => rfl))⟩, ⟨_, _, m_redo, ok_F_redo F_redo FC, ok_F_redoX F_redo FC X_NothingToUndo, (F_redo.binds (ps := ["self"]) (fun _ _ _ _ _ _ us hl => match us, hl with | [_], _ => rfl))⟩, ⟨_, _, m_triangle, ok_F_triangle F_triangle FC, (F_triangle.binds (ps := ["self"]) (fun _ _ _ _ _ _ us hl => match us, hl with | [_], _ => rfl))⟩, ⟨_, _, m___len__, ok_F_len F___len__ FC M, (F___len__.binds (ps := ["self"]) (fun _ _ _ _ _ _ us hl => match us, hl with | [_], _ => rfl))⟩⟩
  exact law_ok (nd := 1) (k := 9) (body := forBody (defBody s_law)) lk hcd sc_law rfl Rd (by decide) (by decide) rfl rfl rfl rfl rfl (by decide) fun A outer s H0 H E d B hT => law_step M D__law_roll D_area D_triangles D_scaled D_told_by D_height D_join D_parse_triangle D__law_alone O FM ⟨cc, PP, rfl, TB, List.mem_cons_self, fun p hp _ => by rw [List.mem_singleton.mp hp]⟩ f A outer s H0 H E d B hT
end KR
set_option Elab.async false
set_option linter.all false
open PySem PySem.W PySem.Calls PyProof.Rows
set_option maxRecDepth 100000 in
set_option maxHeartbeats 0 in
theorem PySem.Challenge.cw_knotropes_k21_errors_apart_holds : PySem.Challenge.rw_knotropes_k21_errors_apart.Holds := by
  w_on; o_law
  refine HandSHeadRun.head_any (r := OpenLaw.row PySem.Challenge.rw_knotropes_k21_errors_apart) (q := view (OpenLaw.row PySem.Challenge.rw_knotropes_k21_errors_apart).prog [53]) (H := KR.hk) (ob := KR.ob)
    (M := 20000) (loose := KR.looseL) (d := HandSHeadRun.topDef (OpenLaw.row PySem.Challenge.rw_knotropes_k21_errors_apart).prog 53) (kwd := []) KR.ob_eq
    (by kernel_rfl) (fun s => by kernel_rfl) KR.run (by kernel_rfl) (by kernel_rfl) (by kernel_rfl) (by rfl)
    (by first | assumption | decide +kernel) (by decide +kernel) ⟨rfl, rfl, rfl, rfl, rfl, by decide +kernel⟩ ?hw ?hc
  case hw => w_witness2
  case hc =>
    refine LamX.walk_ofTsE (l := PySem.Challenge.rw_knotropes_k21_errors_apart) (n := 63) (k := 10) (x := "script") (CX := fun w => L2N.CX PySem.Challenge.rw_knotropes_k21_errors_apart.prog w)
      rfl (by decide) (by kernel_rfl) ⟨rfl, by decide, by decide⟩ ?F ?X
    case F =>
      intro w mg fa h Y G hmg0
      obtain ⟨K, KX, c⟩ := Y
      have hmg : mg ("law" : PySem.Str) = some (.ref fa) := by
        have e : (HandSHeadRun.topDef (OpenLaw.row PySem.Challenge.rw_knotropes_k21_errors_apart).prog 53).name = ("law" : PySem.Str) := by kernel_rfl
        rw [← e]
        exact hmg0
      exact ⟨K, KX, KR.law_at KX c G hmg⟩
    case X =>
      intro w H s e s' z
      obtain ⟨_, _, _, _, _, _, _, _, _, _, _, _, q⟩ := z
      exact q.elim
