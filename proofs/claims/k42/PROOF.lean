import PyProof.Rows.All
import Wide.All
import OpenK.AllK
import Wide.FinOn
import HandS.ForMost
import HandS.Lambda
import HandS.Nested
import HandS.Conv
import HandS.Deep
import HandS.TupAny
import HandS.TupMul
import HandS.Property
import HandS.IsInst
import HandS.Star
import HandS.Style
import KE.GoesEnum
import KE.KLam
import HandS.Keys
import HandS.Defaults
import HandS.CallLocal
import KE.KStateDown
import HandS.Head0
import HandS.Head1
import HandS.Head2
import HandS.HeadEnd
import HandS.HeadHook1
import HandS.HeadHook2
import HandS.HeadHook3
import HandS.HeadHook4
import HandS.HeadWalk
import HandS.EndTab
import PySem.Challenge.RW_rowmaps_k42_across_how_joined_rows_come
set_option Elab.async false
set_option linter.all false
set_option maxRecDepth 100000
set_option maxHeartbeats 4000000
/-! The D-layer, part 1: heaps in two parts, what slots hold, what expressions come to. -/
namespace Rm
open PySem PySem.Spec PyProof.Rows L2 LamX

/-! ### heaps -/
def Xt (I J : Hp) : Prop := ∀ a o, I a = some o → J a = some o
theorem Xt.refl (I : Hp) : Xt I I := fun _ _ h => h
theorem Xt.trans {I J L : Hp} (a : Xt I J) (b : Xt J L) : Xt I L := fun c o h => b c o (a c o h)
theorem Xt.new {I : Hp} {p : Addr} {o : HO} (h : I p = none) : Xt I (upd I p o) := fun a u e => by
  rw [upd_ne (ne_of_none e h)]
  exact e
theorem Xt.rd {I J : Hp} {a : Addr} {u : HO} (e : Xt I J) (h : Rd I a u) : Rd J a u := by
  rcases h with h | ⟨o, h⟩
  · exact .inl (e a _ h)
  · exact .inr ⟨o, e a _ h⟩
theorem Xt.l {K : PySem.W.Frag} {I J : Hp} {a : Addr} {xs : List V} (e : Xt I J) (h : SqL K I a xs) : SqL K J a xs := by
  rcases h with h | h
  · exact .inl (e.rd h)
  · exact .inr h
theorem Xt.t {K : PySem.W.Frag} {I J : Hp} {a : Addr} {xs : List V} (e : Xt I J) (h : SqT K I a xs) : SqT K J a xs := by
  rcases h with h | h
  · exact .inl (e.rd h)
  · exact .inr h
mutual
theorem Xt.dp {K : PySem.W.Frag} {I J : Hp} (e : Xt I J) : ∀ (d : PyData) (v : V), Dp K I v d → Dp K J v d
  | .none, v, h => by cases h; exact .non
  | .bool b, v, h => by cases h; exact .bl b
  | .int i, v, h => by cases h; exact .int i
  | .str x, v, h => by cases h; exact .str x
  | .list ds, v, h => by
    cases h with
    | lst hs ha => exact .lst (e.l hs) (e.dps ds _ ha)
  | .tuple ds, v, h => by
    cases h with
    | tup hs ha => exact .tup (e.t hs) (e.dps ds _ ha)
  | .dict _, v, h => by cases h
theorem Xt.dps {K : PySem.W.Frag} {I J : Hp} (e : Xt I J) : ∀ (ds : List PyData) (vs : List V), DpAll K I vs ds → DpAll K J vs ds
  | [], vs, h => by cases h; exact .nil
  | d :: ds, vs, h => by
    cases h with
    | cons h1 h2 => exact .cons (e.dp d _ h1) (e.dps ds _ h2)
end
abbrev Tb : Type := List (Addr × Str)
def NT (o : HO) : Prop := ∀ ps, o ≠ .tbl ps
theorem nt_l {xs : List V} : NT (.lst xs) := fun _ e => nomatch e
theorem nt_t {xs : List V} : NT (.tup xs) := fun _ e => nomatch e
theorem nt_k {xs : List (Key × V)} : NT (.dK xs) := fun _ e => nomatch e
theorem nt_d {xs : List (List Key × V)} : NT (.dT xs) := fun _ e => nomatch e
theorem nt_i {C d : Addr} {fs : List (Str × V)} : NT (.ins C d fs) := fun _ e => nomatch e
theorem nt_o {x : Addr} : NT (.own x) := fun _ e => nomatch e
/-- what a def of ours may change -/
def MO : HO → Prop
  | .lst _ => True
  | .dK _ => True
  | .dT _ => True
  | .ins _ _ _ => True
  | _ => False
theorem MO.nt {o : HO} (h : MO o) : NT o := fun ps e => by rw [e] at h; exact h
theorem MO.ne {o : HO} {c : Addr} {q : Str} (h : MO o) : o ≠ CodeO c q := fun e => by
  rw [e] at h
  unfold CodeO at h
  exact h
/-- I: what never changes; H: the whole -/
structure Wd (T : Tb) (I H : Hp) : Prop where
  sub : Xt I H
  nt : ∀ a o, I a = some o → NT o
  tabs : Tabs T H
/-- from (I, H) to (I', H'): what never changes grows by new objects; all else but P stays -/
structure Gr (T : Tb) (P : List Addr) (I H I' H' : Hp) : Prop where
  wd : Wd T I' H'
  sub : Xt I I'
  keep : ∀ a o, H a = some o → NT o → a ∉ P → H' a = some o
  there : ∀ a o, H a = some o → NT o → ∃ o', H' a = some o' ∧ NT o' ∧ (MO o → MO o')
  fr : ∀ a o, I a = none → H a = some o → MO o → I' a = none
section
variable {T : Tb} {P P' : List Addr} {I H I1 H1 I2 H2 : Hp}
theorem Gr.refl (w : Wd T I H) : Gr T P I H I H := ⟨w, Xt.refl I, fun _ _ h _ _ => h, fun _ o h n => ⟨o, h, n, id⟩, fun _ _ h _ _ => h⟩
theorem Gr.trans (a : Gr T P I H I1 H1) (b : Gr T P I1 H1 I2 H2) : Gr T P I H I2 H2 where
  wd := b.wd
  sub := a.sub.trans b.sub
  keep := fun c o h n q => b.keep c o (a.keep c o h n q) n q
  there := fun c o h n => let ⟨o', h', n', m'⟩ := a.there c o h n; let ⟨o2, h2, n2, m2⟩ := b.there c o' h' n'; ⟨o2, h2, n2, fun z => m2 (m' z)⟩
  fr := fun c o z h n => let ⟨o', h', n', m'⟩ := a.there c o h n.nt; b.fr c o' (a.fr c o z h n) h' (m' n)
theorem Gr.mono (a : Gr T P I H I1 H1) (s : ∀ c ∈ P, c ∈ P') : Gr T P' I H I1 H1 := ⟨a.wd, a.sub, fun c o h n q => a.keep c o h n fun z => q (s c z), a.there, a.fr⟩
theorem Gr.nil (a : Gr T [] I H I1 H1) : Gr T P I H I1 H1 := a.mono fun _ z => nomatch z
theorem Wd.free (w : Wd T I H) {p : Addr} (h : H p = none) : I p = none := by
  cases e : I p with
  | none => rfl
  | some o =>
    rw [w.sub p o e] at h
    cases h
/-- H grew, I as it was -/
theorem Gr.ext (w : Wd T I H) (e : ExtN H H1) (t : Tabs T H1) : Gr T P I H I H1 :=
  ⟨⟨fun a o h => e a o (w.sub a o h) (w.nt a o h), w.nt, t⟩, Xt.refl I, fun a o h n _ => e a o h n, fun a o h n => ⟨o, e a o h n, n, id⟩, fun _ _ h _ _ => h⟩
theorem Wd.xt (w : Wd T I H) (e : Xt H H1) : Wd T I H1 := ⟨w.sub.trans e, w.nt, w.tabs.ext e⟩
theorem Gr.xt (w : Wd T I H) (e : Xt H H1) : Gr T P I H I H1 := Gr.ext w (fun a o h _ => e a o h) (w.tabs.ext e)
/-- a new thing that changes no more -/
theorem Gr.new (w : Wd T I H) {p : Addr} {o : HO} (h : H p = none) (n : NT o) : Gr T P I H (upd I p o) (upd H p o) := by
  have hi := w.free h
  refine ⟨⟨fun a u e => ?_, fun a u e => ?_, w.tabs.ext (Xt.new h)⟩, Xt.new hi, fun a u e _ _ => Xt.new h a u e, fun a u e n => ⟨u, Xt.new h a u e, n, id⟩, fun a u z e _ => ?_⟩
  · by_cases q : a = p
    · subst q
      rw [upd_same] at e ⊢
      exact e
    · rw [upd_ne q] at e ⊢
      exact w.sub a u e
  · by_cases q : a = p
    · subst q
      rw [upd_same] at e
      cases e
      exact n
    · rw [upd_ne q] at e
      exact w.nt a u e
  · rw [upd_ne (ne_of_none e h)]
    exact z
/-- a new thing that may change -/
theorem Gr.newM (w : Wd T I H) {p : Addr} {o : HO} (h : H p = none) : Gr T P I H I (upd H p o) := Gr.xt w (Xt.new h)
/-- a thing of P changes -/
theorem Gr.mut (w : Wd T I H) {p : Addr} {o o' : HO} (h : H p = some o) (n : MO o) (n' : MO o') (hi : I p = none) (hp : p ∈ P) : Gr T P I H I (upd H p o') := by
  refine ⟨⟨fun a u e => ?_, w.nt, fun t ht => ?_⟩, Xt.refl I, fun a u e _ q => ?_, fun a u e nu => ?_, fun _ _ z _ _ => z⟩
  · rw [upd_ne (ne_of_none e hi)]
    exact w.sub a u e
  · obtain ⟨ps, h1, h2, h3⟩ := w.tabs t ht
    have n1 : t.1 ≠ p := fun z => by
      rw [z, h] at h1
      exact n.nt ps (Option.some.inj h1)
    refine ⟨ps, by rw [upd_ne n1]; exact h1, h2, fun pos cv hc => ?_⟩
    obtain ⟨c, e1, e2⟩ := h3 pos cv hc
    have n2 : c ≠ p := fun z => by
      rw [z, h] at e2
      exact n.ne (Option.some.inj e2)
    exact ⟨c, e1, by rw [upd_ne n2]; exact e2⟩
  · have z : a ≠ p := fun z => q (z ▸ hp)
    rw [upd_ne z]
    exact e
  · by_cases q : a = p
    · subst q
      exact ⟨o', upd_same, n'.nt, fun _ => n'⟩
    · exact ⟨u, by rw [upd_ne q]; exact e, nu, id⟩
end

/-! ### what a value is -/
structure SV where
  p : V → Hp → Prop
  mono : ∀ {v : V} {I J : Hp}, Xt I J → p v I → p v J
/-- data -/
def sD (K : PySem.W.Frag) (d : PyData) : SV := ⟨fun v I => Dp K I v d, fun e h => e.dp _ _ h⟩
/-- this very value -/
def sV (v : V) : SV := ⟨fun u _ => u = v, fun _ h => h⟩
def AllV (Ss : List SV) (vs : List V) (I : Hp) : Prop := Paired (fun (S : SV) v => S.p v I) Ss vs
theorem AllV.mono {Ss : List SV} {vs : List V} {I J : Hp} (e : Xt I J) (h : AllV Ss vs I) : AllV Ss vs J := Paired.mapP h fun S _ q => S.mono e q
theorem AllV.get : ∀ {Ss : List SV} {vs : List V} {I : Hp} {i : Nat} {S : SV}, AllV Ss vs I → Ss[i]? = some S → ∃ v, vs[i]? = some v ∧ S.p v I
  | _, _, _, _, _, .nil, e => by simp at e
  | _, _, _, 0, _, .cons r _, e => by simp at e; subst e; exact ⟨_, rfl, r⟩
  | _, _, _, i + 1, S, .cons _ t, e => by
    obtain ⟨u, h1, h2⟩ := AllV.get (i := i) (S := S) t (by simpa using e)
    exact ⟨u, by simpa using h1, h2⟩
theorem AllV.length {Ss : List SV} {vs : List V} {I : Hp} (h : AllV Ss vs I) : Ss.length = vs.length := Paired.length h
theorem AllV.append : ∀ {Ss Ss' : List SV} {vs vs' : List V} {I : Hp}, AllV Ss vs I → AllV Ss' vs' I → AllV (Ss ++ Ss') (vs ++ vs') I
  | _, _, _, _, _, .nil, s => s
  | _, _, _, _, _, .cons r t, s => .cons r (AllV.append t s)
/-- a new tuple | a list of such -/
def sTup (K : PySem.W.Frag) (Ss : List SV) : SV := ⟨fun v I => ∃ a vs, v = .ref a ∧ SqT K I a vs ∧ AllV Ss vs I, fun e ⟨a, vs, h1, h2, h3⟩ => ⟨a, vs, h1, e.t h2, h3.mono e⟩⟩
def sLst (K : PySem.W.Frag) (Ss : List SV) : SV := ⟨fun v I => ∃ a vs, v = .ref a ∧ SqL K I a vs ∧ AllV Ss vs I, fun e ⟨a, vs, h1, h2, h3⟩ => ⟨a, vs, h1, e.l h2, h3.mono e⟩⟩
theorem dpAll_iff {K : PySem.W.Frag} {I : Hp} : ∀ {ds : List PyData} {vs : List V}, AllV (ds.map (sD K)) vs I ↔ DpAll K I vs ds
  | [], vs => ⟨fun h => by cases h; exact .nil, fun h => by cases h; exact .nil⟩
  | d :: ds, vs => by
    constructor
    · intro h
      cases h with
      | cons h1 h2 => exact .cons h1 (dpAll_iff.mp h2)
    · intro h
      cases h with
      | cons h1 h2 => exact .cons h1 (dpAll_iff.mpr h2)
theorem sD_tup {K : PySem.W.Frag} {I : Hp} {v : V} {ds : List PyData} : (sD K (.tuple ds)).p v I ↔ (sTup K (ds.map (sD K))).p v I := by
  constructor
  · intro h
    cases h with
    | tup h1 h2 => exact ⟨_, _, rfl, h1, dpAll_iff.mpr h2⟩
  · rintro ⟨a, vs, rfl, h1, h2⟩
    exact .tup h1 (dpAll_iff.mp h2)
theorem sD_lst {K : PySem.W.Frag} {I : Hp} {v : V} {ds : List PyData} : (sD K (.list ds)).p v I ↔ (sLst K (ds.map (sD K))).p v I := by
  constructor
  · intro h
    cases h with
    | lst h1 h2 => exact ⟨_, _, rfl, h1, dpAll_iff.mpr h2⟩
  · rintro ⟨a, vs, rfl, h1, h2⟩
    exact .lst h1 (dpAll_iff.mp h2)
theorem dp_int {K : PySem.W.Frag} {I : Hp} {v : V} {i : Int} (h : (sD K (.int i)).p v I) : v = .int i := by cases h; rfl
theorem dp_bl {K : PySem.W.Frag} {I : Hp} {v : V} {b : Bool} (h : (sD K (.bool b)).p v I) : v = .bl b := by cases h; rfl
theorem dp_str {K : PySem.W.Frag} {I : Hp} {v : V} {x : Str} (h : (sD K (.str x)).p v I) : v = .str x := by cases h; rfl
theorem dp_non {K : PySem.W.Frag} {I : Hp} {v : V} (h : (sD K .none).p v I) : v = .non := by cases h; rfl

/-! ### what a thing that may change holds -/
structure MV where
  p : HO → Hp → Prop
  mono : ∀ {o : HO} {I J : Hp}, Xt I J → p o I → p o J
  mo : ∀ {o : HO} {I : Hp}, p o I → MO o
/-- a list of these -/
def mL (Ss : List SV) : MV := ⟨fun o I => ∃ vs, o = .lst vs ∧ AllV Ss vs I, fun e ⟨vs, h1, h2⟩ => ⟨vs, h1, h2.mono e⟩, fun ⟨vs, h1, _⟩ => by rw [h1]; trivial⟩
abbrev Ct : Type := List (Option SV)
abbrev Mt : Type := List (Addr × MV)
structure Sl (Γ : Ct) (M : Mt) (σ : L2.St) (I H : Hp) : Prop where
  len : σ.length = Γ.length
  sl : ∀ (i : Nat) S, Γ[i]? = some (some S) → ∃ v, σ[i]? = some (some v) ∧ S.p v I
  mu : ∀ m ∈ M, I m.1 = none ∧ ∃ o, H m.1 = some o ∧ m.2.p o I
  nd : (M.map (·.1)).Nodup
section
variable {T : Tb} {P : List Addr} {Γ : Ct} {M : Mt} {σ : L2.St} {I H I' H' : Hp}
theorem Sl.grow (h : Sl Γ M σ I H) (g : Gr T P I H I' H') (hp : ∀ m ∈ M, m.1 ∉ P) : Sl Γ M σ I' H' where
  len := h.len
  sl := fun i S e => let ⟨v, h1, h2⟩ := h.sl i S e; ⟨v, h1, S.mono g.sub h2⟩
  mu := fun m hm => by
    obtain ⟨h1, o, h2, h3⟩ := h.mu m hm
    exact ⟨g.fr _ o h1 h2 (m.2.mo h3), o, g.keep _ o h2 (m.2.mo h3).nt (hp m hm), m.2.mono g.sub h3⟩
  nd := h.nd
theorem Sl.grow0 (h : Sl Γ M σ I H) (g : Gr T [] I H I' H') : Sl Γ M σ I' H' := h.grow g fun _ _ z => nomatch z
theorem Sl.set (h : Sl Γ M σ I H) {i : Nat} {S : SV} {v : V} (q : S.p v I) : Sl (Γ.set i (some S)) M (σ.set i (some v)) I H where
  len := by rw [List.length_set, List.length_set, h.len]
  sl := fun j S' e => by
    by_cases hj : i = j
    · subst hj
      have hl : i < Γ.length := by
        have := (List.getElem?_eq_some_iff.mp e).1
        rwa [List.length_set] at this
      rw [List.getElem?_set_self hl] at e
      cases e
      exact ⟨v, List.getElem?_set_self (by rw [h.len]; exact hl), q⟩
    · rw [List.getElem?_set_ne hj] at e ⊢
      exact h.sl j S' e
  mu := h.mu
  nd := h.nd
theorem Sl.setN (h : Sl Γ M σ I H) {i : Nat} {v : Option V} : Sl (Γ.set i none) M (σ.set i v) I H where
  len := by rw [List.length_set, List.length_set, h.len]
  sl := fun j S' e => by
    by_cases hj : i = j
    · subst hj
      have hl : i < Γ.length := by
        have := (List.getElem?_eq_some_iff.mp e).1
        rwa [List.length_set] at this
      rw [List.getElem?_set_self hl] at e
      cases e
    · rw [List.getElem?_set_ne hj] at e ⊢
      exact h.sl j S' e
  mu := h.mu
  nd := h.nd
end
/-- Γ' knows less -/
inductive Wk : Ct → Ct → Prop
  | nil : Wk [] []
  | keep {a : Option SV} {Γ' Γ : Ct} : Wk Γ' Γ → Wk (a :: Γ') (a :: Γ)
  | drop {a : Option SV} {Γ' Γ : Ct} : Wk Γ' Γ → Wk (none :: Γ') (a :: Γ)
theorem Wk.len {Γ' Γ : Ct} (w : Wk Γ' Γ) : Γ'.length = Γ.length := by induction w <;> simp_all
theorem Wk.get {Γ' Γ : Ct} (w : Wk Γ' Γ) : ∀ (i : Nat) S, Γ'[i]? = some (some S) → Γ[i]? = some (some S) := by
  induction w with
  | nil => intro i S e; simp at e
  | keep w ih =>
    intro i S e
    cases i with
    | zero => simpa using e
    | succ i => simpa using ih i S (by simpa using e)
  | drop w ih =>
    intro i S e
    cases i with
    | zero => simp at e
    | succ i => simpa using ih i S (by simpa using e)
theorem Wk.refl : ∀ Γ : Ct, Wk Γ Γ
  | [] => .nil
  | _ :: Γ => .keep (Wk.refl Γ)
theorem Sl.weak {Γ Γ' : Ct} {M : Mt} {σ : L2.St} {I H : Hp} (h : Sl Γ M σ I H) (w : Wk Γ' Γ) : Sl Γ' M σ I H := ⟨by rw [h.len, w.len], fun i S e => h.sl i S (w.get i S e), h.mu, h.nd⟩

/-! ### what runs -/
section
variable (X : Cx)
def WE (e : Expr) : TE := fun σ H Q => ∀ (pins : List (Addr × Obj)) (s : Shared), Inv X pins σ H s → wpAny (model X.prog X.w) X.A (eval e X.env) (EP X pins σ Q) X.xe s
def WT (e : Expr) : TT := fun σ H Q => ∀ (pins : List (Addr × Obj)) (s : Shared), Inv X pins σ H s → wpAny (model X.prog X.w) X.A (isTrue e X.env (eval e X.env)) (TP X pins σ Q) X.xe s
def WA (es : List Expr) : TA := fun σ H Q => ∀ (pos : Pos) (pins : List (Addr × Obj)) (s : Shared), Inv X pins σ H s → wpAny (model X.prog X.w) X.A (spliced (backTo pos (starEach es X.env))) (AP X pins σ Q) X.xe s
def WS (sts : List Stmt) : TS := fun D σ H => ∀ (pins : List (Addr × Obj)) (s : Shared), Inv X pins σ H s → wpAny (model X.prog X.w) X.A (execs sts X.env) (SP X pins D) X.xe s
variable {X}
theorem pe_we {e : Expr} : PE X e (WE X e) := ⟨fun pins s _ _ _ I h => h pins s I⟩
theorem pt_wt {e : Expr} : PT X e (WT X e) := ⟨fun pins s _ _ _ I h => h pins s I⟩
theorem pa_wa {es : List Expr} : PA X es (WA X es) := ⟨fun pos pins s _ _ _ I h => h pos pins s I⟩
theorem ps_ws {sts : List Stmt} : PSs X sts (WS X sts) := ⟨fun pins s _ _ _ I h => h pins s I⟩
theorem we_of {e : Expr} {t : TE} {σ : L2.St} {H : Hp} {Q : VK} (h : PE X e t) (q : t σ H Q) : WE X e σ H Q := fun pins s I => h.run pins s σ H Q I q
theorem wt_of {e : Expr} {t : TT} {σ : L2.St} {H : Hp} {Q : Bool → Hp → Prop} (h : PT X e t) (q : t σ H Q) : WT X e σ H Q := fun pins s I => h.run pins s σ H Q I q
theorem wa_of {es : List Expr} {t : TA} {σ : L2.St} {H : Hp} {Q : List V → Hp → Prop} (h : PA X es t) (q : t σ H Q) : WA X es σ H Q := fun pos pins s I => h.run pos pins s σ H Q I q
theorem ws_of {sts : List Stmt} {t : TS} {D : Ends} {σ : L2.St} {H : Hp} (h : PSs X sts t) (q : t D σ H) : WS X sts D σ H := fun pins s I => h.run pins s σ H D I q
theorem ws_cons {st : Stmt} {rest : List Stmt} {t : TS} {D : Ends} {σ : L2.St} {H : Hp} (h : PS X st t) (q : t { D with nx := WS X rest D } σ H) : WS X (st :: rest) D σ H := ws_of (pss_cons h ps_ws) q
end

/-! ### expressions that come to data and leave all as it was -/
def DE (T : Tb) (X : Cx) (Γ : Ct) (M : Mt) (e : Expr) (S : SV) : Prop :=
  ∀ (σ : L2.St) (I H : Hp) (Q : VK), Sl Γ M σ I H → Wd T I H → (∀ v I' H', Gr T [] I H I' H' → S.p v I' → Q v H') → WE X e σ H Q
def DT (T : Tb) (X : Cx) (Γ : Ct) (M : Mt) (e : Expr) (b : Bool) : Prop :=
  ∀ (σ : L2.St) (I H : Hp) (Q : Bool → Hp → Prop), Sl Γ M σ I H → Wd T I H → (∀ I' H', Gr T [] I H I' H' → Q b H') → WT X e σ H Q
def DA (T : Tb) (X : Cx) (Γ : Ct) (M : Mt) (es : List Expr) (Ss : List SV) : Prop :=
  ∀ (σ : L2.St) (I H : Hp) (Q : List V → Hp → Prop), Sl Γ M σ I H → Wd T I H → (∀ vs I' H', Gr T [] I H I' H' → AllV Ss vs I' → Q vs H') → WA X es σ H Q
/-- two-place operations, calls, by values -/
def RD2 (T : Tb) (r : R2) (Sa Sb S : SV) : Prop := ∀ (x y : V) (I H : Hp) (Q : VK), Wd T I H → Sa.p x I → Sb.p y I → (∀ v I' H', Gr T [] I H I' H' → S.p v I' → Q v H') → r x y H Q
def RDC (T : Tb) (r : List V → Hp → VK → Prop) (Ss : List SV) (S : SV) : Prop := ∀ (vs : List V) (I H : Hp) (Q : VK), Wd T I H → AllV Ss vs I → (∀ v I' H', Gr T [] I H I' H' → S.p v I' → Q v H') → r vs H Q
section
variable {T : Tb} {X : Cx} {Γ : Ct} {M : Mt} {a b e : Expr} {es : List Expr} {S Sa Sb : SV} {Ss : List SV} {pos : Pos}
theorem DE.imp (h : DE T X Γ M e Sa) (q : ∀ v I, Sa.p v I → S.p v I) : DE T X Γ M e S := fun σ I H Q s w k => h σ I H Q s w fun v I' H' g p => k v I' H' g (q v I' p)
theorem DE.is {d d' : PyData} (h : DE T X Γ M e (sD X.K d)) (q : d = d') : DE T X Γ M e (sD X.K d') := by rw [← q]; exact h
theorem DT.is {c c' : Bool} (h : DT T X Γ M e c) (q : c = c') : DT T X Γ M e c' := by rw [← q]; exact h
theorem DE.weak {Γ' : Ct} (h : DE T X Γ' M e S) (w : Wk Γ' Γ) : DE T X Γ M e S := fun σ I H Q s => h σ I H Q (s.weak w)
theorem de_var {i : Nat} {x : Str} (h : Γ[i]? = some (some S)) (hN : X.N[i]? = some x) (hv : Vis X.env.scope x) (hd : (x == ("__debug__" : Str)) = false := by decide) (hcd : (x == ("__classdict__" : Str)) = false := by decide) : DE T X Γ M (.Name x pos) S :=
  fun σ I H Q s w k => we_of (pe_var hN hv hd hcd) (let ⟨v, h1, h2⟩ := s.sl i S h; ⟨v, h1, k v I H (Gr.refl w) h2⟩)
theorem de_int {i : Int} {j : Nat} : DE T X Γ M (.Constant (.int i) j pos) (sD X.K (.int i)) := fun σ I H Q s w k => we_of pe_int (k _ I H (Gr.refl w) (.int i))
theorem de_bl {c : Bool} {j : Nat} : DE T X Γ M (.Constant (.bool c) j pos) (sD X.K (.bool c)) := fun σ I H Q s w k => we_of pe_bl (k _ I H (Gr.refl w) (.bl c))
theorem de_non {j : Nat} : DE T X Γ M (.Constant .none j pos) (sD X.K .none) := fun σ I H Q s w k => we_of pe_non (k _ I H (Gr.refl w) .non)
theorem de_str {x : Str} {j : Nat} : DE T X Γ M (.Constant (.str x) j pos) (sD X.K (.str x)) := fun σ I H Q s w k => we_of pe_str (k _ I H (Gr.refl w) (.str x))
/-- a module's constant -/
theorem de_globI {x : Str} {i : Int} (hm : ∃ t, X.mg x = some (.int i t)) (hg : Gl X x) (hd : (x == ("__debug__" : Str)) = false := by decide) : DE T X Γ M (.Name x pos) (sD X.K (.int i)) := fun σ I H Q s w k => by
  obtain ⟨t, hm⟩ := hm
  exact we_of (pe_glob (v := .int i) hg hm ⟨t, rfl⟩ hd) (k _ I H (Gr.refl w) (.int i))
theorem de_globS {x z : Str} (hm : ∃ t, X.mg x = some (.str z t)) (hg : Gl X x) (hd : (x == ("__debug__" : Str)) = false := by decide) : DE T X Γ M (.Name x pos) (sD X.K (.str z)) := fun σ I H Q s w k => by
  obtain ⟨t, hm⟩ := hm
  exact we_of (pe_glob (v := .str z) hg hm ⟨t, rfl⟩ hd) (k _ I H (Gr.refl w) (.str z))
theorem de_globA {x : Str} {f : Addr} (hm : X.mg x = some (.ref f)) (hg : Gl X x) (hd : (x == ("__debug__" : Str)) = false := by decide) : DE T X Γ M (.Name x pos) (sV (.ref f)) := fun σ I H Q s w k =>
  we_of (pe_glob (v := .ref f) hg hm rfl hd) (k _ I H (Gr.refl w) rfl)
theorem two {ta tb : TE} {σ : L2.St} {I H : Hp} {r : R2} {Q : VK} (s : Sl Γ M σ I H) (w : Wd T I H) (ha : DE T X Γ M a Sa) (hb : DE T X Γ M b Sb) (hr : RD2 T r Sa Sb S) (k : ∀ v I' H', Gr T [] I H I' H' → S.p v I' → Q v H') : tOp r (WE X a) (WE X b) σ H Q :=
  ha σ I H _ s w fun x I1 H1 g1 p1 => hb σ I1 H1 _ (s.grow0 g1) g1.wd fun y I2 H2 g2 p2 => hr x y I2 H2 Q g2.wd (Sa.mono g2.sub p1) p2 fun v I3 H3 g3 p3 => k v I3 H3 ((g1.trans g2).trans g3) p3
theorem de_op {op : Operator} {r : R2} (ho : OpR X (binaryOp op) r) (hr : RD2 T r Sa Sb S) (ha : DE T X Γ M a Sa) (hb : DE T X Γ M b Sb) : DE T X Γ M (.BinOp a op b pos) S := fun σ I H Q s w k =>
  we_of (pe_op ho pe_we pe_we) (two (ta := WE X a) (tb := WE X b) s w ha hb hr k)
theorem de_cmp {op : CmpOp} {r : R2} (ho : OpR X (compareOp op) r) (hm : behindInMarks op b = false) (hr : RD2 T r Sa Sb S) (ha : DE T X Γ M a Sa) (hb : DE T X Γ M b Sb) : DE T X Γ M (.Compare a [op] [b] pos) S := fun σ I H Q s w k =>
  we_of (pe_cmpR ho pe_we pe_we hm) (two (ta := WE X a) (tb := WE X b) s w ha hb hr k)
theorem dt_cmp {op : CmpOp} {r : R2} {c : Bool} (ho : OpR X (compareOp op) r) (hm : behindInMarks op b = false) (hr : RD2 T r Sa Sb (sD X.K (.bool c))) (ha : DE T X Γ M a Sa) (hb : DE T X Γ M b Sb) : DT T X Γ M (.Compare a [op] [b] pos) c := fun σ I H Q s w k =>
  wt_of (pt_cmpR ho pe_we pe_we hm) (two (ta := WE X a) (tb := WE X b) s w ha hb hr fun v I' H' g p => ⟨c, dp_bl p, k I' H' g⟩)
theorem dt_val {c : Bool} (h : DE T X Γ M e (sD X.K (.bool c))) (he : ∀ whole, isTrue e X.env whole = (do let v ← whole; standAt e.pos; holding [v] (truthy v)) := by intro _; rfl) : DT T X Γ M e c := fun σ I H Q s w k =>
  wt_of (pt_val pe_we he) (h σ I H _ s w fun v I' H' g p => ⟨c, dp_bl p, k I' H' g⟩)
theorem dt_not {c : Bool} (h : DT T X Γ M a c) : DT T X Γ M (.UnaryOp .Not a pos) (!c) := fun σ I H Q s w k =>
  wt_of (pt_not pt_wt) (h σ I H _ s w fun I' H' g => k I' H' g)
theorem de_not {c : Bool} (h : DE T X Γ M a (sD X.K (.bool c))) : DE T X Γ M (.UnaryOp .Not a pos) (sD X.K (.bool (!c))) := fun σ I H Q s w k =>
  we_of (pe_not pe_we) (h σ I H _ s w fun v I' H' g p => ⟨c, dp_bl p, k _ I' H' g (.bl _)⟩)
/-- a test whatever its 'whole' is -/
def DW (T : Tb) (X : Cx) (Γ : Ct) (M : Mt) (e : Expr) (b : Bool) : Prop := ∀ (whole : Sem Value) (σ : L2.St) (I H : Hp) (Q : Bool → Hp → Prop) (pins : List (Addr × Obj)) (s : Shared), Sl Γ M σ I H → Wd T I H → (∀ I' H', Gr T [] I H I' H' → Q b H') → Inv X pins σ H s →
  wpAny (model X.prog X.w) X.A (isTrue e X.env whole) (TP X pins σ Q) X.xe s
theorem DW.dt {c : Bool} (h : DW T X Γ M e c) : DT T X Γ M e c := fun σ I H Q s w k pins sh J => h _ σ I H Q pins sh s w k J
theorem dw_and1 {c : Bool} (ha : DT T X Γ M a c) : DW T X Γ M (.BoolOp .And [a] pos) c := fun wh σ I H Q pins s sl w k J => (pw_and1 (X := X) (pos := pos) pt_wt).run wh pins s σ H Q J (ha σ I H Q sl w k)
theorem dw_or1 {c : Bool} (ha : DT T X Γ M a c) : DW T X Γ M (.BoolOp .Or [a] pos) c := fun wh σ I H Q pins s sl w k J => (pw_or1 (X := X) (pos := pos) pt_wt).run wh pins s σ H Q J (ha σ I H Q sl w k)
theorem pw_ww {rest : List Expr} {op : BoolOp} : PW X (.BoolOp op rest pos) (fun σ H Q => ∀ (wh : Sem Value) (pins : List (Addr × Obj)) (s : Shared), Inv X pins σ H s → wpAny (model X.prog X.w) X.A (isTrue (.BoolOp op rest pos) X.env wh) (TP X pins σ Q) X.xe s) := ⟨fun wh pins s σ H Q I h => h wh pins s I⟩
theorem dw_and {rest : List Expr} {c c' : Bool} (ha : DT T X Γ M a c) (hb : c = true → DW T X Γ M (.BoolOp .And (b :: rest) pos) c') : DW T X Γ M (.BoolOp .And (a :: b :: rest) pos) (c && c') := fun wh σ I H Q pins s sl w k J => by
  refine (pw_and (X := X) (pos := pos) pt_wt pw_ww).run wh pins s σ H Q J (ha σ I H _ sl w fun I1 H1 g1 => ?_)
  cases c with
  | true => exact iteT fun wh' pins' s' J' => hb rfl wh' σ I1 H1 Q pins' s' (sl.grow0 g1) g1.wd (fun I2 H2 g2 => k I2 H2 (g1.trans g2)) J'
  | false => exact iteF (k I1 H1 g1)
theorem dw_or {rest : List Expr} {c c' : Bool} (ha : DT T X Γ M a c) (hb : c = false → DW T X Γ M (.BoolOp .Or (b :: rest) pos) c') : DW T X Γ M (.BoolOp .Or (a :: b :: rest) pos) (c || c') := fun wh σ I H Q pins s sl w k J => by
  refine (pw_or (X := X) (pos := pos) pt_wt pw_ww).run wh pins s σ H Q J (ha σ I H _ sl w fun I1 H1 g1 => ?_)
  cases c with
  | false => exact iteF fun wh' pins' s' J' => hb rfl wh' σ I1 H1 Q pins' s' (sl.grow0 g1) g1.wd (fun I2 H2 g2 => k I2 H2 (g1.trans g2)) J'
  | true => exact iteT (k I1 H1 g1)
/-- and, or of bools as a value -/
theorem de_one {op : BoolOp} (h : DE T X Γ M a S) : DE T X Γ M (.BoolOp op [a] pos) S := fun σ I H Q s w k => we_of (pe_one pe_we) (h σ I H Q s w k)
theorem de_and {rest : List Expr} {c c' : Bool} (ha : DE T X Γ M a (sD X.K (.bool c))) (hb : c = true → DE T X Γ M (.BoolOp .And (b :: rest) pos) (sD X.K (.bool c'))) : DE T X Γ M (.BoolOp .And (a :: b :: rest) pos) (sD X.K (.bool (c && c'))) := fun σ I H Q s w k =>
  we_of (pe_and pe_we pe_we) (ha σ I H _ s w fun v I1 H1 g1 p => ⟨c, dp_bl p, by
    cases c with
    | true => exact iteT (hb rfl σ I1 H1 Q (s.grow0 g1) g1.wd fun v I2 H2 g2 p2 => k v I2 H2 (g1.trans g2) p2)
    | false => exact iteF (k _ I1 H1 g1 (.bl false))⟩)
theorem de_or {rest : List Expr} {c c' : Bool} (ha : DE T X Γ M a (sD X.K (.bool c))) (hb : c = false → DE T X Γ M (.BoolOp .Or (b :: rest) pos) (sD X.K (.bool c'))) : DE T X Γ M (.BoolOp .Or (a :: b :: rest) pos) (sD X.K (.bool (c || c'))) := fun σ I H Q s w k =>
  we_of (pe_or pe_we pe_we) (ha σ I H _ s w fun v I1 H1 g1 p => ⟨c, dp_bl p, by
    cases c with
    | false => exact iteF (hb rfl σ I1 H1 Q (s.grow0 g1) g1.wd fun v I2 H2 g2 p2 => k v I2 H2 (g1.trans g2) p2)
    | true => exact iteT (k _ I1 H1 g1 (.bl true))⟩)
theorem de_if {t : Expr} {c : Bool} (ht : DT T X Γ M t c) (h1 : c = true → DE T X Γ M a S) (h2 : c = false → DE T X Γ M b S) : DE T X Γ M (.IfExp t a b pos) S := fun σ I H Q s w k =>
  we_of (pe_ifExp pt_wt pe_we pe_we) (ht σ I H _ s w fun I1 H1 g1 => by
    cases c with
    | true => exact iteT (h1 rfl σ I1 H1 Q (s.grow0 g1) g1.wd fun v I2 H2 g2 p => k v I2 H2 (g1.trans g2) p)
    | false => exact iteF (h2 rfl σ I1 H1 Q (s.grow0 g1) g1.wd fun v I2 H2 g2 p => k v I2 H2 (g1.trans g2) p))
/-- a < b < c -/
theorem dt_chain {op op' : CmpOp} {cc : Expr} {Sc : SV} {r r' : R2} {c c' : Bool} (ho : OpR X (compareOp op) r) (ho' : OpR X (compareOp op') r')
    (hr : RD2 T r Sa Sb (sD X.K (.bool c))) (hr' : RD2 T r' Sb Sc (sD X.K (.bool c'))) (ha : DE T X Γ M a Sa) (hb : DE T X Γ M b Sb) (hc : DE T X Γ M cc Sc)
    (hm : lastMarks [op, op'] [b, cc] = false := by with_unfolding_all rfl) : DT T X Γ M (.Compare a [op, op'] [b, cc] pos) (c && c') := fun σ I H Q s w k => by
  refine wt_of (pt_chain ho ho' pe_we pe_we pe_we hm) (ha σ I H _ s w fun x I1 H1 g1 p1 => hb σ I1 H1 _ (s.grow0 g1) g1.wd fun y I2 H2 g2 p2 => hr x y I2 H2 _ g2.wd (Sa.mono g2.sub p1) p2 fun z I3 H3 g3 p3 => ⟨c, dp_bl p3, ?_⟩)
  have s3 := ((s.grow0 g1).grow0 g2).grow0 g3
  cases c with
  | true => exact iteT (hc σ I3 H3 _ s3 g3.wd fun u I4 H4 g4 p4 => hr' y u I4 H4 _ g4.wd (Sb.mono (g3.sub.trans g4.sub) p2) p4 fun z2 I5 H5 g5 p5 => ⟨c', dp_bl p5, k I5 H5 ((((g1.trans g2).trans g3).trans g4).trans g5)⟩)
  | false => exact iteF ⟨false, rfl, k I3 H3 ((g1.trans g2).trans g3)⟩
theorem de_chain {op op' : CmpOp} {cc : Expr} {Sc : SV} {r r' : R2} {c c' : Bool} (ho : OpR X (compareOp op) r) (ho' : OpR X (compareOp op') r')
    (hr : RD2 T r Sa Sb (sD X.K (.bool c))) (hr' : RD2 T r' Sb Sc (sD X.K (.bool c'))) (ha : DE T X Γ M a Sa) (hb : DE T X Γ M b Sb) (hc : DE T X Γ M cc Sc)
    (hm : lastMarks [op, op'] [b, cc] = false := by with_unfolding_all rfl) : DE T X Γ M (.Compare a [op, op'] [b, cc] pos) (sD X.K (.bool (c && c'))) := fun σ I H Q s w k => by
  refine we_of (pe_chain ho ho' pe_we pe_we pe_we hm) (ha σ I H _ s w fun x I1 H1 g1 p1 => hb σ I1 H1 _ (s.grow0 g1) g1.wd fun y I2 H2 g2 p2 => hr x y I2 H2 _ g2.wd (Sa.mono g2.sub p1) p2 fun z I3 H3 g3 p3 => ⟨c, dp_bl p3, ?_⟩)
  have s3 := ((s.grow0 g1).grow0 g2).grow0 g3
  cases c with
  | true => exact iteT (hc σ I3 H3 _ s3 g3.wd fun u I4 H4 g4 p4 => hr' y u I4 H4 _ g4.wd (Sb.mono (g3.sub.trans g4.sub) p2) p4 fun z2 I5 H5 g5 p5 => k z2 I5 H5 ((((g1.trans g2).trans g3).trans g4).trans g5) p5)
  | false => exact iteF (k _ I3 H3 ((g1.trans g2).trans g3) (.bl false))
theorem da_nil : DA T X Γ M [] [] := fun σ I H Q s w k => wa_of pa_nil (k [] I H (Gr.refl w) .nil)
theorem da_cons (ha : DE T X Γ M e S) (hr : DA T X Γ M es Ss) (hs : starEach (e :: es) X.env = (false, eval e X.env) :: starEach es X.env := by rfl) : DA T X Γ M (e :: es) (S :: Ss) := fun σ I H Q s w k =>
  wa_of (pa_cons pe_we pa_wa hs) (ha σ I H _ s w fun v I1 H1 g1 p1 => hr σ I1 H1 _ (s.grow0 g1) g1.wd fun vs I2 H2 g2 p2 => k (v :: vs) I2 H2 (g1.trans g2) (.cons (S.mono g2.sub p1) p2))
theorem de_tup {j : Nat} (h : DA T X Γ M es Ss) (hl : Ss.length ≤ 1000) : DE T X Γ M (.Tuple es j pos) (sTup X.K Ss) := fun σ I H Q s w k =>
  we_of (pe_tup pa_wa) (h σ I H _ s w fun vs I1 H1 g1 p1 => ⟨by rw [← p1.length]; exact Nat.le_of_lt (small1000 hl), fun p hp => k _ _ _ (g1.trans (Gr.new g1.wd hp nt_t)) ⟨p, vs, rfl, .inl (.inl upd_same), p1.mono (Xt.new (g1.wd.free hp))⟩⟩)
theorem de_lst {j : Nat} (h : DA T X Γ M es Ss) (hl : Ss.length ≤ 1000) : DE T X Γ M (.List es pos) (sLst X.K Ss) := fun σ I H Q s w k =>
  we_of (pe_lst pa_wa) (h σ I H _ s w fun vs I1 H1 g1 p1 => ⟨by rw [← p1.length]; exact Nat.le_of_lt (small1000 hl), fun p hp => k _ _ _ (g1.trans (Gr.new g1.wd hp nt_l)) ⟨p, vs, rfl, .inl (.inl upd_same), p1.mono (Xt.new (g1.wd.free hp))⟩⟩)
end
end Rm
set_option Elab.async false
set_option linter.all false
set_option maxRecDepth 100000
set_option maxHeartbeats 4000000
/-! The D-layer, part 2: data, operations by values. -/
namespace Rm
open PySem PySem.Spec PyProof.Rows L2 LamX

/-! ### what stands for numbers, tuples, lists -/
abbrev eI (i : Int) : PyData := .int i
abbrev eN (n : Nat) : PyData := .int (n : Int)
abbrev eB (b : Bool) : PyData := .bool b
abbrev eS (x : Str) : PyData := .str x
def eT {α : Type} (f : α → PyData) (xs : List α) : PyData := .tuple (xs.map f)
def eL {α : Type} (f : α → PyData) (xs : List α) : PyData := .list (xs.map f)
def eP {α β : Type} (f : α → PyData) (g : β → PyData) (x : α × β) : PyData := .tuple [f x.1, g x.2]
def eO {α : Type} (f : α → PyData) : Option α → PyData
  | none => .none
  | some x => f x
structure EncOk {α : Type} [DecidableEq α] (f : α → PyData) (n : Nat) : Prop where
  lay : ∀ x, (f x).canLay0 = true
  dep : ∀ x, (f x).depth ≤ n
  eqv : ∀ x y, PyData.eqv (f x) (f y) = decide (x = y)
theorem encI : EncOk eI 0 := ⟨fun _ => rfl, fun _ => Nat.le_refl _, fun x y => by
  show (x == y) = _
  rw [Bool.beq_eq_decide_eq]⟩
theorem encN : EncOk eN 0 := ⟨fun _ => rfl, fun _ => Nat.le_refl _, fun x y => by
  show ((x : Int) == (y : Int)) = _
  rw [Bool.beq_eq_decide_eq]
  by_cases h : x = y
  · subst h; simp
  · rw [decide_eq_false h, decide_eq_false (by omega)]⟩
theorem encB : EncOk eB 0 := ⟨fun _ => rfl, fun _ => Nat.le_refl _, fun x y => by
  show (x == y) = _
  rw [Bool.beq_eq_decide_eq]⟩
section
variable {α β : Type} [DecidableEq α] [DecidableEq β] {f : α → PyData} {g : β → PyData} {n m : Nat}
theorem lays (h : EncOk f n) : ∀ xs : List α, PyData.canLayAll0 (xs.map f) = true
  | [] => rfl
  | x :: xs => by
    rw [List.map_cons, PyData.canLayAll0, h.lay x, lays h xs]
    rfl
theorem deps (h : EncOk f n) : ∀ xs : List α, PyData.depthAll (xs.map f) ≤ n
  | [] => Nat.zero_le _
  | x :: xs => by
    rw [List.map_cons, PyData.depthAll]
    exact Nat.max_le.mpr ⟨h.dep x, deps h xs⟩
theorem eqvs (h : EncOk f n) : ∀ xs ys : List α, PyData.eqvAll (xs.map f) (ys.map f) = decide (xs = ys)
  | [], [] => rfl
  | [], y :: ys => by simp [PyData.eqvAll]
  | x :: xs, [] => by simp [PyData.eqvAll]
  | x :: xs, y :: ys => by
    rw [List.map_cons, List.map_cons, PyData.eqvAll, h.eqv x y, eqvs h xs ys]
    by_cases h1 : x = y
    · by_cases h2 : xs = ys
      · subst h1 h2; simp
      · rw [decide_eq_false h2, Bool.and_false, decide_eq_false (fun q => h2 (List.cons.inj q).2)]
    · rw [decide_eq_false h1, Bool.false_and, decide_eq_false (fun q => h1 (List.cons.inj q).1)]
theorem encT (h : EncOk f n) : EncOk (eT f) (n + 1) := ⟨fun x => lays h x, fun x => Nat.succ_le_succ (deps h x), fun x y => eqvs h x y⟩
theorem encL (h : EncOk f n) : EncOk (eL f) (n + 1) := ⟨fun x => lays h x, fun x => Nat.succ_le_succ (deps h x), fun x y => eqvs h x y⟩
theorem encP (h : EncOk f n) (h' : EncOk g n) : EncOk (eP f g) (n + 1) := ⟨fun x => by
    show ((f x.1).canLay0 && ((g x.2).canLay0 && true)) = true
    rw [h.lay, h'.lay] <;> rfl, fun x => by
    show max (f x.1).depth (max (g x.2).depth 0) + 1 ≤ n + 1
    have := h.dep x.1
    have := h'.dep x.2
    omega, fun x y => by
    show (PyData.eqv (f x.1) (f y.1) && (PyData.eqv (g x.2) (g y.2) && true)) = _
    rw [h.eqv, h'.eqv, Bool.and_true]
    obtain ⟨a, b⟩ := x
    obtain ⟨c, d⟩ := y
    by_cases h1 : a = c
    · by_cases h2 : b = d
      · subst h1 h2; simp
      · simp [h2]
    · simp [h1]⟩
theorem EncOk.shaped (h : EncOk f n) (hn : n ≤ 64) (x : α) : SeqAt.shaped (f x) = true := by
  show ((f x).canLay0 && decide ((f x).depth ≤ 64)) = true
  rw [h.lay, decide_eq_true (Nat.le_trans (h.dep x) hn)]
  rfl
end

/-! ### operations by values -/
section
variable {T : Tb} {K : PySem.W.Frag}
theorem rd_I0 {g : Int → Int → Int} {i j : Int} : RD2 T (rI0 fun i j => .int (g i j)) (sD K (.int i)) (sD K (.int j)) (sD K (.int (g i j))) := fun x y I H Q w hx hy k => ⟨i, j, dp_int hx, dp_int hy, k _ I H (Gr.refl w) (.int _)⟩
theorem rd_I {C : Int → Int → Prop} {g : Int → Int → Int} {i j : Int} (hc : C i j) : RD2 T (rI C fun i j => .int (g i j)) (sD K (.int i)) (sD K (.int j)) (sD K (.int (g i j))) := fun x y I H Q w hx hy k => ⟨i, j, dp_int hx, dp_int hy, hc, k _ I H (Gr.refl w) (.int _)⟩
theorem rd_B0 {g : Int → Int → Bool} {i j : Int} : RD2 T (rI0 fun i j => .bl (g i j)) (sD K (.int i)) (sD K (.int j)) (sD K (.bool (g i j))) := fun x y I H Q w hx hy k => ⟨i, j, dp_int hx, dp_int hy, k _ I H (Gr.refl w) (.bl _)⟩
theorem dec_strV {a b : Str} : decide (V.str a = V.str b) = decide (a = b) := by
  by_cases h : a = b
  · subst h; simp
  · rw [decide_eq_false h, decide_eq_false (fun q => h (V.str.inj q))]
theorem rd_eqS {a b : Str} : RD2 T rEq (sD K (.str a)) (sD K (.str b)) (sD K (.bool (decide (a = b)))) := fun x y I H Q w hx hy k => by
  rw [dp_str hx, dp_str hy]
  exact ⟨rfl, by rw [dec_strV]; exact k _ I H (Gr.refl w) (.bl _)⟩
theorem rd_neS {a b : Str} : RD2 T rNe (sD K (.str a)) (sD K (.str b)) (sD K (.bool (!decide (a = b)))) := fun x y I H Q w hx hy k => by
  rw [dp_str hx, dp_str hy]
  exact ⟨rfl, by rw [dec_strV]; exact k _ I H (Gr.refl w) (.bl _)⟩
theorem rd_eqD {d e : PyData} (h1 : SeqAt.shaped d = true) (h2 : SeqAt.shaped e = true) : RD2 T (rEqD K) (sD K d) (sD K e) (sD K (.bool (PyData.eqv d e))) := fun x y I H Q w hx hy k => ⟨d, e, w.sub.dp _ _ hx, w.sub.dp _ _ hy, h1, h2, k _ I H (Gr.refl w) (.bl _)⟩
theorem rd_neD {d e : PyData} (h1 : SeqAt.shaped d = true) (h2 : SeqAt.shaped e = true) : RD2 T (rNeD K) (sD K d) (sD K e) (sD K (.bool (!PyData.eqv d e))) := fun x y I H Q w hx hy k => ⟨d, e, w.sub.dp _ _ hx, w.sub.dp _ _ hy, h1, h2, k _ I H (Gr.refl w) (.bl _)⟩
theorem rd_inD {d : PyData} {ds : List PyData} (h1 : SeqAt.shaped d = true) (h2 : SeqAt.shaped (.list ds) = true) : RD2 T (rInD K) (sD K d) (sD K (.list ds)) (sD K (.bool (ds.any fun z => PyData.eqv z d))) := fun x y I H Q w hx hy k => ⟨d, ds, w.sub.dp _ _ hx, w.sub.dp _ _ hy, h1, h2, k _ I H (Gr.refl w) (.bl _)⟩
theorem rd_notInD {d : PyData} {ds : List PyData} (h1 : SeqAt.shaped d = true) (h2 : SeqAt.shaped (.list ds) = true) : RD2 T (rNotInD K) (sD K d) (sD K (.list ds)) (sD K (.bool (!ds.any fun z => PyData.eqv z d))) := fun x y I H Q w hx hy k => ⟨d, ds, w.sub.dp _ _ hx, w.sub.dp _ _ hy, h1, h2, k _ I H (Gr.refl w) (.bl _)⟩
theorem rd_isN {S : SV} {c : Bool} (h : ∀ v I, S.p v I → decide (v = V.non) = c) : RD2 T (fun x y H Q => y = .non ∧ Q (.bl (decide (x = .non))) H) S (sD K .none) (sD K (.bool c)) := fun x y I H Q w hx hy k => ⟨dp_non hy, by rw [h x I hx]; exact k _ I H (Gr.refl w) (.bl _)⟩
theorem rd_notN {S : SV} {c : Bool} (h : ∀ v I, S.p v I → decide (v = V.non) = c) : RD2 T (fun x y H Q => y = .non ∧ Q (.bl (!decide (x = .non))) H) S (sD K .none) (sD K (.bool (!c))) := fun x y I H Q w hx hy k => ⟨dp_non hy, by rw [h x I hx]; exact k _ I H (Gr.refl w) (.bl _)⟩
def isNone : PyData → Bool
  | .none => true
  | _ => false
theorem sD_none {d : PyData} : ∀ v I, (sD K d).p v I → decide (v = V.non) = isNone d := fun v I h => by
  cases d <;> cases h <;> first | rfl | (simp [isNone])
theorem rd_ixT {Ss : List SV} {S : SV} {k : Nat} (h : Ss[k]? = some S) : RD2 T (rIxT K) (sTup K Ss) (sD K (.int (k : Int))) S := fun x y I H Q w hx hy q => by
  obtain ⟨a, vs, e, h1, h2⟩ := hx
  obtain ⟨v, h3, h4⟩ := h2.get h
  exact ⟨a, vs, k, v, e, dp_int hy, w.sub.t h1, atI_nat h3, q v I H (Gr.refl w) h4⟩
theorem rd_ixL {Ss : List SV} {S : SV} {k : Nat} (h : Ss[k]? = some S) : RD2 T (rIxL K) (sLst K Ss) (sD K (.int (k : Int))) S := fun x y I H Q w hx hy q => by
  obtain ⟨a, vs, e, h1, h2⟩ := hx
  obtain ⟨v, h3, h4⟩ := h2.get h
  exact ⟨a, vs, k, v, e, dp_int hy, w.sub.l h1, atI_nat h3, q v I H (Gr.refl w) h4⟩
theorem rd_ixTD {ds : List PyData} {d : PyData} {k : Nat} (h : ds[k]? = some d) : RD2 T (rIxT K) (sD K (.tuple ds)) (sD K (.int (k : Int))) (sD K d) := fun x y I H Q w hx hy q =>
  rd_ixT (K := K) (T := T) (Ss := ds.map (sD K)) (S := sD K d) (by rw [List.getElem?_map, h]; rfl) x y I H Q w (sD_tup.mp hx) hy q
theorem rd_ixLD {ds : List PyData} {d : PyData} {k : Nat} (h : ds[k]? = some d) : RD2 T (rIxL K) (sD K (.list ds)) (sD K (.int (k : Int))) (sD K d) := fun x y I H Q w hx hy q =>
  rd_ixL (K := K) (T := T) (Ss := ds.map (sD K)) (S := sD K d) (by rw [List.getElem?_map, h]; rfl) x y I H Q w (sD_lst.mp hx) hy q
end

/-! ### subscripts, calls -/
section
variable {T : Tb} {X : Cx} {Γ : Ct} {M : Mt} {a b e : Expr} {es : List Expr} {S Sa Sb : SV} {Ss : List SV} {pos p : Pos}
theorem de_ix {r : R2} (hx : IxR X r) (hr : RD2 T r Sa Sb S) (ha : DE T X Γ M a Sa) (hb : DE T X Γ M b Sb) (hs : PlainIx b := by exact fun _ _ => rfl) : DE T X Γ M (.Subscript a b pos) S := fun σ I H Q s w k =>
  we_of (pe_ix hx pe_we pe_we hs) (two (ta := WE X a) (tb := WE X b) s w ha hb hr k)
theorem de_ixT {ds : List PyData} {d : PyData} {k : Nat} (ha : DE T X Γ M a (sD X.K (.tuple ds))) (hb : DE T X Γ M b (sD X.K (.int (k : Int)))) (h : ds[k]? = some d) (hs : PlainIx b := by exact fun _ _ => rfl) : DE T X Γ M (.Subscript a b pos) (sD X.K d) := de_ix ix_tup (rd_ixTD h) ha hb hs
theorem de_ixL {ds : List PyData} {d : PyData} {k : Nat} (ha : DE T X Γ M a (sD X.K (.list ds))) (hb : DE T X Γ M b (sD X.K (.int (k : Int)))) (h : ds[k]? = some d) (hs : PlainIx b := by exact fun _ _ => rfl) : DE T X Γ M (.Subscript a b pos) (sD X.K d) := de_ix ix_list (rd_ixLD h) ha hb hs
theorem de_add {i j : Int} (ha : DE T X Γ M a (sD X.K (.int i))) (hb : DE T X Γ M b (sD X.K (.int j))) : DE T X Γ M (.BinOp a .Add b pos) (sD X.K (.int (i + j))) := de_op op_add rd_I0 ha hb
theorem de_sub {i j : Int} (ha : DE T X Γ M a (sD X.K (.int i))) (hb : DE T X Γ M b (sD X.K (.int j))) : DE T X Γ M (.BinOp a .Sub b pos) (sD X.K (.int (i - j))) := de_op op_sub rd_I0 ha hb
theorem de_mul {i j : Int} (ha : DE T X Γ M a (sD X.K (.int i))) (hb : DE T X Γ M b (sD X.K (.int j))) (hc : CMul i j) : DE T X Γ M (.BinOp a .Mult b pos) (sD X.K (.int (i * j))) := de_op op_mul (rd_I hc) ha hb
theorem de_mod {i j : Int} (ha : DE T X Γ M a (sD X.K (.int i))) (hb : DE T X Γ M b (sD X.K (.int j))) (hc : 0 < j) : DE T X Γ M (.BinOp a .Mod b pos) (sD X.K (.int (i % j))) := de_op op_mod (rd_I (C := fun _ j => 0 < j) hc) ha hb
theorem de_fdiv {i j : Int} (ha : DE T X Γ M a (sD X.K (.int i))) (hb : DE T X Γ M b (sD X.K (.int j))) (hc : 0 < j ∧ j < 1073741824) : DE T X Γ M (.BinOp a .FloorDiv b pos) (sD X.K (.int (i / j))) := de_op op_fdiv (rd_I (C := CDiv) hc) ha hb
theorem de_pow {i j : Int} (ha : DE T X Γ M a (sD X.K (.int i))) (hb : DE T X Γ M b (sD X.K (.int j))) (hc : 0 ≤ j ∧ j ≤ 1000000 ∧ i.natAbs < 2 ^ 64) : DE T X Γ M (.BinOp a .Pow b pos) (sD X.K (.int (i ^ j.toNat))) := de_op op_pow (rd_I (C := CPow) hc) ha hb
theorem de_neg {i : Int} (ha : DE T X Γ M a (sD X.K (.int i))) : DE T X Γ M (.UnaryOp .USub a pos) (sD X.K (.int (-i))) := fun σ I H Q s w k =>
  we_of (pe_un un_neg pe_we) (ha σ I H _ s w fun v I' H' g p => ⟨i, dp_int p, k _ I' H' g (.int _)⟩)
theorem de_lt {i j : Int} (ha : DE T X Γ M a (sD X.K (.int i))) (hb : DE T X Γ M b (sD X.K (.int j))) : DE T X Γ M (.Compare a [.Lt] [b] pos) (sD X.K (.bool (decide (i < j)))) := de_cmp op_lt (nomark _) rd_B0 ha hb
theorem de_le {i j : Int} (ha : DE T X Γ M a (sD X.K (.int i))) (hb : DE T X Γ M b (sD X.K (.int j))) : DE T X Γ M (.Compare a [.LtE] [b] pos) (sD X.K (.bool (decide (i ≤ j)))) := de_cmp op_le (nomark _) rd_B0 ha hb
theorem de_gt {i j : Int} (ha : DE T X Γ M a (sD X.K (.int i))) (hb : DE T X Γ M b (sD X.K (.int j))) : DE T X Γ M (.Compare a [.Gt] [b] pos) (sD X.K (.bool (decide (j < i)))) := de_cmp op_gt (nomark _) rd_B0 ha hb
theorem de_ge {i j : Int} (ha : DE T X Γ M a (sD X.K (.int i))) (hb : DE T X Γ M b (sD X.K (.int j))) : DE T X Γ M (.Compare a [.GtE] [b] pos) (sD X.K (.bool (decide (j ≤ i)))) := de_cmp op_ge (nomark _) rd_B0 ha hb
theorem dt_lt {i j : Int} (ha : DE T X Γ M a (sD X.K (.int i))) (hb : DE T X Γ M b (sD X.K (.int j))) : DT T X Γ M (.Compare a [.Lt] [b] pos) (decide (i < j)) := dt_cmp op_lt (nomark _) rd_B0 ha hb
theorem dt_le {i j : Int} (ha : DE T X Γ M a (sD X.K (.int i))) (hb : DE T X Γ M b (sD X.K (.int j))) : DT T X Γ M (.Compare a [.LtE] [b] pos) (decide (i ≤ j)) := dt_cmp op_le (nomark _) rd_B0 ha hb
theorem dt_gt {i j : Int} (ha : DE T X Γ M a (sD X.K (.int i))) (hb : DE T X Γ M b (sD X.K (.int j))) : DT T X Γ M (.Compare a [.Gt] [b] pos) (decide (j < i)) := dt_cmp op_gt (nomark _) rd_B0 ha hb
theorem dt_ge {i j : Int} (ha : DE T X Γ M a (sD X.K (.int i))) (hb : DE T X Γ M b (sD X.K (.int j))) : DT T X Γ M (.Compare a [.GtE] [b] pos) (decide (j ≤ i)) := dt_cmp op_ge (nomark _) rd_B0 ha hb
/-- a <= b <= c -/
theorem dt_lele {c : Expr} {i j l : Int} (ha : DE T X Γ M a (sD X.K (.int i))) (hb : DE T X Γ M b (sD X.K (.int j))) (hc : DE T X Γ M c (sD X.K (.int l))) (hm : lastMarks [.LtE, .LtE] [b, c] = false := by with_unfolding_all rfl) :
    DT T X Γ M (.Compare a [.LtE, .LtE] [b, c] pos) (decide (i ≤ j) && decide (j ≤ l)) := dt_chain op_le op_le rd_B0 rd_B0 ha hb hc hm
theorem de_lele {c : Expr} {i j l : Int} (ha : DE T X Γ M a (sD X.K (.int i))) (hb : DE T X Γ M b (sD X.K (.int j))) (hc : DE T X Γ M c (sD X.K (.int l))) (hm : lastMarks [.LtE, .LtE] [b, c] = false := by with_unfolding_all rfl) :
    DE T X Γ M (.Compare a [.LtE, .LtE] [b, c] pos) (sD X.K (.bool (decide (i ≤ j) && decide (j ≤ l)))) := de_chain op_le op_le rd_B0 rd_B0 ha hb hc hm
/-- == and != of data -/
theorem de_eqD {d d' : PyData} (hu : X.A.units + 64 < cLine) (h1 : SeqAt.shaped d = true) (h2 : SeqAt.shaped d' = true) (ha : DE T X Γ M a (sD X.K d)) (hb : DE T X Γ M b (sD X.K d')) : DE T X Γ M (.Compare a [.Eq] [b] pos) (sD X.K (.bool (PyData.eqv d d'))) := de_cmp (op_eqD hu) (nomark _) (rd_eqD h1 h2) ha hb
theorem dt_eqD {d d' : PyData} (hu : X.A.units + 64 < cLine) (h1 : SeqAt.shaped d = true) (h2 : SeqAt.shaped d' = true) (ha : DE T X Γ M a (sD X.K d)) (hb : DE T X Γ M b (sD X.K d')) : DT T X Γ M (.Compare a [.Eq] [b] pos) (PyData.eqv d d') := dt_cmp (op_eqD hu) (nomark _) (rd_eqD h1 h2) ha hb
theorem de_neD {d d' : PyData} (hu : X.A.units + 64 < cLine) (h1 : SeqAt.shaped d = true) (h2 : SeqAt.shaped d' = true) (ha : DE T X Γ M a (sD X.K d)) (hb : DE T X Γ M b (sD X.K d')) : DE T X Γ M (.Compare a [.NotEq] [b] pos) (sD X.K (.bool (!PyData.eqv d d'))) := de_cmp (op_neD hu) (nomark _) (rd_neD h1 h2) ha hb
theorem dt_neD {d d' : PyData} (hu : X.A.units + 64 < cLine) (h1 : SeqAt.shaped d = true) (h2 : SeqAt.shaped d' = true) (ha : DE T X Γ M a (sD X.K d)) (hb : DE T X Γ M b (sD X.K d')) : DT T X Γ M (.Compare a [.NotEq] [b] pos) (!PyData.eqv d d') := dt_cmp (op_neD hu) (nomark _) (rd_neD h1 h2) ha hb
section
variable {α : Type} [DecidableEq α] {f : α → PyData} {n : Nat} {x y : α}
theorem de_eqE (hf : EncOk f n) (hn : n ≤ 64) (hu : X.A.units + 64 < cLine) (ha : DE T X Γ M a (sD X.K (f x))) (hb : DE T X Γ M b (sD X.K (f y))) : DE T X Γ M (.Compare a [.Eq] [b] pos) (sD X.K (.bool (decide (x = y)))) := (de_eqD hu (hf.shaped hn x) (hf.shaped hn y) ha hb).is (by rw [hf.eqv])
theorem dt_eqE (hf : EncOk f n) (hn : n ≤ 64) (hu : X.A.units + 64 < cLine) (ha : DE T X Γ M a (sD X.K (f x))) (hb : DE T X Γ M b (sD X.K (f y))) : DT T X Γ M (.Compare a [.Eq] [b] pos) (decide (x = y)) := (dt_eqD hu (hf.shaped hn x) (hf.shaped hn y) ha hb).is (by rw [hf.eqv])
theorem de_neE (hf : EncOk f n) (hn : n ≤ 64) (hu : X.A.units + 64 < cLine) (ha : DE T X Γ M a (sD X.K (f x))) (hb : DE T X Γ M b (sD X.K (f y))) : DE T X Γ M (.Compare a [.NotEq] [b] pos) (sD X.K (.bool (!decide (x = y)))) := (de_neD hu (hf.shaped hn x) (hf.shaped hn y) ha hb).is (by rw [hf.eqv])
theorem dt_neE (hf : EncOk f n) (hn : n ≤ 64) (hu : X.A.units + 64 < cLine) (ha : DE T X Γ M a (sD X.K (f x))) (hb : DE T X Γ M b (sD X.K (f y))) : DT T X Γ M (.Compare a [.NotEq] [b] pos) (!decide (x = y)) := (dt_neD hu (hf.shaped hn x) (hf.shaped hn y) ha hb).is (by rw [hf.eqv])
end
/-- is None -/
theorem dt_isN {d : PyData} (ha : DE T X Γ M a (sD X.K d)) (hb : DE T X Γ M b (sD X.K .none)) : DT T X Γ M (.Compare a [.Is] [b] pos) (isNone d) := dt_cmp op_isN (nomark _) (rd_isN sD_none) ha hb
theorem dt_notN {d : PyData} (ha : DE T X Γ M a (sD X.K d)) (hb : DE T X Γ M b (sD X.K .none)) : DT T X Γ M (.Compare a [.IsNot] [b] pos) (!isNone d) := dt_cmp op_notN (nomark _) (rd_notN sD_none) ha hb
theorem de_isN {d : PyData} (ha : DE T X Γ M a (sD X.K d)) (hb : DE T X Γ M b (sD X.K .none)) : DE T X Γ M (.Compare a [.Is] [b] pos) (sD X.K (.bool (isNone d))) := de_cmp op_isN (nomark _) (rd_isN sD_none) ha hb
theorem de_notN {d : PyData} (ha : DE T X Γ M a (sD X.K d)) (hb : DE T X Γ M b (sD X.K .none)) : DE T X Γ M (.Compare a [.IsNot] [b] pos) (sD X.K (.bool (!isNone d))) := de_cmp op_notN (nomark _) (rd_notN sD_none) ha hb
/-- a built-in's call -/
theorem de_callB {r : List V → Hp → VK → Prop} {x : Str} {id : String} (hc : CallR X (.builtin id) r) (hr : RDC T r Ss S) (hm : X.mg x = none) (hv : bootBuiltins x = some (.builtin id)) (ha : DA T X Γ M (e :: es) Ss) (hg : Gl X x := by rfl) (hn : x ≠ "__name__" := by decide) (hdb : (x == ("__debug__" : Str)) = false := by decide)
    (he : starEach (e :: es) X.env = (false, eval e X.env) :: starEach es X.env := by rfl) (hpl : (backTo pos (starEach es X.env)).any (·.1) = false := by rfl) : DE T X Γ M (.Call (.Name x p) (e :: es) [] pos) S := fun σ I H Q s w k =>
  we_of (pe_callB hc hg hm hv pa_wa hn hdb he hpl) (ha σ I H _ s w fun vs I1 H1 g1 p1 => hr vs I1 H1 Q g1.wd p1 fun v I2 H2 g2 p2 => k v I2 H2 (g1.trans g2) p2)
theorem de_callTy {r : List V → Hp → VK → Prop} {x : Str} {id : String} (hc : CallR X (.type id) r) (hr : RDC T r Ss S) (hm : X.mg x = none) (hv : bootBuiltins x = some (.type id)) (ha : DA T X Γ M (e :: es) Ss) (hg : Gl X x := by rfl) (hn : x ≠ "__name__" := by decide) (hdb : (x == ("__debug__" : Str)) = false := by decide)
    (he : starEach (e :: es) X.env = (false, eval e X.env) :: starEach es X.env := by rfl) (hpl : (backTo pos (starEach es X.env)).any (·.1) = false := by rfl) : DE T X Γ M (.Call (.Name x p) (e :: es) [] pos) S := fun σ I H Q s w k =>
  we_of (pe_callTy hc hg hm hv pa_wa hn hdb he hpl) (ha σ I H _ s w fun vs I1 H1 g1 p1 => hr vs I1 H1 Q g1.wd p1 fun v I2 H2 g2 p2 => k v I2 H2 (g1.trans g2) p2)
theorem allV1 {S : SV} {vs : List V} {I : Hp} (h : AllV [S] vs I) : ∃ v, vs = [v] ∧ S.p v I := by
  cases h with
  | cons r t => cases t; exact ⟨_, rfl, r⟩
theorem allV2 {S S' : SV} {vs : List V} {I : Hp} (h : AllV [S, S'] vs I) : ∃ v v', vs = [v, v'] ∧ S.p v I ∧ S'.p v' I := by
  cases h with
  | cons r t =>
    cases t with
    | cons r' t' => cases t'; exact ⟨_, _, rfl, r, r'⟩
/-- one argument given -/
theorem da_one (h : DE T X Γ M e S) (hs : starEach (e :: []) X.env = (false, eval e X.env) :: starEach [] X.env := by rfl) : DA T X Γ M [e] [S] := da_cons h da_nil hs
/-- a list or a tuple of these -/
def sSeq (K : PySem.W.Frag) (Ss : List SV) : SV := ⟨fun v I => ∃ a vs, v = .ref a ∧ (SqL K I a vs ∨ SqT K I a vs) ∧ AllV Ss vs I, fun e ⟨a, vs, h1, h2, h3⟩ => ⟨a, vs, h1, h2.elim (fun z => .inl (e.l z)) (fun z => .inr (e.t z)), h3.mono e⟩⟩
theorem sLst_seq {K : PySem.W.Frag} {v : V} {I : Hp} (h : (sLst K Ss).p v I) : (sSeq K Ss).p v I := let ⟨a, vs, h1, h2, h3⟩ := h; ⟨a, vs, h1, .inl h2, h3⟩
theorem sTup_seq {K : PySem.W.Frag} {v : V} {I : Hp} (h : (sTup K Ss).p v I) : (sSeq K Ss).p v I := let ⟨a, vs, h1, h2, h3⟩ := h; ⟨a, vs, h1, .inr h2, h3⟩
theorem sL_seq {K : PySem.W.Frag} {v : V} {I : Hp} {ds : List PyData} (h : (sD K (.list ds)).p v I) : (sSeq K (ds.map (sD K))).p v I := sLst_seq (sD_lst.mp h)
theorem sT_seq {K : PySem.W.Frag} {v : V} {I : Hp} {ds : List PyData} (h : (sD K (.tuple ds)).p v I) : (sSeq K (ds.map (sD K))).p v I := sTup_seq (sD_tup.mp h)
/-- data that is a list or a tuple of these -/
def sSD (K : PySem.W.Frag) (ds : List PyData) : SV := ⟨fun v I => (sD K (.list ds)).p v I ∨ (sD K (.tuple ds)).p v I, fun e h => h.elim (fun z => .inl (SV.mono _ e z)) (fun z => .inr (SV.mono _ e z))⟩
theorem sSD_seq {K : PySem.W.Frag} {v : V} {I : Hp} {ds : List PyData} (h : (sSD K ds).p v I) : (sSeq K (ds.map (sD K))).p v I := h.elim sL_seq sT_seq
theorem de_lenS (hm : X.mg "len" = none) (ha : DE T X Γ M e (sSeq X.K Ss)) (hg : Gl X "len" := by rfl) (he : starEach [e] X.env = (false, eval e X.env) :: starEach [] X.env := by rfl) (hpl : (backTo pos (starEach [] X.env)).any (·.1) = false := by rfl) : DE T X Γ M (.Call (.Name "len" p) [e] [] pos) (sD X.K (eN Ss.length)) :=
  de_callB call_len_seq (S := sD X.K (eN Ss.length)) (Ss := [sSeq X.K Ss]) (fun vs I H Q w h k => by
    obtain ⟨v, rfl, a, ys, rfl, h2, h3⟩ := allV1 h
    refine ⟨a, ys, rfl, h2.elim (fun z => .inl (w.sub.l z)) (fun z => .inr (w.sub.t z)), ?_⟩
    rw [← h3.length]
    exact k _ I H (Gr.refl w) (.int _)) hm boot_len (da_one ha he) hg (by decide) (by decide) he hpl
theorem de_lenT {ds : List PyData} (hm : X.mg "len" = none) (ha : DE T X Γ M e (sD X.K (.tuple ds))) (hg : Gl X "len" := by rfl) (he : starEach [e] X.env = (false, eval e X.env) :: starEach [] X.env := by rfl) (hpl : (backTo pos (starEach [] X.env)).any (·.1) = false := by rfl) : DE T X Γ M (.Call (.Name "len" p) [e] [] pos) (sD X.K (eN ds.length)) :=
  (de_lenS hm (ha.imp fun v I => sT_seq) hg he hpl).is (by rw [List.length_map])
theorem de_lenL {ds : List PyData} (hm : X.mg "len" = none) (ha : DE T X Γ M e (sD X.K (.list ds))) (hg : Gl X "len" := by rfl) (he : starEach [e] X.env = (false, eval e X.env) :: starEach [] X.env := by rfl) (hpl : (backTo pos (starEach [] X.env)).any (·.1) = false := by rfl) : DE T X Γ M (.Call (.Name "len" p) [e] [] pos) (sD X.K (eN ds.length)) :=
  (de_lenS hm (ha.imp fun v I => sL_seq) hg he hpl).is (by rw [List.length_map])
theorem de_lenSD {ds : List PyData} (hm : X.mg "len" = none) (ha : DE T X Γ M e (sSD X.K ds)) (hg : Gl X "len" := by rfl) (he : starEach [e] X.env = (false, eval e X.env) :: starEach [] X.env := by rfl) (hpl : (backTo pos (starEach [] X.env)).any (·.1) = false := by rfl) : DE T X Γ M (.Call (.Name "len" p) [e] [] pos) (sD X.K (eN ds.length)) :=
  (de_lenS hm (ha.imp fun v I => sSD_seq) hg he hpl).is (by rw [List.length_map])
/-- tuple(xs), list(xs) -/
theorem de_tupleS (hm : X.mg "tuple" = none) (ha : DE T X Γ M e (sSeq X.K Ss)) (hg : Gl X "tuple" := by rfl) (he : starEach [e] X.env = (false, eval e X.env) :: starEach [] X.env := by rfl) (hpl : (backTo pos (starEach [] X.env)).any (·.1) = false := by rfl) : DE T X Γ M (.Call (.Name "tuple" p) [e] [] pos) (sTup X.K Ss) :=
  de_callTy call_tuple_of (Ss := [sSeq X.K Ss]) (fun vs I H Q w h k => by
    obtain ⟨v, rfl, a, ys, rfl, h2, h3⟩ := allV1 h
    rcases h2 with h2 | h2
    · exact ⟨a, ys, rfl, .inl ⟨w.sub.l h2, fun l hl => k _ _ _ (Gr.new w hl nt_t) ⟨l, ys, rfl, .inl (.inl upd_same), h3.mono (Xt.new (w.free hl))⟩⟩⟩
    · exact ⟨a, ys, rfl, .inr ⟨w.sub.t h2, k _ I H (Gr.refl w) ⟨a, ys, rfl, h2, h3⟩⟩⟩) hm (by decide +kernel) (da_one ha he) hg (by decide) (by decide) he hpl
theorem de_listS (hm : X.mg "list" = none) (ha : DE T X Γ M e (sSeq X.K Ss)) (hg : Gl X "list" := by rfl) (he : starEach [e] X.env = (false, eval e X.env) :: starEach [] X.env := by rfl) (hpl : (backTo pos (starEach [] X.env)).any (·.1) = false := by rfl) : DE T X Γ M (.Call (.Name "list" p) [e] [] pos) (sLst X.K Ss) :=
  de_callTy call_list_of (Ss := [sSeq X.K Ss]) (fun vs I H Q w h k => by
    obtain ⟨v, rfl, a, ys, rfl, h2, h3⟩ := allV1 h
    exact ⟨a, ys, rfl, h2.elim (fun z => .inl (w.sub.l z)) (fun z => .inr (w.sub.t z)), fun l hl => k _ _ _ (Gr.new w hl nt_l) ⟨l, ys, rfl, .inl (.inl upd_same), h3.mono (Xt.new (w.free hl))⟩⟩) hm (by decide +kernel) (da_one ha he) hg (by decide) (by decide) he hpl
theorem de_tupleD {ds : List PyData} (hm : X.mg "tuple" = none) (ha : DE T X Γ M e (sSD X.K ds)) (hg : Gl X "tuple" := by rfl) (he : starEach [e] X.env = (false, eval e X.env) :: starEach [] X.env := by rfl) (hpl : (backTo pos (starEach [] X.env)).any (·.1) = false := by rfl) : DE T X Γ M (.Call (.Name "tuple" p) [e] [] pos) (sD X.K (.tuple ds)) :=
  (de_tupleS hm (ha.imp fun v I => sSD_seq) hg he hpl).imp fun v I => sD_tup.mpr
theorem de_listD {ds : List PyData} (hm : X.mg "list" = none) (ha : DE T X Γ M e (sSD X.K ds)) (hg : Gl X "list" := by rfl) (he : starEach [e] X.env = (false, eval e X.env) :: starEach [] X.env := by rfl) (hpl : (backTo pos (starEach [] X.env)).any (·.1) = false := by rfl) : DE T X Γ M (.Call (.Name "list" p) [e] [] pos) (sD X.K (.list ds)) :=
  (de_listS hm (ha.imp fun v I => sSD_seq) hg he hpl).imp fun v I => sD_lst.mpr
theorem DE.sl {ds : List PyData} (h : DE T X Γ M e (sD X.K (.list ds))) : DE T X Γ M e (sSD X.K ds) := h.imp fun _ _ z => .inl z
theorem DE.st {ds : List PyData} (h : DE T X Γ M e (sD X.K (.tuple ds))) : DE T X Γ M e (sSD X.K ds) := h.imp fun _ _ z => .inr z
/-- data displays -/
def DAD (T : Tb) (X : Cx) (Γ : Ct) (M : Mt) (es : List Expr) (ds : List PyData) : Prop := DA T X Γ M es (ds.map (sD X.K))
theorem dad_nil : DAD T X Γ M [] [] := da_nil
theorem dad_cons {d : PyData} {ds : List PyData} (ha : DE T X Γ M e (sD X.K d)) (hr : DAD T X Γ M es ds) (hs : starEach (e :: es) X.env = (false, eval e X.env) :: starEach es X.env := by rfl) : DAD T X Γ M (e :: es) (d :: ds) := da_cons ha hr hs
theorem de_tupD {ds : List PyData} {j : Nat} (h : DAD T X Γ M es ds) (hl : ds.length ≤ 1000) : DE T X Γ M (.Tuple es j pos) (sD X.K (.tuple ds)) := (de_tup h (by rw [List.length_map]; exact hl)).imp fun v I => sD_tup.mpr
theorem de_lstD {ds : List PyData} (h : DAD T X Γ M es ds) (hl : ds.length ≤ 1000) : DE T X Γ M (.List es pos) (sD X.K (.list ds)) := (de_lst (j := 0) h (by rw [List.length_map]; exact hl)).imp fun v I => sD_lst.mpr
/-- abs, int, max, min -/
theorem de_abs {i : Int} (hm : X.mg "abs" = none) (ha : DE T X Γ M e (sD X.K (.int i))) (hg : Gl X "abs" := by rfl) (he : starEach [e] X.env = (false, eval e X.env) :: starEach [] X.env := by rfl) (hpl : (backTo pos (starEach [] X.env)).any (·.1) = false := by rfl) : DE T X Γ M (.Call (.Name "abs" p) [e] [] pos) (sD X.K (.int (if i < 0 then -i else i))) :=
  de_callB call_abs (Ss := [sD X.K (.int i)]) (fun vs I H Q w h k => by
    obtain ⟨v, rfl, hq⟩ := allV1 h
    rw [dp_int hq]
    exact ⟨i, rfl, k _ I H (Gr.refl w) (.int _)⟩) hm (by decide +kernel) (da_one ha he) hg (by decide) (by decide) he hpl
theorem de_int1 {i : Int} (hm : X.mg "int" = none) (ha : DE T X Γ M e (sD X.K (.int i))) (hg : Gl X "int" := by rfl) (he : starEach [e] X.env = (false, eval e X.env) :: starEach [] X.env := by rfl) (hpl : (backTo pos (starEach [] X.env)).any (·.1) = false := by rfl) : DE T X Γ M (.Call (.Name "int" p) [e] [] pos) (sD X.K (.int i)) :=
  de_callTy call_int1 (Ss := [sD X.K (.int i)]) (fun vs I H Q w h k => by
    obtain ⟨v, rfl, hq⟩ := allV1 h
    rw [dp_int hq]
    exact .inl ⟨i, rfl, k _ I H (Gr.refl w) (.int _)⟩) hm (by decide +kernel) (da_one ha he) hg (by decide) (by decide) he hpl
theorem de_max2 {i j : Int} {e2 : Expr} (hc : X.calm = true) (hm : X.mg "max" = none) (ha : DE T X Γ M e (sD X.K (.int i))) (hb : DE T X Γ M e2 (sD X.K (.int j))) (hg : Gl X "max" := by rfl) (he : starEach [e, e2] X.env = (false, eval e X.env) :: starEach [e2] X.env := by rfl) (he2 : starEach [e2] X.env = (false, eval e2 X.env) :: starEach [] X.env := by rfl) (hpl : (backTo pos (starEach [e2] X.env)).any (·.1) = false := by rfl) :
    DE T X Γ M (.Call (.Name "max" p) [e, e2] [] pos) (sD X.K (.int (if j > i then j else i))) :=
  de_callB (call_max2 hc) (Ss := [sD X.K (.int i), sD X.K (.int j)]) (fun vs I H Q w h k => by
    obtain ⟨v, v', rfl, hq, hq'⟩ := allV2 h
    rw [dp_int hq, dp_int hq']
    exact ⟨i, j, rfl, k _ I H (Gr.refl w) (.int _)⟩) hm (by decide +kernel) (da_cons ha (da_one hb he2) he) hg (by decide) (by decide) he hpl
theorem de_min2 {i j : Int} {e2 : Expr} (hc : X.calm = true) (hm : X.mg "min" = none) (ha : DE T X Γ M e (sD X.K (.int i))) (hb : DE T X Γ M e2 (sD X.K (.int j))) (hg : Gl X "min" := by rfl) (he : starEach [e, e2] X.env = (false, eval e X.env) :: starEach [e2] X.env := by rfl) (he2 : starEach [e2] X.env = (false, eval e2 X.env) :: starEach [] X.env := by rfl) (hpl : (backTo pos (starEach [e2] X.env)).any (·.1) = false := by rfl) :
    DE T X Γ M (.Call (.Name "min" p) [e, e2] [] pos) (sD X.K (.int (if j < i then j else i))) :=
  de_callB (call_min2 hc) (Ss := [sD X.K (.int i), sD X.K (.int j)]) (fun vs I H Q w h k => by
    obtain ⟨v, v', rfl, hq, hq'⟩ := allV2 h
    rw [dp_int hq, dp_int hq']
    exact ⟨i, j, rfl, k _ I H (Gr.refl w) (.int _)⟩) hm (by decide +kernel) (da_cons ha (da_one hb he2) he) hg (by decide) (by decide) he hpl
end
end Rm
set_option Elab.async false
set_option linter.all false
set_option maxRecDepth 100000
set_option maxHeartbeats 4000000
/-! The D-layer, part 3: walks, comprehensions. -/
namespace Rm
open PySem PySem.Spec PyProof.Rows L2 LamX

section
variable {T : Tb} {P : List Addr} {I H I1 H1 : Hp}
/-- no thing of H -/
def Fz (H : Hp) (p : Addr) : Prop := ∀ o, H p = some o → ¬ NT o
theorem Fz.of {p : Addr} (h : H p = none) : Fz H p := fun o e => by
  rw [h] at e
  cases e
theorem Fz.ne {p a : Addr} {o : HO} (z : Fz H p) (h : H a = some o) (n : NT o) : a ≠ p := fun e => z o (by rw [← e]; exact h) n
theorem Gr.fz (g : Gr T P I H I1 H1) {p : Addr} (h : Fz H1 p) : Fz H p := fun o e n => let ⟨o', e', n', _⟩ := g.there p o e n; h o' e' n'
/-- a thing made since (I, H) changes -/
theorem Gr.mutF (g : Gr T P I H I1 H1) {p : Addr} {o o' : HO} (h : H1 p = some o) (n : MO o) (n' : MO o') (h0 : Fz H p) (h1 : I1 p = none) : Gr T P I H I1 (upd H1 p o') := by
  have m := Gr.mut (P := [p]) g.wd h n n' h1 List.mem_cons_self
  refine ⟨m.wd, g.sub, fun a u e nu q => ?_, fun a u e nu => ?_, g.fr⟩
  · rw [upd_ne (h0.ne e nu)]
    exact g.keep a u e nu q
  · obtain ⟨u', e', n2⟩ := g.there a u e nu
    exact ⟨u', by rw [upd_ne (h0.ne e nu)]; exact e', n2⟩
/-- a thing made since (I, H) changes no more -/
theorem Gr.freeze (g : Gr T P I H I1 H1) {p : Addr} {o : HO} (h : H1 p = some o) (n : NT o) (h0 : Fz H p) (h1 : I1 p = none) : Gr T P I H (upd I1 p o) H1 := by
  refine ⟨⟨fun a u e => ?_, fun a u e => ?_, g.wd.tabs⟩, g.sub.trans (Xt.new h1), g.keep, g.there, fun a u z e nu => ?_⟩
  · by_cases q : a = p
    · subst q
      rw [upd_same] at e
      rw [h]
      exact e
    · rw [upd_ne q] at e
      exact g.wd.sub a u e
  · by_cases q : a = p
    · subst q
      rw [upd_same] at e
      cases e
      exact n
    · rw [upd_ne q] at e
      exact g.wd.nt a u e
  · rw [upd_ne (h0.ne e nu.nt)]
    exact g.fr a u z e nu
end

/-! ### walks -/
def ItOk (T : Tb) (J : It) (Ss : List SV) (I0 : Hp) : Prop :=
  ∀ (i : Nat) (I H : Hp), Xt I0 I → Wd T I H → (Ss.length ≤ i → J.stop i H) ∧ ∀ S, Ss[i]? = some S → J.go i H ∧ ∀ x H', J.yld i H x H' → ∃ I', Gr T [] I H I' H' ∧ S.p x I'
def WI (X : Cx) (tg iter : Expr) : TI := fun σ H R => ∀ (pins : List (Addr × Obj)) (s : Shared), Inv X pins σ H s →
  wpAny (model X.prog X.w) X.A (eval iter X.env) (fun v s1 => wpAny (model X.prog X.w) X.A (pyIter v) (PIE X pins σ tg R) X.xe s1) X.xe s
theorem pi_wi {X : Cx} {tg iter : Expr} : PI X tg iter (WI X tg iter) := ⟨fun pins s _ _ _ I h => h pins s I⟩
theorem wi_of {X : Cx} {tg iter : Expr} {t : TI} {σ : L2.St} {H : Hp} {R : It → Hp → Prop} (h : PI X tg iter t) (q : t σ H R) : WI X tg iter σ H R := fun pins s I => h.run pins s σ H R I q
def DI (T : Tb) (X : Cx) (Γ : Ct) (M : Mt) (tg iter : Expr) (Ss : List SV) : Prop :=
  ∀ (σ : L2.St) (I H : Hp) (R : It → Hp → Prop), Sl Γ M σ I H → Wd T I H → (∀ J I' H', Gr T [] I H I' H' → ItOk T J Ss I' → R J H') → WI X tg iter σ H R
theorem itl_ok {T : Tb} {K : PySem.W.Frag} {a : Addr} {vs : List V} {Ss : List SV} {I0 : Hp} (h : SqL K I0 a vs) (hv : AllV Ss vs I0) : ItOk T (Itl K a) Ss I0 := fun i I H e w => by
  have hq : SqL K H a vs := w.sub.l (e.l h)
  refine ⟨fun hi => ⟨vs, hq, by rw [← hv.length]; exact hi⟩, fun S hS => ?_⟩
  obtain ⟨v, h1, h2⟩ := hv.get hS
  refine ⟨⟨vs, v, hq, h1⟩, fun x H' y => ?_⟩
  obtain ⟨e1, e2⟩ := y
  subst e1
  have e3 := e2 vs hq
  rw [h1] at e3
  cases e3
  exact ⟨I, Gr.refl w, S.mono e h2⟩
theorem itt_ok {T : Tb} {K : PySem.W.Frag} {a : Addr} {vs : List V} {Ss : List SV} {I0 : Hp} (h : SqT K I0 a vs) (hv : AllV Ss vs I0) : ItOk T (Itt K a) Ss I0 := fun i I H e w => by
  have hq : SqT K H a vs := w.sub.t (e.t h)
  refine ⟨fun hi => ⟨vs, hq, by rw [← hv.length]; exact hi⟩, fun S hS => ?_⟩
  obtain ⟨v, h1, h2⟩ := hv.get hS
  refine ⟨⟨vs, v, hq, h1⟩, fun x H' y => ?_⟩
  obtain ⟨e1, e2⟩ := y
  subst e1
  have e3 := e2 vs hq
  rw [h1] at e3
  cases e3
  exact ⟨I, Gr.refl w, S.mono e h2⟩
def iSeq (K : PySem.W.Frag) (tl : TE) : TI := fun σ H R => tl σ H fun x H1 => ∃ a, x = .ref a ∧ (((∃ xs, SqL K H1 a xs) ∧ R (Itl K a) H1) ∨ ((∃ xs, SqT K H1 a xs) ∧ R (Itt K a) H1))
theorem pi_seq {X : Cx} {tg l : Expr} {tl : TE} (hl : PE X l tl) : PI X tg l (iSeq X.K tl) := by
  refine ⟨fun pins s σ H R I h => ?_⟩
  refine thn (hl.run pins s σ H _ I h) fun v s1 ⟨x, H1, I1, r1, q1⟩ => ?_
  obtain ⟨a, e, q⟩ := q1
  subst e
  cases r1
  rcases q with ⟨⟨xs, hq⟩, q⟩ | ⟨⟨xs, hq⟩, q⟩
  · obtain ⟨its, rv, p, hz⟩ := I1.list hq
    refine wpAny_pyIter_list p.isList ?_
    refine ⟨s1.heap.objs.size, [s1.heap.objs.size], _, _, H1, rfl, I1.kept (t' := s1.toks) fun b o e => Heap.get?_push_of_some _ e, turn_list a _, ⟨_, Heap.get?_push_size _ rfl, rfl, rfl⟩, fun b hb => ?_, q⟩
    have e : b = s1.heap.objs.size := by simpa using hb
    subst e
    exact I1.fpOk (Nat.le_refl _) (I1.hok.fresh (Nat.le_refl _))
  · obtain ⟨its, rv, p, hz⟩ := I1.tuple hq
    refine wpAny_pyIter_tuple (show s1.heap.IsTuple a its.toArray from p) ?_
    refine ⟨s1.heap.objs.size, [s1.heap.objs.size], _, _, H1, rfl, I1.kept (t' := s1.toks) fun b o e => Heap.get?_push_of_some _ e, turn_tuple a _, ⟨_, Heap.get?_push_size _ rfl, rfl, rfl⟩, fun b hb => ?_, q⟩
    have e : b = s1.heap.objs.size := by simpa using hb
    subst e
    exact I1.fpOk (Nat.le_refl _) (I1.hok.fresh (Nat.le_refl _))
section
variable {T : Tb} {X : Cx} {Γ : Ct} {M : Mt} {tg a b e iter : Expr} {es : List Expr} {S Sa Sb : SV} {Ss : List SV} {pos p : Pos}
theorem di_seq (h : DE T X Γ M e (sSeq X.K Ss)) : DI T X Γ M tg e Ss := fun σ I H R s w k => wi_of (pi_seq pe_we) (h σ I H _ s w fun v I1 H1 g1 ⟨a, vs, e, h1, h2⟩ => ⟨a, e, by
  rcases h1 with h1 | h1
  · exact .inl ⟨⟨vs, g1.wd.sub.l h1⟩, k _ I1 H1 g1 (itl_ok h1 h2)⟩
  · exact .inr ⟨⟨vs, g1.wd.sub.t h1⟩, k _ I1 H1 g1 (itt_ok h1 h2)⟩⟩)
theorem di_L {ds : List PyData} (h : DE T X Γ M e (sD X.K (.list ds))) : DI T X Γ M tg e (ds.map (sD X.K)) := di_seq (h.imp fun _ _ => sL_seq)
theorem di_T {ds : List PyData} (h : DE T X Γ M e (sD X.K (.tuple ds))) : DI T X Γ M tg e (ds.map (sD X.K)) := di_seq (h.imp fun _ _ => sT_seq)
theorem di_SD {ds : List PyData} (h : DE T X Γ M e (sSD X.K ds)) : DI T X Γ M tg e (ds.map (sD X.K)) := di_seq (h.imp fun _ _ => sSD_seq)
theorem di_Lf {α : Type} {f : α → PyData} {xs : List α} (h : DE T X Γ M e (sD X.K (eL f xs))) : DI T X Γ M tg e (xs.map fun a => sD X.K (f a)) := by
  have q := di_L (tg := tg) h
  rw [List.map_map] at q
  exact q
theorem di_Tf {α : Type} {f : α → PyData} {xs : List α} (h : DE T X Γ M e (sD X.K (eT f xs))) : DI T X Γ M tg e (xs.map fun a => sD X.K (f a)) := by
  have q := di_T (tg := tg) h
  rw [List.map_map] at q
  exact q
theorem di_SDf {α : Type} {f : α → PyData} {xs : List α} (h : DE T X Γ M e (sSD X.K (xs.map f))) : DI T X Γ M tg e (xs.map fun a => sD X.K (f a)) := by
  have q := di_SD (tg := tg) h
  rw [List.map_map] at q
  exact q
theorem itr_ok {K : PySem.W.Frag} {lo : Int} {n : Nat} {I0 : Hp} : ItOk T (Itr lo n) ((List.range n).map fun (i : Nat) => sD K (.int (lo + (i : Int)))) I0 := fun i I H e w => by
  refine ⟨fun hi => by rw [List.length_map, List.length_range] at hi; exact hi, fun S hS => ?_⟩
  have hl : i < n := by
    have := (List.getElem?_eq_some_iff.mp hS).1
    rwa [List.length_map, List.length_range] at this
  rw [List.getElem?_map, List.getElem?_range hl] at hS
  cases hS
  refine ⟨hl, fun x H' y => ?_⟩
  obtain ⟨e1, e2⟩ := y
  subst e1
  exact ⟨I, Gr.refl w, by rw [e2]; exact .int _⟩
theorem di_range1 {n : Nat} (hm : X.mg "range" = none) (h : DE T X Γ M a (sD X.K (eN n))) (hn : n ≤ 100000) (hg : Gl X "range" := by rfl) (hs : starEach [a] X.env = [(false, eval a X.env)] := by rfl) (he : starEach [a] X.env = (false, eval a X.env) :: starEach [] X.env := by rfl) :
    DI T X Γ M tg (.Call (.Name "range" p) [a] [] pos) ((List.range n).map fun (i : Nat) => sD X.K (eN i)) := fun σ I H R s w k =>
  wi_of (pi_range1 hg hm pa_wa hs) (da_one h he σ I H _ s w fun vs I1 H1 g1 p1 => by
    obtain ⟨v, rfl, hq⟩ := allV1 p1
    rw [dp_int hq]
    refine ⟨n, rfl, by omega, by omega, k _ I1 H1 g1 ?_⟩
    have q := itr_ok (T := T) (K := X.K) (lo := 0) (n := n) (I0 := I1)
    have e1 : ((n : Int)).toNat = n := by omega
    rw [e1]
    refine Eq.mp (congrArg (fun z => ItOk T (Itr 0 n) z I1) (List.map_congr_left fun i _ => ?_)) q
    show sD X.K (.int (0 + (i : Int))) = sD X.K (.int (i : Int))
    rw [Int.zero_add])
theorem di_range2 {m n : Nat} (hm : X.mg "range" = none) (h : DE T X Γ M a (sD X.K (eN m))) (h' : DE T X Γ M b (sD X.K (eN n))) (hn : n ≤ 100000) (hn' : m ≤ 100000) (hg : Gl X "range" := by rfl) (hs : starEach [a, b] X.env = [(false, eval a X.env), (false, eval b X.env)] := by rfl) (hs2 : starEach [b] X.env = [(false, eval b X.env)] := by rfl)
    (he : starEach [a, b] X.env = (false, eval a X.env) :: starEach [b] X.env := by rfl) (he2 : starEach [b] X.env = (false, eval b X.env) :: starEach [] X.env := by rfl) :
    DI T X Γ M tg (.Call (.Name "range" p) [a, b] [] pos) ((List.range (n - m)).map fun (i : Nat) => sD X.K (eN (m + i))) := fun σ I H R s w k =>
  wi_of (pi_range2 hg hm pa_wa hs hs2) (da_cons h (da_one h' he2) he σ I H _ s w fun vs I1 H1 g1 p1 => by
    obtain ⟨v, v', rfl, hq, hq'⟩ := allV2 p1
    rw [dp_int hq, dp_int hq']
    refine ⟨m, n, rfl, ⟨by omega, by omega, by omega, by omega⟩, k _ I1 H1 g1 ?_⟩
    have q := itr_ok (T := T) (K := X.K) (lo := m) (n := n - m) (I0 := I1)
    have e1 : ((n : Int) - (m : Int)).toNat = n - m := by omega
    rw [e1]
    refine Eq.mp (congrArg (fun z => ItOk T (Itr m (n - m)) z I1) (List.map_congr_left fun i _ => ?_)) q
    show sD X.K (.int ((m : Int) + (i : Int))) = sD X.K (.int ((m + i : Nat) : Int))
    rw [Int.natCast_add])
/-- tuple(range(n)), list(range(n)), list(range(m, n)) -/
theorem rgV_nat (m n : Nat) : rgV (m : Int) (n : Int) = (List.range (n - m)).map fun (i : Nat) => V.int ((m + i : Nat) : Int) := by
  unfold rgV
  have e1 : ((n : Int) - (m : Int)).toNat = n - m := by omega
  rw [e1]
  refine List.map_congr_left fun i _ => ?_
  congr 1
theorem allV_ints {K : PySem.W.Frag} {I : Hp} {f : Nat → Int} : ∀ l : List Nat, AllV ((l.map fun i => PyData.int (f i)).map (sD K)) (l.map fun i => V.int (f i)) I
  | [] => .nil
  | i :: l => .cons (Dp.int _) (allV_ints l)
theorem de_tupRange {n : Nat} (hc : X.calm = true) (hm : X.mg "tuple" = none) (hm2 : X.mg "range" = none) (h : DE T X Γ M a (sD X.K (eN n))) (hn : n ≤ 100000) {p2 pos2 : Pos} (hg : Gl X "tuple" := by rfl) (hg2 : Gl X "range" := by rfl) (na : starEach [a] X.env = (false, eval a X.env) :: starEach [] X.env := by rfl)
    (nb : starEach [.Call (.Name "range" p2) [a] [] pos2] X.env = (false, eval (.Call (.Name "range" p2) [a] [] pos2) X.env) :: starEach [] X.env := by rfl) :
    DE T X Γ M (.Call (.Name "tuple" p) [.Call (.Name "range" p2) [a] [] pos2] [] pos) (sD X.K (eT eN (List.range n))) := fun σ I H Q s w k =>
  we_of (pe_tupRg hc hg hm (prg_1 hg2 hm2 pe_we na) nb) (h σ I H _ s w fun v I1 H1 g1 p1 => by
    rw [dp_int p1]
    refine ⟨n, rfl, RgOk.of_le (by omega) (by omega) (by omega) (by omega), fun q hq => k _ _ _ (g1.trans (Gr.new g1.wd hq nt_t)) ?_⟩
    refine sD_tup.mpr ⟨q, _, rfl, .inl (.inl upd_same), ?_⟩
    have e := rgV_nat 0 n
    rw [show ((0 : Nat) : Int) = 0 from rfl, Nat.sub_zero] at e
    rw [e]
    have e2 : (List.range n).map eN = (List.range n).map fun (i : Nat) => PyData.int ((0 + i : Nat) : Int) := List.map_congr_left fun i _ => by rw [Nat.zero_add]
    rw [e2]
    exact allV_ints (f := fun i => ((0 + i : Nat) : Int)) (List.range n))
theorem de_listRange {n : Nat} (hc : X.calm = true) (hm : X.mg "list" = none) (hm2 : X.mg "range" = none) (h : DE T X Γ M a (sD X.K (eN n))) (hn : n ≤ 100000) {p2 pos2 : Pos} (hg : Gl X "list" := by rfl) (hg2 : Gl X "range" := by rfl) (na : starEach [a] X.env = (false, eval a X.env) :: starEach [] X.env := by rfl)
    (nb : starEach [.Call (.Name "range" p2) [a] [] pos2] X.env = (false, eval (.Call (.Name "range" p2) [a] [] pos2) X.env) :: starEach [] X.env := by rfl) :
    DE T X Γ M (.Call (.Name "list" p) [.Call (.Name "range" p2) [a] [] pos2] [] pos) (sD X.K (eL eN (List.range n))) := fun σ I H Q s w k =>
  we_of (pe_listRg hc hg hm (prg_1 hg2 hm2 pe_we na) nb) (h σ I H _ s w fun v I1 H1 g1 p1 => by
    rw [dp_int p1]
    refine ⟨n, rfl, RgOk.of_le (by omega) (by omega) (by omega) (by omega), fun q hq => k _ _ _ (g1.trans (Gr.new g1.wd hq nt_l)) ?_⟩
    refine sD_lst.mpr ⟨q, _, rfl, .inl (.inl upd_same), ?_⟩
    have e := rgV_nat 0 n
    rw [show ((0 : Nat) : Int) = 0 from rfl, Nat.sub_zero] at e
    rw [e]
    have e2 : (List.range n).map eN = (List.range n).map fun (i : Nat) => PyData.int ((0 + i : Nat) : Int) := List.map_congr_left fun i _ => by rw [Nat.zero_add]
    rw [e2]
    exact allV_ints (f := fun i => ((0 + i : Nat) : Int)) (List.range n))
theorem de_listRange2 {m n : Nat} (hc : X.calm = true) (hm : X.mg "list" = none) (hm2 : X.mg "range" = none) (h : DE T X Γ M a (sD X.K (eN m))) (h' : DE T X Γ M b (sD X.K (eN n))) (hn : n ≤ 100000) (hn' : m ≤ 100000) {p2 pos2 : Pos} (hg : Gl X "list" := by rfl) (hg2 : Gl X "range" := by rfl)
    (na : starEach [a, b] X.env = (false, eval a X.env) :: starEach [b] X.env := by rfl) (na2 : starEach [b] X.env = (false, eval b X.env) :: starEach [] X.env := by rfl) (npl : (backTo pos2 (starEach [b] X.env)).any (·.1) = false := by rfl)
    (nb : starEach [.Call (.Name "range" p2) [a, b] [] pos2] X.env = (false, eval (.Call (.Name "range" p2) [a, b] [] pos2) X.env) :: starEach [] X.env := by rfl) :
    DE T X Γ M (.Call (.Name "list" p) [.Call (.Name "range" p2) [a, b] [] pos2] [] pos) (sD X.K (eL eN ((List.range (n - m)).map (m + ·)))) := fun σ I H Q s w k =>
  we_of (pe_listRg hc hg hm (prg_2 hg2 hm2 pe_we pe_we na na2 npl) nb) (h σ I H _ s w fun v I1 H1 g1 p1 => h' σ I1 H1 _ (s.grow0 g1) g1.wd fun v2 I2 H2 g2 p2 => by
    rw [dp_int p1, dp_int p2]
    refine ⟨m, n, rfl, rfl, RgOk.of_le (by omega) (by omega) (by omega) (by omega), fun q hq => k _ _ _ ((g1.trans g2).trans (Gr.new g2.wd hq nt_l)) ?_⟩
    refine sD_lst.mpr ⟨q, _, rfl, .inl (.inl upd_same), ?_⟩
    rw [rgV_nat m n]
    have e2 : ((List.range (n - m)).map (m + ·)).map eN = (List.range (n - m)).map fun (i : Nat) => PyData.int ((m + i : Nat) : Int) := by rw [List.map_map]; rfl
    rw [e2]
    exact allV_ints (f := fun i => ((m + i : Nat) : Int)) (List.range (n - m)))

/-! ### comprehensions -/
theorem lc_read {α : Type} {as : List α} {Si F : α → SV} {c : α → Bool} {j : Nat} {tt : TT} {te : TE} (hI : DI T X Γ M tg iter (as.map Si))
    (htt : ∀ a ∈ as, ∀ (σ : L2.St) (I H : Hp) (Q : Bool → Hp → Prop), Sl (Γ.set j (some (Si a))) M σ I H → Wd T I H → (∀ I' H', Gr T [] I H I' H' → Q (c a) H') → tt σ H Q)
    (hte : ∀ a ∈ as, c a = true → ∀ (σ : L2.St) (I H : Hp) (Q : VK), Sl (Γ.set j (some (Si a))) M σ I H → Wd T I H → (∀ v I' H', Gr T [] I H I' H' → (F a).p v I' → Q v H') → te σ H Q)
    (hl : as.length ≤ 100000) {σ : L2.St} {I H : Hp} {Q : VK} (s : Sl Γ M σ I H) (w : Wd T I H) (k : ∀ v I' H', Gr T [] I H I' H' → (sLst X.K ((as.filter c).map F)).p v I' → Q v H') :
    tLc (WI X tg iter) (gName j) tt te [j] σ H Q := by
  refine hI σ I H _ s w fun J I1 H1 g1 it D hD => ?_
  let Pv : Nat → Hp → Prop := fun i H' => ∃ I' vs, Gr T [] I1 H1 I' H' ∧ I' D = none ∧ H' D = some (.lst vs) ∧ AllV (((as.take i).filter c).map F) vs I' ∧ vs.length ≤ i
  have hD1 : I1 D = none := g1.wd.free hD
  refine ⟨fun i m H' => m = as.length - i ∧ i ≤ as.length ∧ Pv i H', ⟨as.length, by simp, Nat.zero_le _, I1, [], Gr.newM g1.wd hD, hD1, upd_same, .nil, Nat.le_refl _⟩, ?_⟩
  rintro i m H' ⟨rfl, hi, I', vs, g, n', hv, av, lv⟩
  obtain ⟨stop, go⟩ := it i I' H' g.sub g.wd
  by_cases hlt : i < as.length
  · have hS : (as.map Si)[i]? = some (Si as[i]) := by rw [List.getElem?_map, List.getElem?_eq_getElem hlt]; rfl
    obtain ⟨go1, go2⟩ := go _ hS
    refine .inr ⟨go1, Pv (i + 1), fun H2 p2 => ⟨as.length - (i + 1), by omega, rfl, hlt, p2⟩, fun x H2 y => ?_⟩
    obtain ⟨I2, g2, px⟩ := go2 x H2 y
    have hm : as[i] ∈ as := List.getElem_mem hlt
    have eσ : (wipe σ [j]).set j (some x) = σ.set j (some x) := by
      show (σ.set j none).set j (some x) = _
      rw [List.set_set]
    have s2 : Sl (Γ.set j (some (Si as[i]))) M (σ.set j (some x)) I2 H2 := (s.grow0 ((g1.trans g).trans g2)).set px
    show wipe ((wipe σ [j]).set j (some x)) [j] = wipe σ [j] ∧ tt ((wipe σ [j]).set j (some x)) H2 _
    rw [eσ]
    refine ⟨by show (σ.set j (some x)).set j none = σ.set j none; rw [List.set_set], ?_⟩
    refine htt _ hm (σ.set j (some x)) I2 H2 _ s2 g2.wd fun I3 H3 g3 => ?_
    have tk : as.take (i + 1) = as.take i ++ [as[i]] := by rw [List.take_add_one, List.getElem?_eq_getElem hlt]; rfl
    have v3 : H3 D = some (.lst vs) := g3.keep _ _ (g2.keep _ _ hv nt_l (by simp)) nt_l (by simp)
    cases hc : c as[i] with
    | true =>
      show te (σ.set j (some x)) H3 _
      refine hte _ hm hc (σ.set j (some x)) I3 H3 _ (s2.grow0 g3) g3.wd fun v I4 H4 g4 p4 => ?_
      have v4 : H4 D = some (.lst vs) := g4.keep _ _ v3 nt_l (by simp)
      have g14 := ((g.trans g2).trans g3).trans g4
      have n4 : I4 D = none := ((g2.trans g3).trans g4).fr _ _ n' hv trivial
      refine ⟨vs, v4, Nat.lt_of_le_of_lt lv (Nat.lt_of_lt_of_le hlt (Nat.le_trans hl (by decide))), I4, vs ++ [v], g14.mutF v4 trivial trivial (.of hD) n4, n4, upd_same, ?_, by rw [List.length_append]; exact Nat.succ_le_succ lv⟩
      rw [tk, List.filter_append, List.map_append]
      refine AllV.append (av.mono ((g2.sub.trans g3.sub).trans g4.sub)) ?_
      have e : [as[i]].filter c = [as[i]] := by rw [List.filter_cons, if_pos hc]; rfl
      rw [e]
      exact .cons p4 .nil
    | false =>
      show Pv (i + 1) H3
      refine ⟨I3, vs, (g.trans g2).trans g3, (g2.trans g3).fr _ _ n' hv trivial, v3, ?_, Nat.le_succ_of_le lv⟩
      rw [tk, List.filter_append, List.map_append]
      have e : [as[i]].filter c = [] := by rw [List.filter_cons, if_neg (by rw [hc]; decide)]; rfl
      rw [e, List.map_nil, List.append_nil]
      exact av.mono (g2.sub.trans g3.sub)
  · have e : i = as.length := by omega
    subst e
    refine .inl ⟨stop (by rw [List.length_map]; exact Nat.le_refl _), k _ (upd I' D (.lst vs)) H' (g1.trans (g.freeze hv nt_l (.of hD) n')) ⟨D, vs, rfl, .inl (.inl upd_same), ?_⟩⟩
    rw [List.take_length] at av
    exact av.mono (Xt.new n')
/-- the block's contexts -/
abbrev Blk (X : Cx) (scope : Scope) (Y : Cx) : Prop := ∃ (s : Shared) (H : Hp) (C : Addr) (cl : List (Str × Addr)) (fp : List Addr), Y = X.blk s H scope (compEnvC scope cl C X.env) fp
section
variable {α : Type} {as : List α} {Si F : α → SV} {c : α → Bool} {x : Str} {j : Nat} {elt test : Expr} {scope : Scope} {px : Pos}
theorem de_lc0 (hc : X.calm = true) (hN : X.N.Nodup) (hI : DI T X Γ M (.Name x px) iter (as.map Si)) (hl : as.length ≤ 100000) (ok : BlkOk X.N X.env.scope scope [(x, j)])
    (hg : ∀ (s : Shared) (H : Hp) (C : Addr) (cl : List (Str × Addr)) (fp : List Addr), PG (X.blk s H scope (compEnvC scope cl C X.env) fp) (.Name x px) (gName j))
    (he : ∀ a ∈ as, ∀ (s : Shared) (H : Hp) (C : Addr) (cl : List (Str × Addr)) (fp : List Addr), DE T (X.blk s H scope (compEnvC scope cl C X.env) fp) (Γ.set j (some (Si a))) M elt (F a))
    (hs : ∀ x, foldedSetIterable iter X.env x = pure x := by intro _; rfl) : DE T X Γ M (.ListComp elt [⟨.Name x px, iter, [], 0⟩] scope pos) (sLst X.K (as.map F)) := fun σ I H Q s w k =>
  we_of (pe_lc (own := [(x, j)]) (tt := tYes) (te := fun σ H Q => ∀ (s0 : Shared) (H0 : Hp) (C : Addr) (cl : List (Str × Addr)) (fp : List Addr), WE (X.blk s0 H0 scope (compEnvC scope cl C X.env) fp) elt σ H Q) hc hN pi_wi ok hg (fun _ _ _ _ _ => pts_nil)
    (fun s0 H0 C cl fp => ⟨fun pins s σ H Q I h => h s0 H0 C cl fp pins s I⟩) hs)
    (lc_read (c := fun _ => true) (F := F) hI (fun a ha σ I H Q s w k => k I H (Gr.refl w)) (fun a ha _ σ I H Q s w k s0 H0 C cl fp => he a ha s0 H0 C cl fp σ I H Q s w k) hl s w (by
      rw [List.filter_eq_self.mpr (fun _ _ => rfl)]
      exact k))
theorem de_lc1 (hc : X.calm = true) (hN : X.N.Nodup) (hI : DI T X Γ M (.Name x px) iter (as.map Si)) (hl : as.length ≤ 100000) (ok : BlkOk X.N X.env.scope scope [(x, j)])
    (hg : ∀ (s : Shared) (H : Hp) (C : Addr) (cl : List (Str × Addr)) (fp : List Addr), PG (X.blk s H scope (compEnvC scope cl C X.env) fp) (.Name x px) (gName j))
    (ht : ∀ a ∈ as, ∀ (s : Shared) (H : Hp) (C : Addr) (cl : List (Str × Addr)) (fp : List Addr), DT T (X.blk s H scope (compEnvC scope cl C X.env) fp) (Γ.set j (some (Si a))) M test (c a))
    (he : ∀ a ∈ as, c a = true → ∀ (s : Shared) (H : Hp) (C : Addr) (cl : List (Str × Addr)) (fp : List Addr), DE T (X.blk s H scope (compEnvC scope cl C X.env) fp) (Γ.set j (some (Si a))) M elt (F a))
    (hs : ∀ x, foldedSetIterable iter X.env x = pure x := by intro _; rfl) : DE T X Γ M (.ListComp elt [⟨.Name x px, iter, [test], 0⟩] scope pos) (sLst X.K ((as.filter c).map F)) := fun σ I H Q s w k =>
  we_of (pe_lc (own := [(x, j)]) (tt := fun σ H Q => ∀ (s0 : Shared) (H0 : Hp) (C : Addr) (cl : List (Str × Addr)) (fp : List Addr), WT (X.blk s0 H0 scope (compEnvC scope cl C X.env) fp) test σ H Q) (te := fun σ H Q => ∀ (s0 : Shared) (H0 : Hp) (C : Addr) (cl : List (Str × Addr)) (fp : List Addr), WE (X.blk s0 H0 scope (compEnvC scope cl C X.env) fp) elt σ H Q) hc hN pi_wi ok hg
    (fun s0 H0 C cl fp => pts_one ⟨fun pins s σ H Q I h => h s0 H0 C cl fp pins s I⟩) (fun s0 H0 C cl fp => ⟨fun pins s σ H Q I h => h s0 H0 C cl fp pins s I⟩) hs)
    (lc_read (F := F) hI (fun a ha σ I H Q s w k s0 H0 C cl fp => ht a ha s0 H0 C cl fp σ I H Q s w k) (fun a ha hca σ I H Q s w k s0 H0 C cl fp => he a ha hca s0 H0 C cl fp σ I H Q s w k) hl s w k)
end
theorem sL_map {K : PySem.W.Frag} {α : Type} {f : α → PyData} {as : List α} {v : V} {I : Hp} (h : (sLst K (as.map fun a => sD K (f a))).p v I) : (sD K (eL f as)).p v I := by
  refine sD_lst.mpr ?_
  rw [List.map_map]
  exact h
end
end Rm
set_option Elab.async false
set_option linter.all false
set_option maxRecDepth 100000
set_option maxHeartbeats 4000000
/-! The D-layer, part 4: statements. -/
namespace Rm
open PySem PySem.Spec PyProof.Rows L2 LamX

/-- a def's entry: what may change of its arguments, the heaps there; what a loop walks -/
structure Bg where
  T : Tb
  P : List Addr
  I0 : Hp
  H0 : Hp
  An : List Hp
def Bg.anc (B : Bg) (A : Hp) : Bg := ⟨B.T, B.P, B.I0, B.H0, A :: B.An⟩
structure As (B : Bg) (Γ : Ct) (M : Mt) (σ : L2.St) (I H : Hp) : Prop where
  sl : Sl Γ M σ I H
  gr : Gr B.T B.P B.I0 B.H0 I H
  ow : ∀ m ∈ M, Fz B.H0 m.1 ∨ m.1 ∈ B.P
  an : ∀ A ∈ B.An, Xt A I
section
variable {B : Bg} {Γ Γ' : Ct} {M : Mt} {σ : L2.St} {I H I' H' : Hp}
theorem As.wd (h : As B Γ M σ I H) : Wd B.T I H := h.gr.wd
theorem As.grow (h : As B Γ M σ I H) (g : Gr B.T [] I H I' H') : As B Γ M σ I' H' := ⟨h.sl.grow0 g, h.gr.trans g.nil, h.ow, fun A hA => (h.an A hA).trans g.sub⟩
theorem As.weak (h : As B Γ M σ I H) (w : Wk Γ' Γ) : As B Γ' M σ I H := ⟨h.sl.weak w, h.gr, h.ow, h.an⟩
theorem As.set (h : As B Γ M σ I H) {i : Nat} {S : SV} {v : V} (q : S.p v I) : As B (Γ.set i (some S)) M (σ.set i (some v)) I H := ⟨h.sl.set q, h.gr, h.ow, h.an⟩
theorem As.setN (h : As B Γ M σ I H) {i : Nat} {v : Option V} : As B (Γ.set i none) M (σ.set i v) I H := ⟨h.sl.setN, h.gr, h.ow, h.an⟩
theorem As.drop {A : Hp} (h : As (B.anc A) Γ M σ I H) : As B Γ M σ I H := ⟨h.sl, h.gr, h.ow, fun A' hA => h.an A' (List.mem_cons_of_mem _ hA)⟩
theorem As.anc {A : Hp} (h : As B Γ M σ I H) (e : Xt A I) : As (B.anc A) Γ M σ I H := ⟨h.sl, h.gr, h.ow, fun A' hA => by
  rcases List.mem_cons.mp hA with z | z
  · rw [z]; exact e
  · exact h.an A' z⟩
end
def Tr (B : Bg) (X : Cx) (Γ : Ct) (M : Mt) (sts : List Stmt) (D : Ends) : Prop := ∀ (σ : L2.St) (I H : Hp), As B Γ M σ I H → WS X sts D σ H
section
variable {B : Bg} {X : Cx} {Γ Γ' : Ct} {M : Mt} {a b c e iter tg : Expr} {es : List Expr} {S Sa Sb : SV} {Ss : List SV} {pos p px : Pos} {rest body orelse : List Stmt} {D : Ends} {i j n : Nat} {x : Str}
theorem tr_nil (h : ∀ σ I H, As B Γ M σ I H → D.nx σ H) : Tr B X Γ M [] D := fun σ I H s => ws_of pss_nil (h σ I H s)
theorem tr_weak (h : Tr B X Γ' M rest D) (w : Wk Γ' Γ) : Tr B X Γ M rest D := fun σ I H s => h σ I H (s.weak w)
theorem tr_asg (hN : X.N.Nodup) (hi : X.N[i]? = some x) (he : DE B.T X Γ M e S) (h : Tr B X (Γ.set i (some S)) M rest D) (hx : Loc X.env.scope x := by first | exact .inl rfl | exact .inr rfl)
    (hs : swapsWith e (some (.Name x px)) pos.line X.env = pure false := by rfl) (hf : X.fn x = true ∨ X.env.scope.names.lookup x = some .local := by first | exact .inl rfl | exact .inr rfl) : Tr B X Γ M (.Assign [.Name x px] e pos :: rest) D := fun σ I H s =>
  ws_cons (ps_set (i := i) hN hi hx pe_we hs hf) (he σ I H _ s.sl s.wd fun v I' H' g p => h _ I' H' ((s.grow g).set p))
/-- x = [..] on one line, x a local -/
theorem tr_asgLc0 {α : Type} {as : List α} {Si F : α → SV} {y : Str} {py : Pos} {elt : Expr} {scope : Scope} {Sr : SV} (hN : X.N.Nodup) (hi : X.N[i]? = some x) (hc : X.calm = true) (hI : DI B.T X Γ M (.Name y py) iter (as.map Si)) (hl : as.length ≤ 100000) (ok : BlkOk X.N X.env.scope scope [(y, j)])
    (hg : ∀ (s : Shared) (H : Hp) (C : Addr) (cl : List (Str × Addr)) (fp : List Addr), PG (X.blk s H scope (compEnvC scope cl C X.env) fp) (.Name y py) (gName j))
    (he : ∀ a ∈ as, ∀ (s : Shared) (H : Hp) (C : Addr) (cl : List (Str × Addr)) (fp : List Addr), DE B.T (X.blk s H scope (compEnvC scope cl C X.env) fp) (Γ.set j (some (Si a))) M elt (F a))
    (hr : ∀ v I, (sLst X.K (as.map F)).p v I → Sr.p v I) (h : Tr B X (Γ.set i (some Sr)) M rest D)
    (hyl : X.env.scope.names.lookup x = some .local := by rfl) (hsw : swapsWith (.ListComp elt [⟨.Name y py, iter, [], 0⟩] scope p) (some (.Name x px)) pos.line X.env = pure true := by exact sw_true rfl rfl rfl (by decide +kernel))
    (hs : ∀ x, foldedSetIterable iter X.env x = pure x := by intro _; rfl) : Tr B X Γ M (.Assign [.Name x px] (.ListComp elt [⟨.Name y py, iter, [], 0⟩] scope p) pos :: rest) D := fun σ I H s =>
  ws_cons (ps_setLc (i := i) (own := [(y, j)]) (tt := tYes) (te := fun σ H Q => ∀ (s0 : Shared) (H0 : Hp) (C : Addr) (cl : List (Str × Addr)) (fp : List Addr), WE (X.blk s0 H0 scope (compEnvC scope cl C X.env) fp) elt σ H Q) hc hN hi hyl hsw pi_wi ok hg (fun _ _ _ _ _ => pts_nil)
    (fun s0 H0 C cl fp => ⟨fun pins s σ H Q I h => h s0 H0 C cl fp pins s I⟩) hs)
    (lc_read (c := fun _ => true) (F := F) hI (fun a ha σ I H Q s w k => k I H (Gr.refl w)) (fun a ha _ σ I H Q s w k s0 H0 C cl fp => he a ha s0 H0 C cl fp σ I H Q s w k) hl s.sl s.wd (by
      rw [List.filter_eq_self.mpr (fun _ _ => rfl)]
      exact fun v I' H' g p => h _ I' H' ((s.grow g).set (hr v I' p))))
theorem tr_asgLc1 {α : Type} {as : List α} {Si F : α → SV} {ck : α → Bool} {y : Str} {py : Pos} {elt test : Expr} {scope : Scope} {Sr : SV} (hN : X.N.Nodup) (hi : X.N[i]? = some x) (hc : X.calm = true) (hI : DI B.T X Γ M (.Name y py) iter (as.map Si)) (hl : as.length ≤ 100000) (ok : BlkOk X.N X.env.scope scope [(y, j)])
    (hg : ∀ (s : Shared) (H : Hp) (C : Addr) (cl : List (Str × Addr)) (fp : List Addr), PG (X.blk s H scope (compEnvC scope cl C X.env) fp) (.Name y py) (gName j))
    (ht : ∀ a ∈ as, ∀ (s : Shared) (H : Hp) (C : Addr) (cl : List (Str × Addr)) (fp : List Addr), DT B.T (X.blk s H scope (compEnvC scope cl C X.env) fp) (Γ.set j (some (Si a))) M test (ck a))
    (he : ∀ a ∈ as, ck a = true → ∀ (s : Shared) (H : Hp) (C : Addr) (cl : List (Str × Addr)) (fp : List Addr), DE B.T (X.blk s H scope (compEnvC scope cl C X.env) fp) (Γ.set j (some (Si a))) M elt (F a))
    (hr : ∀ v I, (sLst X.K ((as.filter ck).map F)).p v I → Sr.p v I) (h : Tr B X (Γ.set i (some Sr)) M rest D)
    (hyl : X.env.scope.names.lookup x = some .local := by rfl) (hsw : swapsWith (.ListComp elt [⟨.Name y py, iter, [test], 0⟩] scope p) (some (.Name x px)) pos.line X.env = pure true := by exact sw_true rfl rfl rfl (by decide +kernel))
    (hs : ∀ x, foldedSetIterable iter X.env x = pure x := by intro _; rfl) : Tr B X Γ M (.Assign [.Name x px] (.ListComp elt [⟨.Name y py, iter, [test], 0⟩] scope p) pos :: rest) D := fun σ I H s =>
  ws_cons (ps_setLc (i := i) (own := [(y, j)]) (tt := fun σ H Q => ∀ (s0 : Shared) (H0 : Hp) (C : Addr) (cl : List (Str × Addr)) (fp : List Addr), WT (X.blk s0 H0 scope (compEnvC scope cl C X.env) fp) test σ H Q) (te := fun σ H Q => ∀ (s0 : Shared) (H0 : Hp) (C : Addr) (cl : List (Str × Addr)) (fp : List Addr), WE (X.blk s0 H0 scope (compEnvC scope cl C X.env) fp) elt σ H Q) hc hN hi hyl hsw pi_wi ok hg
    (fun s0 H0 C cl fp => pts_one ⟨fun pins s σ H Q I h => h s0 H0 C cl fp pins s I⟩) (fun s0 H0 C cl fp => ⟨fun pins s σ H Q I h => h s0 H0 C cl fp pins s I⟩) hs)
    (lc_read (F := F) hI (fun a ha σ I H Q s w k s0 H0 C cl fp => ht a ha s0 H0 C cl fp σ I H Q s w k) (fun a ha hca σ I H Q s w k s0 H0 C cl fp => he a ha hca s0 H0 C cl fp σ I H Q s w k) hl s.sl s.wd fun v I' H' g p => h _ I' H' ((s.grow g).set (hr v I' p)))
theorem tr_ret (he : DE B.T X Γ M e S) (hr : ∀ v I H, Gr B.T B.P B.I0 B.H0 I H → S.p v I → D.rt v H) : Tr B X Γ M (.Return (some e) pos :: rest) D := fun σ I H s =>
  ws_cons (ps_ret pe_we) (he σ I H _ s.sl s.wd fun v I' H' g p => hr v I' H' (s.grow g).gr p)
theorem tr_expr (he : DE B.T X Γ M e S) (h : Tr B X Γ M rest D) (hs : swapsWith e none pos.line X.env = pure false := by rfl) : Tr B X Γ M (.Expr e pos :: rest) D := fun σ I H s =>
  ws_cons (ps_expr pe_we hs) (he σ I H _ s.sl s.wd fun v I' H' g p => h σ I' H' (s.grow g))
theorem tr_if {k : Bool} (ht : DT B.T X Γ M c k) (h1 : k = true → Tr B X Γ M body { D with nx := WS X rest D }) (h2 : k = false → Tr B X Γ M orelse { D with nx := WS X rest D }) : Tr B X Γ M (.If c body orelse pos :: rest) D := fun σ I H s =>
  ws_cons (ps_if pt_wt ps_ws ps_ws) (ht σ I H _ s.sl s.wd fun I' H' g => by
    cases k with
    | true => exact iteT (h1 rfl σ I' H' (s.grow g))
    | false => exact iteF (h2 rfl σ I' H' (s.grow g)))
/-- without else -/
theorem tr_if1 {k : Bool} (ht : DT B.T X Γ M c k) (h1 : k = true → Tr B X Γ M body { D with nx := WS X rest D }) (h2 : k = false → Tr B X Γ M rest D) : Tr B X Γ M (.If c body [] pos :: rest) D :=
  tr_if ht h1 fun z => tr_nil fun σ I H s => h2 z σ I H s
/-- the test is false -/
theorem tr_skip (ht : DT B.T X Γ M c false) (h : Tr B X Γ M rest D) : Tr B X Γ M (.If c body [] pos :: rest) D := tr_if1 ht (fun z => nomatch z) fun _ => h
/-- a, b = e1, e2: two locals -/
theorem tr_par {y : Str} {py pt : Pos} {kt k2 : Nat} {pt2 : Pos} (hN : X.N.Nodup) (hc : X.calm = true) (hi : X.N[i]? = some x) (hj : X.N[j]? = some y) (hij : i ≠ j) (ha : DE B.T X Γ M a Sa) (hb : DE B.T X Γ M b Sb) (h : Tr B X ((Γ.set i (some Sa)).set j (some Sb)) M rest D)
    (hw : swappedStores [.Tuple [.Name x px, .Name y py] kt pt] (.Tuple [a, b] k2 pt2) X.env = pure (some [x, y]) := by rfl)
    (hx : X.env.scope.names.lookup x = some .local := by rfl) (hy : X.env.scope.names.lookup y = some .local := by rfl) (hs : swapsWithSole [.Tuple [.Name x px, .Name y py] kt pt] (.Tuple [a, b] k2 pt2) pos.line X.env = pure false := by rfl)
    (he : starEach [a, b] X.env = (false, eval a X.env) :: starEach [b] X.env := by rfl) (he2 : starEach [b] X.env = (false, eval b X.env) :: starEach [] X.env := by rfl) : Tr B X Γ M (.Assign [.Tuple [.Name x px, .Name y py] kt pt] (.Tuple [a, b] k2 pt2) pos :: rest) D := fun σ I H s =>
  ws_cons (ps_par hc hN hi hj hij hx hy (pa_cons pe_we (pa_cons pe_we pa_nil he2) he) hw hs) (ha σ I H _ s.sl s.wd fun v I1 H1 g1 p1 => hb σ I1 H1 _ (s.sl.grow0 g1) g1.wd fun v2 I2 H2 g2 p2 => ⟨v, v2, rfl, h _ I2 H2 ((((s.grow g1).grow g2).set (Sa.mono g2.sub p1)).set p2)⟩)
/-- a, b = e: e a tuple -/
theorem tr_unp {y : Str} {py pt : Pos} {kt : Nat} (hN : X.N.Nodup) (hc : X.calm = true) (hi : X.N[i]? = some x) (hj : X.N[j]? = some y) (he : DE B.T X Γ M e (sTup X.K [Sa, Sb])) (h : Tr B X ((Γ.set i (some Sa)).set j (some Sb)) M rest D)
    (hx : Loc X.env.scope x := by first | exact .inl rfl | exact .inr rfl) (hy : Loc X.env.scope y := by first | exact .inl rfl | exact .inr rfl)
    (hf : X.fn x = true ∨ X.env.scope.names.lookup x = some .local := by first | exact .inl rfl | exact .inr rfl) (hf2 : X.fn y = true ∨ X.env.scope.names.lookup y = some .local := by first | exact .inl rfl | exact .inr rfl)
    (hs : swapsWithSole [.Tuple [.Name x px, .Name y py] kt pt] e pos.line X.env = pure false := by rfl) (hw : swappedStores [.Tuple [.Name x px, .Name y py] kt pt] e X.env = pure none := by rfl)
    (h1 : (assignEach [.Tuple [.Name x px, .Name y py] kt pt] X.env).map (·.2) = [assign (.Tuple [.Name x px, .Name y py] kt pt) X.env] := by rfl)
    (hs1 : (assignEach [.Name x px, .Name y py] X.env).map (·.2) = assign (.Name x px) X.env :: (assignEach [.Name y py] X.env).map (·.2) := by rfl) (hs2 : (assignEach [.Name y py] X.env).map (·.2) = assign (.Name y py) X.env :: (assignEach [] X.env).map (·.2) := by rfl)
    (hn : (assignEach [.Name x px, .Name y py] X.env).length = 2 := by rfl) (hst : (assignEach [.Name x px, .Name y py] X.env).findIdx? (·.1) = none := by rfl) : Tr B X Γ M (.Assign [.Tuple [.Name x px, .Name y py] kt pt] e pos :: rest) D := fun σ I H s =>
  ws_cons (ps_asg pe_we (pg_tup hc (pgs_cons (pg_name (i := i) hN hi hx hf) (pgs_cons (pg_name (i := j) hN hj hy hf2) pgs_nil hs2) hs1) hn hst) hs hw h1) (he σ I H _ s.sl s.wd fun v I1 H1 g1 ⟨a, vs, ev, h2, h3⟩ => by
    obtain ⟨u, u', rfl, pu, pu'⟩ := allV2 h3
    exact ⟨a, _, ev, g1.wd.sub.t h2, rfl, u, _, rfl, u', _, rfl, rfl, h _ I1 H1 (((s.grow g1).set pu).set pu')⟩)
/-- three -/
theorem tr_unp3 {y z : Str} {l : Nat} {py pz pt : Pos} {kt : Nat} {Sc : SV} (hN : X.N.Nodup) (hc : X.calm = true) (hi : X.N[i]? = some x) (hj : X.N[j]? = some y) (hl : X.N[l]? = some z) (he : DE B.T X Γ M e (sTup X.K [Sa, Sb, Sc])) (h : Tr B X (((Γ.set i (some Sa)).set j (some Sb)).set l (some Sc)) M rest D)
    (hx : Loc X.env.scope x := by first | exact .inl rfl | exact .inr rfl) (hy : Loc X.env.scope y := by first | exact .inl rfl | exact .inr rfl) (hz : Loc X.env.scope z := by first | exact .inl rfl | exact .inr rfl)
    (hf : X.fn x = true ∨ X.env.scope.names.lookup x = some .local := by first | exact .inl rfl | exact .inr rfl) (hf2 : X.fn y = true ∨ X.env.scope.names.lookup y = some .local := by first | exact .inl rfl | exact .inr rfl) (hf3 : X.fn z = true ∨ X.env.scope.names.lookup z = some .local := by first | exact .inl rfl | exact .inr rfl)
    (hs : swapsWithSole [.Tuple [.Name x px, .Name y py, .Name z pz] kt pt] e pos.line X.env = pure false := by rfl) (hw : swappedStores [.Tuple [.Name x px, .Name y py, .Name z pz] kt pt] e X.env = pure none := by rfl)
    (h1 : (assignEach [.Tuple [.Name x px, .Name y py, .Name z pz] kt pt] X.env).map (·.2) = [assign (.Tuple [.Name x px, .Name y py, .Name z pz] kt pt) X.env] := by rfl)
    (hs1 : (assignEach [.Name x px, .Name y py, .Name z pz] X.env).map (·.2) = assign (.Name x px) X.env :: (assignEach [.Name y py, .Name z pz] X.env).map (·.2) := by rfl) (hs2 : (assignEach [.Name y py, .Name z pz] X.env).map (·.2) = assign (.Name y py) X.env :: (assignEach [.Name z pz] X.env).map (·.2) := by rfl) (hs3 : (assignEach [.Name z pz] X.env).map (·.2) = assign (.Name z pz) X.env :: (assignEach [] X.env).map (·.2) := by rfl)
    (hn : (assignEach [.Name x px, .Name y py, .Name z pz] X.env).length = 3 := by rfl) (hst : (assignEach [.Name x px, .Name y py, .Name z pz] X.env).findIdx? (·.1) = none := by rfl) : Tr B X Γ M (.Assign [.Tuple [.Name x px, .Name y py, .Name z pz] kt pt] e pos :: rest) D := fun σ I H s =>
  ws_cons (ps_asg pe_we (pg_tup hc (pgs_cons (pg_name (i := i) hN hi hx hf) (pgs_cons (pg_name (i := j) hN hj hy hf2) (pgs_cons (pg_name (i := l) hN hl hz hf3) pgs_nil hs3) hs2) hs1) hn hst) hs hw h1) (he σ I H _ s.sl s.wd fun v I1 H1 g1 ⟨a, vs, ev, h2, h3⟩ => by
    cases h3 with
    | cons r1 t1 =>
      obtain ⟨u', u'', rfl, pu', pu''⟩ := allV2 t1
      exact ⟨a, _, ev, g1.wd.sub.t h2, rfl, _, _, rfl, u', _, rfl, u'', _, rfl, rfl, h _ I1 H1 ((((s.grow g1).set r1).set pu').set pu'')⟩)

/-! ### things that change -/
theorem As.new (s : As B Γ M σ I H) {q : Addr} {o : HO} {m : MV} (hq : H q = none) (hm : m.p o I) : As B Γ ((q, m) :: M) σ I (upd H q o) := by
  have g2 : Gr B.T [] I H I (upd H q o) := Gr.newM s.wd hq
  have s2 := s.grow g2
  refine ⟨⟨s2.sl.len, s2.sl.sl, fun z hz => ?_, ?_⟩, s2.gr, fun z hz => ?_, s2.an⟩
  · rcases List.mem_cons.mp hz with e | e
    · rw [e]
      exact ⟨s.wd.free hq, o, upd_same, hm⟩
    · exact s2.sl.mu z e
  · rw [List.map_cons, List.nodup_cons]
    refine ⟨fun hz => ?_, s.sl.nd⟩
    obtain ⟨z, hz, e⟩ := List.mem_map.mp hz
    obtain ⟨_, o', e2, _⟩ := s.sl.mu z hz
    rw [e, hq] at e2
    cases e2
  · rcases List.mem_cons.mp hz with e | e
    · rw [e]
      exact .inl (s.gr.fz (.of hq))
    · exact s2.ow z e
/-- the n-th thing changes -/
theorem As.put (s : As B Γ M σ I H) {n : Nat} {q : Addr} {m m' : MV} {o' : HO} (hn : M[n]? = some (q, m)) (hm : m'.p o' I) : As B Γ (M.set n (q, m')) σ I (upd H q o') := by
  have hmem : (q, m) ∈ M := List.mem_of_getElem? hn
  obtain ⟨hi, o, ho, hp⟩ := s.sl.mu _ hmem
  have hlt : n < M.length := (List.getElem?_eq_some_iff.mp hn).1
  have other : ∀ (k : Nat) (z : Addr × MV), k ≠ n → M[k]? = some z → z.1 ≠ q := fun k z hk hz e => by
    have h1 : (M.map (·.1))[k]? = some q := by rw [List.getElem?_map, hz]; simp [e]
    have h2 : (M.map (·.1))[n]? = some q := by rw [List.getElem?_map, hn]; rfl
    exact hk (nd_ix s.sl.nd h1 h2)
  have gr : Gr B.T B.P B.I0 B.H0 I (upd H q o') := by
    rcases s.ow _ hmem with z | z
    · exact s.gr.mutF ho (m.mo hp) (m'.mo hm) z hi
    · exact s.gr.trans (Gr.mut s.wd ho (m.mo hp) (m'.mo hm) hi z)
  refine ⟨⟨s.sl.len, s.sl.sl, fun z hz => ?_, ?_⟩, gr, fun z hz => ?_, s.an⟩
  · obtain ⟨k, hk⟩ := List.getElem?_of_mem hz
    by_cases e : n = k
    · subst e
      rw [List.getElem?_set_self hlt] at hk
      cases hk
      exact ⟨hi, o', upd_same, hm⟩
    · rw [List.getElem?_set_ne e] at hk
      obtain ⟨h1, o2, h2, h3⟩ := s.sl.mu z (List.mem_of_getElem? hk)
      exact ⟨h1, o2, by rw [upd_ne (other k z (Ne.symm e) hk)]; exact h2, h3⟩
  · have e : (M.set n (q, m')).map (·.1) = M.map (·.1) := by
      rw [List.map_set]
      refine List.ext_getElem? fun k => ?_
      by_cases e : n = k
      · subst e
        rw [List.getElem?_set_self (by rw [List.length_map]; exact hlt), List.getElem?_map, hn]
        rfl
      · rw [List.getElem?_set_ne e]
    rw [e]
    exact s.sl.nd
  · obtain ⟨k, hk⟩ := List.getElem?_of_mem hz
    by_cases e : n = k
    · subst e
      rw [List.getElem?_set_self hlt] at hk
      cases hk
      exact s.ow (q, m) hmem
    · rw [List.getElem?_set_ne e] at hk
      exact s.ow z (List.mem_of_getElem? hk)
theorem As.thing (s : As B Γ M σ I H) {n : Nat} {q : Addr} {m : MV} (hn : M[n]? = some (q, m)) : ∃ o, H q = some o ∧ m.p o I := let ⟨_, o, h1, h2⟩ := s.sl.mu _ (List.mem_of_getElem? hn); ⟨o, h1, h2⟩
/-- the n-th thing, a list, changes no more -/
theorem As.frz (s : As B Γ M σ I H) {n i : Nat} {q : Addr} {Ss : List SV} (hn : M[n]? = some (q, mL Ss)) (hi : Γ[i]? = some (some (sV (.ref q)))) (hP : q ∉ B.P) : ∃ I', As B (Γ.set i (some (sLst X.K Ss))) (M.eraseIdx n) σ I' H ∧ (sLst X.K Ss).p (.ref q) I' := by
  have hmem : (q, mL Ss) ∈ M := List.mem_of_getElem? hn
  obtain ⟨hI, o, ho, vs, rfl, av⟩ := s.sl.mu _ hmem
  have fz : Fz B.H0 q := (s.ow _ hmem).resolve_right hP
  have g := s.gr.freeze ho nt_l fz hI
  have xt : Xt I (upd I q (.lst vs)) := Xt.new hI
  have me : ∀ z ∈ M.eraseIdx n, z ∈ M ∧ z.1 ≠ q := fun z hz => by
    refine ⟨List.mem_of_mem_eraseIdx hz, fun e => ?_⟩
    obtain ⟨k, hk⟩ := List.getElem?_of_mem hz
    rw [List.getElem?_eraseIdx] at hk
    by_cases hkn : k < n
    · rw [if_pos hkn] at hk
      have h1 : (M.map (·.1))[k]? = some q := by rw [List.getElem?_map, hk]; simp [e]
      have h2 : (M.map (·.1))[n]? = some q := by rw [List.getElem?_map, hn]; rfl
      have := nd_ix s.sl.nd h1 h2
      omega
    · rw [if_neg hkn] at hk
      have h1 : (M.map (·.1))[k + 1]? = some q := by rw [List.getElem?_map, hk]; simp [e]
      have h2 : (M.map (·.1))[n]? = some q := by rw [List.getElem?_map, hn]; rfl
      have := nd_ix s.sl.nd h1 h2
      omega
  have pq : (sLst X.K Ss).p (.ref q) (upd I q (.lst vs)) := ⟨q, vs, rfl, .inl (.inl upd_same), av.mono xt⟩
  refine ⟨upd I q (.lst vs), ⟨⟨by rw [List.length_set]; exact s.sl.len, fun k S e => ?_, fun z hz => ?_, ?_⟩, g, fun z hz => s.ow z (me z hz).1, fun A hA => (s.an A hA).trans xt⟩, pq⟩
  · by_cases hk : i = k
    · subst hk
      have hl : i < Γ.length := (List.getElem?_eq_some_iff.mp hi).1
      rw [List.getElem?_set_self hl] at e
      cases e
      obtain ⟨v, h1, h2⟩ := s.sl.sl i _ hi
      have h2' : v = .ref q := h2
      exact ⟨v, h1, by rw [h2']; exact pq⟩
    · rw [List.getElem?_set_ne hk] at e
      obtain ⟨v, h1, h2⟩ := s.sl.sl k S e
      exact ⟨v, h1, S.mono xt h2⟩
  · obtain ⟨hz1, hz2⟩ := me z hz
    obtain ⟨h1, o, h2, h3⟩ := s.sl.mu z hz1
    exact ⟨by rw [upd_ne hz2]; exact h1, o, h2, z.2.mono xt h3⟩
  · exact s.sl.nd.sublist ((List.eraseIdx_sublist _ _).map _)
theorem tr_frz {q : Addr} (n : Nat) (i : Nat) (hn : M[n]? = some (q, mL Ss)) (hi : Γ[i]? = some (some (sV (.ref q)))) (hP : q ∉ B.P) (h : Tr B X (Γ.set i (some (sLst X.K Ss))) (M.eraseIdx n) rest D) : Tr B X Γ M rest D := fun σ I H s =>
  let ⟨I', s', _⟩ := s.frz (X := X) hn hi hP; h σ I' H s'
/-- x = [..], to be changed -/
theorem tr_newL (hN : X.N.Nodup) (hi : X.N[i]? = some x) (ha : DA B.T X Γ M es Ss) (hl : Ss.length ≤ 1000) (h : ∀ q, Tr B X (Γ.set i (some (sV (.ref q)))) ((q, mL Ss) :: M) rest D) (hx : Loc X.env.scope x := by first | exact .inl rfl | exact .inr rfl)
    (hs : swapsWith (.List es p) (some (.Name x px)) pos.line X.env = pure false := by rfl) (hf : X.fn x = true ∨ X.env.scope.names.lookup x = some .local := by first | exact .inl rfl | exact .inr rfl) : Tr B X Γ M (.Assign [.Name x px] (.List es p) pos :: rest) D := fun σ I H s =>
  ws_cons (ps_set (i := i) hN hi hx (pe_lst pa_wa) hs hf) (ha σ I H _ s.sl s.wd fun vs I1 H1 g1 p1 => ⟨by rw [← p1.length]; exact Nat.le_of_lt (small1000 hl), fun q hq =>
    h q _ I1 _ (((s.grow g1).new (m := mL Ss) hq ⟨vs, rfl, p1⟩).set rfl)⟩)
/-- x.append(e) -/
theorem tr_append {q : Addr} {o : Expr} {apos : Pos} (n : Nat) (hn : M[n]? = some (q, mL Ss)) (ho : DE B.T X Γ M o (sV (.ref q))) (he : DE B.T X Γ M e S) (hl : Ss.length < 100000) (h : Tr B X Γ (M.set n (q, mL (Ss ++ [S]))) rest D)
    (hbase : attributeBase o "append" X.env (eval o X.env) = eval o X.env := by rfl)
    (hfew : ((backTo p (starEach [e] X.env)).all (fun x => !x.1) && (backToKw p (keywordEach [] X.env)).all (fun x => x.1.isSome)
      && decide ([e].length + ([] : List Keyword).length + (if ([] : List Keyword).isEmpty then 0 else 1) < 30)) = true := by rfl)
    (hline : (apos.endLine == p.line) = true := by rfl) (hst : starEach [e] X.env = (false, eval e X.env) :: starEach [] X.env := by rfl) (hpl : (backTo p (starEach [] X.env)).any (·.1) = false := by rfl)
    (hs : swapsWith (.Call (.Attribute o "append" apos) [e] [] p) none pos.line X.env = pure false := by rfl) : Tr B X Γ M (.Expr (.Call (.Attribute o "append" apos) [e] [] p) pos :: rest) D := fun σ I H s =>
  ws_cons (ps_expr (pe_bm PySem.F.plainAttrs_list PySem.F.slot_list_append PySem.F.type_list_append mt_append pe_we (pa_cons pe_we pa_nil hst) hbase hfew hline hst hpl) hs) (ho σ I H _ s.sl s.wd fun v I1 H1 g1 p1 => by
    have s1 := s.grow g1
    obtain ⟨o1, h1, vs, rfl, av⟩ := s1.thing hn
    have p1 : v = .ref q := p1
    subst p1
    refine ⟨.inl ⟨rfl, vs, .inl (.inl h1)⟩, he σ I1 H1 _ s1.sl s1.wd fun u I2 H2 g2 p2 => ?_⟩
    have s2 := s1.grow g2
    have h2 : H2 q = some (.lst vs) := g2.keep _ _ h1 nt_l (by simp)
    exact ⟨q, vs, u, rfl, rfl, h2, by rw [← av.length]; exact Nat.lt_of_lt_of_le hl (by decide), h σ I2 _ (s2.put (m' := mL (Ss ++ [S])) hn ⟨_, rfl, (av.mono g2.sub).append (.cons p2 .nil)⟩)⟩)

/-! ### loops -/
abbrev InvS (B : Bg) {δ : Type} (Pd : Nat → δ → Prop) (G : Nat → δ → Ct) (Mf : Nat → δ → Mt) (k : Nat) : L2.St → Hp → Prop := fun σ H => ∃ d I, Pd k d ∧ As B (G k d) (Mf k d) σ I H
/-- for x in ..: a walk's targets by hand -/
theorem tr_forG {δ : Type} {Pd : Nat → δ → Prop} {G : Nat → δ → Ct} {Mf : Nat → δ → Mt} {gt : TG} (hp : PassesOwn (model X.prog X.w) X.A X.env X.xe) (hc : X.calm = true) (hI : DI B.T X Γ M tg iter Ss) (hg : PG X tg gt) (d0 : δ) (h0 : Pd 0 d0) (hw : Wk (G 0 d0) Γ) (hM : Mf 0 d0 = M)
    (hstep : ∀ (A : Hp) (k : Nat) (d : δ) (S : SV), Ss[k]? = some S → Pd k d → ∀ (v : V) (σ : L2.St) (I H : Hp), As (B.anc A) (G k d) (Mf k d) σ I H → S.p v I →
      gt v σ H fun σ2 H2 => WS X body { D with nx := InvS (B.anc A) Pd G Mf (k + 1), ct := InvS (B.anc A) Pd G Mf (k + 1), bk := WS X rest D } σ2 H2)
    (hrest : ∀ d, Pd Ss.length d → Tr B X (G Ss.length d) (Mf Ss.length d) rest D) (hs : ∀ x, foldedSetIterable iter X.env x = pure x := by intro _; rfl) : Tr B X Γ M (.For tg iter body [] pos :: rest) D := fun σ I H s =>
  ws_cons (ps_for hp hc pi_wi hg ps_ws hs) (hI σ I H _ s.sl s.wd fun J I1 H1 g1 it => by
    have s1 : As (B.anc I1) (G 0 d0) (Mf 0 d0) σ I1 H1 := by
      rw [hM]
      exact ((s.grow g1).weak hw).anc (Xt.refl I1)
    refine ⟨fun k m σ' H' => m = Ss.length - k ∧ k ≤ Ss.length ∧ InvS (B.anc I1) Pd G Mf k σ' H', ⟨Ss.length, by simp, Nat.zero_le _, d0, I1, h0, s1⟩, ?_⟩
    rintro k m σ' H' ⟨rfl, hk, d, I', hd, s'⟩
    obtain ⟨stop, go⟩ := it k I' H' (s'.an I1 List.mem_cons_self) s'.wd
    by_cases hlt : k < Ss.length
    · have hS := List.getElem?_eq_getElem hlt
      obtain ⟨go1, go2⟩ := go _ hS
      refine .inr ⟨go1, InvS (B.anc I1) Pd G Mf (k + 1), fun σ2 H2 p2 => ⟨Ss.length - (k + 1), by omega, rfl, hlt, p2⟩, fun x H2 y => ?_⟩
      obtain ⟨I2, g2, px⟩ := go2 x H2 y
      exact hstep I1 k d _ hS hd x σ' I2 H2 (s'.grow g2) px
    · have e : k = Ss.length := by omega
      subst e
      exact .inl ⟨stop (Nat.le_refl _), hrest d hd σ' I' H' s'.drop⟩)
theorem tr_for {δ : Type} {Pd : Nat → δ → Prop} {G : Nat → δ → Ct} {Mf : Nat → δ → Mt} (hp : PassesOwn (model X.prog X.w) X.A X.env X.xe) (hc : X.calm = true) (hN : X.N.Nodup) (hj : X.N[j]? = some x) (hI : DI B.T X Γ M (.Name x px) iter Ss) (d0 : δ) (h0 : Pd 0 d0) (hw : Wk (G 0 d0) Γ) (hM : Mf 0 d0 = M)
    (hstep : ∀ (A : Hp) (k : Nat) (d : δ) (S : SV), Ss[k]? = some S → Pd k d → Tr (B.anc A) X ((G k d).set j (some S)) (Mf k d) body { D with nx := InvS (B.anc A) Pd G Mf (k + 1), ct := InvS (B.anc A) Pd G Mf (k + 1), bk := WS X rest D })
    (hrest : ∀ d, Pd Ss.length d → Tr B X (G Ss.length d) (Mf Ss.length d) rest D) (hx : Loc X.env.scope x := by first | exact .inl rfl | exact .inr rfl) (hf : X.fn x = true ∨ X.env.scope.names.lookup x = some .local := by first | exact .inl rfl | exact .inr rfl)
    (hs : ∀ x, foldedSetIterable iter X.env x = pure x := by intro _; rfl) : Tr B X Γ M (.For (.Name x px) iter body [] pos :: rest) D :=
  tr_forG hp hc hI (pg_name (i := j) hN hj hx hf) d0 h0 hw hM (fun A k d S hS hd v σ I H s pv => hstep A k d S hS hd _ I H (s.set pv)) hrest hs
/-- the body's end -/
theorem tr_end {δ : Type} {Pd : Nat → δ → Prop} {G : Nat → δ → Ct} {Mf : Nat → δ → Mt} {k : Nat} {D : Ends} (hD : D.nx = InvS B Pd G Mf k) (d : δ) (hd : Pd k d) (hw : Wk (G k d) Γ) (hM : Mf k d = M) : Tr B X Γ M [] D := tr_nil fun σ I H s => by
  rw [hD]
  exact ⟨d, I, hd, by rw [hM]; exact s.weak hw⟩
theorem tr_while {δ : Type} {Pd : δ → Prop} {G : δ → Ct} {Mf : δ → Mt} {bt : δ → Bool} (μ : δ → Nat) (hp : PassesOwn (model X.prog X.w) X.A X.env X.xe) (d0 : δ) (h0 : Pd d0) (hw : Wk (G d0) Γ) (hM : Mf d0 = M) (ht : ∀ d, Pd d → DT B.T X (G d) (Mf d) c (bt d))
    (hstep : ∀ d, Pd d → bt d = true → Tr B X (G d) (Mf d) body { D with nx := fun σ H => ∃ d' I, (Pd d' ∧ μ d' < μ d) ∧ As B (G d') (Mf d') σ I H, ct := fun σ H => ∃ d' I, (Pd d' ∧ μ d' < μ d) ∧ As B (G d') (Mf d') σ I H, bk := WS X rest D })
    (hrest : ∀ d, Pd d → bt d = false → Tr B X (G d) (Mf d) rest D) : Tr B X Γ M (.While c body [] pos :: rest) D := fun σ I H s =>
  ws_cons (ps_while hp pt_wt ps_ws) ⟨fun m σ H => ∃ d I, (Pd d ∧ μ d = m) ∧ As B (G d) (Mf d) σ I H, ⟨μ d0, d0, I, ⟨h0, rfl⟩, by rw [hM]; exact s.weak hw⟩, by
    rintro m σ' H' ⟨d, I', ⟨hd, rfl⟩, s'⟩
    refine ht d hd σ' I' H' _ s'.sl s'.wd fun I1 H1 g1 => ?_
    have s1 := s'.grow g1
    cases e : bt d with
    | true =>
      refine iteT ⟨fun σ H => ∃ d' I, (Pd d' ∧ μ d' < μ d) ∧ As B (G d') (Mf d') σ I H, fun σ2 H2 ⟨d', I2, ⟨h1, h2⟩, s2⟩ => ⟨μ d', h2, d', I2, ⟨h1, rfl⟩, s2⟩, ?_⟩
      exact hstep d hd e σ' I1 H1 s1
    | false => exact iteF (hrest d hd e σ' I1 H1 s1)⟩
theorem tr_endW {δ : Type} {Pd : δ → Prop} {G : δ → Ct} {Mf : δ → Mt} {μ : δ → Nat} {m : Nat} {D : Ends} (hD : D.nx = fun σ H => ∃ d' I, (Pd d' ∧ μ d' < m) ∧ As B (G d') (Mf d') σ I H) (d : δ) (hd : Pd d) (hm : μ d < m) (hw : Wk (G d) Γ) (hM : Mf d = M) : Tr B X Γ M [] D := tr_nil fun σ I H s => by
  rw [hD]
  exact ⟨d, I, ⟨hd, hm⟩, by rw [hM]; exact s.weak hw⟩
end
end Rm
set_option Elab.async false
set_option linter.all false
set_option maxRecDepth 100000
set_option maxHeartbeats 4000000
/-! The D-layer, part 5: defs of the text and their promises. -/
namespace Rm
open PySem PySem.Spec PyProof.Rows L2 LamX

/-- a promise by data: for each d with pre d, arguments as told, it hands back what res d tells; nothing else changes -/
def spD {δ : Type} (T : Tb) (args : δ → List SV) (pre : δ → Prop) (res : δ → SV) : Sp := fun vs H Q _ =>
  ∃ (d : δ) (I : Hp), pre d ∧ Wd T I H ∧ AllV (args d) vs I ∧ ∀ v I' H', Gr T [] I H I' H' → (res d).p v I' → Q v H'
/-- a def of the module as callers know it -/
structure FD (P : Program) (w : World) (K : PySem.W.Frag) (mg : Str → Option Value) (base : Heap) (k : Nat) (x : Str) (ps : List Str) (sp : Sp) : Prop where
  ex : ∃ (f : Addr) (fd : FuncData), mg x = some (.ref f) ∧ PySem.W.keepIn K (.ref f) = true ∧ Binds K fd ps [] ∧ FnOk P w K mg base CX0 k f fd ps sp
section
variable {X : Cx} {Γ : Ct} {M : Mt} {T : Tb} {e : Expr} {es : List Expr} {S : SV} {Ss : List SV} {pos p : Pos} {k k' : Nat} {x : Str} {ps : List Str}
theorem de_call {δ : Type} {args : δ → List SV} {pre : δ → Prop} {res : δ → SV} (G : FD X.prog X.w X.K X.mg X.base k x ps (spD T args pre res)) (hr : Room k' X.A) (hk : k ≤ k') (d : δ) (hp : pre d) (ha : DA T X Γ M (e :: es) (args d)) (hg : Gl X x := by rfl) (hdb : (x == ("__debug__" : Str)) = false := by decide)
    (he : starEach (e :: es) X.env = (false, eval e X.env) :: starEach es X.env := by rfl) (hpl : (backTo pos (starEach es X.env)).any (·.1) = false := by rfl) : DE T X Γ M (.Call (.Name x p) (e :: es) [] pos) (res d) := fun σ I H Q s w q => by
  obtain ⟨f, fd, hm, kp, hb, F⟩ := G.ex
  exact we_of (pe_call F (hr.mono hk) hg hm kp hb .nil (pass0 (X := X)) pa_wa hdb he hpl) (ha σ I H _ s w fun vs I1 H1 g1 p1 => ⟨d, I1, hp, g1.wd, by rw [List.append_nil]; exact p1, fun v I2 H2 g2 p2 => q v I2 H2 (g1.trans g2) p2⟩)
end
/-- the slots at the entry -/
def st0 (N : List Str) (Ss : List SV) : Ct := Ss.map some ++ List.replicate (N.length - Ss.length) none
theorem sl_start {N : List Str} {Ss : List SV} {vs : List V} {I H : Hp} (h : AllV Ss vs I) : Sl (st0 N Ss) [] (L2.start N vs) I H := by
  refine ⟨?_, fun i S e => ?_, (fun m hm => nomatch hm), List.nodup_nil⟩
  · unfold st0 L2.start
    simp [h.length]
  · unfold st0 at e
    by_cases hi : i < Ss.length
    · rw [List.getElem?_append_left (by simpa using hi), List.getElem?_map] at e
      obtain ⟨S', hS⟩ : ∃ S', Ss[i]? = some S' := ⟨_, List.getElem?_eq_getElem hi⟩
      rw [hS] at e
      cases e
      obtain ⟨v, h1, h2⟩ := h.get hS
      refine ⟨v, ?_, h2⟩
      have hi' : i < vs.length := by rw [← h.length]; exact hi
      unfold L2.start
      rw [List.getElem?_append_left (by simpa using hi'), List.getElem?_map, h1]
      rfl
    · rw [List.getElem?_append_right (by simpa using hi), List.getElem?_replicate] at e
      split at e <;> cases e
section
variable {P : Program} {w : World} {K : PySem.W.Frag} {mg : Str → Option Value} {base : Heap}
/-- a def's context -/
abbrev cxN (P : Program) (w : World) (K : PySem.W.Frag) (mg : Str → Option Value) (base : Heap) (N : List Str) (qual : Str) (st : Stmt) (f : Addr) (cd : Value) (A : Around) (outer : List Env) (s : Shared) (H : Hp) (E : XK) : Cx :=
  (cxOf CX0 P w K mg base N qual (defScope st) f cd A outer s H E).nox
/-- THE RULE for a def by data -/
theorem fn_body {δ : Type} {T : Tb} {args : δ → List SV} {pre : δ → Prop} {res : δ → SV} {x qual : Str} {st : Stmt} {f : Addr} {fd : FuncData} {N ps : List Str} {k : Nat} (F : Fun K x qual st f fd) (S : FnScope N ps (defScope st)) (hl : ∀ d, (args d).length = ps.length)
    (body : ∀ d, pre d → ∀ (cdv : Value) (A : Around) (outer : List Env) (s : Shared) (I H : Hp) (E : XK) (D : Ends), Room k (A.deeper (envOfC qual (defScope st) s.heap.objs.size f cdv)) →
      (∀ v I' H', Gr T [] I H I' H' → (res d).p v I' → D.rt v H') → (∀ σ I' H', Gr T [] I H I' H' → (res d).p .non I' → D.nx σ H') →
      Tr ⟨T, [], I, H, []⟩ (cxN P w K mg base N qual st f cdv A outer s H E) (st0 N (args d)) [] (defBody st) D) : FnOk P w K mg base CX0 (k + 1) f fd ps (spD T args pre res) := by
  refine F.ok S (fun vs H Q E h => ?_) (fun cdv A outer s H vs Q E hr h => ?_)
  · obtain ⟨d, I, _, _, h3, _⟩ := h
    rw [← h3.length, hl]
  · obtain ⟨d, I, h1, h2, h3, q⟩ := h
    refine ⟨_, ps_ws, body d h1 cdv A outer s I H E { nx := fun _ H' => Q .non H', rt := Q } hr (fun v I' H' g p => q v I' H' g p) (fun σ I' H' g p => q _ I' H' g p) (L2.start N vs) I H ⟨sl_start h3, Gr.refl h2, (fun m hm => nomatch hm), (fun A hA => nomatch hA)⟩⟩
/-- of a def of the module: what callers know -/
theorem FD.of {x : Str} {st : Stmt} {f : Addr} {fd : FuncData} {ps : List Str} {k : Nat} {sp : Sp} (F : Fun K x x st f fd) (hm : mg x = some (.ref f)) (hb : Binds K fd ps []) (h : FnOk P w K mg base CX0 k f fd ps sp) : FD P w K mg base k x ps sp := ⟨⟨f, fd, hm, F.kp, hb, h⟩⟩
end
end Rm
namespace Rm
open PySem PySem.Spec PyProof.Rows L2 LamX
section
variable {X : Cx} {Γ : Ct} {M : Mt} {T : Tb} {S : SV} {pos : Pos}
/-- the name in the i-th slot -/
theorem dv (i : Nat) {x : Str} (h : Γ[i]? = some (some S) := by rfl) (hN : X.N[i]? = some x := by rfl) (hv : Vis X.env.scope x := by first | exact Or.inl rfl | exact Or.inr (Or.inl rfl) | exact Or.inr (Or.inr rfl)) (hd : (x == ("__debug__" : Str)) = false := by decide) (hcd : (x == ("__classdict__" : Str)) = false := by decide) : DE T X Γ M (.Name x pos) S := de_var h hN hv hd hcd
end
theorem map_eT {α β : Type} {f : β → PyData} {g : α → β} {xs : List α} : PyData.tuple (xs.map fun a => f (g a)) = eT f (xs.map g) := by
  unfold eT
  rw [List.map_map]
  rfl
theorem map_eL {α β : Type} {f : β → PyData} {g : α → β} {xs : List α} : PyData.list (xs.map fun a => f (g a)) = eL f (xs.map g) := by
  unfold eL
  rw [List.map_map]
  rfl
theorem get_map {α β : Type} {f : α → β} {xs : List α} {k : Nat} {d : α} (h : k < xs.length) : (xs.map f)[k]? = some (f (xs.getD k d)) := by
  rw [List.getElem?_map, List.getElem?_eq_getElem h, List.getD_eq_getElem?_getD, List.getElem?_eq_getElem h]
  rfl
end Rm
set_option Elab.async false
set_option linter.all false
set_option maxRecDepth 100000
set_option maxHeartbeats 4000000
/-! The D-layer, part 6: isinstance, instances, defs that change what they are given. -/
namespace Rm
open PySem PySem.Spec PyProof.Rows L2 LamX

/-! ### isinstance -/
theorem tyx_l {K : PySem.W.Frag} {H : Hp} {a : Addr} {xs : List V} (h : SqL K H a xs) : TyX K H (.ref a) (.type "list") := by
  rcases h with (h | ⟨o, h⟩) | ⟨o, its, n, h, hc, _⟩
  · exact .base (.lst h)
  · exact .base (.frz h)
  · exact .kList h hc
theorem tyx_t {K : PySem.W.Frag} {H : Hp} {a : Addr} {xs : List V} (h : SqT K H a xs) : TyX K H (.ref a) (.type "tuple") := by
  rcases h with (h | ⟨o, h⟩) | ⟨o, its, n, h, hc, _⟩
  · exact .base (.tup h)
  · exact .fTuple h
  · exact .kTuple h hc
theorem kit_l {K : PySem.W.Frag} : PySem.W.kitAny K (.type "list") [.type "list", .type "tuple"] = some true := by
  unfold PySem.W.kitAny
  rw [kit_ty (K := K) (a := "list") (b := "list") (r := true) (by decide +kernel)]
theorem kit_t {K : PySem.W.Frag} : PySem.W.kitAny K (.type "tuple") [.type "list", .type "tuple"] = some true := by
  unfold PySem.W.kitAny
  rw [kit_ty (K := K) (a := "tuple") (b := "list") (r := false) (by decide +kernel)]
  show PySem.W.kitAny K (.type "tuple") [.type "tuple"] = some true
  unfold PySem.W.kitAny
  rw [kit_ty (K := K) (a := "tuple") (b := "tuple") (r := true) (by decide +kernel)]
/-- a tuple just laid -/
def sTupN (Ss : List SV) : SV := ⟨fun v I => ∃ a vs, v = .ref a ∧ I a = some (.tup vs) ∧ AllV Ss vs I, fun e ⟨a, vs, h1, h2, h3⟩ => ⟨a, vs, h1, e _ _ h2, h3.mono e⟩⟩
section
variable {T : Tb} {X : Cx} {Γ : Ct} {M : Mt} {a b e : Expr} {es : List Expr} {S Sa Sb : SV} {Ss : List SV} {pos p : Pos} {x : Str}
theorem de_bltn {t : String} (hm : X.mg x = none) (hv : bootBuiltins x = some (.type t)) (hg : Gl X x := by rfl) (hn : x ≠ "__name__" := by decide) (hd : (x == ("__debug__" : Str)) = false := by decide) : DE T X Γ M (.Name x pos) (sV (.ty t)) := fun σ I H Q s w k =>
  we_of (pe_bltn (v := .ty t) hg hm hv rfl hn hd) (k _ I H (Gr.refl w) rfl)
theorem de_tupN {j : Nat} (h : DA T X Γ M es Ss) (hl : Ss.length ≤ 1000) : DE T X Γ M (.Tuple es j pos) (sTupN Ss) := fun σ I H Q s w k =>
  we_of (pe_tup pa_wa) (h σ I H _ s w fun vs I1 H1 g1 p1 => ⟨by rw [← p1.length]; exact Nat.le_of_lt (small1000 hl), fun p hp => k _ _ _ (g1.trans (Gr.new g1.wd hp nt_t)) ⟨p, vs, rfl, upd_same, p1.mono (Xt.new (g1.wd.free hp))⟩⟩)
/-- isinstance(x, T): t the type of x -/
theorem de_isi {c : V} {u t : Value} {r : Bool} (hm : X.mg "isinstance" = none) (ha : DE T X Γ M a S) (hb : DE T X Γ M b (sV c)) (hc : ClsV c u) (ht : ∀ v I H, Wd T I H → S.p v I → TyX X.K H v t) (hk : PySem.W.kitOne X.K t u = some r) (hg : Gl X "isinstance" := by rfl)
    (he : starEach [a, b] X.env = (false, eval a X.env) :: starEach [b] X.env := by rfl) (he2 : starEach [b] X.env = (false, eval b X.env) :: starEach [] X.env := by rfl) (hpl : (backTo pos (starEach [b] X.env)).any (·.1) = false := by rfl) :
    DE T X Γ M (.Call (.Name "isinstance" p) [a, b] [] pos) (sD X.K (.bool r)) :=
  de_callB call_isi (Ss := [S, sV c]) (fun vs I H Q w h k => by
    obtain ⟨v, v', rfl, h1, h2⟩ := allV2 h
    have h2 : v' = c := h2
    subst h2
    exact ⟨v, v', t, u, r, rfl, hc, ht v I H w h1, hk, k _ I H (Gr.refl w) (.bl _)⟩) hm (by decide +kernel) (da_cons ha (da_one hb he2) he) hg (by decide) (by decide) he hpl
theorem de_isLT (hm : X.mg "isinstance" = none) (ha : DE T X Γ M a (sSeq X.K Ss)) (hb : DE T X Γ M b (sTupN [sV (.ty "list"), sV (.ty "tuple")])) (hg : Gl X "isinstance" := by rfl)
    (he : starEach [a, b] X.env = (false, eval a X.env) :: starEach [b] X.env := by rfl) (he2 : starEach [b] X.env = (false, eval b X.env) :: starEach [] X.env := by rfl) (hpl : (backTo pos (starEach [b] X.env)).any (·.1) = false := by rfl) :
    DE T X Γ M (.Call (.Name "isinstance" p) [a, b] [] pos) (sD X.K (.bool true)) :=
  de_callB call_isiT (Ss := [sSeq X.K Ss, sTupN [sV (.ty "list"), sV (.ty "tuple")]]) (fun vs I H Q w h k => by
    obtain ⟨v, v', rfl, ⟨a, ys, rfl, h2, h3⟩, ⟨tp, cs, rfl, h4, h5⟩⟩ := allV2 h
    obtain ⟨c1, c2, rfl, e1, e2⟩ := allV2 h5
    have e1 : c1 = .ty "list" := e1
    have e2 : c2 = .ty "tuple" := e2
    subst e1 e2
    rcases h2 with h2 | h2
    · exact ⟨_, tp, _, .type "list", _, true, rfl, w.sub _ _ h4, .cons (.ty _) (.cons (.ty _) .nil), tyx_l (w.sub.l h2), kit_l, k _ I H (Gr.refl w) (.bl _)⟩
    · exact ⟨_, tp, _, .type "tuple", _, true, rfl, w.sub _ _ h4, .cons (.ty _) (.cons (.ty _) .nil), tyx_t (w.sub.t h2), kit_t, k _ I H (Gr.refl w) (.bl _)⟩) hm (by decide +kernel) (da_cons ha (da_one hb he2) he) hg (by decide) (by decide) he hpl
theorem ty_int {i : Int} {K : PySem.W.Frag} : ∀ v I H, Wd T I H → (sD K (.int i)).p v I → TyX K H v (.type "int") := fun v I H w h => by
  rw [dp_int h]
  exact .base (.int i)
theorem ty_str {z : Str} {K : PySem.W.Frag} : ∀ v I H, Wd T I H → (sD K (.str z)).p v I → TyX K H v (.type "str") := fun v I H w h => by
  rw [dp_str h]
  exact .base (.str z)
theorem ty_tup {K : PySem.W.Frag} : ∀ v I H, Wd T I H → (sTup K Ss).p v I → TyX K H v (.type "tuple") := fun v I H w ⟨a, vs, e, h, _⟩ => by
  rw [e]
  exact tyx_t (w.sub.t h)
theorem ty_tupD {ds : List PyData} {K : PySem.W.Frag} : ∀ v I H, Wd T I H → (sD K (.tuple ds)).p v I → TyX K H v (.type "tuple") := fun v I H w h => ty_tup v I H w (sD_tup.mp h)
end

/-! ### instances -/
def FsV (fs : List (Str × SV)) (gs : List (Str × V)) (I : Hp) : Prop := Paired (fun (p : Str × SV) (q : Str × V) => p.1 = q.1 ∧ p.2.p q.2 I) fs gs
theorem FsV.mono {fs : List (Str × SV)} {gs : List (Str × V)} {I J : Hp} (e : Xt I J) (h : FsV fs gs I) : FsV fs gs J := Paired.mapP h fun p q z => ⟨z.1, p.2.mono e z.2⟩
theorem FsV.look : ∀ {fs : List (Str × SV)} {gs : List (Str × V)} {I : Hp} {f : Str} {S : SV}, FsV fs gs I → fs.lookup f = some S → ∃ v, gs.lookup f = some v ∧ S.p v I
  | _, _, _, _, _, .nil, e => by simp at e
  | (x, S0) :: fs, (y, u) :: gs, I, f, S, .cons ⟨r1, r2⟩ t, e => by
    have r1 : x = y := r1
    subst r1
    by_cases h : f = x
    · subst h
      rw [List.lookup_cons_self] at e
      cases e
      exact ⟨u, List.lookup_cons_self, r2⟩
    · have hb : (f == x) = false := beq_eq_false_iff_ne.mpr h
      rw [List.lookup_cons, hb] at e ⊢
      exact FsV.look t e
theorem FsV.lookN : ∀ {fs : List (Str × SV)} {gs : List (Str × V)} {I : Hp} {f : Str}, FsV fs gs I → fs.lookup f = none → gs.lookup f = none
  | _, _, _, _, .nil, e => rfl
  | (x, S0) :: fs, (y, u) :: gs, I, f, .cons ⟨r1, r2⟩ t, e => by
    have r1 : x = y := r1
    subst r1
    cases hb : f == x with
    | true =>
      rw [List.lookup_cons, hb] at e
      cases e
    | false =>
      rw [List.lookup_cons, hb] at e ⊢
      exact FsV.lookN t e
theorem FsV.put : ∀ {fs : List (Str × SV)} {gs : List (Str × V)} {I : Hp} {f : Str} {S : SV} {v : V}, FsV fs gs I → fs.lookup f = none → S.p v I → FsV (fs ++ [(f, S)]) (putF f v gs) I
  | _, _, _, _, _, _, .nil, e, h => .cons ⟨rfl, h⟩ .nil
  | (x, S0) :: fs, (y, u) :: gs, I, f, S, v, .cons ⟨r1, r2⟩ t, e, h => by
    have r1 : x = y := r1
    subst r1
    cases hb : f == x with
    | true =>
      rw [List.lookup_cons, hb] at e
      cases e
    | false =>
      rw [List.lookup_cons, hb] at e
      have n : ¬ x = f := fun z => by
        subst z
        simp at hb
      unfold putF
      rw [if_neg n]
      exact .cons ⟨rfl, r2⟩ (FsV.put t e h)
theorem FsV.length {fs : List (Str × SV)} {gs : List (Str × V)} {I : Hp} (h : FsV fs gs I) : fs.length = gs.length := Paired.length h
/-- an instance of the class at C that changes no more; one that may -/
def sIns (C : Addr) (fs : List (Str × SV)) : SV := ⟨fun v I => ∃ a dx gs, v = .ref a ∧ I a = some (.ins C dx gs) ∧ FsV fs gs I, fun e ⟨a, dx, gs, h1, h2, h3⟩ => ⟨a, dx, gs, h1, e _ _ h2, h3.mono e⟩⟩
def mIns (C : Addr) (fs : List (Str × SV)) : MV := ⟨fun o I => ∃ dx gs, o = .ins C dx gs ∧ FsV fs gs I, fun e ⟨dx, gs, h1, h2⟩ => ⟨dx, gs, h1, h2.mono e⟩, fun ⟨dx, gs, h1, _⟩ => by rw [h1]; trivial⟩
section
variable {T : Tb} {X : Cx} {Γ : Ct} {M : Mt} {a b e : Expr} {es : List Expr} {S Sa Sb : SV} {Ss : List SV} {pos p : Pos} {x f : Str} {C : Addr} {fs : List (Str × SV)}
theorem de_fld (c : Cls X.K C) (n : NoAttr X.K C f) (l : fs.lookup f = some S) (he : DE T X Γ M e (sIns C fs)) (hb : attributeBase e f X.env (eval e X.env) = eval e X.env := by rfl) : DE T X Γ M (.Attribute e f pos) S := fun σ I H Q s w k =>
  we_of (pe_fld pe_we hb) (he σ I H _ s w fun v I1 H1 g1 ⟨a, dx, gs, e1, e2, e3⟩ => let ⟨u, h1, h2⟩ := e3.look l; ⟨a, C, dx, gs, u, e1, g1.wd.sub _ _ e2, c, n, h1, k u I1 H1 g1 h2⟩)
/-- a property whose getter is a def by data -/
theorem de_prop {δ : Type} {pr g : Addr} {fd : FuncData} {ps : List Str} {k k' : Nat} {args : δ → List SV} {pre : δ → Prop} {res : δ → SV} (c : Cls X.K C) (hp : PropOf X.K C f pr g) (F : FnOk X.prog X.w X.K X.mg X.base CX0 k g fd ps (spD T args pre res)) (hr : Room k' X.A) (hk : k + 1 ≤ k') (hb : Binds X.K fd ps [])
    (d : δ) (hpre : pre d) (hargs : args d = [sIns C fs]) (he : DE T X Γ M e (sIns C fs)) (hab : attributeBase e f X.env (eval e X.env) = eval e X.env := by rfl) : DE T X Γ M (.Attribute e f pos) (res d) := fun σ I H Q s w q =>
  we_of (pe_prop pe_we c hp F (hr.mono hk) hb .nil (pass0 (X := X.nox)) hab) (he σ I H _ s w fun v I1 H1 g1 p1 => by
    obtain ⟨a, dx, gs, e1, e2, e3⟩ := p1
    refine ⟨a, dx, gs, e1, g1.wd.sub _ _ e2, d, I1, hpre, g1.wd, ?_, fun v I2 H2 g2 p2 => q v I2 H2 (g1.trans g2) p2⟩
    rw [hargs]
    exact .cons ⟨a, dx, gs, rfl, e2, e3⟩ .nil)
end

/-! ### defs that change what they are given -/
/-- the things stand there -/
def Ms (ms : Mt) (I H : Hp) : Prop := ∀ m ∈ ms, I m.1 = none ∧ ∃ o, H m.1 = some o ∧ m.2.p o I
/-- a promise of a def that changes the things ms d; r: what it may hand back -/
def spM {δ ρ : Type} (T : Tb) (args : δ → List SV) (ms : δ → Mt) (pre : δ → Prop) (post : δ → ρ → Prop) (res : δ → ρ → SV) (ms' : δ → ρ → Mt) : Sp := fun vs H Q _ =>
  ∃ (d : δ) (I : Hp), pre d ∧ Wd T I H ∧ AllV (args d) vs I ∧ Ms (ms d) I H ∧ ((ms d).map (·.1)).Nodup ∧
    ∀ r v I' H', post d r → Gr T ((ms d).map (·.1)) I H I' H' → (res d r).p v I' → Ms (ms' d r) I' H' → Q v H'
theorem sl_startM {N : List Str} {Ss : List SV} {vs : List V} {I H : Hp} {ms : Mt} (h : AllV Ss vs I) (hm : Ms ms I H) (nd : (ms.map (·.1)).Nodup) : Sl (st0 N Ss) ms (L2.start N vs) I H := ⟨(sl_start (H := H) h).len, (sl_start (H := H) h).sl, hm, nd⟩
section
variable {P : Program} {w : World} {K : PySem.W.Frag} {mg : Str → Option Value} {base : Heap}
theorem fn_bodyM {δ ρ : Type} {T : Tb} {args : δ → List SV} {ms : δ → Mt} {pre : δ → Prop} {post : δ → ρ → Prop} {res : δ → ρ → SV} {ms' : δ → ρ → Mt} {x qual : Str} {st : Stmt} {f : Addr} {fd : FuncData} {N ps : List Str} {k : Nat} (F : Fun K x qual st f fd) (S : FnScope N ps (defScope st)) (hl : ∀ d, (args d).length = ps.length)
    (body : ∀ d, pre d → ∀ (cdv : Value) (A : Around) (outer : List Env) (s : Shared) (I H : Hp) (E : XK) (D : Ends), Room k (A.deeper (envOfC qual (defScope st) s.heap.objs.size f cdv)) →
      (∀ r v I' H', post d r → Gr T ((ms d).map (·.1)) I H I' H' → (res d r).p v I' → Ms (ms' d r) I' H' → D.rt v H') → (∀ r σ I' H', post d r → Gr T ((ms d).map (·.1)) I H I' H' → (res d r).p .non I' → Ms (ms' d r) I' H' → D.nx σ H') →
      Tr ⟨T, (ms d).map (·.1), I, H, []⟩ (cxN P w K mg base N qual st f cdv A outer s H E) (st0 N (args d)) (ms d) (defBody st) D) : FnOk P w K mg base CX0 (k + 1) f fd ps (spM T args ms pre post res ms') := by
  refine F.ok S (fun vs H Q E h => ?_) (fun cdv A outer s H vs Q E hr h => ?_)
  · obtain ⟨d, I, _, _, h3, _⟩ := h
    rw [← h3.length, hl]
  · obtain ⟨d, I, h1, h2, h3, h4, h5, q⟩ := h
    refine ⟨_, ps_ws, body d h1 cdv A outer s I H E { nx := fun _ H' => Q .non H', rt := Q } hr (fun r v I' H' o g p m => q r v I' H' o g p m) (fun r σ I' H' o g p m => q r _ I' H' o g p m) (L2.start N vs) I H ⟨sl_startM h3 h4 h5, Gr.refl h2, (fun m hm => .inr (List.mem_map_of_mem hm)), (fun A hA => nomatch hA)⟩⟩
end
/-! ### expressions that change things -/
def DX (B : Bg) (X : Cx) (Γ : Ct) (M : Mt) (e : Expr) {ι : Type} (C : ι → Prop) (S : ι → SV) (M' : ι → Mt) : Prop :=
  ∀ (σ : L2.St) (I H : Hp) (Q : VK), As B Γ M σ I H → (∀ i v I' H', C i → As B Γ (M' i) σ I' H' → Xt I I' → (S i).p v I' → Q v H') → WE X e σ H Q
section
variable {B : Bg} {X : Cx} {Γ : Ct} {M : Mt} {a b e : Expr} {es : List Expr} {S Sa Sb : SV} {Ss : List SV} {pos p : Pos} {x : Str} {k k' : Nat} {ps : List Str} {rest : List Stmt} {D : Ends} {i : Nat}
theorem As.ms (s : As B Γ M σ I H) (ms : Mt) (hs : ∀ m ∈ ms, m ∈ M) : Ms ms I H := fun m hm => s.sl.mu m (hs m hm)
/-- what a call that changed the things ms leaves, told alike -/
theorem As.after {σ : L2.St} {I H I' H' : Hp} (s : As B Γ M σ I H) {ms : Mt} (hs : ∀ m ∈ ms, m ∈ M) (g : Gr B.T (ms.map (·.1)) I H I' H') (hm : Ms ms I' H') : As B Γ M σ I' H' := by
  have nd : ∀ z ∈ M, ∀ m ∈ ms, z.1 = m.1 → z = m := fun z hz m hm e => by
    obtain ⟨j, hj⟩ := List.getElem?_of_mem hz
    obtain ⟨j', hj'⟩ := List.getElem?_of_mem (hs m hm)
    have h1 : (M.map (·.1))[j]? = some z.1 := by rw [List.getElem?_map, hj]; rfl
    have h2 : (M.map (·.1))[j']? = some z.1 := by rw [List.getElem?_map, hj', e]; rfl
    have := nd_ix s.sl.nd h1 h2
    subst this
    rw [hj] at hj'
    exact Option.some.inj hj'
  refine ⟨⟨s.sl.len, fun j S e => let ⟨v, h1, h2⟩ := s.sl.sl j S e; ⟨v, h1, S.mono g.sub h2⟩, fun z hz => ?_, s.sl.nd⟩, ?_, s.ow, fun A hA => (s.an A hA).trans g.sub⟩
  · by_cases q : z.1 ∈ ms.map (·.1)
    · obtain ⟨m, h1, h2⟩ := List.mem_map.mp q
      have e := nd z hz m h1 h2.symm
      rw [e]
      exact hm m h1
    · obtain ⟨h1, o, h2, h3⟩ := s.sl.mu z hz
      exact ⟨g.fr _ o h1 h2 (z.2.mo h3), o, g.keep _ o h2 (z.2.mo h3).nt q, z.2.mono g.sub h3⟩
  · have ow' : ∀ m ∈ ms, Fz B.H0 m.1 ∨ m.1 ∈ B.P := fun m hm => s.ow m (hs m hm)
    refine ⟨g.wd, s.gr.sub.trans g.sub, fun c o h n q => ?_, fun c o h n => ?_, fun c o z h n => ?_⟩
    · refine g.keep c o (s.gr.keep c o h n q) n fun z => ?_
      obtain ⟨m, h1, h2⟩ := List.mem_map.mp z
      rcases ow' m h1 with y | y
      · rw [h2] at y
        exact y o h n
      · rw [h2] at y
        exact q y
    · obtain ⟨o', h', n', m'⟩ := s.gr.there c o h n
      obtain ⟨o2, h2, n2, m2⟩ := g.there c o' h' n'
      exact ⟨o2, h2, n2, fun z => m2 (m' z)⟩
    · obtain ⟨o', h', n', m'⟩ := s.gr.there c o h n.nt
      exact g.fr c o' (s.gr.fr c o z h n) h' (m' n)
theorem dx_of (h : DE B.T X Γ M e S) : DX B X Γ M e (fun _ : Unit => True) (fun _ => S) (fun _ => M) := fun σ I H Q s q => h σ I H Q s.sl s.wd fun v I' H' g p => q () v I' H' trivial (s.grow g) g.sub p
/-- a call that leaves the things told alike -/
theorem dx_call {δ ρ : Type} {args : δ → List SV} {ms : δ → Mt} {pre : δ → Prop} {post : δ → ρ → Prop} {res : δ → ρ → SV} (G : FD X.prog X.w X.K X.mg X.base k x ps (spM B.T args ms pre post res (fun d _ => ms d))) (hr : Room k' X.A) (hk : k ≤ k') (d : δ) (hp : pre d) (hm : ∀ m ∈ ms d, m ∈ M) (hnd : ((ms d).map (·.1)).Nodup)
    (ha : DA B.T X Γ M (e :: es) (args d)) (hg : Gl X x := by rfl) (hdb : (x == ("__debug__" : Str)) = false := by decide)
    (he : starEach (e :: es) X.env = (false, eval e X.env) :: starEach es X.env := by rfl) (hpl : (backTo pos (starEach es X.env)).any (·.1) = false := by rfl) : DX B X Γ M (.Call (.Name x p) (e :: es) [] pos) (post d) (res d) (fun _ => M) := fun σ I H Q s q => by
  obtain ⟨f, fd, hmg, kp, hb, F⟩ := G.ex
  exact we_of (pe_call F (hr.mono hk) hg hmg kp hb .nil (pass0 (X := X)) pa_wa hdb he hpl) (ha σ I H _ s.sl s.wd fun vs I1 H1 g1 p1 => by
    have s1 := s.grow g1
    exact ⟨d, I1, hp, g1.wd, by rw [List.append_nil]; exact p1, s1.ms _ hm, hnd, fun r v I2 H2 o g2 p2 m2 => q r v I2 H2 o (s1.after hm g2 m2) (g1.sub.trans g2.sub) p2⟩)
theorem tr_asgX {ι : Type} {C : ι → Prop} {S : ι → SV} {M' : ι → Mt} {px : Pos} (hN : X.N.Nodup) (hi : X.N[i]? = some x) (he : DX B X Γ M e C S M') (h : ∀ r, C r → Tr B X (Γ.set i (some (S r))) (M' r) rest D) (hx : Loc X.env.scope x := by first | exact .inl rfl | exact .inr rfl)
    (hs : swapsWith e (some (.Name x px)) pos.line X.env = pure false := by rfl) (hf : X.fn x = true ∨ X.env.scope.names.lookup x = some .local := by first | exact .inl rfl | exact .inr rfl) : Tr B X Γ M (.Assign [.Name x px] e pos :: rest) D := fun σ I H s =>
  ws_cons (ps_set (i := i) hN hi hx pe_we hs hf) (he σ I H _ s fun r v I' H' c s' xt pv => h r c _ I' H' (s'.set pv))
/-- a op b, a changing things; b changing them -/
theorem dx_opL {ι : Type} {Ci : ι → Prop} {Sa S : ι → SV} {M' : ι → Mt} {op : Operator} {r : R2} (ho : OpR X (binaryOp op) r) (hr : ∀ i, Ci i → RD2 B.T r (Sa i) Sb (S i)) (ha : DX B X Γ M a Ci Sa M') (hb : ∀ i, Ci i → DE B.T X Γ (M' i) b Sb) : DX B X Γ M (.BinOp a op b pos) Ci S M' := fun σ I H Q s q =>
  we_of (pe_op ho pe_we pe_we) (ha σ I H _ s fun j x I1 H1 cj s1 xt p1 => hb j cj σ I1 H1 _ s1.sl s1.wd fun y I2 H2 g2 p2 => hr j cj x y I2 H2 Q g2.wd ((Sa j).mono g2.sub p1) p2 fun v I3 H3 g3 p3 => q j v I3 H3 cj ((s1.grow g2).grow g3) ((xt.trans g2.sub).trans g3.sub) p3)
theorem dx_opR {ι : Type} {Ci : ι → Prop} {Sb S : ι → SV} {M' : ι → Mt} {op : Operator} {r : R2} (ho : OpR X (binaryOp op) r) (hr : ∀ i, Ci i → RD2 B.T r Sa (Sb i) (S i)) (ha : DE B.T X Γ M a Sa) (hb : DX B X Γ M b Ci Sb M') : DX B X Γ M (.BinOp a op b pos) Ci S M' := fun σ I H Q s q =>
  we_of (pe_op ho pe_we pe_we) (ha σ I H _ s.sl s.wd fun x I1 H1 g1 p1 => hb σ I1 H1 _ (s.grow g1) fun j y I2 H2 cj s2 xt p2 => hr j cj x y I2 H2 Q s2.wd (Sa.mono xt p1) p2 fun v I3 H3 g3 p3 => q j v I3 H3 cj (s2.grow g3) ((g1.sub.trans xt).trans g3.sub) p3)
/-- a built-in class's call upon one argument that changes things -/
theorem dx_callTy1 {ι : Type} {Ci : ι → Prop} {Sa S : ι → SV} {M' : ι → Mt} {r : List V → Hp → VK → Prop} {id : String} (hc : CallR X (.type id) r) (hr : ∀ i, Ci i → RDC B.T r [Sa i] (S i)) (hm : X.mg x = none) (hv : bootBuiltins x = some (.type id)) (ha : DX B X Γ M e Ci Sa M') (hg : Gl X x := by rfl) (hn : x ≠ "__name__" := by decide) (hdb : (x == ("__debug__" : Str)) = false := by decide)
    (he : starEach [e] X.env = (false, eval e X.env) :: starEach [] X.env := by rfl) (hpl : (backTo pos (starEach [] X.env)).any (·.1) = false := by rfl) : DX B X Γ M (.Call (.Name x p) [e] [] pos) Ci S M' := fun σ I H Q s q =>
  we_of (pe_callTy hc hg hm hv (pa_cons pe_we pa_nil he) hn hdb he hpl) (ha σ I H _ s fun j v I1 H1 cj s1 xt p1 => hr j cj [v] I1 H1 Q s1.wd (.cons p1 .nil) fun u I2 H2 g2 p2 => q j u I2 H2 cj (s1.grow g2) (xt.trans g2.sub) p2)
end
end Rm
set_option Elab.async false
set_option linter.all false
set_option maxRecDepth 100000
set_option maxHeartbeats 4000000
/-! The D-layer, part 7: enumerate of lists and tuples. -/
namespace Rm
open PySem PySem.Spec PyProof.Rows L2 LamX
open PySem.AutoSeq1 (wpAny_loadPart')

theorem meets_enumT (l : Addr) (items : Array Value) :
    Meets (Builtin.«enumerate.__new__» ⟨[.type "enumerate", .ref l], []⟩) (fun _ R s => s.heap.IsTuple l items ∧
      R (.ok (.ret (.ref (s.heap.push { cls := .type "tuple_iterator", data := .fields #[.ref l, .int 0 0] }).objs.size)))
        { s with heap := (s.heap.push { cls := .type "tuple_iterator", data := .fields #[.ref l, .int 0 0] }).push { cls := .type "enumerate", data := .fields #[.none, .bool false, .ref s.heap.objs.size, rawInt 0, .none, .none] } }) :=
  .of_wp fun prog w A R s h => by
    obtain ⟨hp, g, d, tk, os⟩ := s
    obtain ⟨hL, h⟩ := h
    have hsub := sub_enumerate
    have q1 : ∀ {A' : Around} {E : Value → Shared → Prop} {Q : Value → Shared → Prop}, Q (.ref hp.objs.size) ⟨hp.push { cls := .type "tuple_iterator", data := .fields #[.ref l, .int 0 0] }, g, d, tk, os⟩ → wpAny (model prog w) A' (pyIter (.ref l)) Q E ⟨hp, g, d, tk, os⟩ :=
      fun q => wpAny_pyIter_tuple (s := ⟨hp, g, d, tk, os⟩) hL q
    wp_walk using q1
    refine wpAny_stack_any fun st => wpAny_pure ?_
    split
    · rename_i c _ _ _ _ _
      cases (c == Value.type "enumerate")
      · wp_walk using q1
        exact ⟨_, rfl, h⟩
      · wp_walk using q1
        exact ⟨_, rfl, h⟩
    · wp_walk using q1
      exact ⟨_, rfl, h⟩
theorem call_enumT {prog : Program} {w : World} {A : Around} {E : Value → Shared → Prop} {s : Shared} {l : Addr} {items : Array Value} {Q : Value → Shared → Prop} (hL : s.heap.IsTuple l items)
    (h : ∀ h', IsEnum h' (s.heap.objs.size + 1) s.heap.objs.size 0 .none → h'.IsTupleIter s.heap.objs.size l 0 → h'.objs.size = s.heap.objs.size + 2 →
      (∀ b o, s.heap.get? b = some o → h'.get? b = some o) → Q (.ref (s.heap.objs.size + 1)) { s with heap := h' }) :
    wpAny (model prog w) A (call (.type "enumerate") [.ref l]) Q E s := by
  refine callType_new F.called_enumerate (by decide) (F.typeCall_enumerate_1 _) (F.newCall_enumerate_1 _) (fun obj => F.args_object_init_2 obj _) F.entry_enumerate_new
    (meets_enumT l items) ⟨hL, ?_⟩
  have hz : (s.heap.push { cls := .type "tuple_iterator", data := .fields #[.ref l, .int 0 0] }).objs.size = s.heap.objs.size + 1 := Heap.size_push ..
  show _ ∧ _
  rw [hz]
  have he : IsEnum ((s.heap.push { cls := .type "tuple_iterator", data := .fields #[.ref l, .int 0 0] }).push
      { cls := .type "enumerate", data := .fields #[.none, .bool false, .ref s.heap.objs.size, rawInt 0, .none, .none] }) (s.heap.objs.size + 1) s.heap.objs.size 0 .none := by
    have := Heap.get?_push_size (s.heap.push { cls := .type "tuple_iterator", data := .fields #[.ref l, .int 0 0] })
      (o := { cls := .type "enumerate", data := .fields #[.none, .bool false, .ref s.heap.objs.size, rawInt 0, .none, .none] }) rfl
    rw [hz] at this; exact this
  refine ⟨⟨_, he, rfl⟩, h _ he ⟨_, Heap.get?_push_of_some _ (Heap.get?_push_size _ rfl), rfl, rfl⟩ (by rw [Heap.size_push, hz]) fun b o x => Heap.get?_push_of_some _ (Heap.get?_push_of_some _ x)⟩
theorem enumT_end {prog : Program} {w : World} {A : Around} {E : Value → Shared → Prop} {s : Shared} {e it t : Addr} {i : Nat} {items : Array Value} {k : Int} {old : Value} {Q : Option Value → Shared → Prop} (hh : A.handled = none)
    (he : IsEnum s.heap e it k old) (hit : s.heap.IsTupleIter it t i) (ht : s.heap.IsTuple t items) (hx : items[i]? = none)
    (hQ : ∀ h', Heap.ExtBut it s.heap h' → Q none { s with heap := h' }) : wpAny (model prog w) A (pyNext (.ref e)) Q E s := by
  have hT : s.TypeIs (.ref e) "enumerate" := ⟨_, he, rfl⟩
  unfold pyNext
  refine wpAny_bind (wpAny_attempt (wpAny_callSpecial?_slot (name := Str.ofString "__next__") hT F.slot_enumerate_next
    (wpAny_call_entry F.slot_enumerate_next hT F.entry_enumerate_next ?_ (F.args_enumerate_next_1 _))))
  show wpAny _ _ (field (.ref e) 2 >>= _) _ _ _
  refine wpAny_bind (wpAny_field he rfl (x := .ref it) rfl ?_)
  refine wpAny_bind (wpAny_nextOf_tuple_end (by exact hh) hit ht hx fun h' x he' hx' => ?_)
  obtain ⟨o, ho, hc⟩ := hx'
  refine wpAny_bind (wpAny_isInstance (T := "StopIteration") (b := true) ⟨o, ho, hc⟩ isSubtype_stop ?_)
  exact wpAny_pure (hQ _ he')
/-- the tuple at a, each item in a new pair -/
def IteT (K : PySem.W.Frag) (a : Addr) : It :=
  ⟨fun i H => ∃ (xs : List V) (x : V), SqT K H a xs ∧ xs[i]? = some x, fun i H v H' => ∃ T x, v = .ref T ∧ H T = none ∧ H' = upd H T (.tup [.int (i : Nat), x]) ∧ ∀ xs, SqT K H a xs → xs[i]? = some x, fun i H => ∃ xs : List V, SqT K H a xs ∧ xs.length ≤ i⟩
theorem turn_enumT {P : Program} {w : World} {K : PySem.W.Frag} {elts : List Expr} {kk : Nat} {tpos : Pos} (a e it : Addr) :
    Turn P w K (.Tuple elts kk tpos) (IteT K a) [e, it] e (fun i h => (∃ old, IsEnum h e it ((i : Nat) : Int) old) ∧ h.IsTupleIter it a i ∧ e ≠ it ∧ a ≠ it ∧ a ≠ e) where
  mem := by simp
  obj := fun i h st b hb => by
    obtain ⟨⟨old, he⟩, ⟨o, ho, hc, hd⟩, _⟩ := st
    have e' : b = e ∨ b = it := by simpa using hb
    rcases e' with z | z
    · rw [z]; exact ⟨_, he, fun v q => nomatch q⟩
    · rw [z]; exact ⟨o, ho, fun v q => by rw [hd] at q; cases q⟩
  keep := fun i h h' st k => let ⟨⟨old, he⟩, hi, hne⟩ := st; ⟨⟨old, k e (by simp) _ he⟩, hi.at fun o q => k it (by simp) o q, hne⟩
  item := by
    intro X hP hw hK hc i pins s σ H E I hf st hg
    subst hP hw hK
    obtain ⟨⟨old, he⟩, hit, hne, hai, hae⟩ := st
    obtain ⟨xs, x, hq, hx⟩ := hg
    obtain ⟨its, rv, p, hz⟩ := I.tuple hq
    obtain ⟨u, hu, ru⟩ := rv.get hx
    have hel : e < s.heap.objs.size := Heap.lt_size he
    have hil : it < s.heap.objs.size := by obtain ⟨_, q, _⟩ := hit; exact Heap.lt_size q
    have D := Draws.tuple (prog := X.prog) (w := X.w) (A := X.A.in1) (I.ok.hd hc) it a hai its.toArray
    have hsz' : i < its.toArray.size := by
      have := (List.getElem?_eq_some_iff.mp hu).1
      simpa using this
    refine wpAny_pyNext_enum_itemD D he ⟨hit, show s.heap.IsTuple a its.toArray from p⟩ hsz' hne (fun z => ?_) fun y h' tk hy ho hst' hT hsz hk => ?_
    · have e' : e = it ∨ e = a := by simpa using z
      rcases e' with z | z
      · exact hne z
      · exact hae z.symm
    have ey : y = u := by
      have h1 : its.toArray[i]? = some y := hy
      have h2 : its.toArray[i]? = some u := by simpa using hu
      rw [h1] at h2
      exact Option.some.inj h2
    subst ey
    refine ⟨_, rfl, wpAny_letOwnedTupleGo_enum (s := { s with heap := h', toks := tk + 1 }) ho fun h'' he' sb => ?_⟩
    have hT2 : h''.get? s.heap.objs.size = some { cls := .type "tuple", data := .seq #[.int i tk, y] } := (sb.2 _ (Nat.ne_of_gt hel)).trans hT
    have new : ObjOk X.prog X.w (upd H s.heap.objs.size (.tup [.int (i : Nat), x])) h'' s.heap.objs.size (.tup [.int (i : Nat), x]) :=
      ⟨by show 2 ≤ sizeLine; decide, [.int i tk, y], .cons ⟨_, rfl⟩ (.cons ru .nil), ⟨_, hT2, rfl, _, rfl⟩⟩
    have I1 : Inv X pins σ (upd H s.heap.objs.size (.tup [.int (i : Nat), x])) { s with heap := h'', toks := tk + 1 } :=
      I.turnedNew (ch := [e, it]) (fun b ob hb q => (sb.2 b (fun z => hb (by simp [z]))).trans (hk b ob (fun z => hb (by simp [z])) (fun z => hb (by simp [z])) q)) hf (Nat.le_refl _) new
    refine ⟨.ref s.heap.objs.size, _, I1, rfl, ⟨_, x, rfl, I.hok.fresh (Nat.le_refl _), rfl, fun ys hy => by rw [I.tuple_inj hy hq]; exact hx⟩, ⟨⟨y, ?_⟩, hst'.1.at fun o q => (sb.2 it (Ne.symm hne)).trans q, hne, hai, hae⟩, fun b hb => ?_⟩
    · have e1 : ((i + 1 : Nat) : Int) = (i : Int) + 1 := by omega
      rw [e1]; exact he'
    · have hb' : b < s.heap.objs.size := by
        have e' : b = e ∨ b = it := by simpa using hb
        rcases e' with z | z
        · rw [z]; exact hel
        · rw [z]; exact hil
      rw [upd_ne (Nat.ne_of_lt hb')]
      exact (hf b hb).1
  done := by
    intro X hP hw hK hc i pins s σ H E I hf st hg
    subst hP hw hK
    obtain ⟨⟨old, he⟩, hit, hne, hai, hae⟩ := st
    obtain ⟨xs, hq, hx⟩ := hg
    obtain ⟨its, rv, p, hz⟩ := I.tuple hq
    obtain ⟨f0, f1, f2, f3, f4, f5⟩ := hf it (by simp)
    have hl := rv.length
    exact enumT_end (I.ok.hd hc) he hit (show s.heap.IsTuple a its.toArray from p) (by rw [List.getElem?_toArray]; exact List.getElem?_eq_none (by omega)) fun h' eb => ⟨rfl, I.turned (t' := s.toks) (fun b o hb q => eb b o hb q) f0 f1 f3 f4 f5⟩
  self := fun A i s Q E st h => let ⟨⟨_, he⟩, _⟩ := st; wpAny_pyIter_enum he h
def iEnumS (K : PySem.W.Frag) (ta : TA) : TI := fun σ H R => ta σ H fun vs H1 => ∃ a, vs = [.ref a] ∧ (((∃ xs, SqL K H1 a xs) ∧ R (Ite K a) H1) ∨ ((∃ xs, SqT K H1 a xs) ∧ R (IteT K a) H1))
theorem pi_enumS {X : Cx} {e : Expr} {ta : TA} {p pos tpos : Pos} {elts : List Expr} {kk : Nat} (hg : Gl X "enumerate") (hm : X.mg "enumerate" = none) (ha : PA X [e] ta) (hs : starEach [e] X.env = [(false, eval e X.env)] := by rfl) :
    PI X (.Tuple elts kk tpos) (.Call (.Name "enumerate" p) [e] [] pos) (iEnumS X.K ta) := by
  refine ⟨fun pins s σ H R I h => ?_⟩
  refine Call_ (ld_blt I hg hm boot_enumerate (PyProof.Rows.callWith_type1 (thn (ha.run pos pins s σ H _ I h) fun us s1 ⟨vs, H1, I1, r1, q1⟩ => ?_) hs rfl))
  obtain ⟨a, ex, q⟩ := q1
  subst ex
  cases r1 with
  | cons r rr =>
    cases rr
    cases r
    have fp : ∀ (h' : Heap), (∀ b o, s1.heap.get? b = some o → h'.get? b = some o) → ∀ b ∈ [s1.heap.objs.size + 1, s1.heap.objs.size], FpOk X pins H1 b := fun h' hk b hb => by
      have e' : b = s1.heap.objs.size + 1 ∨ b = s1.heap.objs.size := by simpa using hb
      have hle : s1.heap.objs.size ≤ b := by
        rcases e' with z | z
        · rw [z]; exact Nat.le_add_right _ _
        · rw [z]; exact Nat.le_refl _
      exact I1.fpOk hle (I1.hok.fresh hle)
    rcases q with ⟨⟨xs, hq⟩, q⟩ | ⟨⟨xs, hq⟩, q⟩
    · obtain ⟨its, rv, p', hz⟩ := I1.list hq
      refine call_enumerate_list p'.isList fun h' he hit hsz hk => wpAny_pyIter_enum he ?_
      have I2 : Inv X pins σ H1 { s1 with heap := h' } := I1.kept (t' := s1.toks) hk
      exact ⟨s1.heap.objs.size + 1, [s1.heap.objs.size + 1, s1.heap.objs.size], _, _, H1, rfl, I2, turn_enum a (s1.heap.objs.size + 1) s1.heap.objs.size, ⟨⟨.none, he⟩, hit, Nat.succ_ne_self _⟩, fp h' hk, q⟩
    · obtain ⟨its, rv, p', hz⟩ := I1.tuple hq
      have hal : a < s1.heap.objs.size := p'.lt
      refine call_enumT (show s1.heap.IsTuple a its.toArray from p') fun h' he hit hsz hk => wpAny_pyIter_enum he ?_
      have I2 : Inv X pins σ H1 { s1 with heap := h' } := I1.kept (t' := s1.toks) hk
      exact ⟨s1.heap.objs.size + 1, [s1.heap.objs.size + 1, s1.heap.objs.size], _, _, H1, rfl, I2, turn_enumT a (s1.heap.objs.size + 1) s1.heap.objs.size, ⟨⟨.none, he⟩, hit, Nat.succ_ne_self _, Nat.ne_of_lt hal, Nat.ne_of_lt (Nat.lt_succ_of_lt hal)⟩, fp h' hk, q⟩
/-- (i, x), a new tuple -/
def enumSs (K : PySem.W.Frag) (Ss : List SV) : List SV := (List.range Ss.length).map fun i => sTup K [sD K (eN i), Ss.getD i (sD K .none)]
theorem enumSs_get {K : PySem.W.Frag} {Ss : List SV} {i : Nat} {S : SV} (h : (enumSs K Ss)[i]? = some S) : ∃ S', Ss[i]? = some S' ∧ S = sTup K [sD K (eN i), S'] := by
  unfold enumSs at h
  have hl : i < Ss.length := by
    have := (List.getElem?_eq_some_iff.mp h).1
    rwa [List.length_map, List.length_range] at this
  rw [List.getElem?_map, List.getElem?_range hl] at h
  refine ⟨Ss[i], List.getElem?_eq_getElem hl, ?_⟩
  have h2 := Option.some.inj h
  rw [← h2]
  show sTup K [sD K (eN i), Ss.getD i (sD K .none)] = _
  rw [List.getD_eq_getElem?_getD, List.getElem?_eq_getElem hl]
  rfl
theorem enumSs_len {K : PySem.W.Frag} {Ss : List SV} : (enumSs K Ss).length = Ss.length := by
  unfold enumSs
  rw [List.length_map, List.length_range]
theorem ite_ok {T : Tb} {K : PySem.W.Frag} {a : Addr} {vs : List V} {Ss : List SV} {I0 : Hp} (h : SqL K I0 a vs) (hv : AllV Ss vs I0) : ItOk T (Ite K a) (enumSs K Ss) I0 := fun i I H e w => by
  have hq : SqL K H a vs := w.sub.l (e.l h)
  refine ⟨fun hi => ⟨vs, hq, by rw [← hv.length]; rw [enumSs_len] at hi; exact hi⟩, fun S hS => ?_⟩
  obtain ⟨S', h1, rfl⟩ := enumSs_get hS
  obtain ⟨v, h2, h3⟩ := hv.get h1
  refine ⟨⟨vs, v, hq, h2⟩, fun x H' y => ?_⟩
  obtain ⟨t, u, rfl, hn, rfl, hu⟩ := y
  have e3 := hu vs hq
  rw [h2] at e3
  cases e3
  exact ⟨_, Gr.new w hn nt_t, t, _, rfl, .inl (.inl upd_same), .cons (.int _) (.cons (S'.mono (e.trans (Xt.new (w.free hn))) h3) .nil)⟩
theorem iteT_ok {T : Tb} {K : PySem.W.Frag} {a : Addr} {vs : List V} {Ss : List SV} {I0 : Hp} (h : SqT K I0 a vs) (hv : AllV Ss vs I0) : ItOk T (IteT K a) (enumSs K Ss) I0 := fun i I H e w => by
  have hq : SqT K H a vs := w.sub.t (e.t h)
  refine ⟨fun hi => ⟨vs, hq, by rw [← hv.length]; rw [enumSs_len] at hi; exact hi⟩, fun S hS => ?_⟩
  obtain ⟨S', h1, rfl⟩ := enumSs_get hS
  obtain ⟨v, h2, h3⟩ := hv.get h1
  refine ⟨⟨vs, v, hq, h2⟩, fun x H' y => ?_⟩
  obtain ⟨t, u, rfl, hn, rfl, hu⟩ := y
  have e3 := hu vs hq
  rw [h2] at e3
  cases e3
  exact ⟨_, Gr.new w hn nt_t, t, _, rfl, .inl (.inl upd_same), .cons (.int _) (.cons (S'.mono (e.trans (Xt.new (w.free hn))) h3) .nil)⟩
section
variable {T : Tb} {X : Cx} {Γ : Ct} {M : Mt} {e : Expr} {Ss : List SV} {pos p : Pos}
theorem di_enum {elts : List Expr} {kk : Nat} {tpos : Pos} (hm : X.mg "enumerate" = none) (h : DE T X Γ M e (sSeq X.K Ss)) (hg : Gl X "enumerate" := by rfl) (hs : starEach [e] X.env = [(false, eval e X.env)] := by rfl) (he : starEach [e] X.env = (false, eval e X.env) :: starEach [] X.env := by rfl) :
    DI T X Γ M (.Tuple elts kk tpos) (.Call (.Name "enumerate" p) [e] [] pos) (enumSs X.K Ss) := fun σ I H R s w k =>
  wi_of (pi_enumS hg hm pa_wa hs) (da_one h he σ I H _ s w fun vs I1 H1 g1 p1 => by
    obtain ⟨v, rfl, a, ys, rfl, h2, h3⟩ := allV1 p1
    rcases h2 with h2 | h2
    · exact ⟨a, rfl, .inl ⟨⟨ys, g1.wd.sub.l h2⟩, k _ I1 H1 g1 (ite_ok h2 h3)⟩⟩
    · exact ⟨a, rfl, .inr ⟨⟨ys, g1.wd.sub.t h2⟩, k _ I1 H1 g1 (iteT_ok h2 h3)⟩⟩)
end
section
variable {B : Bg} {X : Cx} {Γ Γ' : Ct} {M : Mt} {iter : Expr} {Ss : List SV} {pos px py tpos : Pos} {rest body : List Stmt} {D : Ends} {i j : Nat} {x y : Str} {kk : Nat}
/-- for x, y in pairs -/
theorem tr_for2 {δ : Type} {Pd : Nat → δ → Prop} {G : Nat → δ → Ct} {Mf : Nat → δ → Mt} (hp : PassesOwn (model X.prog X.w) X.A X.env X.xe) (hc : X.calm = true) (hN : X.N.Nodup) (hi : X.N[i]? = some x) (hj : X.N[j]? = some y) (hI : DI B.T X Γ M (.Tuple [.Name x px, .Name y py] kk tpos) iter Ss) (d0 : δ) (h0 : Pd 0 d0) (hw : Wk (G 0 d0) Γ) (hM : Mf 0 d0 = M)
    (hstep : ∀ (A : Hp) (k : Nat) (d : δ) (S : SV), Ss[k]? = some S → Pd k d → ∃ S1 S2, S = sTup X.K [S1, S2] ∧ Tr (B.anc A) X (((G k d).set i (some S1)).set j (some S2)) (Mf k d) body { D with nx := InvS (B.anc A) Pd G Mf (k + 1), ct := InvS (B.anc A) Pd G Mf (k + 1), bk := WS X rest D })
    (hrest : ∀ d, Pd Ss.length d → Tr B X (G Ss.length d) (Mf Ss.length d) rest D) (hx : Loc X.env.scope x := by first | exact .inl rfl | exact .inr rfl) (hy : Loc X.env.scope y := by first | exact .inl rfl | exact .inr rfl) (hf : X.fn x = true ∨ X.env.scope.names.lookup x = some .local := by first | exact .inl rfl | exact .inr rfl) (hf2 : X.fn y = true ∨ X.env.scope.names.lookup y = some .local := by first | exact .inl rfl | exact .inr rfl)
    (hs1 : (assignEach [.Name x px, .Name y py] X.env).map (·.2) = assign (.Name x px) X.env :: (assignEach [.Name y py] X.env).map (·.2) := by rfl) (hs2 : (assignEach [.Name y py] X.env).map (·.2) = assign (.Name y py) X.env :: (assignEach [] X.env).map (·.2) := by rfl)
    (hn : (assignEach [.Name x px, .Name y py] X.env).length = 2 := by rfl) (hst : (assignEach [.Name x px, .Name y py] X.env).findIdx? (·.1) = none := by rfl)
    (hs : ∀ x, foldedSetIterable iter X.env x = pure x := by intro _; rfl) : Tr B X Γ M (.For (.Tuple [.Name x px, .Name y py] kk tpos) iter body [] pos :: rest) D :=
  tr_forG hp hc hI (pg_tup hc (pgs_cons (pg_name (i := i) hN hi hx hf) (pgs_cons (pg_name (i := j) hN hj hy hf2) pgs_nil hs2) hs1) hn hst) d0 h0 hw hM (fun A k d S hS hd v σ I H s pv => by
    obtain ⟨S1, S2, rfl, h⟩ := hstep A k d S hS hd
    obtain ⟨a, vs, ev, h2, h3⟩ := pv
    obtain ⟨u, u', rfl, pu, pu'⟩ := allV2 h3
    exact ⟨a, _, ev, s.wd.sub.t h2, rfl, u, _, rfl, u', _, rfl, rfl, h _ I H ((s.set pu).set pu')⟩) hrest hs
end
end Rm
set_option Elab.async false
set_option linter.all false
set_option maxRecDepth 100000
set_option maxHeartbeats 4000000
/-! The D-layer, part 8: a lambda handed to a def that calls it. -/
namespace Rm
open PySem PySem.Spec PyProof.Rows L2 LamX NdefX

section
variable {P : Program} {w : World} {K : PySem.W.Frag} {mg : Str → Option Value} {base : Heap} {N ps fr : List Str} {F : NF} {f : Addr} {k : Nat}
/-- a lambda called -/
theorem lam_run {params : Arguments} {body : Expr} {pm ctv : Value} {A : Around} {outer : List Env} {s : Shared} {H : Hp} {us : List Value} {vs : List V} {ws : List (Option V)} {Q : VK} {tb : TE} (S : NScope N ps fr F.scope)
    (ho : s.heap.get? f = some (PySem.W.kla_obj "<lambda>" F.qual params body F.scope F.cl pm F.c ctv)) (hc : H F.c = some (CodeO F.c F.qual)) (hb : bindArgs (PySem.W.kla_fn "<lambda>" F.qual params body F.scope F.cl pm (.ref F.c) ctv) ⟨us, []⟩ = pure (ps.zip us))
    (C : CellsAt F.cl fr ws s.heap H) (r : Vals vs us) (hl : vs.length = ps.length) (e0 : Env0 P w K mg base A outer s H) (hr : Room (k + 1) A)
    (hbody : Room k (A.deeper (envF F f s.heap.objs.size)) → PE (ncx CX0 P w K mg base N F f A outer s H E0) body tb) (q : tb (startF N vs ws) H Q) :
    codeAny (model P w) A (.call (.ref f) ⟨us, []⟩) (CR CX0 outer P w H s Q E0) s := by
  have lim : s.heap.NoLimit := e0.mod.nolimit.keeps fun b o e => (e0.bs b o e).1
  refine PySem.W.kla_callFunE hr.depth ho rfl S.co S.gen rfl (codeO_at e0.hok hc) ?_
  rw [hb]
  refine wpAny_pure (wpAny_newFunctionEnv S.nocell (fun ⟨n, _⟩ hy => S.par n (List.of_mem_zip hy).1) (fun h₁ hns hsb => ⟨lim.fresh _ hsb, ?_⟩) S.kind)
  show codeAny _ _ (.expr body (envF F f s.heap.objs.size)) _ _
  have kp : ∀ b o, s.heap.get? b = some o → h₁.get? b = some o := fun b o e => hsb.extBut b o (Nat.ne_of_lt (Heap.lt_size e)) (Heap.get?_push_of_some _ e)
  have I : Inv (ncx CX0 P w K mg base N F f A outer s H E0) [] (startF N vs ws) H { s with heap := h₁, toks := s.toks + (ps.zip us).length } := inv_startN S hr.hd e0 hl r C hns kp
  refine PySem.W.kla_codeExpr (wpAny_mono ((hbody (hr.deeper _)).run [] _ (startF N vs ws) H Q I q) (fun v s' hq => ?_) fun e s' hq => hq)
  obtain ⟨w', H', J, rv, q⟩ := hq
  exact ⟨w', H', J.os, J.bare, J.base, J.hok, rv, q⟩
end

/-- what the captured cells held when the running frame began they hold still -/
theorem cells_later {X : Cx} {pins : List (Addr × Obj)} {σ : L2.St} {H : Hp} {s : Shared} {cl : List (Str × Addr)} {fr : List Str} {ws : List (Option V)} (C : CellsAt cl fr ws X.s_0.heap X.H_0) (hx : ∀ c, c ∉ X.ex) (I : Inv X pins σ H s) : CellsAt cl fr ws s.heap H := by
  have kp : ∀ y c, cl.lookup y = some c → ∀ v, X.s_0.heap.IsCell c v → s.heap.IsCell c v := fun y c e v ⟨o, ho, hd⟩ =>
    let ⟨_, q⟩ := I.base.any ho (C.all y c e).1 (hx c); ⟨_, q, hd⟩
  refine ⟨C.len, fun y c e => ?_, C.inj, fun i y e => ?_⟩
  · obtain ⟨n, v, z⟩ := C.all y c e
    refine ⟨?_, v, kp y c e v z⟩
    obtain ⟨o, ho, _⟩ := z
    exact I.base.free c o ho n (hx c)
  · obtain ⟨c, hc, hv⟩ := C.has i y e
    refine ⟨c, hc, fun v ev => ?_⟩
    obtain ⟨u, r, z⟩ := hv v ev
    exact ⟨u, r, kp y c hc _ z⟩
/-- what the captured names hold -/
def CapV (cs : Ct) (ws : List (Option V)) (I : Hp) : Prop := ws.length = cs.length ∧ ∀ (k : Nat) (S : SV), cs[k]? = some (some S) → ∃ v, ws[k]? = some (some v) ∧ S.p v I
theorem CapV.mono {cs : Ct} {ws : List (Option V)} {I J : Hp} (e : Xt I J) (h : CapV cs ws I) : CapV cs ws J := ⟨h.1, fun k S q => let ⟨v, h1, h2⟩ := h.2 k S q; ⟨v, h1, S.mono e h2⟩⟩
/-- the lambda f -/
def sFn (f : Addr) (F : NF) (ws : List (Option V)) (cs : Ct) : SV := ⟨fun v I => v = .ref f ∧ I F.c = some (CodeO F.c F.qual) ∧ CapV cs ws I, fun e ⟨h1, h2, h3⟩ => ⟨h1, e _ _ h2, h3.mono e⟩⟩
/-- the slots at the lambda's entry -/
def stL (N : List Str) (Sa : SV) (cs : Ct) : Ct := some Sa :: (cs ++ List.replicate (N.length - 1 - cs.length) none)
theorem sl_startL {N : List Str} {Sa : SV} {cs : Ct} {v : V} {ws : List (Option V)} {I H : Hp} (h : Sa.p v I) (hc : CapV cs ws I) : Sl (stL N Sa cs) [] (startF N [v] ws) I H := by
  have hl := hc.1
  refine ⟨?_, fun i S e => ?_, (fun m hm => nomatch hm), List.nodup_nil⟩
  · unfold stL startF
    simp only [List.length_append, List.length_cons, List.length_map, List.length_nil, List.length_replicate]
    omega
  · cases i with
    | zero =>
      have e : some (some Sa) = some (some S) := e
      cases e
      exact ⟨v, rfl, h⟩
    | succ i =>
      have e : (cs ++ List.replicate (N.length - 1 - cs.length) none)[i]? = some (some S) := e
      show ∃ u, (ws ++ List.replicate (N.length - 1 - ws.length) none)[i]? = some (some u) ∧ S.p u I
      by_cases hi : i < cs.length
      · rw [List.getElem?_append_left hi] at e
        rw [List.getElem?_append_left (by omega)]
        exact hc.2 i S e
      · rw [List.getElem?_append_right (by omega), List.getElem?_replicate] at e
        split at e <;> cases e
section
variable {X : Cx} {pins : List (Addr × Obj)} {σ : L2.St} {H : Hp} {s : Shared}
/-- a(e), in the def that got the lambda f as a: Z is that def's context, entered at (s, H) -/
theorem pe_lamz {Ng : List Str} {qg : Str} {sg : Scope} {g f : Addr} {cdg pm ctv : Value} {params : Arguments} {body : Expr} {N fr : List Str} {a0 a : Str} {F : NF} {ws : List (Option V)} {k i : Nat} {tb : TE} {ta : TA} {arg : Expr} {p1 p2 : Pos} (I : Inv X pins σ H s)
    (hf : s.heap.get? f = some (PySem.W.kla_obj "<lambda>" F.qual params body F.scope F.cl pm F.c ctv)) (hfn : H f = none) (hfr : f ∉ frs X.stack) (S : NScope N [a0] fr F.scope)
    (C : CellsAt F.cl fr ws s.heap H) (hbind : ∀ u, bindArgs (PySem.W.kla_fn "<lambda>" F.qual params body F.scope F.cl pm (.ref F.c) ctv) ⟨[u], []⟩ = pure [(a0, u)])
    (hr : Room (k + 1) (X.A.deeper (envOfC qg sg s.heap.objs.size g cdg)))
    (hbody : ∀ (A : Around) (outer : List Env) (s : Shared) (H : Hp), Room k (A.deeper (envF F f s.heap.objs.size)) → PE (ncx CX0 X.prog X.w X.K X.mg X.base N F f A outer s H E0) body tb)
    (hN : Ng[i]? = some a) (hv : Vis sg a) (ha : PA (cxOf CX0 X.prog X.w X.K X.mg X.base Ng qg sg g cdg X.A X.stack s H E0).nox [arg] ta) (hd : (a == ("__debug__" : Str)) = false) (hcd : (a == ("__classdict__" : Str)) = false)
    (he : starEach [arg] (cxOf CX0 X.prog X.w X.K X.mg X.base Ng qg sg g cdg X.A X.stack s H E0).nox.env = (false, eval arg (cxOf CX0 X.prog X.w X.K X.mg X.base Ng qg sg g cdg X.A X.stack s H E0).nox.env) :: starEach [] (cxOf CX0 X.prog X.w X.K X.mg X.base Ng qg sg g cdg X.A X.stack s H E0).nox.env) :
    PE (cxOf CX0 X.prog X.w X.K X.mg X.base Ng qg sg g cdg X.A X.stack s H E0).nox (.Call (.Name a p1) [arg] [] p2)
      (fun σZ HZ Q => σZ[i]? = some (some (.ref f)) ∧ ta σZ HZ fun vs H1 => vs.length = 1 ∧ H1 F.c = some (CodeO F.c F.qual) ∧ tb (startF N vs ws) H1 Q) := by
  refine ⟨fun pinsZ sZ σZ HZ Q IZ h => ?_⟩
  obtain ⟨hs, ht⟩ := h
  refine wpAny_Call_Name_kw (thn ((pe_var (pos := p1) (i := i) hN hv hd hcd).run pinsZ sZ σZ HZ (fun v H1 => v = .ref f ∧ H1 = HZ) IZ ⟨.ref f, hs, rfl, rfl⟩) fun u s1 ⟨v, H1, I1, r1, q1⟩ => ?_)
  obtain ⟨ev, eH⟩ := q1
  subst ev
  rw [eH] at I1
  obtain rfl : u = Value.ref f := r1
  have at_ : ∀ {σ2 : L2.St} {H2 : Hp} {s2 : Shared}, Inv (cxOf CX0 X.prog X.w X.K X.mg X.base Ng qg sg g cdg X.A X.stack s H E0).nox pinsZ σ2 H2 s2 → s2.heap.get? f = some (PySem.W.kla_obj "<lambda>" F.qual params body F.scope F.cl pm F.c ctv) := fun I2 =>
    I2.base.keep f _ hf hfn hfr (fun z => nomatch (show f ∈ ([] : List Addr) from z))
  refine PySem.W.callWith_F (first := []) ⟨_, _, _, _, at_ I1⟩ (thn (ha.run p2 pinsZ s1 σZ _ _ I1 ht) fun us s2 ⟨vs, H2, I2, r, hl, h1, q⟩ => ⟨⟨_, _, _, _, at_ I2⟩, ?_⟩) he (by rfl)
  show wpAny _ _ (call (.ref f) us) _ _ _
  have C2 : CellsAt F.cl fr ws s2.heap H2 := cells_later (X := (cxOf CX0 X.prog X.w X.K X.mg X.base Ng qg sg g cdg X.A X.stack s H E0).nox) C (fun c z => nomatch (show c ∈ ([] : List Addr) from z)) I2
  obtain ⟨u1, rfl⟩ : ∃ u, us = [u] := by
    have := r.length
    rw [hl] at this
    match us, this with
    | [u], _ => exact ⟨u, rfl⟩
  refine wpAny_call (codeAny_mono (lam_run S (at_ I2) h1 (hbind u1) C2 r hl I2.env0 hr (fun hr' => hbody _ _ _ _ hr') q) fun r' s' hq => ?_)
  cases r' with
  | error e => exact False.elim hq
  | ok fl =>
    cases fl with
    | ret u => exact I2.after hq
    | next => exact False.elim hq
    | brk => exact False.elim hq
    | cont => exact False.elim hq
end
/-- the lambda's reading -/
def tbL {ι : Type} (T : Tb) (N : List Str) (cs : Ct) (pre : ι → Prop) (Sa R : ι → SV) : TE := fun σ H Q => ∃ (i : ι) (I : Hp), pre i ∧ Sl (stL N (Sa i) cs) [] σ I H ∧ Wd T I H ∧ ∀ v I' H', Gr T [] I H I' H' → (R i).p v I' → Q v H'
/-- how the called def may call what it got as the name in its slot i -/
def LamCall {ι : Type} (T : Tb) (Z : Cx) (f : Addr) (F : NF) (ws : List (Option V)) (cs : Ct) (pre : ι → Prop) (Sa R : ι → SV) : Prop :=
  ∀ (i : ι) (a : Str) (j : Nat) (Γ : Ct) (M : Mt) (arg : Expr) (p1 p2 : Pos), pre i → Z.N[j]? = some a → Vis Z.env.scope a → Γ[j]? = some (some (sFn f F ws cs)) → DE T Z Γ M arg (Sa i) → (a == ("__debug__" : Str)) = false → (a == ("__classdict__" : Str)) = false →
    starEach [arg] Z.env = (false, eval arg Z.env) :: starEach [] Z.env → DE T Z Γ M (.Call (.Name a p1) [arg] [] p2) (R i)
/-- the lambda as a made function -/
abbrev nfL (X : Cx) (scope : Scope) (c' : Addr) : NF := ⟨"<lambda>", X.env.qual ++ "<lambda>", defArgs (.Pass ⟨0, 0, 0, 0⟩), [], scope, cloFrom X.env.cells scope.names [], c'⟩
theorem fun_code {K : PySem.W.Frag} {x qual : Str} {st : Stmt} {f : Addr} {fd : FuncData} (F : Fun K x qual st f fd) : ∃ (oc : Value) (od : Option Addr) (kV doc pm : Value) (an : Option Addr) (ct : Value) (osl : Array (Option Value)),
    fd = PySem.W.fnOf x qual (defArgs st) (defBody st) (defScope st) .none kV doc pm an fd.code ct ∧ K.lookup f = some ⟨oc, od, .func fd, osl⟩ ∧ PySem.W.codeIn K fd.code qual = true := by
  obtain ⟨oc, od, kV, doc, pm, an, cdv, ct, osl, rfl, lk, hcd⟩ := F.ex
  exact ⟨oc, od, kV, doc, pm, an, ct, osl, rfl, lk, hcd⟩
section
variable {T : Tb} {X : Cx} {Γ : Ct} {M : Mt} {e e1 body : Expr} {S1 S : SV} {pos p lpos : Pos} {k : Nat} {x : Str}
/-- x(e1, lambda a0: body), x a def of the module -/
theorem de_callLam {ι : Type} {c P g : Addr} {fdg : FuncData} {stg : Stmt} {Ng psg N fr : List Str} {js : List Nat} {cs : Ct} {params : Arguments} {scope : Scope} {a0 : Str} {pre : ι → Prop} {Sa R : ι → SV}
    (Fg : Fun X.K x x stg g fdg) (hm : X.mg x = some (.ref g)) (Sg : FnScope Ng psg (defScope stg)) (h2 : psg.length = 2) (hb : Binds X.K fdg psg []) (TB : LamX.TabB X.base X.mg c P) (hcode : X.env.code = .ref c) (hmT : (P, X.env.qual ++ "<lambda>") ∈ T) (hu : ∀ p ∈ T, p.1 = P → p.2 = X.env.qual ++ "<lambda>")
    (hr : Room (k + 2) X.A) (SL : NScope N [a0] fr scope) (hN1 : 1 + fr.length ≤ N.length) (hnd : ndefB X.env.scope scope fr = true) (hjs : js.map (fun j => X.N[j]?) = fr.map some) (hcs : js.map (fun j => Γ[j]?) = cs.map some)
    (he : DE T X Γ M e1 S1)
    (hbody : ∀ i, pre i → ∀ (f c' : Addr) (A : Around) (outer : List Env) (s : Shared) (H : Hp), Room k (A.deeper (envF (nfL X scope c') f s.heap.objs.size)) →
      DE T (ncx CX0 X.prog X.w X.K X.mg X.base N (nfL X scope c') f A outer s H E0) (stL N (Sa i) cs) [] body (R i))
    (hG : ∀ (f c' : Addr) (ws : List (Option V)) (s : Shared) (I H : Hp) (D : Ends), Room (k + 1) (X.A.deeper (envOfC x (defScope stg) s.heap.objs.size g fdg.code)) →
      LamCall T (cxN X.prog X.w X.K X.mg X.base Ng x stg g fdg.code X.A X.stack s H E0) f (nfL X scope c') ws cs pre Sa R →
      (∀ v I' H', Gr T [] I H I' H' → S.p v I' → D.rt v H') → (∀ σ I' H', Gr T [] I H I' H' → S.p .non I' → D.nx σ H') →
      Tr ⟨T, [], I, H, []⟩ (cxN X.prog X.w X.K X.mg X.base Ng x stg g fdg.code X.A X.stack s H E0) (st0 Ng [S1, sFn f (nfL X scope c') ws cs]) [] (defBody stg) D)
    (hg : Gl X x := by rfl) (hdb : (x == ("__debug__" : Str)) = false := by decide) (hdef : defaultsOf params X.env = ([], []) := by rfl)
    (hbind : ∀ (q : Str) (cl : List (Str × Addr)) (pm cv ctv u : Value), bindArgs (PySem.W.kla_fn "<lambda>" q params body scope cl pm cv ctv) ⟨[u], []⟩ = pure [(a0, u)] := by intros; rfl)
    (hst : starEach [e1, .Lambda params body scope lpos] X.env = (false, eval e1 X.env) :: starEach [.Lambda params body scope lpos] X.env := by rfl) : DE T X Γ M (.Call (.Name x p) [e1, .Lambda params body scope lpos] [] pos) S := fun σ I H Q sl w q pins s J => by
  refine wpAny_Call_Name_kw (ld_glob J hg hm ?_ hdb)
  refine PySem.W.callWith_K (h₀ := X.base) J.ok.mod.kin Fg.kp ?_ hst (by rfl)
  rw [hst]
  show wpAny _ _ (spliced ((false, _) :: backTo pos (starEach [.Lambda params body scope lpos] X.env))) _ _ s
  refine Calls.spliced_cons (thn (he σ I H (fun v H1 => ∃ I1, Gr T [] I H I1 H1 ∧ S1.p v I1) sl w (fun v I1 H1 g1 p1 => ⟨I1, g1, p1⟩) pins s J) fun u1 s1 ⟨v1, H1, J1, r1, I1, g1, p1⟩ => ?_)
  have sl1 := sl.grow0 g1
  show wpAny _ _ (spliced ((false, eval (.Lambda params body scope lpos) X.env) :: backTo pos (starEach [] X.env))) _ _ s1
  refine Calls.spliced_cons (lam_make2 J1 TB hcode hmT hu g1.wd.tabs hdef (fun y hy e => (ndef_free hnd y hy e).elim (fun z => J1.ok.has _ (.inl z)) fun z => J1.ok.has _ (.inr z)) fun f c' pm' ctv H2 s' J2 eN T2 hf hfn hfr hco => ?_)
  refine Calls.spliced_nil ⟨J2.kIn, ?_⟩
  let F : NF := nfL X scope c'
  have g2 : Gr T [] I1 H1 I1 H2 := Gr.ext g1.wd eN T2
  have sl2 := sl1.grow0 g2
  let ws : List (Option V) := js.map (slotAt σ)
  have C : CellsAt F.cl fr ws s'.heap H2 := cells_of J2 (Caps.made J2.ok (ndef_free hnd) (ndef_fr hnd) hjs)
  let I2 : Hp := upd I1 c' (CodeO c' (X.env.qual ++ "<lambda>"))
  have xt : Xt I1 I2 := fun a o e => by
    by_cases z : a = c'
    · subst z
      have := g2.wd.sub a o e
      rw [hco] at this
      cases this
      exact upd_same
    · show upd I1 c' _ a = some o
      rw [upd_ne z]
      exact e
  have g3 : Gr T [] I1 H2 I2 H2 := by
    refine ⟨⟨fun a o e => ?_, fun a o e => ?_, T2⟩, xt, fun a o e _ _ => e, fun a o e n => ⟨o, e, n, id⟩, fun a o z e m => ?_⟩
    · by_cases z : a = c'
      · subst z
        have e : upd I1 a _ a = some o := e
        rw [upd_same] at e
        cases e
        exact hco
      · have e : upd I1 c' _ a = some o := e
        rw [upd_ne z] at e
        exact g2.wd.sub a o e
    · by_cases z : a = c'
      · subst z
        have e : upd I1 a _ a = some o := e
        rw [upd_same] at e
        cases e
        exact fun ps => codeO_ne ps
      · have e : upd I1 c' _ a = some o := e
        rw [upd_ne z] at e
        exact g1.wd.nt a o e
    · show upd I1 c' _ a = none
      rw [upd_ne (fun y => by
        subst y
        rw [hco] at e
        cases e
        exact m.ne rfl)]
      exact z
  have cap : CapV cs ws I2 := by
    refine ⟨by
      have := congrArg List.length hcs
      rw [List.length_map, List.length_map] at this
      rw [List.length_map]
      exact this, fun n S' e => ?_⟩
    have e2 : (js.map fun j => Γ[j]?)[n]? = some (some (some S')) := by
      rw [hcs, List.getElem?_map, e]
      rfl
    rw [List.getElem?_map] at e2
    cases ej : js[n]? with
    | none =>
      rw [ej] at e2
      cases e2
    | some j =>
      rw [ej] at e2
      have e3 : Γ[j]? = some (some S') := Option.some.inj e2
      obtain ⟨v, h1, h2⟩ := sl2.sl j S' e3
      refine ⟨v, ?_, S'.mono xt h2⟩
      rw [List.getElem?_map, ej]
      exact congrArg some (slotAt_of h1)
  have g13 : Gr T [] I H I2 H2 := (g1.trans g2).trans g3
  obtain ⟨oc, od, kV, doc, pm, an, ct, osl, ef, lk, hcd⟩ := fun_code Fg
  have rc : codeAny (model X.prog X.w) X.A (.call (.ref g) ⟨[u1, .ref f], []⟩) (CR C8.CX0 X.stack X.prog X.w H2 s' Q C8.E0) s' := by
    have hb2 := hb s' [u1, .ref f] J2.kIn (by rw [List.append_nil, h2]; rfl)
    rw [List.append_nil] at hb2
    rw [ef] at lk hb2
    refine run_ofS (N := Ng) (ps := psg) (us := [u1, .ref f]) (vs := [v1, .ref f]) lk hcd Sg hr J2.env0 hb2 (.cons r1 (.cons rfl .nil)) h2.symm fun hr' => ?_
    have lc : LamCall T (cxN X.prog X.w X.K X.mg X.base Ng x stg g fdg.code X.A X.stack s' H2 E0) f F ws cs pre Sa R := fun i a j Γ' M' arg p1 p2 hi hNj hvj hΓ harg hda hca hse => fun σZ IZ HZ QZ slZ wZ qZ => by
      refine we_of (pe_lamz (X := X) (F := F) (N := N) (fr := fr) (a0 := a0) (tb := tbL T N cs pre Sa R) (ta := WA _ [arg]) J2 hf hfn hfr SL C (hbind _ _ _ _ _) hr' (fun A outer s3 H3 hr3 => ⟨fun pins3 s4 σ4 H4 Q4 J4 ⟨i4, I4, h4, sl4, w4, q4⟩ => hbody i4 h4 f c' A outer s3 H3 hr3 σ4 I4 H4 Q4 sl4 w4 q4 pins3 s4 J4⟩) hNj hvj pa_wa hda hca hse) ?_
      obtain ⟨vf, e1, e2, e3, e4⟩ := slZ.sl j _ hΓ
      have e2 : vf = .ref f := e2
      refine ⟨by rw [e1, e2], (da_cons harg da_nil hse) σZ IZ HZ _ slZ wZ fun vs I5 H5 g5 p5 => ?_⟩
      obtain ⟨v5, rfl, p5'⟩ := allV1 p5
      exact ⟨rfl, g5.wd.sub _ _ (g5.sub _ _ e3), i, I5, hi, sl_startL p5' (e4.mono g5.sub), g5.wd, fun v I6 H6 g6 p6 => qZ v I6 H6 (g5.trans g6) p6⟩
    refine ⟨WS (cxN X.prog X.w X.K X.mg X.base Ng x stg g fdg.code X.A X.stack s' H2 E0) (defBody stg), (ps_ws (X := cxN X.prog X.w X.K X.mg X.base Ng x stg g fdg.code X.A X.stack s' H2 E0)).nox, hG f c' ws s' I2 H2 { nx := fun _ H' => Q .non H', rt := Q } hr' lc (fun v I' H' g4 p4 => q v I' H' (g13.trans g4) p4) (fun σ4 I' H' g4 p4 => q _ I' H' (g13.trans g4) p4) (L2.start Ng [v1, .ref f]) I2 H2 ⟨sl_start (.cons (S1.mono (g2.sub.trans g3.sub) p1) (.cons ⟨rfl, upd_same, cap⟩ .nil)), Gr.refl g3.wd, (fun m hm => nomatch hm), (fun A hA => nomatch hA)⟩⟩
  refine wpAny_call (codeAny_mono rc fun r s2 hq => ?_)
  cases r with
  | error e => exact (show False from hq).elim
  | ok fl =>
    cases fl with
    | ret u => exact J2.after hq
    | next => exact False.elim hq
    | brk => exact False.elim hq
    | cont => exact False.elim hq
end
end Rm
set_option Elab.async false
set_option linter.all false
set_option maxRecDepth 100000
set_option maxHeartbeats 4000000
/-! The D-layer, part 9: expressions that may change the things M and leave them told alike; values of which only a bound is told. -/
namespace Rm
open PySem PySem.Spec PyProof.Rows L2 LamX

/-- one of these -/
def sEx {ι : Type} (C : ι → Prop) (S : ι → SV) : SV := ⟨fun v I => ∃ i, C i ∧ (S i).p v I, fun e ⟨i, c, h⟩ => ⟨i, c, (S i).mono e h⟩⟩
def mEx {ι : Type} (C : ι → Prop) (m : ι → MV) : MV := ⟨fun o I => ∃ i, C i ∧ (m i).p o I, fun e ⟨i, c, h⟩ => ⟨i, c, (m i).mono e h⟩, fun ⟨i, _, h⟩ => (m i).mo h⟩
def DS (B : Bg) (X : Cx) (Γ : Ct) (M : Mt) (e : Expr) (S : SV) : Prop :=
  ∀ (σ : L2.St) (I H : Hp) (Q : VK), As B Γ M σ I H → (∀ v I' H', As B Γ M σ I' H' → Xt I I' → S.p v I' → Q v H') → WE X e σ H Q
def DSA (B : Bg) (X : Cx) (Γ : Ct) (M : Mt) (es : List Expr) (Ss : List SV) : Prop :=
  ∀ (σ : L2.St) (I H : Hp) (Q : List V → Hp → Prop), As B Γ M σ I H → (∀ vs I' H', As B Γ M σ I' H' → Xt I I' → AllV Ss vs I' → Q vs H') → WA X es σ H Q
def DSt (B : Bg) (X : Cx) (Γ : Ct) (M : Mt) (e : Expr) (b : Bool) : Prop :=
  ∀ (σ : L2.St) (I H : Hp) (Q : Bool → Hp → Prop), As B Γ M σ I H → (∀ I' H', As B Γ M σ I' H' → Xt I I' → Q b H') → WT X e σ H Q
def DSI (B : Bg) (X : Cx) (Γ : Ct) (M : Mt) (tg iter : Expr) {ι : Type} (C : ι → Prop) (Ss : ι → List SV) : Prop :=
  ∀ (σ : L2.St) (I H : Hp) (R : It → Hp → Prop), As B Γ M σ I H → (∀ i J I' H', C i → As B Γ M σ I' H' → Xt I I' → ItOk B.T J (Ss i) I' → R J H') → WI X tg iter σ H R
section
variable {B : Bg} {T : Tb} {K : PySem.W.Frag} {X : Cx} {Γ Γ' : Ct} {M M' : Mt} {a b c e iter tg : Expr} {es : List Expr} {S Sa Sb : SV} {Ss : List SV} {pos p px : Pos} {rest body orelse : List Stmt} {D : Ends} {i j n : Nat} {x : Str} {σ σ' : L2.St} {I H I' H' : Hp}
/-! ### values -/
theorem rd_exL {ι : Type} {C : ι → Prop} {Si : ι → SV} {r : R2} (h : ∀ i, C i → RD2 T r (Si i) Sb S) : RD2 T r (sEx C Si) Sb S := fun x y I H Q w ⟨i, c, hx⟩ hy k => h i c x y I H Q w hx hy k
theorem rd_exR {ι : Type} {C : ι → Prop} {Si : ι → SV} {r : R2} (h : ∀ i, C i → RD2 T r Sa (Si i) S) : RD2 T r Sa (sEx C Si) S := fun x y I H Q w hx ⟨i, c, hy⟩ k => h i c x y I H Q w hx hy k
theorem RD2.imp {r : R2} {S' : SV} (h : RD2 T r Sa Sb S) (q : ∀ v I, S.p v I → S'.p v I) : RD2 T r Sa Sb S' := fun x y I H Q w hx hy k => h x y I H Q w hx hy fun v I' H' g p => k v I' H' g (q v I' p)
theorem sEx_i {ι : Type} {C : ι → Prop} {Si : ι → SV} (i : ι) (c : C i) {v : V} {I : Hp} (h : (Si i).p v I) : (sEx C Si).p v I := ⟨i, c, h⟩
theorem rdc_ex {ι : Type} {C : ι → Prop} {Si : ι → SV} {r : List V → Hp → VK → Prop} {S : SV} {Ss : List SV} (h : ∀ i, C i → RDC T r (Si i :: Ss) S) : RDC T r (sEx C Si :: Ss) S := fun vs I H Q w hv k => by
  cases hv with
  | cons h1 h2 =>
    obtain ⟨i, c, h1⟩ := h1
    exact h i c _ I H Q w (.cons h1 h2) k
theorem rdc_ex2 {ι : Type} {C : ι → Prop} {Si : ι → SV} {r : List V → Hp → VK → Prop} {S S0 : SV} {Ss : List SV} (h : ∀ i, C i → RDC T r (S0 :: Si i :: Ss) S) : RDC T r (S0 :: sEx C Si :: Ss) S := fun vs I H Q w hv k => by
  cases hv with
  | cons h0 h12 =>
    cases h12 with
    | cons h1 h2 =>
      obtain ⟨i, c, h1⟩ := h1
      exact h i c _ I H Q w (.cons h0 (.cons h1 h2)) k

/-! ### expressions -/
theorem DS.imp {S' : SV} (h : DS B X Γ M e S) (q : ∀ v I, S.p v I → S'.p v I) : DS B X Γ M e S' := fun σ I H Q s k => h σ I H Q s fun v I' H' s' xt p => k v I' H' s' xt (q v I' p)
theorem DSt.is {c c' : Bool} (h : DSt B X Γ M e c) (q : c = c') : DSt B X Γ M e c' := by rw [← q]; exact h
theorem ds_of (h : DE B.T X Γ M e S) : DS B X Γ M e S := fun σ I H Q s k => h σ I H Q s.sl s.wd fun v I' H' g p => k v I' H' (s.grow g) g.sub p
theorem dst_of {c : Bool} (h : DT B.T X Γ M e c) : DSt B X Γ M e c := fun σ I H Q s k => h σ I H Q s.sl s.wd fun I' H' g => k I' H' (s.grow g) g.sub
theorem dsa_of (h : DA B.T X Γ M es Ss) : DSA B X Γ M es Ss := fun σ I H Q s k => h σ I H Q s.sl s.wd fun vs I' H' g p => k vs I' H' (s.grow g) g.sub p
theorem dsa_nil : DSA B X Γ M [] [] := dsa_of da_nil
theorem dsa_cons (ha : DS B X Γ M e S) (hr : DSA B X Γ M es Ss) (hs : starEach (e :: es) X.env = (false, eval e X.env) :: starEach es X.env := by rfl) : DSA B X Γ M (e :: es) (S :: Ss) := fun σ I H Q s k =>
  wa_of (pa_cons pe_we pa_wa hs) (ha σ I H _ s fun v I1 H1 s1 x1 p1 => hr σ I1 H1 _ s1 fun vs I2 H2 s2 x2 p2 => k (v :: vs) I2 H2 s2 (x1.trans x2) (.cons (S.mono x2 p1) p2))
theorem dsa_one (h : DS B X Γ M e S) (hs : starEach (e :: []) X.env = (false, eval e X.env) :: starEach [] X.env := by rfl) : DSA B X Γ M [e] [S] := dsa_cons h dsa_nil hs
theorem twoS {r : R2} {Q : VK} (s : As B Γ M σ I H) (ha : DS B X Γ M a Sa) (hb : DS B X Γ M b Sb) (hr : RD2 B.T r Sa Sb S) (k : ∀ v I' H', As B Γ M σ I' H' → Xt I I' → S.p v I' → Q v H') : tOp r (WE X a) (WE X b) σ H Q :=
  ha σ I H _ s fun x I1 H1 s1 x1 p1 => hb σ I1 H1 _ s1 fun y I2 H2 s2 x2 p2 => hr x y I2 H2 Q s2.wd (Sa.mono x2 p1) p2 fun v I3 H3 g3 p3 => k v I3 H3 (s2.grow g3) ((x1.trans x2).trans g3.sub) p3
theorem ds_op {op : Operator} {r : R2} (ho : OpR X (binaryOp op) r) (hr : RD2 B.T r Sa Sb S) (ha : DS B X Γ M a Sa) (hb : DS B X Γ M b Sb) : DS B X Γ M (.BinOp a op b pos) S := fun σ I H Q s k =>
  we_of (pe_op ho pe_we pe_we) (twoS s ha hb hr k)
theorem ds_cmp {op : CmpOp} {r : R2} (ho : OpR X (compareOp op) r) (hm : behindInMarks op b = false) (hr : RD2 B.T r Sa Sb S) (ha : DS B X Γ M a Sa) (hb : DS B X Γ M b Sb) : DS B X Γ M (.Compare a [op] [b] pos) S := fun σ I H Q s k =>
  we_of (pe_cmpR ho pe_we pe_we hm) (twoS s ha hb hr k)
theorem dst_cmp {op : CmpOp} {r : R2} {c : Bool} (ho : OpR X (compareOp op) r) (hm : behindInMarks op b = false) (hr : RD2 B.T r Sa Sb (sD X.K (.bool c))) (ha : DS B X Γ M a Sa) (hb : DS B X Γ M b Sb) : DSt B X Γ M (.Compare a [op] [b] pos) c := fun σ I H Q s k =>
  wt_of (pt_cmpR ho pe_we pe_we hm) (twoS s ha hb hr fun v I' H' s' xt p => ⟨c, dp_bl p, k I' H' s' xt⟩)
theorem ds_ix {r : R2} (hx : IxR X r) (hr : RD2 B.T r Sa Sb S) (ha : DS B X Γ M a Sa) (hb : DS B X Γ M b Sb) (hs : PlainIx b := by exact fun _ _ => rfl) : DS B X Γ M (.Subscript a b pos) S := fun σ I H Q s k =>
  we_of (pe_ix hx pe_we pe_we hs) (twoS s ha hb hr k)
theorem dst_val {c : Bool} (h : DS B X Γ M e (sD X.K (.bool c))) (he : ∀ whole, isTrue e X.env whole = (do let v ← whole; standAt e.pos; holding [v] (truthy v)) := by intro _; rfl) : DSt B X Γ M e c := fun σ I H Q s k =>
  wt_of (pt_val pe_we he) (h σ I H _ s fun v I' H' s' xt p => ⟨c, dp_bl p, k I' H' s' xt⟩)
theorem dst_not {c : Bool} (h : DSt B X Γ M a c) : DSt B X Γ M (.UnaryOp .Not a pos) (!c) := fun σ I H Q s k => wt_of (pt_not pt_wt) (h σ I H _ s fun I' H' s' xt => k I' H' s' xt)
/-- a or b, as a test -/
theorem dst_or {c c' : Bool} (ha : DSt B X Γ M a c) (hb : c = false → DSt B X Γ M b c') : DSt B X Γ M (.BoolOp .Or [a, b] pos) (c || c') := fun σ I H Q s k pins sh J => by
  refine (pw_or (X := X) (pos := pos) pt_wt (pw_or1 (X := X) (pos := pos) pt_wt)).run _ pins sh σ H Q J (ha σ I H _ s fun I1 H1 s1 x1 => ?_)
  cases c with
  | false => exact iteF (hb rfl σ I1 H1 Q s1 fun I2 H2 s2 x2 => k I2 H2 s2 (x1.trans x2))
  | true => exact iteT (k I1 H1 s1 x1)
theorem dst_and {c c' : Bool} (ha : DSt B X Γ M a c) (hb : c = true → DSt B X Γ M b c') : DSt B X Γ M (.BoolOp .And [a, b] pos) (c && c') := fun σ I H Q s k pins sh J => by
  refine (pw_and (X := X) (pos := pos) pt_wt (pw_and1 (X := X) (pos := pos) pt_wt)).run _ pins sh σ H Q J (ha σ I H _ s fun I1 H1 s1 x1 => ?_)
  cases c with
  | true => exact iteT (hb rfl σ I1 H1 Q s1 fun I2 H2 s2 x2 => k I2 H2 s2 (x1.trans x2))
  | false => exact iteF (k I1 H1 s1 x1)
theorem ds_if {t : Expr} {c : Bool} (ht : DSt B X Γ M t c) (h1 : c = true → DS B X Γ M a S) (h2 : c = false → DS B X Γ M b S) : DS B X Γ M (.IfExp t a b pos) S := fun σ I H Q s k =>
  we_of (pe_ifExp pt_wt pe_we pe_we) (ht σ I H _ s fun I1 H1 s1 x1 => by
    cases c with
    | true => exact iteT (h1 rfl σ I1 H1 Q s1 fun v I2 H2 s2 x2 p => k v I2 H2 s2 (x1.trans x2) p)
    | false => exact iteF (h2 rfl σ I1 H1 Q s1 fun v I2 H2 s2 x2 p => k v I2 H2 s2 (x1.trans x2) p))
theorem ds_tup {j : Nat} (h : DSA B X Γ M es Ss) (hl : Ss.length ≤ 1000) : DS B X Γ M (.Tuple es j pos) (sTup X.K Ss) := fun σ I H Q s k =>
  we_of (pe_tup pa_wa) (h σ I H _ s fun vs I1 H1 s1 x1 p1 => ⟨by rw [← p1.length]; exact Nat.le_of_lt (small1000 hl), fun p hp =>
    have g := Gr.new s1.wd hp nt_t
    k _ _ _ (s1.grow g) (x1.trans g.sub) ⟨p, vs, rfl, .inl (.inl upd_same), p1.mono (Xt.new (s1.wd.free hp))⟩⟩)
theorem ds_lst (h : DSA B X Γ M es Ss) (hl : Ss.length ≤ 1000) : DS B X Γ M (.List es pos) (sLst X.K Ss) := fun σ I H Q s k =>
  we_of (pe_lst pa_wa) (h σ I H _ s fun vs I1 H1 s1 x1 p1 => ⟨by rw [← p1.length]; exact Nat.le_of_lt (small1000 hl), fun p hp =>
    have g := Gr.new s1.wd hp nt_l
    k _ _ _ (s1.grow g) (x1.trans g.sub) ⟨p, vs, rfl, .inl (.inl upd_same), p1.mono (Xt.new (s1.wd.free hp))⟩⟩)
theorem ds_callB {r : List V → Hp → VK → Prop} {x : Str} {id : String} (hc : CallR X (.builtin id) r) (hr : RDC B.T r Ss S) (hm : X.mg x = none) (hv : bootBuiltins x = some (.builtin id)) (ha : DSA B X Γ M (e :: es) Ss) (hg : Gl X x := by rfl) (hn : x ≠ "__name__" := by decide) (hdb : (x == ("__debug__" : Str)) = false := by decide)
    (he : starEach (e :: es) X.env = (false, eval e X.env) :: starEach es X.env := by rfl) (hpl : (backTo pos (starEach es X.env)).any (·.1) = false := by rfl) : DS B X Γ M (.Call (.Name x p) (e :: es) [] pos) S := fun σ I H Q s k =>
  we_of (pe_callB hc hg hm hv pa_wa hn hdb he hpl) (ha σ I H _ s fun vs I1 H1 s1 x1 p1 => hr vs I1 H1 Q s1.wd p1 fun u I2 H2 g2 p2 => k u I2 H2 (s1.grow g2) (x1.trans g2.sub) p2)
theorem ds_callTy {r : List V → Hp → VK → Prop} {x : Str} {id : String} (hc : CallR X (.type id) r) (hr : RDC B.T r Ss S) (hm : X.mg x = none) (hv : bootBuiltins x = some (.type id)) (ha : DSA B X Γ M (e :: es) Ss) (hg : Gl X x := by rfl) (hn : x ≠ "__name__" := by decide) (hdb : (x == ("__debug__" : Str)) = false := by decide)
    (he : starEach (e :: es) X.env = (false, eval e X.env) :: starEach es X.env := by rfl) (hpl : (backTo pos (starEach es X.env)).any (·.1) = false := by rfl) : DS B X Γ M (.Call (.Name x p) (e :: es) [] pos) S := fun σ I H Q s k =>
  we_of (pe_callTy hc hg hm hv pa_wa hn hdb he hpl) (ha σ I H _ s fun vs I1 H1 s1 x1 p1 => hr vs I1 H1 Q s1.wd p1 fun u I2 H2 g2 p2 => k u I2 H2 (s1.grow g2) (x1.trans g2.sub) p2)
/-- a promise of a def that changes the things ms d and leaves them told alike -/
abbrev spS {δ : Type} (T : Tb) (args : δ → List SV) (ms : δ → Mt) (pre : δ → Prop) (res : δ → SV) : Sp := spM T args ms pre (fun _ (_ : Unit) => True) (fun d _ => res d) (fun d _ => ms d)
theorem ds_callE {δ : Type} {args : δ → List SV} {ms : δ → Mt} {pre : δ → Prop} {res : δ → SV} {k k' : Nat} {ps : List Str} (G : FD X.prog X.w X.K X.mg X.base k x ps (spS B.T args ms pre res)) (hr : Room k' X.A) (hk : k ≤ k')
    (hd : ∀ vs I, AllV Ss vs I → ∃ d, pre d ∧ AllV (args d) vs I ∧ (∀ m ∈ ms d, m ∈ M) ∧ ((ms d).map (·.1)).Nodup ∧ ∀ v I', (res d).p v I' → S.p v I')
    (ha : DSA B X Γ M (e :: es) Ss) (hg : Gl X x := by rfl) (hdb : (x == ("__debug__" : Str)) = false := by decide)
    (he : starEach (e :: es) X.env = (false, eval e X.env) :: starEach es X.env := by rfl) (hpl : (backTo pos (starEach es X.env)).any (·.1) = false := by rfl) : DS B X Γ M (.Call (.Name x p) (e :: es) [] pos) S := fun σ I H Q s q => by
  obtain ⟨f, fd, hmg, kp, hb, F⟩ := G.ex
  exact we_of (pe_call F (hr.mono hk) hg hmg kp hb .nil (pass0 (X := X)) pa_wa hdb he hpl) (ha σ I H _ s fun vs I1 H1 s1 x1 p1 => by
    obtain ⟨d, hp, had, hm, hnd, hres⟩ := hd vs I1 p1
    exact ⟨d, I1, hp, s1.wd, by rw [List.append_nil]; exact had, s1.ms _ hm, hnd, fun r v I2 H2 o g2 p2 m2 => q v I2 H2 (s1.after hm g2 m2) (x1.trans g2.sub) (hres v I2 p2)⟩)
theorem ds_call {δ : Type} {args : δ → List SV} {ms : δ → Mt} {pre : δ → Prop} {res : δ → SV} {k k' : Nat} {ps : List Str} (G : FD X.prog X.w X.K X.mg X.base k x ps (spS B.T args ms pre res)) (hr : Room k' X.A) (hk : k ≤ k') (d : δ) (hp : pre d) (hm : ∀ m ∈ ms d, m ∈ M) (hnd : ((ms d).map (·.1)).Nodup)
    (ha : DSA B X Γ M (e :: es) (args d)) (hg : Gl X x := by rfl) (hdb : (x == ("__debug__" : Str)) = false := by decide)
    (he : starEach (e :: es) X.env = (false, eval e X.env) :: starEach es X.env := by rfl) (hpl : (backTo pos (starEach es X.env)).any (·.1) = false := by rfl) : DS B X Γ M (.Call (.Name x p) (e :: es) [] pos) (res d) :=
  ds_callE G hr hk (fun vs I h => ⟨d, hp, h, hm, hnd, fun _ _ z => z⟩) ha hg hdb he hpl
/-- a def by data, its arguments found by changing things -/
theorem ds_callF {δ : Type} {args : δ → List SV} {pre : δ → Prop} {res : δ → SV} {k k' : Nat} {ps : List Str} (G : FD X.prog X.w X.K X.mg X.base k x ps (spD B.T args pre res)) (hr : Room k' X.A) (hk : k ≤ k')
    (hd : ∀ vs I, AllV Ss vs I → ∃ d, pre d ∧ AllV (args d) vs I ∧ ∀ v I', (res d).p v I' → S.p v I')
    (ha : DSA B X Γ M (e :: es) Ss) (hg : Gl X x := by rfl) (hdb : (x == ("__debug__" : Str)) = false := by decide)
    (he : starEach (e :: es) X.env = (false, eval e X.env) :: starEach es X.env := by rfl) (hpl : (backTo pos (starEach es X.env)).any (·.1) = false := by rfl) : DS B X Γ M (.Call (.Name x p) (e :: es) [] pos) S := fun σ I H Q s q => by
  obtain ⟨f, fd, hmg, kp, hb, F⟩ := G.ex
  exact we_of (pe_call F (hr.mono hk) hg hmg kp hb .nil (pass0 (X := X)) pa_wa hdb he hpl) (ha σ I H _ s fun vs I1 H1 s1 x1 p1 => by
    obtain ⟨d, hp, had, hres⟩ := hd vs I1 p1
    exact ⟨d, I1, hp, s1.wd, by rw [List.append_nil]; exact had, fun v I2 H2 g2 p2 => q v I2 H2 (s1.grow g2) (x1.trans g2.sub) (hres v I2 p2)⟩)

/-! ### walks -/
theorem dsi_of (h : DI B.T X Γ M tg e Ss) : DSI B X Γ M tg e (fun _ : Unit => True) (fun _ => Ss) := fun σ I H R s k => h σ I H R s.sl s.wd fun J I' H' g it => k () J I' H' trivial (s.grow g) g.sub it
theorem dsi_seqE {ι : Type} {C : ι → Prop} {Ssi : ι → List SV} (h : DS B X Γ M e (sEx C fun i => sSeq X.K (Ssi i))) : DSI B X Γ M tg e C Ssi := fun σ I H R s k => wi_of (pi_seq pe_we) (h σ I H _ s fun v I1 H1 s1 x1 ⟨i, ci, a, vs, e, h1, h2⟩ => ⟨a, e, by
  rcases h1 with h1 | h1
  · exact .inl ⟨⟨vs, s1.wd.sub.l h1⟩, k i _ I1 H1 ci s1 x1 (itl_ok h1 h2)⟩
  · exact .inr ⟨⟨vs, s1.wd.sub.t h1⟩, k i _ I1 H1 ci s1 x1 (itt_ok h1 h2)⟩⟩)
theorem dsi_seq (h : DS B X Γ M e (sSeq X.K Ss)) : DSI B X Γ M tg e (fun _ : Unit => True) (fun _ => Ss) := dsi_seqE (h.imp fun v I p => ⟨(), trivial, p⟩)
theorem dsi_range1 {C : Nat → Prop} (hC : ∀ n, C n → n ≤ 100000) (hm : X.mg "range" = none) (h : DS B X Γ M a (sEx C fun n => sD X.K (eN n))) (hg : Gl X "range" := by rfl) (hs : starEach [a] X.env = [(false, eval a X.env)] := by rfl) (he : starEach [a] X.env = (false, eval a X.env) :: starEach [] X.env := by rfl) :
    DSI B X Γ M tg (.Call (.Name "range" p) [a] [] pos) C (fun n => (List.range n).map fun (i : Nat) => sD X.K (eN i)) := fun σ I H R s k =>
  wi_of (pi_range1 hg hm pa_wa hs) (dsa_one h he σ I H _ s fun vs I1 H1 s1 x1 p1 => by
    obtain ⟨v, rfl, n, cn, hq⟩ := allV1 p1
    rw [dp_int hq]
    have hn := hC n cn
    refine ⟨n, rfl, by omega, by omega, k n _ I1 H1 cn s1 x1 ?_⟩
    have q := itr_ok (T := B.T) (K := X.K) (lo := 0) (n := n) (I0 := I1)
    have e1 : ((n : Int)).toNat = n := by omega
    rw [e1]
    refine Eq.mp (congrArg (fun z => ItOk B.T (Itr 0 n) z I1) (List.map_congr_left fun i _ => ?_)) q
    show sD X.K (.int (0 + (i : Int))) = sD X.K (.int (i : Int))
    rw [Int.zero_add])
theorem As.back (s : As B Γ M σ I H) (s' : As B Γ' M' σ' I' H') (xt : Xt I I') : As B Γ M' σ I' H' := ⟨⟨s.sl.len, fun i S e => let ⟨v, h1, h2⟩ := s.sl.sl i S e; ⟨v, h1, S.mono xt h2⟩, s'.sl.mu, s'.sl.nd⟩, s'.gr, s'.ow, s'.an⟩
/-! ### comprehensions -/
theorem lc_readS {ι α : Type} {C : ι → Prop} {as : ι → List α} {Si F : α → SV} {j : Nat} {te : TE} (hI : DSI B X Γ M tg iter C (fun i => (as i).map Si))
    (hte : ∀ i, C i → ∀ a ∈ as i, ∀ (M' : Mt), (∀ m ∈ M, m ∈ M') → ∀ (σ : L2.St) (I H : Hp) (Q : VK), As B (Γ.set j (some (Si a))) M' σ I H → (∀ v I' H', As B (Γ.set j (some (Si a))) M' σ I' H' → Xt I I' → (F a).p v I' → Q v H') → te σ H Q)
    (hl : ∀ i, C i → (as i).length ≤ 100000) {σ : L2.St} {I H : Hp} {Q : VK} (s : As B Γ M σ I H) (k : ∀ v I' H', As B Γ M σ I' H' → Xt I I' → (sEx C fun i => sLst X.K ((as i).map F)).p v I' → Q v H') :
    tLc (WI X tg iter) (gName j) tYes te [j] σ H Q := by
  refine hI σ I H _ s fun ii J I1 H1 ci s1 x1 it D hD => ?_
  let Pv : Nat → Hp → Prop := fun i H' => ∃ I', As B Γ ((D, mL (((as ii).take i).map F)) :: M) σ I' H' ∧ Xt I1 I'
  have s1D : As B Γ ((D, mL (((as ii).take 0).map F)) :: M) σ I1 (upd H1 D (.lst [])) := s1.new hD ⟨[], rfl, .nil⟩
  refine ⟨fun i m H' => m = (as ii).length - i ∧ i ≤ (as ii).length ∧ Pv i H', ⟨(as ii).length, by simp, Nat.zero_le _, I1, s1D, Xt.refl _⟩, ?_⟩
  rintro i m H' ⟨rfl, hi, I', s', x'⟩
  obtain ⟨stop, go⟩ := it i I' H' x' s'.wd
  by_cases hlt : i < (as ii).length
  · have hS : ((as ii).map Si)[i]? = some (Si (as ii)[i]) := by rw [List.getElem?_map, List.getElem?_eq_getElem hlt]; rfl
    obtain ⟨go1, go2⟩ := go _ hS
    refine .inr ⟨go1, Pv (i + 1), fun H2 p2 => ⟨(as ii).length - (i + 1), by omega, rfl, hlt, p2⟩, fun x H2 y => ?_⟩
    obtain ⟨I2, g2, px⟩ := go2 x H2 y
    have hm : (as ii)[i] ∈ as ii := List.getElem_mem hlt
    have eσ : (wipe σ [j]).set j (some x) = σ.set j (some x) := by
      show (σ.set j none).set j (some x) = _
      rw [List.set_set]
    have s2 := s'.grow g2
    have s3 := s2.set (i := j) px
    show wipe ((wipe σ [j]).set j (some x)) [j] = wipe σ [j] ∧ tYes ((wipe σ [j]).set j (some x)) H2 _
    rw [eσ]
    refine ⟨by show (σ.set j (some x)).set j none = σ.set j none; rw [List.set_set], ?_⟩
    have tk : (as ii).take (i + 1) = (as ii).take i ++ [(as ii)[i]] := by rw [List.take_add_one, List.getElem?_eq_getElem hlt]; rfl
    show te (σ.set j (some x)) H2 _
    refine hte ii ci _ hm _ (fun m hm => List.mem_cons_of_mem _ hm) (σ.set j (some x)) I2 H2 _ s3 fun v I4 H4 s4 x4 p4 => ?_
    have s5 := s2.back s4 x4
    obtain ⟨o, ho, vs, rfl, av⟩ := s5.thing (n := 0) rfl
    have lv : vs.length ≤ i := by rw [← av.length, List.length_map, List.length_take]; exact Nat.min_le_left _ _
    refine ⟨vs, ho, Nat.lt_of_le_of_lt lv (Nat.lt_of_lt_of_le hlt (Nat.le_trans (hl ii ci) (by decide))), I4, ?_, (x'.trans g2.sub).trans x4⟩
    refine s5.put (n := 0) (m' := mL (((as ii).take (i + 1)).map F)) rfl ⟨_, rfl, ?_⟩
    rw [tk, List.map_append]
    exact av.append (.cons p4 .nil)
  · have e : i = (as ii).length := by omega
    subst e
    obtain ⟨o, ho, vs, rfl, av⟩ := s'.thing (n := 0) rfl
    obtain ⟨hI', _⟩ := s'.sl.mu _ (List.mem_cons_self ..)
    have hI' : I' D = none := hI'
    have fz : Fz B.H0 D := s1.gr.fz (.of hD)
    have xt : Xt I' (upd I' D (.lst vs)) := Xt.new hI'
    have nd := s'.sl.nd
    rw [List.map_cons, List.nodup_cons] at nd
    have s6 : As B Γ M σ (upd I' D (.lst vs)) H' := by
      refine ⟨⟨s'.sl.len, fun n S e => let ⟨v, h1, h2⟩ := s'.sl.sl n S e; ⟨v, h1, S.mono xt h2⟩, fun m hm => ?_, nd.2⟩, s'.gr.freeze ho nt_l fz hI', fun m hm => s'.ow m (List.mem_cons_of_mem _ hm), fun A hA => (s'.an A hA).trans xt⟩
      obtain ⟨h1, o, h2, h3⟩ := s'.sl.mu m (List.mem_cons_of_mem _ hm)
      have ne : m.1 ≠ D := fun z => nd.1 (by rw [← z]; exact List.mem_map.mpr ⟨m, hm, rfl⟩)
      exact ⟨by rw [upd_ne ne]; exact h1, o, h2, m.2.mono xt h3⟩
    refine .inl ⟨stop (by rw [List.length_map]; exact Nat.le_refl _), k _ (upd I' D (.lst vs)) H' s6 ((x1.trans x').trans xt) ⟨ii, ci, D, vs, rfl, .inl (.inl upd_same), ?_⟩⟩
    rw [List.take_length] at av
    exact av.mono xt
theorem ds_lc {ι α : Type} {C : ι → Prop} {as : ι → List α} {Si F : α → SV} {elt : Expr} {scope : Scope} (hc : X.calm = true) (hN : X.N.Nodup) (hI : DSI B X Γ M (.Name x px) iter C (fun i => (as i).map Si)) (hl : ∀ i, C i → (as i).length ≤ 100000) (ok : BlkOk X.N X.env.scope scope [(x, j)])
    (hg : ∀ (s : Shared) (H : Hp) (C : Addr) (cl : List (Str × Addr)) (fp : List Addr), PG (X.blk s H scope (compEnvC scope cl C X.env) fp) (.Name x px) (gName j))
    (he : ∀ i, C i → ∀ a ∈ as i, ∀ (M' : Mt), (∀ m ∈ M, m ∈ M') → ∀ (s : Shared) (H : Hp) (C : Addr) (cl : List (Str × Addr)) (fp : List Addr), DS B (X.blk s H scope (compEnvC scope cl C X.env) fp) (Γ.set j (some (Si a))) M' elt (F a))
    (hs : ∀ x, foldedSetIterable iter X.env x = pure x := by intro _; rfl) : DS B X Γ M (.ListComp elt [⟨.Name x px, iter, [], 0⟩] scope pos) (sEx C fun i => sLst X.K ((as i).map F)) := fun σ I H Q s k =>
  we_of (pe_lc (own := [(x, j)]) (tt := tYes) (te := fun σ H Q => ∀ (s0 : Shared) (H0 : Hp) (C : Addr) (cl : List (Str × Addr)) (fp : List Addr), WE (X.blk s0 H0 scope (compEnvC scope cl C X.env) fp) elt σ H Q) hc hN pi_wi ok hg (fun _ _ _ _ _ => pts_nil)
    (fun s0 H0 C cl fp => ⟨fun pins s σ H Q I h => h s0 H0 C cl fp pins s I⟩) hs)
    (lc_readS hI (fun i ci a ha M' hM' σ I H Q s k s0 H0 C cl fp => he i ci a ha M' hM' s0 H0 C cl fp σ I H Q s k) hl s k)

/-! ### statements -/
theorem tr_asgS (hN : X.N.Nodup) (hi : X.N[i]? = some x) (he : DS B X Γ M e S) (h : Tr B X (Γ.set i (some S)) M rest D) (hx : Loc X.env.scope x := by first | exact .inl rfl | exact .inr rfl)
    (hs : swapsWith e (some (.Name x px)) pos.line X.env = pure false := by rfl) (hf : X.fn x = true ∨ X.env.scope.names.lookup x = some .local := by first | exact .inl rfl | exact .inr rfl) : Tr B X Γ M (.Assign [.Name x px] e pos :: rest) D := fun σ I H s =>
  ws_cons (ps_set (i := i) hN hi hx pe_we hs hf) (he σ I H _ s fun v I' H' s' xt pv => h _ I' H' (s'.set pv))
/-- x = [..] on one line -/
theorem tr_asgLcS {ι α : Type} {C : ι → Prop} {as : ι → List α} {Si F : α → SV} {y : Str} {py : Pos} {elt : Expr} {scope : Scope} {Sr : SV} (hN : X.N.Nodup) (hi : X.N[i]? = some x) (hc : X.calm = true) (hI : DSI B X Γ M (.Name y py) iter C (fun i => (as i).map Si)) (hl : ∀ i, C i → (as i).length ≤ 100000) (ok : BlkOk X.N X.env.scope scope [(y, j)])
    (hg : ∀ (s : Shared) (H : Hp) (C : Addr) (cl : List (Str × Addr)) (fp : List Addr), PG (X.blk s H scope (compEnvC scope cl C X.env) fp) (.Name y py) (gName j))
    (he : ∀ i, C i → ∀ a ∈ as i, ∀ (M' : Mt), (∀ m ∈ M, m ∈ M') → ∀ (s : Shared) (H : Hp) (C : Addr) (cl : List (Str × Addr)) (fp : List Addr), DS B (X.blk s H scope (compEnvC scope cl C X.env) fp) (Γ.set j (some (Si a))) M' elt (F a))
    (hr : ∀ v I, (sEx C fun i => sLst X.K ((as i).map F)).p v I → Sr.p v I) (h : Tr B X (Γ.set i (some Sr)) M rest D)
    (hyl : X.env.scope.names.lookup x = some .local := by rfl) (hsw : swapsWith (.ListComp elt [⟨.Name y py, iter, [], 0⟩] scope p) (some (.Name x px)) pos.line X.env = pure true := by exact sw_true rfl rfl rfl (by decide +kernel))
    (hs : ∀ x, foldedSetIterable iter X.env x = pure x := by intro _; rfl) : Tr B X Γ M (.Assign [.Name x px] (.ListComp elt [⟨.Name y py, iter, [], 0⟩] scope p) pos :: rest) D := fun σ I H s =>
  ws_cons (ps_setLc (i := i) (own := [(y, j)]) (tt := tYes) (te := fun σ H Q => ∀ (s0 : Shared) (H0 : Hp) (C : Addr) (cl : List (Str × Addr)) (fp : List Addr), WE (X.blk s0 H0 scope (compEnvC scope cl C X.env) fp) elt σ H Q) hc hN hi hyl hsw pi_wi ok hg (fun _ _ _ _ _ => pts_nil)
    (fun s0 H0 C cl fp => ⟨fun pins s σ H Q I h => h s0 H0 C cl fp pins s I⟩) hs)
    (lc_readS hI (fun i ci a ha M' hM' σ I H Q s k s0 H0 C cl fp => he i ci a ha M' hM' s0 H0 C cl fp σ I H Q s k) hl s fun v I' H' s' xt p => h _ I' H' (s'.set (hr v I' p)))
theorem tr_retS (he : DS B X Γ M e S) (hr : ∀ v σ I H, As B Γ M σ I H → S.p v I → D.rt v H) : Tr B X Γ M (.Return (some e) pos :: rest) D := fun σ I H s =>
  ws_cons (ps_ret pe_we) (he σ I H _ s fun v I' H' s' xt p => hr v σ I' H' s' p)
theorem tr_exprS (he : DS B X Γ M e S) (h : Tr B X Γ M rest D) (hs : swapsWith e none pos.line X.env = pure false := by rfl) : Tr B X Γ M (.Expr e pos :: rest) D := fun σ I H s =>
  ws_cons (ps_expr pe_we hs) (he σ I H _ s fun v I' H' s' xt p => h σ I' H' s')
theorem tr_ifS {k : Bool} (ht : DSt B X Γ M c k) (h1 : k = true → Tr B X Γ M body { D with nx := WS X rest D }) (h2 : k = false → Tr B X Γ M orelse { D with nx := WS X rest D }) : Tr B X Γ M (.If c body orelse pos :: rest) D := fun σ I H s =>
  ws_cons (ps_if pt_wt ps_ws ps_ws) (ht σ I H _ s fun I' H' s' xt => by
    cases k with
    | true => exact iteT (h1 rfl σ I' H' s')
    | false => exact iteF (h2 rfl σ I' H' s'))
theorem tr_skipS (ht : DSt B X Γ M c false) (h : Tr B X Γ M rest D) : Tr B X Γ M (.If c body [] pos :: rest) D := tr_ifS ht (fun z => nomatch z) fun _ => tr_nil fun σ I H s => h σ I H s
/-- what the name in slot i is, known now -/
theorem tr_pick {ι : Type} {C : ι → Prop} {Si : ι → SV} (i : Nat) (hi : Γ[i]? = some (some (sEx C Si))) (h : ∀ d, C d → Tr B X (Γ.set i (some (Si d))) M rest D) : Tr B X Γ M rest D := fun σ I H s => by
  obtain ⟨v, h1, d, cd, h2⟩ := s.sl.sl i _ hi
  refine h d cd σ I H ⟨⟨by rw [List.length_set]; exact s.sl.len, fun j S e => ?_, s.sl.mu, s.sl.nd⟩, s.gr, s.ow, s.an⟩
  by_cases hj : i = j
  · subst hj
    have hl : i < Γ.length := (List.getElem?_eq_some_iff.mp hi).1
    rw [List.getElem?_set_self hl] at e
    cases e
    exact ⟨v, h1, h2⟩
  · rw [List.getElem?_set_ne hj] at e
    exact s.sl.sl j S e
/-- what slot i holds, told otherwise -/
theorem tr_as {S S' : SV} (i : Nat) (hi : Γ[i]? = some (some S)) (q : ∀ v I, S.p v I → S'.p v I) (h : Tr B X (Γ.set i (some S')) M rest D) : Tr B X Γ M rest D := fun σ I H s => by
  obtain ⟨v, h1, h2⟩ := s.sl.sl i _ hi
  refine h σ I H ⟨⟨by rw [List.length_set]; exact s.sl.len, fun j S e => ?_, s.sl.mu, s.sl.nd⟩, s.gr, s.ow, s.an⟩
  by_cases hj : i = j
  · subst hj
    have hl : i < Γ.length := (List.getElem?_eq_some_iff.mp hi).1
    rw [List.getElem?_set_self hl] at e
    cases e
    exact ⟨v, h1, q v I h2⟩
  · rw [List.getElem?_set_ne hj] at e
    exact s.sl.sl j S e
theorem As.setM (s : As B Γ M σ I H) {n : Nat} {q : Addr} {m m' : MV} (hn : M[n]? = some (q, m)) (h : ∀ o, H q = some o → m.p o I → m'.p o I) : As B Γ (M.set n (q, m')) σ I H := by
  have hlt : n < M.length := (List.getElem?_eq_some_iff.mp hn).1
  have key : ∀ z ∈ M.set n (q, m'), z = (q, m') ∨ z ∈ M := fun z hz => by
    rcases List.mem_or_eq_of_mem_set hz with e | e
    · exact .inr e
    · exact .inl e
  refine ⟨⟨s.sl.len, s.sl.sl, fun z hz => ?_, ?_⟩, s.gr, fun z hz => ?_, s.an⟩
  · rcases key z hz with e | e
    · subst e
      obtain ⟨h1, o, h2, h3⟩ := s.sl.mu _ (List.mem_of_getElem? hn)
      exact ⟨h1, o, h2, h o h2 h3⟩
    · exact s.sl.mu z e
  · have e : (M.set n (q, m')).map (·.1) = M.map (·.1) := by
      rw [List.map_set]
      refine List.ext_getElem? fun k => ?_
      by_cases e : n = k
      · subst e
        rw [List.getElem?_set_self (by rw [List.length_map]; exact hlt), List.getElem?_map, hn]
        rfl
      · rw [List.getElem?_set_ne e]
    rw [e]
    exact s.sl.nd
  · rcases key z hz with e | e
    · subst e
      exact s.ow (q, m) (List.mem_of_getElem? hn)
    · exact s.ow z e
/-- what the n-th thing is, known now; told otherwise -/
theorem tr_pickM {ι : Type} {C : ι → Prop} {mi : ι → MV} {q : Addr} (n : Nat) (hn : M[n]? = some (q, mEx C mi)) (h : ∀ d, C d → Tr B X Γ (M.set n (q, mi d)) rest D) : Tr B X Γ M rest D := fun σ I H s => by
  obtain ⟨o, ho, d, cd, h2⟩ := s.thing hn
  refine h d cd σ I H (s.setM hn fun o' h3 _ => ?_)
  rw [ho] at h3
  cases h3
  exact h2
theorem tr_asM {m m' : MV} {q : Addr} (n : Nat) (hn : M[n]? = some (q, m)) (k : ∀ o I, m.p o I → m'.p o I) (h : Tr B X Γ (M.set n (q, m')) rest D) : Tr B X Γ M rest D := fun σ I H s => h σ I H (s.setM hn fun o _ => k o I)
end
end Rm
set_option Elab.async false
set_option linter.all false
set_option maxRecDepth 100000
set_option maxHeartbeats 4000000
/-! The D-layer, part 10: dicts, instances made, lists that shrink. -/
namespace Rm
open PySem PySem.Spec PyProof.Rows L2 LamX

/-! ### dicts -/
section
variable {κ : Type} [DecidableEq κ]
def vS (kvs : List (κ × SV)) (k : κ) : Option SV := (kvs.find? fun kv => decide (kv.1 = k)).map (·.2)
def pS (kvs : List (κ × SV)) (k : κ) (S : SV) : List (κ × SV) := if (kvs.any fun kv => decide (kv.1 = k)) = true then kvs.map (fun kv => if kv.1 = k then (kv.1, S) else kv) else kvs ++ [(k, S)]
def KvV (kvs : List (κ × SV)) (ws : List (κ × V)) (I : Hp) : Prop := Paired (fun (p : κ × SV) (q : κ × V) => p.1 = q.1 ∧ p.2.p q.2 I) kvs ws
theorem KvV.mono {kvs : List (κ × SV)} {ws : List (κ × V)} {I J : Hp} (e : Xt I J) (h : KvV kvs ws I) : KvV kvs ws J := Paired.mapP h fun p q z => ⟨z.1, p.2.mono e z.2⟩
theorem KvV.length {kvs : List (κ × SV)} {ws : List (κ × V)} {I : Hp} (h : KvV kvs ws I) : kvs.length = ws.length := Paired.length h
theorem KvV.val : ∀ {kvs : List (κ × SV)} {ws : List (κ × V)} {I : Hp}, KvV kvs ws I → ∀ k : κ, (vS kvs k = none ∧ valV ws k = none) ∨ ∃ S v, vS kvs k = some S ∧ valV ws k = some v ∧ S.p v I
  | [], _, _, .nil, k => .inl ⟨rfl, rfl⟩
  | (x, S) :: kvs, (y, u) :: ws, I, .cons ⟨r1, r2⟩ t, k => by
    have r1 : x = y := r1
    subst r1
    by_cases h : x = k
    · refine .inr ⟨S, u, ?_, ?_, r2⟩
      · unfold vS
        rw [List.find?_cons, decide_eq_true (show (x, S).1 = k from h)]
        rfl
      · exact valV_pos (p := (x, u)) h
    · have e1 : vS ((x, S) :: kvs) k = vS kvs k := by
        unfold vS
        rw [List.find?_cons, decide_eq_false (show ¬ (x, S).1 = k from h)]
      have e2 : valV ((x, u) :: ws) k = valV ws k := valV_neg (p := (x, u)) h
      rw [e1, e2]
      exact KvV.val t k
theorem KvV.any : ∀ {kvs : List (κ × SV)} {ws : List (κ × V)} {I : Hp}, KvV kvs ws I → ∀ k : κ, (kvs.any fun kv => decide (kv.1 = k)) = (ws.any fun kv => decide (kv.1 = k))
  | [], _, _, .nil, k => rfl
  | (x, S) :: kvs, (y, u) :: ws, I, .cons ⟨r1, r2⟩ t, k => by
    have r1 : x = y := r1
    subst r1
    rw [List.any_cons, List.any_cons, KvV.any t k]
theorem KvV.append : ∀ {kvs kvs' : List (κ × SV)} {ws ws' : List (κ × V)} {I : Hp}, KvV kvs ws I → KvV kvs' ws' I → KvV (kvs ++ kvs') (ws ++ ws') I
  | _, _, _, _, _, .nil, s => s
  | _, _, _, _, _, .cons r t, s => .cons r (KvV.append t s)
theorem KvV.map1 {k : κ} {S : SV} {v : V} {I : Hp} (hs : S.p v I) : ∀ {kvs : List (κ × SV)} {ws : List (κ × V)}, KvV kvs ws I → KvV (kvs.map fun kv => if kv.1 = k then (kv.1, S) else kv) (ws.map fun kv => if kv.1 = k then (kv.1, v) else kv) I
  | [], _, .nil => .nil
  | (x, S0) :: kvs, (y, u) :: ws, .cons ⟨r1, r2⟩ t => by
    have r1 : x = y := r1
    subst r1
    rw [List.map_cons, List.map_cons]
    refine .cons ?_ (KvV.map1 hs t)
    by_cases h : x = k
    · rw [if_pos (show (x, S0).1 = k from h), if_pos (show (x, u).1 = k from h)]
      exact ⟨rfl, hs⟩
    · rw [if_neg (show ¬ (x, S0).1 = k from h), if_neg (show ¬ (x, u).1 = k from h)]
      exact ⟨rfl, r2⟩
theorem KvV.put {kvs : List (κ × SV)} {ws : List (κ × V)} {I : Hp} (h : KvV kvs ws I) (k : κ) {S : SV} {v : V} (hs : S.p v I) : KvV (pS kvs k S) (putK ws k v) I := by
  unfold pS putK
  rw [h.any k]
  split
  · exact KvV.map1 hs h
  · exact h.append (.cons ⟨rfl, hs⟩ .nil)
end
theorem AllV.erase : ∀ {Ss : List SV} {vs : List V} {I : Hp}, AllV Ss vs I → ∀ k, AllV (Ss.eraseIdx k) (vs.eraseIdx k) I
  | _, _, _, .nil, k => .nil
  | _, _, _, .cons r t, 0 => t
  | _, _, _, .cons r t, k + 1 => .cons r (AllV.erase t k)
/-- a dict that may change; keys: ints and texts | tuples of these -/
def mDk (kvs : List (Key × SV)) : MV := ⟨fun o I => ∃ ws, o = .dK ws ∧ KvV kvs ws I, fun e ⟨ws, h1, h2⟩ => ⟨ws, h1, h2.mono e⟩, fun ⟨ws, h1, _⟩ => by rw [h1]; trivial⟩
def mDt (kvs : List (List Key × SV)) : MV := ⟨fun o I => ∃ ws, o = .dT ws ∧ KvV kvs ws I, fun e ⟨ws, h1, h2⟩ => ⟨ws, h1, h2.mono e⟩, fun ⟨ws, h1, _⟩ => by rw [h1]; trivial⟩
/-- a key -/
def sKey (K : PySem.W.Frag) (k : Key) : SV := sV (kV k)
theorem key_str {K : PySem.W.Frag} {x : Str} {v : V} {I : Hp} (h : (sD K (.str x)).p v I) : (sKey K (.inr x)).p v I := dp_str h
theorem key_int {K : PySem.W.Frag} {i : Int} {v : V} {I : Hp} (h : (sD K (.int i)).p v I) : (sKey K (.inl i)).p v I := dp_int h
section
variable {B : Bg} {T : Tb} {X : Cx} {Γ Γ' : Ct} {M M' : Mt} {a b c e iter tg o i value : Expr} {es : List Expr} {S Sa Sb : SV} {Ss : List SV} {pos p px pos' : Pos} {rest body orelse : List Stmt} {D : Ends} {n : Nat} {x : Str} {σ σ' : L2.St} {I H I' H' : Hp} {q : Addr} {kvs : List (Key × SV)} {k : Key}
theorem Sl.thing (s : Sl Γ M σ I H) {n : Nat} {m : MV} (hn : M[n]? = some (q, m)) : ∃ o, H q = some o ∧ m.p o I := let ⟨_, o, h1, h2⟩ := s.mu _ (List.mem_of_getElem? hn); ⟨o, h1, h2⟩
/-- d[y] -/
theorem de_dget (n : Nat) (hu : X.A.units + 1 < cLine) (hn : M[n]? = some (q, mDk kvs)) (ho : DE T X Γ M o (sV (.ref q))) (hi : DE T X Γ M i (sKey X.K k)) (hv : vS kvs k = some S) (hs : NoSl i := by exact fun _ _ => rfl) : DE T X Γ M (.Subscript o i pos) S := fun σ I H Q s w kk =>
  we_of (pe_dget hu pe_we pe_we hs) (ho σ I H _ s w fun v I1 H1 g1 p1 => hi σ I1 H1 _ (s.grow0 g1) g1.wd fun y I2 H2 g2 p2 => by
    have s2 := (s.grow0 g1).grow0 g2
    obtain ⟨o, h1, ws, rfl, h2⟩ := s2.thing hn
    have p1 : v = .ref q := p1
    have p2 : y = kV k := p2
    subst p1 p2
    rcases h2.val k with ⟨h3, h4⟩ | ⟨S', u, h3, h4, h5⟩
    · rw [hv] at h3
      cases h3
    · rw [hv] at h3
      cases h3
      exact ⟨q, u, rfl, h4 ▸ DGet.k h1, kk u I2 H2 (g1.trans g2) h5⟩)
/-- y in d; y not in d -/
theorem din_run (hn : M[n]? = some (q, mDk kvs)) (hi : DE T X Γ M i (sKey X.K k)) (ho : DE T X Γ M o (sV (.ref q))) {Q : Bool → Hp → Prop} (s : Sl Γ M σ I H) (w : Wd T I H) (kk : ∀ I' H', Gr T [] I H I' H' → Q (vS kvs k).isSome H') :
    WE X i σ H fun y H1 => WE X o σ H1 fun x H2 => ∃ a ov, x = .ref a ∧ DGet H2 a y ov ∧ Q ov.isSome H2 :=
  hi σ I H _ s w fun y I1 H1 g1 p1 => ho σ I1 H1 _ (s.grow0 g1) g1.wd fun v I2 H2 g2 p2 => by
    have s2 := (s.grow0 g1).grow0 g2
    obtain ⟨o, h1, ws, rfl, h2⟩ := s2.thing hn
    have p2 : v = .ref q := p2
    have p1 : y = kV k := p1
    subst p1 p2
    refine ⟨q, _, rfl, DGet.k h1, ?_⟩
    have e : (valV ws k).isSome = (vS kvs k).isSome := by
      rcases h2.val k with ⟨h3, h4⟩ | ⟨S', u, h3, h4, h5⟩
      · rw [h3, h4] <;> rfl
      · rw [h3, h4] <;> rfl
    rw [e]
    exact kk I2 H2 (g1.trans g2)
theorem dt_din (n : Nat) (hu : X.A.units + 1 < cLine) (hn : M[n]? = some (q, mDk kvs)) (hi : DE T X Γ M i (sKey X.K k)) (ho : DE T X Γ M o (sV (.ref q))) (hb : behindInMarks .In o = false := by rfl) : DT T X Γ M (.Compare i [.In] [o] pos) (vS kvs k).isSome := fun σ I H Q s w kk =>
  wt_of (pt_cmp (pc_din hu pe_we pe_we) hb) (din_run hn hi ho s w (Q := fun b H' => ∃ b', V.bl b = .bl b' ∧ Q b' H') fun I' H' g => ⟨_, rfl, kk I' H' g⟩)
theorem de_din (n : Nat) (hu : X.A.units + 1 < cLine) (hn : M[n]? = some (q, mDk kvs)) (hi : DE T X Γ M i (sKey X.K k)) (ho : DE T X Γ M o (sV (.ref q))) (hb : behindInMarks .In o = false := by rfl) : DE T X Γ M (.Compare i [.In] [o] pos) (sD X.K (.bool (vS kvs k).isSome)) := fun σ I H Q s w kk =>
  we_of (pe_cmp (pc_din hu pe_we pe_we) hb) (din_run hn hi ho s w (Q := fun b H' => Q (.bl b) H') fun I' H' g => kk _ I' H' g (.bl _))
theorem dt_dnotin (n : Nat) (hu : X.A.units + 1 < cLine) (hn : M[n]? = some (q, mDk kvs)) (hi : DE T X Γ M i (sKey X.K k)) (ho : DE T X Γ M o (sV (.ref q))) (hb : behindInMarks .NotIn o = false := by rfl) : DT T X Γ M (.Compare i [.NotIn] [o] pos) (!(vS kvs k).isSome) := fun σ I H Q s w kk =>
  wt_of (pt_cmp (pc_dnotin hu pe_we pe_we) hb) (din_run hn hi ho s w (Q := fun b H' => ∃ b', V.bl (!b) = .bl b' ∧ Q b' H') fun I' H' g => ⟨_, rfl, kk I' H' g⟩)
theorem de_dnotin (n : Nat) (hu : X.A.units + 1 < cLine) (hn : M[n]? = some (q, mDk kvs)) (hi : DE T X Γ M i (sKey X.K k)) (ho : DE T X Γ M o (sV (.ref q))) (hb : behindInMarks .NotIn o = false := by rfl) : DE T X Γ M (.Compare i [.NotIn] [o] pos) (sD X.K (.bool (!(vS kvs k).isSome))) := fun σ I H Q s w kk =>
  we_of (pe_cmp (pc_dnotin hu pe_we pe_we) hb) (din_run hn hi ho s w (Q := fun b H' => Q (.bl (!b)) H') fun I' H' g => kk _ I' H' g (.bl _))
/-- len(d) -/
theorem de_dlen (n : Nat) (hn : M[n]? = some (q, mDk kvs)) (hm : X.mg "len" = none) (ho : DE T X Γ M o (sV (.ref q))) (hg : Gl X "len" := by rfl) (he : starEach [o] X.env = (false, eval o X.env) :: starEach [] X.env := by rfl) (hpl : (backTo pos (starEach [] X.env)).any (·.1) = false := by rfl) :
    DE T X Γ M (.Call (.Name "len" p) [o] [] pos) (sD X.K (eN kvs.length)) := fun σ I H Q s w kk =>
  we_of (pe_callB call_lenD hg hm (by decide +kernel) pa_wa (by decide) (by decide) he hpl) (da_one ho he σ I H _ s w fun vs I1 H1 g1 p1 => by
    obtain ⟨v, rfl, hv⟩ := allV1 p1
    have hv : v = .ref q := hv
    subst hv
    obtain ⟨o, h1, ws, rfl, h2⟩ := (s.grow0 g1).thing hn
    exact ⟨q, ws, rfl, h1, kk _ I1 H1 g1 (by rw [← h2.length]; exact .int _)⟩)
/-- d[y] = v -/
theorem tr_dputX {ι : Type} {C : ι → Prop} {Si : ι → SV} {Mi : ι → Mt} (n : Nat) (hu : X.A.units + 1 < cLine) (hv : DX B X Γ M value C Si Mi) {kvi : ι → List (Key × SV)} (hn : ∀ r, C r → (Mi r)[n]? = some (q, mDk (kvi r))) (hl : ∀ r, C r → (kvi r).length < 100000) (ho : ∀ r, C r → DE B.T X Γ (Mi r) o (sV (.ref q))) (hi : ∀ r, C r → DE B.T X Γ (Mi r) i (sKey X.K k))
    (h : ∀ r, C r → Tr B X Γ ((Mi r).set n (q, mDk (pS (kvi r) k (Si r)))) rest D) (hs : swapsWith value (some (.Subscript o i pos')) pos.line X.env = pure false := by rfl) : Tr B X Γ M (.Assign [.Subscript o i pos'] value pos :: rest) D := fun σ I H s =>
  ws_cons (ps_dput hu pe_we pe_we pe_we hs) (hv σ I H _ s fun r v I1 H1 cr s1 x1 p1 => ho r cr σ I1 H1 _ s1.sl s1.wd fun u I2 H2 g2 p2 => hi r cr σ I2 H2 _ (s1.grow g2).sl g2.wd fun y I3 H3 g3 p3 => by
    have s3 := (s1.grow g2).grow g3
    obtain ⟨oo, h1, ws, rfl, h2⟩ := s3.thing (hn r cr)
    have p2 : u = .ref q := p2
    have p3 : y = kV k := p3
    subst p2 p3
    exact ⟨q, _, rfl, DPut.k h1 (by rw [← h2.length]; exact Nat.lt_of_lt_of_le (hl r cr) (by decide)), h r cr σ I3 _ (s3.put (m' := mDk (pS (kvi r) k (Si r))) (hn r cr) ⟨_, rfl, h2.put k ((Si r).mono (g2.sub.trans g3.sub) p1)⟩)⟩)
theorem tr_dput (n : Nat) (hu : X.A.units + 1 < cLine) (hn : M[n]? = some (q, mDk kvs)) (hl : kvs.length < 100000) (hv : DE B.T X Γ M value S) (ho : DE B.T X Γ M o (sV (.ref q))) (hi : DE B.T X Γ M i (sKey X.K k)) (h : Tr B X Γ (M.set n (q, mDk (pS kvs k S))) rest D)
    (hs : swapsWith value (some (.Subscript o i pos')) pos.line X.env = pure false := by rfl) : Tr B X Γ M (.Assign [.Subscript o i pos'] value pos :: rest) D :=
  tr_dputX (q := q) (k := k) (kvi := fun _ => kvs) n hu (dx_of hv) (fun _ _ => hn) (fun _ _ => hl) (fun _ _ => ho) (fun _ _ => hi) (fun _ _ => h) hs
/-- x = {} -/
theorem tr_newD {j : Nat} (hN : X.N.Nodup) (hi : X.N[j]? = some x) (h : ∀ q, Tr B X (Γ.set j (some (sV (.ref q)))) ((q, mDk []) :: M) rest D) (hx : Loc X.env.scope x := by first | exact .inl rfl | exact .inr rfl)
    (hs : swapsWith (.Dict [] [] p) (some (.Name x px)) pos.line X.env = pure false := by rfl) (hf : X.fn x = true ∨ X.env.scope.names.lookup x = some .local := by first | exact .inl rfl | exact .inr rfl) : Tr B X Γ M (.Assign [.Name x px] (.Dict [] [] p) pos :: rest) D := fun σ I H s =>
  ws_cons (ps_set (i := j) hN hi hx pe_dnewK hs hf) fun q hq => h q _ I _ ((s.new (m := mDk []) hq ⟨[], rfl, .nil⟩).set rfl)

/-! ### lists that shrink -/
/-- a.pop(k) -/
theorem dx_pop {apos : Pos} (n k : Nat) (hn : M[n]? = some (q, mL Ss)) (hk : k < Ss.length) (hl : Ss.length ≤ 1000000) (hS : Ss[k]? = some S) (ho : DE B.T X Γ M o (sV (.ref q))) (he : DE B.T X Γ M e (sD X.K (eN k)))
    (hbase : attributeBase o "pop" X.env (eval o X.env) = eval o X.env := by rfl)
    (hfew : ((backTo p (starEach [e] X.env)).all (fun x => !x.1) && (backToKw p (keywordEach [] X.env)).all (fun x => x.1.isSome)
      && decide ([e].length + ([] : List Keyword).length + (if ([] : List Keyword).isEmpty then 0 else 1) < 30)) = true := by rfl)
    (hline : (apos.endLine == p.line) = true := by rfl) (hst : starEach [e] X.env = (false, eval e X.env) :: starEach [] X.env := by rfl) (hpl : (backTo p (starEach [] X.env)).any (·.1) = false := by rfl) :
    DX B X Γ M (.Call (.Attribute o "pop" apos) [e] [] p) (fun _ : Unit => True) (fun _ => S) (fun _ => M.set n (q, mL (Ss.eraseIdx k))) := fun σ I H Q s kk =>
  we_of (pe_bm PySem.F.plainAttrs_list PySem.F.slot_list_pop PySem.F.type_list_pop mt_popAt pe_we (pa_cons pe_we pa_nil hst) hbase hfew hline hst hpl) (ho σ I H _ s.sl s.wd fun v I1 H1 g1 p1 => by
    have s1 := s.grow g1
    obtain ⟨o1, h1, vs, rfl, av⟩ := s1.thing hn
    have p1 : v = .ref q := p1
    subst p1
    refine ⟨.inl ⟨rfl, vs, .inl (.inl h1)⟩, he σ I1 H1 _ s1.sl s1.wd fun u I2 H2 g2 p2 => ?_⟩
    have s2 := s1.grow g2
    have h2 : H2 q = some (.lst vs) := g2.keep _ _ h1 nt_l (by simp)
    obtain ⟨y, hy, py⟩ := (av.mono g2.sub).get hS
    have hkv : k < vs.length := by rw [← av.length]; exact hk
    have hlv : vs.length ≤ 1000000 := by rw [← av.length]; exact hl
    refine ⟨q, vs, k, k, y, rfl, by rw [dp_int p2], h2, by omega, by omega, ?_, hy, kk () y I2 _ trivial (s2.put (m' := mL (Ss.eraseIdx k)) hn ⟨_, rfl, ?_⟩) (g1.sub.trans g2.sub) py⟩
    · unfold seqIndex?
      simp only
      split <;> first | omega | (try simp) <;> omega
    · exact (av.mono g2.sub).erase k)
end
end Rm
set_option Elab.async false
set_option linter.all false
set_option maxRecDepth 100000
set_option maxHeartbeats 4000000
/-! The D-layer, part 11: instances made and changed, methods, new things handed back. -/
namespace Rm
open PySem PySem.Spec PyProof.Rows L2 LamX

section
variable {T : Tb} {P : List Addr} {I H I' H' : Hp}
/-- a thing that was not there before may have changed -/
theorem Gr.hide {x : Addr} (g : Gr T (x :: P) I H I' H') (h : Fz H x) : Gr T P I H I' H' := ⟨g.wd, g.sub, fun a o e n q => g.keep a o e n fun z => by
  rcases List.mem_cons.mp z with y | y
  · exact h.ne e n y
  · exact q y, g.there, g.fr⟩
theorem Gr.after {I1 H1 : Hp} (g : Gr T [] I H I1 H1) (g2 : Gr T P I1 H1 I' H') : Gr T P I H I' H' := g.nil.trans g2
end
section
variable {B : Bg} {T : Tb} {X : Cx} {Γ Γ' : Ct} {M M' : Mt} {a b c e iter tg o i value : Expr} {es : List Expr} {S Sa Sb : SV} {Ss : List SV} {pos p px pos' apos : Pos} {rest body orelse : List Stmt} {D : Ends} {n : Nat} {x f m : Str} {σ σ' : L2.St} {I H I' H' : Hp} {q C : Addr} {fs : List (Str × SV)}
/-! ### instances -/
/-- o.f = value, a name that it has not yet -/
theorem tr_setF (n : Nat) (hn : M[n]? = some (q, mIns C fs)) (cl : Cls X.K C) (na : NoAttr X.K C f) (hl : fs.lookup f = none) (hlen : fs.length < 900) (hv : DE B.T X Γ M value S) (ho : DE B.T X Γ M o (sV (.ref q)))
    (h : Tr B X Γ (M.set n (q, mIns C (fs ++ [(f, S)]))) rest D) (hs : swapsWith value (some (.Attribute o f pos')) pos.line X.env = pure false := by rfl) : Tr B X Γ M (.Assign [.Attribute o f pos'] value pos :: rest) D := fun σ I H s =>
  ws_cons (ps_fld pe_we pe_we hs) (hv σ I H _ s.sl s.wd fun v I1 H1 g1 p1 => ho σ I1 H1 _ (s.sl.grow0 g1) g1.wd fun u I2 H2 g2 p2 => by
    have s2 := (s.grow g1).grow g2
    obtain ⟨oo, h1, dx, gs, rfl, h2⟩ := s2.thing hn
    have p2 : u = .ref q := p2
    subst p2
    exact ⟨q, C, dx, gs, rfl, h1, cl, na, by rw [← h2.length]; omega, h σ I2 _ (s2.put (m' := mIns C (fs ++ [(f, S)])) hn ⟨dx, _, rfl, h2.put hl (S.mono g2.sub p1)⟩)⟩)
/-- o.f = {} -/
theorem tr_setFD (n : Nat) (hn : M[n]? = some (q, mIns C fs)) (cl : Cls X.K C) (na : NoAttr X.K C f) (hl : fs.lookup f = none) (hlen : fs.length < 900) (ho : ∀ r, DE B.T X Γ ((r, mDk []) :: M) o (sV (.ref q)))
    (h : ∀ r, Tr B X Γ ((r, mDk []) :: M.set n (q, mIns C (fs ++ [(f, sV (.ref r))]))) rest D) (hs : swapsWith (.Dict [] [] p) (some (.Attribute o f pos')) pos.line X.env = pure false := by rfl) : Tr B X Γ M (.Assign [.Attribute o f pos'] (.Dict [] [] p) pos :: rest) D := fun σ I H s =>
  ws_cons (ps_fld pe_we pe_dnewK hs) (fun r hr => by
    have s1 := s.new (m := mDk []) hr ⟨[], rfl, .nil⟩
    exact ho r σ I _ _ s1.sl s1.wd fun u I2 H2 g2 p2 => by
      have s2 := s1.grow g2
      obtain ⟨oo, h1, dx, gs, rfl, h2⟩ := s2.thing (n := n + 1) hn
      have p2 : u = .ref q := p2
      subst p2
      exact ⟨q, C, dx, gs, rfl, h1, cl, na, by rw [← h2.length]; omega, h r σ I2 _ (s2.put (n := n + 1) (m' := mIns C (fs ++ [(f, sV (.ref r))])) hn ⟨dx, _, rfl, h2.put hl rfl⟩)⟩)
/-- o.f = [..] -/
theorem tr_setFL (n : Nat) (hn : M[n]? = some (q, mIns C fs)) (cl : Cls X.K C) (na : NoAttr X.K C f) (hl : fs.lookup f = none) (hlen : fs.length < 900) (ha : DA B.T X Γ M es Ss) (hles : Ss.length ≤ 1000) (ho : ∀ r, DE B.T X Γ ((r, mL Ss) :: M) o (sV (.ref q)))
    (h : ∀ r, Tr B X Γ ((r, mL Ss) :: M.set n (q, mIns C (fs ++ [(f, sV (.ref r))]))) rest D) (hs : swapsWith (.List es p) (some (.Attribute o f pos')) pos.line X.env = pure false := by rfl) : Tr B X Γ M (.Assign [.Attribute o f pos'] (.List es p) pos :: rest) D := fun σ I H s =>
  ws_cons (ps_fld pe_we (pe_lst pa_wa) hs) (ha σ I H _ s.sl s.wd fun vs I1 H1 g1 p1 => ⟨by rw [← p1.length]; exact Nat.le_of_lt (small1000 hles), fun r hr => by
    have s1 := (s.grow g1).new (m := mL Ss) hr ⟨vs, rfl, p1⟩
    exact ho r σ I1 _ _ s1.sl s1.wd fun u I2 H2 g2 p2 => by
      have s2 := s1.grow g2
      obtain ⟨oo, h1, dx, gs, rfl, h2⟩ := s2.thing (n := n + 1) hn
      have p2 : u = .ref q := p2
      subst p2
      exact ⟨q, C, dx, gs, rfl, h1, cl, na, by rw [← h2.length]; omega, h r σ I2 _ (s2.put (n := n + 1) (m' := mIns C (fs ++ [(f, sV (.ref r))])) hn ⟨dx, _, rfl, h2.put hl rfl⟩)⟩⟩)
/-- o.f, of an instance that may change -/
theorem de_fldM (n : Nat) (hn : M[n]? = some (q, mIns C fs)) (cl : Cls X.K C) (na : NoAttr X.K C f) (l : fs.lookup f = some S) (he : DE T X Γ M e (sV (.ref q))) (hb : attributeBase e f X.env (eval e X.env) = eval e X.env := by rfl) : DE T X Γ M (.Attribute e f pos) S := fun σ I H Q s w k =>
  we_of (pe_fld pe_we hb) (he σ I H _ s w fun v I1 H1 g1 p1 => by
    obtain ⟨oo, h1, dx, gs, rfl, h2⟩ := (s.grow0 g1).thing hn
    have p1 : v = .ref q := p1
    subst p1
    obtain ⟨u, h3, h4⟩ := h2.look l
    exact ⟨q, C, dx, gs, u, rfl, h1, cl, na, h3, k u I1 H1 g1 h4⟩)
/-- the promise of an __init__: of the instance, what it holds then -/
def spInit {δ : Type} (T : Tb) (C : Addr) (args : δ → List SV) (pre : δ → Prop) (fs : δ → List (Str × SV)) : Sp :=
  spM T (fun d : δ × Addr => sV (.ref d.2) :: args d.1) (fun d => [(d.2, mIns C [])]) (fun d => pre d.1) (fun _ (_ : Unit) => True) (fun _ _ => sD ([] : PySem.W.Frag) .none) (fun d _ => [(d.2, mIns C (fs d.1))])
/-- a class of the module, made by data -/
structure MD (P : Program) (w : World) (K : PySem.W.Frag) (mg : Str → Option Value) (base : Heap) (k : Nat) (x : Str) (C : Addr) (ps : List Str) (sp : Sp) : Prop where
  ex : ∃ (f : Addr) (fd : FuncData), mg x = some (.ref C) ∧ Mk K C f ∧ Binds K fd ps [] ∧ FnOk P w K mg base CX0 k f fd ps sp
theorem dp_nonK {K K' : PySem.W.Frag} {I : Hp} {v : V} (h : (sD K .none).p v I) : (sD K' .none).p v I := by
  rw [dp_non h]
  exact .non
/-- C(..), an instance that changes no more -/
theorem de_make {δ : Type} {args : δ → List SV} {pre : δ → Prop} {fs : δ → List (Str × SV)} {k k' : Nat} {ps : List Str} (G : MD X.prog X.w X.K X.mg X.base k x C ps (spInit T C args pre fs)) (hr : Room k' X.A) (hk : k + 1 ≤ k') (d : δ) (hp : pre d) (ha : DA T X Γ M (e :: es) (args d)) (hg : Gl X x := by rfl) (hdb : (x == ("__debug__" : Str)) = false := by decide)
    (he : starEach (e :: es) X.env = (false, eval e X.env) :: starEach es X.env := by rfl) (hpl : (backTo pos (starEach es X.env)).any (·.1) = false := by rfl) : DE T X Γ M (.Call (.Name x p) (e :: es) [] pos) (sIns C (fs d)) := fun σ I H Q s w q => by
  obtain ⟨f, fd, hm, mk, hb, F⟩ := G.ex
  refine we_of (pe_make mk F (hr.mono hk) hg hm hb .nil (pass0 (X := X)) pa_wa hdb he hpl) (ha σ I H _ s w fun vs I1 H1 g1 p1 y dx hy hdx hne => ?_)
  rw [List.append_nil]
  have g2 : Gr T [] I1 H1 I1 (upd H1 dx (.own y)) := Gr.newM g1.wd hdx
  have hy2 : upd H1 dx (.own y) y = none := by rw [upd_ne (Ne.symm hne)]; exact hy
  have g3 : Gr T [] I1 (upd H1 dx (.own y)) I1 (upd (upd H1 dx (.own y)) y (.ins C dx [])) := Gr.newM g2.wd hy2
  refine ⟨(d, y), I1, hp, g3.wd, .cons rfl p1, fun m hm => ?_, by simp, fun _ v I2 H2 _ g4 pv ms => ⟨dp_non pv, ?_⟩⟩
  · rcases List.mem_cons.mp hm with e | e
    · subst e
      exact ⟨g1.wd.free hy, _, upd_same, dx, [], rfl, .nil⟩
    · cases e
  · obtain ⟨hi, oo, h1, dx', gs, rfl, h2⟩ := ms _ (List.mem_cons_self ..)
    have fz : Fz H y := g1.fz (.of hy)
    have g5 : Gr T [] I H I2 H2 := ((g1.trans (g2.trans g3)).after g4).hide fz
    have g6 := g5.freeze h1 nt_i fz hi
    exact q _ _ _ g6 ⟨y, dx', gs, rfl, upd_same, h2.mono (Xt.new hi)⟩
/-- C(..), an instance that may change, with things of its own (ms) -/
def spInitM {δ ρ : Type} (T : Tb) (C : Addr) (args : δ → List SV) (pre : δ → Prop) (fs : δ → ρ → List (Str × SV)) (ms : δ → ρ → Mt) : Sp := fun vs H Q _ =>
  ∃ (d : δ) (y : Addr) (I : Hp), pre d ∧ Wd T I H ∧ AllV (sV (.ref y) :: args d) vs I ∧ Ms [(y, mIns C [])] I H ∧
    ∀ r v I' H', Gr T [y] I H I' H' → v = .non → Ms ((y, mIns C (fs d r)) :: ms d r) I' H' → (∀ m ∈ ms d r, Fz H m.1) → (y :: (ms d r).map (·.1)).Nodup → Q v H'
theorem dx_makeM {δ ρ : Type} {args : δ → List SV} {pre : δ → Prop} {fs : δ → ρ → List (Str × SV)} {ms : δ → ρ → Mt} {k k' : Nat} {ps : List Str} (G : MD X.prog X.w X.K X.mg X.base k x C ps (spInitM B.T C args pre fs ms)) (hr : Room k' X.A) (hk : k + 1 ≤ k') (d : δ) (hp : pre d) (ha : DA B.T X Γ M (e :: es) (args d)) (hg : Gl X x := by rfl) (hdb : (x == ("__debug__" : Str)) = false := by decide)
    (he : starEach (e :: es) X.env = (false, eval e X.env) :: starEach es X.env := by rfl) (hpl : (backTo pos (starEach es X.env)).any (·.1) = false := by rfl) :
    DX B X Γ M (.Call (.Name x p) (e :: es) [] pos) (fun _ : Addr × ρ => True) (fun r => sV (.ref r.1)) (fun r => (r.1, mIns C (fs d r.2)) :: (ms d r.2 ++ M)) := fun σ I H Q s q => by
  obtain ⟨f, fd, hm, mk, hb, F⟩ := G.ex
  refine we_of (pe_make mk F (hr.mono hk) hg hm hb .nil (pass0 (X := X)) pa_wa hdb he hpl) (ha σ I H _ s.sl s.wd fun vs I1 H1 g1 p1 y dx hy hdx hne => ?_)
  rw [List.append_nil]
  have g2 : Gr B.T [] I1 H1 I1 (upd H1 dx (.own y)) := Gr.newM g1.wd hdx
  have hy2 : upd H1 dx (.own y) y = none := by rw [upd_ne (Ne.symm hne)]; exact hy
  have g3 : Gr B.T [] I1 (upd H1 dx (.own y)) I1 (upd (upd H1 dx (.own y)) y (.ins C dx [])) := Gr.newM g2.wd hy2
  refine ⟨d, y, I1, hp, g3.wd, .cons rfl p1, fun m hm => ?_, fun r v I2 H2 g4 ev hms fz nd => ⟨ev, ?_⟩⟩
  · rcases List.mem_cons.mp hm with e | e
    · subst e
      exact ⟨g1.wd.free hy, _, upd_same, dx, [], rfl, .nil⟩
    · cases e
  · have s1 := s.grow g1
    have fy : Fz H1 y := .of hy
    have g5 : Gr B.T [] I1 H1 I2 H2 := ((g2.trans g3).after g4).hide fy
    have s5 := s1.grow g5
    have fz1 : ∀ m ∈ ms d r, Fz H1 m.1 := fun m hm => (g2.trans g3).fz (fz m hm)
    have mt : ∀ z ∈ M, ∃ o, H1 z.1 = some o ∧ NT o := fun z hz => let ⟨_, o, h1, h2⟩ := s1.sl.mu z hz; ⟨o, h1, (z.2.mo h2).nt⟩
    refine q (y, r) _ I2 H2 trivial ⟨⟨s5.sl.len, s5.sl.sl, fun z hz => ?_, ?_⟩, s5.gr, fun z hz => ?_, s5.an⟩ (g1.sub.trans g5.sub) rfl
    · rcases List.mem_cons.mp hz with e | e
      · rw [e]
        exact hms _ (List.mem_cons_self ..)
      · rcases List.mem_append.mp e with e | e
        · exact hms _ (List.mem_cons_of_mem _ e)
        · exact s5.sl.mu z e
    · rw [List.map_cons, List.map_append, List.nodup_cons]
      rw [List.nodup_cons] at nd
      refine ⟨fun z => ?_, List.nodup_append.mpr ⟨nd.2, s5.sl.nd, fun u hu u' hu' e => ?_⟩⟩
      · rcases List.mem_append.mp z with z | z
        · exact nd.1 z
        · obtain ⟨z', hz', e⟩ := List.mem_map.mp z
          obtain ⟨o, h1, h2⟩ := mt z' hz'
          rw [e, hy] at h1
          cases h1
      · obtain ⟨m', hm', e1⟩ := List.mem_map.mp hu
        obtain ⟨z', hz', e2⟩ := List.mem_map.mp hu'
        obtain ⟨o, h1, h2⟩ := mt z' hz'
        exact (fz1 m' hm') o (by rw [e1, e, ← e2]; exact h1) h2
    · rcases List.mem_cons.mp hz with e | e
      · rw [e]
        exact .inl (s1.gr.fz fy)
      · rcases List.mem_append.mp e with e | e
        · exact .inl (s1.gr.fz (fz1 z e))
        · exact s5.ow z e

/-! ### calls that change what they are given -/
theorem As.after2 {ms ms' M0 : Mt} (s : As B Γ (ms ++ M0) σ I H) (g : Gr B.T (ms.map (·.1)) I H I' H') (hm : Ms ms' I' H') (he : ms'.map (·.1) = ms.map (·.1)) : As B Γ (ms' ++ M0) σ I' H' := by
  have nd := s.sl.nd
  rw [List.map_append, List.nodup_append] at nd
  obtain ⟨nd1, nd2, nd3⟩ := nd
  have ow' : ∀ a ∈ ms.map (·.1), Fz B.H0 a ∨ a ∈ B.P := fun a ha => by
    obtain ⟨m, h1, h2⟩ := List.mem_map.mp ha
    rw [← h2]
    exact s.ow m (List.mem_append_left _ h1)
  refine ⟨⟨s.sl.len, fun j S e => let ⟨v, h1, h2⟩ := s.sl.sl j S e; ⟨v, h1, S.mono g.sub h2⟩, fun z hz => ?_, ?_⟩, ?_, fun z hz => ?_, fun A hA => (s.an A hA).trans g.sub⟩
  · rcases List.mem_append.mp hz with e | e
    · exact hm z e
    · obtain ⟨h1, o, h2, h3⟩ := s.sl.mu z (List.mem_append_right _ e)
      have q : z.1 ∉ ms.map (·.1) := fun y => nd3 _ y _ (List.mem_map.mpr ⟨z, e, rfl⟩) rfl
      exact ⟨g.fr _ o h1 h2 (z.2.mo h3), o, g.keep _ o h2 (z.2.mo h3).nt q, z.2.mono g.sub h3⟩
  · rw [List.map_append, he, ← List.map_append]
    exact s.sl.nd
  · refine ⟨g.wd, s.gr.sub.trans g.sub, fun c o h n q => ?_, fun c o h n => ?_, fun c o z h n => ?_⟩
    · refine g.keep c o (s.gr.keep c o h n q) n fun z => ?_
      rcases ow' c z with y | y
      · exact y o h n
      · exact q y
    · obtain ⟨o', h', n', m'⟩ := s.gr.there c o h n
      obtain ⟨o2, h2, n2, m2⟩ := g.there c o' h' n'
      exact ⟨o2, h2, n2, fun z => m2 (m' z)⟩
    · obtain ⟨o', h', n', m'⟩ := s.gr.there c o h n.nt
      exact g.fr c o' (s.gr.fr c o z h n) h' (m' n)
  · rcases List.mem_append.mp hz with e | e
    · have : z.1 ∈ ms.map (·.1) := by
        rw [← he]
        exact List.mem_map.mpr ⟨z, e, rfl⟩
      exact ow' _ this
    · exact s.ow z (List.mem_append_right _ e)
section
variable {δ ρ : Type} {args : δ → List SV} {ms : δ → Mt} {pre : δ → Prop} {post : δ → ρ → Prop} {res : δ → ρ → SV} {ms' : δ → ρ → Mt} {k k' : Nat} {ps : List Str} {M0 : Mt}
theorem nd_app {ms M0 : Mt} (s : Sl Γ (ms ++ M0) σ I H) : (ms.map (·.1)).Nodup := by
  have := s.nd
  rw [List.map_append, List.nodup_append] at this
  exact this.1
theorem dx_callM (G : FD X.prog X.w X.K X.mg X.base k x ps (spM B.T args ms pre post res ms')) (hr : Room k' X.A) (hk : k ≤ k') (d : δ) (hp : pre d) (hM : M = ms d ++ M0) (hms : ∀ r, post d r → (ms' d r).map (·.1) = (ms d).map (·.1))
    (ha : DA B.T X Γ M (e :: es) (args d)) (hg : Gl X x := by rfl) (hdb : (x == ("__debug__" : Str)) = false := by decide)
    (he : starEach (e :: es) X.env = (false, eval e X.env) :: starEach es X.env := by rfl) (hpl : (backTo pos (starEach es X.env)).any (·.1) = false := by rfl) : DX B X Γ M (.Call (.Name x p) (e :: es) [] pos) (post d) (res d) (fun r => ms' d r ++ M0) := fun σ I H Q s q => by
  obtain ⟨f, fd, hmg, kp, hb, F⟩ := G.ex
  exact we_of (pe_call F (hr.mono hk) hg hmg kp hb .nil (pass0 (X := X)) pa_wa hdb he hpl) (ha σ I H _ s.sl s.wd fun vs I1 H1 g1 p1 => by
    have s1 := s.grow g1
    rw [hM] at s1
    exact ⟨d, I1, hp, g1.wd, by rw [List.append_nil]; exact p1, fun m hm => s1.sl.mu m (List.mem_append_left _ hm), nd_app s1.sl, fun r v I2 H2 o g2 p2 m2 => q r v I2 H2 o (s1.after2 g2 m2 (hms r o)) (g1.sub.trans g2.sub) p2⟩)
/-- o.m(e, ..), o an instance that may change: it stands n-th -/
theorem dx_meth {fd : FuncData} {f : Addr} {pl : Sem Bool} (n : Nat) (hn : M[n]? = some (q, mIns C fs)) (hnm : fs.lookup m = none) (cl : Cls X.K C) (hm : Meth X.K C m f) (F : FnOk X.prog X.w X.K X.mg X.base CX0 k f fd ps (spM B.T args ms pre post res ms')) (hb : Binds X.K fd ps []) (hr : Room k' X.A) (hk : k ≤ k') (d : δ) (hp : pre d) (hM : M = ms d ++ M0) (hms : ∀ r, post d r → (ms' d r).map (·.1) = (ms d).map (·.1))
    (ho : DE B.T X Γ M o (sV (.ref q))) (ha : DA B.T X Γ M (e :: es) Ss) (had : args d = sV (.ref q) :: Ss)
    (hst : starEach (e :: es) X.env = (false, eval e X.env) :: starEach es X.env := by rfl) (hpl : (backTo pos (starEach es X.env)).any (·.1) = false := by rfl)
    (ht : eval (.Call (.Attribute o m apos) (e :: es) [] pos) X.env = (do
      let ov ← eval o X.env
      standAt apos.atName
      let (f, first) ← holding [ov] (getMethod ov m pl)
      callWith pos f first (backTo pos (starEach (e :: es) X.env)) (backToKw pos (keywordEach [] X.env))) := by rfl) : DX B X Γ M (.Call (.Attribute o m apos) (e :: es) [] pos) (post d) (res d) (fun r => ms' d r ++ M0) := fun σ I H Q s q' =>
  we_of (pe_meth pe_we cl hm F (hr.mono hk) hb .nil (pass0 (X := X)) pa_wa hst hpl ht) (ho σ I H _ s.sl s.wd fun v I1 H1 g1 p1 => by
    have s1 := s.grow g1
    obtain ⟨oo, h1, dx, gs, rfl, h2⟩ := s1.thing hn
    have p1 : v = .ref q := p1
    subst p1
    refine ⟨q, dx, gs, rfl, h1, h2.lookN hnm, ha σ I1 H1 _ s1.sl s1.wd fun vs I2 H2 g2 p2 => ?_⟩
    have s2 := s1.grow g2
    rw [hM] at s2
    exact ⟨d, I2, hp, g2.wd, by rw [List.append_nil, had]; exact .cons rfl p2, fun m hm => s2.sl.mu m (List.mem_append_left _ hm), nd_app s2.sl, fun r v I3 H3 o g3 p3 m3 => q' r v I3 H3 o (s2.after2 g3 m3 (hms r o)) ((g1.sub.trans g2.sub).trans g3.sub) p3⟩)
end
/-! ### statements by expressions that change things -/
theorem DX.imp {ι κ : Type} {Ci : ι → Prop} {Si : ι → SV} {Mi : ι → Mt} {Cj : κ → Prop} {Sj : κ → SV} {Mj : κ → Mt} (h : DX B X Γ M e Ci Si Mi) (q : ∀ i v I', Ci i → (Si i).p v I' → ∃ j, Cj j ∧ Mj j = Mi i ∧ (Sj j).p v I') : DX B X Γ M e Cj Sj Mj := fun σ I H Q s k =>
  h σ I H Q s fun i v I' H' ci s' xt pv => let ⟨j, cj, ej, pj⟩ := q i v I' ci pv; k j v I' H' cj (by rw [ej]; exact s') xt pj
theorem DX.to {ι : Type} {Ci : ι → Prop} {Si : ι → SV} (h : DX B X Γ M e Ci Si (fun _ => M)) : DS B X Γ M e (sEx Ci Si) := fun σ I H Q s k => h σ I H Q s fun i v I' H' ci s' xt pv => k v I' H' s' xt ⟨i, ci, pv⟩
theorem dx_ds (h : DS B X Γ M e S) : DX B X Γ M e (fun _ : Unit => True) (fun _ => S) (fun _ => M) := fun σ I H Q s k => h σ I H Q s fun v I' H' s' xt p => k () v I' H' trivial s' xt p
theorem dx_if {ι : Type} {Ci : ι → Prop} {Si : ι → SV} {Mi : ι → Mt} {t : Expr} {c : Bool} (ht : DT B.T X Γ M t c) (h1 : c = true → DX B X Γ M a Ci Si Mi) (h2 : c = false → DX B X Γ M b Ci Si Mi) : DX B X Γ M (.IfExp t a b pos) Ci Si Mi := fun σ I H Q s k =>
  we_of (pe_ifExp pt_wt pe_we pe_we) (ht σ I H _ s.sl s.wd fun I1 H1 g1 => by
    cases c with
    | true => exact iteT (h1 rfl σ I1 H1 Q (s.grow g1) fun i v I2 H2 ci s2 x2 p => k i v I2 H2 ci s2 (g1.sub.trans x2) p)
    | false => exact iteF (h2 rfl σ I1 H1 Q (s.grow g1) fun i v I2 H2 ci s2 x2 p => k i v I2 H2 ci s2 (g1.sub.trans x2) p))
theorem tr_exprX {ι : Type} {Ci : ι → Prop} {Si : ι → SV} {Mi : ι → Mt} (he : DX B X Γ M e Ci Si Mi) (h : ∀ r, Ci r → Tr B X Γ (Mi r) rest D) (hs : swapsWith e none pos.line X.env = pure false := by rfl) : Tr B X Γ M (.Expr e pos :: rest) D := fun σ I H s =>
  ws_cons (ps_expr pe_we hs) (he σ I H _ s fun r v I' H' cr s' xt p => h r cr σ I' H' s')
theorem tr_retX {ι : Type} {Ci : ι → Prop} {Si : ι → SV} {Mi : ι → Mt} (he : DX B X Γ M e Ci Si Mi) (hr : ∀ r v σ I H, Ci r → As B Γ (Mi r) σ I H → (Si r).p v I → D.rt v H) : Tr B X Γ M (.Return (some e) pos :: rest) D := fun σ I H s =>
  ws_cons (ps_ret pe_we) (he σ I H _ s fun r v I' H' cr s' xt p => hr r v σ I' H' cr s' p)
/-! ### displays of dicts -/
def DPs (T : Tb) (X : Cx) (Γ : Ct) (M : Mt) (pos : Pos) (keys : List (Option Expr)) (vals : List Expr) (kvs : List (Key × SV)) : Prop :=
  ∃ trs, PPs X pos keys vals trs ∧ ∀ (σ : L2.St) (I H : Hp) (Q : List (V × V) → Hp → Prop), Sl Γ M σ I H → Wd T I H → (∀ ws I' H', Gr T [] I H I' H' → KvV kvs ws I' → Q (ws.map fun kv => (kV kv.1, kv.2)) H') → tPairs trs σ H Q
theorem dps_nil {pos : Pos} : DPs T X Γ M pos [] [] [] := ⟨[], pps_nil, fun σ I H Q s w k => k [] I H (Gr.refl w) .nil⟩
theorem dps_cons {pos : Pos} {ke ve : Expr} {ks : List (Option Expr)} {vs : List Expr} {kvs : List (Key × SV)} {kk : Key} (hk : DE T X Γ M ke (sKey X.K kk)) (hv : DE T X Γ M ve S) (hr : DPs T X Γ M pos ks vs kvs) : DPs T X Γ M pos (some ke :: ks) (ve :: vs) ((kk, S) :: kvs) := by
  obtain ⟨trs, h1, h2⟩ := hr
  refine ⟨_, pps_cons pe_we pe_we h1, fun σ I H Q s w k => ?_⟩
  refine hk σ I H _ s w fun u I1 H1 g1 p1 => hv σ I1 H1 _ (s.grow0 g1) g1.wd fun v I2 H2 g2 p2 => h2 σ I2 H2 _ ((s.grow0 g1).grow0 g2) g2.wd fun ws I3 H3 g3 p3 => ?_
  have p1 : u = kV kk := p1
  subst p1
  exact k ((kk, v) :: ws) I3 H3 ((g1.trans g2).trans g3) (.cons ⟨rfl, S.mono g3.sub p2⟩ p3)
theorem dx_disp {keys : List (Option Expr)} {vals : List Expr} {kvs : List (Key × SV)} (h : DPs B.T X Γ M pos keys vals kvs) (hall : keys.all (·.isSome) = true) (hl : keys.length = vals.length) (h0 : keys ≠ []) (h15 : keys.length ≤ 15) (h16 : kvs.length ≤ 15) (hnd : (kvs.map (·.1)).Nodup) :
    DX B X Γ M (.Dict keys vals pos) (fun _ : Addr => True) (fun q => sV (.ref q)) (fun q => (q, mDk kvs) :: M) := fun σ I H Q s k => by
  obtain ⟨trs, h1, h2⟩ := h
  refine we_of (pe_disp h1 hall hl h0 h15) fun q hq => ?_
  have s0 := s.new (m := mDk []) hq ⟨[], rfl, .nil⟩
  have s1 : Sl Γ M σ I (upd H q (.dK [])) := ⟨s0.sl.len, s0.sl.sl, fun z hz => s0.sl.mu z (List.mem_cons_of_mem _ hz), s.sl.nd⟩
  refine h2 σ I _ _ s1 s0.wd fun ws I2 H2 g2 p2 => ?_
  have s2 := s0.grow g2
  obtain ⟨oo, ho, ws0, rfl, hw⟩ := s2.thing (n := 0) rfl
  cases hw
  refine ⟨ho, ws, rfl, by rw [← p2.length]; exact h16, k q _ I2 _ trivial (s2.put (n := 0) (m' := mDk kvs) rfl ⟨_, rfl, ?_⟩) g2.sub rfl⟩
  have key : ∀ (ws acc : List (Key × V)), ((acc ++ ws).map (·.1)).Nodup → mergeK acc ws = acc ++ ws := by
    intro ws
    induction ws with
    | nil => intro acc _; rw [List.append_nil]; rfl
    | cons p ps ih =>
      intro acc hn
      show mergeK (putK acc p.1 p.2) ps = acc ++ p :: ps
      have e : putK acc p.1 p.2 = acc ++ [p] := by
        unfold putK
        rw [if_neg]
        intro z
        obtain ⟨y, hy, ey⟩ := List.any_eq_true.mp z
        have ey : y.1 = p.1 := of_decide_eq_true ey
        rw [List.map_append, List.nodup_append] at hn
        exact hn.2.2 y.1 (List.mem_map.mpr ⟨y, hy, rfl⟩) p.1 (by simp) ey
      rw [e, ih (acc ++ [p]) (by rw [List.append_assoc]; exact hn), List.append_assoc]
      rfl
  have ek : ws.map (·.1) = kvs.map (·.1) := by
    clear ho s2 k g2 h2
    induction p2 with
    | nil => rfl
    | cons r t ih =>
      rw [List.map_cons, List.map_cons, ← r.1]
      congr 1
      refine ih ?_ ?_
      · rw [List.length_cons] at h16; omega
      · rw [List.map_cons, List.nodup_cons] at hnd; exact hnd.2
  rw [key ws [] (by rw [List.nil_append, ek]; exact hnd), List.nil_append]
  exact p2
end
end Rm
set_option Elab.async false
set_option linter.all false
set_option maxRecDepth 100000
set_option maxHeartbeats 4000000
/-! The D-layer, part 12: tuples multiplied, joined, cut; lists looked at while they may change; texts. -/
namespace Rm
open PySem PySem.Spec PyProof.Rows L2 LamX
theorem tuple_mul1 (l : Addr) (items : Array Value) (n : Nat) (dd : Option Addr) (sl : Array (Option Value)) (x : Int) (u : Tok) (c0 : (decide (x < -(2 ^ 63)) || decide (x ≥ 2 ^ 63)) = false) (c1 : (items.isEmpty || x == 1) = true) :
    Meets (Builtin.«tuple.__mul__» ⟨[.ref l, .int x u], []⟩) (fun _ R s => s.heap.get? l = some { cls := .type "tuple", dict := dd, data := .seq items n, slots := sl } ∧
      R (.ok (.ret (Value.ref l))) s) :=
  .of_wp fun prog w A R s h => by
    obtain ⟨hp, g, d, tk, os⟩ := s
    obtain ⟨hl, h⟩ := h
    have f1 := AutoSeq1.idx_int
    wp_walk using wpAny_loadPart' hl
    repeat (first
      | (refine wpAny_ite_false (decide_eq_false (by rw [c0]; exact Bool.false_ne_true)) ?_; wp_walk using wpAny_loadPart' hl)
      | (refine wpAny_ite_true (decide_eq_true (by rw [c1])) ?_; wp_walk using wpAny_loadPart' hl))
    exact ⟨_, rfl, h⟩
theorem tuple_mul0 (l : Addr) (items : Array Value) (n : Nat) (dd : Option Addr) (sl : Array (Option Value)) (u : Tok) (c1 : items.isEmpty = false) :
    Meets (Builtin.«tuple.__mul__» ⟨[.ref l, .int 0 u], []⟩) (fun _ R s => s.heap.get? l = some { cls := .type "tuple", dict := dd, data := .seq items n, slots := sl } ∧
      R (.ok (.ret (Value.ref s.heap.objs.size))) { s with heap := s.heap.push { cls := Value.type "tuple", data := Data.seq #[] }, toks := s.toks }) :=
  .of_wp fun prog w A R s h => by
    obtain ⟨hp, g, d, tk, os⟩ := s
    obtain ⟨hl, h⟩ := h
    have f1 := AutoSeq1.idx_int
    have c0 : (decide ((0 : Int) < -(2 ^ 63)) || decide ((0 : Int) ≥ 2 ^ 63)) = false := by decide
    have c2 : (items.isEmpty || (0 : Int) == 1) = false := by rw [c1]; rfl
    have c3 : (decide ((0 : Int) ≤ 0) || items.isEmpty) = true := by rw [c1]; rfl
    wp_walk using wpAny_loadPart' hl
    repeat (first
      | (refine wpAny_ite_false (decide_eq_false (by rw [c0]; exact Bool.false_ne_true)) ?_; wp_walk using wpAny_loadPart' hl)
      | (refine wpAny_ite_false (decide_eq_false (by rw [c2]; exact Bool.false_ne_true)) ?_; wp_walk using wpAny_loadPart' hl)
      | (refine wpAny_ite_true (decide_eq_true (by rw [c3])) ?_; wp_walk using wpAny_loadPart' hl))
    exact ⟨_, rfl, h⟩
/-- t * k -/
def rRepA (K : PySem.W.Frag) : R2 := fun x y H Q => ∃ l k xs, x = .ref l ∧ y = .int ((k : Nat) : Int) ∧ SqT K H l xs ∧ k ≤ 1000 ∧ xs.length ≤ 1000 ∧
  ((xs = [] ∨ k = 1) → Q (.ref l) H) ∧ (∀ p, H p = none → Q (.ref p) (upd H p (.tup (List.replicate k xs).flatten)))
section
variable {X : Cx}
theorem op_repA : OpR X (binaryOp .Mult) (rRepA X.K) := by
  intro pins s σ H x y v u Q I rx ry h
  obtain ⟨l, k, xs, rfl, rfl, hT, h1, hz, q1, q⟩ := h
  by_cases hb : xs ≠ [] ∧ 2 ≤ k
  · refine op_repT pins s σ H _ _ v u Q I rx ry ⟨l, k, xs, rfl, rfl, hT, hb.1, by omega, by omega, hz, fun p hp => ?_⟩
    have e : ((k : Int)).toNat = k := by omega
    rw [e]
    exact q p hp
  cases rx
  obtain ⟨t, rfl⟩ := ry
  obtain ⟨its, r, ⟨⟨cls, dd, data, sl⟩, ho, hc, n, hd⟩, hs⟩ := I.tuple hT
  simp only at hc hd
  subst hc hd
  have hle : its.length = xs.length := r.length.symm
  by_cases h0 : xs = [] ∨ k = 1
  · have c1 : (its.toArray.isEmpty || (k : Int) == 1) = true := by
      rcases h0 with h0 | h0
      · rw [h0] at hle
        rw [List.eq_nil_of_length_eq_zero hle]
        rfl
      · subst h0
        rw [Bool.or_eq_true]
        exact .inr rfl
    have c0 : (decide ((k : Int) < -(2 ^ 63)) || decide ((k : Int) ≥ 2 ^ 63)) = false := by
      rw [decide_eq_false (by omega), decide_eq_false (by omega)] <;> rfl
    exact wpAny_binaryOp_repeat_ref (T := "tuple") (U := "int") (by decide) ⟨_, ho, rfl⟩ (fun s' => typeIs_int s' k t) noFill_tuple_mul F.fills_int_mul F.slot_int_rmul repeat_tuple F.slot_int_index.lookup
      (call_meets F.slot_int_rmul (typeIs_int s k t) F.entry_int_rmul (F.args_int_rmul_2 _ _) (int_rmul_tuple k t l its.toArray n dd sl)
        ⟨ho, rfl, ⟨_, ho, rfl⟩, call_meets F.slot_tuple_mul ⟨_, ho, rfl⟩ F.entry_tuple_mul (F.args_tuple_mul_2 _ _) (tuple_mul1 l its.toArray n dd sl k t c0 c1) ⟨ho, .ref l, H, I, rfl, q1 h0⟩⟩)
  · have hx : xs ≠ [] := fun z => h0 (.inl z)
    have hk : k = 0 := by
      rcases Nat.lt_or_ge k 2 with z | z
      · rcases Nat.lt_or_ge k 1 with z2 | z2
        · omega
        · exact absurd (by omega) (fun z3 : k = 1 => h0 (.inr z3))
      · exact absurd ⟨hx, z⟩ hb
    subst hk
    have hi : its.toArray.isEmpty = false := by
      cases its with
      | nil => exact absurd (List.eq_nil_of_length_eq_zero hle.symm) hx
      | cons a b => rfl
    refine wpAny_binaryOp_repeat_ref (T := "tuple") (U := "int") (by decide) ⟨_, ho, rfl⟩ (fun s' => typeIs_int s' _ t) noFill_tuple_mul F.fills_int_mul F.slot_int_rmul repeat_tuple F.slot_int_index.lookup
      (call_meets F.slot_int_rmul (typeIs_int s _ t) F.entry_int_rmul (F.args_int_rmul_2 _ _) (int_rmul_tuple _ t l its.toArray n dd sl)
        ⟨ho, rfl, ⟨_, ho, rfl⟩, call_meets F.slot_tuple_mul ⟨_, ho, rfl⟩ F.entry_tuple_mul (F.args_tuple_mul_2 _ _) (tuple_mul0 l its.toArray n dd sl t hi) ⟨ho, ?_⟩⟩)
    refine ⟨.ref s.heap.objs.size, _, I.laid (t' := s.toks) (o := .tup []) (fun b ob q => Heap.get?_push_of_some _ q) (Nat.le_refl _) ?_, rfl, q _ (I.hok.fresh (Nat.le_refl _))⟩
    exact ⟨Nat.zero_le _, [], .nil, IsTup.new _ _⟩
end
section
variable {T : Tb} {K : PySem.W.Frag} {B : Bg} {X : Cx} {Γ : Ct} {M : Mt} {a b c e iter tg o i : Expr} {es : List Expr} {S Sa Sb : SV} {Ss : List SV} {pos p p2 : Pos} {n : Nat} {x : Str} {q : Addr}
/-- tuples + and * by what they hold -/
theorem rd_cat {Ss Ss' : List SV} (hl : Ss.length + Ss'.length ≤ 100000) : RD2 T (rCatA K) (sTup K Ss) (sTup K Ss') (sTup K (Ss ++ Ss')) := fun x y I H Q w ⟨a, vs, e1, h1, h2⟩ ⟨b, ws, e3, h3, h4⟩ k => by
  have l1 := h2.length
  have l2 := h4.length
  refine ⟨a, b, vs, ws, e1, e3, w.sub.t h1, w.sub.t h3, by rw [← l1, ← l2]; exact Nat.le_trans hl (by decide), fun z => ?_, fun z1 z2 => ?_, fun z1 z2 p hp => ?_⟩
  · subst z
    cases h2
    exact k _ I H (Gr.refl w) ⟨b, ws, rfl, h3, h4⟩
  · subst z2
    cases h4
    exact k _ I H (Gr.refl w) ⟨a, vs, rfl, h1, by rw [List.append_nil]; exact h2⟩
  · exact k _ _ _ (Gr.new w hp nt_t) ⟨p, _, rfl, .inl (.inl upd_same), (h2.append h4).mono (Xt.new (w.free hp))⟩
theorem rd_catD {ds ds' : List PyData} (hl : ds.length + ds'.length ≤ 100000) : RD2 T (rCatA K) (sD K (.tuple ds)) (sD K (.tuple ds')) (sD K (.tuple (ds ++ ds'))) := fun x y I H Q w hx hy k =>
  rd_cat (Ss := ds.map (sD K)) (Ss' := ds'.map (sD K)) (by rw [List.length_map, List.length_map]; exact hl) x y I H Q w (sD_tup.mp hx) (sD_tup.mp hy) fun v I' H' g p => k v I' H' g (sD_tup.mpr (by rw [List.map_append]; exact p))
theorem allV_rep {vs : List V} {I : Hp} (h : AllV Ss vs I) : ∀ k : Nat, AllV (List.replicate k Ss).flatten (List.replicate k vs).flatten I
  | 0 => .nil
  | k + 1 => by
    rw [List.replicate_succ, List.replicate_succ, List.flatten_cons, List.flatten_cons]
    exact h.append (allV_rep h k)
theorem rd_rep {Ss : List SV} {k : Nat} (hl : Ss.length ≤ 1000) (hk : k ≤ 1000) : RD2 T (rRepA K) (sTup K Ss) (sD K (eN k)) (sTup K (List.replicate k Ss).flatten) := fun x y I H Q w ⟨a, vs, e1, h1, h2⟩ hy q => by
  have l1 := h2.length
  refine ⟨a, k, vs, e1, dp_int hy, w.sub.t h1, hk, by rw [← l1]; exact hl, fun z => ?_, fun p hp => ?_⟩
  · refine q _ I H (Gr.refl w) ⟨a, vs, rfl, h1, ?_⟩
    rcases z with z | z
    · subst z
      cases h2
      have e : ∀ k : Nat, (List.replicate k ([] : List SV)).flatten = [] := fun k => by
        induction k with
        | zero => rfl
        | succ k ih => rw [List.replicate_succ, List.flatten_cons, List.nil_append, ih]
      rw [e]
      exact .nil
    · subst z
      rw [show List.replicate 1 Ss = [Ss] from rfl, List.flatten_cons, List.flatten_nil, List.append_nil]
      exact h2
  · exact q _ _ _ (Gr.new w hp nt_t) ⟨p, _, rfl, .inl (.inl upd_same), (allV_rep h2 k).mono (Xt.new (w.free hp))⟩
theorem map_rep {α β : Type} (f : α → β) (xs : List α) : ∀ k : Nat, (List.replicate k xs).flatten.map f = (List.replicate k (xs.map f)).flatten
  | 0 => rfl
  | k + 1 => by rw [List.replicate_succ, List.replicate_succ, List.flatten_cons, List.flatten_cons, List.map_append, map_rep f xs k]
theorem rd_repD {ds : List PyData} {k : Nat} (hl : ds.length ≤ 1000) (hk : k ≤ 1000) : RD2 T (rRepA K) (sD K (.tuple ds)) (sD K (eN k)) (sD K (.tuple (List.replicate k ds).flatten)) := fun x y I H Q w hx hy q =>
  rd_rep (Ss := ds.map (sD K)) (by rw [List.length_map]; exact hl) hk x y I H Q w (sD_tup.mp hx) hy fun v I' H' g p => q v I' H' g (sD_tup.mpr (by rw [map_rep]; exact p))
theorem de_catD {ds ds' : List PyData} (ha : DE T X Γ M a (sD X.K (.tuple ds))) (hb : DE T X Γ M b (sD X.K (.tuple ds'))) (hl : ds.length + ds'.length ≤ 100000) : DE T X Γ M (.BinOp a .Add b pos) (sD X.K (.tuple (ds ++ ds'))) := de_op op_catA (rd_catD hl) ha hb
theorem de_repD {ds : List PyData} {k : Nat} (ha : DE T X Γ M a (sD X.K (.tuple ds))) (hb : DE T X Γ M b (sD X.K (eN k))) (hl : ds.length ≤ 1000) (hk : k ≤ 1000) : DE T X Γ M (.BinOp a .Mult b pos) (sD X.K (.tuple (List.replicate k ds).flatten)) := de_op op_repA (rd_repD hl hk) ha hb
theorem de_catT {f : Nat → PyData} {xs ys : List Nat} (ha : DE T X Γ M a (sD X.K (eT f xs))) (hb : DE T X Γ M b (sD X.K (eT f ys))) (hl : xs.length + ys.length ≤ 100000) : DE T X Γ M (.BinOp a .Add b pos) (sD X.K (eT f (xs ++ ys))) :=
  (de_catD (ds := xs.map f) (ds' := ys.map f) ha hb (by rw [List.length_map, List.length_map]; exact hl)).is (by unfold eT; rw [List.map_append])
theorem de_repT {f : Nat → PyData} {xs : List Nat} {k : Nat} (ha : DE T X Γ M a (sD X.K (eT f xs))) (hb : DE T X Γ M b (sD X.K (eN k))) (hl : xs.length ≤ 1000) (hk : k ≤ 1000) : DE T X Γ M (.BinOp a .Mult b pos) (sD X.K (eT f (List.replicate k xs).flatten)) :=
  (de_repD (ds := xs.map f) ha hb (by rw [List.length_map]; exact hl) hk).is (by unfold eT; rw [map_rep])
/-! ### slices of tuples -/
def DO (T : Tb) (X : Cx) (Γ : Ct) (M : Mt) (e : Option Expr) (k : Option Int) : Prop :=
  ∃ t, PO X e t ∧ ∀ (σ : L2.St) (I H : Hp) (Q : Option Int → Hp → Prop), Sl Γ M σ I H → Wd T I H → (∀ I' H', Gr T [] I H I' H' → Q k H') → t σ H Q
theorem do_none : DO T X Γ M none none := ⟨_, po_none, fun σ I H Q s w k => k I H (Gr.refl w)⟩
theorem do_some {j : Int} (h : DE T X Γ M e (sD X.K (.int j))) : DO T X Γ M (some e) (some j) := ⟨_, po_some pe_we, fun σ I H Q s w k => h σ I H _ s w fun v I' H' g p => ⟨j, dp_int p, k I' H' g⟩⟩
theorem allV_take : ∀ {Ss : List SV} {vs : List V} {I : Hp} (n : Nat), AllV Ss vs I → AllV (Ss.take n) (vs.take n) I
  | _, _, _, 0, h => by simp only [List.take_zero]; exact .nil
  | _, _, _, n + 1, .nil => .nil
  | _, _, _, n + 1, .cons r t => .cons r (allV_take n t)
theorem allV_drop : ∀ {Ss : List SV} {vs : List V} {I : Hp} (n : Nat), AllV Ss vs I → AllV (Ss.drop n) (vs.drop n) I
  | _, _, _, 0, h => h
  | _, _, _, n + 1, .nil => .nil
  | _, _, _, n + 1, .cons r t => allV_drop n t
def cutL {α : Type} (xs : List α) (lo hi : Option Int) : List α := (xs.drop (HT.sIx xs.length 0 lo)).take (HT.sIx xs.length xs.length hi - HT.sIx xs.length 0 lo)
theorem de_sl {lo hi : Option Expr} {l h : Option Int} (ha : DE T X Γ M a (sTup X.K Ss)) (hlo : DO T X Γ M lo l) (hhi : DO T X Γ M hi h) : DE T X Γ M (.Subscript a (.Slice lo hi none p2) pos) (sTup X.K (cutL Ss l h)) := fun σ I H Q s w k => by
  obtain ⟨tl, pl, ql⟩ := hlo
  obtain ⟨th, ph, qh⟩ := hhi
  refine we_of (pe_slice sl_tupA pe_we pl ph) (ha σ I H _ s w fun v I1 H1 g1 ⟨a, vs, e1, h1, h2⟩ => ql σ I1 H1 _ (s.grow0 g1) g1.wd fun I2 H2 g2 => qh σ I2 H2 _ ((s.grow0 g1).grow0 g2) g2.wd fun I3 H3 g3 => ?_)
  have hl : vs.length = Ss.length := h2.length.symm
  have g13 := (g1.trans g2).trans g3
  have g23 := g2.sub.trans g3.sub
  refine ⟨a, vs, e1, g3.wd.sub.t (g23.t h1), fun z => ?_, fun z p hp => ?_⟩
  · refine k _ I3 H3 g13 ⟨a, vs, rfl, g23.t h1, ?_⟩
    rw [hl] at z
    have e : cutL Ss l h = Ss := by
      unfold cutL
      rw [z.1, z.2]
      simp
    rw [e]
    exact h2.mono g23
  · have g4 := Gr.new (P := []) g3.wd hp nt_t (o := .tup (cutV vs l h))
    refine k _ _ _ (g13.trans g4) ⟨p, _, rfl, .inl (.inl upd_same), AllV.mono g4.sub ?_⟩
    unfold cutV cutL
    rw [hl]
    exact allV_take _ (allV_drop _ (h2.mono g23))
theorem cut_map {α β : Type} (f : α → β) (xs : List α) (l h : Option Int) : (cutL xs l h).map f = cutL (xs.map f) l h := by
  unfold cutL
  rw [List.length_map, List.map_take, List.map_drop]
theorem de_slD {ds : List PyData} {lo hi : Option Expr} {l h : Option Int} (ha : DE T X Γ M a (sD X.K (.tuple ds))) (hlo : DO T X Γ M lo l) (hhi : DO T X Γ M hi h) : DE T X Γ M (.Subscript a (.Slice lo hi none p2) pos) (sD X.K (.tuple (cutL ds l h))) :=
  (de_sl (ha.imp fun _ _ => sD_tup.mp) hlo hhi).imp fun v I p => sD_tup.mpr (by rw [cut_map]; exact p)
theorem cutL_from {α : Type} (xs : List α) (k : Nat) : cutL xs (some (k : Int)) none = xs.drop k := by
  unfold cutL
  rw [HT.sIx_nat, HT.sIx_none]
  by_cases h : k ≤ xs.length
  · rw [Nat.min_eq_left h, List.take_of_length_le (by rw [List.length_drop]; exact Nat.le_refl _)]
  · rw [Nat.min_eq_right (by omega), Nat.sub_self, List.take_zero, List.drop_of_length_le (by omega)]
theorem cutL_to {α : Type} (xs : List α) (k : Nat) : cutL xs none (some (k : Int)) = xs.take k := by
  unfold cutL
  rw [HT.sIx_nat, HT.sIx_none, List.drop_zero, Nat.sub_zero]
  by_cases h : k ≤ xs.length
  · rw [Nat.min_eq_left h]
  · rw [Nat.min_eq_right (by omega), List.take_of_length_le (Nat.le_refl _), List.take_of_length_le (by omega)]
/-! ### lists that may change, looked at -/
/-- a value that needs no heap -/
def Flat (S : SV) : Prop := ∀ v I J, S.p v I → S.p v J
theorem flat_int {i : Int} : Flat (sD K (.int i)) := fun v I J h => by rw [dp_int h]; exact .int _
theorem flat_bl {b : Bool} : Flat (sD K (.bool b)) := fun v I J h => by rw [dp_bl h]; exact .bl _
theorem thaw {I H I3 H' : Hp} {vs : List V} (w : Wd T I H) (hI : I q = none) (ho : H q = some (.lst vs)) (g : Gr T [] (upd I q (.lst vs)) H I3 H') : Gr T [] I H (fun a => if a = q then none else I3 a) H' := by
  refine ⟨⟨fun a o e => ?_, fun a o e => ?_, g.wd.tabs⟩, fun a o e => ?_, g.keep, g.there, fun a o z e m => ?_⟩
  · by_cases z : a = q
    · rw [if_pos z] at e; cases e
    · rw [if_neg z] at e; exact g.wd.sub a o e
  · by_cases z : a = q
    · rw [if_pos z] at e; cases e
    · rw [if_neg z] at e; exact g.wd.nt a o e
  · have z : a ≠ q := fun z => by rw [z, hI] at e; cases e
    show (if a = q then none else I3 a) = some o
    rw [if_neg z]
    exact g.sub a o (by rw [upd_ne z]; exact e)
  · show (if a = q then none else I3 a) = none
    by_cases y : a = q
    · rw [if_pos y]
    · rw [if_neg y]
      exact g.fr a o (by rw [upd_ne y]; exact z) e m
theorem Sl.freeze {σ : L2.St} {I H : Hp} {i : Nat} (s : Sl Γ M σ I H) (hn : M[n]? = some (q, mL Ss)) (hi : Γ[i]? = some (some (sV (.ref q)))) (w : Wd T I H) : ∃ vs, I q = none ∧ H q = some (.lst vs) ∧ Sl (Γ.set i (some (sLst K Ss))) (M.eraseIdx n) σ (upd I q (.lst vs)) H ∧ Wd T (upd I q (.lst vs)) H := by
  have h0 : As ⟨T, [], I, fun a => if a = q then none else H a, []⟩ Γ M σ I H → True := fun _ => trivial
  have hmem : (q, mL Ss) ∈ M := List.mem_of_getElem? hn
  obtain ⟨hI, o, ho, vs, rfl, av⟩ := s.mu _ hmem
  have hI : I q = none := hI
  have ho : H q = some (.lst vs) := ho
  have xt : Xt I (upd I q (.lst vs)) := Xt.new hI
  have pq : (sLst K Ss).p (.ref q) (upd I q (.lst vs)) := ⟨q, vs, rfl, .inl (.inl upd_same), av.mono xt⟩
  have me : ∀ z ∈ M.eraseIdx n, z ∈ M ∧ z.1 ≠ q := fun z hz => by
    refine ⟨List.mem_of_mem_eraseIdx hz, fun e => ?_⟩
    obtain ⟨k, hk⟩ := List.getElem?_of_mem hz
    rw [List.getElem?_eraseIdx] at hk
    have h2 : (M.map (·.1))[n]? = some q := by rw [List.getElem?_map, hn]; rfl
    by_cases hkn : k < n
    · rw [if_pos hkn] at hk
      have h1 : (M.map (·.1))[k]? = some q := by rw [List.getElem?_map, hk]; simp [e]
      have := nd_ix s.nd h1 h2
      omega
    · rw [if_neg hkn] at hk
      have h1 : (M.map (·.1))[k + 1]? = some q := by rw [List.getElem?_map, hk]; simp [e]
      have := nd_ix s.nd h1 h2
      omega
  refine ⟨vs, hI, ho, ⟨by rw [List.length_set]; exact s.len, fun k S e => ?_, fun z hz => ?_, s.nd.sublist ((List.eraseIdx_sublist _ _).map _)⟩, ⟨fun a o e => ?_, fun a o e => ?_, w.tabs⟩⟩
  · by_cases hk : i = k
    · subst hk
      have hl : i < Γ.length := (List.getElem?_eq_some_iff.mp hi).1
      rw [List.getElem?_set_self hl] at e
      cases e
      obtain ⟨v, h1, h2⟩ := s.sl i _ hi
      have h2' : v = .ref q := h2
      exact ⟨v, h1, by rw [h2']; exact pq⟩
    · rw [List.getElem?_set_ne hk] at e
      obtain ⟨v, h1, h2⟩ := s.sl k S e
      exact ⟨v, h1, S.mono xt h2⟩
  · obtain ⟨hz1, hz2⟩ := me z hz
    obtain ⟨h1, o, h2, h3⟩ := s.mu z hz1
    exact ⟨by rw [upd_ne hz2]; exact h1, o, h2, z.2.mono xt h3⟩
  · by_cases z : a = q
    · subst z
      rw [upd_same] at e
      cases e
      exact ho
    · rw [upd_ne z] at e
      exact w.sub a o e
  · by_cases z : a = q
    · subst z
      rw [upd_same] at e
      cases e
      exact nt_l
    · rw [upd_ne z] at e
      exact w.nt a o e
theorem de_thaw (n i : Nat) (hn : M[n]? = some (q, mL Ss)) (hi : Γ[i]? = some (some (sV (.ref q)))) (hS : Flat S) (h : DE T X (Γ.set i (some (sLst X.K Ss))) (M.eraseIdx n) e S) : DE T X Γ M e S := fun σ I H Q s w k => by
  obtain ⟨vs, hI, ho, s2, w2⟩ := s.freeze (K := X.K) hn hi w
  exact h σ _ H Q s2 w2 fun v I3 H3 g p => k v _ H3 (thaw w hI ho g) (hS v _ _ p)
theorem dt_thaw {c : Bool} (n i : Nat) (hn : M[n]? = some (q, mL Ss)) (hi : Γ[i]? = some (some (sV (.ref q)))) (h : DT T X (Γ.set i (some (sLst X.K Ss))) (M.eraseIdx n) e c) : DT T X Γ M e c := fun σ I H Q s w k => by
  obtain ⟨vs, hI, ho, s2, w2⟩ := s.freeze (K := X.K) hn hi w
  exact h σ _ H Q s2 w2 fun I3 H3 g => k _ H3 (thaw w hI ho g)
/-- a.index(e) -/
theorem de_index {ds : List PyData} {d : PyData} {j : Nat} {z : PyData} {apos : Pos} (hu : X.A.units + 65 < cLine) (ho : DE T X Γ M o (sD X.K (.list ds))) (he : DE T X Γ M e (sD X.K d)) (h1 : SeqAt.shaped (.list ds) = true) (h2 : SeqAt.shaped d = true) (hj : ds[j]? = some z) (hz : PyData.eqv z d = true) (hlt : ∀ (m : Nat) (z' : PyData), m < j → ds[m]? = some z' → PyData.eqv z' d = false)
    (hbase : attributeBase o "index" X.env (eval o X.env) = eval o X.env := by rfl)
    (hfew : ((backTo p (starEach [e] X.env)).all (fun x => !x.1) && (backToKw p (keywordEach [] X.env)).all (fun x => x.1.isSome)
      && decide ([e].length + ([] : List Keyword).length + (if ([] : List Keyword).isEmpty then 0 else 1) < 30)) = true := by rfl)
    (hline : (apos.endLine == p.line) = true := by rfl) (hst : starEach [e] X.env = (false, eval e X.env) :: starEach [] X.env := by rfl) (hpl : (backTo p (starEach [] X.env)).any (·.1) = false := by rfl) :
    DE T X Γ M (.Call (.Attribute o "index" apos) [e] [] p) (sD X.K (eN j)) := fun σ I H Q s w k =>
  we_of (pe_bm PySem.F.plainAttrs_list PySem.F.slot_list_index PySem.F.type_list_index (mt_indexD hu) pe_we (pa_cons pe_we pa_nil hst) hbase hfew hline hst hpl) (ho σ I H _ s w fun v I1 H1 g1 p1 => by
    obtain ⟨a, vs, e1, hq, av⟩ := sD_lst.mp p1
    subst e1
    refine ⟨.inl ⟨rfl, vs, g1.wd.sub.l hq⟩, he σ I1 H1 _ (s.grow0 g1) g1.wd fun u I2 H2 g2 p2 => ?_⟩
    · exact ⟨a, u, d, ds, j, z, rfl, rfl, g2.wd.sub.dp _ _ (g2.sub.dp _ _ p1), g2.wd.sub.dp _ _ p2, h1, h2, hj, hz, hlt, k _ I2 H2 (g1.trans g2) (.int _)⟩)
end
end Rm
set_option Elab.async false
set_option linter.all false
set_option maxRecDepth 100000
set_option maxHeartbeats 4000000
/-! The D-layer, part 13: defs with defaults, defs handed on, lambdas' makers, all(). -/
namespace Rm
open PySem PySem.Spec PyProof.Rows L2 LamX NdefX

/-- a def of the module with defaults dvs, as callers know it -/
structure FDd (P : Program) (w : World) (K : PySem.W.Frag) (mg : Str → Option Value) (base : Heap) (k : Nat) (x : Str) (ps : List Str) (dvs : List V) (sp : Sp) : Prop where
  ex : ∃ (f : Addr) (fd : FuncData) (ds : List Value), mg x = some (.ref f) ∧ PySem.W.keepIn K (.ref f) = true ∧ Binds K fd ps ds ∧ Vals dvs ds ∧ FnOk P w K mg base CX0 k f fd ps sp
/-- where a def stands -/
structure Df (K : PySem.W.Frag) (mg : Str → Option Value) (x : Str) (st : Stmt) : Prop where
  ex : ∃ (f : Addr) (fd : FuncData), mg x = some (.ref f) ∧ Fun K x x st f fd
/-- .. that makes lambdas -/
structure Dfl (T : Tb) (K : PySem.W.Frag) (mg : Str → Option Value) (base : Heap) (x : Str) (st : Stmt) (q : Str) : Prop where
  ex : ∃ (f : Addr) (fd : FuncData) (c P : Addr), mg x = some (.ref f) ∧ Fun K x x st f fd ∧ fd.code = .ref c ∧ LamX.TabB base mg c P ∧ (P, q) ∈ T ∧ ∀ p ∈ T, p.1 = P → p.2 = q
section
variable {P : Program} {w : World} {K : PySem.W.Frag} {mg : Str → Option Value} {base : Heap} {T : Tb}
theorem Df.fd {x : Str} {st : Stmt} {ps : List Str} {k : Nat} {sp : Sp} (d : Df K mg x st) (h : ∀ (kV doc pm : Value) (an : Option Addr) (cdv ct : Value) (us : List Value), us.length = ps.length → bindArgs (PySem.W.fnOf x x (defArgs st) (defBody st) (defScope st) .none kV doc pm an cdv ct) ⟨us, []⟩ = pure (ps.zip us))
    (b : ∀ f fd, Fun K x x st f fd → mg x = some (.ref f) → FnOk P w K mg base CX0 k f fd ps sp) : FD P w K mg base k x ps sp := by
  obtain ⟨f, fd, hm, F⟩ := d.ex
  exact FD.of F hm (F.binds h) (b f fd F hm)
theorem FD.mono {x : Str} {ps : List Str} {j k : Nat} {sp : Sp} (d : FD P w K mg base j x ps sp) (h : j ≤ k) : FD P w K mg base k x ps sp := let ⟨f, fd, a, b, c, F⟩ := d.ex; ⟨f, fd, a, b, c, F.mono h⟩
/-- THE RULE for a def by data, its code known -/
theorem fn_bodyC {δ : Type} {T : Tb} {args : δ → List SV} {pre : δ → Prop} {res : δ → SV} {x qual : Str} {st : Stmt} {f : Addr} {fd : FuncData} {N ps : List Str} {k : Nat} (F : Fun K x qual st f fd) (S : FnScope N ps (defScope st)) (hl : ∀ d, (args d).length = ps.length)
    (body : ∀ d, pre d → ∀ (A : Around) (outer : List Env) (s : Shared) (I H : Hp) (E : XK) (D : Ends), Room k (A.deeper (envOfC qual (defScope st) s.heap.objs.size f fd.code)) →
      (∀ v I' H', Gr T [] I H I' H' → (res d).p v I' → D.rt v H') → (∀ σ I' H', Gr T [] I H I' H' → (res d).p .non I' → D.nx σ H') →
      Tr ⟨T, [], I, H, []⟩ (cxN P w K mg base N qual st f fd.code A outer s H E) (st0 N (args d)) [] (defBody st) D) : FnOk P w K mg base CX0 (k + 1) f fd ps (spD T args pre res) := by
  obtain ⟨oc, od, kV, doc, pm, an, ct, osl, ef, lk, hcd⟩ := fun_code F
  rw [ef] at lk ⊢
  refine fn_of lk hcd S (fun vs H Q E h => ?_) fun A outer s H vs Q E hr h => ?_
  · obtain ⟨d, I, _, _, h3, _⟩ := h
    rw [← h3.length, hl]
  · obtain ⟨d, I, h1, h2, h3, q⟩ := h
    exact ⟨_, (ps_ws (X := cxN P w K mg base N qual st f fd.code A outer s H E)).nox, body d h1 A outer s I H E { nx := fun _ H' => Q .non H', rt := Q } hr (fun v I' H' g p => q v I' H' g p) (fun σ I' H' g p => q _ I' H' g p) (L2.start N vs) I H ⟨sl_start h3, Gr.refl h2, (fun m hm => nomatch hm), (fun A hA => nomatch hA)⟩⟩
/-- .. with defaults -/
theorem fn_bodyD {δ : Type} {T : Tb} {args : δ → List SV} {pre : δ → Prop} {res : δ → SV} {x : Str} {st : Stmt} {f : Addr} {fd : FuncData} {N ps : List Str} {dvs : List V} {k : Nat} (F : FunD K x x (defArgs st) (defBody st) (defScope st) dvs [] f fd) (S : FnScope N ps (defScope st)) (hl : ∀ d, (args d).length = ps.length)
    (body : ∀ d, pre d → ∀ (cdv : Value) (A : Around) (outer : List Env) (s : Shared) (I H : Hp) (E : XK) (D : Ends), Room k (A.deeper (envOfC x (defScope st) s.heap.objs.size f cdv)) →
      (∀ v I' H', Gr T [] I H I' H' → (res d).p v I' → D.rt v H') → (∀ σ I' H', Gr T [] I H I' H' → (res d).p .non I' → D.nx σ H') →
      Tr ⟨T, [], I, H, []⟩ (cxN P w K mg base N x st f cdv A outer s H E) (st0 N (args d)) [] (defBody st) D) : FnOk P w K mg base CX0 (k + 1) f fd ps (spD T args pre res) := by
  refine F.ok S (fun vs H Q E h => ?_) (fun cdv A outer s H vs Q E hr h => ?_)
  · obtain ⟨d, I, _, _, h3, _⟩ := h
    rw [← h3.length, hl]
  · obtain ⟨d, I, h1, h2, h3, q⟩ := h
    exact ⟨_, (ps_ws (X := cxN P w K mg base N x st f cdv A outer s H E)).nox, body d h1 cdv A outer s I H E { nx := fun _ H' => Q .non H', rt := Q } hr (fun v I' H' g p => q v I' H' g p) (fun σ I' H' g p => q _ I' H' g p) (L2.start N vs) I H ⟨sl_start h3, Gr.refl h2, (fun m hm => nomatch hm), (fun A hA => nomatch hA)⟩⟩
end
section
variable {T : Tb} {K : PySem.W.Frag} {B : Bg} {X : Cx} {Γ : Ct} {M : Mt} {a b c e iter tg o i : Expr} {es : List Expr} {S Sa Sb : SV} {Ss : List SV} {pos p p2 : Pos} {n : Nat} {x : Str} {q : Addr} {k k' : Nat} {ps : List Str}
theorem allV_sV : ∀ (dvs : List V) (I : Hp), AllV (dvs.map sV) dvs I
  | [], _ => .nil
  | v :: vs, I => .cons rfl (allV_sV vs I)
/-- f(..), the rest by defaults -/
theorem de_callD {δ : Type} {args : δ → List SV} {pre : δ → Prop} {res : δ → SV} {dvs : List V} (G : FDd X.prog X.w X.K X.mg X.base k x ps dvs (spD T args pre res)) (hr : Room k' X.A) (hk : k ≤ k') (d : δ) (hp : pre d) (ha : DA T X Γ M (e :: es) Ss) (had : args d = Ss ++ dvs.map sV) (hg : Gl X x := by rfl) (hdb : (x == ("__debug__" : Str)) = false := by decide)
    (he : starEach (e :: es) X.env = (false, eval e X.env) :: starEach es X.env := by rfl) (hpl : (backTo pos (starEach es X.env)).any (·.1) = false := by rfl) : DE T X Γ M (.Call (.Name x p) (e :: es) [] pos) (res d) := fun σ I H Q s w q => by
  obtain ⟨f, fd, ds, hm, kp, hb, hd, F⟩ := G.ex
  refine we_of (pe_call F (hr.mono hk) hg hm kp hb hd (pass0 (X := X)) pa_wa hdb he hpl) (ha σ I H _ s w fun vs I1 H1 g1 p1 => ⟨d, I1, hp, g1.wd, ?_, fun v I2 H2 g2 p2 => q v I2 H2 (g1.trans g2) p2⟩)
  rw [had]
  refine p1.append ?_
  exact allV_sV dvs I1
/-- a name that holds a def of the module, called -/
theorem de_callL {δ : Type} {args : δ → List SV} {pre : δ → Prop} {res : δ → SV} {f : Addr} {fd : FuncData} (F : FnOk X.prog X.w X.K X.mg X.base CX0 k f fd ps (spD T args pre res)) (hr : Room k' X.A) (hk : k ≤ k') (j : Nat) (hkp : PySem.W.keepIn X.K (.ref f) = true) (hb : Binds X.K fd ps []) (hΓ : Γ[j]? = some (some (sV (.ref f)))) (d : δ) (hp : pre d) (ha : DA T X Γ M (e :: es) (args d))
    (hN : X.N[j]? = some x := by rfl) (hv : Vis X.env.scope x := by first | exact Or.inl rfl | exact Or.inr (Or.inl rfl) | exact Or.inr (Or.inr rfl)) (hdb : (x == ("__debug__" : Str)) = false := by decide) (hcd : (x == ("__classdict__" : Str)) = false := by decide)
    (he : starEach (e :: es) X.env = (false, eval e X.env) :: starEach es X.env := by rfl) (hpl : (backTo pos (starEach es X.env)).any (·.1) = false := by rfl) : DE T X Γ M (.Call (.Name x p) (e :: es) [] pos) (res d) := fun σ I H Q s w q =>
  we_of (pe_callL F (hr.mono hk) hN hv hkp hb .nil (pass0 (X := X)) pa_wa hdb hcd he hpl) (by
    obtain ⟨v, h1, h2⟩ := s.sl j _ hΓ
    have h2 : v = .ref f := h2
    exact ⟨by rw [h1, h2], ha σ I H _ s w fun vs I1 H1 g1 p1 => ⟨d, I1, hp, g1.wd, by rw [List.append_nil]; exact p1, fun v I2 H2 g2 p2 => q v I2 H2 (g1.trans g2) p2⟩⟩)
/-- all([..]) -/
theorem allV_bools {I : Hp} : ∀ {bs : List Bool} {vs : List V}, AllV (bs.map fun b => sD K (.bool b)) vs I → vs = bs.map V.bl
  | [], _, .nil => rfl
  | b :: bs, _, .cons r t => by rw [dp_bl r, allV_bools t] <;> rfl
theorem de_all {bs : List Bool} (hc : X.calm = true) (hm : X.mg "all" = none) (ha : DE T X Γ M e (sLst X.K (bs.map fun b => sD X.K (.bool b)))) (hg : Gl X "all" := by rfl) (he : starEach [e] X.env = (false, eval e X.env) :: starEach [] X.env := by rfl) (hpl : (backTo pos (starEach [] X.env)).any (·.1) = false := by rfl) :
    DE T X Γ M (.Call (.Name "all" p) [e] [] pos) (sD X.K (.bool (bs.all id))) :=
  de_callB (cr_all hc) (Ss := [sLst X.K (bs.map fun b => sD X.K (.bool b))]) (fun vs I H Q w h k => by
    obtain ⟨v, rfl, a, us, rfl, h1, h2⟩ := allV1 h
    exact ⟨a, bs, rfl, allV_bools h2 ▸ w.sub.l h1, k _ I H (Gr.refl w) (.bl _)⟩) hm (by decide +kernel) (da_one ha he) hg (by decide) (by decide) he hpl
end
end Rm
set_option Elab.async false
set_option linter.all false
set_option maxRecDepth 100000
set_option maxHeartbeats 4000000
/-! The D-layer, part 14: what is told of changing things, made looser or sharper. -/
namespace Rm
open PySem PySem.Spec PyProof.Rows L2 LamX
section
variable {T : Tb} {K : PySem.W.Frag} {B : Bg} {X : Cx} {Γ Γ' : Ct} {M M' : Mt} {a b c e iter tg o i : Expr} {es : List Expr} {S Sa Sb : SV} {Ss : List SV} {pos p p2 px : Pos} {n j : Nat} {x : Str} {q : Addr} {rest body : List Stmt} {D : Ends} {σ : L2.St} {I H I' H' : Hp}
theorem ws_nx {sts : List Stmt} {D : Ends} {N N' : L2.St → Hp → Prop} {σ : L2.St} {H : Hp} (h : WS X sts { D with nx := N } σ H) (q : ∀ σ H, N σ H → N' σ H) : WS X sts { D with nx := N' } σ H := fun pins s I =>
  wpAny_mono (h pins s I) (fun f s' z => by
    cases f with
    | next => obtain ⟨σ', H', J, y⟩ := z; exact ⟨σ', H', J, q _ _ y⟩
    | brk => exact z
    | cont => exact z
    | ret u => exact z) fun e s' z => z
/-- if c: body, what holds behind either way -/
theorem tr_ifJ {k : Bool} (ht : DT B.T X Γ M c k) (h1 : k = true → Tr B X Γ M body { D with nx := fun σ H => ∃ I, As B Γ' M' σ I H }) (h2 : k = false → ∀ σ I H, As B Γ M σ I H → As B Γ' M' σ I H) (hr : Tr B X Γ' M' rest D) : Tr B X Γ M (.If c body [] pos :: rest) D := fun σ I H s =>
  ws_cons (ps_if pt_wt ps_ws ps_ws) (ht σ I H _ s.sl s.wd fun I' H' g => by
    cases k with
    | true =>
      refine iteT ?_
      exact ws_nx (h1 rfl σ I' H' (s.grow g)) fun σ2 H2 ⟨I2, s2⟩ => hr σ2 I2 H2 s2
    | false => exact iteF (ws_of pss_nil (hr σ I' H' (h2 rfl _ _ _ (s.grow g)))))
theorem tr_ifj {k : Bool} (ht : DT B.T X Γ M c k) (h1 : k = true → Tr B X Γ M body { D with nx := fun σ H => ∃ I, As B Γ' M σ I H }) (h2 : k = false → Wk Γ' Γ) (hr : Tr B X Γ' M rest D) : Tr B X Γ M (.If c body [] pos :: rest) D := tr_ifJ ht h1 (fun z σ I H s => s.weak (h2 z)) hr
theorem dx_asM {ι : Type} {Ci : ι → Prop} {Si : ι → SV} {Mi : ι → Mt} {m m' : MV} (n : Nat) (hn : M[n]? = some (q, m)) (k : ∀ o I, m.p o I → m'.p o I) (h : DX B X Γ (M.set n (q, m')) e Ci Si Mi) : DX B X Γ M e Ci Si Mi := fun σ I H Q s kk => h σ I H Q (s.setM hn fun o _ => k o I) kk
theorem dx_pickM {ι κ : Type} {Ci : ι → Prop} {Si : ι → SV} {Mi : ι → Mt} {Cd : κ → Prop} {mi : κ → MV} (n : Nat) (hn : ∀ i, Ci i → (Mi i)[n]? = some (q, mEx Cd mi)) (h : DX B X Γ M e Ci Si Mi) : DX B X Γ M e (fun p : ι × κ => Ci p.1 ∧ Cd p.2) (fun p => Si p.1) (fun p => (Mi p.1).set n (q, mi p.2)) := fun σ I H Q s kk =>
  h σ I H Q s fun i v I' H' ci s' xt pv => by
    obtain ⟨o, ho, d, cd, h2⟩ := s'.thing (hn i ci)
    refine kk (i, d) v I' H' ⟨ci, cd⟩ (s'.setM (hn i ci) fun o' h3 _ => ?_) xt pv
    rw [ho] at h3
    cases h3
    exact h2
/-- a != [], a a list that may change -/
theorem dt_neNil {ds : List PyData} (n : Nat) (hu : X.A.units + 64 < cLine) (hn : M[n]? = some (q, mL (ds.map (sD X.K)))) (h1 : SeqAt.shaped (.list ds) = true) (ha : DE T X Γ M a (sV (.ref q))) : DT T X Γ M (.Compare a [.NotEq] [.List [] p] pos) (!ds.isEmpty) := fun σ I H Q s w k =>
  wt_of (pt_cmpR (op_neD hu) pe_we pe_we (nomark _)) (ha σ I H _ s w fun v I1 H1 g1 p1 => (de_lstD dad_nil (by decide)) σ I1 H1 _ (s.grow0 g1) g1.wd fun u I2 H2 g2 p2 => by
    have s2 := (s.grow0 g1).grow0 g2
    obtain ⟨o, ho, vs, rfl, av⟩ := s2.thing hn
    have p1 : v = .ref q := p1
    subst p1
    have hd : Dp X.K H2 (.ref q) (.list ds) := .lst (.inl (.inl ho)) (dpAll_iff.mp (av.mono g2.wd.sub))
    refine ⟨.list ds, .list [], hd, g2.wd.sub.dp _ _ p2, h1, rfl, _, rfl, ?_⟩
    have e : PyData.eqv (.list ds) (.list []) = ds.isEmpty := by cases ds <;> rfl
    rw [e]
    exact k I2 H2 (g1.trans g2))
/-- x = [..] on one line, to be changed -/
theorem tr_asgLc1M {α : Type} {as : List α} {Si F : α → SV} {ck : α → Bool} {y : Str} {py : Pos} {elt test : Expr} {scope : Scope} {i : Nat} (hN : X.N.Nodup) (hi : X.N[i]? = some x) (hc : X.calm = true) (hI : DI B.T X Γ M (.Name y py) iter (as.map Si)) (hl : as.length ≤ 100000) (ok : BlkOk X.N X.env.scope scope [(y, j)])
    (hg : ∀ (s : Shared) (H : Hp) (C : Addr) (cl : List (Str × Addr)) (fp : List Addr), PG (X.blk s H scope (compEnvC scope cl C X.env) fp) (.Name y py) (gName j))
    (ht : ∀ a ∈ as, ∀ (M' : Mt) (s : Shared) (H : Hp) (C : Addr) (cl : List (Str × Addr)) (fp : List Addr), DT B.T (X.blk s H scope (compEnvC scope cl C X.env) fp) (Γ.set j (some (Si a))) M' test (ck a))
    (he : ∀ a ∈ as, ck a = true → ∀ (M' : Mt) (s : Shared) (H : Hp) (C : Addr) (cl : List (Str × Addr)) (fp : List Addr), DE B.T (X.blk s H scope (compEnvC scope cl C X.env) fp) (Γ.set j (some (Si a))) M' elt (F a))
    (h : ∀ q, Tr B X (Γ.set i (some (sV (.ref q)))) ((q, mL ((as.filter ck).map F)) :: M) rest D)
    (hyl : X.env.scope.names.lookup x = some .local := by rfl) (hsw : swapsWith (.ListComp elt [⟨.Name y py, iter, [test], 0⟩] scope p) (some (.Name x px)) pos.line X.env = pure true := by exact sw_true rfl rfl rfl (by decide +kernel))
    (hs : ∀ x, foldedSetIterable iter X.env x = pure x := by intro _; rfl) : Tr B X Γ M (.Assign [.Name x px] (.ListComp elt [⟨.Name y py, iter, [test], 0⟩] scope p) pos :: rest) D := fun σ I H s =>
  ws_cons (ps_setLc (i := i) (own := [(y, j)]) (tt := fun σ H Q => ∀ (s0 : Shared) (H0 : Hp) (C : Addr) (cl : List (Str × Addr)) (fp : List Addr), WT (X.blk s0 H0 scope (compEnvC scope cl C X.env) fp) test σ H Q) (te := fun σ H Q => ∀ (s0 : Shared) (H0 : Hp) (C : Addr) (cl : List (Str × Addr)) (fp : List Addr), WE (X.blk s0 H0 scope (compEnvC scope cl C X.env) fp) elt σ H Q) hc hN hi hyl hsw pi_wi ok hg
    (fun s0 H0 C cl fp => pts_one ⟨fun pins s σ H Q I h => h s0 H0 C cl fp pins s I⟩) (fun s0 H0 C cl fp => ⟨fun pins s σ H Q I h => h s0 H0 C cl fp pins s I⟩) hs) (by
    refine hI σ I H _ s.sl s.wd fun J I1 H1 g1 it Dd hD => ?_
    have s1 := s.grow g1
    let Pv : Nat → Hp → Prop := fun k H' => ∃ I', As B Γ ((Dd, mL (((as.take k).filter ck).map F)) :: M) σ I' H' ∧ Xt I1 I'
    have s1D : As B Γ ((Dd, mL (((as.take 0).filter ck).map F)) :: M) σ I1 (upd H1 Dd (.lst [])) := s1.new hD ⟨[], rfl, .nil⟩
    refine ⟨fun k m H' => m = as.length - k ∧ k ≤ as.length ∧ Pv k H', ⟨as.length, by simp, Nat.zero_le _, I1, s1D, Xt.refl _⟩, ?_⟩
    rintro k m H' ⟨rfl, hk, I', s', x'⟩
    obtain ⟨stop, go⟩ := it k I' H' x' s'.wd
    by_cases hlt : k < as.length
    · have hS : (as.map Si)[k]? = some (Si as[k]) := by rw [List.getElem?_map, List.getElem?_eq_getElem hlt]; rfl
      obtain ⟨go1, go2⟩ := go _ hS
      refine .inr ⟨go1, Pv (k + 1), fun H2 p2 => ⟨as.length - (k + 1), by omega, rfl, hlt, p2⟩, fun xv H2 y => ?_⟩
      obtain ⟨I2, g2, pxv⟩ := go2 xv H2 y
      have hm : as[k] ∈ as := List.getElem_mem hlt
      have eσ : (wipe σ [j]).set j (some xv) = σ.set j (some xv) := by
        show (σ.set j none).set j (some xv) = _
        rw [List.set_set]
      have s2 := s'.grow g2
      have s3 := s2.set (i := j) pxv
      show wipe ((wipe σ [j]).set j (some xv)) [j] = wipe σ [j] ∧ ∀ (s0 : Shared) (H0 : Hp) (C : Addr) (cl : List (Str × Addr)) (fp : List Addr), WT (X.blk s0 H0 scope (compEnvC scope cl C X.env) fp) test ((wipe σ [j]).set j (some xv)) H2 _
      rw [eσ]
      refine ⟨by show (σ.set j (some xv)).set j none = σ.set j none; rw [List.set_set], fun s0 H0 C cl fp => ?_⟩
      have tk : as.take (k + 1) = as.take k ++ [as[k]] := by rw [List.take_add_one, List.getElem?_eq_getElem hlt]; rfl
      refine ht _ hm _ s0 H0 C cl fp (σ.set j (some xv)) I2 H2 _ s3.sl s3.wd fun I3 H3 g3 => ?_
      cases hck : ck as[k] with
      | true =>
        rw [if_pos rfl]
        intro s0 H0 C cl fp
        show WE (X.blk s0 H0 scope (compEnvC scope cl C X.env) fp) elt ((wipe σ [j]).set j (some xv)) H3 _
        rw [eσ]
        refine he _ hm hck _ s0 H0 C cl fp (σ.set j (some xv)) I3 H3 _ (s3.grow g3).sl g3.wd fun v I4 H4 g4 p4 => ?_
        have s5 := (s2.grow g3).grow g4
        obtain ⟨oo, ho, vs, rfl, av⟩ := s5.thing (n := 0) rfl
        have lv : vs.length ≤ k := by
          rw [← av.length, List.length_map]
          exact Nat.le_trans (List.length_filter_le _ _) (by rw [List.length_take]; exact Nat.min_le_left _ _)
        refine ⟨vs, ho, Nat.lt_of_le_of_lt lv (Nat.lt_of_lt_of_le hlt (Nat.le_trans hl (by decide))), I4, ?_, ((x'.trans g2.sub).trans g3.sub).trans g4.sub⟩
        refine s5.put (n := 0) (m' := mL (((as.take (k + 1)).filter ck).map F)) rfl ⟨_, rfl, ?_⟩
        rw [tk, List.filter_append, List.map_append]
        have e : [as[k]].filter ck = [as[k]] := by rw [List.filter_cons, if_pos hck]; rfl
        rw [e]
        exact av.append (.cons p4 .nil)
      | false =>
        show Pv (k + 1) H3
        refine ⟨I3, ?_, (x'.trans g2.sub).trans g3.sub⟩
        rw [tk, List.filter_append, List.map_append]
        have e : [as[k]].filter ck = [] := by rw [List.filter_cons, if_neg (by rw [hck]; decide)]; rfl
        rw [e, List.map_nil, List.append_nil]
        exact s2.grow g3
    · have e : k = as.length := by omega
      subst e
      rw [List.take_length] at s'
      exact .inl ⟨stop (by rw [List.length_map]; exact Nat.le_refl _), h Dd _ _ _ (s'.set rfl)⟩)
end
end Rm
set_option Elab.async false
set_option linter.all false
set_option maxRecDepth 100000
set_option maxHeartbeats 4000000
/-! The D-layer, part 15: more of expressions that change things. -/
namespace Rm
open PySem PySem.Spec PyProof.Rows L2 LamX
/-- of many, each known by a bound, one list -/
theorem ex_all {ι α : Type} {C : α → ι → Prop} {S : ι → SV} {I : Hp} : ∀ {as : List α} {vs : List V}, AllV (as.map fun a => sEx (C a) S) vs I → ∃ ds : List ι, ds.length = as.length ∧ AllV (ds.map S) vs I ∧ ∀ (k : Nat) a d, as[k]? = some a → ds[k]? = some d → C a d
  | [], _, .nil => ⟨[], rfl, .nil, fun k a d h => by simp at h⟩
  | a :: as, _, .cons ⟨d, c, h⟩ t => by
    obtain ⟨ds, h1, h2, h3⟩ := ex_all t
    refine ⟨d :: ds, by rw [List.length_cons, List.length_cons, h1], .cons h h2, fun k a' d' e1 e2 => ?_⟩
    cases k with
    | zero =>
      cases e1
      cases e2
      exact c
    | succ k => exact h3 k a' d' e1 e2
theorem ex_tup {K : PySem.W.Frag} {ι α : Type} {C : ι → Prop} {f : ι → PyData} {as : List α} {v : V} {I : Hp} (h : (sTup K (as.map fun _ => sEx C fun d => sD K (f d))).p v I) : (sEx (fun ds : List ι => ds.length = as.length ∧ ∀ d ∈ ds, C d) fun ds => sD K (eT f ds)).p v I := by
  obtain ⟨a, vs, e, h1, h2⟩ := h
  obtain ⟨ds, d1, d2, d3⟩ := ex_all (C := fun _ => C) h2
  refine ⟨ds, ⟨d1, fun d hd => ?_⟩, sD_tup.mpr ⟨a, vs, e, h1, ?_⟩⟩
  · obtain ⟨k, hk⟩ := List.getElem?_of_mem hd
    have hl : k < as.length := by rw [← d1]; exact (List.getElem?_eq_some_iff.mp hk).1
    exact d3 k _ d (List.getElem?_eq_getElem hl) hk
  · rw [List.map_map]
    exact d2
theorem ex_lst {K : PySem.W.Frag} {ι α : Type} {C : ι → Prop} {f : ι → PyData} {as : List α} {v : V} {I : Hp} (h : (sLst K (as.map fun _ => sEx C fun d => sD K (f d))).p v I) : (sEx (fun ds : List ι => ds.length = as.length ∧ ∀ d ∈ ds, C d) fun ds => sD K (eL f ds)).p v I := by
  obtain ⟨a, vs, e, h1, h2⟩ := h
  obtain ⟨ds, d1, d2, d3⟩ := ex_all (C := fun _ => C) h2
  refine ⟨ds, ⟨d1, fun d hd => ?_⟩, sD_lst.mpr ⟨a, vs, e, h1, ?_⟩⟩
  · obtain ⟨k, hk⟩ := List.getElem?_of_mem hd
    have hl : k < as.length := by rw [← d1]; exact (List.getElem?_eq_some_iff.mp hk).1
    exact d3 k _ d (List.getElem?_eq_getElem hl) hk
  · rw [List.map_map]
    exact d2
/-- a list just laid -/
def sLstN (Ss : List SV) : SV := ⟨fun v I => ∃ a vs, v = .ref a ∧ I a = some (.lst vs) ∧ AllV Ss vs I, fun e ⟨a, vs, h1, h2, h3⟩ => ⟨a, vs, h1, e _ _ h2, h3.mono e⟩⟩
theorem sLstN_l {K : PySem.W.Frag} {Ss : List SV} {v : V} {I : Hp} (h : (sLstN Ss).p v I) : (sLst K Ss).p v I := let ⟨a, vs, h1, h2, h3⟩ := h; ⟨a, vs, h1, .inl (.inl h2), h3⟩
section
variable {T : Tb} {K : PySem.W.Frag} {B : Bg} {X : Cx} {Γ Γ' : Ct} {M M' : Mt} {a b c e iter tg o : Expr} {es : List Expr} {S Sa Sb Sc : SV} {Ss : List SV} {pos p p2 px : Pos} {n i j l : Nat} {x : Str} {q : Addr} {rest body : List Stmt} {D : Ends}
theorem ds_tupleS (hm : X.mg "tuple" = none) (ha : DS B X Γ M e (sSeq X.K Ss)) (hg : Gl X "tuple" := by rfl) (he : starEach [e] X.env = (false, eval e X.env) :: starEach [] X.env := by rfl) (hpl : (backTo pos (starEach [] X.env)).any (·.1) = false := by rfl) : DS B X Γ M (.Call (.Name "tuple" p) [e] [] pos) (sTup X.K Ss) :=
  ds_callTy call_tuple_of (Ss := [sSeq X.K Ss]) (fun vs I H Q w h k => by
    obtain ⟨v, rfl, a, ys, rfl, h2, h3⟩ := allV1 h
    rcases h2 with h2 | h2
    · exact ⟨a, ys, rfl, .inl ⟨w.sub.l h2, fun l hl => k _ _ _ (Gr.new w hl nt_t) ⟨l, ys, rfl, .inl (.inl upd_same), h3.mono (Xt.new (w.free hl))⟩⟩⟩
    · exact ⟨a, ys, rfl, .inr ⟨w.sub.t h2, k _ I H (Gr.refl w) ⟨a, ys, rfl, h2, h3⟩⟩⟩) hm (by decide +kernel) (dsa_one ha he) hg (by decide) (by decide) he hpl
theorem ds_tupleE {ι : Type} {C : ι → Prop} {Ssi : ι → List SV} (hm : X.mg "tuple" = none) (ha : DS B X Γ M e (sEx C fun i => sSeq X.K (Ssi i))) (hg : Gl X "tuple" := by rfl) (he : starEach [e] X.env = (false, eval e X.env) :: starEach [] X.env := by rfl) (hpl : (backTo pos (starEach [] X.env)).any (·.1) = false := by rfl) : DS B X Γ M (.Call (.Name "tuple" p) [e] [] pos) (sEx C fun i => sTup X.K (Ssi i)) :=
  ds_callTy call_tuple_of (Ss := [sEx C fun i => sSeq X.K (Ssi i)]) (rdc_ex fun i ci vs I H Q w h k => by
    obtain ⟨v, rfl, a, ys, rfl, h2, h3⟩ := allV1 h
    rcases h2 with h2 | h2
    · exact ⟨a, ys, rfl, .inl ⟨w.sub.l h2, fun l hl => k _ _ _ (Gr.new w hl nt_t) ⟨i, ci, l, ys, rfl, .inl (.inl upd_same), h3.mono (Xt.new (w.free hl))⟩⟩⟩
    · exact ⟨a, ys, rfl, .inr ⟨w.sub.t h2, k _ I H (Gr.refl w) ⟨i, ci, a, ys, rfl, h2, h3⟩⟩⟩) hm (by decide +kernel) (dsa_one ha he) hg (by decide) (by decide) he hpl
theorem de_lstN (h : DA T X Γ M es Ss) (hl : Ss.length ≤ 1000) : DE T X Γ M (.List es pos) (sLstN Ss) := fun σ I H Q s w k =>
  we_of (pe_lst pa_wa) (h σ I H _ s w fun vs I1 H1 g1 p1 => ⟨by rw [← p1.length]; exact Nat.le_of_lt (small1000 hl), fun p hp => k _ _ _ (g1.trans (Gr.new g1.wd hp nt_l)) ⟨p, vs, rfl, upd_same, p1.mono (Xt.new (g1.wd.free hp))⟩⟩)
theorem de_listRange2N {m n : Nat} (hc : X.calm = true) (hm : X.mg "list" = none) (hm2 : X.mg "range" = none) (h : DE T X Γ M a (sD X.K (eN m))) (h' : DE T X Γ M b (sD X.K (eN n))) (hn : n ≤ 100000) (hn' : m ≤ 100000) {p2 pos2 : Pos} (hg : Gl X "list" := by rfl) (hg2 : Gl X "range" := by rfl)
    (na : starEach [a, b] X.env = (false, eval a X.env) :: starEach [b] X.env := by rfl) (na2 : starEach [b] X.env = (false, eval b X.env) :: starEach [] X.env := by rfl) (npl : (backTo pos2 (starEach [b] X.env)).any (·.1) = false := by rfl)
    (nb : starEach [.Call (.Name "range" p2) [a, b] [] pos2] X.env = (false, eval (.Call (.Name "range" p2) [a, b] [] pos2) X.env) :: starEach [] X.env := by rfl) :
    DE T X Γ M (.Call (.Name "list" p) [.Call (.Name "range" p2) [a, b] [] pos2] [] pos) (sLstN (((List.range (n - m)).map (m + ·)).map fun i => sD X.K (eN i))) := fun σ I H Q s w k =>
  we_of (pe_listRg hc hg hm (prg_2 hg2 hm2 pe_we pe_we na na2 npl) nb) (h σ I H _ s w fun v I1 H1 g1 p1 => h' σ I1 H1 _ (s.grow0 g1) g1.wd fun v2 I2 H2 g2 p2 => by
    rw [dp_int p1, dp_int p2]
    refine ⟨m, n, rfl, rfl, RgOk.of_le (by omega) (by omega) (by omega) (by omega), fun q hq => k _ _ _ ((g1.trans g2).trans (Gr.new g2.wd hq nt_l)) ?_⟩
    refine ⟨q, _, rfl, upd_same, ?_⟩
    rw [rgV_nat m n]
    have e2 : (((List.range (n - m)).map (m + ·)).map fun i => sD X.K (eN i)) = ((List.range (n - m)).map fun (i : Nat) => PyData.int ((m + i : Nat) : Int)).map (sD X.K) := by rw [List.map_map, List.map_map]; rfl
    rw [e2]
    exact allV_ints (f := fun i => ((m + i : Nat) : Int)) (List.range (n - m)))
theorem rd_catN {Ss Ss' : List SV} (hl : Ss.length + Ss'.length ≤ 100000) : RD2 T rCat (sLstN Ss) (sLstN Ss') (sLstN (Ss ++ Ss')) := fun x y I H Q w ⟨a, vs, e1, h1, h2⟩ ⟨b, ws, e3, h3, h4⟩ k => by
  have l1 := h2.length
  have l2 := h4.length
  exact ⟨a, b, vs, ws, e1, e3, w.sub _ _ h1, w.sub _ _ h3, by rw [← l1, ← l2]; exact Nat.le_trans hl (by decide), fun p hp => k _ _ _ (Gr.new w hp nt_l) ⟨p, _, rfl, upd_same, (h2.append h4).mono (Xt.new (w.free hp))⟩⟩
theorem de_catN {Ss Ss' : List SV} (ha : DE T X Γ M a (sLstN Ss)) (hb : DE T X Γ M b (sLstN Ss')) (hl : Ss.length + Ss'.length ≤ 100000) : DE T X Γ M (.BinOp a .Add b pos) (sLstN (Ss ++ Ss')) := de_op op_cat (rd_catN hl) ha hb
/-- f() -/
theorem de_call0 {δ : Type} {args : δ → List SV} {pre : δ → Prop} {res : δ → SV} {k k' : Nat} (G : FD X.prog X.w X.K X.mg X.base k x [] (spD T args pre res)) (hr : Room k' X.A) (hk : k ≤ k') (d : δ) (hp : pre d) (ha : args d = []) (hg : Gl X x := by rfl) (hdb : (x == ("__debug__" : Str)) = false := by decide) : DE T X Γ M (.Call (.Name x p) [] [] pos) (res d) := fun σ I H Q s w q => by
  obtain ⟨f, fd, hm, kp, hb, F⟩ := G.ex
  refine we_of (pe_call0 F (hr.mono hk) hg hm kp hb .nil (pass0 (X := X)) hdb) ?_
  exact ⟨d, I, hp, w, by rw [ha]; exact .nil, fun v I2 H2 g2 p2 => q v I2 H2 g2 p2⟩
/-- a, b = e1, e2: two locals -/
theorem tr_parS {y : Str} {py pt : Pos} {kt k2 : Nat} {pt2 : Pos} (hN : X.N.Nodup) (hc : X.calm = true) (hi : X.N[i]? = some x) (hj : X.N[j]? = some y) (hij : i ≠ j) (ha : DS B X Γ M a Sa) (hb : DS B X Γ M b Sb) (h : Tr B X ((Γ.set i (some Sa)).set j (some Sb)) M rest D)
    (hw : swappedStores [.Tuple [.Name x px, .Name y py] kt pt] (.Tuple [a, b] k2 pt2) X.env = pure (some [x, y]) := by rfl)
    (hx : X.env.scope.names.lookup x = some .local := by rfl) (hy : X.env.scope.names.lookup y = some .local := by rfl) (hs : swapsWithSole [.Tuple [.Name x px, .Name y py] kt pt] (.Tuple [a, b] k2 pt2) pos.line X.env = pure false := by rfl)
    (he : starEach [a, b] X.env = (false, eval a X.env) :: starEach [b] X.env := by rfl) (he2 : starEach [b] X.env = (false, eval b X.env) :: starEach [] X.env := by rfl) : Tr B X Γ M (.Assign [.Tuple [.Name x px, .Name y py] kt pt] (.Tuple [a, b] k2 pt2) pos :: rest) D := fun σ I H s =>
  ws_cons (ps_par hc hN hi hj hij hx hy (pa_cons pe_we (pa_cons pe_we pa_nil he2) he) hw hs) (ha σ I H _ s fun v I1 H1 s1 x1 p1 => hb σ I1 H1 _ s1 fun v2 I2 H2 s2 x2 p2 => ⟨v, v2, rfl, h _ I2 H2 ((s2.set (Sa.mono x2 p1)).set p2)⟩)
/-- a, b, c = e1, e2, e3: three locals -/
theorem tr_par3S {y z : Str} {py pz pt : Pos} {kt k2 : Nat} {pt2 : Pos} (hN : X.N.Nodup) (hc : X.calm = true) (hi : X.N[i]? = some x) (hj : X.N[j]? = some y) (hl : X.N[l]? = some z) (hij : i ≠ j) (hil : i ≠ l) (hjl : j ≠ l) (ha : DS B X Γ M a Sa) (hb : DS B X Γ M b Sb) (hcc : DS B X Γ M c Sc) (h : Tr B X (((Γ.set i (some Sa)).set j (some Sb)).set l (some Sc)) M rest D)
    (hw : swappedStores [.Tuple [.Name x px, .Name y py, .Name z pz] kt pt] (.Tuple [a, b, c] k2 pt2) X.env = pure (some [x, y, z]) := by rfl)
    (hx : X.env.scope.names.lookup x = some .local := by rfl) (hy : X.env.scope.names.lookup y = some .local := by rfl) (hz : X.env.scope.names.lookup z = some .local := by rfl) (hs : swapsWithSole [.Tuple [.Name x px, .Name y py, .Name z pz] kt pt] (.Tuple [a, b, c] k2 pt2) pos.line X.env = pure false := by rfl)
    (he : starEach [a, b, c] X.env = (false, eval a X.env) :: starEach [b, c] X.env := by rfl) (he2 : starEach [b, c] X.env = (false, eval b X.env) :: starEach [c] X.env := by rfl) (he3 : starEach [c] X.env = (false, eval c X.env) :: starEach [] X.env := by rfl) : Tr B X Γ M (.Assign [.Tuple [.Name x px, .Name y py, .Name z pz] kt pt] (.Tuple [a, b, c] k2 pt2) pos :: rest) D := fun σ I H s =>
  ws_cons (ps_par3 hc hN hi hj hl hij hil hjl hx hy hz (pa_cons pe_we (pa_cons pe_we (pa_cons pe_we pa_nil he3) he2) he) hw hs) (ha σ I H _ s fun v I1 H1 s1 x1 p1 => hb σ I1 H1 _ s1 fun v2 I2 H2 s2 x2 p2 => hcc σ I2 H2 _ s2 fun v3 I3 H3 s3 x3 p3 => ⟨v, v2, v3, rfl, h _ I3 H3 (((s3.set (Sa.mono (x2.trans x3) p1)).set (Sb.mono x3 p2)).set p3)⟩)
/-- for x in ..: the walk's end found by changing things -/
theorem tr_forS {ι δ : Type} {Ci : ι → Prop} {Ssi : ι → List SV} {Pd : ι → Nat → δ → Prop} {G : ι → Nat → δ → Ct} {Mf : ι → Nat → δ → Mt} (hp : PassesOwn (model X.prog X.w) X.A X.env X.xe) (hc : X.calm = true) (hN : X.N.Nodup) (hj : X.N[j]? = some x) (hI : DSI B X Γ M (.Name x px) iter Ci Ssi) (d0 : ι → δ) (h0 : ∀ r, Ci r → Pd r 0 (d0 r)) (hw : ∀ r, Wk (G r 0 (d0 r)) Γ) (hM : ∀ r, Mf r 0 (d0 r) = M)
    (hstep : ∀ r, Ci r → ∀ (A : Hp) (k : Nat) (d : δ) (S : SV), (Ssi r)[k]? = some S → Pd r k d → Tr (B.anc A) X ((G r k d).set j (some S)) (Mf r k d) body { D with nx := InvS (B.anc A) (Pd r) (G r) (Mf r) (k + 1), ct := InvS (B.anc A) (Pd r) (G r) (Mf r) (k + 1), bk := WS X rest D })
    (hrest : ∀ r, Ci r → ∀ d, Pd r (Ssi r).length d → Tr B X (G r (Ssi r).length d) (Mf r (Ssi r).length d) rest D) (hx : Loc X.env.scope x := by first | exact .inl rfl | exact .inr rfl) (hf : X.fn x = true ∨ X.env.scope.names.lookup x = some .local := by first | exact .inl rfl | exact .inr rfl)
    (hs : ∀ x, foldedSetIterable iter X.env x = pure x := by intro _; rfl) : Tr B X Γ M (.For (.Name x px) iter body [] pos :: rest) D := fun σ I H s =>
  ws_cons (ps_for hp hc pi_wi (pg_name (i := j) hN hj hx hf) ps_ws hs) (hI σ I H _ s fun r J I1 H1 cr s0 x0 it => by
    have s1 : As (B.anc I1) (G r 0 (d0 r)) (Mf r 0 (d0 r)) σ I1 H1 := by
      rw [hM]
      exact (s0.weak (hw r)).anc (Xt.refl I1)
    refine ⟨fun k m σ' H' => m = (Ssi r).length - k ∧ k ≤ (Ssi r).length ∧ InvS (B.anc I1) (Pd r) (G r) (Mf r) k σ' H', ⟨(Ssi r).length, by simp, Nat.zero_le _, d0 r, I1, h0 r cr, s1⟩, ?_⟩
    rintro k m σ' H' ⟨rfl, hk, d, I', hd, s'⟩
    obtain ⟨stop, go⟩ := it k I' H' (s'.an I1 List.mem_cons_self) s'.wd
    by_cases hlt : k < (Ssi r).length
    · have hS := List.getElem?_eq_getElem hlt
      obtain ⟨go1, go2⟩ := go _ hS
      refine .inr ⟨go1, InvS (B.anc I1) (Pd r) (G r) (Mf r) (k + 1), fun σ2 H2 p2 => ⟨(Ssi r).length - (k + 1), by omega, rfl, hlt, p2⟩, fun x H2 y => ?_⟩
      obtain ⟨I2, g2, px⟩ := go2 x H2 y
      exact hstep r cr I1 k d _ hS hd _ I2 H2 ((s'.grow g2).set px)
    · have e : k = (Ssi r).length := by omega
      subst e
      exact .inl ⟨stop (Nat.le_refl _), hrest r cr d hd σ' I' H' s'.drop⟩)
end
end Rm
set_option Elab.async false
set_option linter.all false
set_option maxRecDepth 100000
set_option maxHeartbeats 4000000
/-! The D-layer, part 16: unpacking, new lists apart from the rest. -/
namespace Rm
open PySem PySem.Spec PyProof.Rows L2 LamX
section
variable {B : Bg} {X : Cx} {Γ Γ' : Ct} {M : Mt} {a b c e iter tg : Expr} {es : List Expr} {S Sa Sb Sc : SV} {Ss : List SV} {pos p px : Pos} {rest body orelse : List Stmt} {D : Ends} {i j n : Nat} {x : Str}
theorem tr_newLd (hN : X.N.Nodup) (hi : X.N[i]? = some x) (ha : DA B.T X Γ M es Ss) (hl : Ss.length ≤ 1000) (h : ∀ q, (∀ m ∈ M, m.1 ≠ q) → Tr B X (Γ.set i (some (sV (.ref q)))) ((q, mL Ss) :: M) rest D) (hx : Loc X.env.scope x := by first | exact .inl rfl | exact .inr rfl)
    (hs : swapsWith (.List es p) (some (.Name x px)) pos.line X.env = pure false := by rfl) (hf : X.fn x = true ∨ X.env.scope.names.lookup x = some .local := by first | exact .inl rfl | exact .inr rfl) : Tr B X Γ M (.Assign [.Name x px] (.List es p) pos :: rest) D := fun σ I H s =>
  ws_cons (ps_set (i := i) hN hi hx (pe_lst pa_wa) hs hf) (ha σ I H _ s.sl s.wd fun vs I1 H1 g1 p1 => ⟨by rw [← p1.length]; exact Nat.le_of_lt (small1000 hl), fun q hq =>
    h q (fun m hm e => by
      obtain ⟨_, o, h1, _⟩ := (s.grow g1).sl.mu m hm
      rw [e, hq] at h1
      cases h1) _ I1 _ (((s.grow g1).new (m := mL Ss) hq ⟨vs, rfl, p1⟩).set rfl)⟩)
theorem tr_unpS {y : Str} {py pt : Pos} {kt : Nat} (hN : X.N.Nodup) (hc : X.calm = true) (hi : X.N[i]? = some x) (hj : X.N[j]? = some y) (he : DS B X Γ M e (sTup X.K [Sa, Sb])) (h : Tr B X ((Γ.set i (some Sa)).set j (some Sb)) M rest D)
    (hx : Loc X.env.scope x := by first | exact .inl rfl | exact .inr rfl) (hy : Loc X.env.scope y := by first | exact .inl rfl | exact .inr rfl)
    (hf : X.fn x = true ∨ X.env.scope.names.lookup x = some .local := by first | exact .inl rfl | exact .inr rfl) (hf2 : X.fn y = true ∨ X.env.scope.names.lookup y = some .local := by first | exact .inl rfl | exact .inr rfl)
    (hs : swapsWithSole [.Tuple [.Name x px, .Name y py] kt pt] e pos.line X.env = pure false := by rfl) (hw : swappedStores [.Tuple [.Name x px, .Name y py] kt pt] e X.env = pure none := by rfl)
    (h1 : (assignEach [.Tuple [.Name x px, .Name y py] kt pt] X.env).map (·.2) = [assign (.Tuple [.Name x px, .Name y py] kt pt) X.env] := by rfl)
    (hs1 : (assignEach [.Name x px, .Name y py] X.env).map (·.2) = assign (.Name x px) X.env :: (assignEach [.Name y py] X.env).map (·.2) := by rfl) (hs2 : (assignEach [.Name y py] X.env).map (·.2) = assign (.Name y py) X.env :: (assignEach [] X.env).map (·.2) := by rfl)
    (hn : (assignEach [.Name x px, .Name y py] X.env).length = 2 := by rfl) (hst : (assignEach [.Name x px, .Name y py] X.env).findIdx? (·.1) = none := by rfl) : Tr B X Γ M (.Assign [.Tuple [.Name x px, .Name y py] kt pt] e pos :: rest) D := fun σ I H s =>
  ws_cons (ps_asg pe_we (pg_tup hc (pgs_cons (pg_name (i := i) hN hi hx hf) (pgs_cons (pg_name (i := j) hN hj hy hf2) pgs_nil hs2) hs1) hn hst) hs hw h1) (he σ I H _ s fun v I1 H1 s1 x1 ⟨a, vs, ev, h2, h3⟩ => by
    obtain ⟨u, u', rfl, pu, pu'⟩ := allV2 h3
    exact ⟨a, _, ev, s1.wd.sub.t h2, rfl, u, _, rfl, u', _, rfl, rfl, h _ I1 H1 ((s1.set pu).set pu')⟩)
theorem tr_unp3S {y z : Str} {l : Nat} {py pz pt : Pos} {kt : Nat} (hN : X.N.Nodup) (hc : X.calm = true) (hi : X.N[i]? = some x) (hj : X.N[j]? = some y) (hl : X.N[l]? = some z) (he : DS B X Γ M e (sTup X.K [Sa, Sb, Sc])) (h : Tr B X (((Γ.set i (some Sa)).set j (some Sb)).set l (some Sc)) M rest D)
    (hx : Loc X.env.scope x := by first | exact .inl rfl | exact .inr rfl) (hy : Loc X.env.scope y := by first | exact .inl rfl | exact .inr rfl) (hz : Loc X.env.scope z := by first | exact .inl rfl | exact .inr rfl)
    (hf : X.fn x = true ∨ X.env.scope.names.lookup x = some .local := by first | exact .inl rfl | exact .inr rfl) (hf2 : X.fn y = true ∨ X.env.scope.names.lookup y = some .local := by first | exact .inl rfl | exact .inr rfl) (hf3 : X.fn z = true ∨ X.env.scope.names.lookup z = some .local := by first | exact .inl rfl | exact .inr rfl)
    (hs : swapsWithSole [.Tuple [.Name x px, .Name y py, .Name z pz] kt pt] e pos.line X.env = pure false := by rfl) (hw : swappedStores [.Tuple [.Name x px, .Name y py, .Name z pz] kt pt] e X.env = pure none := by rfl)
    (h1 : (assignEach [.Tuple [.Name x px, .Name y py, .Name z pz] kt pt] X.env).map (·.2) = [assign (.Tuple [.Name x px, .Name y py, .Name z pz] kt pt) X.env] := by rfl)
    (hs1 : (assignEach [.Name x px, .Name y py, .Name z pz] X.env).map (·.2) = assign (.Name x px) X.env :: (assignEach [.Name y py, .Name z pz] X.env).map (·.2) := by rfl) (hs2 : (assignEach [.Name y py, .Name z pz] X.env).map (·.2) = assign (.Name y py) X.env :: (assignEach [.Name z pz] X.env).map (·.2) := by rfl) (hs3 : (assignEach [.Name z pz] X.env).map (·.2) = assign (.Name z pz) X.env :: (assignEach [] X.env).map (·.2) := by rfl)
    (hn : (assignEach [.Name x px, .Name y py, .Name z pz] X.env).length = 3 := by rfl) (hst : (assignEach [.Name x px, .Name y py, .Name z pz] X.env).findIdx? (·.1) = none := by rfl) : Tr B X Γ M (.Assign [.Tuple [.Name x px, .Name y py, .Name z pz] kt pt] e pos :: rest) D := fun σ I H s =>
  ws_cons (ps_asg pe_we (pg_tup hc (pgs_cons (pg_name (i := i) hN hi hx hf) (pgs_cons (pg_name (i := j) hN hj hy hf2) (pgs_cons (pg_name (i := l) hN hl hz hf3) pgs_nil hs3) hs2) hs1) hn hst) hs hw h1) (he σ I H _ s fun v I1 H1 s1 x1 ⟨a, vs, ev, h2, h3⟩ => by
    cases h3 with
    | cons r1 t1 =>
      obtain ⟨u', u'', rfl, pu', pu''⟩ := allV2 t1
      exact ⟨a, _, ev, s1.wd.sub.t h2, rfl, _, _, rfl, u', _, rfl, u'', _, rfl, rfl, h _ I1 H1 (((s1.set r1).set pu').set pu'')⟩)
end
end Rm
set_option Elab.async false
set_option linter.all false
set_option maxRecDepth 100000
set_option maxHeartbeats 4000000
/-! The D-layer, part 17: texts, tries that nothing leaves, methods of things, starred parts. -/
namespace Rm
open PySem PySem.Spec PyProof.Rows L2 LamX StX
def sTop : SV := ⟨fun _ _ => True, fun _ h => h⟩
section
variable {T : Tb} {K : PySem.W.Frag} {B : Bg} {X : Cx} {Γ Γ' : Ct} {M M0 : Mt} {a b c e iter tg o : Expr} {es : List Expr} {S Sa Sb Sc : SV} {Ss Ss' : List SV} {pos p px apos : Pos} {rest body orelse : List Stmt} {D : Ends} {i j n : Nat} {x m : Str} {q C : Addr}
/-! ### texts -/
abbrev sgn (c : Nat) : Str := ⟨#[c]⟩
theorem its_ok {x : Str} {I0 : Hp} : ItOk T (Its x) (x.cps.toList.map fun c => sD K (.str (sgn c))) I0 := fun i I H e w => by
  refine ⟨fun hi => by rw [List.length_map, Array.length_toList] at hi; exact hi, fun S hS => ?_⟩
  rw [List.getElem?_map] at hS
  cases hc : x.cps.toList[i]? with
  | none => rw [hc] at hS; cases hS
  | some c =>
    rw [hc] at hS
    cases hS
    have hi : i < x.cps.size := by
      have := (List.getElem?_eq_some_iff.mp hc).1
      rwa [Array.length_toList] at this
    refine ⟨hi, fun v H' y => ?_⟩
    obtain ⟨e1, c', e2, e3⟩ := y
    subst e1
    rw [← Array.getElem?_toList, hc] at e2
    cases e2
    exact ⟨I, Gr.refl w, by rw [e3]; exact .str _⟩
theorem di_str {x : Str} (h : DE T X Γ M e (sD X.K (.str x))) : DI T X Γ M tg e (x.cps.toList.map fun c => sD X.K (.str (sgn c))) := fun σ I H R s w k => wi_of (pi_str pe_we) (h σ I H _ s w fun v I1 H1 g1 p1 => ⟨x, dp_str p1, k _ I1 H1 g1 its_ok⟩)
theorem de_lenStr {x : Str} (hm : X.mg "len" = none) (hl : x.length ≤ 100000) (ha : DE T X Γ M e (sD X.K (.str x))) (hg : Gl X "len" := by rfl) (he : starEach [e] X.env = (false, eval e X.env) :: starEach [] X.env := by rfl) (hpl : (backTo pos (starEach [] X.env)).any (·.1) = false := by rfl) :
    DE T X Γ M (.Call (.Name "len" p) [e] [] pos) (sD X.K (eN x.length)) :=
  de_callB call_len_str (Ss := [sD X.K (.str x)]) (fun vs I H Q w h k => by
    obtain ⟨v, rfl, hq⟩ := allV1 h
    exact ⟨x, by rw [dp_str hq], Nat.le_trans hl (by decide), k _ I H (Gr.refl w) (.int _)⟩) hm (by decide +kernel) (da_one ha he) hg (by decide) (by decide) he hpl
theorem rd_inSign {c : Nat} {z : Str} : RD2 T (fun x y H Q => ∃ (c : Nat) (z : Str), x = .str ⟨#[c]⟩ ∧ y = .str z ∧ Q (.bl (decide (c ∈ z.cps.toList))) H) (sD K (.str (sgn c))) (sD K (.str z)) (sD K (.bool (decide (c ∈ z.cps.toList)))) := fun x y I H Q w hx hy k => ⟨c, z, dp_str hx, dp_str hy, k _ I H (Gr.refl w) (.bl _)⟩
theorem de_inSign {c : Nat} {z : Str} (ha : DE T X Γ M a (sD X.K (.str (sgn c)))) (hb : DE T X Γ M b (sD X.K (.str z))) (hm : behindInMarks .In b = false := by rfl) : DE T X Γ M (.Compare a [.In] [b] pos) (sD X.K (.bool (decide (c ∈ z.cps.toList)))) := de_cmp op_in_sign hm rd_inSign ha hb
theorem dt_eqS {u v : Str} (ha : DE T X Γ M a (sD X.K (.str u))) (hb : DE T X Γ M b (sD X.K (.str v))) : DT T X Γ M (.Compare a [.Eq] [b] pos) (decide (u = v)) := dt_cmp op_eq (nomark _) rd_eqS ha hb
/-! ### try: nothing is raised -/
theorem tr_try {h₀ : ExceptHandler} {hs : List ExceptHandler} (hn : ∀ e s, ¬ X.xe e s) (h : Tr B X Γ M body { D with nx := WS X rest D }) : Tr B X Γ M (.Try body (h₀ :: hs) [] [] pos :: rest) D := fun σ I H s =>
  ws_cons (ps_try_never hn ps_ws pss_nil) (h σ I H s)
/-! ### methods of things, that leave them told alike -/
theorem ds_meth {δ : Type} {args : δ → List SV} {ms : δ → Mt} {pre : δ → Prop} {res : δ → SV} {k k' : Nat} {ps : List Str} {fd : FuncData} {f : Addr} {fs : List (Str × SV)} {pl : Sem Bool} (n : Nat) (hn : M[n]? = some (q, mIns C fs)) (hnm : fs.lookup m = none) (cl : Cls X.K C) (hm : Meth X.K C m f) (F : FnOk X.prog X.w X.K X.mg X.base CX0 k f fd ps (spS B.T args ms pre res)) (hb : Binds X.K fd ps []) (hr : Room k' X.A) (hk : k ≤ k') (d : δ) (hp : pre d) (hM : M = ms d ++ M0)
    (ho : DE B.T X Γ M o (sV (.ref q))) (ha : DA B.T X Γ M (e :: es) Ss) (had : args d = sV (.ref q) :: Ss)
    (hst : starEach (e :: es) X.env = (false, eval e X.env) :: starEach es X.env := by rfl) (hpl : (backTo pos (starEach es X.env)).any (·.1) = false := by rfl)
    (ht : eval (.Call (.Attribute o m apos) (e :: es) [] pos) X.env = (do
      let ov ← eval o X.env
      standAt apos.atName
      let (f, first) ← holding [ov] (getMethod ov m pl)
      callWith pos f first (backTo pos (starEach (e :: es) X.env)) (backToKw pos (keywordEach [] X.env))) := by rfl) : DS B X Γ M (.Call (.Attribute o m apos) (e :: es) [] pos) (res d) := fun σ I H Q s kk =>
  dx_meth (ρ := Unit) n hn hnm cl hm F hb hr hk d hp hM (fun _ _ => rfl) ho ha had hst hpl ht σ I H Q s fun r v I' H' _ s' xt pv => kk v I' H' (by rw [hM]; exact s') xt pv
/-! ### (*t, e) -/
theorem da_star (ha : DE T X Γ M e (sTup X.K Ss)) (hr : DA T X Γ M es Ss') (hs : starEach (.Starred e p :: es) X.env = (true, eval e X.env) :: starEach es X.env := by rfl) : DA T X Γ M (.Starred e p :: es) (Ss ++ Ss') := fun σ I H Q s w k =>
  wa_of (pa_star pe_we pa_wa hs) (ha σ I H _ s w fun v I1 H1 g1 ⟨a, vs, e1, h1, h2⟩ => ⟨a, vs, e1, .inl (g1.wd.sub.t h1), hr σ I1 H1 _ (s.grow0 g1) g1.wd fun ws I2 H2 g2 p2 => k _ I2 H2 (g1.trans g2) ((h2.mono g2.sub).append p2)⟩)
end
end Rm
set_option Elab.async false
set_option linter.all false
set_option maxRecDepth 100000
set_option maxHeartbeats 4000000
/-! The D-layer, part 18. -/
namespace Rm
open PySem PySem.Spec PyProof.Rows L2 LamX
section
variable {T : Tb} {B : Bg} {X : Cx} {Γ Γ' : Ct} {M : Mt} {a b c e iter tg : Expr} {es : List Expr} {S Sa Sb Sc : SV} {Ss : List SV} {pos p px : Pos} {rest body orelse : List Stmt} {D : Ends} {i j n : Nat} {x : Str}
/-- a op b op' c -/
theorem ds_chain {op op' : CmpOp} {cc : Expr} {r r' : R2} {c c' : Bool} (ho : OpR X (compareOp op) r) (ho' : OpR X (compareOp op') r')
    (hr : RD2 B.T r Sa Sb (sD X.K (.bool c))) (hr' : RD2 B.T r' Sb Sc (sD X.K (.bool c'))) (ha : DS B X Γ M a Sa) (hb : DS B X Γ M b Sb) (hc : DS B X Γ M cc Sc)
    (hm : lastMarks [op, op'] [b, cc] = false := by with_unfolding_all rfl) : DS B X Γ M (.Compare a [op, op'] [b, cc] pos) (sD X.K (.bool (c && c'))) := fun σ I H Q s k => by
  refine we_of (pe_chain ho ho' pe_we pe_we pe_we hm) (ha σ I H _ s fun x I1 H1 s1 x1 p1 => hb σ I1 H1 _ s1 fun y I2 H2 s2 x2 p2 => hr x y I2 H2 _ s2.wd (Sa.mono x2 p1) p2 fun z I3 H3 g3 p3 => ⟨c, dp_bl p3, ?_⟩)
  have s3 := s2.grow g3
  cases c with
  | true => exact iteT (hc σ I3 H3 _ s3 fun u I4 H4 s4 x4 p4 => hr' y u I4 H4 _ s4.wd (Sb.mono (g3.sub.trans x4) p2) p4 fun z2 I5 H5 g5 p5 => k z2 I5 H5 (s4.grow g5) ((((x1.trans x2).trans g3.sub).trans x4).trans g5.sub) p5)
  | false => exact iteF (k _ I3 H3 s3 ((x1.trans x2).trans g3.sub) (.bl false))
theorem ds_one {op : BoolOp} (h : DS B X Γ M a S) : DS B X Γ M (.BoolOp op [a] pos) S := fun σ I H Q s k => we_of (pe_one pe_we) (h σ I H Q s k)
theorem ds_and {rest : List Expr} {c c' : Bool} (ha : DS B X Γ M a (sD X.K (.bool c))) (hb : c = true → DS B X Γ M (.BoolOp .And (b :: rest) pos) (sD X.K (.bool c'))) : DS B X Γ M (.BoolOp .And (a :: b :: rest) pos) (sD X.K (.bool (c && c'))) := fun σ I H Q s k =>
  we_of (pe_and pe_we pe_we) (ha σ I H _ s fun v I1 H1 s1 x1 p => ⟨c, dp_bl p, by
    cases c with
    | true => exact iteT (hb rfl σ I1 H1 Q s1 fun v I2 H2 s2 x2 p2 => k v I2 H2 s2 (x1.trans x2) p2)
    | false => exact iteF (k _ I1 H1 s1 x1 (.bl false))⟩)
theorem DS.is {d d' : PyData} (h : DS B X Γ M e (sD X.K d)) (q : d = d') : DS B X Γ M e (sD X.K d') := by rw [← q]; exact h
/-- a, b = e1, e2, e1 making things -/
theorem tr_parX {ι : Type} {Ci : ι → Prop} {Si : ι → SV} {Mi : ι → Mt} {y : Str} {py pt : Pos} {kt k2 : Nat} {pt2 : Pos} (hN : X.N.Nodup) (hc : X.calm = true) (hi : X.N[i]? = some x) (hj : X.N[j]? = some y) (hij : i ≠ j) (ha : DX B X Γ M a Ci Si Mi) (hb : ∀ r, Ci r → DS B X Γ (Mi r) b Sb) (h : ∀ r, Ci r → Tr B X ((Γ.set i (some (Si r))).set j (some Sb)) (Mi r) rest D)
    (hw : swappedStores [.Tuple [.Name x px, .Name y py] kt pt] (.Tuple [a, b] k2 pt2) X.env = pure (some [x, y]) := by rfl)
    (hx : X.env.scope.names.lookup x = some .local := by rfl) (hy : X.env.scope.names.lookup y = some .local := by rfl) (hs : swapsWithSole [.Tuple [.Name x px, .Name y py] kt pt] (.Tuple [a, b] k2 pt2) pos.line X.env = pure false := by rfl)
    (he : starEach [a, b] X.env = (false, eval a X.env) :: starEach [b] X.env := by rfl) (he2 : starEach [b] X.env = (false, eval b X.env) :: starEach [] X.env := by rfl) : Tr B X Γ M (.Assign [.Tuple [.Name x px, .Name y py] kt pt] (.Tuple [a, b] k2 pt2) pos :: rest) D := fun σ I H s =>
  ws_cons (ps_par hc hN hi hj hij hx hy (pa_cons pe_we (pa_cons pe_we pa_nil he2) he) hw hs) (ha σ I H _ s fun r v I1 H1 cr s1 x1 p1 => hb r cr σ I1 H1 _ s1 fun v2 I2 H2 s2 x2 p2 => ⟨v, v2, rfl, h r cr _ I2 H2 ((s2.set ((Si r).mono x2 p1)).set p2)⟩)
end
end Rm
set_option Elab.async false
set_option linter.all false
set_option maxRecDepth 100000
set_option maxHeartbeats 4000000
/-! The D-layer, part 19: the head's facts, properties too; the law's entry. -/
namespace Rm
open PySem PySem.Spec PyProof.Rows L2 LamX NdefX He
/-! ### properties -/
structure PrD where
  C : Str
  m : Str
  qual : Str
  st : Stmt
def pAd (K : PySem.W.Frag) (p : PrD) : Addr := match PySem.W.recIn K (ma K (ga K p.C) p.m) "property" with
  | some (.ref g :: _) => g
  | _ => 0
def fnWa (K : PySem.W.Frag) (a : Addr) : FnW := match K.lookup a with
  | some ⟨_, _, .func fd, _⟩ => some (fd.name, fd.qualname, fd.params, fd.body, fd.scope, fd.globals, fd.closure, fd.builtins)
  | _ => none
def PrD.val (p : PrD) : FnW := some (p.m, p.qual, defArgs p.st, .stmts (defBody p.st), defScope p.st, mainGlobals, [], builtinsNs)
def PrD.ok (K : PySem.W.Frag) (p : PrD) : Bool := PySem.W.keepIn K (.ref (pAd K p)) && ((match K.lookup (pAd K p) with
  | some ⟨_, _, .func fd, _⟩ => PySem.W.codeIn K fd.code p.qual && dflB K fd.defaults []
  | _ => false) && (eqO (PySem.W.findIn K (.ref (ga K p.C)) p.m) (some (some (.ref (ma K (ga K p.C) p.m)))) && (eqO (PySem.W.specialIn K (.ref (ma K (ga K p.C) p.m)) "__get__") (some (some (.builtin "property.__get__"))) &&
  (decide (PySem.W.takesIn K (.ref (ma K (ga K p.C) p.m)) = some true) && (match PySem.W.recIn K (ma K (ga K p.C) p.m) "property" with
    | some (.ref _ :: _) => true
    | _ => false)))))
theorem PrD.get {K : PySem.W.Frag} {p : PrD} (e : fnWa K (pAd K p) = p.val) (c : p.ok K = true) : ∃ pr g fd, PropOf K (ga K p.C) p.m pr g ∧ Fun K p.m p.qual p.st g fd := by
  obtain ⟨kp, c⟩ := ba c
  obtain ⟨c1, c⟩ := ba c
  obtain ⟨c2, c⟩ := ba c
  obtain ⟨c3, c⟩ := ba c
  obtain ⟨c4, c5⟩ := ba c
  have hr : ∃ rest, PySem.W.recIn K (ma K (ga K p.C) p.m) "property" = some (.ref (pAd K p) :: rest) := by
    unfold pAd
    split at c5
    · rename_i g r q
      exact ⟨r, by rw [q]⟩
    · cases c5
  unfold fnWa at e
  cases q : K.lookup (pAd K p) with
  | none =>
    rw [q] at c1
    cases c1
  | some o =>
    obtain ⟨oc, od, dt, osl⟩ := o
    rw [q] at c1 e
    cases dt with
    | func fd =>
      obtain ⟨n1, n2, n3, n4, n5, n6, n7, n8, n9, n10, n11, n12, n13, n14, n15⟩ := fd
      have e2 : (some (n1, n2, n3, n4, n5, n6, n7, n15) : FnW) = some (p.m, p.qual, defArgs p.st, .stmts (defBody p.st), defScope p.st, mainGlobals, [], builtinsNs) := e
      simp only [Option.some.injEq, Prod.mk.injEq] at e2
      obtain ⟨h1, h2, h3, h4, h5, h6, h7, h8⟩ := e2
      obtain ⟨k1, k2⟩ := ba (show (PySem.W.codeIn K n13 p.qual && dflB K n8 []) = true from c1)
      have e8 : n8 = .none := by
        rcases dflB_ok k2 with z | z
        · exact z.2
        · exact absurd rfl z.1
      subst h1 h2 h3 h4 h5 h6 h7 h8 e8
      exact ⟨_, pAd K p, _, ⟨eqO_ok c2, eqO_ok c3, of_decide_eq_true c4, hr⟩, ⟨oc, od, n9, n10, n11, n12, n13, n14, osl, rfl, q, k1⟩, kp⟩
    | _ => cases c1
/-! ### the Hook -/
abbrev Tq : Type := Defn × Str
def exP (tq : List Tq) (pr : List PrD) (ex : PySem.W.Frag → Bool) (K : PySem.W.Frag) : Bool := ex K && ((pr.all fun p => p.ok K) && decide ((tq.map fun p => (cT K p.1).2).Nodup))
abbrev AlP : Type := AlX × List FnW
def obsP (n : Nat) (fa : List Fa) (fn : List DefD) (tq : List Tq) (pr : List PrD) (ex : PySem.W.Frag → Bool) (g : Addr → Option Obj) : AlP :=
  (obsX n fa fn [] (tq.map (·.1)) (exP tq pr ex) g, pr.map fun p => fnWa (frT g (asD g n)) (pAd (frT g (asD g n)) p))
def valP (fn : List DefD) (pr : List PrD) (w : World) : AlP := (valX fn [] w, pr.map PrD.val)
structure SaysP (fa : List Fa) (fn : List DefD) (tq : List Tq) (pr : List PrD) (ex : PySem.W.Frag → Bool) (w : World) (h : Heap) (K : PySem.W.Frag) : Prop where
  x : SaysX fa fn [] (tq.map (·.1)) (exP tq pr ex) w h K
  p : (pr.map fun p => fnWa K (pAd K p)) = pr.map PrD.val
def hookP (n : Nat) (fa : List Fa) (fn : List DefD) (tq : List Tq) (pr : List PrD) (ex : PySem.W.Frag → Bool) : PySem.W.Hook where
  α := AlP
  obs := fun s => obsP n fa fn tq pr ex s.heap.get?
  val := fun w => valP fn pr w
  says := fun w h => ∃ K : PySem.W.Frag, K.In h ∧ SaysP fa fn tq pr ex w h K
  of := fun _ _ e => ⟨_, frT_in, ⟨saysX_of (congrArg (fun z : AlP => z.1) e), congrArg (fun z : AlP => z.2) e⟩⟩
  keeps := fun _ _ _ ⟨K, hK, c⟩ k => ⟨K, PySem.W.Frag.In.keeps hK k, ⟨⟨c.x.t, c.x.more, c.x.hd, c.x.out, fun p hp => k _ _ (c.x.empty p hp)⟩, c.p⟩⟩
theorem obsP_eq {n : Nat} {fa : List Fa} {fn : List DefD} {tq : List Tq} {pr : List PrD} {ex : PySem.W.Frag → Bool} {g : Addr → Option Obj} {s : Shared} (h : ∀ a, g a = s.heap.get? a) : obsP n fa fn tq pr ex g = (hookP n fa fn tq pr ex).obs s := by
  have e : g = s.heap.get? := funext h
  rw [e] <;> rfl
/-! ### what is told, read -/
theorem fun_ofD {K : PySem.W.Frag} {x q : Str} {st : Stmt} {f : Addr} {fd : FuncData} (h : FunD K x q (defArgs st) (defBody st) (defScope st) [] [] f fd) : Fun K x q st f fd := by
  obtain ⟨⟨oc, od, dV, kV, doc, pm, an, cdv, ct, osl, e, lk, hc, hd, hk⟩, kp⟩ := h
  have z : dV = .none := hd.elim (·.2) (fun z => absurd rfl z.1)
  subst z
  exact ⟨⟨oc, od, kV, doc, pm, an, cdv, ct, osl, e, lk, hc⟩, kp⟩
theorem nodup_uni : ∀ {T : Tb} {t : Addr × Str}, (T.map (·.1)).Nodup → t ∈ T → ∀ u ∈ T, u.1 = t.1 → u.2 = t.2
  | [], _, _, h => nomatch h
  | s :: T, t, n, h => fun u hu e => by
    rw [List.map_cons, List.nodup_cons] at n
    rcases List.mem_cons.mp h with z | h
    · rcases List.mem_cons.mp hu with y | hu
      · rw [z, y]
      · have q := List.mem_map_of_mem (f := fun x : Addr × Str => x.1) hu
        rw [e, z] at q
        exact absurd q n.1
    · rcases List.mem_cons.mp hu with y | hu
      · have q := List.mem_map_of_mem (f := fun x : Addr × Str => x.1) h
        rw [← e, y] at q
        exact absurd q n.1
      · exact nodup_uni n.2 h u hu e
/-- a def of the module -/
abbrev dD (x : Str) (st : Stmt) : DefD := ⟨(x, none), x, x, defArgs st, defBody st, defScope st, [], []⟩
/-- a method -/
abbrev dM (C m q : Str) (st : Stmt) : DefD := ⟨(C, some m), m, q, defArgs st, defBody st, defScope st, [], []⟩
abbrev tabsOf (tq : List Tq) (K : PySem.W.Frag) : Tb := tq.map fun p => ((cT K p.1).2, p.2)
abbrev csOf (tq : List Tq) (K : PySem.W.Frag) : List (Addr × Addr) := tq.map fun p => cT K p.1
section
variable {fa : List Fa} {fn : List DefD} {tq : List Tq} {pr : List PrD} {ex : PySem.W.Frag → Bool} {w : World} {h : Heap} {K : PySem.W.Frag} {mg : Str → Option Value}
theorem SaysP.fact (c : SaysP fa fn tq pr ex w h K) (i : Nat) {f : Fa} (e : fa[i]? = some f := by rfl) : f.ok K = true := c.x.t.d.fact i e
theorem SaysP.def_ (c : SaysP fa fn tq pr ex w h K) (i : Nat) {d : DefD} (e : fn[i]? = some d := by rfl) : ∃ fd, FunD K d.name d.qual d.params d.body d.scope (d.dvs K) (d.kws K) (fAd K d.at_) fd := c.x.t.d.def_ i e
theorem SaysP.exx (c : SaysP fa fn tq pr ex w h K) : ex K = true := (ba c.x.more).1
theorem SaysP.nd (c : SaysP fa fn tq pr ex w h K) : ((tabsOf tq K).map (·.1)).Nodup := by
  have z := of_decide_eq_true (ba (ba c.x.more).2).2
  rw [List.map_map]
  exact z
theorem SaysP.prop (c : SaysP fa fn tq pr ex w h K) (i : Nat) {p : PrD} (e : pr[i]? = some p := by rfl) : ∃ q g fd, PropOf K (ga K p.C) p.m q g ∧ Fun K p.m p.qual p.st g fd := by
  have e2 : (pr.map fun p => fnWa K (pAd K p))[i]? = (pr.map PrD.val)[i]? := by rw [c.p]
  rw [List.getElem?_map, List.getElem?_map, e] at e2
  exact PrD.get (Option.some.inj e2) (List.all_eq_true.mp (ba (ba c.x.more).2).1 p (List.mem_of_getElem? e))
theorem SaysP.df (c : SaysP fa fn tq pr ex w h K) (X : K.In h) (G : h.Ns mainGlobals mg) (i j : Nat) {x : Str} {st : Stmt} (e : fa[i]? = some (.glo x) := by rfl) (e2 : fn[j]? = some (dD x st) := by rfl) : Df K mg x st := by
  obtain ⟨fd, F⟩ := c.def_ j e2
  exact ⟨_, fd, glo_ok X G (c.fact i e), fun_ofD F⟩
theorem SaysP.dfl (c : SaysP fa fn tq pr ex w h K) (X : K.In h) (G : h.Ns mainGlobals mg) {base : Heap} (TB : ∀ p ∈ csOf tq K, LamX.TabB base mg p.1 p.2) (i j l : Nat) {x q : Str} {st : Stmt} (e : fa[i]? = some (.glo x) := by rfl) (e2 : fn[j]? = some (dD x st) := by rfl) (e3 : tq[l]? = some ((x, none), q) := by rfl) : Dfl (tabsOf tq K) K mg base x st q := by
  obtain ⟨fd, F⟩ := c.def_ j e2
  have F := fun_ofD F
  have hm := List.mem_of_getElem? e3
  have t := TB _ (List.mem_map_of_mem (f := fun p : Tq => cT K p.1) hm)
  have ht : ((cT K (x, none)).2, q) ∈ tabsOf tq K := List.mem_map_of_mem (f := fun p : Tq => ((cT K p.1).2, p.2)) hm
  obtain ⟨oc, od, kV, doc, pm, an, cdv, ct, osl, ef, lk, hc⟩ := F.ex
  obtain ⟨cc, hcc⟩ := codeIn_ref hc
  have e4 : fd.code = .ref cc := by
    rw [ef]
    exact hcc
  have e5 : codeOf K (x, none) = cc := codeOf_eq lk e4
  refine ⟨_, fd, cc, (cT K (x, none)).2, glo_ok X G (c.fact i e), F, e4, ?_, ht, fun p hp z => nodup_uni c.nd ht p hp z⟩
  rw [← e5]
  exact t
theorem SaysP.md (c : SaysP fa fn tq pr ex w h K) (i j : Nat) {C m q : Str} {st : Stmt} (e : fa[i]? = some (.meth C m) := by rfl) (e2 : fn[j]? = some (dM C m q st) := by rfl) : ∃ f fd, Meth K (ga K C) m f ∧ Fun K m q st f fd := by
  obtain ⟨fd, F⟩ := c.def_ j e2
  exact ⟨_, fd, meth_ok (c.fact i e), fun_ofD F⟩
theorem SaysP.mkc (c : SaysP fa fn tq pr ex w h K) (i j : Nat) {C q : Str} {st : Stmt} (e : fa[i]? = some (.mkr C) := by rfl) (e2 : fn[j]? = some (dM C "__init__" q st) := by rfl) : ∃ f fd, Mk K (ga K C) f ∧ Fun K "__init__" q st f fd := by
  obtain ⟨fd, F⟩ := c.def_ j e2
  exact ⟨_, fd, mkr_ok (c.fact i e), fun_ofD F⟩
theorem SaysP.free (c : SaysP fa fn tq pr ex w h K) (X : K.In h) (G : h.Ns mainGlobals mg) (i : Nat) {x : Str} (e : fa[i]? = some (.free x) := by rfl) : mg x = none := free_ok X G (c.fact i e)
theorem SaysP.int (c : SaysP fa fn tq pr ex w h K) (X : K.In h) (G : h.Ns mainGlobals mg) (i : Nat) {x : Str} {z : Int} (e : fa[i]? = some (.int x z) := by rfl) : ∃ t, mg x = some (.int z t) := int_ok X G (c.fact i e)
theorem SaysP.str (c : SaysP fa fn tq pr ex w h K) (X : K.In h) (G : h.Ns mainGlobals mg) (i : Nat) {x z : Str} (e : fa[i]? = some (.str x z) := by rfl) : ∃ t, mg x = some (.str z t) := str_ok X G (c.fact i e)
end
/-! ### the law's promise -/
def spLaw (T : Tb) (K : PySem.W.Frag) : Sp := fun vs H Q _ => ∃ (zs : List Int) (I : Hp), zs.length ≤ 100000 ∧ Wd T I H ∧ AllV [sD K (eL eI zs)] vs I ∧ ∀ v H', v = .bl true → Q v H'
def noTab (H : Hp) : Hp := fun b => match H b with
  | some (.tbl _) => none
  | o => o
theorem noTab_sub {H : Hp} : Xt (noTab H) H := fun b o e => by
  unfold noTab at e
  split at e
  · cases e
  · exact e
theorem noTab_nt {H : Hp} (b : Addr) (o : HO) (e : noTab H b = some o) : NT o := fun ps z => by
  subst z
  unfold noTab at e
  split at e
  · cases e
  · rename_i h
    exact h ps e
theorem noTab_at {H : Hp} {b : Addr} {o : HO} (e : H b = some o) (n : NT o) : noTab H b = some o := by
  unfold noTab
  split
  · rename_i ps q
    rw [q] at e
    exact absurd (Option.some.inj e).symm (n ps)
  · exact e
theorem allV_eI {K : PySem.W.Frag} {I : Hp} : ∀ ns : List Int, AllV ((ns.map eI).map (sD K)) (ns.map V.int) I
  | [] => .nil
  | i :: l => .cons (Dp.int _) (allV_eI l)
theorem law_enter {tq : List Tq} {K : PySem.W.Frag} {H : Hp} {a : Addr} {ns : List Int} (hs : ∀ p ∈ csOf tq K, H p.2 = some (.tbl #[])) (hS : SqL K H a (ns.map V.int)) (hl : ns.length ≤ 100000) : spLaw (tabsOf tq K) K [.ref a] H (fun v _ => v = .bl true) fun _ _ _ => False := by
  refine ⟨ns, noTab H, hl, ⟨noTab_sub, noTab_nt, fun t ht => ?_⟩, .cons (sD_lst.mpr ⟨a, ns.map V.int, rfl, ?_, allV_eI ns⟩) .nil, fun _ _ z => z⟩
  · obtain ⟨p, hp, rfl⟩ := List.mem_map.mp ht
    refine ⟨#[], hs _ (List.mem_map_of_mem (f := fun p : Tq => cT K p.1) hp), trivial, fun pos cv hc => ?_⟩
    cases hc
  · rcases hS with hS | hS
    · rcases hS with hS | ⟨o, hS⟩
      · exact .inl (.inl (noTab_at hS nt_l))
      · exact .inl (.inr ⟨o, noTab_at hS fun _ e => nomatch e⟩)
    · exact .inr hS
theorem law_at {l : PySem.W.OpenLaw} {fa : List Fa} {fn : List DefD} {tq : List Tq} {pr : List PrD} {ex : PySem.W.Frag → Bool} {w : World} {h : Heap} {K : PySem.W.Frag} {mg : Str → Option Value} {k : Nat} {f : Addr} {st : Stmt} (X : K.In h) (G : h.Ns mainGlobals mg) (c : SaysP fa fn tq pr ex w h K)
    (hf : mg "law" = some (.ref f)) (i j : Nat) (e : fa[i]? = some (.glo "law")) (e2 : fn[j]? = some (dD "law" st))
    (hbind : ∀ (kV doc pm : Value) (an : Option Addr) (cdv ct : Value) (us : List Value), us.length = (["script"] : List Str).length → bindArgs (PySem.W.fnOf "law" "law" (defArgs st) (defBody st) (defScope st) .none kV doc pm an cdv ct) ⟨us, []⟩ = pure ((["script"] : List Str).zip us))
    (F : ∀ fd, Fun K "law" "law" st f fd → ∀ base : Heap, K.In base → base.Ns mainGlobals mg → (∀ p ∈ csOf tq K, LamX.TabB base mg p.1 p.2) → FnOk l.prog w K mg base CX0 k f fd ["script"] (spLaw (tabsOf tq K) K)) :
    LawAtS l w K CX0 k 63 "script" mg f h := by
  obtain ⟨fd, FD⟩ := c.def_ j e2
  have e3 := hf.symm.trans (glo_ok X G (c.fact i e))
  cases e3
  have FF := fun_ofD FD
  obtain ⟨oc, od, kV, doc, pm, an, cdv, ct, osl, ef, lk, hc⟩ := FF.ex
  refine ⟨fd, csOf tq K, spLaw (tabsOf tq K) K, fun p hp => ?_, fun p hp => ?_, fun p hp => ?_, fun s u => ?_, fun H a ns hl _ hH hS => law_enter hH hS (Nat.le_trans hl (by decide)), F fd FF⟩
  · obtain ⟨q, hq, rfl⟩ := List.mem_map.mp hp
    exact c.x.empty _ (List.mem_map_of_mem (f := (·.1)) hq)
  · obtain ⟨q, hq, rfl⟩ := List.mem_map.mp hp
    exact c.x.out _ (List.mem_map_of_mem (f := (·.1)) hq)
  · obtain ⟨q, hq, rfl⟩ := List.mem_map.mp hp
    exact PySem.W.codeHd_of_K X (c.x.hd _ (List.mem_map_of_mem (f := (·.1)) hq))
  · rw [ef]
    exact BindsTo.of_eq (hbind kV doc pm an cdv ct [u] rfl)
end Rm
set_option Elab.async false
set_option linter.all false
set_option maxRecDepth 100000
set_option maxHeartbeats 4000000
namespace Rm
open PySem PySem.Spec PyProof.Rows L2 LamX NdefX
def topS (i : Nat) : Stmt := PySem.Challenge.pw_rowmaps_k42_across_how_joined_rows_come.main.body.getD i (.Pass ⟨0, 0, 0, 0⟩)
abbrev s__wall : Stmt := topS 0
abbrev n__wall : List Str := ["k"]
theorem sc__wall : FnScope n__wall ["k"] (defScope s__wall) := ⟨rfl, rfl, rfl, by decide +kernel, rfl, by decide +kernel, by decide +kernel⟩
abbrev s_is_number : Stmt := topS 13
abbrev n_is_number : List Str := ["thing"]
theorem sc_is_number : FnScope n_is_number ["thing"] (defScope s_is_number) := ⟨rfl, rfl, rfl, by decide +kernel, rfl, by decide +kernel, by decide +kernel⟩
abbrev s_is_between : Stmt := topS 14
abbrev n_is_between : List Str := ["thing", "low", "high"]
theorem sc_is_between : FnScope n_is_between ["thing", "low", "high"] (defScope s_is_between) := ⟨rfl, rfl, rfl, by decide +kernel, rfl, by decide +kernel, by decide +kernel⟩
abbrev s_is_list : Stmt := topS 15
abbrev n_is_list : List Str := ["thing"]
theorem sc_is_list : FnScope n_is_list ["thing"] (defScope s_is_list) := ⟨rfl, rfl, rfl, by decide +kernel, rfl, by decide +kernel, by decide +kernel⟩
abbrev s_first_wrong : Stmt := topS 20
abbrev n_first_wrong : List Str := ["several", "fits", "index", "item"]
theorem sc_first_wrong : FnScope n_first_wrong ["several", "fits"] (defScope s_first_wrong) := ⟨rfl, rfl, rfl, by decide +kernel, rfl, by decide +kernel, by decide +kernel⟩
abbrev s_is_short_list : Stmt := topS 21
abbrev n_is_short_list : List Str := ["thing"]
theorem sc_is_short_list : FnScope n_is_short_list ["thing"] (defScope s_is_short_list) := ⟨rfl, rfl, rfl, by decide +kernel, rfl, by decide +kernel, by decide +kernel⟩
abbrev s_is_row : Stmt := topS 22
abbrev n_is_row : List Str := ["kinds", "thing"]
theorem sc_is_row : FnScope n_is_row ["kinds", "thing"] (defScope s_is_row) := ⟨rfl, rfl, rfl, by decide +kernel, rfl, by decide +kernel, by decide +kernel⟩
abbrev s_need_row : Stmt := topS 23
abbrev n_need_row : List Str := ["watch", "row"]
theorem sc_need_row : FnScope n_need_row ["watch", "row"] (defScope s_need_row) := ⟨rfl, rfl, rfl, by decide +kernel, rfl, by decide +kernel, by decide +kernel⟩
abbrev s_need_row_of : Stmt := topS 24
abbrev n_need_row_of : List Str := ["kinds", "row", "index"]
theorem sc_need_row_of : FnScope n_need_row_of ["kinds", "row"] (defScope s_need_row_of) := ⟨rfl, rfl, rfl, by decide +kernel, rfl, by decide +kernel, by decide +kernel⟩
abbrev s_is_word : Stmt := topS 25
abbrev n_is_word : List Str := ["thing"]
theorem sc_is_word : FnScope n_is_word ["thing"] (defScope s_is_word) := ⟨rfl, rfl, rfl, by decide +kernel, rfl, by decide +kernel, by decide +kernel⟩
abbrev s_is_line : Stmt := topS 28
abbrev n_is_line : List Str := ["thing", "kinds", "places", "item"]
theorem sc_is_line : FnScope n_is_line ["thing", "kinds", "places"] (defScope s_is_line) := ⟨rfl, rfl, rfl, by decide +kernel, rfl, by decide +kernel, by decide +kernel⟩
abbrev s_need_moves : Stmt := topS 29
abbrev n_need_moves : List Str := ["moves", "first", "index"]
theorem sc_need_moves : FnScope n_need_moves ["moves"] (defScope s_need_moves) := ⟨rfl, rfl, rfl, by decide +kernel, rfl, by decide +kernel, by decide +kernel⟩
abbrev s_need_words : Stmt := topS 30
abbrev n_need_words : List Str := ["words", "many", "index"]
theorem sc_need_words : FnScope n_need_words ["words", "many"] (defScope s_need_words) := ⟨rfl, rfl, rfl, by decide +kernel, rfl, by decide +kernel, by decide +kernel⟩
abbrev s_Watch_init : Stmt := inClass (topS 31) 0
abbrev n_Watch_init : List Str := ["self", "moves", "words", "line"]
theorem sc_Watch_init : FnScope n_Watch_init ["self", "moves", "words"] (defScope s_Watch_init) := ⟨rfl, rfl, rfl, by decide +kernel, rfl, by decide +kernel, by decide +kernel⟩
abbrev s_Watch_moves : Stmt := inClass (topS 31) 1
abbrev n_Watch_moves : List Str := ["self"]
theorem sc_Watch_moves : FnScope n_Watch_moves ["self"] (defScope s_Watch_moves) := ⟨rfl, rfl, rfl, by decide +kernel, rfl, by decide +kernel, by decide +kernel⟩
abbrev s_Watch_words : Stmt := inClass (topS 31) 2
abbrev n_Watch_words : List Str := ["self"]
theorem sc_Watch_words : FnScope n_Watch_words ["self"] (defScope s_Watch_words) := ⟨rfl, rfl, rfl, by decide +kernel, rfl, by decide +kernel, by decide +kernel⟩
abbrev s_Watch_kinds : Stmt := inClass (topS 31) 3
abbrev n_Watch_kinds : List Str := ["self"]
theorem sc_Watch_kinds : FnScope n_Watch_kinds ["self"] (defScope s_Watch_kinds) := ⟨rfl, rfl, rfl, by decide +kernel, rfl, by decide +kernel, by decide +kernel⟩
abbrev s_Watch_eq : Stmt := inClass (topS 31) 4
abbrev n_Watch_eq : List Str := ["self", "other"]
theorem sc_Watch_eq : FnScope n_Watch_eq ["self", "other"] (defScope s_Watch_eq) := ⟨rfl, rfl, rfl, by decide +kernel, rfl, by decide +kernel, by decide +kernel⟩
abbrev s_need_watch : Stmt := topS 32
abbrev n_need_watch : List Str := ["watch", "part"]
theorem sc_need_watch : FnScope n_need_watch ["watch", "part"] (defScope s_need_watch) := ⟨rfl, rfl, rfl, by decide +kernel, rfl, by decide +kernel, by decide +kernel⟩
abbrev s_led_from : Stmt := topS 33
abbrev n_led_from : List Str := ["watch", "place", "row", "kind"]
theorem sc_led_from : FnScope n_led_from ["watch", "place", "row"] (defScope s_led_from) := ⟨rfl, rfl, rfl, by decide +kernel, rfl, by decide +kernel, by decide +kernel⟩
abbrev s_map_by : Stmt := topS 36
abbrev n_map_by : List Str := ["watch", "row", "place"]
theorem sc_map_by : FnScope n_map_by ["watch", "row"] (defScope s_map_by) := ⟨rfl, rfl, rfl, by decide +kernel, rfl, by decide +kernel, by decide +kernel⟩
abbrev s_map_of : Stmt := topS 37
abbrev n_map_of : List Str := ["watch", "row"]
theorem sc_map_of : FnScope n_map_of ["watch", "row"] (defScope s_map_of) := ⟨rfl, rfl, rfl, by decide +kernel, rfl, by decide +kernel, by decide +kernel⟩
abbrev s_then : Stmt := topS 38
abbrev n_then : List Str := ["one", "other", "place"]
theorem sc_then : FnScope n_then ["one", "other"] (defScope s_then) := ⟨rfl, rfl, rfl, by decide +kernel, rfl, by decide +kernel, by decide +kernel⟩
abbrev s_power : Stmt := topS 39
abbrev n_power : List Str := ["one", "times", "found", "here"]
theorem sc_power : FnScope n_power ["one", "times"] (defScope s_power) := ⟨rfl, rfl, rfl, by decide +kernel, rfl, by decide +kernel, by decide +kernel⟩
abbrev s_need_times : Stmt := topS 40
abbrev n_need_times : List Str := ["times"]
theorem sc_need_times : FnScope n_need_times ["times"] (defScope s_need_times) := ⟨rfl, rfl, rfl, by decide +kernel, rfl, by decide +kernel, by decide +kernel⟩
abbrev s_map_power : Stmt := topS 41
abbrev n_map_power : List Str := ["watch", "row", "times"]
theorem sc_map_power : FnScope n_map_power ["watch", "row", "times"] (defScope s_map_power) := ⟨rfl, rfl, rfl, by decide +kernel, rfl, by decide +kernel, by decide +kernel⟩
abbrev s_turns_by : Stmt := topS 42
abbrev n_turns_by : List Str := ["one", "found", "here"]
theorem sc_turns_by : FnScope n_turns_by ["one"] (defScope s_turns_by) := ⟨rfl, rfl, rfl, by decide +kernel, rfl, by decide +kernel, by decide +kernel⟩
abbrev s_index_period : Stmt := topS 43
abbrev n_index_period : List Str := ["watch", "row"]
theorem sc_index_period : FnScope n_index_period ["watch", "row"] (defScope s_index_period) := ⟨rfl, rfl, rfl, by decide +kernel, rfl, by decide +kernel, by decide +kernel⟩
abbrev s_is_entry_name : Stmt := topS 48
abbrev n_is_entry_name : List Str := ["thing", "letter"]
theorem sc_is_entry_name : FnScope n_is_entry_name ["thing"] (defScope s_is_entry_name) := ⟨rfl, rfl, rfl, by decide +kernel, rfl, by decide +kernel, by decide +kernel⟩
abbrev s_Mapbook_init : Stmt := inClass (topS 49) 0
abbrev n_Mapbook_init : List Str := ["self", "watch"]
theorem sc_Mapbook_init : FnScope n_Mapbook_init ["self", "watch"] (defScope s_Mapbook_init) := ⟨rfl, rfl, rfl, by decide +kernel, rfl, by decide +kernel, by decide +kernel⟩
abbrev s_Mapbook_watch : Stmt := inClass (topS 49) 1
abbrev n_Mapbook_watch : List Str := ["self"]
theorem sc_Mapbook_watch : FnScope n_Mapbook_watch ["self"] (defScope s_Mapbook_watch) := ⟨rfl, rfl, rfl, by decide +kernel, rfl, by decide +kernel, by decide +kernel⟩
abbrev s_Mapbook_names : Stmt := inClass (topS 49) 2
abbrev n_Mapbook_names : List Str := ["self"]
theorem sc_Mapbook_names : FnScope n_Mapbook_names ["self"] (defScope s_Mapbook_names) := ⟨rfl, rfl, rfl, by decide +kernel, rfl, by decide +kernel, by decide +kernel⟩
abbrev s_Mapbook_log : Stmt := inClass (topS 49) 3
abbrev n_Mapbook_log : List Str := ["self"]
theorem sc_Mapbook_log : FnScope n_Mapbook_log ["self"] (defScope s_Mapbook_log) := ⟨rfl, rfl, rfl, by decide +kernel, rfl, by decide +kernel, by decide +kernel⟩
abbrev s_Mapbook_entry : Stmt := inClass (topS 49) 4
abbrev n_Mapbook_entry : List Str := ["self", "name"]
theorem sc_Mapbook_entry : FnScope n_Mapbook_entry ["self", "name"] (defScope s_Mapbook_entry) := ⟨rfl, rfl, rfl, by decide +kernel, rfl, by decide +kernel, by decide +kernel⟩
abbrev s_Mapbook_made : Stmt := inClass (topS 49) 5
abbrev n_Mapbook_made : List Str := ["self", "deed", "one", "other"]
theorem sc_Mapbook_made : FnScope n_Mapbook_made ["self", "deed"] (defScope s_Mapbook_made) := ⟨rfl, rfl, rfl, by decide +kernel, rfl, by decide +kernel, by decide +kernel⟩
abbrev s_Mapbook_do : Stmt := inClass (topS 49) 6
abbrev n_Mapbook_do : List Str := ["self", "deed", "found"]
theorem sc_Mapbook_do : FnScope n_Mapbook_do ["self", "deed"] (defScope s_Mapbook_do) := ⟨rfl, rfl, rfl, by decide +kernel, rfl, by decide +kernel, by decide +kernel⟩
abbrev s_Mapbook_undo : Stmt := inClass (topS 49) 7
abbrev n_Mapbook_undo : List Str := ["self"]
theorem sc_Mapbook_undo : FnScope n_Mapbook_undo ["self"] (defScope s_Mapbook_undo) := ⟨rfl, rfl, rfl, by decide +kernel, rfl, by decide +kernel, by decide +kernel⟩
abbrev s_Mapbook_size : Stmt := inClass (topS 49) 8
abbrev n_Mapbook_size : List Str := ["self", "name"]
theorem sc_Mapbook_size : FnScope n_Mapbook_size ["self", "name"] (defScope s_Mapbook_size) := ⟨rfl, rfl, rfl, by decide +kernel, rfl, by decide +kernel, by decide +kernel⟩
abbrev s_Mapbook_does : Stmt := inClass (topS 49) 9
abbrev n_Mapbook_does : List Str := ["self", "name"]
theorem sc_Mapbook_does : FnScope n_Mapbook_does ["self", "name"] (defScope s_Mapbook_does) := ⟨rfl, rfl, rfl, by decide +kernel, rfl, by decide +kernel, by decide +kernel⟩
abbrev s_Mapbook_says : Stmt := inClass (topS 49) 10
abbrev n_Mapbook_says : List Str := ["self", "name"]
theorem sc_Mapbook_says : FnScope n_Mapbook_says ["self", "name"] (defScope s_Mapbook_says) := ⟨rfl, rfl, rfl, by decide +kernel, rfl, by decide +kernel, by decide +kernel⟩
abbrev s_Mapbook_event : Stmt := inClass (topS 49) 11
abbrev n_Mapbook_event : List Str := ["self", "name", "tick", "deeds", "deed"]
theorem sc_Mapbook_event : FnScope n_Mapbook_event ["self", "name", "tick"] (defScope s_Mapbook_event) := ⟨rfl, rfl, rfl, by decide +kernel, rfl, by decide +kernel, by decide +kernel⟩
abbrev s_Mapbook_eq : Stmt := inClass (topS 49) 12
abbrev n_Mapbook_eq : List Str := ["self", "other"]
theorem sc_Mapbook_eq : FnScope n_Mapbook_eq ["self", "other"] (defScope s_Mapbook_eq) := ⟨rfl, rfl, rfl, by decide +kernel, rfl, by decide +kernel, by decide +kernel⟩
abbrev s__law_begun : Stmt := topS 51
abbrev n__law_begun : List Str := ["script", "large", "grain"]
theorem sc__law_begun : FnScope n__law_begun ["script"] (defScope s__law_begun) := ⟨rfl, rfl, rfl, by decide +kernel, rfl, by decide +kernel, by decide +kernel⟩
abbrev s__law_blend : Stmt := topS 52
abbrev n__law_blend : List Str := ["tape", "turn", "found", "great", "blended", "grain"]
theorem sc__law_blend : FnScope n__law_blend ["tape"] (defScope s__law_blend) := ⟨rfl, rfl, rfl, by decide +kernel, rfl, by decide +kernel, by decide +kernel⟩
abbrev s__law_draw : Stmt := topS 53
abbrev n__law_draw : List Str := ["tape", "size", "found"]
theorem sc__law_draw : FnScope n__law_draw ["tape", "size"] (defScope s__law_draw) := ⟨rfl, rfl, rfl, by decide +kernel, rfl, by decide +kernel, by decide +kernel⟩
abbrev s__law_pick : Stmt := topS 54
abbrev n__law_pick : List Str := ["tape", "several"]
theorem sc__law_pick : FnScope n__law_pick ["tape", "several"] (defScope s__law_pick) := ⟨rfl, rfl, rfl, by decide +kernel, rfl, by decide +kernel, by decide +kernel⟩
abbrev s__law_watch : Stmt := topS 55
abbrev n__law_watch : List Str := ["tape", "places", "kinds", "words", "many", "moves", "place", "kind"]
theorem sc__law_watch : FnScope n__law_watch ["tape", "places", "kinds", "words"] (defScope s__law_watch) := ⟨rfl, rfl, rfl, by decide +kernel, rfl, by decide +kernel, by decide +kernel⟩
abbrev s__law_made : Stmt := topS 56
abbrev n__law_made : List Str := ["watch", "goals"]
theorem sc__law_made : FnScope n__law_made ["watch"] (defScope s__law_made) := ⟨rfl, rfl, rfl, by decide +kernel, rfl, by decide +kernel, by decide +kernel⟩
abbrev s__law_row : Stmt := topS 57
abbrev n__law_row : List Str := ["tape", "watch", "most", "item"]
theorem sc__law_row : FnScope n__law_row ["tape", "watch", "most"] (defScope s__law_row) := ⟨rfl, rfl, rfl, by decide +kernel, rfl, by decide +kernel, by decide +kernel⟩
abbrev s__law_ringed : Stmt := topS 58
abbrev n__law_ringed : List Str := ["tape", "many", "turn", "spot", "swap", "kinds", "kind"]
theorem sc__law_ringed : FnScope n__law_ringed ["tape"] (defScope s__law_ringed) := ⟨rfl, rfl, rfl, by decide +kernel, rfl, by decide +kernel, by decide +kernel⟩
abbrev s__law_counting : Stmt := topS 59
abbrev n__law_counting : List Str := ["tape", "many", "kinds", "top", "weights", "kind", "moves", "spot", "weight"]
theorem sc__law_counting : FnScope n__law_counting ["tape"] (defScope s__law_counting) := ⟨rfl, rfl, rfl, by decide +kernel, rfl, by decide +kernel, by decide +kernel⟩
abbrev s__law_known : Stmt := topS 60
abbrev n__law_known : List Str := ["falls"]
theorem sc__law_known : FnScope n__law_known [] (defScope s__law_known) := ⟨rfl, rfl, rfl, by decide +kernel, rfl, by decide +kernel, by decide +kernel⟩
abbrev s__law_common : Stmt := topS 61
abbrev n__law_common : List Str := ["one", "other", "lap"]
theorem sc__law_common : FnScope n__law_common ["one", "other"] (defScope s__law_common) := ⟨rfl, rfl, rfl, by decide +kernel, rfl, by decide +kernel, by decide +kernel⟩
abbrev s__law_joined_right : Stmt := topS 62
abbrev n__law_joined_right : List Str := ["here", "one", "other", "first", "second", "near", "far", "common"]
theorem sc__law_joined_right : FnScope n__law_joined_right ["here", "one", "other"] (defScope s__law_joined_right) := ⟨rfl, rfl, rfl, by decide +kernel, rfl, by decide +kernel, by decide +kernel⟩
abbrev s__law_times_right : Stmt := topS 63
abbrev n__law_times_right : List Str := ["here", "row", "times", "index", "period", "goes"]
theorem sc__law_times_right : FnScope n__law_times_right ["here", "row", "times"] (defScope s__law_times_right) := ⟨rfl, rfl, rfl, by decide +kernel, rfl, by decide +kernel, by decide +kernel⟩
abbrev s__law_turns_right : Stmt := topS 64
abbrev n__law_turns_right : List Str := ["tape", "here", "row", "index", "period", "spot", "turned", "far", "rounds"]
theorem sc__law_turns_right : FnScope n__law_turns_right ["tape", "here", "row"] (defScope s__law_turns_right) := ⟨rfl, rfl, rfl, by decide +kernel, rfl, by decide +kernel, by decide +kernel⟩
abbrev s__law_book_right : Stmt := topS 65
abbrev n__law_book_right : List Str := ["tape", "here", "row", "index", "period", "book", "times", "deed"]
theorem sc__law_book_right : FnScope n__law_book_right ["tape", "here", "row"] (defScope s__law_book_right) := ⟨rfl, rfl, rfl, by decide +kernel, rfl, by decide +kernel, by decide +kernel⟩
abbrev s_law : Stmt := topS 66
abbrev n_law : List Str := ["script", "tape", "lap", "way", "watch", "here", "one", "other", "times", "falls", "ended", "odd", "row", "six"]
theorem sc_law : FnScope n_law ["script"] (defScope s_law) := ⟨rfl, rfl, rfl, by decide +kernel, rfl, by decide +kernel, by decide +kernel⟩
end Rm
set_option Elab.async false
set_option linter.all false
set_option maxRecDepth 100000
set_option maxHeartbeats 4000000
namespace Rm
open PySem PySem.Spec PyProof.Rows L2 LamX NdefX
/-- names that the module leaves to the built-in ones -/
structure Bf (mg : Str → Option Value) : Prop where
  len : mg "len" = none
  tuple : mg "tuple" = none
  list : mg "list" = none
  range : mg "range" = none
  isinstance : mg "isinstance" = none
  int : mg "int" = none
  bool : mg "bool" = none
  str : mg "str" = none
  all : mg "all" = none
  enumerate : mg "enumerate" = none
section
variable {P : Program} {w : World} {K : PySem.W.Frag} {mg : Str → Option Value} {base : Heap} {T : Tb}
abbrev spIsNumber (T : Tb) (K : PySem.W.Frag) : Sp := spD T (fun d : Int => [sD K (.int d)]) (fun _ => True) (fun _ => sD K (.bool true))
theorem ok_is_number {f : Addr} {fd : FuncData} (F : Fun K "is_number" "is_number" s_is_number f fd) (bf : Bf mg) : FnOk P w K mg base CX0 1 f fd ["thing"] (spIsNumber T K) := by
  refine fn_body F sc_is_number (fun _ => rfl) fun i _ cdv A outer s I H E D hr hret hend => ?_
  exact tr_ret ((de_and (c := true) (c' := true) (de_isi (r := true) bf.isinstance (dv 0) (de_bltn (t := "int") bf.int (by decide +kernel)) (.ty _) ty_int (kit_ty (by decide +kernel))) fun _ => de_one (de_not (c := false) (de_isi (r := false) bf.isinstance (dv 0) (de_bltn (t := "bool") bf.bool (by decide +kernel)) (.ty _) ty_int (kit_ty (by decide +kernel)))))) hret
theorem fd_is_number (d : Df K mg "is_number" s_is_number) (bf : Bf mg) : FD P w K mg base 1 "is_number" ["thing"] (spIsNumber T K) := d.fd (fun _ _ _ _ _ _ us hl => match us, hl with | [_], _ => rfl) fun f fd F hm => ok_is_number F bf
abbrev spIsBetween (T : Tb) (K : PySem.W.Frag) : Sp := spD T (fun d : Int × Int × Int => [sD K (.int d.1), sD K (.int d.2.1), sD K (.int d.2.2)]) (fun _ => True) (fun d => sD K (.bool (decide (d.2.1 ≤ d.1) && decide (d.1 ≤ d.2.2))))
theorem fd_is_between (d : Df K mg "is_between" s_is_between) (bf : Bf mg) (d1 : Df K mg "is_number" s_is_number) : FD P w K mg base 2 "is_between" ["thing", "low", "high"] (spIsBetween T K) :=
  d.fd (fun _ _ _ _ _ _ us hl => match us, hl with | [_, _, _], _ => rfl) fun f fd F hm => by
    refine fn_body F sc_is_between (fun _ => rfl) fun ⟨i, lo, hi⟩ _ cdv A outer s I H E D hr hret hend => ?_
    exact tr_ret (de_and (c := true) (de_call (fd_is_number d1 bf) hr (Nat.le_refl _) i trivial (da_one (dv 0))) fun _ => de_one (de_lele (dv 1) (dv 0) (dv 2))) hret
abbrev spIsList (T : Tb) (K : PySem.W.Frag) : Sp := spD T (fun d : List SV => [sSeq K d]) (fun _ => True) (fun _ => sD K (.bool true))
theorem fd_is_list (d : Df K mg "is_list" s_is_list) (bf : Bf mg) : FD P w K mg base 1 "is_list" ["thing"] (spIsList T K) :=
  d.fd (fun _ _ _ _ _ _ us hl => match us, hl with | [_], _ => rfl) fun f fd F hm => by
    refine fn_body F sc_is_list (fun _ => rfl) fun Ss _ cdv A outer s I H E D hr hret hend => ?_
    exact tr_ret (de_isLT bf.isinstance (dv 0) (de_tupN (da_cons (de_bltn (t := "list") bf.list (by decide +kernel)) (da_one (de_bltn (t := "tuple") bf.tuple (by decide +kernel)))) (by decide))) hret
abbrev spIsShort (T : Tb) (K : PySem.W.Frag) : Sp := spD T (fun d : List SV => [sSeq K d]) (fun _ => True) (fun d => sD K (.bool (decide (d.length ≤ 300))))
theorem fd_is_short_list (d : Df K mg "is_short_list" s_is_short_list) (bf : Bf mg) (d1 : Df K mg "is_list" s_is_list) (c1 : ∃ t, mg "MOST_EVENTS" = some (.int 300 t)) : FD P w K mg base 2 "is_short_list" ["thing"] (spIsShort T K) :=
  d.fd (fun _ _ _ _ _ _ us hl => match us, hl with | [_], _ => rfl) fun f fd F hm => by
    refine fn_body F sc_is_short_list (fun _ => rfl) fun Ss _ cdv A outer s I H E D hr hret hend => ?_
    refine tr_ret ((de_and (c := true) (c' := decide (Ss.length ≤ 300)) (de_call (fd_is_list d1 bf) hr (Nat.le_refl _) Ss trivial (da_one (dv 0))) fun _ => de_one ((de_le (de_lenS bf.len (dv 0)) (de_globI c1 (by rfl))).is ?_)).is ?_) hret
    · show PyData.bool (decide ((Ss.length : Int) ≤ 300)) = _
      congr 1
      exact decide_eq_decide.mpr (by omega)
    · rfl
/-- first_wrong's body: nothing is wrong -/
theorem fw_body {f : Addr} {cd : Value} {A : Around} {outer : List Env} {s : Shared} {H I : Hp} {E : XK} {α : Type} {as : List α} {Si : α → SV} {Sf : SV} {D : Ends} (bf : Bf mg)
    (hcall : ∀ a ∈ as, ∀ (Γ : Ct) (M : Mt) (arg : Expr) (p1 p2 : Pos), Γ[1]? = some (some Sf) → DE T (cxN P w K mg base n_first_wrong "first_wrong" s_first_wrong f cd A outer s H E) Γ M arg (Si a) →
      starEach [arg] (cxN P w K mg base n_first_wrong "first_wrong" s_first_wrong f cd A outer s H E).env = (false, eval arg (cxN P w K mg base n_first_wrong "first_wrong" s_first_wrong f cd A outer s H E).env) :: starEach [] (cxN P w K mg base n_first_wrong "first_wrong" s_first_wrong f cd A outer s H E).env →
      DE T (cxN P w K mg base n_first_wrong "first_wrong" s_first_wrong f cd A outer s H E) Γ M (.Call (.Name "fits" p1) [arg] [] p2) (sD K (.bool true)))
    (hret : ∀ v I' H', Gr T [] I H I' H' → (sD K .none).p v I' → D.rt v H') : Tr ⟨T, [], I, H, []⟩ (cxN P w K mg base n_first_wrong "first_wrong" s_first_wrong f cd A outer s H E) (st0 n_first_wrong [sSeq K (as.map Si), Sf]) [] (defBody s_first_wrong) D := by
  refine tr_for2 (i := 2) (j := 3) (δ := Unit) (Pd := fun _ _ => True) (G := fun _ _ => st0 n_first_wrong [sSeq K (as.map Si), Sf]) (Mf := fun _ _ => []) PassesOwn.never rfl sc_first_wrong.nd rfl rfl (di_enum bf.enumerate (dv 0)) () trivial (Wk.refl _) rfl (fun Ah k d S hS _ => ?_) (fun d _ => ?_)
  · obtain ⟨S', h1, rfl⟩ := enumSs_get hS
    refine ⟨_, _, rfl, ?_⟩
    rw [List.getElem?_map] at h1
    cases ha : as[k]? with
    | none => rw [ha] at h1; cases h1
    | some a =>
      rw [ha] at h1
      cases h1
      refine tr_skip (dt_not (c := true) (dt_val (hcall a (List.mem_of_getElem? ha) _ _ _ _ _ rfl (dv 3) rfl))) ?_
      exact tr_nil fun σ I H s => ⟨(), I, trivial, s.weak (.keep (.keep (.drop (.drop .nil))))⟩
  · exact tr_ret de_non hret
end
theorem sSD_seqf {K : PySem.W.Frag} {α : Type} {f : α → PyData} {xs : List α} {v : V} {I : Hp} (h : (sSD K (xs.map f)).p v I) : (sSeq K (xs.map fun a => sD K (f a))).p v I := by
  have q := sSD_seq h
  rw [List.map_map] at q
  exact q
theorem sSeq_map {K : PySem.W.Frag} {α β : Type} {f : β → SV} {g : α → β} {xs : List α} {v : V} {I : Hp} (h : (sSeq K ((xs.map g).map f)).p v I) : (sSeq K (xs.map fun a => f (g a))).p v I := by
  rw [List.map_map] at h
  exact h
section
variable {T : Tb} {X : Cx} {Γ : Ct} {M : Mt} {e e1 body : Expr} {S1 S : SV} {pos p lpos : Pos} {k : Nat} {x : Str}
/-- first_wrong(e1, lambda a0: body): nothing is wrong -/
theorem de_fw {α : Type} {as : List α} {Si : α → SV} {c P : Addr} {N fr : List Str} (js : List Nat) {cs : Ct} {params : Arguments} {scope : Scope} {a0 : Str} (d : Df X.K X.mg "first_wrong" s_first_wrong) (bf : Bf X.mg)
    (TB : LamX.TabB X.base X.mg c P) (hcode : X.env.code = .ref c) (hmT : (P, X.env.qual ++ "<lambda>") ∈ T) (hu : ∀ p ∈ T, p.1 = P → p.2 = X.env.qual ++ "<lambda>")
    (hr : Room (k + 2) X.A) (SL : NScope N [a0] fr scope) (hN1 : 1 + fr.length ≤ N.length) (hnd : ndefB X.env.scope scope fr = true) (hjs : js.map (fun j => X.N[j]?) = fr.map some) (hcs : js.map (fun j => Γ[j]?) = cs.map some)
    (he : DE T X Γ M e1 (sSeq X.K (as.map Si)))
    (hbody : ∀ a ∈ as, ∀ (f c' : Addr) (A : Around) (outer : List Env) (s : Shared) (H : Hp), Room k (A.deeper (envF (nfL X scope c') f s.heap.objs.size)) →
      DE T (ncx CX0 X.prog X.w X.K X.mg X.base N (nfL X scope c') f A outer s H E0) (stL N (Si a) cs) [] body (sD X.K (.bool true)))
    (hg : Gl X "first_wrong" := by rfl) (hdef : defaultsOf params X.env = ([], []) := by rfl)
    (hbind : ∀ (q : Str) (cl : List (Str × Addr)) (pm cv ctv u : Value), bindArgs (PySem.W.kla_fn "<lambda>" q params body scope cl pm cv ctv) ⟨[u], []⟩ = pure [(a0, u)] := by intros; rfl)
    (hst : starEach [e1, .Lambda params body scope lpos] X.env = (false, eval e1 X.env) :: starEach [.Lambda params body scope lpos] X.env := by rfl) : DE T X Γ M (.Call (.Name "first_wrong" p) [e1, .Lambda params body scope lpos] [] pos) (sD X.K .none) := by
  obtain ⟨g, fdg, hm, F⟩ := d.ex
  exact de_callLam (ι := α) (pre := fun a => a ∈ as) (Sa := Si) (R := fun _ => sD X.K (.bool true)) F hm sc_first_wrong rfl (F.binds fun _ _ _ _ _ _ us hl => match us, hl with | [_, _], _ => rfl) TB hcode hmT hu hr SL hN1 hnd hjs hcs he hbody
    (fun f c' ws s I H D hr' lc h1 h2 => fw_body bf (fun a ha Γ M arg p1 p2 hΓ harg hse => lc a "fits" 1 Γ M arg p1 p2 ha rfl (.inl rfl) hΓ harg (by decide) (by decide) hse) h1) hg (by decide) hdef hbind hst
end
section
variable {P : Program} {w : World} {K : PySem.W.Frag} {mg : Str → Option Value} {base : Heap} {T : Tb}
abbrev spIsRow (T : Tb) (K : PySem.W.Frag) : Sp := spD T (fun d : Nat × List Nat => [sD K (eN d.1), sSD K (d.2.map eN)]) (fun d => d.2.length ≤ 300 ∧ ∀ a ∈ d.2, a < d.1) (fun _ => sD K (.bool true))
theorem fd_is_row (d : Dfl T K mg base "is_row" s_is_row "is_row.<locals>.<lambda>") (bf : Bf mg) (d0 : Df K mg "first_wrong" s_first_wrong) (d1 : Df K mg "is_list" s_is_list) (d2 : Df K mg "is_short_list" s_is_short_list) (d3 : Df K mg "is_number" s_is_number) (d4 : Df K mg "is_between" s_is_between) (c1 : ∃ t, mg "MOST_EVENTS" = some (.int 300 t)) : FD P w K mg base 5 "is_row" ["kinds", "thing"] (spIsRow T K) := by
  obtain ⟨f, fd, c, Pt, hm, F, hc, TB, h1, h2⟩ := d.ex
  refine FD.of F hm (F.binds fun _ _ _ _ _ _ us hl => match us, hl with | [_, _], _ => rfl) ?_
  refine fn_bodyC F sc_is_row (fun _ => rfl) fun ⟨kinds, row⟩ ⟨hl, hk⟩ A outer s I H E D hr hret hend => ?_
  refine tr_ret (de_and (c := true) (c' := true) ((de_call (fd_is_short_list d2 bf d1 c1) hr (by decide) (row.map fun a => sD K (eN a)) trivial (da_one ((dv 1).imp fun _ _ => sSD_seqf))).is ?_) fun _ => de_one (de_isN (d := .none) (de_fw (as := row) (Si := fun a => sD K (eN a)) (a0 := "item") (N := ["item", "kinds"]) (fr := ["kinds"]) [0] (cs := [some (sD K (eN kinds))]) (k := 2) d0 bf TB hc h1 h2 hr (nscope_by (by decide +kernel)) (by decide) (by show ndefB (defScope s_is_row) _ _ = true; decide +kernel) rfl rfl ((dv 1).imp fun _ _ => sSD_seqf) ?_) de_non)) hret
  · rw [List.length_map, decide_eq_true hl]
  · intro a ha f' c' A' outer' s' H' hr'
    refine (de_call (fd_is_between d4 bf d3) hr' (Nat.le_refl _) ((a : Int), (0 : Int), (kinds : Int) - 1) trivial (da_cons (dv 0) (da_cons de_int (da_one (de_sub (dv 1) de_int))))).is ?_
    have := hk a ha
    show PyData.bool (decide ((0 : Int) ≤ (a : Int)) && decide ((a : Int) ≤ (kinds : Int) - 1)) = .bool true
    rw [decide_eq_true (by omega), decide_eq_true (by omega)]
    rfl
end
end Rm
set_option Elab.async false
set_option linter.all false
set_option maxRecDepth 100000
set_option maxHeartbeats 4000000
namespace Rm
open PySem PySem.Spec PyProof.Rows L2 LamX NdefX
/-- a watch's numbers -/
structure Wt where
  moves : List (List Nat)
  words : List Nat
def Wt.kinds (w : Wt) : Nat := (w.moves.headD []).length
structure Wt.Ok (w : Wt) : Prop where
  p1 : 1 ≤ w.moves.length
  p2 : w.moves.length ≤ 6
  k1 : 1 ≤ w.kinds
  k2 : w.kinds ≤ 4
  len : ∀ l ∈ w.moves, l.length = w.kinds
  line : ∀ l ∈ w.moves, ∀ g ∈ l, g < w.moves.length
  wl : w.words.length = w.moves.length
  wd : ∀ v ∈ w.words, v ≤ 3
abbrev fsW (K : PySem.W.Frag) (w : Wt) : List (Str × SV) := [("own_moves", sD K (eT (eT eN) w.moves)), ("own_words", sD K (eT eN w.words))]
abbrev sW (K : PySem.W.Frag) (C : Addr) (w : Wt) : SV := sIns C (fsW K w)
/-- module facts: the defs that the package's text asks for -/
structure Pf (T : Tb) (K : PySem.W.Frag) (mg : Str → Option Value) (base : Heap) : Prop where
  bf : Bf mg
  number : Df K mg "is_number" s_is_number
  between : Df K mg "is_between" s_is_between
  lst : Df K mg "is_list" s_is_list
  first : Df K mg "first_wrong" s_first_wrong
  short : Df K mg "is_short_list" s_is_short_list
  row : Dfl T K mg base "is_row" s_is_row "is_row.<locals>.<lambda>"
  needRow : Df K mg "need_row" s_need_row
  needRowOf : Dfl T K mg base "need_row_of" s_need_row_of "need_row_of.<locals>.<lambda>"
  word : Df K mg "is_word" s_is_word
  line : Df K mg "is_line" s_is_line
  needMoves : Dfl T K mg base "need_moves" s_need_moves "need_moves.<locals>.<lambda>"
  needWords : Df K mg "need_words" s_need_words
  cE : ∃ t, mg "MOST_EVENTS" = some (.int 300 t)
  cK : ∃ t, mg "MOST_KINDS" = some (.int 4 t)
  cW : ∃ t, mg "MOST_WORD" = some (.int 3 t)
  cP : ∃ t, mg "MOST_PLACES" = some (.int 6 t)
section
variable {P : Program} {w : World} {K : PySem.W.Frag} {mg : Str → Option Value} {base : Heap} {T : Tb}
abbrev spNeedRowOf (T : Tb) (K : PySem.W.Frag) : Sp := spD T (fun d : Nat × List Nat => [sD K (eN d.1), sSD K (d.2.map eN)]) (fun d => d.2.length ≤ 300 ∧ ∀ a ∈ d.2, a < d.1) (fun _ => sD K .none)
theorem fd_need_row_of (m : Pf T K mg base) : FD P w K mg base 5 "need_row_of" ["kinds", "row"] (spNeedRowOf T K) := by
  obtain ⟨f, fd, c, Pt, hm, F, hc, TB, h1, h2⟩ := m.needRowOf.ex
  refine FD.of F hm (F.binds fun _ _ _ _ _ _ us hl => match us, hl with | [_, _], _ => rfl) ?_
  refine fn_bodyC F sc_need_row_of (fun _ => rfl) fun ⟨kinds, row⟩ ⟨hl, hk⟩ A outer s I H E D hr hret hend => ?_
  refine tr_skip (DT.is (dt_not (dt_val (de_call (fd_is_short_list m.short m.bf m.lst m.cE) hr (by decide) (row.map fun a => sD K (eN a)) trivial (da_one ((dv 1).imp fun _ _ => sSD_seqf))))) ?_) ?_
  · rw [List.length_map, decide_eq_true hl]; rfl
  refine tr_asg (i := 2) (S := sD K .none) sc_need_row_of.nd rfl (de_fw (as := row) (Si := fun a => sD K (eN a)) (a0 := "item") (N := ["item", "kinds"]) (fr := ["kinds"]) [0] (cs := [some (sD K (eN kinds))]) (k := 2) m.first m.bf TB hc h1 h2 hr (nscope_by (by decide +kernel)) (by decide) (by show ndefB (defScope s_need_row_of) _ _ = true; decide +kernel) rfl rfl ((dv 1).imp fun _ _ => sSD_seqf) ?_) ?_
  · intro a ha f' c' A' outer' s' H' hr'
    refine (de_call (fd_is_between m.between m.bf m.number) hr' (Nat.le_refl _) ((a : Int), (0 : Int), (kinds : Int) - 1) trivial (da_cons (dv 0) (da_cons de_int (da_one (de_sub (dv 1) de_int))))).is ?_
    have := hk a ha
    show PyData.bool (decide ((0 : Int) ≤ (a : Int)) && decide ((a : Int) ≤ (kinds : Int) - 1)) = .bool true
    rw [decide_eq_true (by omega), decide_eq_true (by omega)]
    rfl
  · refine tr_skip ((dt_notN (d := .none) (dv 2) de_non).is rfl) ?_
    exact tr_nil fun σ I' H' s' => hend σ I' H' s'.gr .non
abbrev spIsWord (T : Tb) (K : PySem.W.Frag) : Sp := spD T (fun d : Nat => [sD K (eN d)]) (fun d => d ≤ 3) (fun _ => sD K (.bool true))
theorem ok_is_word (m : Pf T K mg base) {f : Addr} {fd : FuncData} (F : Fun K "is_word" "is_word" s_is_word f fd) : FnOk P w K mg base CX0 3 f fd ["thing"] (spIsWord T K) := by
  refine fn_body F sc_is_word (fun _ => rfl) fun a ha cdv A outer s I H E D hr hret hend => ?_
  refine tr_ret ((de_call (fd_is_between m.between m.bf m.number) hr (Nat.le_refl _) ((a : Int), (0 : Int), (3 : Int)) trivial (da_cons (dv 0) (da_cons de_int (da_one (de_globI m.cW (by rfl)))))).is ?_) hret
  show PyData.bool (decide ((0 : Int) ≤ (a : Int)) && decide ((a : Int) ≤ 3)) = .bool true
  rw [decide_eq_true (by omega), decide_eq_true (by omega)]
  rfl
abbrev spIsLine (T : Tb) (K : PySem.W.Frag) : Sp := spD T (fun d : List Nat × Nat × Nat => [sSD K (d.1.map eN), sD K (eN d.2.1), sD K (eN d.2.2)]) (fun d => d.1.length = d.2.1 ∧ d.2.1 ≤ 1000 ∧ ∀ a ∈ d.1, a < d.2.2) (fun _ => sD K (.bool true))
theorem fd_is_line (m : Pf T K mg base) : FD P w K mg base 3 "is_line" ["thing", "kinds", "places"] (spIsLine T K) :=
  m.line.fd (fun _ _ _ _ _ _ us hl => match us, hl with | [_, _, _], _ => rfl) fun f fd F hm => by
    refine fn_body F sc_is_line (fun _ => rfl) fun ⟨l, kinds, places⟩ ⟨hl, hk, ha⟩ cdv A outer s I H E D hr hret hend => ?_
    have hu := hr.units
    have hl : l.length = kinds := hl
    have hk : kinds ≤ 1000 := hk
    have ha : ∀ a ∈ l, a < places := ha
    refine tr_skip ((DW.dt (dw_or (c := false) ((dt_not (dt_val (de_call (fd_is_list m.lst m.bf) hr (by decide) (l.map fun a => sD K (eN a)) trivial (da_one ((dv 0).imp fun _ _ => sSD_seqf)))))) fun _ => dw_or1 (dt_neE encN (by decide) hu (de_lenSD m.bf.len (dv 0)) (dv 1)))).is ?_) ?_
    · rw [List.length_map, decide_eq_true hl]; rfl
    · refine tr_ret ((de_all rfl m.bf.all (bs := l.map fun _ => true) (DE.imp (de_lc0 (as := l) (j := 3) (Si := fun a => sD K (eN a)) (F := fun _ => sD K (.bool true)) rfl sc_is_line.nd (di_SDf (f := eN) (xs := l) (dv 0)) (by omega) (blkOk_by (N := n_is_line) (sc := defScope s_is_line) (by decide +kernel)) (fun _ _ _ _ _ => pg_name sc_is_line.nd rfl (.inl rfl)) ?_) fun _ _ z => by rw [List.map_map]; exact z)).is ?_) hret
      · intro a hal s0 H0 C cl fp
        refine (de_call (fd_is_between m.between m.bf m.number) hr (by decide) ((a : Int), (0 : Int), (places : Int) - 1) trivial (da_cons (dv 3) (da_cons de_int (da_one (de_sub (dv 2) de_int))))).is ?_
        have := ha a hal
        show PyData.bool (decide ((0 : Int) ≤ (a : Int)) && decide ((a : Int) ≤ (places : Int) - 1)) = .bool true
        rw [decide_eq_true (by omega), decide_eq_true (by omega)]
        rfl
      · congr 1
        rw [List.all_map]
        exact List.all_eq_true.mpr fun _ _ => rfl
end
theorem ix_or {X : Cx} {r r' : R2} (h : IxR X r) (h' : IxR X r') : IxR X (fun x y H Q => r x y H Q ∨ r' x y H Q) := fun value slice pins s σ H x y u v Q I r1 r2 z hs => by
  rcases z with z | z
  · exact h value slice pins s σ H x y u v Q I r1 r2 z hs
  · exact h' value slice pins s σ H x y u v Q I r1 r2 z hs
theorem de_ixS {T : Tb} {X : Cx} {Γ : Ct} {M : Mt} {a b : Expr} {Ss : List SV} {S : SV} {k : Nat} {pos : Pos} (ha : DE T X Γ M a (sSeq X.K Ss)) (hb : DE T X Γ M b (sD X.K (eN k))) (h : Ss[k]? = some S) (hs : PlainIx b := by exact fun _ _ => rfl) : DE T X Γ M (.Subscript a b pos) S :=
  de_ix (ix_or ix_list ix_tup) (fun x y I H Q w hx hy q => by
    obtain ⟨p, vs, e1, h1, h2⟩ := hx
    rcases h1 with h1 | h1
    · exact .inl (rd_ixL h x y I H Q w ⟨p, vs, e1, h1, h2⟩ hy q)
    · exact .inr (rd_ixT h x y I H Q w ⟨p, vs, e1, h1, h2⟩ hy q)) ha hb hs
section
variable {P : Program} {w : World} {K : PySem.W.Frag} {mg : Str → Option Value} {base : Heap} {T : Tb}
abbrev sMv (K : PySem.W.Frag) (ls : List (List Nat)) : SV := sSeq K (ls.map fun l => sSD K (l.map eN))
abbrev spNeedMoves (T : Tb) (K : PySem.W.Frag) : Sp := spD T (fun d : Wt => [sMv K d.moves]) (fun d => d.Ok) (fun _ => sD K .none)
theorem fd_need_moves (m : Pf T K mg base) : FD P w K mg base 6 "need_moves" ["moves"] (spNeedMoves T K) := by
  obtain ⟨f, fd, c, Pt, hm, F, hc, TB, h1, h2⟩ := m.needMoves.ex
  refine FD.of F hm (F.binds fun _ _ _ _ _ _ us hl => match us, hl with | [_], _ => rfl) ?_
  refine fn_bodyC F sc_need_moves (fun _ => rfl) fun wt ok A outer s I H E D hr hret hend => ?_
  have p1 := ok.p1
  have p2 := ok.p2
  have k1 := ok.k1
  have k2 := ok.k2
  obtain ⟨l0, ls, hmv⟩ : ∃ l0 ls, wt.moves = l0 :: ls := by
    cases e : wt.moves with
    | nil => rw [e] at p1; cases p1
    | cons a b => exact ⟨a, b, rfl⟩
  have hk0 : l0.length = wt.kinds := by unfold Wt.kinds; rw [hmv]; rfl
  refine tr_skip ((DW.dt (dw_or (c := false) (dt_not (dt_val (de_call (fd_is_list m.lst m.bf) hr (by decide) _ trivial (da_one (dv 0))))) fun _ => dw_or1 (dt_not (dt_lele de_int (de_lenS m.bf.len (dv 0)) (de_globI m.cP (by rfl)))))).is ?_) ?_
  · rw [List.length_map]
    show (false || !(decide ((1 : Int) ≤ (wt.moves.length : Int)) && decide ((wt.moves.length : Int) ≤ 6))) = false
    rw [decide_eq_true (by omega), decide_eq_true (by omega)]
    rfl
  refine tr_asg (i := 1) (S := sSD K (l0.map eN)) sc_need_moves.nd rfl (de_ixS (k := 0) (dv 0) de_int (by rw [hmv]; rfl)) ?_
  refine tr_skip ((DW.dt (dw_or (c := false) (dt_not (dt_val (de_call (fd_is_list m.lst m.bf) hr (by decide) (l0.map fun a => sD K (eN a)) trivial (da_one ((dv 1).imp fun _ _ => sSD_seqf))))) fun _ => dw_or1 (dt_not (dt_lele de_int (de_lenSD m.bf.len (dv 1)) (de_globI m.cK (by rfl)))))).is ?_) ?_
  · rw [List.length_map, hk0]
    show (false || !(decide ((1 : Int) ≤ (wt.kinds : Int)) && decide ((wt.kinds : Int) ≤ 4))) = false
    rw [decide_eq_true (by omega), decide_eq_true (by omega)]
    rfl
  refine tr_asg (i := 2) (S := sD K .none) sc_need_moves.nd rfl (de_fw (as := wt.moves) (Si := fun l => sSD K (l.map eN)) (a0 := "line") (N := ["line", "first", "moves"]) (fr := ["first", "moves"]) [1, 0] (cs := [some (sSD K (l0.map eN)), some (sMv K wt.moves)]) (k := 3) m.first m.bf TB hc h1 h2 hr (nscope_by (by decide +kernel)) (by decide) (by show ndefB (defScope s_need_moves) _ _ = true; decide +kernel) rfl rfl (dv 0) ?_) ?_
  · intro l hl f' c' A' outer' s' H' hr'
    refine de_call (fd_is_line m) hr' (Nat.le_refl _) (l, wt.kinds, wt.moves.length) ⟨ok.len l hl, by show wt.kinds ≤ 1000; omega, ok.line l hl⟩ (da_cons (dv 0) (da_cons ((de_lenSD m.bf.len (dv 1)).is ?_) (da_one ((de_lenS m.bf.len (dv 2)).is ?_))))
    · rw [List.length_map, hk0]
    · rw [List.length_map]
  · refine tr_skip ((dt_notN (d := .none) (dv 2) de_non).is rfl) ?_
    exact tr_nil fun σ I' H' s' => hend σ I' H' s'.gr .non
abbrev spNeedWords (T : Tb) (K : PySem.W.Frag) : Sp := spD T (fun d : List Nat × Nat => [sSD K (d.1.map eN), sD K (eN d.2)]) (fun d => d.1.length = d.2 ∧ ∀ a ∈ d.1, a ≤ 3) (fun _ => sD K .none)
theorem fd_need_words (m : Pf T K mg base) : FD P w K mg base 5 "need_words" ["words", "many"] (spNeedWords T K) :=
  m.needWords.fd (fun _ _ _ _ _ _ us hl => match us, hl with | [_, _], _ => rfl) fun f fd F hm => by
    refine fn_body F sc_need_words (fun _ => rfl) fun ⟨ws, many⟩ ⟨hl, hk⟩ cdv A outer s I H E D hr hret hend => ?_
    have hl : ws.length = many := hl
    have hk : ∀ a ∈ ws, a ≤ 3 := hk
    obtain ⟨fw, fdw, hmw, Fw⟩ := m.word.ex
    refine tr_skip ((DW.dt (dw_or (c := false) (dt_not (dt_val (de_call (fd_is_list m.lst m.bf) hr (by decide) (ws.map fun a => sD K (eN a)) trivial (da_one ((dv 0).imp fun _ _ => sSD_seqf))))) fun _ => dw_or1 (dt_neE encN (by decide) hr.units (de_lenSD m.bf.len (dv 0)) (dv 1)))).is ?_) ?_
    · rw [List.length_map, decide_eq_true hl]; rfl
    refine tr_asg (i := 2) (S := sD K .none) sc_need_words.nd rfl (de_call (k := 4) (ps := ["several", "fits"]) (args := fun d : List Nat => [sSeq K (d.map fun a => sD K (eN a)), sV (.ref fw)]) (pre := fun d => ∀ a ∈ d, a ≤ 3) (res := fun _ => sD K .none) ?_ hr (Nat.le_refl _) ws hk (da_cons ((dv 0).imp fun _ _ => sSD_seqf) (da_one (de_globA hmw (by rfl))))) ?_
    · refine m.first.fd (fun _ _ _ _ _ _ us hl => match us, hl with | [_, _], _ => rfl) fun f' fd' F' hm' => ?_
      refine fn_body F' sc_first_wrong (fun _ => rfl) fun d hd cdv' A' outer' s' I' H' E' D' hr' hret' hend' => ?_
      refine fw_body (Si := fun a => sD K (eN a)) m.bf (fun a ha Γ M arg p1 p2 hΓ harg hse => ?_) hret'
      exact de_callL (ok_is_word m Fw) hr' (Nat.le_refl _) 1 Fw.kp (Fw.binds fun _ _ _ _ _ _ us hl => match us, hl with | [_], _ => rfl) hΓ a (hd a ha) (da_cons harg da_nil hse) rfl (.inl rfl) (by decide) (by decide) hse
    · refine tr_skip ((dt_notN (d := .none) (dv 2) de_non).is rfl) ?_
      exact tr_nil fun σ I' H' s' => hend σ I' H' s'.gr .non
end
end Rm
set_option Elab.async false
set_option linter.all false
set_option maxRecDepth 100000
set_option maxHeartbeats 4000000
namespace Rm
open PySem PySem.Spec PyProof.Rows L2 LamX NdefX
/-- the class Watch at C -/
structure Wf (K : PySem.W.Frag) (mg : Str → Option Value) (C : Addr) : Prop where
  at_ : mg "Watch" = some (.ref C)
  cls : Cls K C
  na1 : NoAttr K C "own_moves"
  na2 : NoAttr K C "own_words"
  dcl : PySem.W.findIn K (.ref C) "__class__" = some (some (.builtin "object.__class__"))
  gcl : PySem.W.specialIn K (.builtin "object.__class__") "__get__" = some (some (.builtin "getset_descriptor.__get__"))
  tcl : PySem.W.takesIn K (.builtin "object.__class__") = some true
  mro : PySem.W.mroIn K C (.type "object") = some true
  init : ∃ f fd, Mk K C f ∧ Fun K "__init__" "Watch.__init__" s_Watch_init f fd
  moves : ∃ pr g fd, PropOf K C "moves" pr g ∧ Fun K "moves" "Watch.moves" s_Watch_moves g fd
  words : ∃ pr g fd, PropOf K C "words" pr g ∧ Fun K "words" "Watch.words" s_Watch_words g fd
  kinds : ∃ pr g fd, PropOf K C "kinds" pr g ∧ Fun K "kinds" "Watch.kinds" s_Watch_kinds g fd
  need : ∃ f fd, mg "need_watch" = some (.ref f) ∧ FunD K "need_watch" "need_watch" (defArgs s_need_watch) (defBody s_need_watch) (defScope s_need_watch) [.non] [] f fd
section
variable {P : Program} {w : World} {K : PySem.W.Frag} {mg : Str → Option Value} {base : Heap} {T : Tb} {C : Addr}
abbrev spWInit (T : Tb) (K : PySem.W.Frag) (C : Addr) : Sp := spInit T C (fun d : Wt => [sMv K d.moves, sSD K (d.words.map eN)]) (fun d => d.Ok) (fsW K)
theorem md_watch (m : Pf T K mg base) (W : Wf K mg C) : MD P w K mg base 7 "Watch" C ["self", "moves", "words"] (spWInit T K C) := by
  obtain ⟨f, fd, mk, F⟩ := W.init
  refine ⟨f, fd, W.at_, mk, F.binds fun _ _ _ _ _ _ us hl => match us, hl with | [_, _, _], _ => rfl, ?_⟩
  refine fn_bodyM F sc_Watch_init (fun _ => rfl) fun ⟨wt, y⟩ ok cdv A outer s I H E D hr hret hend => ?_
  have ok : wt.Ok := ok
  have p2 := ok.p2
  refine tr_expr (de_call (fd_need_moves m) hr (Nat.le_refl _) wt ok (da_one (dv 1))) ?_
  refine tr_expr (de_call (fd_need_words m) hr (by decide) (wt.words, wt.moves.length) ⟨ok.wl, ok.wd⟩ (da_cons (dv 2) (da_one ((de_lenS m.bf.len (dv 1)).is (by rw [List.length_map]))))) ?_
  refine tr_setF (q := y) 0 rfl W.cls W.na1 rfl (by decide) (DE.imp (S := sD K (eT (eT eN) wt.moves)) (de_tupleS m.bf.tuple (DE.imp (de_lc0 (as := wt.moves) (j := 3) (Si := fun l => sSD K (l.map eN)) (F := fun l => sD K (eT eN l)) rfl sc_Watch_init.nd (di_seq (dv 1)) (by omega) (blkOk_by (N := n_Watch_init) (sc := defScope s_Watch_init) (by decide +kernel)) (fun _ _ _ _ _ => pg_name sc_Watch_init.nd rfl (.inl rfl)) fun l hl s0 H0 C0 cl fp => de_tupleD m.bf.tuple (dv 3)) fun _ _ => sLst_seq)) fun v I z => ?_) (dv 0) ?_
  · refine sD_tup.mpr ?_
    rw [List.map_map]
    exact z
  refine tr_setF (q := y) 0 rfl W.cls W.na2 rfl (by show (1 : Nat) < 900; decide) (de_tupleD m.bf.tuple (dv 2)) (dv 0) ?_
  exact tr_nil fun σ I' H' s' => hend () σ I' H' trivial s'.gr .non s'.sl.mu
theorem de_W {X : Cx} {Γ : Ct} {M : Mt} {e1 e2 : Expr} {k : Nat} {p pos : Pos} (m : Pf T X.K X.mg X.base) (W : Wf X.K X.mg C) (hr : Room k X.A) (hk : 8 ≤ k) (wt : Wt) (ok : wt.Ok) (h1 : DE T X Γ M e1 (sMv X.K wt.moves)) (h2 : DE T X Γ M e2 (sSD X.K (wt.words.map eN))) (hg : Gl X "Watch" := by rfl)
    (he : starEach [e1, e2] X.env = (false, eval e1 X.env) :: starEach [e2] X.env := by rfl) (he2 : starEach [e2] X.env = (false, eval e2 X.env) :: starEach [] X.env := by rfl) (hpl : (backTo pos (starEach [e2] X.env)).any (·.1) = false := by rfl) : DE T X Γ M (.Call (.Name "Watch" p) [e1, e2] [] pos) (sW X.K C wt) :=
  de_make (md_watch m W) hr hk wt ok (da_cons h1 (da_one h2 he2) he) hg (by decide) he hpl
/-! ### its properties -/
theorem de_moves {X : Cx} {Γ : Ct} {M : Mt} {e : Expr} {k : Nat} {pos : Pos} (W : Wf X.K X.mg C) (hr : Room k X.A) (hk : 2 ≤ k) (wt : Wt) (h : DE T X Γ M e (sW X.K C wt)) (hab : attributeBase e "moves" X.env (eval e X.env) = eval e X.env := by rfl) : DE T X Γ M (.Attribute e "moves" pos) (sD X.K (eT (eT eN) wt.moves)) := by
  obtain ⟨pr, g, fd, hp, F⟩ := W.moves
  refine de_prop (k := 1) (ps := ["self"]) (T := T) (args := fun d : Wt => [sW X.K C d]) (pre := fun _ => True) (res := fun d => sD X.K (eT (eT eN) d.moves)) W.cls hp ?_ hr hk (F.binds fun _ _ _ _ _ _ us hl => match us, hl with | [_], _ => rfl) wt trivial rfl h hab
  refine fn_body F sc_Watch_moves (fun _ => rfl) fun d _ cdv A outer s I H E D hr hret hend => ?_
  exact tr_ret (de_fld W.cls W.na1 rfl (dv 0)) hret
theorem de_words {X : Cx} {Γ : Ct} {M : Mt} {e : Expr} {k : Nat} {pos : Pos} (W : Wf X.K X.mg C) (hr : Room k X.A) (hk : 2 ≤ k) (wt : Wt) (h : DE T X Γ M e (sW X.K C wt)) (hab : attributeBase e "words" X.env (eval e X.env) = eval e X.env := by rfl) : DE T X Γ M (.Attribute e "words" pos) (sD X.K (eT eN wt.words)) := by
  obtain ⟨pr, g, fd, hp, F⟩ := W.words
  refine de_prop (k := 1) (ps := ["self"]) (T := T) (args := fun d : Wt => [sW X.K C d]) (pre := fun _ => True) (res := fun d => sD X.K (eT eN d.words)) W.cls hp ?_ hr hk (F.binds fun _ _ _ _ _ _ us hl => match us, hl with | [_], _ => rfl) wt trivial rfl h hab
  refine fn_body F sc_Watch_words (fun _ => rfl) fun d _ cdv A outer s I H E D hr hret hend => ?_
  exact tr_ret (de_fld W.cls W.na2 rfl (dv 0)) hret
theorem Wt.Ok.cons {wt : Wt} (ok : wt.Ok) : ∃ l ls, wt.moves = l :: ls ∧ l.length = wt.kinds := by
  have p1 := ok.p1
  cases e : wt.moves with
  | nil => rw [e] at p1; cases p1
  | cons a b => exact ⟨a, b, rfl, by unfold Wt.kinds; rw [e]; rfl⟩
theorem ok_kinds {g : Addr} {fd : FuncData} (bf : Bf mg) (W : Wf K mg C) (F : Fun K "kinds" "Watch.kinds" s_Watch_kinds g fd) : FnOk P w K mg base CX0 1 g fd ["self"] (spD T (fun d : Wt => [sW K C d]) (fun d => d.Ok) (fun d => sD K (eN d.kinds))) := by
  refine fn_body F sc_Watch_kinds (fun _ => rfl) fun d hd cdv A outer s I H E D hr hret hend => ?_
  obtain ⟨l, ls, e1, e2⟩ := hd.cons
  refine tr_ret ((de_lenT bf.len (ds := l.map eN) (de_ixT (k := 0) (ds := d.moves.map (eT eN)) (de_fld W.cls W.na1 rfl (dv 0)) de_int (by rw [e1]; rfl))).is ?_) hret
  rw [List.length_map, e2]
theorem de_kinds {X : Cx} {Γ : Ct} {M : Mt} {e : Expr} {k : Nat} {pos : Pos} (bf : Bf X.mg) (W : Wf X.K X.mg C) (hr : Room k X.A) (hk : 2 ≤ k) (wt : Wt) (ok : wt.Ok) (h : DE T X Γ M e (sW X.K C wt)) (hab : attributeBase e "kinds" X.env (eval e X.env) = eval e X.env := by rfl) : DE T X Γ M (.Attribute e "kinds" pos) (sD X.K (eN wt.kinds)) := by
  obtain ⟨pr, g, fd, hp, F⟩ := W.kinds
  exact de_prop (k := 1) (ps := ["self"]) (T := T) (args := fun d : Wt => [sW X.K C d]) (pre := fun d => d.Ok) (res := fun d => sD X.K (eN d.kinds)) W.cls hp (ok_kinds bf W F) hr hk (F.binds fun _ _ _ _ _ _ us hl => match us, hl with | [_], _ => rfl) wt ok rfl h hab
/-! ### need_watch -/
theorem ty_W (W : Wf K mg C) {wt : Wt} : ∀ v I H, Wd T I H → (sW K C wt).p v I → TyX K H v (.ref C) := fun v I H w ⟨a, dx, gs, e, h, _⟩ => by
  rw [e]
  exact .base (.ins (w.sub _ _ h) W.cls W.dcl W.gcl W.tcl W.mro)
abbrev spNeedWatch (T : Tb) (K : PySem.W.Frag) (C : Addr) : Sp := spD T (fun d : Wt => [sW K C d, sV .non]) (fun _ => True) (fun _ => sD K .none)
theorem fd_need_watch (m : Pf T K mg base) (W : Wf K mg C) : FDd P w K mg base 1 "need_watch" ["watch", "part"] [.non] (spNeedWatch T K C) := by
  obtain ⟨f, fd, hm, F⟩ := W.need
  obtain ⟨ds, h2, h1⟩ := F.binds1 (ps := ["watch", "part"]) 1 0 (by decide) rfl fun T kV doc pm an cdv ct us its h1 h2 => match us, its, h1, h2 with | [_], [_], _, _ => ⟨_, rfl, rfl⟩
  · refine ⟨f, fd, ds, hm, F.kp, h1, h2, ?_⟩
    refine fn_bodyD F sc_need_watch (fun _ => rfl) fun wt _ cdv A outer s I H E D hr hret hend => ?_
    refine tr_skip (DT.is (dt_not (dt_val (de_isi (r := true) (c := .ref C) m.bf.isinstance (dv 0) (de_globA W.at_ (by rfl)) (.own C) (ty_W W) (by unfold PySem.W.kitOne; rw [if_pos (by simp)])))) rfl) ?_
    exact tr_nil fun σ I' H' s' => hend σ I' H' s'.gr .non
end
end Rm
set_option linter.all false
/-! Maps of places as lists: plain. -/
namespace Rm
/-- one, then other -/
def thenN (one other : List Nat) : List Nat := one.map fun p => other.getD p 0
def stepN (moves : List (List Nat)) (p k : Nat) : Nat := (moves.getD p []).getD k 0
def ledN (moves : List (List Nat)) (p : Nat) (row : List Nat) : Nat := row.foldl (fun p k => stepN moves p k) p
def mapN (moves : List (List Nat)) (row : List Nat) : List Nat := (List.range moves.length).map fun p => ledN moves p row
/-- a map of its own places -/
def Self (one : List Nat) : Prop := ∀ g ∈ one, g < one.length
def powN (one : List Nat) : Nat → List Nat
  | 0 => List.range one.length
  | n + 1 => thenN (powN one n) one
/-- the place p led n times -/
def goN (one : List Nat) : Nat → Nat → Nat
  | 0, p => p
  | n + 1, p => one.getD (goN one n p) 0
theorem getD_of {α : Type} {xs : List α} {k : Nat} {d x : α} (h : xs[k]? = some x) : xs.getD k d = x := by
  rw [List.getD_eq_getElem?_getD, h]; rfl
theorem Self.get {one : List Nat} (h : Self one) {p : Nat} (hp : p < one.length) : one.getD p 0 < one.length := by
  rw [List.getD_eq_getElem?_getD, List.getElem?_eq_getElem hp]
  exact h _ (List.getElem_mem hp)
theorem goN_lt {one : List Nat} (h : Self one) : ∀ (n : Nat) {p : Nat}, p < one.length → goN one n p < one.length
  | 0, _, hp => hp
  | n + 1, _, hp => h.get (goN_lt h n hp)
theorem powN_eq (one : List Nat) : ∀ n, powN one n = (List.range one.length).map (goN one n)
  | 0 => by
    show List.range one.length = _
    rw [show goN one 0 = id from rfl, List.map_id]
  | n + 1 => by
    show thenN (powN one n) one = _
    rw [powN_eq one n]
    unfold thenN
    rw [List.map_map]
    rfl
theorem powN_len (one : List Nat) (n : Nat) : (powN one n).length = one.length := by rw [powN_eq, List.length_map, List.length_range]
theorem powN_get {one : List Nat} {n p : Nat} (hp : p < one.length) : (powN one n).getD p 0 = goN one n p := by
  rw [powN_eq]
  exact getD_of (by rw [List.getElem?_map, List.getElem?_range hp]; rfl)
theorem powN_self {one : List Nat} (h : Self one) (n : Nat) : Self (powN one n) := fun g hg => by
  rw [powN_len]
  rw [powN_eq] at hg
  obtain ⟨p, hp, e⟩ := List.mem_map.mp hg
  rw [← e]
  exact goN_lt h n (List.mem_range.mp hp)
theorem goN_add (one : List Nat) (a : Nat) : ∀ (b p : Nat), goN one (a + b) p = goN one b (goN one a p)
  | 0, _ => rfl
  | b + 1, p => by
    show one.getD (goN one (a + b) p) 0 = one.getD (goN one b (goN one a p)) 0
    rw [goN_add one a b p]
theorem thenN_pow {one : List Nat} (h : Self one) (a b : Nat) : thenN (powN one a) (powN one b) = powN one (a + b) := by
  rw [powN_eq one a, powN_eq one (a + b)]
  unfold thenN
  rw [List.map_map]
  refine List.map_congr_left fun p hp => ?_
  show (powN one b).getD (goN one a p) 0 = goN one (a + b) p
  rw [powN_get (goN_lt h a (List.mem_range.mp hp)), goN_add]
theorem powN_one {one : List Nat} (h : Self one) : powN one 1 = one := by
  rw [powN_eq]
  refine List.ext_getElem? fun k => ?_
  by_cases hk : k < one.length
  · rw [List.getElem?_map, List.getElem?_range hk, List.getElem?_eq_getElem hk]
    show some (one.getD k 0) = _
    rw [List.getD_eq_getElem?_getD, List.getElem?_eq_getElem hk]
    rfl
  · rw [List.getElem?_eq_none (by rw [List.length_map, List.length_range]; omega), List.getElem?_eq_none (by omega)]
theorem powN_ext {one : List Nat} {a b : Nat} : powN one a = powN one b ↔ ∀ p, p < one.length → goN one a p = goN one b p := by
  constructor
  · intro h p hp
    rw [← powN_get hp, ← powN_get hp, h]
  · intro h
    rw [powN_eq, powN_eq]
    exact List.map_congr_left fun p hp => h p (List.mem_range.mp hp)
theorem nodup_lt : ∀ (n : Nat) (l : List Nat), l.Nodup → (∀ x ∈ l, x < n) → l.length ≤ n
  | 0, [], _, _ => Nat.le_refl _
  | 0, x :: l, _, h => absurd (h x List.mem_cons_self) (Nat.not_lt_zero _)
  | n + 1, l, hd, h => by
    by_cases hn : n ∈ l
    · have h1 : (l.erase n).length ≤ n := nodup_lt n (l.erase n) (hd.erase n) fun x hx => by
        have h2 := h x (List.mem_of_mem_erase hx)
        have h3 : x ≠ n := fun e => by
          rw [e] at hx
          exact (List.Nodup.not_mem_erase hd) hx
        omega
      rw [List.length_erase_of_mem hn] at h1
      omega
    · have h1 := nodup_lt n l hd fun x hx => by
        have h2 := h x hx
        have h3 : x ≠ n := fun e => hn (e ▸ hx)
        omega
      omega
/-- of n + 1 numbers below n two are one -/
theorem pigeon (n : Nat) (g : Nat → Nat) (h : ∀ i, i ≤ n → g i < n) : ∃ i j, i < j ∧ j ≤ n ∧ g i = g j := by
  apply Classical.byContradiction
  intro hn
  have hd : ((List.range (n + 1)).map g).Nodup := by
    rw [List.nodup_iff_pairwise_ne, List.pairwise_map]
    refine List.Pairwise.imp_of_mem (R := fun a b => a < b) ?_ List.pairwise_lt_range
    intro a b ha hb hab e
    have hb := List.mem_range.mp hb
    exact hn ⟨a, b, hab, by omega, e⟩
  have := nodup_lt n _ hd fun x hx => by
    obtain ⟨i, hi, e⟩ := List.mem_map.mp hx
    rw [← e]
    exact h i (by have := List.mem_range.mp hi; omega)
  rw [List.length_map, List.length_range] at this
  omega
theorem goN_per {one : List Nat} {p i d : Nat} (h : goN one (i + d) p = goN one i p) : ∀ k j, i ≤ j → goN one (j + d * k) p = goN one j p
  | 0, j, _ => by rw [Nat.mul_zero, Nat.add_zero]
  | k + 1, j, hj => by
    have e1 : j + d * (k + 1) = (i + d) + ((j - i) + d * k) := by rw [Nat.mul_succ]; omega
    rw [e1, goN_add, h, ← goN_add]
    have e2 : i + ((j - i) + d * k) = j + d * k := by omega
    rw [e2]
    exact goN_per h k j hj
/-- of up to six places -/
theorem pow66 {one : List Nat} (h : Self one) (hl : one.length ≤ 6) : powN one 66 = powN one 6 := by
  rw [powN_ext]
  intro p hp
  obtain ⟨i, j, hij, hj, e⟩ := pigeon one.length (fun n => goN one n p) fun i _ => goN_lt h i hp
  have hd : goN one (i + (j - i)) p = goN one i p := by rw [show i + (j - i) = j by omega]; exact e.symm
  have h60 : ∃ k, 60 = (j - i) * k := by
    have : j - i ≤ 6 := by omega
    have h0 : 1 ≤ j - i := by omega
    generalize j - i = d at *
    have hd' : d = 1 ∨ d = 2 ∨ d = 3 ∨ d = 4 ∨ d = 5 ∨ d = 6 := by omega
    refine ⟨60 / d, ?_⟩
    rcases hd' with e | e | e | e | e | e <;> subst e <;> rfl
  obtain ⟨k, hk⟩ := h60
  have := goN_per hd k 6 (by omega)
  rw [← hk] at this
  exact this
/-- it comes round: index i, period p -/
def TP (one : List Nat) (x : Nat × Nat) : Prop := 1 ≤ x.2 ∧ powN one (x.1 + x.2) = powN one x.1 ∧ ∀ a b, a < b → b < x.1 + x.2 → powN one a ≠ powN one b
theorem tp_is {one : List Nat} (h : Self one) (hl : one.length ≤ 6) : ∃ x : Nat × Nat, TP one x ∧ x.1 + x.2 ≤ 66 := by
  have hex : ∃ n, (∃ a, a < n ∧ powN one a = powN one n) := ⟨66, 6, by decide, (pow66 h hl).symm⟩
  have key : ∀ m, (∃ a, a < m ∧ powN one a = powN one m) → ∃ n, n ≤ m ∧ (∃ a, a < n ∧ powN one a = powN one n) ∧ ∀ k, k < n → ¬ ∃ a, a < k ∧ powN one a = powN one k := by
    intro m
    induction m using Nat.strongRecOn with
    | _ m ih =>
      intro hm
      by_cases hk : ∃ k, k < m ∧ ∃ a, a < k ∧ powN one a = powN one k
      · obtain ⟨k, hkm, hk⟩ := hk
        obtain ⟨n, h1, h2, h3⟩ := ih k hkm hk
        exact ⟨n, by omega, h2, h3⟩
      · exact ⟨m, Nat.le_refl _, hm, fun k hkm z => hk ⟨k, hkm, z⟩⟩
  obtain ⟨n, hn, ⟨a, ha, e⟩, hmin⟩ := key 66 ⟨6, by decide, (pow66 h hl).symm⟩
  exact ⟨(a, n - a), ⟨by show 1 ≤ n - a; omega, by show powN one (a + (n - a)) = powN one a; rw [show a + (n - a) = n by omega]; exact e.symm, fun x y hxy hy z => hmin y (by have : y < a + (n - a) := hy; omega) ⟨x, hxy, z⟩⟩, by show a + (n - a) ≤ 66; omega⟩
open Classical in
noncomputable def tp (one : List Nat) : Nat × Nat := if h : ∃ x, TP one x then choose h else (0, 1)
theorem tp_tp {one : List Nat} (h : Self one) (hl : one.length ≤ 6) : TP one (tp one) := by
  obtain ⟨x, hx, _⟩ := tp_is h hl
  unfold tp
  rw [dif_pos ⟨x, hx⟩]
  exact Classical.choose_spec ⟨x, hx⟩
theorem TP.uniq {one : List Nat} {x y : Nat × Nat} (hx : TP one x) (hy : TP one y) : x = y := by
  obtain ⟨x1, x2⟩ := x
  obtain ⟨y1, y2⟩ := y
  obtain ⟨a1, a2, a3⟩ := hx
  obtain ⟨b1, b2, b3⟩ := hy
  simp only at a1 a2 a3 b1 b2 b3
  have e : x1 + x2 = y1 + y2 := by
    rcases Nat.lt_trichotomy (x1 + x2) (y1 + y2) with z | z | z
    · exact absurd a2.symm (b3 x1 (x1 + x2) (by omega) z)
    · exact z
    · exact absurd b2.symm (a3 y1 (y1 + y2) (by omega) z)
  have e1 : x1 = y1 := by
    rcases Nat.lt_trichotomy x1 y1 with z | z | z
    · exact absurd (a2.symm.trans (by rw [e]; exact b2)) (a3 x1 y1 z (by omega))
    · exact z
    · exact absurd (b2.symm.trans (by rw [← e]; exact a2)) (a3 y1 x1 z (by omega))
  subst e1
  rw [show x2 = y2 by omega]
theorem tp_le {one : List Nat} (h : Self one) (hl : one.length ≤ 6) : (tp one).1 + (tp one).2 ≤ 66 := by
  obtain ⟨x, hx, hb⟩ := tp_is h hl
  rw [(tp_tp h hl).uniq hx]
  exact hb
end Rm
set_option Elab.async false
set_option linter.all false
set_option maxRecDepth 100000
set_option maxHeartbeats 4000000
namespace Rm
open PySem PySem.Spec PyProof.Rows L2 LamX NdefX
section
variable {B : Bg} {X : Cx} {Γ : Ct} {M : Mt} {a b c e : Expr} {es : List Expr} {S Sa Sb : SV} {Ss : List SV} {pos p px : Pos} {rest : List Stmt} {D : Ends} {i j n : Nat} {x : Str}
/-- a, b = [..], e: two locals, the list may change -/
theorem tr_parL {y : Str} {py pt : Pos} {kt k2 : Nat} {pt2 : Pos} (hN : X.N.Nodup) (hc : X.calm = true) (hi : X.N[i]? = some x) (hj : X.N[j]? = some y) (hij : i ≠ j) (ha : DA B.T X Γ M es Ss) (hl : Ss.length ≤ 1000) (hb : ∀ q, DE B.T X Γ ((q, mL Ss) :: M) b Sb) (h : ∀ q, Tr B X ((Γ.set i (some (sV (.ref q)))).set j (some Sb)) ((q, mL Ss) :: M) rest D)
    (hw : swappedStores [.Tuple [.Name x px, .Name y py] kt pt] (.Tuple [.List es p, b] k2 pt2) X.env = pure (some [x, y]) := by rfl)
    (hx : X.env.scope.names.lookup x = some .local := by rfl) (hy : X.env.scope.names.lookup y = some .local := by rfl) (hs : swapsWithSole [.Tuple [.Name x px, .Name y py] kt pt] (.Tuple [.List es p, b] k2 pt2) pos.line X.env = pure false := by rfl)
    (he : starEach [.List es p, b] X.env = (false, eval (.List es p) X.env) :: starEach [b] X.env := by rfl) (he2 : starEach [b] X.env = (false, eval b X.env) :: starEach [] X.env := by rfl) : Tr B X Γ M (.Assign [.Tuple [.Name x px, .Name y py] kt pt] (.Tuple [.List es p, b] k2 pt2) pos :: rest) D := fun σ I H s =>
  ws_cons (ps_par hc hN hi hj hij hx hy (pa_cons (pe_lst pa_wa) (pa_cons pe_we pa_nil he2) he) hw hs) (ha σ I H _ s.sl s.wd fun vs I1 H1 g1 p1 => ⟨by rw [← p1.length]; exact Nat.le_of_lt (small1000 hl), fun q hq => by
    have s1 := (s.grow g1).new (m := mL Ss) hq ⟨vs, rfl, p1⟩
    exact hb q σ I1 _ _ s1.sl s1.wd fun v2 I2 H2 g2 p2 => ⟨.ref q, v2, rfl, h q _ I2 H2 (((s1.grow g2).set (S := sV (.ref q)) rfl).set p2)⟩⟩)
end
/-- .. the rest of the defs that lead -/
structure Qf (K : PySem.W.Frag) (mg : Str → Option Value) : Prop where
  led : Df K mg "led_from" s_led_from
  mapBy : Df K mg "map_by" s_map_by
  mapOf : Df K mg "map_of" s_map_of
  then_ : Df K mg "then" s_then
  power : Df K mg "power" s_power
  needTimes : Df K mg "need_times" s_need_times
  mapPower : Df K mg "map_power" s_map_power
  turns : Df K mg "turns_by" s_turns_by
  index : Df K mg "index_period" s_index_period
  cT : ∃ t, mg "MOST_TIMES" = some (.int 1000000000000000000 t)
/-- a row of a watch -/
def Rk (wt : Wt) (row : List Nat) : Prop := row.length ≤ 300 ∧ ∀ a ∈ row, a < wt.kinds
theorem Wt.Ok.step {wt : Wt} (ok : wt.Ok) {p k : Nat} (hp : p < wt.moves.length) (hk : k < wt.kinds) : ∃ l, wt.moves[p]? = some l ∧ l[k]? = some (stepN wt.moves p k) ∧ stepN wt.moves p k < wt.moves.length := by
  have h1 := List.getElem?_eq_getElem hp
  have hm : wt.moves[p] ∈ wt.moves := List.getElem_mem hp
  have hl := ok.len _ hm
  have h2 : wt.moves[p][k]? = some wt.moves[p][k] := List.getElem?_eq_getElem (by rw [hl]; exact hk)
  have e : stepN wt.moves p k = wt.moves[p][k] := by
    unfold stepN
    rw [getD_of h1]
    exact getD_of h2
  exact ⟨_, h1, by rw [e]; exact h2, by rw [e]; exact ok.line _ hm _ (List.getElem_mem _)⟩
theorem Wt.Ok.led {wt : Wt} (ok : wt.Ok) : ∀ (row : List Nat) {p : Nat}, p < wt.moves.length → (∀ a ∈ row, a < wt.kinds) → ledN wt.moves p row < wt.moves.length
  | [], _, hp, _ => hp
  | k :: row, p, hp, hk => ok.led row (let ⟨_, _, _, h⟩ := ok.step hp (hk k List.mem_cons_self); h) fun a ha => hk a (List.mem_cons_of_mem _ ha)
theorem Wt.Ok.mapSelf {wt : Wt} (ok : wt.Ok) {row : List Nat} (hk : ∀ a ∈ row, a < wt.kinds) : Self (mapN wt.moves row) ∧ (mapN wt.moves row).length = wt.moves.length := by
  have hl : (mapN wt.moves row).length = wt.moves.length := by unfold mapN; rw [List.length_map, List.length_range]
  refine ⟨fun g hg => ?_, hl⟩
  rw [hl]
  obtain ⟨p, hp, e⟩ := List.mem_map.mp hg
  rw [← e]
  exact ok.led row (List.mem_range.mp hp) hk
section
variable {P : Program} {w : World} {K : PySem.W.Frag} {mg : Str → Option Value} {base : Heap} {T : Tb} {C : Addr}
abbrev spNeedRow (T : Tb) (K : PySem.W.Frag) (C : Addr) : Sp := spD T (fun d : Wt × List Nat => [sW K C d.1, sSD K (d.2.map eN)]) (fun d => d.1.Ok ∧ Rk d.1 d.2) (fun _ => sD K .none)
theorem fd_need_row (m : Pf T K mg base) (W : Wf K mg C) : FD P w K mg base 6 "need_row" ["watch", "row"] (spNeedRow T K C) :=
  m.needRow.fd (fun _ _ _ _ _ _ us hl => match us, hl with | [_, _], _ => rfl) fun f fd F hm => by
    refine fn_body F sc_need_row (fun _ => rfl) fun ⟨wt, row⟩ ⟨ok, hk⟩ cdv A outer s I H E D hr hret hend => ?_
    refine tr_expr (de_call (fd_need_row_of m) hr (Nat.le_refl _) (wt.kinds, row) hk (da_cons (de_kinds m.bf W hr (by decide) wt ok (dv 0)) (da_one (dv 1)))) ?_
    exact tr_nil fun σ I' H' s' => hend σ I' H' s'.gr .non
abbrev spLed (T : Tb) (K : PySem.W.Frag) (C : Addr) : Sp := spD T (fun d : Wt × Nat × List Nat => [sW K C d.1, sD K (eN d.2.1), sSD K (d.2.2.map eN)]) (fun d => d.1.Ok ∧ d.2.1 < d.1.moves.length ∧ ∀ a ∈ d.2.2, a < d.1.kinds) (fun d => sD K (eN (ledN d.1.moves d.2.1 d.2.2)))
theorem fd_led (W : Wf K mg C) (q : Qf K mg) : FD P w K mg base 3 "led_from" ["watch", "place", "row"] (spLed T K C) :=
  q.led.fd (fun _ _ _ _ _ _ us hl => match us, hl with | [_, _, _], _ => rfl) fun f fd F hm => by
    refine fn_body F sc_led_from (fun _ => rfl) fun ⟨wt, p0, row⟩ ⟨ok, hp, hk⟩ cdv A outer s I H E D hr hret hend => ?_
    refine tr_for (j := 3) (δ := Nat) (Pd := fun k p => p = ledN wt.moves p0 (row.take k)) (G := fun _ p => [some (sW K C wt), some (sD K (eN p)), none, none]) (Mf := fun _ _ => []) PassesOwn.never rfl sc_led_from.nd rfl (di_SDf (f := eN) (xs := row) (dv 2)) p0 rfl (.keep (.keep (.drop (.keep .nil)))) rfl (fun Ah k p S hS hd => ?_) (fun p hd => ?_)
    · rw [List.getElem?_map] at hS
      cases ha : row[k]? with
      | none => rw [ha] at hS; cases hS
      | some g =>
        rw [ha] at hS
        cases hS
        have hg : g < wt.kinds := hk g (List.mem_of_getElem? ha)
        have hpl : p < wt.moves.length := by rw [hd]; exact ok.led _ hp fun a ha => hk a (List.mem_of_mem_take ha)
        obtain ⟨l, h1, h2, h3⟩ := ok.step hpl hg
        refine tr_asg (i := 1) (S := sD K (eN (stepN wt.moves p g))) sc_led_from.nd rfl (de_ixT (k := g) (ds := l.map eN) (de_ixT (k := p) (ds := wt.moves.map (eT eN)) (de_moves W hr (by decide) wt (dv 0)) (dv 1) (by rw [List.getElem?_map, h1]; rfl)) (dv 3) (by rw [List.getElem?_map, h2]; rfl)) ?_
        refine tr_nil fun σ I H s => ⟨stepN wt.moves p g, I, ?_, s.weak (.keep (.keep (.keep (.drop .nil))))⟩
        show stepN wt.moves p g = ledN wt.moves p0 (row.take (k + 1))
        rw [List.take_add_one, ha, hd]
        unfold ledN
        rw [List.foldl_append]
        rfl
    · rw [List.length_map, List.take_length] at hd
      refine tr_ret (dv 1) ?_
      rw [hd]
      exact hret
abbrev spMapBy (T : Tb) (K : PySem.W.Frag) (C : Addr) : Sp := spD T (fun d : Wt × List Nat => [sW K C d.1, sSD K (d.2.map eN)]) (fun d => d.1.Ok ∧ ∀ a ∈ d.2, a < d.1.kinds) (fun d => sD K (eT eN (mapN d.1.moves d.2)))
theorem fd_mapBy (bf : Bf mg) (W : Wf K mg C) (q : Qf K mg) : FD P w K mg base 4 "map_by" ["watch", "row"] (spMapBy T K C) :=
  q.mapBy.fd (fun _ _ _ _ _ _ us hl => match us, hl with | [_, _], _ => rfl) fun f fd F hm => by
    refine fn_body F sc_map_by (fun _ => rfl) fun ⟨wt, row⟩ ⟨ok, hk⟩ cdv A outer s I H E D hr hret hend => ?_
    have p2 : wt.moves.length ≤ 6 := ok.p2
    refine tr_ret ((de_tupleD bf.tuple (DE.sl (DE.imp (de_lc0 (as := List.range wt.moves.length) (j := 2) (Si := fun p => sD K (eN p)) (F := fun p => sD K (eN (ledN wt.moves p row))) rfl sc_map_by.nd (di_range1 bf.range ((de_lenT bf.len (ds := wt.moves.map (eT eN)) (de_moves W hr (by decide) wt (dv 0))).is (by rw [List.length_map])) (by omega)) (by rw [List.length_range]; omega) (blkOk_by (N := n_map_by) (sc := defScope s_map_by) (by decide +kernel)) (fun _ _ _ _ _ => pg_name sc_map_by.nd rfl (.inl rfl)) ?_) fun _ _ => sL_map))).is map_eT) hret
    intro p hp s0 H0 C0 cl fp
    exact de_call (fd_led W q) hr (Nat.le_refl _) (wt, p, row) ⟨ok, List.mem_range.mp hp, hk⟩ (da_cons (dv 0) (da_cons (dv 2) (da_one (dv 1))))
abbrev spMapOf (T : Tb) (K : PySem.W.Frag) (C : Addr) : Sp := spD T (fun d : Wt × List Nat => [sW K C d.1, sSD K (d.2.map eN)]) (fun d => d.1.Ok ∧ Rk d.1 d.2) (fun d => sD K (eT eN (mapN d.1.moves d.2)))
theorem fd_mapOf (m : Pf T K mg base) (W : Wf K mg C) (q : Qf K mg) : FD P w K mg base 7 "map_of" ["watch", "row"] (spMapOf T K C) :=
  q.mapOf.fd (fun _ _ _ _ _ _ us hl => match us, hl with | [_, _], _ => rfl) fun f fd F hm => by
    refine fn_body F sc_map_of (fun _ => rfl) fun ⟨wt, row⟩ ⟨ok, hk⟩ cdv A outer s I H E D hr hret hend => ?_
    refine tr_expr (de_callD (fd_need_watch m W) hr (by decide) wt trivial (da_one (dv 0)) rfl) ?_
    refine tr_expr (de_call (fd_need_row m W) hr (Nat.le_refl _) (wt, row) ⟨ok, hk⟩ (da_cons (dv 0) (da_one (dv 1)))) ?_
    exact tr_ret (de_call (fd_mapBy m.bf W q) hr (by decide) (wt, row) ⟨ok, hk.2⟩ (da_cons (dv 0) (da_one (dv 1)))) hret
abbrev spThen (T : Tb) (K : PySem.W.Frag) : Sp := spD T (fun d : List Nat × List Nat => [sD K (eT eN d.1), sD K (eT eN d.2)]) (fun d => (∀ p ∈ d.1, p < d.2.length) ∧ d.1.length ≤ 1000) (fun d => sD K (eT eN (thenN d.1 d.2)))
theorem fd_then (bf : Bf mg) (q : Qf K mg) : FD P w K mg base 1 "then" ["one", "other"] (spThen T K) :=
  q.then_.fd (fun _ _ _ _ _ _ us hl => match us, hl with | [_, _], _ => rfl) fun f fd F hm => by
    refine fn_body F sc_then (fun _ => rfl) fun ⟨one, other⟩ ⟨h1, h2⟩ cdv A outer s I H E D hr hret hend => ?_
    refine tr_ret ((de_tupleD bf.tuple (DE.sl (DE.imp (de_lc0 (as := one) (j := 2) (Si := fun p => sD K (eN p)) (F := fun p => sD K (eN (other.getD p 0))) rfl sc_then.nd (di_Tf (f := eN) (xs := one) (dv 0)) (Nat.le_trans h2 (by decide)) (blkOk_by (N := n_then) (sc := defScope s_then) (by decide +kernel)) (fun _ _ _ _ _ => pg_name sc_then.nd rfl (.inl rfl)) ?_) fun _ _ => sL_map))).is map_eT) hret
    intro p hp s0 H0 C cl fp
    exact de_ixT (ds := other.map eN) (k := p) (dv 1) (dv 2) (get_map (h1 p hp))
abbrev spPower (T : Tb) (K : PySem.W.Frag) : Sp := spD T (fun d : List Nat × Nat => [sD K (eT eN d.1), sD K (eN d.2)]) (fun d => Self d.1 ∧ d.1.length ≤ 1000) (fun d => sD K (eT eN (powN d.1 d.2)))
theorem fd_power (bf : Bf mg) (q : Qf K mg) : FD P w K mg base 2 "power" ["one", "times"] (spPower T K) :=
  q.power.fd (fun _ _ _ _ _ _ us hl => match us, hl with | [_, _], _ => rfl) fun f fd F hm => by
    refine fn_body F sc_power (fun _ => rfl) fun ⟨one, n⟩ ⟨h1, h2⟩ cdv A outer s I H E D hr hret hend => ?_
    have h1 : Self one := h1
    have h2 : one.length ≤ 1000 := h2
    refine tr_par (i := 2) (j := 3) (Sa := sD K (eT eN (powN one 0))) (Sb := sD K (eT eN (powN one 1))) sc_power.nd rfl rfl rfl (by decide) ((de_tupRange rfl bf.tuple bf.range (de_lenT bf.len (ds := one.map eN) (dv 0)) (by rw [List.length_map]; omega)).is ?_) ((dv 0).is (by rw [powN_one h1])) ?_
    · show eT eN _ = eT eN _
      rw [List.length_map]
      rfl
    refine tr_while (δ := Nat × Nat × Nat) (Pd := fun d => d.1 + d.2.1 * d.2.2 = n) (G := fun d => [none, some (sD K (eN d.2.2)), some (sD K (eT eN (powN one d.1))), some (sD K (eT eN (powN one d.2.1)))]) (Mf := fun _ => []) (bt := fun d => decide (0 < d.2.2)) (fun d => d.2.2) PassesOwn.never (0, 1, n) (by show 0 + 1 * n = n; omega) (.drop (.keep (.keep (.keep .nil)))) rfl (fun d hd => ?_) (fun d hd hb => ?_) (fun d hd hb => ?_)
    · refine (dt_gt (dv 1) de_int).is ?_
      exact decide_eq_decide.mpr (by omega)
    · obtain ⟨a, b, t⟩ := d
      have hd : a + b * t = n := hd
      have ht : 0 < t := of_decide_eq_true hb
      have hmod : ((t : Int) % 2) = ((t % 2 : Nat) : Int) := by omega
      have hdiv : ((t : Int) / 2) = ((t / 2 : Nat) : Int) := by omega
      have thn : ∀ x y : Nat, (∀ p ∈ powN one x, p < (powN one y).length) ∧ (powN one x).length ≤ 1000 := fun x y => ⟨fun p hp => by
        have := powN_self h1 x p hp
        rw [powN_len] at this ⊢
        exact this, by rw [powN_len]; exact h2⟩
      refine tr_ifj (k := decide (t % 2 = 1)) (Γ' := [none, some (sD K (eN t)), some (sD K (eT eN (powN one (a + b * (t % 2))))), some (sD K (eT eN (powN one b)))]) ((dt_eqE encN (x := t % 2) (y := 1) (by decide) hr.units ((de_mod (dv 1) de_int (by decide)).is (by rw [hmod])) de_int).is rfl) (fun z => ?_) (fun z => ?_) ?_
      · have z : t % 2 = 1 := of_decide_eq_true z
        refine tr_asg (i := 2) (S := sD K (eT eN (powN one (a + b * (t % 2))))) sc_power.nd rfl ((de_call (fd_then bf q) hr (Nat.le_refl _) (powN one a, powN one b) (thn a b) (da_cons (dv 2) (da_one (dv 3)))).is ?_) ?_
        · rw [thenN_pow h1, z, Nat.mul_one]
        · exact tr_nil fun σ I H s => ⟨I, s.weak (.drop (.keep (.keep (.keep .nil))))⟩
      · have z : ¬ t % 2 = 1 := of_decide_eq_false z
        have e : t % 2 = 0 := by omega
        rw [e, Nat.mul_zero, Nat.add_zero]
        exact .drop (.keep (.keep (.keep .nil)))
      · refine tr_par (i := 3) (j := 1) (Sa := sD K (eT eN (powN one (b + b)))) (Sb := sD K (eN (t / 2))) sc_power.nd rfl rfl rfl (by decide) ((de_call (fd_then bf q) hr (Nat.le_refl _) (powN one b, powN one b) (thn b b) (da_cons (dv 3) (da_one (dv 3)))).is (by rw [thenN_pow h1])) ((de_fdiv (dv 1) de_int (by decide)).is (by rw [hdiv])) ?_
        refine tr_nil fun σ I H s => ⟨(a + b * (t % 2), b + b, t / 2), I, ⟨?_, ?_⟩, s.weak (.drop (.keep (.keep (.keep .nil))))⟩
        · show a + b * (t % 2) + (b + b) * (t / 2) = n
          rw [← hd, show (b + b) * (t / 2) = b * (2 * (t / 2)) by rw [← Nat.mul_assoc, Nat.mul_two], Nat.add_assoc, ← Nat.mul_add]
          congr 2
          omega
        · show t / 2 < t
          omega
    · obtain ⟨a, b, t⟩ := d
      have ht : t = 0 := by
        have hb : ¬ 0 < t := of_decide_eq_false hb
        omega
      subst ht
      refine tr_ret (dv 2) ?_
      have hd : a + b * 0 = n := hd
      rw [show a = n by omega]
      exact hret
end
end Rm
set_option Elab.async false
set_option linter.all false
set_option maxRecDepth 100000
set_option maxHeartbeats 4000000
namespace Rm
open PySem PySem.Spec PyProof.Rows L2 LamX NdefX
theorem u65 {k : Nat} {A : Around} (r : Room k A) : A.units + 65 < cLine := by have := r.un; omega
section
variable {P : Program} {w : World} {K : PySem.W.Frag} {mg : Str → Option Value} {base : Heap} {T : Tb} {C : Addr}
abbrev spNeedTimes (T : Tb) (K : PySem.W.Frag) : Sp := spD T (fun d : Nat => [sD K (eN d)]) (fun d => d ≤ 1000000000000000000) (fun _ => sD K .none)
theorem fd_needTimes (m : Pf T K mg base) (q : Qf K mg) : FD P w K mg base 3 "need_times" ["times"] (spNeedTimes T K) :=
  q.needTimes.fd (fun _ _ _ _ _ _ us hl => match us, hl with | [_], _ => rfl) fun f fd F hm => by
    refine fn_body F sc_need_times (fun _ => rfl) fun n hn cdv A outer s I H E D hr hret hend => ?_
    refine tr_skip (DT.is (dt_not (dt_val (de_call (fd_is_between m.between m.bf m.number) hr (Nat.le_refl _) ((n : Int), (0 : Int), (1000000000000000000 : Int)) trivial (da_cons (dv 0) (da_cons de_int (da_one (de_globI q.cT (by rfl)))))))) ?_) ?_
    · show (!(decide ((0 : Int) ≤ (n : Int)) && decide ((n : Int) ≤ 1000000000000000000))) = false
      rw [decide_eq_true (by omega), decide_eq_true (by omega)]
      rfl
    · exact tr_nil fun σ I' H' s' => hend σ I' H' s'.gr .non
abbrev spMapPower (T : Tb) (K : PySem.W.Frag) (C : Addr) : Sp := spD T (fun d : Wt × List Nat × Nat => [sW K C d.1, sSD K (d.2.1.map eN), sD K (eN d.2.2)]) (fun d => d.1.Ok ∧ Rk d.1 d.2.1 ∧ d.2.2 ≤ 1000000000000000000) (fun d => sD K (eT eN (powN (mapN d.1.moves d.2.1) d.2.2)))
theorem fd_mapPower (m : Pf T K mg base) (W : Wf K mg C) (q : Qf K mg) : FD P w K mg base 7 "map_power" ["watch", "row", "times"] (spMapPower T K C) :=
  q.mapPower.fd (fun _ _ _ _ _ _ us hl => match us, hl with | [_, _, _], _ => rfl) fun f fd F hm => by
    refine fn_body F sc_map_power (fun _ => rfl) fun ⟨wt, row, n⟩ ⟨ok, hk, hn⟩ cdv A outer s I H E D hr hret hend => ?_
    refine tr_expr (de_callD (fd_need_watch m W) hr (by decide) wt trivial (da_one (dv 0)) rfl) ?_
    refine tr_expr (de_call (fd_need_row m W) hr (Nat.le_refl _) (wt, row) ⟨ok, hk⟩ (da_cons (dv 0) (da_one (dv 1)))) ?_
    refine tr_expr (de_call (fd_needTimes m q) hr (by decide) n hn (da_one (dv 2))) ?_
    have hs := ok.mapSelf hk.2
    have p2 : wt.moves.length ≤ 6 := ok.p2
    have hl6 : (mapN wt.moves row).length ≤ 1000 := by rw [hs.2]; show wt.moves.length ≤ 1000; omega
    exact tr_ret (de_call (fd_power m.bf q) hr (by decide) (mapN wt.moves row, n) ⟨hs.1, hl6⟩ (da_cons (de_call (fd_mapBy m.bf W q) hr (by decide) (wt, row) ⟨ok, hk.2⟩ (da_cons (dv 0) (da_one (dv 1)))) (da_one (dv 2)))) hret
/-- lists of maps -/
abbrev pws (one : List Nat) (k : Nat) : List (List Nat) := (List.range k).map (powN one)
abbrev spTurns (T : Tb) (K : PySem.W.Frag) : Sp := spD T (fun d : List Nat => [sD K (eT eN d)]) (fun d => Self d ∧ d.length ≤ 6) (fun d => sD K (.tuple [eN (tp d).1, eN (tp d).2]))
theorem fd_turns (bf : Bf mg) (q : Qf K mg) : FD P w K mg base 2 "turns_by" ["one"] (spTurns T K) :=
  q.turns.fd (fun _ _ _ _ _ _ us hl => match us, hl with | [_], _ => rfl) fun f fd F hm => by
    refine fn_body F sc_turns_by (fun _ => rfl) fun one ⟨h1, h2⟩ cdv A outer s I H E D hr hret hend => ?_
    have tpt := tp_tp h1 h2
    have tpl := tp_le h1 h2
    obtain ⟨i, p, etp⟩ : ∃ i p, tp one = (i, p) := ⟨_, _, rfl⟩
    rw [etp] at tpt tpl hret
    obtain ⟨t1, t2, t3⟩ := tpt
    simp only at t1 t2 t3 tpl hret
    refine tr_parL (i := 1) (j := 2) (Ss := []) (Sb := sD K (eT eN (powN one 0))) sc_turns_by.nd rfl rfl rfl (by decide) da_nil (by decide) (fun q => (de_tupRange rfl bf.tuple bf.range (de_lenT bf.len (ds := one.map eN) (dv 0)) (by rw [List.length_map]; omega)).is (by rw [List.length_map]; rfl)) fun qa => ?_
    refine tr_while (δ := Nat) (Pd := fun k => k ≤ i + p) (G := fun k => [some (sD K (eT eN one)), some (sV (.ref qa)), some (sD K (eT eN (powN one k)))]) (Mf := fun k => [(qa, mL ((pws one k).map fun x => sD K (eT eN x)))]) (bt := fun k => decide (k < i + p)) (fun k => i + p - k) PassesOwn.never 0 (Nat.zero_le _) (.keep (.keep (.keep .nil))) rfl (fun k hk => ?_) (fun k hk hb => ?_) (fun k hk hb => ?_)
    · refine (dt_thaw 0 1 rfl rfl (dt_cmp (op_notInD (u65 hr)) rfl (rd_notInD (d := eT eN (powN one k)) (ds := (pws one k).map (eT eN)) ((encT encN).shaped (by decide) _) ((encL (encT encN)).shaped (by decide) _)) (dv 2) ((dv 1).imp fun _ _ z => sL_map z))).is ?_
      rw [List.any_map]
      by_cases hlt : k < i + p
      · rw [decide_eq_true hlt, Bool.not_eq_true']
        refine List.any_eq_false.mpr fun x hx => ?_
        obtain ⟨a, ha, e⟩ := List.mem_map.mp hx
        rw [← e]
        show ¬ PyData.eqv (eT eN (powN one a)) (eT eN (powN one k)) = true
        rw [(encT encN).eqv, decide_eq_true_eq]
        exact t3 a k (List.mem_range.mp ha) hlt
      · rw [decide_eq_false hlt, Bool.not_eq_false']
        refine List.any_eq_true.mpr ⟨powN one i, List.mem_map.mpr ⟨i, List.mem_range.mpr (by omega), rfl⟩, ?_⟩
        show PyData.eqv (eT eN (powN one i)) (eT eN (powN one k)) = true
        rw [(encT encN).eqv, decide_eq_true_eq, show k = i + p by omega]
        exact t2.symm
    · have hlt : k < i + p := of_decide_eq_true hb
      refine tr_append (q := qa) 0 rfl (dv 1) (dv 2) (by rw [List.length_map, List.length_map, List.length_range]; omega) ?_
      refine tr_asg (i := 2) (S := sD K (eT eN (powN one (k + 1)))) sc_turns_by.nd rfl (de_call (fd_then bf q) hr (Nat.le_refl _) (powN one k, one) ⟨fun g hg => ?_, by show (powN one k).length ≤ 1000; rw [powN_len]; omega⟩ (da_cons (dv 2) (da_one (dv 0)))) ?_
      · have := powN_self h1 k g hg
        rw [powN_len] at this
        exact this
      · refine tr_nil fun σ I H s => ⟨k + 1, I, ⟨hlt, by omega⟩, ?_⟩
        have e : (pws one k).map (fun x => sD K (eT eN x)) ++ [sD K (eT eN (powN one k))] = (pws one (k + 1)).map fun x => sD K (eT eN x) := by
          unfold pws
          rw [List.range_succ, List.map_append, List.map_append]
          rfl
        rw [← e]
        exact s
    · have hk2 : k = i + p := by
        have hb : ¬ k < i + p := of_decide_eq_false hb
        have hk : k ≤ i + p := hk
        omega
      subst hk2
      refine tr_frz (q := qa) 0 1 rfl rfl (by simp) ?_
      refine tr_ret (de_tupD (dad_cons (d := eN i) (de_index (ds := (pws one (i + p)).map (eT eN)) (d := eT eN (powN one (i + p))) (z := eT eN (powN one i)) (u65 hr) ((dv 1).imp fun _ _ z => sL_map z) (dv 2) ((encL (encT encN)).shaped (by decide) _) ((encT encN).shaped (by decide) _) ?_ ?_ ?_) (dad_cons (d := eN p) ((de_sub ((de_lenL bf.len (ds := (pws one (i + p)).map (eT eN)) ((dv 1).imp fun _ _ z => sL_map z))) (de_index (j := i) (ds := (pws one (i + p)).map (eT eN)) (d := eT eN (powN one (i + p))) (z := eT eN (powN one i)) (u65 hr) ((dv 1).imp fun _ _ z => sL_map z) (dv 2) ((encL (encT encN)).shaped (by decide) _) ((encT encN).shaped (by decide) _) ?_ ?_ ?_)).is ?_) dad_nil)) (by show (2 : Nat) ≤ 1000; decide)) hret
      · rw [List.getElem?_map, List.getElem?_map, List.getElem?_range (by omega)]; rfl
      · rw [(encT encN).eqv, decide_eq_true_eq]; exact t2.symm
      · intro a z' ha hz
        rw [List.getElem?_map, List.getElem?_map, List.getElem?_range (by omega)] at hz
        cases hz
        rw [(encT encN).eqv, decide_eq_false_iff_not, t2]
        exact t3 a i ha (by omega)
      · rw [List.getElem?_map, List.getElem?_map, List.getElem?_range (by omega)]; rfl
      · rw [(encT encN).eqv, decide_eq_true_eq]; exact t2.symm
      · intro a z' ha hz
        rw [List.getElem?_map, List.getElem?_map, List.getElem?_range (by omega)] at hz
        cases hz
        rw [(encT encN).eqv, decide_eq_false_iff_not, t2]
        exact t3 a i ha (by omega)
      · rw [List.length_map, List.length_map, List.length_range]
        show PyData.int (((i + p : Nat) : Int) - (i : Int)) = .int (p : Int)
        congr 1
        omega
abbrev spIndex (T : Tb) (K : PySem.W.Frag) (C : Addr) : Sp := spD T (fun d : Wt × List Nat => [sW K C d.1, sSD K (d.2.map eN)]) (fun d => d.1.Ok ∧ Rk d.1 d.2) (fun d => sD K (.tuple [eN (tp (mapN d.1.moves d.2)).1, eN (tp (mapN d.1.moves d.2)).2]))
theorem fd_index (m : Pf T K mg base) (W : Wf K mg C) (q : Qf K mg) : FD P w K mg base 7 "index_period" ["watch", "row"] (spIndex T K C) :=
  q.index.fd (fun _ _ _ _ _ _ us hl => match us, hl with | [_, _], _ => rfl) fun f fd F hm => by
    refine fn_body F sc_index_period (fun _ => rfl) fun ⟨wt, row⟩ ⟨ok, hk⟩ cdv A outer s I H E D hr hret hend => ?_
    refine tr_expr (de_callD (fd_need_watch m W) hr (by decide) wt trivial (da_one (dv 0)) rfl) ?_
    refine tr_expr (de_call (fd_need_row m W) hr (Nat.le_refl _) (wt, row) ⟨ok, hk⟩ (da_cons (dv 0) (da_one (dv 1)))) ?_
    have hs := ok.mapSelf hk.2
    have p2 : wt.moves.length ≤ 6 := ok.p2
    exact tr_ret (de_call (fd_turns m.bf q) hr (by decide) (mapN wt.moves row) ⟨hs.1, by rw [hs.2]; exact p2⟩ (da_one (de_call (fd_mapBy m.bf W q) hr (by decide) (wt, row) ⟨ok, hk.2⟩ (da_cons (dv 0) (da_one (dv 1)))))) hret
end
end Rm
set_option Elab.async false
set_option linter.all false
set_option maxRecDepth 100000
set_option maxHeartbeats 4000000
namespace Rm
open PySem PySem.Spec PyProof.Rows L2 LamX NdefX
theorem As.add {B : Bg} {Γ : Ct} {M ms : Mt} {σ : L2.St} {I H I' H' : Hp} (s : As B Γ M σ I H) (g : Gr B.T [] I H I' H') (hm : Ms ms I' H') (fz : ∀ m ∈ ms, Fz H m.1) (nd : (ms.map (·.1)).Nodup) : As B Γ (ms ++ M) σ I' H' := by
  have s5 := s.grow g
  refine ⟨⟨s5.sl.len, s5.sl.sl, fun z hz => ?_, ?_⟩, s5.gr, fun z hz => ?_, s5.an⟩
  · rcases List.mem_append.mp hz with e | e
    · exact hm _ e
    · exact s5.sl.mu z e
  · rw [List.map_append]
    refine List.nodup_append.mpr ⟨nd, s5.sl.nd, fun u hu u' hu' e => ?_⟩
    obtain ⟨m', hm', e1⟩ := List.mem_map.mp hu
    obtain ⟨z', hz', e2⟩ := List.mem_map.mp hu'
    obtain ⟨_, o, h1, h2⟩ := s.sl.mu z' hz'
    exact (fz m' hm') o (by rw [e1, e, ← e2]; exact h1) (z'.2.mo h2).nt
  · rcases List.mem_append.mp hz with e | e
    · exact .inl (s.gr.fz (fz z e))
    · exact s5.ow z e
/-! ### the tape -/
abbrev tapeK (K : PySem.W.Frag) (lg : Addr) (d : Nat × Nat × List Nat) : List (Key × SV) := [(.inr "large", sV (.ref lg)), (.inr "rest", sD K (eN d.1)), (.inr "cells", sD K (eL eN d.2.2)), (.inr "turn", sD K (eN d.2.1))]
abbrev mTape (K : PySem.W.Frag) (lg : Addr) : MV := mEx (fun _ : Nat × Nat × List Nat => True) fun d => mDk (tapeK K lg d)
abbrev mBig (K : PySem.W.Frag) : MV := mEx (fun ns : List Nat => ns.length ≤ 100000) fun ns => mL ((ns.map eN).map (sD K))
abbrev tpM (K : PySem.W.Frag) (d : Addr × Addr) : Mt := [(d.1, mTape K d.2), (d.2, mBig K)]
/-- some number below n | some number -/
abbrev sBelow (K : PySem.W.Frag) (n : Nat) : SV := sEx (fun r : Nat => r < n) fun r => sD K (eN r)
abbrev sSome (K : PySem.W.Frag) : SV := sEx (fun _ : Nat => True) fun r => sD K (eN r)
structure Tf (K : PySem.W.Frag) (mg : Str → Option Value) : Prop where
  abs : mg "abs" = none
  begun : Df K mg "_law_begun" s__law_begun
  blend : Df K mg "_law_blend" s__law_blend
  draw : Df K mg "_law_draw" s__law_draw
section
variable {P : Program} {w : World} {K : PySem.W.Frag} {mg : Str → Option Value} {base : Heap} {T : Tb}
def absN (z : Int) : Nat := z.natAbs
theorem de_absN {X : Cx} {Γ : Ct} {M : Mt} {e : Expr} {i : Int} {pos p : Pos} (hm : X.mg "abs" = none) (ha : DE T X Γ M e (sD X.K (.int i))) (hg : Gl X "abs" := by rfl) (he : starEach [e] X.env = (false, eval e X.env) :: starEach [] X.env := by rfl) (hpl : (backTo pos (starEach [] X.env)).any (·.1) = false := by rfl) : DE T X Γ M (.Call (.Name "abs" p) [e] [] pos) (sD X.K (eN (absN i))) :=
  (de_abs hm ha hg he hpl).is (by
    show PyData.int _ = PyData.int ((i.natAbs : Nat) : Int)
    congr 1
    first | omega | (split <;> omega))
abbrev spBlend (T : Tb) (K : PySem.W.Frag) : Sp := spS T (fun d : Addr × Addr => [sV (.ref d.1)]) (fun d => tpM K d) (fun d => d.1 ≠ d.2) (fun _ => sSome K)
theorem fd_blend (bf : Bf mg) (t : Tf K mg) : FD P w K mg base 1 "_law_blend" ["tape"] (spBlend T K) :=
  t.blend.fd (fun _ _ _ _ _ _ us hl => match us, hl with | [_], _ => rfl) fun f fd F hm => by
    refine fn_bodyM F sc__law_blend (fun _ => rfl) fun ⟨tp, lg⟩ hne cdv A outer s I H E D hr hret hend => ?_
    refine tr_pickM (q := tp) 0 rfl fun ⟨r, tn, cells⟩ _ => ?_
    refine tr_dput (q := tp) (k := .inr "turn") 0 (hu_of hr) rfl (by show (4 : Nat) < 100000; decide) (S := sD K (eN (tn + 1))) ((de_add (de_dget (q := tp) (k := .inr "turn") 0 (hu_of hr) rfl (dv 0) (de_str.imp fun _ _ => key_str) rfl) de_int).is rfl) (dv 0) (de_str.imp fun _ _ => key_str) ?_
    refine tr_par (i := 1) (j := 2) (Sa := sD K (eN (tn + 1))) (Sb := sSome K) sc__law_blend.nd rfl rfl rfl (by decide) (de_int1 bf.int (de_dget (q := tp) (k := .inr "turn") 0 (hu_of hr) rfl (dv 0) (de_str.imp fun _ _ => key_str) rfl)) (de_int.imp fun v I z => ⟨0, trivial, z⟩) ?_
    refine tr_for (j := 3) (δ := Unit) (Ss := [2147483629, 2147483587, 2147483579].map fun n : Nat => sD K (eN n)) (Pd := fun _ _ => True) (G := fun _ _ => [some (sV (.ref tp)), some (sD K (eN (tn + 1))), some (sSome K), none, none, none]) (Mf := fun _ _ => [(tp, mDk (pS (tapeK K lg (r, tn, cells)) (.inr "turn") (sD K (eN (tn + 1))))), (lg, mBig K)]) PassesOwn.never rfl sc__law_blend.nd rfl (di_Lf (f := eN) (de_lstD (dad_cons de_int (dad_cons de_int (dad_cons de_int dad_nil))) (by show (3 : Nat) ≤ 1000; decide))) () trivial (.keep (.keep (.keep (.drop (.drop (.drop .nil)))))) rfl (fun Ah k _ S hS _ => ?_) (fun _ _ => ?_)
    · rw [List.getElem?_map] at hS
      cases hg : ([2147483629, 2147483587, 2147483579] : List Nat)[k]? with
      | none => rw [hg] at hS; cases hS
      | some g =>
        rw [hg] at hS
        cases hS
        have hgb : 0 < g ∧ g < 2 ^ 31 := by
          have := List.mem_of_getElem? hg
          simp only [List.mem_cons, List.not_mem_nil, or_false] at this
          omega
        refine tr_asg (i := 4) (S := sBelow K g) sc__law_blend.nd rfl (DE.imp (de_mod (i := ((tn + 1 : Nat) : Int) * 69621 + (g : Int) / 7) (j := (g : Int)) (de_add (de_mul (dv 1) de_int (.inr (by omega))) (de_fdiv (dv 3) de_int (by omega))) (dv 3) (by omega)) fun v I z => ⟨((((tn + 1 : Nat) : Int) * 69621 + (g : Int) / 7) % (g : Int)).toNat, ?_, ?_⟩) ?_
        · have := Int.emod_lt_of_pos (((tn + 1 : Nat) : Int) * 69621 + (g : Int) / 7) (show (0 : Int) < g by omega)
          have := Int.emod_nonneg (((tn + 1 : Nat) : Int) * 69621 + (g : Int) / 7) (show (g : Int) ≠ 0 by omega)
          omega
        · have := Int.emod_nonneg (((tn + 1 : Nat) : Int) * 69621 + (g : Int) / 7) (show (g : Int) ≠ 0 by omega)
          show (sD K (.int _)).p v I
          rw [Int.toNat_of_nonneg this]
          exact z
        refine tr_for (j := 5) (δ := Unit) (Pd := fun _ _ => True) (G := fun _ _ => [some (sV (.ref tp)), some (sD K (eN (tn + 1))), some (sSome K), some (sD K (eN g)), some (sBelow K g), none]) (Mf := fun _ _ => [(tp, mDk (pS (tapeK K lg (r, tn, cells)) (.inr "turn") (sD K (eN (tn + 1))))), (lg, mBig K)]) PassesOwn.never rfl sc__law_blend.nd rfl (di_Lf (f := eN) (xs := cells) (de_dget (q := tp) (k := .inr "cells") 0 (hu_of hr) rfl (dv 0) (de_str.imp fun _ _ => key_str) rfl)) () trivial (.keep (.keep (.keep (.keep (.keep (.drop .nil)))))) rfl (fun Ah2 k2 _ S2 hS2 _ => ?_) (fun _ _ => ?_)
        · rw [List.getElem?_map] at hS2
          cases hc : cells[k2]? with
          | none => rw [hc] at hS2; cases hS2
          | some cl =>
            rw [hc] at hS2
            cases hS2
            refine tr_pick (C := fun r => r < g) (Si := fun r => sD K (eN r)) 4 rfl fun b hb => ?_
            refine tr_asg (i := 4) (S := sBelow K g) sc__law_blend.nd rfl (DE.imp (de_mod (i := (b : Int) * 48271 + (cl : Int)) (j := (g : Int)) (de_add (de_mul (dv 4) de_int (.inr (by omega))) (de_int1 bf.int (dv 5))) (dv 3) (by omega)) fun v I z => ⟨(((b : Int) * 48271 + (cl : Int)) % (g : Int)).toNat, ?_, ?_⟩) ?_
            · have := Int.emod_lt_of_pos ((b : Int) * 48271 + (cl : Int)) (show (0 : Int) < g by omega)
              have := Int.emod_nonneg ((b : Int) * 48271 + (cl : Int)) (show (g : Int) ≠ 0 by omega)
              omega
            · have := Int.emod_nonneg ((b : Int) * 48271 + (cl : Int)) (show (g : Int) ≠ 0 by omega)
              show (sD K (.int _)).p v I
              rw [Int.toNat_of_nonneg this]
              exact z
            · exact tr_nil fun σ I H s => ⟨(), I, trivial, s.weak (.keep (.keep (.keep (.keep (.keep (.drop .nil))))))⟩
        · refine tr_pick (C := fun r => r < g) (Si := fun r => sD K (eN r)) 4 rfl fun b hb => ?_
          refine tr_pick (C := fun _ => True) (Si := fun r => sD K (eN r)) 2 rfl fun fo _ => ?_
          refine tr_asg (i := 2) (S := sSome K) sc__law_blend.nd rfl (DE.imp (de_add (de_mul (dv 2) de_int (.inr (by omega))) (de_mod (de_pow (dv 4) de_int (by omega)) (dv 3) (by omega))) fun v I z => ⟨((fo : Int) * 2147483647 + (b : Int) ^ ((5 : Int).toNat) % (g : Int)).toNat, trivial, ?_⟩) ?_
          · have := Int.emod_nonneg ((b : Int) ^ ((5 : Int).toNat)) (show (g : Int) ≠ 0 by omega)
            show (sD K (.int _)).p v I
            rw [Int.toNat_of_nonneg (by omega)]
            exact z
          · exact tr_nil fun σ I H s => ⟨(), I, trivial, s.weak (.keep (.keep (.keep (.drop (.drop (.drop .nil))))))⟩
    · refine tr_asM (m' := mTape K lg) (q := tp) 0 rfl (fun o I z => ⟨(r, tn + 1, cells), trivial, z⟩) ?_
      exact tr_retS (ds_of (dv 2)) fun v σ I H s' p => hret () v I H trivial s'.gr p s'.sl.mu
abbrev spDraw (T : Tb) (K : PySem.W.Frag) : Sp := spS T (fun d : (Addr × Addr) × Nat => [sV (.ref d.1.1), sD K (eN d.2)]) (fun d => tpM K d.1) (fun d => d.1.1 ≠ d.1.2 ∧ 0 < d.2 ∧ d.2 < 1073741824) (fun d => sBelow K d.2)
theorem tpM_nd {d : Addr × Addr} (h : d.1 ≠ d.2) : ((tpM K d).map (·.1)).Nodup := by
  show [d.1, d.2].Nodup
  simp [h]
theorem rest_any {lg : Addr} {p : Nat × Nat × List Nat} {o : HO} {I : Hp} (h : (mDk (pS (tapeK K lg p) (.inr "rest") (sSome K))).p o I) : (mTape K lg).p o I := by
  obtain ⟨ws, e, h⟩ := h
  obtain ⟨pr, pt, pc⟩ := p
  have h : Paired (fun (p : Key × SV) (q : Key × V) => p.1 = q.1 ∧ p.2.p q.2 I) [(.inr "large", sV (.ref lg)), (.inr "rest", sSome K), (.inr "cells", sD K (eL eN pc)), (.inr "turn", sD K (eN pt))] ws := h
  match ws, h with
  | _, .cons h1 (.cons ⟨e2, nn, _, h2⟩ t2) => exact ⟨(nn, pt, pc), trivial, _, e, .cons h1 (.cons ⟨e2, h2⟩ t2)⟩
theorem fd_draw (bf : Bf mg) (t : Tf K mg) : FD P w K mg base 2 "_law_draw" ["tape", "size"] (spDraw T K) :=
  t.draw.fd (fun _ _ _ _ _ _ us hl => match us, hl with | [_, _], _ => rfl) fun f fd F hm => by
    refine fn_bodyM F sc__law_draw (fun _ => rfl) fun ⟨⟨tp, lg⟩, n⟩ ⟨hne, hn0, hn1⟩ cdv A outer s I H E D hr hret hend => ?_
    have hne : tp ≠ lg := hne
    have hn0 : 0 < n := hn0
    have hn1 : n < 1073741824 := hn1
    refine tr_pickM (q := tp) 0 rfl fun ⟨r, tn, cells⟩ _ => ?_
    refine tr_pickM (q := lg) 1 rfl fun ns hns => ?_
    refine tr_ifJ (k := decide (r = 0)) (Γ' := [some (sV (.ref tp)), some (sD K (eN n)), none]) (M' := tpM K (tp, lg)) (dt_eqE encN (x := r) (y := 0) (by decide) hr.units (de_dget (q := tp) (k := .inr "rest") 0 (hu_of hr) rfl (dv 0) (de_str.imp fun _ _ => key_str) rfl) de_int) (fun _ => ?_) (fun _ σ I H s' => ?_) ?_
    · refine tr_dputX (q := tp) (k := .inr "rest") 0 (hu_of hr) (ι := (Nat × Nat × List Nat) × List Nat) (C := fun p => p.2.length ≤ 100000) (Si := fun _ => sSome K) (Mi := fun p => [(tp, mDk (tapeK K lg p.1)), (lg, mL ((p.2.map eN).map (sD K)))]) (kvi := fun p => tapeK K lg p.1)
        (dx_if (dt_neNil (q := lg) (ds := ns.map eN) 1 hr.units rfl ((encL encN).shaped (by decide) ns) (de_dget (q := tp) (k := .inr "large") 0 (hu_of hr) rfl (dv 0) (de_str.imp fun _ _ => key_str) rfl)) (fun hb => ?_) (fun hb => ?_)) (fun _ _ => rfl) (fun _ _ => by show (4 : Nat) < 100000; decide) (fun _ _ => dv 0) (fun _ _ => de_str.imp fun _ _ => key_str) (fun p hp => ?_)
      · cases ns with
        | nil => cases hb
        | cons n0 ns =>
          have hns : (n0 :: ns).length ≤ 100000 := hns
          rw [List.length_cons] at hns
          refine DX.imp (dx_pop (q := lg) (S := sD K (eN n0)) 1 0 rfl (by rw [List.length_map, List.length_map]; exact Nat.succ_pos _) (by rw [List.length_map, List.length_map, List.length_cons]; omega) rfl (de_dget (q := tp) (k := .inr "large") 0 (hu_of hr) rfl (dv 0) (de_str.imp fun _ _ => key_str) rfl) (de_int.is rfl)) fun _ v I' _ pv => ⟨((r, tn, cells), ns), by show ns.length ≤ 100000; omega, rfl, n0, trivial, pv⟩
      · refine dx_asM (q := tp) (m' := mTape K lg) 0 rfl (fun o I z => ⟨(r, tn, cells), trivial, z⟩) (dx_asM (q := lg) (m' := mBig K) 1 rfl (fun o I z => ⟨ns, hns, z⟩) ?_)
        refine DX.imp (dx_pickM (q := lg) 1 (fun _ _ => rfl) (dx_pickM (q := tp) 0 (fun _ _ => rfl) (dx_ds (ds_call (fd_blend bf t) hr (Nat.le_refl _) (tp, lg) hne (fun m hm => hm) (tpM_nd hne) (dsa_one (ds_of (dv 0))))))) fun p v I' cp pv => ⟨(p.1.2, p.2), cp.2, rfl, pv⟩
      · exact tr_asM (q := tp) (m' := mEx (fun _ : Nat × Nat × List Nat => True) fun d => mDk (tapeK K lg d)) 0 rfl (fun o I z => rest_any z) (tr_asM (q := lg) (m' := mBig K) 1 rfl (fun o I z => ⟨p.2, hp, z⟩) (tr_nil fun σ I H s' => ⟨I, s'.weak (.keep (.keep (.drop .nil)))⟩))
    · refine (As.setM (q := tp) (n := 0) (m' := mTape K lg) (As.setM (q := lg) (n := 1) (m' := mBig K) s' rfl fun o _ z => ⟨ns, hns, z⟩) rfl fun o _ z => ⟨(r, tn, cells), trivial, z⟩).weak (.keep (.keep (.drop .nil)))
    · refine tr_pickM (q := tp) 0 rfl fun ⟨r, tn, cells⟩ _ => ?_
      have hmod : ((r : Int) % (n : Int)) = ((r % n : Nat) : Int) := by omega
      have hdiv : ((r : Int) / (n : Int)) = ((r / n : Nat) : Int) := by omega
      refine tr_asg (i := 2) (S := sD K (eN (r % n))) sc__law_draw.nd rfl ((de_mod (de_int1 bf.int (de_dget (q := tp) (k := .inr "rest") 0 (hu_of hr) rfl (dv 0) (de_str.imp fun _ _ => key_str) rfl)) (dv 1) (by omega)).is (by rw [hmod])) ?_
      refine tr_dput (q := tp) (k := .inr "rest") 0 (hu_of hr) rfl (by show (4 : Nat) < 100000; decide) (S := sD K (eN (r / n))) ((de_fdiv (de_int1 bf.int (de_dget (q := tp) (k := .inr "rest") 0 (hu_of hr) rfl (dv 0) (de_str.imp fun _ _ => key_str) rfl)) (dv 1) (by omega)).is (by rw [hdiv])) (dv 0) (de_str.imp fun _ _ => key_str) ?_
      refine tr_asM (m' := mTape K lg) (q := tp) 0 rfl (fun o I z => ⟨(r / n, tn, cells), trivial, z⟩) ?_
      exact tr_retS (ds_of (dv 2)) fun v σ I H s' p => hret () v I H trivial s'.gr ⟨r % n, Nat.mod_lt _ hn0, p⟩ s'.sl.mu
end
end Rm
set_option Elab.async false
set_option linter.all false
set_option maxRecDepth 100000
set_option maxHeartbeats 4000000
namespace Rm
open PySem PySem.Spec PyProof.Rows L2 LamX NdefX
section
variable {P : Program} {w : World} {K : PySem.W.Frag} {mg : Str → Option Value} {base : Heap} {T : Tb}
def spBegun (T : Tb) (K : PySem.W.Frag) : Sp := fun vs H Q _ => ∃ (zs : List Int) (I : Hp), zs.length ≤ 100000 ∧ Wd T I H ∧ AllV [sD K (eL eI zs)] vs I ∧
  ∀ (d : Addr × Addr) I' H', Gr T [] I H I' H' → Ms (tpM K d) I' H' → (∀ m ∈ tpM K d, Fz H m.1) → d.1 ≠ d.2 → Q (.ref d.1) H'
theorem fd_begun (t : Tf K mg) : FD P w K mg base 1 "_law_begun" ["script"] (spBegun T K) :=
  t.begun.fd (fun _ _ _ _ _ _ us hl => match us, hl with | [_], _ => rfl) fun f fd F hm => by
    refine F.ok sc__law_begun (fun vs H Q E h => ?_) (fun cdv A outer s H vs Q E hr h => ?_)
    · obtain ⟨zs, I, _, _, h3, _⟩ := h
      exact h3.length.symm
    · obtain ⟨zs, I, hz, wd, h3, q⟩ := h
      refine ⟨_, ps_ws (X := cxN P w K mg base n__law_begun "_law_begun" s__law_begun f cdv A outer s H E), ?_⟩
      have key : Tr ⟨T, [], I, H, []⟩ (cxN P w K mg base n__law_begun "_law_begun" s__law_begun f cdv A outer s H E) (st0 n__law_begun [sD K (eL eI zs)]) [] (defBody s__law_begun) { nx := fun _ H' => Q .non H', rt := Q } := by
        have p18 : ((10 : Int) ^ ((18 : Int).toNat)) = 1000000000000000000 := by decide
        refine tr_asgLc1M (as := zs) (i := 1) (j := 2) (Si := fun z => sD K (eI z)) (F := fun z => sD K (eN (absN z - 1000000000000000000))) (ck := fun z => decide (1000000000000000000 ≤ absN z)) sc__law_begun.nd rfl rfl (di_Lf (f := eI) (dv 0)) hz (blkOk_by (N := n__law_begun) (sc := defScope s__law_begun) (by decide +kernel)) (fun _ _ _ _ _ => pg_name sc__law_begun.nd rfl (.inl rfl)) (fun z hz M' s0 H0 C cl fp => ?_) (fun z hz hc M' s0 H0 C cl fp => ?_) fun lg => ?_
        · refine (dt_ge (de_absN t.abs (dv 2)) (de_pow de_int de_int (by decide))).is ?_
          rw [p18]
          exact decide_eq_decide.mpr (by omega)
        · refine (de_sub (de_absN t.abs (dv 2)) (de_pow de_int de_int (by decide))).is ?_
          rw [p18]
          have hc := of_decide_eq_true hc
          show PyData.int _ = PyData.int _
          congr 1
          omega
        · refine tr_retX (dx_disp (kvs := tapeK K lg (0, 0, zs.map absN)) (dps_cons (de_str.imp fun _ _ => key_str) (dv 1) (dps_cons (de_str.imp fun _ _ => key_str) (de_int.is rfl) (dps_cons (de_str.imp fun _ _ => key_str) (DE.is (DE.imp (de_lc0 (as := zs) (j := 2) (Si := fun z => sD K (eI z)) (F := fun z => sD K (eN (absN z))) rfl sc__law_begun.nd (di_Lf (f := eI) (dv 0)) hz (blkOk_by (N := n__law_begun) (sc := defScope s__law_begun) (by decide +kernel)) (fun _ _ _ _ _ => pg_name sc__law_begun.nd rfl (.inl rfl)) fun z hz s0 H0 C cl fp => de_absN t.abs (dv 2)) fun _ _ => sL_map (f := fun z => eN (absN z))) (map_eL (f := eN) (g := absN))) (dps_cons (de_str.imp fun _ _ => key_str) (de_int.is rfl) dps_nil)))) rfl rfl (by simp) (by decide) (by show (4 : Nat) ≤ 15; decide) (by show ([.inr "large", .inr "rest", .inr "cells", .inr "turn"] : List Key).Nodup; decide)) fun tp v σ I' H' _ s' pv => ?_
          have pv : v = .ref tp := pv
          subst pv
          have s2 := (s'.setM (q := tp) (n := 0) (m' := mTape K lg) rfl fun o _ z => ⟨(0, 0, zs.map absN), trivial, z⟩).setM (q := lg) (n := 1) (m' := mBig K) rfl fun o _ z => ⟨(zs.filter fun z => decide (1000000000000000000 ≤ absN z)).map fun z => absN z - 1000000000000000000, ?_, ?_⟩
          · have nd := s2.sl.nd
            have nd : [tp, lg].Nodup := nd
            exact q (tp, lg) I' H' s2.gr s2.sl.mu (fun m hm => (s2.ow m hm).resolve_right (by simp)) (by simp at nd; exact nd)
          · show (List.map _ _).length ≤ 100000
            rw [List.length_map]
            exact Nat.le_trans (List.length_filter_le _ _) hz
          · show (mL (List.map _ (List.map _ (List.map _ _)))).p o I'
            rw [List.map_map, List.map_map]
            exact z
      exact key (L2.start n__law_begun vs) I H ⟨sl_start h3, Gr.refl wd, (fun m hm => nomatch hm), (fun A hA => nomatch hA)⟩
theorem dx_begun {B : Bg} {X : Cx} {Γ : Ct} {M : Mt} {e : Expr} {zs : List Int} {k : Nat} {p pos : Pos} (t : Tf X.K X.mg) (hz : zs.length ≤ 100000) (hr : Room k X.A) (hk : 1 ≤ k) (ha : DE B.T X Γ M e (sD X.K (eL eI zs))) (hg : Gl X "_law_begun" := by rfl)
    (he : starEach [e] X.env = (false, eval e X.env) :: starEach [] X.env := by rfl) (hpl : (backTo pos (starEach [] X.env)).any (·.1) = false := by rfl) :
    DX B X Γ M (.Call (.Name "_law_begun" p) [e] [] pos) (fun d : Addr × Addr => d.1 ≠ d.2) (fun d => sV (.ref d.1)) (fun d => tpM X.K d ++ M) := fun σ I H Q s q => by
  obtain ⟨f, fd, hmg, kp, hb, F⟩ := (fd_begun (P := X.prog) (w := X.w) (base := X.base) (T := B.T) t).ex
  exact we_of (pe_call F (hr.mono hk) hg hmg kp hb .nil (pass0 (X := X)) pa_wa (by decide) he hpl) (da_one ha he σ I H _ s.sl s.wd fun vs I1 H1 g1 p1 => by
    have s1 := s.grow g1
    rw [List.append_nil]
    exact ⟨zs, I1, hz, g1.wd, p1, fun d I2 H2 g2 ms fz hne => q d _ I2 H2 hne (s1.add g2 ms fz (tpM_nd hne)) (g1.sub.trans g2.sub) rfl⟩)
end
end Rm
set_option Elab.async false
set_option linter.all false
set_option maxRecDepth 100000
set_option maxHeartbeats 4000000
namespace Rm
open PySem PySem.Spec PyProof.Rows L2 LamX NdefX
/-- a drawn watch, as the law holds it -/
abbrev eWt (wt : Wt) : PyData := .tuple [eT (eT eN) wt.moves, eT eN wt.words]
structure Lf (K : PySem.W.Frag) (mg : Str → Option Value) : Prop where
  min : mg "min" = none
  max : mg "max" = none
  pick : Df K mg "_law_pick" s__law_pick
  watch : Df K mg "_law_watch" s__law_watch
  made : Df K mg "_law_made" s__law_made
  row : Df K mg "_law_row" s__law_row
  ringed : Df K mg "_law_ringed" s__law_ringed
  counting : Df K mg "_law_counting" s__law_counting
  known : Df K mg "_law_known" s__law_known
  common : Df K mg "_law_common" s__law_common
section
variable {P : Program} {w : World} {K : PySem.W.Frag} {mg : Str → Option Value} {base : Heap} {T : Tb} {C : Addr}
/-- _law_draw(tape, e) -/
theorem ds_draw {B : Bg} {X : Cx} {Γ : Ct} {M : Mt} {e1 e2 : Expr} {k n : Nat} {p pos : Pos} {d : Addr × Addr} (bf : Bf X.mg) (t : Tf X.K X.mg) (hr : Room k X.A) (hk : 2 ≤ k) (hd : d.1 ≠ d.2) (hM : ∀ m ∈ tpM X.K d, m ∈ M) (hn : 0 < n ∧ n < 1073741824) (h1 : DS B X Γ M e1 (sV (.ref d.1))) (h2 : DS B X Γ M e2 (sD X.K (eN n))) (hg : Gl X "_law_draw" := by rfl)
    (he : starEach [e1, e2] X.env = (false, eval e1 X.env) :: starEach [e2] X.env := by rfl) (he2 : starEach [e2] X.env = (false, eval e2 X.env) :: starEach [] X.env := by rfl) (hpl : (backTo pos (starEach [e2] X.env)).any (·.1) = false := by rfl) :
    DS B X Γ M (.Call (.Name "_law_draw" p) [e1, e2] [] pos) (sBelow X.K n) :=
  ds_call (fd_draw bf t) hr hk (d, n) ⟨hd, hn.1, hn.2⟩ hM (tpM_nd hd) (dsa_cons h1 (dsa_one h2 he2) he) hg (by decide) he hpl
/-- the tape's args -/
abbrev aT (K : PySem.W.Frag) (d : Addr × Addr) : SV := sV (.ref d.1)
/-- a drawn watch -/
def OkW (p k v : Nat) (wt : Wt) : Prop := wt.Ok ∧ wt.moves.length ≤ p ∧ wt.kinds = k ∧ (∀ x ∈ wt.words, x < v)
theorem okW_of {p k v many : Nat} {rows : List (List Nat)} {words : List Nat} (hm : 1 ≤ many) (hp : many ≤ p) (hp6 : p ≤ 6) (hk : 1 ≤ k) (hk4 : k ≤ 4) (hv : v ≤ 4) (hr : rows.length = many ∧ ∀ r ∈ rows, r.length = k ∧ ∀ g ∈ r, g < many) (hw : words.length = many ∧ ∀ x ∈ words, x < v) : OkW p k v ⟨rows, words⟩ := by
  obtain ⟨r1, r2⟩ := hr
  obtain ⟨w1, w2⟩ := hw
  have hkk : Wt.kinds ⟨rows, words⟩ = k := by
    cases rows with
    | nil => simp at r1; omega
    | cons a b => exact (r2 a List.mem_cons_self).1
  exact ⟨⟨by show 1 ≤ rows.length; omega, by show rows.length ≤ 6; omega, by omega, by omega, fun l hl => by rw [hkk]; exact (r2 l hl).1, fun l hl g hg => by show g < rows.length; rw [r1]; exact (r2 l hl).2 g hg, by show words.length = rows.length; omega, fun x hx => by have := w2 x hx; omega⟩, by show rows.length ≤ p; omega, hkk, w2⟩
theorem wt_tup {rows : List (List Nat)} {words : List Nat} {v : V} {I : Hp} (h : (sTup K [sD K (eT (eT eN) rows), sD K (eT eN words)]).p v I) : (sD K (eWt ⟨rows, words⟩)).p v I := sD_tup.mpr h
abbrev spLWatch (T : Tb) (K : PySem.W.Frag) : Sp := spS T (fun d : (Addr × Addr) × Nat × Nat × Nat => [sV (.ref d.1.1), sD K (eN d.2.1), sD K (eN d.2.2.1), sD K (eN d.2.2.2)]) (fun d => tpM K d.1) (fun d => d.1.1 ≠ d.1.2 ∧ 1 ≤ d.2.1 ∧ d.2.1 ≤ 6 ∧ 1 ≤ d.2.2.1 ∧ d.2.2.1 ≤ 4 ∧ 1 ≤ d.2.2.2 ∧ d.2.2.2 ≤ 4) (fun d => sEx (OkW d.2.1 d.2.2.1 d.2.2.2) fun wt => sD K (eWt wt))
theorem ex_tup2 {ι κ : Type} {C : ι → Prop} {D : κ → Prop} {f : ι → PyData} {g : κ → PyData} {v : V} {I : Hp} (h : (sTup K [sEx C fun i => sD K (f i), sEx D fun j => sD K (g j)]).p v I) : ∃ i j, C i ∧ D j ∧ (sD K (.tuple [f i, g j])).p v I := by
  obtain ⟨a, vs, e, h1, h2⟩ := h
  obtain ⟨u, u', rfl, ⟨i, ci, p⟩, ⟨j, cj, p'⟩⟩ := allV2 h2
  exact ⟨i, j, ci, cj, sD_tup.mpr ⟨a, _, e, h1, .cons p (.cons p' .nil)⟩⟩
theorem fd_lwatch (bf : Bf mg) (t : Tf K mg) (l : Lf K mg) : FD P w K mg base 3 "_law_watch" ["tape", "places", "kinds", "words"] (spLWatch T K) :=
  l.watch.fd (fun _ _ _ _ _ _ us hl => match us, hl with | [_, _, _, _], _ => rfl) fun f fd F hm => by
    refine fn_bodyM F sc__law_watch (fun _ => rfl) fun ⟨⟨tp, lg⟩, places, kinds, words⟩ ⟨hne, h1, h2, h3, h4, h5, h6⟩ cdv A outer s I H E D hr hret hend => ?_
    have hne : tp ≠ lg := hne
    have h1 : 1 ≤ places := h1
    have h2 : places ≤ 6 := h2
    have h3 : 1 ≤ kinds := h3
    have h4 : kinds ≤ 4 := h4
    have h5 : 1 ≤ words := h5
    have h6 : words ≤ 4 := h6
    refine tr_asgS (i := 4) (S := sEx (fun m : Nat => 1 ≤ m ∧ m ≤ places) fun m => sD K (eN m)) sc__law_watch.nd rfl (ds_op op_add (rd_exR fun r hr => RD2.imp rd_I0 fun v I z => ⟨1 + r, ⟨by omega, by omega⟩, ?_⟩) (ds_of de_int) (ds_draw (n := places) (d := (tp, lg)) bf t hr (Nat.le_refl _) hne (fun m hm => hm) (by omega) (ds_of (dv 0)) (ds_of (dv 1)))) ?_
    · show (sD K (.int ((1 + r : Nat) : Int))).p v I
      rw [Int.natCast_add]
      exact z
    refine tr_pick (C := fun m : Nat => 1 ≤ m ∧ m ≤ places) (Si := fun m => sD K (eN m)) 4 rfl fun many ⟨m1, m2⟩ => ?_
    refine tr_asgS (i := 5) (S := sEx (fun rows : List (List Nat) => rows.length = many ∧ ∀ r ∈ rows, r.length = kinds ∧ ∀ g ∈ r, g < many) fun rows => sD K (eT (eT eN) rows)) sc__law_watch.nd rfl (DS.imp (ds_tupleE bf.tuple (DS.imp (ds_lc (j := 6) (C := fun _ : Unit => True) (as := fun _ => List.range many) (Si := fun p => sD K (eN p)) (F := fun _ => sEx (fun row : List Nat => row.length = kinds ∧ ∀ g ∈ row, g < many) fun row => sD K (eT eN row)) rfl sc__law_watch.nd (dsi_of (di_range1 bf.range (dv 4) (by omega))) (fun _ _ => by rw [List.length_range]; omega) (blkOk_by (N := n__law_watch) (sc := defScope s__law_watch) (by decide +kernel)) (fun _ _ _ _ _ => pg_name sc__law_watch.nd rfl (.inl rfl)) ?_) fun v I ⟨u, _, z⟩ => ⟨u, trivial, sLst_seq z⟩)) ?_) ?_
    · intro _ _ p hp M' hM' s0 H0 C0 cl fp
      refine DS.imp (ds_tupleE bf.tuple (DS.imp (ds_lc (j := 7) (C := fun _ : Unit => True) (as := fun _ => List.range kinds) (Si := fun p => sD K (eN p)) (F := fun _ => sBelow K many) rfl sc__law_watch.nd (dsi_of (di_range1 bf.range (dv 2) (by omega))) (fun _ _ => by rw [List.length_range]; omega) (blkOk_by (N := n__law_watch) (by rfl)) (fun _ _ _ _ _ => pg_name sc__law_watch.nd rfl (.inl rfl)) ?_) fun v I ⟨u, _, z⟩ => ⟨u, trivial, sLst_seq z⟩)) ?_
      · intro _ _ p2 hp2 M2 hM2 s1 H1 C1 cl1 fp1
        exact ds_draw (d := (tp, lg)) bf t hr (Nat.le_refl _) hne (fun m hm => hM2 _ (hM' _ hm)) (by omega) (ds_of (dv 0)) (ds_of (dv 4))
      · rintro v I ⟨u, _, z⟩
        obtain ⟨ds, ⟨d1, d2⟩, d3⟩ := ex_tup z
        exact ⟨ds, ⟨by rw [d1, List.length_range], d2⟩, d3⟩
    · rintro v I ⟨u, _, z⟩
      obtain ⟨ds, ⟨d1, d2⟩, d3⟩ := ex_tup z
      exact ⟨ds, ⟨by rw [d1, List.length_range], d2⟩, d3⟩
    · refine tr_retS (ds_tup (dsa_cons (ds_of (dv 5)) (dsa_one (S := sEx (fun ws : List Nat => ws.length = many ∧ ∀ x ∈ ws, x < words) fun ws => sD K (eT eN ws)) (DS.imp (ds_tupleE bf.tuple (DS.imp (ds_lc (j := 6) (C := fun _ : Unit => True) (as := fun _ => List.range many) (Si := fun p => sD K (eN p)) (F := fun _ => sBelow K words) rfl sc__law_watch.nd (dsi_of (di_range1 bf.range (dv 4) (by omega))) (fun _ _ => by rw [List.length_range]; omega) (blkOk_by (N := n__law_watch) (sc := defScope s__law_watch) (by decide +kernel)) (fun _ _ _ _ _ => pg_name sc__law_watch.nd rfl (.inl rfl)) ?_) fun v I ⟨u, _, z⟩ => ⟨u, trivial, sLst_seq z⟩)) ?_))) (by show (2 : Nat) ≤ 1000; decide)) fun v σ I H s' p => ?_
      · intro _ _ p hp M' hM' s0 H0 C0 cl fp
        exact ds_draw (d := (tp, lg)) bf t hr (Nat.le_refl _) hne (fun m hm => hM' _ hm) (by omega) (ds_of (dv 0)) (ds_of (dv 3))
      · rintro v I ⟨u, _, z⟩
        obtain ⟨ds, ⟨d1, d2⟩, d3⟩ := ex_tup z
        exact ⟨ds, ⟨by rw [d1, List.length_range], d2⟩, d3⟩
      · obtain ⟨rows, ws, c1, c2, z⟩ := ex_tup2 p
        exact hret () v I H trivial s'.gr ⟨⟨rows, ws⟩, okW_of m1 m2 h2 h3 h4 h6 c1 c2, z⟩ s'.sl.mu
end
end Rm
set_option Elab.async false
set_option linter.all false
set_option maxRecDepth 100000
set_option maxHeartbeats 4000000
namespace Rm
open PySem PySem.Spec PyProof.Rows L2 LamX NdefX
section
variable {P : Program} {w : World} {K : PySem.W.Frag} {mg : Str → Option Value} {base : Heap} {T : Tb} {C : Addr}
abbrev spPick (T : Tb) (K : PySem.W.Frag) : Sp := spS T (fun d : (Addr × Addr) × List PyData => [sV (.ref d.1.1), sD K (.list d.2)]) (fun d => tpM K d.1) (fun d => d.1.1 ≠ d.1.2 ∧ 0 < d.2.length ∧ d.2.length ≤ 100000) (fun d => sEx (fun z => z ∈ d.2) fun z => sD K z)
theorem fd_pick (bf : Bf mg) (t : Tf K mg) (l : Lf K mg) : FD P w K mg base 3 "_law_pick" ["tape", "several"] (spPick T K) :=
  l.pick.fd (fun _ _ _ _ _ _ us hl => match us, hl with | [_, _], _ => rfl) fun f fd F hm => by
    refine fn_bodyM F sc__law_pick (fun _ => rfl) fun ⟨⟨tp, lg⟩, ds⟩ ⟨hne, h1, h2⟩ cdv A outer s I H E D hr hret hend => ?_
    have hne : tp ≠ lg := hne
    have h1 : 0 < ds.length := h1
    have h2 : ds.length ≤ 100000 := h2
    refine tr_retS (ds_ix (S := sEx (fun z => z ∈ ds) fun z => sD K z) ix_list (rd_exR fun r hr => ?_) (ds_of (dv 1)) (ds_draw (n := ds.length) (d := (tp, lg)) bf t hr (Nat.le_refl _) hne (fun m hm => hm) (by omega) (ds_of (dv 0)) (ds_of (de_lenL bf.len (dv 1))))) fun v σ I H s' p => hret () v I H trivial s'.gr p s'.sl.mu
    exact RD2.imp (rd_ixLD (List.getElem?_eq_getElem hr)) fun v I z => ⟨_, List.getElem_mem hr, z⟩
theorem ds_pick {B : Bg} {X : Cx} {Γ : Ct} {M : Mt} {e1 e2 : Expr} {k : Nat} {ds : List PyData} {p pos : Pos} {d : Addr × Addr} (bf : Bf X.mg) (t : Tf X.K X.mg) (l : Lf X.K X.mg) (hr : Room k X.A) (hk : 3 ≤ k) (hd : d.1 ≠ d.2) (hM : ∀ m ∈ tpM X.K d, m ∈ M) (hn : 0 < ds.length ∧ ds.length ≤ 100000) (h1 : DS B X Γ M e1 (sV (.ref d.1))) (h2 : DS B X Γ M e2 (sD X.K (.list ds))) (hg : Gl X "_law_pick" := by rfl)
    (he : starEach [e1, e2] X.env = (false, eval e1 X.env) :: starEach [e2] X.env := by rfl) (he2 : starEach [e2] X.env = (false, eval e2 X.env) :: starEach [] X.env := by rfl) (hpl : (backTo pos (starEach [e2] X.env)).any (·.1) = false := by rfl) :
    DS B X Γ M (.Call (.Name "_law_pick" p) [e1, e2] [] pos) (sEx (fun z => z ∈ ds) fun z => sD X.K z) :=
  ds_call (fd_pick bf t l) hr hk (d, ds) ⟨hd, hn.1, hn.2⟩ hM (tpM_nd hd) (dsa_cons h1 (dsa_one h2 he2) he) hg (by decide) he hpl
abbrev spMade (T : Tb) (K : PySem.W.Frag) (C : Addr) : Sp := spD T (fun d : Wt => [sD K (eWt d)]) (fun d => d.Ok) (fun d => sW K C d)
theorem fd_made (m : Pf T K mg base) (W : Wf K mg C) (l : Lf K mg) : FD P w K mg base 9 "_law_made" ["watch"] (spMade T K C) :=
  l.made.fd (fun _ _ _ _ _ _ us hl => match us, hl with | [_], _ => rfl) fun f fd F hm => by
    refine fn_body F sc__law_made (fun _ => rfl) fun wt ok cdv A outer s I H E D hr hret hend => ?_
    have p2 : wt.moves.length ≤ 6 := ok.p2
    refine tr_ret (de_W m W hr (Nat.le_refl _) wt ok (DE.imp (de_lc0 (as := wt.moves) (j := 1) (Si := fun l => sD K (eT eN l)) (F := fun l => sSD K (l.map eN)) rfl sc__law_made.nd (di_Tf (f := eT eN) (xs := wt.moves) (de_ixT (k := 0) (dv 0) de_int rfl)) (by omega) (blkOk_by (N := n__law_made) (sc := defScope s__law_made) (by decide +kernel)) (fun _ _ _ _ _ => pg_name sc__law_made.nd rfl (.inl rfl)) ?_) fun _ _ => sLst_seq) (DE.imp (de_listD m.bf.list (DE.st (de_ixT (k := 1) (d := eT eN wt.words) (dv 0) de_int rfl))) fun _ _ z => .inl z)) hret
    intro l hl s0 H0 C0 cl fp
    exact (de_listD m.bf.list (DE.st (dv 1))).sl
/-- a drawn row -/
def OkR (k n : Nat) (row : List Nat) : Prop := row.length ≤ n ∧ ∀ g ∈ row, g < k
abbrev spLRow (T : Tb) (K : PySem.W.Frag) : Sp := spS T (fun d : (Addr × Addr) × Wt × Nat => [sV (.ref d.1.1), sD K (eWt d.2.1), sD K (eN d.2.2)]) (fun d => tpM K d.1) (fun d => d.1.1 ≠ d.1.2 ∧ d.2.1.Ok ∧ d.2.2 ≤ 1000) (fun d => sEx (OkR d.2.1.kinds d.2.2) fun row => sD K (eT eN row))
theorem de_k0 {X : Cx} {Γ : Ct} {M : Mt} {e : Expr} {wt : Wt} {i j : Nat} {p1 p2 p3 p : Pos} (bf : Bf X.mg) (ok : wt.Ok) (h : DE T X Γ M e (sD X.K (eWt wt))) (hg : Gl X "len" := by rfl) (he : starEach [Expr.Subscript (.Subscript e (.Constant (.int 0) i p1) p2) (.Constant (.int 0) j p3) p] X.env = (false, eval (Expr.Subscript (.Subscript e (.Constant (.int 0) i p1) p2) (.Constant (.int 0) j p3) p) X.env) :: starEach [] X.env := by rfl) {pl pos : Pos} (hpl : (backTo pos (starEach [] X.env)).any (·.1) = false := by rfl) : DE T X Γ M (.Call (.Name "len" pl) [.Subscript (.Subscript e (.Constant (.int 0) i p1) p2) (.Constant (.int 0) j p3) p] [] pos) (sD X.K (eN wt.kinds)) := by
  obtain ⟨l, ls, e1, e2⟩ := ok.cons
  exact (de_lenT bf.len (ds := l.map eN) (de_ixT (k := 0) (ds := wt.moves.map (eT eN)) (de_ixT (k := 0) h de_int rfl) de_int (by rw [e1]; rfl)) hg he hpl).is (by rw [List.length_map, e2])
theorem fd_lrow (bf : Bf mg) (t : Tf K mg) (l : Lf K mg) : FD P w K mg base 3 "_law_row" ["tape", "watch", "most"] (spLRow T K) :=
  l.row.fd (fun _ _ _ _ _ _ us hl => match us, hl with | [_, _, _], _ => rfl) fun f fd F hm => by
    refine fn_bodyM F sc__law_row (fun _ => rfl) fun ⟨⟨tp, lg⟩, wt, most⟩ ⟨hne, ok, h2⟩ cdv A outer s I H E D hr hret hend => ?_
    have hne : tp ≠ lg := hne
    have h2 : most ≤ 1000 := h2
    have ok : wt.Ok := ok
    have k1 := ok.k1
    have k2 := ok.k2
    refine tr_retS (S := sEx (OkR wt.kinds most) fun row => sD K (eT eN row)) (DS.imp (ds_tupleE bf.tuple (DS.imp (ds_lc (j := 3) (C := fun n : Nat => n ≤ most) (as := fun n => List.range n) (Si := fun p => sD K (eN p)) (F := fun _ => sBelow K wt.kinds) rfl sc__law_row.nd (dsi_range1 (fun n hn => by omega) bf.range (DS.imp (ds_draw (n := most + 1) (d := (tp, lg)) bf t hr (Nat.le_refl _) hne (fun m hm => hm) (by omega) (ds_of (dv 0)) (ds_of ((de_add (dv 2) de_int).is rfl))) fun v I ⟨r, hr, z⟩ => ⟨r, by omega, z⟩)) (fun n hn => by rw [List.length_range]; omega) (blkOk_by (N := n__law_row) (sc := defScope s__law_row) (by decide +kernel)) (fun _ _ _ _ _ => pg_name sc__law_row.nd rfl (.inl rfl)) ?_) fun v I ⟨u, cu, z⟩ => ⟨u, cu, sLst_seq z⟩)) ?_) fun v σ I H s' p => hret () v I H trivial s'.gr p s'.sl.mu
    · intro n hn p hp M' hM' s0 H0 C0 cl fp
      exact ds_draw (n := wt.kinds) (d := (tp, lg)) bf t hr (Nat.le_refl _) hne (fun m hm => hM' _ hm) (by omega) (ds_of (dv 0)) (ds_of (de_k0 bf ok (dv 1)))
    · rintro v I ⟨u, cu, z⟩
      obtain ⟨ds, ⟨d1, d2⟩, d3⟩ := ex_tup z
      exact ⟨ds, ⟨by rw [d1, List.length_range]; exact cu, d2⟩, d3⟩
abbrev spCommon (T : Tb) (K : PySem.W.Frag) : Sp := spD T (fun d : Nat × Nat => [sD K (eN d.1), sD K (eN d.2)]) (fun d => d.2 ≤ 190) (fun d => sD K (eN (Nat.gcd d.1 d.2)))
theorem fd_common (bf : Bf mg) (l : Lf K mg) : FD P w K mg base 1 "_law_common" ["one", "other"] (spCommon T K) :=
  l.common.fd (fun _ _ _ _ _ _ us hl => match us, hl with | [_, _], _ => rfl) fun f fd F hm => by
    refine fn_body F sc__law_common (fun _ => rfl) fun ⟨a0, b0⟩ hb cdv A outer s I H E D hr hret hend => ?_
    have hb : b0 ≤ 190 := hb
    refine tr_for (j := 2) (δ := Nat × Nat) (Pd := fun k d => Nat.gcd d.1 d.2 = Nat.gcd a0 b0 ∧ d.2 + k ≤ 190) (G := fun _ d => [some (sD K (eN d.1)), some (sD K (eN d.2)), none]) (Mf := fun _ _ => []) PassesOwn.never rfl sc__law_common.nd rfl (di_range1 (n := 200) bf.range (de_int.is rfl) (by decide)) (a0, b0) ⟨rfl, by omega⟩ (.keep (.keep (.drop .nil))) rfl (fun Ah k d S hS hd => ?_) (fun d hd => ?_)
    · obtain ⟨a, b⟩ := d
      obtain ⟨hd1, hd2⟩ := hd
      have hd1 : Nat.gcd a b = Nat.gcd a0 b0 := hd1
      have hd2 : b + k ≤ 190 := hd2
      refine tr_if1 (k := decide (b = 0)) (dt_eqE encN (x := b) (y := 0) (by decide) hr.units (dv 1) de_int) (fun z => ?_) (fun z => ?_)
      · have z : b = 0 := of_decide_eq_true z
        subst z
        refine tr_ret (dv 0) fun v I H g p => hret v I H g ?_
        show (sD K (eN (Nat.gcd a0 b0))).p v I
        rw [← hd1, Nat.gcd_zero_right]
        exact p
      · have z : ¬ b = 0 := of_decide_eq_false z
        have hmod : ((a : Int) % (b : Int)) = ((a % b : Nat) : Int) := by omega
        refine tr_par (i := 0) (j := 1) (Sa := sD K (eN b)) (Sb := sD K (eN (a % b))) sc__law_common.nd rfl rfl rfl (by decide) (dv 1) ((de_mod (de_int1 bf.int (dv 0)) (dv 1) (by omega)).is (by rw [hmod])) ?_
        refine tr_nil fun σ I H s => ⟨(b, a % b), I, ⟨?_, ?_⟩, s.weak (.keep (.keep (.drop .nil)))⟩
        · show Nat.gcd b (a % b) = _
          rw [← hd1, Nat.gcd_comm a b, Nat.gcd_rec b a, Nat.gcd_comm]
        · show a % b + (k + 1) ≤ 190
          have := Nat.mod_lt a (show 0 < b by omega)
          omega
    · have h2 := hd.2
      rw [List.length_map, List.length_range] at h2
      omega
end
end Rm
set_option Elab.async false
set_option linter.all false
set_option maxRecDepth 100000
set_option maxHeartbeats 4000000
namespace Rm
open PySem PySem.Spec PyProof.Rows L2 LamX NdefX
abbrev turnN (many : Nat) : List Nat := (List.range many).map fun s => (s + 1) % many
abbrev swapN (many : Nat) : List Nat := [1, 0] ++ (List.range (many - 2)).map (2 + ·)
/-- a map of many places -/
def MapOf (many : Nat) (k : List Nat) : Prop := k.length = many ∧ ∀ g ∈ k, g < many
theorem turn_map {many : Nat} (h : 2 ≤ many) : MapOf many (turnN many) := ⟨by rw [List.length_map, List.length_range], fun g hg => by
  obtain ⟨s, _, e⟩ := List.mem_map.mp hg
  rw [← e]
  exact Nat.mod_lt _ (by omega)⟩
theorem swap_map {many : Nat} (h : 2 ≤ many) : MapOf many (swapN many) := ⟨by
  rw [List.length_append, List.length_map, List.length_range]
  show 2 + (many - 2) = many
  omega, fun g hg => by
  rcases List.mem_append.mp hg with z | z
  · simp only [List.mem_cons, List.not_mem_nil, or_false] at z
    omega
  · obtain ⟨s, hs, e⟩ := List.mem_map.mp z
    have := List.mem_range.mp hs
    omega⟩
/-- the kinds' maps as a watch's moves -/
abbrev movesN (many : Nat) (ks : List (List Nat)) : List (List Nat) := (List.range many).map fun spot => ks.map fun k => k.getD spot 0
theorem okW_maps {many : Nat} {ks : List (List Nat)} {ws : List Nat} (hm : 1 ≤ many) (h6 : many ≤ 6) (h1 : 1 ≤ ks.length) (h4 : ks.length ≤ 4) (hk : ∀ k ∈ ks, MapOf many k) (hw : ws.length = many ∧ ∀ x ∈ ws, x < 2) : Wt.Ok ⟨movesN many ks, ws⟩ :=
  (okW_of (p := 6) (v := 2) (k := ks.length) hm h6 (Nat.le_refl _) h1 h4 (by decide) ⟨by rw [List.length_map, List.length_range], fun r hr => by
    obtain ⟨s, hs, e⟩ := List.mem_map.mp hr
    rw [← e]
    refine ⟨by rw [List.length_map], fun g hg => ?_⟩
    obtain ⟨k, hk', e2⟩ := List.mem_map.mp hg
    rw [← e2]
    obtain ⟨l1, l2⟩ := hk k hk'
    have hs := List.mem_range.mp hs
    rw [List.getD_eq_getElem?_getD, List.getElem?_eq_getElem (by omega)]
    exact l2 _ (List.getElem_mem _)⟩ hw).1
section
variable {P : Program} {w : World} {K : PySem.W.Frag} {mg : Str → Option Value} {base : Heap} {T : Tb} {C : Addr}
abbrev sAnyW (K : PySem.W.Frag) : SV := sEx Wt.Ok fun wt => sD K (eWt wt)
abbrev spDrawn (T : Tb) (K : PySem.W.Frag) : Sp := spS T (fun d : Addr × Addr => [sV (.ref d.1)]) (fun d => tpM K d) (fun d => d.1 ≠ d.2) (fun _ => sAnyW K)
theorem ds_bits {B : Bg} {X : Cx} {Γ : Ct} {M : Mt} {many j : Nat} {x : Str} {px p1 pos pt : Pos} {scope : Scope} {elt : Expr} (bf : Bf X.mg) (hm : many ≤ 100000) (hN : X.N.Nodup) (hc : X.calm = true) {iter : Expr} (hI : DI B.T X Γ M (.Name x px) iter ((List.range many).map fun i => sD X.K (eN i))) (ok : BlkOk X.N X.env.scope scope [(x, j)])
    (hg : ∀ (s : Shared) (H : Hp) (C : Addr) (cl : List (Str × Addr)) (fp : List Addr), PG (X.blk s H scope (compEnvC scope cl C X.env) fp) (.Name x px) (gName j)) {n : Nat}
    (he : ∀ (a : Nat) (M' : Mt), (∀ m ∈ M, m ∈ M') → ∀ (s : Shared) (H : Hp) (C : Addr) (cl : List (Str × Addr)) (fp : List Addr), DS B (X.blk s H scope (compEnvC scope cl C X.env) fp) (Γ.set j (some (sD X.K (eN a)))) M' elt (sBelow X.K n))
    (hgt : Gl X "tuple" := by rfl) (hst : starEach [.ListComp elt [⟨.Name x px, iter, [], 0⟩] scope pos] X.env = (false, eval (.ListComp elt [⟨.Name x px, iter, [], 0⟩] scope pos) X.env) :: starEach [] X.env := by rfl) (hpl : (backTo pt (starEach [] X.env)).any (·.1) = false := by rfl)
    (hs : ∀ x, foldedSetIterable iter X.env x = pure x := by intro _; rfl) :
    DS B X Γ M (.Call (.Name "tuple" p1) [.ListComp elt [⟨.Name x px, iter, [], 0⟩] scope pos] [] pt) (sEx (fun ws : List Nat => ws.length = many ∧ ∀ x ∈ ws, x < n) fun ws => sD X.K (eT eN ws)) :=
  DS.imp (ds_tupleE bf.tuple (DS.imp (ds_lc (j := j) (C := fun _ : Unit => True) (as := fun _ => List.range many) (Si := fun p => sD X.K (eN p)) (F := fun _ => sBelow X.K n) hc hN (dsi_of hI) (fun _ _ => by rw [List.length_range]; omega) ok hg (fun _ _ a ha M' hM' => he a M' hM') hs) fun v I ⟨u, _, z⟩ => ⟨u, trivial, sLst_seq z⟩) hgt hst hpl) fun v I ⟨u, _, z⟩ => by
    obtain ⟨ds, ⟨d1, d2⟩, d3⟩ := ex_tup z
    exact ⟨ds, ⟨by rw [d1, List.length_range], d2⟩, d3⟩
theorem fd_ringed (bf : Bf mg) (t : Tf K mg) (l : Lf K mg) : FD P w K mg base 4 "_law_ringed" ["tape"] (spDrawn T K) :=
  l.ringed.fd (fun _ _ _ _ _ _ us hl => match us, hl with | [_], _ => rfl) fun f fd F hm => by
    refine fn_bodyM F sc__law_ringed (fun _ => rfl) fun ⟨tp, lg⟩ hne cdv A outer s I H E D hr hret hend => ?_
    have hne : tp ≠ lg := hne
    refine tr_asgS (i := 1) (S := sEx (fun m : Nat => 2 ≤ m ∧ m ≤ 4) fun m => sD K (eN m)) sc__law_ringed.nd rfl (ds_op op_add (rd_exR fun r hr => RD2.imp rd_I0 fun v I z => ⟨2 + r, ⟨by omega, by omega⟩, ?_⟩) (ds_of de_int) (ds_draw (n := 3) (d := (tp, lg)) bf t hr (by decide) hne (fun m hm => hm) (by decide) (ds_of (dv 0)) (ds_of (de_int.is rfl)))) ?_
    · show (sD K (.int ((2 + r : Nat) : Int))).p v I
      rw [Int.natCast_add]
      exact z
    refine tr_pick (C := fun m : Nat => 2 ≤ m ∧ m ≤ 4) (Si := fun m => sD K (eN m)) 1 rfl fun many ⟨m1, m2⟩ => ?_
    refine tr_asg (i := 2) (S := sD K (eT eN (turnN many))) sc__law_ringed.nd rfl ((de_tupleD bf.tuple (DE.sl (DE.imp (de_lc0 (as := List.range many) (j := 3) (Si := fun p => sD K (eN p)) (F := fun s => sD K (eN ((s + 1) % many))) rfl sc__law_ringed.nd (di_range1 bf.range (dv 1) (by omega)) (by rw [List.length_range]; omega) (blkOk_by (N := n__law_ringed) (sc := defScope s__law_ringed) (by decide +kernel)) (fun _ _ _ _ _ => pg_name sc__law_ringed.nd rfl (.inl rfl)) ?_) fun _ _ => sL_map))).is map_eT) ?_
    · intro sp _ s0 H0 C0 cl fp
      have hq : ∀ q : Nat, ((q : Int) % (many : Int)) = ((q % many : Nat) : Int) := fun q => by omega
      have hmod : ((((sp : Int) + 1)) % (many : Int)) = (((sp + 1) % many : Nat) : Int) := by
        have := hq (sp + 1)
        rw [Int.natCast_add] at this
        exact this
      exact (de_mod (de_int1 bf.int (de_add (dv 3) de_int)) (dv 1) (by omega)).is (by rw [hmod])
    refine tr_asg (i := 4) (S := sD K (eT eN (swapN many))) sc__law_ringed.nd rfl (DE.imp (de_tupleS bf.tuple (DE.imp (de_catN (de_lstN (da_cons de_int (da_one de_int)) (by show (2 : Nat) ≤ 1000; decide)) (de_listRange2N (m := 2) (n := many) rfl bf.list bf.range (de_int.is rfl) (dv 1) (by omega) (by decide)) (by rw [List.length_map, List.length_map, List.length_range]; show 2 + (many - 2) ≤ 100000; omega)) fun _ _ z => sLst_seq (sLstN_l z))) fun v I z => ?_) ?_
    · refine sD_tup.mpr ?_
      have e : ((swapN many).map eN).map (sD K) = [sD K (.int 1), sD K (.int 0)] ++ ((List.range (many - 2)).map (2 + ·)).map fun i => sD K (eN i) := by
        unfold swapN
        rw [List.map_append, List.map_append, List.map_map (l := (List.range (many - 2)).map (2 + ·))]
        rfl
      rw [e]
      exact z
    refine tr_asgS (i := 5) (S := sEx (fun ks : List (List Nat) => 1 ≤ ks.length ∧ ks.length ≤ 2 ∧ ∀ k ∈ ks, MapOf many k) fun ks => sD K (eL (eT eN) ks)) sc__law_ringed.nd rfl (DS.imp (ds_pick (ds := [.list [eT eN (turnN many)], .list [eT eN (turnN many), eT eN (swapN many)], .list [eT eN (swapN many), eT eN (turnN many)], .list [eT eN (swapN many), eT eN (swapN many)]]) (d := (tp, lg)) bf t l hr (Nat.le_refl _) hne (fun m hm => hm) (by show 0 < 4 ∧ 4 ≤ 100000; decide) (ds_of (dv 0)) (ds_of (de_lstD (dad_cons (de_lstD (dad_cons (dv 2) dad_nil) (by show (1 : Nat) ≤ 1000; decide)) (dad_cons (de_lstD (dad_cons (dv 2) (dad_cons (dv 4) dad_nil)) (by show (2 : Nat) ≤ 1000; decide)) (dad_cons (de_lstD (dad_cons (dv 4) (dad_cons (dv 2) dad_nil)) (by show (2 : Nat) ≤ 1000; decide)) (dad_cons (de_lstD (dad_cons (dv 4) (dad_cons (dv 4) dad_nil)) (by show (2 : Nat) ≤ 1000; decide)) dad_nil)))) (by show (4 : Nat) ≤ 1000; decide)))) fun v I ⟨z, hz, pz⟩ => ?_) ?_
    · have ht := turn_map m1
      have hs := swap_map m1
      simp only [List.mem_cons, List.not_mem_nil, or_false] at hz
      rcases hz with e | e | e | e <;> subst e
      · exact ⟨[turnN many], ⟨by show (1 : Nat) ≤ 1; decide, by show (1 : Nat) ≤ 2; decide, fun k hk => by simp only [List.mem_cons, List.not_mem_nil, or_false] at hk; rw [hk]; exact ht⟩, pz⟩
      · exact ⟨[turnN many, swapN many], ⟨by show (1 : Nat) ≤ 2; decide, by show (2 : Nat) ≤ 2; decide, fun k hk => by simp only [List.mem_cons, List.not_mem_nil, or_false] at hk; rcases hk with hk | hk <;> rw [hk] <;> assumption⟩, pz⟩
      · exact ⟨[swapN many, turnN many], ⟨by show (1 : Nat) ≤ 2; decide, by show (2 : Nat) ≤ 2; decide, fun k hk => by simp only [List.mem_cons, List.not_mem_nil, or_false] at hk; rcases hk with hk | hk <;> rw [hk] <;> assumption⟩, pz⟩
      · exact ⟨[swapN many, swapN many], ⟨by show (1 : Nat) ≤ 2; decide, by show (2 : Nat) ≤ 2; decide, fun k hk => by simp only [List.mem_cons, List.not_mem_nil, or_false] at hk; rcases hk with hk | hk <;> rw [hk] <;> assumption⟩, pz⟩
    refine tr_pick (C := fun ks : List (List Nat) => 1 ≤ ks.length ∧ ks.length ≤ 2 ∧ ∀ k ∈ ks, MapOf many k) (Si := fun ks => sD K (eL (eT eN) ks)) 5 rfl fun ks ⟨k1, k2, k3⟩ => ?_
    refine tr_retS (ds_tup (dsa_cons (S := sEx (fun _ : Unit => True) fun _ => sD K (eT (eT eN) (movesN many ks))) (ds_of (DE.imp (de_tupleS bf.tuple (DE.imp (de_lc0 (as := List.range many) (j := 3) (Si := fun p => sD K (eN p)) (F := fun sp => sD K (eT eN (ks.map fun k => k.getD sp 0))) rfl sc__law_ringed.nd (di_range1 bf.range (dv 1) (by omega)) (by rw [List.length_range]; omega) (blkOk_by (N := n__law_ringed) (sc := defScope s__law_ringed) (by decide +kernel)) (fun _ _ _ _ _ => pg_name sc__law_ringed.nd rfl (.inr rfl)) ?_) fun _ _ => sLst_seq)) fun v I z => ⟨(), trivial, sD_tup.mpr ?_⟩)) (dsa_one (ds_bits (n := 2) (many := many) (j := 3) bf (by omega) sc__law_ringed.nd rfl (di_range1 bf.range (dv 1) (by omega)) (blkOk_by (N := n__law_ringed) (sc := defScope s__law_ringed) (by decide +kernel)) (fun _ _ _ _ _ => pg_name sc__law_ringed.nd rfl (.inl rfl)) fun a M' hM' s0 H0 C0 cl fp => ds_draw (n := 2) (d := (tp, lg)) bf t hr (by decide) hne (fun m hm => hM' _ hm) (by decide) (ds_of (dv 0)) (ds_of (de_int.is rfl))))) (by show (2 : Nat) ≤ 1000; decide)) fun v σ I H s' p => ?_
    · intro sp hsp s0 H0 C0 cl fp
      refine ((de_tupleD bf.tuple (DE.sl (DE.imp (de_lc0 (as := ks) (j := 6) (Si := fun k => sD K (eT eN k)) (F := fun k => sD K (eN (k.getD sp 0))) rfl sc__law_ringed.nd (di_Lf (f := eT eN) (xs := ks) (dv 5)) (by omega) (blkOk_by (N := n__law_ringed) (by rfl)) (fun _ _ _ _ _ => pg_name sc__law_ringed.nd rfl (.inl rfl)) ?_) fun _ _ => sL_map))).is map_eT)
      intro k hk s1 H1 C1 cl1 fp1
      refine de_ixT (ds := k.map eN) (k := sp) (dv 6) (dv 3) (get_map ?_)
      rw [(k3 k hk).1]
      exact List.mem_range.mp hsp
    · rw [List.map_map, List.map_map]
      exact z
    · obtain ⟨_, ws, _, c2, z⟩ := ex_tup2 p
      exact hret () v I H trivial s'.gr ⟨⟨movesN many ks, ws⟩, okW_maps (by omega) (by omega) k1 (by omega) k3 c2, z⟩ s'.sl.mu
/-- how a counting kind leads -/
abbrev cntN (many : Nat) (top : Bool) (w s : Nat) : Nat := if top then min (s + w) (many - 1) else (s + w) % many
theorem okW_cnt {many : Nat} {top : Bool} {wts ws : List Nat} (hm : 1 ≤ many) (h6 : many ≤ 6) (h1 : 1 ≤ wts.length) (h4 : wts.length ≤ 4) (hw : ws.length = many ∧ ∀ x ∈ ws, x < 2) : Wt.Ok ⟨(List.range many).map fun s => wts.map fun w => cntN many top w s, ws⟩ :=
  (okW_of (p := 6) (v := 2) (k := wts.length) hm h6 (Nat.le_refl _) h1 h4 (by decide) ⟨by rw [List.length_map, List.length_range], fun r hr => by
    obtain ⟨s, hs, e⟩ := List.mem_map.mp hr
    rw [← e]
    refine ⟨by rw [List.length_map], fun g hg => ?_⟩
    obtain ⟨k, hk', e2⟩ := List.mem_map.mp hg
    rw [← e2]
    unfold cntN
    split
    · exact Nat.lt_of_le_of_lt (Nat.min_le_right _ _) (by omega)
    · exact Nat.mod_lt _ (by omega)⟩ hw).1
theorem fd_counting (bf : Bf mg) (t : Tf K mg) (l : Lf K mg) : FD P w K mg base 4 "_law_counting" ["tape"] (spDrawn T K) :=
  l.counting.fd (fun _ _ _ _ _ _ us hl => match us, hl with | [_], _ => rfl) fun f fd F hm => by
    refine fn_bodyM F sc__law_counting (fun _ => rfl) fun ⟨tp, lg⟩ hne cdv A outer s I H E D hr hret hend => ?_
    have hne : tp ≠ lg := hne
    refine tr_unp3S (i := 1) (j := 2) (l := 3) (Sa := sEx (fun m : Nat => 2 ≤ m ∧ m ≤ 5) fun m => sD K (eN m)) (Sb := sEx (fun m : Nat => 1 ≤ m ∧ m ≤ 3) fun m => sD K (eN m)) (Sc := sEx (fun _ : Bool => True) fun b => sD K (.bool b)) sc__law_counting.nd rfl rfl rfl rfl
      (ds_tup (dsa_cons (ds_op op_add (rd_exR fun r hr => RD2.imp rd_I0 fun v I z => ⟨2 + r, ⟨by omega, by omega⟩, ?_⟩) (ds_of de_int) (ds_draw (n := 4) (d := (tp, lg)) bf t hr (by decide) hne (fun m hm => hm) (by decide) (ds_of (dv 0)) (ds_of (de_int.is rfl))))
      (dsa_cons (ds_op op_add (rd_exR fun r hr => RD2.imp rd_I0 fun v I z => ⟨1 + r, ⟨by omega, by omega⟩, ?_⟩) (ds_of de_int) (ds_draw (n := 3) (d := (tp, lg)) bf t hr (by decide) hne (fun m hm => hm) (by decide) (ds_of (dv 0)) (ds_of (de_int.is rfl))))
      (dsa_one (ds_cmp (op_eqD hr.units) (nomark _) (rd_exL fun r _ => RD2.imp (rd_eqD (d := eN r) (e := .int 0) rfl rfl) fun v I z => ⟨_, trivial, z⟩) (ds_draw (n := 2) (d := (tp, lg)) bf t hr (by decide) hne (fun m hm => hm) (by decide) (ds_of (dv 0)) (ds_of (de_int.is rfl))) (ds_of de_int))))) (by show (3 : Nat) ≤ 1000; decide)) ?_
    · show (sD K (.int ((2 + r : Nat) : Int))).p v I
      rw [Int.natCast_add]
      exact z
    · show (sD K (.int ((1 + r : Nat) : Int))).p v I
      rw [Int.natCast_add]
      exact z
    refine tr_pick (C := fun m : Nat => 2 ≤ m ∧ m ≤ 5) (Si := fun m => sD K (eN m)) 1 rfl fun many ⟨m1, m2⟩ => ?_
    refine tr_pick (C := fun m : Nat => 1 ≤ m ∧ m ≤ 3) (Si := fun m => sD K (eN m)) 2 rfl fun kinds ⟨k1, k2⟩ => ?_
    refine tr_pick (C := fun _ : Bool => True) (Si := fun b => sD K (.bool b)) 3 rfl fun top _ => ?_
    refine tr_asgLcS (i := 4) (j := 5) (C := fun _ : Unit => True) (as := fun _ => List.range kinds) (Si := fun p => sD K (eN p)) (F := fun _ => sBelow K many) (Sr := sEx (fun ds : List Nat => ds.length = kinds ∧ ∀ d ∈ ds, d < many) fun ds => sD K (eL eN ds)) sc__law_counting.nd rfl rfl (dsi_of (di_range1 bf.range (dv 2) (by omega))) (fun _ _ => by rw [List.length_range]; omega) (blkOk_by (N := n__law_counting) (sc := defScope s__law_counting) (by decide +kernel)) (fun _ _ _ _ _ => pg_name sc__law_counting.nd rfl (.inl rfl)) (fun _ _ a ha M' hM' s0 H0 C0 cl fp => ds_draw (n := many) (d := (tp, lg)) bf t hr (by decide) hne (fun m hm => hM' _ hm) (by omega) (ds_of (dv 0)) (ds_of (dv 1))) (fun v I ⟨u, _, z⟩ => by
        obtain ⟨ds, ⟨d1, d2⟩, d3⟩ := ex_lst z
        exact ⟨ds, ⟨by rw [d1, List.length_range], d2⟩, d3⟩) ?_
    refine tr_pick (C := fun ds : List Nat => ds.length = kinds ∧ ∀ d ∈ ds, d < many) (Si := fun ds => sD K (eL eN ds)) 4 rfl fun wts ⟨w1, w2⟩ => ?_
    refine tr_newLd (i := 6) (Ss := []) sc__law_counting.nd rfl da_nil (by decide) fun qm hqm => ?_
    refine tr_for (j := 7) (δ := Unit) (Pd := fun _ _ => True) (G := fun _ _ => [some (sV (.ref tp)), some (sD K (eN many)), none, some (sD K (.bool top)), some (sD K (eL eN wts)), none, some (sV (.ref qm)), none, none]) (Mf := fun k _ => (qm, mL ((List.range k).map fun s => sD K (eT eN (wts.map fun w => cntN many top w s)))) :: tpM K (tp, lg)) PassesOwn.never rfl sc__law_counting.nd rfl (di_range1 bf.range (dv 1) (by omega)) () trivial (.keep (.keep (.drop (.keep (.keep (.keep (.keep (.keep (.keep .nil))))))))) rfl (fun Ah k _ S hS _ => ?_) (fun _ _ => ?_)
    · rw [List.getElem?_map] at hS
      have hk : k < many := by
        cases hx : (List.range many)[k]? with
        | none => rw [hx] at hS; cases hS
        | some a =>
          have := (List.getElem?_eq_some_iff.mp hx).1
          rwa [List.length_range] at this
      rw [List.getElem?_range hk] at hS
      cases hS
      refine tr_append (q := qm) (S := sD K (eT eN (wts.map fun w => cntN many top w k))) 0 rfl (dv 6) ((de_tupleD bf.tuple (DE.sl (DE.imp (de_lc0 (as := wts) (j := 8) (Si := fun p => sD K (eN p)) (F := fun w => sD K (eN (cntN many top w k))) rfl sc__law_counting.nd (di_Lf (f := eN) (xs := wts) (dv 4)) (by omega) (blkOk_by (N := n__law_counting) (sc := defScope s__law_counting) (by decide +kernel)) (fun _ _ _ _ _ => pg_name sc__law_counting.nd rfl (.inl rfl)) ?_) fun _ _ => sL_map))).is map_eT) (by rw [List.length_map, List.length_range]; omega) ?_
      · intro wv hwv s0 H0 C0 cl fp
        refine de_if (c := top) (dt_val (dv 3)) (fun z => ?_) (fun z => ?_)
        · refine (de_min2 rfl l.min (de_add (dv 7) (dv 8)) (de_sub (dv 1) de_int)).is ?_
          rw [z]
          show PyData.int _ = PyData.int (((min (k + wv) (many - 1) : Nat)) : Int)
          congr 1
          split <;> omega
        · have hq : ∀ q : Nat, ((q : Int) % (many : Int)) = ((q % many : Nat) : Int) := fun q => by omega
          refine (de_mod (de_int1 bf.int (de_add (dv 7) (dv 8))) (dv 1) (by omega)).is ?_
          rw [z]
          have := hq (k + wv)
          rw [Int.natCast_add] at this
          show PyData.int _ = PyData.int _
          rw [this]
          rfl
      · refine tr_nil fun σ I H s' => ⟨(), I, trivial, ?_⟩
        have e : (List.range (k + 1)).map (fun s => sD K (eT eN (wts.map fun w => cntN many top w s))) = (List.range k).map (fun s => sD K (eT eN (wts.map fun w => cntN many top w s))) ++ [sD K (eT eN (wts.map fun w => cntN many top w k))] := by
          rw [List.range_succ, List.map_append]
          rfl
        rw [← e] at s'
        exact s'.weak (.keep (.keep (.keep (.keep (.keep (.keep (.keep (.drop (.drop .nil)))))))))
    · refine tr_frz (q := qm) 0 6 rfl rfl (by
        intro z
        have z : qm ∈ [tp, lg] := z
        simp only [List.mem_cons, List.not_mem_nil, or_false] at z
        rcases z with z | z
        · exact hqm (tp, mTape K lg) (List.mem_cons_self ..) z.symm
        · exact hqm (lg, mBig K) (List.mem_cons_of_mem _ (List.mem_cons_self ..)) z.symm) ?_
      refine tr_retS (ds_tup (dsa_cons (S := sEx (fun _ : Unit => True) fun _ => sD K (eT (eT eN) ((List.range many).map fun s => wts.map fun w => cntN many top w s))) (ds_of (DE.imp (de_tupleS bf.tuple ((dv 6).imp fun _ _ => sLst_seq)) fun v I z => ⟨(), trivial, sD_tup.mpr ?_⟩)) (dsa_one (ds_bits (n := 2) (many := many) (j := 7) bf (by omega) sc__law_counting.nd rfl (di_range1 bf.range (dv 1) (by omega)) (blkOk_by (N := n__law_counting) (sc := defScope s__law_counting) (by decide +kernel)) (fun _ _ _ _ _ => pg_name sc__law_counting.nd rfl (.inl rfl)) fun a M' hM' s0 H0 C0 cl fp => ds_draw (n := 2) (d := (tp, lg)) bf t hr (by decide) hne (fun m hm => hM' _ hm) (by decide) (ds_of (dv 0)) (ds_of (de_int.is rfl))))) (by show (2 : Nat) ≤ 1000; decide)) fun v σ I H s' p => ?_
      · rw [List.map_map, List.map_map]
        rw [List.length_map, List.length_range] at z
        exact z
      · obtain ⟨_, ws, _, c2, z⟩ := ex_tup2 p
        exact hret () v I H trivial s'.gr ⟨⟨_, ws⟩, okW_cnt (by omega) (by omega) (by omega) (by omega) c2, z⟩ s'.sl.mu
end
end Rm
set_option linter.all false
/-! How joined maps come round: plain. -/
namespace Rm
/-- what the index and the period tell -/
theorem TP.per {one : List Nat} {x : Nat × Nat} (h : TP one x) (hs : Self one) {a : Nat} (ha : x.1 ≤ a) : powN one (a + x.2) = powN one a := by
  obtain ⟨h1, h2, h3⟩ := h
  have e : a + x.2 = (x.1 + x.2) + (a - x.1) := by omega
  have e2 : a = x.1 + (a - x.1) := by omega
  rw [e, ← thenN_pow hs, h2, thenN_pow hs, ← e2]
theorem TP.pers {one : List Nat} {x : Nat × Nat} (h : TP one x) (hs : Self one) {a : Nat} (ha : x.1 ≤ a) : ∀ k, powN one (a + x.2 * k) = powN one a
  | 0 => by rw [Nat.mul_zero, Nat.add_zero]
  | k + 1 => by rw [Nat.mul_succ, ← Nat.add_assoc, h.per hs (by omega), h.pers hs ha k]
/-- a number's like below index and period -/
def redN (x : Nat × Nat) (a : Nat) : Nat := if a < x.1 then a else x.1 + (a - x.1) % x.2
theorem TP.red {one : List Nat} {x : Nat × Nat} (h : TP one x) (hs : Self one) (a : Nat) : powN one a = powN one (redN x a) ∧ redN x a < x.1 + x.2 := by
  unfold redN
  split
  · exact ⟨rfl, by have := h.1; omega⟩
  · have hm := Nat.mod_lt (a - x.1) (show 0 < x.2 from h.1)
    refine ⟨?_, by omega⟩
    have e : a = (x.1 + (a - x.1) % x.2) + x.2 * ((a - x.1) / x.2) := by
      have := Nat.mod_add_div (a - x.1) x.2
      omega
    rw [e, h.pers hs (by omega), ← e]
theorem TP.iff {one : List Nat} {x : Nat × Nat} (h : TP one x) (hs : Self one) {a b : Nat} (hab : a < b) : powN one a = powN one b ↔ x.1 ≤ a ∧ x.2 ∣ b - a := by
  obtain ⟨e1, l1⟩ := h.red hs a
  obtain ⟨e2, l2⟩ := h.red hs b
  have inj : ∀ u v, u < x.1 + x.2 → v < x.1 + x.2 → powN one u = powN one v → u = v := fun u v hu hv e => by
    rcases Nat.lt_trichotomy u v with z | z | z
    · exact absurd e (h.2.2 u v z hv)
    · exact z
    · exact absurd e.symm (h.2.2 v u z hu)
  constructor
  · intro e
    have er := inj _ _ l1 l2 (by rw [← e1, ← e2]; exact e)
    unfold redN at er
    by_cases ha : a < x.1
    · rw [if_pos ha] at er
      split at er <;> omega
    · rw [if_neg ha, if_neg (by omega)] at er
      refine ⟨by omega, ?_⟩
      have hm : (a - x.1) % x.2 = (b - x.1) % x.2 := by omega
      have : b - a = (b - x.1) - (a - x.1) := by omega
      rw [this]
      exact Nat.dvd_of_mod_eq_zero (Nat.sub_mod_eq_zero_of_mod_eq hm.symm)
  · rintro ⟨h1, k, hk⟩
    have : b = a + x.2 * k := by omega
    rw [this, h.pers hs h1]
theorem TP.of {one : List Nat} {x : Nat × Nat} (h1 : 1 ≤ x.2) (h : ∀ a b, a < b → (powN one a = powN one b ↔ x.1 ≤ a ∧ x.2 ∣ b - a)) : TP one x := by
  refine ⟨h1, ((h x.1 (x.1 + x.2) (by omega)).mpr ⟨Nat.le_refl _, 1, by omega⟩).symm, fun a b hab hb e => ?_⟩
  obtain ⟨z1, z2⟩ := (h a b hab).mp e
  have := Nat.le_of_dvd (by omega) z2
  omega
/-- a map's powers' powers -/
theorem thenN_self {f g : List Nat} (hf : Self f) (hg : Self g) (hl : f.length = g.length) : Self (thenN f g) ∧ (thenN f g).length = f.length := by
  have l : (thenN f g).length = f.length := by unfold thenN; rw [List.length_map]
  refine ⟨fun z hz => ?_, l⟩
  rw [l]
  obtain ⟨p, hp, e⟩ := List.mem_map.mp hz
  rw [← e, hl]
  exact hg.get (by rw [← hl]; exact hf p hp)
theorem thenN_get {f g : List Nat} {p : Nat} (hp : p < f.length) : (thenN f g).getD p 0 = g.getD (f.getD p 0) 0 := by
  unfold thenN
  rw [List.getD_eq_getElem?_getD, List.getElem?_map, List.getElem?_eq_getElem hp, List.getD_eq_getElem?_getD (l := f), List.getElem?_eq_getElem hp]
  rfl
/-- joined the other way -/
theorem go_turn {f g : List Nat} (hf : Self f) (hg : Self g) (hl : f.length = g.length) : ∀ (n : Nat) {p : Nat}, p < f.length → goN (thenN f g) (n + 1) p = g.getD (goN (thenN g f) n (f.getD p 0)) 0
  | 0, p, hp => thenN_get hp
  | n + 1, p, hp => by
    have hF := thenN_self hf hg hl
    have hG := thenN_self hg hf hl.symm
    show (thenN f g).getD (goN (thenN f g) (n + 1) p) 0 = g.getD ((thenN g f).getD (goN (thenN g f) n (f.getD p 0)) 0) 0
    have b1 : goN (thenN f g) (n + 1) p < f.length := by
      have := goN_lt hF.1 (n + 1) (p := p) (by rw [hF.2]; exact hp)
      rwa [hF.2] at this
    have b2 : goN (thenN g f) n (f.getD p 0) < g.length := by
      have := goN_lt hG.1 n (p := f.getD p 0) (by rw [hG.2, ← hl]; exact hf.get hp)
      rwa [hG.2] at this
    rw [thenN_get b1, thenN_get b2, go_turn hf hg hl n hp]
theorem pow_turn {f g : List Nat} (hf : Self f) (hg : Self g) (hl : f.length = g.length) {a b : Nat} (h : powN (thenN g f) a = powN (thenN g f) b) : powN (thenN f g) (a + 1) = powN (thenN f g) (b + 1) := by
  have hF := thenN_self hf hg hl
  have hG := thenN_self hg hf hl.symm
  rw [powN_ext] at h ⊢
  intro p hp
  rw [hF.2] at hp
  rw [go_turn hf hg hl a hp, go_turn hf hg hl b hp, h _ (by rw [hG.2, ← hl]; exact hf.get hp)]
theorem tp_turn1 {f g : List Nat} (hf : Self f) (hg : Self g) (hl : f.length = g.length) {x y : Nat × Nat} (hx : TP (thenN f g) x) (hy : TP (thenN g f) y) : x.1 ≤ y.1 + 1 ∧ x.2 ∣ y.2 := by
  have h := pow_turn hf hg hl (a := y.1) (b := y.1 + y.2) hy.2.1.symm
  have := (hx.iff (thenN_self hf hg hl).1 (a := y.1 + 1) (b := y.1 + y.2 + 1) (by have := hy.1; omega)).mp h
  refine ⟨this.1, ?_⟩
  have e := this.2
  rwa [show y.1 + y.2 + 1 - (y.1 + 1) = y.2 by omega] at e
/-- joined either way: one period, indexes at most one apart -/
theorem tp_turn {f g : List Nat} (hf : Self f) (hg : Self g) (hl : f.length = g.length) {x y : Nat × Nat} (hx : TP (thenN f g) x) (hy : TP (thenN g f) y) : x.2 = y.2 ∧ x.1 ≤ y.1 + 1 ∧ y.1 ≤ x.1 + 1 := by
  obtain ⟨h1, h2⟩ := tp_turn1 hf hg hl hx hy
  obtain ⟨h3, h4⟩ := tp_turn1 hg hf hl.symm hy hx
  exact ⟨Nat.dvd_antisymm h2 h4, h1, h3⟩
/-- maps whose order does not matter -/
theorem go_both {f g : List Nat} (hf : Self f) (hg : Self g) (hl : f.length = g.length) (hc : thenN f g = thenN g f) : ∀ (n : Nat) {p : Nat}, p < f.length → goN (thenN f g) n p = goN g n (goN f n p) ∧ goN g n (f.getD p 0) = f.getD (goN g n p) 0
  | 0, p, hp => ⟨rfl, rfl⟩
  | n + 1, p, hp => by
    have hF := thenN_self hf hg hl
    have cm : ∀ q, q < f.length → g.getD (f.getD q 0) 0 = f.getD (g.getD q 0) 0 := fun q hq => by
      rw [← thenN_get hq, hc, thenN_get (by rw [← hl]; exact hq)]
    obtain ⟨i1, i2⟩ := go_both hf hg hl hc n hp
    have bg : goN g n p < f.length := by rw [hl]; exact goN_lt hg n (by rw [← hl]; exact hp)
    have bf : goN f n p < f.length := goN_lt hf n hp
    have bh : goN (thenN f g) n p < f.length := by
      have := goN_lt hF.1 n (p := p) (by rw [hF.2]; exact hp)
      rwa [hF.2] at this
    have c2 : goN g (n + 1) (f.getD p 0) = f.getD (goN g (n + 1) p) 0 := by
      show g.getD (goN g n (f.getD p 0)) 0 = f.getD (g.getD (goN g n p) 0) 0
      rw [i2, cm _ bg]
    refine ⟨?_, c2⟩
    show (thenN f g).getD (goN (thenN f g) n p) 0 = g.getD (goN g n (f.getD (goN f n p) 0)) 0
    rw [thenN_get bh, i1]
    obtain ⟨_, j2⟩ := go_both hf hg hl hc n bf
    rw [j2]
theorem tp_both {f g : List Nat} (hf : Self f) (hg : Self g) (hl : f.length = g.length) (hc : thenN f g = thenN g f) {x y z : Nat × Nat} (hx : TP (thenN f g) x) (hy : TP f y) (hz : TP g z) : x.1 ≤ max y.1 z.1 ∧ x.2 ∣ Nat.lcm y.2 z.2 := by
  have hF := thenN_self hf hg hl
  have hL : 0 < Nat.lcm y.2 z.2 := Nat.lcm_pos hy.1 hz.1
  have e : powN (thenN f g) (max y.1 z.1) = powN (thenN f g) (max y.1 z.1 + Nat.lcm y.2 z.2) := by
    rw [powN_ext]
    intro p hp
    rw [hF.2] at hp
    rw [(go_both hf hg hl hc _ hp).1, (go_both hf hg hl hc _ hp).1]
    have e1 : powN f (max y.1 z.1 + Nat.lcm y.2 z.2) = powN f (max y.1 z.1) := by
      obtain ⟨k, hk⟩ := Nat.dvd_lcm_left y.2 z.2
      rw [hk]
      exact hy.pers hf (Nat.le_max_left _ _) k
    have e2 : powN g (max y.1 z.1 + Nat.lcm y.2 z.2) = powN g (max y.1 z.1) := by
      obtain ⟨k, hk⟩ := Nat.dvd_lcm_right y.2 z.2
      rw [hk]
      exact hz.pers hg (Nat.le_max_right _ _) k
    rw [powN_ext] at e1 e2
    rw [e1 p hp, e2 _ (by rw [← hl]; exact goN_lt hf _ hp)]
  obtain ⟨h1, h2⟩ := (hx.iff hF.1 (by omega)).mp e
  exact ⟨h1, by rwa [show max y.1 z.1 + Nat.lcm y.2 z.2 - max y.1 z.1 = Nat.lcm y.2 z.2 by omega] at h2⟩
/-- powers of powers -/
theorem go_pow {f : List Nat} (hf : Self f) (k : Nat) : ∀ (n : Nat) {p : Nat}, p < f.length → goN (powN f k) n p = goN f (k * n) p
  | 0, p, hp => by rw [Nat.mul_zero]; rfl
  | n + 1, p, hp => by
    show (powN f k).getD (goN (powN f k) n p) 0 = _
    rw [go_pow hf k n hp, powN_get (goN_lt hf _ hp), ← goN_add, Nat.mul_succ]
theorem pow_pow {f : List Nat} (hf : Self f) (k n : Nat) : powN (powN f k) n = powN f (k * n) := by
  rw [powN_eq (powN f k) n, powN_len, powN_eq f (k * n)]
  exact List.map_congr_left fun p hp => go_pow hf k n (List.mem_range.mp hp)
theorem tp_times {f : List Nat} (hf : Self f) {x : Nat × Nat} (hx : TP f x) {k : Nat} (hk : 1 ≤ k) : TP (powN f k) ((x.1 + k - 1) / k, x.2 / Nat.gcd x.2 k) := by
  have hg : 0 < Nat.gcd x.2 k := Nat.gcd_pos_of_pos_left _ hx.1
  have hd : Nat.gcd x.2 k ∣ x.2 := Nat.gcd_dvd_left _ _
  refine TP.of (Nat.div_pos (Nat.le_of_dvd hx.1 hd) hg) fun a b hab => ?_
  rw [pow_pow hf, pow_pow hf, hx.iff hf (Nat.mul_lt_mul_of_pos_left hab hk)]
  refine and_congr ?_ ?_
  · show x.1 ≤ k * a ↔ (x.1 + k - 1) / k ≤ a
    rw [Nat.div_le_iff_le_mul_add_pred hk]
    omega
  · show x.2 ∣ k * b - k * a ↔ x.2 / Nat.gcd x.2 k ∣ b - a
    rw [← Nat.mul_sub]
    constructor
    · intro h
      have h2 : x.2 / Nat.gcd x.2 k ∣ (k / Nat.gcd x.2 k) * (b - a) := by
        have hk2 : Nat.gcd x.2 k ∣ k := Nat.gcd_dvd_right _ _
        rw [← Nat.mul_div_right_comm hk2]
        exact Nat.div_dvd_div hd h
      exact (Nat.coprime_div_gcd_div_gcd hg).dvd_of_dvd_mul_left h2
    · intro h
      obtain ⟨c, hc⟩ := h
      obtain ⟨u, hu⟩ := Nat.gcd_dvd_right x.2 k
      refine ⟨u * c, ?_⟩
      have e := Nat.div_mul_cancel hd
      rw [hc]
      calc k * (x.2 / Nat.gcd x.2 k * c) = Nat.gcd x.2 k * u * (x.2 / Nat.gcd x.2 k * c) := by rw [← hu]
        _ = (x.2 / Nat.gcd x.2 k * Nat.gcd x.2 k) * (u * c) := by
          rw [Nat.mul_comm (Nat.gcd x.2 k) u, Nat.mul_assoc, Nat.mul_assoc, Nat.mul_left_comm (Nat.gcd x.2 k), Nat.mul_left_comm u, Nat.mul_left_comm u]
        _ = x.2 * (u * c) := by rw [e]
end Rm
set_option Elab.async false
set_option linter.all false
set_option maxRecDepth 100000
set_option maxHeartbeats 4000000
namespace Rm
open PySem PySem.Spec PyProof.Rows L2 LamX NdefX
theorem ledN_app (moves : List (List Nat)) (p : Nat) (u v : List Nat) : ledN moves p (u ++ v) = ledN moves (ledN moves p u) v := by
  unfold ledN
  rw [List.foldl_append]
theorem mapN_get {moves : List (List Nat)} {row : List Nat} {p : Nat} (hp : p < moves.length) : (mapN moves row).getD p 0 = ledN moves p row := getD_of (by unfold mapN; rw [List.getElem?_map, List.getElem?_range hp]; rfl)
theorem mapN_app {wt : Wt} (ok : wt.Ok) {u : List Nat} (v : List Nat) (hu : ∀ a ∈ u, a < wt.kinds) : mapN wt.moves (u ++ v) = thenN (mapN wt.moves u) (mapN wt.moves v) := by
  unfold thenN
  show _ = ((List.range wt.moves.length).map fun p => ledN wt.moves p u).map _
  rw [List.map_map]
  refine List.map_congr_left fun p hp => ?_
  show ledN wt.moves p (u ++ v) = (mapN wt.moves v).getD (ledN wt.moves p u) 0
  rw [mapN_get (ok.led u (List.mem_range.mp hp) hu), ledN_app]
theorem mapN_rep {wt : Wt} (ok : wt.Ok) {u : List Nat} (hu : ∀ a ∈ u, a < wt.kinds) : ∀ k, mapN wt.moves (List.replicate k u).flatten = powN (mapN wt.moves u) k
  | 0 => by
    show mapN wt.moves [] = List.range (mapN wt.moves u).length
    rw [(ok.mapSelf hu).2]
    show (List.range wt.moves.length).map (fun p => p) = _
    rw [List.map_id']
  | k + 1 => by
    rw [List.replicate_succ, List.flatten_cons, mapN_app ok _ hu, mapN_rep ok hu k]
    have hs := (ok.mapSelf hu).1
    have e := thenN_pow hs 1 k
    rw [powN_one hs] at e
    rw [e, Nat.add_comm]
theorem Wt.Ok.tp {wt : Wt} (ok : wt.Ok) {u : List Nat} (hu : ∀ a ∈ u, a < wt.kinds) : TP (mapN wt.moves u) (tp (mapN wt.moves u)) ∧ (tp (mapN wt.moves u)).1 + (tp (mapN wt.moves u)).2 ≤ 66 := by
  have hs := ok.mapSelf hu
  have h6 : (mapN wt.moves u).length ≤ 6 := by rw [hs.2]; exact ok.p2
  exact ⟨tp_tp hs.1 h6, tp_le hs.1 h6⟩
structure Xf (K : PySem.W.Frag) (mg : Str → Option Value) : Prop where
  joined : Df K mg "_law_joined_right" s__law_joined_right
  times : Df K mg "_law_times_right" s__law_times_right
  turns : Df K mg "_law_turns_right" s__law_turns_right
  book : Df K mg "_law_book_right" s__law_book_right
section
variable {P : Program} {w : World} {K : PySem.W.Frag} {mg : Str → Option Value} {base : Heap} {T : Tb} {C : Addr}
abbrev eTp (x : Nat × Nat) : PyData := .tuple [eN x.1, eN x.2]
theorem de_ip {X : Cx} {Γ : Ct} {M : Mt} {e1 e2 : Expr} {k : Nat} {p pos : Pos} {wt : Wt} {row : List Nat} (m : Pf T X.K X.mg X.base) (W : Wf X.K X.mg C) (q : Qf X.K X.mg) (hr : Room k X.A) (hk : 7 ≤ k) (ok : wt.Ok) (hrow : Rk wt row) (h1 : DE T X Γ M e1 (sW X.K C wt)) (h2 : DE T X Γ M e2 (sD X.K (eT eN row))) (hg : Gl X "index_period" := by rfl)
    (he : starEach [e1, e2] X.env = (false, eval e1 X.env) :: starEach [e2] X.env := by rfl) (he2 : starEach [e2] X.env = (false, eval e2 X.env) :: starEach [] X.env := by rfl) (hpl : (backTo pos (starEach [e2] X.env)).any (·.1) = false := by rfl) : DE T X Γ M (.Call (.Name "index_period" p) [e1, e2] [] pos) (sD X.K (eTp (tp (mapN wt.moves row)))) :=
  de_call (fd_index m W q) hr hk (wt, row) ⟨ok, hrow⟩ (da_cons h1 (da_one (DE.st h2) he2) he) hg (by decide) he hpl
theorem de_mo {X : Cx} {Γ : Ct} {M : Mt} {e1 e2 : Expr} {k : Nat} {p pos : Pos} {wt : Wt} {row : List Nat} (m : Pf T X.K X.mg X.base) (W : Wf X.K X.mg C) (q : Qf X.K X.mg) (hr : Room k X.A) (hk : 7 ≤ k) (ok : wt.Ok) (hrow : Rk wt row) (h1 : DE T X Γ M e1 (sW X.K C wt)) (h2 : DE T X Γ M e2 (sD X.K (eT eN row))) (hg : Gl X "map_of" := by rfl)
    (he : starEach [e1, e2] X.env = (false, eval e1 X.env) :: starEach [e2] X.env := by rfl) (he2 : starEach [e2] X.env = (false, eval e2 X.env) :: starEach [] X.env := by rfl) (hpl : (backTo pos (starEach [e2] X.env)).any (·.1) = false := by rfl) : DE T X Γ M (.Call (.Name "map_of" p) [e1, e2] [] pos) (sD X.K (eT eN (mapN wt.moves row))) :=
  de_call (fd_mapOf m W q) hr hk (wt, row) ⟨ok, hrow⟩ (da_cons h1 (da_one (DE.st h2) he2) he) hg (by decide) he hpl
/-- a row of the law -/
def Rl (wt : Wt) (n : Nat) (row : List Nat) : Prop := row.length ≤ n ∧ ∀ a ∈ row, a < wt.kinds
theorem Rl.app {wt : Wt} {n k : Nat} {u v : List Nat} (h1 : Rl wt n u) (h2 : Rl wt k v) (h : n + k ≤ 300) : Rk wt (u ++ v) := ⟨by rw [List.length_append]; have := h1.1; have := h2.1; omega, fun a ha => (List.mem_append.mp ha).elim (h1.2 a) (h2.2 a)⟩
abbrev spJoin (T : Tb) (K : PySem.W.Frag) (C : Addr) : Sp := spD T (fun d : Wt × List Nat × List Nat => [sW K C d.1, sD K (eT eN d.2.1), sD K (eT eN d.2.2)]) (fun d => d.1.Ok ∧ Rl d.1 100 d.2.1 ∧ Rl d.1 100 d.2.2) (fun _ => sD K (.bool true))
theorem fd_joined (m : Pf T K mg base) (W : Wf K mg C) (q : Qf K mg) (l : Lf K mg) (x : Xf K mg) : FD P w K mg base 8 "_law_joined_right" ["here", "one", "other"] (spJoin T K C) :=
  x.joined.fd (fun _ _ _ _ _ _ us hl => match us, hl with | [_, _, _], _ => rfl) fun f fd F hm => by
    refine fn_body F sc__law_joined_right (fun _ => rfl) fun ⟨wt, u, v⟩ ⟨ok, hu, hv⟩ cdv A outer s I H E D hr hret hend => ?_
    have ok : wt.Ok := ok
    have hu : Rl wt 100 u := hu
    have hv : Rl wt 100 v := hv
    have huv := hu.app hv (by decide)
    have hvu := hv.app hu (by decide)
    have su := ok.mapSelf hu.2
    have sv := ok.mapSelf hv.2
    have hl : (mapN wt.moves u).length = (mapN wt.moves v).length := by rw [su.2, sv.2]
    obtain ⟨t1, b1⟩ := ok.tp huv.2
    obtain ⟨t2, b2⟩ := ok.tp hvu.2
    have ct : u.length + v.length ≤ 100000 := by have := hu.1; have := hv.1; omega
    have ct' : v.length + u.length ≤ 100000 := by omega
    rw [mapN_app ok _ hu.2] at t1
    rw [mapN_app ok _ hv.2] at t2
    obtain ⟨c1, c2, c3⟩ := tp_turn su.1 sv.1 hl t1 t2
    rw [← mapN_app ok _ hu.2] at c1 c2 c3 t1
    rw [← mapN_app ok _ hv.2] at c1 c2 c3 t2
    obtain ⟨i1, p1, e1⟩ : ∃ i p, tp (mapN wt.moves (u ++ v)) = (i, p) := ⟨_, _, rfl⟩
    obtain ⟨i2, p2, e2⟩ : ∃ i p, tp (mapN wt.moves (v ++ u)) = (i, p) := ⟨_, _, rfl⟩
    rw [e1] at c1 c2 c3 t1 b1
    rw [e2] at c1 c2 c3 b2
    simp only at c1 c2 c3 b1 b2
    refine tr_par (i := 3) (j := 4) (Sa := sD K (eTp (i1, p1))) (Sb := sD K (eTp (i2, p2))) sc__law_joined_right.nd rfl rfl rfl (by decide) ((de_ip m W q hr (Nat.le_refl _) ok huv (dv 0) (de_catT (dv 1) (dv 2) ct)).is (by rw [e1])) ((de_ip m W q hr (Nat.le_refl _) ok hvu (dv 0) (de_catT (dv 2) (dv 1) ct')).is (by rw [e2])) ?_
    refine tr_skip (DW.dt (dw_or (c := false) (c' := false) ((dt_neE encN (x := p1) (y := p2) (by decide) hr.units (de_ixT (k := 1) (d := eN p1) (dv 3) de_int rfl) (de_ixT (k := 1) (d := eN p2) (dv 4) de_int rfl)).is (by rw [decide_eq_true c1]; rfl)) fun _ => dw_or1 ((dt_not (dt_lele (de_neg de_int) (de_sub (de_ixT (k := 0) (d := eN i1) (dv 3) de_int rfl) (de_ixT (k := 0) (d := eN i2) (dv 4) de_int rfl)) de_int)).is (by rw [decide_eq_true (by omega), decide_eq_true (by omega)]; rfl)))) ?_
    refine tr_if1 (k := !decide (mapN wt.moves (u ++ v) = mapN wt.moves (v ++ u))) (dt_neE (encT encN) (by decide) hr.units (de_mo m W q hr (Nat.le_refl _) ok huv (dv 0) (de_catT (dv 1) (dv 2) ct)) (de_mo m W q hr (Nat.le_refl _) ok hvu (dv 0) (de_catT (dv 2) (dv 1) ct'))) (fun _ => tr_ret de_bl hret) (fun z => ?_)
    have hc : thenN (mapN wt.moves u) (mapN wt.moves v) = thenN (mapN wt.moves v) (mapN wt.moves u) := by
      rw [← mapN_app ok _ hu.2, ← mapN_app ok _ hv.2]
      cases hd : decide (mapN wt.moves (u ++ v) = mapN wt.moves (v ++ u)) with
      | true => exact of_decide_eq_true hd
      | false => rw [hd] at z; cases z
    obtain ⟨t3, b3⟩ := ok.tp hu.2
    obtain ⟨t4, b4⟩ := ok.tp hv.2
    rw [mapN_app ok _ hu.2] at t1
    obtain ⟨d1, d2⟩ := tp_both su.1 sv.1 hl hc t1 t3 t4
    obtain ⟨i3, p3, e3⟩ : ∃ i p, tp (mapN wt.moves u) = (i, p) := ⟨_, _, rfl⟩
    obtain ⟨i4, p4, e4⟩ : ∃ i p, tp (mapN wt.moves v) = (i, p) := ⟨_, _, rfl⟩
    rw [e3] at d1 d2 t3 b3
    rw [e4] at d1 d2 t4 b4
    simp only at d1 d2 b3 b4
    have q3 : 1 ≤ p3 := t3.1
    have q4 : 1 ≤ p4 := t4.1
    have q1 : 1 ≤ p1 := t1.1
    have ru : Rk wt u := ⟨by have := hu.1; omega, hu.2⟩
    have rv : Rk wt v := ⟨by have := hv.1; omega, hv.2⟩
    have hgp : 0 < Nat.gcd p3 p4 := Nat.gcd_pos_of_pos_left _ q3
    have hgl : Nat.gcd p3 p4 ≤ p3 := Nat.le_of_dvd q3 (Nat.gcd_dvd_left _ _)
    refine tr_par (i := 5) (j := 6) (Sa := sD K (eTp (i3, p3))) (Sb := sD K (eTp (i4, p4))) sc__law_joined_right.nd rfl rfl rfl (by decide) ((de_ip m W q hr (Nat.le_refl _) ok ru (dv 0) (dv 1)).is (by rw [e3])) ((de_ip m W q hr (Nat.le_refl _) ok rv (dv 0) (dv 2)).is (by rw [e4])) ?_
    refine tr_asg (i := 7) (S := sD K (eN (Nat.lcm p3 p4))) sc__law_joined_right.nd rfl ((de_fdiv (de_mul (de_ixT (k := 1) (d := eN p3) (dv 5) de_int rfl) (de_ixT (k := 1) (d := eN p4) (dv 6) de_int rfl) (.inr (by omega))) (de_call (fd_common m.bf l) hr (by decide) (p3, p4) (by show p4 ≤ 190; omega) (da_cons (de_ixT (k := 1) (d := eN p3) (dv 5) de_int rfl) (da_one (de_ixT (k := 1) (d := eN p4) (dv 6) de_int rfl)))) (by show (0 : Int) < (Nat.gcd p3 p4 : Nat) ∧ ((Nat.gcd p3 p4 : Nat) : Int) < 1073741824; omega)).is ?_) ?_
    · show PyData.int (((p3 : Int) * (p4 : Int)) / ((Nat.gcd p3 p4 : Nat) : Int)) = PyData.int ((Nat.lcm p3 p4 : Nat) : Int)
      unfold Nat.lcm
      rw [← Int.natCast_mul]
      congr 1
    · refine tr_ret ((de_and (c := true) (c' := true) ((de_eqE encN (x := Nat.lcm p3 p4 % p1) (y := 0) (by decide) hr.units ((de_mod (dv 7) (de_ixT (k := 1) (d := eN p1) (dv 3) de_int rfl) (by omega)).is (by rw [← Int.natCast_emod])) de_int).is (by rw [decide_eq_true (Nat.mod_eq_zero_of_dvd d2)])) fun _ => de_one ((de_le (de_ixT (k := 0) (d := eN i1) (dv 3) de_int rfl) (de_max2 rfl l.max (de_ixT (k := 0) (d := eN i3) (dv 5) de_int rfl) (de_ixT (k := 0) (d := eN i4) (dv 6) de_int rfl))).is (by rw [decide_eq_true]; split <;> omega)))) hret
end
end Rm
set_option Elab.async false
set_option linter.all false
set_option maxRecDepth 100000
set_option maxHeartbeats 4000000
namespace Rm
open PySem PySem.Spec PyProof.Rows L2 LamX NdefX
theorem rk_rep {wt : Wt} {n k : Nat} {u : List Nat} (h : Rl wt n u) (hn : n * k ≤ 300) : Rk wt (List.replicate k u).flatten := ⟨by
  rw [lm_len_rep_flat, Nat.mul_comm]
  exact Nat.le_trans (Nat.mul_le_mul_right k h.1) hn, fun a ha => by
  obtain ⟨l, hl, ha⟩ := List.mem_flatten.mp ha
  rw [List.eq_of_mem_replicate hl] at ha
  exact h.2 a ha⟩
section
variable {P : Program} {w : World} {K : PySem.W.Frag} {mg : Str → Option Value} {base : Heap} {T : Tb} {C : Addr}
abbrev spTimes (T : Tb) (K : PySem.W.Frag) (C : Addr) : Sp := spD T (fun d : Wt × List Nat × Nat => [sW K C d.1, sD K (eT eN d.2.1), sD K (eN d.2.2)]) (fun d => d.1.Ok ∧ Rl d.1 5 d.2.1 ∧ 1 ≤ d.2.2 ∧ d.2.2 ≤ 40) (fun _ => sD K (.bool true))
theorem fd_times (m : Pf T K mg base) (W : Wf K mg C) (q : Qf K mg) (l : Lf K mg) (x : Xf K mg) : FD P w K mg base 8 "_law_times_right" ["here", "row", "times"] (spTimes T K C) :=
  x.times.fd (fun _ _ _ _ _ _ us hl => match us, hl with | [_, _, _], _ => rfl) fun f fd F hm => by
    refine fn_body F sc__law_times_right (fun _ => rfl) fun ⟨wt, u, k⟩ ⟨ok, hu, hk1, hk2⟩ cdv A outer s I H E D hr hret hend => ?_
    have ok : wt.Ok := ok
    have hu : Rl wt 5 u := hu
    have hk1 : 1 ≤ k := hk1
    have hk2 : k ≤ 40 := hk2
    have ru : Rk wt u := ⟨by have := hu.1; omega, hu.2⟩
    have rr : Rk wt (List.replicate k u).flatten := rk_rep hu (by omega)
    have su := ok.mapSelf hu.2
    obtain ⟨t1, b1⟩ := ok.tp hu.2
    obtain ⟨t2, b2⟩ := ok.tp rr.2
    rw [mapN_rep ok hu.2] at t2
    obtain ⟨i, p, e⟩ : ∃ i p, tp (mapN wt.moves u) = (i, p) := ⟨_, _, rfl⟩
    rw [e] at t1 b1
    have t3 := tp_times su.1 t1 hk1
    have et := t2.uniq t3
    have e2 : tp (mapN wt.moves (List.replicate k u).flatten) = ((i + k - 1) / k, p / Nat.gcd p k) := by rw [mapN_rep ok hu.2]; exact et
    have q1 : 1 ≤ p := t1.1
    simp only at b1
    have hgp : 0 < Nat.gcd p k := Nat.gcd_pos_of_pos_left _ q1
    have hgl : Nat.gcd p k ≤ p := Nat.le_of_dvd q1 (Nat.gcd_dvd_left _ _)
    refine tr_unp (i := 3) (j := 4) (Sa := sD K (eN i)) (Sb := sD K (eN p)) sc__law_times_right.nd rfl rfl rfl (DE.imp ((de_ip m W q hr (Nat.le_refl _) ok ru (dv 0) (dv 1)).is (by rw [e])) fun _ _ => sD_tup.mp) ?_
    refine tr_asg (i := 5) (S := sD K (eP eN eN ((i + k - 1) / k, p / Nat.gcd p k))) sc__law_times_right.nd rfl ((de_tupD (ds := [eN ((i + k - 1) / k), eN (p / Nat.gcd p k)]) (dad_cons ((de_fdiv (de_sub (de_add (dv 3) (dv 2)) de_int) (dv 2) (by omega)).is ?_) (dad_cons ((de_fdiv (dv 4) (de_call (fd_common m.bf l) hr (by decide) (p, k) (by show k ≤ 190; omega) (da_cons (dv 4) (da_one (dv 2)))) (by show (0 : Int) < (Nat.gcd p k : Nat) ∧ ((Nat.gcd p k : Nat) : Int) < 1073741824; omega)).is ?_) dad_nil)) (by show (2 : Nat) ≤ 1000; decide)).is rfl) ?_
    · rw [show ((i : Int) + (k : Int) - 1) = ((i + k - 1 : Nat) : Int) by omega, ← Int.natCast_ediv]
    · show PyData.int ((p : Int) / ((Nat.gcd p k : Nat) : Int)) = _
      rw [← Int.natCast_ediv]
    · refine tr_ret ((de_eqE (f := eP eN eN) (encP encN encN) (x := tp (mapN wt.moves (List.replicate k u).flatten)) (y := ((i + k - 1) / k, p / Nat.gcd p k)) (by decide) hr.units (de_ip m W q hr (Nat.le_refl _) ok rr (dv 0) (de_repT (dv 1) (dv 2) (by have := hu.1; omega) (by omega))) (dv 5)).is (by rw [decide_eq_true e2])) hret
theorem de_mp {X : Cx} {Γ : Ct} {M : Mt} {e1 e2 e3 : Expr} {k : Nat} {p pos : Pos} {wt : Wt} {row : List Nat} {n : Nat} (m : Pf T X.K X.mg X.base) (W : Wf X.K X.mg C) (q : Qf X.K X.mg) (hr : Room k X.A) (hk : 7 ≤ k) (ok : wt.Ok) (hrow : Rk wt row) (hn : n ≤ 1000000000000000000) (h1 : DE T X Γ M e1 (sW X.K C wt)) (h2 : DE T X Γ M e2 (sD X.K (eT eN row))) (h3 : DE T X Γ M e3 (sD X.K (eN n))) (hg : Gl X "map_power" := by rfl)
    (he : starEach [e1, e2, e3] X.env = (false, eval e1 X.env) :: starEach [e2, e3] X.env := by rfl) (he2 : starEach [e2, e3] X.env = (false, eval e2 X.env) :: starEach [e3] X.env := by rfl) (he3 : starEach [e3] X.env = (false, eval e3 X.env) :: starEach [] X.env := by rfl) (hpl : (backTo pos (starEach [e2, e3] X.env)).any (·.1) = false := by rfl) : DE T X Γ M (.Call (.Name "map_power" p) [e1, e2, e3] [] pos) (sD X.K (eT eN (powN (mapN wt.moves row) n))) :=
  de_call (fd_mapPower m W q) hr hk (wt, row, n) ⟨ok, hrow, hn⟩ (da_cons h1 (da_cons (DE.st h2) (da_one h3 he3) he2) he) hg (by decide) he hpl
abbrev spTR (T : Tb) (K : PySem.W.Frag) (C : Addr) : Sp := spS T (fun d : (Addr × Addr) × Wt × List Nat => [sV (.ref d.1.1), sW K C d.2.1, sD K (eT eN d.2.2)]) (fun d => tpM K d.1) (fun d => d.1.1 ≠ d.1.2 ∧ d.2.1.Ok ∧ Rl d.2.1 100 d.2.2) (fun _ => sD K (.bool true))
theorem fd_turnsR (m : Pf T K mg base) (W : Wf K mg C) (q : Qf K mg) (t : Tf K mg) (x : Xf K mg) : FD P w K mg base 8 "_law_turns_right" ["tape", "here", "row"] (spTR T K C) :=
  x.turns.fd (fun _ _ _ _ _ _ us hl => match us, hl with | [_, _, _], _ => rfl) fun f fd F hm => by
    refine fn_bodyM F sc__law_turns_right (fun _ => rfl) fun ⟨⟨tp', lg⟩, wt, u⟩ ⟨hne, ok, hu⟩ cdv A outer s I H E D hr hret hend => ?_
    have hne : tp' ≠ lg := hne
    have ok : wt.Ok := ok
    have hu : Rl wt 100 u := hu
    have ru : Rk wt u := ⟨by have := hu.1; omega, hu.2⟩
    have su := ok.mapSelf hu.2
    obtain ⟨t1, b1⟩ := ok.tp hu.2
    obtain ⟨ix, pe, e⟩ : ∃ i p, tp (mapN wt.moves u) = (i, p) := ⟨_, _, rfl⟩
    rw [e] at t1 b1
    simp only at b1
    have q1 : 1 ≤ pe := t1.1
    refine tr_unp (i := 3) (j := 4) (Sa := sD K (eN ix)) (Sb := sD K (eN pe)) sc__law_turns_right.nd rfl rfl rfl (DE.imp ((de_ip m W q hr (Nat.le_refl _) ok ru (dv 1) (dv 2)).is (by rw [e])) fun _ _ => sD_tup.mp) ?_
    refine tr_for (j := 5) (δ := Unit) (Pd := fun _ _ => True) (G := fun _ _ => [some (sV (.ref tp')), some (sW K C wt), some (sD K (eT eN u)), some (sD K (eN ix)), some (sD K (eN pe)), none, none, none, none]) (Mf := fun _ _ => tpM K (tp', lg)) PassesOwn.never rfl sc__law_turns_right.nd rfl (di_range1 (n := u.length) m.bf.range ((de_lenT m.bf.len (ds := u.map eN) (dv 2)).is (by rw [List.length_map])) (by have := hu.1; omega)) () trivial (.keep (.keep (.keep (.keep (.keep (.drop (.drop (.drop (.drop .nil))))))))) rfl (fun Ah k _ S hS _ => ?_) (fun _ _ => ?_)
    · rw [List.getElem?_map] at hS
      have hk : k < u.length := by
        cases hx : (List.range u.length)[k]? with
        | none => rw [hx] at hS; cases hS
        | some a =>
          have := (List.getElem?_eq_some_iff.mp hx).1
          rwa [List.length_range] at this
      rw [List.getElem?_range hk] at hS
      cases hS
      have ha : ∀ a ∈ u.take k, a < wt.kinds := fun a h => hu.2 a (List.mem_of_mem_take h)
      have hb : ∀ a ∈ u.drop k, a < wt.kinds := fun a h => hu.2 a (List.mem_of_mem_drop h)
      have sa := ok.mapSelf ha
      have sb := ok.mapSelf hb
      have rt : Rk wt (u.drop k ++ u.take k) := ⟨by rw [List.length_append, List.length_drop, List.length_take]; have := hu.1; omega, fun a h => (List.mem_append.mp h).elim (hb a) (ha a)⟩
      obtain ⟨t2, b2⟩ := ok.tp rt.2
      obtain ⟨i2, p2, e2⟩ : ∃ i p, tp (mapN wt.moves (u.drop k ++ u.take k)) = (i, p) := ⟨_, _, rfl⟩
      rw [e2] at t2 b2
      rw [mapN_app ok _ hb] at t2
      have t1' : TP (thenN (mapN wt.moves (u.take k)) (mapN wt.moves (u.drop k))) (ix, pe) := by
        rw [← mapN_app ok _ ha, List.take_append_drop]
        exact t1
      obtain ⟨c1, c2, c3⟩ := tp_turn sb.1 sa.1 (by rw [sa.2, sb.2]) t2 t1'
      simp only at c1 c2 c3
      refine tr_asg (i := 6) (S := sD K (eTp (i2, p2))) sc__law_turns_right.nd rfl ((de_ip m W q hr (Nat.le_refl _) ok rt (dv 1) (de_catT ((de_slD (ds := u.map eN) (dv 2) (do_some (dv 5)) do_none).is (by rw [cutL_from]; unfold eT; rw [List.map_drop])) ((de_slD (ds := u.map eN) (dv 2) do_none (do_some (dv 5))).is (by rw [cutL_to]; unfold eT; rw [List.map_take])) (by rw [List.length_drop, List.length_take]; have := hu.1; omega))).is (by rw [e2])) ?_
      refine tr_skip (DW.dt (dw_or (c := false) (c' := false) ((dt_neE encN (x := p2) (y := pe) (by decide) hr.units (de_ixT (k := 1) (d := eN p2) (dv 6) de_int rfl) (dv 4)).is (by rw [decide_eq_true c1]; rfl)) fun _ => dw_or1 ((dt_not (dt_lele (de_neg de_int) (de_sub (de_ixT (k := 0) (d := eN i2) (dv 6) de_int rfl) (dv 3)) de_int)).is (by rw [decide_eq_true (by omega), decide_eq_true (by omega)]; rfl)))) ?_
      exact tr_nil fun σ I H s' => ⟨(), I, trivial, s'.weak (.keep (.keep (.keep (.keep (.keep (.drop (.drop (.keep (.keep .nil)))))))))⟩
    · have p6 : ((10 : Int) ^ ((6 : Int).toNat)) = ((1000000 : Nat) : Int) := by decide
      have p9 : ((10 : Int) ^ ((9 : Int).toNat)) = ((1000000000 : Nat) : Int) := by decide
      refine tr_parS (i := 7) (j := 8) (Sa := sEx (fun a : Nat => ix ≤ a ∧ a ≤ ix + 1000000) fun a => sD K (eN a)) (Sb := sBelow K 1000000000) sc__law_turns_right.nd rfl rfl rfl (by decide)
        (ds_op op_add (rd_exR fun r hr => RD2.imp rd_I0 fun v I z => ⟨ix + r, ⟨by omega, by omega⟩, ?_⟩) (ds_of (dv 3)) (ds_draw (n := 1000000) (d := (tp', lg)) m.bf t hr (by decide) hne (fun m hm => hm) (by decide) (ds_of (dv 0)) (ds_of ((de_pow de_int de_int (by decide)).is (by rw [p6])))))
        (ds_draw (n := 1000000000) (d := (tp', lg)) m.bf t hr (by decide) hne (fun m hm => hm) (by decide) (ds_of (dv 0)) (ds_of ((de_pow de_int de_int (by decide)).is (by rw [p9])))) ?_
      · show (sD K (.int ((ix + r : Nat) : Int))).p v I
        rw [Int.natCast_add]
        exact z
      refine tr_pick (C := fun a : Nat => ix ≤ a ∧ a ≤ ix + 1000000) (Si := fun m => sD K (eN m)) 7 rfl fun far ⟨f1, f2⟩ => ?_
      refine tr_pick (C := fun a : Nat => a < 1000000000) (Si := fun m => sD K (eN m)) 8 rfl fun rounds hrd => ?_
      have hb9 : rounds * pe ≤ 1000000000 * 66 := Nat.mul_le_mul (by omega) (by omega)
      refine tr_skip ((dt_neE (encT encN) (x := powN (mapN wt.moves u) (far + rounds * pe)) (y := powN (mapN wt.moves u) far) (by decide) hr.units (de_mp m W q hr (Nat.le_refl _) ok ru (by omega) (dv 1) (dv 2) ((de_add (dv 7) (de_mul (dv 8) (dv 4) (.inr (by omega)))).is (by rw [← Int.natCast_mul, ← Int.natCast_add]))) (de_mp m W q hr (Nat.le_refl _) ok ru (by omega) (dv 1) (dv 2) (dv 7))).is ?_) ?_
      · rw [Nat.mul_comm rounds pe, decide_eq_true (t1.pers su.1 f1 rounds)]
        rfl
      · refine tr_retS (ds_of ((de_or (c := decide (ix = 0)) (c' := true) ((de_eqE encN (x := ix) (y := 0) (by decide) hr.units (dv 3) de_int)) fun z => de_one ((de_neE (encT encN) (x := powN (mapN wt.moves u) (ix - 1)) (y := powN (mapN wt.moves u) (ix - 1 + pe)) (by decide) hr.units (de_mp m W q hr (Nat.le_refl _) ok ru (by omega) (dv 1) (dv 2) ((de_sub (dv 3) de_int).is ?_)) (de_mp m W q hr (Nat.le_refl _) ok ru (by omega) (dv 1) (dv 2) ((de_add (de_sub (dv 3) de_int) (dv 4)).is ?_))).is ?_)).is (by rw [Bool.or_true]))) fun v σ I H s' p => hret () v I H trivial s'.gr p s'.sl.mu
        · have z : ¬ ix = 0 := of_decide_eq_false z
          show PyData.int _ = PyData.int _
          congr 1
          omega
        · have z : ¬ ix = 0 := of_decide_eq_false z
          show PyData.int _ = PyData.int _
          congr 1
          omega
        · have z : ¬ ix = 0 := of_decide_eq_false z
          rw [decide_eq_false (t1.2.2 (ix - 1) (ix - 1 + pe) (by omega) (by show ix - 1 + pe < ix + pe; omega))]
          rfl
end
end Rm
set_option Elab.async false
set_option linter.all false
set_option maxRecDepth 100000
set_option maxHeartbeats 4000000
namespace Rm
open PySem PySem.Spec PyProof.Rows L2 LamX NdefX
/-- a method of a class, or its __init__ -/
structure Md (K : PySem.W.Frag) (C : Addr) (m q : Str) (st : Stmt) : Prop where
  ex : ∃ f fd, Meth K C m f ∧ Fun K m q st f fd
/-- the class Mapbook at C -/
structure Bkf (K : PySem.W.Frag) (mg : Str → Option Value) (C : Addr) : Prop where
  at_ : mg "Mapbook" = some (.ref C)
  cls : Cls K C
  na1 : NoAttr K C "own_watch"
  na2 : NoAttr K C "own_entries"
  na3 : NoAttr K C "own_deeds"
  init : ∃ f fd, Mk K C f ∧ Fun K "__init__" "Mapbook.__init__" s_Mapbook_init f fd
  entry : Md K C "entry" "Mapbook.entry" s_Mapbook_entry
  made : Md K C "made" "Mapbook.made" s_Mapbook_made
  do_ : Md K C "do" "Mapbook.do" s_Mapbook_do
  size : Md K C "size" "Mapbook.size" s_Mapbook_size
  does : Md K C "does" "Mapbook.does" s_Mapbook_does
  says : Md K C "says" "Mapbook.says" s_Mapbook_says
  isName : Df K mg "is_entry_name" s_is_entry_name
  cL : ∃ t, mg "MOST_LENGTH" = some (.int 1000000000000000000 t)
  cN : ∃ t, mg "MOST_ENTRIES" = some (.int 60 t)
  cA : ∃ t, mg "LETTERS" = some (.str "abcdefghijklmnopqrstuvwxyz" t)
/-- a book: its watch, what its names stand for, how many deeds -/
structure Bs where
  wt : Wt
  ents : List (Str × List Nat × Nat)
  nd : Nat
abbrev eEnt (e : List Nat × Nat) : PyData := .tuple [eT eN e.1, eN e.2]
abbrev entK (K : PySem.W.Frag) (es : List (Str × List Nat × Nat)) : List (Key × SV) := es.map fun e => (.inr e.1, sD K (eEnt e.2))
abbrev fsB (K : PySem.W.Frag) (CW : Addr) (wt : Wt) (r : Addr × Addr) : List (Str × SV) := [("own_watch", sW K CW wt), ("own_entries", sV (.ref r.1)), ("own_deeds", sV (.ref r.2))]
abbrev bkM (K : PySem.W.Frag) (CW CB : Addr) (a : Addr × Addr × Addr) (b : Bs) : Mt := [(a.1, mIns CB (fsB K CW b.wt a.2)), (a.2.1, mDk (entK K b.ents)), (a.2.2, mL (List.replicate b.nd sTop))]
/-- the name x stands for e -/
def Has (b : Bs) (x : Str) (e : List Nat × Nat) : Prop := b.ents.find? (fun z => decide (z.1 = x)) = some (x, e)
theorem has_vs {K : PySem.W.Frag} {x : Str} {e : List Nat × Nat} : ∀ {es : List (Str × List Nat × Nat)}, es.find? (fun z => decide (z.1 = x)) = some (x, e) → vS (entK K es) (.inr x) = some (sD K (eEnt e))
  | [], h => by cases h
  | z :: es, h => by
    rw [List.find?_cons] at h
    unfold vS entK
    rw [List.map_cons, List.find?_cons]
    by_cases hz : z.1 = x
    · rw [decide_eq_true hz] at h
      have e1 : (Sum.inr z.1 : Key) = .inr x := by rw [hz]
      rw [decide_eq_true e1]
      have h : z = (x, e) := Option.some.inj h
      rw [h]
      rfl
    · rw [decide_eq_false hz] at h
      have e1 : ¬ (Sum.inr z.1 : Key) = .inr x := fun y => hz (Sum.inr.inj y)
      rw [decide_eq_false e1]
      exact has_vs h
theorem none_vs {K : PySem.W.Frag} {x : Str} : ∀ {es : List (Str × List Nat × Nat)}, es.find? (fun z => decide (z.1 = x)) = none → vS (entK K es) (.inr x) = none
  | [], h => rfl
  | z :: es, h => by
    rw [List.find?_cons] at h
    unfold vS entK
    rw [List.map_cons, List.find?_cons]
    by_cases hz : z.1 = x
    · rw [decide_eq_true hz] at h; cases h
    · rw [decide_eq_false hz] at h
      have e1 : ¬ (Sum.inr z.1 : Key) = .inr x := fun y => hz (Sum.inr.inj y)
      rw [decide_eq_false e1]
      exact none_vs h
section
variable {P : Program} {w : World} {K : PySem.W.Frag} {mg : Str → Option Value} {base : Heap} {T : Tb} {CW CB : Addr}
abbrev spBInit (T : Tb) (K : PySem.W.Frag) (CW CB : Addr) : Sp := spInitM T CB (fun wt : Wt => [sW K CW wt]) (fun _ => True) (fun wt (r : Addr × Addr) => fsB K CW wt r) (fun _ r => [(r.1, mDk []), (r.2, mL [])])
theorem md_book (m : Pf T K mg base) (W : Wf K mg CW) (Bk : Bkf K mg CB) : MD P w K mg base 2 "Mapbook" CB ["self", "watch"] (spBInit T K CW CB) := by
  obtain ⟨f, fd, mk, F⟩ := Bk.init
  refine ⟨f, fd, Bk.at_, mk, F.binds fun _ _ _ _ _ _ us hl => match us, hl with | [_, _], _ => rfl, ?_⟩
  refine F.ok sc_Mapbook_init (fun vs H Q E h => ?_) (fun cdv A outer s H vs Q E hr h => ?_)
  · obtain ⟨d, y, I, _, _, h3, _⟩ := h
    exact h3.length.symm
  · obtain ⟨wt, y, I, _, wd, h3, hm, q⟩ := h
    refine ⟨_, ps_ws (X := cxN P w K mg base n_Mapbook_init "Mapbook.__init__" s_Mapbook_init f cdv A outer s H E), ?_⟩
    have key : Tr ⟨T, [y], I, H, []⟩ (cxN P w K mg base n_Mapbook_init "Mapbook.__init__" s_Mapbook_init f cdv A outer s H E) (st0 n_Mapbook_init [sV (.ref y), sW K CW wt]) [(y, mIns CB [])] (defBody s_Mapbook_init) { nx := fun _ H' => Q .non H', rt := Q } := by
      refine tr_expr (de_callD (fd_need_watch m W) hr (by decide) wt trivial (da_one (dv 1)) rfl) ?_
      refine tr_setF (q := y) 0 rfl Bk.cls Bk.na1 rfl (by decide) (dv 1) (dv 0) ?_
      refine tr_setFD (q := y) 0 rfl Bk.cls Bk.na2 rfl (by show (1 : Nat) < 900; decide) (fun r => dv 0) fun r1 => ?_
      refine tr_setFL (q := y) (Ss := []) 1 rfl Bk.cls Bk.na3 rfl (by show (2 : Nat) < 900; decide) da_nil (by decide) (fun r => dv 0) fun r2 => ?_
      refine tr_nil fun σ I' H' s' => ?_
      have nd : [r2, r1, y].Nodup := s'.sl.nd
      simp only [List.nodup_cons, List.mem_cons, List.not_mem_nil, or_false, not_or] at nd
      refine q (r1, r2) .non I' H' s'.gr rfl (fun z hz => ?_) (fun z hz => ?_) ?_
      · refine s'.sl.mu z ?_
        simp only [List.mem_cons, List.not_mem_nil, or_false] at hz
        rcases hz with e | e | e <;> subst e
        · exact List.mem_cons_of_mem _ (List.mem_cons_of_mem _ (List.mem_cons_self ..))
        · exact List.mem_cons_of_mem _ (List.mem_cons_self ..)
        · exact List.mem_cons_self ..
      · simp only [List.mem_cons, List.not_mem_nil, or_false] at hz
        rcases hz with e | e <;> subst e
        · exact (s'.ow (r1, _) (List.mem_cons_of_mem _ (List.mem_cons_self ..))).resolve_right fun z => nd.2.1 (List.mem_singleton.mp z)
        · exact (s'.ow (r2, _) (List.mem_cons_self ..)).resolve_right fun z => nd.1.2 (List.mem_singleton.mp z)
      · show [y, r1, r2].Nodup
        simp only [List.nodup_cons, List.mem_cons, List.not_mem_nil, or_false, not_or]
        exact ⟨⟨fun z => nd.2.1 z.symm, fun z => nd.1.2 z.symm⟩, fun z => nd.1.1 z.symm, not_false, List.nodup_nil⟩
    exact key (L2.start n_Mapbook_init vs) I H ⟨sl_startM h3 hm (by simp), Gr.refl wd, (fun m hm => .inr (by rcases List.mem_cons.mp hm with e | e; exact e ▸ List.mem_cons_self .. ; cases e)), (fun A hA => nomatch hA)⟩
/-! ### reading -/
abbrev aB := Addr × Addr × Addr
abbrev spEntry (T : Tb) (K : PySem.W.Frag) (CW CB : Addr) : Sp := spS T (fun d : aB × Bs × Str × (List Nat × Nat) => [sV (.ref d.1.1), sD K (.str d.2.2.1)]) (fun d => bkM K CW CB d.1 d.2.1) (fun d => Has d.2.1 d.2.2.1 d.2.2.2) (fun d => sD K (eEnt d.2.2.2))
theorem ok_entry (bf : Bf mg) (Bk : Bkf K mg CB) {f : Addr} {fd : FuncData} (F : Fun K "entry" "Mapbook.entry" s_Mapbook_entry f fd) : FnOk P w K mg base CX0 1 f fd ["self", "name"] (spEntry T K CW CB) := by
  refine fn_bodyM F sc_Mapbook_entry (fun _ => rfl) fun ⟨⟨q, r1, r2⟩, b, x, e⟩ hh cdv A outer s I H E D hr hret hend => ?_
  have hh : Has b x e := hh
  have ent : ∀ {pos : Pos}, DE T (cxN P w K mg base n_Mapbook_entry "Mapbook.entry" s_Mapbook_entry f cdv A outer s H E) (st0 n_Mapbook_entry [sV (.ref q), sD K (.str x)]) (bkM K CW CB (q, r1, r2) b) (.Attribute (.Name "self" pos) "own_entries" pos) (sV (.ref r1)) := fun {pos} => de_fldM (q := q) 0 rfl Bk.cls Bk.na2 rfl (dv 0)
  refine tr_skip (DW.dt (dw_or (c := false) (c' := false) (dt_not (c := true) (dt_val (de_isi (r := true) bf.isinstance (dv 1) (de_bltn (t := "str") bf.str (by decide +kernel)) (.ty _) ty_str (kit_ty (by decide +kernel))))) fun _ => dw_or1 ((dt_dnotin (q := r1) (k := .inr x) 1 (hu_of hr) rfl ((dv 1).imp fun _ _ => key_str) (de_fldM (q := q) 0 rfl Bk.cls Bk.na2 rfl (dv 0))).is (by rw [has_vs hh]; rfl)))) ?_
  refine tr_retS (ds_of (de_dget (q := r1) (k := .inr x) 1 (hu_of hr) rfl (de_fldM (q := q) 0 rfl Bk.cls Bk.na2 rfl (dv 0)) ((dv 1).imp fun _ _ => key_str) (has_vs hh))) fun v σ I' H' s' p => hret () v I' H' trivial s'.gr p s'.sl.mu
end
end Rm
set_option Elab.async false
set_option linter.all false
set_option maxRecDepth 100000
set_option maxHeartbeats 4000000
namespace Rm
open PySem PySem.Spec PyProof.Rows L2 LamX NdefX
section
variable {P : Program} {w : World} {K : PySem.W.Frag} {mg : Str → Option Value} {base : Heap} {T : Tb} {CW CB : Addr}
theorem de_entry {B : Bg} {X : Cx} {Γ : Ct} {M0 : Mt} {o e : Expr} {k : Nat} {pos apos : Pos} {q r1 r2 : Addr} {b : Bs} {x : Str} {en : List Nat × Nat} {pl : Sem Bool} (bf : Bf X.mg) (Bk : Bkf X.K X.mg CB) (hr : Room k X.A) (hk : 1 ≤ k) (hh : Has b x en) (ho : DE B.T X Γ (bkM X.K CW CB (q, r1, r2) b ++ M0) o (sV (.ref q))) (he : DE B.T X Γ (bkM X.K CW CB (q, r1, r2) b ++ M0) e (sD X.K (.str x)))
    (hst : starEach (e :: []) X.env = (false, eval e X.env) :: starEach [] X.env := by rfl) (hpl : (backTo pos (starEach [] X.env)).any (·.1) = false := by rfl)
    (ht : eval (.Call (.Attribute o "entry" apos) [e] [] pos) X.env = (do
      let ov ← eval o X.env
      standAt apos.atName
      let (f, first) ← holding [ov] (getMethod ov "entry" pl)
      callWith pos f first (backTo pos (starEach [e] X.env)) (backToKw pos (keywordEach [] X.env))) := by rfl) : DS B X Γ (bkM X.K CW CB (q, r1, r2) b ++ M0) (.Call (.Attribute o "entry" apos) [e] [] pos) (sD X.K (eEnt en)) := by
  obtain ⟨f, fd, hm, F⟩ := Bk.entry.ex
  exact ds_meth (q := q) (C := CB) (M0 := M0) 0 rfl rfl Bk.cls hm (ok_entry bf Bk F) (F.binds fun _ _ _ _ _ _ us hl => match us, hl with | [_, _], _ => rfl) hr hk ((q, r1, r2), b, x, en) hh rfl ho (da_one he hst) rfl hst hpl ht
abbrev spDoes (T : Tb) (K : PySem.W.Frag) (CW CB : Addr) : Sp := spS T (fun d : aB × Bs × Str × (List Nat × Nat) => [sV (.ref d.1.1), sD K (.str d.2.2.1)]) (fun d => bkM K CW CB d.1 d.2.1) (fun d => Has d.2.1 d.2.2.1 d.2.2.2) (fun d => sD K (eT eN d.2.2.2.1))
theorem ok_does (bf : Bf mg) (Bk : Bkf K mg CB) {f : Addr} {fd : FuncData} (F : Fun K "does" "Mapbook.does" s_Mapbook_does f fd) : FnOk P w K mg base CX0 2 f fd ["self", "name"] (spDoes T K CW CB) := by
  refine fn_bodyM F sc_Mapbook_does (fun _ => rfl) fun ⟨⟨q, r1, r2⟩, b, x, e⟩ hh cdv A outer s I H E D hr hret hend => ?_
  exact tr_retS (ds_ix (S := sD K (eT eN e.1)) ix_tup (rd_ixTD (k := 0) rfl) (de_entry (M0 := []) bf Bk hr (Nat.le_refl _) hh (dv 0) (dv 1)) (ds_of de_int)) fun v σ I' H' s' p => hret () v I' H' trivial s'.gr p s'.sl.mu
abbrev spSize (T : Tb) (K : PySem.W.Frag) (CW CB : Addr) : Sp := spS T (fun d : aB × Bs × Str × (List Nat × Nat) => [sV (.ref d.1.1), sD K (.str d.2.2.1)]) (fun d => bkM K CW CB d.1 d.2.1) (fun d => Has d.2.1 d.2.2.1 d.2.2.2) (fun d => sD K (eN d.2.2.2.2))
theorem ok_size (bf : Bf mg) (Bk : Bkf K mg CB) {f : Addr} {fd : FuncData} (F : Fun K "size" "Mapbook.size" s_Mapbook_size f fd) : FnOk P w K mg base CX0 2 f fd ["self", "name"] (spSize T K CW CB) := by
  refine fn_bodyM F sc_Mapbook_size (fun _ => rfl) fun ⟨⟨q, r1, r2⟩, b, x, e⟩ hh cdv A outer s I H E D hr hret hend => ?_
  exact tr_retS (ds_ix (S := sD K (eN e.2)) ix_tup (rd_ixTD (k := 1) rfl) (de_entry (M0 := []) bf Bk hr (Nat.le_refl _) hh (dv 0) (dv 1)) (ds_of de_int)) fun v σ I' H' s' p => hret () v I' H' trivial s'.gr p s'.sl.mu
abbrev spSays (T : Tb) (K : PySem.W.Frag) (CW CB : Addr) : Sp := spS T (fun d : aB × Bs × Str × (List Nat × Nat) => [sV (.ref d.1.1), sD K (.str d.2.2.1)]) (fun d => bkM K CW CB d.1 d.2.1) (fun d => Has d.2.1 d.2.2.1 d.2.2.2 ∧ 0 < d.2.2.2.1.length ∧ d.2.2.2.1.getD 0 0 < d.2.1.wt.words.length) (fun d => sD K (eN (d.2.1.wt.words.getD (d.2.2.2.1.getD 0 0) 0)))
theorem ok_says (bf : Bf mg) (W : Wf K mg CW) (Bk : Bkf K mg CB) {f : Addr} {fd : FuncData} (F : Fun K "says" "Mapbook.says" s_Mapbook_says f fd) : FnOk P w K mg base CX0 3 f fd ["self", "name"] (spSays T K CW CB) := by
  refine fn_bodyM F sc_Mapbook_says (fun _ => rfl) fun ⟨⟨q, r1, r2⟩, b, x, e⟩ ⟨hh, h0, h1⟩ cdv A outer s I H E D hr hret hend => ?_
  have h0 : 0 < e.1.length := h0
  have h1 : e.1.getD 0 0 < b.wt.words.length := h1
  exact tr_retS (ds_ix (S := sD K (eN (b.wt.words.getD (e.1.getD 0 0) 0))) ix_tup (rd_ixTD (ds := b.wt.words.map eN) (k := e.1.getD 0 0) (get_map h1)) (ds_of (de_words W hr (by decide) b.wt (de_fldM (q := q) 0 rfl Bk.cls Bk.na1 rfl (dv 0)))) (ds_ix (S := sD K (eN (e.1.getD 0 0))) ix_tup (rd_ixTD (ds := e.1.map eN) (k := 0) (get_map h0)) (ds_ix (S := sD K (eT eN e.1)) ix_tup (rd_ixTD (k := 0) rfl) (de_entry (M0 := []) bf Bk hr (by decide) hh (dv 0) (dv 1)) (ds_of de_int)) (ds_of de_int))) fun v σ I' H' s' p => hret () v I' H' trivial s'.gr p s'.sl.mu
/-! ### names -/
abbrev letters : Str := "abcdefghijklmnopqrstuvwxyz"
def OkName (x : Str) : Prop := 1 ≤ x.length ∧ x.length ≤ 12 ∧ x.cps.toList.length ≤ 1000 ∧ ∀ c ∈ x.cps.toList, c ∈ letters.cps.toList
abbrev spIsName (T : Tb) (K : PySem.W.Frag) : Sp := spD T (fun d : Str => [sD K (.str d)]) OkName (fun _ => sD K (.bool true))
theorem fd_isName (bf : Bf mg) (Bk : Bkf K mg CB) : FD P w K mg base 1 "is_entry_name" ["thing"] (spIsName T K) :=
  Bk.isName.fd (fun _ _ _ _ _ _ us hl => match us, hl with | [_], _ => rfl) fun f fd F hm => by
    refine fn_body F sc_is_entry_name (fun _ => rfl) fun x ⟨h1, h2, h3, h4⟩ cdv A outer s I H E D hr hret hend => ?_
    refine tr_ret (de_and (c := true) (c' := true) (de_isi (r := true) bf.isinstance (dv 0) (de_bltn (t := "str") bf.str (by decide +kernel)) (.ty _) ty_str (kit_ty (by decide +kernel))) fun _ => de_and (c := true) (c' := true) ((de_lele de_int (de_lenStr (x := x) bf.len (by omega) (dv 0)) de_int).is ?_) fun _ => de_one ((de_all rfl bf.all (bs := x.cps.toList.map fun c => decide (c ∈ letters.cps.toList)) (DE.imp (de_lc0 (as := x.cps.toList) (j := 1) (Si := fun c => sD K (.str (sgn c))) (F := fun c => sD K (.bool (decide (c ∈ letters.cps.toList)))) rfl sc_is_entry_name.nd (di_str (dv 0)) (by omega) (blkOk_by (N := n_is_entry_name) (sc := defScope s_is_entry_name) (by decide +kernel)) (fun _ _ _ _ _ => pg_name sc_is_entry_name.nd rfl (.inl rfl)) ?_) fun _ _ z => by rw [List.map_map]; exact z)).is ?_)) hret
    · show PyData.bool (decide ((1 : Int) ≤ (x.length : Int)) && decide ((x.length : Int) ≤ 12)) = .bool true
      rw [decide_eq_true (by omega), decide_eq_true (by omega)]
      rfl
    · intro c hc s0 H0 C0 cl fp
      exact de_inSign (dv 1) (de_globS Bk.cA (by rfl))
    · congr 1
      rw [List.all_map]
      exact List.all_eq_true.mpr fun c hc => decide_eq_true (h4 c hc)
/-! ### deeds -/
inductive Deed where
  | row (x : Str) (r : List Nat)
  | join (x a b : Str)
  | pow (x a : Str) (n : Nat)
def Deed.name : Deed → Str
  | .row x _ => x
  | .join x _ _ => x
  | .pow x _ _ => x
def Deed.enc : Deed → List PyData
  | .row x r => [eS "row", eS x, eT eN r]
  | .join x a b => [eS "join", eS x, eS a, eS b]
  | .pow x a n => [eS "power", eS x, eS a, eN n]
/-- the deed makes e -/
def Makes (b : Bs) : Deed → (List Nat × Nat) → Prop
  | .row _ r, e => Rk b.wt r ∧ e = (mapN b.wt.moves r, r.length)
  | .join _ x y, e => ∃ ex ey, Has b x ex ∧ Has b y ey ∧ (∀ p ∈ ex.1, p < ey.1.length) ∧ ex.1.length ≤ 1000 ∧ e = (thenN ex.1 ey.1, ex.2 + ey.2)
  | .pow _ x n, e => ∃ ex, Has b x ex ∧ Self ex.1 ∧ ex.1.length ≤ 1000 ∧ n ≤ 1000000000000000000 ∧ e = (powN ex.1 n, ex.2 * n)
abbrev spBMade (T : Tb) (K : PySem.W.Frag) (CW CB : Addr) : Sp := spS T (fun d : aB × Bs × Deed × (List Nat × Nat) => [sV (.ref d.1.1), sD K (.tuple d.2.2.1.enc)]) (fun d => bkM K CW CB d.1 d.2.1) (fun d => d.2.1.wt.Ok ∧ Makes d.2.1 d.2.2.1 d.2.2.2) (fun d => sD K (eEnt d.2.2.2))
theorem fd_isRowM (m : Pf T K mg base) : FD P w K mg base 5 "is_row" ["kinds", "thing"] (spIsRow T K) := fd_is_row m.row m.bf m.first m.lst m.short m.number m.between m.cE
theorem ok_made (m : Pf T K mg base) (W : Wf K mg CW) (Q : Qf K mg) (Bk : Bkf K mg CB) {f : Addr} {fd : FuncData} (F : Fun K "made" "Mapbook.made" s_Mapbook_made f fd) : FnOk P w K mg base CX0 6 f fd ["self", "deed"] (spBMade T K CW CB) := by
  refine fn_bodyM F sc_Mapbook_made (fun _ => rfl) fun ⟨⟨q, r1, r2⟩, b, deed, e⟩ ⟨ok, hmk⟩ cdv A outer s I H E D hr hret hend => ?_
  have ok : b.wt.Ok := ok
  cases deed with
  | row x r =>
    have hmk : Rk b.wt r ∧ e = (mapN b.wt.moves r, r.length) := hmk
    obtain ⟨hk, rfl⟩ := hmk
    refine tr_if1 (k := true) (DW.dt (dw_and (c := true) (c' := true) ((dt_eqS (u := "row") (v := "row") (de_ixT (k := 0) (d := eS "row") (dv 1) de_int rfl) de_str).is rfl) fun _ => dw_and (c := true) (c' := true) ((dt_eqE encN (x := 3) (y := 3) (by decide) hr.units ((de_lenT m.bf.len (ds := [eS "row", eS x, eT eN r]) (dv 1)).is rfl) de_int).is rfl) fun _ => dw_and1 (dt_val (de_call (fd_isRowM m) hr (by decide) (b.wt.kinds, r) hk (da_cons (de_kinds m.bf W hr (by decide) b.wt ok (de_fldM (q := q) 0 rfl Bk.cls Bk.na1 rfl (dv 0))) (da_one (DE.st (de_ixT (k := 2) (d := eT eN r) (dv 1) de_int rfl)))))))) (fun _ => ?_) (fun z => nomatch z)
    refine tr_retS (ds_of (de_tupD (ds := [eT eN (mapN b.wt.moves r), eN r.length]) (dad_cons (de_call (fd_mapBy m.bf W Q) hr (by decide) (b.wt, r) ⟨ok, hk.2⟩ (da_cons (de_fldM (q := q) 0 rfl Bk.cls Bk.na1 rfl (dv 0)) (da_one (DE.st (de_ixT (k := 2) (d := eT eN r) (dv 1) de_int rfl))))) (dad_cons ((de_lenT m.bf.len (ds := r.map eN) (de_ixT (k := 2) (d := eT eN r) (dv 1) de_int rfl)).is (by rw [List.length_map])) dad_nil)) (by show (2 : Nat) ≤ 1000; decide))) fun v σ I' H' s' p => hret () v I' H' trivial s'.gr p s'.sl.mu
  | join x y z =>
    have hmk : ∃ ex ey, Has b y ex ∧ Has b z ey ∧ (∀ p ∈ ex.1, p < ey.1.length) ∧ ex.1.length ≤ 1000 ∧ e = (thenN ex.1 ey.1, ex.2 + ey.2) := hmk
    obtain ⟨ex, ey, hx, hy, hp, hl, rfl⟩ := hmk
    refine tr_skip (DW.dt (dw_and (c := false) (c' := false) ((dt_eqS (u := "join") (v := "row") (de_ixT (k := 0) (d := eS "join") (dv 1) de_int rfl) de_str).is rfl) fun z => nomatch z)) ?_
    refine tr_if1 (k := true) (DW.dt (dw_and (c := true) (c' := true) ((dt_eqS (u := "join") (v := "join") (de_ixT (k := 0) (d := eS "join") (dv 1) de_int rfl) de_str).is rfl) fun _ => dw_and1 ((dt_eqE encN (x := 4) (y := 4) (by decide) hr.units ((de_lenT m.bf.len (ds := [eS "join", eS x, eS y, eS z]) (dv 1)).is rfl) de_int).is rfl))) (fun _ => ?_) (fun z => nomatch z)
    refine tr_parS (i := 2) (j := 3) (Sa := sD K (eEnt ex)) (Sb := sD K (eEnt ey)) sc_Mapbook_made.nd rfl rfl rfl (by decide) (de_entry (M0 := []) m.bf Bk hr (by decide) hx (dv 0) (de_ixT (k := 2) (d := eS y) (dv 1) de_int rfl)) (de_entry (M0 := []) m.bf Bk hr (by decide) hy (dv 0) (de_ixT (k := 3) (d := eS z) (dv 1) de_int rfl)) ?_
    refine tr_retS (ds_of (de_tupD (ds := [eT eN (thenN ex.1 ey.1), eN (ex.2 + ey.2)]) (dad_cons (de_call (fd_then m.bf Q) hr (by decide) (ex.1, ey.1) ⟨hp, hl⟩ (da_cons (de_ixT (k := 0) (d := eT eN ex.1) (dv 2) de_int rfl) (da_one (de_ixT (k := 0) (d := eT eN ey.1) (dv 3) de_int rfl)))) (dad_cons ((de_add (de_ixT (k := 1) (d := eN ex.2) (dv 2) de_int rfl) (de_ixT (k := 1) (d := eN ey.2) (dv 3) de_int rfl)).is (by rw [← Int.natCast_add])) dad_nil)) (by show (2 : Nat) ≤ 1000; decide))) fun v σ I' H' s' p => hret () v I' H' trivial s'.gr p s'.sl.mu
  | pow x y n =>
    have hmk : ∃ ex, Has b y ex ∧ Self ex.1 ∧ ex.1.length ≤ 1000 ∧ n ≤ 1000000000000000000 ∧ e = (powN ex.1 n, ex.2 * n) := hmk
    obtain ⟨ex, hx, hs, hl, hn, rfl⟩ := hmk
    refine tr_skip (DW.dt (dw_and (c := false) (c' := false) ((dt_eqS (u := "power") (v := "row") (de_ixT (k := 0) (d := eS "power") (dv 1) de_int rfl) de_str).is rfl) fun z => nomatch z)) ?_
    refine tr_skip (DW.dt (dw_and (c := false) (c' := false) ((dt_eqS (u := "power") (v := "join") (de_ixT (k := 0) (d := eS "power") (dv 1) de_int rfl) de_str).is rfl) fun z => nomatch z)) ?_
    refine tr_if1 (k := true) (DW.dt (dw_and (c := true) (c' := true) ((dt_eqS (u := "power") (v := "power") (de_ixT (k := 0) (d := eS "power") (dv 1) de_int rfl) de_str).is rfl) fun _ => dw_and (c := true) (c' := true) ((dt_eqE encN (x := 4) (y := 4) (by decide) hr.units ((de_lenT m.bf.len (ds := [eS "power", eS x, eS y, eN n]) (dv 1)).is rfl) de_int).is rfl) fun _ => dw_and1 ((dt_val (de_call (fd_is_between m.between m.bf m.number) hr (by decide) ((n : Int), (0 : Int), (1000000000000000000 : Int)) trivial (da_cons (de_ixT (k := 3) (d := eN n) (dv 1) de_int rfl) (da_cons de_int (da_one (de_globI Bk.cL (by rfl))))))).is ?_))) (fun _ => ?_) (fun z => nomatch z)
    · show (decide ((0 : Int) ≤ (n : Int)) && decide ((n : Int) ≤ 1000000000000000000)) = true
      rw [decide_eq_true (by omega), decide_eq_true (by omega)]
      rfl
    refine tr_asgS (i := 2) (S := sD K (eEnt ex)) sc_Mapbook_made.nd rfl (de_entry (M0 := []) m.bf Bk hr (by decide) hx (dv 0) (de_ixT (k := 2) (d := eS y) (dv 1) de_int rfl)) ?_
    refine tr_retS (ds_of (de_tupD (ds := [eT eN (powN ex.1 n), eN (ex.2 * n)]) (dad_cons (de_call (fd_power m.bf Q) hr (by decide) (ex.1, n) ⟨hs, hl⟩ (da_cons (de_ixT (k := 0) (d := eT eN ex.1) (dv 2) de_int rfl) (da_one (de_ixT (k := 3) (d := eN n) (dv 1) de_int rfl)))) (dad_cons ((de_mul (de_ixT (k := 1) (d := eN ex.2) (dv 2) de_int rfl) (de_ixT (k := 3) (d := eN n) (dv 1) de_int rfl) (.inr (by omega))).is (by rw [← Int.natCast_mul])) dad_nil)) (by show (2 : Nat) ≤ 1000; decide))) fun v σ I' H' s' p => hret () v I' H' trivial s'.gr p s'.sl.mu
end
end Rm
set_option Elab.async false
set_option linter.all false
set_option maxRecDepth 100000
set_option maxHeartbeats 4000000
namespace Rm
open PySem PySem.Spec PyProof.Rows L2 LamX NdefX
def Deed.kind : Deed → Str
  | .row _ _ => "row"
  | .join _ _ _ => "join"
  | .pow _ _ _ => "power"
theorem Deed.e0 (d : Deed) : d.enc[0]? = some (eS d.kind) := by cases d <;> rfl
theorem Deed.e1 (d : Deed) : d.enc[1]? = some (eS d.name) := by cases d <;> rfl
theorem Deed.el (d : Deed) : 3 ≤ d.enc.length ∧ d.enc.length ≤ 4 := by cases d <;> exact ⟨by simp [Deed.enc], by simp [Deed.enc]⟩
theorem put_new {K : PySem.W.Frag} {es : List (Str × List Nat × Nat)} {x : Str} {e : List Nat × Nat} (h : es.find? (fun z => decide (z.1 = x)) = none) : pS (entK K es) (.inr x) (sD K (eEnt e)) = entK K (es ++ [(x, e)]) := by
  unfold pS entK
  rw [if_neg, List.map_append]
  · rfl
  · intro z
    obtain ⟨y, hy, ey⟩ := List.any_eq_true.mp z
    obtain ⟨u, hu, eu⟩ := List.mem_map.mp hy
    have ey : y.1 = .inr x := of_decide_eq_true ey
    rw [← eu] at ey
    have : u.1 = x := Sum.inr.inj ey
    have h2 := List.find?_eq_none.mp h u hu
    exact h2 (decide_eq_true this)
def bdo (b : Bs) (x : Str) (e : List Nat × Nat) : Bs := ⟨b.wt, b.ents ++ [(x, e)], b.nd + 1⟩
structure CanDo (b : Bs) (d : Deed) (e : List Nat × Nat) : Prop where
  ok : b.wt.Ok
  mkd : Makes b d e
  nm : OkName d.name
  fresh : b.ents.find? (fun z => decide (z.1 = d.name)) = none
  few : b.ents.length < 60
  sz : e.2 ≤ 1000000000000000000
  nd : b.nd < 1000
section
variable {P : Program} {w : World} {K : PySem.W.Frag} {mg : Str → Option Value} {base : Heap} {T : Tb} {CW CB : Addr}
theorem ds_made {B : Bg} {X : Cx} {Γ : Ct} {M0 : Mt} {o e : Expr} {k : Nat} {pos apos : Pos} {q r1 r2 : Addr} {b : Bs} {deed : Deed} {en : List Nat × Nat} {pl : Sem Bool} (m : Pf B.T X.K X.mg X.base) (W : Wf X.K X.mg CW) (Q : Qf X.K X.mg) (Bk : Bkf X.K X.mg CB) (hr : Room k X.A) (hk : 6 ≤ k) (ok : b.wt.Ok) (hmk : Makes b deed en) (ho : DE B.T X Γ (bkM X.K CW CB (q, r1, r2) b ++ M0) o (sV (.ref q))) (he : DE B.T X Γ (bkM X.K CW CB (q, r1, r2) b ++ M0) e (sD X.K (.tuple deed.enc)))
    (hst : starEach (e :: []) X.env = (false, eval e X.env) :: starEach [] X.env := by rfl) (hpl : (backTo pos (starEach [] X.env)).any (·.1) = false := by rfl)
    (ht : eval (.Call (.Attribute o "made" apos) [e] [] pos) X.env = (do
      let ov ← eval o X.env
      standAt apos.atName
      let (f, first) ← holding [ov] (getMethod ov "made" pl)
      callWith pos f first (backTo pos (starEach [e] X.env)) (backToKw pos (keywordEach [] X.env))) := by rfl) : DS B X Γ (bkM X.K CW CB (q, r1, r2) b ++ M0) (.Call (.Attribute o "made" apos) [e] [] pos) (sD X.K (eEnt en)) := by
  obtain ⟨f, fd, hm, F⟩ := Bk.made.ex
  exact ds_meth (q := q) (C := CB) (M0 := M0) 0 rfl rfl Bk.cls hm (ok_made m W Q Bk F) (F.binds fun _ _ _ _ _ _ us hl => match us, hl with | [_, _], _ => rfl) hr hk ((q, r1, r2), b, deed, en) ⟨ok, hmk⟩ rfl ho (da_one he hst) rfl hst hpl ht
abbrev spBDo (T : Tb) (K : PySem.W.Frag) (CW CB : Addr) : Sp := spM T (fun d : aB × Bs × Deed × (List Nat × Nat) => [sV (.ref d.1.1), sD K (.tuple d.2.2.1.enc)]) (fun d => bkM K CW CB d.1 d.2.1) (fun d => CanDo d.2.1 d.2.2.1 d.2.2.2) (fun _ (_ : Unit) => True) (fun _ _ => sD K .none) (fun d _ => bkM K CW CB d.1 (bdo d.2.1 d.2.2.1.name d.2.2.2))
theorem ok_do (m : Pf T K mg base) (W : Wf K mg CW) (Q : Qf K mg) (Bk : Bkf K mg CB) {f : Addr} {fd : FuncData} (F : Fun K "do" "Mapbook.do" s_Mapbook_do f fd) : FnOk P w K mg base CX0 7 f fd ["self", "deed"] (spBDo T K CW CB) := by
  refine fn_bodyM F sc_Mapbook_do (fun _ => rfl) fun ⟨⟨q, r1, r2⟩, b, deed, e⟩ hc cdv A outer s I H E D hr hret hend => ?_
  have hc : CanDo b deed e := hc
  have el := deed.el
  refine tr_skip (DW.dt (dw_or (c := false) (c' := false) (dt_not (c := true) (dt_val (de_isi (r := true) m.bf.isinstance (dv 1) (de_bltn (t := "tuple") m.bf.tuple (by decide +kernel)) (.ty _) ty_tupD (kit_ty (by decide +kernel))))) fun _ => dw_or (c := false) (c' := false) ((dt_lt (de_lenT m.bf.len (ds := deed.enc) (dv 1)) de_int).is (decide_eq_false (by omega))) fun _ => dw_or (c := false) (c' := false) (dt_not (c := true) (dt_val (de_isi (r := true) m.bf.isinstance (de_ixT (k := 0) (dv 1) de_int deed.e0) (de_bltn (t := "str") m.bf.str (by decide +kernel)) (.ty _) ty_str (kit_ty (by decide +kernel))))) fun _ => dw_or1 (dt_not (c := true) (dt_val (de_call (fd_isName m.bf Bk) hr (by decide) deed.name hc.nm (da_one (de_ixT (k := 1) (dv 1) de_int deed.e1))))))) ?_
  refine tr_skip (DW.dt (dw_or (c := false) (c' := false) ((dt_din (q := r1) (k := .inr deed.name) 1 (hu_of hr) rfl ((de_ixT (k := 1) (dv 1) de_int deed.e1).imp fun _ _ => key_str) (de_fldM (q := q) 0 rfl Bk.cls Bk.na2 rfl (dv 0))).is (by rw [none_vs hc.fresh]; rfl)) fun _ => dw_or1 ((dt_eqE encN (x := b.ents.length) (y := 60) (by decide) hr.units ((de_dlen (q := r1) 1 rfl m.bf.len (de_fldM (q := q) 0 rfl Bk.cls Bk.na2 rfl (dv 0))).is (by rw [List.length_map])) (de_globI Bk.cN (by rfl))).is (decide_eq_false (Nat.ne_of_lt hc.few))))) ?_
  refine tr_try (fun _ _ h => h) (tr_asgS (i := 2) (S := sD K (eEnt e)) sc_Mapbook_do.nd rfl (ds_made (M0 := []) m W Q Bk hr (Nat.le_refl _) hc.ok hc.mkd (dv 0) (dv 1)) (tr_nil fun σ0 I0 H0 s0 => ?_))
  refine (show Tr _ _ _ _ _ D from ?_) σ0 I0 H0 s0
  refine tr_skip ((dt_gt (de_ixT (k := 1) (d := eN e.2) (dv 2) de_int rfl) (de_globI Bk.cL (by rfl))).is (decide_eq_false (by have := hc.sz; omega))) ?_
  refine tr_dput (q := r1) (k := .inr deed.name) 1 (hu_of hr) rfl (by show (b.ents.map _).length < 100000; rw [List.length_map]; have := hc.few; omega) (dv 2) (de_fldM (q := q) 0 rfl Bk.cls Bk.na2 rfl (dv 0)) ((de_ixT (k := 1) (dv 1) de_int deed.e1).imp fun _ _ => key_str) ?_
  rw [put_new hc.fresh]
  refine tr_append (q := r2) (S := sTop) 2 rfl (de_fldM (q := q) 0 rfl Bk.cls Bk.na3 rfl (dv 0)) (de_if (c := decide (deed.kind = "row")) (dt_eqS (de_ixT (k := 0) (dv 1) de_int deed.e0) de_str) (fun hk => ?_) (fun _ => (dv 1).imp fun _ _ _ => trivial)) (by have h := hc.nd; show (List.replicate b.nd sTop).length < 100000; rw [List.length_replicate]; omega) ?_
  · cases deed with
    | row x r => exact DE.imp (de_tup (da_star (DE.imp (de_slD (ds := (Deed.row x r).enc) (dv 1) do_none (do_some de_int)) fun _ _ => sD_tup.mp) (da_one (de_tupleD m.bf.tuple (DE.st (de_ixT (k := 2) (d := eT eN r) (dv 1) de_int rfl))))) (by rw [List.length_append, List.length_map, show (some (2 : Int)) = some ((2 : Nat) : Int) from rfl, cutL_to]; show 2 + 1 ≤ 1000; decide)) fun _ _ _ => trivial
    | join x a c => exact absurd (of_decide_eq_true hk) (by show ¬ ("join" : Str) = "row"; decide)
    | pow x a n => exact absurd (of_decide_eq_true hk) (by show ¬ ("power" : Str) = "row"; decide)
  · refine tr_nil fun σ I' H' s' => hend () σ I' H' trivial s'.gr .non ?_
    have e2 : List.replicate b.nd sTop ++ [sTop] = List.replicate (b.nd + 1) sTop := List.replicate_succ'.symm
    rw [e2] at s'
    exact s'.sl.mu
end
end Rm
set_option Elab.async false
set_option linter.all false
set_option maxRecDepth 100000
set_option maxHeartbeats 4000000
namespace Rm
open PySem PySem.Spec PyProof.Rows L2 LamX NdefX
section
variable {P : Program} {w : World} {K : PySem.W.Frag} {mg : Str → Option Value} {base : Heap} {T : Tb} {CW CB : Addr}
/-- book.do(e) -/
theorem dx_do {B : Bg} {X : Cx} {Γ : Ct} {M0 : Mt} {o e : Expr} {k : Nat} {pos apos : Pos} {q r1 r2 : Addr} {b : Bs} {deed : Deed} {en : List Nat × Nat} {pl : Sem Bool} (m : Pf B.T X.K X.mg X.base) (W : Wf X.K X.mg CW) (Q : Qf X.K X.mg) (Bk : Bkf X.K X.mg CB) (hr : Room k X.A) (hk : 7 ≤ k) (hc : CanDo b deed en) (ho : DE B.T X Γ (bkM X.K CW CB (q, r1, r2) b ++ M0) o (sV (.ref q))) (he : DE B.T X Γ (bkM X.K CW CB (q, r1, r2) b ++ M0) e (sD X.K (.tuple deed.enc)))
    (hst : starEach (e :: []) X.env = (false, eval e X.env) :: starEach [] X.env := by rfl) (hpl : (backTo pos (starEach [] X.env)).any (·.1) = false := by rfl)
    (ht : eval (.Call (.Attribute o "do" apos) [e] [] pos) X.env = (do
      let ov ← eval o X.env
      standAt apos.atName
      let (f, first) ← holding [ov] (getMethod ov "do" pl)
      callWith pos f first (backTo pos (starEach [e] X.env)) (backToKw pos (keywordEach [] X.env))) := by rfl) : DX B X Γ (bkM X.K CW CB (q, r1, r2) b ++ M0) (.Call (.Attribute o "do" apos) [e] [] pos) (fun _ : Unit => True) (fun _ => sD X.K .none) (fun _ => bkM X.K CW CB (q, r1, r2) (bdo b deed.name en) ++ M0) := by
  obtain ⟨f, fd, hm, F⟩ := Bk.do_.ex
  exact dx_meth (q := q) (C := CB) (M0 := M0) 0 rfl rfl Bk.cls hm (ok_do m W Q Bk F) (F.binds fun _ _ _ _ _ _ us hl => match us, hl with | [_, _], _ => rfl) hr hk ((q, r1, r2), b, deed, en) hc rfl (fun _ _ => rfl) ho (da_one he hst) rfl hst hpl ht
theorem ds_does {B : Bg} {X : Cx} {Γ : Ct} {M0 : Mt} {o e : Expr} {k : Nat} {pos apos : Pos} {q r1 r2 : Addr} {b : Bs} {x : Str} {en : List Nat × Nat} {pl : Sem Bool} (bf : Bf X.mg) (Bk : Bkf X.K X.mg CB) (hr : Room k X.A) (hk : 2 ≤ k) (hh : Has b x en) (ho : DE B.T X Γ (bkM X.K CW CB (q, r1, r2) b ++ M0) o (sV (.ref q))) (he : DE B.T X Γ (bkM X.K CW CB (q, r1, r2) b ++ M0) e (sD X.K (.str x)))
    (hst : starEach (e :: []) X.env = (false, eval e X.env) :: starEach [] X.env := by rfl) (hpl : (backTo pos (starEach [] X.env)).any (·.1) = false := by rfl)
    (ht : eval (.Call (.Attribute o "does" apos) [e] [] pos) X.env = (do
      let ov ← eval o X.env
      standAt apos.atName
      let (f, first) ← holding [ov] (getMethod ov "does" pl)
      callWith pos f first (backTo pos (starEach [e] X.env)) (backToKw pos (keywordEach [] X.env))) := by rfl) : DS B X Γ (bkM X.K CW CB (q, r1, r2) b ++ M0) (.Call (.Attribute o "does" apos) [e] [] pos) (sD X.K (eT eN en.1)) := by
  obtain ⟨f, fd, hm, F⟩ := Bk.does.ex
  exact ds_meth (q := q) (C := CB) (M0 := M0) 0 rfl rfl Bk.cls hm (ok_does bf Bk F) (F.binds fun _ _ _ _ _ _ us hl => match us, hl with | [_, _], _ => rfl) hr hk ((q, r1, r2), b, x, en) hh rfl ho (da_one he hst) rfl hst hpl ht
theorem ds_size {B : Bg} {X : Cx} {Γ : Ct} {M0 : Mt} {o e : Expr} {k : Nat} {pos apos : Pos} {q r1 r2 : Addr} {b : Bs} {x : Str} {en : List Nat × Nat} {pl : Sem Bool} (bf : Bf X.mg) (Bk : Bkf X.K X.mg CB) (hr : Room k X.A) (hk : 2 ≤ k) (hh : Has b x en) (ho : DE B.T X Γ (bkM X.K CW CB (q, r1, r2) b ++ M0) o (sV (.ref q))) (he : DE B.T X Γ (bkM X.K CW CB (q, r1, r2) b ++ M0) e (sD X.K (.str x)))
    (hst : starEach (e :: []) X.env = (false, eval e X.env) :: starEach [] X.env := by rfl) (hpl : (backTo pos (starEach [] X.env)).any (·.1) = false := by rfl)
    (ht : eval (.Call (.Attribute o "size" apos) [e] [] pos) X.env = (do
      let ov ← eval o X.env
      standAt apos.atName
      let (f, first) ← holding [ov] (getMethod ov "size" pl)
      callWith pos f first (backTo pos (starEach [e] X.env)) (backToKw pos (keywordEach [] X.env))) := by rfl) : DS B X Γ (bkM X.K CW CB (q, r1, r2) b ++ M0) (.Call (.Attribute o "size" apos) [e] [] pos) (sD X.K (eN en.2)) := by
  obtain ⟨f, fd, hm, F⟩ := Bk.size.ex
  exact ds_meth (q := q) (C := CB) (M0 := M0) 0 rfl rfl Bk.cls hm (ok_size bf Bk F) (F.binds fun _ _ _ _ _ _ us hl => match us, hl with | [_, _], _ => rfl) hr hk ((q, r1, r2), b, x, en) hh rfl ho (da_one he hst) rfl hst hpl ht
theorem ds_says {B : Bg} {X : Cx} {Γ : Ct} {M0 : Mt} {o e : Expr} {k : Nat} {pos apos : Pos} {q r1 r2 : Addr} {b : Bs} {x : Str} {en : List Nat × Nat} {pl : Sem Bool} (bf : Bf X.mg) (W : Wf X.K X.mg CW) (Bk : Bkf X.K X.mg CB) (hr : Room k X.A) (hk : 3 ≤ k) (hh : Has b x en) (h0 : 0 < en.1.length) (h1 : en.1.getD 0 0 < b.wt.words.length) (ho : DE B.T X Γ (bkM X.K CW CB (q, r1, r2) b ++ M0) o (sV (.ref q))) (he : DE B.T X Γ (bkM X.K CW CB (q, r1, r2) b ++ M0) e (sD X.K (.str x)))
    (hst : starEach (e :: []) X.env = (false, eval e X.env) :: starEach [] X.env := by rfl) (hpl : (backTo pos (starEach [] X.env)).any (·.1) = false := by rfl)
    (ht : eval (.Call (.Attribute o "says" apos) [e] [] pos) X.env = (do
      let ov ← eval o X.env
      standAt apos.atName
      let (f, first) ← holding [ov] (getMethod ov "says" pl)
      callWith pos f first (backTo pos (starEach [e] X.env)) (backToKw pos (keywordEach [] X.env))) := by rfl) : DS B X Γ (bkM X.K CW CB (q, r1, r2) b ++ M0) (.Call (.Attribute o "says" apos) [e] [] pos) (sD X.K (eN (b.wt.words.getD (en.1.getD 0 0) 0))) := by
  obtain ⟨f, fd, hm, F⟩ := Bk.says.ex
  exact ds_meth (q := q) (C := CB) (M0 := M0) 0 rfl rfl Bk.cls hm (ok_says bf W Bk F) (F.binds fun _ _ _ _ _ _ us hl => match us, hl with | [_, _], _ => rfl) hr hk ((q, r1, r2), b, x, en) ⟨hh, h0, h1⟩ rfl ho (da_one he hst) rfl hst hpl ht
/-! ### the law's book -/
abbrev ltr (x : Str) : Prop := OkName x
theorem ok_x : OkName "x" := ⟨by decide, by decide, by decide, by decide⟩
theorem ok_a : OkName "a" := ⟨by decide, by decide, by decide, by decide⟩
theorem ok_b : OkName "b" := ⟨by decide, by decide, by decide, by decide⟩
theorem ok_c : OkName "c" := ⟨by decide, by decide, by decide, by decide⟩
theorem ok_d : OkName "d" := ⟨by decide, by decide, by decide, by decide⟩
/-- its deeds, what each makes -/
def bDeeds (u : List Nat) (t p : Nat) : List Deed := [.row "x" u, .pow "a" "x" t, .pow "b" "x" (t + p), .pow "c" "x" p, .join "d" "a" "c"]
def bEnts (f : List Nat) (n t p : Nat) : List (Str × List Nat × Nat) := [("x", f, n), ("a", powN f t, n * t), ("b", powN f (t + p), n * (t + p)), ("c", powN f p, n * p), ("d", thenN (powN f t) (powN f p), n * t + n * p)]
def bAt (wt : Wt) (f : List Nat) (n t p k : Nat) : Bs := ⟨wt, (bEnts f n t p).take k, k⟩
theorem bAt_can {wt : Wt} (ok : wt.Ok) {u : List Nat} {t p : Nat} (hu : Rl wt 5 u) (ht : t ≤ 1000000066) (hp : p ≤ 66) (k : Nat) (hk : k < 5) : ∃ d e, (bDeeds u t p)[k]? = some d ∧ CanDo (bAt wt (mapN wt.moves u) u.length t p k) d e ∧ bdo (bAt wt (mapN wt.moves u) u.length t p k) d.name e = bAt wt (mapN wt.moves u) u.length t p (k + 1) := by
  have su := ok.mapSelf hu.2
  have p2 := ok.p2
  have ru : Rk wt u := ⟨by have := hu.1; omega, hu.2⟩
  have hl : (mapN wt.moves u).length ≤ 1000 := by rw [su.2]; omega
  have hn := hu.1
  have m1 : u.length * t ≤ 5 * 1000000066 := Nat.mul_le_mul hn ht
  have m2 : u.length * (t + p) ≤ 5 * 1000000132 := Nat.mul_le_mul hn (by omega)
  have m3 : u.length * p ≤ 5 * 66 := Nat.mul_le_mul hn hp
  rcases (by omega : k = 0 ∨ k = 1 ∨ k = 2 ∨ k = 3 ∨ k = 4) with e | e | e | e | e <;> subst e
  · exact ⟨_, (mapN wt.moves u, u.length), rfl, ⟨ok, ⟨ru, rfl⟩, ok_x, rfl, by show (0 : Nat) < 60; decide, by show u.length ≤ _; omega, by show (0 : Nat) < 1000; decide⟩, rfl⟩
  · exact ⟨_, (powN (mapN wt.moves u) t, u.length * t), rfl, ⟨ok, ⟨(mapN wt.moves u, u.length), rfl, su.1, hl, by omega, rfl⟩, ok_a, rfl, by show (1 : Nat) < 60; decide, by show u.length * t ≤ _; omega, by show (1 : Nat) < 1000; decide⟩, rfl⟩
  · exact ⟨_, (powN (mapN wt.moves u) (t + p), u.length * (t + p)), rfl, ⟨ok, ⟨(mapN wt.moves u, u.length), rfl, su.1, hl, by omega, rfl⟩, ok_b, rfl, by show (2 : Nat) < 60; decide, by show u.length * (t + p) ≤ _; omega, by show (2 : Nat) < 1000; decide⟩, rfl⟩
  · exact ⟨_, (powN (mapN wt.moves u) p, u.length * p), rfl, ⟨ok, ⟨(mapN wt.moves u, u.length), rfl, su.1, hl, by omega, rfl⟩, ok_c, rfl, by show (3 : Nat) < 60; decide, by show u.length * p ≤ _; omega, by show (3 : Nat) < 1000; decide⟩, rfl⟩
  · refine ⟨_, (thenN (powN (mapN wt.moves u) t) (powN (mapN wt.moves u) p), u.length * t + u.length * p), rfl, ⟨ok, ⟨(powN (mapN wt.moves u) t, u.length * t), (powN (mapN wt.moves u) p, u.length * p), rfl, rfl, fun g hg => ?_, by show (powN _ _).length ≤ 1000; rw [powN_len]; exact hl, rfl⟩, ok_d, rfl, by show (4 : Nat) < 60; decide, by show u.length * t + u.length * p ≤ _; omega, by show (4 : Nat) < 1000; decide⟩, rfl⟩
    have := powN_self su.1 t g hg
    show g < (powN _ _).length
    rw [powN_len] at this ⊢
    exact this
abbrev spBR (T : Tb) (K : PySem.W.Frag) (C : Addr) : Sp := spS T (fun d : (Addr × Addr) × Wt × List Nat => [sV (.ref d.1.1), sW K C d.2.1, sD K (eT eN d.2.2)]) (fun d => tpM K d.1) (fun d => d.1.1 ≠ d.1.2 ∧ d.2.1.Ok ∧ Rl d.2.1 5 d.2.2) (fun _ => sD K (.bool true))
theorem fd_bookR (m : Pf T K mg base) (W : Wf K mg CW) (Bk : Bkf K mg CB) (q : Qf K mg) (t : Tf K mg) (x : Xf K mg) : FD P w K mg base 8 "_law_book_right" ["tape", "here", "row"] (spBR T K CW) :=
  x.book.fd (fun _ _ _ _ _ _ us hl => match us, hl with | [_, _, _], _ => rfl) fun f fd F hm => by
    refine fn_bodyM F sc__law_book_right (fun _ => rfl) fun ⟨⟨tp', lg⟩, wt, u⟩ ⟨hne, ok, hu⟩ cdv A outer s I H E D hr hret hend => ?_
    have hne : tp' ≠ lg := hne
    have ok : wt.Ok := ok
    have hu : Rl wt 5 u := hu
    have ru : Rk wt u := ⟨by have := hu.1; omega, hu.2⟩
    have su := ok.mapSelf hu.2
    obtain ⟨t1, b1⟩ := ok.tp hu.2
    obtain ⟨ix, pe, e⟩ : ∃ i p, tp (mapN wt.moves u) = (i, p) := ⟨_, _, rfl⟩
    rw [e] at t1 b1
    simp only at b1
    have q1 : 1 ≤ pe := t1.1
    have p9 : ((10 : Int) ^ ((9 : Int).toNat)) = ((1000000000 : Nat) : Int) := by decide
    refine tr_unp (i := 3) (j := 4) (Sa := sD K (eN ix)) (Sb := sD K (eN pe)) sc__law_book_right.nd rfl rfl rfl (DE.imp ((de_ip m W q hr (Nat.le_refl _) ok ru (dv 1) (dv 2)).is (by rw [e])) fun _ _ => sD_tup.mp) ?_
    refine tr_parX (i := 5) (j := 6) (Sb := sEx (fun a : Nat => ix ≤ a ∧ a ≤ ix + 1000000000) fun a => sD K (eN a)) sc__law_book_right.nd rfl rfl rfl (by decide) (dx_makeM (md_book m W Bk) hr (by decide) wt trivial (da_one (dv 1)))
      (fun r _ => ds_op op_add (rd_exR fun r hr => RD2.imp rd_I0 fun v I z => ⟨ix + r, ⟨by omega, by omega⟩, by
        show (sD K (.int ((ix + r : Nat) : Int))).p v I
        rw [Int.natCast_add]
        exact z⟩) (ds_of (dv 3)) (ds_draw (n := 1000000000) (d := (tp', lg)) m.bf t hr (by decide) hne (fun m hm => List.mem_cons_of_mem _ (List.mem_append_right _ hm)) (by decide) (ds_of (dv 0)) (ds_of ((de_pow de_int de_int (by decide)).is (by rw [p9]))))) fun ⟨bq, r1, r2⟩ _ => ?_
    refine tr_pick (C := fun a : Nat => ix ≤ a ∧ a ≤ ix + 1000000000) (Si := fun m => sD K (eN m)) 6 rfl fun tm ⟨f1, f2⟩ => ?_
    refine tr_for (j := 7) (δ := Unit) (Ss := (bDeeds u tm pe).map fun d => sD K (.tuple d.enc)) (Pd := fun _ _ => True) (G := fun _ _ => [some (sV (.ref tp')), some (sW K CW wt), some (sD K (eT eN u)), some (sD K (eN ix)), some (sD K (eN pe)), some (sV (.ref bq)), some (sD K (eN tm)), none]) (Mf := fun k _ => bkM K CW CB (bq, r1, r2) (bAt wt (mapN wt.moves u) u.length tm pe k) ++ tpM K (tp', lg)) PassesOwn.never rfl sc__law_book_right.nd rfl
      (di_L (ds := [.tuple [eS "row", eS "x", eT eN u], .tuple [eS "power", eS "a", eS "x", eN tm], .tuple [eS "power", eS "b", eS "x", eN (tm + pe)], .tuple [eS "power", eS "c", eS "x", eN pe], .tuple [eS "join", eS "d", eS "a", eS "c"]]) (de_lstD (dad_cons (de_tupD (dad_cons de_str (dad_cons de_str (dad_cons (dv 2) dad_nil))) (by show (3 : Nat) ≤ 1000; decide)) (dad_cons (de_tupD (dad_cons de_str (dad_cons de_str (dad_cons de_str (dad_cons (dv 6) dad_nil)))) (by show (4 : Nat) ≤ 1000; decide)) (dad_cons (de_tupD (dad_cons de_str (dad_cons de_str (dad_cons de_str (dad_cons ((de_add (dv 6) (dv 4)).is (by rw [← Int.natCast_add])) dad_nil)))) (by show (4 : Nat) ≤ 1000; decide)) (dad_cons (de_tupD (dad_cons de_str (dad_cons de_str (dad_cons de_str (dad_cons (dv 4) dad_nil)))) (by show (4 : Nat) ≤ 1000; decide)) (dad_cons (de_tupD (dad_cons de_str (dad_cons de_str (dad_cons de_str (dad_cons de_str dad_nil)))) (by show (4 : Nat) ≤ 1000; decide)) dad_nil))))) (by show (5 : Nat) ≤ 1000; decide)))
      () trivial (.keep (.keep (.keep (.keep (.keep (.keep (.keep (.keep .nil)))))))) rfl (fun Ah k _ S hS _ => ?_) (fun _ _ => ?_)
    · have hk : k < 5 := by
        have := (List.getElem?_eq_some_iff.mp hS).1
        rwa [List.length_map] at this
      obtain ⟨d, en, hd, hcan, hnext⟩ := bAt_can ok (u := u) (t := tm) (p := pe) hu (by omega) (by omega) k hk
      rw [List.getElem?_map, hd] at hS
      cases hS
      refine tr_exprX (dx_do m W q Bk hr (Nat.le_refl _) hcan (dv 5) (dv 7)) fun _ _ => ?_
      rw [hnext]
      exact tr_nil fun σ I H s' => ⟨(), I, trivial, s'.weak (.keep (.keep (.keep (.keep (.keep (.keep (.keep (.drop .nil))))))))⟩
    · have hA : Has (bAt wt (mapN wt.moves u) u.length tm pe 5) "a" (powN (mapN wt.moves u) tm, u.length * tm) := rfl
      have hB : Has (bAt wt (mapN wt.moves u) u.length tm pe 5) "b" (powN (mapN wt.moves u) (tm + pe), u.length * (tm + pe)) := rfl
      have hD : Has (bAt wt (mapN wt.moves u) u.length tm pe 5) "d" (thenN (powN (mapN wt.moves u) tm) (powN (mapN wt.moves u) pe), u.length * tm + u.length * pe) := rfl
      have e1 : powN (mapN wt.moves u) (tm + pe) = powN (mapN wt.moves u) tm := t1.per su.1 f1
      rw [thenN_pow su.1] at hD
      rw [e1] at hB hD
      have pl : (powN (mapN wt.moves u) tm).length = wt.moves.length := by rw [powN_len, su.2]
      have hp1 := ok.p1
      have w1 : (powN (mapN wt.moves u) tm).getD 0 0 < wt.words.length := by
        have := (powN_self su.1 tm).get (p := 0) (by rw [pl]; omega)
        rw [pl] at this
        rw [ok.wl]
        exact this
      refine tr_retS (DS.is (ds_and (c := true) (c' := true) (DS.is (ds_chain (c := true) (c' := true) (op_eqD hr.units) (op_eqD hr.units) (RD2.imp (rd_eqD ((encT encN).shaped (by decide) _) ((encT encN).shaped (by decide) _)) fun v I z => ?_) (RD2.imp (rd_eqD ((encT encN).shaped (by decide) _) ((encT encN).shaped (by decide) _)) fun v I z => ?_) (ds_does m.bf Bk hr (by decide) hA (dv 5) de_str) (ds_does m.bf Bk hr (by decide) hB (dv 5) de_str) (ds_does m.bf Bk hr (by decide) hD (dv 5) de_str)) rfl) fun _ => ds_and (c := true) (c' := true) (ds_cmp (op_eqD hr.units) (nomark _) (RD2.imp (rd_eqD rfl rfl) fun v I z => ?_) (ds_says m.bf W Bk hr (by decide) hA (by rw [pl]; omega) w1 (dv 5) de_str) (ds_says m.bf W Bk hr (by decide) hD (by rw [pl]; omega) w1 (dv 5) de_str)) fun _ => ds_one (ds_cmp (op_eqD hr.units) (nomark _) (RD2.imp (rd_eqD rfl rfl) fun v I z => ?_) (ds_size m.bf Bk hr (by decide) hB (dv 5) de_str) (ds_size m.bf Bk hr (by decide) hD (dv 5) de_str))) rfl) fun v σ I H s' p => hret () v I H trivial s'.gr p fun z hz => s'.sl.mu z (List.mem_append_right _ hz)
      · rw [(encT encN).eqv, decide_eq_true rfl] at z; exact z
      · rw [(encT encN).eqv, decide_eq_true rfl] at z; exact z
      · rw [encN.eqv, decide_eq_true rfl] at z; exact z
      · rw [encN.eqv, decide_eq_true (Nat.mul_add _ _ _)] at z; exact z
end
end Rm
set_option Elab.async false
set_option linter.all false
set_option maxRecDepth 100000
set_option maxHeartbeats 4000000
namespace Rm
open PySem PySem.Spec PyProof.Rows L2 LamX NdefX
/-- a look at a watch's numbers -/
def wtB (w : Wt) : Bool := decide (1 ≤ w.moves.length) && decide (w.moves.length ≤ 6) && decide (1 ≤ w.kinds) && decide (w.kinds ≤ 4) && w.moves.all (fun l => decide (l.length = w.kinds) && l.all fun g => decide (g < w.moves.length)) && decide (w.words.length = w.moves.length) && w.words.all fun v => decide (v ≤ 3)
theorem wt_by {w : Wt} (h : wtB w = true) : w.Ok := by
  unfold wtB at h
  simp only [Bool.and_eq_true, decide_eq_true_eq, List.all_eq_true] at h
  obtain ⟨⟨⟨⟨⟨⟨h1, h2⟩, h3⟩, h4⟩, h5⟩, h6⟩, h7⟩ := h
  exact ⟨h1, h2, h3, h4, fun l hl => (h5 l hl).1, fun l hl => (h5 l hl).2, h6, h7⟩
abbrev wF : Wt := ⟨[[0, 1], [0, 2], [2, 2]], [0, 0, 1]⟩
abbrev wE : Wt := ⟨[[0, 1], [0, 1]], [0, 1]⟩
abbrev wO : Wt := ⟨[[1, 1], [0, 0]], [0, 1]⟩
abbrev wS : Wt := ⟨[[1], [2], [0], [4], [3]], [0, 0, 0, 1, 0]⟩
theorem okF : wF.Ok := wt_by (by decide)
theorem okE : wE.Ok := wt_by (by decide)
theorem okO : wO.Ok := wt_by (by decide)
theorem okS : wS.Ok := wt_by (by decide)
/-- a look at how a map comes round -/
def tpB (one : List Nat) (x : Nat × Nat) : Bool := decide (1 ≤ x.2) && decide (powN one (x.1 + x.2) = powN one x.1) && (List.range (x.1 + x.2)).all fun b => (List.range b).all fun a => !decide (powN one a = powN one b)
theorem tp_by {one : List Nat} {x : Nat × Nat} (h : tpB one x = true) : TP one x := by
  unfold tpB at h
  simp only [Bool.and_eq_true, decide_eq_true_eq, List.all_eq_true, Bool.not_eq_true', decide_eq_false_iff_not, List.mem_range] at h
  exact ⟨h.1.1, h.1.2, fun a b hab hb => h.2 b hb a hab⟩
theorem tp_eq {wt : Wt} (ok : wt.Ok) {u : List Nat} (hu : ∀ a ∈ u, a < wt.kinds) {x : Nat × Nat} (h : tpB (mapN wt.moves u) x = true) : tp (mapN wt.moves u) = x := (ok.tp hu).1.uniq (tp_by h)
section
variable {P : Program} {w : World} {K : PySem.W.Frag} {mg : Str → Option Value} {base : Heap} {T : Tb} {CW CB : Addr}
abbrev spKnown (T : Tb) (K : PySem.W.Frag) (CW : Addr) : Sp := spD T (fun _ : Unit => []) (fun _ => True) (fun _ => sTup K [sW K CW wF, sW K CW wE, sW K CW wO])
theorem fd_known (m : Pf T K mg base) (W : Wf K mg CW) (l : Lf K mg) : FD P w K mg base 9 "_law_known" [] (spKnown T K CW) :=
  l.known.fd (fun _ _ _ _ _ _ us hl => match us, hl with | [], _ => rfl) fun f fd F hm => by
    refine fn_body F sc__law_known (fun _ => rfl) fun _ _ cdv A outer s I H E D hr hret hend => ?_
    refine tr_asg (i := 0) (S := sW K CW wF) sc__law_known.nd rfl (de_W m W hr (Nat.le_refl _) wF okF (DE.imp (de_lst (j := 0) (Ss := wF.moves.map fun l => sSD K (l.map eN)) (da_cons ((de_tupD (ds := [eN 0, eN 1]) (dad_cons (de_int.is rfl) (dad_cons (de_int.is rfl) dad_nil)) (by decide)).st) (da_cons ((de_tupD (ds := [eN 0, eN 2]) (dad_cons (de_int.is rfl) (dad_cons (de_int.is rfl) dad_nil)) (by decide)).st) (da_one ((de_tupD (ds := [eN 2, eN 2]) (dad_cons (de_int.is rfl) (dad_cons (de_int.is rfl) dad_nil)) (by decide)).st)))) (by show (3 : Nat) ≤ 1000; decide)) fun _ _ => sLst_seq) ((de_lstD (ds := wF.words.map eN) (dad_cons (de_int.is rfl) (dad_cons (de_int.is rfl) (dad_cons (de_int.is rfl) dad_nil))) (by decide)).sl)) ?_
    refine tr_ret (de_tup (da_cons (dv 0) (da_cons (de_W m W hr (Nat.le_refl _) wE okE (DE.imp (de_lst (j := 0) (Ss := wE.moves.map fun l => sSD K (l.map eN)) (da_cons ((de_tupD (ds := [eN 0, eN 1]) (dad_cons (de_int.is rfl) (dad_cons (de_int.is rfl) dad_nil)) (by decide)).st) (da_one ((de_tupD (ds := [eN 0, eN 1]) (dad_cons (de_int.is rfl) (dad_cons (de_int.is rfl) dad_nil)) (by decide)).st))) (by show (2 : Nat) ≤ 1000; decide)) fun _ _ => sLst_seq) ((de_lstD (ds := wE.words.map eN) (dad_cons (de_int.is rfl) (dad_cons (de_int.is rfl) dad_nil)) (by decide)).sl)) (da_one (de_W m W hr (Nat.le_refl _) wO okO (DE.imp (de_lst (j := 0) (Ss := wO.moves.map fun l => sSD K (l.map eN)) (da_cons ((de_tupD (ds := [eN 1, eN 1]) (dad_cons (de_int.is rfl) (dad_cons (de_int.is rfl) dad_nil)) (by decide)).st) (da_one ((de_tupD (ds := [eN 0, eN 0]) (dad_cons (de_int.is rfl) (dad_cons (de_int.is rfl) dad_nil)) (by decide)).st))) (by show (2 : Nat) ≤ 1000; decide)) fun _ _ => sLst_seq) ((de_lstD (ds := wO.words.map eN) (dad_cons (de_int.is rfl) (dad_cons (de_int.is rfl) dad_nil)) (by decide)).sl))))) (by show (3 : Nat) ≤ 1000; decide)) hret
end
end Rm
set_option Elab.async false
set_option linter.all false
set_option maxRecDepth 100000
set_option maxHeartbeats 4000000
namespace Rm
open PySem PySem.Spec PyProof.Rows L2 LamX NdefX
section
variable {P : Program} {w : World} {K : PySem.W.Frag} {mg : Str → Option Value} {base : Heap} {T : Tb} {CW CB : Addr}
theorem ds_lrow {B : Bg} {X : Cx} {Γ : Ct} {M : Mt} {e1 e2 e3 : Expr} {k n : Nat} {p pos : Pos} {d : Addr × Addr} {wt : Wt} (bf : Bf X.mg) (t : Tf X.K X.mg) (l : Lf X.K X.mg) (hr : Room k X.A) (hk : 3 ≤ k) (hd : d.1 ≠ d.2) (hM : ∀ m ∈ tpM X.K d, m ∈ M) (ok : wt.Ok) (hn : n ≤ 1000) (h1 : DS B X Γ M e1 (sV (.ref d.1))) (h2 : DS B X Γ M e2 (sD X.K (eWt wt))) (h3 : DS B X Γ M e3 (sD X.K (eN n))) (hg : Gl X "_law_row" := by rfl)
    (he : starEach [e1, e2, e3] X.env = (false, eval e1 X.env) :: starEach [e2, e3] X.env := by rfl) (he2 : starEach [e2, e3] X.env = (false, eval e2 X.env) :: starEach [e3] X.env := by rfl) (he3 : starEach [e3] X.env = (false, eval e3 X.env) :: starEach [] X.env := by rfl) (hpl : (backTo pos (starEach [e2, e3] X.env)).any (·.1) = false := by rfl) :
    DS B X Γ M (.Call (.Name "_law_row" p) [e1, e2, e3] [] pos) (sEx (OkR wt.kinds n) fun row => sD X.K (eT eN row)) :=
  ds_call (fd_lrow bf t l) hr hk (d, wt, n) ⟨hd, ok, hn⟩ hM (tpM_nd hd) (dsa_cons h1 (dsa_cons h2 (dsa_one h3 he3) he2) he) hg (by decide) he hpl
abbrev sTm (K : PySem.W.Frag) : SV := sEx (fun k : Nat => 1 ≤ k ∧ k ≤ 40) fun k => sD K (eN k)
theorem de_nat (n : Nat) {X : Cx} {Γ : Ct} {M : Mt} {i : Int} {j : Nat} {pos : Pos} (h : i = (n : Int) := by rfl) : DE T X Γ M (.Constant (.int i) j pos) (sD X.K (eN n)) := de_int.is (by rw [h])
theorem de_ipsL {X : Cx} {Γ : Ct} {M : Mt} {iter elt : Expr} {scope : Scope} {y : Str} {py pos : Pos} {j : Nat} {wt : Wt} {α : Type} {as : List α} {enc : α → PyData} {r : α → List Nat} (hc : X.calm = true) (hN : X.N.Nodup) (h : DI T X Γ M (.Name y py) iter (as.map fun a => sD X.K (enc a))) (hl : as.length ≤ 100000) (ok : BlkOk X.N X.env.scope scope [(y, j)])
    (hg : ∀ (s : Shared) (H : Hp) (C : Addr) (cl : List (Str × Addr)) (fp : List Addr), PG (X.blk s H scope (compEnvC scope cl C X.env) fp) (.Name y py) (gName j))
    (he : ∀ a ∈ as, ∀ (s : Shared) (H : Hp) (C : Addr) (cl : List (Str × Addr)) (fp : List Addr), DE T (X.blk s H scope (compEnvC scope cl C X.env) fp) (Γ.set j (some (sD X.K (enc a)))) M elt (sD X.K (eTp (tp (mapN wt.moves (r a))))))
    (hs : ∀ x, foldedSetIterable iter X.env x = pure x := by intro _; rfl) : DE T X Γ M (.ListComp elt [⟨.Name y py, iter, [], 0⟩] scope pos) (sD X.K (eL (eP eN eN) (as.map fun a => tp (mapN wt.moves (r a))))) :=
  DE.is (DE.imp (de_lc0 (as := as) (j := j) (Si := fun a => sD X.K (enc a)) (F := fun a => sD X.K (eP eN eN (tp (mapN wt.moves (r a))))) hc hN h hl ok hg he hs) fun _ _ => sL_map (f := fun a => eP eN eN (tp (mapN wt.moves (r a))))) (map_eL (f := eP eN eN) (g := fun a => tp (mapN wt.moves (r a))))
abbrev rowsF : List (List Nat) := [[1, 1], [0, 1], [1, 0], [1, 1, 0]]
abbrev ansF : List (Nat × Nat) := [(1, 1), (1, 1), (1, 1), (1, 1)]
abbrev tmsS : List Nat := [1, 2, 3, 4, 6]
abbrev ansS : List (Nat × Nat) := [(0, 6), (0, 3), (0, 2), (0, 3), (0, 1)]
theorem tpsF : (rowsF.map fun r => tp (mapN wF.moves r)) = ansF := by
  show [tp (mapN wF.moves [1, 1]), tp (mapN wF.moves [0, 1]), tp (mapN wF.moves [1, 0]), tp (mapN wF.moves [1, 1, 0])] = _
  rw [tp_eq okF (u := [1, 1]) (x := (1, 1)) (by decide) (by decide +kernel), tp_eq okF (u := [0, 1]) (x := (1, 1)) (by decide) (by decide +kernel), tp_eq okF (u := [1, 0]) (x := (1, 1)) (by decide) (by decide +kernel), tp_eq okF (u := [1, 1, 0]) (x := (1, 1)) (by decide) (by decide +kernel)]
theorem tpsS : (tmsS.map fun n => tp (mapN wS.moves (List.replicate n [0]).flatten)) = ansS := by
  show [tp (mapN wS.moves [0]), tp (mapN wS.moves [0, 0]), tp (mapN wS.moves [0, 0, 0]), tp (mapN wS.moves [0, 0, 0, 0]), tp (mapN wS.moves [0, 0, 0, 0, 0, 0])] = _
  rw [tp_eq okS (u := [0]) (x := (0, 6)) (by decide) (by decide +kernel), tp_eq okS (u := [0, 0]) (x := (0, 3)) (by decide) (by decide +kernel), tp_eq okS (u := [0, 0, 0]) (x := (0, 2)) (by decide) (by decide +kernel), tp_eq okS (u := [0, 0, 0, 0]) (x := (0, 3)) (by decide) (by decide +kernel), tp_eq okS (u := [0, 0, 0, 0, 0, 0]) (x := (0, 1)) (by decide) (by decide +kernel)]
theorem rowsF_ok : ∀ r ∈ rowsF, Rk wF r := fun r hr => by
  have : ∀ r ∈ rowsF, r.length ≤ 300 ∧ ∀ a ∈ r, a < wF.kinds := by decide
  exact this r hr
theorem tmsS_ok : ∀ n ∈ tmsS, n ≤ 6 := by decide
theorem rowS_ok {n : Nat} (h : n ≤ 6) : Rk wS (List.replicate n [0]).flatten := rk_rep (n := 1) (wt := wS) ⟨by decide, by decide⟩ (by omega)
theorem de_seqS {X : Cx} {Γ : Ct} {M : Mt} {e : Expr} (h : DE T X Γ M e (sLst X.K [sSD X.K [.int 1], sSD X.K [.int 2], sSD X.K [.int 0], sSD X.K [.int 4], sSD X.K [.int 3]])) : DE T X Γ M e (sMv X.K wS.moves) := h.imp fun _ _ z => sLst_seq z
theorem law_tail (m : Pf T K mg base) (W : Wf K mg CW) (q : Qf K mg) (l : Lf K mg) {f : Addr} {cdv : Value} {A : Around} {outer : List Env} {s : Shared} {H I : Hp} {E : XK} {Q : VK} {tp' : Addr} {M : Mt} (hr : Room 9 (A.deeper (envOfC "law" (defScope s_law) s.heap.objs.size f cdv))) (hQ : ∀ v H', v = .bl true → Q v H') :
    Tr ⟨T, [], I, H, []⟩ (cxN P w K mg base n_law "law" s_law f cdv A outer s H E) [none, some (sV (.ref tp')), none, none, none, none, none, none, none, none, none, none, none, none] M ((defBody s_law).drop 2) { nx := fun _ H' => Q .non H', rt := Q } := by
  refine tr_unp3 (i := 9) (j := 10) (l := 11) sc_law.nd rfl rfl rfl rfl (de_call0 (fd_known m W l) hr (Nat.le_refl _) () trivial rfl) ?_
  have e1 : ∀ (v : V) (I : Hp), (sD K (.bool (!PyData.eqv (eL (eP eN eN) (rowsF.map fun r => tp (mapN wF.moves r))) (eL (eP eN eN) ansF)))).p v I → (sD K (.bool false)).p v I := fun v I z => by
    rw [tpsF, (encL (encP encN encN)).eqv, decide_eq_true rfl] at z
    exact z
  have e2 : ∀ (v : V) (I : Hp), (sD K (.bool (PyData.eqv (eL (eP eN eN) (tmsS.map fun n => tp (mapN wS.moves (List.replicate n [0]).flatten))) (eL (eP eN eN) ansS)))).p v I → (sD K (.bool true)).p v I := fun v I z => by
    rw [tpsS, (encL (encP encN encN)).eqv, decide_eq_true rfl] at z
    exact z
  have s1 := (encL (encP encN encN)).shaped (by decide) (rowsF.map fun r => tp (mapN wF.moves r))
  have s2 := (encL (encP encN encN)).shaped (by decide) (tmsS.map fun n => tp (mapN wS.moves (List.replicate n [0]).flatten))
  generalize hLX : (eL (eP eN eN) (rowsF.map fun r => tp (mapN wF.moves r))) = LX at e1 s1
  generalize hLS : (eL (eP eN eN) (tmsS.map fun n => tp (mapN wS.moves (List.replicate n [0]).flatten))) = LS at e2 s2
  refine tr_skip ?_ ?_
  · refine dt_cmp (c := false) (r := rNeD K) (Sa := sD K LX) (Sb := sD K (eL (eP eN eN) ansF)) ?_ ?_ ?_ ?_ ?_
    · exact op_neD hr.units
    · rfl
    · exact RD2.imp (rd_neD s1 rfl) e1
    · rw [← hLX]
      refine de_ipsL (wt := wF) (as := rowsF) (enc := eT eN) (r := fun r => r) (j := 12) ?_ ?_ ?_ ?_ ?_ ?_ ?_ ?_
      · exact rfl
      · exact sc_law.nd
      · refine di_Lf (f := eT eN) (xs := rowsF) ?_
        refine DE.is (d := .list [.tuple [eN 1, eN 1], .tuple [eN 0, eN 1], .tuple [eN 1, eN 0], .tuple [eN 1, eN 1, eN 0]]) ?_ ?_
        · refine de_lstD (ds := [.tuple [eN 1, eN 1], .tuple [eN 0, eN 1], .tuple [eN 1, eN 0], .tuple [eN 1, eN 1, eN 0]]) ?_ ?_
          · refine dad_cons ?_ ?_ ?_
            · refine de_tupD (ds := [eN 1, eN 1]) ?_ ?_
              · refine dad_cons ?_ ?_ ?_
                · exact de_int.is rfl
                · refine dad_cons ?_ ?_ ?_
                  · exact de_int.is rfl
                  · exact dad_nil
                  · rfl
                · rfl
              · show (2 : Nat) ≤ 1000
                decide
            · refine dad_cons ?_ ?_ ?_
              · refine de_tupD (ds := [eN 0, eN 1]) ?_ ?_
                · refine dad_cons ?_ ?_ ?_
                  · exact de_int.is rfl
                  · refine dad_cons ?_ ?_ ?_
                    · exact de_int.is rfl
                    · exact dad_nil
                    · rfl
                  · rfl
                · show (2 : Nat) ≤ 1000
                  decide
              · refine dad_cons ?_ ?_ ?_
                · refine de_tupD (ds := [eN 1, eN 0]) ?_ ?_
                  · refine dad_cons ?_ ?_ ?_
                    · exact de_int.is rfl
                    · refine dad_cons ?_ ?_ ?_
                      · exact de_int.is rfl
                      · exact dad_nil
                      · rfl
                    · rfl
                  · show (2 : Nat) ≤ 1000
                    decide
                · refine dad_cons ?_ ?_ ?_
                  · refine de_tupD (ds := [eN 1, eN 1, eN 0]) ?_ ?_
                    · refine dad_cons ?_ ?_ ?_
                      · exact de_int.is rfl
                      · refine dad_cons ?_ ?_ ?_
                        · exact de_int.is rfl
                        · refine dad_cons ?_ ?_ ?_
                          · exact de_int.is rfl
                          · exact dad_nil
                          · rfl
                        · rfl
                      · rfl
                    · show (3 : Nat) ≤ 1000
                      decide
                  · exact dad_nil
                  · rfl
                · rfl
              · rfl
            · rfl
          · show (4 : Nat) ≤ 1000
            decide
        · rfl
      · decide
      · exact blkOk_by (N := n_law) (sc := defScope s_law) (by decide +kernel)
      · exact (fun _ _ _ _ _ => pg_name sc_law.nd rfl (.inl rfl))
      · intro r hr' s0 H0 C0 cl fp
        refine de_ip (k := 9) m W q ?_ ?_ okF (rowsF_ok r hr') ?_ ?_
        · exact hr
        · decide
        · exact dv 9
        · exact dv 12
      · intro _
        rfl
    · refine DE.is (d := .list [.tuple [eN 1, eN 1], .tuple [eN 1, eN 1], .tuple [eN 1, eN 1], .tuple [eN 1, eN 1]]) ?_ ?_
      · refine de_lstD (ds := [.tuple [eN 1, eN 1], .tuple [eN 1, eN 1], .tuple [eN 1, eN 1], .tuple [eN 1, eN 1]]) ?_ ?_
        · refine dad_cons ?_ ?_ ?_
          · refine de_tupD (ds := [eN 1, eN 1]) ?_ ?_
            · refine dad_cons ?_ ?_ ?_
              · exact de_int.is rfl
              · refine dad_cons ?_ ?_ ?_
                · exact de_int.is rfl
                · exact dad_nil
                · rfl
              · rfl
            · show (2 : Nat) ≤ 1000
              decide
          · refine dad_cons ?_ ?_ ?_
            · refine de_tupD (ds := [eN 1, eN 1]) ?_ ?_
              · refine dad_cons ?_ ?_ ?_
                · exact de_int.is rfl
                · refine dad_cons ?_ ?_ ?_
                  · exact de_int.is rfl
                  · exact dad_nil
                  · rfl
                · rfl
              · show (2 : Nat) ≤ 1000
                decide
            · refine dad_cons ?_ ?_ ?_
              · refine de_tupD (ds := [eN 1, eN 1]) ?_ ?_
                · refine dad_cons ?_ ?_ ?_
                  · exact de_int.is rfl
                  · refine dad_cons ?_ ?_ ?_
                    · exact de_int.is rfl
                    · exact dad_nil
                    · rfl
                  · rfl
                · show (2 : Nat) ≤ 1000
                  decide
              · refine dad_cons ?_ ?_ ?_
                · refine de_tupD (ds := [eN 1, eN 1]) ?_ ?_
                  · refine dad_cons ?_ ?_ ?_
                    · exact de_int.is rfl
                    · refine dad_cons ?_ ?_ ?_
                      · exact de_int.is rfl
                      · exact dad_nil
                      · rfl
                    · rfl
                  · show (2 : Nat) ≤ 1000
                    decide
                · exact dad_nil
                · rfl
              · rfl
            · rfl
          · rfl
        · show (4 : Nat) ≤ 1000
          decide
      · rfl
  refine tr_asg (i := 13) (S := sW K CW wS) sc_law.nd rfl ?_ ?_
  · refine de_W (k := 9) m W ?_ ?_ wS okS ?_ ?_ ?_ ?_ ?_ ?_
    · exact hr
    · decide
    · refine de_seqS ?_
      refine de_lst (j := 0) ?_ ?_
      · refine da_cons ?_ ?_ ?_
        · refine DE.sl ?_
          refine DE.is (d := .list [eN 1]) ?_ ?_
          · refine de_lstD (ds := [eN 1]) ?_ ?_
            · refine dad_cons ?_ ?_ ?_
              · exact de_int.is rfl
              · exact dad_nil
              · rfl
            · show (1 : Nat) ≤ 1000
              decide
          · rfl
        · refine da_cons ?_ ?_ ?_
          · refine DE.sl ?_
            refine DE.is (d := .list [eN 2]) ?_ ?_
            · refine de_lstD (ds := [eN 2]) ?_ ?_
              · refine dad_cons ?_ ?_ ?_
                · exact de_int.is rfl
                · exact dad_nil
                · rfl
              · show (1 : Nat) ≤ 1000
                decide
            · rfl
          · refine da_cons ?_ ?_ ?_
            · refine DE.sl ?_
              refine DE.is (d := .list [eN 0]) ?_ ?_
              · refine de_lstD (ds := [eN 0]) ?_ ?_
                · refine dad_cons ?_ ?_ ?_
                  · exact de_int.is rfl
                  · exact dad_nil
                  · rfl
                · show (1 : Nat) ≤ 1000
                  decide
              · rfl
            · refine da_cons ?_ ?_ ?_
              · refine DE.sl ?_
                refine DE.is (d := .list [eN 4]) ?_ ?_
                · refine de_lstD (ds := [eN 4]) ?_ ?_
                  · refine dad_cons ?_ ?_ ?_
                    · exact de_int.is rfl
                    · exact dad_nil
                    · rfl
                  · show (1 : Nat) ≤ 1000
                    decide
                · rfl
              · refine da_cons ?_ ?_ ?_
                · refine DE.sl ?_
                  refine DE.is (d := .list [eN 3]) ?_ ?_
                  · refine de_lstD (ds := [eN 3]) ?_ ?_
                    · refine dad_cons ?_ ?_ ?_
                      · exact de_int.is rfl
                      · exact dad_nil
                      · rfl
                    · show (1 : Nat) ≤ 1000
                      decide
                  · rfl
                · exact da_nil
                · rfl
              · rfl
            · rfl
          · rfl
        · rfl
      · show (5 : Nat) ≤ 1000
        decide
    · refine DE.sl ?_
      refine DE.is (d := .list [eN 0, eN 0, eN 0, eN 1, eN 0]) ?_ ?_
      · refine de_lstD (ds := [eN 0, eN 0, eN 0, eN 1, eN 0]) ?_ ?_
        · refine dad_cons ?_ ?_ ?_
          · exact de_int.is rfl
          · refine dad_cons ?_ ?_ ?_
            · exact de_int.is rfl
            · refine dad_cons ?_ ?_ ?_
              · exact de_int.is rfl
              · refine dad_cons ?_ ?_ ?_
                · exact de_int.is rfl
                · refine dad_cons ?_ ?_ ?_
                  · exact de_int.is rfl
                  · exact dad_nil
                  · rfl
                · rfl
              · rfl
            · rfl
          · rfl
        · show (5 : Nat) ≤ 1000
          decide
      · rfl
    · rfl
    · rfl
    · rfl
    · rfl
  refine tr_ret (S := sD K (.bool true)) ?_ fun v I' H' g p => hQ v H' (dp_bl p)
  refine de_cmp (r := rEqD K) (Sa := sD K LS) (Sb := sD K (eL (eP eN eN) ansS)) ?_ ?_ ?_ ?_ ?_
  · exact op_eqD hr.units
  · rfl
  · exact RD2.imp (rd_eqD s2 rfl) e2
  · rw [← hLS]
    refine de_ipsL (wt := wS) (as := tmsS) (enc := eN) (r := fun n => (List.replicate n [0]).flatten) (j := 8) ?_ ?_ ?_ ?_ ?_ ?_ ?_ ?_
    · exact rfl
    · exact sc_law.nd
    · refine di_Lf (f := eN) (xs := tmsS) ?_
      refine DE.is (d := .list [eN 1, eN 2, eN 3, eN 4, eN 6]) ?_ ?_
      · refine de_lstD (ds := [eN 1, eN 2, eN 3, eN 4, eN 6]) ?_ ?_
        · refine dad_cons ?_ ?_ ?_
          · exact de_int.is rfl
          · refine dad_cons ?_ ?_ ?_
            · exact de_int.is rfl
            · refine dad_cons ?_ ?_ ?_
              · exact de_int.is rfl
              · refine dad_cons ?_ ?_ ?_
                · exact de_int.is rfl
                · refine dad_cons ?_ ?_ ?_
                  · exact de_int.is rfl
                  · exact dad_nil
                  · rfl
                · rfl
              · rfl
            · rfl
          · rfl
        · show (5 : Nat) ≤ 1000
          decide
      · rfl
    · decide
    · exact blkOk_by (N := n_law) (sc := defScope s_law) (by decide +kernel)
    · exact (fun _ _ _ _ _ => pg_name sc_law.nd rfl (.inl rfl))
    · intro n hn s0 H0 C0 cl fp
      have h6 := tmsS_ok n hn
      refine de_ip (k := 9) m W q ?_ ?_ okS (rowS_ok h6) ?_ ?_
      · exact hr
      · decide
      · exact dv 13
      · refine de_repT (xs := [0]) ?_ ?_ ?_ ?_
        · refine DE.is (d := .tuple [eN 0]) ?_ ?_
          · refine de_tupD (ds := [eN 0]) ?_ ?_
            · refine dad_cons ?_ ?_ ?_
              · exact de_int.is rfl
              · exact dad_nil
              · rfl
            · show (1 : Nat) ≤ 1000
              decide
          · rfl
        · exact dv 8
        · decide
        · omega
    · intro _
      rfl
  · refine DE.is (d := .list [.tuple [eN 0, eN 6], .tuple [eN 0, eN 3], .tuple [eN 0, eN 2], .tuple [eN 0, eN 3], .tuple [eN 0, eN 1]]) ?_ ?_
    · refine de_lstD (ds := [.tuple [eN 0, eN 6], .tuple [eN 0, eN 3], .tuple [eN 0, eN 2], .tuple [eN 0, eN 3], .tuple [eN 0, eN 1]]) ?_ ?_
      · refine dad_cons ?_ ?_ ?_
        · refine de_tupD (ds := [eN 0, eN 6]) ?_ ?_
          · refine dad_cons ?_ ?_ ?_
            · exact de_int.is rfl
            · refine dad_cons ?_ ?_ ?_
              · exact de_int.is rfl
              · exact dad_nil
              · rfl
            · rfl
          · show (2 : Nat) ≤ 1000
            decide
        · refine dad_cons ?_ ?_ ?_
          · refine de_tupD (ds := [eN 0, eN 3]) ?_ ?_
            · refine dad_cons ?_ ?_ ?_
              · exact de_int.is rfl
              · refine dad_cons ?_ ?_ ?_
                · exact de_int.is rfl
                · exact dad_nil
                · rfl
              · rfl
            · show (2 : Nat) ≤ 1000
              decide
          · refine dad_cons ?_ ?_ ?_
            · refine de_tupD (ds := [eN 0, eN 2]) ?_ ?_
              · refine dad_cons ?_ ?_ ?_
                · exact de_int.is rfl
                · refine dad_cons ?_ ?_ ?_
                  · exact de_int.is rfl
                  · exact dad_nil
                  · rfl
                · rfl
              · show (2 : Nat) ≤ 1000
                decide
            · refine dad_cons ?_ ?_ ?_
              · refine de_tupD (ds := [eN 0, eN 3]) ?_ ?_
                · refine dad_cons ?_ ?_ ?_
                  · exact de_int.is rfl
                  · refine dad_cons ?_ ?_ ?_
                    · exact de_int.is rfl
                    · exact dad_nil
                    · rfl
                  · rfl
                · show (2 : Nat) ≤ 1000
                  decide
              · refine dad_cons ?_ ?_ ?_
                · refine de_tupD (ds := [eN 0, eN 1]) ?_ ?_
                  · refine dad_cons ?_ ?_ ?_
                    · exact de_int.is rfl
                    · refine dad_cons ?_ ?_ ?_
                      · exact de_int.is rfl
                      · exact dad_nil
                      · rfl
                    · rfl
                  · show (2 : Nat) ≤ 1000
                    decide
                · exact dad_nil
                · rfl
              · rfl
            · rfl
          · rfl
        · rfl
      · show (5 : Nat) ≤ 1000
        decide
    · rfl
end
end Rm
set_option Elab.async false
set_option linter.all false
set_option maxRecDepth 100000
set_option maxHeartbeats 4000000
namespace Rm
open PySem PySem.Spec PyProof.Rows L2 LamX NdefX
section
variable {P : Program} {w : World} {K : PySem.W.Frag} {mg : Str → Option Value} {base : Heap} {T : Tb} {CW CB : Addr}
theorem ok_law (m : Pf T K mg base) (W : Wf K mg CW) (Bk : Bkf K mg CB) (q : Qf K mg) (t : Tf K mg) (l : Lf K mg) (x : Xf K mg) {f : Addr} {fd : FuncData} (F : Fun K "law" "law" s_law f fd) : FnOk P w K mg base CX0 10 f fd ["script"] (spLaw T K) := by
  refine F.ok sc_law (fun vs H Q E h => ?_) (fun cdv A outer s H vs Q E hr h => ?_)
  · obtain ⟨zs, I, _, _, h3, _⟩ := h
    exact h3.length.symm
  obtain ⟨zs, I, hz, wd, h3, hQ⟩ := h
  refine ⟨_, ps_ws (X := cxN P w K mg base n_law "law" s_law f cdv A outer s H E), ?_⟩
  have key : Tr ⟨T, [], I, H, []⟩ (cxN P w K mg base n_law "law" s_law f cdv A outer s H E) (st0 n_law [sD K (eL eI zs)]) [] (defBody s_law) { nx := fun _ H' => Q .non H', rt := Q } := by
    refine tr_asgX (i := 1) sc_law.nd rfl (dx_begun t hz hr (by decide) (dv 0)) fun ⟨tp', lg⟩ hne => ?_
    have hne : tp' ≠ lg := hne
    have M0 : ∀ z ∈ tpM K (tp', lg), z ∈ tpM K (tp', lg) ++ [] := fun z hz => List.mem_append_left _ hz
    refine tr_for (j := 2) (δ := Unit) (Ss := (List.range (6 + min zs.length 9)).map fun i => sD K (eN i)) (Pd := fun _ _ => True) (G := fun _ _ => [none, some (sV (.ref tp')), none, none, none, none, none, none, none, none, none, none, none, none]) (Mf := fun _ _ => tpM K (tp', lg) ++ []) PassesOwn.never rfl sc_law.nd rfl (di_range1 m.bf.range ((de_add de_int (de_min2 rfl l.min (de_lenL m.bf.len (ds := zs.map eI) (dv 0)) de_int)).is ?_) (by omega)) () trivial (.drop (.keep (.keep (.keep (.keep (.keep (.keep (.keep (.keep (.keep (.keep (.keep (.keep (.keep .nil)))))))))))))) rfl (fun Ah k _ S hS _ => ?_) (fun _ _ => ?_)
    · rw [List.length_map]
      show PyData.int _ = PyData.int ((6 + min zs.length 9 : Nat) : Int)
      congr 1
      split <;> omega
    · -- a lap
      refine tr_asgS (i := 3) (S := sBelow K 4) sc_law.nd rfl (ds_draw (n := 4) (d := (tp', lg)) m.bf t hr (by decide) hne M0 (by decide) (ds_of (dv 1)) (ds_of (de_nat 4))) ?_
      refine tr_pick (C := fun r : Nat => r < 4) (Si := fun r => sD K (eN r)) 3 rfl fun way _ => ?_
      refine tr_asgS (i := 4) (S := sAnyW K) sc_law.nd rfl (ds_if (c := decide (way = 0)) (dst_of (dt_eqE encN (x := way) (y := 0) (by decide) hr.units (dv 3) de_int)) (fun _ => ds_call (fd_ringed m.bf t l) hr (by decide) (tp', lg) hne M0 (tpM_nd hne) (dsa_one (ds_of (dv 1)))) (fun _ => ds_if (c := decide (way = 1)) (dst_of (dt_eqE encN (x := way) (y := 1) (by decide) hr.units (dv 3) de_int)) (fun _ => ds_call (fd_counting m.bf t l) hr (by decide) (tp', lg) hne M0 (tpM_nd hne) (dsa_one (ds_of (dv 1)))) (fun _ => ds_callE (fd_lwatch m.bf t l) hr (by decide) (Ss := [sV (.ref tp'), sD K (eN 6), sEx (fun r : Nat => 1 ≤ r ∧ r ≤ 3) fun r => sD K (eN r), sD K (eN 2)]) (fun vs I h => ?_) (dsa_cons (ds_of (dv 1)) (dsa_cons (ds_of (de_nat 6)) (dsa_cons (ds_op op_add (rd_exR fun r hr => RD2.imp rd_I0 fun v I z => ⟨1 + r, ⟨by omega, by omega⟩, by
        show (sD K (.int ((1 + r : Nat) : Int))).p v I
        rw [Int.natCast_add]
        exact z⟩) (ds_of de_int) (ds_draw (n := 3) (d := (tp', lg)) m.bf t hr (by decide) hne M0 (by decide) (ds_of (dv 1)) (ds_of (de_nat 3)))) (dsa_one (ds_of (de_nat 2))))))))) ?_
      · cases h with
        | cons h1 t1 =>
          cases t1 with
          | cons h2 t2 =>
            cases t2 with
            | cons h3 t3 =>
              obtain ⟨r, ⟨r1, r2⟩, h3⟩ := h3
              exact ⟨((tp', lg), 6, r, 2), ⟨hne, by show 1 ≤ 6; decide, by show 6 ≤ 6; decide, r1, by show r ≤ 4; omega, by show 1 ≤ 2; decide, by show 2 ≤ 4; decide⟩, .cons h1 (.cons h2 (.cons h3 t3)), M0, tpM_nd hne, fun v I' ⟨wt, hw, z⟩ => ⟨wt, hw.1, z⟩⟩
      refine tr_pick (C := Wt.Ok) (Si := fun wt => sD K (eWt wt)) 4 rfl fun wt ok => ?_
      have k1 := ok.k1
      refine tr_asg (i := 5) (S := sW K CW wt) sc_law.nd rfl (de_call (fd_made m W l) hr (Nat.le_refl _) wt ok (da_one (dv 4))) ?_
      refine tr_parS (i := 6) (j := 7) (Sa := sEx (OkR wt.kinds 5) fun row => sD K (eT eN row)) (Sb := sEx (OkR wt.kinds 5) fun row => sD K (eT eN row)) sc_law.nd rfl rfl rfl (by decide) (ds_lrow (n := 5) (d := (tp', lg)) m.bf t l hr (by decide) hne M0 ok (by decide) (ds_of (dv 1)) (ds_of (dv 4)) (ds_of (de_nat 5))) (ds_lrow (n := 5) (d := (tp', lg)) m.bf t l hr (by decide) hne M0 ok (by decide) (ds_of (dv 1)) (ds_of (dv 4)) (ds_of (de_nat 5))) ?_
      refine tr_pick (C := OkR wt.kinds 5) (Si := fun row => sD K (eT eN row)) 6 rfl fun u hu => ?_
      refine tr_pick (C := OkR wt.kinds 5) (Si := fun row => sD K (eT eN row)) 7 rfl fun v hv => ?_
      have hu : Rl wt 5 u := hu
      have hv : Rl wt 5 v := hv
      have hu100 : Rl wt 100 u := ⟨Nat.le_trans hu.1 (by decide), hu.2⟩
      have hv100 : Rl wt 100 v := ⟨Nat.le_trans hv.1 (by decide), hv.2⟩
      have h3 := rk_rep (k := 3) hu (by decide)
      have h3' : Rl wt 100 (List.replicate 3 u).flatten := ⟨by rw [lm_len_rep_flat]; have := hu.1; omega, h3.2⟩
      have h0 : Rl wt 100 (u ++ [0]) := ⟨by rw [List.length_append]; have := hu.1; show u.length + 1 ≤ 100; omega, fun a ha => (List.mem_append.mp ha).elim (hu.2 a) fun z => by simp only [List.mem_cons, List.not_mem_nil, or_false] at z; omega⟩
      refine tr_skip (DW.dt (dw_or (c := false) (c' := false) (dt_not (c := true) (dt_val (de_call (fd_joined m W q l x) hr (by decide) (wt, u, v) ⟨ok, hu100, hv100⟩ (da_cons (dv 5) (da_cons (dv 6) (da_one (dv 7))))))) fun _ => dw_or1 (dt_not (c := true) (dt_val (de_call (fd_joined m W q l x) hr (by decide) (wt, u, (List.replicate 3 u).flatten) ⟨ok, hu100, h3'⟩ (da_cons (dv 5) (da_cons (dv 6) (da_one (de_repT (dv 6) (de_nat 3) (by have := hu.1; omega) (by decide)))))))))) ?_
      refine tr_forS (ι := Unit) (δ := Unit) (j := 8) (Ci := fun _ => True) (Ssi := fun _ => [sTm K, sTm K, sTm K, sTm K, sTm K]) (Pd := fun _ _ _ => True) (G := fun _ _ _ => [none, some (sV (.ref tp')), none, none, none, some (sW K CW wt), some (sD K (eT eN u)), some (sD K (eT eN v)), none, none, none, none, none, none]) (Mf := fun _ _ _ => tpM K (tp', lg) ++ []) PassesOwn.never rfl sc_law.nd rfl
        (dsi_seq (DS.imp (ds_lst (Ss := [sTm K, sTm K, sTm K, sTm K, sTm K]) (dsa_cons (ds_of ((de_nat 1).imp fun v I z => ⟨1, by decide, z⟩)) (dsa_cons (ds_of ((de_nat 2).imp fun v I z => ⟨2, by decide, z⟩)) (dsa_cons (ds_of ((de_nat 3).imp fun v I z => ⟨3, by decide, z⟩)) (dsa_cons (ds_of ((de_nat 6).imp fun v I z => ⟨6, by decide, z⟩)) (dsa_one (ds_op op_add (rd_exR fun r hr => RD2.imp rd_I0 fun v I z => ⟨1 + r, ⟨by omega, by omega⟩, by
        show (sD K (.int ((1 + r : Nat) : Int))).p v I
        rw [Int.natCast_add]
        exact z⟩) (ds_of de_int) (ds_draw (n := 40) (d := (tp', lg)) m.bf t hr (by decide) hne M0 (by decide) (ds_of (dv 1)) (ds_of (de_nat 40))))))))) (by show (5 : Nat) ≤ 1000; decide)) fun _ _ => sLst_seq)) (fun _ => ()) (fun _ _ => trivial) (fun _ => .drop (.keep (.drop (.drop (.drop (.keep (.keep (.keep (.keep (.keep (.keep (.keep (.keep (.keep .nil)))))))))))))) (fun _ => rfl) (fun _ _ Ah2 k2 _ S2 hS2 _ => ?_) (fun _ _ _ _ => ?_)
      · have e2 : S2 = sTm K := by
          have := List.mem_of_getElem? hS2
          simp only [List.mem_cons, List.not_mem_nil, or_false, or_self] at this
          exact this
        subst e2
        refine tr_pick (C := fun k : Nat => 1 ≤ k ∧ k ≤ 40) (Si := fun k => sD K (eN k)) 8 rfl fun tm ⟨c1, c2⟩ => ?_
        refine tr_skip (DT.is (dt_not (c := true) (dt_val (de_call (fd_times m W q l x) hr (by decide) (wt, u, tm) ⟨ok, hu, c1, c2⟩ (da_cons (dv 5) (da_cons (dv 6) (da_one (dv 8))))))) rfl) ?_
        exact tr_nil fun σ I H s' => ⟨(), I, trivial, s'.weak (.keep (.keep (.keep (.keep (.keep (.keep (.keep (.keep (.drop (.keep (.keep (.keep (.keep (.keep .nil))))))))))))))⟩
      · refine tr_skipS ((dst_or (c := false) (c' := false) (dst_not (c := true) (dst_val (ds_call (fd_turnsR m W q t x) hr (by decide) ((tp', lg), wt, u ++ [0]) ⟨hne, ok, h0⟩ M0 (tpM_nd hne) (dsa_cons (ds_of (dv 1)) (dsa_cons (ds_of (dv 5)) (dsa_one (ds_of (de_catT (dv 6) ((de_tupD (ds := [eN 0]) (dad_cons (de_nat 0) dad_nil) (by decide)).is rfl) (by have := hu.1; show u.length + 1 ≤ 100000; omega))))))))) fun _ => dst_not (c := true) (dst_val (ds_call (fd_bookR m W Bk q t x) hr (by decide) ((tp', lg), wt, v) ⟨hne, ok, hv⟩ M0 (tpM_nd hne) (dsa_cons (ds_of (dv 1)) (dsa_cons (ds_of (dv 5)) (dsa_one (ds_of (dv 7)))))))).is rfl) ?_
        exact tr_nil fun σ I H s' => ⟨(), I, trivial, s'.weak (.keep (.keep (.keep (.keep (.keep (.drop (.drop (.drop (.keep (.keep (.keep (.keep (.keep (.keep .nil))))))))))))))⟩
    · exact law_tail m W q l hr hQ
  exact key (L2.start n_law vs) I H ⟨sl_start h3, Gr.refl wd, (fun m hm => nomatch hm), (fun A hA => nomatch hA)⟩
end
end Rm
set_option Elab.async false
set_option linter.all false
set_option maxRecDepth 100000
set_option maxHeartbeats 0
namespace Rm
open PySem PySem.Spec PyProof.Rows L2 LamX NdefX He
def hfa0 : List Fa := [.free "min",
  .free "max",
  .glo "_law_pick",
  .glo "_law_watch",
  .glo "_law_made",
  .glo "_law_row",
  .glo "_law_ringed",
  .glo "_law_counting",
  .glo "_law_known",
  .glo "_law_common",
  .glo "_law_joined_right",
  .glo "_law_times_right",
  .glo "_law_turns_right",
  .glo "_law_book_right",
  .glo "Mapbook",
  .cls "Mapbook",
  .noat "Mapbook" "own_watch",
  .noat "Mapbook" "own_entries",
  .noat "Mapbook" "own_deeds",
  .mkr "Mapbook",
  .meth "Mapbook" "entry",
  .meth "Mapbook" "made",
  .meth "Mapbook" "do",
  .meth "Mapbook" "size",
  .meth "Mapbook" "does",
  .meth "Mapbook" "says",
  .glo "is_entry_name",
  .int "MOST_LENGTH" 1000000000000000000,
  .int "MOST_ENTRIES" 60,
  .str "LETTERS" "abcdefghijklmnopqrstuvwxyz"]
def hfa1 : List Fa := [.free "len",
  .free "tuple",
  .free "list",
  .free "range",
  .free "isinstance",
  .free "int",
  .free "bool",
  .free "str",
  .free "all",
  .free "enumerate",
  .glo "is_number",
  .glo "is_between",
  .glo "is_list",
  .glo "first_wrong",
  .glo "is_short_list",
  .glo "is_row",
  .glo "need_row",
  .glo "need_row_of",
  .glo "is_word",
  .glo "is_line",
  .glo "need_moves",
  .glo "need_words",
  .int "MOST_EVENTS" 300,
  .int "MOST_KINDS" 4,
  .int "MOST_WORD" 3,
  .int "MOST_PLACES" 6,
  .glo "need_watch",
  .glo "Watch",
  .cls "Watch",
  .noat "Watch" "own_moves"]
def hfa2 : List Fa := [.noat "Watch" "own_words",
  .mkr "Watch",
  .glo "led_from",
  .glo "map_by",
  .glo "map_of",
  .glo "then",
  .glo "power",
  .glo "need_times",
  .glo "map_power",
  .glo "turns_by",
  .glo "index_period",
  .int "MOST_TIMES" 1000000000000000000,
  .free "abs",
  .glo "_law_begun",
  .glo "_law_blend",
  .glo "_law_draw",
  .glo "law"]
def hfa : List Fa := hfa0 ++ hfa1 ++ hfa2
def hfn0 : List DefD := [dD "_law_pick" s__law_pick,
  dD "_law_watch" s__law_watch,
  dD "_law_made" s__law_made,
  dD "_law_row" s__law_row,
  dD "_law_ringed" s__law_ringed,
  dD "_law_counting" s__law_counting,
  dD "_law_known" s__law_known,
  dD "_law_common" s__law_common,
  dD "_law_joined_right" s__law_joined_right,
  dD "_law_times_right" s__law_times_right,
  dD "_law_turns_right" s__law_turns_right,
  dD "_law_book_right" s__law_book_right,
  dM "Mapbook" "__init__" "Mapbook.__init__" s_Mapbook_init,
  dM "Mapbook" "entry" "Mapbook.entry" s_Mapbook_entry,
  dM "Mapbook" "made" "Mapbook.made" s_Mapbook_made,
  dM "Mapbook" "do" "Mapbook.do" s_Mapbook_do,
  dM "Mapbook" "size" "Mapbook.size" s_Mapbook_size,
  dM "Mapbook" "does" "Mapbook.does" s_Mapbook_does,
  dM "Mapbook" "says" "Mapbook.says" s_Mapbook_says,
  dD "is_entry_name" s_is_entry_name,
  dD "is_number" s_is_number,
  dD "is_between" s_is_between,
  dD "is_list" s_is_list,
  dD "first_wrong" s_first_wrong,
  dD "is_short_list" s_is_short_list,
  dD "is_row" s_is_row,
  dD "need_row" s_need_row,
  dD "need_row_of" s_need_row_of,
  dD "is_word" s_is_word,
  dD "is_line" s_is_line]
def hfn1 : List DefD := [dD "need_moves" s_need_moves,
  dD "need_words" s_need_words,
  ⟨("need_watch", none), "need_watch", "need_watch", defArgs s_need_watch, defBody s_need_watch, defScope s_need_watch, [.non], []⟩,
  dM "Watch" "__init__" "Watch.__init__" s_Watch_init,
  dD "led_from" s_led_from,
  dD "map_by" s_map_by,
  dD "map_of" s_map_of,
  dD "then" s_then,
  dD "power" s_power,
  dD "need_times" s_need_times,
  dD "map_power" s_map_power,
  dD "turns_by" s_turns_by,
  dD "index_period" s_index_period,
  dD "_law_begun" s__law_begun,
  dD "_law_blend" s__law_blend,
  dD "_law_draw" s__law_draw,
  dD "law" s_law]
def hfn : List DefD := hfn0 ++ hfn1
def htq : List Tq := [(("is_row", none), "is_row.<locals>.<lambda>"), (("need_row_of", none), "need_row_of.<locals>.<lambda>"), (("need_moves", none), "need_moves.<locals>.<lambda>")]
def hpr : List PrD := [⟨"Watch", "moves", "Watch.moves", s_Watch_moves⟩, ⟨"Watch", "words", "Watch.words", s_Watch_words⟩, ⟨"Watch", "kinds", "Watch.kinds", s_Watch_kinds⟩]
def hex (K : PySem.W.Frag) : Bool := eqO (PySem.W.findIn K (.ref (ga K "Watch")) "__class__") (some (some (.builtin "object.__class__"))) && (eqO (PySem.W.specialIn K (.builtin "object.__class__") "__get__") (some (some (.builtin "getset_descriptor.__get__"))) && (decide (PySem.W.takesIn K (.builtin "object.__class__") = some true) && (decide (PySem.W.mroIn K (ga K "Watch") (.type "object") = some true))))
def hloose0 : List Str := ["_wall",
  "WatchError",
  "PartError",
  "ItemError",
  "BadNumber",
  "NoWatch",
  "BadMoves",
  "BadWords",
  "BadRow",
  "BadEdit",
  "BadName",
  "is_number",
  "is_between",
  "is_list",
  "MOST_EVENTS",
  "MOST_KINDS",
  "MOST_WORD",
  "first_wrong",
  "is_short_list",
  "is_row",
  "need_row",
  "need_row_of",
  "is_word",
  "MOST_PLACES",
  "is_line",
  "need_moves",
  "need_words",
  "Watch",
  "need_watch",
  "led_from"]
def hloose1 : List Str := ["MOST_TIMES",
  "map_by",
  "map_of",
  "then",
  "power",
  "need_times",
  "map_power",
  "turns_by",
  "index_period",
  "MOST_LENGTH",
  "MOST_ENTRIES",
  "LETTERS",
  "is_entry_name",
  "Mapbook",
  "_law_begun",
  "_law_blend",
  "_law_draw",
  "_law_pick",
  "_law_watch",
  "_law_made",
  "_law_row",
  "_law_ringed",
  "_law_counting",
  "_law_known",
  "_law_common",
  "_law_joined_right",
  "_law_times_right",
  "_law_turns_right",
  "_law_book_right"]
def hloose : List Str := hloose0 ++ hloose1
abbrev hR : PySem.W.OpenRow := PySem.W.OpenLaw.row PySem.Challenge.rw_rowmaps_k42_across_how_joined_rows_come
abbrev hhk : PySem.W.Hook := hookP 8 hfa hfn htq hpr hex
def hob (s : PySem.W.SharedT) : AlP := obsP 8 hfa hfn htq hpr hex (HandSHeadRun.getT s)
theorem hob_eq (s : PySem.W.SharedT) : hob s = hhk.obs s.abs := obsP_eq (HandSHeadRun.getT_eq s)
theorem hrun (w : World) : HandSHeadRun.RunEq hR (PySem.W.view hR.prog [66]) hhk hob 20000 hloose w := by
  intro os
  kernel_rfl
theorem hfacts {w : World} {K : PySem.W.Frag} {h : Heap} {mg : Str → Option Value} {f : Addr} (X : K.In h) (G : h.Ns mainGlobals mg) (hf : mg "law" = some (.ref f)) (c : SaysP hfa hfn htq hpr hex w h K) :
    LawAtS PySem.Challenge.rw_rowmaps_k42_across_how_joined_rows_come w K CX0 10 63 "script" mg f h := by
  refine law_at X G c hf 76 46 rfl rfl (fun _ _ _ _ _ _ us hl => match us, hl with | [_], _ => rfl) fun fd F base _ _ TB => ?_
  obtain ⟨e0, er⟩ := ba c.exx
  obtain ⟨e1, er⟩ := ba er
  obtain ⟨e2, er⟩ := ba er
  have e3 := er
  have m : Pf (tabsOf htq K) K mg base := ⟨⟨c.free X G 30, c.free X G 31, c.free X G 32, c.free X G 33, c.free X G 34, c.free X G 35, c.free X G 36, c.free X G 37, c.free X G 38, c.free X G 39⟩, c.df X G 40 20, c.df X G 41 21, c.df X G 42 22, c.df X G 43 23, c.df X G 44 24, c.dfl X G TB 45 25 0, c.df X G 46 26, c.dfl X G TB 47 27 1, c.df X G 48 28, c.df X G 49 29, c.dfl X G TB 50 30 2, c.df X G 51 31, c.int X G 52, c.int X G 53, c.int X G 54, c.int X G 55⟩
  have W : Wf K mg (ga K "Watch") := ⟨glo_ok X G (c.fact 57), cls_ok (c.fact 58), noat_ok (c.fact 59), noat_ok (c.fact 60), eqO_ok e0, eqO_ok e1, of_decide_eq_true e2, of_decide_eq_true e3, c.mkc 61 33, c.prop 0, c.prop 1, c.prop 2, (by
    obtain ⟨fd, F⟩ := c.def_ 32
    exact ⟨_, fd, glo_ok X G (c.fact 56), F⟩)⟩
  have Bk : Bkf K mg (ga K "Mapbook") := ⟨glo_ok X G (c.fact 14), cls_ok (c.fact 15), noat_ok (c.fact 16), noat_ok (c.fact 17), noat_ok (c.fact 18), c.mkc 19 12, ⟨c.md 20 13⟩, ⟨c.md 21 14⟩, ⟨c.md 22 15⟩, ⟨c.md 23 16⟩, ⟨c.md 24 17⟩, ⟨c.md 25 18⟩, c.df X G 26 19, c.int X G 27, c.int X G 28, c.str X G 29⟩
  have q : Qf K mg := ⟨c.df X G 62 34, c.df X G 63 35, c.df X G 64 36, c.df X G 65 37, c.df X G 66 38, c.df X G 67 39, c.df X G 68 40, c.df X G 69 41, c.df X G 70 42, c.int X G 71⟩
  have t : Tf K mg := ⟨c.free X G 72, c.df X G 73 43, c.df X G 74 44, c.df X G 75 45⟩
  have l : Lf K mg := ⟨c.free X G 0, c.free X G 1, c.df X G 2 0, c.df X G 3 1, c.df X G 4 2, c.df X G 5 3, c.df X G 6 4, c.df X G 7 5, c.df X G 8 6, c.df X G 9 7⟩
  have x : Xf K mg := ⟨c.df X G 10 8, c.df X G 11 9, c.df X G 12 10, c.df X G 13 11⟩
  exact ok_law m W Bk q t l x F
end Rm
open PySem PySem.W PySem.Calls PyProof.Rows
theorem PySem.Challenge.cw_rowmaps_k42_across_how_joined_rows_come_holds : PySem.Challenge.rw_rowmaps_k42_across_how_joined_rows_come.Holds := by
  w_on; o_law
  refine HandSHeadRun.head_any (r := OpenLaw.row PySem.Challenge.rw_rowmaps_k42_across_how_joined_rows_come) (q := view (OpenLaw.row PySem.Challenge.rw_rowmaps_k42_across_how_joined_rows_come).prog [66]) (H := Rm.hhk) (ob := Rm.hob) (M := 20000) (loose := Rm.hloose) (d := HandSHeadRun.topDef (OpenLaw.row PySem.Challenge.rw_rowmaps_k42_across_how_joined_rows_come).prog 66) (kwd := []) Rm.hob_eq
    (by kernel_rfl) (fun s => by kernel_rfl) Rm.hrun (by kernel_rfl) (by kernel_rfl) (by kernel_rfl) (by rfl) (by first | assumption | decide +kernel) (by decide +kernel) ⟨rfl, rfl, rfl, rfl, rfl, by decide +kernel⟩ ?hw ?hc
  case hw => w_witness2
  case hc =>
    refine LamX.walk_ofTsE (l := PySem.Challenge.rw_rowmaps_k42_across_how_joined_rows_come) (n := 63) (k := 10) (x := "script") (CX := fun _ => L2.CX0) rfl (by decide) (by kernel_rfl) ⟨rfl, by decide, by decide⟩ ?F (fun _ _ _ _ _ z => z)
    intro w mg fa h Y G hmg0
    obtain ⟨K, KX, c⟩ := Y
    have hmg : mg ("law" : PySem.Str) = some (.ref fa) := by
      have e : (HandSHeadRun.topDef (OpenLaw.row PySem.Challenge.rw_rowmaps_k42_across_how_joined_rows_come).prog 66).name = ("law" : PySem.Str) := by kernel_rfl
      rw [← e]
      exact hmg0
    exact ⟨K, KX, Rm.hfacts KX G hmg c⟩
