import PyProof.Rows.All
import Wide.All
import OpenK.AllK
import Wide.FinOn
import HandS.ForMost
import HandS.More
import HandS.Defaults
import HandS.Exc
import HandS.Flow
import HandS.Style
import HandS.IsInst
import HandS.Walk
import HandS.Zip
import HandS.Rev
import HandS.Conv
import HandS.WordsExc
import HandS.ExcInit
import HandS.ExcOwn
import HandS.ExcField
import HandS.TryMany
import KE.KExcIs
import HandS.HeadHook1
import KE.KStateDown
import HandS.Head0
import HandS.Head1
import HandS.Head2
import HandS.HeadEnd
import HandS.HeadHook2
import HandS.HeadHook3
import HandS.HeadHook4
import PySem.Challenge.RW_paidatonce_k26_refusals_of_boxes_and_sha
set_option Elab.async false
set_option linter.all false
set_option maxRecDepth 100000
set_option maxHeartbeats 0
namespace Pa
open PySem PySem.Spec PyProof.Rows L2

inductive Dt where
  | non | bl (b : Bool) | int (i : Int) | str (x : Str) | lst (xs : List Dt) | tup (xs : List Dt) | dic (kvs : List (Key × Dt)) | scr (K : PySem.W.Frag) (ns : List Int)
abbrev dI (ns : List Int) : Dt := .lst (ns.map Dt.int)
/-- no object stands in it -/
def Flat : Dt → Prop
  | .lst _ => False
  | .tup _ => False
  | .dic _ => False
  | .scr _ _ => False
  | _ => True
inductive Den (G : Hp) : V → Dt → Prop
  | non : Den G .non .non
  | bl (b : Bool) : Den G (.bl b) (.bl b)
  | int (i : Int) : Den G (.int i) (.int i)
  | str (x : Str) : Den G (.str x) (.str x)
  | lst {a : Addr} {vs : List V} {ds : List Dt} (h : G a = some (.lst vs)) (hl : vs.length = ds.length) (hd : ∀ (i : Nat) (v : V) (d : Dt), vs[i]? = some v → ds[i]? = some d → Den G v d) : Den G (.ref a) (.lst ds)
  | tup {a : Addr} {vs : List V} {ds : List Dt} (h : G a = some (.tup vs)) (hl : vs.length = ds.length) (hd : ∀ (i : Nat) (v : V) (d : Dt), vs[i]? = some v → ds[i]? = some d → Den G v d) : Den G (.ref a) (.tup ds)
  | dic {a : Addr} {kvs : List (Key × V)} {kds : List (Key × Dt)} (h : G a = some (.dK kvs)) (hk : kvs.map (·.1) = kds.map (·.1)) (hd : ∀ (i : Nat) (p : Key × V) (q : Key × Dt), kvs[i]? = some p → kds[i]? = some q → Den G p.2 q.2) : Den G (.ref a) (.dic kds)
  | scr {a : Addr} {K : PySem.W.Frag} {ns : List Int} (h : SqL K G a (ns.map V.int)) : Den G (.ref a) (.scr K ns)
def DenL (G : Hp) (vs : List V) (ds : List Dt) : Prop := vs.length = ds.length ∧ ∀ (i : Nat) (v : V) (d : Dt), vs[i]? = some v → ds[i]? = some d → Den G v d
theorem rd_mono {G G' : Hp} {a : Addr} {u : HO} (e : Same G G') (h : Rd G a u) : Rd G' a u := by
  rcases h with h | ⟨o, h⟩
  · exact .inl (e _ _ h)
  · exact .inr ⟨o, e _ _ h⟩
theorem sql_mono {K : PySem.W.Frag} {G G' : Hp} {a : Addr} {xs : List V} (e : Same G G') (h : SqL K G a xs) : SqL K G' a xs := by
  rcases h with h | h
  · exact .inl (rd_mono e h)
  · exact .inr h
theorem Den.mono {G G' : Hp} (e : Same G G') {v : V} {d : Dt} (h : Den G v d) : Den G' v d := by
  induction h with
  | non => exact .non
  | bl b => exact .bl b
  | int i => exact .int i
  | str x => exact .str x
  | lst h hl _ ih => exact .lst (e _ _ h) hl ih
  | tup h hl _ ih => exact .tup (e _ _ h) hl ih
  | dic h hk _ ih => exact .dic (e _ _ h) hk ih
  | scr h => exact .scr (sql_mono e h)
theorem DenL.mono {G G' : Hp} (e : Same G G') {vs : List V} {ds : List Dt} (h : DenL G vs ds) : DenL G' vs ds := ⟨h.1, fun i v d a b => (h.2 i v d a b).mono e⟩
theorem Den.flat {G G' : Hp} {v : V} {d : Dt} (f : Flat d) (h : Den G v d) : Den G' v d := by
  cases h with
  | non => exact .non
  | bl b => exact .bl b
  | int i => exact .int i
  | str x => exact .str x
  | lst _ _ _ => exact f.elim
  | tup _ _ _ => exact f.elim
  | dic _ _ _ => exact f.elim
  | scr _ => exact f.elim
theorem Den.int_inv {G : Hp} {v : V} {i : Int} (h : Den G v (.int i)) : v = .int i := by cases h; rfl
theorem Den.bl_inv {G : Hp} {v : V} {b : Bool} (h : Den G v (.bl b)) : v = .bl b := by cases h; rfl
theorem Den.non_inv {G : Hp} {v : V} (h : Den G v .non) : v = .non := by cases h; rfl
theorem Den.str_inv {G : Hp} {v : V} {x : Str} (h : Den G v (.str x)) : v = .str x := by cases h; rfl
theorem Den.lst_inv {G : Hp} {v : V} {ds : List Dt} (h : Den G v (.lst ds)) : ∃ a vs, v = .ref a ∧ G a = some (.lst vs) ∧ DenL G vs ds := by
  cases h with
  | lst h hl hd => exact ⟨_, _, rfl, h, hl, hd⟩
theorem Den.tup_inv {G : Hp} {v : V} {ds : List Dt} (h : Den G v (.tup ds)) : ∃ a vs, v = .ref a ∧ G a = some (.tup vs) ∧ DenL G vs ds := by
  cases h with
  | tup h hl hd => exact ⟨_, _, rfl, h, hl, hd⟩
theorem Den.scr_inv {K : PySem.W.Frag} {G : Hp} {v : V} {ns : List Int} (h : Den G v (.scr K ns)) : ∃ a, v = .ref a ∧ SqL K G a (ns.map V.int) := by
  cases h with
  | scr h => exact ⟨_, rfl, h⟩
theorem DenL.nil {G : Hp} : DenL G [] [] := ⟨rfl, fun i v d h => by simp at h⟩
theorem DenL.cons {G : Hp} {v : V} {d : Dt} {vs : List V} {ds : List Dt} (h : Den G v d) (r : DenL G vs ds) : DenL G (v :: vs) (d :: ds) := by
  refine ⟨congrArg Nat.succ r.1, fun i w e h1 h2 => ?_⟩
  cases i with
  | zero =>
    cases h1
    cases h2
    exact h
  | succ i => exact r.2 i w e h1 h2
theorem DenL.nil_inv {G : Hp} {vs : List V} (h : DenL G vs []) : vs = [] := List.eq_nil_of_length_eq_zero h.1
theorem DenL.cons_inv {G : Hp} {vs : List V} {d : Dt} {ds : List Dt} (h : DenL G vs (d :: ds)) : ∃ v ws, vs = v :: ws ∧ Den G v d ∧ DenL G ws ds := by
  obtain ⟨h1, h2⟩ := h
  cases vs with
  | nil => cases h1
  | cons v ws => exact ⟨v, ws, rfl, h2 0 v d rfl rfl, Nat.succ.inj h1, fun i w e a b => h2 (i + 1) w e a b⟩
theorem DenL.append {G : Hp} : ∀ {vs ws : List V} {ds es : List Dt}, DenL G vs ds → DenL G ws es → DenL G (vs ++ ws) (ds ++ es)
  | [], ws, ds, es, a, b => by
    have e : ds = [] := List.eq_nil_of_length_eq_zero a.1.symm
    rw [e]
    exact b
  | v :: vs, ws, [], es, a, b => by cases a.1
  | v :: vs, ws, d :: ds, es, a, b => by
    obtain ⟨w, us, e, h1, h2⟩ := a.cons_inv
    cases e
    exact .cons h1 (h2.append b)
/-- ints -/
theorem DenL.ints_inv {G : Hp} : ∀ {vs : List V} {ns : List Int}, DenL G vs (ns.map Dt.int) → vs = ns.map V.int
  | vs, [], h => h.nil_inv
  | vs, n :: ns, h => by
    obtain ⟨w, us, e, h1, h2⟩ := DenL.cons_inv (ds := ns.map Dt.int) h
    rw [e, h1.int_inv, h2.ints_inv]
    rfl
theorem DenL.ints {G : Hp} : ∀ ns : List Int, DenL G (ns.map V.int) (ns.map Dt.int)
  | [] => .nil
  | n :: ns => .cons (.int n) (DenL.ints ns)
theorem DenL.get {G : Hp} {vs : List V} {ds : List Dt} (h : DenL G vs ds) {i : Nat} {d : Dt} (e : ds[i]? = some d) : ∃ v, vs[i]? = some v ∧ Den G v d := by
  have hi : i < vs.length := by
    rw [h.1]
    exact (List.getElem?_eq_some_iff.mp e).1
  exact ⟨vs[i], List.getElem?_eq_getElem hi, h.2 i _ d (List.getElem?_eq_getElem hi) e⟩

structure Grow (G H G' H' : Hp) : Prop where
  hh : Same H H'
  gg : Same G G'
  sub : Same G' H'
  new : ∀ a, G a = none → H a ≠ none → G' a = none
theorem Grow.refl {G H : Hp} (s : Same G H) : Grow G H G H := ⟨.refl _, .refl _, s, fun _ h _ => h⟩
theorem Grow.trans {G H G1 H1 G2 H2 : Hp} (a : Grow G H G1 H1) (b : Grow G1 H1 G2 H2) : Grow G H G2 H2 :=
  ⟨a.hh.trans b.hh, a.gg.trans b.gg, b.sub, fun x h k => b.new x (a.new x h k) fun z => by
    cases q : H x with
    | none => exact k q
    | some o =>
      rw [a.hh x o q] at z
      cases z⟩
/-- a new object -/
theorem same_new {H : Hp} {p : Addr} {o : HO} (h : H p = none) : Same H (upd H p o) := fun b x e => by
  rw [upd_ne (ne_of_none e h)]
  exact e
theorem same_none {H H' : Hp} (s : Same H H') {p : Addr} (h : H' p = none) : H p = none := by
  cases q : H p with
  | none => rfl
  | some o =>
    rw [s p o q] at h
    cases h
theorem same_upd2 {G H : Hp} {p : Addr} {o : HO} (s : Same G H) : Same (upd G p o) (upd H p o) := fun b x e => by
  by_cases hb : b = p
  · subst hb
    rw [upd_same] at e ⊢
    exact e
  · rw [upd_ne hb] at e ⊢
    exact s b x e
theorem Grow.laid {G H : Hp} {p : Addr} {o : HO} (s : Same G H) (h : H p = none) : Grow G H (upd G p o) (upd H p o) :=
  ⟨same_new h, same_new (same_none s h), same_upd2 s, fun a h1 h2 => by
    rw [upd_ne (fun e => by rw [e] at h2; exact h2 h)]
    exact h1⟩
theorem Grow.junk {G H H' : Hp} (s : Same G H) (h : Same H H') : Grow G H G H' := ⟨h, .refl _, s.trans h, fun _ h _ => h⟩

abbrev Sl := List (Option Dt)
structure EnvD (G : Hp) (σ : L2.St) (δ : Sl) : Prop where
  len : σ.length = δ.length
  at_ : ∀ (i : Nat) (d : Dt), δ[i]? = some (some d) → ∃ v, σ[i]? = some (some v) ∧ Den G v d
theorem EnvD.mono {G G' : Hp} {σ : L2.St} {δ : Sl} (e : Same G G') (h : EnvD G σ δ) : EnvD G' σ δ := ⟨h.len, fun i d q => by
  obtain ⟨v, a, b⟩ := h.at_ i d q
  exact ⟨v, a, b.mono e⟩⟩
theorem EnvD.set {G : Hp} {σ : L2.St} {δ : Sl} {i : Nat} {v : V} {d : Dt} (h : EnvD G σ δ) (k : Den G v d) : EnvD G (σ.set i (some v)) (δ.set i (some d)) := by
  refine ⟨by rw [List.length_set, List.length_set]; exact h.len, fun j e q => ?_⟩
  by_cases hj : i = j
  · subst hj
    have hi : i < δ.length := by
      have := (List.getElem?_eq_some_iff.mp q).1
      rwa [List.length_set] at this
    rw [List.getElem?_set_self hi] at q
    cases q
    exact ⟨v, List.getElem?_set_self (by rw [h.len]; exact hi), k⟩
  · rw [List.getElem?_set_ne hj] at q
    obtain ⟨w, a, b⟩ := h.at_ j e q
    exact ⟨w, by rw [List.getElem?_set_ne hj]; exact a, b⟩
theorem EnvD.forget {G : Hp} {σ : L2.St} {δ : Sl} {i : Nat} {x : Option V} (h : EnvD G σ δ) : EnvD G (σ.set i x) (δ.set i none) := by
  refine ⟨by rw [List.length_set, List.length_set]; exact h.len, fun j e q => ?_⟩
  by_cases hj : i = j
  · subst hj
    have hi : i < δ.length := by
      have := (List.getElem?_eq_some_iff.mp q).1
      rwa [List.length_set] at this
    rw [List.getElem?_set_self hi] at q
    cases q
  · rw [List.getElem?_set_ne hj] at q
    obtain ⟨w, a, b⟩ := h.at_ j e q
    exact ⟨w, by rw [List.getElem?_set_ne hj]; exact a, b⟩
/-- less is known -/
def Less (δ δ' : Sl) : Prop := δ.length = δ'.length ∧ ∀ (i : Nat) (d : Dt), δ'[i]? = some (some d) → δ[i]? = some (some d)
theorem EnvD.less {G : Hp} {σ : L2.St} {δ δ' : Sl} (l : Less δ δ') (h : EnvD G σ δ) : EnvD G σ δ' := ⟨h.len.trans l.1, fun i d q => h.at_ i d (l.2 i d q)⟩
theorem Less.refl (δ : Sl) : Less δ δ := ⟨rfl, fun _ _ h => h⟩
theorem Less.trans {a b c : Sl} (h : Less a b) (k : Less b c) : Less a c := ⟨h.1.trans k.1, fun i d q => h.2 i d (k.2 i d q)⟩

section
variable {X : Cx}
theorem PE.sub {e : Expr} {t t' : TE} (h : PE X e t) (k : ∀ σ H Q, t' σ H Q → t σ H Q) : PE X e t' := ⟨fun pins s σ H Q I w => h.run pins s σ H Q I (k _ _ _ w)⟩
theorem PT.sub {e : Expr} {t t' : TT} (h : PT X e t) (k : ∀ σ H Q, t' σ H Q → t σ H Q) : PT X e t' := ⟨fun pins s σ H Q I w => h.run pins s σ H Q I (k _ _ _ w)⟩
theorem PW.sub {e : Expr} {t t' : TT} (h : PW X e t) (k : ∀ σ H Q, t' σ H Q → t σ H Q) : PW X e t' := ⟨fun wh pins s σ H Q I w => h.run wh pins s σ H Q I (k _ _ _ w)⟩
theorem PA.sub {e : List Expr} {t t' : TA} (h : PA X e t) (k : ∀ σ H Q, t' σ H Q → t σ H Q) : PA X e t' := ⟨fun p pins s σ H Q I w => h.run p pins s σ H Q I (k _ _ _ w)⟩
theorem PO.sub {e : Option Expr} {t t' : TO} (h : PO X e t) (k : ∀ σ H Q, t' σ H Q → t σ H Q) : PO X e t' := ⟨fun pins s σ H Q I w => h.run pins s σ H Q I (k _ _ _ w)⟩
theorem PS.sub {e : Stmt} {t t' : TS} (h : PS X e t) (k : ∀ D σ H, t' D σ H → t D σ H) : PS X e t' := ⟨fun pins s σ H D I w => h.run pins s σ H D I (k _ _ _ w)⟩
theorem PSs.sub {e : List Stmt} {t t' : TS} (h : PSs X e t) (k : ∀ D σ H, t' D σ H → t D σ H) : PSs X e t' := ⟨fun pins s σ H D I w => h.run pins s σ H D I (k _ _ _ w)⟩
end
def tX (δ : Sl) (d : Dt) : TE := fun σ H Q => ∃ G, Same G H ∧ EnvD G σ δ ∧ ∀ v H' G', Grow G H G' H' → Den G' v d → Q v H'
def tXT (δ : Sl) (b : Bool) : TT := fun σ H Q => ∃ G, Same G H ∧ EnvD G σ δ ∧ ∀ H' G', Grow G H G' H' → Q b H'
def tXA (δ : Sl) (ds : List Dt) : TA := fun σ H Q => ∃ G, Same G H ∧ EnvD G σ δ ∧ ∀ vs H' G', Grow G H G' H' → DenL G' vs ds → Q vs H'
/-- e is worth d where the slots hold δ -/
abbrev Xe (X : Cx) (e : Expr) (δ : Sl) (d : Dt) : Prop := PE X e (tX δ d)
abbrev Xt (X : Cx) (e : Expr) (δ : Sl) (b : Bool) : Prop := PT X e (tXT δ b)
abbrev Xw (X : Cx) (e : Expr) (δ : Sl) (b : Bool) : Prop := PW X e (tXT δ b)
abbrev Xa (X : Cx) (es : List Expr) (δ : Sl) (ds : List Dt) : Prop := PA X es (tXA δ ds)
/-- operators, calls, subscripts by data -/
def rX2 (x y z : Dt) : R2 := fun v w H Q => ∃ G, Same G H ∧ Den G v x ∧ Den G w y ∧ ∀ u H' G', Grow G H G' H' → Den G' u z → Q u H'
def rX1 (x z : Dt) : V → Hp → VK → Prop := fun v H Q => ∃ G, Same G H ∧ Den G v x ∧ ∀ u H' G', Grow G H G' H' → Den G' u z → Q u H'
def rXs (ds : List Dt) (z : Dt) : List V → Hp → VK → Prop := fun vs H Q => ∃ G, Same G H ∧ DenL G vs ds ∧ ∀ u H' G', Grow G H G' H' → Den G' u z → Q u H'
abbrev Xop (X : Cx) (f : Value → Value → Sem Value) (x y z : Dt) : Prop := OpR X f (rX2 x y z)
abbrev Xix (X : Cx) (x y z : Dt) : Prop := IxR X (rX2 x y z)
abbrev Xun (X : Cx) (f : Value → Sem Value) (x z : Dt) : Prop := UnR X f (rX1 x z)
abbrev Xcl (X : Cx) (f : Value) (ds : List Dt) (z : Dt) : Prop := CallR X f (rXs ds z)
section
variable {X : Cx}
theorem OpR.sub {f : Value → Value → Sem Value} {r r' : R2} (h : OpR X f r) (k : ∀ v w H Q, r' v w H Q → r v w H Q) : OpR X f r' := fun pins s σ H x y v w Q I rx ry q => h pins s σ H x y v w Q I rx ry (k _ _ _ _ q)
theorem UnR.sub {f : Value → Sem Value} {r r' : V → Hp → VK → Prop} (h : UnR X f r) (k : ∀ v H Q, r' v H Q → r v H Q) : UnR X f r' := fun pins s σ H x v Q I rx q => h pins s σ H x v Q I rx (k _ _ _ q)
theorem CallR.sub {f : Value} {r r' : List V → Hp → VK → Prop} (h : CallR X f r) (k : ∀ v H Q, r' v H Q → r v H Q) : CallR X f r' := fun pins s σ H xs us Q I r q => h pins s σ H xs us Q I r (k _ _ _ q)
end
end Pa
namespace Pa
open PySem PySem.Spec PyProof.Rows L2

section
variable {X : Cx} {δ : Sl} {pos p : Pos}
theorem tX_ret {σ : L2.St} {H : Hp} {Q : VK} {v : V} {d : Dt} (hd : ∀ G, Den G v d) (h : tX δ d σ H Q) : Q v H := by
  obtain ⟨G, s, e, k⟩ := h
  exact k _ _ _ (Grow.refl s) (hd G)
theorem PE.any {e : Expr} : PE X e (fun σ H Q => ∃ t, PE X e t ∧ t σ H Q) := ⟨fun pins s σ H Q I ⟨t, h, w⟩ => h.run pins s σ H Q I w⟩
theorem PT.any {e : Expr} : PT X e (fun σ H Q => ∃ t, PT X e t ∧ t σ H Q) := ⟨fun pins s σ H Q I ⟨t, h, w⟩ => h.run pins s σ H Q I w⟩
theorem PW.any {e : Expr} : PW X e (fun σ H Q => ∃ t, PW X e t ∧ t σ H Q) := ⟨fun wh pins s σ H Q I ⟨t, h, w⟩ => h.run wh pins s σ H Q I w⟩
theorem PSs.any {e : List Stmt} : PSs X e (fun D σ H => ∃ t, PSs X e t ∧ t D σ H) := ⟨fun pins s σ H D I ⟨t, h, w⟩ => h.run pins s σ H D I w⟩
theorem PS.any {e : Stmt} : PS X e (fun D σ H => ∃ t, PS X e t ∧ t D σ H) := ⟨fun pins s σ H D I ⟨t, h, w⟩ => h.run pins s σ H D I w⟩
theorem PA.any {es : List Expr} : PA X es (fun σ H Q => ∃ t, PA X es t ∧ t σ H Q) := ⟨fun p pins s σ H Q I ⟨t, h, w⟩ => h.run p pins s σ H Q I w⟩
theorem PG.any {e : Expr} : PG X e (fun v σ H Q => ∃ t, PG X e t ∧ t v σ H Q) := ⟨fun pins s σ H x v Q I r ⟨t, h, w⟩ => h.run pins s σ H x v Q I r w⟩
theorem xe_int {i : Int} {j : Nat} : Xe X (.Constant (.int i) j pos) δ (.int i) := PE.sub pe_int fun _ _ _ h => tX_ret (fun _ => .int i) h
theorem xe_bl {b : Bool} {j : Nat} : Xe X (.Constant (.bool b) j pos) δ (.bl b) := PE.sub pe_bl fun _ _ _ h => tX_ret (fun _ => .bl b) h
theorem xe_non {j : Nat} : Xe X (.Constant .none j pos) δ .non := PE.sub pe_non fun _ _ _ h => tX_ret (fun _ => .non) h
theorem xe_str {x : Str} {j : Nat} : Xe X (.Constant (.str x) j pos) δ (.str x) := PE.sub pe_str fun _ _ _ h => tX_ret (fun _ => .str x) h
theorem xe_var (i : Nat) {x : Str} {d : Dt} (hd : δ[i]? = some (some d) := by rfl) (hN : X.N[i]? = some x := by rfl)
    (hv : Vis X.env.scope x := by first | exact Or.inl rfl | exact Or.inr (Or.inl rfl) | exact Or.inr (Or.inr rfl)) (h1 : (x == ("__debug__" : Str)) = false := by decide) (h2 : (x == ("__classdict__" : Str)) = false := by decide) : Xe X (.Name x pos) δ d :=
  PE.sub (pe_var hN hv h1 h2) fun σ H Q h => by
    obtain ⟨G, s, e, k⟩ := h
    obtain ⟨v, a, b⟩ := e.at_ i d hd
    exact ⟨v, a, k _ _ _ (Grow.refl s) b⟩
theorem xe_glob {x : Str} {i : Int} (hm : ∃ t, X.mg x = some (.int i t)) (hg : Gl X x := by rfl) (h1 : (x == ("__debug__" : Str)) = false := by decide) : Xe X (.Name x pos) δ (.int i) := by
  obtain ⟨t, hm⟩ := hm
  exact PE.sub (pe_glob hg hm (v := .int i) ⟨t, rfl⟩ h1) fun _ _ _ h => tX_ret (fun _ => .int i) h

theorem xe_op {op : Operator} {a b : Expr} {x y z : Dt} (ho : Xop X (binaryOp op) x y z) (ha : Xe X a δ x) (hb : Xe X b δ y) : Xe X (.BinOp a op b pos) δ z :=
  PE.sub (pe_op ho ha hb) fun σ H Q h => by
    obtain ⟨G, s, e, k⟩ := h
    exact ⟨G, s, e, fun v H1 G1 g1 d1 => ⟨G1, g1.sub, e.mono g1.gg, fun w H2 G2 g2 d2 => ⟨G2, g2.sub, d1.mono g2.gg, d2, fun u H3 G3 g3 d3 => k u H3 G3 ((g1.trans g2).trans g3) d3⟩⟩⟩
theorem xe_un {op : UnaryOp} {a : Expr} {x z : Dt} (ho : Xun X (unaryOp op) x z) (ha : Xe X a δ x) : Xe X (.UnaryOp op a pos) δ z :=
  PE.sub (pe_un ho ha) fun σ H Q h => by
    obtain ⟨G, s, e, k⟩ := h
    exact ⟨G, s, e, fun v H1 G1 g1 d1 => ⟨G1, g1.sub, d1, fun u H3 G3 g3 d3 => k u H3 G3 (g1.trans g3) d3⟩⟩
theorem xe_cmp {op : CmpOp} {a b : Expr} {x y z : Dt} (ho : Xop X (compareOp op) x y z) (ha : Xe X a δ x) (hb : Xe X b δ y) (hm : behindInMarks op b = false := by first | exact nomark _ | rfl) : Xe X (.Compare a [op] [b] pos) δ z :=
  PE.sub (pe_cmpR ho ha hb hm) fun σ H Q h => by
    obtain ⟨G, s, e, k⟩ := h
    exact ⟨G, s, e, fun v H1 G1 g1 d1 => ⟨G1, g1.sub, e.mono g1.gg, fun w H2 G2 g2 d2 => ⟨G2, g2.sub, d1.mono g2.gg, d2, fun u H3 G3 g3 d3 => k u H3 G3 ((g1.trans g2).trans g3) d3⟩⟩⟩
theorem xt_cmp {op : CmpOp} {a b : Expr} {x y : Dt} {c : Bool} (ho : Xop X (compareOp op) x y (.bl c)) (ha : Xe X a δ x) (hb : Xe X b δ y) (hm : behindInMarks op b = false := by first | exact nomark _ | rfl) : Xt X (.Compare a [op] [b] pos) δ c :=
  PT.sub (pt_cmpR ho ha hb hm) fun σ H Q h => by
    obtain ⟨G, s, e, k⟩ := h
    exact ⟨G, s, e, fun v H1 G1 g1 d1 => ⟨G1, g1.sub, e.mono g1.gg, fun w H2 G2 g2 d2 => ⟨G2, g2.sub, d1.mono g2.gg, d2, fun u H3 G3 g3 d3 => ⟨c, d3.bl_inv, k H3 G3 ((g1.trans g2).trans g3)⟩⟩⟩⟩
/-- a < b < c -/
theorem xe_chain {op op' : CmpOp} {a b c : Expr} {x y z : Dt} {k1 k2 : Bool} (ho : Xop X (compareOp op) x y (.bl k1)) (ha : Xe X a δ x) (hb : Xe X b δ y) (h2 : k1 = true → Xop X (compareOp op') y z (.bl k2) ∧ Xe X c δ z) (hc : k1 = false → k2 = false) (hm : lastMarks [op, op'] [b, c] = false := by with_unfolding_all rfl) : Xe X (.Compare a [op, op'] [b, c] pos) δ (.bl k2) := by
  cases k1 with
  | true =>
    obtain ⟨h2, h3⟩ := h2 rfl
    exact PE.sub (pe_chain ho h2 ha hb h3 hm) fun σ H Q h => by
      obtain ⟨G, s, e, k⟩ := h
      refine ⟨G, s, e, fun v H1 G1 g1 d1 => ⟨G1, g1.sub, e.mono g1.gg, fun w H2 G2 g2 d2 => ⟨G2, g2.sub, d1.mono g2.gg, d2, fun u H3 G3 g3 d3 => ⟨true, d3.bl_inv, ?_⟩⟩⟩⟩
      rw [if_pos rfl]
      exact ⟨G3, g3.sub, e.mono ((g1.gg.trans g2.gg).trans g3.gg), fun w' H4 G4 g4 d4 => ⟨G4, g4.sub, d2.mono (g3.gg.trans g4.gg), d4, fun u' H5 G5 g5 d5 => k u' H5 G5 ((((g1.trans g2).trans g3).trans g4).trans g5) d5⟩⟩
  | false =>
    have e2 := hc rfl
    subst e2
    have hz : OpR X (compareOp op') (fun _ _ _ _ => False) := fun pins s σ H x y v u Q I rx ry q => q.elim
    exact PE.sub (pe_chain ho hz ha hb PE.any hm) fun σ H Q h => by
      obtain ⟨G, s, e, k⟩ := h
      refine ⟨G, s, e, fun v H1 G1 g1 d1 => ⟨G1, g1.sub, e.mono g1.gg, fun w H2 G2 g2 d2 => ⟨G2, g2.sub, d1.mono g2.gg, d2, fun u H3 G3 g3 d3 => ⟨false, d3.bl_inv, ?_⟩⟩⟩⟩
      rw [if_neg Bool.false_ne_true]
      exact k _ H3 G3 ((g1.trans g2).trans g3) (.bl false)
theorem xt_chain {op op' : CmpOp} {a b c : Expr} {x y z : Dt} {k1 k2 : Bool} (ho : Xop X (compareOp op) x y (.bl k1)) (ha : Xe X a δ x) (hb : Xe X b δ y) (h2 : k1 = true → Xop X (compareOp op') y z (.bl k2) ∧ Xe X c δ z) (hc : k1 = false → k2 = false) (hm : lastMarks [op, op'] [b, c] = false := by with_unfolding_all rfl) : Xt X (.Compare a [op, op'] [b, c] pos) δ k2 := by
  cases k1 with
  | true =>
    obtain ⟨h2, h3⟩ := h2 rfl
    exact PT.sub (pt_chain ho h2 ha hb h3 hm) fun σ H Q h => by
      obtain ⟨G, s, e, k⟩ := h
      refine ⟨G, s, e, fun v H1 G1 g1 d1 => ⟨G1, g1.sub, e.mono g1.gg, fun w H2 G2 g2 d2 => ⟨G2, g2.sub, d1.mono g2.gg, d2, fun u H3 G3 g3 d3 => ⟨true, d3.bl_inv, ?_⟩⟩⟩⟩
      rw [if_pos rfl]
      exact ⟨G3, g3.sub, e.mono ((g1.gg.trans g2.gg).trans g3.gg), fun w' H4 G4 g4 d4 => ⟨G4, g4.sub, d2.mono (g3.gg.trans g4.gg), d4, fun u' H5 G5 g5 d5 => ⟨k2, d5.bl_inv, k H5 G5 ((((g1.trans g2).trans g3).trans g4).trans g5)⟩⟩⟩
  | false =>
    have e2 := hc rfl
    subst e2
    have hz : OpR X (compareOp op') (fun _ _ _ _ => False) := fun pins s σ H x y v u Q I rx ry q => q.elim
    exact PT.sub (pt_chain ho hz ha hb PE.any hm) fun σ H Q h => by
      obtain ⟨G, s, e, k⟩ := h
      refine ⟨G, s, e, fun v H1 G1 g1 d1 => ⟨G1, g1.sub, e.mono g1.gg, fun w H2 G2 g2 d2 => ⟨G2, g2.sub, d1.mono g2.gg, d2, fun u H3 G3 g3 d3 => ⟨false, d3.bl_inv, ?_⟩⟩⟩⟩
      rw [if_neg Bool.false_ne_true]
      exact ⟨false, rfl, k H3 G3 ((g1.trans g2).trans g3)⟩
theorem xe_ix {a b : Expr} {x y z : Dt} (ho : Xix X x y z) (ha : Xe X a δ x) (hb : Xe X b δ y) (hs : PlainIx b := by intro _ _; rfl) : Xe X (.Subscript a b pos) δ z :=
  PE.sub (pe_ix ho ha hb hs) fun σ H Q h => by
    obtain ⟨G, s, e, k⟩ := h
    exact ⟨G, s, e, fun v H1 G1 g1 d1 => ⟨G1, g1.sub, e.mono g1.gg, fun w H2 G2 g2 d2 => ⟨G2, g2.sub, d1.mono g2.gg, d2, fun u H3 G3 g3 d3 => k u H3 G3 ((g1.trans g2).trans g3) d3⟩⟩⟩
/-- a slice -/
def tXO (δ : Sl) (o : Option Int) : TO := fun σ H Q => ∃ G, Same G H ∧ EnvD G σ δ ∧ ∀ H' G', Grow G H G' H' → Q o H'
abbrev Xo (X : Cx) (e : Option Expr) (δ : Sl) (o : Option Int) : Prop := PO X e (tXO δ o)
theorem xo_none : Xo X none δ none := PO.sub po_none fun σ H Q h => by
  obtain ⟨G, s, e, k⟩ := h
  exact k H G (Grow.refl s)
theorem xo_some {a : Expr} {i : Int} (ha : Xe X a δ (.int i)) : Xo X (some a) δ (some i) := PO.sub (po_some ha) fun σ H Q h => by
  obtain ⟨G, s, e, k⟩ := h
  exact ⟨G, s, e, fun v H1 G1 g1 d1 => ⟨i, d1.int_inv, k H1 G1 g1⟩⟩
/-- what a slice of data is -/
def cutD {α : Type} (xs : List α) (lo hi : Option Int) : List α := (xs.drop (HT.sIx xs.length 0 lo)).take (HT.sIx xs.length xs.length hi - HT.sIx xs.length 0 lo)
theorem DenL.cut {G : Hp} {vs : List V} {ds : List Dt} (h : DenL G vs ds) (lo hi : Option Int) : DenL G (cutV vs lo hi) (cutD ds lo hi) := by
  unfold cutV cutD
  rw [h.1]
  refine ⟨?_, fun i v d a b => ?_⟩
  · rw [List.length_take, List.length_take, List.length_drop, List.length_drop, h.1]
  · rw [List.getElem?_take] at a b
    split at a
    · rename_i hi
      rw [if_pos hi, List.getElem?_drop] at b
      rw [List.getElem?_drop] at a
      exact h.2 _ v d a b
    · cases a
theorem xe_slice {a : Expr} {lo hi : Option Expr} {p2 : Pos} {ds : List Dt} {i j : Option Int} (ha : Xe X a δ (.lst ds)) (hl : Xo X lo δ i) (hh : Xo X hi δ j) : Xe X (.Subscript a (.Slice lo hi none p2) pos) δ (.lst (cutD ds i j)) :=
  PE.sub (pe_slice sl_list ha hl hh) fun σ H Q h => by
    obtain ⟨G, s, e, k⟩ := h
    refine ⟨G, s, e, fun v H1 G1 g1 d1 => ⟨G1, g1.sub, e.mono g1.gg, fun H2 G2 g2 => ⟨G2, g2.sub, e.mono (g1.gg.trans g2.gg), fun H3 G3 g3 => ?_⟩⟩⟩
    obtain ⟨p, vs, rfl, r, dl⟩ := d1.lst_inv
    have g := (g1.trans g2).trans g3
    have s13 := g2.gg.trans g3.gg
    refine ⟨p, vs, rfl, .inl (.inl ((s13.trans g3.sub) _ _ r)), fun q hq => ?_⟩
    have gl : Grow G3 H3 (upd G3 q (.lst (cutV vs i j))) (upd H3 q (.lst (cutV vs i j))) := Grow.laid g3.sub hq
    exact k _ _ _ (g.trans gl) (.lst upd_same ((dl.cut i j).1) fun n w d a b => (((dl.cut i j).2 n w d a b).mono s13).mono gl.gg)

theorem xe_one {op : BoolOp} {a : Expr} {d : Dt} (ha : Xe X a δ d) : Xe X (.BoolOp op [a] pos) δ d := pe_one ha
/-- a and b, a a bool -/
theorem xe_and {a b : Expr} {rest : List Expr} {c : Bool} {d : Dt} (ha : Xe X a δ (.bl c)) (hb : c = true → Xe X (.BoolOp .And (b :: rest) pos) δ d) (hf : c = false → d = .bl false) : Xe X (.BoolOp .And (a :: b :: rest) pos) δ d :=
  PE.sub (pe_and ha PE.any) fun σ H Q h => by
    obtain ⟨G, s, e, k⟩ := h
    refine ⟨G, s, e, fun v H1 G1 g1 d1 => ⟨c, d1.bl_inv, ?_⟩⟩
    cases c with
    | true => exact ⟨_, hb rfl, G1, g1.sub, e.mono g1.gg, fun u H2 G2 g2 d2 => k u H2 G2 (g1.trans g2) d2⟩
    | false =>
      rw [if_neg Bool.false_ne_true]
      have ed := hf rfl
      subst ed
      exact k _ _ _ g1 (.bl false)
theorem xe_or {a b : Expr} {rest : List Expr} {c : Bool} {d : Dt} (ha : Xe X a δ (.bl c)) (hb : c = false → Xe X (.BoolOp .Or (b :: rest) pos) δ d) (hf : c = true → d = .bl true) : Xe X (.BoolOp .Or (a :: b :: rest) pos) δ d :=
  PE.sub (pe_or ha PE.any) fun σ H Q h => by
    obtain ⟨G, s, e, k⟩ := h
    refine ⟨G, s, e, fun v H1 G1 g1 d1 => ⟨c, d1.bl_inv, ?_⟩⟩
    cases c with
    | true =>
      rw [if_pos rfl]
      have ed := hf rfl
      subst ed
      exact k _ _ _ g1 (.bl true)
    | false =>
      rw [if_neg Bool.false_ne_true]
      exact ⟨_, hb rfl, G1, g1.sub, e.mono g1.gg, fun u H2 G2 g2 d2 => k u H2 G2 (g1.trans g2) d2⟩
theorem xe_not {a : Expr} {c : Bool} (ha : Xe X a δ (.bl c)) : Xe X (.UnaryOp .Not a pos) δ (.bl (!c)) :=
  PE.sub (pe_not ha) fun σ H Q h => by
    obtain ⟨G, s, e, k⟩ := h
    exact ⟨G, s, e, fun v H1 G1 g1 d1 => ⟨c, d1.bl_inv, k _ _ _ g1 (.bl (!c))⟩⟩
/-- tests -/
theorem xt_val {a : Expr} {c : Bool} (ha : Xe X a δ (.bl c)) (he : ∀ whole, isTrue a X.env whole = (do let v ← whole; standAt a.pos; holding [v] (truthy v)) := by intro _; rfl) : Xt X a δ c :=
  PT.sub (pt_val ha he) fun σ H Q h => by
    obtain ⟨G, s, e, k⟩ := h
    exact ⟨G, s, e, fun v H1 G1 g1 d1 => ⟨c, d1.bl_inv, k _ _ g1⟩⟩
theorem xt_not {a : Expr} {c : Bool} (ha : Xt X a δ c) : Xt X (.UnaryOp .Not a pos) δ (!c) :=
  PT.sub (pt_not ha) fun σ H Q h => by
    obtain ⟨G, s, e, k⟩ := h
    exact ⟨G, s, e, fun H1 G1 g1 => k _ _ g1⟩
theorem xw_and1 {a : Expr} {c : Bool} (ha : Xt X a δ c) : Xw X (.BoolOp .And [a] pos) δ c := pw_and1 ha
theorem xw_or1 {a : Expr} {c : Bool} (ha : Xt X a δ c) : Xw X (.BoolOp .Or [a] pos) δ c := pw_or1 ha
theorem xw_and {a b : Expr} {rest : List Expr} {c k2 : Bool} (ha : Xt X a δ c) (hb : c = true → Xw X (.BoolOp .And (b :: rest) pos) δ k2) (hf : c = false → k2 = false) : Xw X (.BoolOp .And (a :: b :: rest) pos) δ k2 :=
  PW.sub (pw_and ha PW.any) fun σ H Q h => by
    obtain ⟨G, s, e, k⟩ := h
    refine ⟨G, s, e, fun H1 G1 g1 => ?_⟩
    cases c with
    | true => exact ⟨_, hb rfl, G1, g1.sub, e.mono g1.gg, fun H2 G2 g2 => k H2 G2 (g1.trans g2)⟩
    | false =>
      rw [if_neg Bool.false_ne_true]
      have ed := hf rfl
      subst ed
      exact k _ _ g1
theorem xw_or {a b : Expr} {rest : List Expr} {c k2 : Bool} (ha : Xt X a δ c) (hb : c = false → Xw X (.BoolOp .Or (b :: rest) pos) δ k2) (hf : c = true → k2 = true) : Xw X (.BoolOp .Or (a :: b :: rest) pos) δ k2 :=
  PW.sub (pw_or ha PW.any) fun σ H Q h => by
    obtain ⟨G, s, e, k⟩ := h
    refine ⟨G, s, e, fun H1 G1 g1 => ?_⟩
    cases c with
    | true =>
      rw [if_pos rfl]
      have ed := hf rfl
      subst ed
      exact k _ _ g1
    | false =>
      rw [if_neg Bool.false_ne_true]
      exact ⟨_, hb rfl, G1, g1.sub, e.mono g1.gg, fun H2 G2 g2 => k H2 G2 (g1.trans g2)⟩
theorem xt_bool {a : Expr} {c : Bool} (h : Xw X a δ c) : Xt X a δ c := PW.pt h
/-- a list's truth -/
theorem xt_list {a : Expr} {ds : List Dt} (ha : Xe X a δ (.lst ds)) (he : ∀ whole, isTrue a X.env whole = (do let v ← whole; standAt a.pos; holding [v] (truthy v)) := by intro _; rfl) : Xt X a δ (!ds.isEmpty) :=
  PT.sub (pt_truth ha he) fun σ H Q h => by
    obtain ⟨G, s, e, k⟩ := h
    refine ⟨G, s, e, fun v H1 G1 g1 d1 => ?_⟩
    obtain ⟨p, vs, rfl, r, dl⟩ := d1.lst_inv
    refine ⟨!ds.isEmpty, .inl ⟨vs, .inl (.inl (g1.sub _ _ r)), ?_⟩, k _ _ g1⟩
    have := dl.1
    cases vs with
    | nil =>
      cases ds with
      | nil => rfl
      | cons d ds => cases this
    | cons v vs =>
      cases ds with
      | nil => cases this
      | cons d ds => rfl
theorem xe_if {t a b : Expr} {c : Bool} {d : Dt} (ht : Xt X t δ c) (ha : c = true → Xe X a δ d) (hb : c = false → Xe X b δ d) : Xe X (.IfExp t a b pos) δ d :=
  PE.sub (pe_ifExp ht PE.any PE.any) fun σ H Q h => by
    obtain ⟨G, s, e, k⟩ := h
    refine ⟨G, s, e, fun H1 G1 g1 => ?_⟩
    cases c with
    | true => exact ⟨_, ha rfl, G1, g1.sub, e.mono g1.gg, fun u H2 G2 g2 d2 => k u H2 G2 (g1.trans g2) d2⟩
    | false =>
      rw [if_neg Bool.false_ne_true]
      exact ⟨_, hb rfl, G1, g1.sub, e.mono g1.gg, fun u H2 G2 g2 d2 => k u H2 G2 (g1.trans g2) d2⟩

theorem xa_nil : Xa X [] δ [] := PA.sub pa_nil fun σ H Q h => by
  obtain ⟨G, s, e, k⟩ := h
  exact k _ _ _ (Grow.refl s) .nil
theorem xa_cons {a : Expr} {es : List Expr} {d : Dt} {ds : List Dt} (ha : Xe X a δ d) (hr : Xa X es δ ds) (hs : starEach (a :: es) X.env = (false, eval a X.env) :: starEach es X.env := by rfl) : Xa X (a :: es) δ (d :: ds) :=
  PA.sub (pa_cons ha hr hs) fun σ H Q h => by
    obtain ⟨G, s, e, k⟩ := h
    exact ⟨G, s, e, fun v H1 G1 g1 d1 => ⟨G1, g1.sub, e.mono g1.gg, fun vs H2 G2 g2 d2 => k _ _ _ (g1.trans g2) (.cons (d1.mono g2.gg) d2)⟩⟩
theorem xe_tup {es : List Expr} {x1 : Nat} {ds : List Dt} (h : Xa X es δ ds) (hz : ds.length ≤ 1000 := by exact Nat.le_of_ble_eq_true rfl) : Xe X (.Tuple es x1 pos) δ (.tup ds) :=
  PE.sub (pe_tup h) fun σ H Q w => by
    obtain ⟨G, s, e, k⟩ := w
    refine ⟨G, s, e, fun vs H1 G1 g1 d1 => ⟨by rw [d1.1]; exact Nat.le_of_lt (small1000 hz), fun p hp => ?_⟩⟩
    have gl : Grow G1 H1 (upd G1 p (.tup vs)) (upd H1 p (.tup vs)) := Grow.laid g1.sub hp
    exact k _ _ _ (g1.trans gl) (.tup upd_same d1.1 fun i v d a b => (d1.2 i v d a b).mono gl.gg)
theorem xe_lst {es : List Expr} {ds : List Dt} (h : Xa X es δ ds) (hz : ds.length ≤ 1000 := by exact Nat.le_of_ble_eq_true rfl) : Xe X (.List es pos) δ (.lst ds) :=
  PE.sub (pe_lst h) fun σ H Q w => by
    obtain ⟨G, s, e, k⟩ := w
    refine ⟨G, s, e, fun vs H1 G1 g1 d1 => ⟨by rw [d1.1]; exact Nat.le_of_lt (small1000 hz), fun p hp => ?_⟩⟩
    have gl : Grow G1 H1 (upd G1 p (.lst vs)) (upd H1 p (.lst vs)) := Grow.laid g1.sub hp
    exact k _ _ _ (g1.trans gl) (.lst upd_same d1.1 fun i v d a b => (d1.2 i v d a b).mono gl.gg)
theorem rXs_of {ds : List Dt} {d : Dt} {t : TA} {σ : L2.St} {H : Hp} {Q : VK} (h : tX δ d σ H Q) : tXA δ ds σ H fun vs H1 => rXs ds d vs H1 Q := by
  obtain ⟨G, s, e, k⟩ := h
  exact ⟨G, s, e, fun vs H1 G1 g1 d1 => ⟨G1, g1.sub, d1, fun u H2 G2 g2 d2 => k u H2 G2 (g1.trans g2) d2⟩⟩
theorem xe_callB {x : Str} {id : String} {a : Expr} {es : List Expr} {ds : List Dt} {d : Dt} (hc : Xcl X (.builtin id) ds d) (hm : X.mg x = none) (hv : bootBuiltins x = some (.builtin id)) (ha : Xa X (a :: es) δ ds) (hg : Gl X x := by rfl) (hn : x ≠ "__name__" := by decide) (hdb : (x == ("__debug__" : Str)) = false := by decide)
    (he : starEach (a :: es) X.env = (false, eval a X.env) :: starEach es X.env := by rfl) (hpl : (backTo pos (starEach es X.env)).any (·.1) = false := by rfl) : Xe X (.Call (.Name x p) (a :: es) [] pos) δ d :=
  PE.sub (pe_callB hc hg hm hv ha hn hdb he hpl) fun σ H Q h => rXs_of (t := tNil) h
theorem xe_callTy {x : Str} {T : String} {a : Expr} {es : List Expr} {ds : List Dt} {d : Dt} (hc : Xcl X (.type T) ds d) (hm : X.mg x = none) (hv : bootBuiltins x = some (.type T)) (ha : Xa X (a :: es) δ ds) (hg : Gl X x := by rfl) (hn : x ≠ "__name__" := by decide) (hdb : (x == ("__debug__" : Str)) = false := by decide)
    (he : starEach (a :: es) X.env = (false, eval a X.env) :: starEach es X.env := by rfl) (hpl : (backTo pos (starEach es X.env)).any (·.1) = false := by rfl) : Xe X (.Call (.Name x p) (a :: es) [] pos) δ d :=
  PE.sub (pe_callTy hc hg hm hv ha hn hdb he hpl) fun σ H Q h => rXs_of (t := tNil) h
end
end Pa
namespace Pa
open PySem PySem.Spec PyProof.Rows L2
section
variable {X : Cx} {δ : Sl} {pos p : Pos}
theorem rX2_i {g : Int → Int → V} {i j : Int} {z : Dt} (hz : ∀ G, Den G (g i j) z) {v w : V} {H : Hp} {Q : VK} (h : rX2 (.int i) (.int j) z v w H Q) : rI0 g v w H Q := by
  obtain ⟨G, s, a, b, k⟩ := h
  exact ⟨i, j, a.int_inv, b.int_inv, k _ _ _ (Grow.refl s) (hz G)⟩
theorem rX2_iC {C : Int → Int → Prop} {g : Int → Int → V} {i j : Int} {z : Dt} (hc : C i j) (hz : ∀ G, Den G (g i j) z) {v w : V} {H : Hp} {Q : VK} (h : rX2 (.int i) (.int j) z v w H Q) : rI C g v w H Q := by
  obtain ⟨G, s, a, b, k⟩ := h
  exact ⟨i, j, a.int_inv, b.int_inv, hc, k _ _ _ (Grow.refl s) (hz G)⟩
theorem o_add {i j : Int} : Xop X (binaryOp .Add) (.int i) (.int j) (.int (i + j)) := OpR.sub op_add fun _ _ _ _ h => rX2_i (fun _ => .int _) h
theorem o_sub {i j : Int} : Xop X (binaryOp .Sub) (.int i) (.int j) (.int (i - j)) := OpR.sub op_sub fun _ _ _ _ h => rX2_i (fun _ => .int _) h
theorem o_mul {i j : Int} (h : CMul i j) : Xop X (binaryOp .Mult) (.int i) (.int j) (.int (i * j)) := OpR.sub op_mul fun _ _ _ _ k => rX2_iC h (fun _ => .int _) k
theorem o_div {i j : Int} (h : CDiv i j) : Xop X (binaryOp .FloorDiv) (.int i) (.int j) (.int (i / j)) := OpR.sub op_fdiv fun _ _ _ _ k => rX2_iC h (fun _ => .int _) k
theorem o_mod {i j : Int} (h : 0 < j) : Xop X (binaryOp .Mod) (.int i) (.int j) (.int (i % j)) := OpR.sub op_mod fun _ _ _ _ k => rX2_iC (C := fun _ j => 0 < j) (g := fun i j => .int (i % j)) (i := i) (j := j) h (fun _ => .int _) k
theorem o_pow {i j : Int} (h : CPow i j) : Xop X (binaryOp .Pow) (.int i) (.int j) (.int (i ^ j.toNat)) := OpR.sub op_pow fun _ _ _ _ k => rX2_iC h (fun _ => .int _) k
theorem o_lt {i j : Int} : Xop X (compareOp .Lt) (.int i) (.int j) (.bl (decide (i < j))) := OpR.sub op_lt fun _ _ _ _ h => rX2_i (fun _ => .bl _) h
theorem o_le {i j : Int} : Xop X (compareOp .LtE) (.int i) (.int j) (.bl (decide (i ≤ j))) := OpR.sub op_le fun _ _ _ _ h => rX2_i (fun _ => .bl _) h
theorem o_gt {i j : Int} : Xop X (compareOp .Gt) (.int i) (.int j) (.bl (decide (j < i))) := OpR.sub op_gt fun _ _ _ _ h => rX2_i (fun _ => .bl _) h
theorem o_ge {i j : Int} : Xop X (compareOp .GtE) (.int i) (.int j) (.bl (decide (j ≤ i))) := OpR.sub op_ge fun _ _ _ _ h => rX2_i (fun _ => .bl _) h
theorem o_neg {i : Int} : Xun X (unaryOp .USub) (.int i) (.int (-i)) := UnR.sub un_neg fun _ _ _ ⟨G, s, a, k⟩ => ⟨i, a.int_inv, k _ _ _ (Grow.refl s) (.int _)⟩
/-- == and != of two ints, two texts, two bools -/
theorem o_eqI {i j : Int} : Xop X (compareOp .Eq) (.int i) (.int j) (.bl (decide (i = j))) := OpR.sub op_eq fun v w H Q ⟨G, s, a, b, k⟩ => by
  rw [a.int_inv, b.int_inv]
  have e : decide (V.int i = V.int j) = decide (i = j) := by
    by_cases h : i = j
    · rw [h, decide_eq_true rfl, decide_eq_true rfl]
    · rw [decide_eq_false h, decide_eq_false fun z => h (V.int.inj z)]
  exact ⟨rfl, by rw [e]; exact k _ _ _ (Grow.refl s) (.bl _)⟩
theorem o_neI {i j : Int} : Xop X (compareOp .NotEq) (.int i) (.int j) (.bl (!decide (i = j))) := OpR.sub op_ne fun v w H Q ⟨G, s, a, b, k⟩ => by
  rw [a.int_inv, b.int_inv]
  have e : decide (V.int i = V.int j) = decide (i = j) := by
    by_cases h : i = j
    · rw [h, decide_eq_true rfl, decide_eq_true rfl]
    · rw [decide_eq_false h, decide_eq_false fun z => h (V.int.inj z)]
  exact ⟨rfl, by rw [e]; exact k _ _ _ (Grow.refl s) (.bl _)⟩
theorem o_eqS {i j : Str} {c : Bool} (h : decide (i = j) = c := by decide) : Xop X (compareOp .Eq) (.str i) (.str j) (.bl c) := OpR.sub op_eq fun v w H Q ⟨G, s, a, b, k⟩ => by
  rw [a.str_inv, b.str_inv]
  have e : decide (V.str i = V.str j) = c := by
    rw [← h]
    by_cases h : i = j
    · rw [h, decide_eq_true rfl, decide_eq_true rfl]
    · rw [decide_eq_false h, decide_eq_false fun z => h (V.str.inj z)]
  exact ⟨rfl, by rw [e]; exact k _ _ _ (Grow.refl s) (.bl _)⟩
theorem o_neS {i j : Str} {c : Bool} (h : (!decide (i = j)) = c := by decide) : Xop X (compareOp .NotEq) (.str i) (.str j) (.bl c) := OpR.sub op_ne fun v w H Q ⟨G, s, a, b, k⟩ => by
  rw [a.str_inv, b.str_inv]
  have e : (!decide (V.str i = V.str j)) = c := by
    rw [← h]
    by_cases h : i = j
    · rw [h, decide_eq_true rfl, decide_eq_true rfl]
    · rw [decide_eq_false h, decide_eq_false fun z => h (V.str.inj z)]
  exact ⟨rfl, by rw [e]; exact k _ _ _ (Grow.refl s) (.bl _)⟩
theorem o_neB {i j : Bool} : Xop X (compareOp .NotEq) (.bl i) (.bl j) (.bl (i != j)) := OpR.sub op_ne fun v w H Q ⟨G, s, a, b, k⟩ => by
  rw [a.bl_inv, b.bl_inv]
  have e : (!decide (V.bl i = V.bl j)) = (i != j) := by cases i <;> cases j <;> rfl
  exact ⟨rfl, by rw [e]; exact k _ _ _ (Grow.refl s) (.bl _)⟩
/-- is None -/
def isNon : Dt → Bool
  | .non => true
  | _ => false
theorem Den.isNon {G : Hp} {v : V} {d : Dt} (h : Den G v d) : decide (v = .non) = Pa.isNon d := by cases h <;> rfl
theorem o_isN {d : Dt} : Xop X (compareOp .Is) d .non (.bl (isNon d)) := OpR.sub op_isN fun v w H Q ⟨G, s, a, b, k⟩ => ⟨b.non_inv, by
  rw [a.isNon]
  exact k _ _ _ (Grow.refl s) (.bl _)⟩
theorem o_notN {d : Dt} : Xop X (compareOp .IsNot) d .non (.bl (!isNon d)) := OpR.sub op_notN fun v w H Q ⟨G, s, a, b, k⟩ => ⟨b.non_inv, by
  rw [a.isNon]
  exact k _ _ _ (Grow.refl s) (.bl _)⟩
theorem o_isB {i j : Bool} : Xop X (compareOp .Is) (.bl i) (.bl j) (.bl (i == j)) := OpR.sub op_isBl fun v w H Q ⟨G, s, a, b, k⟩ => ⟨i, j, a.bl_inv, b.bl_inv, by
  have e : decide (i = j) = (i == j) := by cases i <;> cases j <;> rfl
  rw [e]
  exact k _ _ _ (Grow.refl s) (.bl _)⟩
theorem o_notB {i j : Bool} : Xop X (compareOp .IsNot) (.bl i) (.bl j) (.bl (i != j)) := OpR.sub op_notBl fun v w H Q ⟨G, s, a, b, k⟩ => ⟨i, j, a.bl_inv, b.bl_inv, by
  have e : (!decide (i = j)) = (i != j) := by cases i <;> cases j <;> rfl
  rw [e]
  exact k _ _ _ (Grow.refl s) (.bl _)⟩
theorem o_cat {ds es : List Dt} (hz : ds.length + es.length ≤ 1000) : Xop X (binaryOp .Add) (.lst ds) (.lst es) (.lst (ds ++ es)) := OpR.sub op_cat fun v w H Q ⟨G, s, a, b, k⟩ => by
  obtain ⟨l, vs, rfl, r, dl⟩ := a.lst_inv
  obtain ⟨m, ws, rfl, r2, dl2⟩ := b.lst_inv
  refine ⟨l, m, vs, ws, rfl, rfl, s _ _ r, s _ _ r2, by rw [dl.1, dl2.1]; exact Nat.le_of_lt (small1000 hz), fun q hq => ?_⟩
  have gl : Grow G H (upd G q (.lst (vs ++ ws))) (upd H q (.lst (vs ++ ws))) := Grow.laid s hq
  have da := (dl.append dl2).mono gl.gg
  exact k _ _ _ gl (.lst upd_same da.1 da.2)
theorem DenL.rep1 {G : Hp} {v : V} {d : Dt} (h : Den G v d) : ∀ n : Nat, DenL G (List.replicate n v) (List.replicate n d)
  | 0 => .nil
  | n + 1 => by
    rw [List.replicate_succ, List.replicate_succ]
    exact .cons h (DenL.rep1 h n)
theorem flat_rep1 {α : Type} (x : α) : ∀ n : Nat, (List.replicate n [x]).flatten = List.replicate n x
  | 0 => rfl
  | n + 1 => by
    rw [List.replicate_succ, List.flatten_cons, flat_rep1 x n, List.replicate_succ]
    rfl
/-- [x] * n -/
theorem o_rep {d : Dt} {n : Int} (h0 : 0 ≤ n) (hz : n ≤ 1000) : Xop X (binaryOp .Mult) (.lst [d]) (.int n) (.lst (List.replicate n.toNat d)) := OpR.sub op_rep fun v w H Q ⟨G, s, a, b, k⟩ => by
  obtain ⟨l, vs, rfl, r, dl⟩ := a.lst_inv
  obtain ⟨x, ws, e, dx, dn⟩ := dl.cons_inv
  have e2 := dn.nil_inv
  subst e2
  subst e
  rw [b.int_inv]
  refine ⟨l, n, [x], rfl, rfl, s _ _ r, by omega, by omega, ?_, fun q hq => ?_⟩
  · have h1 : n.toNat ≤ 1000 := by omega
    rw [List.length_singleton, Nat.one_mul]
    exact Nat.le_of_lt (small1000 h1)
  · rw [flat_rep1]
    have gl : Grow G H (upd G q (.lst (List.replicate n.toNat x))) (upd H q (.lst (List.replicate n.toNat x))) := Grow.laid s hq
    have da := (DenL.rep1 dx n.toNat).mono gl.gg
    exact k _ _ _ gl (.lst upd_same da.1 da.2)
theorem o_catT {ds es : List Dt} (h1 : ds ≠ []) (h2 : es ≠ []) (hz : ds.length + es.length ≤ 1000 := by exact Nat.le_of_ble_eq_true rfl) : Xop X (binaryOp .Add) (.tup ds) (.tup es) (.tup (ds ++ es)) := OpR.sub op_catT fun v w H Q ⟨G, s, a, b, k⟩ => by
  obtain ⟨l, vs, rfl, r, dl⟩ := a.tup_inv
  obtain ⟨m, ws, rfl, r2, dl2⟩ := b.tup_inv
  refine ⟨l, m, vs, ws, rfl, rfl, .inl (.inl (s _ _ r)), .inl (.inl (s _ _ r2)), fun e => h1 ?_, by rw [dl.1, dl2.1]; exact Nat.le_of_lt (small1000 hz), fun e => absurd ?_ h2, fun _ q hq => ?_⟩
  · rw [e] at dl
    exact List.eq_nil_of_length_eq_zero dl.1.symm
  · rw [e] at dl2
    exact List.eq_nil_of_length_eq_zero dl2.1.symm
  · have gl : Grow G H (upd G q (.tup (vs ++ ws))) (upd H q (.tup (vs ++ ws))) := Grow.laid s hq
    have da := (dl.append dl2).mono gl.gg
    exact k _ _ _ gl (.tup upd_same da.1 da.2)
theorem DenL.atI {G : Hp} {vs : List V} {ds : List Dt} (h : DenL G vs ds) {i : Int} {d : Dt} (e : L2.atI ds i = some d) : ∃ v, L2.atI vs i = some v ∧ Den G v d := by
  unfold L2.atI at e ⊢
  rw [h.1]
  cases q : ixN ds.length i with
  | none =>
    rw [q] at e
    cases e
  | some j =>
    rw [q] at e
    exact h.get e
theorem i_list {ds : List Dt} {i : Int} {d : Dt} (h : atI ds i = some d) : Xix X (.lst ds) (.int i) d := fun value slice pins s σ H x y v u Q I rx ry q hs => ix_list value slice pins s σ H x y v u Q I rx ry (by
  obtain ⟨G, s, a, b, k⟩ := q
  obtain ⟨l, vs, rfl, r, dl⟩ := a.lst_inv
  obtain ⟨w, e1, e2⟩ := dl.atI h
  exact ⟨l, vs, i, w, rfl, b.int_inv, .inl (.inl (s _ _ r)), e1, k _ _ _ (Grow.refl s) e2⟩) hs
theorem i_tup {ds : List Dt} {i : Int} {d : Dt} (h : atI ds i = some d) : Xix X (.tup ds) (.int i) d := fun value slice pins s σ H x y v u Q I rx ry q hs => ix_tup value slice pins s σ H x y v u Q I rx ry (by
  obtain ⟨G, s, a, b, k⟩ := q
  obtain ⟨l, vs, rfl, r, dl⟩ := a.tup_inv
  obtain ⟨w, e1, e2⟩ := dl.atI h
  exact ⟨l, vs, i, w, rfl, b.int_inv, .inl (.inl (s _ _ r)), e1, k _ _ _ (Grow.refl s) e2⟩) hs
theorem i_scr {ns : List Int} {i n : Int} (h : atI ns i = some n) : Xix X (.scr X.K ns) (.int i) (.int n) := fun value slice pins s σ H x y v u Q I rx ry q hs => ix_list value slice pins s σ H x y v u Q I rx ry (by
  obtain ⟨G, s, a, b, k⟩ := q
  obtain ⟨l, rfl, r⟩ := a.scr_inv
  have e1 : atI (ns.map V.int) i = some (.int n) := by
    unfold L2.atI at h ⊢
    rw [List.length_map]
    cases q : ixN ns.length i with
    | none =>
      rw [q] at h
      cases h
    | some j =>
      rw [q] at h
      have h2 : ns[j]? = some n := h
      show (ns.map V.int)[j]? = some (.int n)
      rw [List.getElem?_map, h2]
      rfl
  exact ⟨l, ns.map V.int, i, _, rfl, b.int_inv, sql_mono s r, e1, k _ _ _ (Grow.refl s) (.int n)⟩) hs
theorem at_int {ns : List Int} {i n : Int} (h : atI ns i = some n) : atI (ns.map Dt.int) i = some (.int n) := by
  unfold L2.atI at h ⊢
  rw [List.length_map]
  cases q : ixN ns.length i with
  | none =>
    rw [q] at h
    cases h
  | some j =>
    rw [q] at h
    have h2 : ns[j]? = some n := h
    show (ns.map Dt.int)[j]? = some (.int n)
    rw [List.getElem?_map, h2]
    rfl
/-- the item at k, for k within the list -/
theorem at_getD {ns : List Int} {k : Int} (h0 : 0 ≤ k) (h1 : k < ns.length) : atI ns k = some (ns.getD k.toNat 0) := by
  have e : k = ((k.toNat : Nat) : Int) := by omega
  have h : k.toNat < ns.length := by omega
  have g : ns[k.toNat]? = some (ns.getD k.toNat 0) := by
    rw [List.getD_eq_getElem?_getD, List.getElem?_eq_getElem h]
    rfl
  rw [e]
  exact atI_nat g
theorem i_int {ns : List Int} {k : Int} (h0 : 0 ≤ k) (h1 : k < ns.length) : Xix X (dI ns) (.int k) (.int (ns.getD k.toNat 0)) := i_list (at_int (at_getD h0 h1))

theorem c_len {ds : List Dt} : Xcl X (.builtin "len") [.lst ds] (.int ds.length) := CallR.sub call_len_seq fun vs H Q ⟨G, s, dl, k⟩ => by
  obtain ⟨v, ws, rfl, d1, d2⟩ := dl.cons_inv
  have e := d2.nil_inv
  subst e
  obtain ⟨l, us, rfl, r, dl⟩ := d1.lst_inv
  refine ⟨l, us, rfl, .inl (.inl (.inl (s _ _ r))), ?_⟩
  rw [dl.1]
  exact k _ _ _ (Grow.refl s) (.int _)
theorem c_lenI {ns : List Int} : Xcl X (.builtin "len") [dI ns] (.int ns.length) := by
  have h := c_len (X := X) (ds := ns.map Dt.int)
  rw [List.length_map] at h
  exact h
theorem c_lenS {ns : List Int} : Xcl X (.builtin "len") [.scr X.K ns] (.int ns.length) := CallR.sub call_len_seq fun vs H Q ⟨G, s, dl, k⟩ => by
  obtain ⟨v, ws, rfl, d1, d2⟩ := dl.cons_inv
  have e := d2.nil_inv
  subst e
  obtain ⟨l, rfl, r⟩ := d1.scr_inv
  refine ⟨l, ns.map V.int, rfl, .inl (sql_mono s r), ?_⟩
  rw [List.length_map]
  exact k _ _ _ (Grow.refl s) (.int _)
theorem dI_inv {G : Hp} {v : V} {ns : List Int} (h : Den G v (dI ns)) : ∃ a, v = .ref a ∧ G a = some (.lst (ns.map V.int)) := by
  obtain ⟨l, us, rfl, r, dl⟩ := h.lst_inv
  exact ⟨l, rfl, by rw [← dl.ints_inv]; exact r⟩
theorem c_sum {ns : List Int} (hc : X.calm = true := by rfl) : Xcl X (.builtin "sum") [dI ns] (.int ns.sum) := CallR.sub (cr_sum hc) fun vs H Q ⟨G, s, dl, k⟩ => by
  obtain ⟨v, ws, rfl, d1, d2⟩ := dl.cons_inv
  have e := d2.nil_inv
  subst e
  obtain ⟨l, rfl, r⟩ := dI_inv d1
  exact ⟨l, ns, rfl, .inl (.inl (s _ _ r)), k _ _ _ (Grow.refl s) (.int _)⟩
theorem c_max {ns : List Int} {m : Int} (h1 : m ∈ ns) (h2 : ∀ y ∈ ns, y ≤ m) (hc : X.calm = true := by rfl) : Xcl X (.builtin "max") [dI ns] (.int m) := CallR.sub (cr_max hc) fun vs H Q ⟨G, s, dl, k⟩ => by
  obtain ⟨v, ws, rfl, d1, d2⟩ := dl.cons_inv
  have e := d2.nil_inv
  subst e
  obtain ⟨l, rfl, r⟩ := dI_inv d1
  refine ⟨l, ns, rfl, .inl (.inl (s _ _ r)), List.length_pos_of_mem h1, fun m' a b => ?_⟩
  have em : m' = m := Int.le_antisymm (h2 m' a) (b m h1)
  rw [em]
  exact k _ _ _ (Grow.refl s) (.int _)
theorem c_min {ns : List Int} {m : Int} (h1 : m ∈ ns) (h2 : ∀ y ∈ ns, m ≤ y) (hc : X.calm = true := by rfl) : Xcl X (.builtin "min") [dI ns] (.int m) := CallR.sub (cr_min hc) fun vs H Q ⟨G, s, dl, k⟩ => by
  obtain ⟨v, ws, rfl, d1, d2⟩ := dl.cons_inv
  have e := d2.nil_inv
  subst e
  obtain ⟨l, rfl, r⟩ := dI_inv d1
  refine ⟨l, ns, rfl, .inl (.inl (s _ _ r)), List.length_pos_of_mem h1, fun m' a b => ?_⟩
  have em : m' = m := Int.le_antisymm (b m h1) (h2 m' a)
  rw [em]
  exact k _ _ _ (Grow.refl s) (.int _)
theorem c_min2 {i j : Int} (hc : X.calm = true := by rfl) : Xcl X (.builtin "min") [.int i, .int j] (.int (min i j)) := CallR.sub (call_min2 hc) fun vs H Q ⟨G, s, dl, k⟩ => by
  obtain ⟨v, ws, rfl, d1, d2⟩ := dl.cons_inv
  obtain ⟨v2, ws2, rfl, d3, d4⟩ := d2.cons_inv
  have e := d4.nil_inv
  subst e
  rw [d1.int_inv, d3.int_inv]
  refine ⟨i, j, rfl, ?_⟩
  have em : (if j < i then j else i) = min i j := by
    split <;> omega
  rw [em]
  exact k _ _ _ (Grow.refl s) (.int _)
theorem DenL.bools {G : Hp} : ∀ {vs : List V} {bs : List Bool}, DenL G vs (bs.map Dt.bl) → vs = bs.map V.bl
  | vs, [], h => h.nil_inv
  | vs, n :: ns, h => by
    obtain ⟨w, us, e, h1, h2⟩ := DenL.cons_inv (ds := ns.map Dt.bl) h
    rw [e, h1.bl_inv, h2.bools]
    rfl
theorem c_all {bs : List Bool} (hc : X.calm = true := by rfl) : Xcl X (.builtin "all") [.lst (bs.map Dt.bl)] (.bl (bs.all id)) := CallR.sub (cr_all hc) fun vs H Q ⟨G, s, dl, k⟩ => by
  obtain ⟨v, ws, rfl, d1, d2⟩ := dl.cons_inv
  have e := d2.nil_inv
  subst e
  obtain ⟨l, us, rfl, r, dl⟩ := d1.lst_inv
  rw [dl.bools] at r
  exact ⟨l, bs, rfl, .inl (.inl (s _ _ r)), k _ _ _ (Grow.refl s) (.bl _)⟩
theorem c_int {i : Int} : Xcl X (.type "int") [.int i] (.int i) := CallR.sub call_int1 fun vs H Q ⟨G, s, dl, k⟩ => by
  obtain ⟨v, ws, rfl, d1, d2⟩ := dl.cons_inv
  have e := d2.nil_inv
  subst e
  rw [d1.int_inv]
  exact .inl ⟨i, rfl, k _ _ _ (Grow.refl s) (.int _)⟩
theorem c_list {ds : List Dt} : Xcl X (.type "list") [.lst ds] (.lst ds) := CallR.sub call_list_of fun vs H Q ⟨G, s, dl, k⟩ => by
  obtain ⟨v, ws, rfl, d1, d2⟩ := dl.cons_inv
  have e := d2.nil_inv
  subst e
  obtain ⟨l, us, rfl, r, dl⟩ := d1.lst_inv
  refine ⟨l, us, rfl, .inl (.inl (.inl (s _ _ r))), fun q hq => ?_⟩
  have gl : Grow G H (upd G q (.lst us)) (upd H q (.lst us)) := Grow.laid s hq
  have da := dl.mono gl.gg
  exact k _ _ _ gl (.lst upd_same da.1 da.2)
theorem c_tuple {ds : List Dt} : Xcl X (.type "tuple") [.lst ds] (.tup ds) := CallR.sub call_tuple_of fun vs H Q ⟨G, s, dl, k⟩ => by
  obtain ⟨v, ws, rfl, d1, d2⟩ := dl.cons_inv
  have e := d2.nil_inv
  subst e
  obtain ⟨l, us, rfl, r, dl⟩ := d1.lst_inv
  refine ⟨l, us, rfl, .inl ⟨.inl (.inl (s _ _ r)), fun q hq => ?_⟩⟩
  have gl : Grow G H (upd G q (.tup us)) (upd H q (.tup us)) := Grow.laid s hq
  have da := dl.mono gl.gg
  exact k _ _ _ gl (.tup upd_same da.1 da.2)

def tyName : Dt → String
  | .non => "NoneType"
  | .bl _ => "bool"
  | .int _ => "int"
  | .str _ => "str"
  | .lst _ => "list"
  | .tup _ => "tuple"
  | .dic _ => "dict"
  | .scr _ _ => "list"
def Dt.noS : Dt → Bool
  | .scr _ _ => false
  | _ => true
theorem Den.tyX {K : PySem.W.Frag} {G H : Hp} (s : Same G H) {v : V} {d : Dt} (hs : d.noS = true) (h : Den G v d) : TyX K H v (.type (tyName d)) := by
  cases h with
  | non => exact .base .non
  | bl b => exact .base (.bl b)
  | int i => exact .base (.int i)
  | str x => exact .base (.str x)
  | lst h _ _ => exact .base (.lst (s _ _ h))
  | tup h _ _ => exact .base (.tup (s _ _ h))
  | dic h _ _ => exact .base (.dK (s _ _ h))
  | scr h =>
    cases hs
theorem xe_isi {a : Expr} {T : String} {x : Str} {d : Dt} {b : Bool} {p2 : Pos} (ha : Xe X a δ d) (hm : X.mg "isinstance" = none) (hx : X.mg x = none) (hv : bootBuiltins x = some (.type T)) (hk : kitB (tyName d) T = some b) (hg : Gl X "isinstance" := by rfl) (hgx : Gl X x := by rfl)
    (hn : x ≠ "__name__" := by decide) (hdb : (x == ("__debug__" : Str)) = false := by decide) (he : starEach (a :: [.Name x p2]) X.env = (false, eval a X.env) :: starEach [.Name x p2] X.env := by rfl) (hpl : (backTo pos (starEach [.Name x p2] X.env)).any (·.1) = false := by rfl)
    (he2 : starEach [.Name x p2] X.env = (false, eval (.Name x p2) X.env) :: starEach [] X.env := by rfl) (hsc : d.noS = true := by rfl) : Xe X (.Call (.Name "isinstance" p) [a, .Name x p2] [] pos) δ (.bl b) :=
  PE.sub (pe_callB call_isi hg hm PyProof.Rows.boot_isinstance (pa_cons ha (pa_cons (pe_bltn hgx hx hv (v := .ty T) rfl hn hdb) pa_nil he2) he) (by decide) (by decide) he hpl) fun σ H Q h => by
    obtain ⟨G, s, e, k⟩ := h
    exact ⟨G, s, e, fun v H1 G1 g1 d1 => ⟨v, .ty T, _, _, b, rfl, .ty T, Den.tyX g1.sub hsc d1, kit_ty hk, k _ _ _ g1 (.bl b)⟩⟩
end

inductive Err where
  | idx (C : Addr) (i : Int) | msg (C : Addr)
def IsErr : Err → Value → Option Addr → Hp → Prop
  | .idx C i, cls, d, H => cls = .ref C ∧ ∃ dd, d = some dd ∧ H dd = some (.xd [("index", .int i)])
  | .msg C, cls, d, _ => cls = .ref C ∧ d = none
inductive Res where
  | ok (d : Dt) | er (e : Err) | an
def spF (n : Nat) (R : List Dt → Res → Prop) : Sp := fun vs H Q E => ∃ G ds r, ds.length = n ∧ Same G H ∧ DenL G vs ds ∧ R ds r ∧ (match r with
  | .ok d => ∀ v H' G', Grow G H G' H' → Den G' v d → Q v H'
  | .er e => ∀ cls dd H', Same H H' → IsErr e cls dd H' → E cls dd H'
  | .an => ∀ v H', Same H H' → Q v H')
/-- a def of the module: it keeps spF n R at the level k -/
structure Df (P : Program) (w : World) (K : PySem.W.Frag) (mg : Str → Option Value) (base : Heap) (CX : CXT) (k : Nat) (x : Str) (n : Nat) (R : List Dt → Res → Prop) : Prop where
  ex : ∃ (f : Addr) (fd : FuncData) (ps : List Str), FnOk P w K mg base CX k f fd ps (spF n R) ∧ mg x = some (.ref f) ∧ PySem.W.keepIn K (.ref f) = true ∧ Binds K fd ps []
section
variable {X : Cx} {δ : Sl} {pos p : Pos}
theorem xe_call {CX : CXT} {k n : Nat} {x : Str} {R : List Dt → Res → Prop} {a : Expr} {es : List Expr} {ds : List Dt} {d : Dt} (F : Df X.prog X.w X.K X.mg X.base CX k x n R) (hp : Passes CX X E0) (hr : Room k X.A) (ha : Xa X (a :: es) δ ds) (hR : R ds (.ok d)) (hn : ds.length = n := by rfl) (hg : Gl X x := by rfl)
    (hdb : (x == ("__debug__" : Str)) = false := by decide) (he : starEach (a :: es) X.env = (false, eval a X.env) :: starEach es X.env := by rfl) (hpl : (backTo pos (starEach es X.env)).any (·.1) = false := by rfl) : Xe X (.Call (.Name x p) (a :: es) [] pos) δ d := by
  obtain ⟨f, fd, ps, Fo, hm, hk, hb⟩ := F.ex
  exact PE.sub (pe_call Fo hr hg hm hk hb .nil hp ha hdb he hpl) fun σ H Q h => by
    obtain ⟨G, s, e, k⟩ := h
    refine ⟨G, s, e, fun vs H1 G1 g1 d1 => ⟨G1, ds, .ok d, hn, g1.sub, ?_, hR, fun v H2 G2 g2 d2 => k _ _ _ (g1.trans g2) d2⟩⟩
    rw [List.append_nil]
    exact d1
end
end Pa
namespace Pa
open PySem PySem.Spec PyProof.Rows L2
def WalkD (J : It) (G : Hp) (ds : List Dt) : Prop := Walk J ds.length (fun H => Same G H) (fun i H x H' => ∀ G2, Same G G2 → Same G2 H → ∃ G3 d, ds[i]? = some d ∧ Grow G2 H G3 H' ∧ Den G3 x d)
def tXi (δ : Sl) (ds : List Dt) : TI := fun σ H R => ∃ G, Same G H ∧ EnvD G σ δ ∧ ∀ J H' G', Grow G H G' H' → WalkD J G' ds → R J H'
abbrev Xi (X : Cx) (tg iter : Expr) (δ : Sl) (ds : List Dt) : Prop := PI X tg iter (tXi δ ds)
theorem PI.sub {X : Cx} {tg e : Expr} {t t' : TI} (h : PI X tg e t) (k : ∀ σ H R, t' σ H R → t σ H R) : PI X tg e t' := ⟨fun pins s σ H R I w => h.run pins s σ H R I (k _ _ _ w)⟩
theorem walkD_list {K : PySem.W.Frag} {G : Hp} {a : Addr} {vs : List V} {ds : List Dt} (h : G a = some (.lst vs)) (dl : DenL G vs ds) : WalkD (Itl K a) G ds := by
  unfold WalkD
  rw [← dl.1]
  refine Walk.mono (walk_list (K := K) (a := a) (xs := vs)) (fun H s => .inl (.inl (s _ _ h))) fun i H x H' hi s y G2 s1 s2 => ?_
  obtain ⟨rfl, e⟩ := y
  have hd : i < ds.length := by rw [← dl.1]; exact hi
  exact ⟨G2, ds[i], List.getElem?_eq_getElem hd, Grow.refl s2, (dl.2 i x _ e (List.getElem?_eq_getElem hd)).mono s1⟩
def rngD (n : Nat) (f : Nat → Int) : List Int := (List.range n).map f
theorem rngD_get {n : Nat} {f : Nat → Int} {i : Nat} (h : i < n) : (rngD n f)[i]? = some (f i) := by
  unfold rngD
  rw [List.getElem?_map, List.getElem?_range h]
  rfl
theorem rngD_len {n : Nat} {f : Nat → Int} : (rngD n f).length = n := by
  unfold rngD
  rw [List.length_map, List.length_range]
theorem walkD_fn {J : It} {G : Hp} {n : Nat} {f : Nat → Int} (w : Walk J n (fun _ => True) (YFn fun i => .int (f i))) : WalkD J G ((rngD n f).map Dt.int) := by
  unfold WalkD
  rw [List.length_map, rngD_len]
  refine Walk.mono w (fun _ _ => trivial) fun i H x H' hi s y G2 s1 s2 => ?_
  obtain ⟨rfl, rfl⟩ := y
  exact ⟨G2, .int (f i), by rw [List.getElem?_map, rngD_get hi]; rfl, Grow.refl s2, .int _⟩
/-- pairs -/
def pairD (p : Dt × Dt) : Dt := .tup [p.1, p.2]
def enumD (ds : List Dt) : List Dt := ds.zipIdx.map fun p => .tup [.int p.2, p.1]
def zipD (ds es : List Dt) : List Dt := (ds.zip es).map pairD
theorem walkD_pair {J : It} {G : Hp} {n : Nat} {xs ys : Nat → Option V} {ds : List Dt} (w : Walk J n (fun H => Same G H) (YPair xs ys)) (hn : ds.length = n) (hd : ∀ i x y, i < n → xs i = some x → ys i = some y → ∃ a b, ds[i]? = some (.tup [a, b]) ∧ Den G x a ∧ Den G y b) : WalkD J G ds := by
  unfold WalkD
  rw [hn]
  refine Walk.mono w (fun _ s => s) fun i H v H' hi s yy G2 s1 s2 => ?_
  obtain ⟨T, x, y, rfl, hT, rfl, ex, ey⟩ := yy
  obtain ⟨a, b, e, da, db⟩ := hd i x y hi ex ey
  have gl : Grow G2 H (upd G2 T (.tup [x, y])) (upd H T (.tup [x, y])) := Grow.laid s2 hT
  have dl : DenL (upd G2 T (.tup [x, y])) [x, y] [a, b] := .cons (da.mono (s1.trans gl.gg)) (.cons (db.mono (s1.trans gl.gg)) .nil)
  exact ⟨_, _, e, gl, .tup upd_same dl.1 dl.2⟩
section
variable {X : Cx} {δ : Sl} {pos p : Pos} {tg : Expr}
theorem xi_list {l : Expr} {ds : List Dt} (ha : Xe X l δ (.lst ds)) : Xi X tg l δ ds := PI.sub (pi_list ha) fun σ H R h => by
  obtain ⟨G, s, e, k⟩ := h
  refine ⟨G, s, e, fun v H1 G1 g1 d1 => ?_⟩
  obtain ⟨a, vs, rfl, r, dl⟩ := d1.lst_inv
  exact ⟨a, rfl, ⟨vs, .inl (.inl (g1.sub _ _ r))⟩, k _ _ _ g1 (walkD_list r dl)⟩
theorem xi_range1 {a : Expr} {n : Int} (hm : X.mg "range" = none) (ha : Xa X [a] δ [.int n]) (h0 : -(2 ^ 62) ≤ n) (h1 : n < 2 ^ 62) (hg : Gl X "range" := by rfl) (hs : starEach [a] X.env = [(false, eval a X.env)] := by rfl) :
    Xi X tg (.Call (.Name "range" p) [a] [] pos) δ ((rngD n.toNat fun i => (i : Int)).map Dt.int) := PI.sub (pi_range1 hg hm ha hs) fun σ H R h => by
  obtain ⟨G, s, e, k⟩ := h
  refine ⟨G, s, e, fun vs H1 G1 g1 d1 => ?_⟩
  refine ⟨n, d1.ints_inv (ns := [n]), h0, h1, k _ _ _ g1 (walkD_fn ?_)⟩
  have w := walk_range (lo := 0) (n := n.toNat)
  have e : (fun i : Nat => V.int (0 + (i : Int))) = fun i : Nat => V.int (i : Int) := funext fun i => by rw [Int.zero_add]
  rw [e] at w
  exact w
theorem xi_range2 {a b : Expr} {lo hi : Int} (hm : X.mg "range" = none) (ha : Xa X [a, b] δ [.int lo, .int hi]) (h0 : -(2 ^ 62) ≤ lo ∧ lo < 2 ^ 62 ∧ -(2 ^ 62) ≤ hi ∧ hi < 2 ^ 62) (hg : Gl X "range" := by rfl) (hs : starEach [a, b] X.env = [(false, eval a X.env), (false, eval b X.env)] := by rfl)
    (hs2 : starEach [b] X.env = [(false, eval b X.env)] := by rfl) : Xi X tg (.Call (.Name "range" p) [a, b] [] pos) δ ((rngD (hi - lo).toNat fun i => lo + (i : Int)).map Dt.int) := PI.sub (pi_range2 hg hm ha hs hs2) fun σ H R h => by
  obtain ⟨G, s, e, k⟩ := h
  refine ⟨G, s, e, fun vs H1 G1 g1 d1 => ?_⟩
  exact ⟨lo, hi, d1.ints_inv (ns := [lo, hi]), h0, k _ _ _ g1 (walkD_fn (walk_range (lo := lo) (n := (hi - lo).toNat)))⟩
theorem xi_range3 {a b c : Expr} {lo hi st : Int} {n : Nat} (hm : X.mg "range" = none) (ha : Xa X [a, b, c] δ [.int lo, .int hi, .int st]) (hr : RgC lo hi st n) (hg : Gl X "range" := by rfl)
    (hs : starEach [a, b, c] X.env = (false, eval a X.env) :: starEach [b, c] X.env := by rfl) (hpl : (backTo pos (starEach [b, c] X.env)).any (·.1) = false := by rfl) :
    Xi X tg (.Call (.Name "range" p) [a, b, c] [] pos) δ ((rngD n fun i => lo + (i : Int) * st).map Dt.int) := PI.sub (pi_range3 hg hm ha hs hpl) fun σ H R h => by
  obtain ⟨G, s, e, k⟩ := h
  refine ⟨G, s, e, fun vs H1 G1 g1 d1 => ?_⟩
  exact ⟨lo, hi, st, n, d1.ints_inv (ns := [lo, hi, st]), hr, k _ _ _ g1 (walkD_fn (walk_rangeC (lo := lo) (c := st) (n := n)))⟩
theorem xi_enum {a : Expr} {elts : List Expr} {kk : Nat} {tpos : Pos} {ds : List Dt} (hm : X.mg "enumerate" = none) (ha : Xe X a δ (.lst ds)) (hg : Gl X "enumerate" := by rfl) (hs : starEach [a] X.env = [(false, eval a X.env)] := by rfl) :
    Xi X (.Tuple elts kk tpos) (.Call (.Name "enumerate" p) [a] [] pos) δ (enumD ds) := PI.sub (pi_enum hg hm (xa_cons ha xa_nil hs) hs) fun σ H R h => by
  obtain ⟨G, s, e, k⟩ := h
  refine ⟨G, s, e, fun vs H1 G1 g1 d1 => ?_⟩
  obtain ⟨v, ws, rfl, d2, d3⟩ := d1.cons_inv
  have ew := d3.nil_inv
  subst ew
  obtain ⟨l, us, rfl, r, dl⟩ := d2.lst_inv
  refine ⟨l, us, rfl, .inl (.inl (g1.sub _ _ r)), k _ _ _ g1 (walkD_pair (Walk.mono (walk_enum (K := X.K) (a := l) (xs := us)) (fun H s => .inl (.inl (s _ _ r))) fun i H x H' _ _ y => y) ?_ fun i x y hi ex ey => ?_)⟩
  · unfold enumD
    rw [List.length_map, List.length_zipIdx, dl.1]
  · have hd : i < ds.length := by rw [← dl.1]; exact hi
    cases ex
    refine ⟨.int i, ds[i], ?_, .int _, dl.2 i y _ ey (List.getElem?_eq_getElem hd)⟩
    unfold enumD
    rw [List.getElem?_map, List.getElem?_zipIdx, List.getElem?_eq_getElem hd]
    simp
theorem xi_zip {a b : Expr} {elts : List Expr} {kk : Nat} {tpos : Pos} {ds es : List Dt} (hm : X.mg "zip" = none) (ha : Xe X a δ (.lst ds)) (hb : Xe X b δ (.lst es)) (hg : Gl X "zip" := by rfl)
    (hs : starEach [a, b] X.env = (false, eval a X.env) :: starEach [b] X.env := by rfl) (hpl : (backTo pos (starEach [b] X.env)).any (·.1) = false := by rfl) (hs2 : starEach [b] X.env = (false, eval b X.env) :: starEach [] X.env := by rfl) :
    Xi X (.Tuple elts kk tpos) (.Call (.Name "zip" p) [a, b] [] pos) δ (zipD ds es) := PI.sub (pi_zip hg hm (xa_cons ha (xa_cons hb xa_nil hs2) hs) hs hpl) fun σ H R h => by
  obtain ⟨G, s, e, k⟩ := h
  refine ⟨G, s, e, fun vs H1 G1 g1 d1 => ?_⟩
  obtain ⟨v, ws, rfl, d2, d3⟩ := d1.cons_inv
  obtain ⟨v2, ws2, rfl, d4, d5⟩ := d3.cons_inv
  have ew := d5.nil_inv
  subst ew
  obtain ⟨l, us, rfl, r, dl⟩ := d2.lst_inv
  obtain ⟨l2, us2, rfl, r2, dl2⟩ := d4.lst_inv
  refine ⟨l, l2, us, us2, rfl, .inl (.inl (g1.sub _ _ r)), .inl (.inl (g1.sub _ _ r2)), k _ _ _ g1 (walkD_pair (n := min us.length us2.length) (Walk.mono (walk_zip (K := X.K) (a := l) (b := l2) (xs := us) (ys := us2) rfl) (fun H s => ⟨.inl (.inl (s _ _ r)), .inl (.inl (s _ _ r2))⟩) fun i H x H' _ _ y => y) ?_ fun i x y hi ex ey => ?_)⟩
  · unfold zipD
    rw [List.length_map, List.length_zip, dl.1, dl2.1]
  · have h1 : i < ds.length := by rw [← dl.1]; omega
    have h2 : i < es.length := by rw [← dl2.1]; omega
    refine ⟨ds[i], es[i], ?_, dl.2 i x _ ex (List.getElem?_eq_getElem h1), dl2.2 i y _ ey (List.getElem?_eq_getElem h2)⟩
    unfold zipD
    have h3 : i < (ds.zip es).length := by rw [List.length_zip]; omega
    rw [List.getElem?_map, List.getElem?_eq_getElem h3, List.getElem_zip]
    rfl
end

inductive Tg where
  | one (i : Nat) | two (i j : Nat)
def gT (K : PySem.W.Frag) : Tg → TG
  | .one i => gName i
  | .two i j => gTup K 2 (gCons (gName i) (gCons (gName j) gNil))
def Tg.put : Tg → Dt → Sl → Option Sl
  | .one i, d, δ => some (δ.set i (some d))
  | .two i j, .tup [a, b], δ => some ((δ.set i (some a)).set j (some b))
  | .two _ _, _, _ => none
def Tg.within (vs : List Nat) : Tg → Prop
  | .one i => i ∈ vs
  | .two i j => i ∈ vs ∧ j ∈ vs
instance {t : Tg} {vs : List Nat} : Decidable (t.within vs) := match t with
  | .one i => inferInstanceAs (Decidable (i ∈ vs))
  | .two i j => inferInstanceAs (Decidable (i ∈ vs ∧ j ∈ vs))
/-- the target is such names -/
abbrev Xg (X : Cx) (tg : Expr) (t : Tg) : Prop := PG X tg (gT X.K t)
section
variable {X : Cx} {pos p q : Pos}
theorem xg_one {i : Nat} {x : Str} (hN : X.N.Nodup) (hi : X.N[i]? = some x := by rfl) (hx : Loc X.env.scope x := by first | exact Or.inl rfl | exact Or.inr rfl) (hf : X.fn x = true ∨ X.env.scope.names.lookup x = some .local := by first | exact .inl rfl | exact .inr rfl) : Xg X (.Name x pos) (.one i) := pg_name hN hi hx hf
theorem xg_two {i j : Nat} {x y : Str} {k : Nat} (hN : X.N.Nodup) (hc : X.calm = true := by rfl) (hi : X.N[i]? = some x := by rfl) (hj : X.N[j]? = some y := by rfl) (hx : Loc X.env.scope x := by first | exact Or.inl rfl | exact Or.inr rfl) (hy : Loc X.env.scope y := by first | exact Or.inl rfl | exact Or.inr rfl)
    (hf : X.fn x = true ∨ X.env.scope.names.lookup x = some .local := by first | exact .inl rfl | exact .inr rfl) (hg : X.fn y = true ∨ X.env.scope.names.lookup y = some .local := by first | exact .inl rfl | exact .inr rfl)
    (h1 : (assignEach [.Name x p, .Name y q] X.env).map (·.2) = assign (.Name x p) X.env :: (assignEach [.Name y q] X.env).map (·.2) := by rfl) (h2 : (assignEach [.Name y q] X.env).map (·.2) = assign (.Name y q) X.env :: (assignEach [] X.env).map (·.2) := by rfl)
    (hn : (assignEach [.Name x p, .Name y q] X.env).length = 2 := by rfl) (hst : (assignEach [.Name x p, .Name y q] X.env).findIdx? (·.1) = none := by rfl) : Xg X (.Tuple [.Name x p, .Name y q] k pos) (.two i j) :=
  pg_tup hc (pgs_cons (pg_name hN hi hx hf) (pgs_cons (pg_name hN hj hy hg) pgs_nil h2) h1) hn hst
end
theorem wipe_comm {x : Option V} {i : Nat} : ∀ (ws : List Nat) (τ : L2.St), i ∉ ws → wipe (τ.set i x) ws = (wipe τ ws).set i x
  | [], τ, _ => rfl
  | u :: us, τ, hn => by
    have h1 : i ≠ u := fun z => hn (by rw [z]; exact List.mem_cons_self)
    have h2 : i ∉ us := fun z => hn (List.mem_cons_of_mem _ z)
    unfold wipe
    rw [wipe_comm us τ h2, List.set_comm _ _ h1]
theorem wipe_set {x : Option V} : ∀ {vs : List Nat} {i : Nat} {σ : L2.St}, i ∈ vs → wipe (σ.set i x) vs = wipe σ vs
  | [], i, σ, h => by cases h
  | v :: vs, i, σ, h => by
    by_cases e : i ∈ vs
    · unfold wipe
      rw [wipe_set e]
    · have ev : i = v := by
        rcases List.mem_cons.mp h with h | h
        · exact h
        · exact absurd h e
      subst ev
      unfold wipe
      rw [wipe_comm vs σ e, List.set_set]
theorem wipe_wipe : ∀ (vs : List Nat) (σ : L2.St), wipe (wipe σ vs) vs = wipe σ vs
  | [], σ => rfl
  | v :: vs, σ => by
    show (wipe ((wipe σ vs).set v none) vs).set v none = (wipe σ vs).set v none
    by_cases e : v ∈ vs
    · rw [wipe_set e, wipe_wipe vs σ]
    · rw [wipe_comm vs _ e, wipe_wipe vs σ, List.set_set]
theorem gT_run {K : PySem.W.Frag} {t : Tg} {G H : Hp} {σ : L2.St} {δ δ' : Sl} {v : V} {d : Dt} {vs : List Nat} {Q : L2.St → Hp → Prop} (s : Same G H) (e : EnvD G σ δ) (hd : Den G v d) (hp : t.put d δ = some δ')
    (hq : ∀ σ', EnvD G σ' δ' → (t.within vs → wipe σ' vs = wipe σ vs) → Q σ' H) : gT K t v σ H Q := by
  cases t with
  | one i =>
    cases hp
    exact hq _ (e.set hd) fun w => wipe_set w
  | two i j =>
    cases hd with
    | tup h hl hd =>
      rename_i a us ds
      have dl : DenL G us ds := ⟨hl, hd⟩
      match ds, dl, hp with
      | [d1, d2], dl, hp =>
        cases hp
        obtain ⟨w1, ws, rfl, e1, e2⟩ := dl.cons_inv
        obtain ⟨w2, ws2, rfl, e3, e4⟩ := e2.cons_inv
        have en := e4.nil_inv
        subst en
        refine ⟨a, [w1, w2], rfl, .inl (.inl (s _ _ h)), rfl, w1, [w2], rfl, w2, [], rfl, rfl, ?_⟩
        exact hq _ ((e.set e1).set e3) fun w => by
          rw [wipe_set w.2, wipe_set w.1]
    | non => cases hp
    | bl _ => cases hp
    | int _ => cases hp
    | str _ => cases hp
    | lst _ _ _ => cases hp
    | dic _ _ _ => cases hp
    | scr _ => cases hp

abbrev Xts (X : Cx) (ifs : List Expr) (δ : Sl) (b : Bool) : Prop := PTs X ifs (tXT δ b)
theorem PTs.sub {X : Cx} {e : List Expr} {t t' : TT} (h : PTs X e t) (k : ∀ σ H Q, t' σ H Q → t σ H Q) : PTs X e t' := ⟨fun pins s σ H Q I w => h.run pins s σ H Q I (k _ _ _ w)⟩
theorem PTs.any {X : Cx} {e : List Expr} : PTs X e (fun σ H Q => ∃ t, PTs X e t ∧ t σ H Q) := ⟨fun pins s σ H Q I ⟨t, h, w⟩ => h.run pins s σ H Q I w⟩
theorem xts_nil {X : Cx} {δ : Sl} : Xts X [] δ true := PTs.sub pts_nil fun σ H Q h => by
  obtain ⟨G, s, e, k⟩ := h
  exact k _ _ (Grow.refl s)
theorem xts_one {X : Cx} {δ : Sl} {c : Expr} {b : Bool} (h : Xt X c δ b) : Xts X [c] δ b := pts_one h
/-- all contexts of a comprehension's block -/
def Blk (X : Cx) (scope : Scope) (Y : Cx) : Prop := ∃ (s : Shared) (H : Hp) (C : Addr) (cl : List (Str × Addr)) (fp : List Addr), Y = X.blk s H scope (compEnvC scope cl C X.env) fp
inductive CompD (X : Cx) (scope : Scope) (t : Tg) (ifs : List Expr) (elt : Expr) (δ : Sl) : List Dt → List Dt → Prop
  | nil : CompD X scope t ifs elt δ [] []
  | keep {d e : Dt} {ds es : List Dt} {δ' : Sl} (hp : t.put d δ = some δ') (ht : ∀ (s : Shared) (H : Hp) (C : Addr) (cl : List (Str × Addr)) (fp : List Addr), Xts (X.blk s H scope (compEnvC scope cl C X.env) fp) ifs δ' true)
      (he : ∀ (s : Shared) (H : Hp) (C : Addr) (cl : List (Str × Addr)) (fp : List Addr), Xe (X.blk s H scope (compEnvC scope cl C X.env) fp) elt δ' e) (r : CompD X scope t ifs elt δ ds es) : CompD X scope t ifs elt δ (d :: ds) (e :: es)
  | skip {d : Dt} {ds es : List Dt} {δ' : Sl} (hp : t.put d δ = some δ') (ht : ∀ (s : Shared) (H : Hp) (C : Addr) (cl : List (Str × Addr)) (fp : List Addr), Xts (X.blk s H scope (compEnvC scope cl C X.env) fp) ifs δ' false)
      (r : CompD X scope t ifs elt δ ds es) : CompD X scope t ifs elt δ (d :: ds) es
/-- the slots of the block's own names forgotten -/
def wipeD (δ : Sl) : List Nat → Sl
  | [] => δ
  | v :: vs => (wipeD δ vs).set v none
theorem EnvD.wipe {G : Hp} {σ : L2.St} {δ : Sl} (h : EnvD G σ δ) : ∀ vs : List Nat, EnvD G (L2.wipe σ vs) (wipeD δ vs)
  | [] => h
  | v :: vs => (EnvD.wipe h vs).forget
/-- the part of a comprehension behind the turns that were made: what is to come -/
theorem comp_drop {X : Cx} {scope : Scope} {t : Tg} {ifs : List Expr} {elt : Expr} {δ : Sl} {ds es : List Dt} (h : CompD X scope t ifs elt δ ds es) : ∀ i ≤ ds.length, ∃ a b, es = a ++ b ∧ a.length ≤ i ∧ CompD X scope t ifs elt δ (ds.drop i) b := by
  induction h with
  | nil => intro i hi; exact ⟨[], [], rfl, Nat.zero_le _, by rw [List.drop_nil]; exact .nil⟩
  | keep hp ht he r ih =>
    intro i hi
    cases i with
    | zero => exact ⟨[], _, rfl, Nat.zero_le _, .keep hp ht he r⟩
    | succ i =>
      obtain ⟨a, b, e, hl, c⟩ := ih i (Nat.le_of_succ_le_succ hi)
      exact ⟨_ :: a, b, by rw [e]; rfl, Nat.succ_le_succ hl, c⟩
  | skip hp ht r ih =>
    intro i hi
    cases i with
    | zero => exact ⟨[], _, rfl, Nat.zero_le _, .skip hp ht r⟩
    | succ i =>
      obtain ⟨a, b, e, hl, c⟩ := ih i (Nat.le_of_succ_le_succ hi)
      exact ⟨a, b, e, Nat.le_succ_of_le hl, c⟩
/-- at a turn: G0, H0 ahead of the comprehension, D the new list -/
structure CompAt (X : Cx) (scope : Scope) (t : Tg) (ifs : List Expr) (elt : Expr) (δ : Sl) (ds es : List Dt) (G0 H0 : Hp) (D : Addr) (i : Nat) (H : Hp) : Prop where
  ex : ∃ (G : Hp) (vs : List V) (a b : List Dt), es = a ++ b ∧ a.length ≤ i ∧ CompD X scope t ifs elt δ (ds.drop i) b ∧ Same G0 G ∧ Same H0 H ∧ Same G H ∧ G D = none ∧ (∀ x, G0 x = none → H0 x ≠ none → G x = none) ∧ H D = some (.lst vs) ∧ DenL G vs a
def tAllT (X : Cx) (scope : Scope) (ifs : List Expr) : TT := fun σ H Q => ∃ tt, (∀ (s : Shared) (Hh : Hp) (C : Addr) (cl : List (Str × Addr)) (fp : List Addr), PTs (X.blk s Hh scope (compEnvC scope cl C X.env) fp) ifs tt) ∧ tt σ H Q
def tAllE (X : Cx) (scope : Scope) (elt : Expr) : TE := fun σ H Q => ∃ te, (∀ (s : Shared) (Hh : Hp) (C : Addr) (cl : List (Str × Addr)) (fp : List Addr), PE (X.blk s Hh scope (compEnvC scope cl C X.env) fp) elt te) ∧ te σ H Q
theorem tLc_of {X : Cx} {scope : Scope} {t : Tg} {ifs : List Expr} {elt : Expr} {own : List Nat} {J : It} {σ : L2.St} {G H1 : Hp} {δ : Sl} {ds es : List Dt} {Q : VK} (hw : t.within own) (hz : ds.length ≤ 100000) (s : Same G H1) (e : EnvD G σ δ)
    (w : WalkD J G ds) (c : CompD X scope t ifs elt (wipeD δ own) ds es) (D : Addr) (hD : H1 D = none) (hQ : ∀ H' G' vs, Grow G H1 G' H' → G' D = some (.lst vs) → DenL G' vs es → Q (.ref D) H') :
    ∃ W : Nat → Nat → Hp → Prop, (∃ m, W 0 m (upd H1 D (.lst []))) ∧ ∀ i m H, W i m H →
      (J.stop i H ∧ Q (.ref D) H) ∨ (J.go i H ∧ ∃ Nx : Hp → Prop, (∀ H', Nx H' → ∃ m', m' < m ∧ W (i + 1) m' H') ∧ ∀ x H', J.yld i H x H' → gT X.K t x (L2.wipe σ own) H' fun σ2 H2 => L2.wipe σ2 own = L2.wipe σ own ∧
        tAllT X scope ifs σ2 H2 fun b H3 =>
        if b = true then tAllE X scope elt σ2 H3 fun y H4 => ∃ acc, H4 D = some (.lst acc) ∧ acc.length < sizeLine ∧ Nx (upd H4 D (.lst (acc ++ [y]))) else Nx H3) := by
  have hGD : G D = none := same_none s hD
  refine lc_it (D := D) (σ := σ) (vs := own) (g := gT X.K t) (tt := tAllT X scope ifs) (te := tAllE X scope elt) (Qd := fun H => Q (.ref D) H) w (CompAt X scope t ifs elt (wipeD δ own) ds es G H1 D) ?_ ?_ ?_ ?_
  · exact ⟨G, [], [], es, rfl, Nat.le_refl _, c, .refl _, same_new hD, s.trans (same_new hD), hGD, fun _ h _ => h, upd_same, .nil⟩
  · rintro i H _ ⟨G1, vs, a, b, _, _, _, g1, _, g3, _⟩
    exact g1.trans g3
  · rintro i x H H' hi ⟨G1, vs, a, b, ees, hl, cc, g1, h1, g3, hD1, hn1, hDv, dl⟩ hy
    obtain ⟨G2, d, ed, gr, dx⟩ := hy G1 g1 g3
    have hHD : H D ≠ none := by rw [hDv]; exact fun z => by cases z
    have hG2D : G2 D = none := gr.new D hD1 hHD
    have e2 : EnvD G2 (L2.wipe σ own) (wipeD δ own) := (e.mono (g1.trans gr.gg)).wipe own
    have hn2 : ∀ x, G x = none → H1 x ≠ none → G2 x = none := fun x z1 z2 => gr.new x (hn1 x z1 z2) fun z => by
      cases q : H1 x with
      | none => exact z2 q
      | some o =>
        rw [h1 x o q] at z
        cases z
    have edrop : ds.drop i = d :: ds.drop (i + 1) := by
      have hi' : i < ds.length := hi
      rw [List.drop_eq_getElem_cons hi']
      rw [List.getElem?_eq_getElem hi'] at ed
      rw [Option.some.inj ed]
    rw [edrop] at cc
    have hDv' : H' D = some (.lst vs) := gr.hh D _ hDv
    have acc_lt : vs.length < sizeLine := by
      rw [dl.1]
      exact Nat.lt_of_le_of_lt hl (Nat.lt_of_lt_of_le hi (Nat.le_trans hz (by rw [sizeLine_eq]; omega)))
    cases cc with
    | keep hp ht he r =>
      rename_i e' es' δ'
      refine gT_run gr.sub e2 dx hp fun σ' eσ hwp => ⟨(hwp hw).trans (wipe_wipe own σ), _, ht, G2, gr.sub, eσ, fun H3 G3 g3' => ?_⟩
      refine iteT ?_
      refine ⟨_, he, G3, g3'.sub, eσ.mono g3'.gg, fun y H4 G4 g4 dy => ?_⟩
      have hD4 : H4 D = some (.lst vs) := g4.hh D _ (g3'.hh D _ hDv')
      have hG3D : G3 D = none := g3'.new D hG2D (by rw [hDv']; exact fun z => by cases z)
      have hG4D : G4 D = none := g4.new D hG3D (by rw [g3'.hh D _ hDv']; exact fun z => by cases z)
      have gg := (gr.trans g3').trans g4
      refine ⟨vs, hD4, acc_lt, G4, vs ++ [y], a ++ [e'], es', by rw [ees]; simp, ?_, r, g1.trans gg.gg, ?_, ?_, hG4D, ?_, upd_same, (dl.mono gg.gg).append (.cons dy .nil)⟩
      · rw [List.length_append]
        exact Nat.succ_le_succ hl
      · intro x o hx
        rw [upd_ne (fun z => by rw [z, hD] at hx; cases hx)]
        exact gg.hh x o (h1 x o hx)
      · intro x o hx
        rw [upd_ne (fun z => by rw [z, hG4D] at hx; cases hx)]
        exact g4.sub x o hx
      · intro x z1 z2
        exact (g3'.trans g4).new x (hn2 x z1 z2) fun z => by
          cases q : H1 x with
          | none => exact z2 q
          | some o =>
            rw [gr.hh x o (h1 x o q)] at z
            cases z
    | skip hp ht r =>
      refine gT_run gr.sub e2 dx hp fun σ' eσ hwp => ⟨(hwp hw).trans (wipe_wipe own σ), _, ht, G2, gr.sub, eσ, fun H3 G3 g3' => ?_⟩
      refine iteF ?_
      have gg := gr.trans g3'
      have hG3D : G3 D = none := g3'.new D hG2D (by rw [hDv']; exact fun z => by cases z)
      refine ⟨G3, vs, a, b, ees, Nat.le_succ_of_le hl, r, g1.trans gg.gg, h1.trans gg.hh, g3'.sub, hG3D, ?_, gg.hh D _ hDv, dl.mono gg.gg⟩
      intro x z1 z2
      exact g3'.new x (hn2 x z1 z2) fun z => by
        cases q : H1 x with
        | none => exact z2 q
        | some o =>
          rw [gr.hh x o (h1 x o q)] at z
          cases z
  · rintro H ⟨G1, vs, a, b, ees, hl, cc, g1, h1, g3, hD1, hn1, hDv, dl⟩
    rw [List.drop_length] at cc
    cases cc
    rw [List.append_nil] at ees
    subst ees
    have sD : Same G1 (upd G1 D (.lst vs)) := same_new hD1
    refine hQ H (upd G1 D (.lst vs)) vs ⟨h1, g1.trans sD, ?_, ?_⟩ upd_same (dl.mono sD)
    · intro x o hx
      by_cases hb : x = D
      · subst hb
        rw [upd_same] at hx
        rw [hDv]
        exact hx
      · rw [upd_ne hb] at hx
        exact g3 x o hx
    · intro x z1 z2
      rw [upd_ne (fun z => by rw [z] at z2; exact z2 hD)]
      exact hn1 x z1 z2
section
variable {X : Cx} {δ : Sl} {pos : Pos}
theorem PTs.anyB {scope : Scope} {ifs : List Expr} {s : Shared} {H : Hp} {C : Addr} {cl : List (Str × Addr)} {fp : List Addr} :
    PTs (X.blk s H scope (compEnvC scope cl C X.env) fp) ifs (tAllT X scope ifs) :=
  ⟨fun pins s' σ H' Q I ⟨t, h, w⟩ => (h s H C cl fp).run pins s' σ H' Q I w⟩
theorem PE.anyB {scope : Scope} {elt : Expr} {s : Shared} {H : Hp} {C : Addr} {cl : List (Str × Addr)} {fp : List Addr} :
    PE (X.blk s H scope (compEnvC scope cl C X.env) fp) elt (tAllE X scope elt) :=
  ⟨fun pins s' σ H' Q I ⟨t, h, w⟩ => (h s H C cl fp).run pins s' σ H' Q I w⟩
/-- [elt for tg in iter if ..] -/
theorem xe_lc {elt tg iter : Expr} {ifs : List Expr} {scope : Scope} (own : List (Str × Nat)) (t : Tg) {ds es : List Dt} (hN : X.N.Nodup) (hi : Xi X tg iter δ ds) (c : CompD X scope t ifs elt (wipeD δ (own.map (·.2))) ds es) (hz : ds.length ≤ 100000)
    (hg : ∀ (s : Shared) (H : Hp) (C : Addr) (cl : List (Str × Addr)) (fp : List Addr), Xg (X.blk s H scope (compEnvC scope cl C X.env) fp) tg t) (hw : t.within (own.map (·.2)) := by decide) (ok : blkC X.N X.env.scope scope own = true := by rfl) (hc : X.calm = true := by rfl)
    (hs : ∀ x, foldedSetIterable iter X.env x = pure x := by intro _; rfl) : Xe X (.ListComp elt [⟨tg, iter, ifs, 0⟩] scope pos) δ (.lst es) :=
  PE.sub (pe_lc hc hN hi (blkOk_by ok) hg (fun _ _ _ _ _ => PTs.anyB) (fun _ _ _ _ _ => PE.anyB) hs) fun σ H Q h => by
    obtain ⟨G, s, e, k⟩ := h
    refine ⟨G, s, e, fun J H1 G1 g1 w D hD => ?_⟩
    exact tLc_of hw hz g1.sub (e.mono g1.gg) w c D hD fun H' G' vs g d dl => k _ H' G' (g1.trans g) (.lst d dl.1 dl.2)
end
end Pa
namespace Pa
open PySem PySem.Spec PyProof.Rows L2
inductive Cell where
  | nums (ns : List Int) | rows (rs : List (List Int))
def Cell.real (H : Hp) : Cell → List Addr → Prop
  | .nums ns, as => ∃ p, as = [p] ∧ H p = some (.lst (ns.map V.int))
  | .rows rs, as => ∃ p qs, as = p :: qs ∧ H p = some (.lst (qs.map V.ref)) ∧ qs.length = rs.length ∧ ∀ (j : Nat) (q : Addr) (ns : List Int), qs[j]? = some q → rs[j]? = some ns → H q = some (.lst (ns.map V.int))
def Cell.dt : Cell → Dt
  | .nums ns => dI ns
  | .rows rs => .lst (rs.map dI)
theorem Cell.real.keep {H H' : Hp} {c : Cell} {as : List Addr} (h : c.real H as) (k : ∀ a ∈ as, ∀ o, H a = some o → H' a = some o) : c.real H' as := by
  cases c with
  | nums ns =>
    obtain ⟨p, rfl, e⟩ := h
    exact ⟨p, rfl, k p List.mem_cons_self _ e⟩
  | rows rs =>
    obtain ⟨p, qs, rfl, e, hl, hr⟩ := h
    exact ⟨p, qs, rfl, k p List.mem_cons_self _ e, hl, fun j q ns h1 h2 => k q (List.mem_cons_of_mem _ (List.mem_of_getElem? h1)) _ (hr j q ns h1 h2)⟩
theorem Cell.real.head {H : Hp} {c : Cell} {as : List Addr} (h : c.real H as) : ∃ p qs, as = p :: qs := by
  cases c with
  | nums ns =>
    obtain ⟨p, rfl, e⟩ := h
    exact ⟨p, [], rfl⟩
  | rows rs =>
    obtain ⟨p, qs, rfl, e⟩ := h
    exact ⟨p, qs, rfl⟩
theorem Cell.real.held {H : Hp} {c : Cell} {as : List Addr} (h : c.real H as) : ∀ a ∈ as, H a ≠ none := by
  cases c with
  | nums ns =>
    obtain ⟨p, rfl, e⟩ := h
    intro a ha
    rw [List.mem_singleton.mp ha, e]
    exact fun z => by cases z
  | rows rs =>
    obtain ⟨p, qs, rfl, e, hl, hr⟩ := h
    intro a ha
    rcases List.mem_cons.mp ha with rfl | ha
    · rw [e]
      exact fun z => by cases z
    · obtain ⟨j, hj, ej⟩ := List.mem_iff_getElem.mp ha
      have hj2 : j < rs.length := by rw [← hl]; exact hj
      rw [hr j a rs[j] (by rw [List.getElem?_eq_getElem hj, ej]) (List.getElem?_eq_getElem hj2)]
      exact fun z => by cases z
theorem Cell.real.den {H : Hp} {c : Cell} {p : Addr} {qs : List Addr} (h : c.real H (p :: qs)) : Den H (.ref p) c.dt := by
  cases c with
  | nums ns =>
    obtain ⟨p', e1, e⟩ := h
    cases e1
    exact .lst e (by rw [List.length_map, List.length_map]) (DenL.ints ns).2
  | rows rs =>
    obtain ⟨p', qs', e1, e, hl, hr⟩ := h
    cases e1
    refine .lst e (by rw [List.length_map, List.length_map, hl]) fun i v d h1 h2 => ?_
    rw [List.getElem?_map] at h1 h2
    cases q1 : qs[i]? with
    | none =>
      rw [q1] at h1
      cases h1
    | some q =>
      cases q2 : rs[i]? with
      | none =>
        rw [q2] at h2
        cases h2
      | some ns =>
        rw [q1] at h1
        rw [q2] at h2
        cases h1
        cases h2
        exact .lst (hr i q ns q1 q2) (by rw [List.length_map, List.length_map]) (DenL.ints ns).2
inductive S where
  | sh (d : Dt) | at_ (n : Nat) | row (n j : Nat)
abbrev Ss := List (Option S)
abbrev Om := List Cell
/-- what the slots hold, as data: all of it | what stands still -/
def S.dt (ω : Om) : S → Option Dt
  | .sh d => some d
  | .at_ n => (ω[n]?).map Cell.dt
  | .row n j => match ω[n]? with
    | some (.rows rs) => (rs[j]?).map dI
    | _ => none
def S.st : S → Option Dt
  | .sh d => some d
  | _ => none
def view (ω : Om) (δ : Ss) : Sl := δ.map fun o => o.bind (S.dt ω)
def still (δ : Ss) : Sl := δ.map fun o => o.bind S.st
/-- the slot holds that object -/
def SlotAt (regs : List (List Addr)) : S → V → Prop
  | .sh _, _ => True
  | .at_ n, v => ∃ p qs, regs[n]? = some (p :: qs) ∧ v = .ref p
  | .row n j, v => ∃ p qs q, regs[n]? = some (p :: qs) ∧ qs[j]? = some q ∧ v = .ref q
structure EnvR (R H G : Hp) (σ : L2.St) (δ : Ss) (ω : Om) (regs : List (List Addr)) : Prop where
  rh : Same R H
  gh : Same G H
  rg : ∀ a, R a ≠ none → G a = none
  len : σ.length = δ.length
  rlen : regs.length = ω.length
  nd : regs.flatten.Nodup
  real : ∀ (n : Nat) (c : Cell) (as : List Addr), ω[n]? = some c → regs[n]? = some as → c.real H as
  out : ∀ a ∈ regs.flatten, R a = none ∧ G a = none
  sh : ∀ (i : Nat) (d : Dt), δ[i]? = some (some (.sh d)) → ∃ v, σ[i]? = some (some v) ∧ Den G v d
  ow : ∀ (i : Nat) (x : S), δ[i]? = some (some x) → ∃ v, σ[i]? = some (some v) ∧ SlotAt regs x v
def EnvO (R H G : Hp) (σ : L2.St) (δ : Ss) (ω : Om) : Prop := ∃ regs, EnvR R H G σ δ ω regs
/-- all but the frame -/
def offR (R H : Hp) : Hp := fun a => match R a with
  | none => H a
  | some _ => none
theorem offR_none {R H : Hp} {a : Addr} (h : R a = none) : offR R H a = H a := by
  unfold offR
  rw [h]
theorem offR_some {R H : Hp} {a : Addr} (h : R a ≠ none) : offR R H a = none := by
  unfold offR
  cases q : R a with
  | none => exact absurd q h
  | some o => rfl
theorem offR_same {R H : Hp} : Same (offR R H) H := fun a o h => by
  cases q : R a with
  | none => rw [offR_none q] at h; exact h
  | some u => rw [offR_some (by rw [q]; exact fun z => by cases z)] at h; cases h
theorem same_offR {R H G : Hp} (g : Same G H) (rg : ∀ a, R a ≠ none → G a = none) : Same G (offR R H) := fun a o h => by
  cases q : R a with
  | none => rw [offR_none q]; exact g a o h
  | some u =>
    rw [rg a (by rw [q]; exact fun z => by cases z)] at h
    cases h
section
variable {R H G : Hp} {σ : L2.St} {δ : Ss} {ω : Om} {regs : List (List Addr)}
theorem EnvR.mem (e : EnvR R H G σ δ ω regs) {n : Nat} {as : List Addr} (h : regs[n]? = some as) {a : Addr} (ha : a ∈ as) : a ∈ regs.flatten := List.mem_flatten.mpr ⟨as, List.mem_of_getElem? h, ha⟩
theorem EnvR.at_ (e : EnvR R H G σ δ ω regs) {n : Nat} {c : Cell} (h : ω[n]? = some c) : ∃ p qs, regs[n]? = some (p :: qs) ∧ c.real H (p :: qs) := by
  have hn : n < regs.length := by
    rw [e.rlen]
    exact (List.getElem?_eq_some_iff.mp h).1
  have h2 := List.getElem?_eq_getElem hn
  have r := e.real n c _ h h2
  obtain ⟨p, qs, ep⟩ := r.head
  exact ⟨p, qs, by rw [h2, ep], by rw [← ep]; exact r⟩
theorem EnvR.held (e : EnvR R H G σ δ ω regs) : ∀ a ∈ regs.flatten, H a ≠ none := fun a ha => by
  obtain ⟨as, h1, h2⟩ := List.mem_flatten.mp ha
  obtain ⟨n, hn, en⟩ := List.mem_iff_getElem.mp h1
  have hw : n < ω.length := by rw [← e.rlen]; exact hn
  exact (e.real n ω[n] as (List.getElem?_eq_getElem hw) (by rw [List.getElem?_eq_getElem hn, en])).held a h2
theorem EnvR.view (e : EnvR R H G σ δ ω regs) : EnvD (offR R H) σ (view ω δ) := by
  refine ⟨by unfold Pa.view; rw [List.length_map]; exact e.len, fun i d h => ?_⟩
  unfold Pa.view at h
  rw [List.getElem?_map] at h
  cases q : δ[i]? with
  | none =>
    rw [q] at h
    cases h
  | some o =>
    rw [q] at h
    have h : o.bind (S.dt ω) = some d := Option.some.inj h
    cases o with
    | none => cases h
    | some x =>
      have h : x.dt ω = some d := h
      cases x with
      | sh d' =>
        cases h
        obtain ⟨v, h1, h2⟩ := e.sh i d q
        exact ⟨v, h1, h2.mono (same_offR e.gh e.rg)⟩
      | at_ n =>
        have h : (ω[n]?).map Cell.dt = some d := h
        cases qn : ω[n]? with
        | none =>
          rw [qn] at h
          cases h
        | some c =>
          rw [qn] at h
          cases h
          obtain ⟨v, h1, p, qs, h2, rfl⟩ := e.ow i _ q
          have r := e.real n c _ qn h2
          exact ⟨_, h1, (r.keep fun a ha o ho => by rw [offR_none (e.out a (e.mem h2 ha)).1]; exact ho).den⟩
      | row n j =>
        obtain ⟨v, h1, p, qs, q', h2, h3, rfl⟩ := e.ow i _ q
        have h : (match ω[n]? with
          | some (.rows rs) => (rs[j]?).map dI
          | _ => none) = some d := h
        cases qn : ω[n]? with
        | none =>
          rw [qn] at h
          cases h
        | some c =>
          rw [qn] at h
          cases c with
          | nums ns => cases h
          | rows rs =>
            have h : (rs[j]?).map dI = some d := h
            cases qj : rs[j]? with
            | none =>
              rw [qj] at h
              cases h
            | some ns =>
              rw [qj] at h
              cases h
              obtain ⟨p', qs', e1, e2, e3, e4⟩ := e.real n _ _ qn h2
              cases e1
              refine ⟨_, h1, .lst (vs := ns.map V.int) ?_ (by rw [List.length_map, List.length_map]) (DenL.ints ns).2⟩
              rw [offR_none (e.out q' (e.mem h2 (List.mem_cons_of_mem _ (List.mem_of_getElem? h3)))).1]
              exact e4 j q' ns h3 qj
theorem EnvR.still (e : EnvR R H G σ δ ω regs) : EnvD G σ (still δ) := by
  refine ⟨by unfold Pa.still; rw [List.length_map]; exact e.len, fun i d h => ?_⟩
  unfold Pa.still at h
  rw [List.getElem?_map] at h
  cases q : δ[i]? with
  | none =>
    rw [q] at h
    cases h
  | some o =>
    rw [q] at h
    have h : o.bind S.st = some d := Option.some.inj h
    cases o with
    | none => cases h
    | some x =>
      cases x with
      | sh d' =>
        cases h
        exact e.sh i d q
      | at_ n => cases h
      | row n j => cases h
theorem held_of {A B : Hp} (s : Same A B) {a : Addr} (h : A a ≠ none) : B a ≠ none := fun z => by
  cases q : A a with
  | none => exact h q
  | some o =>
    rw [s a o q] at z
    cases z
/-- the heap has grown -/
theorem EnvR.grow (e : EnvR R H G σ δ ω regs) {G' H' : Hp} (g : Grow G H G' H') : EnvR R H' G' σ δ ω regs :=
  ⟨e.rh.trans g.hh, g.sub, fun a h => g.new a (e.rg a h) (held_of e.rh h), e.len, e.rlen, e.nd, fun n c as h1 h2 => (e.real n c as h1 h2).keep fun a _ o ho => g.hh a o ho, fun a ha => ⟨(e.out a ha).1, g.new a (e.out a ha).2 (e.held a ha)⟩,
  fun i d h => by
    obtain ⟨v, h1, h2⟩ := e.sh i d h
    exact ⟨v, h1, h2.mono g.gg⟩, e.ow⟩
theorem EnvR.junk (e : EnvR R H G σ δ ω regs) {H' : Hp} (h : Same H H') : EnvR R H' G σ δ ω regs := e.grow (Grow.junk e.gh h)
/-- a slot is set -/
theorem EnvR.set (e : EnvR R H G σ δ ω regs) {i : Nat} {v : V} {x : S} (h1 : ∀ d, x = .sh d → Den G v d) (h2 : SlotAt regs x v) : EnvR R H G (σ.set i (some v)) (δ.set i (some x)) ω regs := by
  have key : ∀ (j : Nat) (y : S), (δ.set i (some x))[j]? = some (some y) → (i = j ∧ y = x ∧ (σ.set i (some v))[j]? = some (some v)) ∨ (i ≠ j ∧ δ[j]? = some (some y) ∧ (σ.set i (some v))[j]? = σ[j]?) := fun j y q => by
    by_cases hj : i = j
    · subst hj
      have hi : i < δ.length := by
        have := (List.getElem?_eq_some_iff.mp q).1
        rwa [List.length_set] at this
      rw [List.getElem?_set_self hi] at q
      cases q
      exact .inl ⟨rfl, rfl, List.getElem?_set_self (by rw [e.len]; exact hi)⟩
    · rw [List.getElem?_set_ne hj] at q
      exact .inr ⟨hj, q, List.getElem?_set_ne hj⟩
  refine ⟨e.rh, e.gh, e.rg, by rw [List.length_set, List.length_set]; exact e.len, e.rlen, e.nd, e.real, e.out, fun j d q => ?_, fun j y q => ?_⟩
  · rcases key j _ q with ⟨_, ed, es⟩ | ⟨_, ed, es⟩
    · exact ⟨v, es, h1 d ed.symm⟩
    · obtain ⟨w, a, b⟩ := e.sh j d ed
      exact ⟨w, by rw [es]; exact a, b⟩
  · rcases key j _ q with ⟨_, ed, es⟩ | ⟨_, ed, es⟩
    · subst ed
      exact ⟨v, es, h2⟩
    · obtain ⟨w, a, b⟩ := e.ow j y ed
      exact ⟨w, by rw [es]; exact a, b⟩
/-- less is known of the slots -/
def LessS (δ δ' : Ss) : Prop := δ.length = δ'.length ∧ ∀ (i : Nat) (x : S), δ'[i]? = some (some x) → δ[i]? = some (some x)
theorem LessS.refl (δ : Ss) : LessS δ δ := ⟨rfl, fun _ _ h => h⟩
theorem LessS.trans {a b c : Ss} (h : LessS a b) (k : LessS b c) : LessS a c := ⟨h.1.trans k.1, fun i d q => h.2 i d (k.2 i d q)⟩
theorem EnvR.less {δ' : Ss} (l : LessS δ δ') (e : EnvR R H G σ δ ω regs) : EnvR R H G σ δ' ω regs :=
  ⟨e.rh, e.gh, e.rg, e.len.trans l.1, e.rlen, e.nd, e.real, e.out, fun i d q => e.sh i d (l.2 i _ q), fun i x q => e.ow i x (l.2 i x q)⟩
/-- one more region -/
theorem EnvR.more (e : EnvR R H G σ δ ω regs) {c : Cell} {as : List Addr} {H' : Hp} (s : Same H H') (n1 : ∀ a ∈ as, H a = none) (n2 : as.Nodup) (r : c.real H' as) : EnvR R H' G σ δ (ω ++ [c]) (regs ++ [as]) := by
  have e' := e.junk s
  have fl : (regs ++ [as]).flatten = regs.flatten ++ as := by rw [List.flatten_append]; simp
  refine ⟨e'.rh, e'.gh, e'.rg, e'.len, by rw [List.length_append, List.length_append, e.rlen]; rfl, ?_, fun n d bs h1 h2 => ?_, fun a ha => ?_, e'.sh, fun i x h => ?_⟩
  · rw [fl]
    refine List.nodup_append.mpr ⟨e.nd, n2, fun a ha b hb z => ?_⟩
    rw [z] at ha
    exact e.held b ha (n1 b hb)
  · by_cases hn : n < ω.length
    · rw [List.getElem?_append_left hn] at h1
      rw [List.getElem?_append_left (by rw [e.rlen]; exact hn)] at h2
      exact e'.real n d bs h1 h2
    · rw [List.getElem?_append_right (Nat.le_of_not_lt hn)] at h1
      rw [List.getElem?_append_right (by rw [e.rlen]; exact Nat.le_of_not_lt hn), e.rlen] at h2
      cases hm : n - ω.length with
      | zero =>
        rw [hm] at h1 h2
        cases h1
        cases h2
        exact r
      | succ m =>
        rw [hm] at h1
        cases h1
  · rw [fl] at ha
    rcases List.mem_append.mp ha with ha | ha
    · exact e'.out a ha
    · have h := n1 a ha
      exact ⟨same_none e.rh h, same_none e.gh h⟩
  · obtain ⟨v, h1, h2⟩ := e'.ow i x h
    refine ⟨v, h1, ?_⟩
    have ap : ∀ {n : Nat} {bs : List Addr}, regs[n]? = some bs → (regs ++ [as])[n]? = some bs := fun {n bs} q => by
      rw [List.getElem?_append_left (List.getElem?_eq_some_iff.mp q).1]
      exact q
    cases x with
    | sh d => trivial
    | at_ n =>
      obtain ⟨p, qs, a, b⟩ := h2
      exact ⟨p, qs, ap a, b⟩
    | row n j =>
      obtain ⟨p, qs, q, a, b, c⟩ := h2
      exact ⟨p, qs, q, ap a, b, c⟩
/-- one object of the n-th region is changed -/
theorem EnvR.put (e : EnvR R H G σ δ ω regs) {n : Nat} {c c' : Cell} {as : List Addr} {a : Addr} {o : HO} (h1 : regs[n]? = some as) (h2 : a ∈ as) (h4 : ω[n]? = some c) (r : c'.real (upd H a o) as) : EnvR R (upd H a o) G σ δ (ω.set n c') regs := by
  have ha := e.out a (e.mem h1 h2)
  have keep : ∀ (b : Addr) (u : HO), b ≠ a → H b = some u → upd H a o b = some u := fun b u hb hu => by
    rw [upd_ne hb]
    exact hu
  have other : ∀ (m : Nat) (bs : List Addr), m ≠ n → regs[m]? = some bs → ∀ b ∈ bs, b ≠ a := fun m bs hm hb b hbb z => by
    subst z
    -- b stands in two regions
    have hn1 := (List.getElem?_eq_some_iff.mp h1).1
    have hm1 := (List.getElem?_eq_some_iff.mp hb).1
    have en : regs[n] = as := (List.getElem?_eq_some_iff.mp h1).2
    have em : regs[m] = bs := (List.getElem?_eq_some_iff.mp hb).2
    have pw := (List.pairwise_flatten.mp e.nd).2
    rcases Nat.lt_or_gt_of_ne hm with l | l
    · have := List.pairwise_iff_getElem.mp pw m n hm1 hn1 l
      rw [em, en] at this
      exact this b hbb b h2 rfl
    · have := List.pairwise_iff_getElem.mp pw n m hn1 hm1 l
      rw [em, en] at this
      exact this b h2 b hbb rfl
  refine ⟨fun b u hu => keep b u (fun z => by rw [z, ha.1] at hu; cases hu) (e.rh b u hu), fun b u hu => keep b u (fun z => by rw [z, ha.2] at hu; cases hu) (e.gh b u hu), e.rg, e.len, by rw [List.length_set]; exact e.rlen, e.nd, fun m d bs k1 k2 => ?_, e.out, e.sh, e.ow⟩
  by_cases hm : n = m
  · subst hm
    rw [List.getElem?_set_self (List.getElem?_eq_some_iff.mp h4).1] at k1
    cases k1
    rw [h1] at k2
    cases k2
    exact r
  · rw [List.getElem?_set_ne hm] at k1
    exact (e.real m d bs k1 k2).keep fun b hb u hu => keep b u (other m bs (Ne.symm hm) k2 b hb) hu
end
end Pa
namespace Pa
open PySem PySem.Spec PyProof.Rows L2
inductive Out where
  | nx (δ : Ss) (ω : Om) | rt (d : Dt) | bk (δ : Ss) (ω : Om) | ct (δ : Ss) (ω : Om) | ex (e : Err) | ra
def Pre (a b : List (List Addr)) : Prop := ∃ more, b = a ++ more
theorem Pre.refl (a : List (List Addr)) : Pre a a := ⟨[], (List.append_nil a).symm⟩
theorem Pre.trans {a b c : List (List Addr)} (h : Pre a b) (k : Pre b c) : Pre a c := by
  obtain ⟨m, rfl⟩ := h
  obtain ⟨n, rfl⟩ := k
  exact ⟨m ++ n, List.append_assoc _ _ _⟩
theorem Pre.get {a b : List (List Addr)} (h : Pre a b) {n : Nat} {x : List Addr} (e : a[n]? = some x) : b[n]? = some x := by
  obtain ⟨m, rfl⟩ := h
  rw [List.getElem?_append_left (List.getElem?_eq_some_iff.mp e).1]
  exact e
def Kn (E : XK) (R G : Hp) (regs : List (List Addr)) (D : Ends) : Out → Prop
  | .nx δ ω => ∀ σ H G' regs', Same G G' → Pre regs regs' → EnvR R H G' σ δ ω regs' → D.nx σ H
  | .rt d => ∀ v H G', Same G G' → Same G' H → Same R H → (∀ a, R a ≠ none → G' a = none) → Den G' v d → D.rt v H
  | .bk δ ω => ∀ σ H G' regs', Same G G' → Pre regs regs' → EnvR R H G' σ δ ω regs' → D.bk σ H
  | .ct δ ω => ∀ σ H G' regs', Same G G' → Pre regs regs' → EnvR R H G' σ δ ω regs' → D.ct σ H
  | .ex e => ∀ cls dd H, Same R H → Same G H → IsErr e cls dd H → E cls dd H
  | .ra => ∀ v H, Same R H → Same G H → D.rt v H
theorem Kn.mono {E : XK} {R G G' : Hp} {regs regs' : List (List Addr)} {D : Ends} {O : Out} (s : Same G G') (p : Pre regs regs') (k : Kn E R G regs D O) : Kn E R G' regs' D O := by
  cases O with
  | nx δ ω => exact fun σ H G2 r2 s2 p2 e => k σ H G2 r2 (s.trans s2) (p.trans p2) e
  | rt d => exact fun v H G2 s2 => k v H G2 (s.trans s2)
  | bk δ ω => exact fun σ H G2 r2 s2 p2 e => k σ H G2 r2 (s.trans s2) (p.trans p2) e
  | ct δ ω => exact fun σ H G2 r2 s2 p2 e => k σ H G2 r2 (s.trans s2) (p.trans p2) e
  | ex e => exact fun cls dd H s1 s2 h => k cls dd H s1 (s.trans s2) h
  | ra => exact fun v H s1 s2 => k v H s1 (s.trans s2)
/-- the statement does not run on -/
def Out.ends : Out → Prop
  | .nx _ _ => False
  | _ => True
def tXs (E : XK) (δ : Ss) (ω : Om) (O : Out) : TS := fun D σ H => ∃ R G regs, EnvR R H G σ δ ω regs ∧ Kn E R G regs D O
abbrev Xs (X : Cx) (E : XK) (st : Stmt) (δ : Ss) (ω : Om) (O : Out) : Prop := PS X st (tXs E δ ω O)
abbrev Xb (X : Cx) (E : XK) (sts : List Stmt) (δ : Ss) (ω : Om) (O : Out) : Prop := PSs X sts (tXs E δ ω O)
section
variable {X : Cx} {E : XK} {δ δ1 δ2 : Ss} {ω ω1 ω2 : Om} {O : Out} {st : Stmt} {rest : List Stmt} {pos p : Pos}
theorem xb_nil : Xb X E [] δ ω (.nx δ ω) := PSs.sub pss_nil fun D σ H h => by
  obtain ⟨R, G, regs, e, k⟩ := h
  exact k σ H G regs (.refl _) (.refl _) e
theorem xb_cons (h1 : Xs X E st δ ω (.nx δ1 ω1)) (h2 : Xb X E rest δ1 ω1 O) : Xb X E (st :: rest) δ ω O := PSs.sub (pss_cons h1 h2) fun D σ H h => by
  obtain ⟨R, G, regs, e, k⟩ := h
  exact ⟨R, G, regs, e, fun σ' H' G' r' s p e' => ⟨R, G', r', e', k.mono s p⟩⟩
theorem xb_stop (h1 : Xs X E st δ ω O) (hO : O.ends) : Xb X E (st :: rest) δ ω O := PSs.sub (pss_cons h1 pss_never) fun D σ H h => by
  obtain ⟨R, G, regs, e, k⟩ := h
  refine ⟨R, G, regs, e, ?_⟩
  cases O with
  | nx δ ω => exact hO.elim
  | rt d => exact k
  | bk δ ω => exact k
  | ct δ ω => exact k
  | ex e => exact k
  | ra => exact k
theorem xb_less (l : LessS δ δ1) (h : Xb X E rest δ1 ω O) : Xb X E rest δ ω O := PSs.sub h fun D σ H q => by
  obtain ⟨R, G, regs, e, k⟩ := q
  exact ⟨R, G, regs, e.less l, k⟩
theorem xs_less (l : LessS δ δ1) (h : Xs X E st δ1 ω O) : Xs X E st δ ω O := PS.sub h fun D σ H q => by
  obtain ⟨R, G, regs, e, k⟩ := q
  exact ⟨R, G, regs, e.less l, k⟩
theorem xs_lessO (l : LessS δ1 δ2) (h : Xs X E st δ ω (.nx δ1 ω1)) : Xs X E st δ ω (.nx δ2 ω1) := PS.sub h fun D σ H q => by
  obtain ⟨R, G, regs, e, k⟩ := q
  exact ⟨R, G, regs, e, fun σ' H' G' r' s p e' => k σ' H' G' r' s p (e'.less l)⟩
theorem xb_lessO (l : LessS δ1 δ2) (h : Xb X E rest δ ω (.nx δ1 ω1)) : Xb X E rest δ ω (.nx δ2 ω1) := PSs.sub h fun D σ H q => by
  obtain ⟨R, G, regs, e, k⟩ := q
  exact ⟨R, G, regs, e, fun σ' H' G' r' s p e' => k σ' H' G' r' s p (e'.less l)⟩
/-- an expression at such slots: with all | with what stands still -/
theorem tX_view {R H G : Hp} {σ : L2.St} {regs : List (List Addr)} {d : Dt} {Q : VK} (e : EnvR R H G σ δ ω regs) (k : ∀ v H' G', Grow (offR R H) H G' H' → Den G' v d → Q v H') : tX (view ω δ) d σ H Q := ⟨_, offR_same, e.view, k⟩
theorem tX_still {R H G : Hp} {σ : L2.St} {regs : List (List Addr)} {d : Dt} {Q : VK} (e : EnvR R H G σ δ ω regs) (k : ∀ v H' G', Grow G H G' H' → Den G' v d → Q v H') : tX (still δ) d σ H Q := ⟨_, e.gh, e.still, k⟩
theorem tXT_view {R H G : Hp} {σ : L2.St} {regs : List (List Addr)} {b : Bool} {Q : Bool → Hp → Prop} (e : EnvR R H G σ δ ω regs) (k : ∀ H', Same H H' → Q b H') : tXT (view ω δ) b σ H Q := ⟨_, offR_same, e.view, fun H' G' g => k H' g.hh⟩
theorem xs_ret {a : Expr} {d : Dt} (ha : Xe X a (view ω δ) d) : Xs X E (.Return (some a) pos) δ ω (.rt d) := PS.sub (ps_ret ha) fun D σ H h => by
  obtain ⟨R, G, regs, e, k⟩ := h
  exact tX_view e fun v H' G' g dv => k v H' G' ((same_offR e.gh e.rg).trans g.gg) g.sub (e.rh.trans g.hh) (fun a ha => g.new a (offR_some ha) (held_of e.rh ha)) dv
theorem xs_retN : Xs X E (.Return none pos) δ ω (.rt .non) := PS.sub ps_retN fun D σ H h => by
  obtain ⟨R, G, regs, e, k⟩ := h
  exact k _ H G (.refl _) e.gh e.rh e.rg .non
theorem xs_pass : Xs X E (.Pass pos) δ ω (.nx δ ω) := PS.sub ps_pass fun D σ H h => by
  obtain ⟨R, G, regs, e, k⟩ := h
  exact k σ H G regs (.refl _) (.refl _) e
theorem xs_break : Xs X E (.Break pos) δ ω (.bk δ ω) := PS.sub ps_break fun D σ H h => by
  obtain ⟨R, G, regs, e, k⟩ := h
  exact k σ H G regs (.refl _) (.refl _) e
theorem xs_expr {a : Expr} {d : Dt} (ha : Xe X a (view ω δ) d) (hs : swapsWith a none pos.line X.env = pure false := by rfl) : Xs X E (.Expr a pos) δ ω (.nx δ ω) := PS.sub (ps_expr ha hs) fun D σ H h => by
  obtain ⟨R, G, regs, e, k⟩ := h
  exact tX_view e fun v H' G' g dv => k σ H' G regs (.refl _) (.refl _) (e.junk g.hh)
theorem xs_doc {x : Str} {j : Nat} {pos' : Pos} : Xs X E (.Expr (.Constant (.str x) j pos) pos') δ ω (.nx δ ω) := PS.sub ps_doc fun D σ H h => by
  obtain ⟨R, G, regs, e, k⟩ := h
  exact k σ H G regs (.refl _) (.refl _) e
theorem tAsg_flat {te : TE} {i : Nat} {d : Dt} (f : Flat d) (hk : ∀ σ H Q, tX (view ω δ) d σ H Q → te σ H Q) : ∀ D σ H, tXs E δ ω (.nx (δ.set i (some (.sh d))) ω) D σ H → tAsg te (gName i) D σ H := fun D σ H h => by
  obtain ⟨R, G, regs, e, k⟩ := h
  exact hk σ H _ (tX_view e fun v H' G' g dv => k _ H' G regs (.refl _) (.refl _) ((e.junk g.hh).set (fun d' h => by cases h; exact dv.flat f) trivial))
theorem tAsg_sh {te : TE} {i : Nat} {d : Dt} (hk : ∀ σ H Q, tX (still δ) d σ H Q → te σ H Q) : ∀ D σ H, tXs E δ ω (.nx (δ.set i (some (.sh d))) ω) D σ H → tAsg te (gName i) D σ H := fun D σ H h => by
  obtain ⟨R, G, regs, e, k⟩ := h
  exact hk σ H _ (tX_still e fun v H' G' g dv => k _ H' G' regs g.gg (.refl _) ((e.grow g).set (fun d' h => by cases h; exact dv) trivial))
/-- a new object of the def's own -/
def tXn (δ : Sl) (c : Cell) : TE := fun σ H Q => ∃ G, Same G H ∧ EnvD G σ δ ∧ ∀ p qs H', Same H H' → (∀ a ∈ p :: qs, H a = none) → (p :: qs).Nodup → c.real H' (p :: qs) → Q (.ref p) H'
abbrev Xn (X : Cx) (e : Expr) (δ : Sl) (c : Cell) : Prop := PE X e (tXn δ c)
theorem tAsg_new {te : TE} {i : Nat} {c : Cell} (hk : ∀ σ H Q, tXn (view ω δ) c σ H Q → te σ H Q) : ∀ D σ H, tXs E δ ω (.nx (δ.set i (some (.at_ ω.length))) (ω ++ [c])) D σ H → tAsg te (gName i) D σ H := fun D σ H h => by
  obtain ⟨R, G, regs, e, k⟩ := h
  refine hk σ H _ ⟨_, offR_same, e.view, fun p qs H' s n1 n2 r => k _ H' G (regs ++ [p :: qs]) (.refl _) ⟨_, rfl⟩ ((e.more s n1 n2 r).set (fun d' h => by cases h) ?_)⟩
  refine ⟨p, qs, ?_, rfl⟩
  rw [List.getElem?_append_right (by rw [e.rlen]; exact Nat.le_refl _), e.rlen, Nat.sub_self]
  rfl
section
variable {i : Nat} {x : Str} {a : Expr} {d : Dt} {c : Cell} {pos' : Pos}
theorem xs_flat (hN : X.N.Nodup) (ha : Xe X a (view ω δ) d) (f : Flat d := by trivial) (hi : X.N[i]? = some x := by rfl) (hx : Loc X.env.scope x := by first | exact Or.inl rfl | exact Or.inr rfl) (hs : swapsWith a (some (.Name x pos')) pos.line X.env = pure false := by rfl)
    (hf : X.fn x = true ∨ X.env.scope.names.lookup x = some .local := by first | exact .inl rfl | exact .inr rfl) : Xs X E (.Assign [.Name x pos'] a pos) δ ω (.nx (δ.set i (some (.sh d))) ω) := PS.sub (ps_set hN hi hx ha hs hf) (tAsg_flat f fun _ _ _ h => h)
theorem xs_sh (hN : X.N.Nodup) (ha : Xe X a (still δ) d) (hi : X.N[i]? = some x := by rfl) (hx : Loc X.env.scope x := by first | exact Or.inl rfl | exact Or.inr rfl) (hs : swapsWith a (some (.Name x pos')) pos.line X.env = pure false := by rfl)
    (hf : X.fn x = true ∨ X.env.scope.names.lookup x = some .local := by first | exact .inl rfl | exact .inr rfl) : Xs X E (.Assign [.Name x pos'] a pos) δ ω (.nx (δ.set i (some (.sh d))) ω) := PS.sub (ps_set hN hi hx ha hs hf) (tAsg_sh fun _ _ _ h => h)
theorem xs_new (hN : X.N.Nodup) (ha : Xn X a (view ω δ) c) (hi : X.N[i]? = some x := by rfl) (hx : Loc X.env.scope x := by first | exact Or.inl rfl | exact Or.inr rfl) (hs : swapsWith a (some (.Name x pos')) pos.line X.env = pure false := by rfl)
    (hf : X.fn x = true ∨ X.env.scope.names.lookup x = some .local := by first | exact .inl rfl | exact .inr rfl) : Xs X E (.Assign [.Name x pos'] a pos) δ ω (.nx (δ.set i (some (.at_ ω.length))) (ω ++ [c])) := PS.sub (ps_set hN hi hx ha hs hf) (tAsg_new fun _ _ _ h => h)
/-- name op= e, ints -/
theorem xs_aug {op : Operator} {f : Int → Int → Int} {n m : Int} (ho : PIp X op (ipI f)) (hN : X.N.Nodup) (ha : Xe X a (view ω δ) (.int m)) (hd : δ[i]? = some (some (.sh (.int n))) := by rfl) (hi : X.N[i]? = some x := by rfl) (hx : Loc X.env.scope x := by first | exact Or.inl rfl | exact Or.inr rfl)
    (hf : X.fn x = true ∨ X.env.scope.names.lookup x = some .local := by first | exact .inl rfl | exact .inr rfl) : Xs X E (.AugAssign (.Name x pos') op a pos) δ ω (.nx (δ.set i (some (.sh (.int (f n m))))) ω) := PS.sub (ps_aug hN hi hx ha ho hf) fun D σ H h => by
  obtain ⟨R, G, regs, e, k⟩ := h
  obtain ⟨v, e1, e2⟩ := e.sh i _ hd
  rw [e2.int_inv] at e1
  exact ⟨_, e1, tX_view e fun w H' G' g dw => ⟨n, m, rfl, dw.int_inv, k _ H' G regs (.refl _) (.refl _) ((e.junk g.hh).set (fun d' h => by cases h; exact .int _) trivial)⟩⟩
end
/-- if -/
theorem xs_if {t : Expr} {a b : List Stmt} {c : Bool} (ht : Xt X t (view ω δ) c) (ha : c = true → Xb X E a δ ω O) (hb : c = false → Xb X E b δ ω O) : Xs X E (.If t a b pos) δ ω O := PS.sub (ps_if ht PSs.any PSs.any) fun D σ H h => by
  obtain ⟨R, G, regs, e, k⟩ := h
  refine tXT_view e fun H' s => ?_
  cases c with
  | true => exact ⟨_, ha rfl, R, G, regs, e.junk s, k⟩
  | false => exact ⟨_, hb rfl, R, G, regs, e.junk s, k⟩
/-- a, b = e -/
theorem xs_two {tg a : Expr} {i j : Nat} {d1 d2 : Dt} (ha : Xe X a (still δ) (.tup [d1, d2])) (hg : Xg X tg (.two i j)) (hs : swapsWithSole [tg] a pos.line X.env = pure false := by rfl) (hw : swappedStores [tg] a X.env = pure none := by rfl)
    (h1 : (assignEach [tg] X.env).map (·.2) = [assign tg X.env] := by rfl) : Xs X E (.Assign [tg] a pos) δ ω (.nx ((δ.set i (some (.sh d1))).set j (some (.sh d2))) ω) := PS.sub (ps_asg ha hg hs hw h1) fun D σ H h => by
  obtain ⟨R, G, regs, e, k⟩ := h
  refine tX_still e fun v H' G' g dv => ?_
  obtain ⟨q, vs, rfl, r, dl⟩ := dv.tup_inv
  obtain ⟨w1, ws, rfl, e1, e2⟩ := dl.cons_inv
  obtain ⟨w2, ws2, rfl, e3, e4⟩ := e2.cons_inv
  have en := e4.nil_inv
  subst en
  refine ⟨q, [w1, w2], rfl, .inl (.inl (g.sub _ _ r)), rfl, w1, [w2], rfl, w2, [], rfl, rfl, ?_⟩
  exact k _ H' G' regs g.gg (.refl _) (EnvR.set (x := .sh d2) (EnvR.set (x := .sh d1) (e.grow g) (fun d' h => by cases h; exact e1) trivial) (fun d' h => by cases h; exact e3) trivial)

/-- an expression that is such an object -/
def tXr (δ : Ss) (ω : Om) (x : S) : TE := fun σ H Q => ∃ R G regs, EnvR R H G σ δ ω regs ∧ ∀ v H', Same H H' → SlotAt regs x v → Q v H'
abbrev Xr (X : Cx) (e : Expr) (δ : Ss) (ω : Om) (x : S) : Prop := PE X e (tXr δ ω x)
theorem xr_var (i : Nat) {x : Str} {y : S} (hd : δ[i]? = some (some y) := by rfl) (hN : X.N[i]? = some x := by rfl)
    (hv : Vis X.env.scope x := by first | exact Or.inl rfl | exact Or.inr (Or.inl rfl) | exact Or.inr (Or.inr rfl)) (h1 : (x == ("__debug__" : Str)) = false := by decide) (h2 : (x == ("__classdict__" : Str)) = false := by decide) : Xr X (.Name x pos) δ ω y :=
  PE.sub (pe_var hN hv h1 h2) fun σ H Q h => by
    obtain ⟨R, G, regs, e, k⟩ := h
    obtain ⟨v, a, b⟩ := e.ow i y hd
    exact ⟨v, a, k v H (.refl _) b⟩
/-- rows[j] -/
theorem xr_row {a b : Expr} {n j : Nat} {rs : List (List Int)} (ha : Xr X a δ ω (.at_ n)) (hw : ω[n]? = some (.rows rs)) (hb : Xe X b (view ω δ) (.int j)) (hj : j < rs.length) (hs : PlainIx b := by intro _ _; rfl) : Xr X (.Subscript a b pos) δ ω (.row n j) :=
  PE.sub (pe_ix ix_list ha hb hs) fun σ H Q h => by
    obtain ⟨R, G, regs, e, k⟩ := h
    refine ⟨R, G, regs, e, fun v H1 s1 sl => ?_⟩
    have e1 := e.junk s1
    refine tX_view e1 fun w H2 G2 g2 dw => ?_
    obtain ⟨q0, qs, h1, rfl⟩ := sl
    have e2 := e1.junk g2.hh
    obtain ⟨p', qs', ep, r1, r2, r3⟩ := e2.real n _ _ hw h1
    cases ep
    have hq : j < qs.length := by rw [r2]; exact hj
    refine ⟨q0, qs.map V.ref, j, .ref qs[j], rfl, dw.int_inv, .inl (.inl r1), atI_nat (by rw [List.getElem?_map, List.getElem?_eq_getElem hq]; rfl), ?_⟩
    exact k _ H2 (s1.trans g2.hh) ⟨q0, qs, qs[j], h1, List.getElem?_eq_getElem hq, rfl⟩
/-- what such an object holds -/
def S.get (ω : Om) : S → Option (List Int)
  | .at_ n => match ω[n]? with
    | some (.nums ns) => some ns
    | _ => none
  | .row n j => match ω[n]? with
    | some (.rows rs) => rs[j]?
    | _ => none
  | .sh _ => none
def S.put (ω : Om) (ms : List Int) : S → Om
  | .at_ n => ω.set n (.nums ms)
  | .row n j => match ω[n]? with
    | some (.rows rs) => ω.set n (.rows (rs.set j ms))
    | _ => ω
  | .sh _ => ω
theorem nd_two {α : Type} {l : List α} (h : l.Nodup) {i j : Nat} {x : α} (a : l[i]? = some x) (b : l[j]? = some x) : i = j := nd_ix h a b
theorem EnvR.nums {R H G : Hp} {σ : L2.St} {regs : List (List Addr)} (e : EnvR R H G σ δ ω regs) {x : S} {v : V} {ns : List Int} (hx : SlotAt regs x v) (hg : x.get ω = some ns) :
    ∃ q, v = .ref q ∧ H q = some (.lst (ns.map V.int)) ∧ R q = none ∧ ∀ ms : List Int, EnvR R (upd H q (.lst (ms.map V.int))) G σ δ (x.put ω ms) regs := by
  cases x with
  | sh d => cases hg
  | at_ n =>
    obtain ⟨q, qs, h1, rfl⟩ := hx
    have hg : (match ω[n]? with
      | some (.nums ns) => some ns
      | _ => none) = some ns := hg
    cases hw : ω[n]? with
    | none =>
      rw [hw] at hg
      cases hg
    | some c =>
      rw [hw] at hg
      cases c with
      | rows rs => cases hg
      | nums ns' =>
        cases hg
        obtain ⟨p', ep, r1⟩ := e.real n _ _ hw h1
        cases ep
        refine ⟨q, rfl, r1, (e.out q (e.mem h1 List.mem_cons_self)).1, fun ms => ?_⟩
        exact e.put (c' := .nums ms) h1 List.mem_cons_self hw ⟨q, rfl, upd_same⟩
  | row n j =>
    obtain ⟨q0, qs, q, h1, h2, rfl⟩ := hx
    have hg : (match ω[n]? with
      | some (.rows rs) => rs[j]?
      | _ => none) = some ns := hg
    cases hw : ω[n]? with
    | none =>
      rw [hw] at hg
      cases hg
    | some c =>
      rw [hw] at hg
      cases c with
      | nums ns' => cases hg
      | rows rs =>
        have hg : rs[j]? = some ns := hg
        obtain ⟨p', qs', ep, r1, r2, r3⟩ := e.real n _ _ hw h1
        cases ep
        have hm : q ∈ q0 :: qs := List.mem_cons_of_mem _ (List.mem_of_getElem? h2)
        have nd : (q0 :: qs).Nodup := (List.pairwise_flatten.mp e.nd).1 _ (List.mem_of_getElem? h1)
        have ne0 : q0 ≠ q := fun z => (List.nodup_cons.mp nd).1 (by rw [z]; exact List.mem_of_getElem? h2)
        refine ⟨q, rfl, r3 j q ns h2 hg, (e.out q (e.mem h1 hm)).1, fun ms => ?_⟩
        have ep : S.put ω ms (.row n j) = ω.set n (.rows (rs.set j ms)) := by
          show (match ω[n]? with
            | some (.rows rs) => ω.set n (.rows (rs.set j ms))
            | _ => ω) = _
          rw [hw]
        rw [ep]
        refine e.put (c' := .rows (rs.set j ms)) h1 hm hw ⟨q0, qs, rfl, ?_, by rw [List.length_set]; exact r2, fun i u ks k1 k2 => ?_⟩
        · rw [upd_ne ne0]
          exact r1
        · by_cases hij : j = i
          · subst hij
            rw [h2] at k1
            cases k1
            rw [List.getElem?_set_self (List.getElem?_eq_some_iff.mp hg).1] at k2
            cases k2
            exact upd_same
          · rw [List.getElem?_set_ne hij] at k2
            have neq : u ≠ q := fun z => by
              rw [z] at k1
              exact hij (nd_ix (List.nodup_cons.mp nd).2 h2 k1)
            rw [upd_ne neq]
            exact r3 i u ks k1 k2
/-- x.append(e) -/
theorem xs_append {o a : Expr} {y : S} {ns : List Int} {v : Int} {apos cpos : Pos} (ho : Xr X o δ ω y) (hy : y.get ω = some ns) (ha : Xe X a (view ω δ) (.int v)) (hz : ns.length ≤ 100000) (hbase : attributeBase o "append" X.env (eval o X.env) = eval o X.env := by rfl)
    (hfew : ((backTo cpos (starEach [a] X.env)).all (fun x => !x.1) && (backToKw cpos (keywordEach [] X.env)).all (fun x => x.1.isSome) && decide ([a].length + ([] : List Keyword).length + (if ([] : List Keyword).isEmpty then 0 else 1) < 30)) = true := by rfl)
    (hline : (apos.endLine == cpos.line) = true := by rfl) (hs : starEach (a :: []) X.env = (false, eval a X.env) :: starEach [] X.env := by rfl) (hplain : (backTo cpos (starEach [] X.env)).any (·.1) = false := by rfl)
    (hsw : swapsWith (.Call (.Attribute o "append" apos) [a] [] cpos) none pos.line X.env = pure false := by rfl) : Xs X E (.Expr (.Call (.Attribute o "append" apos) [a] [] cpos) pos) δ ω (.nx δ (y.put ω (ns ++ [v]))) :=
  PS.sub (ps_expr (pe_bm PySem.F.plainAttrs_list PySem.F.slot_list_append PySem.F.type_list_append mt_append ho (xa_cons ha xa_nil hs) hbase hfew hline hs hplain) hsw) fun D σ H h => by
    obtain ⟨R, G, regs, e, k⟩ := h
    refine ⟨R, G, regs, e, fun v1 H1 s1 sl => ?_⟩
    have e1 := e.junk s1
    obtain ⟨q, rfl, hq, hR, _⟩ := e1.nums sl hy
    refine ⟨.inl ⟨rfl, _, .inl (.inl hq)⟩, ?_⟩
    refine ⟨_, offR_same, e1.view, fun vs H2 G2 g2 dl => ?_⟩
    have e2 := e1.junk g2.hh
    obtain ⟨q', eq', hq', _, up⟩ := e2.nums sl hy
    cases eq'
    have ev := dl.ints_inv (ns := [v])
    subst ev
    refine ⟨q, ns.map V.int, .int v, rfl, rfl, hq', by rw [List.length_map]; exact Nat.lt_of_le_of_lt hz (by rw [sizeLine_eq]; omega), ?_⟩
    have u := up (ns ++ [v])
    rw [List.map_append] at u
    exact k σ _ G regs (.refl _) (.refl _) u
theorem ixN_nat {n : Nat} {k : Int} (h0 : 0 ≤ k) (h1 : k < n) : ixN n k = some k.toNat := by
  unfold ixN
  rw [if_pos h0, if_pos h1]
/-- x[i] = e -/
theorem xs_setix {o i a : Expr} {y : S} {ns : List Int} {v j : Int} {tpos : Pos} (ho : Xr X o δ ω y) (hy : y.get ω = some ns) (hi : Xe X i (view ω δ) (.int j)) (h0 : 0 ≤ j) (h1 : j < ns.length) (ha : Xe X a (view ω δ) (.int v))
    (hs : swapsWithSole [.Subscript o i tpos] a pos.line X.env = pure false := by rfl) (hw : swappedStores [.Subscript o i tpos] a X.env = pure none := by rfl) (h2 : (assignEach [.Subscript o i tpos] X.env).map (·.2) = [assign (.Subscript o i tpos) X.env] := by rfl)
    (hst : ∀ v, assign (.Subscript o i tpos) X.env v = (do
      let ov ← holding [v] (eval o X.env)
      let iv ← holding [v, ov] (eval i X.env)
      standAt tpos
      holding [v, ov, iv] (setItem ov iv v)
      release [v, ov, iv] []) := by intro _; rfl) : Xs X E (.Assign [.Subscript o i tpos] a pos) δ ω (.nx δ (y.put ω (ns.set j.toNat v))) := PS.sub (ps_asg ha (pg_sub ho hi set_list hst) hs hw h2) fun D σ H h => by
  obtain ⟨R, G, regs, e, k⟩ := h
  refine tX_view e fun v1 H1 G1 g1 d1 => ?_
  have e1 := e.junk g1.hh
  refine ⟨R, G, regs, e1, fun v2 H2 s2 sl => ?_⟩
  have e2 := e1.junk s2
  refine tX_view e2 fun v3 H3 G3 g3 d3 => ?_
  have e3 := e2.junk g3.hh
  obtain ⟨q, rfl, hq, _, up⟩ := e3.nums sl hy
  rw [d1.int_inv, d3.int_inv]
  refine ⟨q, ns.map V.int, j, j.toNat, rfl, rfl, hq, ixN_nat h0 (by rw [List.length_map]; exact h1), ?_⟩
  have u := up (ns.set j.toNat v)
  rw [List.map_set] at u
  exact k σ _ G regs (.refl _) (.refl _) u
/-- x[i] op= e -/
def rGetN (K : PySem.W.Frag) : V → V → Hp → VK → Prop := fun o i H Q => ∃ p xs k v, o = .ref p ∧ i = .int k ∧ SqL K H p xs ∧ 0 ≤ k ∧ k < 2 ^ 63 ∧ xs[k.toNat]? = some v ∧ Q v H
theorem get_listN : PGet X (rGetN X.K) := by
  intro pins s σ H o i ov iv Q I ro ri h
  obtain ⟨p, xs, k, v, rfl, rfl, hq, h0, h1, hx, q⟩ := h
  cases ro
  obtain ⟨t, rfl⟩ := ri
  obtain ⟨its, r, pl, hz⟩ := I.list hq
  obtain ⟨w, ew, rw'⟩ := r.get hx
  exact wpAny_getItem_list pl.isList h0 h1 (by simpa using ew) ⟨v, H, I, rw', q⟩
theorem xs_augix {o i a : Expr} {y : S} {ns : List Int} {v j : Int} {op : Operator} {f : Int → Int → Int} {tpos : Pos} (hop : PIp X op (ipI f)) (ho : Xr X o δ ω y) (hy : y.get ω = some ns) (hi : Xe X i (view ω δ) (.int j)) (h0 : 0 ≤ j) (h1 : j < ns.length) (h2 : ns.length ≤ 100000) (ha : Xe X a (view ω δ) (.int v))
    (hst : ∀ ov iv new, augStore i ov iv new = (do holding [new, ov, iv] (setItem ov iv new); release [new, ov, iv] []; pure .next) := by intros; rfl) : Xs X E (.AugAssign (.Subscript o i tpos) op a pos) δ ω (.nx δ (y.put ω (ns.set j.toNat (f (ns.getD j.toNat 0) v)))) :=
  PS.sub (ps_augS ho hi get_listN ha hop set_list hst) fun D σ H h => by
    obtain ⟨R, G, regs, e, k⟩ := h
    refine ⟨R, G, regs, e, fun v1 H1 s1 sl => ?_⟩
    have e1 := e.junk s1
    refine tX_view e1 fun v2 H2 G2 g2 d2 => ?_
    have e2 := e1.junk g2.hh
    obtain ⟨q, rfl, hq, _, _⟩ := e2.nums sl hy
    rw [d2.int_inv]
    have hj : j.toNat < ns.length := by omega
    refine ⟨q, ns.map V.int, j, .int (ns.getD j.toNat 0), rfl, rfl, .inl (.inl hq), h0, by omega, ?_, ?_⟩
    · rw [List.getElem?_map, List.getD_eq_getElem?_getD, List.getElem?_eq_getElem hj]
      rfl
    · refine tX_view e2 fun v4 H4 G4 g4 d4 => ?_
      have e4 := e2.junk g4.hh
      obtain ⟨q', eq', hq', _, up⟩ := e4.nums sl hy
      cases eq'
      rw [d4.int_inv]
      refine ⟨_, v, rfl, rfl, ?_⟩
      refine ⟨q, ns.map V.int, j, j.toNat, rfl, rfl, hq', ixN_nat h0 (by rw [List.length_map]; exact h1), ?_⟩
      have u := up (ns.set j.toNat (f (ns.getD j.toNat 0) v))
      rw [List.map_set] at u
      exact k σ _ G regs (.refl _) (.refl _) u
end
end Pa
namespace Pa
open PySem PySem.Spec PyProof.Rows L2
def Tg.putS : Tg → Dt → Ss → Option Ss
  | .one i, d, δ => some (δ.set i (some (.sh d)))
  | .two i j, .tup [a, b], δ => some ((δ.set i (some (.sh a))).set j (some (.sh b)))
  | .two _ _, _, _ => none
theorem gT_runS {K : PySem.W.Frag} {t : Tg} {R H G : Hp} {σ : L2.St} {δ δ' : Ss} {ω : Om} {regs : List (List Addr)} {v : V} {d : Dt} {Q : L2.St → Hp → Prop} (e : EnvR R H G σ δ ω regs) (hd : Den G v d) (hp : t.putS d δ = some δ')
    (hq : ∀ σ', EnvR R H G σ' δ' ω regs → Q σ' H) : gT K t v σ H Q := by
  cases t with
  | one i =>
    cases hp
    exact hq _ (e.set (fun d' h => by cases h; exact hd) trivial)
  | two i j =>
    cases hd with
    | tup h hl hd =>
      rename_i a us ds
      have dl : DenL G us ds := ⟨hl, hd⟩
      match ds, dl, hp with
      | [d1, d2], dl, hp =>
        cases hp
        obtain ⟨w1, ws, rfl, e1, e2⟩ := dl.cons_inv
        obtain ⟨w2, ws2, rfl, e3, e4⟩ := e2.cons_inv
        have en := e4.nil_inv
        subst en
        refine ⟨a, [w1, w2], rfl, .inl (.inl (e.gh _ _ h)), rfl, w1, [w2], rfl, w2, [], rfl, rfl, ?_⟩
        exact hq _ (EnvR.set (x := .sh d2) (EnvR.set (x := .sh d1) e (fun d' h => by cases h; exact e1) trivial) (fun d' h => by cases h; exact e3) trivial)
    | non => cases hp
    | bl _ => cases hp
    | int _ => cases hp
    | str _ => cases hp
    | lst _ _ _ => cases hp
    | dic _ _ _ => cases hp
    | scr _ => cases hp
inductive LoopS (X : Cx) (E : XK) (t : Tg) (body : List Stmt) : List Dt → Ss → Om → Out → Prop
  | nil {δ : Ss} {ω : Om} : LoopS X E t body [] δ ω (.nx δ ω)
  | next {d : Dt} {ds : List Dt} {δ δ1 δ2 δ3 : Ss} {ω ω2 : Om} {O : Out} (hp : t.putS d δ = some δ1) (hb : Xb X E body δ1 ω (.nx δ2 ω2)) (hl : LessS δ2 δ3) (r : LoopS X E t body ds δ3 ω2 O) : LoopS X E t body (d :: ds) δ ω O
  | cont {d : Dt} {ds : List Dt} {δ δ1 δ2 δ3 : Ss} {ω ω2 : Om} {O : Out} (hp : t.putS d δ = some δ1) (hb : Xb X E body δ1 ω (.ct δ2 ω2)) (hl : LessS δ2 δ3) (r : LoopS X E t body ds δ3 ω2 O) : LoopS X E t body (d :: ds) δ ω O
  | brk {d : Dt} {ds : List Dt} {δ δ1 δ2 : Ss} {ω ω2 : Om} (hp : t.putS d δ = some δ1) (hb : Xb X E body δ1 ω (.bk δ2 ω2)) : LoopS X E t body (d :: ds) δ ω (.nx δ2 ω2)
  | ret {d : Dt} {ds : List Dt} {δ δ1 : Ss} {ω : Om} {r : Dt} (hp : t.putS d δ = some δ1) (hb : Xb X E body δ1 ω (.rt r)) : LoopS X E t body (d :: ds) δ ω (.rt r)
section
variable {X : Cx} {E : XK} {δ δ1 δ2 : Ss} {ω ω1 ω2 : Om} {O : Out} {pos p : Pos}
theorem xs_for {tg iter : Expr} {body : List Stmt} {ds : List Dt} (t : Tg) (hp : PassesOwn (model X.prog X.w) X.A X.env X.xe) (hi : Xi X tg iter (still δ) ds) (hg : Xg X tg t) (l : LoopS X E t body ds δ ω O) (hc : X.calm = true := by rfl)
    (hs : ∀ x, foldedSetIterable iter X.env x = pure x := by intro _; rfl) : Xs X E (.For tg iter body [] pos) δ ω O := PS.sub (ps_for hp hc hi hg PSs.any hs) fun D σ H h => by
  obtain ⟨R, G, regs, e, k⟩ := h
  refine ⟨G, e.gh, e.still, fun J H1 G1 g1 w => ?_⟩
  refine for_it (D := D) (g := gT X.K t) (tb := fun D σ H => ∃ t, PSs X body t ∧ t D σ H) w (fun i σ' H' => ∃ G2 regs2 δi ωi, Same G1 G2 ∧ Pre regs regs2 ∧ EnvR R H' G2 σ' δi ωi regs2 ∧ LoopS X E t body (ds.drop i) δi ωi O) ⟨G1, regs, δ, ω, .refl _, .refl _, e.grow g1, l⟩ ?_ ?_ ?_
  · rintro i σ' H' _ ⟨G2, regs2, δi, ωi, s, _, e2, _⟩
    exact s.trans e2.gh
  · rintro i x σ' H' H2 hi ⟨G2, regs2, δi, ωi, s, pr, e2, li⟩ hy
    obtain ⟨G3, d, ed, gr, dx⟩ := hy G2 s e2.gh
    have e3 := e2.grow gr
    have edrop : ds.drop i = d :: ds.drop (i + 1) := by
      have hi' : i < ds.length := hi
      rw [List.drop_eq_getElem_cons hi']
      rw [List.getElem?_eq_getElem hi'] at ed
      rw [Option.some.inj ed]
    rw [edrop] at li
    have sG : Same G G3 := g1.gg.trans (s.trans gr.gg)
    cases li with
    | next hp hb hl r =>
      exact gT_runS e3 dx hp fun σ3 e4 => ⟨_, hb, R, G3, regs2, e4, fun σ4 H4 G4 r4 s4 p4 e5 => ⟨G4, r4, _, _, (s.trans gr.gg).trans s4, pr.trans p4, e5.less hl, r⟩⟩
    | cont hp hb hl r =>
      exact gT_runS e3 dx hp fun σ3 e4 => ⟨_, hb, R, G3, regs2, e4, fun σ4 H4 G4 r4 s4 p4 e5 => ⟨G4, r4, _, _, (s.trans gr.gg).trans s4, pr.trans p4, e5.less hl, r⟩⟩
    | brk hp hb =>
      exact gT_runS e3 dx hp fun σ3 e4 => ⟨_, hb, R, G3, regs2, e4, fun σ4 H4 G4 r4 s4 p4 e5 => k σ4 H4 G4 r4 (sG.trans s4) (pr.trans p4) e5⟩
    | ret hp hb =>
      exact gT_runS e3 dx hp fun σ3 e4 => ⟨_, hb, R, G3, regs2, e4, fun v H4 G4 s4 => k v H4 G4 (sG.trans s4)⟩
  · rintro σ' H' ⟨G2, regs2, δi, ωi, s, pr, e2, li⟩
    rw [List.drop_length] at li
    cases li
    exact k σ' H' G2 regs2 (g1.gg.trans s) pr e2
/-- for a, r in enumerate(rows): rows of the def's own, changed within -/
theorem xs_forRows {a r : Expr} {it : Expr} {kk : Nat} {tpos : Pos} {body : List Stmt} {n ia ir m : Nat} {δs : Nat → Ss} {ωs : Nat → Om} (hp : PassesOwn (model X.prog X.w) X.A X.env X.xe) (hm : X.mg "enumerate" = none) (ho : Xr X it δ ω (.at_ n)) (hg : Xg X (.Tuple [a, r] kk tpos) (.two ia ir))
    (h0 : LessS δ (δs 0)) (hw : ω = ωs 0) (hr : ∀ j ≤ m, ∃ rs, (ωs j)[n]? = some (.rows rs) ∧ rs.length = m) (hb : ∀ j < m, ∃ δ', Xb X E body (((δs j).set ia (some (.sh (.int (j : Nat))))).set ir (some (.row n j))) (ωs j) (.nx δ' (ωs (j + 1))) ∧ LessS δ' (δs (j + 1)))
    (hc : X.calm = true := by rfl) (hgl : Gl X "enumerate" := by rfl) (hs1 : starEach [it] X.env = [(false, eval it X.env)] := by rfl) (hs : ∀ x, foldedSetIterable (.Call (.Name "enumerate" p) [it] [] pos) X.env x = pure x := by intro _; rfl) {pos2 : Pos} :
    Xs X E (.For (.Tuple [a, r] kk tpos) (.Call (.Name "enumerate" p) [it] [] pos) body [] pos2) δ ω (.nx (δs m) (ωs m)) := PS.sub (ps_for hp hc (pi_enum hgl hm (pa_cons ho pa_nil hs1) hs1) hg PSs.any hs) fun D σ H h => by
  obtain ⟨R, G, regs, e, k⟩ := h
  refine ⟨R, G, regs, e, fun v H1 s1 sl => ?_⟩
  obtain ⟨q, qs, hreg, rfl⟩ := sl
  subst hw
  have e1 := e.junk s1
  have main : ∀ {j : Nat} {H' : Hp} {G' : Hp} {σ' : L2.St} {regs' : List (List Addr)}, j ≤ m → Pre regs regs' → EnvR R H' G' σ' (δs j) (ωs j) regs' → H' q = some (.lst (qs.map V.ref)) ∧ qs.length = m := fun {j H' G' σ' regs'} hj pr e' => by
    obtain ⟨rs, h1, h2⟩ := hr j hj
    obtain ⟨p', qs', ep, r1, r2, r3⟩ := e'.real n _ _ h1 (pr.get hreg)
    cases ep
    exact ⟨r1, r2.trans h2⟩
  have e1' := e1.less h0
  obtain ⟨hq0, hlen⟩ := main (Nat.zero_le m) (.refl _) e1'
  refine ⟨q, qs.map V.ref, rfl, .inl (.inl hq0), ?_⟩
  have w := walk_enum (K := X.K) (a := q) (xs := qs.map V.ref)
  refine for_it (D := D) (g := gT X.K (.two ia ir)) (tb := fun D σ H => ∃ t, PSs X body t ∧ t D σ H) w (fun i σ' H' => ∃ G2 regs2, Same G G2 ∧ Pre regs regs2 ∧ EnvR R H' G2 σ' (δs i) (ωs i) regs2) ⟨G, regs, .refl _, .refl _, e1'⟩ ?_ ?_ ?_
  · rintro i σ' H' hi ⟨G2, regs2, s, pr, e2⟩
    rw [List.length_map, hlen] at hi
    exact .inl (.inl (main hi pr e2).1)
  · rintro i x σ' H' H2 hi ⟨G2, regs2, s, pr, e2⟩ hy
    rw [List.length_map, hlen] at hi
    obtain ⟨T, x1, x2, rfl, hT, rfl, ex, ey⟩ := hy
    have e3 := e2.junk (same_new (o := .tup [x1, x2]) hT)
    cases ex
    have hqi : i < qs.length := by rw [hlen]; exact hi
    have ey : (qs.map V.ref)[i]? = some x2 := ey
    rw [List.getElem?_map, List.getElem?_eq_getElem hqi] at ey
    cases ey
    obtain ⟨δ', hb1, hl⟩ := hb i hi
    refine ⟨T, [.int (i : Nat), .ref qs[i]], rfl, .inl (.inl upd_same), rfl, .int (i : Nat), [.ref qs[i]], rfl, .ref qs[i], [], rfl, rfl, ?_⟩
    refine ⟨_, hb1, R, G2, regs2, EnvR.set (x := .row n i) (EnvR.set (x := .sh (.int (i : Nat))) e3 (fun d' h => by cases h; exact .int _) trivial) (fun d' h => by cases h) ⟨q, qs, qs[i], pr.get hreg, List.getElem?_eq_getElem hqi, rfl⟩, ?_⟩
    exact fun σ4 H4 G4 r4 s4 p4 e5 => ⟨G4, r4, s.trans s4, pr.trans p4, e5.less hl⟩
  · rintro σ' H' ⟨G2, regs2, s, pr, e2⟩
    rw [List.length_map, hlen] at e2
    exact k σ' H' G2 regs2 s pr e2
/-- while -/
inductive WhileS (X : Cx) (E : XK) (t : Expr) (body : List Stmt) : Nat → Ss → Om → Out → Prop
  | done {n : Nat} {δ : Ss} {ω : Om} (ht : Xt X t (view ω δ) false) : WhileS X E t body n δ ω (.nx δ ω)
  | step {n : Nat} {δ δ2 δ3 : Ss} {ω ω2 : Om} {O : Out} (ht : Xt X t (view ω δ) true) (hb : Xb X E body δ ω (.nx δ2 ω2)) (hl : LessS δ2 δ3) (r : WhileS X E t body n δ3 ω2 O) : WhileS X E t body (n + 1) δ ω O
theorem tAnyT {t : Expr} : PT X t (fun σ H Q => ∃ tt, PT X t tt ∧ tt σ H Q) := PT.any
theorem xs_while {t : Expr} {body : List Stmt} {n : Nat} (hp : PassesOwn (model X.prog X.w) X.A X.env X.xe) (l : WhileS X E t body n δ ω O) : Xs X E (.While t body [] pos) δ ω O := PS.sub (ps_while hp PT.any PSs.any) fun D σ H h => by
  obtain ⟨R, G, regs, e, k⟩ := h
  refine ⟨fun m σ' H' => ∃ G2 regs2 δi ωi, Same G G2 ∧ Pre regs regs2 ∧ EnvR R H' G2 σ' δi ωi regs2 ∧ WhileS X E t body m δi ωi O, ⟨n, G, regs, δ, ω, .refl _, .refl _, e, l⟩, ?_⟩
  rintro m σ' H' ⟨G2, regs2, δi, ωi, s, pr, e2, li⟩
  cases li with
  | done ht =>
    refine ⟨_, ht, tXT_view e2 fun H3 s3 => ?_⟩
    refine iteF ?_
    exact k σ' H3 G2 regs2 s pr (e2.junk s3)
  | step ht hb hl r =>
    rename_i m' δ2 δ3 ω2'
    refine ⟨_, ht, tXT_view e2 fun H3 s3 => ?_⟩
    refine iteT ?_
    refine ⟨fun σ4 H4 => ∃ G4 regs4, Same G G4 ∧ Pre regs regs4 ∧ EnvR R H4 G4 σ4 δ3 ω2' regs4, ?_, _, hb, R, G2, regs2, e2.junk s3, fun σ4 H4 G4 r4 s4 p4 e5 => ⟨G4, r4, s.trans s4, pr.trans p4, e5.less hl⟩⟩
    rintro σ4 H4 ⟨G4, r4, s4, p4, e5⟩
    exact ⟨m', Nat.lt_succ_self m', G4, r4, δ3, ω2', s4, p4, e5, r⟩

theorem PE.subX {e : Expr} {t t' : TE} (h : PE X e t) (k : ∀ σ H Q, t' σ H Q → t σ H Q) : PE X e t' := PE.sub h k
theorem xn_lst {es : List Expr} {ns : List Int} {δ : Sl} (h : Xa X es δ (ns.map Dt.int)) (hz : ns.length ≤ 1000 := by exact Nat.le_of_ble_eq_true rfl) : Xn X (.List es pos) δ (.nums ns) := PE.sub (pe_lst h) fun σ H Q w => by
  obtain ⟨G, s, e, k⟩ := w
  refine ⟨G, s, e, fun vs H1 G1 g1 d1 => ?_⟩
  have ev := d1.ints_inv
  subst ev
  refine ⟨by rw [List.length_map]; exact Nat.le_of_lt (small1000 hz), fun q hq => k q [] _ (g1.hh.trans (same_new hq)) ?_ (by simp) ⟨q, rfl, upd_same⟩⟩
  intro a ha
  rw [List.mem_singleton.mp ha]
  exact same_none g1.hh hq
theorem xn_list {a : Expr} {ns : List Int} {δ : Sl} (hm : X.mg "list" = none) (ha : Xe X a δ (dI ns)) (hg : Gl X "list" := by rfl) (he : starEach (a :: []) X.env = (false, eval a X.env) :: starEach [] X.env := by rfl) (hpl : (backTo pos (starEach [] X.env)).any (·.1) = false := by rfl) :
    Xn X (.Call (.Name "list" p) [a] [] pos) δ (.nums ns) := PE.sub (pe_callTy call_list_of hg hm (by decide +kernel) (xa_cons ha xa_nil he) (by decide) (by decide) he hpl) fun σ H Q w => by
  obtain ⟨G, s, e, k⟩ := w
  refine ⟨G, s, e, fun vs H1 G1 g1 d1 => ?_⟩
  obtain ⟨v, ws, rfl, d2, d3⟩ := d1.cons_inv
  have ew := d3.nil_inv
  subst ew
  obtain ⟨l, rfl, r⟩ := dI_inv d2
  refine ⟨l, ns.map V.int, rfl, .inl (.inl (.inl (g1.sub _ _ r))), fun q hq => k q [] _ (g1.hh.trans (same_new hq)) ?_ (by simp) ⟨q, rfl, upd_same⟩⟩
  intro a ha
  rw [List.mem_singleton.mp ha]
  exact same_none g1.hh hq
/-- a comprehension's reading -/
theorem lc_sub {elt : Expr} {ifs : List Expr} {scope : Scope} {own : List Nat} {t : Tg} {ds es : List Dt} {δ : Sl} (hw : t.within own) (hz : ds.length ≤ 100000) (c : CompD X scope t ifs elt (wipeD δ own) ds es) :
    ∀ σ H Q, tX δ (.lst es) σ H Q → tLc (tXi δ ds) (gT X.K t) (tAllT X scope ifs) (tAllE X scope elt) own σ H Q := fun σ H Q h => by
  obtain ⟨G, s, e, k⟩ := h
  refine ⟨G, s, e, fun J H1 G1 g1 w D hD => ?_⟩
  exact tLc_of hw hz g1.sub (e.mono g1.gg) w c D hD fun H' G' vs g d dl => k _ H' G' (g1.trans g) (.lst d dl.1 dl.2)
theorem lc_subN {elt : Expr} {ifs : List Expr} {scope : Scope} {own : List Nat} {t : Tg} {ds : List Dt} {ns : List Int} {δ : Sl} (hw : t.within own) (hz : ds.length ≤ 100000) (c : CompD X scope t ifs elt (wipeD δ own) ds (ns.map Dt.int)) :
    ∀ σ H Q, tXn δ (.nums ns) σ H Q → tLc (tXi δ ds) (gT X.K t) (tAllT X scope ifs) (tAllE X scope elt) own σ H Q := fun σ H Q h => by
  obtain ⟨G, s, e, k⟩ := h
  refine ⟨G, s, e, fun J H1 G1 g1 w D hD => ?_⟩
  refine tLc_of hw hz g1.sub (e.mono g1.gg) w c D hD fun H' G' vs g d dl => ?_
  have ev := dl.ints_inv
  subst ev
  refine k D [] H' (g1.hh.trans g.hh) ?_ (by simp) ⟨D, rfl, g.sub _ _ d⟩
  intro a ha
  rw [List.mem_singleton.mp ha]
  exact same_none g1.hh hD
section
variable {elt tg iter : Expr} {ifs : List Expr} {scope : Scope} {i : Nat} {y : Str} {py spos : Pos}
/-- name = [..] where the name's own line says so (the name a local, none of the comprehension's) -/
theorem ps_lc (own : List (Str × Nat)) (t : Tg) {ds : List Dt} {δ : Sl} (hN : X.N.Nodup) (hi : Xi X tg iter δ ds) (hg : ∀ (s : Shared) (H : Hp) (C : Addr) (cl : List (Str × Addr)) (fp : List Addr), Xg (X.blk s H scope (compEnvC scope cl C X.env) fp) tg t)
    (ok : blkC X.N X.env.scope scope own = true := by rfl) (hc : X.calm = true := by rfl) (hs : ∀ x, foldedSetIterable iter X.env x = pure x := by intro _; rfl) (hy : X.N[i]? = some y := by rfl) (hyl : X.env.scope.names.lookup y = some .local := by rfl)
    (hk : X.env.scope.kind = .function := by rfl) (hl : (py.line == pos.line) = true := by rfl) (ha : (scope.names.any fun (n, k) => n == y && (k == .local || k == .cell)) = false := by rfl) :
    PS X (.Assign [.Name y py] (.ListComp elt [⟨tg, iter, ifs, 0⟩] scope pos) spos) (tAsg (tLc (tXi δ ds) (gT X.K t) (tAllT X scope ifs) (tAllE X scope elt) (own.map (·.2))) (gName i)) :=
  ps_setLc hc hN hy hyl (sw_true hk hyl hl ha) hi (blkOk_by ok) hg (fun _ _ _ _ _ => PTs.anyB) (fun _ _ _ _ _ => PE.anyB) hs
theorem xs_lc (own : List (Str × Nat)) (t : Tg) {ds es : List Dt} (hN : X.N.Nodup) (hi : Xi X tg iter (still δ) ds) (c : CompD X scope t ifs elt (wipeD (still δ) (own.map (·.2))) ds es) (hz : ds.length ≤ 100000) (hg : ∀ (s : Shared) (H : Hp) (C : Addr) (cl : List (Str × Addr)) (fp : List Addr), Xg (X.blk s H scope (compEnvC scope cl C X.env) fp) tg t)
    (hw : t.within (own.map (·.2)) := by decide) (ok : blkC X.N X.env.scope scope own = true := by rfl) (hc : X.calm = true := by rfl) (hs : ∀ x, foldedSetIterable iter X.env x = pure x := by intro _; rfl) (hy : X.N[i]? = some y := by rfl) (hyl : X.env.scope.names.lookup y = some .local := by rfl)
    (hk : X.env.scope.kind = .function := by rfl) (hl : (py.line == pos.line) = true := by rfl) (ha : (scope.names.any fun (n, k) => n == y && (k == .local || k == .cell)) = false := by rfl) :
    Xs X E (.Assign [.Name y py] (.ListComp elt [⟨tg, iter, ifs, 0⟩] scope pos) spos) δ ω (.nx (δ.set i (some (.sh (.lst es)))) ω) := PS.sub (ps_lc own t hN hi hg ok hc hs hy hyl hk hl ha) (tAsg_sh (lc_sub hw hz c))
theorem xs_lcN (own : List (Str × Nat)) (t : Tg) {ds : List Dt} {ns : List Int} (hN : X.N.Nodup) (hi : Xi X tg iter (view ω δ) ds) (c : CompD X scope t ifs elt (wipeD (view ω δ) (own.map (·.2))) ds (ns.map Dt.int)) (hz : ds.length ≤ 100000) (hg : ∀ (s : Shared) (H : Hp) (C : Addr) (cl : List (Str × Addr)) (fp : List Addr), Xg (X.blk s H scope (compEnvC scope cl C X.env) fp) tg t)
    (hw : t.within (own.map (·.2)) := by decide) (ok : blkC X.N X.env.scope scope own = true := by rfl) (hc : X.calm = true := by rfl) (hs : ∀ x, foldedSetIterable iter X.env x = pure x := by intro _; rfl) (hy : X.N[i]? = some y := by rfl) (hyl : X.env.scope.names.lookup y = some .local := by rfl)
    (hk : X.env.scope.kind = .function := by rfl) (hl : (py.line == pos.line) = true := by rfl) (ha : (scope.names.any fun (n, k) => n == y && (k == .local || k == .cell)) = false := by rfl) :
    Xs X E (.Assign [.Name y py] (.ListComp elt [⟨tg, iter, ifs, 0⟩] scope pos) spos) δ ω (.nx (δ.set i (some (.at_ ω.length))) (ω ++ [.nums ns])) := PS.sub (ps_lc own t hN hi hg ok hc hs hy hyl hk hl ha) (tAsg_new (lc_subN hw hz c))
end
end

def argS (n : Nat) (ds : List Dt) : Ss := ds.map (fun d => some (.sh d)) ++ List.replicate (n - ds.length) none
/-- how the body ends, as the result asks -/
def EndsAs : Out → Res → Prop
  | .rt d, .ok d' => d = d'
  | .nx _ _, .ok d' => d' = .non
  | .ex e, .er e' => e = e'
  | .rt _, .an => True
  | .nx _ _, .an => True
  | .ra, .an => True
  | _, _ => False
theorem env_start {G H : Hp} {N : List Str} {vs : List V} {ds : List Dt} (s : Same G H) (dl : DenL G vs ds) (hN : ds.length ≤ N.length) : EnvR (fun a => match G a with | none => H a | some _ => none) H G (start N vs) (argS N.length ds) [] [] := by
  have hl : vs.length = ds.length := dl.1
  have le : (start N vs).length = (argS N.length ds).length := by
    unfold L2.start argS
    rw [List.length_append, List.length_append, List.length_map, List.length_map, List.length_replicate, List.length_replicate, hl]
  have key : ∀ (i : Nat) (x : S), (argS N.length ds)[i]? = some (some x) → ∃ v d, (start N vs)[i]? = some (some v) ∧ x = .sh d ∧ Den G v d := fun i x h => by
    unfold argS at h
    unfold L2.start
    by_cases hi : i < ds.length
    · rw [List.getElem?_append_left (by rw [List.length_map]; exact hi), List.getElem?_map, List.getElem?_eq_getElem hi] at h
      cases h
      have hv : i < vs.length := by rw [hl]; exact hi
      refine ⟨vs[i], ds[i], ?_, rfl, dl.2 i _ _ (List.getElem?_eq_getElem hv) (List.getElem?_eq_getElem hi)⟩
      rw [List.getElem?_append_left (by rw [List.length_map]; exact hv), List.getElem?_map, List.getElem?_eq_getElem hv]
      rfl
    · rw [List.getElem?_append_right (by rw [List.length_map]; exact Nat.le_of_not_lt hi), List.getElem?_replicate] at h
      split at h <;> cases h
  refine ⟨fun a o h => ?_, s, fun a h => ?_, le, rfl, List.nodup_nil, fun n c as h => by simp at h, fun a h => by simp at h, fun i d h => ?_, fun i x h => ?_⟩
  · cases q : G a with
    | none =>
      simp only [q] at h
      exact h
    | some u =>
      simp only [q] at h
      cases h
  · cases q : G a with
    | none => rfl
    | some u =>
      simp only [q] at h
      exact absurd rfl h
  · obtain ⟨v, d', e1, e2, e3⟩ := key i _ h
    cases e2
    exact ⟨v, e1, e3⟩
  · obtain ⟨v, d', e1, e2, e3⟩ := key i _ h
    subst e2
    exact ⟨v, e1, trivial⟩
/-- THE RULE for a def -/
theorem fn_mk {P : Program} {w : World} {K : PySem.W.Frag} {mg : Str → Option Value} {base : Heap} {CX : CXT} {k : Nat} {x : Str} {N ps : List Str} {st : Stmt} {R : List Dt → Res → Prop}
    {fo : Addr} {fdo : FuncData} (Fd : FunD K x x (defArgs st) (defBody st) (defScope st) [] [] fo fdo) (S : FnScope N ps (defScope st))
    (body : ∀ (f : Addr) (cdv : Value) (A : Around) (outer : List Env) (s : Shared) (H : Hp) (E : XK) (ds : List Dt) (r : Res), Room k (A.deeper (envOfC x (defScope st) s.heap.objs.size f cdv)) → ds.length = ps.length → R ds r →
      ∃ O, EndsAs O r ∧ Xb (cxOf CX P w K mg base N x (defScope st) f cdv A outer s H E) E (defBody st) (argS N.length ds) [] O) : FnOk P w K mg base CX (k + 1) fo fdo ps (spF ps.length R) := by
  refine Fd.ok S (fun vs H Q E h => ?_) (fun cdv A outer s H vs Q E hr h => ?_)
  · obtain ⟨G, ds, r, h1, h2, h3, h4⟩ := h
    rw [h3.1]
    exact h1
  · obtain ⟨G, ds, r, hn, sG, dl, hR, post⟩ := h
    obtain ⟨O, hO, hX⟩ := body fo cdv A outer s H E ds r hr hn hR
    have hN : ds.length ≤ N.length := by
      rw [hn, ← S.pre, List.length_take]
      omega
    refine ⟨_, hX, _, G, [], env_start sG dl hN, ?_⟩
    -- what the frame keeps and what is read are all of the heap
    have all : ∀ {H' G' : Hp}, Same (fun a => match G a with | none => H a | some _ => none) H' → Same G G' → Same G' H' → Same H H' := fun {H' G'} a b c y o hy => by
      cases q : G y with
      | none => exact a y o (by simp only [q]; exact hy)
      | some u =>
        have e : u = o := by
          have h1 := sG y u q
          rw [hy] at h1
          exact (Option.some.inj h1).symm
        subst e
        exact c y u (b y u q)
    cases O with
    | nx δ ω =>
      cases r with
      | er e => exact hO.elim
      | ok d =>
        have ed : d = .non := hO
        subst ed
        intro σ' H' G' regs' s1 p1 e'
        exact post .non H' G' ⟨all e'.rh s1 e'.gh, s1, e'.gh, fun a h1 h2 => e'.rg a (by simp only [h1]; exact h2)⟩ .non
      | an =>
        intro σ' H' G' regs' s1 p1 e'
        exact post .non H' (all e'.rh s1 e'.gh)
    | rt d =>
      cases r with
      | er e => exact hO.elim
      | ok d' =>
        have ed : d = d' := hO
        subst ed
        intro v H' G' s1 s2 s3 n dv
        exact post v H' G' ⟨all s3 s1 s2, s1, s2, fun a h1 h2 => n a (by simp only [h1]; exact h2)⟩ dv
      | an =>
        intro v H' G' s1 s2 s3 n dv
        exact post v H' (all s3 s1 s2)
    | bk δ ω => cases r <;> exact hO.elim
    | ct δ ω => cases r <;> exact hO.elim
    | ex e =>
      cases r with
      | ok d => exact hO.elim
      | an => exact hO.elim
      | er e' =>
        have ee : e = e' := hO
        subst ee
        intro cls dd H' s1 s2 he
        exact post cls dd H' (all s1 (.refl _) s2) he
    | ra =>
      cases r with
      | ok d => exact hO.elim
      | er e => exact hO.elim
      | an =>
        intro v H' s1 s2
        exact post v H' (all s1 (.refl _) s2)
theorem Df.mk' {P : Program} {w : World} {K : PySem.W.Frag} {mg : Str → Option Value} {base : Heap} {CX : CXT} {k : Nat} {g x : Str} {N ps : List Str} {st : Stmt} {R : List Dt → Res → Prop}
    (F : ∃ (f : Addr) (fd : FuncData), mg g = some (.ref f) ∧ FunD K x x (defArgs st) (defBody st) (defScope st) [] [] f fd) (S : FnScope N ps (defScope st))
    (hb : ∀ (kV doc pm : Value) (an : Option Addr) (cdv ct : Value) (us : List Value), us.length = ps.length → bindArgs (PySem.W.fnOf x x (defArgs st) (defBody st) (defScope st) .none kV doc pm an cdv ct) ⟨us, []⟩ = pure (ps.zip us))
    (body : ∀ (f : Addr) (cdv : Value) (A : Around) (outer : List Env) (s : Shared) (H : Hp) (E : XK) (ds : List Dt) (r : Res), Room k (A.deeper (envOfC x (defScope st) s.heap.objs.size f cdv)) → ds.length = ps.length → R ds r →
      ∃ O, EndsAs O r ∧ Xb (cxOf CX P w K mg base N x (defScope st) f cdv A outer s H E) E (defBody st) (argS N.length ds) [] O) : Df P w K mg base CX (k + 1) g ps.length R := by
  obtain ⟨f, fd, hm, Fd⟩ := F
  exact ⟨f, fd, ps, fn_mk Fd S body, hm, Fd.kp, Fd.bindsN hb⟩
end Pa
namespace Pa
open PySem PySem.Spec PyProof.Rows L2
section
variable {X : Cx} {scope : Scope} {ifs : List Expr} {elt : Expr} {δ : Sl}
/-- what holds in every block of the comprehension -/
abbrev InB (X : Cx) (scope : Scope) (φ : Cx → Prop) : Prop := ∀ (s : Shared) (H : Hp) (C : Addr) (cl : List (Str × Addr)) (fp : List Addr), φ (X.blk s H scope (compEnvC scope cl C X.env) fp)
theorem comp_map {α : Type} {t : Tg} {g : α → Dt} {h : α → Dt} {dl : α → Sl} : ∀ (xs : List α), (∀ x ∈ xs, t.put (g x) δ = some (dl x) ∧ InB X scope fun Y => Xts Y ifs (dl x) true ∧ Xe Y elt (dl x) (h x)) → CompD X scope t ifs elt δ (xs.map g) (xs.map h)
  | [], _ => .nil
  | x :: xs, k => by
    obtain ⟨a, b⟩ := k x List.mem_cons_self
    exact .keep a (fun s H C cl fp => (b s H C cl fp).1) (fun s H C cl fp => (b s H C cl fp).2) (comp_map xs fun y hy => k y (List.mem_cons_of_mem _ hy))
theorem comp_filter {α : Type} {t : Tg} {g : α → Dt} {h : α → Dt} {dl : α → Sl} {f : α → Bool} : ∀ (xs : List α), (∀ x ∈ xs, t.put (g x) δ = some (dl x) ∧ InB X scope fun Y => Xts Y ifs (dl x) (f x) ∧ (f x = true → Xe Y elt (dl x) (h x))) → CompD X scope t ifs elt δ (xs.map g) ((xs.filter f).map h)
  | [], _ => .nil
  | x :: xs, k => by
    obtain ⟨a, b⟩ := k x List.mem_cons_self
    have r := comp_filter (t := t) (g := g) (h := h) (dl := dl) (f := f) xs fun y hy => k y (List.mem_cons_of_mem _ hy)
    cases e : f x with
    | true =>
      rw [List.filter_cons, if_pos e]
      exact .keep a (fun s H C cl fp => e ▸ (b s H C cl fp).1) (fun s H C cl fp => (b s H C cl fp).2 e) r
    | false =>
      rw [List.filter_cons, if_neg (by rw [e]; exact Bool.false_ne_true)]
      exact .skip a (fun s H C cl fp => e ▸ (b s H C cl fp).1) r
/-- over ints, one name, an int each -/
theorem comp_ints {j : Nat} {ns : List Int} {f : Int → Int} (k : ∀ n ∈ ns, InB X scope fun Y => Xe Y elt (δ.set j (some (.int n))) (.int (f n))) : CompD X scope (.one j) [] elt δ (ns.map Dt.int) ((ns.map f).map Dt.int) := by
  rw [List.map_map]
  exact comp_map (dl := fun n => δ.set j (some (.int n))) ns fun n hn => ⟨rfl, fun s H C cl fp => ⟨xts_nil, k n hn s H C cl fp⟩⟩
/-- over ints, one name, any data each -/
theorem comp_intsD {j : Nat} {ns : List Int} {f : Int → Dt} (k : ∀ n ∈ ns, InB X scope fun Y => Xe Y elt (δ.set j (some (.int n))) (f n)) : CompD X scope (.one j) [] elt δ (ns.map Dt.int) (ns.map f) :=
  comp_map (dl := fun n => δ.set j (some (.int n))) ns fun n hn => ⟨rfl, fun s H C cl fp => ⟨xts_nil, k n hn s H C cl fp⟩⟩
/-- over ints, a test, an int each -/
theorem comp_intsF {j : Nat} {ns : List Int} {t : Expr} {p : Int → Bool} {f : Int → Int} (k : ∀ n ∈ ns, InB X scope fun Y => Xt Y t (δ.set j (some (.int n))) (p n) ∧ (p n = true → Xe Y elt (δ.set j (some (.int n))) (.int (f n)))) :
    CompD X scope (.one j) [t] elt δ (ns.map Dt.int) (((ns.filter p).map f).map Dt.int) := by
  rw [List.map_map]
  exact comp_filter (dl := fun n => δ.set j (some (.int n))) ns fun n hn => ⟨rfl, fun s H C cl fp => ⟨xts_one (k n hn s H C cl fp).1, (k n hn s H C cl fp).2⟩⟩
/-- over pairs of ints, two names, an int each -/
theorem comp_zip {i j : Nat} {c h : List Int} {f : Int → Int → Int} (k : ∀ a b, (a, b) ∈ c.zip h → InB X scope fun Y => Xe Y elt ((δ.set i (some (.int a))).set j (some (.int b))) (.int (f a b))) :
    CompD X scope (.two i j) [] elt δ (zipD (c.map Dt.int) (h.map Dt.int)) (((c.zip h).map fun p => f p.1 p.2).map Dt.int) := by
  have e : zipD (c.map Dt.int) (h.map Dt.int) = (c.zip h).map fun p => .tup [.int p.1, .int p.2] := by
    unfold zipD
    rw [List.zip_map, List.map_map]
    rfl
  rw [e, List.map_map]
  exact comp_map (dl := fun p : Int × Int => (δ.set i (some (.int p.1))).set j (some (.int p.2))) (c.zip h) fun p hp => ⟨rfl, fun s H C cl fp => ⟨xts_nil, k p.1 p.2 hp s H C cl fp⟩⟩
theorem zip_len {c h : List Int} : (zipD (c.map Dt.int) (h.map Dt.int)).length ≤ c.length := by
  unfold zipD
  rw [List.length_map, List.length_zip, List.length_map]
  omega
/-- over numbered ints -/
theorem enum_ints {h : List Int} : enumD (h.map Dt.int) = h.zipIdx.map fun p => .tup [.int (p.2 : Int), .int p.1] := by
  unfold enumD
  rw [List.zipIdx_map, List.map_map]
  rfl
end
end Pa
namespace Pa
open PySem PySem.Spec PyProof.Rows L2
def isI : Dt → Bool
  | .int _ => true
  | .bl _ => true
  | _ => false
def isB : Dt → Bool
  | .bl _ => true
  | _ => false
def isL : Dt → Bool
  | .lst _ => true
  | .scr _ _ => true
  | _ => false
def isT : Dt → Bool
  | .tup _ => true
  | _ => false
theorem noS_ints (ns : List Int) : ∀ d ∈ ns.map Dt.int, d.noS = true := fun d h => by
  obtain ⟨n, _, rfl⟩ := List.mem_map.mp h
  rfl
theorem kit_isI (d : Dt) : kitB (tyName d) "int" = some (isI d) := by cases d <;> (simp only [tyName, isI]; decide)
theorem kit_isB (d : Dt) : kitB (tyName d) "bool" = some (isB d) := by cases d <;> (simp only [tyName, isB]; decide)
theorem kit_isL (d : Dt) : kitB (tyName d) "list" = some (isL d) := by cases d <;> (simp only [tyName, isL]; decide)
theorem kit_isT (d : Dt) : kitB (tyName d) "tuple" = some (isT d) := by cases d <;> (simp only [tyName, isT]; decide)
def isW (d : Dt) : Bool := isI d && !isB d
theorem isW_int {d : Dt} (h : isW d = true) : ∃ i, d = .int i := by
  cases d with
  | int i => exact ⟨i, rfl⟩
  | non => cases h
  | bl _ => cases h
  | str _ => cases h
  | lst _ => cases h
  | tup _ => cases h
  | dic _ => cases h
  | scr _ => cases h
def isFT (d : Dt) (a b : Int) : Bool := match d with
  | .int i => decide (a ≤ i) && decide (i ≤ b)
  | _ => false
theorem isFT_no {d : Dt} {a b : Int} (h : isW d = false) : isFT d a b = false := by
  cases d with
  | int i => cases h
  | non => rfl
  | bl _ => rfl
  | str _ => rfl
  | lst _ => rfl
  | tup _ => rfl
  | dic _ => rfl
  | scr _ => rfl
def isListed : Dt → Bool
  | .lst ds => decide ((1 : Int) ≤ (ds.length : Int)) && decide ((ds.length : Int) ≤ 8)
  | _ => false
def isFollow (p v : Int) : Bool := decide (p < v) && decide (v % p = 0)
/-- the first wrong value from k on, prev the value ahead -/
def fwC : Option Int → List Dt → Nat → Option Nat
  | _, [], _ => none
  | prev, d :: ds, k => match d with
    | .int v => if isFT (.int v) 1 1000000 = true then (match prev with
      | none => fwC (some v) ds (k + 1)
      | some p => if isFollow p v = true then fwC (some v) ds (k + 1) else some k) else some k
    | _ => some k
/-- the first wrong count from k on -/
def fwH : List Dt → Nat → Option Nat
  | [], _ => none
  | d :: ds, k => if isFT d 0 99 = true then fwH ds (k + 1) else some k
def optI : Option Nat → Dt
  | none => .non
  | some i => .int i
/-- a chain, a heap for it -/
structure Chn (c : List Int) : Prop where
  len0 : 0 < c.length
  len8 : c.length ≤ 8
  rg : ∀ v ∈ c, 1 ≤ v ∧ v ≤ 1000000
  st : ∀ i, i + 1 < c.length → c.getD i 0 < c.getD (i + 1) 0 ∧ c.getD (i + 1) 0 % c.getD i 0 = 0
structure Hep (c h : List Int) : Prop where
  len : h.length = c.length
  rg : ∀ v ∈ h, 0 ≤ v ∧ v ≤ 99
theorem isFT_of {i a b : Int} (h : a ≤ i ∧ i ≤ b) : isFT (.int i) a b = true := by
  show (decide (a ≤ i) && decide (i ≤ b)) = true
  rw [decide_eq_true h.1, decide_eq_true h.2]
  rfl
theorem fwH_none : ∀ (h : List Int) (k : Nat), (∀ v ∈ h, 0 ≤ v ∧ v ≤ 99) → fwH (h.map Dt.int) k = none
  | [], k, _ => rfl
  | v :: h, k, a => by
    show (if isFT (.int v) 0 99 = true then fwH (h.map Dt.int) (k + 1) else some k) = none
    rw [if_pos (isFT_of (a v List.mem_cons_self))]
    exact fwH_none h (k + 1) fun u hu => a u (List.mem_cons_of_mem _ hu)
theorem fwC_none : ∀ (c : List Int) (prev : Option Int) (k : Nat), (∀ v ∈ c, 1 ≤ v ∧ v ≤ 1000000) → (∀ p v, prev = some p → c.head? = some v → isFollow p v = true) → (∀ i, i + 1 < c.length → c.getD i 0 < c.getD (i + 1) 0 ∧ c.getD (i + 1) 0 % c.getD i 0 = 0) → fwC prev (c.map Dt.int) k = none
  | [], prev, k, _, _, _ => by cases prev <;> rfl
  | v :: c, prev, k, a, b, s => by
    have e : fwC (some v) (c.map Dt.int) (k + 1) = none := by
      refine fwC_none c (some v) (k + 1) (fun u hu => a u (List.mem_cons_of_mem _ hu)) (fun p u hp hu => ?_) (fun i hi => ?_)
      · cases hp
        cases c with
        | nil => cases hu
        | cons u' c' =>
          cases hu
          have := s 0 (by simp)
          have this : v < u ∧ u % v = 0 := this
          unfold isFollow
          rw [decide_eq_true this.1, decide_eq_true this.2]
          rfl
      · exact s (i + 1) (by simpa using hi)
    cases prev with
    | none =>
      show (if isFT (.int v) 1 1000000 = true then fwC (some v) (c.map Dt.int) (k + 1) else some k) = none
      rw [if_pos (isFT_of (a v List.mem_cons_self)), e]
    | some p =>
      show (if isFT (.int v) 1 1000000 = true then (if isFollow p v = true then fwC (some v) (c.map Dt.int) (k + 1) else some k) else some k) = none
      rw [if_pos (isFT_of (a v List.mem_cons_self)), if_pos (b p v rfl rfl), e]
theorem Chn.fw {c : List Int} (h : Chn c) : fwC none (c.map Dt.int) 0 = none := fwC_none c none 0 h.rg (fun p v hp => by cases hp) h.st
theorem Hep.fw {c g : List Int} (h : Hep c g) : fwH (g.map Dt.int) 0 = none := fwH_none g 0 h.rg
/-- factors that the machine multiplies -/
def Small (n : Int) : Prop := -(2 ^ 64) < n ∧ n < 2 ^ 64
def worth (c h : List Int) : Int := ((c.zip h).map fun p => p.1 * p.2).sum
def lesser (c h : List Int) (k : Nat) : Int := worth (c.take k) (h.take k)
theorem LessS.nil : LessS [] [] := LessS.refl []
theorem LessS.keep {x : Option S} {a b : Ss} (h : LessS a b) : LessS (x :: a) (x :: b) := ⟨congrArg Nat.succ h.1, fun i y e => by
  cases i with
  | zero => exact e
  | succ i => exact h.2 i y e⟩
theorem LessS.drop {x : Option S} {a b : Ss} (h : LessS a b) : LessS (x :: a) (none :: b) := ⟨congrArg Nat.succ h.1, fun i y e => by
  cases i with
  | zero => cases e
  | succ i => exact h.2 i y e⟩
section
variable {X : Cx} {δ : Sl} {pos p : Pos}
/-- x <= y <= z -/
theorem xe_le2 {a b c : Expr} {x y z : Int} (ha : Xe X a δ (.int x)) (hb : Xe X b δ (.int y)) (hc : Xe X c δ (.int z)) (hm : lastMarks [.LtE, .LtE] [b, c] = false := by with_unfolding_all rfl) : Xe X (.Compare a [.LtE, .LtE] [b, c] pos) δ (.bl (decide (x ≤ y) && decide (y ≤ z))) :=
  xe_chain o_le ha hb (fun h => by rw [h, Bool.true_and]; exact ⟨o_le, hc⟩) (fun h => by rw [h, Bool.false_and]) hm
theorem cut_take {α : Type} {xs : List α} {k : Int} (h0 : 0 ≤ k) (h1 : k ≤ xs.length) : cutD xs none (some k) = xs.take k.toNat := by
  have e : HT.sIx xs.length xs.length (some k) = k.toNat := by
    unfold HT.sIx
    simp only []
    split <;> omega
  unfold cutD
  rw [e]
  show (xs.drop 0).take (k.toNat - 0) = _
  rw [List.drop_zero, Nat.sub_zero]
end
end Pa
namespace Pa
open PySem PySem.Spec PyProof.Rows L2
/-- a turn of a loop -/
def TurnS (X : Cx) (E : XK) (t : Tg) (body : List Stmt) (I : List Dt → Ss → Om → Out → Prop) (d : Dt) (ds : List Dt) (δ : Ss) (ω : Om) (O : Out) : Prop :=
  ∃ δ1, t.putS d δ = some δ1 ∧ ((∃ δ2 δ3 ω2, Xb X E body δ1 ω (.nx δ2 ω2) ∧ LessS δ2 δ3 ∧ I ds δ3 ω2 O) ∨ (∃ δ2 δ3 ω2, Xb X E body δ1 ω (.ct δ2 ω2) ∧ LessS δ2 δ3 ∧ I ds δ3 ω2 O) ∨ (∃ δ2 ω2, Xb X E body δ1 ω (.bk δ2 ω2) ∧ O = .nx δ2 ω2) ∨ (∃ r, Xb X E body δ1 ω (.rt r) ∧ O = .rt r))
theorem TurnS.next {X : Cx} {E : XK} {t : Tg} {body : List Stmt} {I : List Dt → Ss → Om → Out → Prop} {d : Dt} {ds : List Dt} {δ δ1 δ2 δ3 : Ss} {ω ω2 : Om} {O : Out} (hp : t.putS d δ = some δ1) (hb : Xb X E body δ1 ω (.nx δ2 ω2)) (hl : LessS δ2 δ3) (r : I ds δ3 ω2 O) : TurnS X E t body I d ds δ ω O := ⟨δ1, hp, .inl ⟨δ2, δ3, ω2, hb, hl, r⟩⟩
theorem TurnS.ret {X : Cx} {E : XK} {t : Tg} {body : List Stmt} {I : List Dt → Ss → Om → Out → Prop} {d r : Dt} {ds : List Dt} {δ δ1 : Ss} {ω : Om} {O : Out} (hp : t.putS d δ = some δ1) (hb : Xb X E body δ1 ω (.rt r)) (e : O = .rt r) : TurnS X E t body I d ds δ ω O := ⟨δ1, hp, .inr (.inr (.inr ⟨r, hb, e⟩))⟩
theorem TurnS.brk {X : Cx} {E : XK} {t : Tg} {body : List Stmt} {I : List Dt → Ss → Om → Out → Prop} {d : Dt} {ds : List Dt} {δ δ1 δ2 : Ss} {ω ω2 : Om} {O : Out} (hp : t.putS d δ = some δ1) (hb : Xb X E body δ1 ω (.bk δ2 ω2)) (e : O = .nx δ2 ω2) : TurnS X E t body I d ds δ ω O := ⟨δ1, hp, .inr (.inr (.inl ⟨δ2, ω2, hb, e⟩))⟩
theorem LoopS.ind {X : Cx} {E : XK} {t : Tg} {body : List Stmt} (I : List Dt → Ss → Om → Out → Prop) (hnil : ∀ δ ω O, I [] δ ω O → O = .nx δ ω) (hstep : ∀ d ds δ ω O, I (d :: ds) δ ω O → TurnS X E t body I d ds δ ω O) : ∀ {ds : List Dt} {δ : Ss} {ω : Om} {O : Out}, I ds δ ω O → LoopS X E t body ds δ ω O
  | [], δ, ω, O, h => by
    rw [hnil δ ω O h]
    exact .nil
  | d :: ds, δ, ω, O, h => by
    obtain ⟨δ1, hp, ⟨δ2, δ3, ω2, hb, hl, r⟩ | ⟨δ2, δ3, ω2, hb, hl, r⟩ | ⟨δ2, ω2, hb, e⟩ | ⟨r, hb, e⟩⟩ := hstep d ds δ ω O h
    · exact .next hp hb hl (LoopS.ind I hnil hstep r)
    · exact .cont hp hb hl (LoopS.ind I hnil hstep r)
    · rw [e]
      exact .brk hp hb
    · rw [e]
      exact .ret hp hb
/-- a loop whose turns each go on: the state behind j turns -/
theorem LoopS.run {X : Cx} {E : XK} {t : Tg} {body : List Stmt} : ∀ {ds : List Dt} {δ : Ss} {ω : Om} (δs : Nat → Ss) (ωs : Nat → Om), δ = δs 0 → ω = ωs 0 → (∀ j d, ds[j]? = some d → ∃ δ1 δ2, t.putS d (δs j) = some δ1 ∧ Xb X E body δ1 (ωs j) (.nx δ2 (ωs (j + 1))) ∧ LessS δ2 (δs (j + 1))) → LoopS X E t body ds δ ω (.nx (δs ds.length) (ωs ds.length))
  | [], δ, ω, δs, ωs, h1, h2, _ => by
    rw [h1, h2]
    exact .nil
  | d :: ds, δ, ω, δs, ωs, h1, h2, k => by
    obtain ⟨δ1, δ2, a, b, c⟩ := k 0 d rfl
    rw [h1, h2]
    exact .next a b c (LoopS.run (fun j => δs (j + 1)) (fun j => ωs (j + 1)) rfl rfl fun j d h => k (j + 1) d h)
def enumFrom (k : Nat) (ds : List Dt) : List Dt := (ds.zipIdx k).map fun p => .tup [.int p.2, p.1]
theorem enumFrom_cons {k : Nat} {d : Dt} {ds : List Dt} : enumFrom k (d :: ds) = .tup [.int k, d] :: enumFrom (k + 1) ds := rfl
theorem at_last {α : Type} {pre rest : List α} {x : α} (h : pre.getLast? = some x) : atI (pre ++ rest) ((pre.length : Int) - 1) = some x := by
  have hl : 0 < pre.length := by
    cases pre with
    | nil => cases h
    | cons a b => exact Nat.succ_pos _
  have e : (pre.length : Int) - 1 = ((pre.length - 1 : Nat) : Int) := by omega
  rw [e]
  refine atI_nat ?_
  rw [List.getElem?_append_left (by omega), ← List.getLast?_eq_getElem?, h]
end Pa
namespace Pa
open PySem PySem.Spec PyProof.Rows L2
theorem Chn.small {c : List Int} (h : Chn c) : ∀ v ∈ c, Small v := fun v hv => by
  have := h.rg v hv
  unfold Small
  omega
theorem Chn.getD {c : List Int} (h : Chn c) {k : Nat} (hk : k < c.length) : 1 ≤ c.getD k 0 ∧ c.getD k 0 ≤ 1000000 := by
  have e : c.getD k 0 = c[k] := by
    rw [List.getD_eq_getElem?_getD, List.getElem?_eq_getElem hk]
    rfl
  rw [e]
  exact h.rg _ (List.getElem_mem hk)
theorem Chn.listed {c : List Int} (h : Chn c) : isListed (dI c) = true := by
  have a := h.len0
  have b := h.len8
  show (decide ((1 : Int) ≤ ((c.map Dt.int).length : Int)) && decide (((c.map Dt.int).length : Int) ≤ 8)) = true
  rw [List.length_map, decide_eq_true (by omega), decide_eq_true (by omega)]
  rfl
/-- what is left of the amounts at k -/
def leftBy (c as : List Int) (k : Nat) : Int := if k = c.length then as.sum else (as.map fun a => a % c.getD k 0).sum
def spares (c h as : List Int) : List Int := rngD (c.length + 1) fun k => lesser c h k - leftBy c as k
def lacks (c h as : List Int) (k : Nat) : Bool := decide (lesser c h k < leftBy c as k)
def firstLack (c h as : List Int) : Option Nat := (List.range (c.length + 1)).find? (lacks c h as)
def lackD (c h as : List Int) : Option Nat → Dt
  | none => .non
  | some k => .tup [.int k, .int (leftBy c as k), .int (lesser c h k)]
section
variable {X : Cx} {δ : Sl} {pos p : Pos}
/-- ns[:b] -/
theorem xe_takeI {a b : Expr} {p2 : Pos} {ns : List Int} {k : Int} (h0 : 0 ≤ k) (h1 : k ≤ ns.length) (ha : Xe X a δ (dI ns)) (hb : Xe X b δ (.int k)) : Xe X (.Subscript a (.Slice none (some b) none p2) pos) δ (dI (ns.take k.toNat)) := by
  have e : dI (ns.take k.toNat) = .lst (cutD (ns.map Dt.int) none (some k)) := by
    rw [cut_take h0 (by rw [List.length_map]; exact h1), ← List.map_take]
  rw [e]
  exact xe_slice ha xo_none (xo_some hb)
end
theorem rngD_mem {n : Nat} {f : Nat → Int} {x : Int} (h : x ∈ rngD n f) : ∃ i, i < n ∧ x = f i := by
  unfold rngD at h
  obtain ⟨i, hi, rfl⟩ := List.mem_map.mp h
  exact ⟨i, List.mem_range.mp hi, rfl⟩
theorem rngD_map {n : Nat} {f : Nat → Int} {g : Int → Int} : (rngD n f).map g = rngD n fun i => g (f i) := by
  unfold rngD
  rw [List.map_map]
  rfl
/-- the search, from k on -/
theorem find_step {p : Nat → Bool} {n k : Nat} (hk : k < n) : (List.range' k (n - k)).find? p = if p k = true then some k else (List.range' (k + 1) (n - (k + 1))).find? p := by
  have e : n - k = (n - (k + 1)) + 1 := by omega
  rw [e, List.range'_succ, List.find?_cons]
  cases p k <;> rfl
structure Pay where
  count : Int
  rows : List (List Int)
  left : List Int
/-- one payment's pieces of the value v at k -/
def Pay.turn (v : Int) (k j : Nat) (s : Pay) : Pay :=
  let x := min s.count (s.left.getD j 0 / v)
  ⟨s.count - x, s.rows.set j ((s.rows.getD j []).set k x), s.left.set j (s.left.getD j 0 - x * v)⟩
def Pay.turns (v : Int) (k : Nat) (s : Pay) : Nat → Pay
  | 0 => s
  | j + 1 => (Pay.turns v k s j).turn v k j
/-- the values from the greatest on: i of them are done -/
def payAt (c h as : List Int) : Nat → List (List Int) × List Int
  | 0 => (List.replicate as.length (List.replicate c.length 0), as)
  | i + 1 =>
    let p := payAt c h as i
    let k := c.length - 1 - i
    let s := Pay.turns (c.getD k 0) k ⟨h.getD k 0, p.1, p.2⟩ as.length
    (s.rows, s.left)
def housePay (c h as : List Int) : List (List Int) := (payAt c h as c.length).1
theorem turns_len {v : Int} {k : Nat} {s : Pay} {j : Nat} : (Pay.turns v k s j).rows.length = s.rows.length ∧ (Pay.turns v k s j).left.length = s.left.length := by
  induction j with
  | zero => exact ⟨rfl, rfl⟩
  | succ j ih =>
    refine ⟨?_, ?_⟩
    · show ((Pay.turns v k s j).rows.set j _).length = _
      rw [List.length_set]
      exact ih.1
    · show ((Pay.turns v k s j).left.set j _).length = _
      rw [List.length_set]
      exact ih.2
theorem getD_set {α : Type} {xs : List α} {j i : Nat} {x d : α} : (xs.set j x).getD i d = if j = i ∧ i < xs.length then x else xs.getD i d := by
  rw [List.getD_eq_getElem?_getD, List.getD_eq_getElem?_getD, List.getElem?_set]
  by_cases h : j = i
  · subst h
    by_cases h2 : j < xs.length
    · rw [if_pos rfl, if_pos h2, if_pos ⟨rfl, h2⟩]
      rfl
    · rw [if_pos rfl, if_neg h2, if_neg (fun z => h2 z.2), List.getElem?_eq_none (by omega)]
  · rw [if_neg h, if_neg (fun z => h z.1)]
theorem turns_row {v : Int} {k m : Nat} {s : Pay} (hs : ∀ r ∈ s.rows, r.length = m) : ∀ j, ∀ r ∈ (Pay.turns v k s j).rows, r.length = m
  | 0 => hs
  | j + 1 => fun r hr => by
    have ih := turns_row (v := v) (k := k) hs j
    have hr : r ∈ (Pay.turns v k s j).rows.set j (((Pay.turns v k s j).rows.getD j []).set k _) := hr
    rcases List.mem_or_eq_of_mem_set hr with h | h
    · exact ih r h
    · by_cases hj : j < (Pay.turns v k s j).rows.length
      · rw [h, List.length_set, List.getD_eq_getElem?_getD, List.getElem?_eq_getElem hj]
        exact ih _ (List.getElem_mem hj)
      · rw [List.set_eq_of_length_le (by omega)] at hr
        exact ih r hr
theorem payAt_len {c h as : List Int} : ∀ i, (payAt c h as i).1.length = as.length ∧ (payAt c h as i).2.length = as.length ∧ ∀ r ∈ (payAt c h as i).1, r.length = c.length
  | 0 => ⟨List.length_replicate, rfl, fun r hr => by rw [(List.mem_replicate.mp hr).2, List.length_replicate]⟩
  | i + 1 => by
    obtain ⟨h1, h2, h3⟩ := payAt_len (c := c) (h := h) (as := as) i
    exact ⟨turns_len.1.trans h1, turns_len.2.trans h2, turns_row h3 _⟩
end Pa
namespace Pa
open PySem PySem.Spec PyProof.Rows L2
structure CompR (X : Cx) (scope : Scope) (t : Tg) (elt : Expr) (δ : Sl) (ds : List Dt) (rs : List (List Int)) : Prop where
  len : rs.length = ds.length
  row : ∀ (i : Nat) (d : Dt), ds[i]? = some d → ∃ δ' ns, t.put d δ = some δ' ∧ rs[i]? = some ns ∧ InB X scope fun Y => Xn Y elt δ' (.nums ns)
theorem tLcR_of {X : Cx} {scope : Scope} {t : Tg} {elt : Expr} {δ : Sl} {own : List Nat} {J : It} {σ : L2.St} {G H1 : Hp} {ds : List Dt} {rs : List (List Int)} {Q : VK} (hw : t.within own) (hz : ds.length ≤ 100000) (s : Same G H1) (e : EnvD G σ δ)
    (w : WalkD J G ds) (c : CompR X scope t elt (wipeD δ own) ds rs) (D : Addr) (hD : H1 D = none) (hQ : ∀ H' qs, Same H1 H' → (∀ a ∈ D :: qs, H1 a = none) → (D :: qs).Nodup → (Cell.rows rs).real H' (D :: qs) → Q (.ref D) H') :
    ∃ W : Nat → Nat → Hp → Prop, (∃ m, W 0 m (upd H1 D (.lst []))) ∧ ∀ i m H, W i m H →
      (J.stop i H ∧ Q (.ref D) H) ∨ (J.go i H ∧ ∃ Nx : Hp → Prop, (∀ H', Nx H' → ∃ m', m' < m ∧ W (i + 1) m' H') ∧ ∀ x H', J.yld i H x H' → gT X.K t x (L2.wipe σ own) H' fun σ2 H2 => L2.wipe σ2 own = L2.wipe σ own ∧
        tAllT X scope [] σ2 H2 fun b H3 =>
        if b = true then tAllE X scope elt σ2 H3 fun y H4 => ∃ acc, H4 D = some (.lst acc) ∧ acc.length < sizeLine ∧ Nx (upd H4 D (.lst (acc ++ [y]))) else Nx H3) := by
  have hGD : G D = none := same_none s hD
  refine lc_it (D := D) (σ := σ) (vs := own) (g := gT X.K t) (tt := tAllT X scope []) (te := tAllE X scope elt) (Qd := fun H => Q (.ref D) H) w (fun i H => ∃ (G1 : Hp) (qs : List Addr), Same G G1 ∧ Same G1 H ∧ Same H1 H ∧ (∀ a ∈ D :: qs, G1 a = none) ∧ (∀ a ∈ D :: qs, H1 a = none) ∧ (D :: qs).Nodup ∧ qs.length = i ∧ H D = some (.lst (qs.map V.ref)) ∧
    ∀ (j : Nat) (q : Addr) (ns : List Int), qs[j]? = some q → rs[j]? = some ns → H q = some (.lst (ns.map V.int))) ?_ ?_ ?_ ?_
  · refine ⟨G, [], .refl _, s.trans (same_new hD), same_new hD, ?_, ?_, by simp, rfl, upd_same, fun j q ns h => by simp at h⟩
    · intro a ha
      rw [List.mem_singleton.mp ha]
      exact hGD
    · intro a ha
      rw [List.mem_singleton.mp ha]
      exact hD
  · rintro i H _ ⟨G1, qs, s1, s2, _⟩
    exact s1.trans s2
  · rintro i x H H' hi ⟨G1, qs, s1, s2, s3, n1, n2, nd, hl, hDv, hr⟩ hy
    obtain ⟨G2, d, ed, gr, dx⟩ := hy G1 s1 s2
    have held : ∀ a ∈ D :: qs, H a ≠ none := fun a ha => by
      rcases List.mem_cons.mp ha with rfl | ha
      · rw [hDv]; exact fun z => by cases z
      · obtain ⟨j, hj, ej⟩ := List.mem_iff_getElem.mp ha
        have hj2 : j < rs.length := by rw [c.len]; omega
        rw [hr j a rs[j] (by rw [List.getElem?_eq_getElem hj, ej]) (List.getElem?_eq_getElem hj2)]
        exact fun z => by cases z
    have n2' : ∀ a ∈ D :: qs, G2 a = none := fun a ha => gr.new a (n1 a ha) (held a ha)
    have e2 : EnvD G2 (L2.wipe σ own) (wipeD δ own) := (e.mono (s1.trans gr.gg)).wipe own
    obtain ⟨δ', ns, hp, ers, hx⟩ := c.row i d ed
    have hDv' : H' D = some (.lst (qs.map V.ref)) := gr.hh D _ hDv
    refine gT_run gr.sub e2 dx hp fun σ' eσ hwp => ⟨(hwp hw).trans (wipe_wipe own σ), _, (fun s H C cl fp => xts_nil (δ := δ')), G2, gr.sub, eσ, fun H3 G3 g3 => ?_⟩
    refine iteT ?_
    refine ⟨_, hx, G3, g3.sub, eσ.mono g3.gg, fun p ps H4 s4 f1 f2 r => ?_⟩
    obtain ⟨p', ep, r⟩ := r
    cases ep
    have s34 : Same H H4 := (gr.hh.trans g3.hh).trans s4
    have fp : H3 p = none := f1 p List.mem_cons_self
    have fpH : H p = none := same_none (gr.hh.trans g3.hh) fp
    have pD : D ≠ p := fun z => by rw [z] at hDv; rw [hDv] at fpH; cases fpH
    have hp1 : H1 p = none := same_none s3 fpH
    have hG3p : G3 p = none := same_none g3.sub fp
    have n3 : ∀ a ∈ D :: qs, G3 a = none := fun a ha => g3.new a (n2' a ha) (fun z => by
      have h1 := held a ha
      cases q : H a with
      | none => exact h1 q
      | some o => rw [gr.hh a o q] at z; cases z)
    have hD4 : H4 D = some (.lst (qs.map V.ref)) := s34 D _ hDv
    refine ⟨_, hD4, ?_, G3, qs ++ [p], (s1.trans gr.gg).trans g3.gg, ?_, ?_, ?_, ?_, ?_, ?_, ?_, ?_⟩
    · rw [List.length_map, hl]
      exact Nat.lt_of_lt_of_le hi (Nat.le_trans hz (by rw [sizeLine_eq]; omega))
    · intro a o ha
      rw [upd_ne (fun z => by rw [z, n3 D List.mem_cons_self] at ha; cases ha)]
      exact s4 a o (g3.sub a o ha)
    · intro a o ha
      rw [upd_ne (fun z => by rw [z, hD] at ha; cases ha)]
      exact s34 a o (s3 a o ha)
    · intro a ha
      rw [← List.cons_append] at ha
      rcases List.mem_append.mp ha with ha | ha
      · exact n3 a ha
      · rw [List.mem_singleton.mp ha]
        exact hG3p
    · intro a ha
      rw [← List.cons_append] at ha
      rcases List.mem_append.mp ha with ha | ha
      · exact n2 a ha
      · rw [List.mem_singleton.mp ha]
        exact hp1
    · rw [← List.cons_append]
      refine List.nodup_append.mpr ⟨nd, by simp, fun a ha b hb z => ?_⟩
      rw [List.mem_singleton.mp hb] at z
      rw [z] at ha
      exact held p ha fpH
    · rw [List.length_append, hl]
      rfl
    · rw [upd_same, List.map_append]
      rfl
    · intro j q ms h1 h2
      by_cases hj : j < qs.length
      · rw [List.getElem?_append_left hj] at h1
        have hq : D ≠ q := fun z => (List.nodup_cons.mp nd).1 (by rw [z]; exact List.mem_of_getElem? h1)
        rw [upd_ne (Ne.symm hq)]
        exact s34 q _ (hr j q ms h1 h2)
      · have hjl : j = qs.length := by
          have := (List.getElem?_eq_some_iff.mp h1).1
          rw [List.length_append] at this
          have : j < qs.length + 1 := this
          omega
        subst hjl
        rw [List.getElem?_append_right (Nat.le_refl _), Nat.sub_self] at h1
        cases h1
        rw [hl, ers] at h2
        cases h2
        rw [upd_ne (Ne.symm pD)]
        exact r
  · rintro H ⟨G1, qs, s1, s2, s3, n1, n2, nd, hl, hDv, hr⟩
    exact hQ H qs s3 n2 nd ⟨D, qs, rfl, hDv, by rw [hl, c.len], hr⟩
theorem lc_subR {X : Cx} {elt : Expr} {scope : Scope} {own : List Nat} {t : Tg} {ds : List Dt} {rs : List (List Int)} {δ : Sl} (hw : t.within own) (hz : ds.length ≤ 100000) (c : CompR X scope t elt (wipeD δ own) ds rs) :
    ∀ σ H Q, tXn δ (.rows rs) σ H Q → tLc (tXi δ ds) (gT X.K t) (tAllT X scope []) (tAllE X scope elt) own σ H Q := fun σ H Q h => by
  obtain ⟨G, s, e, k⟩ := h
  refine ⟨G, s, e, fun J H1 G1 g1 w D hD => ?_⟩
  refine tLcR_of hw hz g1.sub (e.mono g1.gg) w c D hD fun H' qs s' n1 nd r => ?_
  exact k D qs H' (g1.hh.trans s') (fun a ha => same_none g1.hh (n1 a ha)) nd r
section
variable {X : Cx} {E : XK} {δ : Ss} {ω : Om} {elt tg iter : Expr} {scope : Scope} {i : Nat} {y : Str} {py spos pos p : Pos}
theorem xs_lcR (own : List (Str × Nat)) (t : Tg) {ds : List Dt} {rs : List (List Int)} (hN : X.N.Nodup) (hi : Xi X tg iter (view ω δ) ds) (c : CompR X scope t elt (wipeD (view ω δ) (own.map (·.2))) ds rs) (hz : ds.length ≤ 100000) (hg : ∀ (s : Shared) (H : Hp) (C : Addr) (cl : List (Str × Addr)) (fp : List Addr), Xg (X.blk s H scope (compEnvC scope cl C X.env) fp) tg t)
    (hw : t.within (own.map (·.2)) := by decide) (ok : blkC X.N X.env.scope scope own = true := by rfl) (hc : X.calm = true := by rfl) (hs : ∀ x, foldedSetIterable iter X.env x = pure x := by intro _; rfl) (hy : X.N[i]? = some y := by rfl) (hyl : X.env.scope.names.lookup y = some .local := by rfl)
    (hk : X.env.scope.kind = .function := by rfl) (hl : (py.line == pos.line) = true := by rfl) (ha : (scope.names.any fun (n, k) => n == y && (k == .local || k == .cell)) = false := by rfl) :
    Xs X E (.Assign [.Name y py] (.ListComp elt [⟨tg, iter, [], 0⟩] scope pos) spos) δ ω (.nx (δ.set i (some (.at_ ω.length))) (ω ++ [.rows rs])) := PS.sub (ps_lc own t hN hi hg ok hc hs hy hyl hk hl ha) (tAsg_new (lc_subR hw hz c))
/-- [x] * n, new -/
theorem xn_rep {a b : Expr} {x n : Int} {δ : Sl} (ha : Xe X a δ (dI [x])) (hb : Xe X b δ (.int n)) (h0 : 0 ≤ n) (hz : n ≤ 1000) : Xn X (.BinOp a .Mult b pos) δ (.nums (List.replicate n.toNat x)) := PE.sub (pe_op op_rep ha hb) fun σ H Q h => by
  obtain ⟨G, s, e, k⟩ := h
  refine ⟨G, s, e, fun v H1 G1 g1 d1 => ⟨G1, g1.sub, e.mono g1.gg, fun w H2 G2 g2 d2 => ?_⟩⟩
  obtain ⟨l, rfl, r⟩ := dI_inv d1
  rw [d2.int_inv]
  refine ⟨l, n, [.int x], rfl, rfl, g2.hh _ _ (g1.sub _ _ r), by omega, by omega, ?_, fun q hq => ?_⟩
  · have h1 : n.toNat ≤ 1000 := by omega
    rw [List.length_singleton, Nat.one_mul]
    exact Nat.le_of_lt (small1000 h1)
  · rw [flat_rep1]
    have hh := g1.hh.trans g2.hh
    refine k q [] _ (hh.trans (same_new hq)) ?_ (by simp) ⟨q, rfl, by rw [upd_same, List.map_replicate]⟩
    intro a ha
    rw [List.mem_singleton.mp ha]
    exact same_none hh hq
end
end Pa
namespace Pa
open PySem PySem.Spec PyProof.Rows L2
theorem LoopS.runN {X : Cx} {E : XK} {t : Tg} {body : List Stmt} {ds : List Dt} {δ : Ss} {ω : Om} (n : Nat) (δs : Nat → Ss) (ωs : Nat → Om) (hn : ds.length = n) (h1 : δ = δs 0) (h2 : ω = ωs 0) (k : ∀ j d, ds[j]? = some d → j < n → ∃ δ1 δ2, t.putS d (δs j) = some δ1 ∧ Xb X E body δ1 (ωs j) (.nx δ2 (ωs (j + 1))) ∧ LessS δ2 (δs (j + 1))) : LoopS X E t body ds δ ω (.nx (δs n) (ωs n)) := by
  subst hn
  exact LoopS.run δs ωs h1 h2 fun j d h => k j d h (List.getElem?_eq_some_iff.mp h).1
/-- over ints: n of them, f j the j-th -/
theorem LoopS.runI {X : Cx} {E : XK} {t : Tg} {body : List Stmt} {m : Nat} {f : Nat → Int} {δ : Ss} {ω : Om} (n : Nat) (δs : Nat → Ss) (ωs : Nat → Om) (hn : m = n) (h1 : δ = δs 0) (h2 : ω = ωs 0) (k : ∀ j, j < n → ∃ δ1 δ2, t.putS (.int (f j)) (δs j) = some δ1 ∧ Xb X E body δ1 (ωs j) (.nx δ2 (ωs (j + 1))) ∧ LessS δ2 (δs (j + 1))) : LoopS X E t body ((rngD m f).map Dt.int) δ ω (.nx (δs n) (ωs n)) := by
  refine LoopS.runN n δs ωs (by rw [List.length_map, rngD_len, hn]) h1 h2 fun j d h hj => ?_
  rw [List.getElem?_map, rngD_get (by omega)] at h
  cases h
  exact k j hj
theorem i_intE {X : Cx} {ns : List Int} {k v : Int} (h0 : 0 ≤ k) (h1 : k < ns.length) (e : ns.getD k.toNat 0 = v) : Xix X (dI ns) (.int k) (.int v) := by
  rw [← e]
  exact i_int h0 h1
theorem getD_some {α : Type} {xs : List α} {j : Nat} {d : α} (h : j < xs.length) : xs[j]? = some (xs.getD j d) := by
  rw [List.getD_eq_getElem?_getD, List.getElem?_eq_getElem h]
  rfl
theorem getD_mem {α : Type} {xs : List α} {j : Nat} {d : α} (h : j < xs.length) : xs.getD j d ∈ xs := by
  rw [List.getD_eq_getElem?_getD, List.getElem?_eq_getElem h]
  exact List.getElem_mem h
end Pa
namespace Pa
open PySem PySem.Spec PyProof.Rows L2
def toldD (c h as : List Int) : Dt := match firstLack c h as with
  | some k => .tup [.str "value", .int k, .int (leftBy c as k), .int (lesser c h k)]
  | none => .tup [.str "payments", .lst ((housePay c h as).map dI)]
def evens (c h : List Int) (n : Int) : List Int := List.replicate n.toNat (worth c h / n)
def sharedD (c h : List Int) (n : Int) : Dt := if 0 < worth c h % n then .tup [.str "worth", .int (worth c h % n)] else match firstLack c h (evens c h n) with
  | some k => .tup [.str "value", .int k, .int (leftBy c (evens c h n) k), .int (lesser c h k)]
  | none => .tup [.str "shares", .lst ((housePay c h (evens c h n)).map dI)]
/-- there are equal shares -/
def sharesB (c h : List Int) (n : Int) : Bool := decide (worth c h % n ≤ 0) && (firstLack c h (evens c h n)).isNone
theorem sharedD_tag (c h : List Int) (n : Int) : ∃ tag rest, sharedD c h n = .tup (.str tag :: rest) ∧ decide (tag = "shares") = sharesB c h n := by
  unfold sharedD sharesB
  by_cases h0 : 0 < worth c h % n
  · rw [if_pos h0, decide_eq_false (by omega)]
    exact ⟨_, _, rfl, by rw [Bool.false_and]; decide⟩
  · rw [if_neg h0, decide_eq_true (by omega)]
    cases firstLack c h (evens c h n) with
    | none => exact ⟨_, _, rfl, by decide⟩
    | some k => exact ⟨_, _, rfl, by rw [Option.isNone_some]; decide⟩
theorem firstLack_some {c h as : List Int} {k : Nat} (e : firstLack c h as = some k) : k ≤ c.length ∧ lacks c h as k = true := by
  unfold firstLack at e
  exact ⟨Nat.lt_succ_iff.mp (List.mem_range.mp (List.mem_of_find?_eq_some e)), List.find?_some e⟩
section
variable {X : Cx}
theorem o_repI {x n : Int} (h0 : 0 ≤ n) (hz : n ≤ 1000) : Xop X (binaryOp .Mult) (dI [x]) (.int n) (dI (List.replicate n.toNat x)) := by
  have e : dI (List.replicate n.toNat x) = .lst (List.replicate n.toNat (.int x)) := by
    show Dt.lst (List.map Dt.int _) = _
    rw [List.map_replicate]
  rw [e]
  exact o_rep h0 hz
theorem opE {f : Value → Value → Sem Value} {x y : Dt} {b c : Bool} (h : Xop X f x y (.bl b)) (e : b = c) : Xop X f x y (.bl c) := e ▸ h
theorem xeE {a : Expr} {δ : Sl} {x y : Dt} (h : Xe X a δ x) (e : x = y) : Xe X a δ y := e ▸ h
theorem i_tup0 {d : Dt} {ds : List Dt} : Xix X (.tup (d :: ds)) (.int 0) d := i_tup (atI_nat (j := 0) rfl)
theorem i_tup1 {d e : Dt} {ds : List Dt} : Xix X (.tup (d :: e :: ds)) (.int 1) e := i_tup (atI_nat (j := 1) rfl)
end
/-- rows that are heaps of that heap -/
structure Parts (c h : List Int) (rs : List (List Int)) : Prop where
  len : ∀ r ∈ rs, r.length = c.length
  rg : ∀ r ∈ rs, ∀ p ∈ r.zip h, 0 ≤ p.1 ∧ p.1 ≤ p.2
  col : ∀ k, k < h.length → (rs.map fun r => r.getD k 0).sum = h.getD k 0
section
variable {X : Cx} {δ : Sl} {pos p : Pos}
theorem neI_same {i j : Int} (e : i = j) : (!decide (i = j)) = false := by rw [e, decide_eq_true rfl]; rfl
theorem neI_other {i j : Int} (e : i ≠ j) : (!decide (i = j)) = true := by rw [decide_eq_false e]; rfl
end
end Pa
namespace Pa
open PySem PySem.Spec PyProof.Rows L2
def setsV : L2.St → List Nat → List V → L2.St
  | σ, i :: is, v :: vs => setsV (σ.set i (some v)) is vs
  | σ, _, _ => σ
inductive Caps (X : Cx) : List Pattern → List Str → List Nat → Prop
  | nil : Caps X [] [] []
  | cons {y : Str} {p : Pos} {i : Nat} {ps : List Pattern} {ys : List Str} {is : List Nat} (hi : X.N[i]? = some y) (hx : Loc X.env.scope y) (hf : X.fn y = true ∨ X.env.scope.names.lookup y = some .local) (r : Caps X ps ys is) : Caps X (.MatchAs none (some y) p :: ps) (y :: ys) (i :: is)
theorem caps_cons {X : Cx} {y : Str} {p : Pos} (i : Nat) {ps : List Pattern} {ys : List Str} {is : List Nat} (r : Caps X ps ys is) (hi : X.N[i]? = some y := by rfl) (hx : Loc X.env.scope y := by first | exact Or.inl rfl | exact Or.inr rfl) (hf : X.fn y = true ∨ X.env.scope.names.lookup y = some .local := by first | exact .inl rfl | exact .inr rfl) :
    Caps X (.MatchAs none (some y) p :: ps) (y :: ys) (i :: is) := .cons hi hx hf r
theorem Caps.each {X : Cx} {ps : List Pattern} {ys : List Str} {is : List Nat} (c : Caps X ps ys is) : ∀ {us : List Value} {s : Shared} {Q : Option (List (Str × Value)) → Shared → Prop}, us.length = ps.length → Q (some (ys.zip us)) s → wpAny (model X.prog X.w) X.A (matchEach ps X.env us) Q X.xe s := by
  induction c with
  | nil =>
    intro us s Q hl q
    exact wpAny_matchEach_nil (by cases us with | nil => exact q | cons u us => cases hl)
  | cons hi hx hf r ih =>
    intro us s Q hl q
    cases us with
    | nil => cases hl
    | cons u us =>
      refine wpAny_matchEach_cons (wpAny_matchPattern_Capture ?_)
      exact ih (Nat.succ.inj hl) q
theorem Caps.bind {X : Cx} {pins : List (Addr × Obj)} {ps : List Pattern} {ys : List Str} {is : List Nat} (c : Caps X ps ys is) (hN : X.N.Nodup) : ∀ {us : List Value} {vs : List V} {σ : L2.St} {H : Hp} {s : Shared} {Q : Unit → Shared → Prop}, Inv X pins σ H s → Vals vs us → us.length = ps.length → (∀ s', Inv X pins (setsV σ is vs) H s' → Q () s') →
    wpAny (model X.prog X.w) X.A (assignInOrder ((ys.zip us).map fun (n, _) => bindName X.env n) ((ys.zip us).map (·.2))) Q X.xe s := by
  induction c with
  | nil =>
    intro us vs σ H s Q I r hl q
    cases us with
    | nil =>
      cases r
      exact wpAny_assignInOrder_none (q _ I)
    | cons u us => cases hl
  | cons hi hx hf r ih =>
    intro us vs σ H s Q I rv hl q
    cases us with
    | nil => cases hl
    | cons u us =>
      cases rv with
      | cons r1 rr =>
        refine wpAny_assignInOrder_more (bindName_ (store_ok I hN hi hx r1 (fun s' I' => ?_) hf))
        exact ih I' rr (Nat.succ.inj hl) q
/-- a list of cases -/
structure PC (X : Cx) (cs : List MatchCase) (t : V → TS) : Prop where
  run : ∀ (first : Bool) (pins : List (Addr × Obj)) (s : Shared) (σ : L2.St) (H : Hp) (v : V) (u : Value) (D : Ends), Inv X pins σ H s → RelV v u → t v D σ H → wpAny (model X.prog X.w) X.A (matchCases cs X.env u first) (SP X pins D) X.xe s
theorem PC.sub {X : Cx} {cs : List MatchCase} {t t' : V → TS} (h : PC X cs t) (k : ∀ v D σ H, t' v D σ H → t v D σ H) : PC X cs t' := ⟨fun first pins s σ H v u D I r w => h.run first pins s σ H v u D I r (k _ _ _ _ w)⟩
section
variable {X : Cx} {pos p p1 p2 : Pos}
theorem ps_match {e : Expr} {cs : List MatchCase} {te : TE} {t : V → TS} (he : PE X e te) (hc : PC X cs t) : PS X (.Match e cs pos) (fun D σ H => te σ H fun v H1 => t v D σ H1) := ⟨fun pins s σ H D I h =>
  wpAny_Match (thn (he.run pins s σ H _ I h) fun u s1 ⟨v, H1, I1, r1, q1⟩ => hc.run true pins s1 σ H1 v u D I1 r1 q1)⟩
theorem pc_any {body : List Stmt} {t : TS} (hb : PSs X body t) : PC X [⟨.MatchAs none none p, none, body⟩] (fun _ => t) := ⟨fun first pins s σ H v u D I r h =>
  wpAny_matchCases_cons (wpAny_matchPattern_Capture (wpAny_assignInOrder_none (hb.run pins s σ H D I h)))⟩
theorem pc_never {cs : List MatchCase} : PC X cs (fun _ _ _ _ => False) := ⟨fun _ _ _ _ _ _ _ _ _ _ h => h.elim⟩
/-- case [text, name, ..], the subject a tuple that begins with a text -/
def tSeq (K : PySem.W.Frag) (x : Str) (is : List Nat) (t : TS) (u : V → TS) : V → TS := fun v D σ H => ∃ (a : Addr) (y : Str) (ws : List V), v = .ref a ∧ SqT K H a (.str y :: ws) ∧ (if ws.length = is.length ∧ y = x then t D (setsV σ is ws) H else u v D σ H)
theorem Caps.len {ps : List Pattern} {ys : List Str} {is : List Nat} (c : Caps X ps ys is) : ps.length = is.length := by
  induction c with
  | nil => rfl
  | cons _ _ _ _ ih => exact congrArg Nat.succ ih
theorem Caps.nostar {ps : List Pattern} {ys : List Str} {is : List Nat} (c : Caps X ps ys is) : ∀ x ∈ ps, Pattern.isStar x = false := by
  induction c with
  | nil => intro x hx; cases hx
  | cons _ _ _ _ ih =>
    intro x hx
    rcases List.mem_cons.mp hx with rfl | hx
    · rfl
    · exact ih x hx
theorem pc_seq {x : Str} {j : Nat} {ps : List Pattern} {ys : List Str} {is : List Nat} {body : List Stmt} {rest : List MatchCase} {t : TS} {u : V → TS} (hN : X.N.Nodup) (c : Caps X ps ys is) (hb : PSs X body t) (hr : PC X rest u) (hc : X.calm = true := by rfl) :
    PC X (⟨.MatchSequence (.MatchValue (.Constant (.str x) j p1) p2 :: ps) p, none, body⟩ :: rest) (tSeq X.K x is t u) := ⟨fun first pins s σ H v uu D I r h => by
  obtain ⟨a, y, ws, rfl, hq, h⟩ := h
  cases r
  obtain ⟨its, rv, ht, hz⟩ := I.tuple hq
  have hl : its.length = ws.length + 1 := by rw [← rv.length]; rfl
  have hlp : (Pattern.MatchValue (.Constant (.str x) j p1) p2 :: ps).length = is.length + 1 := congrArg Nat.succ c.len
  have hstar : (Pattern.MatchValue (.Constant (.str x) j p1) p2 :: ps).findIdx? (·.isStar) = none := List.findIdx?_eq_none_iff.mpr fun q hq => by
    rcases List.mem_cons.mp hq with rfl | hq
    · rfl
    · exact c.nostar q hq
  have hfit : (its.toArray.size : Int) < 2 ^ 63 := by
    rw [List.size_toArray, ← rv.length]
    have := sizeLine_eq
    omega
  have I2 : ∀ tk, Inv X pins σ H { s with toks := tk } := fun tk => I.kept fun _ _ e => e
  refine wpAny_matchCases_cons ?_
  by_cases hn : ws.length = is.length
  · refine matchSeq_tuple_hit ht hfit (by rw [List.size_toArray, hl, hlp, hn]) ?_ hstar (by rfl)
    have hsz : (Pattern.MatchValue (.Constant (.str x) j p1) p2 :: ps).length = its.toArray.size := by rw [List.size_toArray, hl, hlp, hn]
    rw [hsz]
    refine unpackItems_tuple (I.ok.hd hc) (s := { s with toks := s.toks + 1 + 1 }) ht fun h' hx => ?_
    have I3 : ∀ tk, Inv X pins σ H { s with heap := h', toks := tk } := fun tk => I.kept fun b o e => hx b o (Nat.ne_of_lt (Heap.lt_size e)) e
    cases rv with
    | cons r1 rr =>
      rename_i u1 us
      obtain ⟨tk, rfl⟩ := r1
      have hlu : us.length = ps.length := by
        have : us.length = ws.length := rr.length.symm
        rw [this, hn, c.len]
      refine wpAny_matchEach_cons (wpAny_matchPattern_Value (Calls.Constant_str ?_))
      by_cases hy : y = x
      · rw [if_pos ⟨hn, hy⟩] at h
        subst hy
        refine eq_str ?_
        rw [beq_self_eq_true]
        refine wpAny_truthy_bool ?_
        rw [if_pos rfl]
        refine c.each hlu ?_
        refine c.bind (pins := pins) hN (I3 _) rr hlu fun s' I' => ?_
        exact hb.run pins s' _ H D I' h
      · rw [if_neg fun z => hy z.2] at h
        refine eq_str ?_
        rw [beq_eq_false_iff_ne.mpr hy]
        refine wpAny_truthy_bool ?_
        rw [if_neg Bool.false_ne_true]
        exact hr.run false pins _ σ H (.ref a) _ D (I3 _) rfl h
  · refine matchSeq_tuple_miss ht hfit (by rw [List.size_toArray, hl, hlp]; omega) ?_ hstar (by rfl)
    rw [if_neg fun z => hn z.1] at h
    exact hr.run false pins _ σ H (.ref a) _ D (I2 _) rfl h⟩
end
end Pa
namespace Pa
open PySem PySem.Spec PyProof.Rows L2
def putsS : Ss → List Nat → List Dt → Ss
  | δ, i :: is, d :: ds => putsS (δ.set i (some (.sh d))) is ds
  | δ, _, _ => δ
theorem EnvR.puts {R H G : Hp} {ω : Om} {regs : List (List Addr)} : ∀ {is : List Nat} {vs : List V} {ds : List Dt} {σ : L2.St} {δ : Ss}, EnvR R H G σ δ ω regs → DenL G vs ds → EnvR R H G (setsV σ is vs) (putsS δ is ds) ω regs
  | [], vs, ds, σ, δ, e, dl => e
  | i :: is, [], [], σ, δ, e, dl => e
  | i :: is, v :: vs, [], σ, δ, e, dl => by cases dl.1
  | i :: is, [], d :: ds, σ, δ, e, dl => by cases dl.1
  | i :: is, v :: vs, d :: ds, σ, δ, e, dl => by
    obtain ⟨w, us, e1, h1, h2⟩ := dl.cons_inv
    cases e1
    exact EnvR.puts (is := is) (EnvR.set (i := i) (x := .sh d) e (fun d' h => by cases h; exact h1) trivial) h2
def tXm (E : XK) (δ : Ss) (ω : Om) (d : Dt) (O : Out) : V → TS := fun v D σ H => ∃ R G regs, EnvR R H G σ δ ω regs ∧ Den G v d ∧ Kn E R G regs D O
section
variable {X : Cx} {E : XK} {δ : Ss} {ω : Om} {O : Out} {pos p p1 p2 : Pos} {x y : Str} {j : Nat} {ps : List Pattern} {ys : List Str} {is : List Nat} {body : List Stmt} {rest : List MatchCase} {es : List Dt}
theorem xs_match {e : Expr} {cs : List MatchCase} {d : Dt} (he : Xe X e (still δ) d) (hc : PC X cs (tXm E δ ω d O)) : Xs X E (.Match e cs pos) δ ω O := PS.sub (ps_match he hc) fun D σ H h => by
  obtain ⟨R, G, regs, e, k⟩ := h
  exact tX_still e fun v H' G' g dv => ⟨R, G', regs, e.grow g, dv, k.mono g.gg (.refl _)⟩
theorem xm_hit (hN : X.N.Nodup) (c : Caps X ps ys is) (hb : Xb X E body (putsS δ is es) ω O) (hl : es.length = is.length := by rfl) (hc : X.calm = true := by rfl) : PC X (⟨.MatchSequence (.MatchValue (.Constant (.str x) j p1) p2 :: ps) p, none, body⟩ :: rest) (tXm E δ ω (.tup (.str x :: es)) O) :=
  PC.sub (pc_seq hN c hb pc_never hc) fun v D σ H h => by
    obtain ⟨R, G, regs, e, dv, k⟩ := h
    obtain ⟨a, vs, rfl, r, dl⟩ := dv.tup_inv
    obtain ⟨w, ws, rfl, d1, d2⟩ := dl.cons_inv
    rw [d1.str_inv] at r
    refine ⟨a, x, ws, rfl, .inl (.inl (e.gh _ _ r)), ?_⟩
    rw [if_pos ⟨by rw [d2.1, hl], rfl⟩]
    exact ⟨R, G, regs, e.puts d2, k⟩
theorem xm_miss (hN : X.N.Nodup) (c : Caps X ps ys is) (hne : ¬ (es.length = is.length ∧ y = x)) (hr : PC X rest (tXm E δ ω (.tup (.str y :: es)) O)) (hc : X.calm = true := by rfl) : PC X (⟨.MatchSequence (.MatchValue (.Constant (.str x) j p1) p2 :: ps) p, none, body⟩ :: rest) (tXm E δ ω (.tup (.str y :: es)) O) :=
  PC.sub (pc_seq hN c (pss_never (X := X)) hr hc) fun v D σ H h => by
    obtain ⟨R, G, regs, e, dv, k⟩ := h
    have dv0 := dv
    obtain ⟨a, vs, rfl, r, dl⟩ := dv.tup_inv
    obtain ⟨w, ws, rfl, d1, d2⟩ := dl.cons_inv
    rw [d1.str_inv] at r
    refine ⟨a, y, ws, rfl, .inl (.inl (e.gh _ _ r)), ?_⟩
    rw [if_neg fun z => hne ⟨by rw [← d2.1, z.1], z.2⟩]
    exact ⟨R, G, regs, e, dv0, k⟩
end
mutual
def Dt.toP : Dt → PyData
  | .non => .none
  | .bl b => .bool b
  | .int i => .int i
  | .str x => .str x
  | .lst xs => .list (Dt.toPs xs)
  | .tup xs => .tuple (Dt.toPs xs)
  | .dic _ => .none
  | .scr _ ns => .list (ns.map PyData.int)
def Dt.toPs : List Dt → List PyData
  | [] => []
  | d :: ds => d.toP :: Dt.toPs ds
end
mutual
/-- no dict stands in it -/
def Dt.nod : Dt → Bool
  | .lst xs => Dt.nods xs
  | .tup xs => Dt.nods xs
  | .dic _ => false
  | .scr _ _ => false
  | _ => true
def Dt.nods : List Dt → Bool
  | [] => true
  | d :: ds => d.nod && Dt.nods ds
end
theorem Den.inv {G : Hp} {v : V} {d : Dt} (h : Den G v d) : (d = .non ∧ v = .non) ∨ (∃ b, d = .bl b ∧ v = .bl b) ∨ (∃ i, d = .int i ∧ v = .int i) ∨ (∃ x, d = .str x ∧ v = .str x) ∨ (∃ a vs ds, d = .lst ds ∧ v = .ref a ∧ G a = some (.lst vs) ∧ DenL G vs ds) ∨ (∃ a vs ds, d = .tup ds ∧ v = .ref a ∧ G a = some (.tup vs) ∧ DenL G vs ds) ∨ (∃ a K ns, d = .scr K ns ∧ v = .ref a ∧ SqL K G a (ns.map V.int)) ∨ ∃ kds, d = .dic kds := by
  cases h with
  | non => exact .inl ⟨rfl, rfl⟩
  | bl b => exact .inr (.inl ⟨b, rfl, rfl⟩)
  | int i => exact .inr (.inr (.inl ⟨i, rfl, rfl⟩))
  | str x => exact .inr (.inr (.inr (.inl ⟨x, rfl, rfl⟩)))
  | lst h hl hd => exact .inr (.inr (.inr (.inr (.inl ⟨_, _, _, rfl, rfl, h, hl, hd⟩))))
  | tup h hl hd => exact .inr (.inr (.inr (.inr (.inr (.inl ⟨_, _, _, rfl, rfl, h, hl, hd⟩)))))
  | scr h => exact .inr (.inr (.inr (.inr (.inr (.inr (.inl ⟨_, _, _, rfl, rfl, h⟩))))))
  | dic h hk hd => exact .inr (.inr (.inr (.inr (.inr (.inr (.inr ⟨_, rfl⟩))))))
mutual
theorem Den.dp {K : PySem.W.Frag} {G H : Hp} (s : Same G H) : ∀ (d : Dt) (v : V), d.nod = true → Den G v d → Dp K H v d.toP
  | .non, v, _, h => by rw [h.non_inv]; exact .non
  | .bl b, v, _, h => by rw [h.bl_inv]; exact .bl b
  | .int i, v, _, h => by rw [h.int_inv]; exact .int i
  | .str x, v, _, h => by rw [h.str_inv]; exact .str x
  | .lst ds, v, n, h => by
    obtain ⟨a, vs, rfl, r, dl⟩ := h.lst_inv
    exact .lst (.inl (.inl (s _ _ r))) (DenL.dp s ds vs n dl)
  | .tup ds, v, n, h => by
    obtain ⟨a, vs, rfl, r, dl⟩ := h.tup_inv
    exact .tup (.inl (.inl (s _ _ r))) (DenL.dp s ds vs n dl)
  | .dic _, v, n, h => by cases n
  | .scr _ _, v, n, h => by cases n
theorem DenL.dp {K : PySem.W.Frag} {G H : Hp} (s : Same G H) : ∀ (ds : List Dt) (vs : List V), Dt.nods ds = true → DenL G vs ds → DpAll K H vs (Dt.toPs ds)
  | [], vs, _, h => by rw [h.nil_inv]; exact .nil
  | d :: ds, vs, n, h => by
    obtain ⟨v, ws, rfl, h1, h2⟩ := h.cons_inv
    have n : (d.nod && Dt.nods ds) = true := n
    rw [Bool.and_eq_true] at n
    exact .cons (Den.dp s d v n.1 h1) (DenL.dp s ds ws n.2 h2)
end
theorem nods_ints : ∀ ns : List Int, Dt.nods (ns.map Dt.int) = true
  | [] => rfl
  | n :: ns => by
    show ((Dt.int n).nod && Dt.nods (ns.map Dt.int)) = true
    rw [nods_ints ns]
    rfl
theorem nods_rows : ∀ rs : List (List Int), Dt.nods (rs.map dI) = true
  | [] => rfl
  | r :: rs => by
    show (Dt.nods (r.map Dt.int) && Dt.nods (rs.map dI)) = true
    rw [nods_rows rs, nods_ints r]
    rfl
theorem lay_ints : ∀ ns : List Int, PyData.canLayAll0 (Dt.toPs (ns.map Dt.int)) = true
  | [] => rfl
  | n :: ns => by
    show (true && PyData.canLayAll0 (Dt.toPs (ns.map Dt.int))) = true
    rw [lay_ints ns]
    rfl
theorem lay_rows : ∀ rs : List (List Int), PyData.canLayAll0 (Dt.toPs (rs.map dI)) = true
  | [] => rfl
  | r :: rs => by
    show (PyData.canLayAll0 (Dt.toPs (r.map Dt.int)) && PyData.canLayAll0 (Dt.toPs (rs.map dI))) = true
    rw [lay_rows rs, lay_ints r]
    rfl
theorem depth_ints : ∀ ns : List Int, PyData.depthAll (Dt.toPs (ns.map Dt.int)) = 0
  | [] => rfl
  | n :: ns => by
    show max 0 (PyData.depthAll (Dt.toPs (ns.map Dt.int))) = 0
    rw [depth_ints ns]
    rfl
theorem depth_rows : ∀ rs : List (List Int), PyData.depthAll (Dt.toPs (rs.map dI)) ≤ 1
  | [] => Nat.zero_le _
  | r :: rs => by
    show max (PyData.depthAll (Dt.toPs (r.map Dt.int)) + 1) (PyData.depthAll (Dt.toPs (rs.map dI))) ≤ 1
    have := depth_rows rs
    rw [depth_ints r]
    omega
theorem shaped_ints (ns : List Int) : SeqAt.shaped (dI ns).toP = true := by
  show (PyData.canLayAll0 (Dt.toPs (ns.map Dt.int)) && decide (PyData.depthAll (Dt.toPs (ns.map Dt.int)) + 1 ≤ 64)) = true
  rw [lay_ints, depth_ints]
  rfl
theorem shaped_rows (rs : List (List Int)) : SeqAt.shaped (Dt.lst (rs.map dI)).toP = true := by
  show (PyData.canLayAll0 (Dt.toPs (rs.map dI)) && decide (PyData.depthAll (Dt.toPs (rs.map dI)) + 1 ≤ 64)) = true
  have := depth_rows rs
  rw [lay_rows, decide_eq_true (by omega)]
  rfl
/-- (text, rows) | (text, ints) -/
theorem nod_tagRows (x : Str) (rs : List (List Int)) : (Dt.tup [.str x, .lst (rs.map dI)]).nod = true := by
  show (true && (Dt.nods (rs.map dI) && true)) = true
  rw [nods_rows]
  rfl
theorem shaped_tagRows (x : Str) (hx : PyData.strOk x = true) (rs : List (List Int)) : SeqAt.shaped (Dt.tup [.str x, .lst (rs.map dI)]).toP = true := by
  show ((PyData.strOk x && (PyData.canLayAll0 (Dt.toPs (rs.map dI)) && true)) && decide (max 0 (max (PyData.depthAll (Dt.toPs (rs.map dI)) + 1) 0) + 1 ≤ 64)) = true
  have := depth_rows rs
  rw [hx, lay_rows, decide_eq_true (by omega)]
  rfl
theorem nod_tagInts (x : Str) (ns : List Int) : (Dt.tup (.str x :: ns.map Dt.int)).nod = true := by
  show (true && Dt.nods (ns.map Dt.int)) = true
  rw [nods_ints]
  rfl
theorem shaped_tagInts (x : Str) (hx : PyData.strOk x = true) (ns : List Int) : SeqAt.shaped (Dt.tup (.str x :: ns.map Dt.int)).toP = true := by
  show ((PyData.strOk x && PyData.canLayAll0 (Dt.toPs (ns.map Dt.int))) && decide (max 0 (PyData.depthAll (Dt.toPs (ns.map Dt.int))) + 1 ≤ 64)) = true
  rw [hx, lay_ints, depth_ints]
  rfl
theorem nod_tupInts (ns : List Int) : (Dt.tup (ns.map Dt.int)).nod = true := nods_ints ns
theorem shaped_tupInts (ns : List Int) : SeqAt.shaped (Dt.tup (ns.map Dt.int)).toP = true := by
  show (PyData.canLayAll0 (Dt.toPs (ns.map Dt.int)) && decide (PyData.depthAll (Dt.toPs (ns.map Dt.int)) + 1 ≤ 64)) = true
  rw [lay_ints, depth_ints]
  rfl
section
variable {X : Cx}
theorem o_eqD {x y : Dt} (hu : X.A.units + 64 < cLine) (nx : x.nod = true) (ny : y.nod = true) (sx : SeqAt.shaped x.toP = true) (sy : SeqAt.shaped y.toP = true) : Xop X (compareOp .Eq) x y (.bl (PyData.eqv x.toP y.toP)) := OpR.sub (op_eqD hu) fun v w H Q ⟨G, s, a, b, k⟩ =>
  ⟨_, _, Den.dp s x v nx a, Den.dp s y w ny b, sx, sy, k _ _ _ (Grow.refl s) (.bl _)⟩
theorem o_neD {x y : Dt} (hu : X.A.units + 64 < cLine) (nx : x.nod = true) (ny : y.nod = true) (sx : SeqAt.shaped x.toP = true) (sy : SeqAt.shaped y.toP = true) : Xop X (compareOp .NotEq) x y (.bl (!PyData.eqv x.toP y.toP)) := OpR.sub (op_neD hu) fun v w H Q ⟨G, s, a, b, k⟩ =>
  ⟨_, _, Den.dp s x v nx a, Den.dp s y w ny b, sx, sy, k _ _ _ (Grow.refl s) (.bl _)⟩
/-- the same data -/
theorem o_eqSame {x : Dt} (hu : X.A.units + 64 < cLine) (nx : x.nod = true) (sx : SeqAt.shaped x.toP = true) : Xop X (compareOp .Eq) x x (.bl true) := by
  have h := o_eqD (X := X) hu nx nx sx sx
  unfold SeqAt.shaped at sx
  rw [Bool.and_eq_true] at sx
  rw [SeqAt.eqv_refl _ sx.1] at h
  exact h
theorem o_neSame {x : Dt} (hu : X.A.units + 64 < cLine) (nx : x.nod = true) (sx : SeqAt.shaped x.toP = true) : Xop X (compareOp .NotEq) x x (.bl false) := by
  have h := o_neD (X := X) hu nx nx sx sx
  unfold SeqAt.shaped at sx
  rw [Bool.and_eq_true] at sx
  rw [SeqAt.eqv_refl _ sx.1] at h
  exact h
end
end Pa
namespace Pa
open PySem PySem.Spec PyProof.Rows L2
section
variable {X : Cx} {scope : Scope} {elt : Expr} {δ : Sl}
theorem comp_zipB {i j : Nat} {c h : List Int} {f : Int → Int → Bool} (k : ∀ a b, (a, b) ∈ c.zip h → InB X scope fun Y => Xe Y elt ((δ.set i (some (.int a))).set j (some (.int b))) (.bl (f a b))) :
    CompD X scope (.two i j) [] elt δ (zipD (c.map Dt.int) (h.map Dt.int)) (((c.zip h).map fun p => f p.1 p.2).map Dt.bl) := by
  have e : zipD (c.map Dt.int) (h.map Dt.int) = (c.zip h).map fun p => .tup [.int p.1, .int p.2] := by
    unfold zipD
    rw [List.zip_map, List.map_map]
    rfl
  rw [e, List.map_map]
  exact comp_map (dl := fun p : Int × Int => (δ.set i (some (.int p.1))).set j (some (.int p.2))) (c.zip h) fun p hp => ⟨rfl, fun s H C cl fp => ⟨xts_nil, k p.1 p.2 hp s H C cl fp⟩⟩
theorem comp_enumB {i j : Nat} {h : List Int} {f : Nat → Int → Bool} (k : ∀ (m : Nat) (v : Int), h[m]? = some v → InB X scope fun Y => Xe Y elt ((δ.set i (some (.int m))).set j (some (.int v))) (.bl (f m v))) :
    CompD X scope (.two i j) [] elt δ (enumD (h.map Dt.int)) ((h.zipIdx.map fun p => f p.2 p.1).map Dt.bl) := by
  rw [enum_ints, List.map_map]
  exact comp_map (dl := fun p : Int × Nat => (δ.set i (some (.int p.2))).set j (some (.int p.1))) h.zipIdx fun p hp => ⟨rfl, fun s H C cl fp => ⟨xts_nil, k p.2 p.1 (by simpa using List.mem_zipIdx_iff_getElem?.mp hp) s H C cl fp⟩⟩
theorem comp_rows {j : Nat} {rs : List (List Int)} {f : List Int → Int} (k : ∀ r ∈ rs, InB X scope fun Y => Xe Y elt (δ.set j (some (dI r))) (.int (f r))) : CompD X scope (.one j) [] elt δ (rs.map dI) ((rs.map f).map Dt.int) := by
  rw [List.map_map]
  exact comp_map (dl := fun r => δ.set j (some (dI r))) rs fun r hr => ⟨rfl, fun s H C cl fp => ⟨xts_nil, k r hr s H C cl fp⟩⟩
theorem enum_len {h : List Int} : (enumD (h.map Dt.int)).length = h.length := by
  unfold enumD
  rw [List.length_map, List.length_zipIdx, List.length_map]
end
theorem all_map {α : Type} {xs : List α} {f : α → Bool} (h : ∀ x ∈ xs, f x = true) : (xs.map f).all id = true := by
  rw [List.all_map]
  exact List.all_eq_true.mpr h
end Pa
namespace Pa
def S1 (f : Nat → Int) : Nat → Int
  | 0 => 0
  | n + 1 => S1 f n + f n
theorem S1_cons (f : Nat → Int) : ∀ n, S1 f (n + 1) = f 0 + S1 (fun i => f (i + 1)) n
  | 0 => by show (0 : Int) + f 0 = f 0 + 0; omega
  | n + 1 => by
    show S1 f (n + 1) + f (n + 1) = f 0 + (S1 (fun i => f (i + 1)) n + f (n + 1))
    rw [S1_cons f n]
    omega
theorem S1_congr {f g : Nat → Int} : ∀ {n : Nat}, (∀ i, i < n → f i = g i) → S1 f n = S1 g n
  | 0, _ => rfl
  | n + 1, h => by
    show S1 f n + f n = S1 g n + g n
    rw [S1_congr fun i hi => h i (by omega), h n (by omega)]
theorem S1_add {f g : Nat → Int} : ∀ n, S1 (fun i => f i + g i) n = S1 f n + S1 g n
  | 0 => rfl
  | n + 1 => by
    show S1 (fun i => f i + g i) n + (f n + g n) = (S1 f n + f n) + (S1 g n + g n)
    rw [S1_add n]
    omega
theorem S1_sub {f g : Nat → Int} : ∀ n, S1 (fun i => f i - g i) n = S1 f n - S1 g n
  | 0 => rfl
  | n + 1 => by
    show S1 (fun i => f i - g i) n + (f n - g n) = (S1 f n + f n) - (S1 g n + g n)
    rw [S1_sub n]
    omega
theorem S1_mul {f : Nat → Int} {v : Int} : ∀ n, S1 (fun i => f i * v) n = S1 f n * v
  | 0 => (Int.zero_mul v).symm
  | n + 1 => by
    show S1 (fun i => f i * v) n + f n * v = (S1 f n + f n) * v
    rw [S1_mul n, Int.add_mul]
theorem S1_zero : ∀ n, S1 (fun _ => 0) n = 0
  | 0 => rfl
  | n + 1 => by
    show S1 (fun _ => 0) n + 0 = 0
    rw [S1_zero n]
    rfl
theorem S1_nonneg {f : Nat → Int} : ∀ {n : Nat}, (∀ i, i < n → 0 ≤ f i) → 0 ≤ S1 f n
  | 0, _ => Int.le_refl _
  | n + 1, h => by
    have h1 := S1_nonneg (n := n) fun i hi => h i (by omega)
    have h2 := h n (by omega)
    show 0 ≤ S1 f n + f n
    omega
theorem S1_le {f g : Nat → Int} : ∀ {n : Nat}, (∀ i, i < n → f i ≤ g i) → S1 f n ≤ S1 g n
  | 0, _ => Int.le_refl _
  | n + 1, h => by
    have h1 := S1_le (n := n) fun i hi => h i (by omega)
    have h2 := h n (by omega)
    show S1 f n + f n ≤ S1 g n + g n
    omega
/-- one is at most the sum -/
theorem S1_one {f : Nat → Int} {j : Nat} : ∀ {n : Nat}, (∀ i, i < n → 0 ≤ f i) → j < n → f j ≤ S1 f n
  | 0, _, hj => absurd hj (Nat.not_lt_zero j)
  | n + 1, h, hj => by
    have h1 := S1_nonneg (n := n) fun i hi => h i (by omega)
    have h2 := h n (by omega)
    show f j ≤ S1 f n + f n
    by_cases e : j = n
    · subst e
      omega
    · have := S1_one (n := n) (fun i hi => h i (by omega)) (show j < n by omega)
      omega
/-- a sum that is none, of terms that are not below none -/
theorem S1_all0 {f : Nat → Int} {n : Nat} (h : ∀ i, i < n → 0 ≤ f i) (e : S1 f n = 0) {j : Nat} (hj : j < n) : f j = 0 := by
  have h1 := S1_one h hj
  have h2 := h j hj
  omega
theorem S1_set {f g : Nat → Int} {k : Nat} {x : Int} : ∀ {n : Nat}, k < n → (∀ i, i < n → i ≠ k → f i = g i) → f k = g k + x → S1 f n = S1 g n + x
  | 0, hk, _, _ => absurd hk (Nat.not_lt_zero k)
  | n + 1, hk, h, e => by
    show S1 f n + f n = S1 g n + g n + x
    by_cases ek : k = n
    · subst ek
      rw [S1_congr (f := f) (g := g) fun i hi => h i (by omega) (by omega), e]
      omega
    · rw [S1_set (n := n) (by omega) (fun i hi hne => h i (by omega) hne) e, h n (by omega) (by omega)]
      omega
theorem sum_S1 : ∀ xs : List Int, xs.sum = S1 (fun i => xs.getD i 0) xs.length
  | [] => rfl
  | x :: xs => by
    rw [List.sum_cons, List.length_cons, S1_cons, sum_S1 xs]
    rfl
theorem sum_map_S1 {α : Type} (d : α) (f : α → Int) : ∀ xs : List α, (xs.map f).sum = S1 (fun i => f (xs.getD i d)) xs.length
  | [] => rfl
  | x :: xs => by
    rw [List.map_cons, List.sum_cons, List.length_cons, S1_cons, sum_map_S1 d f xs]
    rfl
theorem worth_S1 : ∀ {c h : List Int}, h.length = c.length → worth c h = S1 (fun k => c.getD k 0 * h.getD k 0) c.length
  | [], h, _ => rfl
  | v :: c, [], e => by cases e
  | v :: c, x :: h, e => by
    have ih := worth_S1 (c := c) (h := h) (Nat.succ.inj e)
    unfold worth at ih ⊢
    rw [List.zip_cons_cons, List.map_cons, List.sum_cons, List.length_cons, S1_cons, ih]
    rfl
theorem take_getD {xs : List Int} {k i : Nat} (hi : i < k) : (xs.take k).getD i 0 = xs.getD i 0 := by
  rw [List.getD_eq_getElem?_getD, List.getD_eq_getElem?_getD, List.getElem?_take, if_pos hi]
theorem lesser_S1 {c h : List Int} (e : h.length = c.length) {k : Nat} (hk : k ≤ c.length) : lesser c h k = S1 (fun i => c.getD i 0 * h.getD i 0) k := by
  unfold lesser
  rw [worth_S1 (by rw [List.length_take, List.length_take, e]), List.length_take, Nat.min_eq_left hk]
  exact S1_congr fun i hi => by rw [take_getD hi, take_getD hi]
theorem lesser_all {c h : List Int} (e : h.length = c.length) : lesser c h c.length = worth c h := by
  unfold lesser
  rw [List.take_of_length_le (Nat.le_refl _), List.take_of_length_le (by omega)]
theorem leftBy_S1 {c as : List Int} {k : Nat} (hk : k < c.length) : leftBy c as k = S1 (fun j => as.getD j 0 % c.getD k 0) as.length := by
  unfold leftBy
  rw [if_neg (by omega), sum_map_S1 0]
/-- each value divides each later one -/
theorem Chn.dvd {c : List Int} (h : Chn c) {i : Nat} : ∀ {j : Nat}, i ≤ j → j < c.length → c.getD i 0 ∣ c.getD j 0
  | 0, hi, _ => by
    have e : i = 0 := by omega
    rw [e]
    exact Int.dvd_refl _
  | j + 1, hi, hj => by
    by_cases e : i = j + 1
    · rw [e]
      exact Int.dvd_refl _
    · exact Int.dvd_trans (Chn.dvd h (j := j) (by omega) (by omega)) (Int.dvd_of_emod_eq_zero (h.st j hj).2)
theorem sub_mod {a x v d : Int} (h : d ∣ v) : (a - x * v) % d = a % d := by
  obtain ⟨e, rfl⟩ := h
  have : a - x * (d * e) = a + d * (-(x * e)) := by
    rw [Int.mul_neg, ← Int.sub_eq_add_neg, Int.mul_left_comm]
  rw [this, Int.add_mul_emod_self_left]
end Pa
namespace Pa
theorem getD_set_self {α : Type} {xs : List α} {j : Nat} {x d : α} (h : j < xs.length) : (xs.set j x).getD j d = x := by
  rw [getD_set, if_pos ⟨rfl, h⟩]
theorem getD_set_ne {α : Type} {xs : List α} {j i : Nat} {x d : α} (h : j ≠ i) : (xs.set j x).getD i d = xs.getD i d := by
  rw [getD_set, if_neg (fun z => h z.1)]
/-- what the i-th payment gets of v -/
def got (v : Int) (k : Nat) (s : Pay) (i : Nat) : Int := min (Pay.turns v k s i).count (s.left.getD i 0 / v)
structure Turned (v : Int) (k : Nat) (s : Pay) (n j : Nat) : Prop where
  cnt : (Pay.turns v k s j).count = s.count - S1 (got v k s) j
  lef : ∀ i, (Pay.turns v k s j).left.getD i 0 = if i < j then s.left.getD i 0 - got v k s i * v else s.left.getD i 0
  row : ∀ i, (Pay.turns v k s j).rows.getD i [] = if i < j then (s.rows.getD i []).set k (got v k s i) else s.rows.getD i []
  pos : 0 ≤ (Pay.turns v k s j).count
  all : (Pay.turns v k s j).count = 0 ∨ ∀ i, i < j → got v k s i = s.left.getD i 0 / v
  got0 : ∀ i, i < j → 0 ≤ got v k s i ∧ got v k s i ≤ s.left.getD i 0 / v
theorem turned {v : Int} {k : Nat} {s : Pay} {n : Nat} (hv : 0 < v) (hc : 0 ≤ s.count) (hr : s.rows.length = n) (hl : s.left.length = n) (hp : ∀ i, i < n → 0 ≤ s.left.getD i 0) : ∀ j, j ≤ n → Turned v k s n j
  | 0, _ => ⟨by show s.count = s.count - 0; omega, fun i => by rw [if_neg (by omega)]; rfl, fun i => by rw [if_neg (by omega)]; rfl, hc, .inr fun i hi => absurd hi (Nat.not_lt_zero i), fun i hi => absurd hi (Nat.not_lt_zero i)⟩
  | j + 1, hj => by
    have T := turned (k := k) hv hc hr hl hp j (by omega)
    have hjl : j < (Pay.turns v k s j).left.length := by rw [turns_len.2]; omega
    have hjr : j < (Pay.turns v k s j).rows.length := by rw [turns_len.1]; omega
    have el : (Pay.turns v k s j).left.getD j 0 = s.left.getD j 0 := by rw [T.lef j, if_neg (by omega)]
    have er : (Pay.turns v k s j).rows.getD j [] = s.rows.getD j [] := by rw [T.row j, if_neg (by omega)]
    have eg : min (Pay.turns v k s j).count ((Pay.turns v k s j).left.getD j 0 / v) = got v k s j := by rw [el]; rfl
    have e1 : (Pay.turns v k s (j + 1)).count = (Pay.turns v k s j).count - got v k s j := by
      show (Pay.turns v k s j).count - min (Pay.turns v k s j).count ((Pay.turns v k s j).left.getD j 0 / v) = _
      rw [eg]
    have e2 : (Pay.turns v k s (j + 1)).left = (Pay.turns v k s j).left.set j (s.left.getD j 0 - got v k s j * v) := by
      show (Pay.turns v k s j).left.set j ((Pay.turns v k s j).left.getD j 0 - min (Pay.turns v k s j).count ((Pay.turns v k s j).left.getD j 0 / v) * v) = _
      rw [eg, el]
    have e3 : (Pay.turns v k s (j + 1)).rows = (Pay.turns v k s j).rows.set j ((s.rows.getD j []).set k (got v k s j)) := by
      show (Pay.turns v k s j).rows.set j (((Pay.turns v k s j).rows.getD j []).set k (min (Pay.turns v k s j).count ((Pay.turns v k s j).left.getD j 0 / v))) = _
      rw [eg, er]
    have hq : 0 ≤ s.left.getD j 0 / v := Int.ediv_nonneg (hp j (by omega)) (by omega)
    have hg : 0 ≤ got v k s j ∧ got v k s j ≤ s.left.getD j 0 / v ∧ got v k s j ≤ (Pay.turns v k s j).count := by
      unfold got
      have := T.pos
      omega
    refine ⟨?_, fun i => ?_, fun i => ?_, ?_, ?_, fun i hi => ?_⟩
    · rw [e1, T.cnt]
      show _ = s.count - (S1 (got v k s) j + got v k s j)
      omega
    · rw [e2]
      by_cases h : i = j
      · subst h
        rw [getD_set_self hjl, if_pos (by omega)]
      · rw [getD_set_ne (Ne.symm h), T.lef i]
        by_cases h2 : i < j
        · rw [if_pos h2, if_pos (by omega)]
        · rw [if_neg h2, if_neg (by omega)]
    · rw [e3]
      by_cases h : i = j
      · subst h
        rw [getD_set_self hjr, if_pos (by omega)]
      · rw [getD_set_ne (Ne.symm h), T.row i]
        by_cases h2 : i < j
        · rw [if_pos h2, if_pos (by omega)]
        · rw [if_neg h2, if_neg (by omega)]
    · rw [e1]
      omega
    · rw [e1]
      by_cases hmin : got v k s j = s.left.getD j 0 / v
      · rcases T.all with h0 | hall
        · left
          have : got v k s j ≤ 0 := by omega
          omega
        · right
          intro i hi
          by_cases h : i = j
          · rw [h]
            exact hmin
          · exact hall i (by omega)
      · left
        have : got v k s j = (Pay.turns v k s j).count := by
          unfold got at hmin ⊢
          omega
        omega
    · by_cases h : i = j
      · rw [h]
        exact ⟨hg.1, hg.2.1⟩
      · exact T.got0 i (by omega)
/-- enough room for all pieces: all are given -/
theorem turned_all {v : Int} {k : Nat} {s : Pay} {n : Nat} (T : Turned v k s n n) (hs : s.count ≤ S1 (fun i => s.left.getD i 0 / v) n) : S1 (got v k s) n = s.count := by
  have h1 := T.cnt
  have h2 := T.pos
  rcases T.all with h0 | hall
  · omega
  · have : S1 (got v k s) n = S1 (fun i => s.left.getD i 0 / v) n := S1_congr hall
    omega
/-- behind i of the values, the greatest first -/
structure Paid (c h as : List Int) (i : Nat) : Prop where
  lef : ∀ j, j < as.length → 0 ≤ (payAt c h as i).2.getD j 0
  md : ∀ j, j < as.length → ∀ k, k < c.length - i → (payAt c h as i).2.getD j 0 % c.getD k 0 = as.getD j 0 % c.getD k 0
  sum : S1 (fun j => (payAt c h as i).2.getD j 0) as.length = lesser c h (c.length - i)
  row : ∀ j, j < as.length → worth c ((payAt c h as i).1.getD j []) + (payAt c h as i).2.getD j 0 = as.getD j 0
  col : ∀ k, c.length - i ≤ k → k < c.length → S1 (fun j => ((payAt c h as i).1.getD j []).getD k 0) as.length = h.getD k 0
  zer : ∀ j, j < as.length → ∀ k, k < c.length - i → ((payAt c h as i).1.getD j []).getD k 0 = 0
  pos : ∀ j, j < as.length → ∀ k, k < c.length → 0 ≤ ((payAt c h as i).1.getD j []).getD k 0
theorem replicate_getD {α : Type} {n i : Nat} {x d : α} (h : i < n) : (List.replicate n x).getD i d = x := by
  rw [List.getD_eq_getElem?_getD, List.getElem?_replicate, if_pos h]
  rfl
theorem worth_zero {c : List Int} {n : Nat} (h : n = c.length) : worth c (List.replicate n 0) = 0 := by
  rw [worth_S1 (by rw [List.length_replicate, h])]
  rw [S1_congr (g := fun _ => 0) fun i hi => by rw [replicate_getD (by omega), Int.mul_zero]]
  exact S1_zero _
theorem worth_set {c r : List Int} {k : Nat} {x : Int} (hl : r.length = c.length) (hk : k < c.length) (h0 : r.getD k 0 = 0) : worth c (r.set k x) = worth c r + c.getD k 0 * x := by
  rw [worth_S1 (by rw [List.length_set, hl]), worth_S1 hl]
  refine S1_set hk (fun i hi hne => by rw [getD_set_ne (Ne.symm hne)]) ?_
  rw [getD_set_self (by omega), h0, Int.mul_zero, Int.zero_add]
theorem paid {c h as : List Int} (hc : Chn c) (hh : Hep c h) (ha : ∀ j, j < as.length → 0 ≤ as.getD j 0) (hs : S1 (fun j => as.getD j 0) as.length = worth c h) (hl : ∀ k, k < c.length → leftBy c as k ≤ lesser c h k) : ∀ i, i ≤ c.length → Paid c h as i
  | 0, _ => by
    refine ⟨ha, fun j hj k hk => rfl, ?_, fun j hj => ?_, fun k h1 h2 => by omega, fun j hj k hk => ?_, fun j hj k hk => ?_⟩
    · rw [Nat.sub_zero, lesser_all hh.len]
      exact hs
    · show worth c ((List.replicate as.length (List.replicate c.length 0)).getD j []) + as.getD j 0 = as.getD j 0
      rw [replicate_getD hj, worth_zero rfl]
      omega
    · show ((List.replicate as.length (List.replicate c.length (0 : Int))).getD j []).getD k 0 = 0
      rw [replicate_getD hj, replicate_getD (by omega)]
    · show 0 ≤ ((List.replicate as.length (List.replicate c.length (0 : Int))).getD j []).getD k 0
      rw [replicate_getD hj, replicate_getD hk]
      omega
  | i + 1, hi => by
    have P := paid hc hh ha hs hl i (by omega)
    obtain ⟨p1, p2, p3⟩ := payAt_len (c := c) (h := h) (as := as) i
    have e1 : payAt c h as (i + 1) = ((Pay.turns (c.getD (c.length - 1 - i) 0) (c.length - 1 - i) ⟨h.getD (c.length - 1 - i) 0, (payAt c h as i).1, (payAt c h as i).2⟩ as.length).rows, (Pay.turns (c.getD (c.length - 1 - i) 0) (c.length - 1 - i) ⟨h.getD (c.length - 1 - i) 0, (payAt c h as i).1, (payAt c h as i).2⟩ as.length).left) := rfl
    have ek1 : c.length - i = (c.length - 1 - i) + 1 := by omega
    have ek2 : c.length - (i + 1) = c.length - 1 - i := by omega
    have hk : c.length - 1 - i < c.length := by omega
    have hv := hc.getD hk
    have hcnt : 0 ≤ h.getD (c.length - 1 - i) 0 := (hh.rg _ (getD_mem (by rw [hh.len]; omega))).1
    have T := turned (v := c.getD (c.length - 1 - i) 0) (k := c.length - 1 - i) (s := ⟨h.getD (c.length - 1 - i) 0, (payAt c h as i).1, (payAt c h as i).2⟩) (n := as.length) (by omega) hcnt p1 p2 P.lef as.length (Nat.le_refl _)
    have P1 := P.lef
    have P2 := P.md
    have P3 := P.sum
    have P4 := P.row
    have P5 := P.col
    have P6 := P.zer
    have P7 := P.pos
    rw [ek1] at P2 P3 P5 P6
    have hroom : h.getD (c.length - 1 - i) 0 ≤ S1 (fun j => (payAt c h as i).2.getD j 0 / c.getD (c.length - 1 - i) 0) as.length := by
      have hle := hl (c.length - 1 - i) hk
      rw [leftBy_S1 hk] at hle
      have hmod : S1 (fun j => (payAt c h as i).2.getD j 0 % c.getD (c.length - 1 - i) 0) as.length = S1 (fun j => as.getD j 0 % c.getD (c.length - 1 - i) 0) as.length := S1_congr fun j hj => P2 j hj _ (by omega)
      have hdiv : S1 (fun j => (payAt c h as i).2.getD j 0) as.length = S1 (fun j => (payAt c h as i).2.getD j 0 / c.getD (c.length - 1 - i) 0) as.length * c.getD (c.length - 1 - i) 0 + S1 (fun j => (payAt c h as i).2.getD j 0 % c.getD (c.length - 1 - i) 0) as.length := by
        rw [← S1_mul, ← S1_add]
        exact S1_congr fun j hj => by rw [Int.mul_comm, Int.mul_ediv_add_emod]
      have hless : lesser c h (c.length - 1 - i + 1) = lesser c h (c.length - 1 - i) + c.getD (c.length - 1 - i) 0 * h.getD (c.length - 1 - i) 0 := by
        rw [lesser_S1 hh.len (by omega), lesser_S1 hh.len (by omega)]
        rfl
      rw [P3, hless, hmod] at hdiv
      have hm : h.getD (c.length - 1 - i) 0 * c.getD (c.length - 1 - i) 0 ≤ S1 (fun j => (payAt c h as i).2.getD j 0 / c.getD (c.length - 1 - i) 0) as.length * c.getD (c.length - 1 - i) 0 := by
        rw [Int.mul_comm (h.getD (c.length - 1 - i) 0)]
        omega
      exact Int.le_of_mul_le_mul_right hm (by omega)
    have A := turned_all T hroom
    have hrow : ∀ j, j < as.length → ((payAt c h as i).1.getD j []).length = c.length := fun j hj => p3 _ (getD_mem (by omega))
    have hlessE : lesser c h (c.length - 1 - i + 1) = lesser c h (c.length - 1 - i) + c.getD (c.length - 1 - i) 0 * h.getD (c.length - 1 - i) 0 := by
      rw [lesser_S1 hh.len (by omega), lesser_S1 hh.len (by omega)]
      rfl
    have hTl : ∀ j, j < as.length → (payAt c h as (i + 1)).2.getD j 0 = (payAt c h as i).2.getD j 0 - got (c.getD (c.length - 1 - i) 0) (c.length - 1 - i) ⟨h.getD (c.length - 1 - i) 0, (payAt c h as i).1, (payAt c h as i).2⟩ j * c.getD (c.length - 1 - i) 0 := fun j hj => by
      rw [e1]
      show (Pay.turns _ _ _ _).left.getD j 0 = _
      rw [T.lef j, if_pos hj]
    have hTr : ∀ j, j < as.length → (payAt c h as (i + 1)).1.getD j [] = ((payAt c h as i).1.getD j []).set (c.length - 1 - i) (got (c.getD (c.length - 1 - i) 0) (c.length - 1 - i) ⟨h.getD (c.length - 1 - i) 0, (payAt c h as i).1, (payAt c h as i).2⟩ j) := fun j hj => by
      rw [e1]
      show (Pay.turns _ _ _ _).rows.getD j [] = _
      rw [T.row j, if_pos hj]
    generalize hX : got (c.getD (c.length - 1 - i) 0) (c.length - 1 - i) ⟨h.getD (c.length - 1 - i) 0, (payAt c h as i).1, (payAt c h as i).2⟩ = X at *
    have hg := T.got0
    rw [hX] at hg
    refine ⟨fun j hj => ?_, fun j hj k hkk => ?_, ?_, fun j hj => ?_, fun k h1 h2 => ?_, fun j hj k hkk => ?_, fun j hj k hkk => ?_⟩
    · rw [hTl j hj]
      have h1 := (hg j hj).2
      have h1 : X j ≤ (payAt c h as i).2.getD j 0 / c.getD (c.length - 1 - i) 0 := h1
      have h2 : X j * c.getD (c.length - 1 - i) 0 ≤ (payAt c h as i).2.getD j 0 / c.getD (c.length - 1 - i) 0 * c.getD (c.length - 1 - i) 0 := Int.mul_le_mul_of_nonneg_right h1 (by omega)
      have h3 := Int.ediv_mul_le ((payAt c h as i).2.getD j 0) (b := c.getD (c.length - 1 - i) 0) (by omega)
      omega
    · rw [hTl j hj, sub_mod (hc.dvd (by omega) hk)]
      exact P2 j hj k (by omega)
    · rw [ek2, S1_congr hTl, S1_sub, S1_mul, P3, A, hlessE, Int.mul_comm (h.getD _ _)]
      omega
    · rw [hTr j hj, hTl j hj, worth_set (hrow j hj) hk (P6 j hj _ (by omega)), Int.mul_comm (c.getD _ _)]
      have := P4 j hj
      omega
    · by_cases hkk : k = c.length - 1 - i
      · subst hkk
        rw [S1_congr (g := X) fun j hj => by rw [hTr j hj, getD_set_self (by rw [hrow j hj]; omega)]]
        exact A
      · rw [S1_congr (g := fun j => ((payAt c h as i).1.getD j []).getD k 0) fun j hj => by rw [hTr j hj, getD_set_ne (Ne.symm hkk)]]
        exact P5 k (by omega) h2
    · rw [hTr j hj, getD_set_ne (by omega)]
      exact P6 j hj k (by omega)
    · rw [hTr j hj]
      by_cases hkk2 : c.length - 1 - i = k
      · subst hkk2
        rw [getD_set_self (by rw [hrow j hj]; omega)]
        exact (hg j hj).1
      · rw [getD_set_ne hkk2]
        exact P7 j hj k hkk
theorem mem_getD {α : Type} {xs : List α} {x d : α} (h : x ∈ xs) : ∃ i, i < xs.length ∧ xs.getD i d = x := by
  obtain ⟨i, hi, e⟩ := List.mem_iff_getElem.mp h
  exact ⟨i, hi, by rw [List.getD_eq_getElem?_getD, List.getElem?_eq_getElem hi, e]; rfl⟩
theorem mem_zip_getD : ∀ {xs ys : List Int} {p : Int × Int}, p ∈ xs.zip ys → ∃ k, k < xs.length ∧ k < ys.length ∧ p = (xs.getD k 0, ys.getD k 0)
  | [], ys, p, h => by cases h
  | x :: xs, [], p, h => by cases h
  | x :: xs, y :: ys, p, h => by
    rw [List.zip_cons_cons] at h
    rcases List.mem_cons.mp h with rfl | h
    · exact ⟨0, Nat.succ_pos _, Nat.succ_pos _, rfl⟩
    · obtain ⟨k, h1, h2, e⟩ := mem_zip_getD h
      exact ⟨k + 1, Nat.succ_lt_succ h1, Nat.succ_lt_succ h2, e⟩
/-- no lack: the payments are worth their amounts, and together the heap -/
theorem house_good {c h as : List Int} (hc : Chn c) (hh : Hep c h) (ha : ∀ j, j < as.length → 0 ≤ as.getD j 0) (hs : as.sum = worth c h) (hl : ∀ k, k < c.length → leftBy c as k ≤ lesser c h k) :
    (housePay c h as).length = as.length ∧ Parts c h (housePay c h as) ∧ ∀ j, j < as.length → worth c ((housePay c h as).getD j []) = as.getD j 0 := by
  rw [sum_S1] at hs
  have P := paid hc hh ha hs hl c.length (Nat.le_refl _)
  obtain ⟨p1, p2, p3⟩ := payAt_len (c := c) (h := h) (as := as) c.length
  have e0 : c.length - c.length = 0 := Nat.sub_self _
  have P3 := P.sum
  rw [e0] at P3
  have hz : ∀ j, j < as.length → (payAt c h as c.length).2.getD j 0 = 0 := fun j hj => S1_all0 P.lef (P3.trans (by rw [lesser_S1 hh.len (Nat.zero_le _)]; rfl)) hj
  refine ⟨p1, ⟨p3, fun r hr p hp => ?_, fun k hk => ?_⟩, fun j hj => ?_⟩
  · obtain ⟨j, hj, rfl⟩ := mem_getD (d := []) hr
    have hj : j < as.length := by rw [← p1]; exact hj
    have hrl : ((payAt c h as c.length).1.getD j []).length = c.length := p3 _ hr
    obtain ⟨k, hk1, hkh, ep⟩ := mem_zip_getD hp
    have hk1 : k < ((payAt c h as c.length).1.getD j []).length := hk1
    have e1 : p.1 = ((payAt c h as c.length).1.getD j []).getD k 0 := by
      rw [ep]
      rfl
    have e2 : p.2 = h.getD k 0 := by rw [ep]
    rw [e1, e2]
    have hkc : k < c.length := by rw [← hrl]; exact hk1
    refine ⟨P.pos j hj k hkc, ?_⟩
    rw [← P.col k (by omega) hkc]
    exact S1_one (f := fun j => ((payAt c h as c.length).1.getD j []).getD k 0) (fun i hi => P.pos i hi k hkc) hj
  · rw [sum_map_S1 []]
    have hkc : k < c.length := by rw [← hh.len]; exact hk
    have := P.col k (by omega) hkc
    rw [show (housePay c h as).length = as.length from p1]
    exact this
  · have := P.row j hj
    rw [hz j hj] at this
    show worth c ((payAt c h as c.length).1.getD j []) = _
    omega
/-- equal amounts -/
theorem evens_good {c h : List Int} {n : Int} (hc : Chn c) (hh : Hep c h) (h2 : 2 ≤ n) (hs : sharesB c h n = true) : (housePay c h (evens c h n)).length = n.toNat ∧ Parts c h (housePay c h (evens c h n)) ∧ ∀ r ∈ housePay c h (evens c h n), worth c r = worth c h / n := by
  unfold sharesB at hs
  rw [Bool.and_eq_true, decide_eq_true_eq, Option.isNone_iff_eq_none] at hs
  obtain ⟨h0, hf⟩ := hs
  have hm : worth c h % n = 0 := by
    have := Int.emod_nonneg (worth c h) (show n ≠ 0 by omega)
    omega
  have hw0 : 0 ≤ worth c h := by
    rw [worth_S1 hh.len]
    refine S1_nonneg fun k hk => Int.mul_nonneg ?_ (hh.rg _ (getD_mem (by rw [hh.len]; exact hk))).1
    have := hc.getD hk
    omega
  have hq : 0 ≤ worth c h / n := Int.ediv_nonneg hw0 (by omega)
  have el : (evens c h n).length = n.toNat := List.length_replicate
  have eg : ∀ j, j < (evens c h n).length → (evens c h n).getD j 0 = worth c h / n := fun j hj => replicate_getD (by rw [← el]; exact hj)
  have hsum : (evens c h n).sum = worth c h := by
    rw [sum_S1, S1_congr (g := fun _ => 1 * (worth c h / n)) fun j hj => by rw [eg j hj, Int.one_mul], S1_mul, el]
    have e1 : S1 (fun _ => 1) n.toNat = n := by
      have : ∀ m : Nat, S1 (fun _ => 1) m = m := fun m => by
        induction m with
        | zero => rfl
        | succ m ih =>
          show S1 (fun _ => 1) m + 1 = _
          rw [ih]
          rfl
      rw [this, Int.toNat_of_nonneg (by omega)]
    rw [e1, Int.mul_ediv_cancel' (Int.dvd_of_emod_eq_zero hm)]
  have hlack : ∀ k, k < c.length → leftBy c (evens c h n) k ≤ lesser c h k := fun k hk => by
    unfold firstLack at hf
    have := List.find?_eq_none.mp hf k (List.mem_range.mpr (by omega))
    unfold lacks at this
    rw [decide_eq_true_eq] at this
    omega
  obtain ⟨a, b, d⟩ := house_good (as := evens c h n) hc hh (fun j hj => by rw [eg j hj]; exact hq) hsum hlack
  refine ⟨a.trans el, b, fun r hr => ?_⟩
  obtain ⟨j, hj, rfl⟩ := mem_getD (d := []) hr
  rw [a] at hj
  rw [d j hj, eg j hj]
end Pa
namespace Pa
open PySem PySem.Spec PyProof.Rows L2
def cell1 (script : List Int) (at' : Nat) : Int := if at' < script.length then script.getD at' 0 else 1000003 * ((at' : Int) + 1)
def cell0 (script : List Int) (at' : Nat) : Int := if cell1 script at' < 0 then 1 - 2 * cell1 script at' else cell1 script at'
def mix1 (c : Int) (k at' : Int) : Int := (c * 48271 + (k + 1) * 69621 + at' * 4001) % 2147483647
def mix2 (c : Int) (k at' : Int) : Int := (mix1 c k at' * mix1 c k at' + 16807 * (k + 3)) % 2147483629
def mix3 (c : Int) (k at' : Int) : Int := mix2 c k at' / 7 % 1009
def numsSt (script : List Int) (at' : Nat) : Nat → Int × List Int
  | 0 => (cell0 script at', [])
  | k + 1 =>
    let s := numsSt script at' k
    if (10 : Int) ^ 18 ≤ s.1 then (s.1 / 1009, s.2 ++ [s.1 % 1009]) else (s.1, s.2 ++ [mix3 s.1 (k : Int) (at' : Int)])
def lawNums (script : List Int) (at' many : Nat) : List Int := (numsSt script at' many).2
theorem numsSt_len (script : List Int) (at' : Nat) : ∀ k, (numsSt script at' k).2.length = k
  | 0 => rfl
  | k + 1 => by
    have := numsSt_len script at' k
    show (if _ then _ else _ : Int × List Int).2.length = _
    split <;> (rw [List.length_append, this]; rfl)
theorem numsSt_rg (script : List Int) (at' : Nat) : ∀ k, ∀ v ∈ (numsSt script at' k).2, 0 ≤ v ∧ v < 1009
  | 0 => fun v h => by cases h
  | k + 1 => fun v h => by
    have ih := numsSt_rg script at' k
    have h : v ∈ (if (10 : Int) ^ 18 ≤ (numsSt script at' k).1 then ((numsSt script at' k).1 / 1009, (numsSt script at' k).2 ++ [(numsSt script at' k).1 % 1009]) else ((numsSt script at' k).1, (numsSt script at' k).2 ++ [mix3 (numsSt script at' k).1 (k : Int) (at' : Int)]) : Int × List Int).2 := h
    have fin : ∀ x : Int, 0 ≤ x % 1009 ∧ x % 1009 < 1009 := fun x => by omega
    split at h
    · rcases List.mem_append.mp h with h | h
      · exact ih v h
      · rw [List.mem_singleton.mp h]
        exact fin _
    · rcases List.mem_append.mp h with h | h
      · exact ih v h
      · rw [List.mem_singleton.mp h]
        exact fin _
theorem lawNums_len {script : List Int} {at' many : Nat} : (lawNums script at' many).length = many := numsSt_len script at' many
theorem lawNums_rg {script : List Int} {at' many k : Nat} (h : k < many) : 0 ≤ (lawNums script at' many).getD k 0 ∧ (lawNums script at' many).getD k 0 < 1009 := numsSt_rg script at' many _ (getD_mem (by rw [numsSt_len]; exact h))
def chSt (ns : List Int) : Nat → List Int
  | 0 => [1 + ns.getD 0 0 % 3]
  | k + 1 => chSt ns k ++ [(chSt ns k).getD k 0 * (2 + ns.getD (2 + k) 0 % 4)]
def chLen (ns : List Int) (most : Int) : Nat := (1 + ns.getD 1 0 % (most - 1)).toNat
def lawChain (script : List Int) (at' : Nat) (most : Int) : List Int := chSt (lawNums script at' 12) (chLen (lawNums script at' 12) most)
theorem chSt_len (ns : List Int) : ∀ k, (chSt ns k).length = k + 1
  | 0 => rfl
  | k + 1 => by
    show (chSt ns k ++ [_]).length = _
    rw [List.length_append, chSt_len ns k]
    rfl
theorem getD_app {xs ys : List Int} {i : Nat} (h : i < xs.length) : (xs ++ ys).getD i 0 = xs.getD i 0 := by
  rw [List.getD_eq_getElem?_getD, List.getD_eq_getElem?_getD, List.getElem?_append_left h]
theorem getD_end {xs : List Int} {y : Int} {i : Nat} (h : i = xs.length) : (xs ++ [y]).getD i 0 = y := by
  rw [List.getD_eq_getElem?_getD, List.getElem?_append_right (by omega), h, Nat.sub_self]
  rfl
theorem chSt_st (ns : List Int) : ∀ k i, i + 1 < k + 1 → (chSt ns k).getD (i + 1) 0 = (chSt ns k).getD i 0 * (2 + ns.getD (2 + i) 0 % 4)
  | 0, i, h => by omega
  | k + 1, i, h => by
    have hl := chSt_len ns k
    show (chSt ns k ++ [_]).getD (i + 1) 0 = (chSt ns k ++ [_]).getD i 0 * _
    by_cases e : i = k
    · subst e
      rw [getD_end (by omega), getD_app (by omega)]
    · rw [getD_app (by omega), getD_app (by omega)]
      exact chSt_st ns k i (by omega)
theorem chSt_rg (ns : List Int) : ∀ k i, i ≤ k → 1 ≤ (chSt ns k).getD i 0 ∧ (chSt ns k).getD i 0 ≤ 3 * 5 ^ i
  | k, 0, _ => by
    have e : ∀ k, (chSt ns k).getD 0 0 = 1 + ns.getD 0 0 % 3 := fun k => by
      induction k with
      | zero => rfl
      | succ k ih =>
        show (chSt ns k ++ [_]).getD 0 0 = _
        rw [getD_app (by rw [chSt_len]; omega), ih]
    rw [e]
    show 1 ≤ 1 + ns.getD 0 0 % 3 ∧ 1 + ns.getD 0 0 % 3 ≤ 3 * 1
    omega
  | k, i + 1, h => by
    have ih := chSt_rg ns k i (by omega)
    rw [chSt_st ns k i (by omega)]
    have hq : 2 ≤ 2 + ns.getD (2 + i) 0 % 4 ∧ 2 + ns.getD (2 + i) 0 % 4 ≤ 5 := by omega
    generalize 2 + ns.getD (2 + i) 0 % 4 = q at hq
    generalize (chSt ns k).getD i 0 = x at ih
    have h1 : x * q ≤ x * 5 := Int.mul_le_mul_of_nonneg_left hq.2 (by omega)
    have h2 : x * 2 ≤ x * q := Int.mul_le_mul_of_nonneg_left hq.1 (by omega)
    have h3 : (5 : Int) ^ (i + 1) = 5 ^ i * 5 := Int.pow_succ 5 i
    rw [h3]
    omega
theorem chLen_rg {ns : List Int} {most : Int} (h : 2 ≤ most) : 1 ≤ chLen ns most ∧ (chLen ns most : Int) < most := by
  unfold chLen
  have h1 := Int.emod_nonneg (ns.getD 1 0) (show most - 1 ≠ 0 by omega)
  have h2 := Int.emod_lt_of_pos (ns.getD 1 0) (show 0 < most - 1 by omega)
  omega
theorem lawChain_len {script : List Int} {at' : Nat} {most : Int} (h : 2 ≤ most) : 2 ≤ (lawChain script at' most).length ∧ ((lawChain script at' most).length : Int) ≤ most := by
  have := chLen_rg (ns := lawNums script at' 12) h
  unfold lawChain
  rw [chSt_len]
  omega
theorem lawChain_ok {script : List Int} {at' : Nat} {most : Int} (h : 2 ≤ most) (h7 : most ≤ 7) : Chn (lawChain script at' most) := by
  have hl := lawChain_len (script := script) (at' := at') h
  have hc := chLen_rg (ns := lawNums script at' 12) h
  have hlen : (lawChain script at' most).length = chLen (lawNums script at' 12) most + 1 := chSt_len _ _
  refine ⟨by omega, by omega, fun v hv => ?_, fun i hi => ?_⟩
  · obtain ⟨i, hi, rfl⟩ := mem_getD (d := 0) hv
    have := chSt_rg (lawNums script at' 12) (chLen (lawNums script at' 12) most) i (by omega)
    have h2 : (3 : Int) * 5 ^ i ≤ 1000000 := by
      have : i ≤ 6 := by omega
      have h5 : (5 : Int) ^ i ≤ 5 ^ 6 := by
        rcases i with _ | _ | _ | _ | _ | _ | _ | i <;> first | decide | omega
      have h6 : (5 : Int) ^ 6 = 15625 := by decide
      omega
    exact ⟨this.1, Int.le_trans this.2 h2⟩
  · have e := chSt_st (lawNums script at' 12) (chLen (lawNums script at' 12) most) i (by omega)
    have r := chSt_rg (lawNums script at' 12) (chLen (lawNums script at' 12) most) i (by omega)
    have e : (lawChain script at' most).getD (i + 1) 0 = (lawChain script at' most).getD i 0 * (2 + (lawNums script at' 12).getD (2 + i) 0 % 4) := e
    have r : 1 ≤ (lawChain script at' most).getD i 0 := r.1
    rw [e]
    have hq : 2 ≤ 2 + (lawNums script at' 12).getD (2 + i) 0 % 4 := by omega
    generalize 2 + (lawNums script at' 12).getD (2 + i) 0 % 4 = q at hq
    generalize (lawChain script at' most).getD i 0 = x at r
    have h2 : x * 2 ≤ x * q := Int.mul_le_mul_of_nonneg_left hq (by omega)
    exact ⟨by omega, Int.mul_emod_right x q⟩
/-- the heap -/
def evenH (script : List Int) (at' : Nat) (c : List Int) (n : Int) : List Int :=
  let ns := lawNums script at' 10
  let h0 := (ns.take c.length).map fun v => v % 10
  if 0 < ns.getD 9 0 % 3 then
    let h1 := h0.map fun v => v * n
    let k := (ns.getD 8 0 % ((c.length : Int) - 1)).toNat
    let step := c.getD (k + 1) 0 / c.getD k 0
    if 0 < h1.getD (k + 1) 0 ∧ h1.getD k 0 + step ≤ 99 then (h1.set (k + 1) (h1.getD (k + 1) 0 - 1)).set k (h1.getD k 0 + step) else h1
  else h0
theorem evenH_ok {script : List Int} {at' : Nat} {c : List Int} {n : Int} (hc : Chn c) (h2 : 2 ≤ n) (h8 : n ≤ 8) (hl : 2 ≤ c.length) : Hep c (evenH script at' c n) := by
  have l8 := hc.len8
  have e0 : ((lawNums script at' 10).take c.length).length = c.length := by rw [List.length_take, lawNums_len]; omega
  have r0 : ∀ v ∈ ((lawNums script at' 10).take c.length).map fun v => v % 10, 0 ≤ v ∧ v ≤ 9 := fun v hv => by
    obtain ⟨u, _, rfl⟩ := List.mem_map.mp hv
    omega
  have r1 : ∀ v ∈ (((lawNums script at' 10).take c.length).map fun v => v % 10).map fun v => v * n, 0 ≤ v ∧ v ≤ 99 := fun v hv => by
    obtain ⟨u, hu, rfl⟩ := List.mem_map.mp hv
    have := r0 u hu
    have h1 : u * n ≤ 9 * n := Int.mul_le_mul_of_nonneg_right this.2 (by omega)
    exact ⟨Int.mul_nonneg this.1 (by omega), by omega⟩
  have l1 : ((((lawNums script at' 10).take c.length).map fun v => v % 10).map fun v => v * n).length = c.length := by rw [List.length_map, List.length_map, e0]
  unfold evenH
  dsimp only
  split
  · split
    · rename_i hx
      refine ⟨by rw [List.length_set, List.length_set, l1], fun v hv => ?_⟩
      have hkb : 0 ≤ (lawNums script at' 10).getD 8 0 % ((c.length : Int) - 1) := Int.emod_nonneg _ (by omega)
      have hkb2 : (lawNums script at' 10).getD 8 0 % ((c.length : Int) - 1) < (c.length : Int) - 1 := Int.emod_lt_of_pos _ (by omega)
      generalize hk : ((lawNums script at' 10).getD 8 0 % ((c.length : Int) - 1)).toNat = k at *
      have hkc : k + 1 < c.length := by omega
      have a1 := r1 _ (getD_mem (d := 0) (j := k) (by rw [l1]; omega))
      have a2 := r1 _ (getD_mem (d := 0) (j := k + 1) (by rw [l1]; omega))
      rcases List.mem_or_eq_of_mem_set hv with hv | hv
      · rcases List.mem_or_eq_of_mem_set hv with hv | hv
        · exact r1 v hv
        · rw [hv]
          omega
      · rw [hv]
        have s1 := (hc.getD (k := k) (by omega)).1
        have s2 := (hc.getD (k := k + 1) (by omega)).1
        have : 0 ≤ c.getD (k + 1) 0 / c.getD k 0 := Int.ediv_nonneg (by omega) (by omega)
        omega
    · exact ⟨l1, r1⟩
  · exact ⟨by rw [List.length_map, e0], fun v hv => by have := r0 v hv; omega⟩
end Pa
namespace Pa
open PySem PySem.Spec PyProof.Rows L2
theorem WhileS.run {X : Cx} {E : XK} {t : Expr} {body : List Stmt} {x : Nat} (δs : Nat → Ss) (ωs : Nat → Om) (hs : ∀ i, i < x → Xt X t (view (ωs i) (δs i)) true ∧ ∃ δ2, Xb X E body (δs i) (ωs i) (.nx δ2 (ωs (i + 1))) ∧ LessS δ2 (δs (i + 1))) (he : Xt X t (view (ωs x) (δs x)) false) :
    ∀ d i, i + d = x → WhileS X E t body d (δs i) (ωs i) (.nx (δs x) (ωs x))
  | 0, i, h => by
    have e : i = x := by omega
    subst e
    exact .done he
  | d + 1, i, h => by
    obtain ⟨h1, δ2, h2, h3⟩ := hs i (by omega)
    exact .step h1 h2 h3 (WhileS.run δs ωs hs he d (i + 1) (by omega))
theorem i_row {X : Cx} {rs : List (List Int)} {k : Int} (h0 : 0 ≤ k) (h1 : k < rs.length) : Xix X (.lst (rs.map dI)) (.int k) (dI (rs.getD k.toNat [])) := by
  refine i_list ?_
  have e : k = ((k.toNat : Nat) : Int) := by omega
  have g : (rs.map dI)[k.toNat]? = some (dI (rs.getD k.toNat [])) := by
    rw [List.getElem?_map, getD_some (d := []) (by omega)]
    rfl
  rw [e]
  exact atI_nat g
theorem set_getD_same {α : Type} {xs : List α} {j : Nat} {d : α} (h : j < xs.length) : xs.set j (xs.getD j d) = xs := by
  apply List.ext_getElem?
  intro i
  by_cases e : j = i
  · subst e
    rw [List.getElem?_set_self h, getD_some h]
  · rw [List.getElem?_set_ne e]
/-- the lacks, listed -/
def lackList (c h as : List Int) : List Int := (rngD (c.length + 1) fun i => (i : Int)).filter fun k => lacks c h as k.toNat
theorem lackList_head (c h as : List Int) : (lackList c h as).head? = (firstLack c h as).map fun k : Nat => (k : Int) := by
  unfold lackList firstLack rngD
  rw [List.filter_map, List.head?_map, List.head?_filter]
  rfl
theorem lackList_none {c h as : List Int} (e : firstLack c h as = none) : lackList c h as = [] := by
  have := lackList_head c h as
  rw [e] at this
  exact List.head?_eq_none_iff.mp this
theorem lackList_some {c h as : List Int} {k : Nat} (e : firstLack c h as = some k) : ∃ rest, lackList c h as = (k : Int) :: rest := by
  have := lackList_head c h as
  rw [e] at this
  cases q : lackList c h as with
  | nil =>
    rw [q] at this
    cases this
  | cons a b =>
    rw [q] at this
    cases this
    exact ⟨b, rfl⟩
/-- what holds of the payments, whatever lacks -/
structure PaidW (c h as : List Int) (i : Nat) : Prop where
  lef : ∀ j, j < as.length → 0 ≤ (payAt c h as i).2.getD j 0
  zer : ∀ j, j < as.length → ∀ k, k < c.length - i → ((payAt c h as i).1.getD j []).getD k 0 = 0
theorem paidW {c h as : List Int} (hc : Chn c) (hh : Hep c h) (ha : ∀ j, j < as.length → 0 ≤ as.getD j 0) : ∀ i, i ≤ c.length → PaidW c h as i
  | 0, _ => by
    refine ⟨ha, fun j hj k hk => ?_⟩
    show ((List.replicate as.length (List.replicate c.length (0 : Int))).getD j []).getD k 0 = 0
    rw [replicate_getD hj, replicate_getD (by omega)]
  | i + 1, hi => by
    have P := paidW hc hh ha i (by omega)
    obtain ⟨p1, p2, p3⟩ := payAt_len (c := c) (h := h) (as := as) i
    have e1 : payAt c h as (i + 1) = ((Pay.turns (c.getD (c.length - 1 - i) 0) (c.length - 1 - i) ⟨h.getD (c.length - 1 - i) 0, (payAt c h as i).1, (payAt c h as i).2⟩ as.length).rows, (Pay.turns (c.getD (c.length - 1 - i) 0) (c.length - 1 - i) ⟨h.getD (c.length - 1 - i) 0, (payAt c h as i).1, (payAt c h as i).2⟩ as.length).left) := rfl
    have hk : c.length - 1 - i < c.length := by omega
    have hv := hc.getD hk
    have hcnt : 0 ≤ h.getD (c.length - 1 - i) 0 := (hh.rg _ (getD_mem (by rw [hh.len]; omega))).1
    have T := turned (v := c.getD (c.length - 1 - i) 0) (k := c.length - 1 - i) (s := ⟨h.getD (c.length - 1 - i) 0, (payAt c h as i).1, (payAt c h as i).2⟩) (n := as.length) (by omega) hcnt p1 p2 P.lef as.length (Nat.le_refl _)
    refine ⟨fun j hj => ?_, fun j hj k hkk => ?_⟩
    · rw [e1]
      show 0 ≤ (Pay.turns _ _ _ _).left.getD j 0
      rw [T.lef j, if_pos hj]
      have h1 := (T.got0 j hj).2
      generalize got _ _ _ j = x at *
      have h1 : x ≤ (payAt c h as i).2.getD j 0 / c.getD (c.length - 1 - i) 0 := h1
      have h2 : x * c.getD (c.length - 1 - i) 0 ≤ (payAt c h as i).2.getD j 0 / c.getD (c.length - 1 - i) 0 * c.getD (c.length - 1 - i) 0 := Int.mul_le_mul_of_nonneg_right h1 (by omega)
      have h3 := Int.ediv_mul_le ((payAt c h as i).2.getD j 0) (b := c.getD (c.length - 1 - i) 0) (by omega)
      show 0 ≤ (payAt c h as i).2.getD j 0 - x * c.getD (c.length - 1 - i) 0
      omega
    · rw [e1]
      show ((Pay.turns _ _ _ _).rows.getD j []).getD k 0 = 0
      rw [T.row j, if_pos hj, getD_set_ne (by omega)]
      exact P.zer j hj k (by omega)
end Pa
namespace Pa
open PySem PySem.Spec PyProof.Rows L2
def tXf (δ : Sl) (d : Dt) : TE := fun σ H Q => ∃ G, Same G H ∧ EnvD G σ δ ∧ ∀ v H' F, Same H H' → Same F H' → (∀ a, F a ≠ none → H a = none) → Den F v d → Q v H'
def tXfa (δ : Sl) (ds : List Dt) : TA := fun σ H Q => ∃ G, Same G H ∧ EnvD G σ δ ∧ ∀ vs H' F, Same H H' → Same F H' → (∀ a, F a ≠ none → H a = none) → DenL F vs ds → Q vs H'
abbrev Xf (X : Cx) (e : Expr) (δ : Sl) (d : Dt) : Prop := PE X e (tXf δ d)
abbrev Xfa (X : Cx) (es : List Expr) (δ : Sl) (ds : List Dt) : Prop := PA X es (tXfa δ ds)
section
variable {X : Cx} {δ : Sl} {pos p : Pos} {e : Expr} {es : List Expr} {d : Dt} {ds : List Dt} {c : Cell}
theorem xfa_nil : Xfa X [] δ [] := PA.sub pa_nil fun σ H Q h => by
  obtain ⟨G, s, e, k⟩ := h
  exact k [] H (fun _ => none) (.refl _) (fun a o h => by cases h) (fun a h => absurd rfl h) .nil
theorem xfa_flat (he : Xe X e δ d) (f : Flat d) (hr : Xfa X es δ ds) (hs : starEach (e :: es) X.env = (false, eval e X.env) :: starEach es X.env := by rfl) : Xfa X (e :: es) δ (d :: ds) := PA.sub (pa_cons he hr hs) fun σ H Q h => by
  obtain ⟨G, s, en, k⟩ := h
  refine ⟨G, s, en, fun v H1 G1 g1 d1 => ⟨G1, g1.sub, en.mono g1.gg, fun vs H2 F s2 sF fF dF => ?_⟩⟩
  exact k _ H2 F (g1.hh.trans s2) sF (fun a h => same_none g1.hh (fF a h)) (.cons (d1.flat f) dF)
theorem xfa_new (he : Xn X e δ c) (hr : Xfa X es δ ds) (hs : starEach (e :: es) X.env = (false, eval e X.env) :: starEach es X.env := by rfl) : Xfa X (e :: es) δ (c.dt :: ds) := PA.sub (pa_cons he hr hs) fun σ H Q h => by
  obtain ⟨G, s, en, k⟩ := h
  refine ⟨G, s, en, fun q qs H1 s1 n1 nd r => ⟨G, s.trans s1, en, fun vs H2 F s2 sF fF dF => ?_⟩⟩
  have held := r.held
  have ho : ∀ a o, F a = some o → a ∉ q :: qs := fun a o ha hm => held a hm (fF a (by rw [ha]; exact fun z => by cases z))
  have key : Same F (fun a => if a ∈ q :: qs then H1 a else F a) := fun a o ha => by
    show (if a ∈ q :: qs then H1 a else F a) = some o
    rw [if_neg (ho a o ha)]
    exact ha
  refine k _ H2 (fun a => if a ∈ q :: qs then H1 a else F a) (s1.trans s2) (fun a o ha => ?_) (fun a ha => ?_) (.cons ?_ (dF.mono key))
  · have ha : (if a ∈ q :: qs then H1 a else F a) = some o := ha
    split at ha
    · exact s2 a o ha
    · exact sF a o ha
  · have ha : (if a ∈ q :: qs then H1 a else F a) ≠ none := ha
    split at ha
    · rename_i hm
      exact n1 a hm
    · exact same_none s1 (fF a ha)
  · exact (r.keep fun a hm o ho => (by
      show (if a ∈ q :: qs then H1 a else F a) = some o
      rw [if_pos hm]
      exact ho)).den
theorem xf_call {CX : CXT} {k n : Nat} {x : Str} {R : List Dt → Res → Prop} (F : Df X.prog X.w X.K X.mg X.base CX k x n R) (hp : Passes CX X E0) (hr : Room k X.A) (ha : Xfa X (e :: es) δ ds) (hR : R ds (.ok d)) (hn : ds.length = n := by rfl) (hg : Gl X x := by rfl)
    (hdb : (x == ("__debug__" : Str)) = false := by decide) (he : starEach (e :: es) X.env = (false, eval e X.env) :: starEach es X.env := by rfl) (hpl : (backTo pos (starEach es X.env)).any (·.1) = false := by rfl) : Xf X (.Call (.Name x p) (e :: es) [] pos) δ d := by
  obtain ⟨f, fd, ps, Fo, hm, hk, hb⟩ := F.ex
  exact PE.sub (pe_call Fo hr hg hm hk hb .nil hp ha hdb he hpl) fun σ H Q h => by
    obtain ⟨G, s, en, k⟩ := h
    refine ⟨G, s, en, fun vs H1 F1 s1 sF fF dF => ⟨F1, ds, .ok d, hn, sF, ?_, hR, fun v H2 G2 g2 d2 => ?_⟩⟩
    · rw [List.append_nil]
      exact dF
    · refine k _ H2 G2 (s1.trans g2.hh) g2.sub (fun a ha => ?_) d2
      cases q : F1 a with
      | some o => exact fF a (by rw [q]; exact fun z => by cases z)
      | none =>
        cases q2 : H1 a with
        | none => exact same_none s1 q2
        | some o => exact absurd (g2.new a q (by rw [q2]; exact fun z => by cases z)) ha
end
theorem EnvR.forget {R H G : Hp} {σ : L2.St} {δ : Ss} {ω : Om} {regs : List (List Addr)} {i : Nat} {x : Option V} (e : EnvR R H G σ δ ω regs) : EnvR R H G (σ.set i x) (δ.set i none) ω regs := by
  have key : ∀ (j : Nat) (y : S), (δ.set i none)[j]? = some (some y) → δ[j]? = some (some y) ∧ (σ.set i x)[j]? = σ[j]? := fun j y q => by
    by_cases hj : i = j
    · subst hj
      have hi : i < δ.length := by
        have := (List.getElem?_eq_some_iff.mp q).1
        rwa [List.length_set] at this
      rw [List.getElem?_set_self hi] at q
      cases q
    · rw [List.getElem?_set_ne hj] at q
      exact ⟨q, List.getElem?_set_ne hj⟩
  refine ⟨e.rh, e.gh, e.rg, by rw [List.length_set, List.length_set]; exact e.len, e.rlen, e.nd, e.real, e.out, fun j d q => ?_, fun j y q => ?_⟩
  · obtain ⟨a, b⟩ := key j _ q
    obtain ⟨v, h1, h2⟩ := e.sh j d a
    exact ⟨v, by rw [b]; exact h1, h2⟩
  · obtain ⟨a, b⟩ := key j _ q
    obtain ⟨v, h1, h2⟩ := e.ow j y a
    exact ⟨v, by rw [b]; exact h1, h2⟩
theorem EnvR.alien {R H G : Hp} {σ : L2.St} {δ : Ss} {ω : Om} {regs : List (List Addr)} {q : Addr} {o : HO} (e : EnvR R H G σ δ ω regs) (hR : R q = none) (hG : G q = none) (hr : q ∉ regs.flatten) : EnvR R (upd H q o) G σ δ ω regs := by
  have keep : ∀ (b : Addr) (u : HO), b ≠ q → H b = some u → upd H q o b = some u := fun b u hb hu => by
    rw [upd_ne hb]
    exact hu
  exact ⟨fun b u hu => keep b u (fun z => by rw [z, hR] at hu; cases hu) (e.rh b u hu), fun b u hu => keep b u (fun z => by rw [z, hG] at hu; cases hu) (e.gh b u hu), e.rg, e.len, e.rlen, e.nd,
    fun n c as h1 h2 => (e.real n c as h1 h2).keep fun b hb u hu => keep b u (fun z => hr (by rw [← z]; exact e.mem h2 hb)) hu, e.out, e.sh, e.ow⟩
section
variable {X : Cx} {E : XK} {δ : Ss} {ω : Om} {i : Nat} {x : Str} {e c2 c3 o a0 : Expr} {b2 : List Stmt} {d : Dt} {b3 : Bool} {px sp p2 p3 p4 ap cp : Pos} {rest : List Stmt} {O : Out}
/-- x = e, new; if c2: .. ; if c3: o.append(a0), o a part of x; and x is forgotten -/
theorem xb_fresh (hN : X.N.Nodup) (he : Xf X e (view ω δ) d) (h2 : Xt X c2 ((view ω δ).set i (some d)) false) (h3 : Xt X c3 ((view ω δ).set i (some d)) b3)
    (h4 : b3 = true → ∃ row : List Int, row.length ≤ 100000 ∧ ∃ v : Int, Xe X o ((List.replicate δ.length none).set i (some d)) (dI row) ∧ Xe X a0 ((List.replicate δ.length none).set i (some d)) (.int v)) (hil : i < δ.length) (hr : Xb X E rest (δ.set i none) ω O) (hi : X.N[i]? = some x := by rfl) (hx : Loc X.env.scope x := by first | exact Or.inl rfl | exact Or.inr rfl)
    (hs : swapsWith e (some (.Name x px)) sp.line X.env = pure false := by rfl) (hf : X.fn x = true ∨ X.env.scope.names.lookup x = some .local := by first | exact .inl rfl | exact .inr rfl)
    (hbase : attributeBase o "append" X.env (eval o X.env) = eval o X.env := by rfl)
    (hfew : ((backTo cp (starEach [a0] X.env)).all (fun x => !x.1) && (backToKw cp (keywordEach [] X.env)).all (fun x => x.1.isSome) && decide ([a0].length + ([] : List Keyword).length + (if ([] : List Keyword).isEmpty then 0 else 1) < 30)) = true := by rfl)
    (hline : (ap.endLine == cp.line) = true := by rfl) (hs1 : starEach (a0 :: []) X.env = (false, eval a0 X.env) :: starEach [] X.env := by rfl) (hplain : (backTo cp (starEach [] X.env)).any (·.1) = false := by rfl)
    (hsw : swapsWith (.Call (.Attribute o "append" ap) [a0] [] cp) none p4.line X.env = pure false := by rfl) :
    Xb X E (.Assign [.Name x px] e sp :: .If c2 b2 [] p2 :: .If c3 [.Expr (.Call (.Attribute o "append" ap) [a0] [] cp) p4] [] p3 :: rest) δ ω O := by
  cases b3 with
  | false =>
    refine PSs.sub (pss_cons (ps_set hN hi hx he hs hf) (pss_cons (ps_if h2 pss_never pss_nil) (pss_cons (ps_if h3 pss_never pss_nil) hr))) fun D σ H h => ?_
    obtain ⟨R, G, regs, en, k⟩ := h
    refine ⟨_, offR_same, en.view, fun v H1 F s1 sF fF dv => ?_⟩
    have e1 : EnvR R H1 G (σ.set i (some v)) (δ.set i none) ω regs := (en.junk s1).forget
    have fR : ∀ a, F a ≠ none → R a = none := fun a ha => same_none en.rh (fF a ha)
    have v1 : ∀ H', Same H1 H' → EnvD (offR R H') (σ.set i (some v)) ((view ω δ).set i (some d)) := fun H' s' => by
      have sF' : Same F (offR R H') := fun a o ha => by
        rw [offR_none (fR a (by rw [ha]; exact fun z => by cases z))]
        exact s' a o (sF a o ha)
      exact EnvD.set ((en.junk (s1.trans s')).view) (dv.mono sF')
    refine ⟨_, offR_same, v1 H1 (.refl _), fun H2 G2 g2 => ?_⟩
    refine ⟨_, offR_same, v1 H2 g2.hh, fun H3 G3 g3 => ?_⟩
    exact ⟨R, G, regs, e1.junk (g2.hh.trans g3.hh), k⟩
  | true =>
    obtain ⟨row, hz, v0, ho, ha0⟩ := h4 rfl
    refine PSs.sub (pss_cons (ps_set hN hi hx he hs hf) (pss_cons (ps_if h2 pss_never pss_nil) (pss_cons (ps_if h3 (pss_cons (ps_expr (pe_bm PySem.F.plainAttrs_list PySem.F.slot_list_append PySem.F.type_list_append mt_append ho (xa_cons ha0 xa_nil hs1) hbase hfew hline hs1 hplain) hsw) pss_nil) pss_never) hr))) fun D σ H h => ?_
    obtain ⟨R, G, regs, en, k⟩ := h
    refine ⟨_, offR_same, en.view, fun v H1 F s1 sF fF dv => ?_⟩
    have e1 : EnvR R H1 G (σ.set i (some v)) (δ.set i none) ω regs := (en.junk s1).forget
    have fR : ∀ a, F a ≠ none → R a = none := fun a ha => same_none en.rh (fF a ha)
    have v1 : ∀ H', Same H1 H' → EnvD (offR R H') (σ.set i (some v)) ((view ω δ).set i (some d)) := fun H' s' => by
      have sF' : Same F (offR R H') := fun a o ha => by
        rw [offR_none (fR a (by rw [ha]; exact fun z => by cases z))]
        exact s' a o (sF a o ha)
      exact EnvD.set ((en.junk (s1.trans s')).view) (dv.mono sF')
    have vt : EnvD F (σ.set i (some v)) ((List.replicate δ.length none).set i (some d)) := by
      refine ⟨by rw [List.length_set, List.length_set, List.length_replicate]; exact en.len, fun j d' q => ?_⟩
      by_cases hj : i = j
      · subst hj
        rw [List.getElem?_set_self (by rw [List.length_replicate]; exact hil)] at q
        cases q
        exact ⟨v, List.getElem?_set_self (by rw [en.len]; exact hil), dv⟩
      · rw [List.getElem?_set_ne hj, List.getElem?_replicate] at q
        split at q <;> cases q
    refine ⟨_, offR_same, v1 H1 (.refl _), fun H2 G2 g2 => ?_⟩
    refine ⟨_, offR_same, v1 H2 g2.hh, fun H3 G3 g3 => ?_⟩
    have s13 := g2.hh.trans g3.hh
    refine ⟨F, sF.trans s13, vt, fun v4 H4 F4 g4 d4 => ?_⟩
    obtain ⟨q, rfl, hq⟩ := dI_inv d4
    refine ⟨.inl ⟨rfl, _, .inl (.inl (g4.sub _ _ hq))⟩, ?_⟩
    refine ⟨F4, g4.sub, vt.mono g4.gg, fun vs H5 F5 g5 dl => ?_⟩
    have ev := dl.ints_inv (ns := [v0])
    subst ev
    have hqH : H q = none := by
      have hne : F4 q ≠ none := by rw [hq]; exact fun z => by cases z
      cases w : F q with
      | some o => exact fF q (by rw [w]; exact fun z => by cases z)
      | none =>
        cases w2 : H3 q with
        | none => exact same_none (s1.trans s13) w2
        | some o => exact absurd (g4.new q w (by rw [w2]; exact fun z => by cases z)) hne
    refine ⟨q, row.map V.int, .int v0, rfl, rfl, g5.hh _ _ (g4.sub _ _ hq), by rw [List.length_map]; exact Nat.lt_of_le_of_lt hz (by rw [sizeLine_eq]; omega), ?_⟩
    have eq := e1.junk ((s13.trans g4.hh).trans g5.hh)
    refine ⟨R, G, regs, eq.alien (same_none en.rh hqH) (same_none en.gh hqH) (fun hm => en.held q hm hqH), k⟩
end
end Pa
namespace Pa
open PySem PySem.Spec PyProof.Rows L2
theorem sharedD_worth {c h : List Int} {n : Int} (h0 : 0 < worth c h % n) : sharedD c h n = .tup [.str "worth", .int (worth c h % n)] ∧ sharesB c h n = false := by
  unfold sharedD sharesB
  rw [if_pos h0, decide_eq_false (by omega)]
  exact ⟨rfl, rfl⟩
theorem sharedD_lack {c h : List Int} {n : Int} {k : Nat} (h0 : ¬ 0 < worth c h % n) (e : firstLack c h (evens c h n) = some k) : sharedD c h n = .tup [.str "value", .int k, .int (leftBy c (evens c h n) k), .int (lesser c h k)] ∧ sharesB c h n = false := by
  unfold sharedD sharesB
  rw [if_neg h0, e, decide_eq_true (by omega)]
  exact ⟨rfl, rfl⟩
theorem sharedD_none {c h : List Int} {n : Int} (h0 : ¬ 0 < worth c h % n) (e : firstLack c h (evens c h n) = none) : sharedD c h n = .tup [.str "shares", .lst ((housePay c h (evens c h n)).map dI)] ∧ sharesB c h n = true := by
  unfold sharedD sharesB
  rw [if_neg h0, e, decide_eq_true (by omega)]
  exact ⟨rfl, rfl⟩
theorem sharedD_shares {c h : List Int} {n : Int} (hs : sharesB c h n = true) : sharedD c h n = .tup [.str "shares", .lst ((housePay c h (evens c h n)).map dI)] := by
  by_cases h0 : 0 < worth c h % n
  · rw [(sharedD_worth h0).2] at hs
    cases hs
  · cases e : firstLack c h (evens c h n) with
    | none => exact (sharedD_none h0 e).1
    | some k =>
      rw [(sharedD_lack h0 e).2] at hs
      cases hs
theorem sharedD_nod (c h : List Int) (n : Int) : (sharedD c h n).nod = true ∧ SeqAt.shaped (sharedD c h n).toP = true := by
  by_cases h0 : 0 < worth c h % n
  · rw [(sharedD_worth h0).1]
    exact ⟨nod_tagInts "worth" [_], shaped_tagInts "worth" (by decide +kernel) [_]⟩
  · cases e : firstLack c h (evens c h n) with
    | none =>
      rw [(sharedD_none h0 e).1]
      exact ⟨nod_tagRows _ _, shaped_tagRows "shares" (by decide +kernel) _⟩
    | some k =>
      rw [(sharedD_lack h0 e).1]
      exact ⟨nod_tagInts "value" [_, _, _], shaped_tagInts "value" (by decide +kernel) [_, _, _]⟩
/-- the numbers of persons found by the law, behind j turns -/
def countsAt (c h : List Int) (j : Nat) : List Int := (rngD j fun i => 2 + (i : Int)).filter (sharesB c h)
theorem countsAt_succ {c h : List Int} {j : Nat} : countsAt c h (j + 1) = if sharesB c h (2 + (j : Int)) = true then countsAt c h j ++ [2 + (j : Int)] else countsAt c h j := by
  unfold countsAt rngD
  rw [List.range_succ, List.map_append, List.filter_append]
  by_cases e : sharesB c h (2 + (j : Int)) = true
  · rw [if_pos e]
    congr 1
    show List.filter (sharesB c h) [2 + (j : Int)] = _
    rw [List.filter_cons, if_pos e]
    rfl
  · rw [if_neg e]
    have : List.filter (sharesB c h) [2 + (j : Int)] = [] := by
      rw [List.filter_cons, if_neg e]
      rfl
    show _ ++ List.filter (sharesB c h) [2 + (j : Int)] = _
    rw [this, List.append_nil]
theorem countsAt_len {c h : List Int} {j : Nat} : (countsAt c h j).length ≤ j := by
  unfold countsAt
  exact Nat.le_trans (List.length_filter_le _ _) (by rw [rngD_len]; exact Nat.le_refl _)
theorem worth_nonneg {c h : List Int} (hc : Chn c) (hh : Hep c h) : 0 ≤ worth c h := by
  rw [worth_S1 hh.len]
  refine S1_nonneg fun k hk => Int.mul_nonneg ?_ (hh.rg _ (getD_mem (by rw [hh.len]; exact hk))).1
  have := hc.getD hk
  omega
end Pa
namespace Pa
open PySem PySem.Spec PyProof.Rows L2
abbrev TkE (X : Cx) (E : XK) : Prop := Takes X (fun cls d _ H => E cls d H)
theorem passE {X : Cx} {E : XK} (tk : TkE X E) : Passes (L2.CX X.prog X.w) X E := passes_call tk fun _ _ _ _ h => h
def tZ (E : XK) (δ : Sl) (er : Err) : TE := fun σ H _ => ∃ G, Same G H ∧ EnvD G σ δ ∧ ∀ cls dd H', Same H H' → IsErr er cls dd H' → E cls dd H'
/-- e raises er -/
abbrev Xz (X : Cx) (E : XK) (e : Expr) (δ : Sl) (er : Err) : Prop := PE X e (tZ E δ er)
/-- e is worth something -/
def tXv (δ : Sl) : TE := fun σ H Q => ∃ G, Same G H ∧ EnvD G σ δ ∧ ∀ v H', Same H H' → Q v H'
abbrev Xv (X : Cx) (e : Expr) (δ : Sl) : Prop := PE X e (tXv δ)
section
variable {X : Cx} {E : XK} {δ : Sl} {pos p : Pos} {er : Err}
theorem xv_of {a : Expr} {d : Dt} (h : Xe X a δ d) : Xv X a δ := PE.sub h fun σ H Q w => by
  obtain ⟨G, s, e, k⟩ := w
  exact ⟨G, s, e, fun v H' G' g _ => k v H' g.hh⟩
theorem xv_call {CX : CXT} {k n : Nat} {x : Str} {R : List Dt → Res → Prop} {a : Expr} {es : List Expr} {ds : List Dt} (F : Df X.prog X.w X.K X.mg X.base CX k x n R) (hp : Passes CX X E0) (hr : Room k X.A) (ha : Xa X (a :: es) δ ds) (hR : R ds .an) (hn : ds.length = n := by rfl) (hg : Gl X x := by rfl)
    (hdb : (x == ("__debug__" : Str)) = false := by decide) (he : starEach (a :: es) X.env = (false, eval a X.env) :: starEach es X.env := by rfl) (hpl : (backTo pos (starEach es X.env)).any (·.1) = false := by rfl) : Xv X (.Call (.Name x p) (a :: es) [] pos) δ := by
  obtain ⟨f, fd, ps, Fo, hm, hk, hb⟩ := F.ex
  exact PE.sub (pe_call Fo hr hg hm hk hb .nil hp ha hdb he hpl) fun σ H Q h => by
    obtain ⟨G, s, e, k⟩ := h
    refine ⟨G, s, e, fun vs H1 G1 g1 d1 => ⟨G1, ds, .an, hn, g1.sub, ?_, hR, fun v H2 s2 => k _ _ (g1.hh.trans s2)⟩⟩
    rw [List.append_nil]
    exact d1
theorem xz_call {k n : Nat} {x : Str} {R : List Dt → Res → Prop} {a : Expr} {es : List Expr} {ds : List Dt} (F : Df X.prog X.w X.K X.mg X.base (L2.CX X.prog X.w) k x n R) (tk : TkE X E) (hr : Room k X.A) (ha : Xa X (a :: es) δ ds) (hR : R ds (.er er)) (hn : ds.length = n := by rfl) (hg : Gl X x := by rfl)
    (hdb : (x == ("__debug__" : Str)) = false := by decide) (he : starEach (a :: es) X.env = (false, eval a X.env) :: starEach es X.env := by rfl) (hpl : (backTo pos (starEach es X.env)).any (·.1) = false := by rfl) : Xz X E (.Call (.Name x p) (a :: es) [] pos) δ er := by
  obtain ⟨f, fd, ps, Fo, hm, hk, hb⟩ := F.ex
  exact PE.sub (pe_call (E := E) Fo hr hg hm hk hb .nil (passE tk) ha hdb he hpl) fun σ H Q h => by
    obtain ⟨G, s, e, k⟩ := h
    refine ⟨G, s, e, fun vs H1 G1 g1 d1 => ⟨G1, ds, .er er, hn, g1.sub, ?_, hR, fun cls dd H2 s2 ie => k _ _ _ (g1.hh.trans s2) ie⟩⟩
    rw [List.append_nil]
    exact d1
theorem xz_cmpL {op : CmpOp} {a b : Expr} (ha : Xz X E a δ er) (hm : behindInMarks op b = false := by first | exact nomark _ | rfl) : Xz X E (.Compare a [op] [b] pos) δ er :=
  PE.sub (pe_cmpR (r := fun _ _ _ _ => False) (fun _ _ _ _ _ _ _ _ _ _ _ _ q => q.elim) ha PE.any hm) fun σ H Q h => h
theorem xz_ixL {a b : Expr} (ha : Xz X E a δ er) (hs : PlainIx b := by intro _ _; rfl) : Xz X E (.Subscript a b pos) δ er :=
  PE.sub (pe_ix (r := fun _ _ _ _ => False) (fun _ _ _ _ _ _ _ _ _ _ _ _ _ _ q _ => q.elim) ha PE.any hs) fun σ H Q h => h
end
section
variable {X : Cx} {E : XK} {δ : Ss} {ω : Om} {er : Err} {a : Expr} {pos p : Pos}
theorem kz {R H G : Hp} {σ : L2.St} {regs : List (List Addr)} {D : Ends} {Q : VK} (e : EnvR R H G σ δ ω regs) (k : Kn E R G regs D (.ex er)) : tZ E (view ω δ) er σ H Q := ⟨_, offR_same, e.view, fun cls dd H' s ie => k cls dd H' (e.rh.trans s) (e.gh.trans s) ie⟩
theorem xs_exprZ (ha : Xz X E a (view ω δ) er) (hs : swapsWith a none pos.line X.env = pure false := by rfl) : Xs X E (.Expr a pos) δ ω (.ex er) := PS.sub (ps_expr ha hs) fun D σ H h => by
  obtain ⟨R, G, regs, e, k⟩ := h
  exact kz e k
theorem xs_retZ (ha : Xz X E a (view ω δ) er) : Xs X E (.Return (some a) pos) δ ω (.ex er) := PS.sub (ps_ret ha) fun D σ H h => by
  obtain ⟨R, G, regs, e, k⟩ := h
  exact kz e k
theorem xs_setZ {i : Nat} {x : Str} {pos' : Pos} (hN : X.N.Nodup) (ha : Xz X E a (view ω δ) er) (hi : X.N[i]? = some x := by rfl) (hx : Loc X.env.scope x := by first | exact Or.inl rfl | exact Or.inr rfl) (hs : swapsWith a (some (.Name x pos')) pos.line X.env = pure false := by rfl)
    (hf : X.fn x = true ∨ X.env.scope.names.lookup x = some .local := by first | exact .inl rfl | exact .inr rfl) : Xs X E (.Assign [.Name x pos'] a pos) δ ω (.ex er) := PS.sub (ps_set hN hi hx ha hs hf) fun D σ H h => by
  obtain ⟨R, G, regs, e, k⟩ := h
  exact kz e k
theorem xs_twoZ {tg : Expr} (ha : Xz X E a (view ω δ) er) (hs : swapsWithSole [tg] a pos.line X.env = pure false := by rfl) (hw : swappedStores [tg] a X.env = pure none := by rfl)
    (h1 : (assignEach [tg] X.env).map (·.2) = [assign tg X.env] := by rfl) : Xs X E (.Assign [tg] a pos) δ ω (.ex er) := PS.sub (ps_asg ha PG.any hs hw h1) fun D σ H h => by
  obtain ⟨R, G, regs, e, k⟩ := h
  exact kz e k
theorem xs_retV (ha : Xv X a (view ω δ)) : Xs X E (.Return (some a) pos) δ ω .ra := PS.sub (ps_ret ha) fun D σ H h => by
  obtain ⟨R, G, regs, e, k⟩ := h
  exact ⟨_, offR_same, e.view, fun v H' s => k v H' (e.rh.trans s) (e.gh.trans s)⟩
theorem xs_exprV (ha : Xv X a (view ω δ)) (hs : swapsWith a none pos.line X.env = pure false := by rfl) : Xs X E (.Expr a pos) δ ω (.nx δ ω) := PS.sub (ps_expr ha hs) fun D σ H h => by
  obtain ⟨R, G, regs, e, k⟩ := h
  exact ⟨_, offR_same, e.view, fun v H' s => k σ H' G regs (.refl _) (.refl _) (e.junk s)⟩
end
/-- a class with an own __init__ that sets index -/
structure ExI (K : PySem.W.Frag) (mg : Str → Option Value) (x q : Str) (st : Stmt) : Prop where
  gC : mg x = some (.ref (He.ga K x))
  T : OexC K (He.ga K x)
  xf : XfC K (He.ga K x)
  noI : PySem.W.findIn K (.ref (He.ga K x)) "index" = some none
  ini : ∃ fI fd, PySem.W.findIn K (.ref (He.ga K x)) "__init__" = some (some (.ref fI)) ∧ PySem.W.typeIn K (.ref fI) = some (.type "function") ∧ FunD K "__init__" q (defArgs st) (defBody st) (defScope st) [] [] fI fd
/-- a class without -/
structure ExM (K : PySem.W.Frag) (mg : Str → Option Value) (x : Str) : Prop where
  gC : mg x = some (.ref (He.ga K x))
  q : PySem.W.excIn K (He.ga K x) He.veBase "ValueError.__new__" = true
  kC : PySem.W.keepIn K (.ref (He.ga K x)) = true
  r1 : PySem.W.subIn K (.ref (He.ga K x)) (.type "BaseException") = some true
  r2 : PySem.W.typeIn K (.ref (He.ga K x)) = some (.type "type")
theorem xs_raiseM {X : Cx} {E : XK} {δ : Ss} {ω : Om} {x m : Str} {j : Nat} {p p2 pos pos' : Pos} (M : ExM X.K X.mg x) (tk : TkE X E) (hc : X.calm = true := by rfl) (hg : Gl X x := by rfl) (hdb : (x == ("__debug__" : Str)) = false := by decide) :
    Xs X E (.Raise (some (.Call (.Name x p) [.Constant (.str m) j p2] [] pos)) none pos') δ ω (.ex (.msg (He.ga X.K x))) :=
  PS.sub (ps_raise hc tk (pmk_own F.excBase_ValueError M.q M.gC M.kC (raises_own M.r1 M.r2) hg hdb)) fun D σ H h => by
    obtain ⟨R, G, regs, e, k⟩ := h
    exact k _ _ H e.rh e.gh ⟨rfl, rfl⟩
/-- what such an __init__ keeps -/
def spI (C : Addr) : Sp := fun vs H Q _ => ∃ (a : Addr) (i : Int), vs = [.ref a, .int i] ∧ H a = some (exo a C none) ∧ ∀ dx, H dx = none → dx ≠ a → Q .non (upd (upd H dx (exd dx [("index", .int i)])) a (exo a C (some dx)))
theorem init_ok {P : Program} {w : World} {K : PySem.W.Frag} {mg : Str → Option Value} {base : Heap} {CX : CXT} {x q : Str} {st : Stmt} {fI : Addr} {fd : FuncData} {p1 p2 p3 p4 : Pos} (T : OexC K (He.ga K x)) (noI : PySem.W.findIn K (.ref (He.ga K x)) "index" = some none) (Fd : FunD K "__init__" q (defArgs st) (defBody st) (defScope st) [] [] fI fd) (S : FnScope ["self", "index"] ["self", "index"] (defScope st))
    (hbd : defBody st = [.Assign [.Attribute (.Name "self" p1) "index" p2] (.Name "index" p3) p4]) (hl1 : ∀ cdv A outer s H E, Vis (cxOf CX P w K mg base ["self", "index"] q (defScope st) fI cdv A outer s H E).env.scope "self") (hl2 : ∀ cdv A outer s H E, Vis (cxOf CX P w K mg base ["self", "index"] q (defScope st) fI cdv A outer s H E).env.scope "index")
    (hsw : ∀ cdv A outer s H E, swapsWith (.Name "index" p3) (some (.Attribute (.Name "self" p1) "index" p2)) p4.line (cxOf CX P w K mg base ["self", "index"] q (defScope st) fI cdv A outer s H E).env = pure false) : FnOk P w K mg base CX 1 fI fd ["self", "index"] (spI (He.ga K x)) := by
  refine Fd.ok S (fun vs H Q E h => ?_) (fun cdv A outer s H vs Q E hr h => ?_)
  · obtain ⟨a, i, rfl, _⟩ := h
    rfl
  · rw [hbd]
    refine ⟨_, pss_one (ps_ost (pe_var (i := 0) rfl (hl1 cdv A outer s H E) (by decide) (by decide)) (pe_var (i := 1) rfl (hl2 cdv A outer s H E) (by decide) (by decide)) (hsw cdv A outer s H E)), ?_⟩
    obtain ⟨a, i, rfl, ha, k⟩ := h
    exact ⟨_, rfl, _, rfl, a, _, rfl, T, noI, .inl ⟨ha, fun dx h1 h2 => k dx h1 h2⟩⟩
theorem xs_raiseI {X : Cx} {E : XK} {δ : Ss} {ω : Om} {x : Str} {e : Expr} {i : Int} {fI : Addr} {fd : FuncData} {k : Nat} {p pos pos' : Pos} (gC : X.mg x = some (.ref (He.ga X.K x))) (T : OexC X.K (He.ga X.K x)) (iC : PySem.W.findIn X.K (.ref (He.ga X.K x)) "__init__" = some (some (.ref fI))) (tI : PySem.W.typeIn X.K (.ref fI) = some (.type "function"))
    (Fo : FnOk X.prog X.w X.K X.mg X.base (L2.CX X.prog X.w) k fI fd ["self", "index"] (spI (He.ga X.K x))) (hr : Room (k + 1) X.A) (hb : Binds X.K fd ["self", "index"] []) (hpx : Passes (L2.CX X.prog X.w) X (fun _ _ _ => False)) (tk : TkE X E) (ha : Xe X e (view ω δ) (.int i)) (hc : X.calm = true := by rfl) (hg : Gl X x := by rfl)
    (hdb : (x == ("__debug__" : Str)) = false := by decide) (he : starEach (e :: []) X.env = (false, eval e X.env) :: starEach [] X.env := by rfl) (hpl : (backTo pos (starEach [] X.env)).any (·.1) = false := by rfl) :
    Xs X E (.Raise (some (.Call (.Name x p) [e] [] pos)) none pos') δ ω (.ex (.idx (He.ga X.K x) i)) :=
  PS.sub (ps_raise hc tk (pmk_oex T iC tI Fo hr hb .nil hpx hg gC (xa_cons ha xa_nil he) hdb he hpl)) fun D σ H h => by
    obtain ⟨R, G, regs, en, k⟩ := h
    refine ⟨_, offR_same, en.view, fun vs H1 G1 g1 dl => ?_⟩
    have ev := dl.ints_inv (ns := [i])
    subst ev
    refine ⟨Nat.le_of_ble_eq_true rfl, fun a hn => ⟨a, i, rfl, upd_same, fun dx hd hda => ⟨rfl, dx, [("index", .int i)], upd_same, ?_, ?_, ?_⟩⟩⟩
    · rw [upd_ne hda, upd_same]
    · rw [upd_ne hda] at hd
      exact hd
    · rw [upd_ne hda] at hd
      have sm : Same H1 (upd (L2.del (upd (upd (upd H1 a (exo a (He.ga X.K x) none)) dx (exd dx [("index", .int i)])) a (exo a (He.ga X.K x) (some dx))) a) dx (.xd [("index", .int i)])) := fun b o hb' => by
        have b1 : b ≠ dx := fun z => by rw [z, hd] at hb'; cases hb'
        have b2 : b ≠ a := fun z => by rw [z, hn] at hb'; cases hb'
        rw [upd_ne b1, L2.del_ne b2, upd_ne b2, upd_ne b1, upd_ne b2]
        exact hb'
      exact k _ _ _ ((en.rh.trans g1.hh).trans sm) ((en.gh.trans g1.hh).trans sm) ⟨rfl, dx, rfl, upd_same⟩
end Pa
namespace Pa
open PySem PySem.Spec PyProof.Rows L2
abbrev Su := Addr → Value → Option Addr → TS
def ends0 (i : Nat) (D : Ends) : Ends where
  nx := fun τ G => D.nx (τ.set i none) G
  rt := D.rt
  bk := fun τ G => D.bk (τ.set i none) G
  ct := fun τ G => D.ct (τ.set i none) G
def wAll (K : PySem.W.Frag) (i : Nat) (Wo : WX) (D : Ends) : List (Value × Su) → WX
  | [] => Wo
  | q :: l => fun cls d σ H => ∃ b, PySem.W.exmOne K cls q.1 = some b ∧ (b = true → ∀ a, H a = none → q.2 a cls d (ends0 i D) (σ.set i (some (.ref a))) H) ∧ (b = false → wAll K i Wo D l cls d σ H)
inductive Clauses (X : Cx) (n : Str) : List ExceptHandler → List (Value × Su) → Prop
  | nil : Clauses X n [] []
  | cons {y : Str} {c : Value} {S : Su} {st : Stmt} {more : List Stmt} {q1 q2 : Pos} {cs : List ExceptHandler} {l : List (Value × Su)} (nm : Names X y c)
      (su : ∀ (a : Addr) (oe : Obj) (cls : Value) (d : Option Addr) (pn : List (Addr × Obj)), Zc cls d oe → (∃ vs, oe.data = .fields vs) → PSs (X.suite a ((a, oe) :: pn)) (st :: more) (S a cls d)) (r : Clauses X n cs l) :
      Clauses X n (.ExceptHandler (some (.Name y q1)) (some n) (st :: more) q2 :: cs) ((c, S) :: l)
section
variable {X : Cx} {n : Str} {i : Nat} {body : List Stmt} {c₁ : ExceptHandler} {cs : List ExceptHandler} {l : List (Value × Su)} {pos : Pos} {tb : WX → TS} {Wo : WX}
/-- one exception, at the clauses -/
theorem clauses_run {B : Heap} {a : Addr} {cls : Value} {d : Option Addr} {pins : List (Addr × Obj)} {τ : L2.St} {G : Hp} {sI u : Shared} {h3 : Heap} {D : Ends} (stk : X.stack = X.env :: X.outer) (frm : X.env.frame = some X.env.locals) (hN : X.N.Nodup) (hi : X.N[i]? = some n) (hloc : X.env.kindOf n = some .local) (tk : Takes X Wo)
    (J : Inv X pins τ G sI) (nb : ∀ b o, sI.heap.get? b = some o → b ∉ frs X.stack → B.get? b = some o) (up3 : sI.heap.UpToSlots h3) (os : u.os = sI.os) (ag : AllBare u.gens) (na : G a = none) (fl3 : HandSPX.FlyingZ B (X.env :: X.outer) a (Zc cls d) h3) :
    ∀ {cs : List ExceptHandler} {l : List (Value × Su)}, Clauses X n cs l → wAll X.K i Wo D l cls d τ G → wpAny (model X.prog X.w) X.A (handleBy (.ref a) X.env cs) (SP X pins D) X.xe { u with heap := h3 } := by
  have okX := J.ok
  have J3 : Inv X pins τ G { u with heap := h3 } := J.landed nb fl3.1 up3 os ag
  obtain ⟨o3, v3, e3, z3, d3⟩ := fl3.there
  have off : a ∉ frs (X.env :: X.outer) := fun hm => by
    obtain ⟨_, o', e', hno⟩ := fl3.2.2.1.mem hm
    cases e3.symm.trans e'
    exact hno _ d3
  have offL : a ≠ X.env.locals := fun z => off (List.mem_filterMap.mpr ⟨X.env, List.mem_cons_self, frm.trans (congrArg some z.symm)⟩)
  have offF : a ∉ X.fs := fun hm => by
    obtain ⟨ev, hev, q⟩ := List.mem_filterMap.mp hm
    exact off (List.mem_filterMap.mpr ⟨ev, List.mem_cons_of_mem _ hev, q⟩)
  have S3 := J3.suite e3 d3 na offL offF
  intro cs l hk
  induction hk with
  | nil =>
    intro wi
    obtain ⟨_, _, _, oq, vq, T, _, _, hq, _, dq, hq1, _⟩ := id fl3
    have out : wpAny (model X.prog X.w) X.A (setFlight (.ref a) X.env.frame) (fun _ s4 => wpAny (model X.prog X.w) X.A (throw (.ref a) : Sem Flow) (SP X pins D) X.xe s4) X.xe { u with heap := h3 } := by
      rw [frm]
      refine HandSPX.setFlight_upZ fl3 fun h4 held up4 => wpAny_throw (tk _ _ ⟨a, B, sI, pins, τ, G, cls, d, rfl, J, nb, up3.trans up4, .inr (.inr ?_), na, os, ag, wi⟩)
      rw [stk]
      exact held
    apply wpAny_handleBy_nil
    unfold PySem.passOn
    apply wpAny_bind
    refine wpAny_field hq dq hq1 ?_
    rw [if_neg (by simp : ¬ ((Value.ref T == Value.none) = true))]
    first
      | exact wpAny_bind (wpAny_pure (wpAny_bind out))
      | exact wpAny_bind out
  | @cons y c S st more q1 q2 cs2 l2 nm su r ih =>
    intro wi
    obtain ⟨b, eb, yes, no⟩ := wi
    have ty : PySem.W.Looks (model X.prog X.w) h3 (typeOf (.ref a)) cls := fun _ _ _ _ keep fin => wpAny_typeOf_ref (keep _ _ e3) (by rw [z3.1]; exact fin)
    have mt := PySem.W.exm_one (M := model X.prog X.w) J3.kIn ty eb
    have named : ∀ {Q E : Value → Shared → Prop}, Q c { u with heap := h3 } → wpAny (model X.prog X.w) (X.A.mark (some (.ref a))) (eval (.Name y q1) X.env) Q E { u with heap := h3 } := fun {Q E} fin => by
      obtain ⟨g1, g2, g3 | ⟨g3, g4, g5⟩⟩ := nm
      · exact ld_glob (X := X.suite a ((a, o3) :: (X.pn ++ pins))) S3 g1 g3 fin g2
      · exact ld_blt (X := X.suite a ((a, o3) :: (X.pn ++ pins))) S3 g1 g3 g4 fin g5 g2
    apply wpAny_handleBy_cons (h := ?_) (by intro q; cases q)
    refine codeAny_handlers_test (named (mt.here ?_))
    cases b with
    | false =>
      show wpAny _ X.A (handleBy (.ref a) X.env cs2) _ _ _
      exact ih (no rfl)
    | true =>
      refine codeAny_handlers_suite_as (HandSPX.lands_againZ fl3 fun h4 fl4 up4 => ?_)
      have J4 : Inv X pins τ G { u with heap := h4 } := J.landed nb fl4.1 (up3.trans up4) os ag
      obtain ⟨o4, v4, e4, z4, d4⟩ := fl4.there
      have S4 := J4.suite e4 d4 na offL offF
      refine store_ok (X := X.suite a ((a, o4) :: (X.pn ++ pins))) (v := .ref a) S4 hN hi (.inl hloc) rfl (fun s5 S5 => ?_) (.inr hloc)
      refine wpAny_mono ((su a o4 cls d (X.pn ++ pins) z4 ⟨_, d4⟩).run [] s5 _ G _ S5 (yes rfl a na)) (fun fw s6 hs6 => ?_) (fun _ _ z => z.elim)
      have gone : ∀ {σ6 : L2.St} {H6 : Hp} {Q : Shared → Prop}, Inv (X.suite a ((a, o4) :: (X.pn ++ pins))) [] σ6 H6 s6 → (∀ s7, Inv X pins (σ6.set i none) H6 s7 → Q s7) →
          wpAny (model X.prog X.w) X.A (do bindName X.env n .none; unbindBehindTheSuite X.env n q2) (fun _ s7 => Q s7) X.xe s6 := fun {σ6 H6 Q} S6 fin => gone_ok (S6.unsuite okX) hN hi hloc fin
      cases fw with
      | ret w =>
        obtain ⟨v6, σ6, H6, S6, r6, f6⟩ := hs6
        exact gone S6 fun s7 J7 => ⟨v6, σ6.set i none, H6, J7, r6, f6⟩
      | next =>
        obtain ⟨σ6, H6, S6, f6⟩ := hs6
        exact gone S6 fun s7 J7 => ⟨σ6.set i none, H6, J7, f6⟩
      | brk =>
        obtain ⟨σ6, H6, S6, f6⟩ := hs6
        exact gone S6 fun s7 J7 => ⟨σ6.set i none, H6, J7, f6⟩
      | cont =>
        obtain ⟨σ6, H6, S6, f6⟩ := hs6
        exact gone S6 fun s7 J7 => ⟨σ6.set i none, H6, J7, f6⟩
theorem ps_clauses (stk : X.stack = X.env :: X.outer) (frm : X.env.frame = some X.env.locals) (hN : X.N.Nodup) (hi : X.N[i]? = some n) (hloc : X.env.kindOf n = some .local) (tk : Takes X Wo)
    (hb : ∀ (W : WX) (pn : List (Addr × Obj)) (xe : Value → Shared → Prop), Takes (X.tr pn xe) W → PassesOwn (model X.prog X.w) X.A X.env xe → PSs (X.tr pn xe) body (tb W)) (hc : Clauses X n (c₁ :: cs) l) :
    PS X (.Try body (c₁ :: cs) [] [] pos) (fun D σ H => tb (wAll X.K i Wo D l) D σ H) := by
  constructor
  intro pins s σ H D I hw
  have okX := I.ok
  have frX : X.A.frames = some (X.env :: X.outer) := okX.frames.trans (by rw [stk])
  apply wpAny_Try_except
  refine wpAny_mono ((hb (wAll X.K i Wo D l) (X.pn ++ pins) (fun ex t₁ => wpAny (model X.prog X.w) X.A (noteFrame ex X.env) (fun _ t₂ => wpAny (model X.prog X.w) X.A (setFlight ex none) (fun _ t₃ =>
    wpAny (model X.prog X.w) X.A (handleBy ex X.env (c₁ :: cs)) (SP X pins D) X.xe t₃) X.xe t₂) X.xe t₁) (fun u t xx => ?_) PassesOwn.looking).run [] s σ H D (I.toTry _) hw) (fun fw t hs => ?_) fun _ _ z => z
  · obtain ⟨a, B, sI, pn', τ, G, cls, d, rfl, J', nb, up, sky, na, os, ag, wi⟩ := xx
    rw [show X.stack = X.env :: X.outer from stk] at sky
    show wpAny (model X.prog X.w) X.A (noteFrame (.ref a) X.env) _ _ _
    exact Sky.land Zc.steady frX frm sky fun h3 fl3 up3 => clauses_run stk frm hN hi hloc tk (J'.ofTry okX) nb (up.trans up3) os ag na fl3 hc wi
  · cases fw with
    | ret w =>
      obtain ⟨v, τ, G, J, r, f⟩ := hs
      exact ⟨v, τ, G, J.ofTry okX, r, f⟩
    | next =>
      obtain ⟨τ, G, J, f⟩ := hs
      exact wpAny_execs_nil ⟨τ, G, J.ofTry okX, f⟩
    | brk =>
      obtain ⟨τ, G, J, f⟩ := hs
      exact ⟨τ, G, J.ofTry okX, f⟩
    | cont =>
      obtain ⟨τ, G, J, f⟩ := hs
      exact ⟨τ, G, J.ofTry okX, f⟩
end
end Pa
namespace Pa
open PySem PySem.Spec PyProof.Rows L2
def top (i : Nat) : Stmt := PySem.Challenge.pw_paidatonce_k26_refusals_of_boxes_and_sha.main.body.getD i (.Pass ⟨0, 0, 0, 0⟩)
abbrev s_is_whole : Stmt := top 1
abbrev s_is_from_to : Stmt := top 2
abbrev s_is_listed : Stmt := top 13
abbrev s_follows : Stmt := top 14
abbrev s_first_wrong_chains : Stmt := top 15
abbrev s_check_chain : Stmt := top 17
abbrev s_first_wrong_heaps : Stmt := top 21
abbrev s_check_counts : Stmt := top 23
abbrev s_check_heap : Stmt := top 24
abbrev s_worth_of : Stmt := top 25
abbrev s_lesser_of : Stmt := top 26
abbrev s_greater_of : Stmt := top 27
abbrev s_check_index : Stmt := top 28
abbrev s_check_boxes : Stmt := top 32
abbrev s_check_laying : Stmt := top 33
abbrev s_room_of : Stmt := top 34
abbrev s_last_full : Stmt := top 35
abbrev s_house_load : Stmt := top 36
abbrev s_told_answer_boxes : Stmt := top 37
abbrev s_answer_boxes : Stmt := top 39
abbrev s_can_lay : Stmt := top 41
abbrev s_rooms : Stmt := top 42
abbrev s_room_left : Stmt := top 43
abbrev s_load : Stmt := top 44
abbrev s_left_out : Stmt := top 45
abbrev s_check_hold : Stmt := top 48
abbrev s_too_great : Stmt := top 49
abbrev s_needed_list : Stmt := top 50
abbrev s_needed_at : Stmt := top 51
abbrev s_count_of : Stmt := top 52
abbrev s_fewest_boxes : Stmt := top 53
abbrev s_answer_like : Stmt := top 54
abbrev s_check_count : Stmt := top 56
abbrev s_hold_for : Stmt := top 57
abbrev s_least_hold : Stmt := top 58
abbrev s_left_by : Stmt := top 60
abbrev s_spare_list : Stmt := top 61
abbrev s_house_payments : Stmt := top 62
abbrev s_first_lack : Stmt := top 63
abbrev s_told_answer_atonce : Stmt := top 64
abbrev s_check_persons : Stmt := top 69
abbrev s_check_sharing : Stmt := top 70
abbrev s_shared : Stmt := top 71
abbrev s_answer_shares : Stmt := top 72
abbrev s_can_share : Stmt := top 74
abbrev s_least_greatest : Stmt := top 75
abbrev s_levelled : Stmt := top 76
abbrev s_by_turns : Stmt := top 77
abbrev s_neediest : Stmt := top 78
abbrev s_by_need : Stmt := top 79
abbrev s_numbers : Stmt := top 80
abbrev s__law_numbers : Stmt := top 82
abbrev s__law_chain : Stmt := top 83
abbrev s__law_heap : Stmt := top 84
abbrev s__law_called : Stmt := top 85
abbrev s__law_shared : Stmt := top 86
abbrev s__law_refusal : Stmt := top 87
abbrev s__law_odds : Stmt := top 88
abbrev s_law : Stmt := top 89
theorem sc_is_whole : FnScope ["value"] ["value"] (defScope s_is_whole) := ⟨rfl, rfl, rfl, by decide +kernel, rfl, by decide +kernel, by decide +kernel⟩
theorem sc_is_from_to : FnScope ["value", "least", "most"] ["value", "least", "most"] (defScope s_is_from_to) := ⟨rfl, rfl, rfl, by decide +kernel, rfl, by decide +kernel, by decide +kernel⟩
theorem sc_is_listed : FnScope ["value"] ["value"] (defScope s_is_listed) := ⟨rfl, rfl, rfl, by decide +kernel, rfl, by decide +kernel, by decide +kernel⟩
theorem sc_follows : FnScope ["before", "value"] ["before", "value"] (defScope s_follows) := ⟨rfl, rfl, rfl, by decide +kernel, rfl, by decide +kernel, by decide +kernel⟩
theorem sc_first_wrong_chains : FnScope ["listed", "index", "value"] ["listed"] (defScope s_first_wrong_chains) := ⟨rfl, rfl, rfl, by decide +kernel, rfl, by decide +kernel, by decide +kernel⟩
theorem sc_check_chain : FnScope ["value", "wrong"] ["value"] (defScope s_check_chain) := ⟨rfl, rfl, rfl, by decide +kernel, rfl, by decide +kernel, by decide +kernel⟩
theorem sc_first_wrong_heaps : FnScope ["heap", "index", "count"] ["heap"] (defScope s_first_wrong_heaps) := ⟨rfl, rfl, rfl, by decide +kernel, rfl, by decide +kernel, by decide +kernel⟩
theorem sc_check_counts : FnScope ["chain", "value", "wrong"] ["chain", "value"] (defScope s_check_counts) := ⟨rfl, rfl, rfl, by decide +kernel, rfl, by decide +kernel, by decide +kernel⟩
theorem sc_check_heap : FnScope ["chain", "value"] ["chain", "value"] (defScope s_check_heap) := ⟨rfl, rfl, rfl, by decide +kernel, rfl, by decide +kernel, by decide +kernel⟩
theorem sc_worth_of : FnScope ["chain", "heap", "value", "count"] ["chain", "heap"] (defScope s_worth_of) := ⟨rfl, rfl, rfl, by decide +kernel, rfl, by decide +kernel, by decide +kernel⟩
theorem sc_lesser_of : FnScope ["chain", "heap", "k"] ["chain", "heap", "k"] (defScope s_lesser_of) := ⟨rfl, rfl, rfl, by decide +kernel, rfl, by decide +kernel, by decide +kernel⟩
theorem sc_greater_of : FnScope ["chain", "heap", "k"] ["chain", "heap", "k"] (defScope s_greater_of) := ⟨rfl, rfl, rfl, by decide +kernel, rfl, by decide +kernel, by decide +kernel⟩
theorem sc_check_index : FnScope ["value", "most"] ["value", "most"] (defScope s_check_index) := ⟨rfl, rfl, rfl, by decide +kernel, rfl, by decide +kernel, by decide +kernel⟩
theorem sc_check_boxes : FnScope ["value", "hold"] ["value"] (defScope s_check_boxes) := ⟨rfl, rfl, rfl, by decide +kernel, rfl, by decide +kernel, by decide +kernel⟩
theorem sc_check_laying : FnScope ["chain", "heap", "boxes"] ["chain", "heap", "boxes"] (defScope s_check_laying) := ⟨rfl, rfl, rfl, by decide +kernel, rfl, by decide +kernel, by decide +kernel⟩
theorem sc_room_of : FnScope ["chain", "boxes", "k", "hold"] ["chain", "boxes", "k"] (defScope s_room_of) := ⟨rfl, rfl, rfl, by decide +kernel, rfl, by decide +kernel, by decide +kernel⟩
theorem sc_last_full : FnScope ["chain", "heap", "boxes", "k", "greater", "room"] ["chain", "heap", "boxes"] (defScope s_last_full) := ⟨rfl, rfl, rfl, by decide +kernel, rfl, by decide +kernel, by decide +kernel⟩
theorem sc_house_load : FnScope ["chain", "heap", "boxes", "rows", "_", "left", "k", "count", "at", "row"] ["chain", "heap", "boxes"] (defScope s_house_load) := ⟨rfl, rfl, rfl, by decide +kernel, rfl, by decide +kernel, by decide +kernel⟩
theorem sc_told_answer_boxes : FnScope ["chain", "heap", "boxes", "full"] ["chain", "heap", "boxes"] (defScope s_told_answer_boxes) := ⟨rfl, rfl, rfl, by decide +kernel, rfl, by decide +kernel, by decide +kernel⟩
theorem sc_answer_boxes : FnScope ["chain", "heap", "boxes"] ["chain", "heap", "boxes"] (defScope s_answer_boxes) := ⟨rfl, rfl, rfl, by decide +kernel, rfl, by decide +kernel, by decide +kernel⟩
theorem sc_can_lay : FnScope ["chain", "heap", "boxes"] ["chain", "heap", "boxes"] (defScope s_can_lay) := ⟨rfl, rfl, rfl, by decide +kernel, rfl, by decide +kernel, by decide +kernel⟩
theorem sc_rooms : FnScope ["chain", "boxes", "k"] ["chain", "boxes"] (defScope s_rooms) := ⟨rfl, rfl, rfl, by decide +kernel, rfl, by decide +kernel, by decide +kernel⟩
theorem sc_room_left : FnScope ["chain", "heap", "boxes", "k", "found", "hold", "row"] ["chain", "heap", "boxes", "k"] (defScope s_room_left) := ⟨rfl, rfl, rfl, by decide +kernel, rfl, by decide +kernel, by decide +kernel⟩
theorem sc_load : FnScope ["chain", "heap", "boxes", "rows", "row"] ["chain", "heap", "boxes"] (defScope s_load) := ⟨rfl, rfl, rfl, by decide +kernel, rfl, by decide +kernel, by decide +kernel⟩
theorem sc_left_out : FnScope ["chain", "heap", "boxes", "_", "rows", "k", "count", "row"] ["chain", "heap", "boxes"] (defScope s_left_out) := ⟨rfl, rfl, rfl, by decide +kernel, rfl, by decide +kernel, by decide +kernel⟩
theorem sc_check_hold : FnScope ["value"] ["value"] (defScope s_check_hold) := ⟨rfl, rfl, rfl, by decide +kernel, rfl, by decide +kernel, by decide +kernel⟩
theorem sc_too_great : FnScope ["chain", "heap", "c", "found", "k", "count"] ["chain", "heap", "c"] (defScope s_too_great) := ⟨rfl, rfl, rfl, by decide +kernel, rfl, by decide +kernel, by decide +kernel⟩
theorem sc_needed_list : FnScope ["chain", "heap", "c", "found", "k", "value", "room"] ["chain", "heap", "c"] (defScope s_needed_list) := ⟨rfl, rfl, rfl, by decide +kernel, rfl, by decide +kernel, by decide +kernel⟩
theorem sc_needed_at : FnScope ["chain", "heap", "c"] ["chain", "heap", "c"] (defScope s_needed_at) := ⟨rfl, rfl, rfl, by decide +kernel, rfl, by decide +kernel, by decide +kernel⟩
theorem sc_count_of : FnScope ["chain", "heap", "c"] ["chain", "heap", "c"] (defScope s_count_of) := ⟨rfl, rfl, rfl, by decide +kernel, rfl, by decide +kernel, by decide +kernel⟩
theorem sc_fewest_boxes : FnScope ["chain", "heap", "c"] ["chain", "heap", "c"] (defScope s_fewest_boxes) := ⟨rfl, rfl, rfl, by decide +kernel, rfl, by decide +kernel, by decide +kernel⟩
theorem sc_answer_like : FnScope ["chain", "heap", "c", "great", "count", "rows", "shown"] ["chain", "heap", "c"] (defScope s_answer_like) := ⟨rfl, rfl, rfl, by decide +kernel, rfl, by decide +kernel, by decide +kernel⟩
theorem sc_check_count : FnScope ["value"] ["value"] (defScope s_check_count) := ⟨rfl, rfl, rfl, by decide +kernel, rfl, by decide +kernel, by decide +kernel⟩
theorem sc_hold_for : FnScope ["chain", "heap", "n", "least", "most", "middle"] ["chain", "heap", "n"] (defScope s_hold_for) := ⟨rfl, rfl, rfl, by decide +kernel, rfl, by decide +kernel, by decide +kernel⟩
theorem sc_least_hold : FnScope ["chain", "heap", "n"] ["chain", "heap", "n"] (defScope s_least_hold) := ⟨rfl, rfl, rfl, by decide +kernel, rfl, by decide +kernel, by decide +kernel⟩
theorem sc_left_by : FnScope ["chain", "amounts", "k", "amount"] ["chain", "amounts", "k"] (defScope s_left_by) := ⟨rfl, rfl, rfl, by decide +kernel, rfl, by decide +kernel, by decide +kernel⟩
theorem sc_spare_list : FnScope ["chain", "heap", "amounts", "k"] ["chain", "heap", "amounts"] (defScope s_spare_list) := ⟨rfl, rfl, rfl, by decide +kernel, rfl, by decide +kernel, by decide +kernel⟩
theorem sc_house_payments : FnScope ["chain", "heap", "amounts", "rows", "_", "left", "k", "count", "at", "row"] ["chain", "heap", "amounts"] (defScope s_house_payments) := ⟨rfl, rfl, rfl, by decide +kernel, rfl, by decide +kernel, by decide +kernel⟩
theorem sc_first_lack : FnScope ["chain", "heap", "amounts", "k", "spare"] ["chain", "heap", "amounts"] (defScope s_first_lack) := ⟨rfl, rfl, rfl, by decide +kernel, rfl, by decide +kernel, by decide +kernel⟩
theorem sc_told_answer_atonce : FnScope ["chain", "heap", "amounts", "lack"] ["chain", "heap", "amounts"] (defScope s_told_answer_atonce) := ⟨rfl, rfl, rfl, by decide +kernel, rfl, by decide +kernel, by decide +kernel⟩
theorem sc_check_persons : FnScope ["value"] ["value"] (defScope s_check_persons) := ⟨rfl, rfl, rfl, by decide +kernel, rfl, by decide +kernel, by decide +kernel⟩
theorem sc_check_sharing : FnScope ["chain", "heap", "n"] ["chain", "heap", "n"] (defScope s_check_sharing) := ⟨rfl, rfl, rfl, by decide +kernel, rfl, by decide +kernel, by decide +kernel⟩
theorem sc_shared : FnScope ["chain", "heap", "n", "whole", "found"] ["chain", "heap", "n"] (defScope s_shared) := ⟨rfl, rfl, rfl, by decide +kernel, rfl, by decide +kernel, by decide +kernel⟩
theorem sc_answer_shares : FnScope ["chain", "heap", "n"] ["chain", "heap", "n"] (defScope s_answer_shares) := ⟨rfl, rfl, rfl, by decide +kernel, rfl, by decide +kernel, by decide +kernel⟩
theorem sc_can_share : FnScope ["chain", "heap", "n"] ["chain", "heap", "n"] (defScope s_can_share) := ⟨rfl, rfl, rfl, by decide +kernel, rfl, by decide +kernel, by decide +kernel⟩
theorem sc_least_greatest : FnScope ["chain", "heap", "n"] ["chain", "heap", "n"] (defScope s_least_greatest) := ⟨rfl, rfl, rfl, by decide +kernel, rfl, by decide +kernel, by decide +kernel⟩
theorem sc_levelled : FnScope ["chain", "heap", "n"] ["chain", "heap", "n"] (defScope s_levelled) := ⟨rfl, rfl, rfl, by decide +kernel, rfl, by decide +kernel, by decide +kernel⟩
theorem sc_by_turns : FnScope ["chain", "heap", "n", "rows", "_", "turn", "k"] ["chain", "heap", "n"] (defScope s_by_turns) := ⟨rfl, rfl, rfl, by decide +kernel, rfl, by decide +kernel, by decide +kernel⟩
theorem sc_neediest : FnScope ["worths"] ["worths"] (defScope s_neediest) := ⟨rfl, rfl, rfl, by decide +kernel, rfl, by decide +kernel, by decide +kernel⟩
theorem sc_by_need : FnScope ["chain", "heap", "n", "rows", "_", "sums", "k", "person"] ["chain", "heap", "n"] (defScope s_by_need) := ⟨rfl, rfl, rfl, by decide +kernel, rfl, by decide +kernel, by decide +kernel⟩
theorem sc_numbers : FnScope ["chain", "heap", "n"] ["chain", "heap"] (defScope s_numbers) := ⟨rfl, rfl, rfl, by decide +kernel, rfl, by decide +kernel, by decide +kernel⟩
theorem sc__law_numbers : FnScope ["script", "at", "many", "cell", "numbers_v", "k", "mixed"] ["script", "at", "many"] (defScope s__law_numbers) := ⟨rfl, rfl, rfl, by decide +kernel, rfl, by decide +kernel, by decide +kernel⟩
theorem sc__law_chain : FnScope ["script", "at", "most", "numbers_v", "chain", "k"] ["script", "at", "most"] (defScope s__law_chain) := ⟨rfl, rfl, rfl, by decide +kernel, rfl, by decide +kernel, by decide +kernel⟩
theorem sc__law_heap : FnScope ["script", "at", "chain", "most", "number"] ["script", "at", "chain", "most"] (defScope s__law_heap) := ⟨rfl, rfl, rfl, by decide +kernel, rfl, by decide +kernel, by decide +kernel⟩
theorem sc__law_called : FnScope ["chain", "heap", "value", "which"] ["chain", "heap", "value", "which"] (defScope s__law_called) := ⟨rfl, rfl, rfl, by decide +kernel, rfl, by decide +kernel, by decide +kernel⟩
theorem sc__law_shared : FnScope ["chain", "heap", "value", "which"] ["chain", "heap", "value", "which"] (defScope s__law_shared) := ⟨rfl, rfl, rfl, by decide +kernel, rfl, by decide +kernel, by decide +kernel⟩
theorem sc__law_refusal : FnScope ["chain", "heap", "value", "which", "e"] ["chain", "heap", "value", "which"] (defScope s__law_refusal) := ⟨rfl, rfl, rfl, by decide +kernel, rfl, by decide +kernel, by decide +kernel⟩
theorem sc__law_odds : FnScope ["chain", "which"] ["chain", "which"] (defScope s__law_odds) := ⟨rfl, rfl, rfl, by decide +kernel, rfl, by decide +kernel, by decide +kernel⟩
theorem sc_law : FnScope ["script", "chain", "heap", "at", "which", "odd", "good"] ["script"] (defScope s_law) := ⟨rfl, rfl, rfl, by decide +kernel, rfl, by decide +kernel, by decide +kernel⟩
/-- the classes -/
def ownBody : Stmt → List Stmt
  | .ClassDef (body := b) .. => b
  | _ => []
abbrev s_init_BadChain : Stmt := (ownBody (top 5)).getD 0 (.Pass ⟨0, 0, 0, 0⟩)
theorem sc_init_BadChain : FnScope ["self", "index"] ["self", "index"] (defScope s_init_BadChain) := ⟨rfl, rfl, rfl, by decide +kernel, rfl, by decide +kernel, by decide +kernel⟩
abbrev s_init_BadHeap : Stmt := (ownBody (top 6)).getD 0 (.Pass ⟨0, 0, 0, 0⟩)
theorem sc_init_BadHeap : FnScope ["self", "index"] ["self", "index"] (defScope s_init_BadHeap) := ⟨rfl, rfl, rfl, by decide +kernel, rfl, by decide +kernel, by decide +kernel⟩
/-- what the top leaves -/
structure Txt (K : PySem.W.Frag) (mg : Str → Option Value) : Prop where
  b_enumerate : mg "enumerate" = none
  b_sum : mg "sum" = none
  b_range : mg "range" = none
  b_list : mg "list" = none
  b_max : mg "max" = none
  b_isinstance : mg "isinstance" = none
  b_int : mg "int" = none
  b_all : mg "all" = none
  b_len : mg "len" = none
  b_min : mg "min" = none
  b_bool : mg "bool" = none
  b_tuple : mg "tuple" = none
  b_zip : mg "zip" = none
  c_MOST_VALUES : ∃ t, mg "MOST_VALUES" = some (.int (8) t)
  c_GREATEST_VALUE : ∃ t, mg "GREATEST_VALUE" = some (.int (1000000) t)
  c_WRONG_LIST_chains : ∃ t, mg "WRONG_LIST_chains" = some (.int (-1) t)
  c_MOST_PIECES : ∃ t, mg "MOST_PIECES" = some (.int (99) t)
  c_WRONG_LIST_heaps : ∃ t, mg "WRONG_LIST_heaps" = some (.int (-1) t)
  c_MOST_BOXES_boxes : ∃ t, mg "MOST_BOXES_boxes" = some (.int (8) t)
  c_GREATEST_HOLD : ∃ t, mg "GREATEST_HOLD" = some (.int (1000000) t)
  c_MOST_BOXES_like : ∃ t, mg "MOST_BOXES_like" = some (.int (8) t)
  c_FEWEST : ∃ t, mg "FEWEST" = some (.int (2) t)
  c_MOST : ∃ t, mg "MOST" = some (.int (8) t)
  f_is_whole : ∃ (f : Addr) (fd : FuncData), mg "is_whole" = some (.ref f) ∧ FunD K "is_whole" "is_whole" (defArgs s_is_whole) (defBody s_is_whole) (defScope s_is_whole) [] [] f fd
  f_is_from_to : ∃ (f : Addr) (fd : FuncData), mg "is_from_to" = some (.ref f) ∧ FunD K "is_from_to" "is_from_to" (defArgs s_is_from_to) (defBody s_is_from_to) (defScope s_is_from_to) [] [] f fd
  f_is_listed : ∃ (f : Addr) (fd : FuncData), mg "is_listed" = some (.ref f) ∧ FunD K "is_listed" "is_listed" (defArgs s_is_listed) (defBody s_is_listed) (defScope s_is_listed) [] [] f fd
  f_follows : ∃ (f : Addr) (fd : FuncData), mg "follows" = some (.ref f) ∧ FunD K "follows" "follows" (defArgs s_follows) (defBody s_follows) (defScope s_follows) [] [] f fd
  f_first_wrong_chains : ∃ (f : Addr) (fd : FuncData), mg "first_wrong_chains" = some (.ref f) ∧ FunD K "first_wrong" "first_wrong" (defArgs s_first_wrong_chains) (defBody s_first_wrong_chains) (defScope s_first_wrong_chains) [] [] f fd
  f_check_chain : ∃ (f : Addr) (fd : FuncData), mg "check_chain" = some (.ref f) ∧ FunD K "check_chain" "check_chain" (defArgs s_check_chain) (defBody s_check_chain) (defScope s_check_chain) [] [] f fd
  f_first_wrong_heaps : ∃ (f : Addr) (fd : FuncData), mg "first_wrong_heaps" = some (.ref f) ∧ FunD K "first_wrong" "first_wrong" (defArgs s_first_wrong_heaps) (defBody s_first_wrong_heaps) (defScope s_first_wrong_heaps) [] [] f fd
  f_check_counts : ∃ (f : Addr) (fd : FuncData), mg "check_counts" = some (.ref f) ∧ FunD K "check_counts" "check_counts" (defArgs s_check_counts) (defBody s_check_counts) (defScope s_check_counts) [] [] f fd
  f_check_heap : ∃ (f : Addr) (fd : FuncData), mg "check_heap" = some (.ref f) ∧ FunD K "check_heap" "check_heap" (defArgs s_check_heap) (defBody s_check_heap) (defScope s_check_heap) [] [] f fd
  f_worth_of : ∃ (f : Addr) (fd : FuncData), mg "worth_of" = some (.ref f) ∧ FunD K "worth_of" "worth_of" (defArgs s_worth_of) (defBody s_worth_of) (defScope s_worth_of) [] [] f fd
  f_lesser_of : ∃ (f : Addr) (fd : FuncData), mg "lesser_of" = some (.ref f) ∧ FunD K "lesser_of" "lesser_of" (defArgs s_lesser_of) (defBody s_lesser_of) (defScope s_lesser_of) [] [] f fd
  f_greater_of : ∃ (f : Addr) (fd : FuncData), mg "greater_of" = some (.ref f) ∧ FunD K "greater_of" "greater_of" (defArgs s_greater_of) (defBody s_greater_of) (defScope s_greater_of) [] [] f fd
  f_check_index : ∃ (f : Addr) (fd : FuncData), mg "check_index" = some (.ref f) ∧ FunD K "check_index" "check_index" (defArgs s_check_index) (defBody s_check_index) (defScope s_check_index) [] [] f fd
  f_check_boxes : ∃ (f : Addr) (fd : FuncData), mg "check_boxes" = some (.ref f) ∧ FunD K "check_boxes" "check_boxes" (defArgs s_check_boxes) (defBody s_check_boxes) (defScope s_check_boxes) [] [] f fd
  f_check_laying : ∃ (f : Addr) (fd : FuncData), mg "check_laying" = some (.ref f) ∧ FunD K "check_laying" "check_laying" (defArgs s_check_laying) (defBody s_check_laying) (defScope s_check_laying) [] [] f fd
  f_room_of : ∃ (f : Addr) (fd : FuncData), mg "room_of" = some (.ref f) ∧ FunD K "room_of" "room_of" (defArgs s_room_of) (defBody s_room_of) (defScope s_room_of) [] [] f fd
  f_last_full : ∃ (f : Addr) (fd : FuncData), mg "last_full" = some (.ref f) ∧ FunD K "last_full" "last_full" (defArgs s_last_full) (defBody s_last_full) (defScope s_last_full) [] [] f fd
  f_house_load : ∃ (f : Addr) (fd : FuncData), mg "house_load" = some (.ref f) ∧ FunD K "house_load" "house_load" (defArgs s_house_load) (defBody s_house_load) (defScope s_house_load) [] [] f fd
  f_told_answer_boxes : ∃ (f : Addr) (fd : FuncData), mg "told_answer_boxes" = some (.ref f) ∧ FunD K "told_answer" "told_answer" (defArgs s_told_answer_boxes) (defBody s_told_answer_boxes) (defScope s_told_answer_boxes) [] [] f fd
  f_answer_boxes : ∃ (f : Addr) (fd : FuncData), mg "answer_boxes" = some (.ref f) ∧ FunD K "answer" "answer" (defArgs s_answer_boxes) (defBody s_answer_boxes) (defScope s_answer_boxes) [] [] f fd
  f_can_lay : ∃ (f : Addr) (fd : FuncData), mg "can_lay" = some (.ref f) ∧ FunD K "can_lay" "can_lay" (defArgs s_can_lay) (defBody s_can_lay) (defScope s_can_lay) [] [] f fd
  f_rooms : ∃ (f : Addr) (fd : FuncData), mg "rooms" = some (.ref f) ∧ FunD K "rooms" "rooms" (defArgs s_rooms) (defBody s_rooms) (defScope s_rooms) [] [] f fd
  f_room_left : ∃ (f : Addr) (fd : FuncData), mg "room_left" = some (.ref f) ∧ FunD K "room_left" "room_left" (defArgs s_room_left) (defBody s_room_left) (defScope s_room_left) [] [] f fd
  f_load : ∃ (f : Addr) (fd : FuncData), mg "load" = some (.ref f) ∧ FunD K "load" "load" (defArgs s_load) (defBody s_load) (defScope s_load) [] [] f fd
  f_left_out : ∃ (f : Addr) (fd : FuncData), mg "left_out" = some (.ref f) ∧ FunD K "left_out" "left_out" (defArgs s_left_out) (defBody s_left_out) (defScope s_left_out) [] [] f fd
  f_check_hold : ∃ (f : Addr) (fd : FuncData), mg "check_hold" = some (.ref f) ∧ FunD K "check_hold" "check_hold" (defArgs s_check_hold) (defBody s_check_hold) (defScope s_check_hold) [] [] f fd
  f_too_great : ∃ (f : Addr) (fd : FuncData), mg "too_great" = some (.ref f) ∧ FunD K "too_great" "too_great" (defArgs s_too_great) (defBody s_too_great) (defScope s_too_great) [] [] f fd
  f_needed_list : ∃ (f : Addr) (fd : FuncData), mg "needed_list" = some (.ref f) ∧ FunD K "needed_list" "needed_list" (defArgs s_needed_list) (defBody s_needed_list) (defScope s_needed_list) [] [] f fd
  f_needed_at : ∃ (f : Addr) (fd : FuncData), mg "needed_at" = some (.ref f) ∧ FunD K "needed_at" "needed_at" (defArgs s_needed_at) (defBody s_needed_at) (defScope s_needed_at) [] [] f fd
  f_count_of : ∃ (f : Addr) (fd : FuncData), mg "count_of" = some (.ref f) ∧ FunD K "count_of" "count_of" (defArgs s_count_of) (defBody s_count_of) (defScope s_count_of) [] [] f fd
  f_fewest_boxes : ∃ (f : Addr) (fd : FuncData), mg "fewest_boxes" = some (.ref f) ∧ FunD K "fewest_boxes" "fewest_boxes" (defArgs s_fewest_boxes) (defBody s_fewest_boxes) (defScope s_fewest_boxes) [] [] f fd
  f_answer_like : ∃ (f : Addr) (fd : FuncData), mg "answer_like" = some (.ref f) ∧ FunD K "answer" "answer" (defArgs s_answer_like) (defBody s_answer_like) (defScope s_answer_like) [] [] f fd
  f_check_count : ∃ (f : Addr) (fd : FuncData), mg "check_count" = some (.ref f) ∧ FunD K "check_count" "check_count" (defArgs s_check_count) (defBody s_check_count) (defScope s_check_count) [] [] f fd
  f_hold_for : ∃ (f : Addr) (fd : FuncData), mg "hold_for" = some (.ref f) ∧ FunD K "hold_for" "hold_for" (defArgs s_hold_for) (defBody s_hold_for) (defScope s_hold_for) [] [] f fd
  f_least_hold : ∃ (f : Addr) (fd : FuncData), mg "least_hold" = some (.ref f) ∧ FunD K "least_hold" "least_hold" (defArgs s_least_hold) (defBody s_least_hold) (defScope s_least_hold) [] [] f fd
  f_left_by : ∃ (f : Addr) (fd : FuncData), mg "left_by" = some (.ref f) ∧ FunD K "left_by" "left_by" (defArgs s_left_by) (defBody s_left_by) (defScope s_left_by) [] [] f fd
  f_spare_list : ∃ (f : Addr) (fd : FuncData), mg "spare_list" = some (.ref f) ∧ FunD K "spare_list" "spare_list" (defArgs s_spare_list) (defBody s_spare_list) (defScope s_spare_list) [] [] f fd
  f_house_payments : ∃ (f : Addr) (fd : FuncData), mg "house_payments" = some (.ref f) ∧ FunD K "house_payments" "house_payments" (defArgs s_house_payments) (defBody s_house_payments) (defScope s_house_payments) [] [] f fd
  f_first_lack : ∃ (f : Addr) (fd : FuncData), mg "first_lack" = some (.ref f) ∧ FunD K "first_lack" "first_lack" (defArgs s_first_lack) (defBody s_first_lack) (defScope s_first_lack) [] [] f fd
  f_told_answer_atonce : ∃ (f : Addr) (fd : FuncData), mg "told_answer_atonce" = some (.ref f) ∧ FunD K "told_answer" "told_answer" (defArgs s_told_answer_atonce) (defBody s_told_answer_atonce) (defScope s_told_answer_atonce) [] [] f fd
  f_check_persons : ∃ (f : Addr) (fd : FuncData), mg "check_persons" = some (.ref f) ∧ FunD K "check_persons" "check_persons" (defArgs s_check_persons) (defBody s_check_persons) (defScope s_check_persons) [] [] f fd
  f_check_sharing : ∃ (f : Addr) (fd : FuncData), mg "check_sharing" = some (.ref f) ∧ FunD K "check_sharing" "check_sharing" (defArgs s_check_sharing) (defBody s_check_sharing) (defScope s_check_sharing) [] [] f fd
  f_shared : ∃ (f : Addr) (fd : FuncData), mg "shared" = some (.ref f) ∧ FunD K "shared" "shared" (defArgs s_shared) (defBody s_shared) (defScope s_shared) [] [] f fd
  f_answer_shares : ∃ (f : Addr) (fd : FuncData), mg "answer_shares" = some (.ref f) ∧ FunD K "answer" "answer" (defArgs s_answer_shares) (defBody s_answer_shares) (defScope s_answer_shares) [] [] f fd
  f_can_share : ∃ (f : Addr) (fd : FuncData), mg "can_share" = some (.ref f) ∧ FunD K "can_share" "can_share" (defArgs s_can_share) (defBody s_can_share) (defScope s_can_share) [] [] f fd
  f_least_greatest : ∃ (f : Addr) (fd : FuncData), mg "least_greatest" = some (.ref f) ∧ FunD K "least_greatest" "least_greatest" (defArgs s_least_greatest) (defBody s_least_greatest) (defScope s_least_greatest) [] [] f fd
  f_levelled : ∃ (f : Addr) (fd : FuncData), mg "levelled" = some (.ref f) ∧ FunD K "levelled" "levelled" (defArgs s_levelled) (defBody s_levelled) (defScope s_levelled) [] [] f fd
  f_by_turns : ∃ (f : Addr) (fd : FuncData), mg "by_turns" = some (.ref f) ∧ FunD K "by_turns" "by_turns" (defArgs s_by_turns) (defBody s_by_turns) (defScope s_by_turns) [] [] f fd
  f_neediest : ∃ (f : Addr) (fd : FuncData), mg "neediest" = some (.ref f) ∧ FunD K "neediest" "neediest" (defArgs s_neediest) (defBody s_neediest) (defScope s_neediest) [] [] f fd
  f_by_need : ∃ (f : Addr) (fd : FuncData), mg "by_need" = some (.ref f) ∧ FunD K "by_need" "by_need" (defArgs s_by_need) (defBody s_by_need) (defScope s_by_need) [] [] f fd
  f_numbers : ∃ (f : Addr) (fd : FuncData), mg "numbers" = some (.ref f) ∧ FunD K "numbers" "numbers" (defArgs s_numbers) (defBody s_numbers) (defScope s_numbers) [] [] f fd
  f__law_numbers : ∃ (f : Addr) (fd : FuncData), mg "_law_numbers" = some (.ref f) ∧ FunD K "_law_numbers" "_law_numbers" (defArgs s__law_numbers) (defBody s__law_numbers) (defScope s__law_numbers) [] [] f fd
  f__law_chain : ∃ (f : Addr) (fd : FuncData), mg "_law_chain" = some (.ref f) ∧ FunD K "_law_chain" "_law_chain" (defArgs s__law_chain) (defBody s__law_chain) (defScope s__law_chain) [] [] f fd
  f__law_heap : ∃ (f : Addr) (fd : FuncData), mg "_law_heap" = some (.ref f) ∧ FunD K "_law_heap" "_law_heap" (defArgs s__law_heap) (defBody s__law_heap) (defScope s__law_heap) [] [] f fd
  f__law_called : ∃ (f : Addr) (fd : FuncData), mg "_law_called" = some (.ref f) ∧ FunD K "_law_called" "_law_called" (defArgs s__law_called) (defBody s__law_called) (defScope s__law_called) [] [] f fd
  f__law_shared : ∃ (f : Addr) (fd : FuncData), mg "_law_shared" = some (.ref f) ∧ FunD K "_law_shared" "_law_shared" (defArgs s__law_shared) (defBody s__law_shared) (defScope s__law_shared) [] [] f fd
  f__law_refusal : ∃ (f : Addr) (fd : FuncData), mg "_law_refusal" = some (.ref f) ∧ FunD K "_law_refusal" "_law_refusal" (defArgs s__law_refusal) (defBody s__law_refusal) (defScope s__law_refusal) [] [] f fd
  f__law_odds : ∃ (f : Addr) (fd : FuncData), mg "_law_odds" = some (.ref f) ∧ FunD K "_law_odds" "_law_odds" (defArgs s__law_odds) (defBody s__law_odds) (defScope s__law_odds) [] [] f fd
  f_law : ∃ (f : Addr) (fd : FuncData), mg "law" = some (.ref f) ∧ FunD K "law" "law" (defArgs s_law) (defBody s_law) (defScope s_law) [] [] f fd
  e_BadChain : ExI K mg "BadChain" "BadChain.__init__" s_init_BadChain
  e_BadHeap : ExI K mg "BadHeap" "BadHeap.__init__" s_init_BadHeap
  m_BadNumber : ExM K mg "BadNumber"
end Pa
namespace Pa
open PySem PySem.Spec PyProof.Rows L2
def lookB (K : PySem.W.Frag) (C : Addr) : Bool := match K.lookup C with
  | some ⟨.type T, _, .cls cd, sl⟩ => decide (T = "type") && (cd.hasDict && (!cd.hasDel && ((match cd.mro with
    | .ref C' :: bm => decide (C' = C) && PySem.HandSPX.refsVE bm
    | _ => false) && (match sl.toList with
    | [_, _, _, _, some (.builtin b), _] => decide (b = "ValueError.__new__")
    | _ => false))))
  | _ => false
def idB (K : PySem.W.Frag) (C : Addr) : Bool := lookB K C && (decide (PySem.W.findIn K (.ref C) "__setattr__" = some (some (.builtin "object.__setattr__"))) && (decide (PySem.W.subIn K (.ref C) (.type "BaseException") = some true) && (decide (PySem.W.typeIn K (.ref C) = some (.type "type")) && (PySem.W.keepIn K (.ref C) && (xfB K C && (decide (PySem.W.findIn K (.ref C) "index" = some none) &&
  (decide (PySem.W.findIn K (.ref C) "__init__" = some (some (.ref (He.ma K C "__init__")))) && decide (PySem.W.typeIn K (.ref (He.ma K C "__init__")) = some (.type "function")))))))))
/-- isinstance of it -/
def isB' (K : PySem.W.Frag) (C : Addr) : Bool := (PySem.W.clsIn K C).isSome && (decide (PySem.W.findIn K (.ref C) "__class__" = some (some (.builtin "object.__class__"))) && (decide (PySem.W.specialIn K (.builtin "object.__class__") "__get__" = some (some (.builtin "getset_descriptor.__get__"))) && (decide (PySem.W.takesIn K (.builtin "object.__class__") = some true) && decide (PySem.W.mroIn K C (.type "object") = some true))))
def exB (K : PySem.W.Frag) : Bool := idB K (He.ga K "BadChain") && (idB K (He.ga K "BadHeap") && (isB' K (He.ga K "BadChain") && (decide (PySem.W.kitOne K (.ref (He.ga K "BadChain")) (.ref (He.ga K "BadHeap")) = some false) && (decide (PySem.W.kitOne K (.ref (He.ga K "BadChain")) (.ref (He.ga K "BadAmount")) = some false) && decide (PySem.W.kitOne K (.ref (He.ga K "BadChain")) (.ref (He.ga K "PieceError")) = some true)))))
theorem lookB_ok {K : PySem.W.Frag} {C : Addr} (h : lookB K C = true) : ∃ nm q N bs bm sn sub ab col dd k0 k1 k2 k3 k5, K.lookup C = some (excClassObj nm q C N bs bm true sn sub ab col dd k0 k1 k2 k3 k5 "ValueError.__new__") ∧ PySem.HandSPX.refsVE bm = true := by
  unfold lookB at h
  split at h
  · rename_i T dd cd sl ho
    simp only [Bool.and_eq_true, decide_eq_true_eq, Bool.not_eq_true'] at h
    obtain ⟨h1, h2, h3, h4, h5⟩ := h
    subst h1
    obtain ⟨nm, bs, mro, ns, qn, hd, sn, sb, ab, col, dl⟩ := cd
    dsimp only at h2 h3 h4
    subst h2 h3
    split at h4
    · rename_i C' bm
      simp only [Bool.and_eq_true, decide_eq_true_eq] at h4
      obtain ⟨h4, h6⟩ := h4
      subst h4
      split at h5
      · rename_i k0 k1 k2 k3 b k5 hs
        have h5 := of_decide_eq_true h5
        subst h5
        have es : sl = #[k0, k1, k2, k3, some (.builtin "ValueError.__new__"), k5] := by
          apply Array.toList_inj.mp
          exact hs
        subst es
        exact ⟨nm, qn, ns, bs, bm, sn, sb, ab, col, dd, k0, k1, k2, k3, k5, ho, h6⟩
      · cases h5
    · cases h4
  · cases h
end Pa
namespace Pa
open PySem PySem.Spec PyProof.Rows L2
section
variable {P : Program} {w : World} {K : PySem.W.Frag} {mg : Str → Option Value} {base : Heap} (Z : Txt K mg)
include Z
theorem d_is_whole : Df P w K mg base (L2.CX P w) 1 "is_whole" 1 (fun ds r => ∃ d, d.noS = true ∧ ds = [d] ∧ r = .ok (.bl (isW d))) :=
  Df.mk' Z.f_is_whole sc_is_whole (fun _ _ _ _ _ _ us hl => match us, hl with | [_], _ => rfl) fun f cdv A outer s H E ds r hr hn hR => by
    obtain ⟨d, hs, rfl, rfl⟩ := hR
    refine ⟨.rt _, rfl, xb_stop (xs_ret (xe_and (xe_isi (xe_var 0) Z.b_isinstance Z.b_int boot_int (kit_isI d) (hsc := hs)) (fun h => ?_) (fun h => by unfold isW; rw [h]; rfl))) trivial⟩
    have e : isW d = !isB d := by unfold isW; rw [h]; rfl
    rw [e]
    exact xe_one (xe_not (xe_isi (xe_var 0) Z.b_isinstance Z.b_bool boot_bool (kit_isB d) (hsc := hs)))
theorem d_is_from_to : Df P w K mg base (L2.CX P w) 2 "is_from_to" 3 (fun ds r => ∃ d a b, d.noS = true ∧ ds = [d, .int a, .int b] ∧ r = .ok (.bl (isFT d a b))) :=
  Df.mk' Z.f_is_from_to sc_is_from_to (fun _ _ _ _ _ _ us hl => match us, hl with | [_, _, _], _ => rfl) fun f cdv A outer s H E ds r hr hn hR => by
    obtain ⟨d, a, b, hs, rfl, rfl⟩ := hR
    cases hd : isW d with
    | false => exact ⟨.rt _, rfl, xb_stop (xs_ret (xe_and (c := false) (xe_call (d_is_whole Z) passL hr (xa_cons (xe_var 0) xa_nil) ⟨d, hs, rfl, by rw [hd]⟩) (fun h => by cases h) (fun _ => by rw [isFT_no hd]))) trivial⟩
    | true =>
      obtain ⟨i, rfl⟩ := isW_int hd
      exact ⟨.rt _, rfl, xb_stop (xs_ret (xe_and (c := true) (xe_call (d_is_whole Z) passL hr (xa_cons (xe_var 0) xa_nil) ⟨_, rfl, rfl, by rw [hd]⟩) (fun _ => xe_one (xe_le2 (xe_var 1) (xe_var 0) (xe_var 2))) (fun h => by cases h))) trivial⟩
theorem d_is_listed : Df P w K mg base (L2.CX P w) 1 "is_listed" 1 (fun ds r => ∃ d, d.noS = true ∧ ds = [d] ∧ r = .ok (.bl (isListed d))) :=
  Df.mk' Z.f_is_listed sc_is_listed (fun _ _ _ _ _ _ us hl => match us, hl with | [_], _ => rfl) fun f cdv A outer s H E ds r hr hn hR => by
    obtain ⟨d, hs, rfl, rfl⟩ := hR
    have no : isL d = false → isListed d = false := fun h => by
      cases d with
      | lst _ => cases h
      | _ => rfl
    have yes : isL d = true → ∃ xs, d = .lst xs := fun h => by
      cases d with
      | lst xs => exact ⟨xs, rfl⟩
      | scr K ns => cases hs
      | _ => cases h
    refine ⟨.rt _, rfl, xb_stop (xs_ret (xe_and (xe_isi (xe_var 0) Z.b_isinstance Z.b_list boot_list (kit_isL d) (hsc := hs)) (fun h => ?_) (fun h => by rw [no h]))) trivial⟩
    obtain ⟨xs, rfl⟩ := yes h
    exact xe_one (xe_le2 xe_int (xe_callB c_len Z.b_len boot_len (xa_cons (xe_var 0) xa_nil)) (xe_glob Z.c_MOST_VALUES))
theorem d_follows : Df P w K mg base (L2.CX P w) 1 "follows" 2 (fun ds r => ∃ p v, 0 < p ∧ ds = [.int p, .int v] ∧ r = .ok (.bl (isFollow p v))) :=
  Df.mk' Z.f_follows sc_follows (fun _ _ _ _ _ _ us hl => match us, hl with | [_, _], _ => rfl) fun f cdv A outer s H E ds r hr hn hR => by
    obtain ⟨p, v, h0, rfl, rfl⟩ := hR
    refine ⟨.rt _, rfl, xb_stop (xs_ret (xe_and (xe_cmp o_gt (xe_var 1) (xe_var 0)) (fun h => ?_) (fun h => by unfold isFollow; rw [h]; rfl))) trivial⟩
    unfold isFollow
    rw [h, Bool.true_and]
    exact xe_one (xe_cmp o_eqI (xe_op (o_mod h0) (xe_var 1) (xe_var 0)) xe_int)
end
end Pa
namespace Pa
open PySem PySem.Spec PyProof.Rows L2
section
variable {P : Program} {w : World} {K : PySem.W.Frag} {mg : Str → Option Value} {base : Heap} (Z : Txt K mg)
include Z
def outF (δ : Ss) : Option Nat → Out
  | none => .nx δ []
  | some i => .rt (.int i)
theorem d_first_wrong_chains : Df P w K mg base (L2.CX P w) 3 "first_wrong_chains" 1 (fun ds r => ∃ xs, (∀ d ∈ xs, d.noS = true) ∧ ds = [.lst xs] ∧ r = .ok (optI (fwC none xs 0))) :=
  Df.mk' Z.f_first_wrong_chains sc_first_wrong_chains (fun _ _ _ _ _ _ us hl => match us, hl with | [_], _ => rfl) fun f cdv A outer s H E ds r hr hn hR => by
    obtain ⟨xs, hs, rfl, rfl⟩ := hR
    have key : ∀ O, outF [some (.sh (.lst xs)), none, none] (fwC none xs 0) = O → ∃ O', EndsAs O' (.ok (optI (fwC none xs 0))) ∧ (∀ δ ω, O = .nx δ ω → O' = .rt .non) ∧ (∀ d, O = .rt d → O' = .rt d) := fun O h => by
      cases q : fwC none xs 0 with
      | none => exact ⟨.rt .non, rfl, fun _ _ _ => rfl, fun d e => by rw [q] at h; rw [← h] at e; cases e⟩
      | some i => exact ⟨.rt (.int i), rfl, fun δ ω e => (by rw [q] at h; rw [← h] at e; cases e), fun d e => by rw [q] at h; rw [← h] at e; cases e; rfl⟩
    have fin : ∀ {X : Cx} {st : Stmt} {rest : List Stmt}, Xs X E st [some (.sh (.lst xs)), none, none] [] (outF [some (.sh (.lst xs)), none, none] (fwC none xs 0)) → (fwC none xs 0 = none → Xb X E rest [some (.sh (.lst xs)), none, none] [] (.rt .non)) → ∃ O, EndsAs O (.ok (optI (fwC none xs 0))) ∧ Xb X E (st :: rest) [some (.sh (.lst xs)), none, none] [] O := fun {X st rest} a b => by
      cases q : fwC none xs 0 with
      | none =>
        rw [q] at a
        exact ⟨.rt .non, rfl, xb_cons a (b q)⟩
      | some i =>
        rw [q] at a
        exact ⟨.rt (.int i), rfl, xb_stop a trivial⟩
    refine fin (xs_for (.two 1 2) (passes_of rfl) (xi_enum Z.b_enumerate (xe_var 0)) (xg_two sc_first_wrong_chains.nd) (LoopS.ind (fun es δ ω O => ∃ pre rest prev, es = enumFrom pre.length rest ∧ xs = pre ++ rest ∧ (match prev with | none => pre = [] | some p => (1 : Int) ≤ p ∧ pre.getLast? = some (.int p)) ∧
      δ = [some (.sh (.lst xs)), none, none] ∧ ω = [] ∧ O = outF δ (fwC prev rest pre.length)) ?_ ?_ ⟨[], xs, none, rfl, rfl, rfl, rfl, rfl, rfl⟩)) (fun _ => xb_stop (xs_ret xe_non) trivial)
    · rintro δ ω O ⟨pre, rest, prev, h1, h2, h3, rfl, rfl, rfl⟩
      cases rest with
      | nil => cases prev <;> rfl
      | cons d rest => cases h1
    · rintro d es δ ω O ⟨pre, rest, prev, h1, h2, h3, rfl, rfl, rfl⟩
      cases rest with
      | nil => cases h1
      | cons d' rest =>
        rw [enumFrom_cons] at h1
        cases h1
        have hsd := hs d' (by rw [h2]; simp)
        cases hb : isFT d' 1 1000000 with
        | false =>
          refine TurnS.ret (r := .int (pre.length : Nat)) rfl (xb_stop (xs_if (c := true) (xt_not (xt_val (c := false) (xe_call (d_is_from_to Z) passL hr (xa_cons (xe_var 2) (xa_cons xe_int (xa_cons (xe_glob Z.c_GREATEST_VALUE) xa_nil))) ⟨_, _, _, hsd, rfl, by rw [hb]⟩))) (fun _ => xb_stop (xs_ret (xe_var 1)) trivial) (fun h => by cases h)) trivial) ?_
          cases d' with
          | int v => cases prev <;> (show outF _ (if isFT (.int v) 1 1000000 = true then _ else some pre.length) = _; rw [hb]; rfl)
          | _ => cases prev <;> rfl
        | true =>
          have hv : ∃ v, d' = .int v := by
            cases d' with
            | int v => exact ⟨v, rfl⟩
            | _ => cases hb
          obtain ⟨v, rfl⟩ := hv
          have hv1 : (1 : Int) ≤ v := by
            have h : (decide ((1 : Int) ≤ v) && decide (v ≤ 1000000)) = true := hb
            exact of_decide_eq_true (Bool.and_eq_true_iff.mp h).1
          have first := fun {X : Cx} => @xs_if X
          have e1 : fwC prev (.int v :: rest) pre.length = (match prev with
            | none => fwC (some v) rest (pre.length + 1)
            | some p => if isFollow p v = true then fwC (some v) rest (pre.length + 1) else some pre.length) := by
            cases prev <;> (show (if isFT (.int v) 1 1000000 = true then _ else some pre.length) = _; rw [if_pos hb])
          have hlast : (1 : Int) ≤ v ∧ (pre ++ [Dt.int v]).getLast? = some (.int v) := ⟨hv1, by simp⟩
          cases prev with
          | none =>
            have hp : pre = [] := h3
            subst hp
            refine TurnS.next rfl (xb_cons (xs_if (c := false) (xt_not (xt_val (c := true) (xe_call (d_is_from_to Z) passL hr (xa_cons (xe_var 2) (xa_cons xe_int (xa_cons (xe_glob Z.c_GREATEST_VALUE) xa_nil))) ⟨_, _, _, hsd, rfl, by rw [hb]⟩))) (fun h => by cases h) (fun _ => xb_nil))
              (xb_cons (xs_if (c := false) (xt_bool (xw_and (c := false) (xt_cmp o_gt (xe_var 1) xe_int) (fun h => by cases h) (fun _ => rfl))) (fun h => by cases h) (fun _ => xb_nil)) xb_nil)) (by repeat (first | exact LessS.nil | apply LessS.keep | apply LessS.drop)) ⟨[.int v], rest, some v, rfl, h2, hlast, rfl, rfl, by rw [e1]; rfl⟩
          | some p =>
            obtain ⟨hp1, hp2⟩ := h3
            have hlen : (0 : Int) < (pre.length : Int) := by
              cases pre with
              | nil => cases hp2
              | cons a b => simp only [List.length_cons]; omega
            have hat : atI xs ((pre.length : Int) - 1) = some (.int p) := by rw [h2]; exact at_last hp2
            cases hf : isFollow p v with
            | true =>
              refine TurnS.next rfl (xb_cons (xs_if (c := false) (xt_not (xt_val (c := true) (xe_call (d_is_from_to Z) passL hr (xa_cons (xe_var 2) (xa_cons xe_int (xa_cons (xe_glob Z.c_GREATEST_VALUE) xa_nil))) ⟨_, _, _, hsd, rfl, by rw [hb]⟩))) (fun h => by cases h) (fun _ => xb_nil))
                (xb_cons (xs_if (c := false) (xt_bool (xw_and (xt_cmp o_gt (xe_var 1) xe_int) (fun _ => xw_and1 (xt_not (xt_val (c := true) (xe_call (d_follows Z) passL (hr.mono (by decide)) (xa_cons (xe_ix (i_list hat) (xe_var 0) (xe_op o_sub (xe_var 1) xe_int)) (xa_cons (xe_var 2) xa_nil)) ⟨_, _, by omega, rfl, by rw [hf]⟩)))) (fun _ => rfl))) (fun h => by cases h) (fun _ => xb_nil)) xb_nil))
                (by repeat (first | exact LessS.nil | apply LessS.keep | apply LessS.drop)) ⟨pre ++ [.int v], rest, some v, by rw [List.length_append]; rfl, by rw [h2]; simp, hlast, rfl, rfl, by rw [e1, List.length_append]; simp only [hf, if_true]; rfl⟩
            | false =>
              refine TurnS.ret (r := .int (pre.length : Nat)) rfl (xb_cons (xs_if (c := false) (xt_not (xt_val (c := true) (xe_call (d_is_from_to Z) passL hr (xa_cons (xe_var 2) (xa_cons xe_int (xa_cons (xe_glob Z.c_GREATEST_VALUE) xa_nil))) ⟨_, _, _, hsd, rfl, by rw [hb]⟩))) (fun h => by cases h) (fun _ => xb_nil))
                (xb_stop (xs_if (c := true) (xt_bool (xw_and (xt_cmp o_gt (xe_var 1) xe_int) (fun _ => xw_and1 (xt_not (xt_val (c := false) (xe_call (d_follows Z) passL (hr.mono (by decide)) (xa_cons (xe_ix (i_list hat) (xe_var 0) (xe_op o_sub (xe_var 1) xe_int)) (xa_cons (xe_var 2) xa_nil)) ⟨_, _, by omega, rfl, by rw [hf]⟩)))) (fun h => absurd hlen (of_decide_eq_false h)))) (fun _ => xb_stop (xs_ret (xe_var 1)) trivial) (fun h => by cases h)) trivial)) ?_
              rw [e1]
              simp only [hf]
              rfl
theorem d_first_wrong_heaps : Df P w K mg base (L2.CX P w) 3 "first_wrong_heaps" 1 (fun ds r => ∃ xs, (∀ d ∈ xs, d.noS = true) ∧ ds = [.lst xs] ∧ r = .ok (optI (fwH xs 0))) :=
  Df.mk' Z.f_first_wrong_heaps sc_first_wrong_heaps (fun _ _ _ _ _ _ us hl => match us, hl with | [_], _ => rfl) fun f cdv A outer s H E ds r hr hn hR => by
    obtain ⟨xs, hs, rfl, rfl⟩ := hR
    have fin : ∀ {X : Cx} {st : Stmt} {rest : List Stmt}, Xs X E st [some (.sh (.lst xs)), none, none] [] (outF [some (.sh (.lst xs)), none, none] (fwH xs 0)) → (fwH xs 0 = none → Xb X E rest [some (.sh (.lst xs)), none, none] [] (.rt .non)) → ∃ O, EndsAs O (.ok (optI (fwH xs 0))) ∧ Xb X E (st :: rest) [some (.sh (.lst xs)), none, none] [] O := fun {X st rest} a b => by
      cases q : fwH xs 0 with
      | none =>
        rw [q] at a
        exact ⟨.rt .non, rfl, xb_cons a (b q)⟩
      | some i =>
        rw [q] at a
        exact ⟨.rt (.int i), rfl, xb_stop a trivial⟩
    refine fin (xs_for (.two 1 2) (passes_of rfl) (xi_enum Z.b_enumerate (xe_var 0)) (xg_two sc_first_wrong_heaps.nd) (LoopS.ind (fun es δ ω O => ∃ k rest, es = enumFrom k rest ∧ (∀ d ∈ rest, d.noS = true) ∧ δ = [some (.sh (.lst xs)), none, none] ∧ ω = [] ∧ O = outF δ (fwH rest k)) ?_ ?_ ⟨0, xs, rfl, hs, rfl, rfl, rfl⟩)) (fun _ => xb_stop (xs_ret xe_non) trivial)
    · rintro δ ω O ⟨k, rest, h1, hs2, rfl, rfl, rfl⟩
      cases rest with
      | nil => rfl
      | cons d rest => cases h1
    · rintro d es δ ω O ⟨k, rest, h1, hs2, rfl, rfl, rfl⟩
      cases rest with
      | nil => cases h1
      | cons d' rest =>
        rw [enumFrom_cons] at h1
        cases h1
        have hsd := hs2 d' List.mem_cons_self
        have e1 : fwH (d' :: rest) k = if isFT d' 0 99 = true then fwH rest (k + 1) else some k := rfl
        cases hb : isFT d' 0 99 with
        | false =>
          refine TurnS.ret (r := .int (k : Nat)) rfl (xb_stop (xs_if (c := true) (xt_not (xt_val (c := false) (xe_call (d_is_from_to Z) passL hr (xa_cons (xe_var 2) (xa_cons xe_int (xa_cons (xe_glob Z.c_MOST_PIECES) xa_nil))) ⟨_, _, _, hsd, rfl, by rw [hb]⟩))) (fun _ => xb_stop (xs_ret (xe_var 1)) trivial) (fun h => by cases h)) trivial) ?_
          rw [e1, hb]
          rfl
        | true =>
          refine TurnS.next rfl (xb_cons (xs_if (c := false) (xt_not (xt_val (c := true) (xe_call (d_is_from_to Z) passL hr (xa_cons (xe_var 2) (xa_cons xe_int (xa_cons (xe_glob Z.c_MOST_PIECES) xa_nil))) ⟨_, _, _, hsd, rfl, by rw [hb]⟩))) (fun h => by cases h) (fun _ => xb_nil)) xb_nil) (by repeat (first | exact LessS.nil | apply LessS.keep | apply LessS.drop)) ⟨k + 1, rest, rfl, fun d hd => hs2 d (List.mem_cons_of_mem _ hd), rfl, rfl, by rw [e1, hb]; rfl⟩
end
end Pa
namespace Pa
open PySem PySem.Spec PyProof.Rows L2
section
variable {P : Program} {w : World} {K : PySem.W.Frag} {mg : Str → Option Value} {base : Heap} (Z : Txt K mg)
include Z
theorem d_worth_of : Df P w K mg base (L2.CX P w) 1 "worth_of" 2 (fun ds r => ∃ c h, ds = [dI c, dI h] ∧ c.length ≤ 1000 ∧ (∀ v ∈ c, Small v) ∧ r = .ok (.int (worth c h))) :=
  Df.mk' Z.f_worth_of sc_worth_of (fun _ _ _ _ _ _ us hl => match us, hl with | [_, _], _ => rfl) fun f cdv A outer s H E ds r hr hn hR => by
    obtain ⟨c, h, rfl, hz, hc, rfl⟩ := hR
    refine ⟨.rt _, rfl, xb_stop (xs_ret (xe_callB c_sum Z.b_sum boot_sum (xa_cons (xe_lc [("value", 2), ("count", 3)] (.two 2 3) sc_worth_of.nd (xi_zip Z.b_zip (xe_var 0) (xe_var 1))
      (comp_zip (f := fun a b => a * b) fun a b hab s H C cl fp => xe_op (o_mul (.inl (hc a (List.of_mem_zip hab).1))) (xe_var 2) (xe_var 3)) (Nat.le_trans zip_len (by omega)) (fun _ _ _ _ _ => xg_two sc_worth_of.nd)) xa_nil))) trivial⟩
theorem d_lesser_of : Df P w K mg base (L2.CX P w) 2 "lesser_of" 3 (fun ds r => ∃ c h, ∃ k : Int, Chn c ∧ Hep c h ∧ 0 ≤ k ∧ k ≤ c.length ∧ ds = [dI c, dI h, .int k] ∧ r = .ok (.int (lesser c h k.toNat))) :=
  Df.mk' Z.f_lesser_of sc_lesser_of (fun _ _ _ _ _ _ us hl => match us, hl with | [_, _, _], _ => rfl) fun f cdv A outer s H E ds r hr hn hR => by
    obtain ⟨c, h, k, hc, hh, h0, h1, rfl, rfl⟩ := hR
    have l8 := hc.len8
    refine ⟨.rt _, rfl, xb_stop (xs_ret (xe_call (d_worth_of Z) passL hr (xa_cons (xe_takeI h0 h1 (xe_var 0) (xe_var 2)) (xa_cons (xe_takeI h0 (by rw [hh.len]; exact h1) (xe_var 1) (xe_var 2)) xa_nil)) ⟨_, _, rfl, ?_, fun v hv => hc.small v (List.mem_of_mem_take hv), rfl⟩)) trivial⟩
    rw [List.length_take]
    omega
theorem d_left_by : Df P w K mg base (L2.CX P w) 1 "left_by" 3 (fun ds r => ∃ c as, ∃ k : Int, Chn c ∧ as.length ≤ 1000 ∧ 0 ≤ k ∧ k ≤ c.length ∧ ds = [dI c, dI as, .int k] ∧ r = .ok (.int (leftBy c as k.toNat))) :=
  Df.mk' Z.f_left_by sc_left_by (fun _ _ _ _ _ _ us hl => match us, hl with | [_, _, _], _ => rfl) fun f cdv A outer s H E ds r hr hn hR => by
    obtain ⟨c, as, k, hc, hz, h0, h1, rfl, rfl⟩ := hR
    by_cases hk : k = (c.length : Int)
    · have e : leftBy c as k.toNat = as.sum := by
        unfold leftBy
        rw [if_pos (by omega)]
      rw [e]
      exact ⟨.rt _, rfl, xb_stop (xs_if (c := decide (k = (c.length : Int))) (xt_cmp o_eqI (xe_var 2) (xe_callB c_lenI Z.b_len boot_len (xa_cons (xe_var 0) xa_nil))) (fun _ => xb_stop (xs_ret (xe_callB c_sum Z.b_sum boot_sum (xa_cons (xe_var 1) xa_nil))) trivial) (fun h => absurd hk (of_decide_eq_false h))) trivial⟩
    · have e : leftBy c as k.toNat = (as.map fun a => a % c.getD k.toNat 0).sum := by
        unfold leftBy
        rw [if_neg (by omega)]
      rw [e]
      have hpos := hc.getD (k := k.toNat) (by omega)
      exact ⟨.rt _, rfl, xb_cons (xs_if (c := decide (k = (c.length : Int))) (xt_cmp o_eqI (xe_var 2) (xe_callB c_lenI Z.b_len boot_len (xa_cons (xe_var 0) xa_nil))) (fun h => absurd (of_decide_eq_true h) hk) (fun _ => xb_nil))
        (xb_stop (xs_ret (xe_callB c_sum Z.b_sum boot_sum (xa_cons (xe_lc [("amount", 3)] (.one 3) sc_left_by.nd (xi_list (xe_var 1)) (comp_ints (f := fun a => a % c.getD k.toNat 0) fun n hn s H C cl fp => xe_op (o_mod (by omega)) (xe_var 3) (xe_ix (i_int h0 (by omega)) (xe_var 0) (xe_var 2)))
          (by rw [List.length_map]; omega) (fun _ _ _ _ _ => xg_one sc_left_by.nd)) xa_nil))) trivial)⟩
theorem d_spare_list : Df P w K mg base (L2.CX P w) 3 "spare_list" 3 (fun ds r => ∃ c h as, Chn c ∧ Hep c h ∧ as.length ≤ 1000 ∧ ds = [dI c, dI h, dI as] ∧ r = .ok (dI (spares c h as))) :=
  Df.mk' Z.f_spare_list sc_spare_list (fun _ _ _ _ _ _ us hl => match us, hl with | [_, _, _], _ => rfl) fun f cdv A outer s H E ds r hr hn hR => by
    obtain ⟨c, h, as, hc, hh, hz, rfl, rfl⟩ := hR
    have l8 := hc.len8
    have e : spares c h as = (rngD ((c.length : Int) + 1).toNat fun i => (i : Int)).map fun k => lesser c h k.toNat - leftBy c as k.toNat := by
      rw [rngD_map]
      have e1 : ((c.length : Int) + 1).toNat = c.length + 1 := by omega
      rw [e1]
      rfl
    rw [e]
    exact ⟨.rt _, rfl, xb_stop (xs_ret (xe_lc [("k", 3)] (.one 3) sc_spare_list.nd (xi_range1 Z.b_range (xa_cons (xe_op o_add (xe_callB c_lenI Z.b_len boot_len (xa_cons (xe_var 0) xa_nil)) xe_int) xa_nil) (by omega) (by omega))
      (comp_ints (f := fun k => lesser c h k.toNat - leftBy c as k.toNat) fun n hn s H C cl fp => by
        obtain ⟨i, hi, rfl⟩ := rngD_mem hn
        exact xe_op o_sub (xe_call (d_lesser_of Z) passL hr (xa_cons (xe_var 0) (xa_cons (xe_var 1) (xa_cons (xe_var 3) xa_nil))) ⟨c, h, _, hc, hh, by omega, by omega, rfl, rfl⟩)
          (xe_call (d_left_by Z) passL (hr.mono (by decide)) (xa_cons (xe_var 0) (xa_cons (xe_var 2) (xa_cons (xe_var 3) xa_nil))) ⟨c, as, _, hc, hz, by omega, by omega, rfl, rfl⟩))
      (by rw [List.length_map, rngD_len]; omega) (fun _ _ _ _ _ => xg_one sc_spare_list.nd))) trivial⟩
end
end Pa
namespace Pa
open PySem PySem.Spec PyProof.Rows L2
section
variable {P : Program} {w : World} {K : PySem.W.Frag} {mg : Str → Option Value} {base : Heap} (Z : Txt K mg)
include Z
theorem d_house_payments : Df P w K mg base (L2.CX P w) 1 "house_payments" 3 (fun ds r => ∃ c h as, Chn c ∧ Hep c h ∧ as.length ≤ 1000 ∧ ds = [dI c, dI h, dI as] ∧ r = .ok (.lst ((housePay c h as).map dI))) :=
  Df.mk' Z.f_house_payments sc_house_payments (fun _ _ _ _ _ _ us hl => match us, hl with | [_, _, _], _ => rfl) fun f cdv A outer s H E ds r hr hn hR => by
    obtain ⟨c, h, as, hc, hh, hz, rfl, rfl⟩ := hR
    have l0 := hc.len0
    have l8 := hc.len8
    have nd := sc_house_payments.nd
    refine ⟨.rt _, rfl, xb_cons (xs_lcR (i := 3) (rs := List.replicate as.length (List.replicate c.length 0)) [("_", 4)] (.one 4) nd (xi_list (xe_var 2)) ⟨by rw [List.length_replicate, List.length_map], fun i d hd => ?_⟩ (by rw [List.length_map]; omega) (fun _ _ _ _ _ => xg_one nd)) (xb_cons (xs_new (i := 5) nd (xn_list Z.b_list (xe_var 2)))
      (xb_cons (xs_for (.one 6) (passes_of rfl) (xi_range3 (n := ((c.length : Int) - 1 - (-1)).toNat) Z.b_range (xa_cons (xe_op o_sub (xe_callB c_lenI Z.b_len boot_len (xa_cons (xe_var 0) xa_nil)) xe_int) (xa_cons (xe_un o_neg xe_int) (xa_cons (xe_un o_neg xe_int) xa_nil))) (RgC.neg (by omega) (by omega) (by omega) (by omega))) (xg_one nd)
        (LoopS.runI c.length (fun _ => [some (.sh (dI c)), some (.sh (dI h)), some (.sh (dI as)), some (.at_ 0), none, some (.at_ 1), none, none, none, none]) (fun i => [.rows (payAt c h as i).1, .nums (payAt c h as i).2]) (by omega) rfl rfl fun i hi => ?_))
        (xb_stop (xs_ret (xe_var 3)) trivial)))⟩
    · have hi : i < as.length := by
        have := (List.getElem?_eq_some_iff.mp hd).1
        rwa [List.length_map] at this
      refine ⟨_, List.replicate c.length 0, rfl, by rw [List.getElem?_replicate, if_pos hi], fun s H C cl fp => ?_⟩
      have e : List.replicate c.length (0 : Int) = List.replicate ((c.length : Int)).toNat 0 := by rw [Int.toNat_natCast]
      rw [e]
      exact xn_rep (xe_lst (xa_cons xe_int xa_nil)) (xe_callB c_lenI Z.b_len boot_len (xa_cons (xe_var 0) xa_nil)) (by omega) (by omega)
    · have ek : ((c.length : Int) - 1 + (i : Int) * -1) = ((c.length - 1 - i : Nat) : Int) := by omega
      have hk : c.length - 1 - i < c.length := by omega
      obtain ⟨p1, p2, p3⟩ := payAt_len (c := c) (h := h) (as := as) i
      have hv := hc.getD hk
      have e1 : payAt c h as (i + 1) = ((Pay.turns (c.getD (c.length - 1 - i) 0) (c.length - 1 - i) ⟨h.getD (c.length - 1 - i) 0, (payAt c h as i).1, (payAt c h as i).2⟩ as.length).rows, (Pay.turns (c.getD (c.length - 1 - i) 0) (c.length - 1 - i) ⟨h.getD (c.length - 1 - i) 0, (payAt c h as i).1, (payAt c h as i).2⟩ as.length).left) := rfl
      rw [ek, e1]
      clear ek e1
      generalize ekk : c.length - 1 - i = k at *
      refine ⟨_, _, rfl, xb_cons (xs_flat (i := 7) (d := .int (h.getD k 0)) nd (xe_ix (i_int (k := (k : Int)) (by omega) (by rw [hh.len]; omega)) (xe_var 1) (xe_var 6))) (xb_cons (xs_forRows (n := 0) (ia := 8) (ir := 9) (m := as.length)
        (δs := fun j => [some (.sh (dI c)), some (.sh (dI h)), some (.sh (dI as)), some (.at_ 0), none, some (.at_ 1), some (.sh (.int k)), some (.sh (.int (Pay.turns (c.getD k 0) k ⟨h.getD k 0, (payAt c h as i).1, (payAt c h as i).2⟩ j).count)), none, none])
        (ωs := fun j => [.rows (Pay.turns (c.getD k 0) k ⟨h.getD k 0, (payAt c h as i).1, (payAt c h as i).2⟩ j).rows, .nums (Pay.turns (c.getD k 0) k ⟨h.getD k 0, (payAt c h as i).1, (payAt c h as i).2⟩ j).left])
        (passes_of rfl) Z.b_enumerate (xr_var 3) (xg_two nd) (by repeat (first | exact LessS.nil | apply LessS.keep | apply LessS.drop)) rfl (fun j hj => ⟨_, rfl, turns_len.1.trans p1⟩) fun j hj => ?_) xb_nil), ?_⟩
      · obtain ⟨q1, q2⟩ := turns_len (v := c.getD k 0) (k := k) (s := ⟨h.getD k 0, (payAt c h as i).1, (payAt c h as i).2⟩) (j := j)
        have q3 := turns_row (v := c.getD k 0) (k := k) (s := ⟨h.getD k 0, (payAt c h as i).1, (payAt c h as i).2⟩) p3 j
        have est : Pay.turns (c.getD k 0) k ⟨h.getD k 0, (payAt c h as i).1, (payAt c h as i).2⟩ (j + 1) = (Pay.turns (c.getD k 0) k ⟨h.getD k 0, (payAt c h as i).1, (payAt c h as i).2⟩ j).turn (c.getD k 0) k j := rfl
        rw [est]
        generalize Pay.turns (c.getD k 0) k ⟨h.getD k 0, (payAt c h as i).1, (payAt c h as i).2⟩ j = st at *
        have hrl : j < st.rows.length := by rw [q1]; show j < (payAt c h as i).1.length; omega
        have hll : j < st.left.length := by rw [q2]; show j < (payAt c h as i).2.length; omega
        have hl2 : st.left.length ≤ 1000 := by rw [q2]; show (payAt c h as i).2.length ≤ 1000; omega
        have hrow : st.rows[j]? = some (st.rows.getD j []) := getD_some hrl
        have hrowl : (st.rows.getD j []).length = c.length := q3 _ (getD_mem hrl)
        unfold Pay.turn
        dsimp only
        generalize hx : min st.count (st.left.getD j 0 / c.getD k 0) = x
        have hrow2 : (st.rows.set j ((st.rows.getD j []).set k x))[j]? = some ((st.rows.getD j []).set k x) := List.getElem?_set_self hrl
        have hxk : ((st.rows.getD j []).set k x).getD k 0 = x := by rw [getD_set, if_pos ⟨rfl, by rw [hrowl]; exact hk⟩]
        have hlen2 : ((k : Nat) : Int) < (((st.rows.getD j []).set k x).length : Int) := by rw [List.length_set, hrowl]; omega
        refine ⟨_, xb_cons (xs_setix (v := x) (y := .row 0 j) (j := (k : Nat)) (ns := st.rows.getD j []) (xr_var 9) hrow (xe_var 6) (by omega) (by rw [hrowl]; omega) ?_)
          (xb_cons (xs_aug (i := 7) ip_sub nd (xe_ix (i_intE (v := x) (k := (k : Nat)) (by omega) hlen2 hxk) (xe_var 9 (hd := ?_)) (xe_var 6)))
          (xb_cons (xs_augix (v := x * c.getD k 0) ip_sub (y := .at_ 1) (j := (j : Nat)) (ns := st.left) (xr_var 5) rfl (xe_var 8) (by omega) (by omega) (by omega) (xe_op (o_mul (.inr ?_)) (xe_ix (i_intE (v := x) (k := (k : Nat)) (by omega) hlen2 hxk) (xe_var 9 (hd := ?_)) (xe_var 6)) (xe_ix (i_int (ns := c) (k := (k : Nat)) (by omega) (by omega)) (xe_var 0) (xe_var 6)))) xb_nil)), (by repeat (first | exact LessS.nil | apply LessS.keep | apply LessS.drop))⟩
        · rw [← hx]
          exact xe_callB c_min2 Z.b_min boot_min (xa_cons (xe_var 7) (xa_cons (xe_op (o_div ⟨by show (0 : Int) < c.getD k 0; omega, by show c.getD k 0 < 1073741824; omega⟩) (xe_ix (i_int (k := (j : Nat)) (by omega) (by omega)) (xe_var 5) (xe_var 8)) (xe_ix (i_int (k := (k : Nat)) (by omega) (by omega)) (xe_var 0) (xe_var 6))) xa_nil))
        · show some (((st.rows.set j ((st.rows.getD j []).set k x))[j]?).map dI) = _
          rw [hrow2]
          rfl
        · show -(2 ^ 64) < c.getD k 0 ∧ c.getD k 0 < 2 ^ 64
          omega
        · show some (((st.rows.set j ((st.rows.getD j []).set k x))[j]?).map dI) = _
          rw [hrow2]
          rfl
      · exact (by repeat (first | exact LessS.nil | apply LessS.keep | apply LessS.drop))
end
end Pa
namespace Pa
open PySem PySem.Spec PyProof.Rows L2
section
variable {P : Program} {w : World} {K : PySem.W.Frag} {mg : Str → Option Value} {base : Heap} (Z : Txt K mg)
include Z
theorem d_first_lack : Df P w K mg base (L2.CX P w) 4 "first_lack" 3 (fun ds r => ∃ c h as, Chn c ∧ Hep c h ∧ as.length ≤ 1000 ∧ ds = [dI c, dI h, dI as] ∧ r = .ok (lackD c h as (firstLack c h as))) :=
  Df.mk' Z.f_first_lack sc_first_lack (fun _ _ _ _ _ _ us hl => match us, hl with | [_, _, _], _ => rfl) fun f cdv A outer s H E ds r hr hn hR => by
    obtain ⟨c, h, as, hc, hh, hz, rfl, rfl⟩ := hR
    have l8 := hc.len8
    have fin : ∀ {X : Cx} {st : Stmt} {rest : List Stmt}, Xs X E st [some (.sh (dI c)), some (.sh (dI h)), some (.sh (dI as)), none, none] [] (match firstLack c h as with | none => .nx [some (.sh (dI c)), some (.sh (dI h)), some (.sh (dI as)), none, none] [] | some k => .rt (lackD c h as (some k))) → (firstLack c h as = none → Xb X E rest [some (.sh (dI c)), some (.sh (dI h)), some (.sh (dI as)), none, none] [] (.rt .non)) → ∃ O, EndsAs O (.ok (lackD c h as (firstLack c h as))) ∧ Xb X E (st :: rest) [some (.sh (dI c)), some (.sh (dI h)), some (.sh (dI as)), none, none] [] O := fun {X st rest} a b => by
      cases q : firstLack c h as with
      | none =>
        rw [q] at a
        exact ⟨.rt .non, rfl, xb_cons a (b q)⟩
      | some i =>
        rw [q] at a
        exact ⟨.rt (lackD c h as (some i)), rfl, xb_stop a trivial⟩
    refine fin (xs_for (.two 3 4) (passes_of rfl) (xi_enum Z.b_enumerate (xe_call (d_spare_list Z) passL hr (xa_cons (xe_var 0) (xa_cons (xe_var 1) (xa_cons (xe_var 2) xa_nil))) ⟨c, h, as, hc, hh, hz, rfl, rfl⟩)) (xg_two sc_first_lack.nd)
      (LoopS.ind (fun es δ ω O => ∃ k, k ≤ c.length + 1 ∧ es = enumFrom k ((spares c h as).drop k |>.map Dt.int) ∧ δ = [some (.sh (dI c)), some (.sh (dI h)), some (.sh (dI as)), none, none] ∧ ω = [] ∧
        O = (match (List.range' k (c.length + 1 - k)).find? (lacks c h as) with | none => .nx δ [] | some k => .rt (lackD c h as (some k)))) ?_ ?_ ⟨0, by omega, rfl, rfl, rfl, by unfold firstLack; rw [List.range_eq_range']; rfl⟩)) (fun _ => xb_stop (xs_ret xe_non) trivial)
    · rintro δ ω O ⟨k, hk, h1, rfl, rfl, rfl⟩
      have hl : c.length + 1 ≤ k := by
        have := congrArg List.length h1
        unfold enumFrom spares at this
        rw [List.length_map, List.length_zipIdx, List.length_map, List.length_drop, rngD_len] at this
        simp only [List.length_nil] at this
        omega
      have e : c.length + 1 - k = 0 := by omega
      rw [e]
      rfl
    · rintro d es δ ω O ⟨k, hk, h1, rfl, rfl, rfl⟩
      have hl : k < c.length + 1 := by
        have := congrArg List.length h1
        unfold enumFrom spares at this
        rw [List.length_map, List.length_zipIdx, List.length_map, List.length_drop, rngD_len] at this
        simp only [List.length_cons] at this
        omega
      have ed : (spares c h as).drop k = (lesser c h k - leftBy c as k) :: (spares c h as).drop (k + 1) := by
        have hl2 : k < (spares c h as).length := by unfold spares; rw [rngD_len]; exact hl
        rw [List.drop_eq_getElem_cons hl2]
        have := rngD_get (f := fun k => lesser c h k - leftBy c as k) hl
        have h2 : (spares c h as)[k]? = some (lesser c h k - leftBy c as k) := this
        rw [List.getElem?_eq_getElem hl2] at h2
        rw [Option.some.inj h2]
      rw [ed, List.map_cons, enumFrom_cons] at h1
      cases h1
      rw [find_step hl]
      cases hb : lacks c h as k with
      | true =>
        have hb' : lesser c h k < leftBy c as k := of_decide_eq_true hb
        rw [if_pos rfl]
        refine TurnS.ret (r := .tup [.int (k : Nat), .int (leftBy c as k), .int (lesser c h k)]) rfl (xb_stop (xs_if (xt_cmp o_lt (xe_var 4) xe_int) (fun _ => xb_stop (xs_ret (xe_tup (xa_cons (xe_var 3) (xa_cons (xe_call (d_left_by Z) passL (hr.mono (by decide)) (xa_cons (xe_var 0) (xa_cons (xe_var 2) (xa_cons (xe_var 3) xa_nil))) ⟨c, as, (k : Nat), hc, hz, by omega, by omega, rfl, rfl⟩)
          (xa_cons (xe_call (d_lesser_of Z) passL (hr.mono (by decide)) (xa_cons (xe_var 0) (xa_cons (xe_var 1) (xa_cons (xe_var 3) xa_nil))) ⟨c, h, (k : Nat), hc, hh, by omega, by omega, rfl, rfl⟩) xa_nil))))) trivial) (fun h => ?_)) trivial) rfl
        have := of_decide_eq_false h
        omega
      | false =>
        have hb' : ¬ lesser c h k < leftBy c as k := of_decide_eq_false hb
        rw [if_neg Bool.false_ne_true]
        refine TurnS.next rfl (xb_cons (xs_if (xt_cmp o_lt (xe_var 4) xe_int) (fun h => ?_) (fun _ => xb_nil)) xb_nil) (by repeat (first | exact LessS.nil | apply LessS.keep | apply LessS.drop)) ⟨k + 1, hl, rfl, rfl, rfl, rfl⟩
        have := of_decide_eq_true h
        omega
theorem d_told_answer : Df P w K mg base (L2.CX P w) 5 "told_answer_atonce" 3 (fun ds r => ∃ c h as, Chn c ∧ Hep c h ∧ as.length ≤ 1000 ∧ ds = [dI c, dI h, dI as] ∧ r = .ok (toldD c h as)) :=
  Df.mk' Z.f_told_answer_atonce sc_told_answer_atonce (fun _ _ _ _ _ _ us hl => match us, hl with | [_, _, _], _ => rfl) fun f cdv A outer s H E ds r hr hn hR => by
    obtain ⟨c, h, as, hc, hh, hz, rfl, rfl⟩ := hR
    have nd := sc_told_answer_atonce.nd
    unfold toldD
    cases q : firstLack c h as with
    | none =>
      exact ⟨.rt _, rfl, xb_cons (xs_sh (i := 3) (d := .non) nd (xe_call (d_first_lack Z) passL hr (xa_cons (xe_var 0) (xa_cons (xe_var 1) (xa_cons (xe_var 2) xa_nil))) ⟨c, h, as, hc, hh, hz, rfl, by rw [q]; rfl⟩))
        (xb_cons (xs_if (xt_cmp (o_notN (d := .non)) (xe_var 3) xe_non) (fun h => by cases h) (fun _ => xb_nil))
        (xb_stop (xs_ret (xe_tup (xa_cons xe_str (xa_cons (xe_call (d_house_payments Z) passL (hr.mono (by decide)) (xa_cons (xe_var 0) (xa_cons (xe_var 1) (xa_cons (xe_var 2) xa_nil))) ⟨c, h, as, hc, hh, hz, rfl, rfl⟩) xa_nil)))) trivial))⟩
    | some k =>
      exact ⟨.rt _, rfl, xb_cons (xs_sh (i := 3) (d := .tup [.int k, .int (leftBy c as k), .int (lesser c h k)]) nd (xe_call (d_first_lack Z) passL hr (xa_cons (xe_var 0) (xa_cons (xe_var 1) (xa_cons (xe_var 2) xa_nil))) ⟨c, h, as, hc, hh, hz, rfl, by rw [q]; rfl⟩))
        (xb_stop (xs_if (xt_cmp (o_notN (d := .tup [.int k, .int (leftBy c as k), .int (lesser c h k)])) (xe_var 3) xe_non) (fun _ => xb_stop (xs_ret (xe_op (o_catT (ds := [.str "value"]) (by simp) (by simp)) (xe_tup (xa_cons xe_str xa_nil)) (xe_var 3))) trivial) (fun h => by cases h)) trivial)⟩
end
end Pa
namespace Pa
open PySem PySem.Spec PyProof.Rows L2
theorem xt_le2 {X : Cx} {δ : Sl} {pos : Pos} {a b c : Expr} {x y z : Int} {k : Bool} (e : (decide (x ≤ y) && decide (y ≤ z)) = k) (ha : Xe X a δ (.int x)) (hb : Xe X b δ (.int y)) (hc : Xe X c δ (.int z)) (hm : lastMarks [.LtE, .LtE] [b, c] = false := by with_unfolding_all rfl) : Xt X (.Compare a [.LtE, .LtE] [b, c] pos) δ k := by
  rw [← e]
  exact xt_chain o_le ha hb (fun h => by rw [h, Bool.true_and]; exact ⟨o_le, hc⟩) (fun h => by rw [h, Bool.false_and]) hm
theorem comp_dataB {X : Cx} {scope : Scope} {elt : Expr} {δ : Sl} {j : Nat} {f : Dt → Bool} : ∀ {xs : List Dt}, (∀ d ∈ xs, InB X scope fun Y => Xe Y elt (δ.set j (some d)) (.bl (f d))) → CompD X scope (.one j) [] elt δ xs ((xs.map f).map Dt.bl)
  | [], _ => .nil
  | d :: xs, k => .keep rfl (fun _ _ _ _ _ => xts_nil) (k d List.mem_cons_self) (comp_dataB fun e he => k e (List.mem_cons_of_mem _ he))
def Dt.okS : Dt → Bool
  | .scr _ _ => false
  | .lst xs => xs.all Dt.noS
  | _ => true
theorem Dt.okS.noS {d : Dt} (h : d.okS = true) : d.noS = true := by
  cases d with
  | scr K ns => cases h
  | _ => rfl
theorem okS_lst {xs : List Dt} (h : (Dt.lst xs).okS = true) : ∀ d ∈ xs, d.noS = true := List.all_eq_true.mp h
theorem okS_dI (ns : List Int) : (dI ns).okS = true := List.all_eq_true.mpr (noS_ints ns)
def chainErr (d : Dt) : Option Int := match d with
  | .lst xs => if isListed (.lst xs) = true then (fwC none xs 0).map Int.ofNat else some (-1)
  | _ => some (-1)
def heapErr (m : Nat) (d : Dt) : Option Int := match d with
  | .lst xs => if xs.length = m then (fwH xs 0).map Int.ofNat else some (-1)
  | _ => some (-1)
def lenD : Dt → Nat
  | .lst xs => xs.length
  | _ => 0
def resI (C : Addr) : Option Int → Res
  | some i => .er (.idx C i)
  | none => .ok .non
def resE : Option Err → Res
  | some e => .er e
  | none => .ok .non
def resM (N : Addr) (b : Bool) : Res := if b = true then .ok .non else .er (.msg N)
def heapE (C H : Addr) (dc dh : Dt) : Option Err := match chainErr dc with
  | some i => some (.idx C i)
  | none => (heapErr (lenD dc) dh).map (.idx H)
def msgE (N : Addr) (b : Bool) : Option Err := if b = true then none else some (.msg N)
def orE : Option Err → Option Err → Option Err
  | some e, _ => some e
  | none, o => o
theorem fwH_inv : ∀ (xs : List Dt) (k : Nat), fwH xs k = none → ∃ ns : List Int, xs = ns.map Dt.int ∧ ∀ v ∈ ns, 0 ≤ v ∧ v ≤ 99
  | [], k, _ => ⟨[], rfl, fun v h => by cases h⟩
  | d :: xs, k, h => by
    have h : (if isFT d 0 99 = true then fwH xs (k + 1) else some k) = none := h
    by_cases hb : isFT d 0 99 = true
    · rw [if_pos hb] at h
      obtain ⟨ns, rfl, hn⟩ := fwH_inv xs (k + 1) h
      cases d with
      | int v =>
        refine ⟨v :: ns, rfl, fun u hu => ?_⟩
        rcases List.mem_cons.mp hu with rfl | hu
        · have hb : (decide (0 ≤ u) && decide (u ≤ 99)) = true := hb
          rw [Bool.and_eq_true, decide_eq_true_eq, decide_eq_true_eq] at hb
          exact hb
        · exact hn u hu
      | _ => cases hb
    · rw [if_neg hb] at h
      cases h
theorem fwC_inv : ∀ (xs : List Dt) (prev : Option Int) (k : Nat), fwC prev xs k = none → ∃ ns : List Int, xs = ns.map Dt.int ∧ (∀ v ∈ ns, 1 ≤ v ∧ v ≤ 1000000) ∧ (∀ p v, prev = some p → ns.head? = some v → p < v ∧ v % p = 0) ∧ ∀ i, i + 1 < ns.length → ns.getD i 0 < ns.getD (i + 1) 0 ∧ ns.getD (i + 1) 0 % ns.getD i 0 = 0
  | [], prev, k, _ => ⟨[], rfl, (fun v h => by cases h), (fun p v _ h => by cases h), fun i h => absurd h (by simp)⟩
  | d :: xs, prev, k, h => by
    cases d with
    | int v =>
      have h : (if isFT (.int v) 1 1000000 = true then (match prev with
        | none => fwC (some v) xs (k + 1)
        | some p => if isFollow p v = true then fwC (some v) xs (k + 1) else some k) else some k) = none := by
        cases prev <;> exact h
      by_cases hb : isFT (.int v) 1 1000000 = true
      · rw [if_pos hb] at h
        have hb : (decide (1 ≤ v) && decide (v ≤ 1000000)) = true := hb
        rw [Bool.and_eq_true, decide_eq_true_eq, decide_eq_true_eq] at hb
        have h2 : fwC (some v) xs (k + 1) = none ∧ ∀ p, prev = some p → p < v ∧ v % p = 0 := by
          cases prev with
          | none => exact ⟨h, fun p e => by cases e⟩
          | some p =>
            have h : (if isFollow p v = true then fwC (some v) xs (k + 1) else some k) = none := h
            by_cases hf : isFollow p v = true
            · rw [if_pos hf] at h
              have hf : (decide (p < v) && decide (v % p = 0)) = true := hf
              rw [Bool.and_eq_true, decide_eq_true_eq, decide_eq_true_eq] at hf
              exact ⟨h, fun p' e => by cases e; exact hf⟩
            · rw [if_neg hf] at h
              cases h
        obtain ⟨ns, rfl, a, b, c⟩ := fwC_inv xs (some v) (k + 1) h2.1
        refine ⟨v :: ns, rfl, fun u hu => ?_, fun p u hp hu => ?_, fun i hi => ?_⟩
        · rcases List.mem_cons.mp hu with rfl | hu
          · exact hb
          · exact a u hu
        · cases hu
          exact h2.2 p hp
        · cases i with
          | zero =>
            cases ns with
            | nil => simp at hi
            | cons u ns => exact b v u rfl rfl
          | succ i => exact c i (by simpa using hi)
      · rw [if_neg hb] at h
        cases h
    | _ => cases prev <;> cases h
theorem chainErr_none {d : Dt} (h : chainErr d = none) : ∃ c, d = dI c ∧ Chn c := by
  cases d with
  | lst xs =>
    have h : (if isListed (.lst xs) = true then (fwC none xs 0).map Int.ofNat else some (-1)) = none := h
    by_cases hl : isListed (.lst xs) = true
    · rw [if_pos hl, Option.map_eq_none_iff] at h
      obtain ⟨ns, rfl, a, b, c⟩ := fwC_inv xs none 0 h
      have hl : (decide ((1 : Int) ≤ ((ns.map Dt.int).length : Int)) && decide (((ns.map Dt.int).length : Int) ≤ 8)) = true := hl
      rw [List.length_map, Bool.and_eq_true, decide_eq_true_eq, decide_eq_true_eq] at hl
      exact ⟨ns, rfl, by omega, by omega, a, c⟩
    · rw [if_neg hl] at h
      cases h
  | _ => cases h
theorem Chn.err {c : List Int} (h : Chn c) : chainErr (dI c) = none := by
  show (if isListed (dI c) = true then (fwC none (c.map Dt.int) 0).map Int.ofNat else some (-1)) = none
  rw [if_pos h.listed, h.fw]
  rfl
theorem heapErr_none {c : List Int} {d : Dt} (h : heapErr c.length d = none) : ∃ g, d = dI g ∧ Hep c g := by
  cases d with
  | lst xs =>
    have h : (if xs.length = c.length then (fwH xs 0).map Int.ofNat else some (-1)) = none := h
    by_cases hl : xs.length = c.length
    · rw [if_pos hl, Option.map_eq_none_iff] at h
      obtain ⟨ns, rfl, a⟩ := fwH_inv xs 0 h
      exact ⟨ns, rfl, by rw [List.length_map] at hl; exact hl, a⟩
    · rw [if_neg hl] at h
      cases h
  | _ => cases h
theorem Hep.err {c g : List Int} (h : Hep c g) : heapErr c.length (dI g) = none := by
  show (if (g.map Dt.int).length = c.length then (fwH (g.map Dt.int) 0).map Int.ofNat else some (-1)) = none
  rw [List.length_map, if_pos h.len, h.fw]
  rfl
theorem lenD_dI (c : List Int) : lenD (dI c) = c.length := List.length_map _
theorem heapE_none {C H : Addr} {dc dh : Dt} (h : heapE C H dc dh = none) : ∃ c g, dc = dI c ∧ dh = dI g ∧ Chn c ∧ Hep c g := by
  unfold heapE at h
  cases q : chainErr dc with
  | some i =>
    rw [q] at h
    cases h
  | none =>
    rw [q] at h
    obtain ⟨c, rfl, hc⟩ := chainErr_none q
    rw [lenD_dI] at h
    obtain ⟨g, rfl, hg⟩ := heapErr_none (Option.map_eq_none_iff.mp h)
    exact ⟨c, g, rfl, rfl, hc, hg⟩
theorem heapE_good {C H : Addr} {c g : List Int} (hc : Chn c) (hg : Hep c g) : heapE C H (dI c) (dI g) = none := by
  unfold heapE
  rw [hc.err, lenD_dI, hg.err]
  rfl
theorem msgE_none {N : Addr} {b : Bool} (h : msgE N b = none) : b = true := by
  unfold msgE at h
  split at h
  · assumption
  · cases h
theorem orE_none {a b : Option Err} (h : orE a b = none) : a = none ∧ b = none := by
  cases a with
  | none => exact ⟨rfl, h⟩
  | some e => cases h
theorem isFT_inv {d : Dt} {a b : Int} (h : isFT d a b = true) : ∃ i, d = .int i ∧ a ≤ i ∧ i ≤ b := by
  cases d with
  | int i =>
    have h : (decide (a ≤ i) && decide (i ≤ b)) = true := h
    rw [Bool.and_eq_true, decide_eq_true_eq, decide_eq_true_eq] at h
    exact ⟨i, rfl, h⟩
  | _ => cases h
/-- the boxes -/
def boxesOk : Dt → Bool
  | .lst xs => (decide ((1 : Int) ≤ (xs.length : Int)) && decide ((xs.length : Int) ≤ 8)) && xs.all fun d => isFT d 0 1000000
  | _ => false
structure Bxs (bs : List Int) : Prop where
  len1 : 1 ≤ bs.length
  len8 : bs.length ≤ 8
  rg : ∀ b ∈ bs, 0 ≤ b ∧ b ≤ 1000000
theorem ft_all {xs : List Dt} {a b : Int} (h : (xs.all fun d => isFT d a b) = true) : ∃ ns : List Int, xs = ns.map Dt.int ∧ ∀ v ∈ ns, a ≤ v ∧ v ≤ b := by
  induction xs with
  | nil => exact ⟨[], rfl, fun v h => by cases h⟩
  | cons d xs ih =>
    rw [List.all_cons, Bool.and_eq_true] at h
    obtain ⟨i, rfl, hi⟩ := isFT_inv h.1
    obtain ⟨ns, rfl, hn⟩ := ih h.2
    refine ⟨i :: ns, rfl, fun v hv => ?_⟩
    rcases List.mem_cons.mp hv with rfl | hv
    · exact hi
    · exact hn v hv
theorem boxesOk_inv {d : Dt} (h : boxesOk d = true) : ∃ bs, d = dI bs ∧ Bxs bs := by
  cases d with
  | lst xs =>
    have h : ((decide ((1 : Int) ≤ (xs.length : Int)) && decide ((xs.length : Int) ≤ 8)) && xs.all fun d => isFT d 0 1000000) = true := h
    rw [Bool.and_eq_true, Bool.and_eq_true, decide_eq_true_eq, decide_eq_true_eq] at h
    obtain ⟨ns, rfl, hn⟩ := ft_all h.2
    rw [List.length_map] at h
    exact ⟨ns, rfl, by omega, by omega, hn⟩
  | _ => cases h
end Pa
namespace Pa
open PySem PySem.Spec PyProof.Rows L2
/-- such a class's __init__ keeps its promise -/
def InitOk (P : Program) (w : World) (K : PySem.W.Frag) (mg : Str → Option Value) (base : Heap) (x : Str) : Prop := ∃ fI fd, PySem.W.findIn K (.ref (He.ga K x)) "__init__" = some (some (.ref fI)) ∧ PySem.W.typeIn K (.ref fI) = some (.type "function") ∧ FnOk P w K mg base (L2.CX P w) 1 fI fd ["self", "index"] (spI (He.ga K x)) ∧ Binds K fd ["self", "index"] []
theorem xs_raiseO {X : Cx} {E : XK} {δ : Ss} {ω : Om} {x q : Str} {st : Stmt} {e : Expr} {i : Int} {p pos pos' : Pos} (EI : ExI X.K X.mg x q st) (IO : InitOk X.prog X.w X.K X.mg X.base x) (hr : Room 2 X.A) (tk : TkE X E) (ha : Xe X e (view ω δ) (.int i)) (hc : X.calm = true := by rfl) (hg : Gl X x := by rfl)
    (hdb : (x == ("__debug__" : Str)) = false := by decide) (he : starEach (e :: []) X.env = (false, eval e X.env) :: starEach [] X.env := by rfl) (hpl : (backTo pos (starEach [] X.env)).any (·.1) = false := by rfl) :
    Xs X E (.Raise (some (.Call (.Name x p) [e] [] pos)) none pos') δ ω (.ex (.idx (He.ga X.K x) i)) := by
  obtain ⟨fI, fd, i1, i2, i3, i4⟩ := IO
  exact xs_raiseI EI.gC EI.T i1 i2 i3 hr i4 passL tk ha hc hg hdb he hpl
abbrev CC (K : PySem.W.Frag) : Addr := He.ga K "BadChain"
abbrev HH (K : PySem.W.Frag) : Addr := He.ga K "BadHeap"
abbrev NN (K : PySem.W.Frag) : Addr := He.ga K "BadNumber"
theorem chainErr_not {d : Dt} (h : isListed d = false) : chainErr d = some (-1) := by
  cases d with
  | lst xs =>
    show (if isListed (.lst xs) = true then (fwC none xs 0).map Int.ofNat else some (-1)) = some (-1)
    rw [if_neg (by rw [h]; exact Bool.false_ne_true)]
  | _ => rfl
theorem isListed_lst {d : Dt} (h : isListed d = true) : ∃ xs, d = .lst xs := by
  cases d with
  | lst xs => exact ⟨xs, rfl⟩
  | _ => cases h
section
variable {P : Program} {w : World} {K : PySem.W.Frag} {mg : Str → Option Value} {base : Heap} (Z : Txt K mg)
include Z
theorem init_BadChain : InitOk P w K mg base "BadChain" := by
  obtain ⟨gC, T, xf, noI, fI, fd, i1, i2, Fd⟩ := Z.e_BadChain
  exact ⟨fI, fd, i1, i2, init_ok T noI Fd sc_init_BadChain rfl (fun _ _ _ _ _ _ => Or.inl rfl) (fun _ _ _ _ _ _ => Or.inl rfl) (fun _ _ _ _ _ _ => rfl), Fd.bindsN fun _ _ _ _ _ _ us hl => match us, hl with | [_, _], _ => rfl⟩
theorem init_BadHeap : InitOk P w K mg base "BadHeap" := by
  obtain ⟨gC, T, xf, noI, fI, fd, i1, i2, Fd⟩ := Z.e_BadHeap
  exact ⟨fI, fd, i1, i2, init_ok T noI Fd sc_init_BadHeap rfl (fun _ _ _ _ _ _ => Or.inl rfl) (fun _ _ _ _ _ _ => Or.inl rfl) (fun _ _ _ _ _ _ => rfl), Fd.bindsN fun _ _ _ _ _ _ us hl => match us, hl with | [_, _], _ => rfl⟩
theorem d_check_chain : Df P w K mg base (L2.CX P w) 4 "check_chain" 1 (fun ds r => ∃ d, d.okS = true ∧ ds = [d] ∧ r = resI (CC K) (chainErr d)) :=
  Df.mk' Z.f_check_chain sc_check_chain (fun _ _ _ _ _ _ us hl => match us, hl with | [_], _ => rfl) fun f cdv A outer s H E ds r hr hn hR => by
    obtain ⟨d, hd, rfl, rfl⟩ := hR
    have nd := sc_check_chain.nd
    have tk := fun {X : Cx} => @takes_of X
    cases hl : isListed d with
    | false =>
      rw [chainErr_not hl]
      exact ⟨.ex _, rfl, xb_stop (xs_if (c := true) (xt_not (xt_val (c := false) (xe_call (d_is_listed Z) passL (hr.mono (by decide)) (xa_cons (xe_var 0) xa_nil) ⟨d, Dt.okS.noS hd, rfl, by rw [hl]⟩))) (fun _ => xb_stop (xs_raiseO Z.e_BadChain (init_BadChain Z) (hr.mono (by decide)) (takes_of rfl rfl rfl rfl) (xe_glob Z.c_WRONG_LIST_chains)) trivial) (fun h => by cases h)) trivial⟩
    | true =>
      obtain ⟨xs, rfl⟩ := isListed_lst hl
      have e : chainErr (.lst xs) = (fwC none xs 0).map Int.ofNat := if_pos hl
      rw [e]
      cases q : fwC none xs 0 with
      | none =>
        exact ⟨.nx _ _, rfl, xb_cons (xs_if (c := false) (xt_not (xt_val (c := true) (xe_call (d_is_listed Z) passL (hr.mono (by decide)) (xa_cons (xe_var 0) xa_nil) ⟨_, rfl, rfl, by rw [hl]⟩))) (fun h => by cases h) (fun _ => xb_nil))
          (xb_cons (xs_flat (i := 1) (d := .non) nd (xe_call (d_first_wrong_chains Z) passL hr (xa_cons (xe_var 0) xa_nil) ⟨_, okS_lst hd, rfl, by rw [q]; rfl⟩))
          (xb_cons (xs_if (xt_cmp (o_notN (d := .non)) (xe_var 1) xe_non) (fun h => by cases h) (fun _ => xb_nil)) xb_nil))⟩
      | some i =>
        exact ⟨.ex _, rfl, xb_cons (xs_if (c := false) (xt_not (xt_val (c := true) (xe_call (d_is_listed Z) passL (hr.mono (by decide)) (xa_cons (xe_var 0) xa_nil) ⟨_, rfl, rfl, by rw [hl]⟩))) (fun h => by cases h) (fun _ => xb_nil))
          (xb_cons (xs_flat (i := 1) (d := .int i) nd (xe_call (d_first_wrong_chains Z) passL hr (xa_cons (xe_var 0) xa_nil) ⟨_, okS_lst hd, rfl, by rw [q]; rfl⟩))
          (xb_stop (xs_if (xt_cmp (o_notN (d := .int i)) (xe_var 1) xe_non) (fun _ => xb_stop (xs_raiseO Z.e_BadChain (init_BadChain Z) (hr.mono (by decide)) (takes_of rfl rfl rfl rfl) (xe_var 1)) trivial) (fun h => by cases h)) trivial))⟩
theorem d_check_counts : Df P w K mg base (L2.CX P w) 4 "check_counts" 2 (fun ds r => ∃ c d, d.okS = true ∧ ds = [dI c, d] ∧ r = resI (HH K) (heapErr c.length d)) :=
  Df.mk' Z.f_check_counts sc_check_counts (fun _ _ _ _ _ _ us hl => match us, hl with | [_, _], _ => rfl) fun f cdv A outer s H E ds r hr hn hR => by
    obtain ⟨c, d, hd, rfl, rfl⟩ := hR
    have nd := sc_check_counts.nd
    cases hl : isL d with
    | false =>
      have e : heapErr c.length d = some (-1) := by
        cases d with
        | lst xs => cases hl
        | _ => rfl
      rw [e]
      exact ⟨.ex _, rfl, xb_stop (xs_if (c := true) (xt_bool (xw_or (c := true) (xt_not (xt_val (c := false) (xe_isi (xe_var 1) Z.b_isinstance Z.b_list boot_list (by rw [kit_isL, hl]) (hsc := Dt.okS.noS hd)))) (fun h => by cases h) (fun _ => rfl))) (fun _ => xb_stop (xs_raiseO Z.e_BadHeap (init_BadHeap Z) (hr.mono (by decide)) (takes_of rfl rfl rfl rfl) (xe_glob Z.c_WRONG_LIST_heaps)) trivial) (fun h => by cases h)) trivial⟩
    | true =>
      have hx : ∃ xs, d = .lst xs := by
        cases d with
        | lst xs => exact ⟨xs, rfl⟩
        | scr K ns => cases hd
        | _ => cases hl
      obtain ⟨xs, rfl⟩ := hx
      by_cases hn : xs.length = c.length
      · have e : heapErr c.length (.lst xs) = (fwH xs 0).map Int.ofNat := if_pos hn
        rw [e]
        have t1 := fun {X : Cx} => opE (X := X) o_neI (neI_same (i := (xs.length : Int)) (j := (c.length : Int)) (by rw [hn]))
        cases q : fwH xs 0 with
        | none =>
          exact ⟨.nx _ _, rfl, xb_cons (xs_if (c := false) (xt_bool (xw_or (c := false) (xt_not (xt_val (c := true) (xe_isi (xe_var 1) Z.b_isinstance Z.b_list boot_list (kit_isL (.lst xs))))) (fun _ => xw_or1 (xt_cmp t1 (xe_callB c_len Z.b_len boot_len (xa_cons (xe_var 1) xa_nil)) (xe_callB c_lenI Z.b_len boot_len (xa_cons (xe_var 0) xa_nil)))) (fun h => by cases h))) (fun h => by cases h) (fun _ => xb_nil))
            (xb_cons (xs_flat (i := 2) (d := .non) nd (xe_call (d_first_wrong_heaps Z) passL hr (xa_cons (xe_var 1) xa_nil) ⟨_, okS_lst hd, rfl, by rw [q]; rfl⟩))
            (xb_cons (xs_if (xt_cmp (o_notN (d := .non)) (xe_var 2) xe_non) (fun h => by cases h) (fun _ => xb_nil)) xb_nil))⟩
        | some i =>
          exact ⟨.ex _, rfl, xb_cons (xs_if (c := false) (xt_bool (xw_or (c := false) (xt_not (xt_val (c := true) (xe_isi (xe_var 1) Z.b_isinstance Z.b_list boot_list (kit_isL (.lst xs))))) (fun _ => xw_or1 (xt_cmp t1 (xe_callB c_len Z.b_len boot_len (xa_cons (xe_var 1) xa_nil)) (xe_callB c_lenI Z.b_len boot_len (xa_cons (xe_var 0) xa_nil)))) (fun h => by cases h))) (fun h => by cases h) (fun _ => xb_nil))
            (xb_cons (xs_flat (i := 2) (d := .int i) nd (xe_call (d_first_wrong_heaps Z) passL hr (xa_cons (xe_var 1) xa_nil) ⟨_, okS_lst hd, rfl, by rw [q]; rfl⟩))
            (xb_stop (xs_if (xt_cmp (o_notN (d := .int i)) (xe_var 2) xe_non) (fun _ => xb_stop (xs_raiseO Z.e_BadHeap (init_BadHeap Z) (hr.mono (by decide)) (takes_of rfl rfl rfl rfl) (xe_var 2)) trivial) (fun h => by cases h)) trivial))⟩
      · have e : heapErr c.length (.lst xs) = some (-1) := if_neg hn
        rw [e]
        exact ⟨.ex _, rfl, xb_stop (xs_if (c := true) (xt_bool (xw_or (c := false) (xt_not (xt_val (c := true) (xe_isi (xe_var 1) Z.b_isinstance Z.b_list boot_list (kit_isL (.lst xs))))) (fun _ => xw_or1 (xt_cmp (opE o_neI (neI_other (i := (xs.length : Int)) (j := (c.length : Int)) (by omega))) (xe_callB c_len Z.b_len boot_len (xa_cons (xe_var 1) xa_nil)) (xe_callB c_lenI Z.b_len boot_len (xa_cons (xe_var 0) xa_nil)))) (fun h => by cases h)))
          (fun _ => xb_stop (xs_raiseO Z.e_BadHeap (init_BadHeap Z) (hr.mono (by decide)) (takes_of rfl rfl rfl rfl) (xe_glob Z.c_WRONG_LIST_heaps)) trivial) (fun h => by cases h)) trivial⟩
theorem d_check_heap : Df P w K mg base (L2.CX P w) 5 "check_heap" 2 (fun ds r => ∃ dc dh, dc.okS = true ∧ dh.okS = true ∧ ds = [dc, dh] ∧ r = resE (heapE (CC K) (HH K) dc dh)) :=
  Df.mk' Z.f_check_heap sc_check_heap (fun _ _ _ _ _ _ us hl => match us, hl with | [_, _], _ => rfl) fun f cdv A outer s H E ds r hr hn hR => by
    obtain ⟨dc, dh, h1, h2, rfl, rfl⟩ := hR
    unfold heapE
    cases q : chainErr dc with
    | some i => exact ⟨.ex _, rfl, xb_stop (xs_exprZ (xz_call (d_check_chain Z) (takes_of rfl rfl rfl rfl) hr (xa_cons (xe_var 0) xa_nil) ⟨dc, h1, rfl, by rw [q]; rfl⟩)) trivial⟩
    | none =>
      obtain ⟨c, rfl, hc⟩ := chainErr_none q
      dsimp only
      rw [lenD_dI]
      cases q2 : heapErr c.length dh with
      | some i => exact ⟨.ex _, rfl, xb_cons (xs_expr (xe_call (d_check_chain Z) passL hr (xa_cons (xe_var 0) xa_nil) ⟨_, h1, rfl, by rw [q]; rfl⟩)) (xb_stop (xs_exprZ (xz_call (d_check_counts Z) (takes_of rfl rfl rfl rfl) hr (xa_cons (xe_var 0) (xa_cons (xe_var 1) xa_nil)) ⟨c, dh, h2, rfl, by rw [q2]; rfl⟩)) trivial)⟩
      | none => exact ⟨.nx _ _, rfl, xb_cons (xs_expr (xe_call (d_check_chain Z) passL hr (xa_cons (xe_var 0) xa_nil) ⟨_, h1, rfl, by rw [q]; rfl⟩)) (xb_cons (xs_expr (xe_call (d_check_counts Z) passL hr (xa_cons (xe_var 0) (xa_cons (xe_var 1) xa_nil)) ⟨c, dh, h2, rfl, by rw [q2]; rfl⟩)) xb_nil)⟩
theorem d_check_persons : Df P w K mg base (L2.CX P w) 3 "check_persons" 1 (fun ds r => ∃ d, d.noS = true ∧ ds = [d] ∧ r = resE (msgE (NN K) (isFT d 2 8))) :=
  Df.mk' Z.f_check_persons sc_check_persons (fun _ _ _ _ _ _ us hl => match us, hl with | [_], _ => rfl) fun f cdv A outer s H E ds r hr hn hR => by
    obtain ⟨d, hd, rfl, rfl⟩ := hR
    cases q : isFT d 2 8 with
    | true => exact ⟨.nx _ _, rfl, xb_cons (xs_if (c := false) (xt_not (xt_val (c := true) (xe_call (d_is_from_to Z) passL hr (xa_cons (xe_var 0) (xa_cons (xe_glob Z.c_FEWEST) (xa_cons (xe_glob Z.c_MOST) xa_nil))) ⟨_, _, _, hd, rfl, by rw [q]⟩))) (fun h => by cases h) (fun _ => xb_nil)) xb_nil⟩
    | false => exact ⟨.ex _, rfl, xb_stop (xs_if (c := true) (xt_not (xt_val (c := false) (xe_call (d_is_from_to Z) passL hr (xa_cons (xe_var 0) (xa_cons (xe_glob Z.c_FEWEST) (xa_cons (xe_glob Z.c_MOST) xa_nil))) ⟨_, _, _, hd, rfl, by rw [q]⟩))) (fun _ => xb_stop (xs_raiseM Z.m_BadNumber (takes_of rfl rfl rfl rfl)) trivial) (fun h => by cases h)) trivial⟩
theorem d_check_index : Df P w K mg base (L2.CX P w) 3 "check_index" 2 (fun ds r => ∃ d, ∃ most : Int, d.noS = true ∧ ds = [d, .int most] ∧ r = resE (msgE (NN K) (isFT d 0 most))) :=
  Df.mk' Z.f_check_index sc_check_index (fun _ _ _ _ _ _ us hl => match us, hl with | [_, _], _ => rfl) fun f cdv A outer s H E ds r hr hn hR => by
    obtain ⟨d, most, hd, rfl, rfl⟩ := hR
    cases q : isFT d 0 most with
    | true => exact ⟨.nx _ _, rfl, xb_cons (xs_if (c := false) (xt_not (xt_val (c := true) (xe_call (d_is_from_to Z) passL hr (xa_cons (xe_var 0) (xa_cons xe_int (xa_cons (xe_var 1) xa_nil))) ⟨_, _, _, hd, rfl, by rw [q]⟩))) (fun h => by cases h) (fun _ => xb_nil)) xb_nil⟩
    | false => exact ⟨.ex _, rfl, xb_stop (xs_if (c := true) (xt_not (xt_val (c := false) (xe_call (d_is_from_to Z) passL hr (xa_cons (xe_var 0) (xa_cons xe_int (xa_cons (xe_var 1) xa_nil))) ⟨_, _, _, hd, rfl, by rw [q]⟩))) (fun _ => xb_stop (xs_raiseM Z.m_BadNumber (takes_of rfl rfl rfl rfl)) trivial) (fun h => by cases h)) trivial⟩
theorem d_check_hold : Df P w K mg base (L2.CX P w) 3 "check_hold" 1 (fun ds r => ∃ d, d.noS = true ∧ ds = [d] ∧ r = resE (msgE (NN K) (isFT d 1 1000000))) :=
  Df.mk' Z.f_check_hold sc_check_hold (fun _ _ _ _ _ _ us hl => match us, hl with | [_], _ => rfl) fun f cdv A outer s H E ds r hr hn hR => by
    obtain ⟨d, hd, rfl, rfl⟩ := hR
    cases q : isFT d 1 1000000 with
    | true => exact ⟨.nx _ _, rfl, xb_cons (xs_if (c := false) (xt_not (xt_val (c := true) (xe_call (d_is_from_to Z) passL hr (xa_cons (xe_var 0) (xa_cons xe_int (xa_cons (xe_glob Z.c_GREATEST_HOLD) xa_nil))) ⟨_, _, _, hd, rfl, by rw [q]⟩))) (fun h => by cases h) (fun _ => xb_nil)) xb_nil⟩
    | false => exact ⟨.ex _, rfl, xb_stop (xs_if (c := true) (xt_not (xt_val (c := false) (xe_call (d_is_from_to Z) passL hr (xa_cons (xe_var 0) (xa_cons xe_int (xa_cons (xe_glob Z.c_GREATEST_HOLD) xa_nil))) ⟨_, _, _, hd, rfl, by rw [q]⟩))) (fun _ => xb_stop (xs_raiseM Z.m_BadNumber (takes_of rfl rfl rfl rfl)) trivial) (fun h => by cases h)) trivial⟩
theorem d_check_count : Df P w K mg base (L2.CX P w) 3 "check_count" 1 (fun ds r => ∃ d, d.noS = true ∧ ds = [d] ∧ r = resE (msgE (NN K) (isFT d 1 8))) :=
  Df.mk' Z.f_check_count sc_check_count (fun _ _ _ _ _ _ us hl => match us, hl with | [_], _ => rfl) fun f cdv A outer s H E ds r hr hn hR => by
    obtain ⟨d, hd, rfl, rfl⟩ := hR
    cases q : isFT d 1 8 with
    | true => exact ⟨.nx _ _, rfl, xb_cons (xs_if (c := false) (xt_not (xt_val (c := true) (xe_call (d_is_from_to Z) passL hr (xa_cons (xe_var 0) (xa_cons xe_int (xa_cons (xe_glob Z.c_MOST_BOXES_like) xa_nil))) ⟨_, _, _, hd, rfl, by rw [q]⟩))) (fun h => by cases h) (fun _ => xb_nil)) xb_nil⟩
    | false => exact ⟨.ex _, rfl, xb_stop (xs_if (c := true) (xt_not (xt_val (c := false) (xe_call (d_is_from_to Z) passL hr (xa_cons (xe_var 0) (xa_cons xe_int (xa_cons (xe_glob Z.c_MOST_BOXES_like) xa_nil))) ⟨_, _, _, hd, rfl, by rw [q]⟩))) (fun _ => xb_stop (xs_raiseM Z.m_BadNumber (takes_of rfl rfl rfl rfl)) trivial) (fun h => by cases h)) trivial⟩
theorem d_check_sharing : Df P w K mg base (L2.CX P w) 6 "check_sharing" 3 (fun ds r => ∃ dc dh dv, dc.okS = true ∧ dh.okS = true ∧ dv.noS = true ∧ ds = [dc, dh, dv] ∧ r = resE (orE (heapE (CC K) (HH K) dc dh) (msgE (NN K) (isFT dv 2 8)))) :=
  Df.mk' Z.f_check_sharing sc_check_sharing (fun _ _ _ _ _ _ us hl => match us, hl with | [_, _, _], _ => rfl) fun f cdv A outer s H E ds r hr hn hR => by
    obtain ⟨dc, dh, dv, h1, h2, h3, rfl, rfl⟩ := hR
    cases q : heapE (CC K) (HH K) dc dh with
    | some e => exact ⟨.ex _, rfl, xb_stop (xs_exprZ (xz_call (d_check_heap Z) (takes_of rfl rfl rfl rfl) hr (xa_cons (xe_var 0) (xa_cons (xe_var 1) xa_nil)) ⟨dc, dh, h1, h2, rfl, (congrArg resE q).symm⟩)) trivial⟩
    | none =>
      cases q2 : msgE (NN K) (isFT dv 2 8) with
      | some e => exact ⟨.ex _, rfl, xb_cons (xs_expr (xe_call (d_check_heap Z) passL hr (xa_cons (xe_var 0) (xa_cons (xe_var 1) xa_nil)) ⟨dc, dh, h1, h2, rfl, (congrArg resE q).symm⟩)) (xb_stop (xs_exprZ (xz_call (d_check_persons Z) (takes_of rfl rfl rfl rfl) (hr.mono (by decide)) (xa_cons (xe_var 2) xa_nil) ⟨dv, h3, rfl, (congrArg resE q2).symm⟩)) trivial)⟩
      | none => exact ⟨.nx _ _, rfl, xb_cons (xs_expr (xe_call (d_check_heap Z) passL hr (xa_cons (xe_var 0) (xa_cons (xe_var 1) xa_nil)) ⟨dc, dh, h1, h2, rfl, (congrArg resE q).symm⟩)) (xb_cons (xs_expr (xe_call (d_check_persons Z) passL (hr.mono (by decide)) (xa_cons (xe_var 2) xa_nil) ⟨dv, h3, rfl, (congrArg resE q2).symm⟩)) xb_nil)⟩
theorem d_check_boxes : Df P w K mg base (L2.CX P w) 3 "check_boxes" 1 (fun ds r => ∃ d, d.okS = true ∧ ds = [d] ∧ r = resE (msgE (NN K) (boxesOk d))) :=
  Df.mk' Z.f_check_boxes sc_check_boxes (fun _ _ _ _ _ _ us hl => match us, hl with | [_], _ => rfl) fun f cdv A outer s H E ds r hr hn hR => by
    obtain ⟨d, hd, rfl, rfl⟩ := hR
    have nd := sc_check_boxes.nd
    cases hl : isL d with
    | false =>
      have e : boxesOk d = false := by
        cases d with
        | lst xs => cases hl
        | _ => rfl
      rw [e]
      exact ⟨.ex _, rfl, xb_stop (xs_if (c := true) (xt_bool (xw_or (c := true) (xt_not (xt_val (c := false) (xe_isi (xe_var 0) Z.b_isinstance Z.b_list boot_list (by rw [kit_isL, hl]) (hsc := Dt.okS.noS hd)))) (fun h => by cases h) (fun _ => rfl))) (fun _ => xb_stop (xs_raiseM Z.m_BadNumber (takes_of rfl rfl rfl rfl)) trivial) (fun h => by cases h)) trivial⟩
    | true =>
      have hx : ∃ xs, d = .lst xs := by
        cases d with
        | lst xs => exact ⟨xs, rfl⟩
        | scr K ns => cases hd
        | _ => cases hl
      obtain ⟨xs, rfl⟩ := hx
      have e : boxesOk (.lst xs) = ((decide ((1 : Int) ≤ (xs.length : Int)) && decide ((xs.length : Int) ≤ 8)) && xs.all fun d => isFT d 0 1000000) := rfl
      cases q1 : (decide ((1 : Int) ≤ (xs.length : Int)) && decide ((xs.length : Int) ≤ 8)) with
      | false =>
        rw [e, q1, Bool.false_and]
        exact ⟨.ex _, rfl, xb_stop (xs_if (c := true) (xt_bool (xw_or (c := false) (xt_not (xt_val (c := true) (xe_isi (xe_var 0) Z.b_isinstance Z.b_list boot_list (kit_isL (.lst xs))))) (fun _ => xw_or1 (xt_not (xt_le2 (x := 1) (y := (xs.length : Int)) (z := 8) q1 xe_int (xe_callB c_len Z.b_len boot_len (xa_cons (xe_var 0) xa_nil)) (xe_glob Z.c_MOST_BOXES_boxes)))) (fun h => by cases h))) (fun _ => xb_stop (xs_raiseM Z.m_BadNumber (takes_of rfl rfl rfl rfl)) trivial) (fun h => by cases h)) trivial⟩
      | true =>
        rw [e, q1, Bool.true_and]
        rw [Bool.and_eq_true, decide_eq_true_eq, decide_eq_true_eq] at q1
        have q1' : (decide ((1 : Int) ≤ (xs.length : Int)) && decide ((xs.length : Int) ≤ 8)) = true := by rw [decide_eq_true q1.1, decide_eq_true q1.2]; rfl
        have hall : (xs.map fun d => isFT d 0 1000000).all id = xs.all fun d => isFT d 0 1000000 := by rw [List.all_map]; rfl
        have first : ∀ {O : Out} {rest : List Stmt}, Xb (cxOf (L2.CX P w) P w K mg base ["value", "hold"] "check_boxes" (defScope s_check_boxes) f cdv A outer s H E) E ((defBody s_check_boxes).drop 1) (argS 2 [.lst xs]) [] O → Xb (cxOf (L2.CX P w) P w K mg base ["value", "hold"] "check_boxes" (defScope s_check_boxes) f cdv A outer s H E) E (defBody s_check_boxes) (argS 2 [.lst xs]) [] O := fun {O rest} a =>
          xb_cons (xs_if (c := false) (xt_bool (xw_or (c := false) (xt_not (xt_val (c := true) (xe_isi (xe_var 0) Z.b_isinstance Z.b_list boot_list (kit_isL (.lst xs))))) (fun _ => xw_or1 (xt_not (xt_le2 (x := 1) (y := (xs.length : Int)) (z := 8) q1' xe_int (xe_callB c_len Z.b_len boot_len (xa_cons (xe_var 0) xa_nil)) (xe_glob Z.c_MOST_BOXES_boxes)))) (fun h => by cases h))) (fun h => by cases h) (fun _ => xb_nil)) a
        have lc : ∀ (b : Bool), (xs.all fun d => isFT d 0 1000000) = b → Xe (cxOf (L2.CX P w) P w K mg base ["value", "hold"] "check_boxes" (defScope s_check_boxes) f cdv A outer s H E) (match (defBody s_check_boxes).getD 1 (.Pass ⟨0, 0, 0, 0⟩) with | .If (.UnaryOp .Not x _) _ _ _ => x | _ => .Constant .none 0 ⟨0, 0, 0, 0⟩) (view [] (argS 2 [.lst xs])) (.bl b) := fun b hb => by
          exact xeE (xe_callB c_all Z.b_all boot_all (xa_cons (xe_lc [("hold", 1)] (.one 1) nd (xi_list (ds := xs) (xe_var 0)) (comp_dataB (f := fun d => isFT d 0 1000000) fun d hdm s H C cl fp => xe_call (d_is_from_to Z) passL hr (xa_cons (xe_var 1) (xa_cons xe_int (xa_cons (xe_glob Z.c_GREATEST_HOLD) xa_nil))) ⟨d, _, _, okS_lst hd d hdm, rfl, rfl⟩) (by omega) (fun _ _ _ _ _ => xg_one nd)) xa_nil)) (by rw [hall, hb])
        cases q2 : (xs.all fun d => isFT d 0 1000000) with
        | true => exact ⟨.nx _ _, rfl, first (rest := []) (xb_cons (xs_if (c := false) (xt_not (xt_val (c := true) (lc true q2))) (fun h => by cases h) (fun _ => xb_nil)) xb_nil)⟩
        | false => exact ⟨.ex _, rfl, first (rest := []) (xb_stop (xs_if (c := true) (xt_not (xt_val (c := false) (lc false q2))) (fun _ => xb_stop (xs_raiseM Z.m_BadNumber (takes_of rfl rfl rfl rfl)) trivial) (fun h => by cases h)) trivial)⟩
theorem d_check_laying : Df P w K mg base (L2.CX P w) 6 "check_laying" 3 (fun ds r => ∃ dc dh dv, dc.okS = true ∧ dh.okS = true ∧ dv.okS = true ∧ ds = [dc, dh, dv] ∧ r = resE (orE (heapE (CC K) (HH K) dc dh) (msgE (NN K) (boxesOk dv)))) :=
  Df.mk' Z.f_check_laying sc_check_laying (fun _ _ _ _ _ _ us hl => match us, hl with | [_, _, _], _ => rfl) fun f cdv A outer s H E ds r hr hn hR => by
    obtain ⟨dc, dh, dv, h1, h2, h3, rfl, rfl⟩ := hR
    cases q : heapE (CC K) (HH K) dc dh with
    | some e => exact ⟨.ex _, rfl, xb_stop (xs_exprZ (xz_call (d_check_heap Z) (takes_of rfl rfl rfl rfl) hr (xa_cons (xe_var 0) (xa_cons (xe_var 1) xa_nil)) ⟨dc, dh, h1, h2, rfl, (congrArg resE q).symm⟩)) trivial⟩
    | none =>
      cases q2 : msgE (NN K) (boxesOk dv) with
      | some e => exact ⟨.ex _, rfl, xb_cons (xs_expr (xe_call (d_check_heap Z) passL hr (xa_cons (xe_var 0) (xa_cons (xe_var 1) xa_nil)) ⟨dc, dh, h1, h2, rfl, (congrArg resE q).symm⟩)) (xb_stop (xs_exprZ (xz_call (d_check_boxes Z) (takes_of rfl rfl rfl rfl) (hr.mono (by decide)) (xa_cons (xe_var 2) xa_nil) ⟨dv, h3, rfl, (congrArg resE q2).symm⟩)) trivial)⟩
      | none => exact ⟨.nx _ _, rfl, xb_cons (xs_expr (xe_call (d_check_heap Z) passL hr (xa_cons (xe_var 0) (xa_cons (xe_var 1) xa_nil)) ⟨dc, dh, h1, h2, rfl, (congrArg resE q).symm⟩)) (xb_cons (xs_expr (xe_call (d_check_boxes Z) passL (hr.mono (by decide)) (xa_cons (xe_var 2) xa_nil) ⟨dv, h3, rfl, (congrArg resE q2).symm⟩)) xb_nil)⟩
end
end Pa
namespace Pa
open PySem PySem.Spec PyProof.Rows L2
section
variable {X : Cx} {δ : Sl} {pos p : Pos}
theorem o_repL {x n : Int} (h0 : 0 ≤ n) (hz : n ≤ 100000) : Xop X (binaryOp .Mult) (dI [x]) (.int n) (dI (List.replicate n.toNat x)) := OpR.sub op_rep fun v w H Q ⟨G, s, a, b, k⟩ => by
  obtain ⟨l, rfl, r⟩ := dI_inv a
  rw [b.int_inv]
  refine ⟨l, n, [.int x], rfl, rfl, s _ _ r, by omega, by omega, ?_, fun q hq => ?_⟩
  · have h1 : n.toNat ≤ 100000 := by omega
    rw [List.length_singleton, Nat.one_mul, sizeLine_eq]
    omega
  · rw [flat_rep1]
    have gl : Grow G H (upd G q (.lst (List.replicate n.toNat (.int x)))) (upd H q (.lst (List.replicate n.toNat (.int x)))) := Grow.laid s hq
    refine k _ _ _ gl (.lst upd_same ?_ ?_)
    · rw [List.length_replicate, List.length_map, List.length_replicate]
    · have := (DenL.ints (G := upd G q (.lst (List.replicate n.toNat (.int x)))) (List.replicate n.toNat x)).2
      rw [List.map_replicate] at this
      exact this
theorem cut_drop {α : Type} {xs : List α} {k : Int} (h0 : 0 ≤ k) (h1 : k ≤ xs.length) : cutD xs (some k) none = xs.drop k.toNat := by
  have e : HT.sIx xs.length 0 (some k) = k.toNat := by
    unfold HT.sIx
    simp only []
    split <;> omega
  unfold cutD
  rw [e]
  show (xs.drop k.toNat).take (xs.length - k.toNat) = _
  rw [List.take_of_length_le (by rw [List.length_drop]; exact Nat.le_refl _)]
/-- ns[b:] -/
theorem xe_dropI {a b : Expr} {p2 : Pos} {ns : List Int} {k : Int} (h0 : 0 ≤ k) (h1 : k ≤ ns.length) (ha : Xe X a δ (dI ns)) (hb : Xe X b δ (.int k)) : Xe X (.Subscript a (.Slice (some b) none none p2) pos) δ (dI (ns.drop k.toNat)) := by
  have e : dI (ns.drop k.toNat) = .lst (cutD (ns.map Dt.int) (some k) none) := by
    rw [cut_drop h0 (by rw [List.length_map]; exact h1), ← List.map_drop]
  rw [e]
  exact xe_slice ha (xo_some hb) xo_none
/-- the first place of v -/
def ixO : List Int → Int → Nat
  | [], _ => 0
  | x :: xs, v => if x = v then 0 else ixO xs v + 1
theorem ixO_at : ∀ {xs : List Int} {v : Int}, v ∈ xs → xs[ixO xs v]? = some v ∧ ∀ m z, m < ixO xs v → xs[m]? = some z → z ≠ v
  | [], v, h => by cases h
  | x :: xs, v, h => by
    by_cases e : x = v
    · have e0 : ixO (x :: xs) v = 0 := if_pos e
      rw [e0]
      exact ⟨congrArg some e, fun m z hm => absurd hm (Nat.not_lt_zero m)⟩
    · have e0 : ixO (x :: xs) v = ixO xs v + 1 := if_neg e
      have hm : v ∈ xs := by
        rcases List.mem_cons.mp h with h | h
        · exact absurd h.symm e
        · exact h
      obtain ⟨h1, h2⟩ := ixO_at hm
      rw [e0]
      refine ⟨h1, fun m z hlt hz => ?_⟩
      cases m with
      | zero =>
        cases hz
        exact e
      | succ m => exact h2 m z (by omega) hz
theorem ixO_lt {xs : List Int} {v : Int} (h : v ∈ xs) : ixO xs v < xs.length := (List.getElem?_eq_some_iff.mp (ixO_at h).1).1
/-- o.index(a) -/
theorem xe_index {o a : Expr} {ns : List Int} {v : Int} {apos cpos : Pos} (ho : Xe X o δ (dI ns)) (ha : Xe X a δ (.int v)) (hm : v ∈ ns) (hbase : attributeBase o "index" X.env (eval o X.env) = eval o X.env := by rfl)
    (hfew : ((backTo cpos (starEach [a] X.env)).all (fun x => !x.1) && (backToKw cpos (keywordEach [] X.env)).all (fun x => x.1.isSome) && decide ([a].length + ([] : List Keyword).length + (if ([] : List Keyword).isEmpty then 0 else 1) < 30)) = true := by rfl)
    (hline : (apos.endLine == cpos.line) = true := by rfl) (hs : starEach (a :: []) X.env = (false, eval a X.env) :: starEach [] X.env := by rfl) (hplain : (backTo cpos (starEach [] X.env)).any (·.1) = false := by rfl) :
    Xe X (.Call (.Attribute o "index" apos) [a] [] cpos) δ (.int (ixO ns v)) :=
  PE.sub (pe_bm PySem.F.plainAttrs_list PySem.F.slot_list_index PySem.F.type_list_index mt_index ho (xa_cons ha xa_nil hs) hbase hfew hline hs hplain) fun σ H Q h => by
    obtain ⟨G, s, e, k⟩ := h
    refine ⟨G, s, e, fun v1 H1 G1 g1 d1 => ?_⟩
    obtain ⟨q, rfl, hq⟩ := dI_inv d1
    refine ⟨.inl ⟨rfl, _, .inl (.inl (g1.sub _ _ hq))⟩, ?_⟩
    refine ⟨G1, g1.sub, e.mono g1.gg, fun vs H2 G2 g2 dl => ?_⟩
    have ev := dl.ints_inv (ns := [v])
    subst ev
    obtain ⟨h1, h2⟩ := ixO_at hm
    refine ⟨q, ns.map V.int, .int v, ixO ns v, .int v, rfl, rfl, .inl (.inl (g2.hh _ _ (g1.sub _ _ hq))), rfl, ?_, ?_, ?_, fun m z hlt hz => ?_, k _ H2 G2 (g1.trans g2) (.int _)⟩
    · rw [List.all_map]
      exact List.all_eq_true.mpr fun _ _ => rfl
    · rw [List.getElem?_map, h1]
      rfl
    · show (v == v) = true
      exact beq_self_eq_true v
    · rw [List.getElem?_map] at hz
      cases q2 : ns[m]? with
      | none => rw [q2] at hz; cases hz
      | some u =>
        rw [q2] at hz
        cases hz
        show (u == v) = false
        exact beq_eq_false_iff_ne.mpr (h2 m u hlt q2)
end
/-- the greatest of a and ns -/
def maxD (a : Int) : List Int → Int
  | [] => a
  | n :: ns => maxD (if n ≤ a then a else n) ns
theorem maxD_ge : ∀ (ns : List Int) (a : Int), a ≤ maxD a ns ∧ ∀ n ∈ ns, n ≤ maxD a ns
  | [], a => ⟨Int.le_refl _, fun n h => by cases h⟩
  | n :: ns, a => by
    have h := maxD_ge ns (if n ≤ a then a else n)
    show a ≤ maxD (if n ≤ a then a else n) ns ∧ ∀ m ∈ n :: ns, m ≤ maxD (if n ≤ a then a else n) ns
    refine ⟨Int.le_trans ?_ h.1, fun m hm => ?_⟩
    · split <;> omega
    · rcases List.mem_cons.mp hm with rfl | hm
      · refine Int.le_trans ?_ h.1
        split <;> omega
      · exact h.2 m hm
theorem maxD_mem : ∀ (ns : List Int) (a : Int), maxD a ns ∈ a :: ns
  | [], a => List.mem_cons_self
  | n :: ns, a => by
    have h := maxD_mem ns (if n ≤ a then a else n)
    show maxD (if n ≤ a then a else n) ns ∈ a :: n :: ns
    rcases List.mem_cons.mp h with h | h
    · rw [h]
      split
      · exact List.mem_cons_self
      · exact List.mem_cons_of_mem _ List.mem_cons_self
    · exact List.mem_cons_of_mem _ (List.mem_cons_of_mem _ h)
def minD (a : Int) : List Int → Int
  | [] => a
  | n :: ns => minD (if a ≤ n then a else n) ns
theorem minD_le : ∀ (ns : List Int) (a : Int), minD a ns ≤ a ∧ ∀ n ∈ ns, minD a ns ≤ n
  | [], a => ⟨Int.le_refl _, fun n h => by cases h⟩
  | n :: ns, a => by
    have h := minD_le ns (if a ≤ n then a else n)
    show minD (if a ≤ n then a else n) ns ≤ a ∧ ∀ m ∈ n :: ns, minD (if a ≤ n then a else n) ns ≤ m
    refine ⟨Int.le_trans h.1 ?_, fun m hm => ?_⟩
    · split <;> omega
    · rcases List.mem_cons.mp hm with rfl | hm
      · refine Int.le_trans h.1 ?_
        split <;> omega
      · exact h.2 m hm
theorem minD_mem : ∀ (ns : List Int) (a : Int), minD a ns ∈ a :: ns
  | [], a => List.mem_cons_self
  | n :: ns, a => by
    have h := minD_mem ns (if a ≤ n then a else n)
    show minD (if a ≤ n then a else n) ns ∈ a :: n :: ns
    rcases List.mem_cons.mp h with h | h
    · rw [h]
      split
      · exact List.mem_cons_self
      · exact List.mem_cons_of_mem _ List.mem_cons_self
    · exact List.mem_cons_of_mem _ (List.mem_cons_of_mem _ h)
/-- a loop whose turns each go on, by what stays true -/
theorem LoopS.ex {X : Cx} {E : XK} {t : Tg} {body : List Stmt} (I : Ss → Om → Prop) (P : Dt → Prop) (step : ∀ d δ ω, P d → I δ ω → ∃ δ1 δ2 δ3 ω2, t.putS d δ = some δ1 ∧ Xb X E body δ1 ω (.nx δ2 ω2) ∧ LessS δ2 δ3 ∧ I δ3 ω2) :
    ∀ (ds : List Dt) (δ : Ss) (ω : Om), (∀ d ∈ ds, P d) → I δ ω → ∃ δ' ω', LoopS X E t body ds δ ω (.nx δ' ω') ∧ I δ' ω'
  | [], δ, ω, _, i => ⟨δ, ω, .nil, i⟩
  | d :: ds, δ, ω, hp, i => by
    obtain ⟨δ1, δ2, δ3, ω2, a, b, c, j⟩ := step d δ ω (hp d List.mem_cons_self) i
    obtain ⟨δ', ω', l, k⟩ := LoopS.ex I P step ds δ3 ω2 (fun e he => hp e (List.mem_cons_of_mem _ he)) j
    exact ⟨δ', ω', .next a b c l, k⟩
def greaterOf (c h : List Int) (k : Nat) : Int := worth (c.drop k) (h.drop k)
def roomOf (c bs : List Int) (k : Nat) : Int := (bs.map fun b => b / c.getD k 0 * c.getD k 0).sum
def fullB (c h bs : List Int) (k : Nat) : Bool := decide (roomOf c bs k < greaterOf c h k)
/-- the greatest index below n at which the boxes are full -/
def lastFull (c h bs : List Int) : Nat → Option Nat
  | 0 => none
  | n + 1 => if fullB c h bs n = true then some n else lastFull c h bs n
theorem lastFull_lt {c h bs : List Int} {k : Nat} : ∀ {n : Nat}, lastFull c h bs n = some k → k < n
  | 0, e => by cases e
  | n + 1, e => by
    have e : (if fullB c h bs n = true then some n else lastFull c h bs n) = some k := e
    split at e
    · cases e
      exact Nat.lt_succ_self _
    · exact Nat.lt_succ_of_lt (lastFull_lt e)
def fullD (c h bs : List Int) : Option Nat → Dt
  | none => .non
  | some k => .tup [.int k, .int (greaterOf c h k), .int (roomOf c bs k)]
def layD (c h bs : List Int) : Dt := match lastFull c h bs c.length with
  | some k => .tup [.str "value", .int k, .int (greaterOf c h k), .int (roomOf c bs k)]
  | none => .tup [.str "laying", .lst ((housePay c h bs).map dI)]
def loadD (c h bs : List Int) : Dt := .tup [.int (((housePay c h bs).map (worth c)).sum), .lst ((housePay c h bs).map dI)]
/-- values above cc of which there is a piece -/
def tooL (c h : List Int) (cc : Int) : List Int := (h.zipIdx.filter fun p => decide (0 < p.1) && decide (cc < c.getD p.2 0)).map fun p => (p.2 : Int)
def neededAt (c h : List Int) (cc : Int) : Nat → List Int
  | 0 => []
  | i + 1 => if c.getD i 0 ≤ cc then neededAt c h cc i ++ [-((-(greaterOf c h i)) / (cc / c.getD i 0 * c.getD i 0))] else neededAt c h cc i
def needed (c h : List Int) (cc : Int) : List Int := neededAt c h cc c.length
def countOf (c h : List Int) (cc : Int) : Int := maxD 0 (needed c h cc)
theorem neededAt_len {c h : List Int} {cc : Int} : ∀ i, (neededAt c h cc i).length ≤ i
  | 0 => Nat.le_refl _
  | i + 1 => by
    have ih := neededAt_len (c := c) (h := h) (cc := cc) i
    show (if _ then _ else _ : List Int).length ≤ _
    split
    · rw [List.length_append]
      show _ + 1 ≤ _
      omega
    · omega
/-- the least hold -/
def holdF (c h : List Int) (n : Int) : Nat → Int → Int → Int
  | 0, l, _ => l
  | f + 1, l, m => if l < m then (if (lastFull c h (List.replicate n.toNat ((l + m) / 2)) c.length).isNone = true then holdF c h n f l ((l + m) / 2) else holdF c h n f ((l + m) / 2 + 1) m) else l
def holdOf (c h : List Int) (n : Int) : Int := holdF c h n (worth c h).toNat 0 (worth c h)
theorem holdF_rg {c h : List Int} {n : Int} : ∀ f l m, 0 ≤ l → l ≤ m → 0 ≤ holdF c h n f l m ∧ holdF c h n f l m ≤ m
  | 0, l, m, h0, h1 => ⟨h0, h1⟩
  | f + 1, l, m, h0, h1 => by
    show 0 ≤ (if l < m then _ else _) ∧ (if l < m then _ else _) ≤ m
    split
    · split
      · have := holdF_rg (c := c) (h := h) (n := n) f l ((l + m) / 2) h0 (by omega)
        omega
      · exact holdF_rg f ((l + m) / 2 + 1) m (by omega) (by omega)
    · exact ⟨h0, h1⟩
end Pa
namespace Pa
open PySem PySem.Spec PyProof.Rows L2
section
variable {P : Program} {w : World} {K : PySem.W.Frag} {mg : Str → Option Value} {base : Heap} (Z : Txt K mg)
include Z
theorem d_house_load : Df P w K mg base (L2.CX P w) 1 "house_load" 3 (fun ds r => ∃ c h as, Chn c ∧ Hep c h ∧ as.length ≤ 100000 ∧ ds = [dI c, dI h, dI as] ∧ r = .ok (.lst ((housePay c h as).map dI))) :=
  Df.mk' Z.f_house_load sc_house_load (fun _ _ _ _ _ _ us hl => match us, hl with | [_, _, _], _ => rfl) fun f cdv A outer s H E ds r hr hn hR => by
    obtain ⟨c, h, as, hc, hh, hz, rfl, rfl⟩ := hR
    have l0 := hc.len0
    have l8 := hc.len8
    have nd := sc_house_load.nd
    refine ⟨.rt _, rfl, xb_cons (xs_lcR (i := 3) (rs := List.replicate as.length (List.replicate c.length 0)) [("_", 4)] (.one 4) nd (xi_list (xe_var 2)) ⟨by rw [List.length_replicate, List.length_map], fun i d hd => ?_⟩ (by rw [List.length_map]; omega) (fun _ _ _ _ _ => xg_one nd)) (xb_cons (xs_new (i := 5) nd (xn_list Z.b_list (xe_var 2)))
      (xb_cons (xs_for (.one 6) (passes_of rfl) (xi_range3 (n := ((c.length : Int) - 1 - (-1)).toNat) Z.b_range (xa_cons (xe_op o_sub (xe_callB c_lenI Z.b_len boot_len (xa_cons (xe_var 0) xa_nil)) xe_int) (xa_cons (xe_un o_neg xe_int) (xa_cons (xe_un o_neg xe_int) xa_nil))) (RgC.neg (by omega) (by omega) (by omega) (by omega))) (xg_one nd)
        (LoopS.runI c.length (fun _ => [some (.sh (dI c)), some (.sh (dI h)), some (.sh (dI as)), some (.at_ 0), none, some (.at_ 1), none, none, none, none]) (fun i => [.rows (payAt c h as i).1, .nums (payAt c h as i).2]) (by omega) rfl rfl fun i hi => ?_))
        (xb_stop (xs_ret (xe_var 3)) trivial)))⟩
    · have hi : i < as.length := by
        have := (List.getElem?_eq_some_iff.mp hd).1
        rwa [List.length_map] at this
      refine ⟨_, List.replicate c.length 0, rfl, by rw [List.getElem?_replicate, if_pos hi], fun s H C cl fp => ?_⟩
      have e : List.replicate c.length (0 : Int) = List.replicate ((c.length : Int)).toNat 0 := by rw [Int.toNat_natCast]
      rw [e]
      exact xn_rep (xe_lst (xa_cons xe_int xa_nil)) (xe_callB c_lenI Z.b_len boot_len (xa_cons (xe_var 0) xa_nil)) (by omega) (by omega)
    · have ek : ((c.length : Int) - 1 + (i : Int) * -1) = ((c.length - 1 - i : Nat) : Int) := by omega
      have hk : c.length - 1 - i < c.length := by omega
      obtain ⟨p1, p2, p3⟩ := payAt_len (c := c) (h := h) (as := as) i
      have hv := hc.getD hk
      have e1 : payAt c h as (i + 1) = ((Pay.turns (c.getD (c.length - 1 - i) 0) (c.length - 1 - i) ⟨h.getD (c.length - 1 - i) 0, (payAt c h as i).1, (payAt c h as i).2⟩ as.length).rows, (Pay.turns (c.getD (c.length - 1 - i) 0) (c.length - 1 - i) ⟨h.getD (c.length - 1 - i) 0, (payAt c h as i).1, (payAt c h as i).2⟩ as.length).left) := rfl
      rw [ek, e1]
      clear ek e1
      generalize ekk : c.length - 1 - i = k at *
      refine ⟨_, _, rfl, xb_cons (xs_flat (i := 7) (d := .int (h.getD k 0)) nd (xe_ix (i_int (k := (k : Int)) (by omega) (by rw [hh.len]; omega)) (xe_var 1) (xe_var 6))) (xb_cons (xs_forRows (n := 0) (ia := 8) (ir := 9) (m := as.length)
        (δs := fun j => [some (.sh (dI c)), some (.sh (dI h)), some (.sh (dI as)), some (.at_ 0), none, some (.at_ 1), some (.sh (.int k)), some (.sh (.int (Pay.turns (c.getD k 0) k ⟨h.getD k 0, (payAt c h as i).1, (payAt c h as i).2⟩ j).count)), none, none])
        (ωs := fun j => [.rows (Pay.turns (c.getD k 0) k ⟨h.getD k 0, (payAt c h as i).1, (payAt c h as i).2⟩ j).rows, .nums (Pay.turns (c.getD k 0) k ⟨h.getD k 0, (payAt c h as i).1, (payAt c h as i).2⟩ j).left])
        (passes_of rfl) Z.b_enumerate (xr_var 3) (xg_two nd) (by repeat (first | exact LessS.nil | apply LessS.keep | apply LessS.drop)) rfl (fun j hj => ⟨_, rfl, turns_len.1.trans p1⟩) fun j hj => ?_) xb_nil), ?_⟩
      · obtain ⟨q1, q2⟩ := turns_len (v := c.getD k 0) (k := k) (s := ⟨h.getD k 0, (payAt c h as i).1, (payAt c h as i).2⟩) (j := j)
        have q3 := turns_row (v := c.getD k 0) (k := k) (s := ⟨h.getD k 0, (payAt c h as i).1, (payAt c h as i).2⟩) p3 j
        have est : Pay.turns (c.getD k 0) k ⟨h.getD k 0, (payAt c h as i).1, (payAt c h as i).2⟩ (j + 1) = (Pay.turns (c.getD k 0) k ⟨h.getD k 0, (payAt c h as i).1, (payAt c h as i).2⟩ j).turn (c.getD k 0) k j := rfl
        rw [est]
        generalize Pay.turns (c.getD k 0) k ⟨h.getD k 0, (payAt c h as i).1, (payAt c h as i).2⟩ j = st at *
        have hrl : j < st.rows.length := by rw [q1]; show j < (payAt c h as i).1.length; omega
        have hll : j < st.left.length := by rw [q2]; show j < (payAt c h as i).2.length; omega
        have hl2 : st.left.length ≤ 100000 := by rw [q2]; show (payAt c h as i).2.length ≤ 100000; omega
        have hrow : st.rows[j]? = some (st.rows.getD j []) := getD_some hrl
        have hrowl : (st.rows.getD j []).length = c.length := q3 _ (getD_mem hrl)
        unfold Pay.turn
        dsimp only
        generalize hx : min st.count (st.left.getD j 0 / c.getD k 0) = x
        have hrow2 : (st.rows.set j ((st.rows.getD j []).set k x))[j]? = some ((st.rows.getD j []).set k x) := List.getElem?_set_self hrl
        have hxk : ((st.rows.getD j []).set k x).getD k 0 = x := by rw [getD_set, if_pos ⟨rfl, by rw [hrowl]; exact hk⟩]
        have hlen2 : ((k : Nat) : Int) < (((st.rows.getD j []).set k x).length : Int) := by rw [List.length_set, hrowl]; omega
        refine ⟨_, xb_cons (xs_setix (v := x) (y := .row 0 j) (j := (k : Nat)) (ns := st.rows.getD j []) (xr_var 9) hrow (xe_var 6) (by omega) (by rw [hrowl]; omega) ?_)
          (xb_cons (xs_aug (i := 7) ip_sub nd (xe_ix (i_intE (v := x) (k := (k : Nat)) (by omega) hlen2 hxk) (xe_var 9 (hd := ?_)) (xe_var 6)))
          (xb_cons (xs_augix (v := x * c.getD k 0) ip_sub (y := .at_ 1) (j := (j : Nat)) (ns := st.left) (xr_var 5) rfl (xe_var 8) (by omega) (by omega) (by omega) (xe_op (o_mul (.inr ?_)) (xe_ix (i_intE (v := x) (k := (k : Nat)) (by omega) hlen2 hxk) (xe_var 9 (hd := ?_)) (xe_var 6)) (xe_ix (i_int (ns := c) (k := (k : Nat)) (by omega) (by omega)) (xe_var 0) (xe_var 6)))) xb_nil)), (by repeat (first | exact LessS.nil | apply LessS.keep | apply LessS.drop))⟩
        · rw [← hx]
          exact xe_callB c_min2 Z.b_min boot_min (xa_cons (xe_var 7) (xa_cons (xe_op (o_div ⟨by show (0 : Int) < c.getD k 0; omega, by show c.getD k 0 < 1073741824; omega⟩) (xe_ix (i_int (k := (j : Nat)) (by omega) (by omega)) (xe_var 5) (xe_var 8)) (xe_ix (i_int (k := (k : Nat)) (by omega) (by omega)) (xe_var 0) (xe_var 6))) xa_nil))
        · show some (((st.rows.set j ((st.rows.getD j []).set k x))[j]?).map dI) = _
          rw [hrow2]
          rfl
        · show -(2 ^ 64) < c.getD k 0 ∧ c.getD k 0 < 2 ^ 64
          omega
        · show some (((st.rows.set j ((st.rows.getD j []).set k x))[j]?).map dI) = _
          rw [hrow2]
          rfl
      · exact (by repeat (first | exact LessS.nil | apply LessS.keep | apply LessS.drop))
end
end Pa
namespace Pa
open PySem PySem.Spec PyProof.Rows L2
/-- n - 1 down to 0 -/
def dn : Nat → List Int
  | 0 => []
  | n + 1 => (n : Int) :: dn n
theorem dn_eq : ∀ n : Nat, (rngD n fun i => (n : Int) - 1 + (i : Int) * -1) = dn n
  | 0 => rfl
  | n + 1 => by
    have ih := dn_eq n
    unfold rngD at ih ⊢
    rw [List.range_succ_eq_map, List.map_cons, List.map_map]
    show _ :: _ = (n : Int) :: dn n
    rw [← ih]
    congr 1
    · show ((n + 1 : Nat) : Int) - 1 + ((0 : Nat) : Int) * -1 = (n : Int)
      omega
    · refine List.map_congr_left fun i _ => ?_
      show ((n + 1 : Nat) : Int) - 1 + ((i + 1 : Nat) : Int) * -1 = (n : Int) - 1 + (i : Int) * -1
      omega
section
variable {P : Program} {w : World} {K : PySem.W.Frag} {mg : Str → Option Value} {base : Heap} (Z : Txt K mg)
include Z
theorem d_greater_of : Df P w K mg base (L2.CX P w) 2 "greater_of" 3 (fun ds r => ∃ c h, ∃ k : Int, Chn c ∧ Hep c h ∧ 0 ≤ k ∧ k ≤ c.length ∧ ds = [dI c, dI h, .int k] ∧ r = .ok (.int (greaterOf c h k.toNat))) :=
  Df.mk' Z.f_greater_of sc_greater_of (fun _ _ _ _ _ _ us hl => match us, hl with | [_, _, _], _ => rfl) fun f cdv A outer s H E ds r hr hn hR => by
    obtain ⟨c, h, k, hc, hh, h0, h1, rfl, rfl⟩ := hR
    have l8 := hc.len8
    refine ⟨.rt _, rfl, xb_stop (xs_ret (xe_call (d_worth_of Z) passL hr (xa_cons (xe_dropI (ns := c) h0 h1 (xe_var 0) (xe_var 2)) (xa_cons (xe_dropI (ns := h) h0 (by rw [hh.len]; exact h1) (xe_var 1) (xe_var 2)) xa_nil)) ⟨_, _, rfl, ?_, fun v hv => hc.small v (List.mem_of_mem_drop hv), rfl⟩)) trivial⟩
    rw [List.length_drop]
    omega
theorem d_room_of : Df P w K mg base (L2.CX P w) 1 "room_of" 3 (fun ds r => ∃ c bs, ∃ k : Int, Chn c ∧ bs.length ≤ 100000 ∧ 0 ≤ k ∧ k < c.length ∧ ds = [dI c, dI bs, .int k] ∧ r = .ok (.int (roomOf c bs k.toNat))) :=
  Df.mk' Z.f_room_of sc_room_of (fun _ _ _ _ _ _ us hl => match us, hl with | [_, _, _], _ => rfl) fun f cdv A outer s H E ds r hr hn hR => by
    obtain ⟨c, bs, k, hc, hz, h0, h1, rfl, rfl⟩ := hR
    have nd := sc_room_of.nd
    have hv := hc.getD (k := k.toNat) (by omega)
    unfold roomOf
    exact ⟨.rt _, rfl, xb_stop (xs_ret (xe_callB c_sum Z.b_sum boot_sum (xa_cons (xe_lc [("hold", 3)] (.one 3) nd (xi_list (xe_var 1)) (comp_ints (f := fun b => b / c.getD k.toNat 0 * c.getD k.toNat 0) fun n hn s H C cl fp => xe_op (o_mul (.inr ⟨by omega, by omega⟩)) (xe_op (o_div ⟨by omega, by omega⟩) (xe_var 3) (xe_ix (i_int (ns := c) h0 h1) (xe_var 0) (xe_var 2))) (xe_ix (i_int (ns := c) h0 h1) (xe_var 0) (xe_var 2)))
      (by rw [List.length_map]; omega) (fun _ _ _ _ _ => xg_one nd)) xa_nil))) trivial⟩
theorem d_last_full : Df P w K mg base (L2.CX P w) 3 "last_full" 3 (fun ds r => ∃ c h bs, Chn c ∧ Hep c h ∧ bs.length ≤ 100000 ∧ ds = [dI c, dI h, dI bs] ∧ r = .ok (fullD c h bs (lastFull c h bs c.length))) :=
  Df.mk' Z.f_last_full sc_last_full (fun _ _ _ _ _ _ us hl => match us, hl with | [_, _, _], _ => rfl) fun f cdv A outer s H E ds r hr hn hR => by
    obtain ⟨c, h, bs, hc, hh, hz, rfl, rfl⟩ := hR
    have nd := sc_last_full.nd
    have l8 := hc.len8
    have fin : ∀ {X : Cx} {st : Stmt} {rest : List Stmt}, Xs X E st [some (.sh (dI c)), some (.sh (dI h)), some (.sh (dI bs)), none, none, none] [] (match lastFull c h bs c.length with | none => .nx [some (.sh (dI c)), some (.sh (dI h)), some (.sh (dI bs)), none, none, none] [] | some k => .rt (fullD c h bs (some k))) → (lastFull c h bs c.length = none → Xb X E rest [some (.sh (dI c)), some (.sh (dI h)), some (.sh (dI bs)), none, none, none] [] (.rt .non)) → ∃ O, EndsAs O (.ok (fullD c h bs (lastFull c h bs c.length))) ∧ Xb X E (st :: rest) [some (.sh (dI c)), some (.sh (dI h)), some (.sh (dI bs)), none, none, none] [] O := fun {X st rest} a b => by
      cases q : lastFull c h bs c.length with
      | none =>
        rw [q] at a
        exact ⟨.rt .non, rfl, xb_cons a (b q)⟩
      | some i =>
        rw [q] at a
        exact ⟨.rt (fullD c h bs (some i)), rfl, xb_stop a trivial⟩
    have en : ((c.length : Int) - 1 - (-1)).toNat = c.length := by omega
    refine fin (xs_for (.one 3) (passes_of rfl) (xi_range3 (n := ((c.length : Int) - 1 - (-1)).toNat) Z.b_range (xa_cons (xe_op o_sub (xe_callB c_lenI Z.b_len boot_len (xa_cons (xe_var 0) xa_nil)) xe_int) (xa_cons (xe_un o_neg xe_int) (xa_cons (xe_un o_neg xe_int) xa_nil))) (RgC.neg (by omega) (by omega) (by omega) (by omega))) (xg_one nd)
      (LoopS.ind (fun es δ ω O => ∃ j, j ≤ c.length ∧ es = (dn j).map Dt.int ∧ δ = [some (.sh (dI c)), some (.sh (dI h)), some (.sh (dI bs)), none, none, none] ∧ ω = [] ∧ O = (match lastFull c h bs j with | none => .nx δ [] | some k => .rt (fullD c h bs (some k)))) ?_ ?_ ⟨c.length, Nat.le_refl _, by rw [en, dn_eq], rfl, rfl, rfl⟩)) (fun _ => xb_stop (xs_ret xe_non) trivial)
    · rintro δ ω O ⟨j, hj, h1, rfl, rfl, rfl⟩
      cases j with
      | zero => rfl
      | succ j => cases h1
    · rintro d es δ ω O ⟨j, hj, h1, rfl, rfl, rfl⟩
      cases j with
      | zero => cases h1
      | succ j =>
        cases h1
        have el : lastFull c h bs (j + 1) = if fullB c h bs j = true then some j else lastFull c h bs j := rfl
        rw [el]
        cases hb : fullB c h bs j with
        | true =>
          have hb' : roomOf c bs j < greaterOf c h j := of_decide_eq_true hb
          rw [if_pos rfl]
          exact TurnS.ret (r := .tup [.int (j : Nat), .int (greaterOf c h j), .int (roomOf c bs j)]) rfl (xb_cons (xs_flat (i := 4) (d := .int (greaterOf c h j)) nd (xe_call (d_greater_of Z) passL hr (xa_cons (xe_var 0) (xa_cons (xe_var 1) (xa_cons (xe_var 3) xa_nil))) ⟨c, h, (j : Nat), hc, hh, by omega, by omega, rfl, rfl⟩))
            (xb_cons (xs_flat (i := 5) (d := .int (roomOf c bs j)) nd (xe_call (d_room_of Z) passL (hr.mono (by decide)) (xa_cons (xe_var 0) (xa_cons (xe_var 2) (xa_cons (xe_var 3) xa_nil))) ⟨c, bs, (j : Nat), hc, hz, by omega, by omega, rfl, rfl⟩))
            (xb_stop (xs_if (c := true) (xt_cmp (opE (o_gt (i := greaterOf c h j) (j := roomOf c bs j)) (decide_eq_true hb')) (xe_var 4) (xe_var 5)) (fun _ => xb_stop (xs_ret (xe_tup (xa_cons (xe_var 3) (xa_cons (xe_var 4) (xa_cons (xe_var 5) xa_nil))))) trivial) (fun h => by cases h)) trivial))) rfl
        | false =>
          have hb' : ¬ roomOf c bs j < greaterOf c h j := of_decide_eq_false hb
          rw [if_neg Bool.false_ne_true]
          exact TurnS.next rfl (xb_cons (xs_flat (i := 4) (d := .int (greaterOf c h j)) nd (xe_call (d_greater_of Z) passL hr (xa_cons (xe_var 0) (xa_cons (xe_var 1) (xa_cons (xe_var 3) xa_nil))) ⟨c, h, (j : Nat), hc, hh, by omega, by omega, rfl, rfl⟩))
            (xb_cons (xs_flat (i := 5) (d := .int (roomOf c bs j)) nd (xe_call (d_room_of Z) passL (hr.mono (by decide)) (xa_cons (xe_var 0) (xa_cons (xe_var 2) (xa_cons (xe_var 3) xa_nil))) ⟨c, bs, (j : Nat), hc, hz, by omega, by omega, rfl, rfl⟩))
            (xb_cons (xs_if (c := false) (xt_cmp (opE (o_gt (i := greaterOf c h j) (j := roomOf c bs j)) (decide_eq_false hb')) (xe_var 4) (xe_var 5)) (fun h => by cases h) (fun _ => xb_nil)) xb_nil))) (by repeat (first | exact LessS.nil | apply LessS.keep | apply LessS.drop)) ⟨j, by omega, rfl, rfl, rfl, rfl⟩
theorem d_told_answer_boxes : Df P w K mg base (L2.CX P w) 4 "told_answer_boxes" 3 (fun ds r => ∃ c h bs, Chn c ∧ Hep c h ∧ bs.length ≤ 100000 ∧ ds = [dI c, dI h, dI bs] ∧ r = .ok (layD c h bs)) :=
  Df.mk' Z.f_told_answer_boxes sc_told_answer_boxes (fun _ _ _ _ _ _ us hl => match us, hl with | [_, _, _], _ => rfl) fun f cdv A outer s H E ds r hr hn hR => by
    obtain ⟨c, h, bs, hc, hh, hz, rfl, rfl⟩ := hR
    have nd := sc_told_answer_boxes.nd
    unfold layD
    cases q : lastFull c h bs c.length with
    | none =>
      exact ⟨.rt _, rfl, xb_cons (xs_sh (i := 3) (d := .non) nd (xe_call (d_last_full Z) passL hr (xa_cons (xe_var 0) (xa_cons (xe_var 1) (xa_cons (xe_var 2) xa_nil))) ⟨c, h, bs, hc, hh, hz, rfl, by rw [q]; rfl⟩))
        (xb_cons (xs_if (xt_cmp (o_notN (d := .non)) (xe_var 3) xe_non) (fun h => by cases h) (fun _ => xb_nil))
        (xb_stop (xs_ret (xe_tup (xa_cons xe_str (xa_cons (xe_call (d_house_load Z) passL (hr.mono (by decide)) (xa_cons (xe_var 0) (xa_cons (xe_var 1) (xa_cons (xe_var 2) xa_nil))) ⟨c, h, bs, hc, hh, hz, rfl, rfl⟩) xa_nil)))) trivial))⟩
    | some k =>
      exact ⟨.rt _, rfl, xb_cons (xs_sh (i := 3) (d := .tup [.int k, .int (greaterOf c h k), .int (roomOf c bs k)]) nd (xe_call (d_last_full Z) passL hr (xa_cons (xe_var 0) (xa_cons (xe_var 1) (xa_cons (xe_var 2) xa_nil))) ⟨c, h, bs, hc, hh, hz, rfl, by rw [q]; rfl⟩))
        (xb_stop (xs_if (xt_cmp (o_notN (d := .tup [.int k, .int (greaterOf c h k), .int (roomOf c bs k)])) (xe_var 3) xe_non) (fun _ => xb_stop (xs_ret (xe_op (o_catT (ds := [.str "value"]) (by simp) (by simp)) (xe_tup (xa_cons xe_str xa_nil)) (xe_var 3))) trivial) (fun h => by cases h)) trivial)⟩
end
end Pa
namespace Pa
open PySem PySem.Spec PyProof.Rows L2
def resA : Option Err → Res
  | some e => .er e
  | none => .an
theorem layD_some {c h bs : List Int} {k : Nat} (e : lastFull c h bs c.length = some k) : layD c h bs = .tup [.str "value", .int k, .int (greaterOf c h k), .int (roomOf c bs k)] := by
  unfold layD
  rw [e]
theorem layD_none {c h bs : List Int} (e : lastFull c h bs c.length = none) : layD c h bs = .tup [.str "laying", .lst ((housePay c h bs).map dI)] := by
  unfold layD
  rw [e]
theorem atI_neg1 {α : Type} {xs : List α} {x : α} (h : xs.getLast? = some x) : L2.atI xs (-1) = some x := by
  have hl : 0 < xs.length := by
    cases xs with
    | nil => cases h
    | cons a b => exact Nat.succ_pos _
  unfold L2.atI
  have e : ixN xs.length (-1) = some (xs.length - 1) := by
    unfold ixN
    rw [if_neg (by decide), if_pos (by omega)]
    congr 1
    omega
  rw [e]
  show xs[xs.length - 1]? = some x
  rw [← List.getLast?_eq_getElem?, h]
theorem enumD_get {c : List Int} {j : Nat} (h : j < c.length) : (enumD (c.map Dt.int))[j]? = some (.tup [.int (j : Int), .int (c.getD j 0)]) := by
  rw [enum_ints, List.getElem?_map, List.getElem?_zipIdx, List.getElem?_eq_getElem h, List.getD_eq_getElem?_getD, List.getElem?_eq_getElem h]
  simp
section
variable {X : Cx} {scope : Scope} {elt : Expr} {δ : Sl}
theorem comp_zipR {i j : Nat} {bs : List Int} {rs : List (List Int)} {f : Int → List Int → Int} (k : ∀ a r, (a, r) ∈ bs.zip rs → InB X scope fun Y => Xe Y elt ((δ.set i (some (.int a))).set j (some (dI r))) (.int (f a r))) :
    CompD X scope (.two i j) [] elt δ (zipD (bs.map Dt.int) (rs.map dI)) (((bs.zip rs).map fun p => f p.1 p.2).map Dt.int) := by
  have e : zipD (bs.map Dt.int) (rs.map dI) = (bs.zip rs).map fun p => .tup [.int p.1, dI p.2] := by
    unfold zipD
    rw [List.zip_map, List.map_map]
    rfl
  rw [e, List.map_map]
  exact comp_map (dl := fun p : Int × List Int => (δ.set i (some (.int p.1))).set j (some (dI p.2))) (bs.zip rs) fun p hp => ⟨rfl, fun s H C cl fp => ⟨xts_nil, k p.1 p.2 hp s H C cl fp⟩⟩
theorem comp_enumI {i j : Nat} {h : List Int} {f : Nat → Int → Int} (k : ∀ (m : Nat) (v : Int), h[m]? = some v → InB X scope fun Y => Xe Y elt ((δ.set i (some (.int m))).set j (some (.int v))) (.int (f m v))) :
    CompD X scope (.two i j) [] elt δ (enumD (h.map Dt.int)) ((h.zipIdx.map fun p => f p.2 p.1).map Dt.int) := by
  rw [enum_ints, List.map_map]
  exact comp_map (dl := fun p : Int × Nat => (δ.set i (some (.int p.2))).set j (some (.int p.1))) h.zipIdx fun p hp => ⟨rfl, fun s H C cl fp => ⟨xts_nil, k p.2 p.1 (by simpa using List.mem_zipIdx_iff_getElem?.mp hp) s H C cl fp⟩⟩
/-- over numbered ints, a test -/
theorem comp_enumF {i j : Nat} {h : List Int} {t : Expr} {f : Nat → Int → Int} {g : Nat → Int → Bool} (k : ∀ (m : Nat) (v : Int), h[m]? = some v → InB X scope fun Y => Xt Y t ((δ.set i (some (.int m))).set j (some (.int v))) (g m v) ∧ (g m v = true → Xe Y elt ((δ.set i (some (.int m))).set j (some (.int v))) (.int (f m v)))) :
    CompD X scope (.two i j) [t] elt δ (enumD (h.map Dt.int)) (((h.zipIdx.filter fun p => g p.2 p.1).map fun p => f p.2 p.1).map Dt.int) := by
  rw [enum_ints, List.map_map]
  exact comp_filter (dl := fun p : Int × Nat => (δ.set i (some (.int p.2))).set j (some (.int p.1))) (f := fun p => g p.2 p.1) h.zipIdx fun p hp => by
    have hm : h[p.2]? = some p.1 := by simpa using List.mem_zipIdx_iff_getElem?.mp hp
    exact ⟨rfl, fun s H C cl fp => ⟨xts_one (k p.2 p.1 hm s H C cl fp).1, (k p.2 p.1 hm s H C cl fp).2⟩⟩
end
theorem room_pos {v cc : Int} (h1 : 1 ≤ v) (h2 : v ≤ cc) : 0 < cc / v * v ∧ cc / v * v ≤ cc ∧ cc < 2 * (cc / v * v) := by
  have a : 1 ≤ cc / v := Int.le_ediv_of_mul_le (by omega) (by omega)
  have b := Int.ediv_mul_le cc (b := v) (by omega)
  have d := Int.lt_ediv_add_one_mul_self cc (b := v) (by omega)
  have e : 1 * v ≤ cc / v * v := Int.mul_le_mul_of_nonneg_right a (by omega)
  rw [Int.add_mul, Int.one_mul] at d
  omega
/-- the greatest index found too great -/
def tooD (c h : List Int) (cc : Int) : Dt := match (tooL c h cc).getLast? with
  | none => .non
  | some v => .int v
end Pa
namespace Pa
open PySem PySem.Spec PyProof.Rows L2
abbrev layE (K : PySem.W.Frag) (dc dh dv : Dt) : Option Err := orE (heapE (CC K) (HH K) dc dh) (msgE (NN K) (boxesOk dv))
abbrev shaE (K : PySem.W.Frag) (dc dh dv : Dt) : Option Err := orE (heapE (CC K) (HH K) dc dh) (msgE (NN K) (isFT dv 2 8))
abbrev hoE (K : PySem.W.Frag) (dc dh dv : Dt) : Option Err := orE (heapE (CC K) (HH K) dc dh) (msgE (NN K) (isFT dv 1 1000000))
abbrev coE (K : PySem.W.Frag) (dc dh dv : Dt) : Option Err := orE (heapE (CC K) (HH K) dc dh) (msgE (NN K) (isFT dv 1 8))
theorem layE_none {K : PySem.W.Frag} {dc dh dv : Dt} (q : layE K dc dh dv = none) : ∃ c h bs, dc = dI c ∧ dh = dI h ∧ dv = dI bs ∧ Chn c ∧ Hep c h ∧ Bxs bs := by
  obtain ⟨q1, q2⟩ := orE_none q
  obtain ⟨c, h, rfl, rfl, hc, hh⟩ := heapE_none q1
  obtain ⟨bs, rfl, hb⟩ := boxesOk_inv (msgE_none q2)
  exact ⟨c, h, bs, rfl, rfl, rfl, hc, hh, hb⟩
theorem numE_none {K : PySem.W.Frag} {dc dh dv : Dt} {a b : Int} (q : orE (heapE (CC K) (HH K) dc dh) (msgE (NN K) (isFT dv a b)) = none) : ∃ c h, ∃ n : Int, dc = dI c ∧ dh = dI h ∧ dv = .int n ∧ Chn c ∧ Hep c h ∧ a ≤ n ∧ n ≤ b := by
  obtain ⟨q1, q2⟩ := orE_none q
  obtain ⟨c, h, rfl, rfl, hc, hh⟩ := heapE_none q1
  obtain ⟨n, rfl, hn⟩ := isFT_inv (msgE_none q2)
  exact ⟨c, h, n, rfl, rfl, rfl, hc, hh, hn⟩
section
variable {P : Program} {w : World} {K : PySem.W.Frag} {mg : Str → Option Value} {base : Heap} (Z : Txt K mg)
include Z
theorem d_answer_boxes : Df P w K mg base (L2.CX P w) 7 "answer_boxes" 3 (fun ds r => ∃ dc dh dv, dc.okS = true ∧ dh.okS = true ∧ dv.okS = true ∧ ds = [dc, dh, dv] ∧ ((∃ e, layE K dc dh dv = some e ∧ r = .er e) ∨ (∃ c h bs, dc = dI c ∧ dh = dI h ∧ dv = dI bs ∧ layE K dc dh dv = none ∧ Chn c ∧ Hep c h ∧ Bxs bs ∧ r = .ok (layD c h bs)))) :=
  Df.mk' Z.f_answer_boxes sc_answer_boxes (fun _ _ _ _ _ _ us hl => match us, hl with | [_, _, _], _ => rfl) fun f cdv A outer s H E ds r hr hn hR => by
    obtain ⟨dc, dh, dv, h1, h2, h3, rfl, ⟨e, q, rfl⟩ | ⟨c, h, bs, rfl, rfl, rfl, q, hc, hh, hb, rfl⟩⟩ := hR
    · exact ⟨.ex _, rfl, xb_stop (xs_exprZ (xz_call (d_check_laying Z) (takes_of rfl rfl rfl rfl) hr (xa_cons (xe_var 0) (xa_cons (xe_var 1) (xa_cons (xe_var 2) xa_nil))) ⟨dc, dh, dv, h1, h2, h3, rfl, (congrArg resE q).symm⟩)) trivial⟩
    · have := hb.len8
      exact ⟨.rt _, rfl, xb_cons (xs_expr (xe_call (d_check_laying Z) passL hr (xa_cons (xe_var 0) (xa_cons (xe_var 1) (xa_cons (xe_var 2) xa_nil))) ⟨_, _, _, h1, h2, h3, rfl, (congrArg resE q).symm⟩))
        (xb_stop (xs_ret (xe_call (d_told_answer_boxes Z) passL (hr.mono (by decide)) (xa_cons (xe_var 0) (xa_cons (xe_var 1) (xa_cons (xe_var 2) xa_nil))) ⟨c, h, bs, hc, hh, by omega, rfl, rfl⟩)) trivial)⟩
theorem d_can_lay : Df P w K mg base (L2.CX P w) 7 "can_lay" 3 (fun ds r => ∃ dc dh dv, dc.okS = true ∧ dh.okS = true ∧ dv.okS = true ∧ ds = [dc, dh, dv] ∧ r = resA (layE K dc dh dv)) :=
  Df.mk' Z.f_can_lay sc_can_lay (fun _ _ _ _ _ _ us hl => match us, hl with | [_, _, _], _ => rfl) fun f cdv A outer s H E ds r hr hn hR => by
    obtain ⟨dc, dh, dv, h1, h2, h3, rfl, rfl⟩ := hR
    cases q : layE K dc dh dv with
    | some e => exact ⟨.ex _, rfl, xb_stop (xs_exprZ (xz_call (d_check_laying Z) (takes_of rfl rfl rfl rfl) hr (xa_cons (xe_var 0) (xa_cons (xe_var 1) (xa_cons (xe_var 2) xa_nil))) ⟨dc, dh, dv, h1, h2, h3, rfl, (congrArg resE q).symm⟩)) trivial⟩
    | none =>
      obtain ⟨c, h, bs, rfl, rfl, rfl, hc, hh, hb⟩ := layE_none q
      have := hb.len8
      exact ⟨.rt _, trivial, xb_cons (xs_expr (xe_call (d_check_laying Z) passL hr (xa_cons (xe_var 0) (xa_cons (xe_var 1) (xa_cons (xe_var 2) xa_nil))) ⟨_, _, _, h1, h2, h3, rfl, (congrArg resE q).symm⟩))
        (xb_stop (xs_ret (xe_cmp o_isN (xe_call (d_last_full Z) passL (hr.mono (by decide)) (xa_cons (xe_var 0) (xa_cons (xe_var 1) (xa_cons (xe_var 2) xa_nil))) ⟨c, h, bs, hc, hh, by omega, rfl, rfl⟩) xe_non)) trivial)⟩
theorem d_rooms : Df P w K mg base (L2.CX P w) 5 "rooms" 2 (fun ds r => ∃ dc dv, dc.okS = true ∧ dv.okS = true ∧ ds = [dc, dv] ∧ r = resA (orE ((chainErr dc).map (.idx (CC K))) (msgE (NN K) (boxesOk dv)))) :=
  Df.mk' Z.f_rooms sc_rooms (fun _ _ _ _ _ _ us hl => match us, hl with | [_, _], _ => rfl) fun f cdv A outer s H E ds r hr hn hR => by
    obtain ⟨dc, dv, h1, h3, rfl, rfl⟩ := hR
    have nd := sc_rooms.nd
    cases q : chainErr dc with
    | some i => exact ⟨.ex _, rfl, xb_stop (xs_exprZ (xz_call (d_check_chain Z) (takes_of rfl rfl rfl rfl) hr (xa_cons (xe_var 0) xa_nil) ⟨dc, h1, rfl, by rw [q]; rfl⟩)) trivial⟩
    | none =>
      obtain ⟨c, rfl, hc⟩ := chainErr_none q
      cases q2 : msgE (NN K) (boxesOk dv) with
      | some e => exact ⟨.ex _, rfl, xb_cons (xs_expr (xe_call (d_check_chain Z) passL hr (xa_cons (xe_var 0) xa_nil) ⟨_, h1, rfl, by rw [q]; rfl⟩)) (xb_stop (xs_exprZ (xz_call (d_check_boxes Z) (takes_of rfl rfl rfl rfl) (hr.mono (by decide)) (xa_cons (xe_var 1) xa_nil) ⟨dv, h3, rfl, (congrArg resE q2).symm⟩)) trivial)⟩
      | none =>
        obtain ⟨bs, rfl, hb⟩ := boxesOk_inv (msgE_none q2)
        have l8 := hc.len8
        have b8 := hb.len8
        refine ⟨.rt _, trivial, xb_cons (xs_expr (xe_call (d_check_chain Z) passL hr (xa_cons (xe_var 0) xa_nil) ⟨_, h1, rfl, by rw [q]; rfl⟩)) (xb_cons (xs_expr (xe_call (d_check_boxes Z) passL (hr.mono (by decide)) (xa_cons (xe_var 1) xa_nil) ⟨_, h3, rfl, (congrArg resE q2).symm⟩))
          (xb_stop (xs_ret (xe_lc [("k", 2)] (.one 2) nd (xi_range1 Z.b_range (xa_cons (xe_callB c_lenI Z.b_len boot_len (xa_cons (xe_var 0) xa_nil)) xa_nil) (by omega) (by omega)) (comp_ints (f := fun k => roomOf c bs k.toNat) fun n hn s H C cl fp => ?_) (by rw [List.length_map, rngD_len]; omega) (fun _ _ _ _ _ => xg_one nd))) trivial))⟩
        obtain ⟨i, hi, rfl⟩ := rngD_mem hn
        exact xe_call (d_room_of Z) passL (hr.mono (by decide)) (xa_cons (xe_var 0) (xa_cons (xe_var 1) (xa_cons (xe_var 2) xa_nil))) ⟨c, bs, _, hc, by omega, by omega, by omega, rfl, rfl⟩
theorem d_load : Df P w K mg base (L2.CX P w) 7 "load" 3 (fun ds r => ∃ dc dh dv, dc.okS = true ∧ dh.okS = true ∧ dv.okS = true ∧ ds = [dc, dh, dv] ∧ ((∃ e, layE K dc dh dv = some e ∧ r = .er e) ∨ (∃ c h bs, dc = dI c ∧ dh = dI h ∧ dv = dI bs ∧ layE K dc dh dv = none ∧ Chn c ∧ Hep c h ∧ Bxs bs ∧ r = .ok (loadD c h bs)))) :=
  Df.mk' Z.f_load sc_load (fun _ _ _ _ _ _ us hl => match us, hl with | [_, _, _], _ => rfl) fun f cdv A outer s H E ds r hr hn hR => by
    obtain ⟨dc, dh, dv, h1, h2, h3, rfl, ⟨e, q, rfl⟩ | ⟨c, h, bs, rfl, rfl, rfl, q, hc, hh, hb, rfl⟩⟩ := hR
    · exact ⟨.ex _, rfl, xb_stop (xs_exprZ (xz_call (d_check_laying Z) (takes_of rfl rfl rfl rfl) hr (xa_cons (xe_var 0) (xa_cons (xe_var 1) (xa_cons (xe_var 2) xa_nil))) ⟨dc, dh, dv, h1, h2, h3, rfl, (congrArg resE q).symm⟩)) trivial⟩
    · have b8 := hb.len8
      have l8 := hc.len8
      have nd := sc_load.nd
      have hl : (housePay c h bs).length = bs.length := (payAt_len c.length).1
      exact ⟨.rt _, rfl, xb_cons (xs_expr (xe_call (d_check_laying Z) passL hr (xa_cons (xe_var 0) (xa_cons (xe_var 1) (xa_cons (xe_var 2) xa_nil))) ⟨_, _, _, h1, h2, h3, rfl, (congrArg resE q).symm⟩))
        (xb_cons (xs_sh (i := 3) (d := .lst ((housePay c h bs).map dI)) nd (xe_call (d_house_load Z) passL (hr.mono (by decide)) (xa_cons (xe_var 0) (xa_cons (xe_var 1) (xa_cons (xe_var 2) xa_nil))) ⟨c, h, bs, hc, hh, by omega, rfl, rfl⟩))
        (xb_stop (xs_ret (xe_tup (xa_cons (xe_callB c_sum Z.b_sum boot_sum (xa_cons (xe_lc [("row", 4)] (.one 4) nd (xi_list (xe_var 3)) (comp_rows (f := worth c) fun r hr' s H C cl fp => xe_call (d_worth_of Z) passL (hr.mono (by decide)) (xa_cons (xe_var 0) (xa_cons (xe_var 4) xa_nil)) ⟨c, r, rfl, by omega, hc.small, rfl⟩) (by rw [List.length_map]; omega) (fun _ _ _ _ _ => xg_one nd)) xa_nil)) (xa_cons (xe_var 3) xa_nil)))) trivial))⟩
theorem d_left_out : Df P w K mg base (L2.CX P w) 8 "left_out" 3 (fun ds r => ∃ dc dh dv, dc.okS = true ∧ dh.okS = true ∧ dv.okS = true ∧ ds = [dc, dh, dv] ∧ r = resA (layE K dc dh dv)) :=
  Df.mk' Z.f_left_out sc_left_out (fun _ _ _ _ _ _ us hl => match us, hl with | [_, _, _], _ => rfl) fun f cdv A outer s H E ds r hr hn hR => by
    obtain ⟨dc, dh, dv, h1, h2, h3, rfl, rfl⟩ := hR
    have nd := sc_left_out.nd
    cases q : layE K dc dh dv with
    | some e => exact ⟨.ex _, rfl, xb_stop (xs_twoZ (xz_call (d_load Z) (takes_of rfl rfl rfl rfl) hr (xa_cons (xe_var 0) (xa_cons (xe_var 1) (xa_cons (xe_var 2) xa_nil))) ⟨dc, dh, dv, h1, h2, h3, rfl, .inl ⟨e, q, rfl⟩⟩)) trivial⟩
    | none =>
      obtain ⟨c, h, bs, rfl, rfl, rfl, hc, hh, hb⟩ := layE_none q
      have b8 := hb.len8
      have l8 := hc.len8
      obtain ⟨hl, _, hrl⟩ := payAt_len (c := c) (h := h) (as := bs) c.length
      have hl : (housePay c h bs).length = bs.length := hl
      have hhl := hh.len
      refine ⟨.rt _, trivial, xb_cons (xs_two (i := 3) (j := 4) (d1 := .int (((housePay c h bs).map (worth c)).sum)) (d2 := .lst ((housePay c h bs).map dI)) (xe_call (d_load Z) passL hr (xa_cons (xe_var 0) (xa_cons (xe_var 1) (xa_cons (xe_var 2) xa_nil))) ⟨_, _, _, h1, h2, h3, rfl, .inr ⟨c, h, bs, rfl, rfl, rfl, q, hc, hh, hb, rfl⟩⟩) (xg_two nd))
        (xb_stop (xs_ret (xe_lc [("k", 5), ("count", 6)] (.two 5 6) nd (xi_enum Z.b_enumerate (xe_var 1)) (comp_enumI (f := fun m v => v - ((housePay c h bs).map fun r => r.getD m 0).sum) fun m v hm s H C cl fp => ?_) (by rw [enum_len]; omega) (fun _ _ _ _ _ => xg_two nd))) trivial)⟩
      have hm' := (List.getElem?_eq_some_iff.mp hm).1
      exact xe_op o_sub (xe_var 6) (xe_callB c_sum Z.b_sum boot_sum (xa_cons (xe_lc [("row", 7)] (.one 7) nd (xi_list (xe_var 4)) (comp_rows (f := fun r => r.getD m 0) fun r hr' s H C cl fp => xe_ix (i_int (k := (m : Nat)) (by omega) (by rw [hrl r hr']; omega)) (xe_var 7) (xe_var 5)) (by rw [List.length_map]; omega) (fun _ _ _ _ _ => xg_one nd)) xa_nil))
theorem d_room_left : Df P w K mg base (L2.CX P w) 8 "room_left" 4 (fun ds r => ∃ dc dh dv dk, dc.okS = true ∧ dh.okS = true ∧ dv.okS = true ∧ dk.noS = true ∧ ds = [dc, dh, dv, dk] ∧ r = resA (orE (layE K dc dh dv) (msgE (NN K) (isFT dk 0 ((lenD dc : Int) - 1))))) :=
  Df.mk' Z.f_room_left sc_room_left (fun _ _ _ _ _ _ us hl => match us, hl with | [_, _, _, _], _ => rfl) fun f cdv A outer s H E ds r hr hn hR => by
    obtain ⟨dc, dh, dv, dk, h1, h2, h3, h4, rfl, rfl⟩ := hR
    have nd := sc_room_left.nd
    cases q : layE K dc dh dv with
    | some e => exact ⟨.ex _, rfl, xb_stop (xs_setZ (i := 4) nd (xz_call (d_answer_boxes Z) (takes_of rfl rfl rfl rfl) hr (xa_cons (xe_var 0) (xa_cons (xe_var 1) (xa_cons (xe_var 2) xa_nil))) ⟨dc, dh, dv, h1, h2, h3, rfl, .inl ⟨e, q, rfl⟩⟩)) trivial⟩
    | none =>
      obtain ⟨c, h, bs, rfl, rfl, rfl, hc, hh, hb⟩ := layE_none q
      have b8 := hb.len8
      have l8 := hc.len8
      have hl : (housePay c h bs).length = bs.length := (payAt_len c.length).1
      have s1 := fun {O : Out} => fun (a : Xb (cxOf (L2.CX P w) P w K mg base ["chain", "heap", "boxes", "k", "found", "hold", "row"] "room_left" (defScope s_room_left) f cdv A outer s H E) E ((defBody s_room_left).drop 1) [some (.sh (dI c)), some (.sh (dI h)), some (.sh (dI bs)), some (.sh dk), some (.sh (layD c h bs)), none, none] [] O) =>
        (xb_cons (xs_sh (i := 4) (d := layD c h bs) nd (xe_call (d_answer_boxes Z) passL hr (xa_cons (xe_var 0) (xa_cons (xe_var 1) (xa_cons (xe_var 2) xa_nil))) ⟨_, _, _, h1, h2, h3, rfl, .inr ⟨c, h, bs, rfl, rfl, rfl, q, hc, hh, hb, rfl⟩⟩)) a : Xb (cxOf (L2.CX P w) P w K mg base ["chain", "heap", "boxes", "k", "found", "hold", "row"] "room_left" (defScope s_room_left) f cdv A outer s H E) E (defBody s_room_left) (argS 7 [dI c, dI h, dI bs, dk]) [] O)
      have el : (lenD (dI c) : Int) - 1 = (c.length : Int) - 1 := by rw [lenD_dI]
      rw [el]
      cases q2 : msgE (NN K) (isFT dk 0 ((c.length : Int) - 1)) with
      | some e => exact ⟨.ex _, rfl, s1 (xb_stop (xs_exprZ (xz_call (d_check_index Z) (takes_of rfl rfl rfl rfl) (hr.mono (by decide)) (xa_cons (xe_var 3) (xa_cons (xe_op o_sub (xe_callB c_lenI Z.b_len boot_len (xa_cons (xe_var 0) xa_nil)) xe_int) xa_nil)) ⟨dk, _, h4, rfl, (congrArg resE q2).symm⟩)) trivial)⟩
      | none =>
        obtain ⟨k, rfl, hk0, hk1⟩ := isFT_inv (msgE_none q2)
        have s2 := fun {O : Out} => fun (a : Xb (cxOf (L2.CX P w) P w K mg base ["chain", "heap", "boxes", "k", "found", "hold", "row"] "room_left" (defScope s_room_left) f cdv A outer s H E) E ((defBody s_room_left).drop 2) [some (.sh (dI c)), some (.sh (dI h)), some (.sh (dI bs)), some (.sh (.int k)), some (.sh (layD c h bs)), none, none] [] O) =>
          s1 (xb_cons (xs_expr (xe_call (d_check_index Z) passL (hr.mono (by decide)) (xa_cons (xe_var 3) (xa_cons (xe_op o_sub (xe_callB c_lenI Z.b_len boot_len (xa_cons (xe_var 0) xa_nil)) xe_int) xa_nil)) ⟨_, _, h4, rfl, (congrArg resE q2).symm⟩)) a)
        cases ql : lastFull c h bs c.length with
        | some j =>
          rw [layD_some ql] at s2
          exact ⟨.rt _, trivial, s2 (xb_stop (xs_if (c := true) (xt_cmp (o_neS (i := "value") (c := true)) (xe_ix i_tup0 (xe_var 4) xe_int) xe_str) (fun _ => xb_stop (xs_ret xe_non) trivial) (fun h => by cases h)) trivial)⟩
        | none =>
          rw [layD_none ql] at s2
          have hv := hc.getD (k := k.toNat) (by omega)
          exact ⟨.rt _, trivial, s2 (xb_cons (xs_if (c := false) (xt_cmp (o_neS (i := "laying") (c := false)) (xe_ix i_tup0 (xe_var 4) xe_int) xe_str) (fun h => by cases h) (fun _ => xb_nil))
            (xb_stop (xs_ret (xe_callB c_sum Z.b_sum boot_sum (xa_cons (xe_lc [("hold", 5), ("row", 6)] (.two 5 6) nd (xi_zip Z.b_zip (xe_var 2) (xe_ix i_tup1 (xe_var 4) xe_int)) (comp_zipR (f := fun a r => (a - worth c r) / c.getD k.toNat 0) fun a r har s H C cl fp => xe_op (o_div ⟨by omega, by omega⟩) (xe_op o_sub (xe_var 5) (xe_call (d_worth_of Z) passL (hr.mono (by decide)) (xa_cons (xe_var 0) (xa_cons (xe_var 6) xa_nil)) ⟨c, r, rfl, by omega, hc.small, rfl⟩)) (xe_ix (i_int (ns := c) hk0 (by omega)) (xe_var 0) (xe_var 3)))
              (by unfold zipD; rw [List.length_map, List.length_zip, List.length_map]; omega) (fun _ _ _ _ _ => xg_two nd)) xa_nil))) trivial))⟩
end
end Pa
namespace Pa
open PySem PySem.Spec PyProof.Rows L2
theorem getD_drop {xs : List Int} {k i : Nat} : (xs.drop k).getD i 0 = xs.getD (k + i) 0 := by
  rw [List.getD_eq_getElem?_getD, List.getD_eq_getElem?_getD, List.getElem?_drop]
theorem tooL_none {c h : List Int} {cc : Int} (hl : h.length = c.length) (e : tooL c h cc = []) {k : Nat} (hk : k < c.length) (hp : 0 < h.getD k 0) : c.getD k 0 ≤ cc := by
  unfold tooL at e
  have e := List.map_eq_nil_iff.mp e
  rw [List.filter_eq_nil_iff] at e
  have hm : (h.getD k 0, k) ∈ h.zipIdx := List.mem_zipIdx_iff_getElem?.mpr (getD_some (by omega))
  have := e _ hm
  rw [Bool.and_eq_true, decide_eq_true_eq, decide_eq_true_eq] at this
  have := fun z => this ⟨hp, z⟩
  show c.getD k 0 ≤ cc
  have h2 : ¬ cc < c.getD k 0 := this
  omega
theorem greater_le {c h : List Int} {cc : Int} (hc : Chn c) (hh : Hep c h) (h1 : 1 ≤ cc) (e : tooL c h cc = []) (k : Nat) : 0 ≤ greaterOf c h k ∧ greaterOf c h k ≤ 792 * cc := by
  have hl := hh.len
  have l8 := hc.len8
  unfold greaterOf
  rw [worth_S1 (by rw [List.length_drop, List.length_drop, hl])]
  have term : ∀ i, i < (c.drop k).length → 0 ≤ (c.drop k).getD i 0 * (h.drop k).getD i 0 ∧ (c.drop k).getD i 0 * (h.drop k).getD i 0 ≤ 99 * cc := fun i hi => by
    rw [List.length_drop] at hi
    rw [getD_drop, getD_drop]
    have hv := hc.getD (k := k + i) (by omega)
    have hg := hh.rg _ (getD_mem (d := 0) (j := k + i) (by omega))
    refine ⟨Int.mul_nonneg (by omega) hg.1, ?_⟩
    by_cases hz : 0 < h.getD (k + i) 0
    · have hcv := tooL_none hl e (k := k + i) (by omega) hz
      have a := Int.mul_le_mul_of_nonneg_right hcv hg.1
      have b := Int.mul_le_mul_of_nonneg_left hg.2 (show 0 ≤ cc by omega)
      omega
    · have hz0 : h.getD (k + i) 0 = 0 := by omega
      rw [hz0, Int.mul_zero]
      omega
  refine ⟨S1_nonneg fun i hi => (term i hi).1, ?_⟩
  have s : S1 (fun i => (c.drop k).getD i 0 * (h.drop k).getD i 0) (c.drop k).length ≤ S1 (fun _ => 1 * (99 * cc)) (c.drop k).length := S1_le fun i hi => by
    have := (term i hi).2
    omega
  rw [S1_mul] at s
  have ones : ∀ m : Nat, S1 (fun _ => 1) m = (m : Int) := fun m => by
    induction m with
    | zero => rfl
    | succ m ih =>
      show S1 (fun _ => 1) m + 1 = _
      rw [ih]
      rfl
  rw [ones] at s
  have hm : ((c.drop k).length : Int) ≤ 8 := by rw [List.length_drop]; omega
  have s2 : ((c.drop k).length : Int) * (99 * cc) ≤ 8 * (99 * cc) := Int.mul_le_mul_of_nonneg_right hm (by omega)
  omega
theorem ceil_le {g room cc : Int} (h0 : 0 ≤ g) (h1 : g ≤ 792 * cc) (h2 : 0 < room) (h3 : cc < 2 * room) : 0 ≤ -((-g) / room) ∧ -((-g) / room) ≤ 1585 := by
  have a := Int.ediv_mul_le (-g) (b := room) (by omega)
  have b := Int.lt_ediv_add_one_mul_self (-g) (b := room) (by omega)
  generalize (-g) / room = q at a b
  rw [Int.add_mul, Int.one_mul] at b
  refine ⟨?_, ?_⟩
  · by_cases hq : 0 < q
    · have : room * 1 ≤ room * q := Int.mul_le_mul_of_nonneg_left hq (by omega)
      rw [Int.mul_comm room q] at this
      omega
    · omega
  · by_cases hq : -1585 ≤ q
    · omega
    · have hq2 : q + 1586 ≤ 0 := by omega
      have h5 : (q + 1586) * room ≤ 0 * room := Int.mul_le_mul_of_nonneg_right hq2 (by omega)
      rw [Int.add_mul, Int.zero_mul] at h5
      omega
theorem needed_le {c h : List Int} {cc : Int} (hc : Chn c) (hh : Hep c h) (h1 : 1 ≤ cc) (e : tooL c h cc = []) : ∀ i, i ≤ c.length → ∀ v ∈ neededAt c h cc i, 0 ≤ v ∧ v ≤ 1585
  | 0, _ => fun v hv => by cases hv
  | i + 1, hi => fun v hv => by
    have ih := needed_le hc hh h1 e i (by omega)
    have hv : v ∈ (if c.getD i 0 ≤ cc then neededAt c h cc i ++ [-((-(greaterOf c h i)) / (cc / c.getD i 0 * c.getD i 0))] else neededAt c h cc i) := hv
    split at hv
    · rename_i hle
      rcases List.mem_append.mp hv with hv | hv
      · exact ih v hv
      · rw [List.mem_singleton.mp hv]
        have hvv := hc.getD (k := i) (by omega)
        obtain ⟨g0, g1⟩ := greater_le hc hh h1 e i
        obtain ⟨r0, r1, r2⟩ := room_pos hvv.1 hle
        exact ceil_le g0 g1 r0 r2
    · exact ih v hv
theorem count_le {c h : List Int} {cc : Int} (hc : Chn c) (hh : Hep c h) (h1 : 1 ≤ cc) (e : tooL c h cc = []) : 0 ≤ countOf c h cc ∧ countOf c h cc ≤ 1585 := by
  unfold countOf
  refine ⟨(maxD_ge _ 0).1, ?_⟩
  rcases List.mem_cons.mp (maxD_mem (needed c h cc) 0) with h | h
  · omega
  · exact (needed_le hc hh h1 e c.length (Nat.le_refl _) _ h).2
theorem count_in {c h : List Int} {cc : Int} (h0 : 0 < countOf c h cc) : countOf c h cc ∈ needed c h cc := by
  rcases List.mem_cons.mp (maxD_mem (needed c h cc) 0) with h | h
  · unfold countOf at h0
    omega
  · exact h
end Pa
namespace Pa
open PySem PySem.Spec PyProof.Rows L2
section
variable {P : Program} {w : World} {K : PySem.W.Frag} {mg : Str → Option Value} {base : Heap} (Z : Txt K mg)
include Z
theorem d_too_great : Df P w K mg base (L2.CX P w) 1 "too_great" 3 (fun ds r => ∃ c h, ∃ cc : Int, Chn c ∧ Hep c h ∧ ds = [dI c, dI h, .int cc] ∧ r = .ok (tooD c h cc)) :=
  Df.mk' Z.f_too_great sc_too_great (fun _ _ _ _ _ _ us hl => match us, hl with | [_, _, _], _ => rfl) fun f cdv A outer s H E ds r hr hn hR => by
    obtain ⟨c, h, cc, hc, hh, rfl, rfl⟩ := hR
    have nd := sc_too_great.nd
    have l8 := hc.len8
    have hhl := hh.len
    have s1 : Xs (cxOf (L2.CX P w) P w K mg base ["chain", "heap", "c", "found", "k", "count"] "too_great" (defScope s_too_great) f cdv A outer s H E) E ((defBody s_too_great).getD 0 (.Pass ⟨0, 0, 0, 0⟩)) (argS 6 [dI c, dI h, .int cc]) [] (.nx [some (.sh (dI c)), some (.sh (dI h)), some (.sh (.int cc)), some (.sh (dI (tooL c h cc))), none, none] []) :=
      xs_lc (i := 3) [("k", 4), ("count", 5)] (.two 4 5) nd (xi_enum Z.b_enumerate (xe_var 1)) (comp_enumF (f := fun m _ => (m : Int)) (g := fun m v => decide (0 < v) && decide (cc < c.getD m 0)) fun m v hm s H C cl fp => ⟨xt_bool (xw_and (xt_cmp o_gt (xe_var 5) xe_int) (fun hv => xw_and1 (by
          have hm' := (List.getElem?_eq_some_iff.mp hm).1
          rw [hv, Bool.true_and]
          exact xt_cmp o_gt (xe_ix (i_int (ns := c) (k := (m : Nat)) (by omega) (by omega)) (xe_var 0) (xe_var 4)) (xe_var 2))) (fun hv => by rw [hv, Bool.false_and])), fun _ => xe_var 4⟩) (by rw [enum_len]; omega) (fun _ _ _ _ _ => xg_two nd)
    unfold tooD
    cases q : (tooL c h cc).getLast? with
    | none =>
      have q0 : tooL c h cc = [] := List.getLast?_eq_none_iff.mp q
      rw [q0] at s1
      exact ⟨.rt .non, rfl, xb_cons s1 (xb_stop (xs_ret (xe_if (c := false) (xt_list (ds := []) (xe_var 3)) (fun h => by cases h) (fun _ => xe_non))) trivial)⟩
    | some v =>
      have hne : (!((tooL c h cc).map Dt.int).isEmpty) = true := by
        cases q2 : tooL c h cc with
        | nil => rw [q2] at q; cases q
        | cons a b => rfl
      have hat : atI ((tooL c h cc).map Dt.int) (-1) = some (.int v) := atI_neg1 (by rw [List.getLast?_map, q]; rfl)
      refine ⟨.rt (.int v), rfl, xb_cons s1 (xb_stop (xs_ret (xe_if (c := true) ?_ (fun _ => xe_ix (i_list hat) (xe_var 3) (xe_un o_neg xe_int)) (fun h => by cases h))) trivial)⟩
      rw [← hne]
      exact xt_list (xe_var 3)
theorem d_needed_list : Df P w K mg base (L2.CX P w) 3 "needed_list" 3 (fun ds r => ∃ c h, ∃ cc : Int, Chn c ∧ Hep c h ∧ 1 ≤ cc ∧ cc ≤ 1000000 ∧ ds = [dI c, dI h, .int cc] ∧ r = .ok (dI (needed c h cc))) :=
  Df.mk' Z.f_needed_list sc_needed_list (fun _ _ _ _ _ _ us hl => match us, hl with | [_, _, _], _ => rfl) fun f cdv A outer s H E ds r hr hn hR => by
    obtain ⟨c, h, cc, hc, hh, h1, h2, rfl, rfl⟩ := hR
    have nd := sc_needed_list.nd
    have l8 := hc.len8
    refine ⟨.rt _, rfl, xb_cons (xs_new (i := 3) (c := .nums []) nd (xn_lst xa_nil)) (xb_cons (xs_for (.two 4 5) (passes_of rfl) (xi_enum Z.b_enumerate (xe_var 0)) (xg_two nd) (LoopS.runN c.length (fun _ => [some (.sh (dI c)), some (.sh (dI h)), some (.sh (.int cc)), some (.at_ 0), none, none, none]) (fun j => [.nums (neededAt c h cc j)]) (by rw [enum_len]) rfl rfl fun j d hd hj => ?_)) (xb_stop (xs_ret (xe_var 3)) trivial))⟩
    rw [enumD_get hj] at hd
    cases hd
    have hv := hc.getD hj
    have hnl := neededAt_len (c := c) (h := h) (cc := cc) j
    have est : neededAt c h cc (j + 1) = if c.getD j 0 ≤ cc then neededAt c h cc j ++ [-((-(greaterOf c h j)) / (cc / c.getD j 0 * c.getD j 0))] else neededAt c h cc j := rfl
    by_cases hle : c.getD j 0 ≤ cc
    · rw [if_pos hle] at est
      rw [est]
      obtain ⟨r0, r1, r2⟩ := room_pos hv.1 hle
      exact ⟨_, _, rfl, xb_cons (xs_if (c := true) (xt_cmp (opE o_le (decide_eq_true hle)) (xe_var 5) (xe_var 2)) (fun _ => xb_cons (xs_flat (i := 6) (d := .int (cc / c.getD j 0 * c.getD j 0)) nd (xe_op (o_mul (.inr ⟨by omega, by omega⟩)) (xe_op (o_div ⟨by omega, by omega⟩) (xe_var 2) (xe_var 5)) (xe_var 5)))
        (xb_cons (xs_append (y := .at_ 0) (ns := neededAt c h cc j) (v := -((-(greaterOf c h j)) / (cc / c.getD j 0 * c.getD j 0))) (xr_var 3) rfl (xe_un o_neg (xe_op (o_div ⟨by omega, by omega⟩) (xe_un o_neg (xe_call (d_greater_of Z) passL hr (xa_cons (xe_var 0) (xa_cons (xe_var 1) (xa_cons (xe_var 4) xa_nil))) ⟨c, h, (j : Nat), hc, hh, by omega, by omega, rfl, rfl⟩)) (xe_var 6))) (by omega)) xb_nil)) (fun h => by cases h)) xb_nil, (by repeat (first | exact LessS.nil | apply LessS.keep | apply LessS.drop))⟩
    · rw [if_neg hle] at est
      rw [est]
      exact ⟨_, _, rfl, xb_cons (xs_if (c := false) (xt_cmp (opE o_le (decide_eq_false hle)) (xe_var 5) (xe_var 2)) (fun h => by cases h) (fun _ => xb_nil)) xb_nil, (by repeat (first | exact LessS.nil | apply LessS.keep | apply LessS.drop))⟩
theorem d_needed_at : Df P w K mg base (L2.CX P w) 6 "needed_at" 3 (fun ds r => ∃ dc dh dv, dc.okS = true ∧ dh.okS = true ∧ dv.noS = true ∧ ds = [dc, dh, dv] ∧ r = resA (hoE K dc dh dv)) :=
  Df.mk' Z.f_needed_at sc_needed_at (fun _ _ _ _ _ _ us hl => match us, hl with | [_, _, _], _ => rfl) fun f cdv A outer s H E ds r hr hn hR => by
    obtain ⟨dc, dh, dv, h1, h2, h3, rfl, rfl⟩ := hR
    unfold hoE
    cases q : heapE (CC K) (HH K) dc dh with
    | some e => exact ⟨.ex _, rfl, xb_stop (xs_exprZ (xz_call (d_check_heap Z) (takes_of rfl rfl rfl rfl) hr (xa_cons (xe_var 0) (xa_cons (xe_var 1) xa_nil)) ⟨dc, dh, h1, h2, rfl, (congrArg resE q).symm⟩)) trivial⟩
    | none =>
      cases q2 : msgE (NN K) (isFT dv 1 1000000) with
      | some e => exact ⟨.ex _, rfl, xb_cons (xs_expr (xe_call (d_check_heap Z) passL hr (xa_cons (xe_var 0) (xa_cons (xe_var 1) xa_nil)) ⟨dc, dh, h1, h2, rfl, (congrArg resE q).symm⟩)) (xb_stop (xs_exprZ (xz_call (d_check_hold Z) (takes_of rfl rfl rfl rfl) (hr.mono (by decide)) (xa_cons (xe_var 2) xa_nil) ⟨dv, h3, rfl, (congrArg resE q2).symm⟩)) trivial)⟩
      | none =>
        obtain ⟨c, h, rfl, rfl, hc, hh⟩ := heapE_none q
        obtain ⟨n, rfl, hn1, hn2⟩ := isFT_inv (msgE_none q2)
        exact ⟨.rt _, trivial, xb_cons (xs_expr (xe_call (d_check_heap Z) passL hr (xa_cons (xe_var 0) (xa_cons (xe_var 1) xa_nil)) ⟨_, _, h1, h2, rfl, (congrArg resE q).symm⟩)) (xb_cons (xs_expr (xe_call (d_check_hold Z) passL (hr.mono (by decide)) (xa_cons (xe_var 2) xa_nil) ⟨_, h3, rfl, (congrArg resE q2).symm⟩))
          (xb_stop (xs_ret (xe_call (d_needed_list Z) passL (hr.mono (by decide)) (xa_cons (xe_var 0) (xa_cons (xe_var 1) (xa_cons (xe_var 2) xa_nil))) ⟨c, h, n, hc, hh, hn1, hn2, rfl, rfl⟩)) trivial))⟩
theorem d_count_of : Df P w K mg base (L2.CX P w) 4 "count_of" 3 (fun ds r => ∃ c h, ∃ cc : Int, Chn c ∧ Hep c h ∧ 1 ≤ cc ∧ cc ≤ 1000000 ∧ ds = [dI c, dI h, .int cc] ∧ r = .ok (.int (countOf c h cc))) :=
  Df.mk' Z.f_count_of sc_count_of (fun _ _ _ _ _ _ us hl => match us, hl with | [_, _, _], _ => rfl) fun f cdv A outer s H E ds r hr hn hR => by
    obtain ⟨c, h, cc, hc, hh, h1, h2, rfl, rfl⟩ := hR
    have l8 := hc.len8
    have hnl := neededAt_len (c := c) (h := h) (cc := cc) c.length
    have hg := maxD_ge (needed c h cc) 0
    exact ⟨.rt _, rfl, xb_stop (xs_ret (xe_callB (c_max (ns := 0 :: needed c h cc) (m := countOf c h cc) (maxD_mem _ 0) (fun y hy => (by
      rcases List.mem_cons.mp hy with rfl | hy
      · exact hg.1
      · exact hg.2 y hy))) Z.b_max boot_max (xa_cons (xe_op (o_cat (ds := [.int 0]) (es := (needed c h cc).map Dt.int) (by rw [List.length_map]; show 1 + (neededAt c h cc c.length).length ≤ 1000; omega)) (xe_lst (xa_cons xe_int xa_nil)) (xe_call (d_needed_list Z) passL hr (xa_cons (xe_var 0) (xa_cons (xe_var 1) (xa_cons (xe_var 2) xa_nil))) ⟨c, h, cc, hc, hh, h1, h2, rfl, rfl⟩)) xa_nil))) trivial⟩
theorem d_fewest_boxes : Df P w K mg base (L2.CX P w) 6 "fewest_boxes" 3 (fun ds r => ∃ dc dh dv, dc.okS = true ∧ dh.okS = true ∧ dv.noS = true ∧ ds = [dc, dh, dv] ∧ r = resA (hoE K dc dh dv)) :=
  Df.mk' Z.f_fewest_boxes sc_fewest_boxes (fun _ _ _ _ _ _ us hl => match us, hl with | [_, _, _], _ => rfl) fun f cdv A outer s H E ds r hr hn hR => by
    obtain ⟨dc, dh, dv, h1, h2, h3, rfl, rfl⟩ := hR
    unfold hoE
    cases q : heapE (CC K) (HH K) dc dh with
    | some e => exact ⟨.ex _, rfl, xb_stop (xs_exprZ (xz_call (d_check_heap Z) (takes_of rfl rfl rfl rfl) hr (xa_cons (xe_var 0) (xa_cons (xe_var 1) xa_nil)) ⟨dc, dh, h1, h2, rfl, (congrArg resE q).symm⟩)) trivial⟩
    | none =>
      cases q2 : msgE (NN K) (isFT dv 1 1000000) with
      | some e => exact ⟨.ex _, rfl, xb_cons (xs_expr (xe_call (d_check_heap Z) passL hr (xa_cons (xe_var 0) (xa_cons (xe_var 1) xa_nil)) ⟨dc, dh, h1, h2, rfl, (congrArg resE q).symm⟩)) (xb_stop (xs_exprZ (xz_call (d_check_hold Z) (takes_of rfl rfl rfl rfl) (hr.mono (by decide)) (xa_cons (xe_var 2) xa_nil) ⟨dv, h3, rfl, (congrArg resE q2).symm⟩)) trivial)⟩
      | none =>
        obtain ⟨c, h, rfl, rfl, hc, hh⟩ := heapE_none q
        obtain ⟨n, rfl, hn1, hn2⟩ := isFT_inv (msgE_none q2)
        cases qt : isNon (tooD c h n) with
        | true => exact ⟨.rt (.int (countOf c h n)), trivial, xb_cons (xs_expr (xe_call (d_check_heap Z) passL hr (xa_cons (xe_var 0) (xa_cons (xe_var 1) xa_nil)) ⟨_, _, h1, h2, rfl, (congrArg resE q).symm⟩)) (xb_cons (xs_expr (xe_call (d_check_hold Z) passL (hr.mono (by decide)) (xa_cons (xe_var 2) xa_nil) ⟨_, h3, rfl, (congrArg resE q2).symm⟩))
          (xb_stop (xs_ret (xe_if (c := false) (xt_cmp (opE o_notN (by rw [qt]; rfl)) (xe_call (d_too_great Z) passL (hr.mono (by decide)) (xa_cons (xe_var 0) (xa_cons (xe_var 1) (xa_cons (xe_var 2) xa_nil))) ⟨c, h, n, hc, hh, rfl, rfl⟩) xe_non) (fun h => by cases h) (fun _ => xe_call (d_count_of Z) passL (hr.mono (by decide)) (xa_cons (xe_var 0) (xa_cons (xe_var 1) (xa_cons (xe_var 2) xa_nil))) ⟨c, h, n, hc, hh, hn1, hn2, rfl, rfl⟩))) trivial))⟩
        | false => exact ⟨.rt .non, trivial, xb_cons (xs_expr (xe_call (d_check_heap Z) passL hr (xa_cons (xe_var 0) (xa_cons (xe_var 1) xa_nil)) ⟨_, _, h1, h2, rfl, (congrArg resE q).symm⟩)) (xb_cons (xs_expr (xe_call (d_check_hold Z) passL (hr.mono (by decide)) (xa_cons (xe_var 2) xa_nil) ⟨_, h3, rfl, (congrArg resE q2).symm⟩))
          (xb_stop (xs_ret (xe_if (c := true) (xt_cmp (opE o_notN (by rw [qt]; rfl)) (xe_call (d_too_great Z) passL (hr.mono (by decide)) (xa_cons (xe_var 0) (xa_cons (xe_var 1) (xa_cons (xe_var 2) xa_nil))) ⟨c, h, n, hc, hh, rfl, rfl⟩) xe_non) (fun _ => xe_non) (fun h => by cases h))) trivial))⟩
theorem d_answer_like : Df P w K mg base (L2.CX P w) 6 "answer_like" 3 (fun ds r => ∃ dc dh dv, dc.okS = true ∧ dh.okS = true ∧ dv.noS = true ∧ ds = [dc, dh, dv] ∧ r = resA (hoE K dc dh dv)) :=
  Df.mk' Z.f_answer_like sc_answer_like (fun _ _ _ _ _ _ us hl => match us, hl with | [_, _, _], _ => rfl) fun f cdv A outer s H E ds r hr hn hR => by
    obtain ⟨dc, dh, dv, h1, h2, h3, rfl, rfl⟩ := hR
    have nd := sc_answer_like.nd
    unfold hoE
    cases q : heapE (CC K) (HH K) dc dh with
    | some e => exact ⟨.ex _, rfl, xb_stop (xs_exprZ (xz_call (d_check_heap Z) (takes_of rfl rfl rfl rfl) hr (xa_cons (xe_var 0) (xa_cons (xe_var 1) xa_nil)) ⟨dc, dh, h1, h2, rfl, (congrArg resE q).symm⟩)) trivial⟩
    | none =>
      cases q2 : msgE (NN K) (isFT dv 1 1000000) with
      | some e => exact ⟨.ex _, rfl, xb_cons (xs_expr (xe_call (d_check_heap Z) passL hr (xa_cons (xe_var 0) (xa_cons (xe_var 1) xa_nil)) ⟨dc, dh, h1, h2, rfl, (congrArg resE q).symm⟩)) (xb_stop (xs_exprZ (xz_call (d_check_hold Z) (takes_of rfl rfl rfl rfl) (hr.mono (by decide)) (xa_cons (xe_var 2) xa_nil) ⟨dv, h3, rfl, (congrArg resE q2).symm⟩)) trivial)⟩
      | none =>
        obtain ⟨c, h, rfl, rfl, hc, hh⟩ := heapE_none q
        obtain ⟨n, rfl, hn1, hn2⟩ := isFT_inv (msgE_none q2)
        have pre := fun {O : Out} => fun (a : Xb (cxOf (L2.CX P w) P w K mg base ["chain", "heap", "c", "great", "count", "rows", "shown"] "answer" (defScope s_answer_like) f cdv A outer s H E) E ((defBody s_answer_like).drop 3) [some (.sh (dI c)), some (.sh (dI h)), some (.sh (.int n)), some (.sh (tooD c h n)), none, none, none] [] O) =>
          (xb_cons (xs_expr (xe_call (d_check_heap Z) passL hr (xa_cons (xe_var 0) (xa_cons (xe_var 1) xa_nil)) ⟨_, _, h1, h2, rfl, (congrArg resE q).symm⟩)) (xb_cons (xs_expr (xe_call (d_check_hold Z) passL (hr.mono (by decide)) (xa_cons (xe_var 2) xa_nil) ⟨_, h3, rfl, (congrArg resE q2).symm⟩))
            (xb_cons (xs_sh (i := 3) (d := tooD c h n) nd (xe_call (d_too_great Z) passL (hr.mono (by decide)) (xa_cons (xe_var 0) (xa_cons (xe_var 1) (xa_cons (xe_var 2) xa_nil))) ⟨c, h, n, hc, hh, rfl, rfl⟩)) a)) : Xb (cxOf (L2.CX P w) P w K mg base ["chain", "heap", "c", "great", "count", "rows", "shown"] "answer" (defScope s_answer_like) f cdv A outer s H E) E (defBody s_answer_like) (argS 7 [dI c, dI h, .int n]) [] O)
        cases qt : (tooL c h n).getLast? with
        | some v =>
          have et : tooD c h n = .int v := by unfold tooD; rw [qt]
          rw [et] at pre
          exact ⟨.rt _, trivial, pre (xb_stop (xs_if (c := true) (xt_cmp (o_notN (d := .int v)) (xe_var 3) xe_non) (fun _ => xb_stop (xs_ret (xe_tup (xa_cons xe_str (xa_cons (xe_var 3) xa_nil)))) trivial) (fun h => by cases h)) trivial)⟩
        | none =>
          have et : tooD c h n = .non := by unfold tooD; rw [qt]
          have e0 : tooL c h n = [] := List.getLast?_eq_none_iff.mp qt
          obtain ⟨k0, k1⟩ := count_le hc hh hn1 e0
          rw [et] at pre
          have pre2 := fun {O : Out} => fun (a : Xb (cxOf (L2.CX P w) P w K mg base ["chain", "heap", "c", "great", "count", "rows", "shown"] "answer" (defScope s_answer_like) f cdv A outer s H E) E ((defBody s_answer_like).drop 6) [some (.sh (dI c)), some (.sh (dI h)), some (.sh (.int n)), some (.sh .non), some (.sh (.int (countOf c h n))), some (.sh (.lst ((housePay c h (List.replicate (countOf c h n).toNat n)).map dI))), none] [] O) =>
            pre (xb_cons (xs_if (c := false) (xt_cmp (o_notN (d := .non)) (xe_var 3) xe_non) (fun h => by cases h) (fun _ => xb_nil))
              (xb_cons (xs_flat (i := 4) (d := .int (countOf c h n)) nd (xe_call (d_count_of Z) passL (hr.mono (by decide)) (xa_cons (xe_var 0) (xa_cons (xe_var 1) (xa_cons (xe_var 2) xa_nil))) ⟨c, h, n, hc, hh, hn1, hn2, rfl, rfl⟩))
              (xb_cons (xs_sh (i := 5) (d := .lst ((housePay c h (List.replicate (countOf c h n).toNat n)).map dI)) nd (xe_call (d_house_load Z) passL (hr.mono (by decide)) (xa_cons (xe_var 0) (xa_cons (xe_var 1) (xa_cons (xe_op (o_repL k0 (by omega)) (xe_lst (xa_cons (xe_var 2) xa_nil)) (xe_var 4)) xa_nil))) ⟨c, h, _, hc, hh, by rw [List.length_replicate]; omega, rfl, rfl⟩)) a)))
          by_cases hp : 0 < countOf c h n
          · exact ⟨.rt _, trivial, pre2 (xb_cons (xs_sh (i := 6) (d := .int (ixO (needed c h n) (countOf c h n))) nd (xe_if (c := true) (xt_cmp (opE o_gt (decide_eq_true hp)) (xe_var 4) xe_int) (fun _ => xe_index (xe_call (d_needed_list Z) passL (hr.mono (by decide)) (xa_cons (xe_var 0) (xa_cons (xe_var 1) (xa_cons (xe_var 2) xa_nil))) ⟨c, h, n, hc, hh, hn1, hn2, rfl, rfl⟩) (xe_var 4) (count_in hp)) (fun h => by cases h)))
              (xb_stop (xs_ret (xe_tup (xa_cons xe_str (xa_cons (xe_var 4) (xa_cons (xe_var 5) (xa_cons (xe_var 6) xa_nil)))))) trivial))⟩
          · exact ⟨.rt _, trivial, pre2 (xb_cons (xs_sh (i := 6) (d := .non) nd (xe_if (c := false) (xt_cmp (opE o_gt (decide_eq_false hp)) (xe_var 4) xe_int) (fun h => by cases h) (fun _ => xe_non)))
              (xb_stop (xs_ret (xe_tup (xa_cons xe_str (xa_cons (xe_var 4) (xa_cons (xe_var 5) (xa_cons (xe_var 6) xa_nil)))))) trivial))⟩
end
end Pa
namespace Pa
open PySem PySem.Spec PyProof.Rows L2
theorem WhileS.ind {X : Cx} {E : XK} {t : Expr} {body : List Stmt} (I : Nat → Ss → Om → Out → Prop) (step : ∀ f δ ω O, I f δ ω O → (Xt X t (view ω δ) false ∧ O = .nx δ ω) ∨ (∃ f' δ2 δ3 ω2, f = f' + 1 ∧ Xt X t (view ω δ) true ∧ Xb X E body δ ω (.nx δ2 ω2) ∧ LessS δ2 δ3 ∧ I f' δ3 ω2 O)) :
    ∀ f δ ω O, I f δ ω O → WhileS X E t body f δ ω O
  | 0, δ, ω, O, h => by
    rcases step 0 δ ω O h with ⟨a, rfl⟩ | ⟨f', δ2, δ3, ω2, e, _⟩
    · exact .done a
    · cases e
  | f + 1, δ, ω, O, h => by
    rcases step (f + 1) δ ω O h with ⟨a, rfl⟩ | ⟨f', δ2, δ3, ω2, e, a, b, l, i⟩
    · exact .done a
    · cases e
      exact .step a b l (WhileS.ind I step f δ3 ω2 O i)
abbrev XbE (X : Cx) (E : XK) (sts : List Stmt) (δ : Ss) (ω : Om) (Q : Out → Prop) : Prop := ∃ O, Q O ∧ Xb X E sts δ ω O
section
variable {X : Cx} {E : XK} {δ δ1 : Ss} {ω ω1 : Om} {Q : Out → Prop} {st : Stmt} {rest : List Stmt} {pos : Pos}
theorem xbE_nil (h : Q (.nx δ ω)) : XbE X E [] δ ω Q := ⟨_, h, xb_nil⟩
theorem xbE_cons (h1 : Xs X E st δ ω (.nx δ1 ω1)) (h2 : XbE X E rest δ1 ω1 Q) : XbE X E (st :: rest) δ ω Q := by
  obtain ⟨O, q, b⟩ := h2
  exact ⟨O, q, xb_cons h1 b⟩
theorem xbE_ret {a : Expr} {d : Dt} (ha : Xe X a (view ω δ) d) (h : Q (.rt d)) : XbE X E (.Return (some a) pos :: rest) δ ω Q := ⟨.rt d, h, xb_stop (xs_ret ha) trivial⟩
/-- the end of a turn -/
def Turn1 (I : Ss → Om → Prop) (O : Out) : Prop := ∃ δ2 ω2 δ3, O = .nx δ2 ω2 ∧ LessS δ2 δ3 ∧ I δ3 ω2
theorem xbE_for {tg iter : Expr} {body : List Stmt} {ds : List Dt} (t : Tg) (I : Ss → Om → Prop) (P : Dt → Prop) (hp : PassesOwn (model X.prog X.w) X.A X.env X.xe) (hi : Xi X tg iter (still δ) ds) (hg : Xg X tg t) (hP : ∀ d ∈ ds, P d) (i0 : I δ ω)
    (step : ∀ d δ ω, P d → I δ ω → ∃ δ1, t.putS d δ = some δ1 ∧ XbE X E body δ1 ω (Turn1 I)) (cont : ∀ δ' ω', I δ' ω' → XbE X E rest δ' ω' Q) (hc : X.calm = true := by rfl) (hs : ∀ x, foldedSetIterable iter X.env x = pure x := by intro _; rfl) :
    XbE X E (.For tg iter body [] pos :: rest) δ ω Q := by
  obtain ⟨δ', ω', l, i⟩ := LoopS.ex (X := X) (E := E) (t := t) (body := body) I P (fun d δ ω hd hi => by
    obtain ⟨δ1, a, O, ⟨δ2, ω2, δ3, rfl, b, c⟩, d⟩ := step d δ ω hd hi
    exact ⟨δ1, δ2, δ3, ω2, a, d, b, c⟩) ds δ ω hP i0
  exact xbE_cons (xs_for t hp hi hg l hc hs) (cont δ' ω' i)
end
def holdM (c h : List Int) (n : Int) : Nat → Int → Int → Int
  | 0, _, m => m
  | f + 1, l, m => if l < m then (if (lastFull c h (List.replicate n.toNat ((l + m) / 2)) c.length).isNone = true then holdM c h n f l ((l + m) / 2) else holdM c h n f ((l + m) / 2 + 1) m) else m
theorem isNon_full {c h bs : List Int} {o : Option Nat} : isNon (fullD c h bs o) = o.isNone := by cases o <;> rfl
theorem dn_mem : ∀ {n : Nat} {x : Int}, x ∈ (rngD n fun i => (n : Int) - 1 + (i : Int) * -1) → 0 ≤ x ∧ x < n := fun {n x} h => by
  obtain ⟨i, hi, rfl⟩ := rngD_mem h
  omega
theorem sharedD_tag2 (c h : List Int) (n : Int) : ∃ tag rest, sharedD c h n = .tup (.str tag :: rest) ∧ decide (tag = "shares") = sharesB c h n := sharedD_tag c h n
end Pa
namespace Pa
open PySem PySem.Spec PyProof.Rows L2
def numbersD (c h : List Int) : List Int := (rngD 7 fun i => 2 + (i : Int)).filter (sharesB c h)
section
variable {P : Program} {w : World} {K : PySem.W.Frag} {mg : Str → Option Value} {base : Heap} (Z : Txt K mg)
include Z
theorem d_hold_for : Df P w K mg base (L2.CX P w) 4 "hold_for" 3 (fun ds r => ∃ c h, ∃ n : Int, Chn c ∧ Hep c h ∧ 1 ≤ n ∧ n ≤ 8 ∧ ds = [dI c, dI h, .int n] ∧ r = .ok (.int (holdOf c h n))) :=
  Df.mk' Z.f_hold_for sc_hold_for (fun _ _ _ _ _ _ us hl => match us, hl with | [_, _, _], _ => rfl) fun f cdv A outer s H E ds r hr hn hR => by
    obtain ⟨c, h, n, hc, hh, h1, h8, rfl, rfl⟩ := hR
    have nd := sc_hold_for.nd
    have l8 := hc.len8
    have hw0 := worth_nonneg hc hh
    refine ⟨.rt _, rfl, xb_cons (xs_flat (i := 3) (d := .int 0) nd xe_int) (xb_cons (xs_flat (i := 4) (d := .int (worth c h)) nd (xe_call (d_worth_of Z) passL (hr.mono (by decide)) (xa_cons (xe_var 0) (xa_cons (xe_var 1) xa_nil)) ⟨c, h, rfl, by omega, hc.small, rfl⟩))
      (xb_cons (xs_while (n := (worth c h).toNat) (passes_of rfl) (WhileS.ind (fun f δ ω O => ∃ l m : Int, 0 ≤ l ∧ l ≤ m ∧ m - l ≤ f ∧ δ = [some (.sh (dI c)), some (.sh (dI h)), some (.sh (.int n)), some (.sh (.int l)), some (.sh (.int m)), none] ∧ ω = [] ∧ O = .nx [some (.sh (dI c)), some (.sh (dI h)), some (.sh (.int n)), some (.sh (.int (holdF c h n f l m))), some (.sh (.int (holdM c h n f l m))), none] []) ?_ _ _ _ (.nx [some (.sh (dI c)), some (.sh (dI h)), some (.sh (.int n)), some (.sh (.int (holdOf c h n))), some (.sh (.int (holdM c h n (worth c h).toNat 0 (worth c h)))), none] []) ⟨0, worth c h, by omega, hw0, by omega, rfl, rfl, rfl⟩))
      (xb_stop (xs_ret (xe_var 3)) trivial)))⟩
    rintro f δ ω O ⟨l, m, hl0, hlm, hf, rfl, rfl, rfl⟩
    by_cases hlt : l < m
    · right
      obtain ⟨f', rfl⟩ : ∃ f', f = f' + 1 := ⟨f - 1, by omega⟩
      have e1 : holdF c h n (f' + 1) l m = (if (lastFull c h (List.replicate n.toNat ((l + m) / 2)) c.length).isNone = true then holdF c h n f' l ((l + m) / 2) else holdF c h n f' ((l + m) / 2 + 1) m) := if_pos hlt
      have e2 : holdM c h n (f' + 1) l m = (if (lastFull c h (List.replicate n.toNat ((l + m) / 2)) c.length).isNone = true then holdM c h n f' l ((l + m) / 2) else holdM c h n f' ((l + m) / 2 + 1) m) := if_pos hlt
      have hmid1 : l ≤ (l + m) / 2 := by omega
      have hmid2 : (l + m) / 2 < m := by omega
      cases hq : (lastFull c h (List.replicate n.toNat ((l + m) / 2)) c.length).isNone with
      | true =>
        rw [hq, if_pos rfl] at e1 e2
        refine ⟨f', _, _, _, rfl, xt_cmp (opE o_lt (decide_eq_true hlt)) (xe_var 3) (xe_var 4), xb_cons (xs_flat (i := 5) (d := .int ((l + m) / 2)) nd (xe_op (o_div ⟨by decide, by decide⟩) (xe_op o_add (xe_var 3) (xe_var 4)) xe_int))
          (xb_cons (xs_if (c := true) (xt_cmp (opE o_isN (isNon_full.trans hq)) (xe_call (d_last_full Z) passL hr (xa_cons (xe_var 0) (xa_cons (xe_var 1) (xa_cons (xe_op (o_repL (by omega) (by omega)) (xe_lst (xa_cons (xe_var 5) xa_nil)) (xe_var 2)) xa_nil))) ⟨c, h, _, hc, hh, by rw [List.length_replicate]; omega, rfl, rfl⟩) xe_non) (fun _ => xb_cons (xs_flat (i := 4) (d := .int ((l + m) / 2)) nd (xe_var 5)) xb_nil) (fun h => by cases h)) xb_nil), (by repeat (first | exact LessS.nil | apply LessS.keep | apply LessS.drop)), ⟨l, (l + m) / 2, hl0, hmid1, by omega, rfl, rfl, by rw [e1, e2]⟩⟩
      | false =>
        rw [hq, if_neg Bool.false_ne_true] at e1 e2
        refine ⟨f', _, _, _, rfl, xt_cmp (opE o_lt (decide_eq_true hlt)) (xe_var 3) (xe_var 4), xb_cons (xs_flat (i := 5) (d := .int ((l + m) / 2)) nd (xe_op (o_div ⟨by decide, by decide⟩) (xe_op o_add (xe_var 3) (xe_var 4)) xe_int))
          (xb_cons (xs_if (c := false) (xt_cmp (opE o_isN (isNon_full.trans hq)) (xe_call (d_last_full Z) passL hr (xa_cons (xe_var 0) (xa_cons (xe_var 1) (xa_cons (xe_op (o_repL (by omega) (by omega)) (xe_lst (xa_cons (xe_var 5) xa_nil)) (xe_var 2)) xa_nil))) ⟨c, h, _, hc, hh, by rw [List.length_replicate]; omega, rfl, rfl⟩) xe_non) (fun h => by cases h) (fun _ => xb_cons (xs_flat (i := 3) (d := .int ((l + m) / 2 + 1)) nd (xe_op o_add (xe_var 5) xe_int)) xb_nil)) xb_nil), (by repeat (first | exact LessS.nil | apply LessS.keep | apply LessS.drop)), ⟨(l + m) / 2 + 1, m, by omega, by omega, by omega, rfl, rfl, by rw [e1, e2]⟩⟩
    · left
      have e1 : holdF c h n f l m = l := by cases f with
        | zero => rfl
        | succ f => exact if_neg hlt
      have e2 : holdM c h n f l m = m := by cases f with
        | zero => rfl
        | succ f => exact if_neg hlt
      exact ⟨xt_cmp (opE o_lt (decide_eq_false hlt)) (xe_var 3) (xe_var 4), by rw [e1, e2]⟩
theorem d_least_hold : Df P w K mg base (L2.CX P w) 6 "least_hold" 3 (fun ds r => ∃ dc dh dv, dc.okS = true ∧ dh.okS = true ∧ dv.noS = true ∧ ds = [dc, dh, dv] ∧ r = resA (coE K dc dh dv)) :=
  Df.mk' Z.f_least_hold sc_least_hold (fun _ _ _ _ _ _ us hl => match us, hl with | [_, _, _], _ => rfl) fun f cdv A outer s H E ds r hr hn hR => by
    obtain ⟨dc, dh, dv, h1, h2, h3, rfl, rfl⟩ := hR
    unfold coE
    cases q : heapE (CC K) (HH K) dc dh with
    | some e => exact ⟨.ex _, rfl, xb_stop (xs_exprZ (xz_call (d_check_heap Z) (takes_of rfl rfl rfl rfl) hr (xa_cons (xe_var 0) (xa_cons (xe_var 1) xa_nil)) ⟨dc, dh, h1, h2, rfl, (congrArg resE q).symm⟩)) trivial⟩
    | none =>
      cases q2 : msgE (NN K) (isFT dv 1 8) with
      | some e => exact ⟨.ex _, rfl, xb_cons (xs_expr (xe_call (d_check_heap Z) passL hr (xa_cons (xe_var 0) (xa_cons (xe_var 1) xa_nil)) ⟨dc, dh, h1, h2, rfl, (congrArg resE q).symm⟩)) (xb_stop (xs_exprZ (xz_call (d_check_count Z) (takes_of rfl rfl rfl rfl) (hr.mono (by decide)) (xa_cons (xe_var 2) xa_nil) ⟨dv, h3, rfl, (congrArg resE q2).symm⟩)) trivial)⟩
      | none =>
        obtain ⟨c, h, rfl, rfl, hc, hh⟩ := heapE_none q
        obtain ⟨n, rfl, hn1, hn2⟩ := isFT_inv (msgE_none q2)
        exact ⟨.rt _, trivial, xb_cons (xs_expr (xe_call (d_check_heap Z) passL hr (xa_cons (xe_var 0) (xa_cons (xe_var 1) xa_nil)) ⟨_, _, h1, h2, rfl, (congrArg resE q).symm⟩)) (xb_cons (xs_expr (xe_call (d_check_count Z) passL (hr.mono (by decide)) (xa_cons (xe_var 2) xa_nil) ⟨_, h3, rfl, (congrArg resE q2).symm⟩))
          (xb_stop (xs_ret (xe_call (d_hold_for Z) passL (hr.mono (by decide)) (xa_cons (xe_var 0) (xa_cons (xe_var 1) (xa_cons (xe_var 2) xa_nil))) ⟨c, h, n, hc, hh, hn1, hn2, rfl, rfl⟩)) trivial))⟩
theorem d_shared : Df P w K mg base (L2.CX P w) 6 "shared" 3 (fun ds r => ∃ c h, ∃ n : Int, Chn c ∧ Hep c h ∧ 2 ≤ n ∧ n ≤ 8 ∧ ds = [dI c, dI h, .int n] ∧ r = .ok (sharedD c h n)) :=
  Df.mk' Z.f_shared sc_shared (fun _ _ _ _ _ _ us hl => match us, hl with | [_, _, _], _ => rfl) fun f cdv A outer s H E ds r hr hn hR => by
    obtain ⟨c, h, n, hc, hh, h2, h8, rfl, rfl⟩ := hR
    have nd := sc_shared.nd
    have l8 := hc.len8
    unfold sharedD
    have hz : (evens c h n).length ≤ 1000 := by unfold evens; rw [List.length_replicate]; omega
    refine ⟨.rt _, rfl, xb_cons (xs_flat (i := 3) (d := .int (worth c h)) nd (xe_call (d_worth_of Z) passL (hr.mono (by decide)) (xa_cons (xe_var 0) (xa_cons (xe_var 1) xa_nil)) ⟨c, h, rfl, by omega, hc.small, rfl⟩)) ?_⟩
    by_cases hw : 0 < worth c h % n
    · rw [if_pos hw]
      exact xb_stop (xs_if (c := true) (xt_cmp (opE o_gt (decide_eq_true hw)) (xe_op (o_mod (by omega)) (xe_var 3) (xe_var 2)) xe_int) (fun _ => xb_stop (xs_ret (xe_tup (xa_cons xe_str (xa_cons (xe_op (o_mod (by omega)) (xe_var 3) (xe_var 2)) xa_nil)))) trivial) (fun h => by cases h)) trivial
    · rw [if_neg hw]
      refine xb_cons (xs_if (c := false) (xt_cmp (opE o_gt (decide_eq_false hw)) (xe_op (o_mod (by omega)) (xe_var 3) (xe_var 2)) xe_int) (fun h => by cases h) (fun _ => xb_nil)) (xb_cons (xs_sh (i := 4) (d := toldD c h (evens c h n)) nd (xe_call (d_told_answer Z) passL hr (xa_cons (xe_var 0) (xa_cons (xe_var 1) (xa_cons (xe_op (o_repI (by omega) (by omega)) (xe_lst (xa_cons (xe_op (o_div ⟨by omega, by omega⟩) (xe_var 3) (xe_var 2)) xa_nil)) (xe_var 2)) xa_nil))) ⟨c, h, evens c h n, hc, hh, hz, rfl, rfl⟩)) ?_)
      unfold toldD
      cases firstLack c h (evens c h n) with
      | none =>
        exact xb_stop (xs_ret (xe_if (c := true) (xt_cmp (o_eqS (i := "payments") (c := true)) (xe_ix i_tup0 (xe_var 4) xe_int) xe_str) (fun _ => xe_tup (xa_cons xe_str (xa_cons (xe_ix i_tup1 (xe_var 4) xe_int) xa_nil))) (fun h => by cases h))) trivial
      | some k =>
        exact xb_stop (xs_ret (xe_if (c := false) (xt_cmp (o_eqS (i := "value") (c := false)) (xe_ix i_tup0 (xe_var 4) xe_int) xe_str) (fun h => by cases h) (fun _ => xe_var 4))) trivial
theorem d_answer_shares : Df P w K mg base (L2.CX P w) 7 "answer_shares" 3 (fun ds r => ∃ dc dh dv, dc.okS = true ∧ dh.okS = true ∧ dv.noS = true ∧ ds = [dc, dh, dv] ∧ ((∃ e, shaE K dc dh dv = some e ∧ r = .er e) ∨ (∃ c h, ∃ n : Int, dc = dI c ∧ dh = dI h ∧ dv = .int n ∧ shaE K dc dh dv = none ∧ Chn c ∧ Hep c h ∧ 2 ≤ n ∧ n ≤ 8 ∧ r = .ok (sharedD c h n)))) :=
  Df.mk' Z.f_answer_shares sc_answer_shares (fun _ _ _ _ _ _ us hl => match us, hl with | [_, _, _], _ => rfl) fun f cdv A outer s H E ds r hr hn hR => by
    obtain ⟨dc, dh, dv, h1, h2, h3, rfl, ⟨e, q, rfl⟩ | ⟨c, h, n, rfl, rfl, rfl, q, hc, hh, hn1, hn2, rfl⟩⟩ := hR
    · exact ⟨.ex _, rfl, xb_stop (xs_exprZ (xz_call (d_check_sharing Z) (takes_of rfl rfl rfl rfl) hr (xa_cons (xe_var 0) (xa_cons (xe_var 1) (xa_cons (xe_var 2) xa_nil))) ⟨dc, dh, dv, h1, h2, h3, rfl, (congrArg resE q).symm⟩)) trivial⟩
    · exact ⟨.rt _, rfl, xb_cons (xs_expr (xe_call (d_check_sharing Z) passL hr (xa_cons (xe_var 0) (xa_cons (xe_var 1) (xa_cons (xe_var 2) xa_nil))) ⟨_, _, _, h1, h2, h3, rfl, (congrArg resE q).symm⟩))
        (xb_stop (xs_ret (xe_call (d_shared Z) passL hr (xa_cons (xe_var 0) (xa_cons (xe_var 1) (xa_cons (xe_var 2) xa_nil))) ⟨c, h, n, hc, hh, hn1, hn2, rfl, rfl⟩)) trivial)⟩
theorem d_can_share : Df P w K mg base (L2.CX P w) 8 "can_share" 3 (fun ds r => ∃ dc dh dv, dc.okS = true ∧ dh.okS = true ∧ dv.noS = true ∧ ds = [dc, dh, dv] ∧ r = resA (shaE K dc dh dv)) :=
  Df.mk' Z.f_can_share sc_can_share (fun _ _ _ _ _ _ us hl => match us, hl with | [_, _, _], _ => rfl) fun f cdv A outer s H E ds r hr hn hR => by
    obtain ⟨dc, dh, dv, h1, h2, h3, rfl, rfl⟩ := hR
    cases q : shaE K dc dh dv with
    | some e => exact ⟨.ex _, rfl, xb_stop (xs_retZ (xz_cmpL (xz_ixL (xz_call (d_answer_shares Z) (takes_of rfl rfl rfl rfl) hr (xa_cons (xe_var 0) (xa_cons (xe_var 1) (xa_cons (xe_var 2) xa_nil))) ⟨dc, dh, dv, h1, h2, h3, rfl, .inl ⟨e, q, rfl⟩⟩)))) trivial⟩
    | none =>
      obtain ⟨c, h, n, rfl, rfl, rfl, hc, hh, hn1, hn2⟩ := numE_none q
      obtain ⟨tag, rest, e1, e2⟩ := sharedD_tag c h n
      exact ⟨.rt _, trivial, xb_stop (xs_ret (xe_cmp (o_eqS e2) (xe_ix (i_tup0 (ds := rest)) (xe_call (d_answer_shares Z) passL hr (xa_cons (xe_var 0) (xa_cons (xe_var 1) (xa_cons (xe_var 2) xa_nil))) ⟨_, _, _, h1, h2, h3, rfl, .inr ⟨c, h, n, rfl, rfl, rfl, q, hc, hh, hn1, hn2, by rw [e1]⟩⟩) xe_int) xe_str)) trivial⟩
theorem d_least_greatest : Df P w K mg base (L2.CX P w) 7 "least_greatest" 3 (fun ds r => ∃ dc dh dv, dc.okS = true ∧ dh.okS = true ∧ dv.noS = true ∧ ds = [dc, dh, dv] ∧ r = resA (shaE K dc dh dv)) :=
  Df.mk' Z.f_least_greatest sc_least_greatest (fun _ _ _ _ _ _ us hl => match us, hl with | [_, _, _], _ => rfl) fun f cdv A outer s H E ds r hr hn hR => by
    obtain ⟨dc, dh, dv, h1, h2, h3, rfl, rfl⟩ := hR
    cases q : shaE K dc dh dv with
    | some e => exact ⟨.ex _, rfl, xb_stop (xs_exprZ (xz_call (d_check_sharing Z) (takes_of rfl rfl rfl rfl) hr (xa_cons (xe_var 0) (xa_cons (xe_var 1) (xa_cons (xe_var 2) xa_nil))) ⟨dc, dh, dv, h1, h2, h3, rfl, (congrArg resE q).symm⟩)) trivial⟩
    | none =>
      obtain ⟨c, h, n, rfl, rfl, rfl, hc, hh, hn1, hn2⟩ := numE_none q
      exact ⟨.rt _, trivial, xb_cons (xs_expr (xe_call (d_check_sharing Z) passL hr (xa_cons (xe_var 0) (xa_cons (xe_var 1) (xa_cons (xe_var 2) xa_nil))) ⟨_, _, _, h1, h2, h3, rfl, (congrArg resE q).symm⟩))
        (xb_stop (xs_ret (xe_call (d_hold_for Z) passL (hr.mono (by decide)) (xa_cons (xe_var 0) (xa_cons (xe_var 1) (xa_cons (xe_var 2) xa_nil))) ⟨c, h, n, hc, hh, by omega, hn2, rfl, rfl⟩)) trivial)⟩
theorem d_levelled : Df P w K mg base (L2.CX P w) 7 "levelled" 3 (fun ds r => ∃ dc dh dv, dc.okS = true ∧ dh.okS = true ∧ dv.noS = true ∧ ds = [dc, dh, dv] ∧ r = resA (shaE K dc dh dv)) :=
  Df.mk' Z.f_levelled sc_levelled (fun _ _ _ _ _ _ us hl => match us, hl with | [_, _, _], _ => rfl) fun f cdv A outer s H E ds r hr hn hR => by
    obtain ⟨dc, dh, dv, h1, h2, h3, rfl, rfl⟩ := hR
    cases q : shaE K dc dh dv with
    | some e => exact ⟨.ex _, rfl, xb_stop (xs_exprZ (xz_call (d_check_sharing Z) (takes_of rfl rfl rfl rfl) hr (xa_cons (xe_var 0) (xa_cons (xe_var 1) (xa_cons (xe_var 2) xa_nil))) ⟨dc, dh, dv, h1, h2, h3, rfl, (congrArg resE q).symm⟩)) trivial⟩
    | none =>
      obtain ⟨c, h, n, rfl, rfl, rfl, hc, hh, hn1, hn2⟩ := numE_none q
      exact ⟨.rt _, trivial, xb_cons (xs_expr (xe_call (d_check_sharing Z) passL hr (xa_cons (xe_var 0) (xa_cons (xe_var 1) (xa_cons (xe_var 2) xa_nil))) ⟨_, _, _, h1, h2, h3, rfl, (congrArg resE q).symm⟩))
        (xb_stop (xs_ret (xe_call (d_house_load Z) passL (hr.mono (by decide)) (xa_cons (xe_var 0) (xa_cons (xe_var 1) (xa_cons (xe_op (o_repL (x := holdOf c h n) (n := n) (by omega) (by omega)) (xe_lst (xa_cons (xe_call (d_hold_for Z) passL (hr.mono (by decide)) (xa_cons (xe_var 0) (xa_cons (xe_var 1) (xa_cons (xe_var 2) xa_nil))) ⟨c, h, n, hc, hh, by omega, hn2, rfl, rfl⟩) xa_nil)) (xe_var 2)) xa_nil))) ⟨c, h, _, hc, hh, by rw [List.length_replicate]; omega, rfl, rfl⟩)) trivial)⟩
theorem d_neediest : Df P w K mg base (L2.CX P w) 1 "neediest" 1 (fun ds r => ∃ a, ∃ ns : List Int, ds = [dI (a :: ns)] ∧ r = .ok (.int (ixO (a :: ns) (minD a ns)))) :=
  Df.mk' Z.f_neediest sc_neediest (fun _ _ _ _ _ _ us hl => match us, hl with | [_], _ => rfl) fun f cdv A outer s H E ds r hr hn hR => by
    obtain ⟨a, ns, rfl, rfl⟩ := hR
    have hg := minD_le ns a
    exact ⟨.rt _, rfl, xb_stop (xs_ret (xe_index (xe_var 0) (xe_callB (c_min (ns := a :: ns) (m := minD a ns) (minD_mem ns a) (fun y hy => by
      rcases List.mem_cons.mp hy with rfl | hy
      · exact hg.1
      · exact hg.2 y hy)) Z.b_min boot_min (xa_cons (xe_var 0) xa_nil)) (minD_mem ns a))) trivial⟩
theorem d_by_turns : Df P w K mg base (L2.CX P w) 7 "by_turns" 3 (fun ds r => ∃ dc dh dv, dc.okS = true ∧ dh.okS = true ∧ dv.noS = true ∧ ds = [dc, dh, dv] ∧ r = resA (shaE K dc dh dv)) :=
  Df.mk' Z.f_by_turns sc_by_turns (fun _ _ _ _ _ _ us hl => match us, hl with | [_, _, _], _ => rfl) fun f cdv A outer s H E ds r hr hn hR => by
    obtain ⟨dc, dh, dv, h1, h2, h3, rfl, rfl⟩ := hR
    have nd := sc_by_turns.nd
    cases q : shaE K dc dh dv with
    | some e => exact ⟨.ex _, rfl, xb_stop (xs_exprZ (xz_call (d_check_sharing Z) (takes_of rfl rfl rfl rfl) hr (xa_cons (xe_var 0) (xa_cons (xe_var 1) (xa_cons (xe_var 2) xa_nil))) ⟨dc, dh, dv, h1, h2, h3, rfl, (congrArg resE q).symm⟩)) trivial⟩
    | none =>
      obtain ⟨c, h, n, rfl, rfl, rfl, hc, hh, hn1, hn2⟩ := numE_none q
      have l8 := hc.len8
      have hhl := hh.len
      have en : ((c.length : Int) - 1 - (-1)).toNat = c.length := by omega
      refine xbE_cons (xs_expr (xe_call (d_check_sharing Z) passL hr (xa_cons (xe_var 0) (xa_cons (xe_var 1) (xa_cons (xe_var 2) xa_nil))) ⟨_, _, _, h1, h2, h3, rfl, (congrArg resE q).symm⟩))
        (xbE_cons (xs_lcR (i := 3) (rs := List.replicate n.toNat (List.replicate c.length 0)) [("_", 4)] (.one 4) nd (xi_range1 (n := n) Z.b_range (xa_cons (xe_var 2) xa_nil) (by omega) (by omega)) ⟨by rw [List.length_replicate, List.length_map, rngD_len], fun i d hd => ?_⟩ (by rw [List.length_map, rngD_len]; omega) (fun _ _ _ _ _ => xg_one nd))
        (xbE_cons (xs_flat (i := 5) (d := .int 0) nd xe_int)
        (xbE_for (.one 6) (fun δ ω => ∃ rs, ∃ t : Int, δ = [some (.sh (dI c)), some (.sh (dI h)), some (.sh (.int n)), some (.at_ 0), none, some (.sh (.int t)), none] ∧ ω = [.rows rs] ∧ rs.length = n.toNat ∧ (∀ r ∈ rs, r.length = c.length) ∧ 0 ≤ t) (fun d => ∃ k : Int, d = .int k ∧ 0 ≤ k ∧ k < c.length)
          (passes_of rfl) (xi_range3 (n := ((c.length : Int) - 1 - (-1)).toNat) Z.b_range (xa_cons (xe_op o_sub (xe_callB c_lenI Z.b_len boot_len (xa_cons (xe_var 0) xa_nil)) xe_int) (xa_cons (xe_un o_neg xe_int) (xa_cons (xe_un o_neg xe_int) xa_nil))) (RgC.neg (by omega) (by omega) (by omega) (by omega))) (xg_one nd) ?_ ⟨_, 0, rfl, rfl, List.length_replicate, ?_, Int.le_refl _⟩ ?_ ?_)))
      · have hi : i < n.toNat := by
          have := (List.getElem?_eq_some_iff.mp hd).1
          rwa [List.length_map, rngD_len] at this
        refine ⟨_, List.replicate c.length 0, rfl, by rw [List.getElem?_replicate, if_pos hi], fun s H C cl fp => ?_⟩
        have e : List.replicate c.length (0 : Int) = List.replicate ((c.length : Int)).toNat 0 := by rw [Int.toNat_natCast]
        rw [e]
        exact xn_rep (xe_lst (xa_cons xe_int xa_nil)) (xe_callB c_lenI Z.b_len boot_len (xa_cons (xe_var 0) xa_nil)) (by omega) (by omega)
      · intro d hd
        rw [en] at hd
        obtain ⟨k, hk, rfl⟩ := List.mem_map.mp hd
        obtain ⟨a, b⟩ := dn_mem hk
        exact ⟨k, rfl, a, b⟩
      · intro r hr'
        rw [(List.mem_replicate.mp hr').2, List.length_replicate]
      · rintro d δ ω ⟨k, rfl, hk0, hk1⟩ ⟨rs, t, rfl, rfl, hrl, hrr, ht⟩
        have hg := hh.rg _ (getD_mem (d := 0) (j := k.toNat) (by omega))
        refine ⟨_, rfl, xbE_for (.one 4) (fun δ ω => ∃ rs, ∃ t : Int, δ = [some (.sh (dI c)), some (.sh (dI h)), some (.sh (.int n)), some (.at_ 0), none, some (.sh (.int t)), some (.sh (.int k))] ∧ ω = [.rows rs] ∧ rs.length = n.toNat ∧ (∀ r ∈ rs, r.length = c.length) ∧ 0 ≤ t) (fun _ => True)
          (passes_of rfl) (xi_range1 Z.b_range (xa_cons (xe_ix (i_int (ns := h) hk0 (by omega)) (xe_var 1) (xe_var 6)) xa_nil) (by omega) (by omega)) (xg_one nd) (fun _ _ => trivial) ⟨rs, t, rfl, rfl, hrl, hrr, ht⟩ ?_ ?_⟩
        · rintro d δ ω _ ⟨rs, t, rfl, rfl, hrl, hrr, ht⟩
          have hm0 := Int.emod_nonneg t (show n ≠ 0 by omega)
          have hm1 := Int.emod_lt_of_pos t (show 0 < n by omega)
          have em : (t % n) = (((t % n).toNat : Nat) : Int) := by omega
          have hj : (t % n).toNat < rs.length := by omega
          have hrow := hrr _ (getD_mem (d := []) hj)
          cases d <;> exact ⟨_, rfl, xbE_cons (xs_augix ip_add (v := 1) (y := .row 0 (t % n).toNat) (j := k) (ns := rs.getD (t % n).toNat []) (xr_row (xr_var 3) rfl (xeE (xe_op (o_mod (by omega)) (xe_var 5) (xe_var 2)) (congrArg Dt.int em)) hj) (getD_some hj) (xe_var 6) hk0 (by rw [hrow]; exact hk1) (by rw [hrow]; omega) xe_int)
            (xbE_cons (xs_aug (i := 5) ip_add nd xe_int) (xbE_nil ⟨_, _, _, rfl, (by repeat (first | exact LessS.nil | apply LessS.keep | apply LessS.drop)), _, t + 1, rfl, rfl, by rw [List.length_set]; exact hrl, fun r hr' => (by
              rcases List.mem_or_eq_of_mem_set hr' with hr' | hr'
              · exact hrr r hr'
              · rw [hr', List.length_set]
                exact hrow), by omega⟩))⟩
        · rintro δ ω ⟨rs, t, rfl, rfl, hrl, hrr, ht⟩
          exact xbE_nil ⟨_, _, _, rfl, (by repeat (first | exact LessS.nil | apply LessS.keep | apply LessS.drop)), rs, t, rfl, rfl, hrl, hrr, ht⟩
      · rintro δ ω ⟨rs, t, rfl, rfl, hrl, hrr, ht⟩
        exact xbE_ret (d := .lst (rs.map dI)) (xe_var 3) trivial
end
end Pa
namespace Pa
open PySem PySem.Spec PyProof.Rows L2
section
variable {P : Program} {w : World} {K : PySem.W.Frag} {mg : Str → Option Value} {base : Heap} (Z : Txt K mg)
include Z
theorem d_by_need : Df P w K mg base (L2.CX P w) 7 "by_need" 3 (fun ds r => ∃ dc dh dv, dc.okS = true ∧ dh.okS = true ∧ dv.noS = true ∧ ds = [dc, dh, dv] ∧ r = resA (shaE K dc dh dv)) :=
  Df.mk' Z.f_by_need sc_by_need (fun _ _ _ _ _ _ us hl => match us, hl with | [_, _, _], _ => rfl) fun f cdv A outer s H E ds r hr hn hR => by
    obtain ⟨dc, dh, dv, h1, h2, h3, rfl, rfl⟩ := hR
    have nd := sc_by_need.nd
    cases q : shaE K dc dh dv with
    | some e => exact ⟨.ex _, rfl, xb_stop (xs_exprZ (xz_call (d_check_sharing Z) (takes_of rfl rfl rfl rfl) hr (xa_cons (xe_var 0) (xa_cons (xe_var 1) (xa_cons (xe_var 2) xa_nil))) ⟨dc, dh, dv, h1, h2, h3, rfl, (congrArg resE q).symm⟩)) trivial⟩
    | none =>
      obtain ⟨c, h, n, rfl, rfl, rfl, hc, hh, hn1, hn2⟩ := numE_none q
      have l8 := hc.len8
      have hhl := hh.len
      have en : ((c.length : Int) - 1 - (-1)).toNat = c.length := by omega
      refine xbE_cons (xs_expr (xe_call (d_check_sharing Z) passL hr (xa_cons (xe_var 0) (xa_cons (xe_var 1) (xa_cons (xe_var 2) xa_nil))) ⟨_, _, _, h1, h2, h3, rfl, (congrArg resE q).symm⟩))
        (xbE_cons (xs_lcR (i := 3) (rs := List.replicate n.toNat (List.replicate c.length 0)) [("_", 4)] (.one 4) nd (xi_range1 (n := n) Z.b_range (xa_cons (xe_var 2) xa_nil) (by omega) (by omega)) ⟨by rw [List.length_replicate, List.length_map, rngD_len], fun i d hd => ?_⟩ (by rw [List.length_map, rngD_len]; omega) (fun _ _ _ _ _ => xg_one nd))
        (xbE_cons (xs_new (i := 5) (c := .nums (List.replicate n.toNat 0)) nd (xn_rep (xe_lst (xa_cons xe_int xa_nil)) (xe_var 2) (by omega) (by omega)))
        (xbE_for (.one 6) (fun δ ω => ∃ rs ss, δ = [some (.sh (dI c)), some (.sh (dI h)), some (.sh (.int n)), some (.at_ 0), none, some (.at_ 1), none, none] ∧ ω = [.rows rs, .nums ss] ∧ rs.length = n.toNat ∧ (∀ r ∈ rs, r.length = c.length) ∧ ss.length = n.toNat) (fun d => ∃ k : Int, d = .int k ∧ 0 ≤ k ∧ k < c.length)
          (passes_of rfl) (xi_range3 (n := ((c.length : Int) - 1 - (-1)).toNat) Z.b_range (xa_cons (xe_op o_sub (xe_callB c_lenI Z.b_len boot_len (xa_cons (xe_var 0) xa_nil)) xe_int) (xa_cons (xe_un o_neg xe_int) (xa_cons (xe_un o_neg xe_int) xa_nil))) (RgC.neg (by omega) (by omega) (by omega) (by omega))) (xg_one nd) ?_ ⟨_, _, rfl, rfl, List.length_replicate, ?_, List.length_replicate⟩ ?_ ?_)))
      · have hi : i < n.toNat := by
          have := (List.getElem?_eq_some_iff.mp hd).1
          rwa [List.length_map, rngD_len] at this
        refine ⟨_, List.replicate c.length 0, rfl, by rw [List.getElem?_replicate, if_pos hi], fun s H C cl fp => ?_⟩
        have e : List.replicate c.length (0 : Int) = List.replicate ((c.length : Int)).toNat 0 := by rw [Int.toNat_natCast]
        rw [e]
        exact xn_rep (xe_lst (xa_cons xe_int xa_nil)) (xe_callB c_lenI Z.b_len boot_len (xa_cons (xe_var 0) xa_nil)) (by omega) (by omega)
      · intro d hd
        rw [en] at hd
        obtain ⟨k, hk, rfl⟩ := List.mem_map.mp hd
        obtain ⟨a, b⟩ := dn_mem hk
        exact ⟨k, rfl, a, b⟩
      · intro r hr'
        rw [(List.mem_replicate.mp hr').2, List.length_replicate]
      · rintro d δ ω ⟨k, rfl, hk0, hk1⟩ ⟨rs, ss, rfl, rfl, hrl, hrr, hsl⟩
        have hg := hh.rg _ (getD_mem (d := 0) (j := k.toNat) (by omega))
        have hv := hc.getD (k := k.toNat) (by omega)
        refine ⟨_, rfl, xbE_for (.one 4) (fun δ ω => ∃ rs ss, δ = [some (.sh (dI c)), some (.sh (dI h)), some (.sh (.int n)), some (.at_ 0), none, some (.at_ 1), some (.sh (.int k)), none] ∧ ω = [.rows rs, .nums ss] ∧ rs.length = n.toNat ∧ (∀ r ∈ rs, r.length = c.length) ∧ ss.length = n.toNat) (fun _ => True)
          (passes_of rfl) (xi_range1 Z.b_range (xa_cons (xe_ix (i_int (ns := h) hk0 (by omega)) (xe_var 1) (xe_var 6)) xa_nil) (by omega) (by omega)) (xg_one nd) (fun _ _ => trivial) ⟨rs, ss, rfl, rfl, hrl, hrr, hsl⟩ ?_ ?_⟩
        · rintro d δ ω _ ⟨rs, ss, rfl, rfl, hrl, hrr, hsl⟩
          obtain ⟨a, ns, rfl⟩ : ∃ a ns, ss = a :: ns := by
            cases ss with
            | nil => simp at hsl; omega
            | cons a ns => exact ⟨a, ns, rfl⟩
          have hix := ixO_lt (minD_mem ns a)
          generalize hp : ixO (a :: ns) (minD a ns) = p at *
          have hj : p < rs.length := by omega
          have hrow := hrr _ (getD_mem (d := []) hj)
          cases d <;> exact ⟨_, rfl, xbE_cons (xs_flat (i := 7) (d := .int (p : Nat)) nd (xe_call (d_neediest Z) passL (hr.mono (by decide)) (xa_cons (xe_var 5) xa_nil) ⟨a, ns, rfl, by rw [hp]⟩))
            (xbE_cons (xs_augix ip_add (v := 1) (y := .row 0 p) (j := k) (ns := rs.getD p []) (xr_row (xr_var 3) rfl (xe_var 7) hj) (getD_some hj) (xe_var 6) hk0 (by rw [hrow]; exact hk1) (by rw [hrow]; omega) xe_int)
            (xbE_cons (xs_augix ip_add (v := c.getD k.toNat 0) (y := .at_ 1) (j := (p : Nat)) (ns := a :: ns) (xr_var 5) rfl (xe_var 7) (by omega) (by omega) (by rw [hsl]; omega) (xe_ix (i_int (ns := c) hk0 hk1) (xe_var 0) (xe_var 6)))
              (xbE_nil ⟨_, _, _, rfl, (by repeat (first | exact LessS.nil | apply LessS.keep | apply LessS.drop)), _, _, rfl, rfl, by rw [List.length_set]; exact hrl, fun r hr' => (by
              rcases List.mem_or_eq_of_mem_set hr' with hr' | hr'
              · exact hrr r hr'
              · rw [hr', List.length_set]
                exact hrow), by rw [List.length_set]; exact hsl⟩)))⟩
        · rintro δ ω ⟨rs, ss, rfl, rfl, hrl, hrr, hsl⟩
          exact xbE_nil ⟨_, _, _, rfl, (by repeat (first | exact LessS.nil | apply LessS.keep | apply LessS.drop)), rs, ss, rfl, rfl, hrl, hrr, hsl⟩
      · rintro δ ω ⟨rs, ss, rfl, rfl, hrl, hrr, hsl⟩
        exact xbE_ret (d := .lst (rs.map dI)) (xe_var 3) trivial
theorem d_numbers : Df P w K mg base (L2.CX P w) 7 "numbers" 2 (fun ds r => ∃ dc dh, dc.okS = true ∧ dh.okS = true ∧ ds = [dc, dh] ∧ r = resA (heapE (CC K) (HH K) dc dh)) :=
  Df.mk' Z.f_numbers sc_numbers (fun _ _ _ _ _ _ us hl => match us, hl with | [_, _], _ => rfl) fun f cdv A outer s H E ds r hr hn hR => by
    obtain ⟨dc, dh, h1, h2, rfl, rfl⟩ := hR
    have nd := sc_numbers.nd
    cases q : heapE (CC K) (HH K) dc dh with
    | some e => exact ⟨.ex _, rfl, xb_stop (xs_exprZ (xz_call (d_check_heap Z) (takes_of rfl rfl rfl rfl) (hr.mono (by decide)) (xa_cons (xe_var 0) (xa_cons (xe_var 1) xa_nil)) ⟨dc, dh, h1, h2, rfl, (congrArg resE q).symm⟩)) trivial⟩
    | none =>
      obtain ⟨c, h, rfl, rfl, hc, hh⟩ := heapE_none q
      refine ⟨.rt _, trivial, xb_cons (xs_expr (xe_call (d_check_heap Z) passL (hr.mono (by decide)) (xa_cons (xe_var 0) (xa_cons (xe_var 1) xa_nil)) ⟨_, _, h1, h2, rfl, (congrArg resE q).symm⟩)) (xb_stop (xs_ret (xe_lc [("n", 2)] (.one 2) nd (xi_range2 Z.b_range (xa_cons (xe_glob Z.c_FEWEST) (xa_cons (xe_op o_add (xe_glob Z.c_MOST) xe_int) xa_nil)) (by omega))
        (comp_intsF (p := sharesB c h) (f := id) fun n hn s H C cl fp => ⟨?_, fun _ => xe_var 2⟩) (by rw [List.length_map, rngD_len]; decide) (fun _ _ _ _ _ => xg_one nd))) trivial)⟩
      obtain ⟨i, hi, rfl⟩ := rngD_mem hn
      obtain ⟨tag, rest, e1, e2⟩ := sharedD_tag c h (2 + (i : Int))
      have hi : i < 7 := hi
      exact xt_cmp (o_eqS e2) (xe_ix (i_tup0 (ds := rest)) (xe_call (d_shared Z) passL hr (xa_cons (xe_var 0) (xa_cons (xe_var 1) (xa_cons (xe_var 2) xa_nil))) ⟨c, h, _, hc, hh, by omega, by omega, rfl, by rw [e1]⟩) xe_int) xe_str
end
end Pa
namespace Pa
open PySem PySem.Spec PyProof.Rows L2
section
variable {P : Program} {w : World} {K : PySem.W.Frag} {mg : Str → Option Value} {base : Heap} (Z : Txt K mg)
include Z
theorem d__law_numbers : Df P w K mg base (L2.CX P w) 1 "_law_numbers" 3 (fun ds r => ∃ script, ∃ at' many : Nat, many ≤ 1000 ∧ at' ≤ 1000 ∧ ds = [.scr K script, .int at', .int many] ∧ r = .ok (dI (lawNums script at' many))) :=
  Df.mk' Z.f__law_numbers sc__law_numbers (fun _ _ _ _ _ _ us hl => match us, hl with | [_, _, _], _ => rfl) fun f cdv A outer s H E ds r hr hn hR => by
    obtain ⟨script, at', many, hm, ha, rfl, rfl⟩ := hR
    have nd := sc__law_numbers.nd
    refine ⟨.rt _, rfl, xb_cons (xs_flat (i := 3) (d := .int (1000003 * ((at' : Int) + 1))) nd (xe_op (o_mul (.inl ⟨by decide, by decide⟩)) xe_int (xe_op o_add (xe_var 1) xe_int)))
      (xb_cons (δ1 := [some (.sh (.scr K script)), some (.sh (.int at')), some (.sh (.int many)), some (.sh (.int (cell1 script at'))), none, none, none]) (ω1 := []) ?_
      (xb_cons (δ1 := [some (.sh (.scr K script)), some (.sh (.int at')), some (.sh (.int many)), some (.sh (.int (cell0 script at'))), none, none, none]) (ω1 := []) ?_
      (xb_cons (xs_new (i := 4) (c := .nums []) nd (xn_lst xa_nil))
      (xb_cons (xs_for (.one 5) (passes_of rfl) (xi_range1 Z.b_range (xa_cons (xe_var 2) xa_nil) (by omega) (by omega)) (xg_one nd) (LoopS.runI many (fun j => [some (.sh (.scr K script)), some (.sh (.int at')), some (.sh (.int many)), some (.sh (.int (numsSt script at' j).1)), some (.at_ 0), none, none]) (fun j => [.nums (numsSt script at' j).2]) (by omega) rfl rfl fun j hj => ?_))
      (xb_stop (xs_ret (xe_var 4)) trivial)))))⟩
    · by_cases hb : at' < script.length
      · have e : cell1 script at' = script.getD at' 0 := if_pos hb
        rw [e]
        exact xs_if (c := true) (xt_cmp (opE (o_lt (i := (at' : Int)) (j := (script.length : Int))) (decide_eq_true (by omega))) (xe_var 1) (xe_callB c_lenS Z.b_len boot_len (xa_cons (xe_var 0) xa_nil))) (fun _ => xb_cons (xs_flat (i := 3) (d := .int (script.getD at' 0)) nd (xe_callTy c_int Z.b_int boot_int (xa_cons (xe_ix (i_scr (at_getD (k := (at' : Nat)) (by omega) (by omega))) (xe_var 0) (xe_var 1)) xa_nil))) xb_nil) (fun h => by cases h)
      · have e : cell1 script at' = 1000003 * ((at' : Int) + 1) := if_neg hb
        rw [e]
        exact xs_if (c := false) (xt_cmp (opE (o_lt (i := (at' : Int)) (j := (script.length : Int))) (decide_eq_false (by omega))) (xe_var 1) (xe_callB c_lenS Z.b_len boot_len (xa_cons (xe_var 0) xa_nil))) (fun h => by cases h) (fun _ => xb_nil)
    · by_cases hb : cell1 script at' < 0
      · have e : cell0 script at' = 1 - 2 * cell1 script at' := if_pos hb
        rw [e]
        exact xs_if (c := true) (xt_cmp (opE o_lt (decide_eq_true hb)) (xe_var 3) xe_int) (fun _ => xb_cons (xs_flat (i := 3) (d := .int (1 - 2 * cell1 script at')) nd (xe_op o_sub xe_int (xe_op (o_mul (.inl ⟨by decide, by decide⟩)) xe_int (xe_var 3)))) xb_nil) (fun h => by cases h)
      · have e : cell0 script at' = cell1 script at' := if_neg hb
        rw [e]
        exact xs_if (c := false) (xt_cmp (opE o_lt (decide_eq_false hb)) (xe_var 3) xe_int) (fun h => by cases h) (fun _ => xb_nil)
    · have hl := numsSt_len script at' j
      have est : numsSt script at' (j + 1) = (if (10 : Int) ^ 18 ≤ (numsSt script at' j).1 then ((numsSt script at' j).1 / 1009, (numsSt script at' j).2 ++ [(numsSt script at' j).1 % 1009]) else ((numsSt script at' j).1, (numsSt script at' j).2 ++ [mix3 (numsSt script at' j).1 (j : Int) (at' : Int)])) := rfl
      generalize numsSt script at' j = st at *
      by_cases hb : (10 : Int) ^ 18 ≤ st.1
      · rw [if_pos hb] at est
        rw [est]
        refine ⟨_, _, rfl, xb_cons (xs_if (c := true) (xt_cmp (opE o_ge (decide_eq_true hb)) (xe_var 3) (xe_op (o_pow (i := 10) (j := 18) ⟨by decide, by decide, by decide⟩) xe_int xe_int)) (fun _ => xb_cons (xs_append (y := .at_ 0) (ns := st.2) (v := st.1 % 1009) (xr_var 4) rfl (xe_op (o_mod (by decide)) (xe_var 3) xe_int) (by omega))
          (xb_cons (xs_flat (i := 3) (d := .int (st.1 / 1009)) nd (xe_op (o_div ⟨by decide, by decide⟩) (xe_var 3) xe_int)) xb_nil)) (fun h => by cases h)) xb_nil, (by repeat (first | exact LessS.nil | apply LessS.keep | apply LessS.drop))⟩
      · rw [if_neg hb] at est
        rw [est]
        have hmx : -(2 ^ 64) < mix1 st.1 j at' ∧ mix1 st.1 j at' < 2 ^ 64 := by unfold mix1; omega
        refine ⟨_, _, rfl, xb_cons (xs_if (c := false) (xt_cmp (opE o_ge (decide_eq_false hb)) (xe_var 3) (xe_op (o_pow (i := 10) (j := 18) ⟨by decide, by decide, by decide⟩) xe_int xe_int)) (fun h => by cases h) (fun _ =>
          xb_cons (xs_flat (i := 6) (d := .int (mix1 st.1 j at')) nd (xe_op (o_mod (by decide)) (xe_op o_add (xe_op o_add (xe_op (o_mul (.inr ⟨by decide, by decide⟩)) (xe_var 3) xe_int) (xe_op (o_mul (.inr ⟨by decide, by decide⟩)) (xe_op o_add (xe_var 5) xe_int) xe_int)) (xe_op (o_mul (.inr ⟨by decide, by decide⟩)) (xe_var 1) xe_int)) xe_int))
          (xb_cons (xs_flat (i := 6) (d := .int (mix2 st.1 j at')) nd (xe_op (o_mod (by decide)) (xe_op o_add (xe_op (o_mul (i := mix1 st.1 j at') (j := mix1 st.1 j at') (.inl hmx)) (xe_var 6) (xe_var 6)) (xe_op (o_mul (.inl ⟨by decide, by decide⟩)) xe_int (xe_op o_add (xe_var 5) xe_int))) xe_int))
          (xb_cons (xs_append (y := .at_ 0) (ns := st.2) (v := mix3 st.1 j at') (xr_var 4) rfl (xe_op (o_mod (by decide)) (xe_op (o_div ⟨by decide, by decide⟩) (xe_var 6) xe_int) xe_int) (by omega)) xb_nil)))) xb_nil, (by repeat (first | exact LessS.nil | apply LessS.keep | apply LessS.drop))⟩
theorem d__law_chain : Df P w K mg base (L2.CX P w) 2 "_law_chain" 3 (fun ds r => ∃ script, ∃ at' : Nat, ∃ most : Int, 2 ≤ most ∧ most ≤ 7 ∧ at' ≤ 1000 ∧ ds = [.scr K script, .int at', .int most] ∧ r = .ok (dI (lawChain script at' most))) :=
  Df.mk' Z.f__law_chain sc__law_chain (fun _ _ _ _ _ _ us hl => match us, hl with | [_, _, _], _ => rfl) fun f cdv A outer s H E ds r hr hn hR => by
    obtain ⟨script, at', most, h2, h7, ha, rfl, rfl⟩ := hR
    have nd := sc__law_chain.nd
    have hl : (lawNums script at' 12).length = 12 := lawNums_len
    have hcl := chLen_rg (ns := lawNums script at' 12) h2
    unfold lawChain
    generalize hns : lawNums script at' 12 = ns at *
    refine ⟨.rt _, rfl, xb_cons (xs_sh (i := 3) (d := dI ns) nd (xe_call (d__law_numbers Z) passL hr (xa_cons (xe_var 0) (xa_cons (xe_var 1) (xa_cons xe_int xa_nil))) ⟨script, at', 12, by decide, ha, rfl, by rw [hns]⟩))
      (xb_cons (xs_new (i := 4) (c := .nums [1 + ns.getD 0 0 % 3]) nd (xn_lst (xa_cons (xe_op o_add xe_int (xe_op (o_mod (by decide)) (xe_ix (i_int (k := 0) (by decide) (by omega)) (xe_var 3) xe_int) xe_int)) xa_nil)))
      (xb_cons (xs_for (.one 5) (passes_of rfl) (xi_range1 (n := 1 + ns.getD 1 0 % (most - 1)) Z.b_range (xa_cons (xe_op o_add xe_int (xe_op (o_mod (by omega)) (xe_ix (i_int (k := 1) (by decide) (by omega)) (xe_var 3) xe_int) (xe_op o_sub (xe_var 2) xe_int))) xa_nil) ?_ ?_) (xg_one nd)
        (LoopS.runI (chLen ns most) (fun _ => [some (.sh (.scr K script)), some (.sh (.int at')), some (.sh (.int most)), some (.sh (dI ns)), some (.at_ 0), none]) (fun j => [.nums (chSt ns j)]) rfl rfl rfl fun j hj => ?_))
      (xb_stop (xs_ret (xe_var 4)) trivial)))⟩
    · have := Int.emod_nonneg (ns.getD 1 0) (show most - 1 ≠ 0 by omega)
      omega
    · have := Int.emod_lt_of_pos (ns.getD 1 0) (show 0 < most - 1 by omega)
      omega
    · have hcl2 := chSt_len ns j
      have est : chSt ns (j + 1) = chSt ns j ++ [(chSt ns j).getD j 0 * (2 + ns.getD (2 + j) 0 % 4)] := rfl
      rw [est]
      generalize chSt ns j = ch at *
      have hat : atI (ch.map Dt.int) (-1) = some (.int (ch.getD j 0)) := by
        unfold L2.atI
        have e : ixN (ch.map Dt.int).length (-1) = some j := by
          unfold ixN
          rw [List.length_map, hcl2, if_neg (by decide)]
          rw [if_pos (by omega)]
          congr 1
          omega
        rw [e]
        show (ch.map Dt.int)[j]? = _
        rw [List.getElem?_map, getD_some (d := 0) (by omega)]
        rfl
      have eg : (2 + (j : Int)).toNat = 2 + j := by omega
      refine ⟨_, _, rfl, xb_cons (xs_append (y := .at_ 0) (ns := ch) (v := ch.getD j 0 * (2 + ns.getD (2 + j) 0 % 4)) (xr_var 4) rfl (xe_op (o_mul (.inr ?_)) (xe_ix (i_list hat) (xe_var 4) (xe_un o_neg xe_int)) (xe_op o_add xe_int (xe_op (o_mod (by decide)) (xe_ix (i_intE (ns := ns) (k := 2 + (j : Int)) (by omega) (by omega) (by rw [eg])) (xe_var 3) (xe_op o_add xe_int (xe_var 5))) xe_int))) (by omega)) xb_nil, (by repeat (first | exact LessS.nil | apply LessS.keep | apply LessS.drop))⟩
      omega
end
end Pa
namespace Pa
open PySem PySem.Spec PyProof.Rows L2
structure ExQ (K : PySem.W.Frag) (C : Addr) : Prop where
  xf : XfC K C
  noI : PySem.W.findIn K (.ref C) "index" = some none
structure ExK (K : PySem.W.Frag) (C : Addr) : Prop where
  cl : (PySem.W.clsIn K C).isSome = true
  ha : PySem.W.findIn K (.ref C) "__class__" = some (some (.builtin "object.__class__"))
  hn : PySem.W.specialIn K (.builtin "object.__class__") "__get__" = some (some (.builtin "getset_descriptor.__get__"))
  ht : PySem.W.takesIn K (.builtin "object.__class__") = some true
  hm : PySem.W.mroIn K C (.type "object") = some true
def rIsX (K : PySem.W.Frag) (C a : Addr) (d : Option Addr) : List V → Hp → VK → Prop := fun xs H Q => ∃ (c : V) (cv : Value) (b : Bool), xs = [.ref a, c] ∧ (∀ u, RelV c u → u = cv) ∧ PySem.W.kitOne K (.ref C) cv = some b ∧ (∃ dd fs, d = some dd ∧ H dd = some (.xd fs)) ∧ Q (.bl b) H
theorem call_isX {X : Cx} {a C : Addr} {oe : Obj} {pn : List (Addr × Obj)} {d : Option Addr} (q : ExQ X.K C) (k : ExK X.K C) (hz : Zc (.ref C) d oe) (hf : ∃ vs, oe.data = .fields vs) : CallR (X.suite a ((a, oe) :: pn)) (.builtin "isinstance") (rIsX X.K C a d) := by
  intro pins s σ H xs us Q I r h
  obtain ⟨c, cv, b, rfl, hcv, e, ⟨dd, fs, rfl, hdd⟩, fin⟩ := h
  cases r with
  | cons rx rr =>
    cases rr with
    | cons rt rr =>
      cases rr
      cases rx
      have ec := hcv _ rt
      subst ec
      obtain ⟨hget, _⟩ := I.pin (a, oe) (List.mem_append.mpr (.inl List.mem_cons_self))
      obtain ⟨vs, hv⟩ := hf
      have hx : ObjOk X.prog X.w H s.heap dd (.xd fs) := I.hok dd _ hdd
      obtain ⟨mA, hns, _⟩ := hx
      obtain ⟨od, ho, _⟩ := lookIn_ns hns
      have J : PySem.W.InstAt s.heap a oe C (some od) := ⟨hget, hz.1, by unfold PySem.W.notCls; rw [hv], by rw [hz.2]; exact ho⟩
      exact PySem.W.kia_one (PySem.W.kitx_exc k.cl q.xf.ga q.xf.gg q.xf.exC k.ha k.hn k.ht k.hm) I.kIn J e (fun z => nomatch z) fun tk => ⟨.bl b, H, I.kept (t' := tk) fun _ _ z => z, rfl, fin⟩
/-- what such a suite finds -/
structure SuH (i : Nat) (C a : Addr) (cls : Value) (d : Option Addr) (n : Int) (σ : L2.St) (H : Hp) : Prop where
  at_ : σ[i]? = some (some (.ref a))
  cl : cls = .ref C
  di : ∃ dd, d = some dd ∧ H dd = some (.xd [("index", .int n)])
section
variable {X : Cx} {a C : Addr} {oe : Obj} {cls : Value} {d : Option Addr} {pn : List (Addr × Obj)} {i j : Nat} {n tx : Str} {p1 p2 p3 p4 pos : Pos} {kk : Nat}
/-- return (text, e.index) -/
def tTell (i : Nat) (C : Addr) (tx : Str) (a : Addr) (cls : Value) (d : Option Addr) : TS := fun D σ H => ∃ m, SuH i C a cls d m σ H ∧ ∀ p, H p = none → D.rt (.ref p) (upd H p (.tup [.str tx, .int m]))
theorem ps_tell (q : ExQ X.K C) (hN : X.N[i]? = some n) (hv : Vis X.env.scope n) (hz : Zc cls d oe) (hf : ∃ vs, oe.data = .fields vs) (h1 : (n == ("__debug__" : Str)) = false := by decide) (h2 : (n == ("__classdict__" : Str)) = false := by decide) (hb : attributeBase (.Name n p1) "index" X.env (eval (.Name n p1) X.env) = eval (.Name n p1) X.env := by rfl)
    (hs1 : starEach [.Constant (.str tx) j p3, .Attribute (.Name n p1) "index" p2] X.env = (false, eval (.Constant (.str tx) j p3) X.env) :: starEach [.Attribute (.Name n p1) "index" p2] X.env := by rfl) (hs2 : starEach [.Attribute (.Name n p1) "index" p2] X.env = (false, eval (.Attribute (.Name n p1) "index" p2) X.env) :: starEach [] X.env := by rfl) :
    PS (X.suite a ((a, oe) :: pn)) (.Return (some (.Tuple [.Constant (.str tx) j p3, .Attribute (.Name n p1) "index" p2] kk p4)) pos) (tTell i C tx a cls d) :=
  PS.sub (ps_ret (pe_tup (pa_cons pe_str (pa_cons (pe_xf q.xf q.noI hz hf (pe_var hN hv h1 h2) hb) pa_nil hs2) hs1))) fun D σ H h => by
    obtain ⟨m, ⟨e1, e2, dd, e3, e4⟩, k⟩ := h
    refine ⟨_, e1, rfl, e2, dd, _, .int m, e3, e4, rfl, ?_⟩
    exact ⟨by rw [sizeLine_eq]; exact Nat.le_of_ble_eq_true rfl, fun p hp => k p hp⟩
/-- isinstance(e, D) in such a suite -/
def tAsk (i : Nat) (C : Addr) (a : Addr) (cls : Value) (d : Option Addr) (b : Bool) : TT := fun σ H Q => (∃ m, SuH i C a cls d m σ H) ∧ Q b H
theorem pt_ask {y : Str} {D : Addr} {b : Bool} {p : Pos} (q : ExQ X.K C) (k : ExK X.K C) (hm : X.mg "isinstance" = none) (hD : X.mg y = some (.ref D)) (hk : PySem.W.kitOne X.K (.ref C) (.ref D) = some b) (hN : X.N[i]? = some n) (hv : Vis X.env.scope n) (hz : Zc cls d oe) (hf : ∃ vs, oe.data = .fields vs) (hec : cls = .ref C)
    (hg : Gl X "isinstance" := by rfl) (hgy : Gl X y := by rfl) (h1 : (n == ("__debug__" : Str)) = false := by decide) (h2 : (n == ("__classdict__" : Str)) = false := by decide) (hdy : (y == ("__debug__" : Str)) = false := by decide)
    (he : starEach [.Name n p1, .Name y p2] X.env = (false, eval (.Name n p1) X.env) :: starEach [.Name y p2] X.env := by rfl) (hpl : (backTo pos (starEach [.Name y p2] X.env)).any (·.1) = false := by rfl) (he2 : starEach [.Name y p2] X.env = (false, eval (.Name y p2) X.env) :: starEach [] X.env := by rfl)
    (hi : ∀ whole, isTrue (.Call (.Name "isinstance" p) [.Name n p1, .Name y p2] [] pos) X.env whole = (do let v ← whole; standAt (Expr.pos (.Call (.Name "isinstance" p) [.Name n p1, .Name y p2] [] pos)); holding [v] (truthy v)) := by intro _; rfl) :
    PT (X.suite a ((a, oe) :: pn)) (.Call (.Name "isinstance" p) [.Name n p1, .Name y p2] [] pos) (tAsk i C a cls d b) := by
  subst hec
  refine PT.sub (pt_val (pe_callB (call_isX q k hz hf) hg hm PyProof.Rows.boot_isinstance (pa_cons (pe_var hN hv h1 h2) (pa_cons (pe_glob hgy hD (v := .ref D) rfl hdy) pa_nil he2) he) (by decide) (by decide) he hpl) hi) fun σ H Q h => ?_
  obtain ⟨⟨m, e1, e2, dd, e3, e4⟩, fin⟩ := h
  exact ⟨.ref a, e1, .ref D, .ref D, b, rfl, fun u hu => hu, hk, ⟨dd, _, e3, e4⟩, b, rfl, fin⟩
end
theorem takes_len {X : Cx} {W : WX} (tk : Takes X W) : TkE X (fun cls d H => ∀ σ, σ.length = X.N.length → W cls d σ H) := fun u s' ⟨a, B, sI, pins, σ, H, cls, d, e, I, nb, up, sky, na, os, ag, w⟩ =>
  tk u s' ⟨a, B, sI, pins, σ, H, cls, d, e, I, nb, up, sky, na, os, ag, w σ I.len⟩
section
variable {X : Cx} {E : XK} {δ : Ss} {ω : Om} {Q : Out → Prop} {rest : List Stmt} {pos pos' p : Pos}
/-- return f(..), what comes of it -/
theorem xbE_call {k n : Nat} {x : Str} {R : List Dt → Res → Prop} {a : Expr} {es : List Expr} {ds : List Dt} (Eo : Option Err) (F : Df X.prog X.w X.K X.mg X.base (L2.CX X.prog X.w) k x n R) (tk : TkE X E) (hr : Room k X.A) (ha : Xa X (a :: es) (view ω δ) ds) (hE : ∀ e, Eo = some e → R ds (.er e)) (hN : Eo = none → R ds .an ∨ ∃ d, R ds (.ok d)) (hQ : ∀ O, O.ends → EndsAs O (resA Eo) → Q O) (hn : ds.length = n := by rfl) (hg : Gl X x := by rfl)
    (hdb : (x == ("__debug__" : Str)) = false := by decide) (he : starEach (a :: es) X.env = (false, eval a X.env) :: starEach es X.env := by rfl) (hpl : (backTo pos (starEach es X.env)).any (·.1) = false := by rfl) :
    XbE X E (.Return (some (.Call (.Name x p) (a :: es) [] pos)) pos' :: rest) δ ω Q := by
  cases Eo with
  | some e => exact ⟨.ex e, hQ _ trivial rfl, xb_stop (xs_retZ (xz_call F tk hr ha (hE e rfl) hn hg hdb he hpl)) trivial⟩
  | none =>
    rcases hN rfl with h | ⟨d, h⟩
    · exact ⟨.ra, hQ _ trivial trivial, xb_stop (xs_retV (xv_call F passL hr ha h hn hg hdb he hpl)) trivial⟩
    · exact ⟨.rt d, hQ _ trivial trivial, xb_stop (xs_ret (xe_call F passL hr ha h hn hg hdb he hpl)) trivial⟩
theorem xbE_ifF {t : Expr} {a : List Stmt} (ht : Xt X t (view ω δ) false) (h : XbE X E rest δ ω Q) : XbE X E (.If t a [] pos :: rest) δ ω Q := xbE_cons (xs_if (c := false) ht (fun h => by cases h) (fun _ => xb_nil)) h
theorem xbE_ifT {t : Expr} {a b : List Stmt} (ht : Xt X t (view ω δ) true) (h : XbE X E a δ ω (fun O => O.ends ∧ Q O)) : XbE X E (.If t a b pos :: rest) δ ω Q := by
  obtain ⟨O, ⟨h1, h2⟩, h3⟩ := h
  exact ⟨O, h2, xb_stop (xs_if (c := true) ht (fun _ => h3) (fun h => by cases h)) h1⟩
end
end Pa
namespace Pa
open PySem PySem.Spec PyProof.Rows L2
abbrev rmE (K : PySem.W.Frag) (dc dh dv dk : Dt) : Option Err := orE (layE K dc dh dv) (msgE (NN K) (isFT dk 0 ((lenD dc : Int) - 1)))
def lawE (K : PySem.W.Frag) (which : Nat) (dc dh dv : Dt) : Option Err :=
  if which < 4 then layE K dc dh dv else if which = 4 then rmE K dc dh dv (.int 0) else if which = 5 then orE ((chainErr dc).map (.idx (CC K))) (msgE (NN K) (boxesOk dv))
  else if which < 9 then hoE K dc dh dv else if which = 9 then coE K dc dh dv else if which = 10 then rmE K dc dh (dI [5]) dv else if which < 17 then shaE K dc dh dv else heapE (CC K) (HH K) dc dh
def heap0 (script : List Int) (at' : Nat) (c : List Int) (most : Int) : List Int := (lawNums script at' c.length).map fun v => v % (1 + most)
section
variable {P : Program} {w : World} {K : PySem.W.Frag} {mg : Str → Option Value} {base : Heap} (Z : Txt K mg)
include Z
theorem d__law_heap : Df P w K mg base (L2.CX P w) 2 "_law_heap" 4 (fun ds r => ∃ script, ∃ at' : Nat, ∃ c, ∃ most : Int, Chn c ∧ 0 ≤ most ∧ at' ≤ 1000 ∧ ds = [.scr K script, .int at', dI c, .int most] ∧ r = .ok (dI (heap0 script at' c most))) :=
  Df.mk' Z.f__law_heap sc__law_heap (fun _ _ _ _ _ _ us hl => match us, hl with | [_, _, _, _], _ => rfl) fun f cdv A outer s H E ds r hr hn hR => by
    obtain ⟨script, at', c, most, hc, hm, ha, rfl, rfl⟩ := hR
    have nd := sc__law_heap.nd
    have l8 := hc.len8
    have hl : (lawNums script at' c.length).length = c.length := lawNums_len
    exact ⟨.rt _, rfl, xb_stop (xs_ret (xe_lc [("number", 4)] (.one 4) nd (xi_list (xe_call (d__law_numbers Z) passL hr (xa_cons (xe_var 0) (xa_cons (xe_var 1) (xa_cons (xe_callB c_lenI Z.b_len boot_len (xa_cons (xe_var 2) xa_nil)) xa_nil))) ⟨script, at', c.length, by omega, ha, rfl, rfl⟩)) (comp_ints (f := fun v => v % (1 + most)) fun v hv s H C cl fp => xe_op (o_mod (by omega)) (xe_var 4) (xe_op o_add xe_int (xe_var 3))) (by rw [List.length_map]; omega) (fun _ _ _ _ _ => xg_one nd))) trivial⟩
theorem d__law_shared : Df P w K mg base (L2.CX P w) 9 "_law_shared" 4 (fun ds r => ∃ (k : Nat) (dc dh dv : Dt), 11 ≤ k ∧ k ≤ 17 ∧ dc.okS = true ∧ dh.okS = true ∧ dv.okS = true ∧ ds = [dc, dh, dv, .int k] ∧ r = resA (lawE K k dc dh dv)) :=
  Df.mk' Z.f__law_shared sc__law_shared (fun _ _ _ _ _ _ us hl => match us, hl with | [_, _, _, _], _ => rfl) fun f cdv A outer s H E ds r hr hn hR => by
    obtain ⟨k, dc, dh, dv, hk0, hk1, h1, h2, h3, rfl, rfl⟩ := hR
    have hQ : ∀ Eo : Option Err, ∀ O, O.ends → EndsAs O (resA Eo) → EndsAs O (resA Eo) := fun _ _ _ h => h
    have cases18 : k = 11 ∨ k = 12 ∨ k = 13 ∨ k = 14 ∨ k = 15 ∨ k = 16 ∨ k = 17 := by omega
    rcases cases18 with rfl | rfl | rfl | rfl | rfl | rfl | rfl
    · show XbE _ _ _ _ _ (fun O => EndsAs O (resA (shaE K dc dh dv)))
      exact xbE_ifT (xt_cmp (opE (o_eqI (i := 11) (j := 11)) rfl) (xe_var 3) xe_int) (xbE_call _ (d_answer_shares Z) (takes_of rfl rfl rfl rfl) (hr.mono (by decide)) (xa_cons (xe_var 0) (xa_cons (xe_var 1) (xa_cons (xe_var 2) xa_nil))) (fun e q => ⟨_, _, _, h1, h2, Dt.okS.noS h3, rfl, .inl ⟨e, q, rfl⟩⟩) (fun q => (by
      obtain ⟨c, h, n, e1, e2, e3, hc, hh, hn1, hn2⟩ := numE_none q
      exact .inr ⟨_, _, _, _, h1, h2, Dt.okS.noS h3, rfl, .inr ⟨c, h, n, e1, e2, e3, q, hc, hh, hn1, hn2, rfl⟩⟩)) (fun O a b => ⟨a, b⟩))
    · show XbE _ _ _ _ _ (fun O => EndsAs O (resA (shaE K dc dh dv)))
      exact xbE_ifF (xt_cmp (opE (o_eqI (i := 12) (j := 11)) rfl) (xe_var 3) xe_int) (xbE_ifT (xt_cmp (opE (o_eqI (i := 12) (j := 12)) rfl) (xe_var 3) xe_int) (xbE_call _ (d_can_share Z) (takes_of rfl rfl rfl rfl) (hr.mono (by decide)) (xa_cons (xe_var 0) (xa_cons (xe_var 1) (xa_cons (xe_var 2) xa_nil))) (fun e q => ⟨_, _, _, h1, h2, (Dt.okS.noS h3), rfl, (congrArg resA q).symm⟩) (fun q => .inl ⟨_, _, _, h1, h2, (Dt.okS.noS h3), rfl, (congrArg resA q).symm⟩) (fun O a b => ⟨a, b⟩)))
    · show XbE _ _ _ _ _ (fun O => EndsAs O (resA (shaE K dc dh dv)))
      exact xbE_ifF (xt_cmp (opE (o_eqI (i := 13) (j := 11)) rfl) (xe_var 3) xe_int) (xbE_ifF (xt_cmp (opE (o_eqI (i := 13) (j := 12)) rfl) (xe_var 3) xe_int) (xbE_ifT (xt_cmp (opE (o_eqI (i := 13) (j := 13)) rfl) (xe_var 3) xe_int) (xbE_call _ (d_least_greatest Z) (takes_of rfl rfl rfl rfl) (hr.mono (by decide)) (xa_cons (xe_var 0) (xa_cons (xe_var 1) (xa_cons (xe_var 2) xa_nil))) (fun e q => ⟨_, _, _, h1, h2, (Dt.okS.noS h3), rfl, (congrArg resA q).symm⟩) (fun q => .inl ⟨_, _, _, h1, h2, (Dt.okS.noS h3), rfl, (congrArg resA q).symm⟩) (fun O a b => ⟨a, b⟩))))
    · show XbE _ _ _ _ _ (fun O => EndsAs O (resA (shaE K dc dh dv)))
      exact xbE_ifF (xt_cmp (opE (o_eqI (i := 14) (j := 11)) rfl) (xe_var 3) xe_int) (xbE_ifF (xt_cmp (opE (o_eqI (i := 14) (j := 12)) rfl) (xe_var 3) xe_int) (xbE_ifF (xt_cmp (opE (o_eqI (i := 14) (j := 13)) rfl) (xe_var 3) xe_int) (xbE_ifT (xt_cmp (opE (o_eqI (i := 14) (j := 14)) rfl) (xe_var 3) xe_int) (xbE_call _ (d_levelled Z) (takes_of rfl rfl rfl rfl) (hr.mono (by decide)) (xa_cons (xe_var 0) (xa_cons (xe_var 1) (xa_cons (xe_var 2) xa_nil))) (fun e q => ⟨_, _, _, h1, h2, (Dt.okS.noS h3), rfl, (congrArg resA q).symm⟩) (fun q => .inl ⟨_, _, _, h1, h2, (Dt.okS.noS h3), rfl, (congrArg resA q).symm⟩) (fun O a b => ⟨a, b⟩)))))
    · show XbE _ _ _ _ _ (fun O => EndsAs O (resA (shaE K dc dh dv)))
      exact xbE_ifF (xt_cmp (opE (o_eqI (i := 15) (j := 11)) rfl) (xe_var 3) xe_int) (xbE_ifF (xt_cmp (opE (o_eqI (i := 15) (j := 12)) rfl) (xe_var 3) xe_int) (xbE_ifF (xt_cmp (opE (o_eqI (i := 15) (j := 13)) rfl) (xe_var 3) xe_int) (xbE_ifF (xt_cmp (opE (o_eqI (i := 15) (j := 14)) rfl) (xe_var 3) xe_int) (xbE_ifT (xt_cmp (opE (o_eqI (i := 15) (j := 15)) rfl) (xe_var 3) xe_int) (xbE_call _ (d_by_turns Z) (takes_of rfl rfl rfl rfl) (hr.mono (by decide)) (xa_cons (xe_var 0) (xa_cons (xe_var 1) (xa_cons (xe_var 2) xa_nil))) (fun e q => ⟨_, _, _, h1, h2, (Dt.okS.noS h3), rfl, (congrArg resA q).symm⟩) (fun q => .inl ⟨_, _, _, h1, h2, (Dt.okS.noS h3), rfl, (congrArg resA q).symm⟩) (fun O a b => ⟨a, b⟩))))))
    · show XbE _ _ _ _ _ (fun O => EndsAs O (resA (shaE K dc dh dv)))
      exact xbE_ifF (xt_cmp (opE (o_eqI (i := 16) (j := 11)) rfl) (xe_var 3) xe_int) (xbE_ifF (xt_cmp (opE (o_eqI (i := 16) (j := 12)) rfl) (xe_var 3) xe_int) (xbE_ifF (xt_cmp (opE (o_eqI (i := 16) (j := 13)) rfl) (xe_var 3) xe_int) (xbE_ifF (xt_cmp (opE (o_eqI (i := 16) (j := 14)) rfl) (xe_var 3) xe_int) (xbE_ifF (xt_cmp (opE (o_eqI (i := 16) (j := 15)) rfl) (xe_var 3) xe_int) (xbE_ifT (xt_cmp (opE (o_eqI (i := 16) (j := 16)) rfl) (xe_var 3) xe_int) (xbE_call _ (d_by_need Z) (takes_of rfl rfl rfl rfl) (hr.mono (by decide)) (xa_cons (xe_var 0) (xa_cons (xe_var 1) (xa_cons (xe_var 2) xa_nil))) (fun e q => ⟨_, _, _, h1, h2, (Dt.okS.noS h3), rfl, (congrArg resA q).symm⟩) (fun q => .inl ⟨_, _, _, h1, h2, (Dt.okS.noS h3), rfl, (congrArg resA q).symm⟩) (fun O a b => ⟨a, b⟩)))))))
    · show XbE _ _ _ _ _ (fun O => EndsAs O (resA (heapE (CC K) (HH K) dc dh)))
      exact xbE_ifF (xt_cmp (opE (o_eqI (i := 17) (j := 11)) rfl) (xe_var 3) xe_int) (xbE_ifF (xt_cmp (opE (o_eqI (i := 17) (j := 12)) rfl) (xe_var 3) xe_int) (xbE_ifF (xt_cmp (opE (o_eqI (i := 17) (j := 13)) rfl) (xe_var 3) xe_int) (xbE_ifF (xt_cmp (opE (o_eqI (i := 17) (j := 14)) rfl) (xe_var 3) xe_int) (xbE_ifF (xt_cmp (opE (o_eqI (i := 17) (j := 15)) rfl) (xe_var 3) xe_int) (xbE_ifF (xt_cmp (opE (o_eqI (i := 17) (j := 16)) rfl) (xe_var 3) xe_int) (xbE_call _ (d_numbers Z) (takes_of rfl rfl rfl rfl) (hr.mono (by decide)) (xa_cons (xe_var 0) (xa_cons (xe_var 1) xa_nil)) (fun e q => ⟨_, _, h1, h2, rfl, (congrArg resA q).symm⟩) (fun q => .inl ⟨_, _, h1, h2, rfl, (congrArg resA q).symm⟩) (hQ _)))))))
theorem d__law_called : Df P w K mg base (L2.CX P w) 10 "_law_called" 4 (fun ds r => ∃ (k : Nat) (dc dh dv : Dt), 0 ≤ k ∧ k ≤ 17 ∧ dc.okS = true ∧ dh.okS = true ∧ dv.okS = true ∧ ds = [dc, dh, dv, .int k] ∧ r = resA (lawE K k dc dh dv)) :=
  Df.mk' Z.f__law_called sc__law_called (fun _ _ _ _ _ _ us hl => match us, hl with | [_, _, _, _], _ => rfl) fun f cdv A outer s H E ds r hr hn hR => by
    obtain ⟨k, dc, dh, dv, hk0, hk1, h1, h2, h3, rfl, rfl⟩ := hR
    have hQ : ∀ Eo : Option Err, ∀ O, O.ends → EndsAs O (resA Eo) → EndsAs O (resA Eo) := fun _ _ _ h => h
    have cases18 : k = 0 ∨ k = 1 ∨ k = 2 ∨ k = 3 ∨ k = 4 ∨ k = 5 ∨ k = 6 ∨ k = 7 ∨ k = 8 ∨ k = 9 ∨ k = 10 ∨ k = 11 ∨ k = 12 ∨ k = 13 ∨ k = 14 ∨ k = 15 ∨ k = 16 ∨ k = 17 := by omega
    rcases cases18 with rfl | rfl | rfl | rfl | rfl | rfl | rfl | rfl | rfl | rfl | rfl | rfl | rfl | rfl | rfl | rfl | rfl | rfl
    · show XbE _ _ _ _ _ (fun O => EndsAs O (resA (layE K dc dh dv)))
      exact xbE_ifT (xt_cmp (opE (o_eqI (i := 0) (j := 0)) rfl) (xe_var 3) xe_int) (xbE_call _ (d_answer_boxes Z) (takes_of rfl rfl rfl rfl) (hr.mono (by decide)) (xa_cons (xe_var 0) (xa_cons (xe_var 1) (xa_cons (xe_var 2) xa_nil))) (fun e q => ⟨_, _, _, h1, h2, h3, rfl, .inl ⟨e, q, rfl⟩⟩) (fun q => (by
      obtain ⟨c, h, bs, e1, e2, e3, hc, hh, hb⟩ := layE_none q
      exact .inr ⟨_, _, _, _, h1, h2, h3, rfl, .inr ⟨c, h, bs, e1, e2, e3, q, hc, hh, hb, rfl⟩⟩)) (fun O a b => ⟨a, b⟩))
    · show XbE _ _ _ _ _ (fun O => EndsAs O (resA (layE K dc dh dv)))
      exact xbE_ifF (xt_cmp (opE (o_eqI (i := 1) (j := 0)) rfl) (xe_var 3) xe_int) (xbE_ifT (xt_cmp (opE (o_eqI (i := 1) (j := 1)) rfl) (xe_var 3) xe_int) (xbE_call _ (d_can_lay Z) (takes_of rfl rfl rfl rfl) (hr.mono (by decide)) (xa_cons (xe_var 0) (xa_cons (xe_var 1) (xa_cons (xe_var 2) xa_nil))) (fun e q => ⟨_, _, _, h1, h2, h3, rfl, (congrArg resA q).symm⟩) (fun q => .inl ⟨_, _, _, h1, h2, h3, rfl, (congrArg resA q).symm⟩) (fun O a b => ⟨a, b⟩)))
    · show XbE _ _ _ _ _ (fun O => EndsAs O (resA (layE K dc dh dv)))
      exact xbE_ifF (xt_cmp (opE (o_eqI (i := 2) (j := 0)) rfl) (xe_var 3) xe_int) (xbE_ifF (xt_cmp (opE (o_eqI (i := 2) (j := 1)) rfl) (xe_var 3) xe_int) (xbE_ifT (xt_cmp (opE (o_eqI (i := 2) (j := 2)) rfl) (xe_var 3) xe_int) (xbE_call _ (d_load Z) (takes_of rfl rfl rfl rfl) (hr.mono (by decide)) (xa_cons (xe_var 0) (xa_cons (xe_var 1) (xa_cons (xe_var 2) xa_nil))) (fun e q => ⟨_, _, _, h1, h2, h3, rfl, .inl ⟨e, q, rfl⟩⟩) (fun q => (by
      obtain ⟨c, h, bs, e1, e2, e3, hc, hh, hb⟩ := layE_none q
      exact .inr ⟨_, _, _, _, h1, h2, h3, rfl, .inr ⟨c, h, bs, e1, e2, e3, q, hc, hh, hb, rfl⟩⟩)) (fun O a b => ⟨a, b⟩))))
    · show XbE _ _ _ _ _ (fun O => EndsAs O (resA (layE K dc dh dv)))
      exact xbE_ifF (xt_cmp (opE (o_eqI (i := 3) (j := 0)) rfl) (xe_var 3) xe_int) (xbE_ifF (xt_cmp (opE (o_eqI (i := 3) (j := 1)) rfl) (xe_var 3) xe_int) (xbE_ifF (xt_cmp (opE (o_eqI (i := 3) (j := 2)) rfl) (xe_var 3) xe_int) (xbE_ifT (xt_cmp (opE (o_eqI (i := 3) (j := 3)) rfl) (xe_var 3) xe_int) (xbE_call _ (d_left_out Z) (takes_of rfl rfl rfl rfl) (hr.mono (by decide)) (xa_cons (xe_var 0) (xa_cons (xe_var 1) (xa_cons (xe_var 2) xa_nil))) (fun e q => ⟨_, _, _, h1, h2, h3, rfl, (congrArg resA q).symm⟩) (fun q => .inl ⟨_, _, _, h1, h2, h3, rfl, (congrArg resA q).symm⟩) (fun O a b => ⟨a, b⟩)))))
    · show XbE _ _ _ _ _ (fun O => EndsAs O (resA (rmE K dc dh dv (.int 0))))
      exact xbE_ifF (xt_cmp (opE (o_eqI (i := 4) (j := 0)) rfl) (xe_var 3) xe_int) (xbE_ifF (xt_cmp (opE (o_eqI (i := 4) (j := 1)) rfl) (xe_var 3) xe_int) (xbE_ifF (xt_cmp (opE (o_eqI (i := 4) (j := 2)) rfl) (xe_var 3) xe_int) (xbE_ifF (xt_cmp (opE (o_eqI (i := 4) (j := 3)) rfl) (xe_var 3) xe_int) (xbE_ifT (xt_cmp (opE (o_eqI (i := 4) (j := 4)) rfl) (xe_var 3) xe_int) (xbE_call _ (d_room_left Z) (takes_of rfl rfl rfl rfl) (hr.mono (by decide)) (xa_cons (xe_var 0) (xa_cons (xe_var 1) (xa_cons (xe_var 2) (xa_cons xe_int xa_nil)))) (fun e q => ⟨_, _, _, _, h1, h2, h3, rfl, rfl, (congrArg resA q).symm⟩) (fun q => .inl ⟨_, _, _, _, h1, h2, h3, rfl, rfl, (congrArg resA q).symm⟩) (fun O a b => ⟨a, b⟩))))))
    · show XbE _ _ _ _ _ (fun O => EndsAs O (resA (orE ((chainErr dc).map (.idx (CC K))) (msgE (NN K) (boxesOk dv)))))
      exact xbE_ifF (xt_cmp (opE (o_eqI (i := 5) (j := 0)) rfl) (xe_var 3) xe_int) (xbE_ifF (xt_cmp (opE (o_eqI (i := 5) (j := 1)) rfl) (xe_var 3) xe_int) (xbE_ifF (xt_cmp (opE (o_eqI (i := 5) (j := 2)) rfl) (xe_var 3) xe_int) (xbE_ifF (xt_cmp (opE (o_eqI (i := 5) (j := 3)) rfl) (xe_var 3) xe_int) (xbE_ifF (xt_cmp (opE (o_eqI (i := 5) (j := 4)) rfl) (xe_var 3) xe_int) (xbE_ifT (xt_cmp (opE (o_eqI (i := 5) (j := 5)) rfl) (xe_var 3) xe_int) (xbE_call _ (d_rooms Z) (takes_of rfl rfl rfl rfl) (hr.mono (by decide)) (xa_cons (xe_var 0) (xa_cons (xe_var 2) xa_nil)) (fun e q => ⟨_, _, h1, h3, rfl, (congrArg resA q).symm⟩) (fun q => .inl ⟨_, _, h1, h3, rfl, (congrArg resA q).symm⟩) (fun O a b => ⟨a, b⟩)))))))
    · show XbE _ _ _ _ _ (fun O => EndsAs O (resA (hoE K dc dh dv)))
      exact xbE_ifF (xt_cmp (opE (o_eqI (i := 6) (j := 0)) rfl) (xe_var 3) xe_int) (xbE_ifF (xt_cmp (opE (o_eqI (i := 6) (j := 1)) rfl) (xe_var 3) xe_int) (xbE_ifF (xt_cmp (opE (o_eqI (i := 6) (j := 2)) rfl) (xe_var 3) xe_int) (xbE_ifF (xt_cmp (opE (o_eqI (i := 6) (j := 3)) rfl) (xe_var 3) xe_int) (xbE_ifF (xt_cmp (opE (o_eqI (i := 6) (j := 4)) rfl) (xe_var 3) xe_int) (xbE_ifF (xt_cmp (opE (o_eqI (i := 6) (j := 5)) rfl) (xe_var 3) xe_int) (xbE_ifT (xt_cmp (opE (o_eqI (i := 6) (j := 6)) rfl) (xe_var 3) xe_int) (xbE_call _ (d_answer_like Z) (takes_of rfl rfl rfl rfl) (hr.mono (by decide)) (xa_cons (xe_var 0) (xa_cons (xe_var 1) (xa_cons (xe_var 2) xa_nil))) (fun e q => ⟨_, _, _, h1, h2, (Dt.okS.noS h3), rfl, (congrArg resA q).symm⟩) (fun q => .inl ⟨_, _, _, h1, h2, (Dt.okS.noS h3), rfl, (congrArg resA q).symm⟩) (fun O a b => ⟨a, b⟩))))))))
    · show XbE _ _ _ _ _ (fun O => EndsAs O (resA (hoE K dc dh dv)))
      exact xbE_ifF (xt_cmp (opE (o_eqI (i := 7) (j := 0)) rfl) (xe_var 3) xe_int) (xbE_ifF (xt_cmp (opE (o_eqI (i := 7) (j := 1)) rfl) (xe_var 3) xe_int) (xbE_ifF (xt_cmp (opE (o_eqI (i := 7) (j := 2)) rfl) (xe_var 3) xe_int) (xbE_ifF (xt_cmp (opE (o_eqI (i := 7) (j := 3)) rfl) (xe_var 3) xe_int) (xbE_ifF (xt_cmp (opE (o_eqI (i := 7) (j := 4)) rfl) (xe_var 3) xe_int) (xbE_ifF (xt_cmp (opE (o_eqI (i := 7) (j := 5)) rfl) (xe_var 3) xe_int) (xbE_ifF (xt_cmp (opE (o_eqI (i := 7) (j := 6)) rfl) (xe_var 3) xe_int) (xbE_ifT (xt_cmp (opE (o_eqI (i := 7) (j := 7)) rfl) (xe_var 3) xe_int) (xbE_call _ (d_fewest_boxes Z) (takes_of rfl rfl rfl rfl) (hr.mono (by decide)) (xa_cons (xe_var 0) (xa_cons (xe_var 1) (xa_cons (xe_var 2) xa_nil))) (fun e q => ⟨_, _, _, h1, h2, (Dt.okS.noS h3), rfl, (congrArg resA q).symm⟩) (fun q => .inl ⟨_, _, _, h1, h2, (Dt.okS.noS h3), rfl, (congrArg resA q).symm⟩) (fun O a b => ⟨a, b⟩)))))))))
    · show XbE _ _ _ _ _ (fun O => EndsAs O (resA (hoE K dc dh dv)))
      exact xbE_ifF (xt_cmp (opE (o_eqI (i := 8) (j := 0)) rfl) (xe_var 3) xe_int) (xbE_ifF (xt_cmp (opE (o_eqI (i := 8) (j := 1)) rfl) (xe_var 3) xe_int) (xbE_ifF (xt_cmp (opE (o_eqI (i := 8) (j := 2)) rfl) (xe_var 3) xe_int) (xbE_ifF (xt_cmp (opE (o_eqI (i := 8) (j := 3)) rfl) (xe_var 3) xe_int) (xbE_ifF (xt_cmp (opE (o_eqI (i := 8) (j := 4)) rfl) (xe_var 3) xe_int) (xbE_ifF (xt_cmp (opE (o_eqI (i := 8) (j := 5)) rfl) (xe_var 3) xe_int) (xbE_ifF (xt_cmp (opE (o_eqI (i := 8) (j := 6)) rfl) (xe_var 3) xe_int) (xbE_ifF (xt_cmp (opE (o_eqI (i := 8) (j := 7)) rfl) (xe_var 3) xe_int) (xbE_ifT (xt_cmp (opE (o_eqI (i := 8) (j := 8)) rfl) (xe_var 3) xe_int) (xbE_call _ (d_needed_at Z) (takes_of rfl rfl rfl rfl) (hr.mono (by decide)) (xa_cons (xe_var 0) (xa_cons (xe_var 1) (xa_cons (xe_var 2) xa_nil))) (fun e q => ⟨_, _, _, h1, h2, (Dt.okS.noS h3), rfl, (congrArg resA q).symm⟩) (fun q => .inl ⟨_, _, _, h1, h2, (Dt.okS.noS h3), rfl, (congrArg resA q).symm⟩) (fun O a b => ⟨a, b⟩))))))))))
    · show XbE _ _ _ _ _ (fun O => EndsAs O (resA (coE K dc dh dv)))
      exact xbE_ifF (xt_cmp (opE (o_eqI (i := 9) (j := 0)) rfl) (xe_var 3) xe_int) (xbE_ifF (xt_cmp (opE (o_eqI (i := 9) (j := 1)) rfl) (xe_var 3) xe_int) (xbE_ifF (xt_cmp (opE (o_eqI (i := 9) (j := 2)) rfl) (xe_var 3) xe_int) (xbE_ifF (xt_cmp (opE (o_eqI (i := 9) (j := 3)) rfl) (xe_var 3) xe_int) (xbE_ifF (xt_cmp (opE (o_eqI (i := 9) (j := 4)) rfl) (xe_var 3) xe_int) (xbE_ifF (xt_cmp (opE (o_eqI (i := 9) (j := 5)) rfl) (xe_var 3) xe_int) (xbE_ifF (xt_cmp (opE (o_eqI (i := 9) (j := 6)) rfl) (xe_var 3) xe_int) (xbE_ifF (xt_cmp (opE (o_eqI (i := 9) (j := 7)) rfl) (xe_var 3) xe_int) (xbE_ifF (xt_cmp (opE (o_eqI (i := 9) (j := 8)) rfl) (xe_var 3) xe_int) (xbE_ifT (xt_cmp (opE (o_eqI (i := 9) (j := 9)) rfl) (xe_var 3) xe_int) (xbE_call _ (d_least_hold Z) (takes_of rfl rfl rfl rfl) (hr.mono (by decide)) (xa_cons (xe_var 0) (xa_cons (xe_var 1) (xa_cons (xe_var 2) xa_nil))) (fun e q => ⟨_, _, _, h1, h2, (Dt.okS.noS h3), rfl, (congrArg resA q).symm⟩) (fun q => .inl ⟨_, _, _, h1, h2, (Dt.okS.noS h3), rfl, (congrArg resA q).symm⟩) (fun O a b => ⟨a, b⟩)))))))))))
    · show XbE _ _ _ _ _ (fun O => EndsAs O (resA (rmE K dc dh (dI [5]) dv)))
      exact xbE_ifF (xt_cmp (opE (o_eqI (i := 10) (j := 0)) rfl) (xe_var 3) xe_int) (xbE_ifF (xt_cmp (opE (o_eqI (i := 10) (j := 1)) rfl) (xe_var 3) xe_int) (xbE_ifF (xt_cmp (opE (o_eqI (i := 10) (j := 2)) rfl) (xe_var 3) xe_int) (xbE_ifF (xt_cmp (opE (o_eqI (i := 10) (j := 3)) rfl) (xe_var 3) xe_int) (xbE_ifF (xt_cmp (opE (o_eqI (i := 10) (j := 4)) rfl) (xe_var 3) xe_int) (xbE_ifF (xt_cmp (opE (o_eqI (i := 10) (j := 5)) rfl) (xe_var 3) xe_int) (xbE_ifF (xt_cmp (opE (o_eqI (i := 10) (j := 6)) rfl) (xe_var 3) xe_int) (xbE_ifF (xt_cmp (opE (o_eqI (i := 10) (j := 7)) rfl) (xe_var 3) xe_int) (xbE_ifF (xt_cmp (opE (o_eqI (i := 10) (j := 8)) rfl) (xe_var 3) xe_int) (xbE_ifF (xt_cmp (opE (o_eqI (i := 10) (j := 9)) rfl) (xe_var 3) xe_int) (xbE_ifT (xt_cmp (opE (o_eqI (i := 10) (j := 10)) rfl) (xe_var 3) xe_int) (xbE_call _ (d_room_left Z) (takes_of rfl rfl rfl rfl) (hr.mono (by decide)) (xa_cons (xe_var 0) (xa_cons (xe_var 1) (xa_cons (xe_lst (ds := [.int 5]) (xa_cons xe_int xa_nil)) (xa_cons (xe_var 2) xa_nil)))) (fun e q => ⟨_, _, dI [5], _, h1, h2, rfl, Dt.okS.noS h3, rfl, (congrArg resA q).symm⟩) (fun q => .inl ⟨_, _, dI [5], _, h1, h2, rfl, Dt.okS.noS h3, rfl, (congrArg resA q).symm⟩) (fun O a b => ⟨a, b⟩))))))))))))
    · show XbE _ _ _ _ _ (fun O => EndsAs O (resA (shaE K dc dh dv)))
      exact xbE_ifF (xt_cmp (opE (o_eqI (i := 11) (j := 0)) rfl) (xe_var 3) xe_int) (xbE_ifF (xt_cmp (opE (o_eqI (i := 11) (j := 1)) rfl) (xe_var 3) xe_int) (xbE_ifF (xt_cmp (opE (o_eqI (i := 11) (j := 2)) rfl) (xe_var 3) xe_int) (xbE_ifF (xt_cmp (opE (o_eqI (i := 11) (j := 3)) rfl) (xe_var 3) xe_int) (xbE_ifF (xt_cmp (opE (o_eqI (i := 11) (j := 4)) rfl) (xe_var 3) xe_int) (xbE_ifF (xt_cmp (opE (o_eqI (i := 11) (j := 5)) rfl) (xe_var 3) xe_int) (xbE_ifF (xt_cmp (opE (o_eqI (i := 11) (j := 6)) rfl) (xe_var 3) xe_int) (xbE_ifF (xt_cmp (opE (o_eqI (i := 11) (j := 7)) rfl) (xe_var 3) xe_int) (xbE_ifF (xt_cmp (opE (o_eqI (i := 11) (j := 8)) rfl) (xe_var 3) xe_int) (xbE_ifF (xt_cmp (opE (o_eqI (i := 11) (j := 9)) rfl) (xe_var 3) xe_int) (xbE_ifF (xt_cmp (opE (o_eqI (i := 11) (j := 10)) rfl) (xe_var 3) xe_int) (xbE_call _ (d__law_shared Z) (takes_of rfl rfl rfl rfl) hr (xa_cons (xe_var 0) (xa_cons (xe_var 1) (xa_cons (xe_var 2) (xa_cons (xe_var 3) xa_nil)))) (fun e q => ⟨11, _, _, _, by decide, by decide, h1, h2, h3, rfl, (congrArg resA q).symm⟩) (fun q => .inl ⟨11, _, _, _, by decide, by decide, h1, h2, h3, rfl, (congrArg resA q).symm⟩) (hQ _))))))))))))
    · show XbE _ _ _ _ _ (fun O => EndsAs O (resA (shaE K dc dh dv)))
      exact xbE_ifF (xt_cmp (opE (o_eqI (i := 12) (j := 0)) rfl) (xe_var 3) xe_int) (xbE_ifF (xt_cmp (opE (o_eqI (i := 12) (j := 1)) rfl) (xe_var 3) xe_int) (xbE_ifF (xt_cmp (opE (o_eqI (i := 12) (j := 2)) rfl) (xe_var 3) xe_int) (xbE_ifF (xt_cmp (opE (o_eqI (i := 12) (j := 3)) rfl) (xe_var 3) xe_int) (xbE_ifF (xt_cmp (opE (o_eqI (i := 12) (j := 4)) rfl) (xe_var 3) xe_int) (xbE_ifF (xt_cmp (opE (o_eqI (i := 12) (j := 5)) rfl) (xe_var 3) xe_int) (xbE_ifF (xt_cmp (opE (o_eqI (i := 12) (j := 6)) rfl) (xe_var 3) xe_int) (xbE_ifF (xt_cmp (opE (o_eqI (i := 12) (j := 7)) rfl) (xe_var 3) xe_int) (xbE_ifF (xt_cmp (opE (o_eqI (i := 12) (j := 8)) rfl) (xe_var 3) xe_int) (xbE_ifF (xt_cmp (opE (o_eqI (i := 12) (j := 9)) rfl) (xe_var 3) xe_int) (xbE_ifF (xt_cmp (opE (o_eqI (i := 12) (j := 10)) rfl) (xe_var 3) xe_int) (xbE_call _ (d__law_shared Z) (takes_of rfl rfl rfl rfl) hr (xa_cons (xe_var 0) (xa_cons (xe_var 1) (xa_cons (xe_var 2) (xa_cons (xe_var 3) xa_nil)))) (fun e q => ⟨12, _, _, _, by decide, by decide, h1, h2, h3, rfl, (congrArg resA q).symm⟩) (fun q => .inl ⟨12, _, _, _, by decide, by decide, h1, h2, h3, rfl, (congrArg resA q).symm⟩) (hQ _))))))))))))
    · show XbE _ _ _ _ _ (fun O => EndsAs O (resA (shaE K dc dh dv)))
      exact xbE_ifF (xt_cmp (opE (o_eqI (i := 13) (j := 0)) rfl) (xe_var 3) xe_int) (xbE_ifF (xt_cmp (opE (o_eqI (i := 13) (j := 1)) rfl) (xe_var 3) xe_int) (xbE_ifF (xt_cmp (opE (o_eqI (i := 13) (j := 2)) rfl) (xe_var 3) xe_int) (xbE_ifF (xt_cmp (opE (o_eqI (i := 13) (j := 3)) rfl) (xe_var 3) xe_int) (xbE_ifF (xt_cmp (opE (o_eqI (i := 13) (j := 4)) rfl) (xe_var 3) xe_int) (xbE_ifF (xt_cmp (opE (o_eqI (i := 13) (j := 5)) rfl) (xe_var 3) xe_int) (xbE_ifF (xt_cmp (opE (o_eqI (i := 13) (j := 6)) rfl) (xe_var 3) xe_int) (xbE_ifF (xt_cmp (opE (o_eqI (i := 13) (j := 7)) rfl) (xe_var 3) xe_int) (xbE_ifF (xt_cmp (opE (o_eqI (i := 13) (j := 8)) rfl) (xe_var 3) xe_int) (xbE_ifF (xt_cmp (opE (o_eqI (i := 13) (j := 9)) rfl) (xe_var 3) xe_int) (xbE_ifF (xt_cmp (opE (o_eqI (i := 13) (j := 10)) rfl) (xe_var 3) xe_int) (xbE_call _ (d__law_shared Z) (takes_of rfl rfl rfl rfl) hr (xa_cons (xe_var 0) (xa_cons (xe_var 1) (xa_cons (xe_var 2) (xa_cons (xe_var 3) xa_nil)))) (fun e q => ⟨13, _, _, _, by decide, by decide, h1, h2, h3, rfl, (congrArg resA q).symm⟩) (fun q => .inl ⟨13, _, _, _, by decide, by decide, h1, h2, h3, rfl, (congrArg resA q).symm⟩) (hQ _))))))))))))
    · show XbE _ _ _ _ _ (fun O => EndsAs O (resA (shaE K dc dh dv)))
      exact xbE_ifF (xt_cmp (opE (o_eqI (i := 14) (j := 0)) rfl) (xe_var 3) xe_int) (xbE_ifF (xt_cmp (opE (o_eqI (i := 14) (j := 1)) rfl) (xe_var 3) xe_int) (xbE_ifF (xt_cmp (opE (o_eqI (i := 14) (j := 2)) rfl) (xe_var 3) xe_int) (xbE_ifF (xt_cmp (opE (o_eqI (i := 14) (j := 3)) rfl) (xe_var 3) xe_int) (xbE_ifF (xt_cmp (opE (o_eqI (i := 14) (j := 4)) rfl) (xe_var 3) xe_int) (xbE_ifF (xt_cmp (opE (o_eqI (i := 14) (j := 5)) rfl) (xe_var 3) xe_int) (xbE_ifF (xt_cmp (opE (o_eqI (i := 14) (j := 6)) rfl) (xe_var 3) xe_int) (xbE_ifF (xt_cmp (opE (o_eqI (i := 14) (j := 7)) rfl) (xe_var 3) xe_int) (xbE_ifF (xt_cmp (opE (o_eqI (i := 14) (j := 8)) rfl) (xe_var 3) xe_int) (xbE_ifF (xt_cmp (opE (o_eqI (i := 14) (j := 9)) rfl) (xe_var 3) xe_int) (xbE_ifF (xt_cmp (opE (o_eqI (i := 14) (j := 10)) rfl) (xe_var 3) xe_int) (xbE_call _ (d__law_shared Z) (takes_of rfl rfl rfl rfl) hr (xa_cons (xe_var 0) (xa_cons (xe_var 1) (xa_cons (xe_var 2) (xa_cons (xe_var 3) xa_nil)))) (fun e q => ⟨14, _, _, _, by decide, by decide, h1, h2, h3, rfl, (congrArg resA q).symm⟩) (fun q => .inl ⟨14, _, _, _, by decide, by decide, h1, h2, h3, rfl, (congrArg resA q).symm⟩) (hQ _))))))))))))
    · show XbE _ _ _ _ _ (fun O => EndsAs O (resA (shaE K dc dh dv)))
      exact xbE_ifF (xt_cmp (opE (o_eqI (i := 15) (j := 0)) rfl) (xe_var 3) xe_int) (xbE_ifF (xt_cmp (opE (o_eqI (i := 15) (j := 1)) rfl) (xe_var 3) xe_int) (xbE_ifF (xt_cmp (opE (o_eqI (i := 15) (j := 2)) rfl) (xe_var 3) xe_int) (xbE_ifF (xt_cmp (opE (o_eqI (i := 15) (j := 3)) rfl) (xe_var 3) xe_int) (xbE_ifF (xt_cmp (opE (o_eqI (i := 15) (j := 4)) rfl) (xe_var 3) xe_int) (xbE_ifF (xt_cmp (opE (o_eqI (i := 15) (j := 5)) rfl) (xe_var 3) xe_int) (xbE_ifF (xt_cmp (opE (o_eqI (i := 15) (j := 6)) rfl) (xe_var 3) xe_int) (xbE_ifF (xt_cmp (opE (o_eqI (i := 15) (j := 7)) rfl) (xe_var 3) xe_int) (xbE_ifF (xt_cmp (opE (o_eqI (i := 15) (j := 8)) rfl) (xe_var 3) xe_int) (xbE_ifF (xt_cmp (opE (o_eqI (i := 15) (j := 9)) rfl) (xe_var 3) xe_int) (xbE_ifF (xt_cmp (opE (o_eqI (i := 15) (j := 10)) rfl) (xe_var 3) xe_int) (xbE_call _ (d__law_shared Z) (takes_of rfl rfl rfl rfl) hr (xa_cons (xe_var 0) (xa_cons (xe_var 1) (xa_cons (xe_var 2) (xa_cons (xe_var 3) xa_nil)))) (fun e q => ⟨15, _, _, _, by decide, by decide, h1, h2, h3, rfl, (congrArg resA q).symm⟩) (fun q => .inl ⟨15, _, _, _, by decide, by decide, h1, h2, h3, rfl, (congrArg resA q).symm⟩) (hQ _))))))))))))
    · show XbE _ _ _ _ _ (fun O => EndsAs O (resA (shaE K dc dh dv)))
      exact xbE_ifF (xt_cmp (opE (o_eqI (i := 16) (j := 0)) rfl) (xe_var 3) xe_int) (xbE_ifF (xt_cmp (opE (o_eqI (i := 16) (j := 1)) rfl) (xe_var 3) xe_int) (xbE_ifF (xt_cmp (opE (o_eqI (i := 16) (j := 2)) rfl) (xe_var 3) xe_int) (xbE_ifF (xt_cmp (opE (o_eqI (i := 16) (j := 3)) rfl) (xe_var 3) xe_int) (xbE_ifF (xt_cmp (opE (o_eqI (i := 16) (j := 4)) rfl) (xe_var 3) xe_int) (xbE_ifF (xt_cmp (opE (o_eqI (i := 16) (j := 5)) rfl) (xe_var 3) xe_int) (xbE_ifF (xt_cmp (opE (o_eqI (i := 16) (j := 6)) rfl) (xe_var 3) xe_int) (xbE_ifF (xt_cmp (opE (o_eqI (i := 16) (j := 7)) rfl) (xe_var 3) xe_int) (xbE_ifF (xt_cmp (opE (o_eqI (i := 16) (j := 8)) rfl) (xe_var 3) xe_int) (xbE_ifF (xt_cmp (opE (o_eqI (i := 16) (j := 9)) rfl) (xe_var 3) xe_int) (xbE_ifF (xt_cmp (opE (o_eqI (i := 16) (j := 10)) rfl) (xe_var 3) xe_int) (xbE_call _ (d__law_shared Z) (takes_of rfl rfl rfl rfl) hr (xa_cons (xe_var 0) (xa_cons (xe_var 1) (xa_cons (xe_var 2) (xa_cons (xe_var 3) xa_nil)))) (fun e q => ⟨16, _, _, _, by decide, by decide, h1, h2, h3, rfl, (congrArg resA q).symm⟩) (fun q => .inl ⟨16, _, _, _, by decide, by decide, h1, h2, h3, rfl, (congrArg resA q).symm⟩) (hQ _))))))))))))
    · show XbE _ _ _ _ _ (fun O => EndsAs O (resA (heapE (CC K) (HH K) dc dh)))
      exact xbE_ifF (xt_cmp (opE (o_eqI (i := 17) (j := 0)) rfl) (xe_var 3) xe_int) (xbE_ifF (xt_cmp (opE (o_eqI (i := 17) (j := 1)) rfl) (xe_var 3) xe_int) (xbE_ifF (xt_cmp (opE (o_eqI (i := 17) (j := 2)) rfl) (xe_var 3) xe_int) (xbE_ifF (xt_cmp (opE (o_eqI (i := 17) (j := 3)) rfl) (xe_var 3) xe_int) (xbE_ifF (xt_cmp (opE (o_eqI (i := 17) (j := 4)) rfl) (xe_var 3) xe_int) (xbE_ifF (xt_cmp (opE (o_eqI (i := 17) (j := 5)) rfl) (xe_var 3) xe_int) (xbE_ifF (xt_cmp (opE (o_eqI (i := 17) (j := 6)) rfl) (xe_var 3) xe_int) (xbE_ifF (xt_cmp (opE (o_eqI (i := 17) (j := 7)) rfl) (xe_var 3) xe_int) (xbE_ifF (xt_cmp (opE (o_eqI (i := 17) (j := 8)) rfl) (xe_var 3) xe_int) (xbE_ifF (xt_cmp (opE (o_eqI (i := 17) (j := 9)) rfl) (xe_var 3) xe_int) (xbE_ifF (xt_cmp (opE (o_eqI (i := 17) (j := 10)) rfl) (xe_var 3) xe_int) (xbE_call _ (d__law_shared Z) (takes_of rfl rfl rfl rfl) hr (xa_cons (xe_var 0) (xa_cons (xe_var 1) (xa_cons (xe_var 2) (xa_cons (xe_var 3) xa_nil)))) (fun e q => ⟨17, _, _, _, by decide, by decide, h1, h2, h3, rfl, (congrArg resA q).symm⟩) (fun q => .inl ⟨17, _, _, _, by decide, by decide, h1, h2, h3, rfl, (congrArg resA q).symm⟩) (hQ _))))))))))))
end
end Pa
namespace Pa
open PySem PySem.Spec PyProof.Rows L2
section
variable {X : Cx} {E : XK} {δ δ' : Ss} {ω ω' : Om} {n : Str} {i : Nat} {body : List Stmt} {c₁ : ExceptHandler} {cs : List ExceptHandler} {l : List (Value × Su)} {pos : Pos} {er : Err} {d : Dt}
/-- a body that runs through -/
theorem xs_tryOk (stk : X.stack = X.env :: X.outer) (frm : X.env.frame = some X.env.locals) (hN : X.N.Nodup) (hi : X.N[i]? = some n) (hloc : X.env.kindOf n = some .local) (tk : TkE X E)
    (hb : ∀ (E' : XK) (pn : List (Addr × Obj)) (xe : Value → Shared → Prop), TkE (X.tr pn xe) E' → Xb (X.tr pn xe) E' body δ ω (.nx δ' ω')) (hc : Clauses X n (c₁ :: cs) l) : Xs X E (.Try body (c₁ :: cs) [] [] pos) δ ω (.nx δ' ω') :=
  PS.sub (ps_clauses (tb := fun W => tXs (fun cls d H => ∀ σ : L2.St, σ.length = X.N.length → W cls d σ H) δ ω (.nx δ' ω')) stk frm hN hi hloc tk (fun W pn xe t _ => hb (fun cls d H => ∀ σ : L2.St, σ.length = X.N.length → W cls d σ H) pn xe (takes_len t)) hc) fun D σ H h => by
    obtain ⟨R, G, regs, e, k⟩ := h
    exact ⟨R, G, regs, e, fun σ' H' G' r' s p e' => k σ' H' G' r' s p e'⟩
/-- a body that raises, a clause that returns -/
theorem xs_tryEx (stk : X.stack = X.env :: X.outer) (frm : X.env.frame = some X.env.locals) (hN : X.N.Nodup) (hi : X.N[i]? = some n) (hloc : X.env.kindOf n = some .local) (tk : TkE X E)
    (hb : ∀ (E' : XK) (pn : List (Addr × Obj)) (xe : Value → Shared → Prop), TkE (X.tr pn xe) E' → Xb (X.tr pn xe) E' body δ ω (.ex er)) (hc : Clauses X n (c₁ :: cs) l)
    (run : ∀ (D : Ends) (σ : L2.St) (H : Hp) (cls : Value) (dd : Option Addr), σ.length = X.N.length → IsErr er cls dd H → (∀ v H' F, Same H H' → Same F H' → (∀ a, F a ≠ none → H a = none) → Den F v d → D.rt v H') → wAll X.K i (fun cls d _ H => E cls d H) D l cls dd σ H) :
    Xs X E (.Try body (c₁ :: cs) [] [] pos) δ ω (.rt d) :=
  PS.sub (ps_clauses (tb := fun W => tXs (fun cls d H => ∀ σ : L2.St, σ.length = X.N.length → W cls d σ H) δ ω (.ex er)) stk frm hN hi hloc tk (fun W pn xe t _ => hb (fun cls d H => ∀ σ : L2.St, σ.length = X.N.length → W cls d σ H) pn xe (takes_len t)) hc) fun D σ H h => by
    obtain ⟨R, G, regs, e, k⟩ := h
    refine ⟨R, G, regs, e, fun cls dd H1 sR sG ie σ1 hl => run D σ1 H1 cls dd hl ie fun v H2 F s12 sF fF dv => ?_⟩
    -- what may be read: what stood, and what is new
    have key : Same F (fun a => match G a with | some o => some o | none => F a) := fun a o ha => by
      have hG : G a = none := by
        cases q : G a with
        | none => rfl
        | some u =>
          have h1 := fF a (by rw [ha]; exact fun z => by cases z)
          rw [sG a u q] at h1
          cases h1
      simp only [hG]
      exact ha
    refine k v H2 (fun a => match G a with | some o => some o | none => F a) (fun a o ha => by simp only [ha]) (fun a o ha => ?_) (sR.trans s12) (fun a ha => ?_) (dv.mono key)
    · cases q : G a with
      | some u =>
        simp only [q] at ha
        exact s12 a o (sG a o (by rw [q]; exact ha))
      | none =>
        simp only [q] at ha
        exact sF a o ha
    · have hG := e.rg a ha
      simp only [hG]
      cases q : F a with
      | none => rfl
      | some u =>
        exfalso
        have h1 := fF a (by rw [q]; exact fun z => by cases z)
        exact ha (same_none sR h1)
end
end Pa
namespace Pa
open PySem PySem.Spec PyProof.Rows L2
/-- what the head tells of the classes beside -/
structure ClsF (K : PySem.W.Frag) (mg : Str → Option Value) : Prop where
  q1 : ExQ K (CC K)
  q2 : ExQ K (HH K)
  k1 : ExK K (CC K)
  gC : mg "BadChain" = some (.ref (CC K))
  gH : mg "BadHeap" = some (.ref (HH K))
  gN : mg "BadNumber" = some (.ref (NN K))
  gA : mg "BadAmount" = some (.ref (He.ga K "BadAmount"))
  gP : mg "PieceError" = some (.ref (He.ga K "PieceError"))
  i1 : PySem.W.kitOne K (.ref (CC K)) (.ref (HH K)) = some false
  i2 : PySem.W.kitOne K (.ref (CC K)) (.ref (He.ga K "BadAmount")) = some false
  i3 : PySem.W.kitOne K (.ref (CC K)) (.ref (He.ga K "PieceError")) = some true
  m1 : PySem.W.exmOne K (.ref (CC K)) (.ref (CC K)) = some true
  m2 : PySem.W.exmOne K (.ref (HH K)) (.ref (CC K)) = some false
  m3 : PySem.W.exmOne K (.ref (HH K)) (.ref (HH K)) = some true
  m4 : PySem.W.exmOne K (.ref (NN K)) (.ref (CC K)) = some false
  m5 : PySem.W.exmOne K (.ref (NN K)) (.ref (HH K)) = some false
  m6 : PySem.W.exmOne K (.ref (NN K)) (.ref (NN K)) = some true
theorem ClsF.ne {K : PySem.W.Frag} {mg : Str → Option Value} (Y : ClsF K mg) : HH K ≠ CC K := fun e => by
  have h2 := Y.m2
  rw [e, Y.m1] at h2
  cases h2
def refD (K : PySem.W.Frag) : Option Err → Dt
  | none => .non
  | some (.msg _) => .str "number"
  | some (.idx C i) => if C = CC K then .tup [.str "chain", .int i] else .tup [.str "heap", .int i]
def EOk (K : PySem.W.Frag) (o : Option Err) : Prop := ∀ e, o = some e → (∃ i, e = .idx (CC K) i) ∨ (∃ i, e = .idx (HH K) i) ∨ e = .msg (NN K)
theorem EOk.heap {K : PySem.W.Frag} {dc dh : Dt} : EOk K (heapE (CC K) (HH K) dc dh) := fun e h => by
  unfold heapE at h
  split at h
  · cases h
    exact .inl ⟨_, rfl⟩
  · obtain ⟨i, _, rfl⟩ := Option.map_eq_some_iff.mp h
    exact .inr (.inl ⟨i, rfl⟩)
theorem EOk.msg {K : PySem.W.Frag} {b : Bool} : EOk K (msgE (NN K) b) := fun e h => by
  unfold msgE at h
  split at h
  · cases h
  · cases h
    exact .inr (.inr rfl)
theorem EOk.or {K : PySem.W.Frag} {a b : Option Err} (h1 : EOk K a) (h2 : EOk K b) : EOk K (orE a b) := fun e h => by
  cases a with
  | some x => exact h1 e h
  | none => exact h2 e h
theorem EOk.chain {K : PySem.W.Frag} {dc : Dt} : EOk K ((chainErr dc).map (.idx (CC K))) := fun e h => by
  obtain ⟨i, _, rfl⟩ := Option.map_eq_some_iff.mp h
  exact .inl ⟨i, rfl⟩
theorem EOk.law {K : PySem.W.Frag} {k : Nat} {dc dh dv : Dt} : EOk K (lawE K k dc dh dv) := by
  unfold lawE
  repeat' split
  · exact .or .heap .msg
  · exact .or (.or .heap .msg) .msg
  · exact .or .chain .msg
  · exact .or .heap .msg
  · exact .or .heap .msg
  · exact .or (.or .heap .msg) .msg
  · exact .or .heap .msg
  · exact .heap
/-- the suites -/
def suN : Su := fun _ _ _ D _ H => D.rt (.str "number") H
section
variable {P : Program} {w : World} {K : PySem.W.Frag} {mg : Str → Option Value} {base : Heap} (Z : Txt K mg)
include Z
theorem d__law_refusal (Y : ClsF K mg) : Df P w K mg base (L2.CX P w) 11 "_law_refusal" 4 (fun ds r => ∃ (k : Nat) (dc dh dv : Dt), k ≤ 17 ∧ dc.okS = true ∧ dh.okS = true ∧ dv.okS = true ∧ ds = [dc, dh, dv, .int k] ∧ r = .ok (refD K (lawE K k dc dh dv))) :=
  Df.mk' Z.f__law_refusal sc__law_refusal (fun _ _ _ _ _ _ us hl => match us, hl with | [_, _, _, _], _ => rfl) fun f cdv A outer s H E ds r hr hn hR => by
    obtain ⟨k, dc, dh, dv, hk, h1, h2, h3, rfl, rfl⟩ := hR
    have nd := sc__law_refusal.nd
    have vs : ∀ {n : Str}, (defScope s__law_refusal).names.lookup n = some .local → Vis (cxOf (L2.CX P w) P w K mg base ["chain", "heap", "value", "which", "e"] "_law_refusal" (defScope s__law_refusal) f cdv A outer s H E).env.scope n := fun h => .inl h
    have C3 : Clauses (cxOf (L2.CX P w) P w K mg base ["chain", "heap", "value", "which", "e"] "_law_refusal" (defScope s__law_refusal) f cdv A outer s H E) "e" (match (defBody s__law_refusal).getD 0 (.Pass ⟨0, 0, 0, 0⟩) with | .Try _ hs _ _ _ => hs | _ => []) [(.ref (CC K), tTell 4 (CC K) "chain"), (.ref (HH K), tTell 4 (HH K) "heap"), (.ref (NN K), suN)] := by
      refine .cons ⟨rfl, by decide, .inl Y.gC⟩ (fun a oe cls d pn hz hf => ?_) (.cons ⟨rfl, by decide, .inl Y.gH⟩ (fun a oe cls d pn hz hf => pss_one (ps_tell (i := 4) Y.q2 rfl (.inl rfl) hz hf)) (.cons ⟨rfl, by decide, .inl Y.gN⟩ (fun a oe cls d pn hz hf => PSs.sub (pss_one (ps_ret pe_str)) fun D σ H h => h) .nil))
      by_cases hec : cls = .ref (CC K)
      · refine PSs.sub (pss_cons (ps_if (PW.pt (pw_or (pt_ask (i := 4) Y.q1 Y.k1 Z.b_isinstance Y.gH Y.i1 rfl (.inl rfl) hz hf hec) (pw_or (pt_ask (i := 4) Y.q1 Y.k1 Z.b_isinstance Y.gA Y.i2 rfl (.inl rfl) hz hf hec) (pw_or1 (pt_not (pt_ask (i := 4) Y.q1 Y.k1 Z.b_isinstance Y.gP Y.i3 rfl (.inl rfl) hz hf hec)))))) pss_never pss_nil) (pss_one (ps_tell (i := 4) Y.q1 rfl (.inl rfl) hz hf))) fun D σ H h => ?_
        obtain ⟨m, hm, fin⟩ := h
        exact ⟨⟨m, hm⟩, ⟨m, hm⟩, ⟨m, hm⟩, m, hm, fin⟩
      · exact PSs.sub pss_never fun D σ H h => by
          obtain ⟨m, hm, _⟩ := h
          exact hec hm.cl
    have body := fun (E' : XK) (pn : List (Addr × Obj)) (xe : Value → Shared → Prop) (tk : TkE ((cxOf (L2.CX P w) P w K mg base ["chain", "heap", "value", "which", "e"] "_law_refusal" (defScope s__law_refusal) f cdv A outer s H E).tr pn xe) E') => tk
    cases q : lawE K k dc dh dv with
    | none =>
      exact ⟨.rt .non, rfl, xb_cons (xs_tryOk (i := 4) rfl rfl nd rfl rfl (takes_of rfl rfl rfl rfl) (fun E' pn xe tk => xb_cons (xs_exprV (xv_call (d__law_called Z) passL hr (xa_cons (xe_var 0) (xa_cons (xe_var 1) (xa_cons (xe_var 2) (xa_cons (xe_var 3) xa_nil)))) ⟨k, _, _, _, Nat.zero_le _, hk, h1, h2, h3, rfl, (congrArg resA q).symm⟩)) xb_nil) C3) (xb_stop (xs_ret xe_non) trivial)⟩
    | some e =>
      refine ⟨.rt _, rfl, xb_stop (xs_tryEx (i := 4) (er := e) rfl rfl nd rfl rfl (takes_of rfl rfl rfl rfl) (fun E' pn xe tk => xb_stop (xs_exprZ (xz_call (d__law_called Z) tk hr (xa_cons (xe_var 0) (xa_cons (xe_var 1) (xa_cons (xe_var 2) (xa_cons (xe_var 3) xa_nil)))) ⟨k, _, _, _, Nat.zero_le _, hk, h1, h2, h3, rfl, (congrArg resA q).symm⟩)) trivial) C3 fun D σ H cls dd hl ie fin => ?_) trivial⟩
      have put : ∀ a : Addr, (σ.set 4 (some (V.ref a)))[4]? = some (some (.ref a)) := fun a => List.getElem?_set_self (by rw [hl]; exact Nat.le_of_ble_eq_true rfl)
      have told : ∀ (tx : Str) (m : Int) (p : Addr), refD K (some e) = .tup [.str tx, .int m] → H p = none → D.rt (.ref p) (upd H p (.tup [.str tx, .int m])) := fun tx m p he hp => by
        refine fin (.ref p) _ (fun a => if a = p then some (.tup [.str tx, .int m]) else none) (same_new hp) (fun a o ha => ?_) (fun a ha => ?_) ?_
        · have ha : (if a = p then some (HO.tup [.str tx, .int m]) else none) = some o := ha
          by_cases hap : a = p
          · rw [if_pos hap] at ha
            rw [hap, upd_same]
            exact ha
          · rw [if_neg hap] at ha
            cases ha
        · by_cases hap : a = p
          · rw [hap]
            exact hp
          · exact absurd (if_neg hap) ha
        · rw [he]
          exact .tup (if_pos rfl) rfl (DenL.cons (.str tx) (.cons (.int m) .nil)).2
      rcases EOk.law e q with ⟨i, rfl⟩ | ⟨i, rfl⟩ | rfl
      · obtain ⟨rfl, d, rfl, hd⟩ := ie
        exact ⟨true, Y.m1, fun _ a ha => ⟨i, ⟨put a, rfl, d, rfl, hd⟩, fun p hp => told "chain" i p (if_pos rfl) hp⟩, (fun h => by cases h)⟩
      · obtain ⟨rfl, d, rfl, hd⟩ := ie
        exact ⟨false, Y.m2, (fun h => by cases h), fun _ => ⟨true, Y.m3, fun _ a ha => ⟨i, ⟨put a, rfl, d, rfl, hd⟩, fun p hp => told "heap" i p (if_neg Y.ne) hp⟩, (fun h => by cases h)⟩⟩
      · obtain ⟨rfl, rfl⟩ := ie
        refine ⟨false, Y.m4, (fun h => by cases h), fun _ => ⟨false, Y.m5, (fun h => by cases h), fun _ => ⟨true, Y.m6, fun _ a ha => ?_, (fun h => by cases h)⟩⟩⟩
        exact fin _ H (fun _ => none) (.refl _) (fun a o h => by cases h) (fun a h => absurd rfl h) (.str "number")
end
end Pa
namespace Pa
open PySem PySem.Spec PyProof.Rows L2
theorem LoopS.const {X : Cx} {E : XK} {t : Tg} {body : List Stmt} {δ : Ss} {ω : Om} : ∀ {ds : List Dt}, (∀ d ∈ ds, ∃ δ1 δ2, t.putS d δ = some δ1 ∧ Xb X E body δ1 ω (.nx δ2 ω) ∧ LessS δ2 δ) → LoopS X E t body ds δ ω (.nx δ ω)
  | [], _ => .nil
  | d :: ds, k => by
    obtain ⟨δ1, δ2, a, b, c⟩ := k d List.mem_cons_self
    exact .next a b c (LoopS.const fun e he => k e (List.mem_cons_of_mem _ he))
/-- a prefix of right values, then a wrong one -/
theorem fwC_at : ∀ (ns : List Int) (prev : Option Int) (k : Nat) (d : Dt), (∀ v ∈ ns, 1 ≤ v ∧ v ≤ 1000000) → (∀ p v, prev = some p → ns.head? = some v → isFollow p v = true) → (∀ i, i + 1 < ns.length → ns.getD i 0 < ns.getD (i + 1) 0 ∧ ns.getD (i + 1) 0 % ns.getD i 0 = 0) → isFT d 1 1000000 = false → fwC prev (ns.map Dt.int ++ [d]) k = some (k + ns.length)
  | [], prev, k, d, _, _, _, hd => by
    cases d with
    | int v => cases prev <;> (show (if isFT (.int v) 1 1000000 = true then _ else some k) = some k; rw [hd]; rfl)
    | _ => cases prev <;> rfl
  | v :: ns, prev, k, d, a, b, s, hd => by
    have e : fwC (some v) (ns.map Dt.int ++ [d]) (k + 1) = some (k + 1 + ns.length) := by
      refine fwC_at ns (some v) (k + 1) d (fun u hu => a u (List.mem_cons_of_mem _ hu)) (fun p u hp hu => ?_) (fun i hi => ?_) hd
      · cases hp
        cases ns with
        | nil => cases hu
        | cons u' ns' =>
          cases hu
          have := s 0 (by simp)
          have this : v < u ∧ u % v = 0 := this
          unfold isFollow
          rw [decide_eq_true this.1, decide_eq_true this.2]
          rfl
      · exact s (i + 1) (by simpa using hi)
    have e2 : k + 1 + ns.length = k + (v :: ns).length := by rw [List.length_cons]; omega
    rw [e2] at e
    cases prev with
    | none =>
      show (if isFT (.int v) 1 1000000 = true then fwC (some v) (ns.map Dt.int ++ [d]) (k + 1) else some k) = _
      rw [if_pos (isFT_of (a v List.mem_cons_self)), e]
    | some p =>
      show (if isFT (.int v) 1 1000000 = true then (if isFollow p v = true then fwC (some v) (ns.map Dt.int ++ [d]) (k + 1) else some k) else some k) = _
      rw [if_pos (isFT_of (a v List.mem_cons_self)), if_pos (b p v rfl rfl), e]
theorem fwH_at : ∀ (ns : List Int) (k : Nat) (d : Dt) (rest : List Dt), (∀ v ∈ ns, 0 ≤ v ∧ v ≤ 99) → isFT d 0 99 = false → fwH (ns.map Dt.int ++ d :: rest) k = some (k + ns.length)
  | [], k, d, rest, _, hd => by
    show (if isFT d 0 99 = true then _ else some k) = some k
    rw [hd]
    rfl
  | v :: ns, k, d, rest, a, hd => by
    show (if isFT (.int v) 0 99 = true then fwH (ns.map Dt.int ++ d :: rest) (k + 1) else some k) = _
    rw [if_pos (isFT_of (a v List.mem_cons_self)), fwH_at ns (k + 1) d rest (fun u hu => a u (List.mem_cons_of_mem _ hu)) hd, List.length_cons]
    congr 1
    omega
theorem chainErr_at {c : List Int} {at' : Nat} {d : Dt} (hc : Chn c) (ha : at' < c.length) (hd : isFT d 1 1000000 = false) : chainErr (.lst ((c.take at').map Dt.int ++ [d])) = some (at' : Int) := by
  have l8 := hc.len8
  have hl : (c.take at').length = at' := by rw [List.length_take]; omega
  have e := fwC_at (c.take at') none 0 d (fun v hv => hc.rg v (List.mem_of_mem_take hv)) (fun p v hp => by cases hp) (fun i hi => by
    rw [hl] at hi
    rw [take_getD (by omega), take_getD (by omega)]
    exact hc.st i (by omega)) hd
  rw [hl, Nat.zero_add] at e
  show (if isListed (.lst ((c.take at').map Dt.int ++ [d])) = true then (fwC none ((c.take at').map Dt.int ++ [d]) 0).map Int.ofNat else some (-1)) = _
  have hls : isListed (.lst ((c.take at').map Dt.int ++ [d])) = true := by
    show (decide ((1 : Int) ≤ (((c.take at').map Dt.int ++ [d]).length : Int)) && decide ((((c.take at').map Dt.int ++ [d]).length : Int) ≤ 8)) = true
    rw [List.length_append, List.length_map, hl]
    show (decide ((1 : Int) ≤ ((at' + 1 : Nat) : Int)) && decide (((at' + 1 : Nat) : Int) ≤ 8)) = true
    rw [decide_eq_true (by omega), decide_eq_true (by omega)]
    rfl
  rw [if_pos hls, e]
  rfl
theorem heapErr_len {m : Nat} {xs : List Dt} (h : xs.length ≠ m) : heapErr m (.lst xs) = some (-1) := if_neg h
theorem heapErr_at {c h : List Int} {at' : Nat} {d : Dt} (hh : Hep c h) (ha : at' < c.length) (hd : isFT d 0 99 = false) : heapErr c.length (.lst ((h.take at').map Dt.int ++ [d] ++ (h.drop (at' + 1)).map Dt.int)) = some (at' : Int) := by
  have hl := hh.len
  have hlt : (h.take at').length = at' := by rw [List.length_take]; omega
  have e := fwH_at (h.take at') 0 d ((h.drop (at' + 1)).map Dt.int) (fun v hv => hh.rg v (List.mem_of_mem_take hv)) hd
  rw [hlt, Nat.zero_add] at e
  rw [List.append_assoc]
  show (if ((h.take at').map Dt.int ++ ([d] ++ (h.drop (at' + 1)).map Dt.int)).length = c.length then (fwH ((h.take at').map Dt.int ++ ([d] ++ (h.drop (at' + 1)).map Dt.int)) 0).map Int.ofNat else some (-1)) = _
  rw [if_pos (by rw [List.length_append, List.length_map, hlt, List.length_append, List.length_map, List.length_drop]; show at' + (1 + (h.length - (at' + 1))) = c.length; omega)]
  show (fwH ((h.take at').map Dt.int ++ d :: (h.drop (at' + 1)).map Dt.int) 0).map Int.ofNat = _
  rw [e]
  rfl
theorem okS_app {xs ys : List Dt} (h1 : (Dt.lst xs).okS = true) (h2 : (Dt.lst ys).okS = true) : (Dt.lst (xs ++ ys)).okS = true := by
  have h1 : xs.all Dt.noS = true := h1
  have h2 : ys.all Dt.noS = true := h2
  show (xs ++ ys).all Dt.noS = true
  rw [List.all_append, h1, h2]
  rfl
def odds (c : List Int) (k : Nat) : List Dt :=
  if k < 6 then [.non, .lst [], dI (List.replicate 9 1), .tup [.int 1], .lst [.int (-1)], .lst [.int 1000001], .lst [.bl true], .lst [.int 1, .non], .int 5]
  else if k < 9 then [.int 0, .int (-1), .bl true, .non, .str "1", .lst [.int 5], .int 1000001]
  else if k = 9 then [.int 0, .int 9, .bl true, .non, .str "1", .lst [.int 5]]
  else if k = 10 then [.int (-1), .int c.length, .bl true, .non, .str "1"]
  else [.int 1, .int 9, .int 0, .int (-2), .bl true, .non, .str "2", .lst [.int 2]]
end Pa
namespace Pa
open PySem PySem.Spec PyProof.Rows L2
section
variable {K : PySem.W.Frag} {k : Nat} {dc dh dv : Dt}
theorem lawE_chain {i : Int} (h : chainErr dc = some i) : lawE K k dc dh dv = some (.idx (CC K) i) := by
  have hE : heapE (CC K) (HH K) dc dh = some (.idx (CC K) i) := by unfold heapE; rw [h]
  unfold lawE rmE layE hoE coE shaE
  rw [hE, h]
  repeat' split
  all_goals rfl
theorem lawE_heap {i : Int} (h : chainErr dc = none) (h2 : heapErr (lenD dc) dh = some i) (hk : k ≠ 5) : lawE K k dc dh dv = some (.idx (HH K) i) := by
  have hE : heapE (CC K) (HH K) dc dh = some (.idx (HH K) i) := by unfold heapE; rw [h, h2]; rfl
  unfold lawE rmE layE hoE coE shaE
  rw [hE, if_neg hk]
  repeat' split
  all_goals rfl
theorem lawE_box (hC : chainErr dc = none) (hE : heapE (CC K) (HH K) dc dh = none) (hk : k < 6) (hb : boxesOk dv = false) : lawE K k dc dh dv = some (.msg (NN K)) := by
  unfold lawE rmE layE
  rw [hE, hC, hb]
  by_cases h4 : k < 4
  · rw [if_pos h4]
    rfl
  · rw [if_neg h4]
    by_cases h5 : k = 4
    · rw [if_pos h5]
      rfl
    · rw [if_neg h5, if_pos (by omega)]
      rfl
theorem lawE_num (hE : heapE (CC K) (HH K) dc dh = none) (h6 : 6 ≤ k) (h16 : k ≤ 16) (b : Bool) (hb : (if k < 9 then isFT dv 1 1000000 else if k = 9 then isFT dv 1 8 else if k = 10 then isFT dv 0 ((lenD dc : Int) - 1) else isFT dv 2 8) = b) : lawE K k dc dh dv = msgE (NN K) b := by
  have hb5 : boxesOk (dI [5]) = true := by decide
  unfold lawE rmE layE hoE coE shaE
  rw [hE, if_neg (by omega), if_neg (by omega), if_neg (by omega), hb5]
  by_cases h9 : k < 9
  · rw [if_pos h9] at hb ⊢
    rw [hb]
    rfl
  · rw [if_neg h9] at hb ⊢
    by_cases e9 : k = 9
    · rw [if_pos e9] at hb ⊢
      rw [hb]
      rfl
    · rw [if_neg e9] at hb ⊢
      by_cases e10 : k = 10
      · rw [if_pos e10] at hb ⊢
        rw [hb]
        rfl
      · rw [if_neg e10] at hb ⊢
        rw [if_pos (by omega), hb]
        rfl
end
/-- what the law takes for right -/
def goodD (c : List Int) (k : Nat) : Dt := if k = 10 then .int ((c.length : Int) - 1) else if 5 < k then .int 8 else dI (List.replicate 8 1000000)
theorem lawE_good {K : PySem.W.Frag} {c h : List Int} {k : Nat} (hc : Chn c) (hh : Hep c h) (hk : k ≤ 17) : lawE K k (dI c) (dI h) (goodD c k) = none := by
  have hE := heapE_good (C := CC K) (H := HH K) hc hh
  have l0 := hc.len0
  by_cases h6 : k < 6
  · have e : goodD c k = dI (List.replicate 8 1000000) := by unfold goodD; rw [if_neg (by omega), if_neg (by omega)]
    have hb : boxesOk (dI (List.replicate 8 1000000)) = true := by decide +kernel
    rw [e]
    unfold lawE rmE layE
    rw [hE, hc.err, hb]
    by_cases h4 : k < 4
    · rw [if_pos h4]
      rfl
    · rw [if_neg h4]
      by_cases h5 : k = 4
      · rw [if_pos h5, lenD_dI]
        have : isFT (.int 0) 0 ((c.length : Int) - 1) = true := isFT_of ⟨by decide, by omega⟩
        rw [this]
        rfl
      · rw [if_neg h5, if_pos (by omega)]
        rfl
  · by_cases h17 : k = 17
    · subst h17
      exact hE
    · refine (lawE_num hE (by omega) (by omega) true ?_).trans rfl
      rw [lenD_dI]
      unfold goodD
      by_cases h9 : k < 9
      · rw [if_pos h9, if_neg (by omega), if_pos (by omega)]
        decide
      · rw [if_neg h9]
        by_cases e9 : k = 9
        · rw [if_pos e9, if_neg (by omega), if_pos (by omega)]
          decide
        · rw [if_neg e9]
          by_cases e10 : k = 10
          · rw [if_pos e10, if_pos e10]
            exact isFT_of ⟨by omega, by omega⟩
          · rw [if_neg e10, if_neg e10, if_pos (by omega)]
            decide
theorem lawE_odd {K : PySem.W.Frag} {c h : List Int} {k : Nat} {d : Dt} (hc : Chn c) (hh : Hep c h) (hk : k ≤ 16) (hd : d ∈ odds c k) : d.okS = true ∧ lawE K k (dI c) (dI h) d = some (.msg (NN K)) := by
  have hE := heapE_good (C := CC K) (H := HH K) hc hh
  unfold odds at hd
  by_cases h6 : k < 6
  · rw [if_pos h6] at hd
    have a : ∀ d ∈ ([.non, .lst [], dI (List.replicate 9 1), .tup [.int 1], .lst [.int (-1)], .lst [.int 1000001], .lst [.bl true], .lst [.int 1, .non], .int 5] : List Dt), d.okS = true ∧ boxesOk d = false := by decide +kernel
    exact ⟨(a d hd).1, lawE_box hc.err hE h6 (a d hd).2⟩
  · rw [if_neg h6] at hd
    have fin : d.okS = true ∧ (if k < 9 then isFT d 1 1000000 else if k = 9 then isFT d 1 8 else if k = 10 then isFT d 0 ((lenD (dI c) : Int) - 1) else isFT d 2 8) = false → d.okS = true ∧ lawE K k (dI c) (dI h) d = some (.msg (NN K)) := fun ⟨a, b⟩ => ⟨a, (lawE_num hE (by omega) hk false b).trans rfl⟩
    apply fin
    by_cases h9 : k < 9
    · rw [if_pos h9] at hd ⊢
      have a : ∀ d ∈ ([.int 0, .int (-1), .bl true, .non, .str "1", .lst [.int 5], .int 1000001] : List Dt), d.okS = true ∧ isFT d 1 1000000 = false := by decide +kernel
      exact a d hd
    · rw [if_neg h9] at hd ⊢
      by_cases e9 : k = 9
      · rw [if_pos e9] at hd ⊢
        have a : ∀ d ∈ ([.int 0, .int 9, .bl true, .non, .str "1", .lst [.int 5]] : List Dt), d.okS = true ∧ isFT d 1 8 = false := by decide +kernel
        exact a d hd
      · rw [if_neg e9] at hd ⊢
        by_cases e10 : k = 10
        · rw [if_pos e10] at hd ⊢
          rw [lenD_dI]
          simp only [List.mem_cons, List.not_mem_nil, or_false] at hd
          rcases hd with rfl | rfl | rfl | rfl | rfl
          · exact ⟨rfl, by show (decide ((0 : Int) ≤ -1) && decide ((-1 : Int) ≤ (c.length : Int) - 1)) = false; rw [decide_eq_false (show ¬ (0 : Int) ≤ -1 by omega), Bool.false_and]⟩
          · exact ⟨rfl, by show (decide ((0 : Int) ≤ (c.length : Int)) && decide ((c.length : Int) ≤ (c.length : Int) - 1)) = false; rw [decide_eq_false (show ¬ (c.length : Int) ≤ (c.length : Int) - 1 by omega), Bool.and_false]⟩
          · exact ⟨rfl, rfl⟩
          · exact ⟨rfl, rfl⟩
          · exact ⟨rfl, rfl⟩
        · rw [if_neg e10] at hd ⊢
          have a : ∀ d ∈ ([.int 1, .int 9, .int 0, .int (-2), .bl true, .non, .str "2", .lst [.int 2]] : List Dt), d.okS = true ∧ isFT d 2 8 = false := by decide +kernel
          exact a d hd
section
variable {P : Program} {w : World} {K : PySem.W.Frag} {mg : Str → Option Value} {base : Heap} (Z : Txt K mg)
include Z
theorem d__law_odds : Df P w K mg base (L2.CX P w) 1 "_law_odds" 2 (fun ds r => ∃ c, ∃ k : Nat, k ≤ 16 ∧ ds = [dI c, .int k] ∧ r = .ok (.lst (odds c k))) :=
  Df.mk' Z.f__law_odds sc__law_odds (fun _ _ _ _ _ _ us hl => match us, hl with | [_, _], _ => rfl) fun f cdv A outer s H E ds r hr hn hR => by
    obtain ⟨c, k, hk, rfl, rfl⟩ := hR
    unfold odds
    have m1 : ∀ {X : Cx} {δ : Sl} {p q : Pos} {j : Nat}, Xe X (.UnaryOp .USub (.Constant (.int 1) j p) q) δ (.int (-1)) := fun {_ _ _ _ _} => xe_un o_neg xe_int
    by_cases h6 : k < 6
    · rw [if_pos h6]
      exact ⟨.rt _, rfl, xb_stop (xs_if (c := true) (xt_cmp (opE (o_lt (i := (k : Int)) (j := 6)) (decide_eq_true (by omega))) (xe_var 1) xe_int) (fun _ => xb_stop (xs_ret (xe_lst (xa_cons xe_non (xa_cons (xe_lst xa_nil) (xa_cons (xe_op (o_repI (x := 1) (n := 9) (by decide) (by decide)) (xe_lst (xa_cons xe_int xa_nil)) xe_int) (xa_cons (xe_tup (xa_cons xe_int xa_nil)) (xa_cons (xe_lst (xa_cons (xe_un o_neg xe_int) xa_nil)) (xa_cons (xe_lst (xa_cons xe_int xa_nil)) (xa_cons (xe_lst (xa_cons xe_bl xa_nil)) (xa_cons (xe_lst (xa_cons xe_int (xa_cons xe_non xa_nil))) (xa_cons xe_int xa_nil))))))))))) trivial) (fun h => by cases h)) trivial⟩
    · rw [if_neg h6]
      have s6 := fun {X : Cx} => opE (X := X) (o_lt (i := (k : Int)) (j := 6)) (decide_eq_false (by omega))
      by_cases h9 : k < 9
      · rw [if_pos h9]
        exact ⟨.rt _, rfl, xb_cons (xs_if (c := false) (xt_cmp s6 (xe_var 1) xe_int) (fun h => by cases h) (fun _ => xb_nil)) (xb_stop (xs_if (c := true) (xt_cmp (opE (o_lt (i := (k : Int)) (j := 9)) (decide_eq_true (by omega))) (xe_var 1) xe_int) (fun _ => xb_stop (xs_ret (xe_lst (xa_cons xe_int (xa_cons (xe_un o_neg xe_int) (xa_cons xe_bl (xa_cons xe_non (xa_cons xe_str (xa_cons (xe_lst (xa_cons xe_int xa_nil)) (xa_cons xe_int xa_nil))))))))) trivial) (fun h => by cases h)) trivial)⟩
      · rw [if_neg h9]
        have s9 := fun {X : Cx} => opE (X := X) (o_lt (i := (k : Int)) (j := 9)) (decide_eq_false (by omega))
        by_cases e9 : k = 9
        · rw [if_pos e9]
          exact ⟨.rt _, rfl, xb_cons (xs_if (c := false) (xt_cmp s6 (xe_var 1) xe_int) (fun h => by cases h) (fun _ => xb_nil)) (xb_cons (xs_if (c := false) (xt_cmp s9 (xe_var 1) xe_int) (fun h => by cases h) (fun _ => xb_nil))
            (xb_stop (xs_if (c := true) (xt_cmp (opE (o_eqI (i := (k : Int)) (j := 9)) (decide_eq_true (by omega))) (xe_var 1) xe_int) (fun _ => xb_stop (xs_ret (xe_lst (xa_cons xe_int (xa_cons xe_int (xa_cons xe_bl (xa_cons xe_non (xa_cons xe_str (xa_cons (xe_lst (xa_cons xe_int xa_nil)) xa_nil)))))))) trivial) (fun h => by cases h)) trivial))⟩
        · rw [if_neg e9]
          have t9 := fun {X : Cx} => opE (X := X) (o_eqI (i := (k : Int)) (j := 9)) (decide_eq_false (by omega))
          by_cases e10 : k = 10
          · rw [if_pos e10]
            exact ⟨.rt _, rfl, xb_cons (xs_if (c := false) (xt_cmp s6 (xe_var 1) xe_int) (fun h => by cases h) (fun _ => xb_nil)) (xb_cons (xs_if (c := false) (xt_cmp s9 (xe_var 1) xe_int) (fun h => by cases h) (fun _ => xb_nil)) (xb_cons (xs_if (c := false) (xt_cmp t9 (xe_var 1) xe_int) (fun h => by cases h) (fun _ => xb_nil))
              (xb_stop (xs_if (c := true) (xt_cmp (opE (o_eqI (i := (k : Int)) (j := 10)) (decide_eq_true (by omega))) (xe_var 1) xe_int) (fun _ => xb_stop (xs_ret (xe_lst (xa_cons (xe_un o_neg xe_int) (xa_cons (xe_callB c_lenI Z.b_len boot_len (xa_cons (xe_var 0) xa_nil)) (xa_cons xe_bl (xa_cons xe_non (xa_cons xe_str xa_nil))))))) trivial) (fun h => by cases h)) trivial)))⟩
          · rw [if_neg e10]
            have t10 := fun {X : Cx} => opE (X := X) (o_eqI (i := (k : Int)) (j := 10)) (decide_eq_false (by omega))
            exact ⟨.rt _, rfl, xb_cons (xs_if (c := false) (xt_cmp s6 (xe_var 1) xe_int) (fun h => by cases h) (fun _ => xb_nil)) (xb_cons (xs_if (c := false) (xt_cmp s9 (xe_var 1) xe_int) (fun h => by cases h) (fun _ => xb_nil)) (xb_cons (xs_if (c := false) (xt_cmp t9 (xe_var 1) xe_int) (fun h => by cases h) (fun _ => xb_nil)) (xb_cons (xs_if (c := false) (xt_cmp t10 (xe_var 1) xe_int) (fun h => by cases h) (fun _ => xb_nil))
              (xb_stop (xs_ret (xe_lst (xa_cons xe_int (xa_cons xe_int (xa_cons xe_int (xa_cons (xe_un o_neg xe_int) (xa_cons xe_bl (xa_cons xe_non (xa_cons xe_str (xa_cons (xe_lst (xa_cons xe_int xa_nil)) xa_nil)))))))))) trivial))))⟩
end
end Pa
namespace Pa
open PySem PySem.Spec PyProof.Rows L2
theorem heap0_ok {script : List Int} {at' : Nat} {c : List Int} (hc : Chn c) : Hep c (heap0 script at' c 9) := by
  refine ⟨by unfold heap0; rw [List.length_map, lawNums_len], fun v hv => ?_⟩
  unfold heap0 at hv
  obtain ⟨u, _, rfl⟩ := List.mem_map.mp hv
  show 0 ≤ u % (1 + 9) ∧ u % (1 + 9) ≤ 99
  omega
section
variable {P : Program} {w : World} {K : PySem.W.Frag} {mg : Str → Option Value} {base : Heap} (Z : Txt K mg)
include Z
theorem law_ok (Y : ClsF K mg) {fo : Addr} {fdo : FuncData} (Fd : FunD K "law" "law" (defArgs s_law) (defBody s_law) (defScope s_law) [] [] fo fdo) : FnOk P w K mg base CX0 12 fo fdo ["script"] (spF 1 fun ds r => ∃ script, ds = [.scr K script] ∧ r = .ok (.bl true)) :=
  fn_mk Fd sc_law fun f cdv A outer s H E ds r hr hn hR => by
    obtain ⟨script, rfl, rfl⟩ := hR
    have nd := sc_law.nd
    have hu := hr.units
    have hc : Chn (lawChain script 0 6) := lawChain_ok (by decide) (by decide)
    have hcl := lawChain_len (script := script) (at' := 0) (most := 6) (by decide)
    have hx := lawNums_rg (script := script) (at' := 2) (many := 1) (k := 0) (by decide)
    have hxl : (lawNums script 2 1).length = 1 := lawNums_len
    have hh : Hep (lawChain script 0 6) (heap0 script 1 (lawChain script 0 6) 9) := heap0_ok hc
    generalize hec : lawChain script 0 6 = c at *
    generalize hen : lawNums script 2 1 = ns at *
    generalize heh : heap0 script 1 c 9 = h at *
    have l8 := hc.len8
    have l0 := hc.len0
    have hl := hh.len
    have ha0 := Int.emod_nonneg (ns.getD 0 0) (show (c.length : Int) ≠ 0 by omega)
    have ha1 := Int.emod_lt_of_pos (ns.getD 0 0) (show 0 < (c.length : Int) by omega)
    have ea : ns.getD 0 0 % (c.length : Int) = (((ns.getD 0 0 % (c.length : Int)).toNat : Nat) : Int) := by omega
    have hat : (ns.getD 0 0 % (c.length : Int)).toNat < c.length := by omega
    generalize hq : (ns.getD 0 0 % (c.length : Int)).toNat = a at *
    refine ⟨.rt (.bl true), rfl, xb_cons (xs_sh (i := 1) (d := dI c) nd (xe_call (d__law_chain Z) passL (hr.mono (by decide)) (xa_cons (xe_var 0) (xa_cons xe_int (xa_cons xe_int xa_nil))) ⟨script, 0, 6, by decide, by decide, by decide, rfl, by rw [hec]⟩))
      (xb_cons (xs_sh (i := 2) (d := dI h) nd (xe_call (d__law_heap Z) passL (hr.mono (by decide)) (xa_cons (xe_var 0) (xa_cons xe_int (xa_cons (xe_var 1) (xa_cons xe_int xa_nil)))) ⟨script, 1, c, 9, hc, by decide, by decide, rfl, by rw [heh]⟩))
      (xb_cons (xs_flat (i := 3) (d := .int (a : Nat)) nd (xeE (xe_op (o_mod (i := ns.getD 0 0) (j := (c.length : Int)) (by omega)) (xe_ix (i_int (k := 0) (ns := ns) (by decide) (by omega)) (xe_call (d__law_numbers Z) passL (hr.mono (by decide)) (xa_cons (xe_var 0) (xa_cons xe_int (xa_cons xe_int xa_nil))) ⟨script, 2, 1, by decide, by decide, rfl, by rw [hen]⟩) xe_int) (xe_callB c_lenI Z.b_len boot_len (xa_cons (xe_var 1) xa_nil))) (congrArg Dt.int ea)))
      (xb_cons (xs_for (.one 4) (passes_of rfl) (xi_range1 (n := 18) Z.b_range (xa_cons xe_int xa_nil) (by omega) (by omega)) (xg_one nd)
        (LoopS.runI 18 (fun _ => [some (.sh (.scr K script)), some (.sh (dI c)), some (.sh (dI h)), some (.sh (.int (a : Nat))), none, none, none]) (fun _ => []) rfl rfl rfl fun k hk => ?_))
      (xb_stop (xs_ret xe_bl) trivial))))⟩
    have hk17 : k ≤ 17 := by omega
    -- the parts of a turn
    have p1 : ∀ d ∈ ([.non, .lst [], .tup (c.map Dt.int), dI (List.replicate 9 1)] : List Dt), d.okS = true ∧ chainErr d = some (-1) := fun d hd => by
      simp only [List.mem_cons, List.not_mem_nil, or_false] at hd
      rcases hd with rfl | rfl | rfl | rfl
      · exact ⟨rfl, rfl⟩
      · exact ⟨rfl, by decide⟩
      · exact ⟨rfl, rfl⟩
      · exact ⟨by decide, by decide +kernel⟩
    have p2 : ∀ d ∈ ([.int 0, .non, .bl true, .int (-1)] : List Dt), d.noS = true ∧ isFT d 1 1000000 = false := by decide +kernel
    have p3 : ∀ d ∈ ([.non, dI (h.drop 1), .lst (h.map Dt.int ++ [.int 0]), .tup (h.map Dt.int)] : List Dt), d.okS = true ∧ heapErr c.length d = some (-1) := fun d hd => by
      simp only [List.mem_cons, List.not_mem_nil, or_false] at hd
      rcases hd with rfl | rfl | rfl | rfl
      · exact ⟨rfl, rfl⟩
      · exact ⟨okS_dI _, heapErr_len (by rw [List.length_map, List.length_drop]; omega)⟩
      · exact ⟨okS_app (okS_dI h) rfl, heapErr_len (by rw [List.length_append, List.length_map]; show h.length + 1 ≠ c.length; omega)⟩
      · exact ⟨rfl, rfl⟩
    have p4 : ∀ d ∈ ([.int (-1), .int 100, .bl true, .non] : List Dt), d.noS = true ∧ isFT d 0 99 = false := by decide +kernel
    have okE : ∀ {d : Dt}, d.noS = true → (Dt.lst [d]).okS = true := fun {d} hd => by
      show ([d].all Dt.noS) = true
      rw [List.all_cons, hd]
      rfl
    have rC : ∀ i : Int, refD K (some (.idx (CC K) i)) = .tup [.str "chain", .int i] := fun i => if_pos rfl
    have rH : ∀ i : Int, refD K (some (.idx (HH K) i)) = .tup [.str "heap", .int i] := fun i => if_neg Y.ne
    have gC : ∀ {dc dh dv : Dt} {i : Int}, chainErr dc = some i → Res.ok (.tup [.str "chain", .int i]) = .ok (refD K (lawE K k dc dh dv)) := fun {dc dh dv i} e => by rw [lawE_chain e, rC]
    have gH : ∀ {dh dv : Dt} {i : Int}, k ≠ 5 → heapErr c.length dh = some i → Res.ok (.tup [.str "heap", .int i]) = .ok (refD K (lawE K k (dI c) dh dv)) := fun {dh dv i} h5 e => by rw [lawE_heap hc.err (by rw [lenD_dI]; exact e) h5, rH]
    have okT : ∀ d : Dt, d.noS = true → (Dt.lst ((c.take a).map Dt.int ++ [d])).okS = true := fun d hd => okS_app (okS_dI (c.take a)) (okE hd)
    have okU : ∀ d : Dt, d.noS = true → (Dt.lst ((h.take a).map Dt.int ++ [d] ++ (h.drop (a + 1)).map Dt.int)).okS = true := fun d hd => okS_app (okS_app (okS_dI (h.take a)) (okE hd)) (okS_dI (h.drop (a + 1)))
    have tl : (c.take a).length ≤ 8 := by rw [List.length_take]; omega
    have tl2 : (h.take a).length ≤ 8 := by rw [List.length_take]; omega
    have tl3 : (h.drop (a + 1)).length ≤ 8 := by rw [List.length_drop]; omega
    have ea1 : ((a : Int) + 1).toNat = a + 1 := by omega
    refine ⟨_, [some (.sh (.scr K script)), some (.sh (dI c)), some (.sh (dI h)), some (.sh (.int (a : Nat))), some (.sh (.int (k : Nat))), none, none], rfl, ?_, (by repeat (first | exact LessS.nil | apply LessS.keep | apply LessS.drop))⟩
    refine xb_cons (xs_for (.one 5) (passes_of rfl) (xi_list (ds := [.non, .lst [], .tup (c.map Dt.int), dI (List.replicate 9 1)]) (xe_lst (xa_cons xe_non (xa_cons (xe_lst xa_nil) (xa_cons (xe_callTy c_tuple Z.b_tuple boot_tuple (xa_cons (xe_var 1) xa_nil)) (xa_cons (xe_op (o_repI (x := 1) (n := 9) (by decide) (by decide)) (xe_lst (xa_cons xe_int xa_nil)) xe_int) xa_nil)))))) (xg_one nd)
      (LoopS.const fun d hd => ⟨_, _, rfl, xb_cons (xs_if (c := false) (xt_cmp (o_neSame (x := .tup [.str "chain", .int (-1)]) hu (nod_tagInts "chain" [-1]) (shaped_tagInts "chain" (by decide +kernel) [-1])) (xe_call (d__law_refusal Z Y) passL hr (xa_cons (xe_var 5) (xa_cons xe_non (xa_cons xe_non (xa_cons (xe_var 4) xa_nil)))) ⟨k, d, .non, .non, hk17, (p1 d hd).1, rfl, rfl, rfl, gC (p1 d hd).2⟩) (xe_tup (xa_cons xe_str (xa_cons (xe_un o_neg xe_int) xa_nil)))) (fun h => by cases h) (fun _ => xb_nil)) xb_nil, (by repeat (first | exact LessS.nil | apply LessS.keep | apply LessS.drop))⟩))
      (xb_cons (xs_for (.one 5) (passes_of rfl) (xi_list (ds := [.int 0, .non, .bl true, .int (-1)]) (xe_lst (xa_cons xe_int (xa_cons xe_non (xa_cons xe_bl (xa_cons (xe_un o_neg xe_int) xa_nil)))))) (xg_one nd)
      (LoopS.const fun d hd => ⟨_, _, rfl, xb_cons (xs_if (c := false) (xt_cmp (o_neSame (x := .tup [.str "chain", .int (a : Nat)]) hu (nod_tagInts "chain" [(a : Int)]) (shaped_tagInts "chain" (by decide +kernel) [(a : Int)])) (xe_call (d__law_refusal Z Y) passL hr (xa_cons (xe_op (o_cat (ds := (c.take a).map Dt.int) (es := [d]) (by rw [List.length_map]; show (c.take a).length + 1 ≤ 1000; omega)) (xe_takeI (ns := c) (k := (a : Nat)) (by omega) (by omega) (xe_var 1) (xe_var 3)) (xe_lst (xa_cons (xe_var 5) xa_nil))) (xa_cons xe_non (xa_cons xe_non (xa_cons (xe_var 4) xa_nil)))) ⟨k, _, .non, .non, hk17, okT d (p2 d hd).1, rfl, rfl, rfl, gC (chainErr_at hc hat (p2 d hd).2)⟩) (xe_tup (xa_cons xe_str (xa_cons (xe_var 3) xa_nil)))) (fun h => by cases h) (fun _ => xb_nil)) xb_nil, (by repeat (first | exact LessS.nil | apply LessS.keep | apply LessS.drop))⟩))
      (xb_cons (δ1 := [some (.sh (.scr K script)), some (.sh (dI c)), some (.sh (dI h)), some (.sh (.int (a : Nat))), some (.sh (.int (k : Nat))), none, none]) (ω1 := []) ?_
      (xb_cons (δ1 := [some (.sh (.scr K script)), some (.sh (dI c)), some (.sh (dI h)), some (.sh (.int (a : Nat))), some (.sh (.int (k : Nat))), none, none]) (ω1 := []) ?_ ?_)))
    · by_cases h5 : k = 5
      · exact xs_if (c := false) (xt_cmp (opE o_neI (neI_same (i := (k : Int)) (j := 5) (by omega))) (xe_var 4) xe_int) (fun h => by cases h) (fun _ => xb_nil)
      · exact xs_if (c := true) (xt_cmp (opE o_neI (neI_other (i := (k : Int)) (j := 5) (by omega))) (xe_var 4) xe_int) (fun _ =>
          xb_cons (xs_for (.one 5) (passes_of rfl) (xi_list (ds := [.non, dI (h.drop 1), .lst (h.map Dt.int ++ [.int 0]), .tup (h.map Dt.int)]) (xe_lst (xa_cons xe_non (xa_cons (xe_dropI (ns := h) (k := 1) (by decide) (by omega) (xe_var 2) xe_int) (xa_cons (xe_op (o_cat (ds := h.map Dt.int) (es := [.int 0]) (by rw [List.length_map]; show h.length + 1 ≤ 1000; omega)) (xe_var 2) (xe_lst (xa_cons xe_int xa_nil))) (xa_cons (xe_callTy c_tuple Z.b_tuple boot_tuple (xa_cons (xe_var 2) xa_nil)) xa_nil)))))) (xg_one nd)
          (LoopS.const fun d hd => ⟨_, _, rfl, xb_cons (xs_if (c := false) (xt_cmp (o_neSame (x := .tup [.str "heap", .int (-1)]) hu (nod_tagInts "heap" [-1]) (shaped_tagInts "heap" (by decide +kernel) [-1])) (xe_call (d__law_refusal Z Y) passL hr (xa_cons (xe_var 1) (xa_cons (xe_var 5) (xa_cons xe_non (xa_cons (xe_var 4) xa_nil)))) ⟨k, _, d, .non, hk17, okS_dI c, (p3 d hd).1, rfl, rfl, gH h5 (p3 d hd).2⟩) (xe_tup (xa_cons xe_str (xa_cons (xe_un o_neg xe_int) xa_nil)))) (fun h => by cases h) (fun _ => xb_nil)) xb_nil, (by repeat (first | exact LessS.nil | apply LessS.keep | apply LessS.drop))⟩))
          (xb_cons (xs_for (.one 5) (passes_of rfl) (xi_list (ds := [.int (-1), .int 100, .bl true, .non]) (xe_lst (xa_cons (xe_un o_neg xe_int) (xa_cons xe_int (xa_cons xe_bl (xa_cons xe_non xa_nil)))))) (xg_one nd)
          (LoopS.const fun d hd => ⟨_, _, rfl, xb_cons (xs_if (c := false) (xt_cmp (o_neSame (x := .tup [.str "heap", .int (a : Nat)]) hu (nod_tagInts "heap" [(a : Int)]) (shaped_tagInts "heap" (by decide +kernel) [(a : Int)])) (xe_call (d__law_refusal Z Y) passL hr (xa_cons (xe_var 1) (xa_cons (xe_op (o_cat (ds := (h.take a).map Dt.int ++ [d]) (es := (h.drop (a + 1)).map Dt.int) (by rw [List.length_append, List.length_map, List.length_map]; show (h.take a).length + 1 + (h.drop (a + 1)).length ≤ 1000; omega)) (xe_op (o_cat (ds := (h.take a).map Dt.int) (es := [d]) (by rw [List.length_map]; show (h.take a).length + 1 ≤ 1000; omega)) (xe_takeI (ns := h) (k := (a : Nat)) (by omega) (by omega) (xe_var 2) (xe_var 3)) (xe_lst (xa_cons (xe_var 5) xa_nil))) (xeE (xe_dropI (ns := h) (k := (a : Int) + 1) (by omega) (by omega) (xe_var 2) (xe_op o_add (xe_var 3) xe_int)) (by rw [ea1]))) (xa_cons xe_non (xa_cons (xe_var 4) xa_nil)))) ⟨k, _, _, .non, hk17, okS_dI c, okU d (p4 d hd).1, rfl, rfl, gH h5 (heapErr_at hh hat (p4 d hd).2)⟩) (xe_tup (xa_cons xe_str (xa_cons (xe_var 3) xa_nil)))) (fun h => by cases h) (fun _ => xb_nil)) xb_nil, (by repeat (first | exact LessS.nil | apply LessS.keep | apply LessS.drop))⟩)) xb_nil)) (fun h => by cases h)
    · by_cases h17 : k < 17
      · exact xs_if (c := true) (xt_cmp (opE (o_lt (i := (k : Int)) (j := 17)) (decide_eq_true (by omega))) (xe_var 4) xe_int) (fun _ =>
          xb_cons (xs_for (.one 5) (passes_of rfl) (xi_list (ds := odds c k) (xe_call (d__law_odds Z) passL (hr.mono (by decide)) (xa_cons (xe_var 1) (xa_cons (xe_var 4) xa_nil)) ⟨c, k, by omega, rfl, rfl⟩)) (xg_one nd)
          (LoopS.const fun d hd => ⟨_, _, rfl, xb_cons (xs_if (c := false) (xt_cmp (o_neS (i := "number") (c := false)) (xe_call (d__law_refusal Z Y) passL hr (xa_cons (xe_var 1) (xa_cons (xe_var 2) (xa_cons (xe_var 5) (xa_cons (xe_var 4) xa_nil)))) ⟨k, _, _, d, hk17, okS_dI c, okS_dI h, (lawE_odd (K := K) hc hh (by omega) hd).1, rfl, (congrArg (fun o => Res.ok (refD K o)) (lawE_odd (K := K) hc hh (by omega) hd).2).symm⟩) xe_str) (fun h => by cases h) (fun _ => xb_nil)) xb_nil, (by repeat (first | exact LessS.nil | apply LessS.keep | apply LessS.drop))⟩)) xb_nil) (fun h => by cases h)
      · exact xs_if (c := false) (xt_cmp (opE (o_lt (i := (k : Int)) (j := 17)) (decide_eq_false (by omega))) (xe_var 4) xe_int) (fun h => by cases h) (fun _ => xb_nil)
    · have gd := lawE_good (K := K) hc hh hk17
      by_cases h10 : k = 10
      · have e : goodD c k = .int ((c.length : Int) - 1) := if_pos h10
        rw [e] at gd
        exact xb_cons (xs_sh (i := 6) (d := dI (List.replicate 8 1000000)) nd (xe_op (o_repI (x := 1000000) (n := 8) (by decide) (by decide)) (xe_lst (xa_cons xe_int xa_nil)) xe_int))
          (xb_cons (xs_if (c := true) (xt_cmp (opE (o_gt (i := (k : Int)) (j := 5)) (decide_eq_true (by omega))) (xe_var 4) xe_int) (fun _ => xb_cons (xs_flat (i := 6) (d := .int 8) nd xe_int) xb_nil) (fun h => by cases h))
          (xb_cons (xs_if (c := true) (xt_cmp (opE (o_eqI (i := (k : Int)) (j := 10)) (decide_eq_true (by omega))) (xe_var 4) xe_int) (fun _ => xb_cons (xs_flat (i := 6) (d := .int ((c.length : Int) - 1)) nd (xe_op o_sub (xe_callB c_lenI Z.b_len boot_len (xa_cons (xe_var 1) xa_nil)) xe_int)) xb_nil) (fun h => by cases h))
          (xb_lessO (by repeat (first | exact LessS.nil | apply LessS.keep | apply LessS.drop)) (xb_cons (xs_if (c := false) (xt_cmp (o_notN (d := .non)) (xe_call (d__law_refusal Z Y) passL hr (xa_cons (xe_var 1) (xa_cons (xe_var 2) (xa_cons (xe_var 6) (xa_cons (xe_var 4) xa_nil)))) ⟨k, _, _, _, hk17, okS_dI c, okS_dI h, rfl, rfl, (congrArg (fun o => Res.ok (refD K o)) gd).symm⟩) xe_non) (fun h => by cases h) (fun _ => xb_nil)) xb_nil))))
      · by_cases h5 : 5 < k
        · have e : goodD c k = .int 8 := by unfold goodD; rw [if_neg h10, if_pos h5]
          rw [e] at gd
          exact xb_cons (xs_sh (i := 6) (d := dI (List.replicate 8 1000000)) nd (xe_op (o_repI (x := 1000000) (n := 8) (by decide) (by decide)) (xe_lst (xa_cons xe_int xa_nil)) xe_int))
            (xb_cons (xs_if (c := true) (xt_cmp (opE (o_gt (i := (k : Int)) (j := 5)) (decide_eq_true (by omega))) (xe_var 4) xe_int) (fun _ => xb_cons (xs_flat (i := 6) (d := .int 8) nd xe_int) xb_nil) (fun h => by cases h))
            (xb_cons (xs_if (c := false) (xt_cmp (opE (o_eqI (i := (k : Int)) (j := 10)) (decide_eq_false (by omega))) (xe_var 4) xe_int) (fun h => by cases h) (fun _ => xb_nil))
            (xb_lessO (by repeat (first | exact LessS.nil | apply LessS.keep | apply LessS.drop)) (xb_cons (xs_if (c := false) (xt_cmp (o_notN (d := .non)) (xe_call (d__law_refusal Z Y) passL hr (xa_cons (xe_var 1) (xa_cons (xe_var 2) (xa_cons (xe_var 6) (xa_cons (xe_var 4) xa_nil)))) ⟨k, _, _, _, hk17, okS_dI c, okS_dI h, rfl, rfl, (congrArg (fun o => Res.ok (refD K o)) gd).symm⟩) xe_non) (fun h => by cases h) (fun _ => xb_nil)) xb_nil))))
        · have e : goodD c k = dI (List.replicate 8 1000000) := by unfold goodD; rw [if_neg h10, if_neg h5]
          rw [e] at gd
          exact xb_cons (xs_sh (i := 6) (d := dI (List.replicate 8 1000000)) nd (xe_op (o_repI (x := 1000000) (n := 8) (by decide) (by decide)) (xe_lst (xa_cons xe_int xa_nil)) xe_int))
            (xb_cons (xs_if (c := false) (xt_cmp (opE (o_gt (i := (k : Int)) (j := 5)) (decide_eq_false (by omega))) (xe_var 4) xe_int) (fun h => by cases h) (fun _ => xb_nil))
            (xb_cons (xs_if (c := false) (xt_cmp (opE (o_eqI (i := (k : Int)) (j := 10)) (decide_eq_false (by omega))) (xe_var 4) xe_int) (fun h => by cases h) (fun _ => xb_nil))
            (xb_lessO (by repeat (first | exact LessS.nil | apply LessS.keep | apply LessS.drop)) (xb_cons (xs_if (c := false) (xt_cmp (o_notN (d := .non)) (xe_call (d__law_refusal Z Y) passL hr (xa_cons (xe_var 1) (xa_cons (xe_var 2) (xa_cons (xe_var 6) (xa_cons (xe_var 4) xa_nil)))) ⟨k, _, _, _, hk17, okS_dI c, okS_dI h, okS_dI _, rfl, (congrArg (fun o => Res.ok (refD K o)) gd).symm⟩) xe_non) (fun h => by cases h) (fun _ => xb_nil)) xb_nil))))
end
end Pa
namespace Pa
open PySem PySem.Spec PyProof.Rows L2

def mkD (g x : Str) (st : Stmt) : He.DefD := ⟨(g, none), x, x, defArgs st, defBody st, defScope st, [], []⟩
def mkM (C m q : Str) (st : Stmt) : He.DefD := ⟨(C, some m), m, q, defArgs st, defBody st, defScope st, [], []⟩
def fn : List He.DefD := ([mkM "BadChain" "__init__" "BadChain.__init__" s_init_BadChain, mkM "BadHeap" "__init__" "BadHeap.__init__" s_init_BadHeap, mkD "is_whole" "is_whole" s_is_whole, mkD "is_from_to" "is_from_to" s_is_from_to, mkD "is_listed" "is_listed" s_is_listed, mkD "follows" "follows" s_follows, mkD "first_wrong_chains" "first_wrong" s_first_wrong_chains, mkD "check_chain" "check_chain" s_check_chain, mkD "first_wrong_heaps" "first_wrong" s_first_wrong_heaps, mkD "check_counts" "check_counts" s_check_counts, mkD "check_heap" "check_heap" s_check_heap, mkD "worth_of" "worth_of" s_worth_of, mkD "lesser_of" "lesser_of" s_lesser_of, mkD "greater_of" "greater_of" s_greater_of, mkD "check_index" "check_index" s_check_index, mkD "check_boxes" "check_boxes" s_check_boxes, mkD "check_laying" "check_laying" s_check_laying, mkD "room_of" "room_of" s_room_of, mkD "last_full" "last_full" s_last_full, mkD "house_load" "house_load" s_house_load, mkD "told_answer_boxes" "told_answer" s_told_answer_boxes, mkD "answer_boxes" "answer" s_answer_boxes, mkD "can_lay" "can_lay" s_can_lay, mkD "rooms" "rooms" s_rooms, mkD "room_left" "room_left" s_room_left, mkD "load" "load" s_load, mkD "left_out" "left_out" s_left_out, mkD "check_hold" "check_hold" s_check_hold, mkD "too_great" "too_great" s_too_great, mkD "needed_list" "needed_list" s_needed_list, mkD "needed_at" "needed_at" s_needed_at, mkD "count_of" "count_of" s_count_of, mkD "fewest_boxes" "fewest_boxes" s_fewest_boxes, mkD "answer_like" "answer" s_answer_like, mkD "check_count" "check_count" s_check_count] : List He.DefD) ++ ([mkD "hold_for" "hold_for" s_hold_for, mkD "least_hold" "least_hold" s_least_hold, mkD "left_by" "left_by" s_left_by, mkD "spare_list" "spare_list" s_spare_list, mkD "house_payments" "house_payments" s_house_payments, mkD "first_lack" "first_lack" s_first_lack, mkD "told_answer_atonce" "told_answer" s_told_answer_atonce, mkD "check_persons" "check_persons" s_check_persons, mkD "check_sharing" "check_sharing" s_check_sharing, mkD "shared" "shared" s_shared, mkD "answer_shares" "answer" s_answer_shares, mkD "can_share" "can_share" s_can_share, mkD "least_greatest" "least_greatest" s_least_greatest, mkD "levelled" "levelled" s_levelled, mkD "by_turns" "by_turns" s_by_turns, mkD "neediest" "neediest" s_neediest, mkD "by_need" "by_need" s_by_need, mkD "numbers" "numbers" s_numbers, mkD "_law_numbers" "_law_numbers" s__law_numbers, mkD "_law_chain" "_law_chain" s__law_chain, mkD "_law_heap" "_law_heap" s__law_heap, mkD "_law_called" "_law_called" s__law_called, mkD "_law_shared" "_law_shared" s__law_shared, mkD "_law_refusal" "_law_refusal" s__law_refusal, mkD "_law_odds" "_law_odds" s__law_odds, mkD "law" "law" s_law] : List He.DefD)
def fa : List He.Fa := ([.glo "PieceError", .glo "BadChain", .glo "BadHeap", .glo "BadAmount", .glo "BadNumber", .exc "BadNumber", .exm "BadChain" "BadChain" true, .exm "BadChain" "BadHeap" false, .exm "BadChain" "BadNumber" false, .exm "BadHeap" "BadChain" false, .exm "BadHeap" "BadHeap" true, .exm "BadHeap" "BadNumber" false, .exm "BadNumber" "BadChain" false, .exm "BadNumber" "BadHeap" false, .exm "BadNumber" "BadNumber" true, .glo "is_whole", .glo "is_from_to", .glo "is_listed", .glo "follows", .glo "first_wrong_chains", .glo "check_chain", .glo "first_wrong_heaps", .glo "check_counts", .glo "check_heap", .glo "worth_of", .glo "lesser_of", .glo "greater_of", .glo "check_index", .glo "check_boxes", .glo "check_laying", .glo "room_of", .glo "last_full", .glo "house_load", .glo "told_answer_boxes", .glo "answer_boxes"] : List He.Fa) ++ ([.glo "can_lay", .glo "rooms", .glo "room_left", .glo "load", .glo "left_out", .glo "check_hold", .glo "too_great", .glo "needed_list", .glo "needed_at", .glo "count_of", .glo "fewest_boxes", .glo "answer_like", .glo "check_count", .glo "hold_for", .glo "least_hold", .glo "left_by", .glo "spare_list", .glo "house_payments", .glo "first_lack", .glo "told_answer_atonce", .glo "check_persons", .glo "check_sharing", .glo "shared", .glo "answer_shares", .glo "can_share", .glo "least_greatest", .glo "levelled", .glo "by_turns", .glo "neediest", .glo "by_need", .glo "numbers", .glo "_law_numbers", .glo "_law_chain", .glo "_law_heap", .glo "_law_called"] : List He.Fa) ++ ([.glo "_law_shared", .glo "_law_refusal", .glo "_law_odds", .glo "law", .free "enumerate", .free "sum", .free "range", .free "list", .free "max", .free "isinstance", .free "int", .free "all", .free "len", .free "min", .free "bool", .free "tuple", .free "zip", .int "MOST_VALUES" (8), .int "GREATEST_VALUE" (1000000), .int "WRONG_LIST_chains" (-1), .int "MOST_PIECES" (99), .int "WRONG_LIST_heaps" (-1), .int "MOST_BOXES_boxes" (8), .int "GREATEST_HOLD" (1000000), .int "MOST_BOXES_like" (8), .int "FEWEST" (2), .int "MOST" (8)] : List He.Fa)
def loose : List Str := ([("is_whole" : Str), ("is_from_to" : Str), ("PieceError" : Str), ("BadChain" : Str), ("BadHeap" : Str), ("BadAmount" : Str), ("BadNumber" : Str), ("MOST_VALUES" : Str), ("GREATEST_VALUE" : Str), ("WRONG_LIST_chains" : Str), ("is_listed" : Str), ("follows" : Str), ("first_wrong" : Str), ("first_wrong_chains" : Str), ("check_chain" : Str), ("MOST_PIECES" : Str), ("WRONG_LIST_heaps" : Str), ("first_wrong_heaps" : Str), ("check_counts" : Str), ("check_heap" : Str), ("worth_of" : Str), ("lesser_of" : Str), ("greater_of" : Str), ("check_index" : Str), ("MOST_BOXES_boxes" : Str), ("GREATEST_HOLD" : Str), ("check_boxes" : Str), ("check_laying" : Str), ("room_of" : Str), ("last_full" : Str), ("house_load" : Str), ("told_answer" : Str), ("told_answer_boxes" : Str), ("answer" : Str), ("answer_boxes" : Str)] : List Str) ++ ([("can_lay" : Str), ("rooms" : Str), ("room_left" : Str), ("load" : Str), ("left_out" : Str), ("MOST_BOXES_like" : Str), ("check_hold" : Str), ("too_great" : Str), ("needed_list" : Str), ("needed_at" : Str), ("count_of" : Str), ("fewest_boxes" : Str), ("answer_like" : Str), ("check_count" : Str), ("hold_for" : Str), ("least_hold" : Str), ("left_by" : Str), ("spare_list" : Str), ("house_payments" : Str), ("first_lack" : Str), ("told_answer_atonce" : Str), ("FEWEST" : Str), ("MOST" : Str), ("check_persons" : Str), ("check_sharing" : Str), ("shared" : Str), ("answer_shares" : Str), ("can_share" : Str), ("least_greatest" : Str), ("levelled" : Str), ("by_turns" : Str), ("neediest" : Str), ("by_need" : Str), ("numbers" : Str), ("_law_numbers" : Str)] : List Str) ++ ([("_law_chain" : Str), ("_law_heap" : Str), ("_law_called" : Str), ("_law_shared" : Str), ("_law_refusal" : Str), ("_law_odds" : Str)] : List Str)
abbrev R : PySem.W.OpenRow := PySem.W.OpenLaw.row PySem.Challenge.rw_paidatonce_k26_refusals_of_boxes_and_sha
abbrev hk : PySem.W.Hook := He.hookX 4 fa fn [] [] exB
def ob (s : PySem.W.SharedT) : He.AlX := He.obsX 4 fa fn [] [] exB (HandSHeadRun.getT s)
theorem ob_eq (s : PySem.W.SharedT) : ob s = hk.obs s.abs := He.obsX_eq (HandSHeadRun.getT_eq s)
theorem run (w : World) : HandSHeadRun.RunEq R (PySem.W.view R.prog [89]) hk ob 6000 loose w := by
  intro os
  kernel_rfl

theorem idB_ok {K : PySem.W.Frag} {C : Addr} (h : idB K C = true) : OexC K C ∧ XfC K C ∧ PySem.W.findIn K (.ref C) "index" = some none ∧ PySem.W.findIn K (.ref C) "__init__" = some (some (.ref (He.ma K C "__init__"))) ∧ PySem.W.typeIn K (.ref (He.ma K C "__init__")) = some (.type "function") := by
  unfold idB at h
  simp only [Bool.and_eq_true, decide_eq_true_eq] at h
  obtain ⟨h1, h2, h3, h4, h5, h6, h7, h8, h9⟩ := h
  exact ⟨⟨lookB_ok h1, h2, h3, h4, h5⟩, xfB_ok h6, h7, h8, h9⟩
theorem isB_ok {K : PySem.W.Frag} {C : Addr} (h : isB' K C = true) : ExK K C := by
  unfold isB' at h
  simp only [Bool.and_eq_true, decide_eq_true_eq] at h
  obtain ⟨h1, h2, h3, h4, h5⟩ := h
  exact ⟨h1, h2, h3, h4, h5⟩
theorem exB_ok {K : PySem.W.Frag} (h : exB K = true) : idB K (He.ga K "BadChain") = true ∧ idB K (He.ga K "BadHeap") = true ∧ isB' K (He.ga K "BadChain") = true ∧ PySem.W.kitOne K (.ref (He.ga K "BadChain")) (.ref (He.ga K "BadHeap")) = some false ∧ PySem.W.kitOne K (.ref (He.ga K "BadChain")) (.ref (He.ga K "BadAmount")) = some false ∧ PySem.W.kitOne K (.ref (He.ga K "BadChain")) (.ref (He.ga K "PieceError")) = some true := by
  unfold exB at h
  simp only [Bool.and_eq_true, decide_eq_true_eq] at h
  exact h
theorem txt {K : PySem.W.Frag} {h : Heap} {mg : Str → Option Value} (X : K.In h) (G : h.Ns mainGlobals mg) (c : He.SaysD fa fn K) (ex : exB K = true) : Txt K mg := by
  constructor
  · exact He.free_ok X G (c.fact 74 (f := .free "enumerate") rfl)
  · exact He.free_ok X G (c.fact 75 (f := .free "sum") rfl)
  · exact He.free_ok X G (c.fact 76 (f := .free "range") rfl)
  · exact He.free_ok X G (c.fact 77 (f := .free "list") rfl)
  · exact He.free_ok X G (c.fact 78 (f := .free "max") rfl)
  · exact He.free_ok X G (c.fact 79 (f := .free "isinstance") rfl)
  · exact He.free_ok X G (c.fact 80 (f := .free "int") rfl)
  · exact He.free_ok X G (c.fact 81 (f := .free "all") rfl)
  · exact He.free_ok X G (c.fact 82 (f := .free "len") rfl)
  · exact He.free_ok X G (c.fact 83 (f := .free "min") rfl)
  · exact He.free_ok X G (c.fact 84 (f := .free "bool") rfl)
  · exact He.free_ok X G (c.fact 85 (f := .free "tuple") rfl)
  · exact He.free_ok X G (c.fact 86 (f := .free "zip") rfl)
  · exact He.int_ok X G (c.fact 87 (f := .int "MOST_VALUES" (8)) rfl)
  · exact He.int_ok X G (c.fact 88 (f := .int "GREATEST_VALUE" (1000000)) rfl)
  · exact He.int_ok X G (c.fact 89 (f := .int "WRONG_LIST_chains" (-1)) rfl)
  · exact He.int_ok X G (c.fact 90 (f := .int "MOST_PIECES" (99)) rfl)
  · exact He.int_ok X G (c.fact 91 (f := .int "WRONG_LIST_heaps" (-1)) rfl)
  · exact He.int_ok X G (c.fact 92 (f := .int "MOST_BOXES_boxes" (8)) rfl)
  · exact He.int_ok X G (c.fact 93 (f := .int "GREATEST_HOLD" (1000000)) rfl)
  · exact He.int_ok X G (c.fact 94 (f := .int "MOST_BOXES_like" (8)) rfl)
  · exact He.int_ok X G (c.fact 95 (f := .int "FEWEST" (2)) rfl)
  · exact He.int_ok X G (c.fact 96 (f := .int "MOST" (8)) rfl)
  · obtain ⟨fd, F⟩ := c.def_ 2 (d := mkD "is_whole" "is_whole" s_is_whole) rfl
    exact ⟨_, fd, He.glo_ok X G (c.fact 15 (f := .glo "is_whole") rfl), F⟩
  · obtain ⟨fd, F⟩ := c.def_ 3 (d := mkD "is_from_to" "is_from_to" s_is_from_to) rfl
    exact ⟨_, fd, He.glo_ok X G (c.fact 16 (f := .glo "is_from_to") rfl), F⟩
  · obtain ⟨fd, F⟩ := c.def_ 4 (d := mkD "is_listed" "is_listed" s_is_listed) rfl
    exact ⟨_, fd, He.glo_ok X G (c.fact 17 (f := .glo "is_listed") rfl), F⟩
  · obtain ⟨fd, F⟩ := c.def_ 5 (d := mkD "follows" "follows" s_follows) rfl
    exact ⟨_, fd, He.glo_ok X G (c.fact 18 (f := .glo "follows") rfl), F⟩
  · obtain ⟨fd, F⟩ := c.def_ 6 (d := mkD "first_wrong_chains" "first_wrong" s_first_wrong_chains) rfl
    exact ⟨_, fd, He.glo_ok X G (c.fact 19 (f := .glo "first_wrong_chains") rfl), F⟩
  · obtain ⟨fd, F⟩ := c.def_ 7 (d := mkD "check_chain" "check_chain" s_check_chain) rfl
    exact ⟨_, fd, He.glo_ok X G (c.fact 20 (f := .glo "check_chain") rfl), F⟩
  · obtain ⟨fd, F⟩ := c.def_ 8 (d := mkD "first_wrong_heaps" "first_wrong" s_first_wrong_heaps) rfl
    exact ⟨_, fd, He.glo_ok X G (c.fact 21 (f := .glo "first_wrong_heaps") rfl), F⟩
  · obtain ⟨fd, F⟩ := c.def_ 9 (d := mkD "check_counts" "check_counts" s_check_counts) rfl
    exact ⟨_, fd, He.glo_ok X G (c.fact 22 (f := .glo "check_counts") rfl), F⟩
  · obtain ⟨fd, F⟩ := c.def_ 10 (d := mkD "check_heap" "check_heap" s_check_heap) rfl
    exact ⟨_, fd, He.glo_ok X G (c.fact 23 (f := .glo "check_heap") rfl), F⟩
  · obtain ⟨fd, F⟩ := c.def_ 11 (d := mkD "worth_of" "worth_of" s_worth_of) rfl
    exact ⟨_, fd, He.glo_ok X G (c.fact 24 (f := .glo "worth_of") rfl), F⟩
  · obtain ⟨fd, F⟩ := c.def_ 12 (d := mkD "lesser_of" "lesser_of" s_lesser_of) rfl
    exact ⟨_, fd, He.glo_ok X G (c.fact 25 (f := .glo "lesser_of") rfl), F⟩
  · obtain ⟨fd, F⟩ := c.def_ 13 (d := mkD "greater_of" "greater_of" s_greater_of) rfl
    exact ⟨_, fd, He.glo_ok X G (c.fact 26 (f := .glo "greater_of") rfl), F⟩
  · obtain ⟨fd, F⟩ := c.def_ 14 (d := mkD "check_index" "check_index" s_check_index) rfl
    exact ⟨_, fd, He.glo_ok X G (c.fact 27 (f := .glo "check_index") rfl), F⟩
  · obtain ⟨fd, F⟩ := c.def_ 15 (d := mkD "check_boxes" "check_boxes" s_check_boxes) rfl
    exact ⟨_, fd, He.glo_ok X G (c.fact 28 (f := .glo "check_boxes") rfl), F⟩
  · obtain ⟨fd, F⟩ := c.def_ 16 (d := mkD "check_laying" "check_laying" s_check_laying) rfl
    exact ⟨_, fd, He.glo_ok X G (c.fact 29 (f := .glo "check_laying") rfl), F⟩
  · obtain ⟨fd, F⟩ := c.def_ 17 (d := mkD "room_of" "room_of" s_room_of) rfl
    exact ⟨_, fd, He.glo_ok X G (c.fact 30 (f := .glo "room_of") rfl), F⟩
  · obtain ⟨fd, F⟩ := c.def_ 18 (d := mkD "last_full" "last_full" s_last_full) rfl
    exact ⟨_, fd, He.glo_ok X G (c.fact 31 (f := .glo "last_full") rfl), F⟩
  · obtain ⟨fd, F⟩ := c.def_ 19 (d := mkD "house_load" "house_load" s_house_load) rfl
    exact ⟨_, fd, He.glo_ok X G (c.fact 32 (f := .glo "house_load") rfl), F⟩
  · obtain ⟨fd, F⟩ := c.def_ 20 (d := mkD "told_answer_boxes" "told_answer" s_told_answer_boxes) rfl
    exact ⟨_, fd, He.glo_ok X G (c.fact 33 (f := .glo "told_answer_boxes") rfl), F⟩
  · obtain ⟨fd, F⟩ := c.def_ 21 (d := mkD "answer_boxes" "answer" s_answer_boxes) rfl
    exact ⟨_, fd, He.glo_ok X G (c.fact 34 (f := .glo "answer_boxes") rfl), F⟩
  · obtain ⟨fd, F⟩ := c.def_ 22 (d := mkD "can_lay" "can_lay" s_can_lay) rfl
    exact ⟨_, fd, He.glo_ok X G (c.fact 35 (f := .glo "can_lay") rfl), F⟩
  · obtain ⟨fd, F⟩ := c.def_ 23 (d := mkD "rooms" "rooms" s_rooms) rfl
    exact ⟨_, fd, He.glo_ok X G (c.fact 36 (f := .glo "rooms") rfl), F⟩
  · obtain ⟨fd, F⟩ := c.def_ 24 (d := mkD "room_left" "room_left" s_room_left) rfl
    exact ⟨_, fd, He.glo_ok X G (c.fact 37 (f := .glo "room_left") rfl), F⟩
  · obtain ⟨fd, F⟩ := c.def_ 25 (d := mkD "load" "load" s_load) rfl
    exact ⟨_, fd, He.glo_ok X G (c.fact 38 (f := .glo "load") rfl), F⟩
  · obtain ⟨fd, F⟩ := c.def_ 26 (d := mkD "left_out" "left_out" s_left_out) rfl
    exact ⟨_, fd, He.glo_ok X G (c.fact 39 (f := .glo "left_out") rfl), F⟩
  · obtain ⟨fd, F⟩ := c.def_ 27 (d := mkD "check_hold" "check_hold" s_check_hold) rfl
    exact ⟨_, fd, He.glo_ok X G (c.fact 40 (f := .glo "check_hold") rfl), F⟩
  · obtain ⟨fd, F⟩ := c.def_ 28 (d := mkD "too_great" "too_great" s_too_great) rfl
    exact ⟨_, fd, He.glo_ok X G (c.fact 41 (f := .glo "too_great") rfl), F⟩
  · obtain ⟨fd, F⟩ := c.def_ 29 (d := mkD "needed_list" "needed_list" s_needed_list) rfl
    exact ⟨_, fd, He.glo_ok X G (c.fact 42 (f := .glo "needed_list") rfl), F⟩
  · obtain ⟨fd, F⟩ := c.def_ 30 (d := mkD "needed_at" "needed_at" s_needed_at) rfl
    exact ⟨_, fd, He.glo_ok X G (c.fact 43 (f := .glo "needed_at") rfl), F⟩
  · obtain ⟨fd, F⟩ := c.def_ 31 (d := mkD "count_of" "count_of" s_count_of) rfl
    exact ⟨_, fd, He.glo_ok X G (c.fact 44 (f := .glo "count_of") rfl), F⟩
  · obtain ⟨fd, F⟩ := c.def_ 32 (d := mkD "fewest_boxes" "fewest_boxes" s_fewest_boxes) rfl
    exact ⟨_, fd, He.glo_ok X G (c.fact 45 (f := .glo "fewest_boxes") rfl), F⟩
  · obtain ⟨fd, F⟩ := c.def_ 33 (d := mkD "answer_like" "answer" s_answer_like) rfl
    exact ⟨_, fd, He.glo_ok X G (c.fact 46 (f := .glo "answer_like") rfl), F⟩
  · obtain ⟨fd, F⟩ := c.def_ 34 (d := mkD "check_count" "check_count" s_check_count) rfl
    exact ⟨_, fd, He.glo_ok X G (c.fact 47 (f := .glo "check_count") rfl), F⟩
  · obtain ⟨fd, F⟩ := c.def_ 35 (d := mkD "hold_for" "hold_for" s_hold_for) rfl
    exact ⟨_, fd, He.glo_ok X G (c.fact 48 (f := .glo "hold_for") rfl), F⟩
  · obtain ⟨fd, F⟩ := c.def_ 36 (d := mkD "least_hold" "least_hold" s_least_hold) rfl
    exact ⟨_, fd, He.glo_ok X G (c.fact 49 (f := .glo "least_hold") rfl), F⟩
  · obtain ⟨fd, F⟩ := c.def_ 37 (d := mkD "left_by" "left_by" s_left_by) rfl
    exact ⟨_, fd, He.glo_ok X G (c.fact 50 (f := .glo "left_by") rfl), F⟩
  · obtain ⟨fd, F⟩ := c.def_ 38 (d := mkD "spare_list" "spare_list" s_spare_list) rfl
    exact ⟨_, fd, He.glo_ok X G (c.fact 51 (f := .glo "spare_list") rfl), F⟩
  · obtain ⟨fd, F⟩ := c.def_ 39 (d := mkD "house_payments" "house_payments" s_house_payments) rfl
    exact ⟨_, fd, He.glo_ok X G (c.fact 52 (f := .glo "house_payments") rfl), F⟩
  · obtain ⟨fd, F⟩ := c.def_ 40 (d := mkD "first_lack" "first_lack" s_first_lack) rfl
    exact ⟨_, fd, He.glo_ok X G (c.fact 53 (f := .glo "first_lack") rfl), F⟩
  · obtain ⟨fd, F⟩ := c.def_ 41 (d := mkD "told_answer_atonce" "told_answer" s_told_answer_atonce) rfl
    exact ⟨_, fd, He.glo_ok X G (c.fact 54 (f := .glo "told_answer_atonce") rfl), F⟩
  · obtain ⟨fd, F⟩ := c.def_ 42 (d := mkD "check_persons" "check_persons" s_check_persons) rfl
    exact ⟨_, fd, He.glo_ok X G (c.fact 55 (f := .glo "check_persons") rfl), F⟩
  · obtain ⟨fd, F⟩ := c.def_ 43 (d := mkD "check_sharing" "check_sharing" s_check_sharing) rfl
    exact ⟨_, fd, He.glo_ok X G (c.fact 56 (f := .glo "check_sharing") rfl), F⟩
  · obtain ⟨fd, F⟩ := c.def_ 44 (d := mkD "shared" "shared" s_shared) rfl
    exact ⟨_, fd, He.glo_ok X G (c.fact 57 (f := .glo "shared") rfl), F⟩
  · obtain ⟨fd, F⟩ := c.def_ 45 (d := mkD "answer_shares" "answer" s_answer_shares) rfl
    exact ⟨_, fd, He.glo_ok X G (c.fact 58 (f := .glo "answer_shares") rfl), F⟩
  · obtain ⟨fd, F⟩ := c.def_ 46 (d := mkD "can_share" "can_share" s_can_share) rfl
    exact ⟨_, fd, He.glo_ok X G (c.fact 59 (f := .glo "can_share") rfl), F⟩
  · obtain ⟨fd, F⟩ := c.def_ 47 (d := mkD "least_greatest" "least_greatest" s_least_greatest) rfl
    exact ⟨_, fd, He.glo_ok X G (c.fact 60 (f := .glo "least_greatest") rfl), F⟩
  · obtain ⟨fd, F⟩ := c.def_ 48 (d := mkD "levelled" "levelled" s_levelled) rfl
    exact ⟨_, fd, He.glo_ok X G (c.fact 61 (f := .glo "levelled") rfl), F⟩
  · obtain ⟨fd, F⟩ := c.def_ 49 (d := mkD "by_turns" "by_turns" s_by_turns) rfl
    exact ⟨_, fd, He.glo_ok X G (c.fact 62 (f := .glo "by_turns") rfl), F⟩
  · obtain ⟨fd, F⟩ := c.def_ 50 (d := mkD "neediest" "neediest" s_neediest) rfl
    exact ⟨_, fd, He.glo_ok X G (c.fact 63 (f := .glo "neediest") rfl), F⟩
  · obtain ⟨fd, F⟩ := c.def_ 51 (d := mkD "by_need" "by_need" s_by_need) rfl
    exact ⟨_, fd, He.glo_ok X G (c.fact 64 (f := .glo "by_need") rfl), F⟩
  · obtain ⟨fd, F⟩ := c.def_ 52 (d := mkD "numbers" "numbers" s_numbers) rfl
    exact ⟨_, fd, He.glo_ok X G (c.fact 65 (f := .glo "numbers") rfl), F⟩
  · obtain ⟨fd, F⟩ := c.def_ 53 (d := mkD "_law_numbers" "_law_numbers" s__law_numbers) rfl
    exact ⟨_, fd, He.glo_ok X G (c.fact 66 (f := .glo "_law_numbers") rfl), F⟩
  · obtain ⟨fd, F⟩ := c.def_ 54 (d := mkD "_law_chain" "_law_chain" s__law_chain) rfl
    exact ⟨_, fd, He.glo_ok X G (c.fact 67 (f := .glo "_law_chain") rfl), F⟩
  · obtain ⟨fd, F⟩ := c.def_ 55 (d := mkD "_law_heap" "_law_heap" s__law_heap) rfl
    exact ⟨_, fd, He.glo_ok X G (c.fact 68 (f := .glo "_law_heap") rfl), F⟩
  · obtain ⟨fd, F⟩ := c.def_ 56 (d := mkD "_law_called" "_law_called" s__law_called) rfl
    exact ⟨_, fd, He.glo_ok X G (c.fact 69 (f := .glo "_law_called") rfl), F⟩
  · obtain ⟨fd, F⟩ := c.def_ 57 (d := mkD "_law_shared" "_law_shared" s__law_shared) rfl
    exact ⟨_, fd, He.glo_ok X G (c.fact 70 (f := .glo "_law_shared") rfl), F⟩
  · obtain ⟨fd, F⟩ := c.def_ 58 (d := mkD "_law_refusal" "_law_refusal" s__law_refusal) rfl
    exact ⟨_, fd, He.glo_ok X G (c.fact 71 (f := .glo "_law_refusal") rfl), F⟩
  · obtain ⟨fd, F⟩ := c.def_ 59 (d := mkD "_law_odds" "_law_odds" s__law_odds) rfl
    exact ⟨_, fd, He.glo_ok X G (c.fact 72 (f := .glo "_law_odds") rfl), F⟩
  · obtain ⟨fd, F⟩ := c.def_ 60 (d := mkD "law" "law" s_law) rfl
    exact ⟨_, fd, He.glo_ok X G (c.fact 73 (f := .glo "law") rfl), F⟩
  · obtain ⟨fd, F⟩ := c.def_ 0 (d := mkM "BadChain" "__init__" "BadChain.__init__" s_init_BadChain) rfl
    obtain ⟨t1, t2, t3, t4, t5⟩ := idB_ok (exB_ok ex).1
    exact ⟨He.glo_ok X G (c.fact 1 (f := .glo "BadChain") rfl), t1, t2, t3, _, fd, t4, t5, F⟩
  · obtain ⟨fd, F⟩ := c.def_ 1 (d := mkM "BadHeap" "__init__" "BadHeap.__init__" s_init_BadHeap) rfl
    obtain ⟨t1, t2, t3, t4, t5⟩ := idB_ok (exB_ok ex).2.1
    exact ⟨He.glo_ok X G (c.fact 2 (f := .glo "BadHeap") rfl), t1, t2, t3, _, fd, t4, t5, F⟩
  · obtain ⟨t1, t2, t3, t4⟩ := He.exc_ok (c.fact 5 (f := .exc "BadNumber") rfl)
    exact ⟨He.glo_ok X G (c.fact 4 (f := .glo "BadNumber") rfl), t1, t2, t3, t4⟩
theorem clsf {K : PySem.W.Frag} {h : Heap} {mg : Str → Option Value} (X : K.In h) (G : h.Ns mainGlobals mg) (c : He.SaysD fa fn K) (ex : exB K = true) : ClsF K mg := by
  obtain ⟨b1, b2, b3, b4, b5, b6⟩ := exB_ok ex
  obtain ⟨s1, s2, s3, s4, s5⟩ := idB_ok b1
  obtain ⟨t1, t2, t3, t4, t5⟩ := idB_ok b2
  exact ⟨⟨s2, s3⟩, ⟨t2, t3⟩, isB_ok b3, He.glo_ok X G (c.fact 1 (f := .glo "BadChain") rfl), He.glo_ok X G (c.fact 2 (f := .glo "BadHeap") rfl), He.glo_ok X G (c.fact 4 (f := .glo "BadNumber") rfl), He.glo_ok X G (c.fact 3 (f := .glo "BadAmount") rfl), He.glo_ok X G (c.fact 0 (f := .glo "PieceError") rfl), b4, b5, b6, He.exm_ok (c.fact 6 (f := .exm "BadChain" "BadChain" true) rfl), He.exm_ok (c.fact 9 (f := .exm "BadHeap" "BadChain" false) rfl), He.exm_ok (c.fact 10 (f := .exm "BadHeap" "BadHeap" true) rfl), He.exm_ok (c.fact 12 (f := .exm "BadNumber" "BadChain" false) rfl), He.exm_ok (c.fact 13 (f := .exm "BadNumber" "BadHeap" false) rfl), He.exm_ok (c.fact 14 (f := .exm "BadNumber" "BadNumber" true) rfl)⟩
theorem facts {P : Program} {w : World} {K : PySem.W.Frag} {h : Heap} {mg : Str → Option Value} {f : Addr} (X : K.In h) (G : h.Ns mainGlobals mg) (hfa : mg ("law" : Str) = some (.ref f)) (c : He.SaysD fa fn K) (ex : exB K = true) :
    ∃ fd : FuncData, (∀ (s : Shared) (v : Value), BindsTo s fd ⟨[v], []⟩ [("script", v)]) ∧ ∀ base : Heap, FnOk P w K mg base CX0 12 f fd ["script"] (spF 1 fun ds r => ∃ script, ds = [.scr K script] ∧ r = .ok (.bl true)) := by
  obtain ⟨fd, F⟩ := c.def_ 60 (d := mkD "law" "law" s_law) rfl
  have e := hfa.symm.trans (He.glo_ok X G (c.fact 73 (f := .glo "law") rfl))
  cases e
  have b := FunD.bindsA (ps := ["script"]) F fun _ _ _ _ _ _ us hl => match us, hl with | [_], _ => rfl
  exact ⟨fd, fun s v => b s [v] rfl, fun base => law_ok (txt X G c ex) (clsf X G c ex) F⟩
end Pa
open PySem PySem.W PySem.Calls PyProof.Rows
theorem PySem.Challenge.cw_paidatonce_k26_refusals_of_boxes_and_sha_holds : PySem.Challenge.rw_paidatonce_k26_refusals_of_boxes_and_sha.Holds := by
  w_on; o_law
  refine HandSHeadRun.head_any (r := OpenLaw.row PySem.Challenge.rw_paidatonce_k26_refusals_of_boxes_and_sha) (q := view (OpenLaw.row PySem.Challenge.rw_paidatonce_k26_refusals_of_boxes_and_sha).prog [89]) (H := Pa.hk) (ob := Pa.ob) (M := 6000) (loose := Pa.loose) (d := HandSHeadRun.topDef (OpenLaw.row PySem.Challenge.rw_paidatonce_k26_refusals_of_boxes_and_sha).prog 89) (kwd := []) Pa.ob_eq
    (by kernel_rfl) (fun s => by kernel_rfl) Pa.run (by kernel_rfl) (by kernel_rfl) (by kernel_rfl) (by rfl) (by first | assumption | decide +kernel) (by decide +kernel) ⟨rfl, rfl, rfl, rfl, rfl, by decide +kernel⟩ ?hw ?hc
  case hw => w_witness2
  case hc =>
    refine L2.walk_ofE (l := PySem.Challenge.rw_paidatonce_k26_refusals_of_boxes_and_sha) (n := 63) (k := 12) (x := "script") (CX := L2.CX0) rfl (by decide) (by kernel_rfl) ⟨rfl, by decide, by decide⟩ ?F (fun _ _ _ _ z => z)
    intro w mg fo h Y G hmg0
    obtain ⟨K, KX, c⟩ := Y
    have hmg : mg ("law" : PySem.Str) = some (.ref fo) := by
      have e : (HandSHeadRun.topDef (OpenLaw.row PySem.Challenge.rw_paidatonce_k26_refusals_of_boxes_and_sha).prog 89).name = ("law" : PySem.Str) := by kernel_rfl
      rw [← e]
      exact hmg0
    obtain ⟨fd, hb, hF⟩ := Pa.facts (P := (PySem.Challenge.rw_paidatonce_k26_refusals_of_boxes_and_sha).prog) (w := w) KX G hmg c.t.d c.more
    exact ⟨K, fd, _, KX, hb, fun H a ns hl _ hS => ⟨H, [.scr K ns], .ok (.bl true), rfl, .refl _, .cons (.scr hS) .nil, ⟨ns, rfl, rfl⟩, fun v H' G' _ dv => dv.bl_inv⟩, fun base _ _ => hF base⟩
