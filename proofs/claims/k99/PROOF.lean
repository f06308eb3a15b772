import PyProof.Rows.All
import Wide.All
import OpenK.AllK
import Wide.FinOn
import HandS.ForMost
import HandS.More
import HandS.Defaults
import HandS.Exc
import HandS.Flow
import HandS.Style
import HandS.IsInst
import HandS.Walk
import HandS.Zip
import HandS.Rev
import HandS.Conv
import HandS.WordsExc
import HandS.Dict
import HandS.DictComp
import HandS.Small
import KE.GoesZip
import KE.GoesMore
import KE.GoesEnum
import KE.KRevIter
import HandS.List
import KE.KStateDown
import HandS.Head0
import HandS.Head1
import HandS.Head2
import HandS.HeadEnd
import HandS.HeadHook1
import HandS.HeadHook2
import PySem.Challenge.RW_paidatonce_k99_whole_shares_ways_and_exc
set_option Elab.async false
set_option linter.all false
set_option maxRecDepth 100000
set_option maxHeartbeats 0
namespace Pa
open PySem PySem.Spec PyProof.Rows L2

inductive Dt where
  | non | bl (b : Bool) | int (i : Int) | str (x : Str) | lst (xs : List Dt) | tup (xs : List Dt) | dic (kvs : List (Key × Dt)) | scr (K : PySem.W.Frag) (ns : List Int)
abbrev dI (ns : List Int) : Dt := .lst (ns.map Dt.int)
/-- no object stands in it -/
def Flat : Dt → Prop
  | .lst _ => False
  | .tup _ => False
  | .dic _ => False
  | .scr _ _ => False
  | _ => True
inductive Den (G : Hp) : V → Dt → Prop
  | non : Den G .non .non
  | bl (b : Bool) : Den G (.bl b) (.bl b)
  | int (i : Int) : Den G (.int i) (.int i)
  | str (x : Str) : Den G (.str x) (.str x)
  | lst {a : Addr} {vs : List V} {ds : List Dt} (h : G a = some (.lst vs)) (hl : vs.length = ds.length) (hd : ∀ (i : Nat) (v : V) (d : Dt), vs[i]? = some v → ds[i]? = some d → Den G v d) : Den G (.ref a) (.lst ds)
  | tup {a : Addr} {vs : List V} {ds : List Dt} (h : G a = some (.tup vs)) (hl : vs.length = ds.length) (hd : ∀ (i : Nat) (v : V) (d : Dt), vs[i]? = some v → ds[i]? = some d → Den G v d) : Den G (.ref a) (.tup ds)
  | dic {a : Addr} {o : Obj} {kvs : List (Key × V)} {kds : List (Key × Dt)} (h : G a = some (.frz o (.dK kvs))) (hk : kvs.map (·.1) = kds.map (·.1)) (hd : ∀ (i : Nat) (p : Key × V) (q : Key × Dt), kvs[i]? = some p → kds[i]? = some q → Den G p.2 q.2) : Den G (.ref a) (.dic kds)
  | scr {a : Addr} {K : PySem.W.Frag} {ns : List Int} (h : SqL K G a (ns.map V.int)) : Den G (.ref a) (.scr K ns)
def DenL (G : Hp) (vs : List V) (ds : List Dt) : Prop := vs.length = ds.length ∧ ∀ (i : Nat) (v : V) (d : Dt), vs[i]? = some v → ds[i]? = some d → Den G v d
theorem rd_mono {G G' : Hp} {a : Addr} {u : HO} (e : Same G G') (h : Rd G a u) : Rd G' a u := by
  rcases h with h | ⟨o, h⟩
  · exact .inl (e _ _ h)
  · exact .inr ⟨o, e _ _ h⟩
theorem sql_mono {K : PySem.W.Frag} {G G' : Hp} {a : Addr} {xs : List V} (e : Same G G') (h : SqL K G a xs) : SqL K G' a xs := by
  rcases h with h | h
  · exact .inl (rd_mono e h)
  · exact .inr h
theorem Den.mono {G G' : Hp} (e : Same G G') {v : V} {d : Dt} (h : Den G v d) : Den G' v d := by
  induction h with
  | non => exact .non
  | bl b => exact .bl b
  | int i => exact .int i
  | str x => exact .str x
  | lst h hl _ ih => exact .lst (e _ _ h) hl ih
  | tup h hl _ ih => exact .tup (e _ _ h) hl ih
  | dic h hk _ ih => exact .dic (e _ _ h) hk ih
  | scr h => exact .scr (sql_mono e h)
theorem DenL.mono {G G' : Hp} (e : Same G G') {vs : List V} {ds : List Dt} (h : DenL G vs ds) : DenL G' vs ds := ⟨h.1, fun i v d a b => (h.2 i v d a b).mono e⟩
theorem Den.flat {G G' : Hp} {v : V} {d : Dt} (f : Flat d) (h : Den G v d) : Den G' v d := by
  cases h with
  | non => exact .non
  | bl b => exact .bl b
  | int i => exact .int i
  | str x => exact .str x
  | lst _ _ _ => exact f.elim
  | tup _ _ _ => exact f.elim
  | dic _ _ _ => exact f.elim
  | scr _ => exact f.elim
theorem Den.int_inv {G : Hp} {v : V} {i : Int} (h : Den G v (.int i)) : v = .int i := by cases h; rfl
theorem Den.bl_inv {G : Hp} {v : V} {b : Bool} (h : Den G v (.bl b)) : v = .bl b := by cases h; rfl
theorem Den.non_inv {G : Hp} {v : V} (h : Den G v .non) : v = .non := by cases h; rfl
theorem Den.str_inv {G : Hp} {v : V} {x : Str} (h : Den G v (.str x)) : v = .str x := by cases h; rfl
theorem Den.lst_inv {G : Hp} {v : V} {ds : List Dt} (h : Den G v (.lst ds)) : ∃ a vs, v = .ref a ∧ G a = some (.lst vs) ∧ DenL G vs ds := by
  cases h with
  | lst h hl hd => exact ⟨_, _, rfl, h, hl, hd⟩
theorem Den.tup_inv {G : Hp} {v : V} {ds : List Dt} (h : Den G v (.tup ds)) : ∃ a vs, v = .ref a ∧ G a = some (.tup vs) ∧ DenL G vs ds := by
  cases h with
  | tup h hl hd => exact ⟨_, _, rfl, h, hl, hd⟩
theorem Den.scr_inv {K : PySem.W.Frag} {G : Hp} {v : V} {ns : List Int} (h : Den G v (.scr K ns)) : ∃ a, v = .ref a ∧ SqL K G a (ns.map V.int) := by
  cases h with
  | scr h => exact ⟨_, rfl, h⟩
theorem DenL.nil {G : Hp} : DenL G [] [] := ⟨rfl, fun i v d h => by simp at h⟩
theorem DenL.cons {G : Hp} {v : V} {d : Dt} {vs : List V} {ds : List Dt} (h : Den G v d) (r : DenL G vs ds) : DenL G (v :: vs) (d :: ds) := by
  refine ⟨congrArg Nat.succ r.1, fun i w e h1 h2 => ?_⟩
  cases i with
  | zero =>
    cases h1
    cases h2
    exact h
  | succ i => exact r.2 i w e h1 h2
theorem DenL.nil_inv {G : Hp} {vs : List V} (h : DenL G vs []) : vs = [] := List.eq_nil_of_length_eq_zero h.1
theorem DenL.cons_inv {G : Hp} {vs : List V} {d : Dt} {ds : List Dt} (h : DenL G vs (d :: ds)) : ∃ v ws, vs = v :: ws ∧ Den G v d ∧ DenL G ws ds := by
  obtain ⟨h1, h2⟩ := h
  cases vs with
  | nil => cases h1
  | cons v ws => exact ⟨v, ws, rfl, h2 0 v d rfl rfl, Nat.succ.inj h1, fun i w e a b => h2 (i + 1) w e a b⟩
theorem DenL.append {G : Hp} : ∀ {vs ws : List V} {ds es : List Dt}, DenL G vs ds → DenL G ws es → DenL G (vs ++ ws) (ds ++ es)
  | [], ws, ds, es, a, b => by
    have e : ds = [] := List.eq_nil_of_length_eq_zero a.1.symm
    rw [e]
    exact b
  | v :: vs, ws, [], es, a, b => by cases a.1
  | v :: vs, ws, d :: ds, es, a, b => by
    obtain ⟨w, us, e, h1, h2⟩ := a.cons_inv
    cases e
    exact .cons h1 (h2.append b)
/-- ints -/
theorem DenL.ints_inv {G : Hp} : ∀ {vs : List V} {ns : List Int}, DenL G vs (ns.map Dt.int) → vs = ns.map V.int
  | vs, [], h => h.nil_inv
  | vs, n :: ns, h => by
    obtain ⟨w, us, e, h1, h2⟩ := DenL.cons_inv (ds := ns.map Dt.int) h
    rw [e, h1.int_inv, h2.ints_inv]
    rfl
theorem DenL.ints {G : Hp} : ∀ ns : List Int, DenL G (ns.map V.int) (ns.map Dt.int)
  | [] => .nil
  | n :: ns => .cons (.int n) (DenL.ints ns)
theorem DenL.get {G : Hp} {vs : List V} {ds : List Dt} (h : DenL G vs ds) {i : Nat} {d : Dt} (e : ds[i]? = some d) : ∃ v, vs[i]? = some v ∧ Den G v d := by
  have hi : i < vs.length := by
    rw [h.1]
    exact (List.getElem?_eq_some_iff.mp e).1
  exact ⟨vs[i], List.getElem?_eq_getElem hi, h.2 i _ d (List.getElem?_eq_getElem hi) e⟩

structure Grow (G H G' H' : Hp) : Prop where
  hh : Same H H'
  gg : Same G G'
  sub : Same G' H'
  new : ∀ a, G a = none → H a ≠ none → G' a = none
theorem Grow.refl {G H : Hp} (s : Same G H) : Grow G H G H := ⟨.refl _, .refl _, s, fun _ h _ => h⟩
theorem Grow.trans {G H G1 H1 G2 H2 : Hp} (a : Grow G H G1 H1) (b : Grow G1 H1 G2 H2) : Grow G H G2 H2 :=
  ⟨a.hh.trans b.hh, a.gg.trans b.gg, b.sub, fun x h k => b.new x (a.new x h k) fun z => by
    cases q : H x with
    | none => exact k q
    | some o =>
      rw [a.hh x o q] at z
      cases z⟩
/-- a new object -/
theorem same_new {H : Hp} {p : Addr} {o : HO} (h : H p = none) : Same H (upd H p o) := fun b x e => by
  rw [upd_ne (ne_of_none e h)]
  exact e
theorem same_none {H H' : Hp} (s : Same H H') {p : Addr} (h : H' p = none) : H p = none := by
  cases q : H p with
  | none => rfl
  | some o =>
    rw [s p o q] at h
    cases h
theorem same_upd2 {G H : Hp} {p : Addr} {o : HO} (s : Same G H) : Same (upd G p o) (upd H p o) := fun b x e => by
  by_cases hb : b = p
  · subst hb
    rw [upd_same] at e ⊢
    exact e
  · rw [upd_ne hb] at e ⊢
    exact s b x e
theorem Grow.laid {G H : Hp} {p : Addr} {o : HO} (s : Same G H) (h : H p = none) : Grow G H (upd G p o) (upd H p o) :=
  ⟨same_new h, same_new (same_none s h), same_upd2 s, fun a h1 h2 => by
    rw [upd_ne (fun e => by rw [e] at h2; exact h2 h)]
    exact h1⟩
theorem Grow.junk {G H H' : Hp} (s : Same G H) (h : Same H H') : Grow G H G H' := ⟨h, .refl _, s.trans h, fun _ h _ => h⟩

abbrev Sl := List (Option Dt)
structure EnvD (G : Hp) (σ : L2.St) (δ : Sl) : Prop where
  len : σ.length = δ.length
  at_ : ∀ (i : Nat) (d : Dt), δ[i]? = some (some d) → ∃ v, σ[i]? = some (some v) ∧ Den G v d
theorem EnvD.mono {G G' : Hp} {σ : L2.St} {δ : Sl} (e : Same G G') (h : EnvD G σ δ) : EnvD G' σ δ := ⟨h.len, fun i d q => by
  obtain ⟨v, a, b⟩ := h.at_ i d q
  exact ⟨v, a, b.mono e⟩⟩
theorem EnvD.set {G : Hp} {σ : L2.St} {δ : Sl} {i : Nat} {v : V} {d : Dt} (h : EnvD G σ δ) (k : Den G v d) : EnvD G (σ.set i (some v)) (δ.set i (some d)) := by
  refine ⟨by rw [List.length_set, List.length_set]; exact h.len, fun j e q => ?_⟩
  by_cases hj : i = j
  · subst hj
    have hi : i < δ.length := by
      have := (List.getElem?_eq_some_iff.mp q).1
      rwa [List.length_set] at this
    rw [List.getElem?_set_self hi] at q
    cases q
    exact ⟨v, List.getElem?_set_self (by rw [h.len]; exact hi), k⟩
  · rw [List.getElem?_set_ne hj] at q
    obtain ⟨w, a, b⟩ := h.at_ j e q
    exact ⟨w, by rw [List.getElem?_set_ne hj]; exact a, b⟩
theorem EnvD.forget {G : Hp} {σ : L2.St} {δ : Sl} {i : Nat} {x : Option V} (h : EnvD G σ δ) : EnvD G (σ.set i x) (δ.set i none) := by
  refine ⟨by rw [List.length_set, List.length_set]; exact h.len, fun j e q => ?_⟩
  by_cases hj : i = j
  · subst hj
    have hi : i < δ.length := by
      have := (List.getElem?_eq_some_iff.mp q).1
      rwa [List.length_set] at this
    rw [List.getElem?_set_self hi] at q
    cases q
  · rw [List.getElem?_set_ne hj] at q
    obtain ⟨w, a, b⟩ := h.at_ j e q
    exact ⟨w, by rw [List.getElem?_set_ne hj]; exact a, b⟩
/-- less is known -/
def Less (δ δ' : Sl) : Prop := δ.length = δ'.length ∧ ∀ (i : Nat) (d : Dt), δ'[i]? = some (some d) → δ[i]? = some (some d)
theorem EnvD.less {G : Hp} {σ : L2.St} {δ δ' : Sl} (l : Less δ δ') (h : EnvD G σ δ) : EnvD G σ δ' := ⟨h.len.trans l.1, fun i d q => h.at_ i d (l.2 i d q)⟩
theorem Less.refl (δ : Sl) : Less δ δ := ⟨rfl, fun _ _ h => h⟩
theorem Less.trans {a b c : Sl} (h : Less a b) (k : Less b c) : Less a c := ⟨h.1.trans k.1, fun i d q => h.2 i d (k.2 i d q)⟩

section
variable {X : Cx}
theorem PE.sub {e : Expr} {t t' : TE} (h : PE X e t) (k : ∀ σ H Q, t' σ H Q → t σ H Q) : PE X e t' := ⟨fun pins s σ H Q I w => h.run pins s σ H Q I (k _ _ _ w)⟩
theorem PT.sub {e : Expr} {t t' : TT} (h : PT X e t) (k : ∀ σ H Q, t' σ H Q → t σ H Q) : PT X e t' := ⟨fun pins s σ H Q I w => h.run pins s σ H Q I (k _ _ _ w)⟩
theorem PW.sub {e : Expr} {t t' : TT} (h : PW X e t) (k : ∀ σ H Q, t' σ H Q → t σ H Q) : PW X e t' := ⟨fun wh pins s σ H Q I w => h.run wh pins s σ H Q I (k _ _ _ w)⟩
theorem PA.sub {e : List Expr} {t t' : TA} (h : PA X e t) (k : ∀ σ H Q, t' σ H Q → t σ H Q) : PA X e t' := ⟨fun p pins s σ H Q I w => h.run p pins s σ H Q I (k _ _ _ w)⟩
theorem PO.sub {e : Option Expr} {t t' : TO} (h : PO X e t) (k : ∀ σ H Q, t' σ H Q → t σ H Q) : PO X e t' := ⟨fun pins s σ H Q I w => h.run pins s σ H Q I (k _ _ _ w)⟩
theorem PS.sub {e : Stmt} {t t' : TS} (h : PS X e t) (k : ∀ D σ H, t' D σ H → t D σ H) : PS X e t' := ⟨fun pins s σ H D I w => h.run pins s σ H D I (k _ _ _ w)⟩
theorem PSs.sub {e : List Stmt} {t t' : TS} (h : PSs X e t) (k : ∀ D σ H, t' D σ H → t D σ H) : PSs X e t' := ⟨fun pins s σ H D I w => h.run pins s σ H D I (k _ _ _ w)⟩
end
def tX (δ : Sl) (d : Dt) : TE := fun σ H Q => ∃ G, Same G H ∧ EnvD G σ δ ∧ ∀ v H' G', Grow G H G' H' → Den G' v d → Q v H'
def tXT (δ : Sl) (b : Bool) : TT := fun σ H Q => ∃ G, Same G H ∧ EnvD G σ δ ∧ ∀ H' G', Grow G H G' H' → Q b H'
def tXA (δ : Sl) (ds : List Dt) : TA := fun σ H Q => ∃ G, Same G H ∧ EnvD G σ δ ∧ ∀ vs H' G', Grow G H G' H' → DenL G' vs ds → Q vs H'
/-- e is worth d where the slots hold δ -/
abbrev Xe (X : Cx) (e : Expr) (δ : Sl) (d : Dt) : Prop := PE X e (tX δ d)
abbrev Xt (X : Cx) (e : Expr) (δ : Sl) (b : Bool) : Prop := PT X e (tXT δ b)
abbrev Xw (X : Cx) (e : Expr) (δ : Sl) (b : Bool) : Prop := PW X e (tXT δ b)
abbrev Xa (X : Cx) (es : List Expr) (δ : Sl) (ds : List Dt) : Prop := PA X es (tXA δ ds)
/-- operators, calls, subscripts by data -/
def rX2 (x y z : Dt) : R2 := fun v w H Q => ∃ G, Same G H ∧ Den G v x ∧ Den G w y ∧ ∀ u H' G', Grow G H G' H' → Den G' u z → Q u H'
def rX1 (x z : Dt) : V → Hp → VK → Prop := fun v H Q => ∃ G, Same G H ∧ Den G v x ∧ ∀ u H' G', Grow G H G' H' → Den G' u z → Q u H'
def rXs (ds : List Dt) (z : Dt) : List V → Hp → VK → Prop := fun vs H Q => ∃ G, Same G H ∧ DenL G vs ds ∧ ∀ u H' G', Grow G H G' H' → Den G' u z → Q u H'
abbrev Xop (X : Cx) (f : Value → Value → Sem Value) (x y z : Dt) : Prop := OpR X f (rX2 x y z)
abbrev Xix (X : Cx) (x y z : Dt) : Prop := IxR X (rX2 x y z)
abbrev Xun (X : Cx) (f : Value → Sem Value) (x z : Dt) : Prop := UnR X f (rX1 x z)
abbrev Xcl (X : Cx) (f : Value) (ds : List Dt) (z : Dt) : Prop := CallR X f (rXs ds z)
section
variable {X : Cx}
theorem OpR.sub {f : Value → Value → Sem Value} {r r' : R2} (h : OpR X f r) (k : ∀ v w H Q, r' v w H Q → r v w H Q) : OpR X f r' := fun pins s σ H x y v w Q I rx ry q => h pins s σ H x y v w Q I rx ry (k _ _ _ _ q)
theorem UnR.sub {f : Value → Sem Value} {r r' : V → Hp → VK → Prop} (h : UnR X f r) (k : ∀ v H Q, r' v H Q → r v H Q) : UnR X f r' := fun pins s σ H x v Q I rx q => h pins s σ H x v Q I rx (k _ _ _ q)
theorem CallR.sub {f : Value} {r r' : List V → Hp → VK → Prop} (h : CallR X f r) (k : ∀ v H Q, r' v H Q → r v H Q) : CallR X f r' := fun pins s σ H xs us Q I r q => h pins s σ H xs us Q I r (k _ _ _ q)
end
end Pa
namespace Pa
open PySem PySem.Spec PyProof.Rows L2

section
variable {X : Cx} {δ : Sl} {pos p : Pos}
theorem tX_ret {σ : L2.St} {H : Hp} {Q : VK} {v : V} {d : Dt} (hd : ∀ G, Den G v d) (h : tX δ d σ H Q) : Q v H := by
  obtain ⟨G, s, e, k⟩ := h
  exact k _ _ _ (Grow.refl s) (hd G)
theorem PE.any {e : Expr} : PE X e (fun σ H Q => ∃ t, PE X e t ∧ t σ H Q) := ⟨fun pins s σ H Q I ⟨t, h, w⟩ => h.run pins s σ H Q I w⟩
theorem PT.any {e : Expr} : PT X e (fun σ H Q => ∃ t, PT X e t ∧ t σ H Q) := ⟨fun pins s σ H Q I ⟨t, h, w⟩ => h.run pins s σ H Q I w⟩
theorem PW.any {e : Expr} : PW X e (fun σ H Q => ∃ t, PW X e t ∧ t σ H Q) := ⟨fun wh pins s σ H Q I ⟨t, h, w⟩ => h.run wh pins s σ H Q I w⟩
theorem PSs.any {e : List Stmt} : PSs X e (fun D σ H => ∃ t, PSs X e t ∧ t D σ H) := ⟨fun pins s σ H D I ⟨t, h, w⟩ => h.run pins s σ H D I w⟩
theorem PS.any {e : Stmt} : PS X e (fun D σ H => ∃ t, PS X e t ∧ t D σ H) := ⟨fun pins s σ H D I ⟨t, h, w⟩ => h.run pins s σ H D I w⟩
theorem PA.any {es : List Expr} : PA X es (fun σ H Q => ∃ t, PA X es t ∧ t σ H Q) := ⟨fun p pins s σ H Q I ⟨t, h, w⟩ => h.run p pins s σ H Q I w⟩
theorem PG.any {e : Expr} : PG X e (fun v σ H Q => ∃ t, PG X e t ∧ t v σ H Q) := ⟨fun pins s σ H x v Q I r ⟨t, h, w⟩ => h.run pins s σ H x v Q I r w⟩
theorem xe_int {i : Int} {j : Nat} : Xe X (.Constant (.int i) j pos) δ (.int i) := PE.sub pe_int fun _ _ _ h => tX_ret (fun _ => .int i) h
theorem xe_bl {b : Bool} {j : Nat} : Xe X (.Constant (.bool b) j pos) δ (.bl b) := PE.sub pe_bl fun _ _ _ h => tX_ret (fun _ => .bl b) h
theorem xe_non {j : Nat} : Xe X (.Constant .none j pos) δ .non := PE.sub pe_non fun _ _ _ h => tX_ret (fun _ => .non) h
theorem xe_str {x : Str} {j : Nat} : Xe X (.Constant (.str x) j pos) δ (.str x) := PE.sub pe_str fun _ _ _ h => tX_ret (fun _ => .str x) h
theorem xe_var (i : Nat) {x : Str} {d : Dt} (hd : δ[i]? = some (some d) := by rfl) (hN : X.N[i]? = some x := by rfl)
    (hv : Vis X.env.scope x := by first | exact Or.inl rfl | exact Or.inr (Or.inl rfl) | exact Or.inr (Or.inr rfl)) (h1 : (x == ("__debug__" : Str)) = false := by decide) (h2 : (x == ("__classdict__" : Str)) = false := by decide) : Xe X (.Name x pos) δ d :=
  PE.sub (pe_var hN hv h1 h2) fun σ H Q h => by
    obtain ⟨G, s, e, k⟩ := h
    obtain ⟨v, a, b⟩ := e.at_ i d hd
    exact ⟨v, a, k _ _ _ (Grow.refl s) b⟩
theorem xe_glob {x : Str} {i : Int} (hm : ∃ t, X.mg x = some (.int i t)) (hg : Gl X x := by rfl) (h1 : (x == ("__debug__" : Str)) = false := by decide) : Xe X (.Name x pos) δ (.int i) := by
  obtain ⟨t, hm⟩ := hm
  exact PE.sub (pe_glob hg hm (v := .int i) ⟨t, rfl⟩ h1) fun _ _ _ h => tX_ret (fun _ => .int i) h

theorem xe_op {op : Operator} {a b : Expr} {x y z : Dt} (ho : Xop X (binaryOp op) x y z) (ha : Xe X a δ x) (hb : Xe X b δ y) : Xe X (.BinOp a op b pos) δ z :=
  PE.sub (pe_op ho ha hb) fun σ H Q h => by
    obtain ⟨G, s, e, k⟩ := h
    exact ⟨G, s, e, fun v H1 G1 g1 d1 => ⟨G1, g1.sub, e.mono g1.gg, fun w H2 G2 g2 d2 => ⟨G2, g2.sub, d1.mono g2.gg, d2, fun u H3 G3 g3 d3 => k u H3 G3 ((g1.trans g2).trans g3) d3⟩⟩⟩
theorem xe_un {op : UnaryOp} {a : Expr} {x z : Dt} (ho : Xun X (unaryOp op) x z) (ha : Xe X a δ x) : Xe X (.UnaryOp op a pos) δ z :=
  PE.sub (pe_un ho ha) fun σ H Q h => by
    obtain ⟨G, s, e, k⟩ := h
    exact ⟨G, s, e, fun v H1 G1 g1 d1 => ⟨G1, g1.sub, d1, fun u H3 G3 g3 d3 => k u H3 G3 (g1.trans g3) d3⟩⟩
theorem xe_cmp {op : CmpOp} {a b : Expr} {x y z : Dt} (ho : Xop X (compareOp op) x y z) (ha : Xe X a δ x) (hb : Xe X b δ y) (hm : behindInMarks op b = false := by first | exact nomark _ | rfl) : Xe X (.Compare a [op] [b] pos) δ z :=
  PE.sub (pe_cmpR ho ha hb hm) fun σ H Q h => by
    obtain ⟨G, s, e, k⟩ := h
    exact ⟨G, s, e, fun v H1 G1 g1 d1 => ⟨G1, g1.sub, e.mono g1.gg, fun w H2 G2 g2 d2 => ⟨G2, g2.sub, d1.mono g2.gg, d2, fun u H3 G3 g3 d3 => k u H3 G3 ((g1.trans g2).trans g3) d3⟩⟩⟩
theorem xt_cmp {op : CmpOp} {a b : Expr} {x y : Dt} {c : Bool} (ho : Xop X (compareOp op) x y (.bl c)) (ha : Xe X a δ x) (hb : Xe X b δ y) (hm : behindInMarks op b = false := by first | exact nomark _ | rfl) : Xt X (.Compare a [op] [b] pos) δ c :=
  PT.sub (pt_cmpR ho ha hb hm) fun σ H Q h => by
    obtain ⟨G, s, e, k⟩ := h
    exact ⟨G, s, e, fun v H1 G1 g1 d1 => ⟨G1, g1.sub, e.mono g1.gg, fun w H2 G2 g2 d2 => ⟨G2, g2.sub, d1.mono g2.gg, d2, fun u H3 G3 g3 d3 => ⟨c, d3.bl_inv, k H3 G3 ((g1.trans g2).trans g3)⟩⟩⟩⟩
/-- a < b < c -/
theorem xe_chain {op op' : CmpOp} {a b c : Expr} {x y z : Dt} {k1 k2 : Bool} (ho : Xop X (compareOp op) x y (.bl k1)) (ha : Xe X a δ x) (hb : Xe X b δ y) (h2 : k1 = true → Xop X (compareOp op') y z (.bl k2) ∧ Xe X c δ z) (hc : k1 = false → k2 = false) (hm : lastMarks [op, op'] [b, c] = false := by with_unfolding_all rfl) : Xe X (.Compare a [op, op'] [b, c] pos) δ (.bl k2) := by
  cases k1 with
  | true =>
    obtain ⟨h2, h3⟩ := h2 rfl
    exact PE.sub (pe_chain ho h2 ha hb h3 hm) fun σ H Q h => by
      obtain ⟨G, s, e, k⟩ := h
      refine ⟨G, s, e, fun v H1 G1 g1 d1 => ⟨G1, g1.sub, e.mono g1.gg, fun w H2 G2 g2 d2 => ⟨G2, g2.sub, d1.mono g2.gg, d2, fun u H3 G3 g3 d3 => ⟨true, d3.bl_inv, ?_⟩⟩⟩⟩
      rw [if_pos rfl]
      exact ⟨G3, g3.sub, e.mono ((g1.gg.trans g2.gg).trans g3.gg), fun w' H4 G4 g4 d4 => ⟨G4, g4.sub, d2.mono (g3.gg.trans g4.gg), d4, fun u' H5 G5 g5 d5 => k u' H5 G5 ((((g1.trans g2).trans g3).trans g4).trans g5) d5⟩⟩
  | false =>
    have e2 := hc rfl
    subst e2
    have hz : OpR X (compareOp op') (fun _ _ _ _ => False) := fun pins s σ H x y v u Q I rx ry q => q.elim
    exact PE.sub (pe_chain ho hz ha hb PE.any hm) fun σ H Q h => by
      obtain ⟨G, s, e, k⟩ := h
      refine ⟨G, s, e, fun v H1 G1 g1 d1 => ⟨G1, g1.sub, e.mono g1.gg, fun w H2 G2 g2 d2 => ⟨G2, g2.sub, d1.mono g2.gg, d2, fun u H3 G3 g3 d3 => ⟨false, d3.bl_inv, ?_⟩⟩⟩⟩
      rw [if_neg Bool.false_ne_true]
      exact k _ H3 G3 ((g1.trans g2).trans g3) (.bl false)
theorem xt_chain {op op' : CmpOp} {a b c : Expr} {x y z : Dt} {k1 k2 : Bool} (ho : Xop X (compareOp op) x y (.bl k1)) (ha : Xe X a δ x) (hb : Xe X b δ y) (h2 : k1 = true → Xop X (compareOp op') y z (.bl k2) ∧ Xe X c δ z) (hc : k1 = false → k2 = false) (hm : lastMarks [op, op'] [b, c] = false := by with_unfolding_all rfl) : Xt X (.Compare a [op, op'] [b, c] pos) δ k2 := by
  cases k1 with
  | true =>
    obtain ⟨h2, h3⟩ := h2 rfl
    exact PT.sub (pt_chain ho h2 ha hb h3 hm) fun σ H Q h => by
      obtain ⟨G, s, e, k⟩ := h
      refine ⟨G, s, e, fun v H1 G1 g1 d1 => ⟨G1, g1.sub, e.mono g1.gg, fun w H2 G2 g2 d2 => ⟨G2, g2.sub, d1.mono g2.gg, d2, fun u H3 G3 g3 d3 => ⟨true, d3.bl_inv, ?_⟩⟩⟩⟩
      rw [if_pos rfl]
      exact ⟨G3, g3.sub, e.mono ((g1.gg.trans g2.gg).trans g3.gg), fun w' H4 G4 g4 d4 => ⟨G4, g4.sub, d2.mono (g3.gg.trans g4.gg), d4, fun u' H5 G5 g5 d5 => ⟨k2, d5.bl_inv, k H5 G5 ((((g1.trans g2).trans g3).trans g4).trans g5)⟩⟩⟩
  | false =>
    have e2 := hc rfl
    subst e2
    have hz : OpR X (compareOp op') (fun _ _ _ _ => False) := fun pins s σ H x y v u Q I rx ry q => q.elim
    exact PT.sub (pt_chain ho hz ha hb PE.any hm) fun σ H Q h => by
      obtain ⟨G, s, e, k⟩ := h
      refine ⟨G, s, e, fun v H1 G1 g1 d1 => ⟨G1, g1.sub, e.mono g1.gg, fun w H2 G2 g2 d2 => ⟨G2, g2.sub, d1.mono g2.gg, d2, fun u H3 G3 g3 d3 => ⟨false, d3.bl_inv, ?_⟩⟩⟩⟩
      rw [if_neg Bool.false_ne_true]
      exact ⟨false, rfl, k H3 G3 ((g1.trans g2).trans g3)⟩
theorem xe_ix {a b : Expr} {x y z : Dt} (ho : Xix X x y z) (ha : Xe X a δ x) (hb : Xe X b δ y) (hs : PlainIx b := by intro _ _; rfl) : Xe X (.Subscript a b pos) δ z :=
  PE.sub (pe_ix ho ha hb hs) fun σ H Q h => by
    obtain ⟨G, s, e, k⟩ := h
    exact ⟨G, s, e, fun v H1 G1 g1 d1 => ⟨G1, g1.sub, e.mono g1.gg, fun w H2 G2 g2 d2 => ⟨G2, g2.sub, d1.mono g2.gg, d2, fun u H3 G3 g3 d3 => k u H3 G3 ((g1.trans g2).trans g3) d3⟩⟩⟩
/-- a slice -/
def tXO (δ : Sl) (o : Option Int) : TO := fun σ H Q => ∃ G, Same G H ∧ EnvD G σ δ ∧ ∀ H' G', Grow G H G' H' → Q o H'
abbrev Xo (X : Cx) (e : Option Expr) (δ : Sl) (o : Option Int) : Prop := PO X e (tXO δ o)
theorem xo_none : Xo X none δ none := PO.sub po_none fun σ H Q h => by
  obtain ⟨G, s, e, k⟩ := h
  exact k H G (Grow.refl s)
theorem xo_some {a : Expr} {i : Int} (ha : Xe X a δ (.int i)) : Xo X (some a) δ (some i) := PO.sub (po_some ha) fun σ H Q h => by
  obtain ⟨G, s, e, k⟩ := h
  exact ⟨G, s, e, fun v H1 G1 g1 d1 => ⟨i, d1.int_inv, k H1 G1 g1⟩⟩
/-- what a slice of data is -/
def cutD {α : Type} (xs : List α) (lo hi : Option Int) : List α := (xs.drop (HT.sIx xs.length 0 lo)).take (HT.sIx xs.length xs.length hi - HT.sIx xs.length 0 lo)
theorem DenL.cut {G : Hp} {vs : List V} {ds : List Dt} (h : DenL G vs ds) (lo hi : Option Int) : DenL G (cutV vs lo hi) (cutD ds lo hi) := by
  unfold cutV cutD
  rw [h.1]
  refine ⟨?_, fun i v d a b => ?_⟩
  · rw [List.length_take, List.length_take, List.length_drop, List.length_drop, h.1]
  · rw [List.getElem?_take] at a b
    split at a
    · rename_i hi
      rw [if_pos hi, List.getElem?_drop] at b
      rw [List.getElem?_drop] at a
      exact h.2 _ v d a b
    · cases a
theorem xe_slice {a : Expr} {lo hi : Option Expr} {p2 : Pos} {ds : List Dt} {i j : Option Int} (ha : Xe X a δ (.lst ds)) (hl : Xo X lo δ i) (hh : Xo X hi δ j) : Xe X (.Subscript a (.Slice lo hi none p2) pos) δ (.lst (cutD ds i j)) :=
  PE.sub (pe_slice sl_list ha hl hh) fun σ H Q h => by
    obtain ⟨G, s, e, k⟩ := h
    refine ⟨G, s, e, fun v H1 G1 g1 d1 => ⟨G1, g1.sub, e.mono g1.gg, fun H2 G2 g2 => ⟨G2, g2.sub, e.mono (g1.gg.trans g2.gg), fun H3 G3 g3 => ?_⟩⟩⟩
    obtain ⟨p, vs, rfl, r, dl⟩ := d1.lst_inv
    have g := (g1.trans g2).trans g3
    have s13 := g2.gg.trans g3.gg
    refine ⟨p, vs, rfl, .inl (.inl ((s13.trans g3.sub) _ _ r)), fun q hq => ?_⟩
    have gl : Grow G3 H3 (upd G3 q (.lst (cutV vs i j))) (upd H3 q (.lst (cutV vs i j))) := Grow.laid g3.sub hq
    exact k _ _ _ (g.trans gl) (.lst upd_same ((dl.cut i j).1) fun n w d a b => (((dl.cut i j).2 n w d a b).mono s13).mono gl.gg)

theorem xe_one {op : BoolOp} {a : Expr} {d : Dt} (ha : Xe X a δ d) : Xe X (.BoolOp op [a] pos) δ d := pe_one ha
/-- a and b, a a bool -/
theorem xe_and {a b : Expr} {rest : List Expr} {c : Bool} {d : Dt} (ha : Xe X a δ (.bl c)) (hb : c = true → Xe X (.BoolOp .And (b :: rest) pos) δ d) (hf : c = false → d = .bl false) : Xe X (.BoolOp .And (a :: b :: rest) pos) δ d :=
  PE.sub (pe_and ha PE.any) fun σ H Q h => by
    obtain ⟨G, s, e, k⟩ := h
    refine ⟨G, s, e, fun v H1 G1 g1 d1 => ⟨c, d1.bl_inv, ?_⟩⟩
    cases c with
    | true => exact ⟨_, hb rfl, G1, g1.sub, e.mono g1.gg, fun u H2 G2 g2 d2 => k u H2 G2 (g1.trans g2) d2⟩
    | false =>
      rw [if_neg Bool.false_ne_true]
      have ed := hf rfl
      subst ed
      exact k _ _ _ g1 (.bl false)
theorem xe_or {a b : Expr} {rest : List Expr} {c : Bool} {d : Dt} (ha : Xe X a δ (.bl c)) (hb : c = false → Xe X (.BoolOp .Or (b :: rest) pos) δ d) (hf : c = true → d = .bl true) : Xe X (.BoolOp .Or (a :: b :: rest) pos) δ d :=
  PE.sub (pe_or ha PE.any) fun σ H Q h => by
    obtain ⟨G, s, e, k⟩ := h
    refine ⟨G, s, e, fun v H1 G1 g1 d1 => ⟨c, d1.bl_inv, ?_⟩⟩
    cases c with
    | true =>
      rw [if_pos rfl]
      have ed := hf rfl
      subst ed
      exact k _ _ _ g1 (.bl true)
    | false =>
      rw [if_neg Bool.false_ne_true]
      exact ⟨_, hb rfl, G1, g1.sub, e.mono g1.gg, fun u H2 G2 g2 d2 => k u H2 G2 (g1.trans g2) d2⟩
theorem xe_not {a : Expr} {c : Bool} (ha : Xe X a δ (.bl c)) : Xe X (.UnaryOp .Not a pos) δ (.bl (!c)) :=
  PE.sub (pe_not ha) fun σ H Q h => by
    obtain ⟨G, s, e, k⟩ := h
    exact ⟨G, s, e, fun v H1 G1 g1 d1 => ⟨c, d1.bl_inv, k _ _ _ g1 (.bl (!c))⟩⟩
/-- tests -/
theorem xt_val {a : Expr} {c : Bool} (ha : Xe X a δ (.bl c)) (he : ∀ whole, isTrue a X.env whole = (do let v ← whole; standAt a.pos; holding [v] (truthy v)) := by intro _; rfl) : Xt X a δ c :=
  PT.sub (pt_val ha he) fun σ H Q h => by
    obtain ⟨G, s, e, k⟩ := h
    exact ⟨G, s, e, fun v H1 G1 g1 d1 => ⟨c, d1.bl_inv, k _ _ g1⟩⟩
theorem xt_not {a : Expr} {c : Bool} (ha : Xt X a δ c) : Xt X (.UnaryOp .Not a pos) δ (!c) :=
  PT.sub (pt_not ha) fun σ H Q h => by
    obtain ⟨G, s, e, k⟩ := h
    exact ⟨G, s, e, fun H1 G1 g1 => k _ _ g1⟩
theorem xw_and1 {a : Expr} {c : Bool} (ha : Xt X a δ c) : Xw X (.BoolOp .And [a] pos) δ c := pw_and1 ha
theorem xw_or1 {a : Expr} {c : Bool} (ha : Xt X a δ c) : Xw X (.BoolOp .Or [a] pos) δ c := pw_or1 ha
theorem xw_and {a b : Expr} {rest : List Expr} {c k2 : Bool} (ha : Xt X a δ c) (hb : c = true → Xw X (.BoolOp .And (b :: rest) pos) δ k2) (hf : c = false → k2 = false) : Xw X (.BoolOp .And (a :: b :: rest) pos) δ k2 :=
  PW.sub (pw_and ha PW.any) fun σ H Q h => by
    obtain ⟨G, s, e, k⟩ := h
    refine ⟨G, s, e, fun H1 G1 g1 => ?_⟩
    cases c with
    | true => exact ⟨_, hb rfl, G1, g1.sub, e.mono g1.gg, fun H2 G2 g2 => k H2 G2 (g1.trans g2)⟩
    | false =>
      rw [if_neg Bool.false_ne_true]
      have ed := hf rfl
      subst ed
      exact k _ _ g1
theorem xw_or {a b : Expr} {rest : List Expr} {c k2 : Bool} (ha : Xt X a δ c) (hb : c = false → Xw X (.BoolOp .Or (b :: rest) pos) δ k2) (hf : c = true → k2 = true) : Xw X (.BoolOp .Or (a :: b :: rest) pos) δ k2 :=
  PW.sub (pw_or ha PW.any) fun σ H Q h => by
    obtain ⟨G, s, e, k⟩ := h
    refine ⟨G, s, e, fun H1 G1 g1 => ?_⟩
    cases c with
    | true =>
      rw [if_pos rfl]
      have ed := hf rfl
      subst ed
      exact k _ _ g1
    | false =>
      rw [if_neg Bool.false_ne_true]
      exact ⟨_, hb rfl, G1, g1.sub, e.mono g1.gg, fun H2 G2 g2 => k H2 G2 (g1.trans g2)⟩
theorem xt_bool {a : Expr} {c : Bool} (h : Xw X a δ c) : Xt X a δ c := PW.pt h
/-- a list's truth -/
theorem xt_list {a : Expr} {ds : List Dt} (ha : Xe X a δ (.lst ds)) (he : ∀ whole, isTrue a X.env whole = (do let v ← whole; standAt a.pos; holding [v] (truthy v)) := by intro _; rfl) : Xt X a δ (!ds.isEmpty) :=
  PT.sub (pt_truth ha he) fun σ H Q h => by
    obtain ⟨G, s, e, k⟩ := h
    refine ⟨G, s, e, fun v H1 G1 g1 d1 => ?_⟩
    obtain ⟨p, vs, rfl, r, dl⟩ := d1.lst_inv
    refine ⟨!ds.isEmpty, .inl ⟨vs, .inl (.inl (g1.sub _ _ r)), ?_⟩, k _ _ g1⟩
    have := dl.1
    cases vs with
    | nil =>
      cases ds with
      | nil => rfl
      | cons d ds => cases this
    | cons v vs =>
      cases ds with
      | nil => cases this
      | cons d ds => rfl
theorem xe_if {t a b : Expr} {c : Bool} {d : Dt} (ht : Xt X t δ c) (ha : c = true → Xe X a δ d) (hb : c = false → Xe X b δ d) : Xe X (.IfExp t a b pos) δ d :=
  PE.sub (pe_ifExp ht PE.any PE.any) fun σ H Q h => by
    obtain ⟨G, s, e, k⟩ := h
    refine ⟨G, s, e, fun H1 G1 g1 => ?_⟩
    cases c with
    | true => exact ⟨_, ha rfl, G1, g1.sub, e.mono g1.gg, fun u H2 G2 g2 d2 => k u H2 G2 (g1.trans g2) d2⟩
    | false =>
      rw [if_neg Bool.false_ne_true]
      exact ⟨_, hb rfl, G1, g1.sub, e.mono g1.gg, fun u H2 G2 g2 d2 => k u H2 G2 (g1.trans g2) d2⟩

theorem xa_nil : Xa X [] δ [] := PA.sub pa_nil fun σ H Q h => by
  obtain ⟨G, s, e, k⟩ := h
  exact k _ _ _ (Grow.refl s) .nil
theorem xa_cons {a : Expr} {es : List Expr} {d : Dt} {ds : List Dt} (ha : Xe X a δ d) (hr : Xa X es δ ds) (hs : starEach (a :: es) X.env = (false, eval a X.env) :: starEach es X.env := by rfl) : Xa X (a :: es) δ (d :: ds) :=
  PA.sub (pa_cons ha hr hs) fun σ H Q h => by
    obtain ⟨G, s, e, k⟩ := h
    exact ⟨G, s, e, fun v H1 G1 g1 d1 => ⟨G1, g1.sub, e.mono g1.gg, fun vs H2 G2 g2 d2 => k _ _ _ (g1.trans g2) (.cons (d1.mono g2.gg) d2)⟩⟩
theorem xe_tup {es : List Expr} {x1 : Nat} {ds : List Dt} (h : Xa X es δ ds) (hz : ds.length ≤ 1000 := by exact Nat.le_of_ble_eq_true rfl) : Xe X (.Tuple es x1 pos) δ (.tup ds) :=
  PE.sub (pe_tup h) fun σ H Q w => by
    obtain ⟨G, s, e, k⟩ := w
    refine ⟨G, s, e, fun vs H1 G1 g1 d1 => ⟨by rw [d1.1]; exact Nat.le_of_lt (small1000 hz), fun p hp => ?_⟩⟩
    have gl : Grow G1 H1 (upd G1 p (.tup vs)) (upd H1 p (.tup vs)) := Grow.laid g1.sub hp
    exact k _ _ _ (g1.trans gl) (.tup upd_same d1.1 fun i v d a b => (d1.2 i v d a b).mono gl.gg)
theorem xe_lst {es : List Expr} {ds : List Dt} (h : Xa X es δ ds) (hz : ds.length ≤ 1000 := by exact Nat.le_of_ble_eq_true rfl) : Xe X (.List es pos) δ (.lst ds) :=
  PE.sub (pe_lst h) fun σ H Q w => by
    obtain ⟨G, s, e, k⟩ := w
    refine ⟨G, s, e, fun vs H1 G1 g1 d1 => ⟨by rw [d1.1]; exact Nat.le_of_lt (small1000 hz), fun p hp => ?_⟩⟩
    have gl : Grow G1 H1 (upd G1 p (.lst vs)) (upd H1 p (.lst vs)) := Grow.laid g1.sub hp
    exact k _ _ _ (g1.trans gl) (.lst upd_same d1.1 fun i v d a b => (d1.2 i v d a b).mono gl.gg)
theorem rXs_of {ds : List Dt} {d : Dt} {t : TA} {σ : L2.St} {H : Hp} {Q : VK} (h : tX δ d σ H Q) : tXA δ ds σ H fun vs H1 => rXs ds d vs H1 Q := by
  obtain ⟨G, s, e, k⟩ := h
  exact ⟨G, s, e, fun vs H1 G1 g1 d1 => ⟨G1, g1.sub, d1, fun u H2 G2 g2 d2 => k u H2 G2 (g1.trans g2) d2⟩⟩
theorem xe_callB {x : Str} {id : String} {a : Expr} {es : List Expr} {ds : List Dt} {d : Dt} (hc : Xcl X (.builtin id) ds d) (hm : X.mg x = none) (hv : bootBuiltins x = some (.builtin id)) (ha : Xa X (a :: es) δ ds) (hg : Gl X x := by rfl) (hn : x ≠ "__name__" := by decide) (hdb : (x == ("__debug__" : Str)) = false := by decide)
    (he : starEach (a :: es) X.env = (false, eval a X.env) :: starEach es X.env := by rfl) (hpl : (backTo pos (starEach es X.env)).any (·.1) = false := by rfl) : Xe X (.Call (.Name x p) (a :: es) [] pos) δ d :=
  PE.sub (pe_callB hc hg hm hv ha hn hdb he hpl) fun σ H Q h => rXs_of (t := tNil) h
theorem xe_callTy {x : Str} {T : String} {a : Expr} {es : List Expr} {ds : List Dt} {d : Dt} (hc : Xcl X (.type T) ds d) (hm : X.mg x = none) (hv : bootBuiltins x = some (.type T)) (ha : Xa X (a :: es) δ ds) (hg : Gl X x := by rfl) (hn : x ≠ "__name__" := by decide) (hdb : (x == ("__debug__" : Str)) = false := by decide)
    (he : starEach (a :: es) X.env = (false, eval a X.env) :: starEach es X.env := by rfl) (hpl : (backTo pos (starEach es X.env)).any (·.1) = false := by rfl) : Xe X (.Call (.Name x p) (a :: es) [] pos) δ d :=
  PE.sub (pe_callTy hc hg hm hv ha hn hdb he hpl) fun σ H Q h => rXs_of (t := tNil) h
end
end Pa
namespace Pa
open PySem PySem.Spec PyProof.Rows L2
section
variable {X : Cx} {δ : Sl} {pos p : Pos}
theorem rX2_i {g : Int → Int → V} {i j : Int} {z : Dt} (hz : ∀ G, Den G (g i j) z) {v w : V} {H : Hp} {Q : VK} (h : rX2 (.int i) (.int j) z v w H Q) : rI0 g v w H Q := by
  obtain ⟨G, s, a, b, k⟩ := h
  exact ⟨i, j, a.int_inv, b.int_inv, k _ _ _ (Grow.refl s) (hz G)⟩
theorem rX2_iC {C : Int → Int → Prop} {g : Int → Int → V} {i j : Int} {z : Dt} (hc : C i j) (hz : ∀ G, Den G (g i j) z) {v w : V} {H : Hp} {Q : VK} (h : rX2 (.int i) (.int j) z v w H Q) : rI C g v w H Q := by
  obtain ⟨G, s, a, b, k⟩ := h
  exact ⟨i, j, a.int_inv, b.int_inv, hc, k _ _ _ (Grow.refl s) (hz G)⟩
theorem o_add {i j : Int} : Xop X (binaryOp .Add) (.int i) (.int j) (.int (i + j)) := OpR.sub op_add fun _ _ _ _ h => rX2_i (fun _ => .int _) h
theorem o_sub {i j : Int} : Xop X (binaryOp .Sub) (.int i) (.int j) (.int (i - j)) := OpR.sub op_sub fun _ _ _ _ h => rX2_i (fun _ => .int _) h
theorem o_mul {i j : Int} (h : CMul i j) : Xop X (binaryOp .Mult) (.int i) (.int j) (.int (i * j)) := OpR.sub op_mul fun _ _ _ _ k => rX2_iC h (fun _ => .int _) k
theorem o_div {i j : Int} (h : CDiv i j) : Xop X (binaryOp .FloorDiv) (.int i) (.int j) (.int (i / j)) := OpR.sub op_fdiv fun _ _ _ _ k => rX2_iC h (fun _ => .int _) k
theorem o_mod {i j : Int} (h : 0 < j) : Xop X (binaryOp .Mod) (.int i) (.int j) (.int (i % j)) := OpR.sub op_mod fun _ _ _ _ k => rX2_iC (C := fun _ j => 0 < j) (g := fun i j => .int (i % j)) (i := i) (j := j) h (fun _ => .int _) k
theorem o_pow {i j : Int} (h : CPow i j) : Xop X (binaryOp .Pow) (.int i) (.int j) (.int (i ^ j.toNat)) := OpR.sub op_pow fun _ _ _ _ k => rX2_iC h (fun _ => .int _) k
theorem o_lt {i j : Int} : Xop X (compareOp .Lt) (.int i) (.int j) (.bl (decide (i < j))) := OpR.sub op_lt fun _ _ _ _ h => rX2_i (fun _ => .bl _) h
theorem o_le {i j : Int} : Xop X (compareOp .LtE) (.int i) (.int j) (.bl (decide (i ≤ j))) := OpR.sub op_le fun _ _ _ _ h => rX2_i (fun _ => .bl _) h
theorem o_gt {i j : Int} : Xop X (compareOp .Gt) (.int i) (.int j) (.bl (decide (j < i))) := OpR.sub op_gt fun _ _ _ _ h => rX2_i (fun _ => .bl _) h
theorem o_ge {i j : Int} : Xop X (compareOp .GtE) (.int i) (.int j) (.bl (decide (j ≤ i))) := OpR.sub op_ge fun _ _ _ _ h => rX2_i (fun _ => .bl _) h
theorem o_neg {i : Int} : Xun X (unaryOp .USub) (.int i) (.int (-i)) := UnR.sub un_neg fun _ _ _ ⟨G, s, a, k⟩ => ⟨i, a.int_inv, k _ _ _ (Grow.refl s) (.int _)⟩
/-- == and != of two ints, two texts, two bools -/
theorem o_eqI {i j : Int} : Xop X (compareOp .Eq) (.int i) (.int j) (.bl (decide (i = j))) := OpR.sub op_eq fun v w H Q ⟨G, s, a, b, k⟩ => by
  rw [a.int_inv, b.int_inv]
  have e : decide (V.int i = V.int j) = decide (i = j) := by
    by_cases h : i = j
    · rw [h, decide_eq_true rfl, decide_eq_true rfl]
    · rw [decide_eq_false h, decide_eq_false fun z => h (V.int.inj z)]
  exact ⟨rfl, by rw [e]; exact k _ _ _ (Grow.refl s) (.bl _)⟩
theorem o_neI {i j : Int} : Xop X (compareOp .NotEq) (.int i) (.int j) (.bl (!decide (i = j))) := OpR.sub op_ne fun v w H Q ⟨G, s, a, b, k⟩ => by
  rw [a.int_inv, b.int_inv]
  have e : decide (V.int i = V.int j) = decide (i = j) := by
    by_cases h : i = j
    · rw [h, decide_eq_true rfl, decide_eq_true rfl]
    · rw [decide_eq_false h, decide_eq_false fun z => h (V.int.inj z)]
  exact ⟨rfl, by rw [e]; exact k _ _ _ (Grow.refl s) (.bl _)⟩
theorem o_eqS {i j : Str} {c : Bool} (h : decide (i = j) = c := by decide) : Xop X (compareOp .Eq) (.str i) (.str j) (.bl c) := OpR.sub op_eq fun v w H Q ⟨G, s, a, b, k⟩ => by
  rw [a.str_inv, b.str_inv]
  have e : decide (V.str i = V.str j) = c := by
    rw [← h]
    by_cases h : i = j
    · rw [h, decide_eq_true rfl, decide_eq_true rfl]
    · rw [decide_eq_false h, decide_eq_false fun z => h (V.str.inj z)]
  exact ⟨rfl, by rw [e]; exact k _ _ _ (Grow.refl s) (.bl _)⟩
theorem o_neS {i j : Str} {c : Bool} (h : (!decide (i = j)) = c := by decide) : Xop X (compareOp .NotEq) (.str i) (.str j) (.bl c) := OpR.sub op_ne fun v w H Q ⟨G, s, a, b, k⟩ => by
  rw [a.str_inv, b.str_inv]
  have e : (!decide (V.str i = V.str j)) = c := by
    rw [← h]
    by_cases h : i = j
    · rw [h, decide_eq_true rfl, decide_eq_true rfl]
    · rw [decide_eq_false h, decide_eq_false fun z => h (V.str.inj z)]
  exact ⟨rfl, by rw [e]; exact k _ _ _ (Grow.refl s) (.bl _)⟩
theorem o_neB {i j : Bool} : Xop X (compareOp .NotEq) (.bl i) (.bl j) (.bl (i != j)) := OpR.sub op_ne fun v w H Q ⟨G, s, a, b, k⟩ => by
  rw [a.bl_inv, b.bl_inv]
  have e : (!decide (V.bl i = V.bl j)) = (i != j) := by cases i <;> cases j <;> rfl
  exact ⟨rfl, by rw [e]; exact k _ _ _ (Grow.refl s) (.bl _)⟩
/-- is None -/
def isNon : Dt → Bool
  | .non => true
  | _ => false
theorem Den.isNon {G : Hp} {v : V} {d : Dt} (h : Den G v d) : decide (v = .non) = Pa.isNon d := by cases h <;> rfl
theorem o_isN {d : Dt} : Xop X (compareOp .Is) d .non (.bl (isNon d)) := OpR.sub op_isN fun v w H Q ⟨G, s, a, b, k⟩ => ⟨b.non_inv, by
  rw [a.isNon]
  exact k _ _ _ (Grow.refl s) (.bl _)⟩
theorem o_notN {d : Dt} : Xop X (compareOp .IsNot) d .non (.bl (!isNon d)) := OpR.sub op_notN fun v w H Q ⟨G, s, a, b, k⟩ => ⟨b.non_inv, by
  rw [a.isNon]
  exact k _ _ _ (Grow.refl s) (.bl _)⟩
theorem o_isB {i j : Bool} : Xop X (compareOp .Is) (.bl i) (.bl j) (.bl (i == j)) := OpR.sub op_isBl fun v w H Q ⟨G, s, a, b, k⟩ => ⟨i, j, a.bl_inv, b.bl_inv, by
  have e : decide (i = j) = (i == j) := by cases i <;> cases j <;> rfl
  rw [e]
  exact k _ _ _ (Grow.refl s) (.bl _)⟩
theorem o_notB {i j : Bool} : Xop X (compareOp .IsNot) (.bl i) (.bl j) (.bl (i != j)) := OpR.sub op_notBl fun v w H Q ⟨G, s, a, b, k⟩ => ⟨i, j, a.bl_inv, b.bl_inv, by
  have e : (!decide (i = j)) = (i != j) := by cases i <;> cases j <;> rfl
  rw [e]
  exact k _ _ _ (Grow.refl s) (.bl _)⟩
theorem o_cat {ds es : List Dt} (hz : ds.length + es.length ≤ 1000) : Xop X (binaryOp .Add) (.lst ds) (.lst es) (.lst (ds ++ es)) := OpR.sub op_cat fun v w H Q ⟨G, s, a, b, k⟩ => by
  obtain ⟨l, vs, rfl, r, dl⟩ := a.lst_inv
  obtain ⟨m, ws, rfl, r2, dl2⟩ := b.lst_inv
  refine ⟨l, m, vs, ws, rfl, rfl, s _ _ r, s _ _ r2, by rw [dl.1, dl2.1]; exact Nat.le_of_lt (small1000 hz), fun q hq => ?_⟩
  have gl : Grow G H (upd G q (.lst (vs ++ ws))) (upd H q (.lst (vs ++ ws))) := Grow.laid s hq
  have da := (dl.append dl2).mono gl.gg
  exact k _ _ _ gl (.lst upd_same da.1 da.2)
theorem DenL.rep1 {G : Hp} {v : V} {d : Dt} (h : Den G v d) : ∀ n : Nat, DenL G (List.replicate n v) (List.replicate n d)
  | 0 => .nil
  | n + 1 => by
    rw [List.replicate_succ, List.replicate_succ]
    exact .cons h (DenL.rep1 h n)
theorem flat_rep1 {α : Type} (x : α) : ∀ n : Nat, (List.replicate n [x]).flatten = List.replicate n x
  | 0 => rfl
  | n + 1 => by
    rw [List.replicate_succ, List.flatten_cons, flat_rep1 x n, List.replicate_succ]
    rfl
/-- [x] * n -/
theorem o_rep {d : Dt} {n : Int} (h0 : 0 ≤ n) (hz : n ≤ 1000) : Xop X (binaryOp .Mult) (.lst [d]) (.int n) (.lst (List.replicate n.toNat d)) := OpR.sub op_rep fun v w H Q ⟨G, s, a, b, k⟩ => by
  obtain ⟨l, vs, rfl, r, dl⟩ := a.lst_inv
  obtain ⟨x, ws, e, dx, dn⟩ := dl.cons_inv
  have e2 := dn.nil_inv
  subst e2
  subst e
  rw [b.int_inv]
  refine ⟨l, n, [x], rfl, rfl, s _ _ r, by omega, by omega, ?_, fun q hq => ?_⟩
  · have h1 : n.toNat ≤ 1000 := by omega
    rw [List.length_singleton, Nat.one_mul]
    exact Nat.le_of_lt (small1000 h1)
  · rw [flat_rep1]
    have gl : Grow G H (upd G q (.lst (List.replicate n.toNat x))) (upd H q (.lst (List.replicate n.toNat x))) := Grow.laid s hq
    have da := (DenL.rep1 dx n.toNat).mono gl.gg
    exact k _ _ _ gl (.lst upd_same da.1 da.2)
theorem o_catT {ds es : List Dt} (h1 : ds ≠ []) (h2 : es ≠ []) (hz : ds.length + es.length ≤ 1000 := by exact Nat.le_of_ble_eq_true rfl) : Xop X (binaryOp .Add) (.tup ds) (.tup es) (.tup (ds ++ es)) := OpR.sub op_catT fun v w H Q ⟨G, s, a, b, k⟩ => by
  obtain ⟨l, vs, rfl, r, dl⟩ := a.tup_inv
  obtain ⟨m, ws, rfl, r2, dl2⟩ := b.tup_inv
  refine ⟨l, m, vs, ws, rfl, rfl, .inl (.inl (s _ _ r)), .inl (.inl (s _ _ r2)), fun e => h1 ?_, by rw [dl.1, dl2.1]; exact Nat.le_of_lt (small1000 hz), fun e => absurd ?_ h2, fun _ q hq => ?_⟩
  · rw [e] at dl
    exact List.eq_nil_of_length_eq_zero dl.1.symm
  · rw [e] at dl2
    exact List.eq_nil_of_length_eq_zero dl2.1.symm
  · have gl : Grow G H (upd G q (.tup (vs ++ ws))) (upd H q (.tup (vs ++ ws))) := Grow.laid s hq
    have da := (dl.append dl2).mono gl.gg
    exact k _ _ _ gl (.tup upd_same da.1 da.2)
theorem DenL.atI {G : Hp} {vs : List V} {ds : List Dt} (h : DenL G vs ds) {i : Int} {d : Dt} (e : L2.atI ds i = some d) : ∃ v, L2.atI vs i = some v ∧ Den G v d := by
  unfold L2.atI at e ⊢
  rw [h.1]
  cases q : ixN ds.length i with
  | none =>
    rw [q] at e
    cases e
  | some j =>
    rw [q] at e
    exact h.get e
theorem i_list {ds : List Dt} {i : Int} {d : Dt} (h : atI ds i = some d) : Xix X (.lst ds) (.int i) d := fun value slice pins s σ H x y v u Q I rx ry q hs => ix_list value slice pins s σ H x y v u Q I rx ry (by
  obtain ⟨G, s, a, b, k⟩ := q
  obtain ⟨l, vs, rfl, r, dl⟩ := a.lst_inv
  obtain ⟨w, e1, e2⟩ := dl.atI h
  exact ⟨l, vs, i, w, rfl, b.int_inv, .inl (.inl (s _ _ r)), e1, k _ _ _ (Grow.refl s) e2⟩) hs
theorem i_tup {ds : List Dt} {i : Int} {d : Dt} (h : atI ds i = some d) : Xix X (.tup ds) (.int i) d := fun value slice pins s σ H x y v u Q I rx ry q hs => ix_tup value slice pins s σ H x y v u Q I rx ry (by
  obtain ⟨G, s, a, b, k⟩ := q
  obtain ⟨l, vs, rfl, r, dl⟩ := a.tup_inv
  obtain ⟨w, e1, e2⟩ := dl.atI h
  exact ⟨l, vs, i, w, rfl, b.int_inv, .inl (.inl (s _ _ r)), e1, k _ _ _ (Grow.refl s) e2⟩) hs
theorem i_scr {ns : List Int} {i n : Int} (h : atI ns i = some n) : Xix X (.scr X.K ns) (.int i) (.int n) := fun value slice pins s σ H x y v u Q I rx ry q hs => ix_list value slice pins s σ H x y v u Q I rx ry (by
  obtain ⟨G, s, a, b, k⟩ := q
  obtain ⟨l, rfl, r⟩ := a.scr_inv
  have e1 : atI (ns.map V.int) i = some (.int n) := by
    unfold L2.atI at h ⊢
    rw [List.length_map]
    cases q : ixN ns.length i with
    | none =>
      rw [q] at h
      cases h
    | some j =>
      rw [q] at h
      have h2 : ns[j]? = some n := h
      show (ns.map V.int)[j]? = some (.int n)
      rw [List.getElem?_map, h2]
      rfl
  exact ⟨l, ns.map V.int, i, _, rfl, b.int_inv, sql_mono s r, e1, k _ _ _ (Grow.refl s) (.int n)⟩) hs
theorem at_int {ns : List Int} {i n : Int} (h : atI ns i = some n) : atI (ns.map Dt.int) i = some (.int n) := by
  unfold L2.atI at h ⊢
  rw [List.length_map]
  cases q : ixN ns.length i with
  | none =>
    rw [q] at h
    cases h
  | some j =>
    rw [q] at h
    have h2 : ns[j]? = some n := h
    show (ns.map Dt.int)[j]? = some (.int n)
    rw [List.getElem?_map, h2]
    rfl
/-- the item at k, for k within the list -/
theorem at_getD {ns : List Int} {k : Int} (h0 : 0 ≤ k) (h1 : k < ns.length) : atI ns k = some (ns.getD k.toNat 0) := by
  have e : k = ((k.toNat : Nat) : Int) := by omega
  have h : k.toNat < ns.length := by omega
  have g : ns[k.toNat]? = some (ns.getD k.toNat 0) := by
    rw [List.getD_eq_getElem?_getD, List.getElem?_eq_getElem h]
    rfl
  rw [e]
  exact atI_nat g
theorem i_int {ns : List Int} {k : Int} (h0 : 0 ≤ k) (h1 : k < ns.length) : Xix X (dI ns) (.int k) (.int (ns.getD k.toNat 0)) := i_list (at_int (at_getD h0 h1))

theorem c_len {ds : List Dt} : Xcl X (.builtin "len") [.lst ds] (.int ds.length) := CallR.sub call_len_seq fun vs H Q ⟨G, s, dl, k⟩ => by
  obtain ⟨v, ws, rfl, d1, d2⟩ := dl.cons_inv
  have e := d2.nil_inv
  subst e
  obtain ⟨l, us, rfl, r, dl⟩ := d1.lst_inv
  refine ⟨l, us, rfl, .inl (.inl (.inl (s _ _ r))), ?_⟩
  rw [dl.1]
  exact k _ _ _ (Grow.refl s) (.int _)
theorem c_lenI {ns : List Int} : Xcl X (.builtin "len") [dI ns] (.int ns.length) := by
  have h := c_len (X := X) (ds := ns.map Dt.int)
  rw [List.length_map] at h
  exact h
theorem c_lenS {ns : List Int} : Xcl X (.builtin "len") [.scr X.K ns] (.int ns.length) := CallR.sub call_len_seq fun vs H Q ⟨G, s, dl, k⟩ => by
  obtain ⟨v, ws, rfl, d1, d2⟩ := dl.cons_inv
  have e := d2.nil_inv
  subst e
  obtain ⟨l, rfl, r⟩ := d1.scr_inv
  refine ⟨l, ns.map V.int, rfl, .inl (sql_mono s r), ?_⟩
  rw [List.length_map]
  exact k _ _ _ (Grow.refl s) (.int _)
theorem dI_inv {G : Hp} {v : V} {ns : List Int} (h : Den G v (dI ns)) : ∃ a, v = .ref a ∧ G a = some (.lst (ns.map V.int)) := by
  obtain ⟨l, us, rfl, r, dl⟩ := h.lst_inv
  exact ⟨l, rfl, by rw [← dl.ints_inv]; exact r⟩
theorem c_sum {ns : List Int} (hc : X.calm = true := by rfl) : Xcl X (.builtin "sum") [dI ns] (.int ns.sum) := CallR.sub (cr_sum hc) fun vs H Q ⟨G, s, dl, k⟩ => by
  obtain ⟨v, ws, rfl, d1, d2⟩ := dl.cons_inv
  have e := d2.nil_inv
  subst e
  obtain ⟨l, rfl, r⟩ := dI_inv d1
  exact ⟨l, ns, rfl, .inl (.inl (s _ _ r)), k _ _ _ (Grow.refl s) (.int _)⟩
theorem c_max {ns : List Int} {m : Int} (h1 : m ∈ ns) (h2 : ∀ y ∈ ns, y ≤ m) (hc : X.calm = true := by rfl) : Xcl X (.builtin "max") [dI ns] (.int m) := CallR.sub (cr_max hc) fun vs H Q ⟨G, s, dl, k⟩ => by
  obtain ⟨v, ws, rfl, d1, d2⟩ := dl.cons_inv
  have e := d2.nil_inv
  subst e
  obtain ⟨l, rfl, r⟩ := dI_inv d1
  refine ⟨l, ns, rfl, .inl (.inl (s _ _ r)), List.length_pos_of_mem h1, fun m' a b => ?_⟩
  have em : m' = m := Int.le_antisymm (h2 m' a) (b m h1)
  rw [em]
  exact k _ _ _ (Grow.refl s) (.int _)
theorem c_min {ns : List Int} {m : Int} (h1 : m ∈ ns) (h2 : ∀ y ∈ ns, m ≤ y) (hc : X.calm = true := by rfl) : Xcl X (.builtin "min") [dI ns] (.int m) := CallR.sub (cr_min hc) fun vs H Q ⟨G, s, dl, k⟩ => by
  obtain ⟨v, ws, rfl, d1, d2⟩ := dl.cons_inv
  have e := d2.nil_inv
  subst e
  obtain ⟨l, rfl, r⟩ := dI_inv d1
  refine ⟨l, ns, rfl, .inl (.inl (s _ _ r)), List.length_pos_of_mem h1, fun m' a b => ?_⟩
  have em : m' = m := Int.le_antisymm (b m h1) (h2 m' a)
  rw [em]
  exact k _ _ _ (Grow.refl s) (.int _)
theorem c_min2 {i j : Int} (hc : X.calm = true := by rfl) : Xcl X (.builtin "min") [.int i, .int j] (.int (min i j)) := CallR.sub (call_min2 hc) fun vs H Q ⟨G, s, dl, k⟩ => by
  obtain ⟨v, ws, rfl, d1, d2⟩ := dl.cons_inv
  obtain ⟨v2, ws2, rfl, d3, d4⟩ := d2.cons_inv
  have e := d4.nil_inv
  subst e
  rw [d1.int_inv, d3.int_inv]
  refine ⟨i, j, rfl, ?_⟩
  have em : (if j < i then j else i) = min i j := by
    split <;> omega
  rw [em]
  exact k _ _ _ (Grow.refl s) (.int _)
theorem DenL.bools {G : Hp} : ∀ {vs : List V} {bs : List Bool}, DenL G vs (bs.map Dt.bl) → vs = bs.map V.bl
  | vs, [], h => h.nil_inv
  | vs, n :: ns, h => by
    obtain ⟨w, us, e, h1, h2⟩ := DenL.cons_inv (ds := ns.map Dt.bl) h
    rw [e, h1.bl_inv, h2.bools]
    rfl
theorem c_all {bs : List Bool} (hc : X.calm = true := by rfl) : Xcl X (.builtin "all") [.lst (bs.map Dt.bl)] (.bl (bs.all id)) := CallR.sub (cr_all hc) fun vs H Q ⟨G, s, dl, k⟩ => by
  obtain ⟨v, ws, rfl, d1, d2⟩ := dl.cons_inv
  have e := d2.nil_inv
  subst e
  obtain ⟨l, us, rfl, r, dl⟩ := d1.lst_inv
  rw [dl.bools] at r
  exact ⟨l, bs, rfl, .inl (.inl (s _ _ r)), k _ _ _ (Grow.refl s) (.bl _)⟩
theorem c_int {i : Int} : Xcl X (.type "int") [.int i] (.int i) := CallR.sub call_int1 fun vs H Q ⟨G, s, dl, k⟩ => by
  obtain ⟨v, ws, rfl, d1, d2⟩ := dl.cons_inv
  have e := d2.nil_inv
  subst e
  rw [d1.int_inv]
  exact .inl ⟨i, rfl, k _ _ _ (Grow.refl s) (.int _)⟩
theorem c_list {ds : List Dt} : Xcl X (.type "list") [.lst ds] (.lst ds) := CallR.sub call_list_of fun vs H Q ⟨G, s, dl, k⟩ => by
  obtain ⟨v, ws, rfl, d1, d2⟩ := dl.cons_inv
  have e := d2.nil_inv
  subst e
  obtain ⟨l, us, rfl, r, dl⟩ := d1.lst_inv
  refine ⟨l, us, rfl, .inl (.inl (.inl (s _ _ r))), fun q hq => ?_⟩
  have gl : Grow G H (upd G q (.lst us)) (upd H q (.lst us)) := Grow.laid s hq
  have da := dl.mono gl.gg
  exact k _ _ _ gl (.lst upd_same da.1 da.2)
theorem c_tuple {ds : List Dt} : Xcl X (.type "tuple") [.lst ds] (.tup ds) := CallR.sub call_tuple_of fun vs H Q ⟨G, s, dl, k⟩ => by
  obtain ⟨v, ws, rfl, d1, d2⟩ := dl.cons_inv
  have e := d2.nil_inv
  subst e
  obtain ⟨l, us, rfl, r, dl⟩ := d1.lst_inv
  refine ⟨l, us, rfl, .inl ⟨.inl (.inl (s _ _ r)), fun q hq => ?_⟩⟩
  have gl : Grow G H (upd G q (.tup us)) (upd H q (.tup us)) := Grow.laid s hq
  have da := dl.mono gl.gg
  exact k _ _ _ gl (.tup upd_same da.1 da.2)

def tyName : Dt → String
  | .non => "NoneType"
  | .bl _ => "bool"
  | .int _ => "int"
  | .str _ => "str"
  | .lst _ => "list"
  | .tup _ => "tuple"
  | .dic _ => "dict"
  | .scr _ _ => "list"
def Dt.noS : Dt → Bool
  | .scr _ _ => false
  | .dic _ => false
  | _ => true
theorem Den.tyX {K : PySem.W.Frag} {G H : Hp} (s : Same G H) {v : V} {d : Dt} (hs : d.noS = true) (h : Den G v d) : TyX K H v (.type (tyName d)) := by
  cases h with
  | non => exact .base .non
  | bl b => exact .base (.bl b)
  | int i => exact .base (.int i)
  | str x => exact .base (.str x)
  | lst h _ _ => exact .base (.lst (s _ _ h))
  | tup h _ _ => exact .base (.tup (s _ _ h))
  | dic h _ _ => cases hs
  | scr h =>
    cases hs
theorem xe_isi {a : Expr} {T : String} {x : Str} {d : Dt} {b : Bool} {p2 : Pos} (ha : Xe X a δ d) (hm : X.mg "isinstance" = none) (hx : X.mg x = none) (hv : bootBuiltins x = some (.type T)) (hk : kitB (tyName d) T = some b) (hg : Gl X "isinstance" := by rfl) (hgx : Gl X x := by rfl)
    (hn : x ≠ "__name__" := by decide) (hdb : (x == ("__debug__" : Str)) = false := by decide) (he : starEach (a :: [.Name x p2]) X.env = (false, eval a X.env) :: starEach [.Name x p2] X.env := by rfl) (hpl : (backTo pos (starEach [.Name x p2] X.env)).any (·.1) = false := by rfl)
    (he2 : starEach [.Name x p2] X.env = (false, eval (.Name x p2) X.env) :: starEach [] X.env := by rfl) (hsc : d.noS = true := by rfl) : Xe X (.Call (.Name "isinstance" p) [a, .Name x p2] [] pos) δ (.bl b) :=
  PE.sub (pe_callB call_isi hg hm PyProof.Rows.boot_isinstance (pa_cons ha (pa_cons (pe_bltn hgx hx hv (v := .ty T) rfl hn hdb) pa_nil he2) he) (by decide) (by decide) he hpl) fun σ H Q h => by
    obtain ⟨G, s, e, k⟩ := h
    exact ⟨G, s, e, fun v H1 G1 g1 d1 => ⟨v, .ty T, _, _, b, rfl, .ty T, Den.tyX g1.sub hsc d1, kit_ty hk, k _ _ _ g1 (.bl b)⟩⟩
end

inductive Err where
  | idx (C : Addr) (i : Int) | msg (C : Addr)
def IsErr : Err → Value → Option Addr → Hp → Prop
  | .idx C i, cls, d, H => cls = .ref C ∧ ∃ dd, d = some dd ∧ H dd = some (.xd [("index", .int i)])
  | .msg C, cls, d, _ => cls = .ref C ∧ d = none
inductive Res where
  | ok (d : Dt) | er (e : Err) | an
def spF (n : Nat) (R : List Dt → Res → Prop) : Sp := fun vs H Q E => ∃ G ds r, ds.length = n ∧ Same G H ∧ DenL G vs ds ∧ R ds r ∧ (match r with
  | .ok d => ∀ v H' G', Grow G H G' H' → Den G' v d → Q v H'
  | .er e => ∀ cls dd H', Same H H' → IsErr e cls dd H' → E cls dd H'
  | .an => ∀ v H', Same H H' → Q v H')
/-- a def of the module: it keeps spF n R at the level k -/
structure Df (P : Program) (w : World) (K : PySem.W.Frag) (mg : Str → Option Value) (base : Heap) (CX : CXT) (k : Nat) (x : Str) (n : Nat) (R : List Dt → Res → Prop) : Prop where
  ex : ∃ (f : Addr) (fd : FuncData) (ps : List Str), FnOk P w K mg base CX k f fd ps (spF n R) ∧ mg x = some (.ref f) ∧ PySem.W.keepIn K (.ref f) = true ∧ Binds K fd ps []
section
variable {X : Cx} {δ : Sl} {pos p : Pos}
theorem xe_call {CX : CXT} {k n : Nat} {x : Str} {R : List Dt → Res → Prop} {a : Expr} {es : List Expr} {ds : List Dt} {d : Dt} (F : Df X.prog X.w X.K X.mg X.base CX k x n R) (hp : Passes CX X E0) (hr : Room k X.A) (ha : Xa X (a :: es) δ ds) (hR : R ds (.ok d)) (hn : ds.length = n := by rfl) (hg : Gl X x := by rfl)
    (hdb : (x == ("__debug__" : Str)) = false := by decide) (he : starEach (a :: es) X.env = (false, eval a X.env) :: starEach es X.env := by rfl) (hpl : (backTo pos (starEach es X.env)).any (·.1) = false := by rfl) : Xe X (.Call (.Name x p) (a :: es) [] pos) δ d := by
  obtain ⟨f, fd, ps, Fo, hm, hk, hb⟩ := F.ex
  exact PE.sub (pe_call Fo hr hg hm hk hb .nil hp ha hdb he hpl) fun σ H Q h => by
    obtain ⟨G, s, e, k⟩ := h
    refine ⟨G, s, e, fun vs H1 G1 g1 d1 => ⟨G1, ds, .ok d, hn, g1.sub, ?_, hR, fun v H2 G2 g2 d2 => k _ _ _ (g1.trans g2) d2⟩⟩
    rw [List.append_nil]
    exact d1
end
end Pa
namespace Pa
open PySem PySem.Spec PyProof.Rows L2
def WalkD (J : It) (G : Hp) (ds : List Dt) : Prop := Walk J ds.length (fun H => Same G H) (fun i H x H' => ∀ G2, Same G G2 → Same G2 H → ∃ G3 d, ds[i]? = some d ∧ Grow G2 H G3 H' ∧ Den G3 x d)
def tXi (δ : Sl) (ds : List Dt) : TI := fun σ H R => ∃ G, Same G H ∧ EnvD G σ δ ∧ ∀ J H' G', Grow G H G' H' → WalkD J G' ds → R J H'
abbrev Xi (X : Cx) (tg iter : Expr) (δ : Sl) (ds : List Dt) : Prop := PI X tg iter (tXi δ ds)
theorem PI.sub {X : Cx} {tg e : Expr} {t t' : TI} (h : PI X tg e t) (k : ∀ σ H R, t' σ H R → t σ H R) : PI X tg e t' := ⟨fun pins s σ H R I w => h.run pins s σ H R I (k _ _ _ w)⟩
theorem walkD_list {K : PySem.W.Frag} {G : Hp} {a : Addr} {vs : List V} {ds : List Dt} (h : G a = some (.lst vs)) (dl : DenL G vs ds) : WalkD (Itl K a) G ds := by
  unfold WalkD
  rw [← dl.1]
  refine Walk.mono (walk_list (K := K) (a := a) (xs := vs)) (fun H s => .inl (.inl (s _ _ h))) fun i H x H' hi s y G2 s1 s2 => ?_
  obtain ⟨rfl, e⟩ := y
  have hd : i < ds.length := by rw [← dl.1]; exact hi
  exact ⟨G2, ds[i], List.getElem?_eq_getElem hd, Grow.refl s2, (dl.2 i x _ e (List.getElem?_eq_getElem hd)).mono s1⟩
def rngD (n : Nat) (f : Nat → Int) : List Int := (List.range n).map f
theorem rngD_get {n : Nat} {f : Nat → Int} {i : Nat} (h : i < n) : (rngD n f)[i]? = some (f i) := by
  unfold rngD
  rw [List.getElem?_map, List.getElem?_range h]
  rfl
theorem rngD_len {n : Nat} {f : Nat → Int} : (rngD n f).length = n := by
  unfold rngD
  rw [List.length_map, List.length_range]
theorem walkD_fn {J : It} {G : Hp} {n : Nat} {f : Nat → Int} (w : Walk J n (fun _ => True) (YFn fun i => .int (f i))) : WalkD J G ((rngD n f).map Dt.int) := by
  unfold WalkD
  rw [List.length_map, rngD_len]
  refine Walk.mono w (fun _ _ => trivial) fun i H x H' hi s y G2 s1 s2 => ?_
  obtain ⟨rfl, rfl⟩ := y
  exact ⟨G2, .int (f i), by rw [List.getElem?_map, rngD_get hi]; rfl, Grow.refl s2, .int _⟩
/-- pairs -/
def pairD (p : Dt × Dt) : Dt := .tup [p.1, p.2]
def enumD (ds : List Dt) : List Dt := ds.zipIdx.map fun p => .tup [.int p.2, p.1]
def zipD (ds es : List Dt) : List Dt := (ds.zip es).map pairD
theorem walkD_pair {J : It} {G : Hp} {n : Nat} {xs ys : Nat → Option V} {ds : List Dt} (w : Walk J n (fun H => Same G H) (YPair xs ys)) (hn : ds.length = n) (hd : ∀ i x y, i < n → xs i = some x → ys i = some y → ∃ a b, ds[i]? = some (.tup [a, b]) ∧ Den G x a ∧ Den G y b) : WalkD J G ds := by
  unfold WalkD
  rw [hn]
  refine Walk.mono w (fun _ s => s) fun i H v H' hi s yy G2 s1 s2 => ?_
  obtain ⟨T, x, y, rfl, hT, rfl, ex, ey⟩ := yy
  obtain ⟨a, b, e, da, db⟩ := hd i x y hi ex ey
  have gl : Grow G2 H (upd G2 T (.tup [x, y])) (upd H T (.tup [x, y])) := Grow.laid s2 hT
  have dl : DenL (upd G2 T (.tup [x, y])) [x, y] [a, b] := .cons (da.mono (s1.trans gl.gg)) (.cons (db.mono (s1.trans gl.gg)) .nil)
  exact ⟨_, _, e, gl, .tup upd_same dl.1 dl.2⟩
section
variable {X : Cx} {δ : Sl} {pos p : Pos} {tg : Expr}
theorem xi_list {l : Expr} {ds : List Dt} (ha : Xe X l δ (.lst ds)) : Xi X tg l δ ds := PI.sub (pi_list ha) fun σ H R h => by
  obtain ⟨G, s, e, k⟩ := h
  refine ⟨G, s, e, fun v H1 G1 g1 d1 => ?_⟩
  obtain ⟨a, vs, rfl, r, dl⟩ := d1.lst_inv
  exact ⟨a, rfl, ⟨vs, .inl (.inl (g1.sub _ _ r))⟩, k _ _ _ g1 (walkD_list r dl)⟩
theorem xi_range1 {a : Expr} {n : Int} (hm : X.mg "range" = none) (ha : Xa X [a] δ [.int n]) (h0 : -(2 ^ 62) ≤ n) (h1 : n < 2 ^ 62) (hg : Gl X "range" := by rfl) (hs : starEach [a] X.env = [(false, eval a X.env)] := by rfl) :
    Xi X tg (.Call (.Name "range" p) [a] [] pos) δ ((rngD n.toNat fun i => (i : Int)).map Dt.int) := PI.sub (pi_range1 hg hm ha hs) fun σ H R h => by
  obtain ⟨G, s, e, k⟩ := h
  refine ⟨G, s, e, fun vs H1 G1 g1 d1 => ?_⟩
  refine ⟨n, d1.ints_inv (ns := [n]), h0, h1, k _ _ _ g1 (walkD_fn ?_)⟩
  have w := walk_range (lo := 0) (n := n.toNat)
  have e : (fun i : Nat => V.int (0 + (i : Int))) = fun i : Nat => V.int (i : Int) := funext fun i => by rw [Int.zero_add]
  rw [e] at w
  exact w
theorem xi_range2 {a b : Expr} {lo hi : Int} (hm : X.mg "range" = none) (ha : Xa X [a, b] δ [.int lo, .int hi]) (h0 : -(2 ^ 62) ≤ lo ∧ lo < 2 ^ 62 ∧ -(2 ^ 62) ≤ hi ∧ hi < 2 ^ 62) (hg : Gl X "range" := by rfl) (hs : starEach [a, b] X.env = [(false, eval a X.env), (false, eval b X.env)] := by rfl)
    (hs2 : starEach [b] X.env = [(false, eval b X.env)] := by rfl) : Xi X tg (.Call (.Name "range" p) [a, b] [] pos) δ ((rngD (hi - lo).toNat fun i => lo + (i : Int)).map Dt.int) := PI.sub (pi_range2 hg hm ha hs hs2) fun σ H R h => by
  obtain ⟨G, s, e, k⟩ := h
  refine ⟨G, s, e, fun vs H1 G1 g1 d1 => ?_⟩
  exact ⟨lo, hi, d1.ints_inv (ns := [lo, hi]), h0, k _ _ _ g1 (walkD_fn (walk_range (lo := lo) (n := (hi - lo).toNat)))⟩
theorem xi_range3 {a b c : Expr} {lo hi st : Int} {n : Nat} (hm : X.mg "range" = none) (ha : Xa X [a, b, c] δ [.int lo, .int hi, .int st]) (hr : RgC lo hi st n) (hg : Gl X "range" := by rfl)
    (hs : starEach [a, b, c] X.env = (false, eval a X.env) :: starEach [b, c] X.env := by rfl) (hpl : (backTo pos (starEach [b, c] X.env)).any (·.1) = false := by rfl) :
    Xi X tg (.Call (.Name "range" p) [a, b, c] [] pos) δ ((rngD n fun i => lo + (i : Int) * st).map Dt.int) := PI.sub (pi_range3 hg hm ha hs hpl) fun σ H R h => by
  obtain ⟨G, s, e, k⟩ := h
  refine ⟨G, s, e, fun vs H1 G1 g1 d1 => ?_⟩
  exact ⟨lo, hi, st, n, d1.ints_inv (ns := [lo, hi, st]), hr, k _ _ _ g1 (walkD_fn (walk_rangeC (lo := lo) (c := st) (n := n)))⟩
theorem xi_enum {a : Expr} {elts : List Expr} {kk : Nat} {tpos : Pos} {ds : List Dt} (hm : X.mg "enumerate" = none) (ha : Xe X a δ (.lst ds)) (hg : Gl X "enumerate" := by rfl) (hs : starEach [a] X.env = [(false, eval a X.env)] := by rfl) :
    Xi X (.Tuple elts kk tpos) (.Call (.Name "enumerate" p) [a] [] pos) δ (enumD ds) := PI.sub (pi_enum hg hm (xa_cons ha xa_nil hs) hs) fun σ H R h => by
  obtain ⟨G, s, e, k⟩ := h
  refine ⟨G, s, e, fun vs H1 G1 g1 d1 => ?_⟩
  obtain ⟨v, ws, rfl, d2, d3⟩ := d1.cons_inv
  have ew := d3.nil_inv
  subst ew
  obtain ⟨l, us, rfl, r, dl⟩ := d2.lst_inv
  refine ⟨l, us, rfl, .inl (.inl (g1.sub _ _ r)), k _ _ _ g1 (walkD_pair (Walk.mono (walk_enum (K := X.K) (a := l) (xs := us)) (fun H s => .inl (.inl (s _ _ r))) fun i H x H' _ _ y => y) ?_ fun i x y hi ex ey => ?_)⟩
  · unfold enumD
    rw [List.length_map, List.length_zipIdx, dl.1]
  · have hd : i < ds.length := by rw [← dl.1]; exact hi
    cases ex
    refine ⟨.int i, ds[i], ?_, .int _, dl.2 i y _ ey (List.getElem?_eq_getElem hd)⟩
    unfold enumD
    rw [List.getElem?_map, List.getElem?_zipIdx, List.getElem?_eq_getElem hd]
    simp
theorem xi_zip {a b : Expr} {elts : List Expr} {kk : Nat} {tpos : Pos} {ds es : List Dt} (hm : X.mg "zip" = none) (ha : Xe X a δ (.lst ds)) (hb : Xe X b δ (.lst es)) (hg : Gl X "zip" := by rfl)
    (hs : starEach [a, b] X.env = (false, eval a X.env) :: starEach [b] X.env := by rfl) (hpl : (backTo pos (starEach [b] X.env)).any (·.1) = false := by rfl) (hs2 : starEach [b] X.env = (false, eval b X.env) :: starEach [] X.env := by rfl) :
    Xi X (.Tuple elts kk tpos) (.Call (.Name "zip" p) [a, b] [] pos) δ (zipD ds es) := PI.sub (pi_zip hg hm (xa_cons ha (xa_cons hb xa_nil hs2) hs) hs hpl) fun σ H R h => by
  obtain ⟨G, s, e, k⟩ := h
  refine ⟨G, s, e, fun vs H1 G1 g1 d1 => ?_⟩
  obtain ⟨v, ws, rfl, d2, d3⟩ := d1.cons_inv
  obtain ⟨v2, ws2, rfl, d4, d5⟩ := d3.cons_inv
  have ew := d5.nil_inv
  subst ew
  obtain ⟨l, us, rfl, r, dl⟩ := d2.lst_inv
  obtain ⟨l2, us2, rfl, r2, dl2⟩ := d4.lst_inv
  refine ⟨l, l2, us, us2, rfl, .inl (.inl (g1.sub _ _ r)), .inl (.inl (g1.sub _ _ r2)), k _ _ _ g1 (walkD_pair (n := min us.length us2.length) (Walk.mono (walk_zip (K := X.K) (a := l) (b := l2) (xs := us) (ys := us2) rfl) (fun H s => ⟨.inl (.inl (s _ _ r)), .inl (.inl (s _ _ r2))⟩) fun i H x H' _ _ y => y) ?_ fun i x y hi ex ey => ?_)⟩
  · unfold zipD
    rw [List.length_map, List.length_zip, dl.1, dl2.1]
  · have h1 : i < ds.length := by rw [← dl.1]; omega
    have h2 : i < es.length := by rw [← dl2.1]; omega
    refine ⟨ds[i], es[i], ?_, dl.2 i x _ ex (List.getElem?_eq_getElem h1), dl2.2 i y _ ey (List.getElem?_eq_getElem h2)⟩
    unfold zipD
    have h3 : i < (ds.zip es).length := by rw [List.length_zip]; omega
    rw [List.getElem?_map, List.getElem?_eq_getElem h3, List.getElem_zip]
    rfl
end

inductive Tg where
  | one (i : Nat) | two (i j : Nat)
def gT (K : PySem.W.Frag) : Tg → TG
  | .one i => gName i
  | .two i j => gTup K 2 (gCons (gName i) (gCons (gName j) gNil))
def Tg.put : Tg → Dt → Sl → Option Sl
  | .one i, d, δ => some (δ.set i (some d))
  | .two i j, .tup [a, b], δ => some ((δ.set i (some a)).set j (some b))
  | .two _ _, _, _ => none
def Tg.within (vs : List Nat) : Tg → Prop
  | .one i => i ∈ vs
  | .two i j => i ∈ vs ∧ j ∈ vs
instance {t : Tg} {vs : List Nat} : Decidable (t.within vs) := match t with
  | .one i => inferInstanceAs (Decidable (i ∈ vs))
  | .two i j => inferInstanceAs (Decidable (i ∈ vs ∧ j ∈ vs))
/-- the target is such names -/
abbrev Xg (X : Cx) (tg : Expr) (t : Tg) : Prop := PG X tg (gT X.K t)
section
variable {X : Cx} {pos p q : Pos}
theorem xg_one {i : Nat} {x : Str} (hN : X.N.Nodup) (hi : X.N[i]? = some x := by rfl) (hx : Loc X.env.scope x := by first | exact Or.inl rfl | exact Or.inr rfl) (hf : X.fn x = true ∨ X.env.scope.names.lookup x = some .local := by first | exact .inl rfl | exact .inr rfl) : Xg X (.Name x pos) (.one i) := pg_name hN hi hx hf
theorem xg_two {i j : Nat} {x y : Str} {k : Nat} (hN : X.N.Nodup) (hc : X.calm = true := by rfl) (hi : X.N[i]? = some x := by rfl) (hj : X.N[j]? = some y := by rfl) (hx : Loc X.env.scope x := by first | exact Or.inl rfl | exact Or.inr rfl) (hy : Loc X.env.scope y := by first | exact Or.inl rfl | exact Or.inr rfl)
    (hf : X.fn x = true ∨ X.env.scope.names.lookup x = some .local := by first | exact .inl rfl | exact .inr rfl) (hg : X.fn y = true ∨ X.env.scope.names.lookup y = some .local := by first | exact .inl rfl | exact .inr rfl)
    (h1 : (assignEach [.Name x p, .Name y q] X.env).map (·.2) = assign (.Name x p) X.env :: (assignEach [.Name y q] X.env).map (·.2) := by rfl) (h2 : (assignEach [.Name y q] X.env).map (·.2) = assign (.Name y q) X.env :: (assignEach [] X.env).map (·.2) := by rfl)
    (hn : (assignEach [.Name x p, .Name y q] X.env).length = 2 := by rfl) (hst : (assignEach [.Name x p, .Name y q] X.env).findIdx? (·.1) = none := by rfl) : Xg X (.Tuple [.Name x p, .Name y q] k pos) (.two i j) :=
  pg_tup hc (pgs_cons (pg_name hN hi hx hf) (pgs_cons (pg_name hN hj hy hg) pgs_nil h2) h1) hn hst
end
theorem wipe_comm {x : Option V} {i : Nat} : ∀ (ws : List Nat) (τ : L2.St), i ∉ ws → wipe (τ.set i x) ws = (wipe τ ws).set i x
  | [], τ, _ => rfl
  | u :: us, τ, hn => by
    have h1 : i ≠ u := fun z => hn (by rw [z]; exact List.mem_cons_self)
    have h2 : i ∉ us := fun z => hn (List.mem_cons_of_mem _ z)
    unfold wipe
    rw [wipe_comm us τ h2, List.set_comm _ _ h1]
theorem wipe_set {x : Option V} : ∀ {vs : List Nat} {i : Nat} {σ : L2.St}, i ∈ vs → wipe (σ.set i x) vs = wipe σ vs
  | [], i, σ, h => by cases h
  | v :: vs, i, σ, h => by
    by_cases e : i ∈ vs
    · unfold wipe
      rw [wipe_set e]
    · have ev : i = v := by
        rcases List.mem_cons.mp h with h | h
        · exact h
        · exact absurd h e
      subst ev
      unfold wipe
      rw [wipe_comm vs σ e, List.set_set]
theorem wipe_wipe : ∀ (vs : List Nat) (σ : L2.St), wipe (wipe σ vs) vs = wipe σ vs
  | [], σ => rfl
  | v :: vs, σ => by
    show (wipe ((wipe σ vs).set v none) vs).set v none = (wipe σ vs).set v none
    by_cases e : v ∈ vs
    · rw [wipe_set e, wipe_wipe vs σ]
    · rw [wipe_comm vs _ e, wipe_wipe vs σ, List.set_set]
theorem gT_run {K : PySem.W.Frag} {t : Tg} {G H : Hp} {σ : L2.St} {δ δ' : Sl} {v : V} {d : Dt} {vs : List Nat} {Q : L2.St → Hp → Prop} (s : Same G H) (e : EnvD G σ δ) (hd : Den G v d) (hp : t.put d δ = some δ')
    (hq : ∀ σ', EnvD G σ' δ' → (t.within vs → wipe σ' vs = wipe σ vs) → Q σ' H) : gT K t v σ H Q := by
  cases t with
  | one i =>
    cases hp
    exact hq _ (e.set hd) fun w => wipe_set w
  | two i j =>
    cases hd with
    | tup h hl hd =>
      rename_i a us ds
      have dl : DenL G us ds := ⟨hl, hd⟩
      match ds, dl, hp with
      | [d1, d2], dl, hp =>
        cases hp
        obtain ⟨w1, ws, rfl, e1, e2⟩ := dl.cons_inv
        obtain ⟨w2, ws2, rfl, e3, e4⟩ := e2.cons_inv
        have en := e4.nil_inv
        subst en
        refine ⟨a, [w1, w2], rfl, .inl (.inl (s _ _ h)), rfl, w1, [w2], rfl, w2, [], rfl, rfl, ?_⟩
        exact hq _ ((e.set e1).set e3) fun w => by
          rw [wipe_set w.2, wipe_set w.1]
    | non => cases hp
    | bl _ => cases hp
    | int _ => cases hp
    | str _ => cases hp
    | lst _ _ _ => cases hp
    | dic _ _ _ => cases hp
    | scr _ => cases hp

abbrev Xts (X : Cx) (ifs : List Expr) (δ : Sl) (b : Bool) : Prop := PTs X ifs (tXT δ b)
theorem PTs.sub {X : Cx} {e : List Expr} {t t' : TT} (h : PTs X e t) (k : ∀ σ H Q, t' σ H Q → t σ H Q) : PTs X e t' := ⟨fun pins s σ H Q I w => h.run pins s σ H Q I (k _ _ _ w)⟩
theorem PTs.any {X : Cx} {e : List Expr} : PTs X e (fun σ H Q => ∃ t, PTs X e t ∧ t σ H Q) := ⟨fun pins s σ H Q I ⟨t, h, w⟩ => h.run pins s σ H Q I w⟩
theorem xts_nil {X : Cx} {δ : Sl} : Xts X [] δ true := PTs.sub pts_nil fun σ H Q h => by
  obtain ⟨G, s, e, k⟩ := h
  exact k _ _ (Grow.refl s)
theorem xts_one {X : Cx} {δ : Sl} {c : Expr} {b : Bool} (h : Xt X c δ b) : Xts X [c] δ b := pts_one h
/-- all contexts of a comprehension's block -/
def Blk (X : Cx) (scope : Scope) (Y : Cx) : Prop := ∃ (s : Shared) (H : Hp) (C : Addr) (cl : List (Str × Addr)) (fp : List Addr), Y = X.blk s H scope (compEnvC scope cl C X.env) fp
inductive CompD (X : Cx) (scope : Scope) (t : Tg) (ifs : List Expr) (elt : Expr) (δ : Sl) : List Dt → List Dt → Prop
  | nil : CompD X scope t ifs elt δ [] []
  | keep {d e : Dt} {ds es : List Dt} {δ' : Sl} (hp : t.put d δ = some δ') (ht : ∀ (s : Shared) (H : Hp) (C : Addr) (cl : List (Str × Addr)) (fp : List Addr), Xts (X.blk s H scope (compEnvC scope cl C X.env) fp) ifs δ' true)
      (he : ∀ (s : Shared) (H : Hp) (C : Addr) (cl : List (Str × Addr)) (fp : List Addr), Xe (X.blk s H scope (compEnvC scope cl C X.env) fp) elt δ' e) (r : CompD X scope t ifs elt δ ds es) : CompD X scope t ifs elt δ (d :: ds) (e :: es)
  | skip {d : Dt} {ds es : List Dt} {δ' : Sl} (hp : t.put d δ = some δ') (ht : ∀ (s : Shared) (H : Hp) (C : Addr) (cl : List (Str × Addr)) (fp : List Addr), Xts (X.blk s H scope (compEnvC scope cl C X.env) fp) ifs δ' false)
      (r : CompD X scope t ifs elt δ ds es) : CompD X scope t ifs elt δ (d :: ds) es
/-- the slots of the block's own names forgotten -/
def wipeD (δ : Sl) : List Nat → Sl
  | [] => δ
  | v :: vs => (wipeD δ vs).set v none
theorem EnvD.wipe {G : Hp} {σ : L2.St} {δ : Sl} (h : EnvD G σ δ) : ∀ vs : List Nat, EnvD G (L2.wipe σ vs) (wipeD δ vs)
  | [] => h
  | v :: vs => (EnvD.wipe h vs).forget
/-- the part of a comprehension behind the turns that were made: what is to come -/
theorem comp_drop {X : Cx} {scope : Scope} {t : Tg} {ifs : List Expr} {elt : Expr} {δ : Sl} {ds es : List Dt} (h : CompD X scope t ifs elt δ ds es) : ∀ i ≤ ds.length, ∃ a b, es = a ++ b ∧ a.length ≤ i ∧ CompD X scope t ifs elt δ (ds.drop i) b := by
  induction h with
  | nil => intro i hi; exact ⟨[], [], rfl, Nat.zero_le _, by rw [List.drop_nil]; exact .nil⟩
  | keep hp ht he r ih =>
    intro i hi
    cases i with
    | zero => exact ⟨[], _, rfl, Nat.zero_le _, .keep hp ht he r⟩
    | succ i =>
      obtain ⟨a, b, e, hl, c⟩ := ih i (Nat.le_of_succ_le_succ hi)
      exact ⟨_ :: a, b, by rw [e]; rfl, Nat.succ_le_succ hl, c⟩
  | skip hp ht r ih =>
    intro i hi
    cases i with
    | zero => exact ⟨[], _, rfl, Nat.zero_le _, .skip hp ht r⟩
    | succ i =>
      obtain ⟨a, b, e, hl, c⟩ := ih i (Nat.le_of_succ_le_succ hi)
      exact ⟨a, b, e, Nat.le_succ_of_le hl, c⟩
/-- at a turn: G0, H0 ahead of the comprehension, D the new list -/
structure CompAt (X : Cx) (scope : Scope) (t : Tg) (ifs : List Expr) (elt : Expr) (δ : Sl) (ds es : List Dt) (G0 H0 : Hp) (D : Addr) (i : Nat) (H : Hp) : Prop where
  ex : ∃ (G : Hp) (vs : List V) (a b : List Dt), es = a ++ b ∧ a.length ≤ i ∧ CompD X scope t ifs elt δ (ds.drop i) b ∧ Same G0 G ∧ Same H0 H ∧ Same G H ∧ G D = none ∧ (∀ x, G0 x = none → H0 x ≠ none → G x = none) ∧ H D = some (.lst vs) ∧ DenL G vs a
def tAllT (X : Cx) (scope : Scope) (ifs : List Expr) : TT := fun σ H Q => ∃ tt, (∀ (s : Shared) (Hh : Hp) (C : Addr) (cl : List (Str × Addr)) (fp : List Addr), PTs (X.blk s Hh scope (compEnvC scope cl C X.env) fp) ifs tt) ∧ tt σ H Q
def tAllE (X : Cx) (scope : Scope) (elt : Expr) : TE := fun σ H Q => ∃ te, (∀ (s : Shared) (Hh : Hp) (C : Addr) (cl : List (Str × Addr)) (fp : List Addr), PE (X.blk s Hh scope (compEnvC scope cl C X.env) fp) elt te) ∧ te σ H Q
theorem tLc_of {X : Cx} {scope : Scope} {t : Tg} {ifs : List Expr} {elt : Expr} {own : List Nat} {J : It} {σ : L2.St} {G H1 : Hp} {δ : Sl} {ds es : List Dt} {Q : VK} (hw : t.within own) (hz : ds.length ≤ 100000) (s : Same G H1) (e : EnvD G σ δ)
    (w : WalkD J G ds) (c : CompD X scope t ifs elt (wipeD δ own) ds es) (D : Addr) (hD : H1 D = none) (hQ : ∀ H' G' vs, Grow G H1 G' H' → G' D = some (.lst vs) → DenL G' vs es → Q (.ref D) H') :
    ∃ W : Nat → Nat → Hp → Prop, (∃ m, W 0 m (upd H1 D (.lst []))) ∧ ∀ i m H, W i m H →
      (J.stop i H ∧ Q (.ref D) H) ∨ (J.go i H ∧ ∃ Nx : Hp → Prop, (∀ H', Nx H' → ∃ m', m' < m ∧ W (i + 1) m' H') ∧ ∀ x H', J.yld i H x H' → gT X.K t x (L2.wipe σ own) H' fun σ2 H2 => L2.wipe σ2 own = L2.wipe σ own ∧
        tAllT X scope ifs σ2 H2 fun b H3 =>
        if b = true then tAllE X scope elt σ2 H3 fun y H4 => ∃ acc, H4 D = some (.lst acc) ∧ acc.length < sizeLine ∧ Nx (upd H4 D (.lst (acc ++ [y]))) else Nx H3) := by
  have hGD : G D = none := same_none s hD
  refine lc_it (D := D) (σ := σ) (vs := own) (g := gT X.K t) (tt := tAllT X scope ifs) (te := tAllE X scope elt) (Qd := fun H => Q (.ref D) H) w (CompAt X scope t ifs elt (wipeD δ own) ds es G H1 D) ?_ ?_ ?_ ?_
  · exact ⟨G, [], [], es, rfl, Nat.le_refl _, c, .refl _, same_new hD, s.trans (same_new hD), hGD, fun _ h _ => h, upd_same, .nil⟩
  · rintro i H _ ⟨G1, vs, a, b, _, _, _, g1, _, g3, _⟩
    exact g1.trans g3
  · rintro i x H H' hi ⟨G1, vs, a, b, ees, hl, cc, g1, h1, g3, hD1, hn1, hDv, dl⟩ hy
    obtain ⟨G2, d, ed, gr, dx⟩ := hy G1 g1 g3
    have hHD : H D ≠ none := by rw [hDv]; exact fun z => by cases z
    have hG2D : G2 D = none := gr.new D hD1 hHD
    have e2 : EnvD G2 (L2.wipe σ own) (wipeD δ own) := (e.mono (g1.trans gr.gg)).wipe own
    have hn2 : ∀ x, G x = none → H1 x ≠ none → G2 x = none := fun x z1 z2 => gr.new x (hn1 x z1 z2) fun z => by
      cases q : H1 x with
      | none => exact z2 q
      | some o =>
        rw [h1 x o q] at z
        cases z
    have edrop : ds.drop i = d :: ds.drop (i + 1) := by
      have hi' : i < ds.length := hi
      rw [List.drop_eq_getElem_cons hi']
      rw [List.getElem?_eq_getElem hi'] at ed
      rw [Option.some.inj ed]
    rw [edrop] at cc
    have hDv' : H' D = some (.lst vs) := gr.hh D _ hDv
    have acc_lt : vs.length < sizeLine := by
      rw [dl.1]
      exact Nat.lt_of_le_of_lt hl (Nat.lt_of_lt_of_le hi (Nat.le_trans hz (by rw [sizeLine_eq]; omega)))
    cases cc with
    | keep hp ht he r =>
      rename_i e' es' δ'
      refine gT_run gr.sub e2 dx hp fun σ' eσ hwp => ⟨(hwp hw).trans (wipe_wipe own σ), _, ht, G2, gr.sub, eσ, fun H3 G3 g3' => ?_⟩
      refine iteT ?_
      refine ⟨_, he, G3, g3'.sub, eσ.mono g3'.gg, fun y H4 G4 g4 dy => ?_⟩
      have hD4 : H4 D = some (.lst vs) := g4.hh D _ (g3'.hh D _ hDv')
      have hG3D : G3 D = none := g3'.new D hG2D (by rw [hDv']; exact fun z => by cases z)
      have hG4D : G4 D = none := g4.new D hG3D (by rw [g3'.hh D _ hDv']; exact fun z => by cases z)
      have gg := (gr.trans g3').trans g4
      refine ⟨vs, hD4, acc_lt, G4, vs ++ [y], a ++ [e'], es', by rw [ees]; simp, ?_, r, g1.trans gg.gg, ?_, ?_, hG4D, ?_, upd_same, (dl.mono gg.gg).append (.cons dy .nil)⟩
      · rw [List.length_append]
        exact Nat.succ_le_succ hl
      · intro x o hx
        rw [upd_ne (fun z => by rw [z, hD] at hx; cases hx)]
        exact gg.hh x o (h1 x o hx)
      · intro x o hx
        rw [upd_ne (fun z => by rw [z, hG4D] at hx; cases hx)]
        exact g4.sub x o hx
      · intro x z1 z2
        exact (g3'.trans g4).new x (hn2 x z1 z2) fun z => by
          cases q : H1 x with
          | none => exact z2 q
          | some o =>
            rw [gr.hh x o (h1 x o q)] at z
            cases z
    | skip hp ht r =>
      refine gT_run gr.sub e2 dx hp fun σ' eσ hwp => ⟨(hwp hw).trans (wipe_wipe own σ), _, ht, G2, gr.sub, eσ, fun H3 G3 g3' => ?_⟩
      refine iteF ?_
      have gg := gr.trans g3'
      have hG3D : G3 D = none := g3'.new D hG2D (by rw [hDv']; exact fun z => by cases z)
      refine ⟨G3, vs, a, b, ees, Nat.le_succ_of_le hl, r, g1.trans gg.gg, h1.trans gg.hh, g3'.sub, hG3D, ?_, gg.hh D _ hDv, dl.mono gg.gg⟩
      intro x z1 z2
      exact g3'.new x (hn2 x z1 z2) fun z => by
        cases q : H1 x with
        | none => exact z2 q
        | some o =>
          rw [gr.hh x o (h1 x o q)] at z
          cases z
  · rintro H ⟨G1, vs, a, b, ees, hl, cc, g1, h1, g3, hD1, hn1, hDv, dl⟩
    rw [List.drop_length] at cc
    cases cc
    rw [List.append_nil] at ees
    subst ees
    have sD : Same G1 (upd G1 D (.lst vs)) := same_new hD1
    refine hQ H (upd G1 D (.lst vs)) vs ⟨h1, g1.trans sD, ?_, ?_⟩ upd_same (dl.mono sD)
    · intro x o hx
      by_cases hb : x = D
      · subst hb
        rw [upd_same] at hx
        rw [hDv]
        exact hx
      · rw [upd_ne hb] at hx
        exact g3 x o hx
    · intro x z1 z2
      rw [upd_ne (fun z => by rw [z] at z2; exact z2 hD)]
      exact hn1 x z1 z2
section
variable {X : Cx} {δ : Sl} {pos : Pos}
theorem PTs.anyB {scope : Scope} {ifs : List Expr} {s : Shared} {H : Hp} {C : Addr} {cl : List (Str × Addr)} {fp : List Addr} :
    PTs (X.blk s H scope (compEnvC scope cl C X.env) fp) ifs (tAllT X scope ifs) :=
  ⟨fun pins s' σ H' Q I ⟨t, h, w⟩ => (h s H C cl fp).run pins s' σ H' Q I w⟩
theorem PE.anyB {scope : Scope} {elt : Expr} {s : Shared} {H : Hp} {C : Addr} {cl : List (Str × Addr)} {fp : List Addr} :
    PE (X.blk s H scope (compEnvC scope cl C X.env) fp) elt (tAllE X scope elt) :=
  ⟨fun pins s' σ H' Q I ⟨t, h, w⟩ => (h s H C cl fp).run pins s' σ H' Q I w⟩
/-- [elt for tg in iter if ..] -/
theorem xe_lc {elt tg iter : Expr} {ifs : List Expr} {scope : Scope} (own : List (Str × Nat)) (t : Tg) {ds es : List Dt} (hN : X.N.Nodup) (hi : Xi X tg iter δ ds) (c : CompD X scope t ifs elt (wipeD δ (own.map (·.2))) ds es) (hz : ds.length ≤ 100000)
    (hg : ∀ (s : Shared) (H : Hp) (C : Addr) (cl : List (Str × Addr)) (fp : List Addr), Xg (X.blk s H scope (compEnvC scope cl C X.env) fp) tg t) (hw : t.within (own.map (·.2)) := by decide) (ok : blkC X.N X.env.scope scope own = true := by rfl) (hc : X.calm = true := by rfl)
    (hs : ∀ x, foldedSetIterable iter X.env x = pure x := by intro _; rfl) : Xe X (.ListComp elt [⟨tg, iter, ifs, 0⟩] scope pos) δ (.lst es) :=
  PE.sub (pe_lc hc hN hi (blkOk_by ok) hg (fun _ _ _ _ _ => PTs.anyB) (fun _ _ _ _ _ => PE.anyB) hs) fun σ H Q h => by
    obtain ⟨G, s, e, k⟩ := h
    refine ⟨G, s, e, fun J H1 G1 g1 w D hD => ?_⟩
    exact tLc_of hw hz g1.sub (e.mono g1.gg) w c D hD fun H' G' vs g d dl => k _ H' G' (g1.trans g) (.lst d dl.1 dl.2)
end
end Pa
namespace Pa
open PySem PySem.Spec PyProof.Rows L2
inductive Cell where
  | nums (ns : List Int) | rows (rs : List (List Int))
def Cell.real (H : Hp) : Cell → List Addr → Prop
  | .nums ns, as => ∃ p, as = [p] ∧ H p = some (.lst (ns.map V.int))
  | .rows rs, as => ∃ p qs, as = p :: qs ∧ H p = some (.lst (qs.map V.ref)) ∧ qs.length = rs.length ∧ ∀ (j : Nat) (q : Addr) (ns : List Int), qs[j]? = some q → rs[j]? = some ns → H q = some (.lst (ns.map V.int))
def Cell.dt : Cell → Dt
  | .nums ns => dI ns
  | .rows rs => .lst (rs.map dI)
theorem Cell.real.keep {H H' : Hp} {c : Cell} {as : List Addr} (h : c.real H as) (k : ∀ a ∈ as, ∀ o, H a = some o → H' a = some o) : c.real H' as := by
  cases c with
  | nums ns =>
    obtain ⟨p, rfl, e⟩ := h
    exact ⟨p, rfl, k p List.mem_cons_self _ e⟩
  | rows rs =>
    obtain ⟨p, qs, rfl, e, hl, hr⟩ := h
    exact ⟨p, qs, rfl, k p List.mem_cons_self _ e, hl, fun j q ns h1 h2 => k q (List.mem_cons_of_mem _ (List.mem_of_getElem? h1)) _ (hr j q ns h1 h2)⟩
theorem Cell.real.head {H : Hp} {c : Cell} {as : List Addr} (h : c.real H as) : ∃ p qs, as = p :: qs := by
  cases c with
  | nums ns =>
    obtain ⟨p, rfl, e⟩ := h
    exact ⟨p, [], rfl⟩
  | rows rs =>
    obtain ⟨p, qs, rfl, e⟩ := h
    exact ⟨p, qs, rfl⟩
theorem Cell.real.held {H : Hp} {c : Cell} {as : List Addr} (h : c.real H as) : ∀ a ∈ as, H a ≠ none := by
  cases c with
  | nums ns =>
    obtain ⟨p, rfl, e⟩ := h
    intro a ha
    rw [List.mem_singleton.mp ha, e]
    exact fun z => by cases z
  | rows rs =>
    obtain ⟨p, qs, rfl, e, hl, hr⟩ := h
    intro a ha
    rcases List.mem_cons.mp ha with rfl | ha
    · rw [e]
      exact fun z => by cases z
    · obtain ⟨j, hj, ej⟩ := List.mem_iff_getElem.mp ha
      have hj2 : j < rs.length := by rw [← hl]; exact hj
      rw [hr j a rs[j] (by rw [List.getElem?_eq_getElem hj, ej]) (List.getElem?_eq_getElem hj2)]
      exact fun z => by cases z
theorem Cell.real.den {H : Hp} {c : Cell} {p : Addr} {qs : List Addr} (h : c.real H (p :: qs)) : Den H (.ref p) c.dt := by
  cases c with
  | nums ns =>
    obtain ⟨p', e1, e⟩ := h
    cases e1
    exact .lst e (by rw [List.length_map, List.length_map]) (DenL.ints ns).2
  | rows rs =>
    obtain ⟨p', qs', e1, e, hl, hr⟩ := h
    cases e1
    refine .lst e (by rw [List.length_map, List.length_map, hl]) fun i v d h1 h2 => ?_
    rw [List.getElem?_map] at h1 h2
    cases q1 : qs[i]? with
    | none =>
      rw [q1] at h1
      cases h1
    | some q =>
      cases q2 : rs[i]? with
      | none =>
        rw [q2] at h2
        cases h2
      | some ns =>
        rw [q1] at h1
        rw [q2] at h2
        cases h1
        cases h2
        exact .lst (hr i q ns q1 q2) (by rw [List.length_map, List.length_map]) (DenL.ints ns).2
inductive S where
  | sh (d : Dt) | at_ (n : Nat) | row (n j : Nat)
abbrev Ss := List (Option S)
abbrev Om := List Cell
/-- what the slots hold, as data: all of it | what stands still -/
def S.dt (ω : Om) : S → Option Dt
  | .sh d => some d
  | .at_ n => (ω[n]?).map Cell.dt
  | .row n j => match ω[n]? with
    | some (.rows rs) => (rs[j]?).map dI
    | _ => none
def S.st : S → Option Dt
  | .sh d => some d
  | _ => none
def view (ω : Om) (δ : Ss) : Sl := δ.map fun o => o.bind (S.dt ω)
def still (δ : Ss) : Sl := δ.map fun o => o.bind S.st
/-- the slot holds that object -/
def SlotAt (regs : List (List Addr)) : S → V → Prop
  | .sh _, _ => True
  | .at_ n, v => ∃ p qs, regs[n]? = some (p :: qs) ∧ v = .ref p
  | .row n j, v => ∃ p qs q, regs[n]? = some (p :: qs) ∧ qs[j]? = some q ∧ v = .ref q
structure EnvR (R H G : Hp) (σ : L2.St) (δ : Ss) (ω : Om) (regs : List (List Addr)) : Prop where
  rh : Same R H
  gh : Same G H
  rg : ∀ a, R a ≠ none → G a = none
  len : σ.length = δ.length
  rlen : regs.length = ω.length
  nd : regs.flatten.Nodup
  real : ∀ (n : Nat) (c : Cell) (as : List Addr), ω[n]? = some c → regs[n]? = some as → c.real H as
  out : ∀ a ∈ regs.flatten, R a = none ∧ G a = none
  sh : ∀ (i : Nat) (d : Dt), δ[i]? = some (some (.sh d)) → ∃ v, σ[i]? = some (some v) ∧ Den G v d
  ow : ∀ (i : Nat) (x : S), δ[i]? = some (some x) → ∃ v, σ[i]? = some (some v) ∧ SlotAt regs x v
def EnvO (R H G : Hp) (σ : L2.St) (δ : Ss) (ω : Om) : Prop := ∃ regs, EnvR R H G σ δ ω regs
/-- all but the frame -/
def offR (R H : Hp) : Hp := fun a => match R a with
  | none => H a
  | some _ => none
theorem offR_none {R H : Hp} {a : Addr} (h : R a = none) : offR R H a = H a := by
  unfold offR
  rw [h]
theorem offR_some {R H : Hp} {a : Addr} (h : R a ≠ none) : offR R H a = none := by
  unfold offR
  cases q : R a with
  | none => exact absurd q h
  | some o => rfl
theorem offR_same {R H : Hp} : Same (offR R H) H := fun a o h => by
  cases q : R a with
  | none => rw [offR_none q] at h; exact h
  | some u => rw [offR_some (by rw [q]; exact fun z => by cases z)] at h; cases h
theorem same_offR {R H G : Hp} (g : Same G H) (rg : ∀ a, R a ≠ none → G a = none) : Same G (offR R H) := fun a o h => by
  cases q : R a with
  | none => rw [offR_none q]; exact g a o h
  | some u =>
    rw [rg a (by rw [q]; exact fun z => by cases z)] at h
    cases h
section
variable {R H G : Hp} {σ : L2.St} {δ : Ss} {ω : Om} {regs : List (List Addr)}
theorem EnvR.mem (e : EnvR R H G σ δ ω regs) {n : Nat} {as : List Addr} (h : regs[n]? = some as) {a : Addr} (ha : a ∈ as) : a ∈ regs.flatten := List.mem_flatten.mpr ⟨as, List.mem_of_getElem? h, ha⟩
theorem EnvR.at_ (e : EnvR R H G σ δ ω regs) {n : Nat} {c : Cell} (h : ω[n]? = some c) : ∃ p qs, regs[n]? = some (p :: qs) ∧ c.real H (p :: qs) := by
  have hn : n < regs.length := by
    rw [e.rlen]
    exact (List.getElem?_eq_some_iff.mp h).1
  have h2 := List.getElem?_eq_getElem hn
  have r := e.real n c _ h h2
  obtain ⟨p, qs, ep⟩ := r.head
  exact ⟨p, qs, by rw [h2, ep], by rw [← ep]; exact r⟩
theorem EnvR.held (e : EnvR R H G σ δ ω regs) : ∀ a ∈ regs.flatten, H a ≠ none := fun a ha => by
  obtain ⟨as, h1, h2⟩ := List.mem_flatten.mp ha
  obtain ⟨n, hn, en⟩ := List.mem_iff_getElem.mp h1
  have hw : n < ω.length := by rw [← e.rlen]; exact hn
  exact (e.real n ω[n] as (List.getElem?_eq_getElem hw) (by rw [List.getElem?_eq_getElem hn, en])).held a h2
theorem EnvR.view (e : EnvR R H G σ δ ω regs) : EnvD (offR R H) σ (view ω δ) := by
  refine ⟨by unfold Pa.view; rw [List.length_map]; exact e.len, fun i d h => ?_⟩
  unfold Pa.view at h
  rw [List.getElem?_map] at h
  cases q : δ[i]? with
  | none =>
    rw [q] at h
    cases h
  | some o =>
    rw [q] at h
    have h : o.bind (S.dt ω) = some d := Option.some.inj h
    cases o with
    | none => cases h
    | some x =>
      have h : x.dt ω = some d := h
      cases x with
      | sh d' =>
        cases h
        obtain ⟨v, h1, h2⟩ := e.sh i d q
        exact ⟨v, h1, h2.mono (same_offR e.gh e.rg)⟩
      | at_ n =>
        have h : (ω[n]?).map Cell.dt = some d := h
        cases qn : ω[n]? with
        | none =>
          rw [qn] at h
          cases h
        | some c =>
          rw [qn] at h
          cases h
          obtain ⟨v, h1, p, qs, h2, rfl⟩ := e.ow i _ q
          have r := e.real n c _ qn h2
          exact ⟨_, h1, (r.keep fun a ha o ho => by rw [offR_none (e.out a (e.mem h2 ha)).1]; exact ho).den⟩
      | row n j =>
        obtain ⟨v, h1, p, qs, q', h2, h3, rfl⟩ := e.ow i _ q
        have h : (match ω[n]? with
          | some (.rows rs) => (rs[j]?).map dI
          | _ => none) = some d := h
        cases qn : ω[n]? with
        | none =>
          rw [qn] at h
          cases h
        | some c =>
          rw [qn] at h
          cases c with
          | nums ns => cases h
          | rows rs =>
            have h : (rs[j]?).map dI = some d := h
            cases qj : rs[j]? with
            | none =>
              rw [qj] at h
              cases h
            | some ns =>
              rw [qj] at h
              cases h
              obtain ⟨p', qs', e1, e2, e3, e4⟩ := e.real n _ _ qn h2
              cases e1
              refine ⟨_, h1, .lst (vs := ns.map V.int) ?_ (by rw [List.length_map, List.length_map]) (DenL.ints ns).2⟩
              rw [offR_none (e.out q' (e.mem h2 (List.mem_cons_of_mem _ (List.mem_of_getElem? h3)))).1]
              exact e4 j q' ns h3 qj
theorem EnvR.still (e : EnvR R H G σ δ ω regs) : EnvD G σ (still δ) := by
  refine ⟨by unfold Pa.still; rw [List.length_map]; exact e.len, fun i d h => ?_⟩
  unfold Pa.still at h
  rw [List.getElem?_map] at h
  cases q : δ[i]? with
  | none =>
    rw [q] at h
    cases h
  | some o =>
    rw [q] at h
    have h : o.bind S.st = some d := Option.some.inj h
    cases o with
    | none => cases h
    | some x =>
      cases x with
      | sh d' =>
        cases h
        exact e.sh i d q
      | at_ n => cases h
      | row n j => cases h
theorem held_of {A B : Hp} (s : Same A B) {a : Addr} (h : A a ≠ none) : B a ≠ none := fun z => by
  cases q : A a with
  | none => exact h q
  | some o =>
    rw [s a o q] at z
    cases z
/-- the heap has grown -/
theorem EnvR.grow (e : EnvR R H G σ δ ω regs) {G' H' : Hp} (g : Grow G H G' H') : EnvR R H' G' σ δ ω regs :=
  ⟨e.rh.trans g.hh, g.sub, fun a h => g.new a (e.rg a h) (held_of e.rh h), e.len, e.rlen, e.nd, fun n c as h1 h2 => (e.real n c as h1 h2).keep fun a _ o ho => g.hh a o ho, fun a ha => ⟨(e.out a ha).1, g.new a (e.out a ha).2 (e.held a ha)⟩,
  fun i d h => by
    obtain ⟨v, h1, h2⟩ := e.sh i d h
    exact ⟨v, h1, h2.mono g.gg⟩, e.ow⟩
theorem EnvR.junk (e : EnvR R H G σ δ ω regs) {H' : Hp} (h : Same H H') : EnvR R H' G σ δ ω regs := e.grow (Grow.junk e.gh h)
/-- a slot is set -/
theorem EnvR.set (e : EnvR R H G σ δ ω regs) {i : Nat} {v : V} {x : S} (h1 : ∀ d, x = .sh d → Den G v d) (h2 : SlotAt regs x v) : EnvR R H G (σ.set i (some v)) (δ.set i (some x)) ω regs := by
  have key : ∀ (j : Nat) (y : S), (δ.set i (some x))[j]? = some (some y) → (i = j ∧ y = x ∧ (σ.set i (some v))[j]? = some (some v)) ∨ (i ≠ j ∧ δ[j]? = some (some y) ∧ (σ.set i (some v))[j]? = σ[j]?) := fun j y q => by
    by_cases hj : i = j
    · subst hj
      have hi : i < δ.length := by
        have := (List.getElem?_eq_some_iff.mp q).1
        rwa [List.length_set] at this
      rw [List.getElem?_set_self hi] at q
      cases q
      exact .inl ⟨rfl, rfl, List.getElem?_set_self (by rw [e.len]; exact hi)⟩
    · rw [List.getElem?_set_ne hj] at q
      exact .inr ⟨hj, q, List.getElem?_set_ne hj⟩
  refine ⟨e.rh, e.gh, e.rg, by rw [List.length_set, List.length_set]; exact e.len, e.rlen, e.nd, e.real, e.out, fun j d q => ?_, fun j y q => ?_⟩
  · rcases key j _ q with ⟨_, ed, es⟩ | ⟨_, ed, es⟩
    · exact ⟨v, es, h1 d ed.symm⟩
    · obtain ⟨w, a, b⟩ := e.sh j d ed
      exact ⟨w, by rw [es]; exact a, b⟩
  · rcases key j _ q with ⟨_, ed, es⟩ | ⟨_, ed, es⟩
    · subst ed
      exact ⟨v, es, h2⟩
    · obtain ⟨w, a, b⟩ := e.ow j y ed
      exact ⟨w, by rw [es]; exact a, b⟩
/-- less is known of the slots -/
def LessS (δ δ' : Ss) : Prop := δ.length = δ'.length ∧ ∀ (i : Nat) (x : S), δ'[i]? = some (some x) → δ[i]? = some (some x)
theorem LessS.refl (δ : Ss) : LessS δ δ := ⟨rfl, fun _ _ h => h⟩
theorem LessS.trans {a b c : Ss} (h : LessS a b) (k : LessS b c) : LessS a c := ⟨h.1.trans k.1, fun i d q => h.2 i d (k.2 i d q)⟩
theorem EnvR.less {δ' : Ss} (l : LessS δ δ') (e : EnvR R H G σ δ ω regs) : EnvR R H G σ δ' ω regs :=
  ⟨e.rh, e.gh, e.rg, e.len.trans l.1, e.rlen, e.nd, e.real, e.out, fun i d q => e.sh i d (l.2 i _ q), fun i x q => e.ow i x (l.2 i x q)⟩
/-- one more region -/
theorem EnvR.more (e : EnvR R H G σ δ ω regs) {c : Cell} {as : List Addr} {H' : Hp} (s : Same H H') (n1 : ∀ a ∈ as, H a = none) (n2 : as.Nodup) (r : c.real H' as) : EnvR R H' G σ δ (ω ++ [c]) (regs ++ [as]) := by
  have e' := e.junk s
  have fl : (regs ++ [as]).flatten = regs.flatten ++ as := by rw [List.flatten_append]; simp
  refine ⟨e'.rh, e'.gh, e'.rg, e'.len, by rw [List.length_append, List.length_append, e.rlen]; rfl, ?_, fun n d bs h1 h2 => ?_, fun a ha => ?_, e'.sh, fun i x h => ?_⟩
  · rw [fl]
    refine List.nodup_append.mpr ⟨e.nd, n2, fun a ha b hb z => ?_⟩
    rw [z] at ha
    exact e.held b ha (n1 b hb)
  · by_cases hn : n < ω.length
    · rw [List.getElem?_append_left hn] at h1
      rw [List.getElem?_append_left (by rw [e.rlen]; exact hn)] at h2
      exact e'.real n d bs h1 h2
    · rw [List.getElem?_append_right (Nat.le_of_not_lt hn)] at h1
      rw [List.getElem?_append_right (by rw [e.rlen]; exact Nat.le_of_not_lt hn), e.rlen] at h2
      cases hm : n - ω.length with
      | zero =>
        rw [hm] at h1 h2
        cases h1
        cases h2
        exact r
      | succ m =>
        rw [hm] at h1
        cases h1
  · rw [fl] at ha
    rcases List.mem_append.mp ha with ha | ha
    · exact e'.out a ha
    · have h := n1 a ha
      exact ⟨same_none e.rh h, same_none e.gh h⟩
  · obtain ⟨v, h1, h2⟩ := e'.ow i x h
    refine ⟨v, h1, ?_⟩
    have ap : ∀ {n : Nat} {bs : List Addr}, regs[n]? = some bs → (regs ++ [as])[n]? = some bs := fun {n bs} q => by
      rw [List.getElem?_append_left (List.getElem?_eq_some_iff.mp q).1]
      exact q
    cases x with
    | sh d => trivial
    | at_ n =>
      obtain ⟨p, qs, a, b⟩ := h2
      exact ⟨p, qs, ap a, b⟩
    | row n j =>
      obtain ⟨p, qs, q, a, b, c⟩ := h2
      exact ⟨p, qs, q, ap a, b, c⟩
/-- one object of the n-th region is changed -/
theorem EnvR.put (e : EnvR R H G σ δ ω regs) {n : Nat} {c c' : Cell} {as : List Addr} {a : Addr} {o : HO} (h1 : regs[n]? = some as) (h2 : a ∈ as) (h4 : ω[n]? = some c) (r : c'.real (upd H a o) as) : EnvR R (upd H a o) G σ δ (ω.set n c') regs := by
  have ha := e.out a (e.mem h1 h2)
  have keep : ∀ (b : Addr) (u : HO), b ≠ a → H b = some u → upd H a o b = some u := fun b u hb hu => by
    rw [upd_ne hb]
    exact hu
  have other : ∀ (m : Nat) (bs : List Addr), m ≠ n → regs[m]? = some bs → ∀ b ∈ bs, b ≠ a := fun m bs hm hb b hbb z => by
    subst z
    -- b stands in two regions
    have hn1 := (List.getElem?_eq_some_iff.mp h1).1
    have hm1 := (List.getElem?_eq_some_iff.mp hb).1
    have en : regs[n] = as := (List.getElem?_eq_some_iff.mp h1).2
    have em : regs[m] = bs := (List.getElem?_eq_some_iff.mp hb).2
    have pw := (List.pairwise_flatten.mp e.nd).2
    rcases Nat.lt_or_gt_of_ne hm with l | l
    · have := List.pairwise_iff_getElem.mp pw m n hm1 hn1 l
      rw [em, en] at this
      exact this b hbb b h2 rfl
    · have := List.pairwise_iff_getElem.mp pw n m hn1 hm1 l
      rw [em, en] at this
      exact this b h2 b hbb rfl
  refine ⟨fun b u hu => keep b u (fun z => by rw [z, ha.1] at hu; cases hu) (e.rh b u hu), fun b u hu => keep b u (fun z => by rw [z, ha.2] at hu; cases hu) (e.gh b u hu), e.rg, e.len, by rw [List.length_set]; exact e.rlen, e.nd, fun m d bs k1 k2 => ?_, e.out, e.sh, e.ow⟩
  by_cases hm : n = m
  · subst hm
    rw [List.getElem?_set_self (List.getElem?_eq_some_iff.mp h4).1] at k1
    cases k1
    rw [h1] at k2
    cases k2
    exact r
  · rw [List.getElem?_set_ne hm] at k1
    exact (e.real m d bs k1 k2).keep fun b hb u hu => keep b u (other m bs (Ne.symm hm) k2 b hb) hu
end
end Pa
namespace Pa
open PySem PySem.Spec PyProof.Rows L2
inductive Out where
  | nx (δ : Ss) (ω : Om) | rt (d : Dt) | bk (δ : Ss) (ω : Om) | ct (δ : Ss) (ω : Om) | ex (e : Err) | ra
def Pre (a b : List (List Addr)) : Prop := ∃ more, b = a ++ more
theorem Pre.refl (a : List (List Addr)) : Pre a a := ⟨[], (List.append_nil a).symm⟩
theorem Pre.trans {a b c : List (List Addr)} (h : Pre a b) (k : Pre b c) : Pre a c := by
  obtain ⟨m, rfl⟩ := h
  obtain ⟨n, rfl⟩ := k
  exact ⟨m ++ n, List.append_assoc _ _ _⟩
theorem Pre.get {a b : List (List Addr)} (h : Pre a b) {n : Nat} {x : List Addr} (e : a[n]? = some x) : b[n]? = some x := by
  obtain ⟨m, rfl⟩ := h
  rw [List.getElem?_append_left (List.getElem?_eq_some_iff.mp e).1]
  exact e
def Kn (E : XK) (R G : Hp) (regs : List (List Addr)) (D : Ends) : Out → Prop
  | .nx δ ω => ∀ σ H G' regs', Same G G' → Pre regs regs' → EnvR R H G' σ δ ω regs' → D.nx σ H
  | .rt d => ∀ v H G', Same G G' → Same G' H → Same R H → (∀ a, R a ≠ none → G' a = none) → Den G' v d → D.rt v H
  | .bk δ ω => ∀ σ H G' regs', Same G G' → Pre regs regs' → EnvR R H G' σ δ ω regs' → D.bk σ H
  | .ct δ ω => ∀ σ H G' regs', Same G G' → Pre regs regs' → EnvR R H G' σ δ ω regs' → D.ct σ H
  | .ex e => ∀ cls dd H, Same R H → Same G H → IsErr e cls dd H → E cls dd H
  | .ra => ∀ v H, Same R H → Same G H → D.rt v H
theorem Kn.mono {E : XK} {R G G' : Hp} {regs regs' : List (List Addr)} {D : Ends} {O : Out} (s : Same G G') (p : Pre regs regs') (k : Kn E R G regs D O) : Kn E R G' regs' D O := by
  cases O with
  | nx δ ω => exact fun σ H G2 r2 s2 p2 e => k σ H G2 r2 (s.trans s2) (p.trans p2) e
  | rt d => exact fun v H G2 s2 => k v H G2 (s.trans s2)
  | bk δ ω => exact fun σ H G2 r2 s2 p2 e => k σ H G2 r2 (s.trans s2) (p.trans p2) e
  | ct δ ω => exact fun σ H G2 r2 s2 p2 e => k σ H G2 r2 (s.trans s2) (p.trans p2) e
  | ex e => exact fun cls dd H s1 s2 h => k cls dd H s1 (s.trans s2) h
  | ra => exact fun v H s1 s2 => k v H s1 (s.trans s2)
/-- the statement does not run on -/
def Out.ends : Out → Prop
  | .nx _ _ => False
  | _ => True
def tXs (E : XK) (δ : Ss) (ω : Om) (O : Out) : TS := fun D σ H => ∃ R G regs, EnvR R H G σ δ ω regs ∧ Kn E R G regs D O
abbrev Xs (X : Cx) (E : XK) (st : Stmt) (δ : Ss) (ω : Om) (O : Out) : Prop := PS X st (tXs E δ ω O)
abbrev Xb (X : Cx) (E : XK) (sts : List Stmt) (δ : Ss) (ω : Om) (O : Out) : Prop := PSs X sts (tXs E δ ω O)
section
variable {X : Cx} {E : XK} {δ δ1 δ2 : Ss} {ω ω1 ω2 : Om} {O : Out} {st : Stmt} {rest : List Stmt} {pos p : Pos}
theorem xb_nil : Xb X E [] δ ω (.nx δ ω) := PSs.sub pss_nil fun D σ H h => by
  obtain ⟨R, G, regs, e, k⟩ := h
  exact k σ H G regs (.refl _) (.refl _) e
theorem xb_cons (h1 : Xs X E st δ ω (.nx δ1 ω1)) (h2 : Xb X E rest δ1 ω1 O) : Xb X E (st :: rest) δ ω O := PSs.sub (pss_cons h1 h2) fun D σ H h => by
  obtain ⟨R, G, regs, e, k⟩ := h
  exact ⟨R, G, regs, e, fun σ' H' G' r' s p e' => ⟨R, G', r', e', k.mono s p⟩⟩
theorem xb_stop (h1 : Xs X E st δ ω O) (hO : O.ends) : Xb X E (st :: rest) δ ω O := PSs.sub (pss_cons h1 pss_never) fun D σ H h => by
  obtain ⟨R, G, regs, e, k⟩ := h
  refine ⟨R, G, regs, e, ?_⟩
  cases O with
  | nx δ ω => exact hO.elim
  | rt d => exact k
  | bk δ ω => exact k
  | ct δ ω => exact k
  | ex e => exact k
  | ra => exact k
theorem xb_less (l : LessS δ δ1) (h : Xb X E rest δ1 ω O) : Xb X E rest δ ω O := PSs.sub h fun D σ H q => by
  obtain ⟨R, G, regs, e, k⟩ := q
  exact ⟨R, G, regs, e.less l, k⟩
theorem xs_less (l : LessS δ δ1) (h : Xs X E st δ1 ω O) : Xs X E st δ ω O := PS.sub h fun D σ H q => by
  obtain ⟨R, G, regs, e, k⟩ := q
  exact ⟨R, G, regs, e.less l, k⟩
theorem xs_lessO (l : LessS δ1 δ2) (h : Xs X E st δ ω (.nx δ1 ω1)) : Xs X E st δ ω (.nx δ2 ω1) := PS.sub h fun D σ H q => by
  obtain ⟨R, G, regs, e, k⟩ := q
  exact ⟨R, G, regs, e, fun σ' H' G' r' s p e' => k σ' H' G' r' s p (e'.less l)⟩
theorem xb_lessO (l : LessS δ1 δ2) (h : Xb X E rest δ ω (.nx δ1 ω1)) : Xb X E rest δ ω (.nx δ2 ω1) := PSs.sub h fun D σ H q => by
  obtain ⟨R, G, regs, e, k⟩ := q
  exact ⟨R, G, regs, e, fun σ' H' G' r' s p e' => k σ' H' G' r' s p (e'.less l)⟩
/-- an expression at such slots: with all | with what stands still -/
theorem tX_view {R H G : Hp} {σ : L2.St} {regs : List (List Addr)} {d : Dt} {Q : VK} (e : EnvR R H G σ δ ω regs) (k : ∀ v H' G', Grow (offR R H) H G' H' → Den G' v d → Q v H') : tX (view ω δ) d σ H Q := ⟨_, offR_same, e.view, k⟩
theorem tX_still {R H G : Hp} {σ : L2.St} {regs : List (List Addr)} {d : Dt} {Q : VK} (e : EnvR R H G σ δ ω regs) (k : ∀ v H' G', Grow G H G' H' → Den G' v d → Q v H') : tX (still δ) d σ H Q := ⟨_, e.gh, e.still, k⟩
theorem tXT_view {R H G : Hp} {σ : L2.St} {regs : List (List Addr)} {b : Bool} {Q : Bool → Hp → Prop} (e : EnvR R H G σ δ ω regs) (k : ∀ H', Same H H' → Q b H') : tXT (view ω δ) b σ H Q := ⟨_, offR_same, e.view, fun H' G' g => k H' g.hh⟩
theorem xs_ret {a : Expr} {d : Dt} (ha : Xe X a (view ω δ) d) : Xs X E (.Return (some a) pos) δ ω (.rt d) := PS.sub (ps_ret ha) fun D σ H h => by
  obtain ⟨R, G, regs, e, k⟩ := h
  exact tX_view e fun v H' G' g dv => k v H' G' ((same_offR e.gh e.rg).trans g.gg) g.sub (e.rh.trans g.hh) (fun a ha => g.new a (offR_some ha) (held_of e.rh ha)) dv
theorem xs_retN : Xs X E (.Return none pos) δ ω (.rt .non) := PS.sub ps_retN fun D σ H h => by
  obtain ⟨R, G, regs, e, k⟩ := h
  exact k _ H G (.refl _) e.gh e.rh e.rg .non
theorem xs_pass : Xs X E (.Pass pos) δ ω (.nx δ ω) := PS.sub ps_pass fun D σ H h => by
  obtain ⟨R, G, regs, e, k⟩ := h
  exact k σ H G regs (.refl _) (.refl _) e
theorem xs_break : Xs X E (.Break pos) δ ω (.bk δ ω) := PS.sub ps_break fun D σ H h => by
  obtain ⟨R, G, regs, e, k⟩ := h
  exact k σ H G regs (.refl _) (.refl _) e
theorem xs_expr {a : Expr} {d : Dt} (ha : Xe X a (view ω δ) d) (hs : swapsWith a none pos.line X.env = pure false := by rfl) : Xs X E (.Expr a pos) δ ω (.nx δ ω) := PS.sub (ps_expr ha hs) fun D σ H h => by
  obtain ⟨R, G, regs, e, k⟩ := h
  exact tX_view e fun v H' G' g dv => k σ H' G regs (.refl _) (.refl _) (e.junk g.hh)
theorem xs_doc {x : Str} {j : Nat} {pos' : Pos} : Xs X E (.Expr (.Constant (.str x) j pos) pos') δ ω (.nx δ ω) := PS.sub ps_doc fun D σ H h => by
  obtain ⟨R, G, regs, e, k⟩ := h
  exact k σ H G regs (.refl _) (.refl _) e
theorem tAsg_flat {te : TE} {i : Nat} {d : Dt} (f : Flat d) (hk : ∀ σ H Q, tX (view ω δ) d σ H Q → te σ H Q) : ∀ D σ H, tXs E δ ω (.nx (δ.set i (some (.sh d))) ω) D σ H → tAsg te (gName i) D σ H := fun D σ H h => by
  obtain ⟨R, G, regs, e, k⟩ := h
  exact hk σ H _ (tX_view e fun v H' G' g dv => k _ H' G regs (.refl _) (.refl _) ((e.junk g.hh).set (fun d' h => by cases h; exact dv.flat f) trivial))
theorem tAsg_sh {te : TE} {i : Nat} {d : Dt} (hk : ∀ σ H Q, tX (still δ) d σ H Q → te σ H Q) : ∀ D σ H, tXs E δ ω (.nx (δ.set i (some (.sh d))) ω) D σ H → tAsg te (gName i) D σ H := fun D σ H h => by
  obtain ⟨R, G, regs, e, k⟩ := h
  exact hk σ H _ (tX_still e fun v H' G' g dv => k _ H' G' regs g.gg (.refl _) ((e.grow g).set (fun d' h => by cases h; exact dv) trivial))
/-- a new object of the def's own -/
def tXn (δ : Sl) (c : Cell) : TE := fun σ H Q => ∃ G, Same G H ∧ EnvD G σ δ ∧ ∀ p qs H', Same H H' → (∀ a ∈ p :: qs, H a = none) → (p :: qs).Nodup → c.real H' (p :: qs) → Q (.ref p) H'
abbrev Xn (X : Cx) (e : Expr) (δ : Sl) (c : Cell) : Prop := PE X e (tXn δ c)
theorem tAsg_new {te : TE} {i : Nat} {c : Cell} (hk : ∀ σ H Q, tXn (view ω δ) c σ H Q → te σ H Q) : ∀ D σ H, tXs E δ ω (.nx (δ.set i (some (.at_ ω.length))) (ω ++ [c])) D σ H → tAsg te (gName i) D σ H := fun D σ H h => by
  obtain ⟨R, G, regs, e, k⟩ := h
  refine hk σ H _ ⟨_, offR_same, e.view, fun p qs H' s n1 n2 r => k _ H' G (regs ++ [p :: qs]) (.refl _) ⟨_, rfl⟩ ((e.more s n1 n2 r).set (fun d' h => by cases h) ?_)⟩
  refine ⟨p, qs, ?_, rfl⟩
  rw [List.getElem?_append_right (by rw [e.rlen]; exact Nat.le_refl _), e.rlen, Nat.sub_self]
  rfl
section
variable {i : Nat} {x : Str} {a : Expr} {d : Dt} {c : Cell} {pos' : Pos}
theorem xs_flat (hN : X.N.Nodup) (ha : Xe X a (view ω δ) d) (f : Flat d := by trivial) (hi : X.N[i]? = some x := by rfl) (hx : Loc X.env.scope x := by first | exact Or.inl rfl | exact Or.inr rfl) (hs : swapsWith a (some (.Name x pos')) pos.line X.env = pure false := by rfl)
    (hf : X.fn x = true ∨ X.env.scope.names.lookup x = some .local := by first | exact .inl rfl | exact .inr rfl) : Xs X E (.Assign [.Name x pos'] a pos) δ ω (.nx (δ.set i (some (.sh d))) ω) := PS.sub (ps_set hN hi hx ha hs hf) (tAsg_flat f fun _ _ _ h => h)
theorem xs_sh (hN : X.N.Nodup) (ha : Xe X a (still δ) d) (hi : X.N[i]? = some x := by rfl) (hx : Loc X.env.scope x := by first | exact Or.inl rfl | exact Or.inr rfl) (hs : swapsWith a (some (.Name x pos')) pos.line X.env = pure false := by rfl)
    (hf : X.fn x = true ∨ X.env.scope.names.lookup x = some .local := by first | exact .inl rfl | exact .inr rfl) : Xs X E (.Assign [.Name x pos'] a pos) δ ω (.nx (δ.set i (some (.sh d))) ω) := PS.sub (ps_set hN hi hx ha hs hf) (tAsg_sh fun _ _ _ h => h)
theorem xs_new (hN : X.N.Nodup) (ha : Xn X a (view ω δ) c) (hi : X.N[i]? = some x := by rfl) (hx : Loc X.env.scope x := by first | exact Or.inl rfl | exact Or.inr rfl) (hs : swapsWith a (some (.Name x pos')) pos.line X.env = pure false := by rfl)
    (hf : X.fn x = true ∨ X.env.scope.names.lookup x = some .local := by first | exact .inl rfl | exact .inr rfl) : Xs X E (.Assign [.Name x pos'] a pos) δ ω (.nx (δ.set i (some (.at_ ω.length))) (ω ++ [c])) := PS.sub (ps_set hN hi hx ha hs hf) (tAsg_new fun _ _ _ h => h)
/-- name op= e, ints -/
theorem xs_aug {op : Operator} {f : Int → Int → Int} {n m : Int} (ho : PIp X op (ipI f)) (hN : X.N.Nodup) (ha : Xe X a (view ω δ) (.int m)) (hd : δ[i]? = some (some (.sh (.int n))) := by rfl) (hi : X.N[i]? = some x := by rfl) (hx : Loc X.env.scope x := by first | exact Or.inl rfl | exact Or.inr rfl)
    (hf : X.fn x = true ∨ X.env.scope.names.lookup x = some .local := by first | exact .inl rfl | exact .inr rfl) : Xs X E (.AugAssign (.Name x pos') op a pos) δ ω (.nx (δ.set i (some (.sh (.int (f n m))))) ω) := PS.sub (ps_aug hN hi hx ha ho hf) fun D σ H h => by
  obtain ⟨R, G, regs, e, k⟩ := h
  obtain ⟨v, e1, e2⟩ := e.sh i _ hd
  rw [e2.int_inv] at e1
  exact ⟨_, e1, tX_view e fun w H' G' g dw => ⟨n, m, rfl, dw.int_inv, k _ H' G regs (.refl _) (.refl _) ((e.junk g.hh).set (fun d' h => by cases h; exact .int _) trivial)⟩⟩
end
/-- if -/
theorem xs_if {t : Expr} {a b : List Stmt} {c : Bool} (ht : Xt X t (view ω δ) c) (ha : c = true → Xb X E a δ ω O) (hb : c = false → Xb X E b δ ω O) : Xs X E (.If t a b pos) δ ω O := PS.sub (ps_if ht PSs.any PSs.any) fun D σ H h => by
  obtain ⟨R, G, regs, e, k⟩ := h
  refine tXT_view e fun H' s => ?_
  cases c with
  | true => exact ⟨_, ha rfl, R, G, regs, e.junk s, k⟩
  | false => exact ⟨_, hb rfl, R, G, regs, e.junk s, k⟩
/-- a, b = e -/
theorem xs_two {tg a : Expr} {i j : Nat} {d1 d2 : Dt} (ha : Xe X a (still δ) (.tup [d1, d2])) (hg : Xg X tg (.two i j)) (hs : swapsWithSole [tg] a pos.line X.env = pure false := by rfl) (hw : swappedStores [tg] a X.env = pure none := by rfl)
    (h1 : (assignEach [tg] X.env).map (·.2) = [assign tg X.env] := by rfl) : Xs X E (.Assign [tg] a pos) δ ω (.nx ((δ.set i (some (.sh d1))).set j (some (.sh d2))) ω) := PS.sub (ps_asg ha hg hs hw h1) fun D σ H h => by
  obtain ⟨R, G, regs, e, k⟩ := h
  refine tX_still e fun v H' G' g dv => ?_
  obtain ⟨q, vs, rfl, r, dl⟩ := dv.tup_inv
  obtain ⟨w1, ws, rfl, e1, e2⟩ := dl.cons_inv
  obtain ⟨w2, ws2, rfl, e3, e4⟩ := e2.cons_inv
  have en := e4.nil_inv
  subst en
  refine ⟨q, [w1, w2], rfl, .inl (.inl (g.sub _ _ r)), rfl, w1, [w2], rfl, w2, [], rfl, rfl, ?_⟩
  exact k _ H' G' regs g.gg (.refl _) (EnvR.set (x := .sh d2) (EnvR.set (x := .sh d1) (e.grow g) (fun d' h => by cases h; exact e1) trivial) (fun d' h => by cases h; exact e3) trivial)

/-- an expression that is such an object -/
def tXr (δ : Ss) (ω : Om) (x : S) : TE := fun σ H Q => ∃ R G regs, EnvR R H G σ δ ω regs ∧ ∀ v H', Same H H' → SlotAt regs x v → Q v H'
abbrev Xr (X : Cx) (e : Expr) (δ : Ss) (ω : Om) (x : S) : Prop := PE X e (tXr δ ω x)
theorem xr_var (i : Nat) {x : Str} {y : S} (hd : δ[i]? = some (some y) := by rfl) (hN : X.N[i]? = some x := by rfl)
    (hv : Vis X.env.scope x := by first | exact Or.inl rfl | exact Or.inr (Or.inl rfl) | exact Or.inr (Or.inr rfl)) (h1 : (x == ("__debug__" : Str)) = false := by decide) (h2 : (x == ("__classdict__" : Str)) = false := by decide) : Xr X (.Name x pos) δ ω y :=
  PE.sub (pe_var hN hv h1 h2) fun σ H Q h => by
    obtain ⟨R, G, regs, e, k⟩ := h
    obtain ⟨v, a, b⟩ := e.ow i y hd
    exact ⟨v, a, k v H (.refl _) b⟩
/-- rows[j] -/
theorem xr_row {a b : Expr} {n j : Nat} {rs : List (List Int)} (ha : Xr X a δ ω (.at_ n)) (hw : ω[n]? = some (.rows rs)) (hb : Xe X b (view ω δ) (.int j)) (hj : j < rs.length) (hs : PlainIx b := by intro _ _; rfl) : Xr X (.Subscript a b pos) δ ω (.row n j) :=
  PE.sub (pe_ix ix_list ha hb hs) fun σ H Q h => by
    obtain ⟨R, G, regs, e, k⟩ := h
    refine ⟨R, G, regs, e, fun v H1 s1 sl => ?_⟩
    have e1 := e.junk s1
    refine tX_view e1 fun w H2 G2 g2 dw => ?_
    obtain ⟨q0, qs, h1, rfl⟩ := sl
    have e2 := e1.junk g2.hh
    obtain ⟨p', qs', ep, r1, r2, r3⟩ := e2.real n _ _ hw h1
    cases ep
    have hq : j < qs.length := by rw [r2]; exact hj
    refine ⟨q0, qs.map V.ref, j, .ref qs[j], rfl, dw.int_inv, .inl (.inl r1), atI_nat (by rw [List.getElem?_map, List.getElem?_eq_getElem hq]; rfl), ?_⟩
    exact k _ H2 (s1.trans g2.hh) ⟨q0, qs, qs[j], h1, List.getElem?_eq_getElem hq, rfl⟩
/-- what such an object holds -/
def S.get (ω : Om) : S → Option (List Int)
  | .at_ n => match ω[n]? with
    | some (.nums ns) => some ns
    | _ => none
  | .row n j => match ω[n]? with
    | some (.rows rs) => rs[j]?
    | _ => none
  | .sh _ => none
def S.put (ω : Om) (ms : List Int) : S → Om
  | .at_ n => ω.set n (.nums ms)
  | .row n j => match ω[n]? with
    | some (.rows rs) => ω.set n (.rows (rs.set j ms))
    | _ => ω
  | .sh _ => ω
theorem nd_two {α : Type} {l : List α} (h : l.Nodup) {i j : Nat} {x : α} (a : l[i]? = some x) (b : l[j]? = some x) : i = j := nd_ix h a b
theorem EnvR.nums {R H G : Hp} {σ : L2.St} {regs : List (List Addr)} (e : EnvR R H G σ δ ω regs) {x : S} {v : V} {ns : List Int} (hx : SlotAt regs x v) (hg : x.get ω = some ns) :
    ∃ q, v = .ref q ∧ H q = some (.lst (ns.map V.int)) ∧ R q = none ∧ ∀ ms : List Int, EnvR R (upd H q (.lst (ms.map V.int))) G σ δ (x.put ω ms) regs := by
  cases x with
  | sh d => cases hg
  | at_ n =>
    obtain ⟨q, qs, h1, rfl⟩ := hx
    have hg : (match ω[n]? with
      | some (.nums ns) => some ns
      | _ => none) = some ns := hg
    cases hw : ω[n]? with
    | none =>
      rw [hw] at hg
      cases hg
    | some c =>
      rw [hw] at hg
      cases c with
      | rows rs => cases hg
      | nums ns' =>
        cases hg
        obtain ⟨p', ep, r1⟩ := e.real n _ _ hw h1
        cases ep
        refine ⟨q, rfl, r1, (e.out q (e.mem h1 List.mem_cons_self)).1, fun ms => ?_⟩
        exact e.put (c' := .nums ms) h1 List.mem_cons_self hw ⟨q, rfl, upd_same⟩
  | row n j =>
    obtain ⟨q0, qs, q, h1, h2, rfl⟩ := hx
    have hg : (match ω[n]? with
      | some (.rows rs) => rs[j]?
      | _ => none) = some ns := hg
    cases hw : ω[n]? with
    | none =>
      rw [hw] at hg
      cases hg
    | some c =>
      rw [hw] at hg
      cases c with
      | nums ns' => cases hg
      | rows rs =>
        have hg : rs[j]? = some ns := hg
        obtain ⟨p', qs', ep, r1, r2, r3⟩ := e.real n _ _ hw h1
        cases ep
        have hm : q ∈ q0 :: qs := List.mem_cons_of_mem _ (List.mem_of_getElem? h2)
        have nd : (q0 :: qs).Nodup := (List.pairwise_flatten.mp e.nd).1 _ (List.mem_of_getElem? h1)
        have ne0 : q0 ≠ q := fun z => (List.nodup_cons.mp nd).1 (by rw [z]; exact List.mem_of_getElem? h2)
        refine ⟨q, rfl, r3 j q ns h2 hg, (e.out q (e.mem h1 hm)).1, fun ms => ?_⟩
        have ep : S.put ω ms (.row n j) = ω.set n (.rows (rs.set j ms)) := by
          show (match ω[n]? with
            | some (.rows rs) => ω.set n (.rows (rs.set j ms))
            | _ => ω) = _
          rw [hw]
        rw [ep]
        refine e.put (c' := .rows (rs.set j ms)) h1 hm hw ⟨q0, qs, rfl, ?_, by rw [List.length_set]; exact r2, fun i u ks k1 k2 => ?_⟩
        · rw [upd_ne ne0]
          exact r1
        · by_cases hij : j = i
          · subst hij
            rw [h2] at k1
            cases k1
            rw [List.getElem?_set_self (List.getElem?_eq_some_iff.mp hg).1] at k2
            cases k2
            exact upd_same
          · rw [List.getElem?_set_ne hij] at k2
            have neq : u ≠ q := fun z => by
              rw [z] at k1
              exact hij (nd_ix (List.nodup_cons.mp nd).2 h2 k1)
            rw [upd_ne neq]
            exact r3 i u ks k1 k2
/-- x.append(e) -/
theorem xs_append {o a : Expr} {y : S} {ns : List Int} {v : Int} {apos cpos : Pos} (ho : Xr X o δ ω y) (hy : y.get ω = some ns) (ha : Xe X a (view ω δ) (.int v)) (hz : ns.length ≤ 100000) (hbase : attributeBase o "append" X.env (eval o X.env) = eval o X.env := by rfl)
    (hfew : ((backTo cpos (starEach [a] X.env)).all (fun x => !x.1) && (backToKw cpos (keywordEach [] X.env)).all (fun x => x.1.isSome) && decide ([a].length + ([] : List Keyword).length + (if ([] : List Keyword).isEmpty then 0 else 1) < 30)) = true := by rfl)
    (hline : (apos.endLine == cpos.line) = true := by rfl) (hs : starEach (a :: []) X.env = (false, eval a X.env) :: starEach [] X.env := by rfl) (hplain : (backTo cpos (starEach [] X.env)).any (·.1) = false := by rfl)
    (hsw : swapsWith (.Call (.Attribute o "append" apos) [a] [] cpos) none pos.line X.env = pure false := by rfl) : Xs X E (.Expr (.Call (.Attribute o "append" apos) [a] [] cpos) pos) δ ω (.nx δ (y.put ω (ns ++ [v]))) :=
  PS.sub (ps_expr (pe_bm PySem.F.plainAttrs_list PySem.F.slot_list_append PySem.F.type_list_append mt_append ho (xa_cons ha xa_nil hs) hbase hfew hline hs hplain) hsw) fun D σ H h => by
    obtain ⟨R, G, regs, e, k⟩ := h
    refine ⟨R, G, regs, e, fun v1 H1 s1 sl => ?_⟩
    have e1 := e.junk s1
    obtain ⟨q, rfl, hq, hR, _⟩ := e1.nums sl hy
    refine ⟨.inl ⟨rfl, _, .inl (.inl hq)⟩, ?_⟩
    refine ⟨_, offR_same, e1.view, fun vs H2 G2 g2 dl => ?_⟩
    have e2 := e1.junk g2.hh
    obtain ⟨q', eq', hq', _, up⟩ := e2.nums sl hy
    cases eq'
    have ev := dl.ints_inv (ns := [v])
    subst ev
    refine ⟨q, ns.map V.int, .int v, rfl, rfl, hq', by rw [List.length_map]; exact Nat.lt_of_le_of_lt hz (by rw [sizeLine_eq]; omega), ?_⟩
    have u := up (ns ++ [v])
    rw [List.map_append] at u
    exact k σ _ G regs (.refl _) (.refl _) u
theorem ixN_nat {n : Nat} {k : Int} (h0 : 0 ≤ k) (h1 : k < n) : ixN n k = some k.toNat := by
  unfold ixN
  rw [if_pos h0, if_pos h1]
/-- x[i] = e -/
theorem xs_setix {o i a : Expr} {y : S} {ns : List Int} {v j : Int} {tpos : Pos} (ho : Xr X o δ ω y) (hy : y.get ω = some ns) (hi : Xe X i (view ω δ) (.int j)) (h0 : 0 ≤ j) (h1 : j < ns.length) (ha : Xe X a (view ω δ) (.int v))
    (hs : swapsWithSole [.Subscript o i tpos] a pos.line X.env = pure false := by rfl) (hw : swappedStores [.Subscript o i tpos] a X.env = pure none := by rfl) (h2 : (assignEach [.Subscript o i tpos] X.env).map (·.2) = [assign (.Subscript o i tpos) X.env] := by rfl)
    (hst : ∀ v, assign (.Subscript o i tpos) X.env v = (do
      let ov ← holding [v] (eval o X.env)
      let iv ← holding [v, ov] (eval i X.env)
      standAt tpos
      holding [v, ov, iv] (setItem ov iv v)
      release [v, ov, iv] []) := by intro _; rfl) : Xs X E (.Assign [.Subscript o i tpos] a pos) δ ω (.nx δ (y.put ω (ns.set j.toNat v))) := PS.sub (ps_asg ha (pg_sub ho hi set_list hst) hs hw h2) fun D σ H h => by
  obtain ⟨R, G, regs, e, k⟩ := h
  refine tX_view e fun v1 H1 G1 g1 d1 => ?_
  have e1 := e.junk g1.hh
  refine ⟨R, G, regs, e1, fun v2 H2 s2 sl => ?_⟩
  have e2 := e1.junk s2
  refine tX_view e2 fun v3 H3 G3 g3 d3 => ?_
  have e3 := e2.junk g3.hh
  obtain ⟨q, rfl, hq, _, up⟩ := e3.nums sl hy
  rw [d1.int_inv, d3.int_inv]
  refine ⟨q, ns.map V.int, j, j.toNat, rfl, rfl, hq, ixN_nat h0 (by rw [List.length_map]; exact h1), ?_⟩
  have u := up (ns.set j.toNat v)
  rw [List.map_set] at u
  exact k σ _ G regs (.refl _) (.refl _) u
/-- x[i] op= e -/
def rGetN (K : PySem.W.Frag) : V → V → Hp → VK → Prop := fun o i H Q => ∃ p xs k v, o = .ref p ∧ i = .int k ∧ SqL K H p xs ∧ 0 ≤ k ∧ k < 2 ^ 63 ∧ xs[k.toNat]? = some v ∧ Q v H
theorem get_listN : PGet X (rGetN X.K) := by
  intro pins s σ H o i ov iv Q I ro ri h
  obtain ⟨p, xs, k, v, rfl, rfl, hq, h0, h1, hx, q⟩ := h
  cases ro
  obtain ⟨t, rfl⟩ := ri
  obtain ⟨its, r, pl, hz⟩ := I.list hq
  obtain ⟨w, ew, rw'⟩ := r.get hx
  exact wpAny_getItem_list pl.isList h0 h1 (by simpa using ew) ⟨v, H, I, rw', q⟩
theorem xs_augix {o i a : Expr} {y : S} {ns : List Int} {v j : Int} {op : Operator} {f : Int → Int → Int} {tpos : Pos} (hop : PIp X op (ipI f)) (ho : Xr X o δ ω y) (hy : y.get ω = some ns) (hi : Xe X i (view ω δ) (.int j)) (h0 : 0 ≤ j) (h1 : j < ns.length) (h2 : ns.length ≤ 100000) (ha : Xe X a (view ω δ) (.int v))
    (hst : ∀ ov iv new, augStore i ov iv new = (do holding [new, ov, iv] (setItem ov iv new); release [new, ov, iv] []; pure .next) := by intros; rfl) : Xs X E (.AugAssign (.Subscript o i tpos) op a pos) δ ω (.nx δ (y.put ω (ns.set j.toNat (f (ns.getD j.toNat 0) v)))) :=
  PS.sub (ps_augS ho hi get_listN ha hop set_list hst) fun D σ H h => by
    obtain ⟨R, G, regs, e, k⟩ := h
    refine ⟨R, G, regs, e, fun v1 H1 s1 sl => ?_⟩
    have e1 := e.junk s1
    refine tX_view e1 fun v2 H2 G2 g2 d2 => ?_
    have e2 := e1.junk g2.hh
    obtain ⟨q, rfl, hq, _, _⟩ := e2.nums sl hy
    rw [d2.int_inv]
    have hj : j.toNat < ns.length := by omega
    refine ⟨q, ns.map V.int, j, .int (ns.getD j.toNat 0), rfl, rfl, .inl (.inl hq), h0, by omega, ?_, ?_⟩
    · rw [List.getElem?_map, List.getD_eq_getElem?_getD, List.getElem?_eq_getElem hj]
      rfl
    · refine tX_view e2 fun v4 H4 G4 g4 d4 => ?_
      have e4 := e2.junk g4.hh
      obtain ⟨q', eq', hq', _, up⟩ := e4.nums sl hy
      cases eq'
      rw [d4.int_inv]
      refine ⟨_, v, rfl, rfl, ?_⟩
      refine ⟨q, ns.map V.int, j, j.toNat, rfl, rfl, hq', ixN_nat h0 (by rw [List.length_map]; exact h1), ?_⟩
      have u := up (ns.set j.toNat (f (ns.getD j.toNat 0) v))
      rw [List.map_set] at u
      exact k σ _ G regs (.refl _) (.refl _) u
end
end Pa
namespace Pa
open PySem PySem.Spec PyProof.Rows L2
def Tg.putS : Tg → Dt → Ss → Option Ss
  | .one i, d, δ => some (δ.set i (some (.sh d)))
  | .two i j, .tup [a, b], δ => some ((δ.set i (some (.sh a))).set j (some (.sh b)))
  | .two _ _, _, _ => none
theorem gT_runS {K : PySem.W.Frag} {t : Tg} {R H G : Hp} {σ : L2.St} {δ δ' : Ss} {ω : Om} {regs : List (List Addr)} {v : V} {d : Dt} {Q : L2.St → Hp → Prop} (e : EnvR R H G σ δ ω regs) (hd : Den G v d) (hp : t.putS d δ = some δ')
    (hq : ∀ σ', EnvR R H G σ' δ' ω regs → Q σ' H) : gT K t v σ H Q := by
  cases t with
  | one i =>
    cases hp
    exact hq _ (e.set (fun d' h => by cases h; exact hd) trivial)
  | two i j =>
    cases hd with
    | tup h hl hd =>
      rename_i a us ds
      have dl : DenL G us ds := ⟨hl, hd⟩
      match ds, dl, hp with
      | [d1, d2], dl, hp =>
        cases hp
        obtain ⟨w1, ws, rfl, e1, e2⟩ := dl.cons_inv
        obtain ⟨w2, ws2, rfl, e3, e4⟩ := e2.cons_inv
        have en := e4.nil_inv
        subst en
        refine ⟨a, [w1, w2], rfl, .inl (.inl (e.gh _ _ h)), rfl, w1, [w2], rfl, w2, [], rfl, rfl, ?_⟩
        exact hq _ (EnvR.set (x := .sh d2) (EnvR.set (x := .sh d1) e (fun d' h => by cases h; exact e1) trivial) (fun d' h => by cases h; exact e3) trivial)
    | non => cases hp
    | bl _ => cases hp
    | int _ => cases hp
    | str _ => cases hp
    | lst _ _ _ => cases hp
    | dic _ _ _ => cases hp
    | scr _ => cases hp
inductive LoopS (X : Cx) (E : XK) (t : Tg) (body : List Stmt) : List Dt → Ss → Om → Out → Prop
  | nil {δ : Ss} {ω : Om} : LoopS X E t body [] δ ω (.nx δ ω)
  | next {d : Dt} {ds : List Dt} {δ δ1 δ2 δ3 : Ss} {ω ω2 : Om} {O : Out} (hp : t.putS d δ = some δ1) (hb : Xb X E body δ1 ω (.nx δ2 ω2)) (hl : LessS δ2 δ3) (r : LoopS X E t body ds δ3 ω2 O) : LoopS X E t body (d :: ds) δ ω O
  | cont {d : Dt} {ds : List Dt} {δ δ1 δ2 δ3 : Ss} {ω ω2 : Om} {O : Out} (hp : t.putS d δ = some δ1) (hb : Xb X E body δ1 ω (.ct δ2 ω2)) (hl : LessS δ2 δ3) (r : LoopS X E t body ds δ3 ω2 O) : LoopS X E t body (d :: ds) δ ω O
  | brk {d : Dt} {ds : List Dt} {δ δ1 δ2 : Ss} {ω ω2 : Om} (hp : t.putS d δ = some δ1) (hb : Xb X E body δ1 ω (.bk δ2 ω2)) : LoopS X E t body (d :: ds) δ ω (.nx δ2 ω2)
  | ret {d : Dt} {ds : List Dt} {δ δ1 : Ss} {ω : Om} {r : Dt} (hp : t.putS d δ = some δ1) (hb : Xb X E body δ1 ω (.rt r)) : LoopS X E t body (d :: ds) δ ω (.rt r)
section
variable {X : Cx} {E : XK} {δ δ1 δ2 : Ss} {ω ω1 ω2 : Om} {O : Out} {pos p : Pos}
theorem xs_for {tg iter : Expr} {body : List Stmt} {ds : List Dt} (t : Tg) (hp : PassesOwn (model X.prog X.w) X.A X.env X.xe) (hi : Xi X tg iter (still δ) ds) (hg : Xg X tg t) (l : LoopS X E t body ds δ ω O) (hc : X.calm = true := by rfl)
    (hs : ∀ x, foldedSetIterable iter X.env x = pure x := by intro _; rfl) : Xs X E (.For tg iter body [] pos) δ ω O := PS.sub (ps_for hp hc hi hg PSs.any hs) fun D σ H h => by
  obtain ⟨R, G, regs, e, k⟩ := h
  refine ⟨G, e.gh, e.still, fun J H1 G1 g1 w => ?_⟩
  refine for_it (D := D) (g := gT X.K t) (tb := fun D σ H => ∃ t, PSs X body t ∧ t D σ H) w (fun i σ' H' => ∃ G2 regs2 δi ωi, Same G1 G2 ∧ Pre regs regs2 ∧ EnvR R H' G2 σ' δi ωi regs2 ∧ LoopS X E t body (ds.drop i) δi ωi O) ⟨G1, regs, δ, ω, .refl _, .refl _, e.grow g1, l⟩ ?_ ?_ ?_
  · rintro i σ' H' _ ⟨G2, regs2, δi, ωi, s, _, e2, _⟩
    exact s.trans e2.gh
  · rintro i x σ' H' H2 hi ⟨G2, regs2, δi, ωi, s, pr, e2, li⟩ hy
    obtain ⟨G3, d, ed, gr, dx⟩ := hy G2 s e2.gh
    have e3 := e2.grow gr
    have edrop : ds.drop i = d :: ds.drop (i + 1) := by
      have hi' : i < ds.length := hi
      rw [List.drop_eq_getElem_cons hi']
      rw [List.getElem?_eq_getElem hi'] at ed
      rw [Option.some.inj ed]
    rw [edrop] at li
    have sG : Same G G3 := g1.gg.trans (s.trans gr.gg)
    cases li with
    | next hp hb hl r =>
      exact gT_runS e3 dx hp fun σ3 e4 => ⟨_, hb, R, G3, regs2, e4, fun σ4 H4 G4 r4 s4 p4 e5 => ⟨G4, r4, _, _, (s.trans gr.gg).trans s4, pr.trans p4, e5.less hl, r⟩⟩
    | cont hp hb hl r =>
      exact gT_runS e3 dx hp fun σ3 e4 => ⟨_, hb, R, G3, regs2, e4, fun σ4 H4 G4 r4 s4 p4 e5 => ⟨G4, r4, _, _, (s.trans gr.gg).trans s4, pr.trans p4, e5.less hl, r⟩⟩
    | brk hp hb =>
      exact gT_runS e3 dx hp fun σ3 e4 => ⟨_, hb, R, G3, regs2, e4, fun σ4 H4 G4 r4 s4 p4 e5 => k σ4 H4 G4 r4 (sG.trans s4) (pr.trans p4) e5⟩
    | ret hp hb =>
      exact gT_runS e3 dx hp fun σ3 e4 => ⟨_, hb, R, G3, regs2, e4, fun v H4 G4 s4 => k v H4 G4 (sG.trans s4)⟩
  · rintro σ' H' ⟨G2, regs2, δi, ωi, s, pr, e2, li⟩
    rw [List.drop_length] at li
    cases li
    exact k σ' H' G2 regs2 (g1.gg.trans s) pr e2
/-- for a, r in enumerate(rows): rows of the def's own, changed within -/
theorem xs_forRows {a r : Expr} {it : Expr} {kk : Nat} {tpos : Pos} {body : List Stmt} {n ia ir m : Nat} {δs : Nat → Ss} {ωs : Nat → Om} (hp : PassesOwn (model X.prog X.w) X.A X.env X.xe) (hm : X.mg "enumerate" = none) (ho : Xr X it δ ω (.at_ n)) (hg : Xg X (.Tuple [a, r] kk tpos) (.two ia ir))
    (h0 : LessS δ (δs 0)) (hw : ω = ωs 0) (hr : ∀ j ≤ m, ∃ rs, (ωs j)[n]? = some (.rows rs) ∧ rs.length = m) (hb : ∀ j < m, ∃ δ', Xb X E body (((δs j).set ia (some (.sh (.int (j : Nat))))).set ir (some (.row n j))) (ωs j) (.nx δ' (ωs (j + 1))) ∧ LessS δ' (δs (j + 1)))
    (hc : X.calm = true := by rfl) (hgl : Gl X "enumerate" := by rfl) (hs1 : starEach [it] X.env = [(false, eval it X.env)] := by rfl) (hs : ∀ x, foldedSetIterable (.Call (.Name "enumerate" p) [it] [] pos) X.env x = pure x := by intro _; rfl) {pos2 : Pos} :
    Xs X E (.For (.Tuple [a, r] kk tpos) (.Call (.Name "enumerate" p) [it] [] pos) body [] pos2) δ ω (.nx (δs m) (ωs m)) := PS.sub (ps_for hp hc (pi_enum hgl hm (pa_cons ho pa_nil hs1) hs1) hg PSs.any hs) fun D σ H h => by
  obtain ⟨R, G, regs, e, k⟩ := h
  refine ⟨R, G, regs, e, fun v H1 s1 sl => ?_⟩
  obtain ⟨q, qs, hreg, rfl⟩ := sl
  subst hw
  have e1 := e.junk s1
  have main : ∀ {j : Nat} {H' : Hp} {G' : Hp} {σ' : L2.St} {regs' : List (List Addr)}, j ≤ m → Pre regs regs' → EnvR R H' G' σ' (δs j) (ωs j) regs' → H' q = some (.lst (qs.map V.ref)) ∧ qs.length = m := fun {j H' G' σ' regs'} hj pr e' => by
    obtain ⟨rs, h1, h2⟩ := hr j hj
    obtain ⟨p', qs', ep, r1, r2, r3⟩ := e'.real n _ _ h1 (pr.get hreg)
    cases ep
    exact ⟨r1, r2.trans h2⟩
  have e1' := e1.less h0
  obtain ⟨hq0, hlen⟩ := main (Nat.zero_le m) (.refl _) e1'
  refine ⟨q, qs.map V.ref, rfl, .inl (.inl hq0), ?_⟩
  have w := walk_enum (K := X.K) (a := q) (xs := qs.map V.ref)
  refine for_it (D := D) (g := gT X.K (.two ia ir)) (tb := fun D σ H => ∃ t, PSs X body t ∧ t D σ H) w (fun i σ' H' => ∃ G2 regs2, Same G G2 ∧ Pre regs regs2 ∧ EnvR R H' G2 σ' (δs i) (ωs i) regs2) ⟨G, regs, .refl _, .refl _, e1'⟩ ?_ ?_ ?_
  · rintro i σ' H' hi ⟨G2, regs2, s, pr, e2⟩
    rw [List.length_map, hlen] at hi
    exact .inl (.inl (main hi pr e2).1)
  · rintro i x σ' H' H2 hi ⟨G2, regs2, s, pr, e2⟩ hy
    rw [List.length_map, hlen] at hi
    obtain ⟨T, x1, x2, rfl, hT, rfl, ex, ey⟩ := hy
    have e3 := e2.junk (same_new (o := .tup [x1, x2]) hT)
    cases ex
    have hqi : i < qs.length := by rw [hlen]; exact hi
    have ey : (qs.map V.ref)[i]? = some x2 := ey
    rw [List.getElem?_map, List.getElem?_eq_getElem hqi] at ey
    cases ey
    obtain ⟨δ', hb1, hl⟩ := hb i hi
    refine ⟨T, [.int (i : Nat), .ref qs[i]], rfl, .inl (.inl upd_same), rfl, .int (i : Nat), [.ref qs[i]], rfl, .ref qs[i], [], rfl, rfl, ?_⟩
    refine ⟨_, hb1, R, G2, regs2, EnvR.set (x := .row n i) (EnvR.set (x := .sh (.int (i : Nat))) e3 (fun d' h => by cases h; exact .int _) trivial) (fun d' h => by cases h) ⟨q, qs, qs[i], pr.get hreg, List.getElem?_eq_getElem hqi, rfl⟩, ?_⟩
    exact fun σ4 H4 G4 r4 s4 p4 e5 => ⟨G4, r4, s.trans s4, pr.trans p4, e5.less hl⟩
  · rintro σ' H' ⟨G2, regs2, s, pr, e2⟩
    rw [List.length_map, hlen] at e2
    exact k σ' H' G2 regs2 s pr e2
/-- while -/
inductive WhileS (X : Cx) (E : XK) (t : Expr) (body : List Stmt) : Nat → Ss → Om → Out → Prop
  | done {n : Nat} {δ : Ss} {ω : Om} (ht : Xt X t (view ω δ) false) : WhileS X E t body n δ ω (.nx δ ω)
  | step {n : Nat} {δ δ2 δ3 : Ss} {ω ω2 : Om} {O : Out} (ht : Xt X t (view ω δ) true) (hb : Xb X E body δ ω (.nx δ2 ω2)) (hl : LessS δ2 δ3) (r : WhileS X E t body n δ3 ω2 O) : WhileS X E t body (n + 1) δ ω O
theorem tAnyT {t : Expr} : PT X t (fun σ H Q => ∃ tt, PT X t tt ∧ tt σ H Q) := PT.any
theorem xs_while {t : Expr} {body : List Stmt} {n : Nat} (hp : PassesOwn (model X.prog X.w) X.A X.env X.xe) (l : WhileS X E t body n δ ω O) : Xs X E (.While t body [] pos) δ ω O := PS.sub (ps_while hp PT.any PSs.any) fun D σ H h => by
  obtain ⟨R, G, regs, e, k⟩ := h
  refine ⟨fun m σ' H' => ∃ G2 regs2 δi ωi, Same G G2 ∧ Pre regs regs2 ∧ EnvR R H' G2 σ' δi ωi regs2 ∧ WhileS X E t body m δi ωi O, ⟨n, G, regs, δ, ω, .refl _, .refl _, e, l⟩, ?_⟩
  rintro m σ' H' ⟨G2, regs2, δi, ωi, s, pr, e2, li⟩
  cases li with
  | done ht =>
    refine ⟨_, ht, tXT_view e2 fun H3 s3 => ?_⟩
    refine iteF ?_
    exact k σ' H3 G2 regs2 s pr (e2.junk s3)
  | step ht hb hl r =>
    rename_i m' δ2 δ3 ω2'
    refine ⟨_, ht, tXT_view e2 fun H3 s3 => ?_⟩
    refine iteT ?_
    refine ⟨fun σ4 H4 => ∃ G4 regs4, Same G G4 ∧ Pre regs regs4 ∧ EnvR R H4 G4 σ4 δ3 ω2' regs4, ?_, _, hb, R, G2, regs2, e2.junk s3, fun σ4 H4 G4 r4 s4 p4 e5 => ⟨G4, r4, s.trans s4, pr.trans p4, e5.less hl⟩⟩
    rintro σ4 H4 ⟨G4, r4, s4, p4, e5⟩
    exact ⟨m', Nat.lt_succ_self m', G4, r4, δ3, ω2', s4, p4, e5, r⟩

theorem PE.subX {e : Expr} {t t' : TE} (h : PE X e t) (k : ∀ σ H Q, t' σ H Q → t σ H Q) : PE X e t' := PE.sub h k
theorem xn_lst {es : List Expr} {ns : List Int} {δ : Sl} (h : Xa X es δ (ns.map Dt.int)) (hz : ns.length ≤ 1000 := by exact Nat.le_of_ble_eq_true rfl) : Xn X (.List es pos) δ (.nums ns) := PE.sub (pe_lst h) fun σ H Q w => by
  obtain ⟨G, s, e, k⟩ := w
  refine ⟨G, s, e, fun vs H1 G1 g1 d1 => ?_⟩
  have ev := d1.ints_inv
  subst ev
  refine ⟨by rw [List.length_map]; exact Nat.le_of_lt (small1000 hz), fun q hq => k q [] _ (g1.hh.trans (same_new hq)) ?_ (by simp) ⟨q, rfl, upd_same⟩⟩
  intro a ha
  rw [List.mem_singleton.mp ha]
  exact same_none g1.hh hq
theorem xn_list {a : Expr} {ns : List Int} {δ : Sl} (hm : X.mg "list" = none) (ha : Xe X a δ (dI ns)) (hg : Gl X "list" := by rfl) (he : starEach (a :: []) X.env = (false, eval a X.env) :: starEach [] X.env := by rfl) (hpl : (backTo pos (starEach [] X.env)).any (·.1) = false := by rfl) :
    Xn X (.Call (.Name "list" p) [a] [] pos) δ (.nums ns) := PE.sub (pe_callTy call_list_of hg hm (by decide +kernel) (xa_cons ha xa_nil he) (by decide) (by decide) he hpl) fun σ H Q w => by
  obtain ⟨G, s, e, k⟩ := w
  refine ⟨G, s, e, fun vs H1 G1 g1 d1 => ?_⟩
  obtain ⟨v, ws, rfl, d2, d3⟩ := d1.cons_inv
  have ew := d3.nil_inv
  subst ew
  obtain ⟨l, rfl, r⟩ := dI_inv d2
  refine ⟨l, ns.map V.int, rfl, .inl (.inl (.inl (g1.sub _ _ r))), fun q hq => k q [] _ (g1.hh.trans (same_new hq)) ?_ (by simp) ⟨q, rfl, upd_same⟩⟩
  intro a ha
  rw [List.mem_singleton.mp ha]
  exact same_none g1.hh hq
/-- a comprehension's reading -/
theorem lc_sub {elt : Expr} {ifs : List Expr} {scope : Scope} {own : List Nat} {t : Tg} {ds es : List Dt} {δ : Sl} (hw : t.within own) (hz : ds.length ≤ 100000) (c : CompD X scope t ifs elt (wipeD δ own) ds es) :
    ∀ σ H Q, tX δ (.lst es) σ H Q → tLc (tXi δ ds) (gT X.K t) (tAllT X scope ifs) (tAllE X scope elt) own σ H Q := fun σ H Q h => by
  obtain ⟨G, s, e, k⟩ := h
  refine ⟨G, s, e, fun J H1 G1 g1 w D hD => ?_⟩
  exact tLc_of hw hz g1.sub (e.mono g1.gg) w c D hD fun H' G' vs g d dl => k _ H' G' (g1.trans g) (.lst d dl.1 dl.2)
theorem lc_subN {elt : Expr} {ifs : List Expr} {scope : Scope} {own : List Nat} {t : Tg} {ds : List Dt} {ns : List Int} {δ : Sl} (hw : t.within own) (hz : ds.length ≤ 100000) (c : CompD X scope t ifs elt (wipeD δ own) ds (ns.map Dt.int)) :
    ∀ σ H Q, tXn δ (.nums ns) σ H Q → tLc (tXi δ ds) (gT X.K t) (tAllT X scope ifs) (tAllE X scope elt) own σ H Q := fun σ H Q h => by
  obtain ⟨G, s, e, k⟩ := h
  refine ⟨G, s, e, fun J H1 G1 g1 w D hD => ?_⟩
  refine tLc_of hw hz g1.sub (e.mono g1.gg) w c D hD fun H' G' vs g d dl => ?_
  have ev := dl.ints_inv
  subst ev
  refine k D [] H' (g1.hh.trans g.hh) ?_ (by simp) ⟨D, rfl, g.sub _ _ d⟩
  intro a ha
  rw [List.mem_singleton.mp ha]
  exact same_none g1.hh hD
section
variable {elt tg iter : Expr} {ifs : List Expr} {scope : Scope} {i : Nat} {y : Str} {py spos : Pos}
/-- name = [..] where the name's own line says so (the name a local, none of the comprehension's) -/
theorem ps_lc (own : List (Str × Nat)) (t : Tg) {ds : List Dt} {δ : Sl} (hN : X.N.Nodup) (hi : Xi X tg iter δ ds) (hg : ∀ (s : Shared) (H : Hp) (C : Addr) (cl : List (Str × Addr)) (fp : List Addr), Xg (X.blk s H scope (compEnvC scope cl C X.env) fp) tg t)
    (ok : blkC X.N X.env.scope scope own = true := by rfl) (hc : X.calm = true := by rfl) (hs : ∀ x, foldedSetIterable iter X.env x = pure x := by intro _; rfl) (hy : X.N[i]? = some y := by rfl) (hyl : X.env.scope.names.lookup y = some .local := by rfl)
    (hk : X.env.scope.kind = .function := by rfl) (hl : (py.line == pos.line) = true := by rfl) (ha : (scope.names.any fun (n, k) => n == y && (k == .local || k == .cell)) = false := by rfl) :
    PS X (.Assign [.Name y py] (.ListComp elt [⟨tg, iter, ifs, 0⟩] scope pos) spos) (tAsg (tLc (tXi δ ds) (gT X.K t) (tAllT X scope ifs) (tAllE X scope elt) (own.map (·.2))) (gName i)) :=
  ps_setLc hc hN hy hyl (sw_true hk hyl hl ha) hi (blkOk_by ok) hg (fun _ _ _ _ _ => PTs.anyB) (fun _ _ _ _ _ => PE.anyB) hs
theorem xs_lc (own : List (Str × Nat)) (t : Tg) {ds es : List Dt} (hN : X.N.Nodup) (hi : Xi X tg iter (still δ) ds) (c : CompD X scope t ifs elt (wipeD (still δ) (own.map (·.2))) ds es) (hz : ds.length ≤ 100000) (hg : ∀ (s : Shared) (H : Hp) (C : Addr) (cl : List (Str × Addr)) (fp : List Addr), Xg (X.blk s H scope (compEnvC scope cl C X.env) fp) tg t)
    (hw : t.within (own.map (·.2)) := by decide) (ok : blkC X.N X.env.scope scope own = true := by rfl) (hc : X.calm = true := by rfl) (hs : ∀ x, foldedSetIterable iter X.env x = pure x := by intro _; rfl) (hy : X.N[i]? = some y := by rfl) (hyl : X.env.scope.names.lookup y = some .local := by rfl)
    (hk : X.env.scope.kind = .function := by rfl) (hl : (py.line == pos.line) = true := by rfl) (ha : (scope.names.any fun (n, k) => n == y && (k == .local || k == .cell)) = false := by rfl) :
    Xs X E (.Assign [.Name y py] (.ListComp elt [⟨tg, iter, ifs, 0⟩] scope pos) spos) δ ω (.nx (δ.set i (some (.sh (.lst es)))) ω) := PS.sub (ps_lc own t hN hi hg ok hc hs hy hyl hk hl ha) (tAsg_sh (lc_sub hw hz c))
theorem xs_lcN (own : List (Str × Nat)) (t : Tg) {ds : List Dt} {ns : List Int} (hN : X.N.Nodup) (hi : Xi X tg iter (view ω δ) ds) (c : CompD X scope t ifs elt (wipeD (view ω δ) (own.map (·.2))) ds (ns.map Dt.int)) (hz : ds.length ≤ 100000) (hg : ∀ (s : Shared) (H : Hp) (C : Addr) (cl : List (Str × Addr)) (fp : List Addr), Xg (X.blk s H scope (compEnvC scope cl C X.env) fp) tg t)
    (hw : t.within (own.map (·.2)) := by decide) (ok : blkC X.N X.env.scope scope own = true := by rfl) (hc : X.calm = true := by rfl) (hs : ∀ x, foldedSetIterable iter X.env x = pure x := by intro _; rfl) (hy : X.N[i]? = some y := by rfl) (hyl : X.env.scope.names.lookup y = some .local := by rfl)
    (hk : X.env.scope.kind = .function := by rfl) (hl : (py.line == pos.line) = true := by rfl) (ha : (scope.names.any fun (n, k) => n == y && (k == .local || k == .cell)) = false := by rfl) :
    Xs X E (.Assign [.Name y py] (.ListComp elt [⟨tg, iter, ifs, 0⟩] scope pos) spos) δ ω (.nx (δ.set i (some (.at_ ω.length))) (ω ++ [.nums ns])) := PS.sub (ps_lc own t hN hi hg ok hc hs hy hyl hk hl ha) (tAsg_new (lc_subN hw hz c))
end
end

def argS (n : Nat) (ds : List Dt) : Ss := ds.map (fun d => some (.sh d)) ++ List.replicate (n - ds.length) none
/-- how the body ends, as the result asks -/
def EndsAs : Out → Res → Prop
  | .rt d, .ok d' => d = d'
  | .nx _ _, .ok d' => d' = .non
  | .ex e, .er e' => e = e'
  | .rt _, .an => True
  | .nx _ _, .an => True
  | .ra, .an => True
  | _, _ => False
theorem env_start {G H : Hp} {N : List Str} {vs : List V} {ds : List Dt} (s : Same G H) (dl : DenL G vs ds) (hN : ds.length ≤ N.length) : EnvR (fun a => match G a with | none => H a | some _ => none) H G (start N vs) (argS N.length ds) [] [] := by
  have hl : vs.length = ds.length := dl.1
  have le : (start N vs).length = (argS N.length ds).length := by
    unfold L2.start argS
    rw [List.length_append, List.length_append, List.length_map, List.length_map, List.length_replicate, List.length_replicate, hl]
  have key : ∀ (i : Nat) (x : S), (argS N.length ds)[i]? = some (some x) → ∃ v d, (start N vs)[i]? = some (some v) ∧ x = .sh d ∧ Den G v d := fun i x h => by
    unfold argS at h
    unfold L2.start
    by_cases hi : i < ds.length
    · rw [List.getElem?_append_left (by rw [List.length_map]; exact hi), List.getElem?_map, List.getElem?_eq_getElem hi] at h
      cases h
      have hv : i < vs.length := by rw [hl]; exact hi
      refine ⟨vs[i], ds[i], ?_, rfl, dl.2 i _ _ (List.getElem?_eq_getElem hv) (List.getElem?_eq_getElem hi)⟩
      rw [List.getElem?_append_left (by rw [List.length_map]; exact hv), List.getElem?_map, List.getElem?_eq_getElem hv]
      rfl
    · rw [List.getElem?_append_right (by rw [List.length_map]; exact Nat.le_of_not_lt hi), List.getElem?_replicate] at h
      split at h <;> cases h
  refine ⟨fun a o h => ?_, s, fun a h => ?_, le, rfl, List.nodup_nil, fun n c as h => by simp at h, fun a h => by simp at h, fun i d h => ?_, fun i x h => ?_⟩
  · cases q : G a with
    | none =>
      simp only [q] at h
      exact h
    | some u =>
      simp only [q] at h
      cases h
  · cases q : G a with
    | none => rfl
    | some u =>
      simp only [q] at h
      exact absurd rfl h
  · obtain ⟨v, d', e1, e2, e3⟩ := key i _ h
    cases e2
    exact ⟨v, e1, e3⟩
  · obtain ⟨v, d', e1, e2, e3⟩ := key i _ h
    subst e2
    exact ⟨v, e1, trivial⟩
/-- THE RULE for a def -/
theorem fn_mk {P : Program} {w : World} {K : PySem.W.Frag} {mg : Str → Option Value} {base : Heap} {CX : CXT} {k : Nat} {x : Str} {N ps : List Str} {st : Stmt} {R : List Dt → Res → Prop}
    {fo : Addr} {fdo : FuncData} (Fd : FunD K x x (defArgs st) (defBody st) (defScope st) [] [] fo fdo) (S : FnScope N ps (defScope st))
    (body : ∀ (f : Addr) (cdv : Value) (A : Around) (outer : List Env) (s : Shared) (H : Hp) (E : XK) (ds : List Dt) (r : Res), Room k (A.deeper (envOfC x (defScope st) s.heap.objs.size f cdv)) → ds.length = ps.length → R ds r →
      ∃ O, EndsAs O r ∧ Xb (cxOf CX P w K mg base N x (defScope st) f cdv A outer s H E) E (defBody st) (argS N.length ds) [] O) : FnOk P w K mg base CX (k + 1) fo fdo ps (spF ps.length R) := by
  refine Fd.ok S (fun vs H Q E h => ?_) (fun cdv A outer s H vs Q E hr h => ?_)
  · obtain ⟨G, ds, r, h1, h2, h3, h4⟩ := h
    rw [h3.1]
    exact h1
  · obtain ⟨G, ds, r, hn, sG, dl, hR, post⟩ := h
    obtain ⟨O, hO, hX⟩ := body fo cdv A outer s H E ds r hr hn hR
    have hN : ds.length ≤ N.length := by
      rw [hn, ← S.pre, List.length_take]
      omega
    refine ⟨_, hX, _, G, [], env_start sG dl hN, ?_⟩
    -- what the frame keeps and what is read are all of the heap
    have all : ∀ {H' G' : Hp}, Same (fun a => match G a with | none => H a | some _ => none) H' → Same G G' → Same G' H' → Same H H' := fun {H' G'} a b c y o hy => by
      cases q : G y with
      | none => exact a y o (by simp only [q]; exact hy)
      | some u =>
        have e : u = o := by
          have h1 := sG y u q
          rw [hy] at h1
          exact (Option.some.inj h1).symm
        subst e
        exact c y u (b y u q)
    cases O with
    | nx δ ω =>
      cases r with
      | er e => exact hO.elim
      | ok d =>
        have ed : d = .non := hO
        subst ed
        intro σ' H' G' regs' s1 p1 e'
        exact post .non H' G' ⟨all e'.rh s1 e'.gh, s1, e'.gh, fun a h1 h2 => e'.rg a (by simp only [h1]; exact h2)⟩ .non
      | an =>
        intro σ' H' G' regs' s1 p1 e'
        exact post .non H' (all e'.rh s1 e'.gh)
    | rt d =>
      cases r with
      | er e => exact hO.elim
      | ok d' =>
        have ed : d = d' := hO
        subst ed
        intro v H' G' s1 s2 s3 n dv
        exact post v H' G' ⟨all s3 s1 s2, s1, s2, fun a h1 h2 => n a (by simp only [h1]; exact h2)⟩ dv
      | an =>
        intro v H' G' s1 s2 s3 n dv
        exact post v H' (all s3 s1 s2)
    | bk δ ω => cases r <;> exact hO.elim
    | ct δ ω => cases r <;> exact hO.elim
    | ex e =>
      cases r with
      | ok d => exact hO.elim
      | an => exact hO.elim
      | er e' =>
        have ee : e = e' := hO
        subst ee
        intro cls dd H' s1 s2 he
        exact post cls dd H' (all s1 (.refl _) s2) he
    | ra =>
      cases r with
      | ok d => exact hO.elim
      | er e => exact hO.elim
      | an =>
        intro v H' s1 s2
        exact post v H' (all s1 (.refl _) s2)
theorem Df.mk' {P : Program} {w : World} {K : PySem.W.Frag} {mg : Str → Option Value} {base : Heap} {CX : CXT} {k : Nat} {g x : Str} {N ps : List Str} {st : Stmt} {R : List Dt → Res → Prop}
    (F : ∃ (f : Addr) (fd : FuncData), mg g = some (.ref f) ∧ FunD K x x (defArgs st) (defBody st) (defScope st) [] [] f fd) (S : FnScope N ps (defScope st))
    (hb : ∀ (kV doc pm : Value) (an : Option Addr) (cdv ct : Value) (us : List Value), us.length = ps.length → bindArgs (PySem.W.fnOf x x (defArgs st) (defBody st) (defScope st) .none kV doc pm an cdv ct) ⟨us, []⟩ = pure (ps.zip us))
    (body : ∀ (f : Addr) (cdv : Value) (A : Around) (outer : List Env) (s : Shared) (H : Hp) (E : XK) (ds : List Dt) (r : Res), Room k (A.deeper (envOfC x (defScope st) s.heap.objs.size f cdv)) → ds.length = ps.length → R ds r →
      ∃ O, EndsAs O r ∧ Xb (cxOf CX P w K mg base N x (defScope st) f cdv A outer s H E) E (defBody st) (argS N.length ds) [] O) : Df P w K mg base CX (k + 1) g ps.length R := by
  obtain ⟨f, fd, hm, Fd⟩ := F
  exact ⟨f, fd, ps, fn_mk Fd S body, hm, Fd.kp, Fd.bindsN hb⟩
end Pa
namespace Pa
open PySem PySem.Spec PyProof.Rows L2
section
variable {X : Cx} {scope : Scope} {ifs : List Expr} {elt : Expr} {δ : Sl}
/-- what holds in every block of the comprehension -/
abbrev InB (X : Cx) (scope : Scope) (φ : Cx → Prop) : Prop := ∀ (s : Shared) (H : Hp) (C : Addr) (cl : List (Str × Addr)) (fp : List Addr), φ (X.blk s H scope (compEnvC scope cl C X.env) fp)
theorem comp_map {α : Type} {t : Tg} {g : α → Dt} {h : α → Dt} {dl : α → Sl} : ∀ (xs : List α), (∀ x ∈ xs, t.put (g x) δ = some (dl x) ∧ InB X scope fun Y => Xts Y ifs (dl x) true ∧ Xe Y elt (dl x) (h x)) → CompD X scope t ifs elt δ (xs.map g) (xs.map h)
  | [], _ => .nil
  | x :: xs, k => by
    obtain ⟨a, b⟩ := k x List.mem_cons_self
    exact .keep a (fun s H C cl fp => (b s H C cl fp).1) (fun s H C cl fp => (b s H C cl fp).2) (comp_map xs fun y hy => k y (List.mem_cons_of_mem _ hy))
theorem comp_filter {α : Type} {t : Tg} {g : α → Dt} {h : α → Dt} {dl : α → Sl} {f : α → Bool} : ∀ (xs : List α), (∀ x ∈ xs, t.put (g x) δ = some (dl x) ∧ InB X scope fun Y => Xts Y ifs (dl x) (f x) ∧ (f x = true → Xe Y elt (dl x) (h x))) → CompD X scope t ifs elt δ (xs.map g) ((xs.filter f).map h)
  | [], _ => .nil
  | x :: xs, k => by
    obtain ⟨a, b⟩ := k x List.mem_cons_self
    have r := comp_filter (t := t) (g := g) (h := h) (dl := dl) (f := f) xs fun y hy => k y (List.mem_cons_of_mem _ hy)
    cases e : f x with
    | true =>
      rw [List.filter_cons, if_pos e]
      exact .keep a (fun s H C cl fp => e ▸ (b s H C cl fp).1) (fun s H C cl fp => (b s H C cl fp).2 e) r
    | false =>
      rw [List.filter_cons, if_neg (by rw [e]; exact Bool.false_ne_true)]
      exact .skip a (fun s H C cl fp => e ▸ (b s H C cl fp).1) r
/-- over ints, one name, an int each -/
theorem comp_ints {j : Nat} {ns : List Int} {f : Int → Int} (k : ∀ n ∈ ns, InB X scope fun Y => Xe Y elt (δ.set j (some (.int n))) (.int (f n))) : CompD X scope (.one j) [] elt δ (ns.map Dt.int) ((ns.map f).map Dt.int) := by
  rw [List.map_map]
  exact comp_map (dl := fun n => δ.set j (some (.int n))) ns fun n hn => ⟨rfl, fun s H C cl fp => ⟨xts_nil, k n hn s H C cl fp⟩⟩
/-- over ints, one name, any data each -/
theorem comp_intsD {j : Nat} {ns : List Int} {f : Int → Dt} (k : ∀ n ∈ ns, InB X scope fun Y => Xe Y elt (δ.set j (some (.int n))) (f n)) : CompD X scope (.one j) [] elt δ (ns.map Dt.int) (ns.map f) :=
  comp_map (dl := fun n => δ.set j (some (.int n))) ns fun n hn => ⟨rfl, fun s H C cl fp => ⟨xts_nil, k n hn s H C cl fp⟩⟩
/-- over ints, a test, an int each -/
theorem comp_intsF {j : Nat} {ns : List Int} {t : Expr} {p : Int → Bool} {f : Int → Int} (k : ∀ n ∈ ns, InB X scope fun Y => Xt Y t (δ.set j (some (.int n))) (p n) ∧ (p n = true → Xe Y elt (δ.set j (some (.int n))) (.int (f n)))) :
    CompD X scope (.one j) [t] elt δ (ns.map Dt.int) (((ns.filter p).map f).map Dt.int) := by
  rw [List.map_map]
  exact comp_filter (dl := fun n => δ.set j (some (.int n))) ns fun n hn => ⟨rfl, fun s H C cl fp => ⟨xts_one (k n hn s H C cl fp).1, (k n hn s H C cl fp).2⟩⟩
/-- over pairs of ints, two names, an int each -/
theorem comp_zip {i j : Nat} {c h : List Int} {f : Int → Int → Int} (k : ∀ a b, (a, b) ∈ c.zip h → InB X scope fun Y => Xe Y elt ((δ.set i (some (.int a))).set j (some (.int b))) (.int (f a b))) :
    CompD X scope (.two i j) [] elt δ (zipD (c.map Dt.int) (h.map Dt.int)) (((c.zip h).map fun p => f p.1 p.2).map Dt.int) := by
  have e : zipD (c.map Dt.int) (h.map Dt.int) = (c.zip h).map fun p => .tup [.int p.1, .int p.2] := by
    unfold zipD
    rw [List.zip_map, List.map_map]
    rfl
  rw [e, List.map_map]
  exact comp_map (dl := fun p : Int × Int => (δ.set i (some (.int p.1))).set j (some (.int p.2))) (c.zip h) fun p hp => ⟨rfl, fun s H C cl fp => ⟨xts_nil, k p.1 p.2 hp s H C cl fp⟩⟩
theorem zip_len {c h : List Int} : (zipD (c.map Dt.int) (h.map Dt.int)).length ≤ c.length := by
  unfold zipD
  rw [List.length_map, List.length_zip, List.length_map]
  omega
/-- over numbered ints -/
theorem enum_ints {h : List Int} : enumD (h.map Dt.int) = h.zipIdx.map fun p => .tup [.int (p.2 : Int), .int p.1] := by
  unfold enumD
  rw [List.zipIdx_map, List.map_map]
  rfl
end
end Pa
namespace Pa
open PySem PySem.Spec PyProof.Rows L2
def isI : Dt → Bool
  | .int _ => true
  | .bl _ => true
  | _ => false
def isB : Dt → Bool
  | .bl _ => true
  | _ => false
def isL : Dt → Bool
  | .lst _ => true
  | .scr _ _ => true
  | _ => false
def isT : Dt → Bool
  | .tup _ => true
  | _ => false
theorem noS_ints (ns : List Int) : ∀ d ∈ ns.map Dt.int, d.noS = true := fun d h => by
  obtain ⟨n, _, rfl⟩ := List.mem_map.mp h
  rfl
theorem kit_isI (d : Dt) : kitB (tyName d) "int" = some (isI d) := by cases d <;> (simp only [tyName, isI]; decide)
theorem kit_isB (d : Dt) : kitB (tyName d) "bool" = some (isB d) := by cases d <;> (simp only [tyName, isB]; decide)
theorem kit_isL (d : Dt) : kitB (tyName d) "list" = some (isL d) := by cases d <;> (simp only [tyName, isL]; decide)
theorem kit_isT (d : Dt) : kitB (tyName d) "tuple" = some (isT d) := by cases d <;> (simp only [tyName, isT]; decide)
def isW (d : Dt) : Bool := isI d && !isB d
theorem isW_int {d : Dt} (h : isW d = true) : ∃ i, d = .int i := by
  cases d with
  | int i => exact ⟨i, rfl⟩
  | non => cases h
  | bl _ => cases h
  | str _ => cases h
  | lst _ => cases h
  | tup _ => cases h
  | dic _ => cases h
  | scr _ => cases h
def isFT (d : Dt) (a b : Int) : Bool := match d with
  | .int i => decide (a ≤ i) && decide (i ≤ b)
  | _ => false
theorem isFT_no {d : Dt} {a b : Int} (h : isW d = false) : isFT d a b = false := by
  cases d with
  | int i => cases h
  | non => rfl
  | bl _ => rfl
  | str _ => rfl
  | lst _ => rfl
  | tup _ => rfl
  | dic _ => rfl
  | scr _ => rfl
def isListed : Dt → Bool
  | .lst ds => decide ((1 : Int) ≤ (ds.length : Int)) && decide ((ds.length : Int) ≤ 8)
  | _ => false
def isFollow (p v : Int) : Bool := decide (p < v) && decide (v % p = 0)
/-- the first wrong value from k on, prev the value ahead -/
def fwC : Option Int → List Dt → Nat → Option Nat
  | _, [], _ => none
  | prev, d :: ds, k => match d with
    | .int v => if isFT (.int v) 1 1000000 = true then (match prev with
      | none => fwC (some v) ds (k + 1)
      | some p => if isFollow p v = true then fwC (some v) ds (k + 1) else some k) else some k
    | _ => some k
/-- the first wrong count from k on -/
def fwH : List Dt → Nat → Option Nat
  | [], _ => none
  | d :: ds, k => if isFT d 0 99 = true then fwH ds (k + 1) else some k
def optI : Option Nat → Dt
  | none => .non
  | some i => .int i
/-- a chain, a heap for it -/
structure Chn (c : List Int) : Prop where
  len0 : 0 < c.length
  len8 : c.length ≤ 8
  rg : ∀ v ∈ c, 1 ≤ v ∧ v ≤ 1000000
  st : ∀ i, i + 1 < c.length → c.getD i 0 < c.getD (i + 1) 0 ∧ c.getD (i + 1) 0 % c.getD i 0 = 0
structure Hep (c h : List Int) : Prop where
  len : h.length = c.length
  rg : ∀ v ∈ h, 0 ≤ v ∧ v ≤ 99
theorem isFT_of {i a b : Int} (h : a ≤ i ∧ i ≤ b) : isFT (.int i) a b = true := by
  show (decide (a ≤ i) && decide (i ≤ b)) = true
  rw [decide_eq_true h.1, decide_eq_true h.2]
  rfl
theorem fwH_none : ∀ (h : List Int) (k : Nat), (∀ v ∈ h, 0 ≤ v ∧ v ≤ 99) → fwH (h.map Dt.int) k = none
  | [], k, _ => rfl
  | v :: h, k, a => by
    show (if isFT (.int v) 0 99 = true then fwH (h.map Dt.int) (k + 1) else some k) = none
    rw [if_pos (isFT_of (a v List.mem_cons_self))]
    exact fwH_none h (k + 1) fun u hu => a u (List.mem_cons_of_mem _ hu)
theorem fwC_none : ∀ (c : List Int) (prev : Option Int) (k : Nat), (∀ v ∈ c, 1 ≤ v ∧ v ≤ 1000000) → (∀ p v, prev = some p → c.head? = some v → isFollow p v = true) → (∀ i, i + 1 < c.length → c.getD i 0 < c.getD (i + 1) 0 ∧ c.getD (i + 1) 0 % c.getD i 0 = 0) → fwC prev (c.map Dt.int) k = none
  | [], prev, k, _, _, _ => by cases prev <;> rfl
  | v :: c, prev, k, a, b, s => by
    have e : fwC (some v) (c.map Dt.int) (k + 1) = none := by
      refine fwC_none c (some v) (k + 1) (fun u hu => a u (List.mem_cons_of_mem _ hu)) (fun p u hp hu => ?_) (fun i hi => ?_)
      · cases hp
        cases c with
        | nil => cases hu
        | cons u' c' =>
          cases hu
          have := s 0 (by simp)
          have this : v < u ∧ u % v = 0 := this
          unfold isFollow
          rw [decide_eq_true this.1, decide_eq_true this.2]
          rfl
      · exact s (i + 1) (by simpa using hi)
    cases prev with
    | none =>
      show (if isFT (.int v) 1 1000000 = true then fwC (some v) (c.map Dt.int) (k + 1) else some k) = none
      rw [if_pos (isFT_of (a v List.mem_cons_self)), e]
    | some p =>
      show (if isFT (.int v) 1 1000000 = true then (if isFollow p v = true then fwC (some v) (c.map Dt.int) (k + 1) else some k) else some k) = none
      rw [if_pos (isFT_of (a v List.mem_cons_self)), if_pos (b p v rfl rfl), e]
theorem Chn.fw {c : List Int} (h : Chn c) : fwC none (c.map Dt.int) 0 = none := fwC_none c none 0 h.rg (fun p v hp => by cases hp) h.st
theorem Hep.fw {c g : List Int} (h : Hep c g) : fwH (g.map Dt.int) 0 = none := fwH_none g 0 h.rg
/-- factors that the machine multiplies -/
def Small (n : Int) : Prop := -(2 ^ 64) < n ∧ n < 2 ^ 64
def worth (c h : List Int) : Int := ((c.zip h).map fun p => p.1 * p.2).sum
def lesser (c h : List Int) (k : Nat) : Int := worth (c.take k) (h.take k)
theorem LessS.nil : LessS [] [] := LessS.refl []
theorem LessS.keep {x : Option S} {a b : Ss} (h : LessS a b) : LessS (x :: a) (x :: b) := ⟨congrArg Nat.succ h.1, fun i y e => by
  cases i with
  | zero => exact e
  | succ i => exact h.2 i y e⟩
theorem LessS.drop {x : Option S} {a b : Ss} (h : LessS a b) : LessS (x :: a) (none :: b) := ⟨congrArg Nat.succ h.1, fun i y e => by
  cases i with
  | zero => cases e
  | succ i => exact h.2 i y e⟩
section
variable {X : Cx} {δ : Sl} {pos p : Pos}
/-- x <= y <= z -/
theorem xe_le2 {a b c : Expr} {x y z : Int} (ha : Xe X a δ (.int x)) (hb : Xe X b δ (.int y)) (hc : Xe X c δ (.int z)) (hm : lastMarks [.LtE, .LtE] [b, c] = false := by with_unfolding_all rfl) : Xe X (.Compare a [.LtE, .LtE] [b, c] pos) δ (.bl (decide (x ≤ y) && decide (y ≤ z))) :=
  xe_chain o_le ha hb (fun h => by rw [h, Bool.true_and]; exact ⟨o_le, hc⟩) (fun h => by rw [h, Bool.false_and]) hm
theorem cut_take {α : Type} {xs : List α} {k : Int} (h0 : 0 ≤ k) (h1 : k ≤ xs.length) : cutD xs none (some k) = xs.take k.toNat := by
  have e : HT.sIx xs.length xs.length (some k) = k.toNat := by
    unfold HT.sIx
    simp only []
    split <;> omega
  unfold cutD
  rw [e]
  show (xs.drop 0).take (k.toNat - 0) = _
  rw [List.drop_zero, Nat.sub_zero]
end
end Pa
namespace Pa
open PySem PySem.Spec PyProof.Rows L2
/-- a turn of a loop -/
def TurnS (X : Cx) (E : XK) (t : Tg) (body : List Stmt) (I : List Dt → Ss → Om → Out → Prop) (d : Dt) (ds : List Dt) (δ : Ss) (ω : Om) (O : Out) : Prop :=
  ∃ δ1, t.putS d δ = some δ1 ∧ ((∃ δ2 δ3 ω2, Xb X E body δ1 ω (.nx δ2 ω2) ∧ LessS δ2 δ3 ∧ I ds δ3 ω2 O) ∨ (∃ δ2 δ3 ω2, Xb X E body δ1 ω (.ct δ2 ω2) ∧ LessS δ2 δ3 ∧ I ds δ3 ω2 O) ∨ (∃ δ2 ω2, Xb X E body δ1 ω (.bk δ2 ω2) ∧ O = .nx δ2 ω2) ∨ (∃ r, Xb X E body δ1 ω (.rt r) ∧ O = .rt r))
theorem TurnS.next {X : Cx} {E : XK} {t : Tg} {body : List Stmt} {I : List Dt → Ss → Om → Out → Prop} {d : Dt} {ds : List Dt} {δ δ1 δ2 δ3 : Ss} {ω ω2 : Om} {O : Out} (hp : t.putS d δ = some δ1) (hb : Xb X E body δ1 ω (.nx δ2 ω2)) (hl : LessS δ2 δ3) (r : I ds δ3 ω2 O) : TurnS X E t body I d ds δ ω O := ⟨δ1, hp, .inl ⟨δ2, δ3, ω2, hb, hl, r⟩⟩
theorem TurnS.ret {X : Cx} {E : XK} {t : Tg} {body : List Stmt} {I : List Dt → Ss → Om → Out → Prop} {d r : Dt} {ds : List Dt} {δ δ1 : Ss} {ω : Om} {O : Out} (hp : t.putS d δ = some δ1) (hb : Xb X E body δ1 ω (.rt r)) (e : O = .rt r) : TurnS X E t body I d ds δ ω O := ⟨δ1, hp, .inr (.inr (.inr ⟨r, hb, e⟩))⟩
theorem TurnS.brk {X : Cx} {E : XK} {t : Tg} {body : List Stmt} {I : List Dt → Ss → Om → Out → Prop} {d : Dt} {ds : List Dt} {δ δ1 δ2 : Ss} {ω ω2 : Om} {O : Out} (hp : t.putS d δ = some δ1) (hb : Xb X E body δ1 ω (.bk δ2 ω2)) (e : O = .nx δ2 ω2) : TurnS X E t body I d ds δ ω O := ⟨δ1, hp, .inr (.inr (.inl ⟨δ2, ω2, hb, e⟩))⟩
theorem LoopS.ind {X : Cx} {E : XK} {t : Tg} {body : List Stmt} (I : List Dt → Ss → Om → Out → Prop) (hnil : ∀ δ ω O, I [] δ ω O → O = .nx δ ω) (hstep : ∀ d ds δ ω O, I (d :: ds) δ ω O → TurnS X E t body I d ds δ ω O) : ∀ {ds : List Dt} {δ : Ss} {ω : Om} {O : Out}, I ds δ ω O → LoopS X E t body ds δ ω O
  | [], δ, ω, O, h => by
    rw [hnil δ ω O h]
    exact .nil
  | d :: ds, δ, ω, O, h => by
    obtain ⟨δ1, hp, ⟨δ2, δ3, ω2, hb, hl, r⟩ | ⟨δ2, δ3, ω2, hb, hl, r⟩ | ⟨δ2, ω2, hb, e⟩ | ⟨r, hb, e⟩⟩ := hstep d ds δ ω O h
    · exact .next hp hb hl (LoopS.ind I hnil hstep r)
    · exact .cont hp hb hl (LoopS.ind I hnil hstep r)
    · rw [e]
      exact .brk hp hb
    · rw [e]
      exact .ret hp hb
/-- a loop whose turns each go on: the state behind j turns -/
theorem LoopS.run {X : Cx} {E : XK} {t : Tg} {body : List Stmt} : ∀ {ds : List Dt} {δ : Ss} {ω : Om} (δs : Nat → Ss) (ωs : Nat → Om), δ = δs 0 → ω = ωs 0 → (∀ j d, ds[j]? = some d → ∃ δ1 δ2, t.putS d (δs j) = some δ1 ∧ Xb X E body δ1 (ωs j) (.nx δ2 (ωs (j + 1))) ∧ LessS δ2 (δs (j + 1))) → LoopS X E t body ds δ ω (.nx (δs ds.length) (ωs ds.length))
  | [], δ, ω, δs, ωs, h1, h2, _ => by
    rw [h1, h2]
    exact .nil
  | d :: ds, δ, ω, δs, ωs, h1, h2, k => by
    obtain ⟨δ1, δ2, a, b, c⟩ := k 0 d rfl
    rw [h1, h2]
    exact .next a b c (LoopS.run (fun j => δs (j + 1)) (fun j => ωs (j + 1)) rfl rfl fun j d h => k (j + 1) d h)
def enumFrom (k : Nat) (ds : List Dt) : List Dt := (ds.zipIdx k).map fun p => .tup [.int p.2, p.1]
theorem enumFrom_cons {k : Nat} {d : Dt} {ds : List Dt} : enumFrom k (d :: ds) = .tup [.int k, d] :: enumFrom (k + 1) ds := rfl
theorem at_last {α : Type} {pre rest : List α} {x : α} (h : pre.getLast? = some x) : atI (pre ++ rest) ((pre.length : Int) - 1) = some x := by
  have hl : 0 < pre.length := by
    cases pre with
    | nil => cases h
    | cons a b => exact Nat.succ_pos _
  have e : (pre.length : Int) - 1 = ((pre.length - 1 : Nat) : Int) := by omega
  rw [e]
  refine atI_nat ?_
  rw [List.getElem?_append_left (by omega), ← List.getLast?_eq_getElem?, h]
end Pa
namespace Pa
open PySem PySem.Spec PyProof.Rows L2
theorem Chn.small {c : List Int} (h : Chn c) : ∀ v ∈ c, Small v := fun v hv => by
  have := h.rg v hv
  unfold Small
  omega
theorem Chn.getD {c : List Int} (h : Chn c) {k : Nat} (hk : k < c.length) : 1 ≤ c.getD k 0 ∧ c.getD k 0 ≤ 1000000 := by
  have e : c.getD k 0 = c[k] := by
    rw [List.getD_eq_getElem?_getD, List.getElem?_eq_getElem hk]
    rfl
  rw [e]
  exact h.rg _ (List.getElem_mem hk)
theorem Chn.listed {c : List Int} (h : Chn c) : isListed (dI c) = true := by
  have a := h.len0
  have b := h.len8
  show (decide ((1 : Int) ≤ ((c.map Dt.int).length : Int)) && decide (((c.map Dt.int).length : Int) ≤ 8)) = true
  rw [List.length_map, decide_eq_true (by omega), decide_eq_true (by omega)]
  rfl
/-- what is left of the amounts at k -/
def leftBy (c as : List Int) (k : Nat) : Int := if k = c.length then as.sum else (as.map fun a => a % c.getD k 0).sum
def spares (c h as : List Int) : List Int := rngD (c.length + 1) fun k => lesser c h k - leftBy c as k
def lacks (c h as : List Int) (k : Nat) : Bool := decide (lesser c h k < leftBy c as k)
def firstLack (c h as : List Int) : Option Nat := (List.range (c.length + 1)).find? (lacks c h as)
def lackD (c h as : List Int) : Option Nat → Dt
  | none => .non
  | some k => .tup [.int k, .int (leftBy c as k), .int (lesser c h k)]
section
variable {X : Cx} {δ : Sl} {pos p : Pos}
/-- ns[:b] -/
theorem xe_takeI {a b : Expr} {p2 : Pos} {ns : List Int} {k : Int} (h0 : 0 ≤ k) (h1 : k ≤ ns.length) (ha : Xe X a δ (dI ns)) (hb : Xe X b δ (.int k)) : Xe X (.Subscript a (.Slice none (some b) none p2) pos) δ (dI (ns.take k.toNat)) := by
  have e : dI (ns.take k.toNat) = .lst (cutD (ns.map Dt.int) none (some k)) := by
    rw [cut_take h0 (by rw [List.length_map]; exact h1), ← List.map_take]
  rw [e]
  exact xe_slice ha xo_none (xo_some hb)
end
theorem rngD_mem {n : Nat} {f : Nat → Int} {x : Int} (h : x ∈ rngD n f) : ∃ i, i < n ∧ x = f i := by
  unfold rngD at h
  obtain ⟨i, hi, rfl⟩ := List.mem_map.mp h
  exact ⟨i, List.mem_range.mp hi, rfl⟩
theorem rngD_map {n : Nat} {f : Nat → Int} {g : Int → Int} : (rngD n f).map g = rngD n fun i => g (f i) := by
  unfold rngD
  rw [List.map_map]
  rfl
/-- the search, from k on -/
theorem find_step {p : Nat → Bool} {n k : Nat} (hk : k < n) : (List.range' k (n - k)).find? p = if p k = true then some k else (List.range' (k + 1) (n - (k + 1))).find? p := by
  have e : n - k = (n - (k + 1)) + 1 := by omega
  rw [e, List.range'_succ, List.find?_cons]
  cases p k <;> rfl
structure Pay where
  count : Int
  rows : List (List Int)
  left : List Int
/-- one payment's pieces of the value v at k -/
def Pay.turn (v : Int) (k j : Nat) (s : Pay) : Pay :=
  let x := min s.count (s.left.getD j 0 / v)
  ⟨s.count - x, s.rows.set j ((s.rows.getD j []).set k x), s.left.set j (s.left.getD j 0 - x * v)⟩
def Pay.turns (v : Int) (k : Nat) (s : Pay) : Nat → Pay
  | 0 => s
  | j + 1 => (Pay.turns v k s j).turn v k j
/-- the values from the greatest on: i of them are done -/
def payAt (c h as : List Int) : Nat → List (List Int) × List Int
  | 0 => (List.replicate as.length (List.replicate c.length 0), as)
  | i + 1 =>
    let p := payAt c h as i
    let k := c.length - 1 - i
    let s := Pay.turns (c.getD k 0) k ⟨h.getD k 0, p.1, p.2⟩ as.length
    (s.rows, s.left)
def housePay (c h as : List Int) : List (List Int) := (payAt c h as c.length).1
theorem turns_len {v : Int} {k : Nat} {s : Pay} {j : Nat} : (Pay.turns v k s j).rows.length = s.rows.length ∧ (Pay.turns v k s j).left.length = s.left.length := by
  induction j with
  | zero => exact ⟨rfl, rfl⟩
  | succ j ih =>
    refine ⟨?_, ?_⟩
    · show ((Pay.turns v k s j).rows.set j _).length = _
      rw [List.length_set]
      exact ih.1
    · show ((Pay.turns v k s j).left.set j _).length = _
      rw [List.length_set]
      exact ih.2
theorem getD_set {α : Type} {xs : List α} {j i : Nat} {x d : α} : (xs.set j x).getD i d = if j = i ∧ i < xs.length then x else xs.getD i d := by
  rw [List.getD_eq_getElem?_getD, List.getD_eq_getElem?_getD, List.getElem?_set]
  by_cases h : j = i
  · subst h
    by_cases h2 : j < xs.length
    · rw [if_pos rfl, if_pos h2, if_pos ⟨rfl, h2⟩]
      rfl
    · rw [if_pos rfl, if_neg h2, if_neg (fun z => h2 z.2), List.getElem?_eq_none (by omega)]
  · rw [if_neg h, if_neg (fun z => h z.1)]
theorem turns_row {v : Int} {k m : Nat} {s : Pay} (hs : ∀ r ∈ s.rows, r.length = m) : ∀ j, ∀ r ∈ (Pay.turns v k s j).rows, r.length = m
  | 0 => hs
  | j + 1 => fun r hr => by
    have ih := turns_row (v := v) (k := k) hs j
    have hr : r ∈ (Pay.turns v k s j).rows.set j (((Pay.turns v k s j).rows.getD j []).set k _) := hr
    rcases List.mem_or_eq_of_mem_set hr with h | h
    · exact ih r h
    · by_cases hj : j < (Pay.turns v k s j).rows.length
      · rw [h, List.length_set, List.getD_eq_getElem?_getD, List.getElem?_eq_getElem hj]
        exact ih _ (List.getElem_mem hj)
      · rw [List.set_eq_of_length_le (by omega)] at hr
        exact ih r hr
theorem payAt_len {c h as : List Int} : ∀ i, (payAt c h as i).1.length = as.length ∧ (payAt c h as i).2.length = as.length ∧ ∀ r ∈ (payAt c h as i).1, r.length = c.length
  | 0 => ⟨List.length_replicate, rfl, fun r hr => by rw [(List.mem_replicate.mp hr).2, List.length_replicate]⟩
  | i + 1 => by
    obtain ⟨h1, h2, h3⟩ := payAt_len (c := c) (h := h) (as := as) i
    exact ⟨turns_len.1.trans h1, turns_len.2.trans h2, turns_row h3 _⟩
end Pa
namespace Pa
open PySem PySem.Spec PyProof.Rows L2
structure CompR (X : Cx) (scope : Scope) (t : Tg) (elt : Expr) (δ : Sl) (ds : List Dt) (rs : List (List Int)) : Prop where
  len : rs.length = ds.length
  row : ∀ (i : Nat) (d : Dt), ds[i]? = some d → ∃ δ' ns, t.put d δ = some δ' ∧ rs[i]? = some ns ∧ InB X scope fun Y => Xn Y elt δ' (.nums ns)
theorem tLcR_of {X : Cx} {scope : Scope} {t : Tg} {elt : Expr} {δ : Sl} {own : List Nat} {J : It} {σ : L2.St} {G H1 : Hp} {ds : List Dt} {rs : List (List Int)} {Q : VK} (hw : t.within own) (hz : ds.length ≤ 100000) (s : Same G H1) (e : EnvD G σ δ)
    (w : WalkD J G ds) (c : CompR X scope t elt (wipeD δ own) ds rs) (D : Addr) (hD : H1 D = none) (hQ : ∀ H' qs, Same H1 H' → (∀ a ∈ D :: qs, H1 a = none) → (D :: qs).Nodup → (Cell.rows rs).real H' (D :: qs) → Q (.ref D) H') :
    ∃ W : Nat → Nat → Hp → Prop, (∃ m, W 0 m (upd H1 D (.lst []))) ∧ ∀ i m H, W i m H →
      (J.stop i H ∧ Q (.ref D) H) ∨ (J.go i H ∧ ∃ Nx : Hp → Prop, (∀ H', Nx H' → ∃ m', m' < m ∧ W (i + 1) m' H') ∧ ∀ x H', J.yld i H x H' → gT X.K t x (L2.wipe σ own) H' fun σ2 H2 => L2.wipe σ2 own = L2.wipe σ own ∧
        tAllT X scope [] σ2 H2 fun b H3 =>
        if b = true then tAllE X scope elt σ2 H3 fun y H4 => ∃ acc, H4 D = some (.lst acc) ∧ acc.length < sizeLine ∧ Nx (upd H4 D (.lst (acc ++ [y]))) else Nx H3) := by
  have hGD : G D = none := same_none s hD
  refine lc_it (D := D) (σ := σ) (vs := own) (g := gT X.K t) (tt := tAllT X scope []) (te := tAllE X scope elt) (Qd := fun H => Q (.ref D) H) w (fun i H => ∃ (G1 : Hp) (qs : List Addr), Same G G1 ∧ Same G1 H ∧ Same H1 H ∧ (∀ a ∈ D :: qs, G1 a = none) ∧ (∀ a ∈ D :: qs, H1 a = none) ∧ (D :: qs).Nodup ∧ qs.length = i ∧ H D = some (.lst (qs.map V.ref)) ∧
    ∀ (j : Nat) (q : Addr) (ns : List Int), qs[j]? = some q → rs[j]? = some ns → H q = some (.lst (ns.map V.int))) ?_ ?_ ?_ ?_
  · refine ⟨G, [], .refl _, s.trans (same_new hD), same_new hD, ?_, ?_, by simp, rfl, upd_same, fun j q ns h => by simp at h⟩
    · intro a ha
      rw [List.mem_singleton.mp ha]
      exact hGD
    · intro a ha
      rw [List.mem_singleton.mp ha]
      exact hD
  · rintro i H _ ⟨G1, qs, s1, s2, _⟩
    exact s1.trans s2
  · rintro i x H H' hi ⟨G1, qs, s1, s2, s3, n1, n2, nd, hl, hDv, hr⟩ hy
    obtain ⟨G2, d, ed, gr, dx⟩ := hy G1 s1 s2
    have held : ∀ a ∈ D :: qs, H a ≠ none := fun a ha => by
      rcases List.mem_cons.mp ha with rfl | ha
      · rw [hDv]; exact fun z => by cases z
      · obtain ⟨j, hj, ej⟩ := List.mem_iff_getElem.mp ha
        have hj2 : j < rs.length := by rw [c.len]; omega
        rw [hr j a rs[j] (by rw [List.getElem?_eq_getElem hj, ej]) (List.getElem?_eq_getElem hj2)]
        exact fun z => by cases z
    have n2' : ∀ a ∈ D :: qs, G2 a = none := fun a ha => gr.new a (n1 a ha) (held a ha)
    have e2 : EnvD G2 (L2.wipe σ own) (wipeD δ own) := (e.mono (s1.trans gr.gg)).wipe own
    obtain ⟨δ', ns, hp, ers, hx⟩ := c.row i d ed
    have hDv' : H' D = some (.lst (qs.map V.ref)) := gr.hh D _ hDv
    refine gT_run gr.sub e2 dx hp fun σ' eσ hwp => ⟨(hwp hw).trans (wipe_wipe own σ), _, (fun s H C cl fp => xts_nil (δ := δ')), G2, gr.sub, eσ, fun H3 G3 g3 => ?_⟩
    refine iteT ?_
    refine ⟨_, hx, G3, g3.sub, eσ.mono g3.gg, fun p ps H4 s4 f1 f2 r => ?_⟩
    obtain ⟨p', ep, r⟩ := r
    cases ep
    have s34 : Same H H4 := (gr.hh.trans g3.hh).trans s4
    have fp : H3 p = none := f1 p List.mem_cons_self
    have fpH : H p = none := same_none (gr.hh.trans g3.hh) fp
    have pD : D ≠ p := fun z => by rw [z] at hDv; rw [hDv] at fpH; cases fpH
    have hp1 : H1 p = none := same_none s3 fpH
    have hG3p : G3 p = none := same_none g3.sub fp
    have n3 : ∀ a ∈ D :: qs, G3 a = none := fun a ha => g3.new a (n2' a ha) (fun z => by
      have h1 := held a ha
      cases q : H a with
      | none => exact h1 q
      | some o => rw [gr.hh a o q] at z; cases z)
    have hD4 : H4 D = some (.lst (qs.map V.ref)) := s34 D _ hDv
    refine ⟨_, hD4, ?_, G3, qs ++ [p], (s1.trans gr.gg).trans g3.gg, ?_, ?_, ?_, ?_, ?_, ?_, ?_, ?_⟩
    · rw [List.length_map, hl]
      exact Nat.lt_of_lt_of_le hi (Nat.le_trans hz (by rw [sizeLine_eq]; omega))
    · intro a o ha
      rw [upd_ne (fun z => by rw [z, n3 D List.mem_cons_self] at ha; cases ha)]
      exact s4 a o (g3.sub a o ha)
    · intro a o ha
      rw [upd_ne (fun z => by rw [z, hD] at ha; cases ha)]
      exact s34 a o (s3 a o ha)
    · intro a ha
      rw [← List.cons_append] at ha
      rcases List.mem_append.mp ha with ha | ha
      · exact n3 a ha
      · rw [List.mem_singleton.mp ha]
        exact hG3p
    · intro a ha
      rw [← List.cons_append] at ha
      rcases List.mem_append.mp ha with ha | ha
      · exact n2 a ha
      · rw [List.mem_singleton.mp ha]
        exact hp1
    · rw [← List.cons_append]
      refine List.nodup_append.mpr ⟨nd, by simp, fun a ha b hb z => ?_⟩
      rw [List.mem_singleton.mp hb] at z
      rw [z] at ha
      exact held p ha fpH
    · rw [List.length_append, hl]
      rfl
    · rw [upd_same, List.map_append]
      rfl
    · intro j q ms h1 h2
      by_cases hj : j < qs.length
      · rw [List.getElem?_append_left hj] at h1
        have hq : D ≠ q := fun z => (List.nodup_cons.mp nd).1 (by rw [z]; exact List.mem_of_getElem? h1)
        rw [upd_ne (Ne.symm hq)]
        exact s34 q _ (hr j q ms h1 h2)
      · have hjl : j = qs.length := by
          have := (List.getElem?_eq_some_iff.mp h1).1
          rw [List.length_append] at this
          have : j < qs.length + 1 := this
          omega
        subst hjl
        rw [List.getElem?_append_right (Nat.le_refl _), Nat.sub_self] at h1
        cases h1
        rw [hl, ers] at h2
        cases h2
        rw [upd_ne (Ne.symm pD)]
        exact r
  · rintro H ⟨G1, qs, s1, s2, s3, n1, n2, nd, hl, hDv, hr⟩
    exact hQ H qs s3 n2 nd ⟨D, qs, rfl, hDv, by rw [hl, c.len], hr⟩
theorem lc_subR {X : Cx} {elt : Expr} {scope : Scope} {own : List Nat} {t : Tg} {ds : List Dt} {rs : List (List Int)} {δ : Sl} (hw : t.within own) (hz : ds.length ≤ 100000) (c : CompR X scope t elt (wipeD δ own) ds rs) :
    ∀ σ H Q, tXn δ (.rows rs) σ H Q → tLc (tXi δ ds) (gT X.K t) (tAllT X scope []) (tAllE X scope elt) own σ H Q := fun σ H Q h => by
  obtain ⟨G, s, e, k⟩ := h
  refine ⟨G, s, e, fun J H1 G1 g1 w D hD => ?_⟩
  refine tLcR_of hw hz g1.sub (e.mono g1.gg) w c D hD fun H' qs s' n1 nd r => ?_
  exact k D qs H' (g1.hh.trans s') (fun a ha => same_none g1.hh (n1 a ha)) nd r
section
variable {X : Cx} {E : XK} {δ : Ss} {ω : Om} {elt tg iter : Expr} {scope : Scope} {i : Nat} {y : Str} {py spos pos p : Pos}
theorem xs_lcR (own : List (Str × Nat)) (t : Tg) {ds : List Dt} {rs : List (List Int)} (hN : X.N.Nodup) (hi : Xi X tg iter (view ω δ) ds) (c : CompR X scope t elt (wipeD (view ω δ) (own.map (·.2))) ds rs) (hz : ds.length ≤ 100000) (hg : ∀ (s : Shared) (H : Hp) (C : Addr) (cl : List (Str × Addr)) (fp : List Addr), Xg (X.blk s H scope (compEnvC scope cl C X.env) fp) tg t)
    (hw : t.within (own.map (·.2)) := by decide) (ok : blkC X.N X.env.scope scope own = true := by rfl) (hc : X.calm = true := by rfl) (hs : ∀ x, foldedSetIterable iter X.env x = pure x := by intro _; rfl) (hy : X.N[i]? = some y := by rfl) (hyl : X.env.scope.names.lookup y = some .local := by rfl)
    (hk : X.env.scope.kind = .function := by rfl) (hl : (py.line == pos.line) = true := by rfl) (ha : (scope.names.any fun (n, k) => n == y && (k == .local || k == .cell)) = false := by rfl) :
    Xs X E (.Assign [.Name y py] (.ListComp elt [⟨tg, iter, [], 0⟩] scope pos) spos) δ ω (.nx (δ.set i (some (.at_ ω.length))) (ω ++ [.rows rs])) := PS.sub (ps_lc own t hN hi hg ok hc hs hy hyl hk hl ha) (tAsg_new (lc_subR hw hz c))
/-- [x] * n, new -/
theorem xn_rep {a b : Expr} {x n : Int} {δ : Sl} (ha : Xe X a δ (dI [x])) (hb : Xe X b δ (.int n)) (h0 : 0 ≤ n) (hz : n ≤ 1000) : Xn X (.BinOp a .Mult b pos) δ (.nums (List.replicate n.toNat x)) := PE.sub (pe_op op_rep ha hb) fun σ H Q h => by
  obtain ⟨G, s, e, k⟩ := h
  refine ⟨G, s, e, fun v H1 G1 g1 d1 => ⟨G1, g1.sub, e.mono g1.gg, fun w H2 G2 g2 d2 => ?_⟩⟩
  obtain ⟨l, rfl, r⟩ := dI_inv d1
  rw [d2.int_inv]
  refine ⟨l, n, [.int x], rfl, rfl, g2.hh _ _ (g1.sub _ _ r), by omega, by omega, ?_, fun q hq => ?_⟩
  · have h1 : n.toNat ≤ 1000 := by omega
    rw [List.length_singleton, Nat.one_mul]
    exact Nat.le_of_lt (small1000 h1)
  · rw [flat_rep1]
    have hh := g1.hh.trans g2.hh
    refine k q [] _ (hh.trans (same_new hq)) ?_ (by simp) ⟨q, rfl, by rw [upd_same, List.map_replicate]⟩
    intro a ha
    rw [List.mem_singleton.mp ha]
    exact same_none hh hq
end
end Pa
namespace Pa
open PySem PySem.Spec PyProof.Rows L2
theorem LoopS.runN {X : Cx} {E : XK} {t : Tg} {body : List Stmt} {ds : List Dt} {δ : Ss} {ω : Om} (n : Nat) (δs : Nat → Ss) (ωs : Nat → Om) (hn : ds.length = n) (h1 : δ = δs 0) (h2 : ω = ωs 0) (k : ∀ j d, ds[j]? = some d → j < n → ∃ δ1 δ2, t.putS d (δs j) = some δ1 ∧ Xb X E body δ1 (ωs j) (.nx δ2 (ωs (j + 1))) ∧ LessS δ2 (δs (j + 1))) : LoopS X E t body ds δ ω (.nx (δs n) (ωs n)) := by
  subst hn
  exact LoopS.run δs ωs h1 h2 fun j d h => k j d h (List.getElem?_eq_some_iff.mp h).1
/-- over ints: n of them, f j the j-th -/
theorem LoopS.runI {X : Cx} {E : XK} {t : Tg} {body : List Stmt} {m : Nat} {f : Nat → Int} {δ : Ss} {ω : Om} (n : Nat) (δs : Nat → Ss) (ωs : Nat → Om) (hn : m = n) (h1 : δ = δs 0) (h2 : ω = ωs 0) (k : ∀ j, j < n → ∃ δ1 δ2, t.putS (.int (f j)) (δs j) = some δ1 ∧ Xb X E body δ1 (ωs j) (.nx δ2 (ωs (j + 1))) ∧ LessS δ2 (δs (j + 1))) : LoopS X E t body ((rngD m f).map Dt.int) δ ω (.nx (δs n) (ωs n)) := by
  refine LoopS.runN n δs ωs (by rw [List.length_map, rngD_len, hn]) h1 h2 fun j d h hj => ?_
  rw [List.getElem?_map, rngD_get (by omega)] at h
  cases h
  exact k j hj
theorem i_intE {X : Cx} {ns : List Int} {k v : Int} (h0 : 0 ≤ k) (h1 : k < ns.length) (e : ns.getD k.toNat 0 = v) : Xix X (dI ns) (.int k) (.int v) := by
  rw [← e]
  exact i_int h0 h1
theorem getD_some {α : Type} {xs : List α} {j : Nat} {d : α} (h : j < xs.length) : xs[j]? = some (xs.getD j d) := by
  rw [List.getD_eq_getElem?_getD, List.getElem?_eq_getElem h]
  rfl
theorem getD_mem {α : Type} {xs : List α} {j : Nat} {d : α} (h : j < xs.length) : xs.getD j d ∈ xs := by
  rw [List.getD_eq_getElem?_getD, List.getElem?_eq_getElem h]
  exact List.getElem_mem h
end Pa
namespace Pa
open PySem PySem.Spec PyProof.Rows L2
def toldD (c h as : List Int) : Dt := match firstLack c h as with
  | some k => .tup [.str "value", .int k, .int (leftBy c as k), .int (lesser c h k)]
  | none => .tup [.str "payments", .lst ((housePay c h as).map dI)]
def evens (c h : List Int) (n : Int) : List Int := List.replicate n.toNat (worth c h / n)
def sharedD (c h : List Int) (n : Int) : Dt := if 0 < worth c h % n then .tup [.str "worth", .int (worth c h % n)] else match firstLack c h (evens c h n) with
  | some k => .tup [.str "value", .int k, .int (leftBy c (evens c h n) k), .int (lesser c h k)]
  | none => .tup [.str "shares", .lst ((housePay c h (evens c h n)).map dI)]
/-- there are equal shares -/
def sharesB (c h : List Int) (n : Int) : Bool := decide (worth c h % n ≤ 0) && (firstLack c h (evens c h n)).isNone
theorem sharedD_tag (c h : List Int) (n : Int) : ∃ tag rest, sharedD c h n = .tup (.str tag :: rest) ∧ decide (tag = "shares") = sharesB c h n := by
  unfold sharedD sharesB
  by_cases h0 : 0 < worth c h % n
  · rw [if_pos h0, decide_eq_false (by omega)]
    exact ⟨_, _, rfl, by rw [Bool.false_and]; decide⟩
  · rw [if_neg h0, decide_eq_true (by omega)]
    cases firstLack c h (evens c h n) with
    | none => exact ⟨_, _, rfl, by decide⟩
    | some k => exact ⟨_, _, rfl, by rw [Option.isNone_some]; decide⟩
theorem firstLack_some {c h as : List Int} {k : Nat} (e : firstLack c h as = some k) : k ≤ c.length ∧ lacks c h as k = true := by
  unfold firstLack at e
  exact ⟨Nat.lt_succ_iff.mp (List.mem_range.mp (List.mem_of_find?_eq_some e)), List.find?_some e⟩
section
variable {X : Cx}
theorem o_repI {x n : Int} (h0 : 0 ≤ n) (hz : n ≤ 1000) : Xop X (binaryOp .Mult) (dI [x]) (.int n) (dI (List.replicate n.toNat x)) := by
  have e : dI (List.replicate n.toNat x) = .lst (List.replicate n.toNat (.int x)) := by
    show Dt.lst (List.map Dt.int _) = _
    rw [List.map_replicate]
  rw [e]
  exact o_rep h0 hz
theorem opE {f : Value → Value → Sem Value} {x y : Dt} {b c : Bool} (h : Xop X f x y (.bl b)) (e : b = c) : Xop X f x y (.bl c) := e ▸ h
theorem xeE {a : Expr} {δ : Sl} {x y : Dt} (h : Xe X a δ x) (e : x = y) : Xe X a δ y := e ▸ h
theorem i_tup0 {d : Dt} {ds : List Dt} : Xix X (.tup (d :: ds)) (.int 0) d := i_tup (atI_nat (j := 0) rfl)
theorem i_tup1 {d e : Dt} {ds : List Dt} : Xix X (.tup (d :: e :: ds)) (.int 1) e := i_tup (atI_nat (j := 1) rfl)
end
/-- rows that are heaps of that heap -/
structure Parts (c h : List Int) (rs : List (List Int)) : Prop where
  len : ∀ r ∈ rs, r.length = c.length
  rg : ∀ r ∈ rs, ∀ p ∈ r.zip h, 0 ≤ p.1 ∧ p.1 ≤ p.2
  col : ∀ k, k < h.length → (rs.map fun r => r.getD k 0).sum = h.getD k 0
section
variable {X : Cx} {δ : Sl} {pos p : Pos}
theorem neI_same {i j : Int} (e : i = j) : (!decide (i = j)) = false := by rw [e, decide_eq_true rfl]; rfl
theorem neI_other {i j : Int} (e : i ≠ j) : (!decide (i = j)) = true := by rw [decide_eq_false e]; rfl
end
end Pa
namespace Pa
open PySem PySem.Spec PyProof.Rows L2
def setsV : L2.St → List Nat → List V → L2.St
  | σ, i :: is, v :: vs => setsV (σ.set i (some v)) is vs
  | σ, _, _ => σ
inductive Caps (X : Cx) : List Pattern → List Str → List Nat → Prop
  | nil : Caps X [] [] []
  | cons {y : Str} {p : Pos} {i : Nat} {ps : List Pattern} {ys : List Str} {is : List Nat} (hi : X.N[i]? = some y) (hx : Loc X.env.scope y) (hf : X.fn y = true ∨ X.env.scope.names.lookup y = some .local) (r : Caps X ps ys is) : Caps X (.MatchAs none (some y) p :: ps) (y :: ys) (i :: is)
theorem caps_cons {X : Cx} {y : Str} {p : Pos} (i : Nat) {ps : List Pattern} {ys : List Str} {is : List Nat} (r : Caps X ps ys is) (hi : X.N[i]? = some y := by rfl) (hx : Loc X.env.scope y := by first | exact Or.inl rfl | exact Or.inr rfl) (hf : X.fn y = true ∨ X.env.scope.names.lookup y = some .local := by first | exact .inl rfl | exact .inr rfl) :
    Caps X (.MatchAs none (some y) p :: ps) (y :: ys) (i :: is) := .cons hi hx hf r
theorem Caps.each {X : Cx} {ps : List Pattern} {ys : List Str} {is : List Nat} (c : Caps X ps ys is) : ∀ {us : List Value} {s : Shared} {Q : Option (List (Str × Value)) → Shared → Prop}, us.length = ps.length → Q (some (ys.zip us)) s → wpAny (model X.prog X.w) X.A (matchEach ps X.env us) Q X.xe s := by
  induction c with
  | nil =>
    intro us s Q hl q
    exact wpAny_matchEach_nil (by cases us with | nil => exact q | cons u us => cases hl)
  | cons hi hx hf r ih =>
    intro us s Q hl q
    cases us with
    | nil => cases hl
    | cons u us =>
      refine wpAny_matchEach_cons (wpAny_matchPattern_Capture ?_)
      exact ih (Nat.succ.inj hl) q
theorem Caps.bind {X : Cx} {pins : List (Addr × Obj)} {ps : List Pattern} {ys : List Str} {is : List Nat} (c : Caps X ps ys is) (hN : X.N.Nodup) : ∀ {us : List Value} {vs : List V} {σ : L2.St} {H : Hp} {s : Shared} {Q : Unit → Shared → Prop}, Inv X pins σ H s → Vals vs us → us.length = ps.length → (∀ s', Inv X pins (setsV σ is vs) H s' → Q () s') →
    wpAny (model X.prog X.w) X.A (assignInOrder ((ys.zip us).map fun (n, _) => bindName X.env n) ((ys.zip us).map (·.2))) Q X.xe s := by
  induction c with
  | nil =>
    intro us vs σ H s Q I r hl q
    cases us with
    | nil =>
      cases r
      exact wpAny_assignInOrder_none (q _ I)
    | cons u us => cases hl
  | cons hi hx hf r ih =>
    intro us vs σ H s Q I rv hl q
    cases us with
    | nil => cases hl
    | cons u us =>
      cases rv with
      | cons r1 rr =>
        refine wpAny_assignInOrder_more (bindName_ (store_ok I hN hi hx r1 (fun s' I' => ?_) hf))
        exact ih I' rr (Nat.succ.inj hl) q
/-- a list of cases -/
structure PC (X : Cx) (cs : List MatchCase) (t : V → TS) : Prop where
  run : ∀ (first : Bool) (pins : List (Addr × Obj)) (s : Shared) (σ : L2.St) (H : Hp) (v : V) (u : Value) (D : Ends), Inv X pins σ H s → RelV v u → t v D σ H → wpAny (model X.prog X.w) X.A (matchCases cs X.env u first) (SP X pins D) X.xe s
theorem PC.sub {X : Cx} {cs : List MatchCase} {t t' : V → TS} (h : PC X cs t) (k : ∀ v D σ H, t' v D σ H → t v D σ H) : PC X cs t' := ⟨fun first pins s σ H v u D I r w => h.run first pins s σ H v u D I r (k _ _ _ _ w)⟩
section
variable {X : Cx} {pos p p1 p2 : Pos}
theorem ps_match {e : Expr} {cs : List MatchCase} {te : TE} {t : V → TS} (he : PE X e te) (hc : PC X cs t) : PS X (.Match e cs pos) (fun D σ H => te σ H fun v H1 => t v D σ H1) := ⟨fun pins s σ H D I h =>
  wpAny_Match (thn (he.run pins s σ H _ I h) fun u s1 ⟨v, H1, I1, r1, q1⟩ => hc.run true pins s1 σ H1 v u D I1 r1 q1)⟩
theorem pc_any {body : List Stmt} {t : TS} (hb : PSs X body t) : PC X [⟨.MatchAs none none p, none, body⟩] (fun _ => t) := ⟨fun first pins s σ H v u D I r h =>
  wpAny_matchCases_cons (wpAny_matchPattern_Capture (wpAny_assignInOrder_none (hb.run pins s σ H D I h)))⟩
theorem pc_never {cs : List MatchCase} : PC X cs (fun _ _ _ _ => False) := ⟨fun _ _ _ _ _ _ _ _ _ _ h => h.elim⟩
/-- case [text, name, ..], the subject a tuple that begins with a text -/
def tSeq (K : PySem.W.Frag) (x : Str) (is : List Nat) (t : TS) (u : V → TS) : V → TS := fun v D σ H => ∃ (a : Addr) (y : Str) (ws : List V), v = .ref a ∧ SqT K H a (.str y :: ws) ∧ (if ws.length = is.length ∧ y = x then t D (setsV σ is ws) H else u v D σ H)
theorem Caps.len {ps : List Pattern} {ys : List Str} {is : List Nat} (c : Caps X ps ys is) : ps.length = is.length := by
  induction c with
  | nil => rfl
  | cons _ _ _ _ ih => exact congrArg Nat.succ ih
theorem Caps.nostar {ps : List Pattern} {ys : List Str} {is : List Nat} (c : Caps X ps ys is) : ∀ x ∈ ps, Pattern.isStar x = false := by
  induction c with
  | nil => intro x hx; cases hx
  | cons _ _ _ _ ih =>
    intro x hx
    rcases List.mem_cons.mp hx with rfl | hx
    · rfl
    · exact ih x hx
theorem pc_seq {x : Str} {j : Nat} {ps : List Pattern} {ys : List Str} {is : List Nat} {body : List Stmt} {rest : List MatchCase} {t : TS} {u : V → TS} (hN : X.N.Nodup) (c : Caps X ps ys is) (hb : PSs X body t) (hr : PC X rest u) (hc : X.calm = true := by rfl) :
    PC X (⟨.MatchSequence (.MatchValue (.Constant (.str x) j p1) p2 :: ps) p, none, body⟩ :: rest) (tSeq X.K x is t u) := ⟨fun first pins s σ H v uu D I r h => by
  obtain ⟨a, y, ws, rfl, hq, h⟩ := h
  cases r
  obtain ⟨its, rv, ht, hz⟩ := I.tuple hq
  have hl : its.length = ws.length + 1 := by rw [← rv.length]; rfl
  have hlp : (Pattern.MatchValue (.Constant (.str x) j p1) p2 :: ps).length = is.length + 1 := congrArg Nat.succ c.len
  have hstar : (Pattern.MatchValue (.Constant (.str x) j p1) p2 :: ps).findIdx? (·.isStar) = none := List.findIdx?_eq_none_iff.mpr fun q hq => by
    rcases List.mem_cons.mp hq with rfl | hq
    · rfl
    · exact c.nostar q hq
  have hfit : (its.toArray.size : Int) < 2 ^ 63 := by
    rw [List.size_toArray, ← rv.length]
    have := sizeLine_eq
    omega
  have I2 : ∀ tk, Inv X pins σ H { s with toks := tk } := fun tk => I.kept fun _ _ e => e
  refine wpAny_matchCases_cons ?_
  by_cases hn : ws.length = is.length
  · refine matchSeq_tuple_hit ht hfit (by rw [List.size_toArray, hl, hlp, hn]) ?_ hstar (by rfl)
    have hsz : (Pattern.MatchValue (.Constant (.str x) j p1) p2 :: ps).length = its.toArray.size := by rw [List.size_toArray, hl, hlp, hn]
    rw [hsz]
    refine unpackItems_tuple (I.ok.hd hc) (s := { s with toks := s.toks + 1 + 1 }) ht fun h' hx => ?_
    have I3 : ∀ tk, Inv X pins σ H { s with heap := h', toks := tk } := fun tk => I.kept fun b o e => hx b o (Nat.ne_of_lt (Heap.lt_size e)) e
    cases rv with
    | cons r1 rr =>
      rename_i u1 us
      obtain ⟨tk, rfl⟩ := r1
      have hlu : us.length = ps.length := by
        have : us.length = ws.length := rr.length.symm
        rw [this, hn, c.len]
      refine wpAny_matchEach_cons (wpAny_matchPattern_Value (Calls.Constant_str ?_))
      by_cases hy : y = x
      · rw [if_pos ⟨hn, hy⟩] at h
        subst hy
        refine eq_str ?_
        rw [beq_self_eq_true]
        refine wpAny_truthy_bool ?_
        rw [if_pos rfl]
        refine c.each hlu ?_
        refine c.bind (pins := pins) hN (I3 _) rr hlu fun s' I' => ?_
        exact hb.run pins s' _ H D I' h
      · rw [if_neg fun z => hy z.2] at h
        refine eq_str ?_
        rw [beq_eq_false_iff_ne.mpr hy]
        refine wpAny_truthy_bool ?_
        rw [if_neg Bool.false_ne_true]
        exact hr.run false pins _ σ H (.ref a) _ D (I3 _) rfl h
  · refine matchSeq_tuple_miss ht hfit (by rw [List.size_toArray, hl, hlp]; omega) ?_ hstar (by rfl)
    rw [if_neg fun z => hn z.1] at h
    exact hr.run false pins _ σ H (.ref a) _ D (I2 _) rfl h⟩
end
end Pa
namespace Pa
open PySem PySem.Spec PyProof.Rows L2
def putsS : Ss → List Nat → List Dt → Ss
  | δ, i :: is, d :: ds => putsS (δ.set i (some (.sh d))) is ds
  | δ, _, _ => δ
theorem EnvR.puts {R H G : Hp} {ω : Om} {regs : List (List Addr)} : ∀ {is : List Nat} {vs : List V} {ds : List Dt} {σ : L2.St} {δ : Ss}, EnvR R H G σ δ ω regs → DenL G vs ds → EnvR R H G (setsV σ is vs) (putsS δ is ds) ω regs
  | [], vs, ds, σ, δ, e, dl => e
  | i :: is, [], [], σ, δ, e, dl => e
  | i :: is, v :: vs, [], σ, δ, e, dl => by cases dl.1
  | i :: is, [], d :: ds, σ, δ, e, dl => by cases dl.1
  | i :: is, v :: vs, d :: ds, σ, δ, e, dl => by
    obtain ⟨w, us, e1, h1, h2⟩ := dl.cons_inv
    cases e1
    exact EnvR.puts (is := is) (EnvR.set (i := i) (x := .sh d) e (fun d' h => by cases h; exact h1) trivial) h2
def tXm (E : XK) (δ : Ss) (ω : Om) (d : Dt) (O : Out) : V → TS := fun v D σ H => ∃ R G regs, EnvR R H G σ δ ω regs ∧ Den G v d ∧ Kn E R G regs D O
section
variable {X : Cx} {E : XK} {δ : Ss} {ω : Om} {O : Out} {pos p p1 p2 : Pos} {x y : Str} {j : Nat} {ps : List Pattern} {ys : List Str} {is : List Nat} {body : List Stmt} {rest : List MatchCase} {es : List Dt}
theorem xs_match {e : Expr} {cs : List MatchCase} {d : Dt} (he : Xe X e (still δ) d) (hc : PC X cs (tXm E δ ω d O)) : Xs X E (.Match e cs pos) δ ω O := PS.sub (ps_match he hc) fun D σ H h => by
  obtain ⟨R, G, regs, e, k⟩ := h
  exact tX_still e fun v H' G' g dv => ⟨R, G', regs, e.grow g, dv, k.mono g.gg (.refl _)⟩
theorem xm_hit (hN : X.N.Nodup) (c : Caps X ps ys is) (hb : Xb X E body (putsS δ is es) ω O) (hl : es.length = is.length := by rfl) (hc : X.calm = true := by rfl) : PC X (⟨.MatchSequence (.MatchValue (.Constant (.str x) j p1) p2 :: ps) p, none, body⟩ :: rest) (tXm E δ ω (.tup (.str x :: es)) O) :=
  PC.sub (pc_seq hN c hb pc_never hc) fun v D σ H h => by
    obtain ⟨R, G, regs, e, dv, k⟩ := h
    obtain ⟨a, vs, rfl, r, dl⟩ := dv.tup_inv
    obtain ⟨w, ws, rfl, d1, d2⟩ := dl.cons_inv
    rw [d1.str_inv] at r
    refine ⟨a, x, ws, rfl, .inl (.inl (e.gh _ _ r)), ?_⟩
    rw [if_pos ⟨by rw [d2.1, hl], rfl⟩]
    exact ⟨R, G, regs, e.puts d2, k⟩
theorem xm_miss (hN : X.N.Nodup) (c : Caps X ps ys is) (hne : ¬ (es.length = is.length ∧ y = x)) (hr : PC X rest (tXm E δ ω (.tup (.str y :: es)) O)) (hc : X.calm = true := by rfl) : PC X (⟨.MatchSequence (.MatchValue (.Constant (.str x) j p1) p2 :: ps) p, none, body⟩ :: rest) (tXm E δ ω (.tup (.str y :: es)) O) :=
  PC.sub (pc_seq hN c (pss_never (X := X)) hr hc) fun v D σ H h => by
    obtain ⟨R, G, regs, e, dv, k⟩ := h
    have dv0 := dv
    obtain ⟨a, vs, rfl, r, dl⟩ := dv.tup_inv
    obtain ⟨w, ws, rfl, d1, d2⟩ := dl.cons_inv
    rw [d1.str_inv] at r
    refine ⟨a, y, ws, rfl, .inl (.inl (e.gh _ _ r)), ?_⟩
    rw [if_neg fun z => hne ⟨by rw [← d2.1, z.1], z.2⟩]
    exact ⟨R, G, regs, e, dv0, k⟩
end
mutual
def Dt.toP : Dt → PyData
  | .non => .none
  | .bl b => .bool b
  | .int i => .int i
  | .str x => .str x
  | .lst xs => .list (Dt.toPs xs)
  | .tup xs => .tuple (Dt.toPs xs)
  | .dic _ => .none
  | .scr _ ns => .list (ns.map PyData.int)
def Dt.toPs : List Dt → List PyData
  | [] => []
  | d :: ds => d.toP :: Dt.toPs ds
end
mutual
/-- no dict stands in it -/
def Dt.nod : Dt → Bool
  | .lst xs => Dt.nods xs
  | .tup xs => Dt.nods xs
  | .dic _ => false
  | .scr _ _ => false
  | _ => true
def Dt.nods : List Dt → Bool
  | [] => true
  | d :: ds => d.nod && Dt.nods ds
end
theorem Den.inv {G : Hp} {v : V} {d : Dt} (h : Den G v d) : (d = .non ∧ v = .non) ∨ (∃ b, d = .bl b ∧ v = .bl b) ∨ (∃ i, d = .int i ∧ v = .int i) ∨ (∃ x, d = .str x ∧ v = .str x) ∨ (∃ a vs ds, d = .lst ds ∧ v = .ref a ∧ G a = some (.lst vs) ∧ DenL G vs ds) ∨ (∃ a vs ds, d = .tup ds ∧ v = .ref a ∧ G a = some (.tup vs) ∧ DenL G vs ds) ∨ (∃ a K ns, d = .scr K ns ∧ v = .ref a ∧ SqL K G a (ns.map V.int)) ∨ ∃ kds, d = .dic kds := by
  cases h with
  | non => exact .inl ⟨rfl, rfl⟩
  | bl b => exact .inr (.inl ⟨b, rfl, rfl⟩)
  | int i => exact .inr (.inr (.inl ⟨i, rfl, rfl⟩))
  | str x => exact .inr (.inr (.inr (.inl ⟨x, rfl, rfl⟩)))
  | lst h hl hd => exact .inr (.inr (.inr (.inr (.inl ⟨_, _, _, rfl, rfl, h, hl, hd⟩))))
  | tup h hl hd => exact .inr (.inr (.inr (.inr (.inr (.inl ⟨_, _, _, rfl, rfl, h, hl, hd⟩)))))
  | scr h => exact .inr (.inr (.inr (.inr (.inr (.inr (.inl ⟨_, _, _, rfl, rfl, h⟩))))))
  | dic h hk hd => exact .inr (.inr (.inr (.inr (.inr (.inr (.inr ⟨_, rfl⟩))))))
mutual
theorem Den.dp {K : PySem.W.Frag} {G H : Hp} (s : Same G H) : ∀ (d : Dt) (v : V), d.nod = true → Den G v d → Dp K H v d.toP
  | .non, v, _, h => by rw [h.non_inv]; exact .non
  | .bl b, v, _, h => by rw [h.bl_inv]; exact .bl b
  | .int i, v, _, h => by rw [h.int_inv]; exact .int i
  | .str x, v, _, h => by rw [h.str_inv]; exact .str x
  | .lst ds, v, n, h => by
    obtain ⟨a, vs, rfl, r, dl⟩ := h.lst_inv
    exact .lst (.inl (.inl (s _ _ r))) (DenL.dp s ds vs n dl)
  | .tup ds, v, n, h => by
    obtain ⟨a, vs, rfl, r, dl⟩ := h.tup_inv
    exact .tup (.inl (.inl (s _ _ r))) (DenL.dp s ds vs n dl)
  | .dic _, v, n, h => by cases n
  | .scr _ _, v, n, h => by cases n
theorem DenL.dp {K : PySem.W.Frag} {G H : Hp} (s : Same G H) : ∀ (ds : List Dt) (vs : List V), Dt.nods ds = true → DenL G vs ds → DpAll K H vs (Dt.toPs ds)
  | [], vs, _, h => by rw [h.nil_inv]; exact .nil
  | d :: ds, vs, n, h => by
    obtain ⟨v, ws, rfl, h1, h2⟩ := h.cons_inv
    have n : (d.nod && Dt.nods ds) = true := n
    rw [Bool.and_eq_true] at n
    exact .cons (Den.dp s d v n.1 h1) (DenL.dp s ds ws n.2 h2)
end
theorem nods_ints : ∀ ns : List Int, Dt.nods (ns.map Dt.int) = true
  | [] => rfl
  | n :: ns => by
    show ((Dt.int n).nod && Dt.nods (ns.map Dt.int)) = true
    rw [nods_ints ns]
    rfl
theorem nods_rows : ∀ rs : List (List Int), Dt.nods (rs.map dI) = true
  | [] => rfl
  | r :: rs => by
    show (Dt.nods (r.map Dt.int) && Dt.nods (rs.map dI)) = true
    rw [nods_rows rs, nods_ints r]
    rfl
theorem lay_ints : ∀ ns : List Int, PyData.canLayAll0 (Dt.toPs (ns.map Dt.int)) = true
  | [] => rfl
  | n :: ns => by
    show (true && PyData.canLayAll0 (Dt.toPs (ns.map Dt.int))) = true
    rw [lay_ints ns]
    rfl
theorem lay_rows : ∀ rs : List (List Int), PyData.canLayAll0 (Dt.toPs (rs.map dI)) = true
  | [] => rfl
  | r :: rs => by
    show (PyData.canLayAll0 (Dt.toPs (r.map Dt.int)) && PyData.canLayAll0 (Dt.toPs (rs.map dI))) = true
    rw [lay_rows rs, lay_ints r]
    rfl
theorem depth_ints : ∀ ns : List Int, PyData.depthAll (Dt.toPs (ns.map Dt.int)) = 0
  | [] => rfl
  | n :: ns => by
    show max 0 (PyData.depthAll (Dt.toPs (ns.map Dt.int))) = 0
    rw [depth_ints ns]
    rfl
theorem depth_rows : ∀ rs : List (List Int), PyData.depthAll (Dt.toPs (rs.map dI)) ≤ 1
  | [] => Nat.zero_le _
  | r :: rs => by
    show max (PyData.depthAll (Dt.toPs (r.map Dt.int)) + 1) (PyData.depthAll (Dt.toPs (rs.map dI))) ≤ 1
    have := depth_rows rs
    rw [depth_ints r]
    omega
theorem shaped_ints (ns : List Int) : SeqAt.shaped (dI ns).toP = true := by
  show (PyData.canLayAll0 (Dt.toPs (ns.map Dt.int)) && decide (PyData.depthAll (Dt.toPs (ns.map Dt.int)) + 1 ≤ 64)) = true
  rw [lay_ints, depth_ints]
  rfl
theorem shaped_rows (rs : List (List Int)) : SeqAt.shaped (Dt.lst (rs.map dI)).toP = true := by
  show (PyData.canLayAll0 (Dt.toPs (rs.map dI)) && decide (PyData.depthAll (Dt.toPs (rs.map dI)) + 1 ≤ 64)) = true
  have := depth_rows rs
  rw [lay_rows, decide_eq_true (by omega)]
  rfl
/-- (text, rows) | (text, ints) -/
theorem nod_tagRows (x : Str) (rs : List (List Int)) : (Dt.tup [.str x, .lst (rs.map dI)]).nod = true := by
  show (true && (Dt.nods (rs.map dI) && true)) = true
  rw [nods_rows]
  rfl
theorem shaped_tagRows (x : Str) (hx : PyData.strOk x = true) (rs : List (List Int)) : SeqAt.shaped (Dt.tup [.str x, .lst (rs.map dI)]).toP = true := by
  show ((PyData.strOk x && (PyData.canLayAll0 (Dt.toPs (rs.map dI)) && true)) && decide (max 0 (max (PyData.depthAll (Dt.toPs (rs.map dI)) + 1) 0) + 1 ≤ 64)) = true
  have := depth_rows rs
  rw [hx, lay_rows, decide_eq_true (by omega)]
  rfl
theorem nod_tagInts (x : Str) (ns : List Int) : (Dt.tup (.str x :: ns.map Dt.int)).nod = true := by
  show (true && Dt.nods (ns.map Dt.int)) = true
  rw [nods_ints]
  rfl
theorem shaped_tagInts (x : Str) (hx : PyData.strOk x = true) (ns : List Int) : SeqAt.shaped (Dt.tup (.str x :: ns.map Dt.int)).toP = true := by
  show ((PyData.strOk x && PyData.canLayAll0 (Dt.toPs (ns.map Dt.int))) && decide (max 0 (PyData.depthAll (Dt.toPs (ns.map Dt.int))) + 1 ≤ 64)) = true
  rw [hx, lay_ints, depth_ints]
  rfl
theorem nod_tupInts (ns : List Int) : (Dt.tup (ns.map Dt.int)).nod = true := nods_ints ns
theorem shaped_tupInts (ns : List Int) : SeqAt.shaped (Dt.tup (ns.map Dt.int)).toP = true := by
  show (PyData.canLayAll0 (Dt.toPs (ns.map Dt.int)) && decide (PyData.depthAll (Dt.toPs (ns.map Dt.int)) + 1 ≤ 64)) = true
  rw [lay_ints, depth_ints]
  rfl
section
variable {X : Cx}
theorem o_eqD {x y : Dt} (hu : X.A.units + 64 < cLine) (nx : x.nod = true) (ny : y.nod = true) (sx : SeqAt.shaped x.toP = true) (sy : SeqAt.shaped y.toP = true) : Xop X (compareOp .Eq) x y (.bl (PyData.eqv x.toP y.toP)) := OpR.sub (op_eqD hu) fun v w H Q ⟨G, s, a, b, k⟩ =>
  ⟨_, _, Den.dp s x v nx a, Den.dp s y w ny b, sx, sy, k _ _ _ (Grow.refl s) (.bl _)⟩
theorem o_neD {x y : Dt} (hu : X.A.units + 64 < cLine) (nx : x.nod = true) (ny : y.nod = true) (sx : SeqAt.shaped x.toP = true) (sy : SeqAt.shaped y.toP = true) : Xop X (compareOp .NotEq) x y (.bl (!PyData.eqv x.toP y.toP)) := OpR.sub (op_neD hu) fun v w H Q ⟨G, s, a, b, k⟩ =>
  ⟨_, _, Den.dp s x v nx a, Den.dp s y w ny b, sx, sy, k _ _ _ (Grow.refl s) (.bl _)⟩
/-- the same data -/
theorem o_eqSame {x : Dt} (hu : X.A.units + 64 < cLine) (nx : x.nod = true) (sx : SeqAt.shaped x.toP = true) : Xop X (compareOp .Eq) x x (.bl true) := by
  have h := o_eqD (X := X) hu nx nx sx sx
  unfold SeqAt.shaped at sx
  rw [Bool.and_eq_true] at sx
  rw [SeqAt.eqv_refl _ sx.1] at h
  exact h
theorem o_neSame {x : Dt} (hu : X.A.units + 64 < cLine) (nx : x.nod = true) (sx : SeqAt.shaped x.toP = true) : Xop X (compareOp .NotEq) x x (.bl false) := by
  have h := o_neD (X := X) hu nx nx sx sx
  unfold SeqAt.shaped at sx
  rw [Bool.and_eq_true] at sx
  rw [SeqAt.eqv_refl _ sx.1] at h
  exact h
end
end Pa
namespace Pa
open PySem PySem.Spec PyProof.Rows L2
section
variable {X : Cx} {scope : Scope} {elt : Expr} {δ : Sl}
theorem comp_zipB {i j : Nat} {c h : List Int} {f : Int → Int → Bool} (k : ∀ a b, (a, b) ∈ c.zip h → InB X scope fun Y => Xe Y elt ((δ.set i (some (.int a))).set j (some (.int b))) (.bl (f a b))) :
    CompD X scope (.two i j) [] elt δ (zipD (c.map Dt.int) (h.map Dt.int)) (((c.zip h).map fun p => f p.1 p.2).map Dt.bl) := by
  have e : zipD (c.map Dt.int) (h.map Dt.int) = (c.zip h).map fun p => .tup [.int p.1, .int p.2] := by
    unfold zipD
    rw [List.zip_map, List.map_map]
    rfl
  rw [e, List.map_map]
  exact comp_map (dl := fun p : Int × Int => (δ.set i (some (.int p.1))).set j (some (.int p.2))) (c.zip h) fun p hp => ⟨rfl, fun s H C cl fp => ⟨xts_nil, k p.1 p.2 hp s H C cl fp⟩⟩
theorem comp_enumB {i j : Nat} {h : List Int} {f : Nat → Int → Bool} (k : ∀ (m : Nat) (v : Int), h[m]? = some v → InB X scope fun Y => Xe Y elt ((δ.set i (some (.int m))).set j (some (.int v))) (.bl (f m v))) :
    CompD X scope (.two i j) [] elt δ (enumD (h.map Dt.int)) ((h.zipIdx.map fun p => f p.2 p.1).map Dt.bl) := by
  rw [enum_ints, List.map_map]
  exact comp_map (dl := fun p : Int × Nat => (δ.set i (some (.int p.2))).set j (some (.int p.1))) h.zipIdx fun p hp => ⟨rfl, fun s H C cl fp => ⟨xts_nil, k p.2 p.1 (by simpa using List.mem_zipIdx_iff_getElem?.mp hp) s H C cl fp⟩⟩
theorem comp_rows {j : Nat} {rs : List (List Int)} {f : List Int → Int} (k : ∀ r ∈ rs, InB X scope fun Y => Xe Y elt (δ.set j (some (dI r))) (.int (f r))) : CompD X scope (.one j) [] elt δ (rs.map dI) ((rs.map f).map Dt.int) := by
  rw [List.map_map]
  exact comp_map (dl := fun r => δ.set j (some (dI r))) rs fun r hr => ⟨rfl, fun s H C cl fp => ⟨xts_nil, k r hr s H C cl fp⟩⟩
theorem enum_len {h : List Int} : (enumD (h.map Dt.int)).length = h.length := by
  unfold enumD
  rw [List.length_map, List.length_zipIdx, List.length_map]
end
theorem all_map {α : Type} {xs : List α} {f : α → Bool} (h : ∀ x ∈ xs, f x = true) : (xs.map f).all id = true := by
  rw [List.all_map]
  exact List.all_eq_true.mpr h
end Pa
namespace Pa
def S1 (f : Nat → Int) : Nat → Int
  | 0 => 0
  | n + 1 => S1 f n + f n
theorem S1_cons (f : Nat → Int) : ∀ n, S1 f (n + 1) = f 0 + S1 (fun i => f (i + 1)) n
  | 0 => by show (0 : Int) + f 0 = f 0 + 0; omega
  | n + 1 => by
    show S1 f (n + 1) + f (n + 1) = f 0 + (S1 (fun i => f (i + 1)) n + f (n + 1))
    rw [S1_cons f n]
    omega
theorem S1_congr {f g : Nat → Int} : ∀ {n : Nat}, (∀ i, i < n → f i = g i) → S1 f n = S1 g n
  | 0, _ => rfl
  | n + 1, h => by
    show S1 f n + f n = S1 g n + g n
    rw [S1_congr fun i hi => h i (by omega), h n (by omega)]
theorem S1_add {f g : Nat → Int} : ∀ n, S1 (fun i => f i + g i) n = S1 f n + S1 g n
  | 0 => rfl
  | n + 1 => by
    show S1 (fun i => f i + g i) n + (f n + g n) = (S1 f n + f n) + (S1 g n + g n)
    rw [S1_add n]
    omega
theorem S1_sub {f g : Nat → Int} : ∀ n, S1 (fun i => f i - g i) n = S1 f n - S1 g n
  | 0 => rfl
  | n + 1 => by
    show S1 (fun i => f i - g i) n + (f n - g n) = (S1 f n + f n) - (S1 g n + g n)
    rw [S1_sub n]
    omega
theorem S1_mul {f : Nat → Int} {v : Int} : ∀ n, S1 (fun i => f i * v) n = S1 f n * v
  | 0 => (Int.zero_mul v).symm
  | n + 1 => by
    show S1 (fun i => f i * v) n + f n * v = (S1 f n + f n) * v
    rw [S1_mul n, Int.add_mul]
theorem S1_zero : ∀ n, S1 (fun _ => 0) n = 0
  | 0 => rfl
  | n + 1 => by
    show S1 (fun _ => 0) n + 0 = 0
    rw [S1_zero n]
    rfl
theorem S1_nonneg {f : Nat → Int} : ∀ {n : Nat}, (∀ i, i < n → 0 ≤ f i) → 0 ≤ S1 f n
  | 0, _ => Int.le_refl _
  | n + 1, h => by
    have h1 := S1_nonneg (n := n) fun i hi => h i (by omega)
    have h2 := h n (by omega)
    show 0 ≤ S1 f n + f n
    omega
theorem S1_le {f g : Nat → Int} : ∀ {n : Nat}, (∀ i, i < n → f i ≤ g i) → S1 f n ≤ S1 g n
  | 0, _ => Int.le_refl _
  | n + 1, h => by
    have h1 := S1_le (n := n) fun i hi => h i (by omega)
    have h2 := h n (by omega)
    show S1 f n + f n ≤ S1 g n + g n
    omega
/-- one is at most the sum -/
theorem S1_one {f : Nat → Int} {j : Nat} : ∀ {n : Nat}, (∀ i, i < n → 0 ≤ f i) → j < n → f j ≤ S1 f n
  | 0, _, hj => absurd hj (Nat.not_lt_zero j)
  | n + 1, h, hj => by
    have h1 := S1_nonneg (n := n) fun i hi => h i (by omega)
    have h2 := h n (by omega)
    show f j ≤ S1 f n + f n
    by_cases e : j = n
    · subst e
      omega
    · have := S1_one (n := n) (fun i hi => h i (by omega)) (show j < n by omega)
      omega
/-- a sum that is none, of terms that are not below none -/
theorem S1_all0 {f : Nat → Int} {n : Nat} (h : ∀ i, i < n → 0 ≤ f i) (e : S1 f n = 0) {j : Nat} (hj : j < n) : f j = 0 := by
  have h1 := S1_one h hj
  have h2 := h j hj
  omega
theorem S1_set {f g : Nat → Int} {k : Nat} {x : Int} : ∀ {n : Nat}, k < n → (∀ i, i < n → i ≠ k → f i = g i) → f k = g k + x → S1 f n = S1 g n + x
  | 0, hk, _, _ => absurd hk (Nat.not_lt_zero k)
  | n + 1, hk, h, e => by
    show S1 f n + f n = S1 g n + g n + x
    by_cases ek : k = n
    · subst ek
      rw [S1_congr (f := f) (g := g) fun i hi => h i (by omega) (by omega), e]
      omega
    · rw [S1_set (n := n) (by omega) (fun i hi hne => h i (by omega) hne) e, h n (by omega) (by omega)]
      omega
theorem sum_S1 : ∀ xs : List Int, xs.sum = S1 (fun i => xs.getD i 0) xs.length
  | [] => rfl
  | x :: xs => by
    rw [List.sum_cons, List.length_cons, S1_cons, sum_S1 xs]
    rfl
theorem sum_map_S1 {α : Type} (d : α) (f : α → Int) : ∀ xs : List α, (xs.map f).sum = S1 (fun i => f (xs.getD i d)) xs.length
  | [] => rfl
  | x :: xs => by
    rw [List.map_cons, List.sum_cons, List.length_cons, S1_cons, sum_map_S1 d f xs]
    rfl
theorem worth_S1 : ∀ {c h : List Int}, h.length = c.length → worth c h = S1 (fun k => c.getD k 0 * h.getD k 0) c.length
  | [], h, _ => rfl
  | v :: c, [], e => by cases e
  | v :: c, x :: h, e => by
    have ih := worth_S1 (c := c) (h := h) (Nat.succ.inj e)
    unfold worth at ih ⊢
    rw [List.zip_cons_cons, List.map_cons, List.sum_cons, List.length_cons, S1_cons, ih]
    rfl
theorem take_getD {xs : List Int} {k i : Nat} (hi : i < k) : (xs.take k).getD i 0 = xs.getD i 0 := by
  rw [List.getD_eq_getElem?_getD, List.getD_eq_getElem?_getD, List.getElem?_take, if_pos hi]
theorem lesser_S1 {c h : List Int} (e : h.length = c.length) {k : Nat} (hk : k ≤ c.length) : lesser c h k = S1 (fun i => c.getD i 0 * h.getD i 0) k := by
  unfold lesser
  rw [worth_S1 (by rw [List.length_take, List.length_take, e]), List.length_take, Nat.min_eq_left hk]
  exact S1_congr fun i hi => by rw [take_getD hi, take_getD hi]
theorem lesser_all {c h : List Int} (e : h.length = c.length) : lesser c h c.length = worth c h := by
  unfold lesser
  rw [List.take_of_length_le (Nat.le_refl _), List.take_of_length_le (by omega)]
theorem leftBy_S1 {c as : List Int} {k : Nat} (hk : k < c.length) : leftBy c as k = S1 (fun j => as.getD j 0 % c.getD k 0) as.length := by
  unfold leftBy
  rw [if_neg (by omega), sum_map_S1 0]
/-- each value divides each later one -/
theorem Chn.dvd {c : List Int} (h : Chn c) {i : Nat} : ∀ {j : Nat}, i ≤ j → j < c.length → c.getD i 0 ∣ c.getD j 0
  | 0, hi, _ => by
    have e : i = 0 := by omega
    rw [e]
    exact Int.dvd_refl _
  | j + 1, hi, hj => by
    by_cases e : i = j + 1
    · rw [e]
      exact Int.dvd_refl _
    · exact Int.dvd_trans (Chn.dvd h (j := j) (by omega) (by omega)) (Int.dvd_of_emod_eq_zero (h.st j hj).2)
theorem sub_mod {a x v d : Int} (h : d ∣ v) : (a - x * v) % d = a % d := by
  obtain ⟨e, rfl⟩ := h
  have : a - x * (d * e) = a + d * (-(x * e)) := by
    rw [Int.mul_neg, ← Int.sub_eq_add_neg, Int.mul_left_comm]
  rw [this, Int.add_mul_emod_self_left]
end Pa
namespace Pa
theorem getD_set_self {α : Type} {xs : List α} {j : Nat} {x d : α} (h : j < xs.length) : (xs.set j x).getD j d = x := by
  rw [getD_set, if_pos ⟨rfl, h⟩]
theorem getD_set_ne {α : Type} {xs : List α} {j i : Nat} {x d : α} (h : j ≠ i) : (xs.set j x).getD i d = xs.getD i d := by
  rw [getD_set, if_neg (fun z => h z.1)]
/-- what the i-th payment gets of v -/
def got (v : Int) (k : Nat) (s : Pay) (i : Nat) : Int := min (Pay.turns v k s i).count (s.left.getD i 0 / v)
structure Turned (v : Int) (k : Nat) (s : Pay) (n j : Nat) : Prop where
  cnt : (Pay.turns v k s j).count = s.count - S1 (got v k s) j
  lef : ∀ i, (Pay.turns v k s j).left.getD i 0 = if i < j then s.left.getD i 0 - got v k s i * v else s.left.getD i 0
  row : ∀ i, (Pay.turns v k s j).rows.getD i [] = if i < j then (s.rows.getD i []).set k (got v k s i) else s.rows.getD i []
  pos : 0 ≤ (Pay.turns v k s j).count
  all : (Pay.turns v k s j).count = 0 ∨ ∀ i, i < j → got v k s i = s.left.getD i 0 / v
  got0 : ∀ i, i < j → 0 ≤ got v k s i ∧ got v k s i ≤ s.left.getD i 0 / v
theorem turned {v : Int} {k : Nat} {s : Pay} {n : Nat} (hv : 0 < v) (hc : 0 ≤ s.count) (hr : s.rows.length = n) (hl : s.left.length = n) (hp : ∀ i, i < n → 0 ≤ s.left.getD i 0) : ∀ j, j ≤ n → Turned v k s n j
  | 0, _ => ⟨by show s.count = s.count - 0; omega, fun i => by rw [if_neg (by omega)]; rfl, fun i => by rw [if_neg (by omega)]; rfl, hc, .inr fun i hi => absurd hi (Nat.not_lt_zero i), fun i hi => absurd hi (Nat.not_lt_zero i)⟩
  | j + 1, hj => by
    have T := turned (k := k) hv hc hr hl hp j (by omega)
    have hjl : j < (Pay.turns v k s j).left.length := by rw [turns_len.2]; omega
    have hjr : j < (Pay.turns v k s j).rows.length := by rw [turns_len.1]; omega
    have el : (Pay.turns v k s j).left.getD j 0 = s.left.getD j 0 := by rw [T.lef j, if_neg (by omega)]
    have er : (Pay.turns v k s j).rows.getD j [] = s.rows.getD j [] := by rw [T.row j, if_neg (by omega)]
    have eg : min (Pay.turns v k s j).count ((Pay.turns v k s j).left.getD j 0 / v) = got v k s j := by rw [el]; rfl
    have e1 : (Pay.turns v k s (j + 1)).count = (Pay.turns v k s j).count - got v k s j := by
      show (Pay.turns v k s j).count - min (Pay.turns v k s j).count ((Pay.turns v k s j).left.getD j 0 / v) = _
      rw [eg]
    have e2 : (Pay.turns v k s (j + 1)).left = (Pay.turns v k s j).left.set j (s.left.getD j 0 - got v k s j * v) := by
      show (Pay.turns v k s j).left.set j ((Pay.turns v k s j).left.getD j 0 - min (Pay.turns v k s j).count ((Pay.turns v k s j).left.getD j 0 / v) * v) = _
      rw [eg, el]
    have e3 : (Pay.turns v k s (j + 1)).rows = (Pay.turns v k s j).rows.set j ((s.rows.getD j []).set k (got v k s j)) := by
      show (Pay.turns v k s j).rows.set j (((Pay.turns v k s j).rows.getD j []).set k (min (Pay.turns v k s j).count ((Pay.turns v k s j).left.getD j 0 / v))) = _
      rw [eg, er]
    have hq : 0 ≤ s.left.getD j 0 / v := Int.ediv_nonneg (hp j (by omega)) (by omega)
    have hg : 0 ≤ got v k s j ∧ got v k s j ≤ s.left.getD j 0 / v ∧ got v k s j ≤ (Pay.turns v k s j).count := by
      unfold got
      have := T.pos
      omega
    refine ⟨?_, fun i => ?_, fun i => ?_, ?_, ?_, fun i hi => ?_⟩
    · rw [e1, T.cnt]
      show _ = s.count - (S1 (got v k s) j + got v k s j)
      omega
    · rw [e2]
      by_cases h : i = j
      · subst h
        rw [getD_set_self hjl, if_pos (by omega)]
      · rw [getD_set_ne (Ne.symm h), T.lef i]
        by_cases h2 : i < j
        · rw [if_pos h2, if_pos (by omega)]
        · rw [if_neg h2, if_neg (by omega)]
    · rw [e3]
      by_cases h : i = j
      · subst h
        rw [getD_set_self hjr, if_pos (by omega)]
      · rw [getD_set_ne (Ne.symm h), T.row i]
        by_cases h2 : i < j
        · rw [if_pos h2, if_pos (by omega)]
        · rw [if_neg h2, if_neg (by omega)]
    · rw [e1]
      omega
    · rw [e1]
      by_cases hmin : got v k s j = s.left.getD j 0 / v
      · rcases T.all with h0 | hall
        · left
          have : got v k s j ≤ 0 := by omega
          omega
        · right
          intro i hi
          by_cases h : i = j
          · rw [h]
            exact hmin
          · exact hall i (by omega)
      · left
        have : got v k s j = (Pay.turns v k s j).count := by
          unfold got at hmin ⊢
          omega
        omega
    · by_cases h : i = j
      · rw [h]
        exact ⟨hg.1, hg.2.1⟩
      · exact T.got0 i (by omega)
/-- enough room for all pieces: all are given -/
theorem turned_all {v : Int} {k : Nat} {s : Pay} {n : Nat} (T : Turned v k s n n) (hs : s.count ≤ S1 (fun i => s.left.getD i 0 / v) n) : S1 (got v k s) n = s.count := by
  have h1 := T.cnt
  have h2 := T.pos
  rcases T.all with h0 | hall
  · omega
  · have : S1 (got v k s) n = S1 (fun i => s.left.getD i 0 / v) n := S1_congr hall
    omega
/-- behind i of the values, the greatest first -/
structure Paid (c h as : List Int) (i : Nat) : Prop where
  lef : ∀ j, j < as.length → 0 ≤ (payAt c h as i).2.getD j 0
  md : ∀ j, j < as.length → ∀ k, k < c.length - i → (payAt c h as i).2.getD j 0 % c.getD k 0 = as.getD j 0 % c.getD k 0
  sum : S1 (fun j => (payAt c h as i).2.getD j 0) as.length = lesser c h (c.length - i)
  row : ∀ j, j < as.length → worth c ((payAt c h as i).1.getD j []) + (payAt c h as i).2.getD j 0 = as.getD j 0
  col : ∀ k, c.length - i ≤ k → k < c.length → S1 (fun j => ((payAt c h as i).1.getD j []).getD k 0) as.length = h.getD k 0
  zer : ∀ j, j < as.length → ∀ k, k < c.length - i → ((payAt c h as i).1.getD j []).getD k 0 = 0
  pos : ∀ j, j < as.length → ∀ k, k < c.length → 0 ≤ ((payAt c h as i).1.getD j []).getD k 0
theorem replicate_getD {α : Type} {n i : Nat} {x d : α} (h : i < n) : (List.replicate n x).getD i d = x := by
  rw [List.getD_eq_getElem?_getD, List.getElem?_replicate, if_pos h]
  rfl
theorem worth_zero {c : List Int} {n : Nat} (h : n = c.length) : worth c (List.replicate n 0) = 0 := by
  rw [worth_S1 (by rw [List.length_replicate, h])]
  rw [S1_congr (g := fun _ => 0) fun i hi => by rw [replicate_getD (by omega), Int.mul_zero]]
  exact S1_zero _
theorem worth_set {c r : List Int} {k : Nat} {x : Int} (hl : r.length = c.length) (hk : k < c.length) (h0 : r.getD k 0 = 0) : worth c (r.set k x) = worth c r + c.getD k 0 * x := by
  rw [worth_S1 (by rw [List.length_set, hl]), worth_S1 hl]
  refine S1_set hk (fun i hi hne => by rw [getD_set_ne (Ne.symm hne)]) ?_
  rw [getD_set_self (by omega), h0, Int.mul_zero, Int.zero_add]
theorem paid {c h as : List Int} (hc : Chn c) (hh : Hep c h) (ha : ∀ j, j < as.length → 0 ≤ as.getD j 0) (hs : S1 (fun j => as.getD j 0) as.length = worth c h) (hl : ∀ k, k < c.length → leftBy c as k ≤ lesser c h k) : ∀ i, i ≤ c.length → Paid c h as i
  | 0, _ => by
    refine ⟨ha, fun j hj k hk => rfl, ?_, fun j hj => ?_, fun k h1 h2 => by omega, fun j hj k hk => ?_, fun j hj k hk => ?_⟩
    · rw [Nat.sub_zero, lesser_all hh.len]
      exact hs
    · show worth c ((List.replicate as.length (List.replicate c.length 0)).getD j []) + as.getD j 0 = as.getD j 0
      rw [replicate_getD hj, worth_zero rfl]
      omega
    · show ((List.replicate as.length (List.replicate c.length (0 : Int))).getD j []).getD k 0 = 0
      rw [replicate_getD hj, replicate_getD (by omega)]
    · show 0 ≤ ((List.replicate as.length (List.replicate c.length (0 : Int))).getD j []).getD k 0
      rw [replicate_getD hj, replicate_getD hk]
      omega
  | i + 1, hi => by
    have P := paid hc hh ha hs hl i (by omega)
    obtain ⟨p1, p2, p3⟩ := payAt_len (c := c) (h := h) (as := as) i
    have e1 : payAt c h as (i + 1) = ((Pay.turns (c.getD (c.length - 1 - i) 0) (c.length - 1 - i) ⟨h.getD (c.length - 1 - i) 0, (payAt c h as i).1, (payAt c h as i).2⟩ as.length).rows, (Pay.turns (c.getD (c.length - 1 - i) 0) (c.length - 1 - i) ⟨h.getD (c.length - 1 - i) 0, (payAt c h as i).1, (payAt c h as i).2⟩ as.length).left) := rfl
    have ek1 : c.length - i = (c.length - 1 - i) + 1 := by omega
    have ek2 : c.length - (i + 1) = c.length - 1 - i := by omega
    have hk : c.length - 1 - i < c.length := by omega
    have hv := hc.getD hk
    have hcnt : 0 ≤ h.getD (c.length - 1 - i) 0 := (hh.rg _ (getD_mem (by rw [hh.len]; omega))).1
    have T := turned (v := c.getD (c.length - 1 - i) 0) (k := c.length - 1 - i) (s := ⟨h.getD (c.length - 1 - i) 0, (payAt c h as i).1, (payAt c h as i).2⟩) (n := as.length) (by omega) hcnt p1 p2 P.lef as.length (Nat.le_refl _)
    have P1 := P.lef
    have P2 := P.md
    have P3 := P.sum
    have P4 := P.row
    have P5 := P.col
    have P6 := P.zer
    have P7 := P.pos
    rw [ek1] at P2 P3 P5 P6
    have hroom : h.getD (c.length - 1 - i) 0 ≤ S1 (fun j => (payAt c h as i).2.getD j 0 / c.getD (c.length - 1 - i) 0) as.length := by
      have hle := hl (c.length - 1 - i) hk
      rw [leftBy_S1 hk] at hle
      have hmod : S1 (fun j => (payAt c h as i).2.getD j 0 % c.getD (c.length - 1 - i) 0) as.length = S1 (fun j => as.getD j 0 % c.getD (c.length - 1 - i) 0) as.length := S1_congr fun j hj => P2 j hj _ (by omega)
      have hdiv : S1 (fun j => (payAt c h as i).2.getD j 0) as.length = S1 (fun j => (payAt c h as i).2.getD j 0 / c.getD (c.length - 1 - i) 0) as.length * c.getD (c.length - 1 - i) 0 + S1 (fun j => (payAt c h as i).2.getD j 0 % c.getD (c.length - 1 - i) 0) as.length := by
        rw [← S1_mul, ← S1_add]
        exact S1_congr fun j hj => by rw [Int.mul_comm, Int.mul_ediv_add_emod]
      have hless : lesser c h (c.length - 1 - i + 1) = lesser c h (c.length - 1 - i) + c.getD (c.length - 1 - i) 0 * h.getD (c.length - 1 - i) 0 := by
        rw [lesser_S1 hh.len (by omega), lesser_S1 hh.len (by omega)]
        rfl
      rw [P3, hless, hmod] at hdiv
      have hm : h.getD (c.length - 1 - i) 0 * c.getD (c.length - 1 - i) 0 ≤ S1 (fun j => (payAt c h as i).2.getD j 0 / c.getD (c.length - 1 - i) 0) as.length * c.getD (c.length - 1 - i) 0 := by
        rw [Int.mul_comm (h.getD (c.length - 1 - i) 0)]
        omega
      exact Int.le_of_mul_le_mul_right hm (by omega)
    have A := turned_all T hroom
    have hrow : ∀ j, j < as.length → ((payAt c h as i).1.getD j []).length = c.length := fun j hj => p3 _ (getD_mem (by omega))
    have hlessE : lesser c h (c.length - 1 - i + 1) = lesser c h (c.length - 1 - i) + c.getD (c.length - 1 - i) 0 * h.getD (c.length - 1 - i) 0 := by
      rw [lesser_S1 hh.len (by omega), lesser_S1 hh.len (by omega)]
      rfl
    have hTl : ∀ j, j < as.length → (payAt c h as (i + 1)).2.getD j 0 = (payAt c h as i).2.getD j 0 - got (c.getD (c.length - 1 - i) 0) (c.length - 1 - i) ⟨h.getD (c.length - 1 - i) 0, (payAt c h as i).1, (payAt c h as i).2⟩ j * c.getD (c.length - 1 - i) 0 := fun j hj => by
      rw [e1]
      show (Pay.turns _ _ _ _).left.getD j 0 = _
      rw [T.lef j, if_pos hj]
    have hTr : ∀ j, j < as.length → (payAt c h as (i + 1)).1.getD j [] = ((payAt c h as i).1.getD j []).set (c.length - 1 - i) (got (c.getD (c.length - 1 - i) 0) (c.length - 1 - i) ⟨h.getD (c.length - 1 - i) 0, (payAt c h as i).1, (payAt c h as i).2⟩ j) := fun j hj => by
      rw [e1]
      show (Pay.turns _ _ _ _).rows.getD j [] = _
      rw [T.row j, if_pos hj]
    generalize hX : got (c.getD (c.length - 1 - i) 0) (c.length - 1 - i) ⟨h.getD (c.length - 1 - i) 0, (payAt c h as i).1, (payAt c h as i).2⟩ = X at *
    have hg := T.got0
    rw [hX] at hg
    refine ⟨fun j hj => ?_, fun j hj k hkk => ?_, ?_, fun j hj => ?_, fun k h1 h2 => ?_, fun j hj k hkk => ?_, fun j hj k hkk => ?_⟩
    · rw [hTl j hj]
      have h1 := (hg j hj).2
      have h1 : X j ≤ (payAt c h as i).2.getD j 0 / c.getD (c.length - 1 - i) 0 := h1
      have h2 : X j * c.getD (c.length - 1 - i) 0 ≤ (payAt c h as i).2.getD j 0 / c.getD (c.length - 1 - i) 0 * c.getD (c.length - 1 - i) 0 := Int.mul_le_mul_of_nonneg_right h1 (by omega)
      have h3 := Int.ediv_mul_le ((payAt c h as i).2.getD j 0) (b := c.getD (c.length - 1 - i) 0) (by omega)
      omega
    · rw [hTl j hj, sub_mod (hc.dvd (by omega) hk)]
      exact P2 j hj k (by omega)
    · rw [ek2, S1_congr hTl, S1_sub, S1_mul, P3, A, hlessE, Int.mul_comm (h.getD _ _)]
      omega
    · rw [hTr j hj, hTl j hj, worth_set (hrow j hj) hk (P6 j hj _ (by omega)), Int.mul_comm (c.getD _ _)]
      have := P4 j hj
      omega
    · by_cases hkk : k = c.length - 1 - i
      · subst hkk
        rw [S1_congr (g := X) fun j hj => by rw [hTr j hj, getD_set_self (by rw [hrow j hj]; omega)]]
        exact A
      · rw [S1_congr (g := fun j => ((payAt c h as i).1.getD j []).getD k 0) fun j hj => by rw [hTr j hj, getD_set_ne (Ne.symm hkk)]]
        exact P5 k (by omega) h2
    · rw [hTr j hj, getD_set_ne (by omega)]
      exact P6 j hj k (by omega)
    · rw [hTr j hj]
      by_cases hkk2 : c.length - 1 - i = k
      · subst hkk2
        rw [getD_set_self (by rw [hrow j hj]; omega)]
        exact (hg j hj).1
      · rw [getD_set_ne hkk2]
        exact P7 j hj k hkk
theorem mem_getD {α : Type} {xs : List α} {x d : α} (h : x ∈ xs) : ∃ i, i < xs.length ∧ xs.getD i d = x := by
  obtain ⟨i, hi, e⟩ := List.mem_iff_getElem.mp h
  exact ⟨i, hi, by rw [List.getD_eq_getElem?_getD, List.getElem?_eq_getElem hi, e]; rfl⟩
theorem mem_zip_getD : ∀ {xs ys : List Int} {p : Int × Int}, p ∈ xs.zip ys → ∃ k, k < xs.length ∧ k < ys.length ∧ p = (xs.getD k 0, ys.getD k 0)
  | [], ys, p, h => by cases h
  | x :: xs, [], p, h => by cases h
  | x :: xs, y :: ys, p, h => by
    rw [List.zip_cons_cons] at h
    rcases List.mem_cons.mp h with rfl | h
    · exact ⟨0, Nat.succ_pos _, Nat.succ_pos _, rfl⟩
    · obtain ⟨k, h1, h2, e⟩ := mem_zip_getD h
      exact ⟨k + 1, Nat.succ_lt_succ h1, Nat.succ_lt_succ h2, e⟩
/-- no lack: the payments are worth their amounts, and together the heap -/
theorem house_good {c h as : List Int} (hc : Chn c) (hh : Hep c h) (ha : ∀ j, j < as.length → 0 ≤ as.getD j 0) (hs : as.sum = worth c h) (hl : ∀ k, k < c.length → leftBy c as k ≤ lesser c h k) :
    (housePay c h as).length = as.length ∧ Parts c h (housePay c h as) ∧ ∀ j, j < as.length → worth c ((housePay c h as).getD j []) = as.getD j 0 := by
  rw [sum_S1] at hs
  have P := paid hc hh ha hs hl c.length (Nat.le_refl _)
  obtain ⟨p1, p2, p3⟩ := payAt_len (c := c) (h := h) (as := as) c.length
  have e0 : c.length - c.length = 0 := Nat.sub_self _
  have P3 := P.sum
  rw [e0] at P3
  have hz : ∀ j, j < as.length → (payAt c h as c.length).2.getD j 0 = 0 := fun j hj => S1_all0 P.lef (P3.trans (by rw [lesser_S1 hh.len (Nat.zero_le _)]; rfl)) hj
  refine ⟨p1, ⟨p3, fun r hr p hp => ?_, fun k hk => ?_⟩, fun j hj => ?_⟩
  · obtain ⟨j, hj, rfl⟩ := mem_getD (d := []) hr
    have hj : j < as.length := by rw [← p1]; exact hj
    have hrl : ((payAt c h as c.length).1.getD j []).length = c.length := p3 _ hr
    obtain ⟨k, hk1, hkh, ep⟩ := mem_zip_getD hp
    have hk1 : k < ((payAt c h as c.length).1.getD j []).length := hk1
    have e1 : p.1 = ((payAt c h as c.length).1.getD j []).getD k 0 := by
      rw [ep]
      rfl
    have e2 : p.2 = h.getD k 0 := by rw [ep]
    rw [e1, e2]
    have hkc : k < c.length := by rw [← hrl]; exact hk1
    refine ⟨P.pos j hj k hkc, ?_⟩
    rw [← P.col k (by omega) hkc]
    exact S1_one (f := fun j => ((payAt c h as c.length).1.getD j []).getD k 0) (fun i hi => P.pos i hi k hkc) hj
  · rw [sum_map_S1 []]
    have hkc : k < c.length := by rw [← hh.len]; exact hk
    have := P.col k (by omega) hkc
    rw [show (housePay c h as).length = as.length from p1]
    exact this
  · have := P.row j hj
    rw [hz j hj] at this
    show worth c ((payAt c h as c.length).1.getD j []) = _
    omega
/-- equal amounts -/
theorem evens_good {c h : List Int} {n : Int} (hc : Chn c) (hh : Hep c h) (h2 : 2 ≤ n) (hs : sharesB c h n = true) : (housePay c h (evens c h n)).length = n.toNat ∧ Parts c h (housePay c h (evens c h n)) ∧ ∀ r ∈ housePay c h (evens c h n), worth c r = worth c h / n := by
  unfold sharesB at hs
  rw [Bool.and_eq_true, decide_eq_true_eq, Option.isNone_iff_eq_none] at hs
  obtain ⟨h0, hf⟩ := hs
  have hm : worth c h % n = 0 := by
    have := Int.emod_nonneg (worth c h) (show n ≠ 0 by omega)
    omega
  have hw0 : 0 ≤ worth c h := by
    rw [worth_S1 hh.len]
    refine S1_nonneg fun k hk => Int.mul_nonneg ?_ (hh.rg _ (getD_mem (by rw [hh.len]; exact hk))).1
    have := hc.getD hk
    omega
  have hq : 0 ≤ worth c h / n := Int.ediv_nonneg hw0 (by omega)
  have el : (evens c h n).length = n.toNat := List.length_replicate
  have eg : ∀ j, j < (evens c h n).length → (evens c h n).getD j 0 = worth c h / n := fun j hj => replicate_getD (by rw [← el]; exact hj)
  have hsum : (evens c h n).sum = worth c h := by
    rw [sum_S1, S1_congr (g := fun _ => 1 * (worth c h / n)) fun j hj => by rw [eg j hj, Int.one_mul], S1_mul, el]
    have e1 : S1 (fun _ => 1) n.toNat = n := by
      have : ∀ m : Nat, S1 (fun _ => 1) m = m := fun m => by
        induction m with
        | zero => rfl
        | succ m ih =>
          show S1 (fun _ => 1) m + 1 = _
          rw [ih]
          rfl
      rw [this, Int.toNat_of_nonneg (by omega)]
    rw [e1, Int.mul_ediv_cancel' (Int.dvd_of_emod_eq_zero hm)]
  have hlack : ∀ k, k < c.length → leftBy c (evens c h n) k ≤ lesser c h k := fun k hk => by
    unfold firstLack at hf
    have := List.find?_eq_none.mp hf k (List.mem_range.mpr (by omega))
    unfold lacks at this
    rw [decide_eq_true_eq] at this
    omega
  obtain ⟨a, b, d⟩ := house_good (as := evens c h n) hc hh (fun j hj => by rw [eg j hj]; exact hq) hsum hlack
  refine ⟨a.trans el, b, fun r hr => ?_⟩
  obtain ⟨j, hj, rfl⟩ := mem_getD (d := []) hr
  rw [a] at hj
  rw [d j hj, eg j hj]
end Pa
namespace Pa
open PySem PySem.Spec PyProof.Rows L2
def cell1 (script : List Int) (at' : Nat) : Int := if at' < script.length then script.getD at' 0 else 1000003 * ((at' : Int) + 1)
def cell0 (script : List Int) (at' : Nat) : Int := if cell1 script at' < 0 then 1 - 2 * cell1 script at' else cell1 script at'
def mix1 (c : Int) (k at' : Int) : Int := (c * 48271 + (k + 1) * 69621 + at' * 4001) % 2147483647
def mix2 (c : Int) (k at' : Int) : Int := (mix1 c k at' * mix1 c k at' + 16807 * (k + 3)) % 2147483629
def mix3 (c : Int) (k at' : Int) : Int := mix2 c k at' / 7 % 1009
def numsSt (script : List Int) (at' : Nat) : Nat → Int × List Int
  | 0 => (cell0 script at', [])
  | k + 1 =>
    let s := numsSt script at' k
    if (10 : Int) ^ 18 ≤ s.1 then (s.1 / 1009, s.2 ++ [s.1 % 1009]) else (s.1, s.2 ++ [mix3 s.1 (k : Int) (at' : Int)])
def lawNums (script : List Int) (at' many : Nat) : List Int := (numsSt script at' many).2
theorem numsSt_len (script : List Int) (at' : Nat) : ∀ k, (numsSt script at' k).2.length = k
  | 0 => rfl
  | k + 1 => by
    have := numsSt_len script at' k
    show (if _ then _ else _ : Int × List Int).2.length = _
    split <;> (rw [List.length_append, this]; rfl)
theorem numsSt_rg (script : List Int) (at' : Nat) : ∀ k, ∀ v ∈ (numsSt script at' k).2, 0 ≤ v ∧ v < 1009
  | 0 => fun v h => by cases h
  | k + 1 => fun v h => by
    have ih := numsSt_rg script at' k
    have h : v ∈ (if (10 : Int) ^ 18 ≤ (numsSt script at' k).1 then ((numsSt script at' k).1 / 1009, (numsSt script at' k).2 ++ [(numsSt script at' k).1 % 1009]) else ((numsSt script at' k).1, (numsSt script at' k).2 ++ [mix3 (numsSt script at' k).1 (k : Int) (at' : Int)]) : Int × List Int).2 := h
    have fin : ∀ x : Int, 0 ≤ x % 1009 ∧ x % 1009 < 1009 := fun x => by omega
    split at h
    · rcases List.mem_append.mp h with h | h
      · exact ih v h
      · rw [List.mem_singleton.mp h]
        exact fin _
    · rcases List.mem_append.mp h with h | h
      · exact ih v h
      · rw [List.mem_singleton.mp h]
        exact fin _
theorem lawNums_len {script : List Int} {at' many : Nat} : (lawNums script at' many).length = many := numsSt_len script at' many
theorem lawNums_rg {script : List Int} {at' many k : Nat} (h : k < many) : 0 ≤ (lawNums script at' many).getD k 0 ∧ (lawNums script at' many).getD k 0 < 1009 := numsSt_rg script at' many _ (getD_mem (by rw [numsSt_len]; exact h))
def chSt (ns : List Int) : Nat → List Int
  | 0 => [1 + ns.getD 0 0 % 3]
  | k + 1 => chSt ns k ++ [(chSt ns k).getD k 0 * (2 + ns.getD (2 + k) 0 % 4)]
def chLen (ns : List Int) (most : Int) : Nat := (1 + ns.getD 1 0 % (most - 1)).toNat
def lawChain (script : List Int) (at' : Nat) (most : Int) : List Int := chSt (lawNums script at' 12) (chLen (lawNums script at' 12) most)
theorem chSt_len (ns : List Int) : ∀ k, (chSt ns k).length = k + 1
  | 0 => rfl
  | k + 1 => by
    show (chSt ns k ++ [_]).length = _
    rw [List.length_append, chSt_len ns k]
    rfl
theorem getD_app {xs ys : List Int} {i : Nat} (h : i < xs.length) : (xs ++ ys).getD i 0 = xs.getD i 0 := by
  rw [List.getD_eq_getElem?_getD, List.getD_eq_getElem?_getD, List.getElem?_append_left h]
theorem getD_end {xs : List Int} {y : Int} {i : Nat} (h : i = xs.length) : (xs ++ [y]).getD i 0 = y := by
  rw [List.getD_eq_getElem?_getD, List.getElem?_append_right (by omega), h, Nat.sub_self]
  rfl
theorem chSt_st (ns : List Int) : ∀ k i, i + 1 < k + 1 → (chSt ns k).getD (i + 1) 0 = (chSt ns k).getD i 0 * (2 + ns.getD (2 + i) 0 % 4)
  | 0, i, h => by omega
  | k + 1, i, h => by
    have hl := chSt_len ns k
    show (chSt ns k ++ [_]).getD (i + 1) 0 = (chSt ns k ++ [_]).getD i 0 * _
    by_cases e : i = k
    · subst e
      rw [getD_end (by omega), getD_app (by omega)]
    · rw [getD_app (by omega), getD_app (by omega)]
      exact chSt_st ns k i (by omega)
theorem chSt_rg (ns : List Int) : ∀ k i, i ≤ k → 1 ≤ (chSt ns k).getD i 0 ∧ (chSt ns k).getD i 0 ≤ 3 * 5 ^ i
  | k, 0, _ => by
    have e : ∀ k, (chSt ns k).getD 0 0 = 1 + ns.getD 0 0 % 3 := fun k => by
      induction k with
      | zero => rfl
      | succ k ih =>
        show (chSt ns k ++ [_]).getD 0 0 = _
        rw [getD_app (by rw [chSt_len]; omega), ih]
    rw [e]
    show 1 ≤ 1 + ns.getD 0 0 % 3 ∧ 1 + ns.getD 0 0 % 3 ≤ 3 * 1
    omega
  | k, i + 1, h => by
    have ih := chSt_rg ns k i (by omega)
    rw [chSt_st ns k i (by omega)]
    have hq : 2 ≤ 2 + ns.getD (2 + i) 0 % 4 ∧ 2 + ns.getD (2 + i) 0 % 4 ≤ 5 := by omega
    generalize 2 + ns.getD (2 + i) 0 % 4 = q at hq
    generalize (chSt ns k).getD i 0 = x at ih
    have h1 : x * q ≤ x * 5 := Int.mul_le_mul_of_nonneg_left hq.2 (by omega)
    have h2 : x * 2 ≤ x * q := Int.mul_le_mul_of_nonneg_left hq.1 (by omega)
    have h3 : (5 : Int) ^ (i + 1) = 5 ^ i * 5 := Int.pow_succ 5 i
    rw [h3]
    omega
theorem chLen_rg {ns : List Int} {most : Int} (h : 2 ≤ most) : 1 ≤ chLen ns most ∧ (chLen ns most : Int) < most := by
  unfold chLen
  have h1 := Int.emod_nonneg (ns.getD 1 0) (show most - 1 ≠ 0 by omega)
  have h2 := Int.emod_lt_of_pos (ns.getD 1 0) (show 0 < most - 1 by omega)
  omega
theorem lawChain_len {script : List Int} {at' : Nat} {most : Int} (h : 2 ≤ most) : 2 ≤ (lawChain script at' most).length ∧ ((lawChain script at' most).length : Int) ≤ most := by
  have := chLen_rg (ns := lawNums script at' 12) h
  unfold lawChain
  rw [chSt_len]
  omega
theorem lawChain_ok {script : List Int} {at' : Nat} {most : Int} (h : 2 ≤ most) (h7 : most ≤ 7) : Chn (lawChain script at' most) := by
  have hl := lawChain_len (script := script) (at' := at') h
  have hc := chLen_rg (ns := lawNums script at' 12) h
  have hlen : (lawChain script at' most).length = chLen (lawNums script at' 12) most + 1 := chSt_len _ _
  refine ⟨by omega, by omega, fun v hv => ?_, fun i hi => ?_⟩
  · obtain ⟨i, hi, rfl⟩ := mem_getD (d := 0) hv
    have := chSt_rg (lawNums script at' 12) (chLen (lawNums script at' 12) most) i (by omega)
    have h2 : (3 : Int) * 5 ^ i ≤ 1000000 := by
      have : i ≤ 6 := by omega
      have h5 : (5 : Int) ^ i ≤ 5 ^ 6 := by
        rcases i with _ | _ | _ | _ | _ | _ | _ | i <;> first | decide | omega
      have h6 : (5 : Int) ^ 6 = 15625 := by decide
      omega
    exact ⟨this.1, Int.le_trans this.2 h2⟩
  · have e := chSt_st (lawNums script at' 12) (chLen (lawNums script at' 12) most) i (by omega)
    have r := chSt_rg (lawNums script at' 12) (chLen (lawNums script at' 12) most) i (by omega)
    have e : (lawChain script at' most).getD (i + 1) 0 = (lawChain script at' most).getD i 0 * (2 + (lawNums script at' 12).getD (2 + i) 0 % 4) := e
    have r : 1 ≤ (lawChain script at' most).getD i 0 := r.1
    rw [e]
    have hq : 2 ≤ 2 + (lawNums script at' 12).getD (2 + i) 0 % 4 := by omega
    generalize 2 + (lawNums script at' 12).getD (2 + i) 0 % 4 = q at hq
    generalize (lawChain script at' most).getD i 0 = x at r
    have h2 : x * 2 ≤ x * q := Int.mul_le_mul_of_nonneg_left hq (by omega)
    exact ⟨by omega, Int.mul_emod_right x q⟩
/-- the heap -/
def evenH (script : List Int) (at' : Nat) (c : List Int) (n : Int) : List Int :=
  let ns := lawNums script at' 10
  let h0 := (ns.take c.length).map fun v => v % 10
  if 0 < ns.getD 9 0 % 3 then
    let h1 := h0.map fun v => v * n
    let k := (ns.getD 8 0 % ((c.length : Int) - 1)).toNat
    let step := c.getD (k + 1) 0 / c.getD k 0
    if 0 < h1.getD (k + 1) 0 ∧ h1.getD k 0 + step ≤ 99 then (h1.set (k + 1) (h1.getD (k + 1) 0 - 1)).set k (h1.getD k 0 + step) else h1
  else h0
theorem evenH_ok {script : List Int} {at' : Nat} {c : List Int} {n : Int} (hc : Chn c) (h2 : 2 ≤ n) (h8 : n ≤ 8) (hl : 2 ≤ c.length) : Hep c (evenH script at' c n) := by
  have l8 := hc.len8
  have e0 : ((lawNums script at' 10).take c.length).length = c.length := by rw [List.length_take, lawNums_len]; omega
  have r0 : ∀ v ∈ ((lawNums script at' 10).take c.length).map fun v => v % 10, 0 ≤ v ∧ v ≤ 9 := fun v hv => by
    obtain ⟨u, _, rfl⟩ := List.mem_map.mp hv
    omega
  have r1 : ∀ v ∈ (((lawNums script at' 10).take c.length).map fun v => v % 10).map fun v => v * n, 0 ≤ v ∧ v ≤ 99 := fun v hv => by
    obtain ⟨u, hu, rfl⟩ := List.mem_map.mp hv
    have := r0 u hu
    have h1 : u * n ≤ 9 * n := Int.mul_le_mul_of_nonneg_right this.2 (by omega)
    exact ⟨Int.mul_nonneg this.1 (by omega), by omega⟩
  have l1 : ((((lawNums script at' 10).take c.length).map fun v => v % 10).map fun v => v * n).length = c.length := by rw [List.length_map, List.length_map, e0]
  unfold evenH
  dsimp only
  split
  · split
    · rename_i hx
      refine ⟨by rw [List.length_set, List.length_set, l1], fun v hv => ?_⟩
      have hkb : 0 ≤ (lawNums script at' 10).getD 8 0 % ((c.length : Int) - 1) := Int.emod_nonneg _ (by omega)
      have hkb2 : (lawNums script at' 10).getD 8 0 % ((c.length : Int) - 1) < (c.length : Int) - 1 := Int.emod_lt_of_pos _ (by omega)
      generalize hk : ((lawNums script at' 10).getD 8 0 % ((c.length : Int) - 1)).toNat = k at *
      have hkc : k + 1 < c.length := by omega
      have a1 := r1 _ (getD_mem (d := 0) (j := k) (by rw [l1]; omega))
      have a2 := r1 _ (getD_mem (d := 0) (j := k + 1) (by rw [l1]; omega))
      rcases List.mem_or_eq_of_mem_set hv with hv | hv
      · rcases List.mem_or_eq_of_mem_set hv with hv | hv
        · exact r1 v hv
        · rw [hv]
          omega
      · rw [hv]
        have s1 := (hc.getD (k := k) (by omega)).1
        have s2 := (hc.getD (k := k + 1) (by omega)).1
        have : 0 ≤ c.getD (k + 1) 0 / c.getD k 0 := Int.ediv_nonneg (by omega) (by omega)
        omega
    · exact ⟨l1, r1⟩
  · exact ⟨by rw [List.length_map, e0], fun v hv => by have := r0 v hv; omega⟩
end Pa
namespace Pa
open PySem PySem.Spec PyProof.Rows L2
theorem WhileS.run {X : Cx} {E : XK} {t : Expr} {body : List Stmt} {x : Nat} (δs : Nat → Ss) (ωs : Nat → Om) (hs : ∀ i, i < x → Xt X t (view (ωs i) (δs i)) true ∧ ∃ δ2, Xb X E body (δs i) (ωs i) (.nx δ2 (ωs (i + 1))) ∧ LessS δ2 (δs (i + 1))) (he : Xt X t (view (ωs x) (δs x)) false) :
    ∀ d i, i + d = x → WhileS X E t body d (δs i) (ωs i) (.nx (δs x) (ωs x))
  | 0, i, h => by
    have e : i = x := by omega
    subst e
    exact .done he
  | d + 1, i, h => by
    obtain ⟨h1, δ2, h2, h3⟩ := hs i (by omega)
    exact .step h1 h2 h3 (WhileS.run δs ωs hs he d (i + 1) (by omega))
theorem i_row {X : Cx} {rs : List (List Int)} {k : Int} (h0 : 0 ≤ k) (h1 : k < rs.length) : Xix X (.lst (rs.map dI)) (.int k) (dI (rs.getD k.toNat [])) := by
  refine i_list ?_
  have e : k = ((k.toNat : Nat) : Int) := by omega
  have g : (rs.map dI)[k.toNat]? = some (dI (rs.getD k.toNat [])) := by
    rw [List.getElem?_map, getD_some (d := []) (by omega)]
    rfl
  rw [e]
  exact atI_nat g
theorem set_getD_same {α : Type} {xs : List α} {j : Nat} {d : α} (h : j < xs.length) : xs.set j (xs.getD j d) = xs := by
  apply List.ext_getElem?
  intro i
  by_cases e : j = i
  · subst e
    rw [List.getElem?_set_self h, getD_some h]
  · rw [List.getElem?_set_ne e]
/-- the lacks, listed -/
def lackList (c h as : List Int) : List Int := (rngD (c.length + 1) fun i => (i : Int)).filter fun k => lacks c h as k.toNat
theorem lackList_head (c h as : List Int) : (lackList c h as).head? = (firstLack c h as).map fun k : Nat => (k : Int) := by
  unfold lackList firstLack rngD
  rw [List.filter_map, List.head?_map, List.head?_filter]
  rfl
theorem lackList_none {c h as : List Int} (e : firstLack c h as = none) : lackList c h as = [] := by
  have := lackList_head c h as
  rw [e] at this
  exact List.head?_eq_none_iff.mp this
theorem lackList_some {c h as : List Int} {k : Nat} (e : firstLack c h as = some k) : ∃ rest, lackList c h as = (k : Int) :: rest := by
  have := lackList_head c h as
  rw [e] at this
  cases q : lackList c h as with
  | nil =>
    rw [q] at this
    cases this
  | cons a b =>
    rw [q] at this
    cases this
    exact ⟨b, rfl⟩
/-- what holds of the payments, whatever lacks -/
structure PaidW (c h as : List Int) (i : Nat) : Prop where
  lef : ∀ j, j < as.length → 0 ≤ (payAt c h as i).2.getD j 0
  zer : ∀ j, j < as.length → ∀ k, k < c.length - i → ((payAt c h as i).1.getD j []).getD k 0 = 0
theorem paidW {c h as : List Int} (hc : Chn c) (hh : Hep c h) (ha : ∀ j, j < as.length → 0 ≤ as.getD j 0) : ∀ i, i ≤ c.length → PaidW c h as i
  | 0, _ => by
    refine ⟨ha, fun j hj k hk => ?_⟩
    show ((List.replicate as.length (List.replicate c.length (0 : Int))).getD j []).getD k 0 = 0
    rw [replicate_getD hj, replicate_getD (by omega)]
  | i + 1, hi => by
    have P := paidW hc hh ha i (by omega)
    obtain ⟨p1, p2, p3⟩ := payAt_len (c := c) (h := h) (as := as) i
    have e1 : payAt c h as (i + 1) = ((Pay.turns (c.getD (c.length - 1 - i) 0) (c.length - 1 - i) ⟨h.getD (c.length - 1 - i) 0, (payAt c h as i).1, (payAt c h as i).2⟩ as.length).rows, (Pay.turns (c.getD (c.length - 1 - i) 0) (c.length - 1 - i) ⟨h.getD (c.length - 1 - i) 0, (payAt c h as i).1, (payAt c h as i).2⟩ as.length).left) := rfl
    have hk : c.length - 1 - i < c.length := by omega
    have hv := hc.getD hk
    have hcnt : 0 ≤ h.getD (c.length - 1 - i) 0 := (hh.rg _ (getD_mem (by rw [hh.len]; omega))).1
    have T := turned (v := c.getD (c.length - 1 - i) 0) (k := c.length - 1 - i) (s := ⟨h.getD (c.length - 1 - i) 0, (payAt c h as i).1, (payAt c h as i).2⟩) (n := as.length) (by omega) hcnt p1 p2 P.lef as.length (Nat.le_refl _)
    refine ⟨fun j hj => ?_, fun j hj k hkk => ?_⟩
    · rw [e1]
      show 0 ≤ (Pay.turns _ _ _ _).left.getD j 0
      rw [T.lef j, if_pos hj]
      have h1 := (T.got0 j hj).2
      generalize got _ _ _ j = x at *
      have h1 : x ≤ (payAt c h as i).2.getD j 0 / c.getD (c.length - 1 - i) 0 := h1
      have h2 : x * c.getD (c.length - 1 - i) 0 ≤ (payAt c h as i).2.getD j 0 / c.getD (c.length - 1 - i) 0 * c.getD (c.length - 1 - i) 0 := Int.mul_le_mul_of_nonneg_right h1 (by omega)
      have h3 := Int.ediv_mul_le ((payAt c h as i).2.getD j 0) (b := c.getD (c.length - 1 - i) 0) (by omega)
      show 0 ≤ (payAt c h as i).2.getD j 0 - x * c.getD (c.length - 1 - i) 0
      omega
    · rw [e1]
      show ((Pay.turns _ _ _ _).rows.getD j []).getD k 0 = 0
      rw [T.row j, if_pos hj, getD_set_ne (by omega)]
      exact P.zer j hj k (by omega)
end Pa
namespace Pa
open PySem PySem.Spec PyProof.Rows L2
def tXf (δ : Sl) (d : Dt) : TE := fun σ H Q => ∃ G, Same G H ∧ EnvD G σ δ ∧ ∀ v H' F, Same H H' → Same F H' → (∀ a, F a ≠ none → H a = none) → Den F v d → Q v H'
def tXfa (δ : Sl) (ds : List Dt) : TA := fun σ H Q => ∃ G, Same G H ∧ EnvD G σ δ ∧ ∀ vs H' F, Same H H' → Same F H' → (∀ a, F a ≠ none → H a = none) → DenL F vs ds → Q vs H'
abbrev Xf (X : Cx) (e : Expr) (δ : Sl) (d : Dt) : Prop := PE X e (tXf δ d)
abbrev Xfa (X : Cx) (es : List Expr) (δ : Sl) (ds : List Dt) : Prop := PA X es (tXfa δ ds)
section
variable {X : Cx} {δ : Sl} {pos p : Pos} {e : Expr} {es : List Expr} {d : Dt} {ds : List Dt} {c : Cell}
theorem xfa_nil : Xfa X [] δ [] := PA.sub pa_nil fun σ H Q h => by
  obtain ⟨G, s, e, k⟩ := h
  exact k [] H (fun _ => none) (.refl _) (fun a o h => by cases h) (fun a h => absurd rfl h) .nil
theorem xfa_flat (he : Xe X e δ d) (f : Flat d) (hr : Xfa X es δ ds) (hs : starEach (e :: es) X.env = (false, eval e X.env) :: starEach es X.env := by rfl) : Xfa X (e :: es) δ (d :: ds) := PA.sub (pa_cons he hr hs) fun σ H Q h => by
  obtain ⟨G, s, en, k⟩ := h
  refine ⟨G, s, en, fun v H1 G1 g1 d1 => ⟨G1, g1.sub, en.mono g1.gg, fun vs H2 F s2 sF fF dF => ?_⟩⟩
  exact k _ H2 F (g1.hh.trans s2) sF (fun a h => same_none g1.hh (fF a h)) (.cons (d1.flat f) dF)
theorem xfa_new (he : Xn X e δ c) (hr : Xfa X es δ ds) (hs : starEach (e :: es) X.env = (false, eval e X.env) :: starEach es X.env := by rfl) : Xfa X (e :: es) δ (c.dt :: ds) := PA.sub (pa_cons he hr hs) fun σ H Q h => by
  obtain ⟨G, s, en, k⟩ := h
  refine ⟨G, s, en, fun q qs H1 s1 n1 nd r => ⟨G, s.trans s1, en, fun vs H2 F s2 sF fF dF => ?_⟩⟩
  have held := r.held
  have ho : ∀ a o, F a = some o → a ∉ q :: qs := fun a o ha hm => held a hm (fF a (by rw [ha]; exact fun z => by cases z))
  have key : Same F (fun a => if a ∈ q :: qs then H1 a else F a) := fun a o ha => by
    show (if a ∈ q :: qs then H1 a else F a) = some o
    rw [if_neg (ho a o ha)]
    exact ha
  refine k _ H2 (fun a => if a ∈ q :: qs then H1 a else F a) (s1.trans s2) (fun a o ha => ?_) (fun a ha => ?_) (.cons ?_ (dF.mono key))
  · have ha : (if a ∈ q :: qs then H1 a else F a) = some o := ha
    split at ha
    · exact s2 a o ha
    · exact sF a o ha
  · have ha : (if a ∈ q :: qs then H1 a else F a) ≠ none := ha
    split at ha
    · rename_i hm
      exact n1 a hm
    · exact same_none s1 (fF a ha)
  · exact (r.keep fun a hm o ho => (by
      show (if a ∈ q :: qs then H1 a else F a) = some o
      rw [if_pos hm]
      exact ho)).den
theorem xf_call {CX : CXT} {k n : Nat} {x : Str} {R : List Dt → Res → Prop} (F : Df X.prog X.w X.K X.mg X.base CX k x n R) (hp : Passes CX X E0) (hr : Room k X.A) (ha : Xfa X (e :: es) δ ds) (hR : R ds (.ok d)) (hn : ds.length = n := by rfl) (hg : Gl X x := by rfl)
    (hdb : (x == ("__debug__" : Str)) = false := by decide) (he : starEach (e :: es) X.env = (false, eval e X.env) :: starEach es X.env := by rfl) (hpl : (backTo pos (starEach es X.env)).any (·.1) = false := by rfl) : Xf X (.Call (.Name x p) (e :: es) [] pos) δ d := by
  obtain ⟨f, fd, ps, Fo, hm, hk, hb⟩ := F.ex
  exact PE.sub (pe_call Fo hr hg hm hk hb .nil hp ha hdb he hpl) fun σ H Q h => by
    obtain ⟨G, s, en, k⟩ := h
    refine ⟨G, s, en, fun vs H1 F1 s1 sF fF dF => ⟨F1, ds, .ok d, hn, sF, ?_, hR, fun v H2 G2 g2 d2 => ?_⟩⟩
    · rw [List.append_nil]
      exact dF
    · refine k _ H2 G2 (s1.trans g2.hh) g2.sub (fun a ha => ?_) d2
      cases q : F1 a with
      | some o => exact fF a (by rw [q]; exact fun z => by cases z)
      | none =>
        cases q2 : H1 a with
        | none => exact same_none s1 q2
        | some o => exact absurd (g2.new a q (by rw [q2]; exact fun z => by cases z)) ha
end
theorem EnvR.forget {R H G : Hp} {σ : L2.St} {δ : Ss} {ω : Om} {regs : List (List Addr)} {i : Nat} {x : Option V} (e : EnvR R H G σ δ ω regs) : EnvR R H G (σ.set i x) (δ.set i none) ω regs := by
  have key : ∀ (j : Nat) (y : S), (δ.set i none)[j]? = some (some y) → δ[j]? = some (some y) ∧ (σ.set i x)[j]? = σ[j]? := fun j y q => by
    by_cases hj : i = j
    · subst hj
      have hi : i < δ.length := by
        have := (List.getElem?_eq_some_iff.mp q).1
        rwa [List.length_set] at this
      rw [List.getElem?_set_self hi] at q
      cases q
    · rw [List.getElem?_set_ne hj] at q
      exact ⟨q, List.getElem?_set_ne hj⟩
  refine ⟨e.rh, e.gh, e.rg, by rw [List.length_set, List.length_set]; exact e.len, e.rlen, e.nd, e.real, e.out, fun j d q => ?_, fun j y q => ?_⟩
  · obtain ⟨a, b⟩ := key j _ q
    obtain ⟨v, h1, h2⟩ := e.sh j d a
    exact ⟨v, by rw [b]; exact h1, h2⟩
  · obtain ⟨a, b⟩ := key j _ q
    obtain ⟨v, h1, h2⟩ := e.ow j y a
    exact ⟨v, by rw [b]; exact h1, h2⟩
theorem EnvR.alien {R H G : Hp} {σ : L2.St} {δ : Ss} {ω : Om} {regs : List (List Addr)} {q : Addr} {o : HO} (e : EnvR R H G σ δ ω regs) (hR : R q = none) (hG : G q = none) (hr : q ∉ regs.flatten) : EnvR R (upd H q o) G σ δ ω regs := by
  have keep : ∀ (b : Addr) (u : HO), b ≠ q → H b = some u → upd H q o b = some u := fun b u hb hu => by
    rw [upd_ne hb]
    exact hu
  exact ⟨fun b u hu => keep b u (fun z => by rw [z, hR] at hu; cases hu) (e.rh b u hu), fun b u hu => keep b u (fun z => by rw [z, hG] at hu; cases hu) (e.gh b u hu), e.rg, e.len, e.rlen, e.nd,
    fun n c as h1 h2 => (e.real n c as h1 h2).keep fun b hb u hu => keep b u (fun z => hr (by rw [← z]; exact e.mem h2 hb)) hu, e.out, e.sh, e.ow⟩
section
variable {X : Cx} {E : XK} {δ : Ss} {ω : Om} {i : Nat} {x : Str} {e c2 c3 o a0 : Expr} {b2 : List Stmt} {d : Dt} {b3 : Bool} {px sp p2 p3 p4 ap cp : Pos} {rest : List Stmt} {O : Out}
/-- x = e, new; if c2: .. ; if c3: o.append(a0), o a part of x; and x is forgotten -/
theorem xb_fresh (hN : X.N.Nodup) (he : Xf X e (view ω δ) d) (h2 : Xt X c2 ((view ω δ).set i (some d)) false) (h3 : Xt X c3 ((view ω δ).set i (some d)) b3)
    (h4 : b3 = true → ∃ row : List Int, row.length ≤ 100000 ∧ ∃ v : Int, Xe X o ((List.replicate δ.length none).set i (some d)) (dI row) ∧ Xe X a0 ((List.replicate δ.length none).set i (some d)) (.int v)) (hil : i < δ.length) (hr : Xb X E rest (δ.set i none) ω O) (hi : X.N[i]? = some x := by rfl) (hx : Loc X.env.scope x := by first | exact Or.inl rfl | exact Or.inr rfl)
    (hs : swapsWith e (some (.Name x px)) sp.line X.env = pure false := by rfl) (hf : X.fn x = true ∨ X.env.scope.names.lookup x = some .local := by first | exact .inl rfl | exact .inr rfl)
    (hbase : attributeBase o "append" X.env (eval o X.env) = eval o X.env := by rfl)
    (hfew : ((backTo cp (starEach [a0] X.env)).all (fun x => !x.1) && (backToKw cp (keywordEach [] X.env)).all (fun x => x.1.isSome) && decide ([a0].length + ([] : List Keyword).length + (if ([] : List Keyword).isEmpty then 0 else 1) < 30)) = true := by rfl)
    (hline : (ap.endLine == cp.line) = true := by rfl) (hs1 : starEach (a0 :: []) X.env = (false, eval a0 X.env) :: starEach [] X.env := by rfl) (hplain : (backTo cp (starEach [] X.env)).any (·.1) = false := by rfl)
    (hsw : swapsWith (.Call (.Attribute o "append" ap) [a0] [] cp) none p4.line X.env = pure false := by rfl) :
    Xb X E (.Assign [.Name x px] e sp :: .If c2 b2 [] p2 :: .If c3 [.Expr (.Call (.Attribute o "append" ap) [a0] [] cp) p4] [] p3 :: rest) δ ω O := by
  cases b3 with
  | false =>
    refine PSs.sub (pss_cons (ps_set hN hi hx he hs hf) (pss_cons (ps_if h2 pss_never pss_nil) (pss_cons (ps_if h3 pss_never pss_nil) hr))) fun D σ H h => ?_
    obtain ⟨R, G, regs, en, k⟩ := h
    refine ⟨_, offR_same, en.view, fun v H1 F s1 sF fF dv => ?_⟩
    have e1 : EnvR R H1 G (σ.set i (some v)) (δ.set i none) ω regs := (en.junk s1).forget
    have fR : ∀ a, F a ≠ none → R a = none := fun a ha => same_none en.rh (fF a ha)
    have v1 : ∀ H', Same H1 H' → EnvD (offR R H') (σ.set i (some v)) ((view ω δ).set i (some d)) := fun H' s' => by
      have sF' : Same F (offR R H') := fun a o ha => by
        rw [offR_none (fR a (by rw [ha]; exact fun z => by cases z))]
        exact s' a o (sF a o ha)
      exact EnvD.set ((en.junk (s1.trans s')).view) (dv.mono sF')
    refine ⟨_, offR_same, v1 H1 (.refl _), fun H2 G2 g2 => ?_⟩
    refine ⟨_, offR_same, v1 H2 g2.hh, fun H3 G3 g3 => ?_⟩
    exact ⟨R, G, regs, e1.junk (g2.hh.trans g3.hh), k⟩
  | true =>
    obtain ⟨row, hz, v0, ho, ha0⟩ := h4 rfl
    refine PSs.sub (pss_cons (ps_set hN hi hx he hs hf) (pss_cons (ps_if h2 pss_never pss_nil) (pss_cons (ps_if h3 (pss_cons (ps_expr (pe_bm PySem.F.plainAttrs_list PySem.F.slot_list_append PySem.F.type_list_append mt_append ho (xa_cons ha0 xa_nil hs1) hbase hfew hline hs1 hplain) hsw) pss_nil) pss_never) hr))) fun D σ H h => ?_
    obtain ⟨R, G, regs, en, k⟩ := h
    refine ⟨_, offR_same, en.view, fun v H1 F s1 sF fF dv => ?_⟩
    have e1 : EnvR R H1 G (σ.set i (some v)) (δ.set i none) ω regs := (en.junk s1).forget
    have fR : ∀ a, F a ≠ none → R a = none := fun a ha => same_none en.rh (fF a ha)
    have v1 : ∀ H', Same H1 H' → EnvD (offR R H') (σ.set i (some v)) ((view ω δ).set i (some d)) := fun H' s' => by
      have sF' : Same F (offR R H') := fun a o ha => by
        rw [offR_none (fR a (by rw [ha]; exact fun z => by cases z))]
        exact s' a o (sF a o ha)
      exact EnvD.set ((en.junk (s1.trans s')).view) (dv.mono sF')
    have vt : EnvD F (σ.set i (some v)) ((List.replicate δ.length none).set i (some d)) := by
      refine ⟨by rw [List.length_set, List.length_set, List.length_replicate]; exact en.len, fun j d' q => ?_⟩
      by_cases hj : i = j
      · subst hj
        rw [List.getElem?_set_self (by rw [List.length_replicate]; exact hil)] at q
        cases q
        exact ⟨v, List.getElem?_set_self (by rw [en.len]; exact hil), dv⟩
      · rw [List.getElem?_set_ne hj, List.getElem?_replicate] at q
        split at q <;> cases q
    refine ⟨_, offR_same, v1 H1 (.refl _), fun H2 G2 g2 => ?_⟩
    refine ⟨_, offR_same, v1 H2 g2.hh, fun H3 G3 g3 => ?_⟩
    have s13 := g2.hh.trans g3.hh
    refine ⟨F, sF.trans s13, vt, fun v4 H4 F4 g4 d4 => ?_⟩
    obtain ⟨q, rfl, hq⟩ := dI_inv d4
    refine ⟨.inl ⟨rfl, _, .inl (.inl (g4.sub _ _ hq))⟩, ?_⟩
    refine ⟨F4, g4.sub, vt.mono g4.gg, fun vs H5 F5 g5 dl => ?_⟩
    have ev := dl.ints_inv (ns := [v0])
    subst ev
    have hqH : H q = none := by
      have hne : F4 q ≠ none := by rw [hq]; exact fun z => by cases z
      cases w : F q with
      | some o => exact fF q (by rw [w]; exact fun z => by cases z)
      | none =>
        cases w2 : H3 q with
        | none => exact same_none (s1.trans s13) w2
        | some o => exact absurd (g4.new q w (by rw [w2]; exact fun z => by cases z)) hne
    refine ⟨q, row.map V.int, .int v0, rfl, rfl, g5.hh _ _ (g4.sub _ _ hq), by rw [List.length_map]; exact Nat.lt_of_le_of_lt hz (by rw [sizeLine_eq]; omega), ?_⟩
    have eq := e1.junk ((s13.trans g4.hh).trans g5.hh)
    refine ⟨R, G, regs, eq.alien (same_none en.rh hqH) (same_none en.gh hqH) (fun hm => en.held q hm hqH), k⟩
end
end Pa
namespace Pa
open PySem PySem.Spec PyProof.Rows L2
theorem sharedD_worth {c h : List Int} {n : Int} (h0 : 0 < worth c h % n) : sharedD c h n = .tup [.str "worth", .int (worth c h % n)] ∧ sharesB c h n = false := by
  unfold sharedD sharesB
  rw [if_pos h0, decide_eq_false (by omega)]
  exact ⟨rfl, rfl⟩
theorem sharedD_lack {c h : List Int} {n : Int} {k : Nat} (h0 : ¬ 0 < worth c h % n) (e : firstLack c h (evens c h n) = some k) : sharedD c h n = .tup [.str "value", .int k, .int (leftBy c (evens c h n) k), .int (lesser c h k)] ∧ sharesB c h n = false := by
  unfold sharedD sharesB
  rw [if_neg h0, e, decide_eq_true (by omega)]
  exact ⟨rfl, rfl⟩
theorem sharedD_none {c h : List Int} {n : Int} (h0 : ¬ 0 < worth c h % n) (e : firstLack c h (evens c h n) = none) : sharedD c h n = .tup [.str "shares", .lst ((housePay c h (evens c h n)).map dI)] ∧ sharesB c h n = true := by
  unfold sharedD sharesB
  rw [if_neg h0, e, decide_eq_true (by omega)]
  exact ⟨rfl, rfl⟩
theorem sharedD_shares {c h : List Int} {n : Int} (hs : sharesB c h n = true) : sharedD c h n = .tup [.str "shares", .lst ((housePay c h (evens c h n)).map dI)] := by
  by_cases h0 : 0 < worth c h % n
  · rw [(sharedD_worth h0).2] at hs
    cases hs
  · cases e : firstLack c h (evens c h n) with
    | none => exact (sharedD_none h0 e).1
    | some k =>
      rw [(sharedD_lack h0 e).2] at hs
      cases hs
theorem sharedD_nod (c h : List Int) (n : Int) : (sharedD c h n).nod = true ∧ SeqAt.shaped (sharedD c h n).toP = true := by
  by_cases h0 : 0 < worth c h % n
  · rw [(sharedD_worth h0).1]
    exact ⟨nod_tagInts "worth" [_], shaped_tagInts "worth" (by decide +kernel) [_]⟩
  · cases e : firstLack c h (evens c h n) with
    | none =>
      rw [(sharedD_none h0 e).1]
      exact ⟨nod_tagRows _ _, shaped_tagRows "shares" (by decide +kernel) _⟩
    | some k =>
      rw [(sharedD_lack h0 e).1]
      exact ⟨nod_tagInts "value" [_, _, _], shaped_tagInts "value" (by decide +kernel) [_, _, _]⟩
/-- the numbers of persons found by the law, behind j turns -/
def countsAt (c h : List Int) (j : Nat) : List Int := (rngD j fun i => 2 + (i : Int)).filter (sharesB c h)
theorem countsAt_succ {c h : List Int} {j : Nat} : countsAt c h (j + 1) = if sharesB c h (2 + (j : Int)) = true then countsAt c h j ++ [2 + (j : Int)] else countsAt c h j := by
  unfold countsAt rngD
  rw [List.range_succ, List.map_append, List.filter_append]
  by_cases e : sharesB c h (2 + (j : Int)) = true
  · rw [if_pos e]
    congr 1
    show List.filter (sharesB c h) [2 + (j : Int)] = _
    rw [List.filter_cons, if_pos e]
    rfl
  · rw [if_neg e]
    have : List.filter (sharesB c h) [2 + (j : Int)] = [] := by
      rw [List.filter_cons, if_neg e]
      rfl
    show _ ++ List.filter (sharesB c h) [2 + (j : Int)] = _
    rw [this, List.append_nil]
theorem countsAt_len {c h : List Int} {j : Nat} : (countsAt c h j).length ≤ j := by
  unfold countsAt
  exact Nat.le_trans (List.length_filter_le _ _) (by rw [rngD_len]; exact Nat.le_refl _)
theorem worth_nonneg {c h : List Int} (hc : Chn c) (hh : Hep c h) : 0 ≤ worth c h := by
  rw [worth_S1 hh.len]
  refine S1_nonneg fun k hk => Int.mul_nonneg ?_ (hh.rg _ (getD_mem (by rw [hh.len]; exact hk))).1
  have := hc.getD hk
  omega
end Pa
namespace Pa
open PySem PySem.Spec PyProof.Rows L2
def top (i : Nat) : Stmt := PySem.Challenge.pw_paidatonce_k99_whole_shares_ways_and_exc.main.body.getD i (.Pass ⟨0, 0, 0, 0⟩)
abbrev s_is_whole : Stmt := top 2
abbrev s_is_from_to : Stmt := top 3
abbrev s_is_amount : Stmt := top 4
abbrev s_is_listed : Stmt := top 15
abbrev s_follows : Stmt := top 16
abbrev s_first_wrong_chains : Stmt := top 17
abbrev s_check_chain : Stmt := top 19
abbrev s_check_amount : Stmt := top 20
abbrev s_first_wrong_heaps : Stmt := top 24
abbrev s_check_counts_heaps : Stmt := top 26
abbrev s_check_heap : Stmt := top 28
abbrev s_worth_of : Stmt := top 29
abbrev s_lesser_of : Stmt := top 30
abbrev s_left_by : Stmt := top 32
abbrev s_spare_list : Stmt := top 33
abbrev s_house_payments : Stmt := top 34
abbrev s_first_lack : Stmt := top 35
abbrev s_told_answer : Stmt := top 36
abbrev s_check_persons : Stmt := top 40
abbrev s_check_sharing : Stmt := top 41
abbrev s_shared : Stmt := top 42
abbrev s_answer : Stmt := top 43
abbrev s_numbers : Stmt := top 44
abbrev s_are_any_counts : Stmt := top 46
abbrev s_plain_of : Stmt := top 47
abbrev s_check_paying : Stmt := top 49
abbrev s_greedy : Stmt := top 50
abbrev s_paid : Stmt := top 51
abbrev s_first_payment : Stmt := top 52
abbrev s_can_pay : Stmt := top 53
abbrev s_check_counts_exchange : Stmt := top 56
abbrev s_check_one : Stmt := top 58
abbrev s_plain_form : Stmt := top 59
abbrev s_numbers_at : Stmt := top 61
abbrev s_known_ways : Stmt := top 62
abbrev s_sums_at : Stmt := top 63
abbrev s_way_numbered : Stmt := top 64
abbrev s_number_told : Stmt := top 65
abbrev s_totals : Stmt := top 67
abbrev s_way_count : Stmt := top 68
abbrev s_way_at : Stmt := top 69
abbrev s_number_of : Stmt := top 70
abbrev s__law_numbers : Stmt := top 72
abbrev s__law_chain : Stmt := top 73
abbrev s__law_worth : Stmt := top 74
abbrev s__law_even_heap : Stmt := top 75
abbrev s_law : Stmt := top 76
theorem sc_is_whole : FnScope ["value"] ["value"] (defScope s_is_whole) := ⟨rfl, rfl, rfl, by decide +kernel, rfl, by decide +kernel, by decide +kernel⟩
theorem sc_is_from_to : FnScope ["value", "least", "most"] ["value", "least", "most"] (defScope s_is_from_to) := ⟨rfl, rfl, rfl, by decide +kernel, rfl, by decide +kernel, by decide +kernel⟩
theorem sc_is_amount : FnScope ["value"] ["value"] (defScope s_is_amount) := ⟨rfl, rfl, rfl, by decide +kernel, rfl, by decide +kernel, by decide +kernel⟩
theorem sc_is_listed : FnScope ["value"] ["value"] (defScope s_is_listed) := ⟨rfl, rfl, rfl, by decide +kernel, rfl, by decide +kernel, by decide +kernel⟩
theorem sc_follows : FnScope ["before", "value"] ["before", "value"] (defScope s_follows) := ⟨rfl, rfl, rfl, by decide +kernel, rfl, by decide +kernel, by decide +kernel⟩
theorem sc_first_wrong_chains : FnScope ["listed", "index", "value"] ["listed"] (defScope s_first_wrong_chains) := ⟨rfl, rfl, rfl, by decide +kernel, rfl, by decide +kernel, by decide +kernel⟩
theorem sc_check_chain : FnScope ["value", "wrong"] ["value"] (defScope s_check_chain) := ⟨rfl, rfl, rfl, by decide +kernel, rfl, by decide +kernel, by decide +kernel⟩
theorem sc_check_amount : FnScope ["value"] ["value"] (defScope s_check_amount) := ⟨rfl, rfl, rfl, by decide +kernel, rfl, by decide +kernel, by decide +kernel⟩
theorem sc_first_wrong_heaps : FnScope ["heap", "index", "count"] ["heap"] (defScope s_first_wrong_heaps) := ⟨rfl, rfl, rfl, by decide +kernel, rfl, by decide +kernel, by decide +kernel⟩
theorem sc_check_counts_heaps : FnScope ["chain", "value", "wrong"] ["chain", "value"] (defScope s_check_counts_heaps) := ⟨rfl, rfl, rfl, by decide +kernel, rfl, by decide +kernel, by decide +kernel⟩
theorem sc_check_heap : FnScope ["chain", "value"] ["chain", "value"] (defScope s_check_heap) := ⟨rfl, rfl, rfl, by decide +kernel, rfl, by decide +kernel, by decide +kernel⟩
theorem sc_worth_of : FnScope ["chain", "heap", "value", "count"] ["chain", "heap"] (defScope s_worth_of) := ⟨rfl, rfl, rfl, by decide +kernel, rfl, by decide +kernel, by decide +kernel⟩
theorem sc_lesser_of : FnScope ["chain", "heap", "k"] ["chain", "heap", "k"] (defScope s_lesser_of) := ⟨rfl, rfl, rfl, by decide +kernel, rfl, by decide +kernel, by decide +kernel⟩
theorem sc_left_by : FnScope ["chain", "amounts", "k", "amount"] ["chain", "amounts", "k"] (defScope s_left_by) := ⟨rfl, rfl, rfl, by decide +kernel, rfl, by decide +kernel, by decide +kernel⟩
theorem sc_spare_list : FnScope ["chain", "heap", "amounts", "k"] ["chain", "heap", "amounts"] (defScope s_spare_list) := ⟨rfl, rfl, rfl, by decide +kernel, rfl, by decide +kernel, by decide +kernel⟩
theorem sc_house_payments : FnScope ["chain", "heap", "amounts", "rows", "_", "left", "k", "count", "at", "row"] ["chain", "heap", "amounts"] (defScope s_house_payments) := ⟨rfl, rfl, rfl, by decide +kernel, rfl, by decide +kernel, by decide +kernel⟩
theorem sc_first_lack : FnScope ["chain", "heap", "amounts", "k", "spare"] ["chain", "heap", "amounts"] (defScope s_first_lack) := ⟨rfl, rfl, rfl, by decide +kernel, rfl, by decide +kernel, by decide +kernel⟩
theorem sc_told_answer : FnScope ["chain", "heap", "amounts", "lack"] ["chain", "heap", "amounts"] (defScope s_told_answer) := ⟨rfl, rfl, rfl, by decide +kernel, rfl, by decide +kernel, by decide +kernel⟩
theorem sc_check_persons : FnScope ["value"] ["value"] (defScope s_check_persons) := ⟨rfl, rfl, rfl, by decide +kernel, rfl, by decide +kernel, by decide +kernel⟩
theorem sc_check_sharing : FnScope ["chain", "heap", "n"] ["chain", "heap", "n"] (defScope s_check_sharing) := ⟨rfl, rfl, rfl, by decide +kernel, rfl, by decide +kernel, by decide +kernel⟩
theorem sc_shared : FnScope ["chain", "heap", "n", "whole", "found"] ["chain", "heap", "n"] (defScope s_shared) := ⟨rfl, rfl, rfl, by decide +kernel, rfl, by decide +kernel, by decide +kernel⟩
theorem sc_answer : FnScope ["chain", "heap", "n"] ["chain", "heap", "n"] (defScope s_answer) := ⟨rfl, rfl, rfl, by decide +kernel, rfl, by decide +kernel, by decide +kernel⟩
theorem sc_numbers : FnScope ["chain", "heap", "n"] ["chain", "heap"] (defScope s_numbers) := ⟨rfl, rfl, rfl, by decide +kernel, rfl, by decide +kernel, by decide +kernel⟩
theorem sc_are_any_counts : FnScope ["chain", "value", "count"] ["chain", "value"] (defScope s_are_any_counts) := ⟨rfl, rfl, rfl, by decide +kernel, rfl, by decide +kernel, by decide +kernel⟩
theorem sc_plain_of : FnScope ["chain", "heap", "found", "k", "step"] ["chain", "heap"] (defScope s_plain_of) := ⟨rfl, rfl, rfl, by decide +kernel, rfl, by decide +kernel, by decide +kernel⟩
theorem sc_check_paying : FnScope ["chain", "heap", "amount"] ["chain", "heap", "amount"] (defScope s_check_paying) := ⟨rfl, rfl, rfl, by decide +kernel, rfl, by decide +kernel, by decide +kernel⟩
theorem sc_greedy : FnScope ["chain", "heap", "amount", "found", "value", "count", "number"] ["chain", "heap", "amount"] (defScope s_greedy) := ⟨rfl, rfl, rfl, by decide +kernel, rfl, by decide +kernel, by decide +kernel⟩
theorem sc_paid : FnScope ["chain", "heap", "amount", "counts", "left"] ["chain", "heap", "amount"] (defScope s_paid) := ⟨rfl, rfl, rfl, by decide +kernel, rfl, by decide +kernel, by decide +kernel⟩
theorem sc_first_payment : FnScope ["chain", "heap", "amount"] ["chain", "heap", "amount"] (defScope s_first_payment) := ⟨rfl, rfl, rfl, by decide +kernel, rfl, by decide +kernel, by decide +kernel⟩
theorem sc_can_pay : FnScope ["chain", "heap", "amount"] ["chain", "heap", "amount"] (defScope s_can_pay) := ⟨rfl, rfl, rfl, by decide +kernel, rfl, by decide +kernel, by decide +kernel⟩
theorem sc_check_counts_exchange : FnScope ["chain", "value"] ["chain", "value"] (defScope s_check_counts_exchange) := ⟨rfl, rfl, rfl, by decide +kernel, rfl, by decide +kernel, by decide +kernel⟩
theorem sc_check_one : FnScope ["chain", "heap"] ["chain", "heap"] (defScope s_check_one) := ⟨rfl, rfl, rfl, by decide +kernel, rfl, by decide +kernel, by decide +kernel⟩
theorem sc_plain_form : FnScope ["chain", "heap"] ["chain", "heap"] (defScope s_plain_form) := ⟨rfl, rfl, rfl, by decide +kernel, rfl, by decide +kernel, by decide +kernel⟩
theorem sc_numbers_at : FnScope ["chain", "heap", "k", "left", "value", "most", "step"] ["chain", "heap", "k", "left"] (defScope s_numbers_at) := ⟨rfl, rfl, rfl, by decide +kernel, rfl, by decide +kernel, by decide +kernel⟩
theorem sc_known_ways : FnScope ["chain", "heap", "amount", "lefts", "k", "found", "left", "number", "tables"] ["chain", "heap", "amount"] (defScope s_known_ways) := ⟨rfl, rfl, rfl, by decide +kernel, rfl, by decide +kernel, by decide +kernel⟩
theorem sc_sums_at : FnScope ["chain", "heap", "k", "left", "behind", "ways", "pieces", "number", "more", "other"] ["chain", "heap", "k", "left", "behind"] (defScope s_sums_at) := ⟨rfl, rfl, rfl, by decide +kernel, rfl, by decide +kernel, by decide +kernel⟩
theorem sc_way_numbered : FnScope ["chain", "heap", "amount", "number", "tables", "found", "k", "count", "ways"] ["chain", "heap", "amount", "number"] (defScope s_way_numbered) := ⟨rfl, rfl, rfl, by decide +kernel, rfl, by decide +kernel, by decide +kernel⟩
theorem sc_number_told : FnScope ["chain", "heap", "amount", "payment", "tables", "number", "k", "own", "count"] ["chain", "heap", "amount", "payment"] (defScope s_number_told) := ⟨rfl, rfl, rfl, by decide +kernel, rfl, by decide +kernel, by decide +kernel⟩
theorem sc_totals : FnScope ["chain", "heap", "amount"] ["chain", "heap", "amount"] (defScope s_totals) := ⟨rfl, rfl, rfl, by decide +kernel, rfl, by decide +kernel, by decide +kernel⟩
theorem sc_way_count : FnScope ["chain", "heap", "amount"] ["chain", "heap", "amount"] (defScope s_way_count) := ⟨rfl, rfl, rfl, by decide +kernel, rfl, by decide +kernel, by decide +kernel⟩
theorem sc_way_at : FnScope ["chain", "heap", "amount", "number", "count"] ["chain", "heap", "amount", "number"] (defScope s_way_at) := ⟨rfl, rfl, rfl, by decide +kernel, rfl, by decide +kernel, by decide +kernel⟩
theorem sc_number_of : FnScope ["chain", "heap", "amount", "payment"] ["chain", "heap", "amount", "payment"] (defScope s_number_of) := ⟨rfl, rfl, rfl, by decide +kernel, rfl, by decide +kernel, by decide +kernel⟩
theorem sc__law_numbers : FnScope ["script", "at", "many", "cell", "numbers_v", "k", "mixed"] ["script", "at", "many"] (defScope s__law_numbers) := ⟨rfl, rfl, rfl, by decide +kernel, rfl, by decide +kernel, by decide +kernel⟩
theorem sc__law_chain : FnScope ["script", "at", "most", "numbers_v", "chain", "k"] ["script", "at", "most"] (defScope s__law_chain) := ⟨rfl, rfl, rfl, by decide +kernel, rfl, by decide +kernel, by decide +kernel⟩
theorem sc__law_worth : FnScope ["chain", "heap", "k"] ["chain", "heap"] (defScope s__law_worth) := ⟨rfl, rfl, rfl, by decide +kernel, rfl, by decide +kernel, by decide +kernel⟩
theorem sc__law_even_heap : FnScope ["script", "at", "chain", "n", "numbers_v", "heap", "number", "count", "k", "step"] ["script", "at", "chain", "n"] (defScope s__law_even_heap) := ⟨rfl, rfl, rfl, by decide +kernel, rfl, by decide +kernel, by decide +kernel⟩
theorem sc_law : FnScope ["script", "chain", "n", "heap", "count", "whole", "told", "part", "row", "counts", "divisor"] ["script"] (defScope s_law) := ⟨rfl, rfl, rfl, by decide +kernel, rfl, by decide +kernel, by decide +kernel⟩
/-- what the top leaves -/
structure Txt (K : PySem.W.Frag) (mg : Str → Option Value) : Prop where
  b_enumerate : mg "enumerate" = none
  b_sum : mg "sum" = none
  b_list : mg "list" = none
  b_range : mg "range" = none
  b_all : mg "all" = none
  b_zip : mg "zip" = none
  b_min : mg "min" = none
  b_isinstance : mg "isinstance" = none
  b_int : mg "int" = none
  b_len : mg "len" = none
  b_reversed : mg "reversed" = none
  b_bool : mg "bool" = none
  c_MOST_AMOUNT : ∃ t, mg "MOST_AMOUNT" = some (.int (1000000000) t)
  c_MOST_VALUES : ∃ t, mg "MOST_VALUES" = some (.int (8) t)
  c_GREATEST_VALUE : ∃ t, mg "GREATEST_VALUE" = some (.int (1000000) t)
  c_WRONG_LIST_chains : ∃ t, mg "WRONG_LIST_chains" = some (.int (-1) t)
  c_MOST_PIECES : ∃ t, mg "MOST_PIECES" = some (.int (99) t)
  c_WRONG_LIST_heaps : ∃ t, mg "WRONG_LIST_heaps" = some (.int (-1) t)
  c_FEWEST : ∃ t, mg "FEWEST" = some (.int (2) t)
  c_MOST : ∃ t, mg "MOST" = some (.int (8) t)
  c_WRONG : ∃ t, mg "WRONG" = some (.int (-1) t)
  f_is_whole : ∃ (f : Addr) (fd : FuncData), mg "is_whole" = some (.ref f) ∧ FunD K "is_whole" "is_whole" (defArgs s_is_whole) (defBody s_is_whole) (defScope s_is_whole) [] [] f fd
  f_is_from_to : ∃ (f : Addr) (fd : FuncData), mg "is_from_to" = some (.ref f) ∧ FunD K "is_from_to" "is_from_to" (defArgs s_is_from_to) (defBody s_is_from_to) (defScope s_is_from_to) [] [] f fd
  f_is_amount : ∃ (f : Addr) (fd : FuncData), mg "is_amount" = some (.ref f) ∧ FunD K "is_amount" "is_amount" (defArgs s_is_amount) (defBody s_is_amount) (defScope s_is_amount) [] [] f fd
  f_is_listed : ∃ (f : Addr) (fd : FuncData), mg "is_listed" = some (.ref f) ∧ FunD K "is_listed" "is_listed" (defArgs s_is_listed) (defBody s_is_listed) (defScope s_is_listed) [] [] f fd
  f_follows : ∃ (f : Addr) (fd : FuncData), mg "follows" = some (.ref f) ∧ FunD K "follows" "follows" (defArgs s_follows) (defBody s_follows) (defScope s_follows) [] [] f fd
  f_first_wrong_chains : ∃ (f : Addr) (fd : FuncData), mg "first_wrong_chains" = some (.ref f) ∧ FunD K "first_wrong" "first_wrong" (defArgs s_first_wrong_chains) (defBody s_first_wrong_chains) (defScope s_first_wrong_chains) [] [] f fd
  f_check_chain : ∃ (f : Addr) (fd : FuncData), mg "check_chain" = some (.ref f) ∧ FunD K "check_chain" "check_chain" (defArgs s_check_chain) (defBody s_check_chain) (defScope s_check_chain) [] [] f fd
  f_check_amount : ∃ (f : Addr) (fd : FuncData), mg "check_amount" = some (.ref f) ∧ FunD K "check_amount" "check_amount" (defArgs s_check_amount) (defBody s_check_amount) (defScope s_check_amount) [] [] f fd
  f_first_wrong_heaps : ∃ (f : Addr) (fd : FuncData), mg "first_wrong_heaps" = some (.ref f) ∧ FunD K "first_wrong" "first_wrong" (defArgs s_first_wrong_heaps) (defBody s_first_wrong_heaps) (defScope s_first_wrong_heaps) [] [] f fd
  f_check_counts_heaps : ∃ (f : Addr) (fd : FuncData), mg "check_counts_heaps" = some (.ref f) ∧ FunD K "check_counts" "check_counts" (defArgs s_check_counts_heaps) (defBody s_check_counts_heaps) (defScope s_check_counts_heaps) [] [] f fd
  f_check_heap : ∃ (f : Addr) (fd : FuncData), mg "check_heap" = some (.ref f) ∧ FunD K "check_heap" "check_heap" (defArgs s_check_heap) (defBody s_check_heap) (defScope s_check_heap) [] [] f fd
  f_worth_of : ∃ (f : Addr) (fd : FuncData), mg "worth_of" = some (.ref f) ∧ FunD K "worth_of" "worth_of" (defArgs s_worth_of) (defBody s_worth_of) (defScope s_worth_of) [] [] f fd
  f_lesser_of : ∃ (f : Addr) (fd : FuncData), mg "lesser_of" = some (.ref f) ∧ FunD K "lesser_of" "lesser_of" (defArgs s_lesser_of) (defBody s_lesser_of) (defScope s_lesser_of) [] [] f fd
  f_left_by : ∃ (f : Addr) (fd : FuncData), mg "left_by" = some (.ref f) ∧ FunD K "left_by" "left_by" (defArgs s_left_by) (defBody s_left_by) (defScope s_left_by) [] [] f fd
  f_spare_list : ∃ (f : Addr) (fd : FuncData), mg "spare_list" = some (.ref f) ∧ FunD K "spare_list" "spare_list" (defArgs s_spare_list) (defBody s_spare_list) (defScope s_spare_list) [] [] f fd
  f_house_payments : ∃ (f : Addr) (fd : FuncData), mg "house_payments" = some (.ref f) ∧ FunD K "house_payments" "house_payments" (defArgs s_house_payments) (defBody s_house_payments) (defScope s_house_payments) [] [] f fd
  f_first_lack : ∃ (f : Addr) (fd : FuncData), mg "first_lack" = some (.ref f) ∧ FunD K "first_lack" "first_lack" (defArgs s_first_lack) (defBody s_first_lack) (defScope s_first_lack) [] [] f fd
  f_told_answer : ∃ (f : Addr) (fd : FuncData), mg "told_answer" = some (.ref f) ∧ FunD K "told_answer" "told_answer" (defArgs s_told_answer) (defBody s_told_answer) (defScope s_told_answer) [] [] f fd
  f_check_persons : ∃ (f : Addr) (fd : FuncData), mg "check_persons" = some (.ref f) ∧ FunD K "check_persons" "check_persons" (defArgs s_check_persons) (defBody s_check_persons) (defScope s_check_persons) [] [] f fd
  f_check_sharing : ∃ (f : Addr) (fd : FuncData), mg "check_sharing" = some (.ref f) ∧ FunD K "check_sharing" "check_sharing" (defArgs s_check_sharing) (defBody s_check_sharing) (defScope s_check_sharing) [] [] f fd
  f_shared : ∃ (f : Addr) (fd : FuncData), mg "shared" = some (.ref f) ∧ FunD K "shared" "shared" (defArgs s_shared) (defBody s_shared) (defScope s_shared) [] [] f fd
  f_answer : ∃ (f : Addr) (fd : FuncData), mg "answer" = some (.ref f) ∧ FunD K "answer" "answer" (defArgs s_answer) (defBody s_answer) (defScope s_answer) [] [] f fd
  f_numbers : ∃ (f : Addr) (fd : FuncData), mg "numbers" = some (.ref f) ∧ FunD K "numbers" "numbers" (defArgs s_numbers) (defBody s_numbers) (defScope s_numbers) [] [] f fd
  f_are_any_counts : ∃ (f : Addr) (fd : FuncData), mg "are_any_counts" = some (.ref f) ∧ FunD K "are_any_counts" "are_any_counts" (defArgs s_are_any_counts) (defBody s_are_any_counts) (defScope s_are_any_counts) [] [] f fd
  f_plain_of : ∃ (f : Addr) (fd : FuncData), mg "plain_of" = some (.ref f) ∧ FunD K "plain_of" "plain_of" (defArgs s_plain_of) (defBody s_plain_of) (defScope s_plain_of) [] [] f fd
  f_check_paying : ∃ (f : Addr) (fd : FuncData), mg "check_paying" = some (.ref f) ∧ FunD K "check_paying" "check_paying" (defArgs s_check_paying) (defBody s_check_paying) (defScope s_check_paying) [] [] f fd
  f_greedy : ∃ (f : Addr) (fd : FuncData), mg "greedy" = some (.ref f) ∧ FunD K "greedy" "greedy" (defArgs s_greedy) (defBody s_greedy) (defScope s_greedy) [] [] f fd
  f_paid : ∃ (f : Addr) (fd : FuncData), mg "paid" = some (.ref f) ∧ FunD K "paid" "paid" (defArgs s_paid) (defBody s_paid) (defScope s_paid) [] [] f fd
  f_first_payment : ∃ (f : Addr) (fd : FuncData), mg "first_payment" = some (.ref f) ∧ FunD K "first_payment" "first_payment" (defArgs s_first_payment) (defBody s_first_payment) (defScope s_first_payment) [] [] f fd
  f_can_pay : ∃ (f : Addr) (fd : FuncData), mg "can_pay" = some (.ref f) ∧ FunD K "can_pay" "can_pay" (defArgs s_can_pay) (defBody s_can_pay) (defScope s_can_pay) [] [] f fd
  f_check_counts_exchange : ∃ (f : Addr) (fd : FuncData), mg "check_counts_exchange" = some (.ref f) ∧ FunD K "check_counts" "check_counts" (defArgs s_check_counts_exchange) (defBody s_check_counts_exchange) (defScope s_check_counts_exchange) [] [] f fd
  f_check_one : ∃ (f : Addr) (fd : FuncData), mg "check_one" = some (.ref f) ∧ FunD K "check_one" "check_one" (defArgs s_check_one) (defBody s_check_one) (defScope s_check_one) [] [] f fd
  f_plain_form : ∃ (f : Addr) (fd : FuncData), mg "plain_form" = some (.ref f) ∧ FunD K "plain_form" "plain_form" (defArgs s_plain_form) (defBody s_plain_form) (defScope s_plain_form) [] [] f fd
  f_numbers_at : ∃ (f : Addr) (fd : FuncData), mg "numbers_at" = some (.ref f) ∧ FunD K "numbers_at" "numbers_at" (defArgs s_numbers_at) (defBody s_numbers_at) (defScope s_numbers_at) [] [] f fd
  f_known_ways : ∃ (f : Addr) (fd : FuncData), mg "known_ways" = some (.ref f) ∧ FunD K "known_ways" "known_ways" (defArgs s_known_ways) (defBody s_known_ways) (defScope s_known_ways) [] [] f fd
  f_sums_at : ∃ (f : Addr) (fd : FuncData), mg "sums_at" = some (.ref f) ∧ FunD K "sums_at" "sums_at" (defArgs s_sums_at) (defBody s_sums_at) (defScope s_sums_at) [] [] f fd
  f_way_numbered : ∃ (f : Addr) (fd : FuncData), mg "way_numbered" = some (.ref f) ∧ FunD K "way_numbered" "way_numbered" (defArgs s_way_numbered) (defBody s_way_numbered) (defScope s_way_numbered) [] [] f fd
  f_number_told : ∃ (f : Addr) (fd : FuncData), mg "number_told" = some (.ref f) ∧ FunD K "number_told" "number_told" (defArgs s_number_told) (defBody s_number_told) (defScope s_number_told) [] [] f fd
  f_totals : ∃ (f : Addr) (fd : FuncData), mg "totals" = some (.ref f) ∧ FunD K "totals" "totals" (defArgs s_totals) (defBody s_totals) (defScope s_totals) [] [] f fd
  f_way_count : ∃ (f : Addr) (fd : FuncData), mg "way_count" = some (.ref f) ∧ FunD K "way_count" "way_count" (defArgs s_way_count) (defBody s_way_count) (defScope s_way_count) [] [] f fd
  f_way_at : ∃ (f : Addr) (fd : FuncData), mg "way_at" = some (.ref f) ∧ FunD K "way_at" "way_at" (defArgs s_way_at) (defBody s_way_at) (defScope s_way_at) [] [] f fd
  f_number_of : ∃ (f : Addr) (fd : FuncData), mg "number_of" = some (.ref f) ∧ FunD K "number_of" "number_of" (defArgs s_number_of) (defBody s_number_of) (defScope s_number_of) [] [] f fd
  f__law_numbers : ∃ (f : Addr) (fd : FuncData), mg "_law_numbers" = some (.ref f) ∧ FunD K "_law_numbers" "_law_numbers" (defArgs s__law_numbers) (defBody s__law_numbers) (defScope s__law_numbers) [] [] f fd
  f__law_chain : ∃ (f : Addr) (fd : FuncData), mg "_law_chain" = some (.ref f) ∧ FunD K "_law_chain" "_law_chain" (defArgs s__law_chain) (defBody s__law_chain) (defScope s__law_chain) [] [] f fd
  f__law_worth : ∃ (f : Addr) (fd : FuncData), mg "_law_worth" = some (.ref f) ∧ FunD K "_law_worth" "_law_worth" (defArgs s__law_worth) (defBody s__law_worth) (defScope s__law_worth) [] [] f fd
  f__law_even_heap : ∃ (f : Addr) (fd : FuncData), mg "_law_even_heap" = some (.ref f) ∧ FunD K "_law_even_heap" "_law_even_heap" (defArgs s__law_even_heap) (defBody s__law_even_heap) (defScope s__law_even_heap) [] [] f fd
  f_law : ∃ (f : Addr) (fd : FuncData), mg "law" = some (.ref f) ∧ FunD K "law" "law" (defArgs s_law) (defBody s_law) (defScope s_law) [] [] f fd
end Pa
namespace Pa
open PySem PySem.Spec PyProof.Rows L2
section
variable {P : Program} {w : World} {K : PySem.W.Frag} {mg : Str → Option Value} {base : Heap} (Z : Txt K mg)
include Z
theorem d_is_whole : Df P w K mg base CX0 1 "is_whole" 1 (fun ds r => ∃ d, d.noS = true ∧ ds = [d] ∧ r = .ok (.bl (isW d))) :=
  Df.mk' Z.f_is_whole sc_is_whole (fun _ _ _ _ _ _ us hl => match us, hl with | [_], _ => rfl) fun f cdv A outer s H E ds r hr hn hR => by
    obtain ⟨d, hs, rfl, rfl⟩ := hR
    refine ⟨.rt _, rfl, xb_stop (xs_ret (xe_and (xe_isi (xe_var 0) Z.b_isinstance Z.b_int boot_int (kit_isI d) (hsc := hs)) (fun h => ?_) (fun h => by unfold isW; rw [h]; rfl))) trivial⟩
    have e : isW d = !isB d := by unfold isW; rw [h]; rfl
    rw [e]
    exact xe_one (xe_not (xe_isi (xe_var 0) Z.b_isinstance Z.b_bool boot_bool (kit_isB d) (hsc := hs)))
theorem d_is_from_to : Df P w K mg base CX0 2 "is_from_to" 3 (fun ds r => ∃ d a b, d.noS = true ∧ ds = [d, .int a, .int b] ∧ r = .ok (.bl (isFT d a b))) :=
  Df.mk' Z.f_is_from_to sc_is_from_to (fun _ _ _ _ _ _ us hl => match us, hl with | [_, _, _], _ => rfl) fun f cdv A outer s H E ds r hr hn hR => by
    obtain ⟨d, a, b, hs, rfl, rfl⟩ := hR
    cases hd : isW d with
    | false => exact ⟨.rt _, rfl, xb_stop (xs_ret (xe_and (c := false) (xe_call (d_is_whole Z) pass0 hr (xa_cons (xe_var 0) xa_nil) ⟨d, hs, rfl, by rw [hd]⟩) (fun h => by cases h) (fun _ => by rw [isFT_no hd]))) trivial⟩
    | true =>
      obtain ⟨i, rfl⟩ := isW_int hd
      exact ⟨.rt _, rfl, xb_stop (xs_ret (xe_and (c := true) (xe_call (d_is_whole Z) pass0 hr (xa_cons (xe_var 0) xa_nil) ⟨_, rfl, rfl, by rw [hd]⟩) (fun _ => xe_one (xe_le2 (xe_var 1) (xe_var 0) (xe_var 2))) (fun h => by cases h))) trivial⟩
theorem d_is_listed : Df P w K mg base CX0 1 "is_listed" 1 (fun ds r => ∃ d, d.noS = true ∧ ds = [d] ∧ r = .ok (.bl (isListed d))) :=
  Df.mk' Z.f_is_listed sc_is_listed (fun _ _ _ _ _ _ us hl => match us, hl with | [_], _ => rfl) fun f cdv A outer s H E ds r hr hn hR => by
    obtain ⟨d, hs, rfl, rfl⟩ := hR
    have no : isL d = false → isListed d = false := fun h => by
      cases d with
      | lst _ => cases h
      | _ => rfl
    have yes : isL d = true → ∃ xs, d = .lst xs := fun h => by
      cases d with
      | lst xs => exact ⟨xs, rfl⟩
      | scr K ns => cases hs
      | _ => cases h
    refine ⟨.rt _, rfl, xb_stop (xs_ret (xe_and (xe_isi (xe_var 0) Z.b_isinstance Z.b_list boot_list (kit_isL d) (hsc := hs)) (fun h => ?_) (fun h => by rw [no h]))) trivial⟩
    obtain ⟨xs, rfl⟩ := yes h
    exact xe_one (xe_le2 xe_int (xe_callB c_len Z.b_len boot_len (xa_cons (xe_var 0) xa_nil)) (xe_glob Z.c_MOST_VALUES))
theorem d_follows : Df P w K mg base CX0 1 "follows" 2 (fun ds r => ∃ p v, 0 < p ∧ ds = [.int p, .int v] ∧ r = .ok (.bl (isFollow p v))) :=
  Df.mk' Z.f_follows sc_follows (fun _ _ _ _ _ _ us hl => match us, hl with | [_, _], _ => rfl) fun f cdv A outer s H E ds r hr hn hR => by
    obtain ⟨p, v, h0, rfl, rfl⟩ := hR
    refine ⟨.rt _, rfl, xb_stop (xs_ret (xe_and (xe_cmp o_gt (xe_var 1) (xe_var 0)) (fun h => ?_) (fun h => by unfold isFollow; rw [h]; rfl))) trivial⟩
    unfold isFollow
    rw [h, Bool.true_and]
    exact xe_one (xe_cmp o_eqI (xe_op (o_mod h0) (xe_var 1) (xe_var 0)) xe_int)
end
end Pa
namespace Pa
open PySem PySem.Spec PyProof.Rows L2
section
variable {P : Program} {w : World} {K : PySem.W.Frag} {mg : Str → Option Value} {base : Heap} (Z : Txt K mg)
include Z
def outF (δ : Ss) : Option Nat → Out
  | none => .nx δ []
  | some i => .rt (.int i)
theorem d_first_wrong_chains : Df P w K mg base CX0 3 "first_wrong_chains" 1 (fun ds r => ∃ xs, (∀ d ∈ xs, d.noS = true) ∧ ds = [.lst xs] ∧ r = .ok (optI (fwC none xs 0))) :=
  Df.mk' Z.f_first_wrong_chains sc_first_wrong_chains (fun _ _ _ _ _ _ us hl => match us, hl with | [_], _ => rfl) fun f cdv A outer s H E ds r hr hn hR => by
    obtain ⟨xs, hs, rfl, rfl⟩ := hR
    have key : ∀ O, outF [some (.sh (.lst xs)), none, none] (fwC none xs 0) = O → ∃ O', EndsAs O' (.ok (optI (fwC none xs 0))) ∧ (∀ δ ω, O = .nx δ ω → O' = .rt .non) ∧ (∀ d, O = .rt d → O' = .rt d) := fun O h => by
      cases q : fwC none xs 0 with
      | none => exact ⟨.rt .non, rfl, fun _ _ _ => rfl, fun d e => by rw [q] at h; rw [← h] at e; cases e⟩
      | some i => exact ⟨.rt (.int i), rfl, fun δ ω e => (by rw [q] at h; rw [← h] at e; cases e), fun d e => by rw [q] at h; rw [← h] at e; cases e; rfl⟩
    have fin : ∀ {X : Cx} {st : Stmt} {rest : List Stmt}, Xs X E st [some (.sh (.lst xs)), none, none] [] (outF [some (.sh (.lst xs)), none, none] (fwC none xs 0)) → (fwC none xs 0 = none → Xb X E rest [some (.sh (.lst xs)), none, none] [] (.rt .non)) → ∃ O, EndsAs O (.ok (optI (fwC none xs 0))) ∧ Xb X E (st :: rest) [some (.sh (.lst xs)), none, none] [] O := fun {X st rest} a b => by
      cases q : fwC none xs 0 with
      | none =>
        rw [q] at a
        exact ⟨.rt .non, rfl, xb_cons a (b q)⟩
      | some i =>
        rw [q] at a
        exact ⟨.rt (.int i), rfl, xb_stop a trivial⟩
    refine fin (xs_for (.two 1 2) (passes_of rfl) (xi_enum Z.b_enumerate (xe_var 0)) (xg_two sc_first_wrong_chains.nd) (LoopS.ind (fun es δ ω O => ∃ pre rest prev, es = enumFrom pre.length rest ∧ xs = pre ++ rest ∧ (match prev with | none => pre = [] | some p => (1 : Int) ≤ p ∧ pre.getLast? = some (.int p)) ∧
      δ = [some (.sh (.lst xs)), none, none] ∧ ω = [] ∧ O = outF δ (fwC prev rest pre.length)) ?_ ?_ ⟨[], xs, none, rfl, rfl, rfl, rfl, rfl, rfl⟩)) (fun _ => xb_stop (xs_ret xe_non) trivial)
    · rintro δ ω O ⟨pre, rest, prev, h1, h2, h3, rfl, rfl, rfl⟩
      cases rest with
      | nil => cases prev <;> rfl
      | cons d rest => cases h1
    · rintro d es δ ω O ⟨pre, rest, prev, h1, h2, h3, rfl, rfl, rfl⟩
      cases rest with
      | nil => cases h1
      | cons d' rest =>
        rw [enumFrom_cons] at h1
        cases h1
        have hsd := hs d' (by rw [h2]; simp)
        cases hb : isFT d' 1 1000000 with
        | false =>
          refine TurnS.ret (r := .int (pre.length : Nat)) rfl (xb_stop (xs_if (c := true) (xt_not (xt_val (c := false) (xe_call (d_is_from_to Z) pass0 hr (xa_cons (xe_var 2) (xa_cons xe_int (xa_cons (xe_glob Z.c_GREATEST_VALUE) xa_nil))) ⟨_, _, _, hsd, rfl, by rw [hb]⟩))) (fun _ => xb_stop (xs_ret (xe_var 1)) trivial) (fun h => by cases h)) trivial) ?_
          cases d' with
          | int v => cases prev <;> (show outF _ (if isFT (.int v) 1 1000000 = true then _ else some pre.length) = _; rw [hb]; rfl)
          | _ => cases prev <;> rfl
        | true =>
          have hv : ∃ v, d' = .int v := by
            cases d' with
            | int v => exact ⟨v, rfl⟩
            | _ => cases hb
          obtain ⟨v, rfl⟩ := hv
          have hv1 : (1 : Int) ≤ v := by
            have h : (decide ((1 : Int) ≤ v) && decide (v ≤ 1000000)) = true := hb
            exact of_decide_eq_true (Bool.and_eq_true_iff.mp h).1
          have first := fun {X : Cx} => @xs_if X
          have e1 : fwC prev (.int v :: rest) pre.length = (match prev with
            | none => fwC (some v) rest (pre.length + 1)
            | some p => if isFollow p v = true then fwC (some v) rest (pre.length + 1) else some pre.length) := by
            cases prev <;> (show (if isFT (.int v) 1 1000000 = true then _ else some pre.length) = _; rw [if_pos hb])
          have hlast : (1 : Int) ≤ v ∧ (pre ++ [Dt.int v]).getLast? = some (.int v) := ⟨hv1, by simp⟩
          cases prev with
          | none =>
            have hp : pre = [] := h3
            subst hp
            refine TurnS.next rfl (xb_cons (xs_if (c := false) (xt_not (xt_val (c := true) (xe_call (d_is_from_to Z) pass0 hr (xa_cons (xe_var 2) (xa_cons xe_int (xa_cons (xe_glob Z.c_GREATEST_VALUE) xa_nil))) ⟨_, _, _, hsd, rfl, by rw [hb]⟩))) (fun h => by cases h) (fun _ => xb_nil))
              (xb_cons (xs_if (c := false) (xt_bool (xw_and (c := false) (xt_cmp o_gt (xe_var 1) xe_int) (fun h => by cases h) (fun _ => rfl))) (fun h => by cases h) (fun _ => xb_nil)) xb_nil)) (by repeat (first | exact LessS.nil | apply LessS.keep | apply LessS.drop)) ⟨[.int v], rest, some v, rfl, h2, hlast, rfl, rfl, by rw [e1]; rfl⟩
          | some p =>
            obtain ⟨hp1, hp2⟩ := h3
            have hlen : (0 : Int) < (pre.length : Int) := by
              cases pre with
              | nil => cases hp2
              | cons a b => simp only [List.length_cons]; omega
            have hat : atI xs ((pre.length : Int) - 1) = some (.int p) := by rw [h2]; exact at_last hp2
            cases hf : isFollow p v with
            | true =>
              refine TurnS.next rfl (xb_cons (xs_if (c := false) (xt_not (xt_val (c := true) (xe_call (d_is_from_to Z) pass0 hr (xa_cons (xe_var 2) (xa_cons xe_int (xa_cons (xe_glob Z.c_GREATEST_VALUE) xa_nil))) ⟨_, _, _, hsd, rfl, by rw [hb]⟩))) (fun h => by cases h) (fun _ => xb_nil))
                (xb_cons (xs_if (c := false) (xt_bool (xw_and (xt_cmp o_gt (xe_var 1) xe_int) (fun _ => xw_and1 (xt_not (xt_val (c := true) (xe_call (d_follows Z) pass0 (hr.mono (by decide)) (xa_cons (xe_ix (i_list hat) (xe_var 0) (xe_op o_sub (xe_var 1) xe_int)) (xa_cons (xe_var 2) xa_nil)) ⟨_, _, by omega, rfl, by rw [hf]⟩)))) (fun _ => rfl))) (fun h => by cases h) (fun _ => xb_nil)) xb_nil))
                (by repeat (first | exact LessS.nil | apply LessS.keep | apply LessS.drop)) ⟨pre ++ [.int v], rest, some v, by rw [List.length_append]; rfl, by rw [h2]; simp, hlast, rfl, rfl, by rw [e1, List.length_append]; simp only [hf, if_true]; rfl⟩
            | false =>
              refine TurnS.ret (r := .int (pre.length : Nat)) rfl (xb_cons (xs_if (c := false) (xt_not (xt_val (c := true) (xe_call (d_is_from_to Z) pass0 hr (xa_cons (xe_var 2) (xa_cons xe_int (xa_cons (xe_glob Z.c_GREATEST_VALUE) xa_nil))) ⟨_, _, _, hsd, rfl, by rw [hb]⟩))) (fun h => by cases h) (fun _ => xb_nil))
                (xb_stop (xs_if (c := true) (xt_bool (xw_and (xt_cmp o_gt (xe_var 1) xe_int) (fun _ => xw_and1 (xt_not (xt_val (c := false) (xe_call (d_follows Z) pass0 (hr.mono (by decide)) (xa_cons (xe_ix (i_list hat) (xe_var 0) (xe_op o_sub (xe_var 1) xe_int)) (xa_cons (xe_var 2) xa_nil)) ⟨_, _, by omega, rfl, by rw [hf]⟩)))) (fun h => absurd hlen (of_decide_eq_false h)))) (fun _ => xb_stop (xs_ret (xe_var 1)) trivial) (fun h => by cases h)) trivial)) ?_
              rw [e1]
              simp only [hf]
              rfl
theorem d_first_wrong_heaps : Df P w K mg base CX0 3 "first_wrong_heaps" 1 (fun ds r => ∃ xs, (∀ d ∈ xs, d.noS = true) ∧ ds = [.lst xs] ∧ r = .ok (optI (fwH xs 0))) :=
  Df.mk' Z.f_first_wrong_heaps sc_first_wrong_heaps (fun _ _ _ _ _ _ us hl => match us, hl with | [_], _ => rfl) fun f cdv A outer s H E ds r hr hn hR => by
    obtain ⟨xs, hs, rfl, rfl⟩ := hR
    have fin : ∀ {X : Cx} {st : Stmt} {rest : List Stmt}, Xs X E st [some (.sh (.lst xs)), none, none] [] (outF [some (.sh (.lst xs)), none, none] (fwH xs 0)) → (fwH xs 0 = none → Xb X E rest [some (.sh (.lst xs)), none, none] [] (.rt .non)) → ∃ O, EndsAs O (.ok (optI (fwH xs 0))) ∧ Xb X E (st :: rest) [some (.sh (.lst xs)), none, none] [] O := fun {X st rest} a b => by
      cases q : fwH xs 0 with
      | none =>
        rw [q] at a
        exact ⟨.rt .non, rfl, xb_cons a (b q)⟩
      | some i =>
        rw [q] at a
        exact ⟨.rt (.int i), rfl, xb_stop a trivial⟩
    refine fin (xs_for (.two 1 2) (passes_of rfl) (xi_enum Z.b_enumerate (xe_var 0)) (xg_two sc_first_wrong_heaps.nd) (LoopS.ind (fun es δ ω O => ∃ k rest, es = enumFrom k rest ∧ (∀ d ∈ rest, d.noS = true) ∧ δ = [some (.sh (.lst xs)), none, none] ∧ ω = [] ∧ O = outF δ (fwH rest k)) ?_ ?_ ⟨0, xs, rfl, hs, rfl, rfl, rfl⟩)) (fun _ => xb_stop (xs_ret xe_non) trivial)
    · rintro δ ω O ⟨k, rest, h1, hs2, rfl, rfl, rfl⟩
      cases rest with
      | nil => rfl
      | cons d rest => cases h1
    · rintro d es δ ω O ⟨k, rest, h1, hs2, rfl, rfl, rfl⟩
      cases rest with
      | nil => cases h1
      | cons d' rest =>
        rw [enumFrom_cons] at h1
        cases h1
        have hsd := hs2 d' List.mem_cons_self
        have e1 : fwH (d' :: rest) k = if isFT d' 0 99 = true then fwH rest (k + 1) else some k := rfl
        cases hb : isFT d' 0 99 with
        | false =>
          refine TurnS.ret (r := .int (k : Nat)) rfl (xb_stop (xs_if (c := true) (xt_not (xt_val (c := false) (xe_call (d_is_from_to Z) pass0 hr (xa_cons (xe_var 2) (xa_cons xe_int (xa_cons (xe_glob Z.c_MOST_PIECES) xa_nil))) ⟨_, _, _, hsd, rfl, by rw [hb]⟩))) (fun _ => xb_stop (xs_ret (xe_var 1)) trivial) (fun h => by cases h)) trivial) ?_
          rw [e1, hb]
          rfl
        | true =>
          refine TurnS.next rfl (xb_cons (xs_if (c := false) (xt_not (xt_val (c := true) (xe_call (d_is_from_to Z) pass0 hr (xa_cons (xe_var 2) (xa_cons xe_int (xa_cons (xe_glob Z.c_MOST_PIECES) xa_nil))) ⟨_, _, _, hsd, rfl, by rw [hb]⟩))) (fun h => by cases h) (fun _ => xb_nil)) xb_nil) (by repeat (first | exact LessS.nil | apply LessS.keep | apply LessS.drop)) ⟨k + 1, rest, rfl, fun d hd => hs2 d (List.mem_cons_of_mem _ hd), rfl, rfl, by rw [e1, hb]; rfl⟩
end
end Pa
namespace Pa
open PySem PySem.Spec PyProof.Rows L2
section
variable {P : Program} {w : World} {K : PySem.W.Frag} {mg : Str → Option Value} {base : Heap} (Z : Txt K mg)
include Z
theorem d_worth_of : Df P w K mg base CX0 1 "worth_of" 2 (fun ds r => ∃ c h, ds = [dI c, dI h] ∧ c.length ≤ 1000 ∧ (∀ v ∈ c, Small v) ∧ r = .ok (.int (worth c h))) :=
  Df.mk' Z.f_worth_of sc_worth_of (fun _ _ _ _ _ _ us hl => match us, hl with | [_, _], _ => rfl) fun f cdv A outer s H E ds r hr hn hR => by
    obtain ⟨c, h, rfl, hz, hc, rfl⟩ := hR
    refine ⟨.rt _, rfl, xb_stop (xs_ret (xe_callB c_sum Z.b_sum boot_sum (xa_cons (xe_lc [("value", 2), ("count", 3)] (.two 2 3) sc_worth_of.nd (xi_zip Z.b_zip (xe_var 0) (xe_var 1))
      (comp_zip (f := fun a b => a * b) fun a b hab s H C cl fp => xe_op (o_mul (.inl (hc a (List.of_mem_zip hab).1))) (xe_var 2) (xe_var 3)) (Nat.le_trans zip_len (by omega)) (fun _ _ _ _ _ => xg_two sc_worth_of.nd)) xa_nil))) trivial⟩
theorem d_lesser_of : Df P w K mg base CX0 2 "lesser_of" 3 (fun ds r => ∃ c h, ∃ k : Int, Chn c ∧ Hep c h ∧ 0 ≤ k ∧ k ≤ c.length ∧ ds = [dI c, dI h, .int k] ∧ r = .ok (.int (lesser c h k.toNat))) :=
  Df.mk' Z.f_lesser_of sc_lesser_of (fun _ _ _ _ _ _ us hl => match us, hl with | [_, _, _], _ => rfl) fun f cdv A outer s H E ds r hr hn hR => by
    obtain ⟨c, h, k, hc, hh, h0, h1, rfl, rfl⟩ := hR
    have l8 := hc.len8
    refine ⟨.rt _, rfl, xb_stop (xs_ret (xe_call (d_worth_of Z) pass0 hr (xa_cons (xe_takeI h0 h1 (xe_var 0) (xe_var 2)) (xa_cons (xe_takeI h0 (by rw [hh.len]; exact h1) (xe_var 1) (xe_var 2)) xa_nil)) ⟨_, _, rfl, ?_, fun v hv => hc.small v (List.mem_of_mem_take hv), rfl⟩)) trivial⟩
    rw [List.length_take]
    omega
theorem d_left_by : Df P w K mg base CX0 1 "left_by" 3 (fun ds r => ∃ c as, ∃ k : Int, Chn c ∧ as.length ≤ 1000 ∧ 0 ≤ k ∧ k ≤ c.length ∧ ds = [dI c, dI as, .int k] ∧ r = .ok (.int (leftBy c as k.toNat))) :=
  Df.mk' Z.f_left_by sc_left_by (fun _ _ _ _ _ _ us hl => match us, hl with | [_, _, _], _ => rfl) fun f cdv A outer s H E ds r hr hn hR => by
    obtain ⟨c, as, k, hc, hz, h0, h1, rfl, rfl⟩ := hR
    by_cases hk : k = (c.length : Int)
    · have e : leftBy c as k.toNat = as.sum := by
        unfold leftBy
        rw [if_pos (by omega)]
      rw [e]
      exact ⟨.rt _, rfl, xb_stop (xs_if (c := decide (k = (c.length : Int))) (xt_cmp o_eqI (xe_var 2) (xe_callB c_lenI Z.b_len boot_len (xa_cons (xe_var 0) xa_nil))) (fun _ => xb_stop (xs_ret (xe_callB c_sum Z.b_sum boot_sum (xa_cons (xe_var 1) xa_nil))) trivial) (fun h => absurd hk (of_decide_eq_false h))) trivial⟩
    · have e : leftBy c as k.toNat = (as.map fun a => a % c.getD k.toNat 0).sum := by
        unfold leftBy
        rw [if_neg (by omega)]
      rw [e]
      have hpos := hc.getD (k := k.toNat) (by omega)
      exact ⟨.rt _, rfl, xb_cons (xs_if (c := decide (k = (c.length : Int))) (xt_cmp o_eqI (xe_var 2) (xe_callB c_lenI Z.b_len boot_len (xa_cons (xe_var 0) xa_nil))) (fun h => absurd (of_decide_eq_true h) hk) (fun _ => xb_nil))
        (xb_stop (xs_ret (xe_callB c_sum Z.b_sum boot_sum (xa_cons (xe_lc [("amount", 3)] (.one 3) sc_left_by.nd (xi_list (xe_var 1)) (comp_ints (f := fun a => a % c.getD k.toNat 0) fun n hn s H C cl fp => xe_op (o_mod (by omega)) (xe_var 3) (xe_ix (i_int h0 (by omega)) (xe_var 0) (xe_var 2)))
          (by rw [List.length_map]; omega) (fun _ _ _ _ _ => xg_one sc_left_by.nd)) xa_nil))) trivial)⟩
theorem d_spare_list : Df P w K mg base CX0 3 "spare_list" 3 (fun ds r => ∃ c h as, Chn c ∧ Hep c h ∧ as.length ≤ 1000 ∧ ds = [dI c, dI h, dI as] ∧ r = .ok (dI (spares c h as))) :=
  Df.mk' Z.f_spare_list sc_spare_list (fun _ _ _ _ _ _ us hl => match us, hl with | [_, _, _], _ => rfl) fun f cdv A outer s H E ds r hr hn hR => by
    obtain ⟨c, h, as, hc, hh, hz, rfl, rfl⟩ := hR
    have l8 := hc.len8
    have e : spares c h as = (rngD ((c.length : Int) + 1).toNat fun i => (i : Int)).map fun k => lesser c h k.toNat - leftBy c as k.toNat := by
      rw [rngD_map]
      have e1 : ((c.length : Int) + 1).toNat = c.length + 1 := by omega
      rw [e1]
      rfl
    rw [e]
    exact ⟨.rt _, rfl, xb_stop (xs_ret (xe_lc [("k", 3)] (.one 3) sc_spare_list.nd (xi_range1 Z.b_range (xa_cons (xe_op o_add (xe_callB c_lenI Z.b_len boot_len (xa_cons (xe_var 0) xa_nil)) xe_int) xa_nil) (by omega) (by omega))
      (comp_ints (f := fun k => lesser c h k.toNat - leftBy c as k.toNat) fun n hn s H C cl fp => by
        obtain ⟨i, hi, rfl⟩ := rngD_mem hn
        exact xe_op o_sub (xe_call (d_lesser_of Z) pass0 hr (xa_cons (xe_var 0) (xa_cons (xe_var 1) (xa_cons (xe_var 3) xa_nil))) ⟨c, h, _, hc, hh, by omega, by omega, rfl, rfl⟩)
          (xe_call (d_left_by Z) pass0 (hr.mono (by decide)) (xa_cons (xe_var 0) (xa_cons (xe_var 2) (xa_cons (xe_var 3) xa_nil))) ⟨c, as, _, hc, hz, by omega, by omega, rfl, rfl⟩))
      (by rw [List.length_map, rngD_len]; omega) (fun _ _ _ _ _ => xg_one sc_spare_list.nd))) trivial⟩
end
end Pa
namespace Pa
open PySem PySem.Spec PyProof.Rows L2
section
variable {P : Program} {w : World} {K : PySem.W.Frag} {mg : Str → Option Value} {base : Heap} (Z : Txt K mg)
include Z
theorem d_house_payments : Df P w K mg base CX0 1 "house_payments" 3 (fun ds r => ∃ c h as, Chn c ∧ Hep c h ∧ as.length ≤ 1000 ∧ ds = [dI c, dI h, dI as] ∧ r = .ok (.lst ((housePay c h as).map dI))) :=
  Df.mk' Z.f_house_payments sc_house_payments (fun _ _ _ _ _ _ us hl => match us, hl with | [_, _, _], _ => rfl) fun f cdv A outer s H E ds r hr hn hR => by
    obtain ⟨c, h, as, hc, hh, hz, rfl, rfl⟩ := hR
    have l0 := hc.len0
    have l8 := hc.len8
    have nd := sc_house_payments.nd
    refine ⟨.rt _, rfl, xb_cons (xs_lcR (i := 3) (rs := List.replicate as.length (List.replicate c.length 0)) [("_", 4)] (.one 4) nd (xi_list (xe_var 2)) ⟨by rw [List.length_replicate, List.length_map], fun i d hd => ?_⟩ (by rw [List.length_map]; omega) (fun _ _ _ _ _ => xg_one nd)) (xb_cons (xs_new (i := 5) nd (xn_list Z.b_list (xe_var 2)))
      (xb_cons (xs_for (.one 6) (passes_of rfl) (xi_range3 (n := ((c.length : Int) - 1 - (-1)).toNat) Z.b_range (xa_cons (xe_op o_sub (xe_callB c_lenI Z.b_len boot_len (xa_cons (xe_var 0) xa_nil)) xe_int) (xa_cons (xe_un o_neg xe_int) (xa_cons (xe_un o_neg xe_int) xa_nil))) (RgC.neg (by omega) (by omega) (by omega) (by omega))) (xg_one nd)
        (LoopS.runI c.length (fun _ => [some (.sh (dI c)), some (.sh (dI h)), some (.sh (dI as)), some (.at_ 0), none, some (.at_ 1), none, none, none, none]) (fun i => [.rows (payAt c h as i).1, .nums (payAt c h as i).2]) (by omega) rfl rfl fun i hi => ?_))
        (xb_stop (xs_ret (xe_var 3)) trivial)))⟩
    · have hi : i < as.length := by
        have := (List.getElem?_eq_some_iff.mp hd).1
        rwa [List.length_map] at this
      refine ⟨_, List.replicate c.length 0, rfl, by rw [List.getElem?_replicate, if_pos hi], fun s H C cl fp => ?_⟩
      have e : List.replicate c.length (0 : Int) = List.replicate ((c.length : Int)).toNat 0 := by rw [Int.toNat_natCast]
      rw [e]
      exact xn_rep (xe_lst (xa_cons xe_int xa_nil)) (xe_callB c_lenI Z.b_len boot_len (xa_cons (xe_var 0) xa_nil)) (by omega) (by omega)
    · have ek : ((c.length : Int) - 1 + (i : Int) * -1) = ((c.length - 1 - i : Nat) : Int) := by omega
      have hk : c.length - 1 - i < c.length := by omega
      obtain ⟨p1, p2, p3⟩ := payAt_len (c := c) (h := h) (as := as) i
      have hv := hc.getD hk
      have e1 : payAt c h as (i + 1) = ((Pay.turns (c.getD (c.length - 1 - i) 0) (c.length - 1 - i) ⟨h.getD (c.length - 1 - i) 0, (payAt c h as i).1, (payAt c h as i).2⟩ as.length).rows, (Pay.turns (c.getD (c.length - 1 - i) 0) (c.length - 1 - i) ⟨h.getD (c.length - 1 - i) 0, (payAt c h as i).1, (payAt c h as i).2⟩ as.length).left) := rfl
      rw [ek, e1]
      clear ek e1
      generalize ekk : c.length - 1 - i = k at *
      refine ⟨_, _, rfl, xb_cons (xs_flat (i := 7) (d := .int (h.getD k 0)) nd (xe_ix (i_int (k := (k : Int)) (by omega) (by rw [hh.len]; omega)) (xe_var 1) (xe_var 6))) (xb_cons (xs_forRows (n := 0) (ia := 8) (ir := 9) (m := as.length)
        (δs := fun j => [some (.sh (dI c)), some (.sh (dI h)), some (.sh (dI as)), some (.at_ 0), none, some (.at_ 1), some (.sh (.int k)), some (.sh (.int (Pay.turns (c.getD k 0) k ⟨h.getD k 0, (payAt c h as i).1, (payAt c h as i).2⟩ j).count)), none, none])
        (ωs := fun j => [.rows (Pay.turns (c.getD k 0) k ⟨h.getD k 0, (payAt c h as i).1, (payAt c h as i).2⟩ j).rows, .nums (Pay.turns (c.getD k 0) k ⟨h.getD k 0, (payAt c h as i).1, (payAt c h as i).2⟩ j).left])
        (passes_of rfl) Z.b_enumerate (xr_var 3) (xg_two nd) (by repeat (first | exact LessS.nil | apply LessS.keep | apply LessS.drop)) rfl (fun j hj => ⟨_, rfl, turns_len.1.trans p1⟩) fun j hj => ?_) xb_nil), ?_⟩
      · obtain ⟨q1, q2⟩ := turns_len (v := c.getD k 0) (k := k) (s := ⟨h.getD k 0, (payAt c h as i).1, (payAt c h as i).2⟩) (j := j)
        have q3 := turns_row (v := c.getD k 0) (k := k) (s := ⟨h.getD k 0, (payAt c h as i).1, (payAt c h as i).2⟩) p3 j
        have est : Pay.turns (c.getD k 0) k ⟨h.getD k 0, (payAt c h as i).1, (payAt c h as i).2⟩ (j + 1) = (Pay.turns (c.getD k 0) k ⟨h.getD k 0, (payAt c h as i).1, (payAt c h as i).2⟩ j).turn (c.getD k 0) k j := rfl
        rw [est]
        generalize Pay.turns (c.getD k 0) k ⟨h.getD k 0, (payAt c h as i).1, (payAt c h as i).2⟩ j = st at *
        have hrl : j < st.rows.length := by rw [q1]; show j < (payAt c h as i).1.length; omega
        have hll : j < st.left.length := by rw [q2]; show j < (payAt c h as i).2.length; omega
        have hl2 : st.left.length ≤ 1000 := by rw [q2]; show (payAt c h as i).2.length ≤ 1000; omega
        have hrow : st.rows[j]? = some (st.rows.getD j []) := getD_some hrl
        have hrowl : (st.rows.getD j []).length = c.length := q3 _ (getD_mem hrl)
        unfold Pay.turn
        dsimp only
        generalize hx : min st.count (st.left.getD j 0 / c.getD k 0) = x
        have hrow2 : (st.rows.set j ((st.rows.getD j []).set k x))[j]? = some ((st.rows.getD j []).set k x) := List.getElem?_set_self hrl
        have hxk : ((st.rows.getD j []).set k x).getD k 0 = x := by rw [getD_set, if_pos ⟨rfl, by rw [hrowl]; exact hk⟩]
        have hlen2 : ((k : Nat) : Int) < (((st.rows.getD j []).set k x).length : Int) := by rw [List.length_set, hrowl]; omega
        refine ⟨_, xb_cons (xs_setix (v := x) (y := .row 0 j) (j := (k : Nat)) (ns := st.rows.getD j []) (xr_var 9) hrow (xe_var 6) (by omega) (by rw [hrowl]; omega) ?_)
          (xb_cons (xs_aug (i := 7) ip_sub nd (xe_ix (i_intE (v := x) (k := (k : Nat)) (by omega) hlen2 hxk) (xe_var 9 (hd := ?_)) (xe_var 6)))
          (xb_cons (xs_augix (v := x * c.getD k 0) ip_sub (y := .at_ 1) (j := (j : Nat)) (ns := st.left) (xr_var 5) rfl (xe_var 8) (by omega) (by omega) (by omega) (xe_op (o_mul (.inr ?_)) (xe_ix (i_intE (v := x) (k := (k : Nat)) (by omega) hlen2 hxk) (xe_var 9 (hd := ?_)) (xe_var 6)) (xe_ix (i_int (ns := c) (k := (k : Nat)) (by omega) (by omega)) (xe_var 0) (xe_var 6)))) xb_nil)), (by repeat (first | exact LessS.nil | apply LessS.keep | apply LessS.drop))⟩
        · rw [← hx]
          exact xe_callB c_min2 Z.b_min boot_min (xa_cons (xe_var 7) (xa_cons (xe_op (o_div ⟨by show (0 : Int) < c.getD k 0; omega, by show c.getD k 0 < 1073741824; omega⟩) (xe_ix (i_int (k := (j : Nat)) (by omega) (by omega)) (xe_var 5) (xe_var 8)) (xe_ix (i_int (k := (k : Nat)) (by omega) (by omega)) (xe_var 0) (xe_var 6))) xa_nil))
        · show some (((st.rows.set j ((st.rows.getD j []).set k x))[j]?).map dI) = _
          rw [hrow2]
          rfl
        · show -(2 ^ 64) < c.getD k 0 ∧ c.getD k 0 < 2 ^ 64
          omega
        · show some (((st.rows.set j ((st.rows.getD j []).set k x))[j]?).map dI) = _
          rw [hrow2]
          rfl
      · exact (by repeat (first | exact LessS.nil | apply LessS.keep | apply LessS.drop))
end
end Pa
namespace Pa
open PySem PySem.Spec PyProof.Rows L2
section
variable {P : Program} {w : World} {K : PySem.W.Frag} {mg : Str → Option Value} {base : Heap} (Z : Txt K mg)
include Z
theorem d_first_lack : Df P w K mg base CX0 4 "first_lack" 3 (fun ds r => ∃ c h as, Chn c ∧ Hep c h ∧ as.length ≤ 1000 ∧ ds = [dI c, dI h, dI as] ∧ r = .ok (lackD c h as (firstLack c h as))) :=
  Df.mk' Z.f_first_lack sc_first_lack (fun _ _ _ _ _ _ us hl => match us, hl with | [_, _, _], _ => rfl) fun f cdv A outer s H E ds r hr hn hR => by
    obtain ⟨c, h, as, hc, hh, hz, rfl, rfl⟩ := hR
    have l8 := hc.len8
    have fin : ∀ {X : Cx} {st : Stmt} {rest : List Stmt}, Xs X E st [some (.sh (dI c)), some (.sh (dI h)), some (.sh (dI as)), none, none] [] (match firstLack c h as with | none => .nx [some (.sh (dI c)), some (.sh (dI h)), some (.sh (dI as)), none, none] [] | some k => .rt (lackD c h as (some k))) → (firstLack c h as = none → Xb X E rest [some (.sh (dI c)), some (.sh (dI h)), some (.sh (dI as)), none, none] [] (.rt .non)) → ∃ O, EndsAs O (.ok (lackD c h as (firstLack c h as))) ∧ Xb X E (st :: rest) [some (.sh (dI c)), some (.sh (dI h)), some (.sh (dI as)), none, none] [] O := fun {X st rest} a b => by
      cases q : firstLack c h as with
      | none =>
        rw [q] at a
        exact ⟨.rt .non, rfl, xb_cons a (b q)⟩
      | some i =>
        rw [q] at a
        exact ⟨.rt (lackD c h as (some i)), rfl, xb_stop a trivial⟩
    refine fin (xs_for (.two 3 4) (passes_of rfl) (xi_enum Z.b_enumerate (xe_call (d_spare_list Z) pass0 hr (xa_cons (xe_var 0) (xa_cons (xe_var 1) (xa_cons (xe_var 2) xa_nil))) ⟨c, h, as, hc, hh, hz, rfl, rfl⟩)) (xg_two sc_first_lack.nd)
      (LoopS.ind (fun es δ ω O => ∃ k, k ≤ c.length + 1 ∧ es = enumFrom k ((spares c h as).drop k |>.map Dt.int) ∧ δ = [some (.sh (dI c)), some (.sh (dI h)), some (.sh (dI as)), none, none] ∧ ω = [] ∧
        O = (match (List.range' k (c.length + 1 - k)).find? (lacks c h as) with | none => .nx δ [] | some k => .rt (lackD c h as (some k)))) ?_ ?_ ⟨0, by omega, rfl, rfl, rfl, by unfold firstLack; rw [List.range_eq_range']; rfl⟩)) (fun _ => xb_stop (xs_ret xe_non) trivial)
    · rintro δ ω O ⟨k, hk, h1, rfl, rfl, rfl⟩
      have hl : c.length + 1 ≤ k := by
        have := congrArg List.length h1
        unfold enumFrom spares at this
        rw [List.length_map, List.length_zipIdx, List.length_map, List.length_drop, rngD_len] at this
        simp only [List.length_nil] at this
        omega
      have e : c.length + 1 - k = 0 := by omega
      rw [e]
      rfl
    · rintro d es δ ω O ⟨k, hk, h1, rfl, rfl, rfl⟩
      have hl : k < c.length + 1 := by
        have := congrArg List.length h1
        unfold enumFrom spares at this
        rw [List.length_map, List.length_zipIdx, List.length_map, List.length_drop, rngD_len] at this
        simp only [List.length_cons] at this
        omega
      have ed : (spares c h as).drop k = (lesser c h k - leftBy c as k) :: (spares c h as).drop (k + 1) := by
        have hl2 : k < (spares c h as).length := by unfold spares; rw [rngD_len]; exact hl
        rw [List.drop_eq_getElem_cons hl2]
        have := rngD_get (f := fun k => lesser c h k - leftBy c as k) hl
        have h2 : (spares c h as)[k]? = some (lesser c h k - leftBy c as k) := this
        rw [List.getElem?_eq_getElem hl2] at h2
        rw [Option.some.inj h2]
      rw [ed, List.map_cons, enumFrom_cons] at h1
      cases h1
      rw [find_step hl]
      cases hb : lacks c h as k with
      | true =>
        have hb' : lesser c h k < leftBy c as k := of_decide_eq_true hb
        rw [if_pos rfl]
        refine TurnS.ret (r := .tup [.int (k : Nat), .int (leftBy c as k), .int (lesser c h k)]) rfl (xb_stop (xs_if (xt_cmp o_lt (xe_var 4) xe_int) (fun _ => xb_stop (xs_ret (xe_tup (xa_cons (xe_var 3) (xa_cons (xe_call (d_left_by Z) pass0 (hr.mono (by decide)) (xa_cons (xe_var 0) (xa_cons (xe_var 2) (xa_cons (xe_var 3) xa_nil))) ⟨c, as, (k : Nat), hc, hz, by omega, by omega, rfl, rfl⟩)
          (xa_cons (xe_call (d_lesser_of Z) pass0 (hr.mono (by decide)) (xa_cons (xe_var 0) (xa_cons (xe_var 1) (xa_cons (xe_var 3) xa_nil))) ⟨c, h, (k : Nat), hc, hh, by omega, by omega, rfl, rfl⟩) xa_nil))))) trivial) (fun h => ?_)) trivial) rfl
        have := of_decide_eq_false h
        omega
      | false =>
        have hb' : ¬ lesser c h k < leftBy c as k := of_decide_eq_false hb
        rw [if_neg Bool.false_ne_true]
        refine TurnS.next rfl (xb_cons (xs_if (xt_cmp o_lt (xe_var 4) xe_int) (fun h => ?_) (fun _ => xb_nil)) xb_nil) (by repeat (first | exact LessS.nil | apply LessS.keep | apply LessS.drop)) ⟨k + 1, hl, rfl, rfl, rfl, rfl⟩
        have := of_decide_eq_true h
        omega
theorem d_told_answer : Df P w K mg base CX0 5 "told_answer" 3 (fun ds r => ∃ c h as, Chn c ∧ Hep c h ∧ as.length ≤ 1000 ∧ ds = [dI c, dI h, dI as] ∧ r = .ok (toldD c h as)) :=
  Df.mk' Z.f_told_answer sc_told_answer (fun _ _ _ _ _ _ us hl => match us, hl with | [_, _, _], _ => rfl) fun f cdv A outer s H E ds r hr hn hR => by
    obtain ⟨c, h, as, hc, hh, hz, rfl, rfl⟩ := hR
    have nd := sc_told_answer.nd
    unfold toldD
    cases q : firstLack c h as with
    | none =>
      exact ⟨.rt _, rfl, xb_cons (xs_sh (i := 3) (d := .non) nd (xe_call (d_first_lack Z) pass0 hr (xa_cons (xe_var 0) (xa_cons (xe_var 1) (xa_cons (xe_var 2) xa_nil))) ⟨c, h, as, hc, hh, hz, rfl, by rw [q]; rfl⟩))
        (xb_cons (xs_if (xt_cmp (o_notN (d := .non)) (xe_var 3) xe_non) (fun h => by cases h) (fun _ => xb_nil))
        (xb_stop (xs_ret (xe_tup (xa_cons xe_str (xa_cons (xe_call (d_house_payments Z) pass0 (hr.mono (by decide)) (xa_cons (xe_var 0) (xa_cons (xe_var 1) (xa_cons (xe_var 2) xa_nil))) ⟨c, h, as, hc, hh, hz, rfl, rfl⟩) xa_nil)))) trivial))⟩
    | some k =>
      exact ⟨.rt _, rfl, xb_cons (xs_sh (i := 3) (d := .tup [.int k, .int (leftBy c as k), .int (lesser c h k)]) nd (xe_call (d_first_lack Z) pass0 hr (xa_cons (xe_var 0) (xa_cons (xe_var 1) (xa_cons (xe_var 2) xa_nil))) ⟨c, h, as, hc, hh, hz, rfl, by rw [q]; rfl⟩))
        (xb_stop (xs_if (xt_cmp (o_notN (d := .tup [.int k, .int (leftBy c as k), .int (lesser c h k)])) (xe_var 3) xe_non) (fun _ => xb_stop (xs_ret (xe_op (o_catT (ds := [.str "value"]) (by simp) (by simp)) (xe_tup (xa_cons xe_str xa_nil)) (xe_var 3))) trivial) (fun h => by cases h)) trivial)⟩
end
end Pa
namespace Pa
open PySem PySem.Spec PyProof.Rows L2
section
variable {P : Program} {w : World} {K : PySem.W.Frag} {mg : Str → Option Value} {base : Heap} (Z : Txt K mg)
include Z
theorem d_check_chain : Df P w K mg base CX0 4 "check_chain" 1 (fun ds r => ∃ c, Chn c ∧ ds = [dI c] ∧ r = .ok .non) :=
  Df.mk' Z.f_check_chain sc_check_chain (fun _ _ _ _ _ _ us hl => match us, hl with | [_], _ => rfl) fun f cdv A outer s H E ds r hr hn hR => by
    obtain ⟨c, hc, rfl, rfl⟩ := hR
    exact ⟨.nx _ _, rfl, xb_cons (xs_if (c := false) (xt_not (xt_val (c := true) (xe_call (d_is_listed Z) pass0 (hr.mono (by decide)) (xa_cons (xe_var 0) xa_nil) ⟨dI c, rfl, rfl, by rw [hc.listed]⟩))) (fun h => by cases h) (fun _ => xb_nil))
      (xb_cons (xs_flat (i := 1) (d := .non) sc_check_chain.nd (xe_call (d_first_wrong_chains Z) pass0 hr (xa_cons (xe_var 0) xa_nil) ⟨_, noS_ints c, rfl, by rw [hc.fw]; rfl⟩))
      (xb_cons (xs_if (xt_cmp (o_notN (d := .non)) (xe_var 1) xe_non) (fun h => by cases h) (fun _ => xb_nil)) xb_nil))⟩
theorem d_check_counts : Df P w K mg base CX0 4 "check_counts_heaps" 2 (fun ds r => ∃ c h, Hep c h ∧ ds = [dI c, dI h] ∧ r = .ok .non) :=
  Df.mk' Z.f_check_counts_heaps sc_check_counts_heaps (fun _ _ _ _ _ _ us hl => match us, hl with | [_, _], _ => rfl) fun f cdv A outer s H E ds r hr hn hR => by
    obtain ⟨c, h, hh, rfl, rfl⟩ := hR
    exact ⟨.nx _ _, rfl, xb_cons (xs_if (c := false) (xt_bool (xw_or (c := false) (xt_not (xt_val (c := true) (xe_isi (xe_var 1) Z.b_isinstance Z.b_list boot_list (kit_isL (dI h))))) (fun _ => xw_or1 (xt_cmp (opE o_neI (neI_same (i := (h.length : Int)) (j := (c.length : Int)) (by rw [hh.len]))) (xe_callB c_lenI Z.b_len boot_len (xa_cons (xe_var 1) xa_nil)) (xe_callB c_lenI Z.b_len boot_len (xa_cons (xe_var 0) xa_nil)))) (fun h => by cases h))) (fun h => by cases h) (fun _ => xb_nil))
      (xb_cons (xs_flat (i := 2) (d := .non) sc_check_counts_heaps.nd (xe_call (d_first_wrong_heaps Z) pass0 hr (xa_cons (xe_var 1) xa_nil) ⟨_, noS_ints h, rfl, by rw [hh.fw]; rfl⟩))
      (xb_cons (xs_if (xt_cmp (o_notN (d := .non)) (xe_var 2) xe_non) (fun h => by cases h) (fun _ => xb_nil)) xb_nil))⟩
theorem d_check_heap : Df P w K mg base CX0 5 "check_heap" 2 (fun ds r => ∃ c h, Chn c ∧ Hep c h ∧ ds = [dI c, dI h] ∧ r = .ok .non) :=
  Df.mk' Z.f_check_heap sc_check_heap (fun _ _ _ _ _ _ us hl => match us, hl with | [_, _], _ => rfl) fun f cdv A outer s H E ds r hr hn hR => by
    obtain ⟨c, h, hc, hh, rfl, rfl⟩ := hR
    exact ⟨.nx _ _, rfl, xb_cons (xs_expr (xe_call (d_check_chain Z) pass0 hr (xa_cons (xe_var 0) xa_nil) ⟨c, hc, rfl, rfl⟩)) (xb_cons (xs_expr (xe_call (d_check_counts Z) pass0 hr (xa_cons (xe_var 0) (xa_cons (xe_var 1) xa_nil)) ⟨c, h, hh, rfl, rfl⟩)) xb_nil)⟩
theorem d_check_persons : Df P w K mg base CX0 3 "check_persons" 1 (fun ds r => ∃ n : Int, 2 ≤ n ∧ n ≤ 8 ∧ ds = [.int n] ∧ r = .ok .non) :=
  Df.mk' Z.f_check_persons sc_check_persons (fun _ _ _ _ _ _ us hl => match us, hl with | [_], _ => rfl) fun f cdv A outer s H E ds r hr hn hR => by
    obtain ⟨n, h2, h8, rfl, rfl⟩ := hR
    exact ⟨.nx _ _, rfl, xb_cons (xs_if (c := false) (xt_not (xt_val (c := true) (xe_call (d_is_from_to Z) pass0 hr (xa_cons (xe_var 0) (xa_cons (xe_glob Z.c_FEWEST) (xa_cons (xe_glob Z.c_MOST) xa_nil))) ⟨_, _, _, rfl, rfl, by rw [isFT_of ⟨h2, h8⟩]⟩))) (fun h => by cases h) (fun _ => xb_nil)) xb_nil⟩
theorem d_check_sharing : Df P w K mg base CX0 6 "check_sharing" 3 (fun ds r => ∃ c h, ∃ n : Int, Chn c ∧ Hep c h ∧ 2 ≤ n ∧ n ≤ 8 ∧ ds = [dI c, dI h, .int n] ∧ r = .ok .non) :=
  Df.mk' Z.f_check_sharing sc_check_sharing (fun _ _ _ _ _ _ us hl => match us, hl with | [_, _, _], _ => rfl) fun f cdv A outer s H E ds r hr hn hR => by
    obtain ⟨c, h, n, hc, hh, h2, h8, rfl, rfl⟩ := hR
    exact ⟨.nx _ _, rfl, xb_cons (xs_expr (xe_call (d_check_heap Z) pass0 hr (xa_cons (xe_var 0) (xa_cons (xe_var 1) xa_nil)) ⟨c, h, hc, hh, rfl, rfl⟩)) (xb_cons (xs_expr (xe_call (d_check_persons Z) pass0 (hr.mono (by decide)) (xa_cons (xe_var 2) xa_nil) ⟨n, h2, h8, rfl, rfl⟩)) xb_nil)⟩
end
end Pa
namespace Pa
open PySem PySem.Spec PyProof.Rows L2
section
variable {P : Program} {w : World} {K : PySem.W.Frag} {mg : Str → Option Value} {base : Heap} (Z : Txt K mg)
include Z
theorem d_shared : Df P w K mg base CX0 6 "shared" 3 (fun ds r => ∃ c h, ∃ n : Int, Chn c ∧ Hep c h ∧ 2 ≤ n ∧ n ≤ 8 ∧ ds = [dI c, dI h, .int n] ∧ r = .ok (sharedD c h n)) :=
  Df.mk' Z.f_shared sc_shared (fun _ _ _ _ _ _ us hl => match us, hl with | [_, _, _], _ => rfl) fun f cdv A outer s H E ds r hr hn hR => by
    obtain ⟨c, h, n, hc, hh, h2, h8, rfl, rfl⟩ := hR
    have nd := sc_shared.nd
    have l8 := hc.len8
    unfold sharedD
    have hz : (evens c h n).length ≤ 1000 := by unfold evens; rw [List.length_replicate]; omega
    refine ⟨.rt _, rfl, xb_cons (xs_flat (i := 3) (d := .int (worth c h)) nd (xe_call (d_worth_of Z) pass0 (hr.mono (by decide)) (xa_cons (xe_var 0) (xa_cons (xe_var 1) xa_nil)) ⟨c, h, rfl, by omega, hc.small, rfl⟩)) ?_⟩
    by_cases hw : 0 < worth c h % n
    · rw [if_pos hw]
      exact xb_stop (xs_if (c := true) (xt_cmp (opE o_gt (decide_eq_true hw)) (xe_op (o_mod (by omega)) (xe_var 3) (xe_var 2)) xe_int) (fun _ => xb_stop (xs_ret (xe_tup (xa_cons xe_str (xa_cons (xe_op (o_mod (by omega)) (xe_var 3) (xe_var 2)) xa_nil)))) trivial) (fun h => by cases h)) trivial
    · rw [if_neg hw]
      refine xb_cons (xs_if (c := false) (xt_cmp (opE o_gt (decide_eq_false hw)) (xe_op (o_mod (by omega)) (xe_var 3) (xe_var 2)) xe_int) (fun h => by cases h) (fun _ => xb_nil)) (xb_cons (xs_sh (i := 4) (d := toldD c h (evens c h n)) nd (xe_call (d_told_answer Z) pass0 hr (xa_cons (xe_var 0) (xa_cons (xe_var 1) (xa_cons (xe_op (o_repI (by omega) (by omega)) (xe_lst (xa_cons (xe_op (o_div ⟨by omega, by omega⟩) (xe_var 3) (xe_var 2)) xa_nil)) (xe_var 2)) xa_nil))) ⟨c, h, evens c h n, hc, hh, hz, rfl, rfl⟩)) ?_)
      unfold toldD
      cases firstLack c h (evens c h n) with
      | none =>
        exact xb_stop (xs_ret (xe_if (c := true) (xt_cmp (o_eqS (i := "payments") (c := true)) (xe_ix i_tup0 (xe_var 4) xe_int) xe_str) (fun _ => xe_tup (xa_cons xe_str (xa_cons (xe_ix i_tup1 (xe_var 4) xe_int) xa_nil))) (fun h => by cases h))) trivial
      | some k =>
        exact xb_stop (xs_ret (xe_if (c := false) (xt_cmp (o_eqS (i := "value") (c := false)) (xe_ix i_tup0 (xe_var 4) xe_int) xe_str) (fun h => by cases h) (fun _ => xe_var 4))) trivial
theorem d_answer : Df P w K mg base CX0 7 "answer" 3 (fun ds r => ∃ c h, ∃ n : Int, Chn c ∧ Hep c h ∧ 2 ≤ n ∧ n ≤ 8 ∧ ds = [dI c, dI h, .int n] ∧ r = .ok (sharedD c h n)) :=
  Df.mk' Z.f_answer sc_answer (fun _ _ _ _ _ _ us hl => match us, hl with | [_, _, _], _ => rfl) fun f cdv A outer s H E ds r hr hn hR => by
    obtain ⟨c, h, n, hc, hh, h2, h8, rfl, rfl⟩ := hR
    exact ⟨.rt _, rfl, xb_cons (xs_expr (xe_call (d_check_sharing Z) pass0 hr (xa_cons (xe_var 0) (xa_cons (xe_var 1) (xa_cons (xe_var 2) xa_nil))) ⟨c, h, n, hc, hh, h2, h8, rfl, rfl⟩)) (xb_stop (xs_ret (xe_call (d_shared Z) pass0 hr (xa_cons (xe_var 0) (xa_cons (xe_var 1) (xa_cons (xe_var 2) xa_nil))) ⟨c, h, n, hc, hh, h2, h8, rfl, rfl⟩)) trivial)⟩
end
def numbersD (c h : List Int) : List Int := (rngD 7 fun i => 2 + (i : Int)).filter (sharesB c h)
section
variable {P : Program} {w : World} {K : PySem.W.Frag} {mg : Str → Option Value} {base : Heap} (Z : Txt K mg)
include Z
theorem d_numbers : Df P w K mg base CX0 7 "numbers" 2 (fun ds r => ∃ c h, Chn c ∧ Hep c h ∧ ds = [dI c, dI h] ∧ r = .ok (dI (numbersD c h))) :=
  Df.mk' Z.f_numbers sc_numbers (fun _ _ _ _ _ _ us hl => match us, hl with | [_, _], _ => rfl) fun f cdv A outer s H E ds r hr hn hR => by
    obtain ⟨c, h, hc, hh, rfl, rfl⟩ := hR
    have nd := sc_numbers.nd
    have e : numbersD c h = ((rngD ((8 : Int) + 1 - 2).toNat fun i => 2 + (i : Int)).filter (sharesB c h)).map id := by rw [List.map_id]; rfl
    rw [e]
    refine ⟨.rt _, rfl, xb_cons (xs_expr (xe_call (d_check_heap Z) pass0 (hr.mono (by decide)) (xa_cons (xe_var 0) (xa_cons (xe_var 1) xa_nil)) ⟨c, h, hc, hh, rfl, rfl⟩)) (xb_stop (xs_ret (xe_lc [("n", 2)] (.one 2) nd (xi_range2 Z.b_range (xa_cons (xe_glob Z.c_FEWEST) (xa_cons (xe_op o_add (xe_glob Z.c_MOST) xe_int) xa_nil)) (by omega))
      (comp_intsF (p := sharesB c h) (f := id) fun n hn s H C cl fp => ⟨?_, fun _ => xe_var 2⟩) (by rw [List.length_map, rngD_len]; decide) (fun _ _ _ _ _ => xg_one nd))) trivial)⟩
    obtain ⟨i, hi, rfl⟩ := rngD_mem hn
    obtain ⟨tag, rest, e1, e2⟩ := sharedD_tag c h (2 + (i : Int))
    have hi : i < 7 := hi
    exact xt_cmp (o_eqS e2) (xe_ix (i_tup0 (ds := rest)) (xe_call (d_shared Z) pass0 hr (xa_cons (xe_var 0) (xa_cons (xe_var 1) (xa_cons (xe_var 2) xa_nil))) ⟨c, h, _, hc, hh, by omega, by omega, rfl, by rw [e1]⟩) xe_int) xe_str
end
end Pa
namespace Pa
open PySem PySem.Spec PyProof.Rows L2
section
variable {P : Program} {w : World} {K : PySem.W.Frag} {mg : Str → Option Value} {base : Heap} (Z : Txt K mg)
include Z
theorem d__law_numbers : Df P w K mg base CX0 1 "_law_numbers" 3 (fun ds r => ∃ script, ∃ at' many : Nat, many ≤ 1000 ∧ at' ≤ 1000 ∧ ds = [.scr K script, .int at', .int many] ∧ r = .ok (dI (lawNums script at' many))) :=
  Df.mk' Z.f__law_numbers sc__law_numbers (fun _ _ _ _ _ _ us hl => match us, hl with | [_, _, _], _ => rfl) fun f cdv A outer s H E ds r hr hn hR => by
    obtain ⟨script, at', many, hm, ha, rfl, rfl⟩ := hR
    have nd := sc__law_numbers.nd
    refine ⟨.rt _, rfl, xb_cons (xs_flat (i := 3) (d := .int (1000003 * ((at' : Int) + 1))) nd (xe_op (o_mul (.inl ⟨by decide, by decide⟩)) xe_int (xe_op o_add (xe_var 1) xe_int)))
      (xb_cons (δ1 := [some (.sh (.scr K script)), some (.sh (.int at')), some (.sh (.int many)), some (.sh (.int (cell1 script at'))), none, none, none]) (ω1 := []) ?_
      (xb_cons (δ1 := [some (.sh (.scr K script)), some (.sh (.int at')), some (.sh (.int many)), some (.sh (.int (cell0 script at'))), none, none, none]) (ω1 := []) ?_
      (xb_cons (xs_new (i := 4) (c := .nums []) nd (xn_lst xa_nil))
      (xb_cons (xs_for (.one 5) (passes_of rfl) (xi_range1 Z.b_range (xa_cons (xe_var 2) xa_nil) (by omega) (by omega)) (xg_one nd) (LoopS.runI many (fun j => [some (.sh (.scr K script)), some (.sh (.int at')), some (.sh (.int many)), some (.sh (.int (numsSt script at' j).1)), some (.at_ 0), none, none]) (fun j => [.nums (numsSt script at' j).2]) (by omega) rfl rfl fun j hj => ?_))
      (xb_stop (xs_ret (xe_var 4)) trivial)))))⟩
    · by_cases hb : at' < script.length
      · have e : cell1 script at' = script.getD at' 0 := if_pos hb
        rw [e]
        exact xs_if (c := true) (xt_cmp (opE (o_lt (i := (at' : Int)) (j := (script.length : Int))) (decide_eq_true (by omega))) (xe_var 1) (xe_callB c_lenS Z.b_len boot_len (xa_cons (xe_var 0) xa_nil))) (fun _ => xb_cons (xs_flat (i := 3) (d := .int (script.getD at' 0)) nd (xe_callTy c_int Z.b_int boot_int (xa_cons (xe_ix (i_scr (at_getD (k := (at' : Nat)) (by omega) (by omega))) (xe_var 0) (xe_var 1)) xa_nil))) xb_nil) (fun h => by cases h)
      · have e : cell1 script at' = 1000003 * ((at' : Int) + 1) := if_neg hb
        rw [e]
        exact xs_if (c := false) (xt_cmp (opE (o_lt (i := (at' : Int)) (j := (script.length : Int))) (decide_eq_false (by omega))) (xe_var 1) (xe_callB c_lenS Z.b_len boot_len (xa_cons (xe_var 0) xa_nil))) (fun h => by cases h) (fun _ => xb_nil)
    · by_cases hb : cell1 script at' < 0
      · have e : cell0 script at' = 1 - 2 * cell1 script at' := if_pos hb
        rw [e]
        exact xs_if (c := true) (xt_cmp (opE o_lt (decide_eq_true hb)) (xe_var 3) xe_int) (fun _ => xb_cons (xs_flat (i := 3) (d := .int (1 - 2 * cell1 script at')) nd (xe_op o_sub xe_int (xe_op (o_mul (.inl ⟨by decide, by decide⟩)) xe_int (xe_var 3)))) xb_nil) (fun h => by cases h)
      · have e : cell0 script at' = cell1 script at' := if_neg hb
        rw [e]
        exact xs_if (c := false) (xt_cmp (opE o_lt (decide_eq_false hb)) (xe_var 3) xe_int) (fun h => by cases h) (fun _ => xb_nil)
    · have hl := numsSt_len script at' j
      have est : numsSt script at' (j + 1) = (if (10 : Int) ^ 18 ≤ (numsSt script at' j).1 then ((numsSt script at' j).1 / 1009, (numsSt script at' j).2 ++ [(numsSt script at' j).1 % 1009]) else ((numsSt script at' j).1, (numsSt script at' j).2 ++ [mix3 (numsSt script at' j).1 (j : Int) (at' : Int)])) := rfl
      generalize numsSt script at' j = st at *
      by_cases hb : (10 : Int) ^ 18 ≤ st.1
      · rw [if_pos hb] at est
        rw [est]
        refine ⟨_, _, rfl, xb_cons (xs_if (c := true) (xt_cmp (opE o_ge (decide_eq_true hb)) (xe_var 3) (xe_op (o_pow (i := 10) (j := 18) ⟨by decide, by decide, by decide⟩) xe_int xe_int)) (fun _ => xb_cons (xs_append (y := .at_ 0) (ns := st.2) (v := st.1 % 1009) (xr_var 4) rfl (xe_op (o_mod (by decide)) (xe_var 3) xe_int) (by omega))
          (xb_cons (xs_flat (i := 3) (d := .int (st.1 / 1009)) nd (xe_op (o_div ⟨by decide, by decide⟩) (xe_var 3) xe_int)) xb_nil)) (fun h => by cases h)) xb_nil, (by repeat (first | exact LessS.nil | apply LessS.keep | apply LessS.drop))⟩
      · rw [if_neg hb] at est
        rw [est]
        have hmx : -(2 ^ 64) < mix1 st.1 j at' ∧ mix1 st.1 j at' < 2 ^ 64 := by unfold mix1; omega
        refine ⟨_, _, rfl, xb_cons (xs_if (c := false) (xt_cmp (opE o_ge (decide_eq_false hb)) (xe_var 3) (xe_op (o_pow (i := 10) (j := 18) ⟨by decide, by decide, by decide⟩) xe_int xe_int)) (fun h => by cases h) (fun _ =>
          xb_cons (xs_flat (i := 6) (d := .int (mix1 st.1 j at')) nd (xe_op (o_mod (by decide)) (xe_op o_add (xe_op o_add (xe_op (o_mul (.inr ⟨by decide, by decide⟩)) (xe_var 3) xe_int) (xe_op (o_mul (.inr ⟨by decide, by decide⟩)) (xe_op o_add (xe_var 5) xe_int) xe_int)) (xe_op (o_mul (.inr ⟨by decide, by decide⟩)) (xe_var 1) xe_int)) xe_int))
          (xb_cons (xs_flat (i := 6) (d := .int (mix2 st.1 j at')) nd (xe_op (o_mod (by decide)) (xe_op o_add (xe_op (o_mul (i := mix1 st.1 j at') (j := mix1 st.1 j at') (.inl hmx)) (xe_var 6) (xe_var 6)) (xe_op (o_mul (.inl ⟨by decide, by decide⟩)) xe_int (xe_op o_add (xe_var 5) xe_int))) xe_int))
          (xb_cons (xs_append (y := .at_ 0) (ns := st.2) (v := mix3 st.1 j at') (xr_var 4) rfl (xe_op (o_mod (by decide)) (xe_op (o_div ⟨by decide, by decide⟩) (xe_var 6) xe_int) xe_int) (by omega)) xb_nil)))) xb_nil, (by repeat (first | exact LessS.nil | apply LessS.keep | apply LessS.drop))⟩
theorem d__law_chain : Df P w K mg base CX0 2 "_law_chain" 3 (fun ds r => ∃ script, ∃ at' : Nat, ∃ most : Int, 2 ≤ most ∧ most ≤ 7 ∧ at' ≤ 1000 ∧ ds = [.scr K script, .int at', .int most] ∧ r = .ok (dI (lawChain script at' most))) :=
  Df.mk' Z.f__law_chain sc__law_chain (fun _ _ _ _ _ _ us hl => match us, hl with | [_, _, _], _ => rfl) fun f cdv A outer s H E ds r hr hn hR => by
    obtain ⟨script, at', most, h2, h7, ha, rfl, rfl⟩ := hR
    have nd := sc__law_chain.nd
    have hl : (lawNums script at' 12).length = 12 := lawNums_len
    have hcl := chLen_rg (ns := lawNums script at' 12) h2
    unfold lawChain
    generalize hns : lawNums script at' 12 = ns at *
    refine ⟨.rt _, rfl, xb_cons (xs_sh (i := 3) (d := dI ns) nd (xe_call (d__law_numbers Z) pass0 hr (xa_cons (xe_var 0) (xa_cons (xe_var 1) (xa_cons xe_int xa_nil))) ⟨script, at', 12, by decide, ha, rfl, by rw [hns]⟩))
      (xb_cons (xs_new (i := 4) (c := .nums [1 + ns.getD 0 0 % 3]) nd (xn_lst (xa_cons (xe_op o_add xe_int (xe_op (o_mod (by decide)) (xe_ix (i_int (k := 0) (by decide) (by omega)) (xe_var 3) xe_int) xe_int)) xa_nil)))
      (xb_cons (xs_for (.one 5) (passes_of rfl) (xi_range1 (n := 1 + ns.getD 1 0 % (most - 1)) Z.b_range (xa_cons (xe_op o_add xe_int (xe_op (o_mod (by omega)) (xe_ix (i_int (k := 1) (by decide) (by omega)) (xe_var 3) xe_int) (xe_op o_sub (xe_var 2) xe_int))) xa_nil) ?_ ?_) (xg_one nd)
        (LoopS.runI (chLen ns most) (fun _ => [some (.sh (.scr K script)), some (.sh (.int at')), some (.sh (.int most)), some (.sh (dI ns)), some (.at_ 0), none]) (fun j => [.nums (chSt ns j)]) rfl rfl rfl fun j hj => ?_))
      (xb_stop (xs_ret (xe_var 4)) trivial)))⟩
    · have := Int.emod_nonneg (ns.getD 1 0) (show most - 1 ≠ 0 by omega)
      omega
    · have := Int.emod_lt_of_pos (ns.getD 1 0) (show 0 < most - 1 by omega)
      omega
    · have hcl2 := chSt_len ns j
      have est : chSt ns (j + 1) = chSt ns j ++ [(chSt ns j).getD j 0 * (2 + ns.getD (2 + j) 0 % 4)] := rfl
      rw [est]
      generalize chSt ns j = ch at *
      have hat : atI (ch.map Dt.int) (-1) = some (.int (ch.getD j 0)) := by
        unfold L2.atI
        have e : ixN (ch.map Dt.int).length (-1) = some j := by
          unfold ixN
          rw [List.length_map, hcl2, if_neg (by decide)]
          rw [if_pos (by omega)]
          congr 1
          omega
        rw [e]
        show (ch.map Dt.int)[j]? = _
        rw [List.getElem?_map, getD_some (d := 0) (by omega)]
        rfl
      have eg : (2 + (j : Int)).toNat = 2 + j := by omega
      refine ⟨_, _, rfl, xb_cons (xs_append (y := .at_ 0) (ns := ch) (v := ch.getD j 0 * (2 + ns.getD (2 + j) 0 % 4)) (xr_var 4) rfl (xe_op (o_mul (.inr ?_)) (xe_ix (i_list hat) (xe_var 4) (xe_un o_neg xe_int)) (xe_op o_add xe_int (xe_op (o_mod (by decide)) (xe_ix (i_intE (ns := ns) (k := 2 + (j : Int)) (by omega) (by omega) (by rw [eg])) (xe_var 3) (xe_op o_add xe_int (xe_var 5))) xe_int))) (by omega)) xb_nil, (by repeat (first | exact LessS.nil | apply LessS.keep | apply LessS.drop))⟩
      omega
theorem d__law_worth : Df P w K mg base CX0 1 "_law_worth" 2 (fun ds r => ∃ c h, c.length ≤ 1000 ∧ h.length = c.length ∧ (∀ v ∈ c, Small v) ∧ ds = [dI c, dI h] ∧ r = .ok (.int (worth c h))) :=
  Df.mk' Z.f__law_worth sc__law_worth (fun _ _ _ _ _ _ us hl => match us, hl with | [_, _], _ => rfl) fun f cdv A outer s H E ds r hr hn hR => by
    obtain ⟨c, h, hz, hh, hc, rfl, rfl⟩ := hR
    have nd := sc__law_worth.nd
    have e : worth c h = ((rngD (c.length : Int).toNat fun i => (i : Int)).map fun k => c.getD k.toNat 0 * h.getD k.toNat 0).sum := by
      rw [worth_S1 hh, rngD_map, sum_S1, rngD_len, Int.toNat_natCast]
      exact S1_congr fun i hi => by rw [List.getD_eq_getElem?_getD (l := rngD _ _), rngD_get hi]; rfl
    rw [e]
    refine ⟨.rt _, rfl, xb_stop (xs_ret (xe_callB c_sum Z.b_sum boot_sum (xa_cons (xe_lc [("k", 2)] (.one 2) nd (xi_range1 Z.b_range (xa_cons (xe_callB c_lenI Z.b_len boot_len (xa_cons (xe_var 0) xa_nil)) xa_nil) (by omega) (by omega))
      (comp_ints (f := fun k => c.getD k.toNat 0 * h.getD k.toNat 0) fun n hn s H C cl fp => ?_) (by rw [List.length_map, rngD_len]; omega) (fun _ _ _ _ _ => xg_one nd)) xa_nil))) trivial⟩
    obtain ⟨i, hi, rfl⟩ := rngD_mem hn
    exact xe_op (o_mul (.inl (hc _ (getD_mem (by omega))))) (xe_ix (i_int (by omega) (by omega)) (xe_var 0) (xe_var 2)) (xe_ix (i_int (by omega) (by omega)) (xe_var 1) (xe_var 2))
end
end Pa
namespace Pa
open PySem PySem.Spec PyProof.Rows L2
section
variable {X : Cx} {scope : Scope} {ifs : List Expr} {elt : Expr} {δ : Sl}
theorem comp_none {α : Type} {t : Tg} {g : α → Dt} {dl : α → Sl} : ∀ (xs : List α), (∀ x ∈ xs, t.put (g x) δ = some (dl x) ∧ InB X scope fun Y => Xts Y ifs (dl x) false) → CompD X scope t ifs elt δ (xs.map g) []
  | [], _ => .nil
  | x :: xs, k => by
    obtain ⟨a, b⟩ := k x List.mem_cons_self
    exact .skip a b (comp_none xs fun y hy => k y (List.mem_cons_of_mem _ hy))
end
section
variable {P : Program} {w : World} {K : PySem.W.Frag} {mg : Str → Option Value} {base : Heap} (Z : Txt K mg)
include Z
theorem d__law_even_heap : Df P w K mg base CX0 2 "_law_even_heap" 4 (fun ds r => ∃ script, ∃ at' : Nat, ∃ c, ∃ n : Int, Chn c ∧ 2 ≤ c.length ∧ 2 ≤ n ∧ n ≤ 8 ∧ at' ≤ 1000 ∧ ds = [.scr K script, .int at', dI c, .int n] ∧ r = .ok (dI (evenH script at' c n))) :=
  Df.mk' Z.f__law_even_heap sc__law_even_heap (fun _ _ _ _ _ _ us hl => match us, hl with | [_, _, _, _], _ => rfl) fun f cdv A outer s H E ds r hr hn hR => by
    obtain ⟨script, at', c, n, hc, hcl, h2, h8, ha, rfl, rfl⟩ := hR
    have nd := sc__law_even_heap.nd
    have l8 := hc.len8
    have hl : (lawNums script at' 10).length = 10 := lawNums_len
    unfold evenH
    dsimp only
    generalize hns : lawNums script at' 10 = ns at *
    have e0 : ((ns.take c.length).map fun v => v % 10).length = c.length := by rw [List.length_map, List.length_take]; omega
    have hkb : 0 ≤ ns.getD 8 0 % ((c.length : Int) - 1) := Int.emod_nonneg _ (by omega)
    have hkb2 : ns.getD 8 0 % ((c.length : Int) - 1) < (c.length : Int) - 1 := Int.emod_lt_of_pos _ (by omega)
    have ek : ns.getD 8 0 % ((c.length : Int) - 1) = (((ns.getD 8 0 % ((c.length : Int) - 1)).toNat : Nat) : Int) := by omega
    have hkc : (ns.getD 8 0 % ((c.length : Int) - 1)).toNat + 1 < c.length := by omega
    generalize hk : (ns.getD 8 0 % ((c.length : Int) - 1)).toNat = k at *
    generalize hh0 : (ns.take c.length).map (fun v => v % 10) = h0 at *
    have e1 : (h0.map fun v => v * n).length = c.length := by rw [List.length_map, e0]
    have hc1 := hc.getD (k := k) (by omega)
    have hc2 := hc.getD (k := k + 1) (by omega)
    have hk1 : ((k : Int) + 1).toNat = k + 1 := by omega
    have s1 : ∀ {O : Out} {rest : List Stmt}, Xb (cxOf CX0 P w K mg base ["script", "at", "chain", "n", "numbers_v", "heap", "number", "count", "k", "step"] "_law_even_heap" (defScope s__law_even_heap) f cdv A outer s H E) E ((defBody s__law_even_heap).drop 2) [some (.sh (.scr K script)), some (.sh (.int at')), some (.sh (dI c)), some (.sh (.int n)), some (.sh (dI ns)), some (.at_ 0), none, none, none, none] [.nums h0] O → Xb (cxOf CX0 P w K mg base ["script", "at", "chain", "n", "numbers_v", "heap", "number", "count", "k", "step"] "_law_even_heap" (defScope s__law_even_heap) f cdv A outer s H E) E (defBody s__law_even_heap) (argS 10 [.scr K script, .int at', dI c, .int n]) [] O := fun {O rest} a => by
      refine xb_cons (xs_sh (i := 4) (d := dI ns) nd (xe_call (d__law_numbers Z) pass0 hr (xa_cons (xe_var 0) (xa_cons (xe_var 1) (xa_cons xe_int xa_nil))) ⟨script, at', 10, by decide, ha, rfl, by rw [hns]⟩)) (xb_cons (xs_lcN (i := 5) (ns := h0) [("number", 6)] (.one 6) nd (xi_list (xe_takeI (ns := ns) (k := (c.length : Int)) (by omega) (by omega) (xe_var 4) (xe_callB c_lenI Z.b_len boot_len (xa_cons (xe_var 2) xa_nil)))) ?_ (by rw [List.length_map, List.length_take]; omega) (fun _ _ _ _ _ => xg_one nd)) a)
      rw [← hh0, Int.toNat_natCast]
      exact comp_ints (f := fun v => v % 10) fun v hv s H C cl fp => xe_op (o_mod (by decide)) (xe_var 6) xe_int
    by_cases hA : 0 < ns.getD 9 0 % 3
    · rw [if_pos hA]
      have tA := fun {X : Cx} => opE (X := X) (o_gt (i := ns.getD 9 0 % 3) (j := 0)) (decide_eq_true hA)
      by_cases hB : 0 < (h0.map fun v => v * n).getD (k + 1) 0 ∧ (h0.map fun v => v * n).getD k 0 + c.getD (k + 1) 0 / c.getD k 0 ≤ 99
      · rw [if_pos hB]
        generalize hh1 : h0.map (fun v => v * n) = h1 at *
        have g1 : (h1.set (k + 1) (h1.getD (k + 1) 0 - 1)).getD k 0 = h1.getD k 0 := getD_set_ne (by omega)
        have hl2 : ((k : Nat) : Int) < ((h1.set (k + 1) (h1.getD (k + 1) 0 - 1)).length : Int) := by rw [List.length_set]; omega
        refine ⟨.rt (dI _), rfl, s1 (rest := []) (xb_cons (xs_if (c := true) (xt_cmp tA (xe_op (o_mod (by decide)) (xe_ix (i_int (k := 9) (by decide) (by omega)) (xe_var 4) xe_int) xe_int) xe_int) (fun _ => xb_cons (xs_lcN (i := 5) (ns := h1) [("count", 7)] (.one 7) nd (xi_list (xe_var 5)) ?_ (by rw [List.length_map]; omega) (fun _ _ _ _ _ => xg_one nd))
          (xb_cons (xs_flat (i := 8) (d := .int (k : Nat)) nd (xeE (xe_op (o_mod (by omega)) (xe_ix (i_int (k := 8) (by decide) (by omega)) (xe_var 4) xe_int) (xe_op o_sub (xe_callB c_lenI Z.b_len boot_len (xa_cons (xe_var 2) xa_nil)) xe_int)) (congrArg Dt.int ek)))
          (xb_cons (xs_flat (i := 9) (d := .int (c.getD (k + 1) 0 / c.getD k 0)) nd (xe_op (o_div ⟨by omega, by omega⟩) (xe_ix (i_intE (ns := c) (k := (k : Int) + 1) (by omega) (by omega) (by rw [hk1])) (xe_var 2) (xe_op o_add (xe_var 8) xe_int)) (xe_ix (i_int (ns := c) (k := (k : Nat)) (by omega) (by omega)) (xe_var 2) (xe_var 8))))
          (xb_cons (xs_if (c := true) (xt_bool (xw_and (c := true) (xt_cmp (opE (o_gt (i := h1.getD (k + 1) 0) (j := 0)) (decide_eq_true hB.1)) (xe_ix (i_intE (ns := h1) (k := (k : Int) + 1) (by omega) (by omega) (by rw [hk1])) (xe_var 5) (xe_op o_add (xe_var 8) xe_int)) xe_int) (fun _ => xw_and1 (xt_cmp (opE (o_le (j := 99)) (decide_eq_true hB.2)) (xe_op o_add (xe_ix (i_int (ns := h1) (k := (k : Nat)) (by omega) (by omega)) (xe_var 5) (xe_var 8)) (xe_var 9)) xe_int)) (fun h => by cases h)))
            (fun _ => xb_cons (xs_setix (v := h1.getD (k + 1) 0 - 1) (y := .at_ 1) (j := (k : Int) + 1) (ns := h1) (xr_var 5) rfl (xe_op o_add (xe_var 8) xe_int) (by omega) (by omega) (xe_op o_sub (xe_ix (i_intE (ns := h1) (k := (k : Int) + 1) (by omega) (by omega) (by rw [hk1])) (xe_var 5) (xe_op o_add (xe_var 8) xe_int)) xe_int))
            (xb_cons (xs_setix (v := h1.getD k 0 + c.getD (k + 1) 0 / c.getD k 0) (y := .at_ 1) (j := (k : Nat)) (ns := h1.set (k + 1) (h1.getD (k + 1) 0 - 1)) (xr_var 5) ?_ (xe_var 8) (by omega) hl2 (xe_op o_add (xe_ix (i_intE (ns := h1.set (k + 1) (h1.getD (k + 1) 0 - 1)) (k := (k : Nat)) (by omega) hl2 g1) (xe_var 5 (hd := ?_)) (xe_var 8)) (xe_var 9))) xb_nil)) (fun h => by cases h)) xb_nil)))) (fun h => by cases h))
          (xb_stop (xs_ret (xe_var 5)) trivial))⟩
        · rw [← hh1]
          exact comp_ints (f := fun v => v * n) fun v hv s H C cl fp => xe_op (o_mul (.inr ⟨by omega, by omega⟩)) (xe_var 7) (xe_var 3)
        · rw [hk1]
          rfl
        · rw [hk1]
          rfl
      · rw [if_neg hB]
        generalize hh1 : h0.map (fun v => v * n) = h1 at *
        refine ⟨.rt (dI _), rfl, s1 (rest := []) (xb_cons (xs_if (c := true) (xt_cmp tA (xe_op (o_mod (by decide)) (xe_ix (i_int (k := 9) (by decide) (by omega)) (xe_var 4) xe_int) xe_int) xe_int) (fun _ => xb_cons (xs_lcN (i := 5) (ns := h1) [("count", 7)] (.one 7) nd (xi_list (xe_var 5)) ?_ (by rw [List.length_map]; omega) (fun _ _ _ _ _ => xg_one nd))
          (xb_cons (xs_flat (i := 8) (d := .int (k : Nat)) nd (xeE (xe_op (o_mod (by omega)) (xe_ix (i_int (k := 8) (by decide) (by omega)) (xe_var 4) xe_int) (xe_op o_sub (xe_callB c_lenI Z.b_len boot_len (xa_cons (xe_var 2) xa_nil)) xe_int)) (congrArg Dt.int ek)))
          (xb_cons (xs_flat (i := 9) (d := .int (c.getD (k + 1) 0 / c.getD k 0)) nd (xe_op (o_div ⟨by omega, by omega⟩) (xe_ix (i_intE (ns := c) (k := (k : Int) + 1) (by omega) (by omega) (by rw [hk1])) (xe_var 2) (xe_op o_add (xe_var 8) xe_int)) (xe_ix (i_int (ns := c) (k := (k : Nat)) (by omega) (by omega)) (xe_var 2) (xe_var 8))))
          (xb_cons (xs_if (c := false) (xt_bool (xw_and (xt_cmp (o_gt (i := h1.getD (k + 1) 0) (j := 0)) (xe_ix (i_intE (ns := h1) (k := (k : Int) + 1) (by omega) (by omega) (by rw [hk1])) (xe_var 5) (xe_op o_add (xe_var 8) xe_int)) xe_int) (fun h => xw_and1 (xt_cmp (opE (o_le (j := 99)) (decide_eq_false fun z => hB ⟨of_decide_eq_true h, z⟩)) (xe_op o_add (xe_ix (i_int (ns := h1) (k := (k : Nat)) (by omega) (by omega)) (xe_var 5) (xe_var 8)) (xe_var 9)) xe_int)) (fun _ => rfl)))
            (fun h => by cases h) (fun _ => xb_nil)) xb_nil)))) (fun h => by cases h))
          (xb_stop (xs_ret (xe_var 5)) trivial))⟩
        rw [← hh1]
        exact comp_ints (f := fun v => v * n) fun v hv s H C cl fp => xe_op (o_mul (.inr ⟨by omega, by omega⟩)) (xe_var 7) (xe_var 3)
    · rw [if_neg hA]
      exact ⟨.rt (dI h0), rfl, s1 (rest := []) (xb_cons (xs_if (c := false) (xt_cmp (opE (o_gt (i := ns.getD 9 0 % 3) (j := 0)) (decide_eq_false hA)) (xe_op (o_mod (by decide)) (xe_ix (i_int (k := 9) (by decide) (by omega)) (xe_var 4) xe_int) xe_int) xe_int) (fun h => by cases h) (fun _ => xb_nil)) (xb_stop (xs_ret (xe_var 5)) trivial))⟩
end
end Pa
namespace Pa
theorem shares_iff {c h : List Int} {n : Int} (hc : Chn c) (hh : Hep c h) (h2 : 2 ≤ n) : sharesB c h n = true ↔ worth c h % n = 0 ∧ ∀ k, k ≤ c.length → leftBy c (evens c h n) k ≤ lesser c h k := by
  unfold sharesB
  rw [Bool.and_eq_true, decide_eq_true_eq, Option.isNone_iff_eq_none]
  have h0 := Int.emod_nonneg (worth c h) (show n ≠ 0 by omega)
  constructor
  · rintro ⟨a, b⟩
    refine ⟨by omega, fun k hk => ?_⟩
    unfold firstLack at b
    have := List.find?_eq_none.mp b k (List.mem_range.mpr (by omega))
    unfold lacks at this
    rw [decide_eq_true_eq] at this
    omega
  · rintro ⟨a, b⟩
    refine ⟨by omega, ?_⟩
    unfold firstLack
    refine List.find?_eq_none.mpr fun k hk => ?_
    have := b k (by have := List.mem_range.mp hk; omega)
    unfold lacks
    rw [decide_eq_true_eq]
    omega
theorem S1_const {v : Int} : ∀ n : Nat, S1 (fun _ => v) n = n * v
  | 0 => by show (0 : Int) = 0 * v; rw [Int.zero_mul]
  | n + 1 => by
    show S1 (fun _ => v) n + v = ((n + 1 : Nat) : Int) * v
    rw [S1_const n, Int.natCast_succ, Int.add_mul, Int.one_mul]
theorem left_evens {c h : List Int} {n : Int} (h0 : 0 ≤ n) {k : Nat} : leftBy c (evens c h n) k = n * (if k = c.length then worth c h / n else worth c h / n % c.getD k 0) := by
  have el : (evens c h n).length = n.toNat := List.length_replicate
  have eg : ∀ j, j < (evens c h n).length → (evens c h n).getD j 0 = worth c h / n := fun j hj => replicate_getD (by rw [← el]; exact hj)
  have en : ((n.toNat : Nat) : Int) = n := Int.toNat_of_nonneg h0
  by_cases hk : k = c.length
  · unfold leftBy
    rw [if_pos hk, if_pos hk, sum_S1, S1_congr (g := fun _ => worth c h / n) eg, S1_const, el, en]
  · unfold leftBy
    rw [if_neg hk, if_neg hk, sum_map_S1 0, S1_congr (g := fun _ => worth c h / n % c.getD k 0) fun j hj => by rw [eg j hj], S1_const, el, en]
theorem emod_le0 {a c : Int} (ha : 0 ≤ a) (hc : 0 < c) : a % c ≤ a := by
  have h1 := Int.mul_ediv_add_emod a c
  have h2 : 0 ≤ c * (a / c) := Int.mul_nonneg (by omega) (Int.ediv_nonneg ha (by omega))
  omega
theorem mul_mod_le {e x c : Int} (he : 0 ≤ e) (hc : 0 < c) : (e * x) % c ≤ e * (x % c) := by
  have h1 : (e * x) % c = (e * (x % c)) % c := by rw [Int.mul_emod, Int.mul_emod e (x % c), Int.emod_emod]
  rw [h1]
  exact emod_le0 (Int.mul_nonneg he (Int.emod_nonneg x (by omega))) hc
/-- a divisor's shares -/
theorem shares_div {c h : List Int} {n d : Int} (hc : Chn c) (hh : Hep c h) (h2 : 2 ≤ n) (hd : 2 ≤ d) (hm : n % d = 0) (hs : sharesB c h n = true) : sharesB c h d = true := by
  obtain ⟨hw, hl⟩ := (shares_iff hc hh h2).mp hs
  obtain ⟨e, rfl⟩ := Int.dvd_of_emod_eq_zero hm
  obtain ⟨x, hx⟩ := Int.dvd_of_emod_eq_zero hw
  have he : 0 ≤ e := by
    by_cases h : 0 ≤ e
    · exact h
    · have : d * e ≤ d * 0 := Int.mul_le_mul_of_nonneg_left (by omega) (by omega)
      omega
  have q1 : worth c h / (d * e) = x := by rw [hx]; exact Int.mul_ediv_cancel_left x (by omega)
  have q2 : worth c h / d = e * x := by rw [hx, Int.mul_assoc]; exact Int.mul_ediv_cancel_left (e * x) (by omega)
  refine (shares_iff hc hh hd).mpr ⟨by rw [hx, Int.mul_assoc]; exact Int.mul_emod_right d (e * x), fun k hk => ?_⟩
  have hlk := hl k hk
  rw [left_evens (by omega), q2]
  rw [left_evens (by omega), q1] at hlk
  by_cases hk2 : k = c.length
  · rw [if_pos hk2] at hlk ⊢
    rw [← Int.mul_assoc]
    exact hlk
  · rw [if_neg hk2] at hlk ⊢
    have hv := hc.getD (k := k) (by omega)
    have h1 := Int.mul_le_mul_of_nonneg_left (mul_mod_le (x := x) he (show 0 < c.getD k 0 by omega)) (show 0 ≤ d by omega)
    rw [← Int.mul_assoc] at h1
    omega
/-- the least pieces alone -/
def leastH (c : List Int) (w : Int) : List Int := w :: List.replicate (c.length - 1) 0
theorem leastH_at {c : List Int} {w : Int} {i : Nat} : (leastH c w).getD i 0 = if i = 0 then w else 0 := by
  unfold leastH
  cases i with
  | zero => rfl
  | succ i =>
    rw [if_neg (by omega)]
    show (List.replicate (c.length - 1) (0 : Int)).getD i 0 = 0
    by_cases h : i < c.length - 1
    · exact replicate_getD h
    · rw [List.getD_eq_getElem?_getD, List.getElem?_replicate, if_neg h]
      rfl
theorem leastH_S1 {c : List Int} {w : Int} : ∀ k, S1 (fun i => c.getD i 0 * (leastH c w).getD i 0) k = if k = 0 then 0 else c.getD 0 0 * w
  | 0 => rfl
  | k + 1 => by
    show S1 (fun i => c.getD i 0 * (leastH c w).getD i 0) k + c.getD k 0 * (leastH c w).getD k 0 = _
    rw [leastH_S1 k, leastH_at, if_neg (by omega : k + 1 ≠ 0)]
    by_cases h : k = 0
    · subst h
      rw [if_pos rfl, if_pos rfl, Int.zero_add]
    · rw [if_neg h, if_neg h, Int.mul_zero, Int.add_zero]
theorem leastH_ok {c h : List Int} (hc : Chn c) (hh : Hep c h) (h99 : worth c h / c.getD 0 0 ≤ 99) : Hep c (leastH c (worth c h / c.getD 0 0)) := by
  have l0 := hc.len0
  have hv := hc.getD l0
  refine ⟨by unfold leastH; rw [List.length_cons, List.length_replicate]; omega, fun v hv2 => ?_⟩
  unfold leastH at hv2
  rcases List.mem_cons.mp hv2 with rfl | hv2
  · exact ⟨Int.ediv_nonneg (worth_nonneg hc hh) (by omega), h99⟩
  · rw [(List.mem_replicate.mp hv2).2]
    decide
theorem dvd_S1 {d : Int} {f : Nat → Int} : ∀ {n : Nat}, (∀ i, i < n → d ∣ f i) → d ∣ S1 f n
  | 0, _ => Int.dvd_zero d
  | n + 1, h => Int.dvd_add (dvd_S1 fun i hi => h i (by omega)) (h n (by omega))
theorem worth_dvd {c h : List Int} (hc : Chn c) (hh : Hep c h) : c.getD 0 0 ∣ worth c h := by
  rw [worth_S1 hh.len]
  exact dvd_S1 fun i hi => Int.dvd_trans (hc.dvd (Nat.zero_le _) hi) (Int.dvd_mul_right _ _)
theorem least_shares {c h : List Int} {n : Int} (hc : Chn c) (hh : Hep c h) (h2 : 2 ≤ n) (h99 : worth c h / c.getD 0 0 ≤ 99) (hw : worth c h % n = 0) (hp : worth c h / n % c.getD 0 0 = 0) : sharesB c (leastH c (worth c h / c.getD 0 0)) n = true := by
  have l0 := hc.len0
  have hok := leastH_ok hc hh h99
  have hw0 := worth_nonneg hc hh
  have e0 : c.getD 0 0 * (worth c h / c.getD 0 0) = worth c h := Int.mul_ediv_cancel' (worth_dvd hc hh)
  have ew : worth c (leastH c (worth c h / c.getD 0 0)) = worth c h := by
    rw [worth_S1 hok.len, leastH_S1, if_neg (by omega), e0]
  refine (shares_iff hc hok h2).mpr ⟨by rw [ew]; exact hw, fun k hk => ?_⟩
  rw [left_evens (by omega), ew, lesser_S1 hok.len hk, leastH_S1, e0]
  have q0 : 0 ≤ worth c h / n := Int.ediv_nonneg hw0 (by omega)
  have qn : n * (worth c h / n) = worth c h := Int.mul_ediv_cancel' (Int.dvd_of_emod_eq_zero hw)
  by_cases hk0 : k = 0
  · subst hk0
    rw [if_neg (by omega), hp, if_pos rfl, Int.mul_zero]
    exact Int.le_refl _
  · rw [if_neg hk0]
    by_cases hkm : k = c.length
    · rw [if_pos hkm, qn]
      exact Int.le_refl _
    · rw [if_neg hkm]
      have hv := hc.getD (k := k) (by omega)
      have := Int.mul_le_mul_of_nonneg_left (emod_le0 q0 (show 0 < c.getD k 0 by omega)) (show 0 ≤ n by omega)
      omega
end Pa
namespace Pa
def grLeft (c h : List Int) (a : Int) : Nat → Int
  | 0 => a
  | i + 1 => grLeft c h a i - min (h.getD (c.length - 1 - i) 0) (grLeft c h a i / c.getD (c.length - 1 - i) 0) * c.getD (c.length - 1 - i) 0
/-- a can be paid by x, a part of h -/
structure Pays (c h x : List Int) (a : Int) : Prop where
  len : x.length = c.length
  rg : ∀ i, i < c.length → 0 ≤ x.getD i 0 ∧ x.getD i 0 ≤ h.getD i 0
  sum : worth c x = a
theorem mod_lesser {c x : List Int} (hc : Chn c) (hl : x.length = c.length) (h0 : ∀ i, i < c.length → 0 ≤ x.getD i 0) {k : Nat} (hk : k < c.length) : worth c x % c.getD k 0 ≤ lesser c x k := by
  have hv := hc.getD hk
  have ls : lesser c x k = S1 (fun i => c.getD i 0 * x.getD i 0) k := lesser_S1 hl (by omega)
  have l0 : 0 ≤ lesser c x k := by
    rw [ls]
    exact S1_nonneg fun i hi => Int.mul_nonneg (by have := hc.getD (k := i) (by omega); omega) (h0 i (by omega))
  have key : ∀ n, k ≤ n → n ≤ c.length → S1 (fun i => c.getD i 0 * x.getD i 0) n % c.getD k 0 = lesser c x k % c.getD k 0 := by
    intro n
    induction n with
    | zero =>
      intro h1 _
      have : k = 0 := by omega
      subst this
      rw [ls]
    | succ n ih =>
      intro h1 h2
      by_cases hkn : k = n + 1
      · rw [ls, hkn]
      · show (S1 (fun i => c.getD i 0 * x.getD i 0) n + c.getD n 0 * x.getD n 0) % c.getD k 0 = _
        obtain ⟨e, he⟩ := hc.dvd (i := k) (j := n) (by omega) (by omega)
        rw [he, Int.mul_assoc, Int.add_mul_emod_self_left]
        exact ih (by omega) (by omega)
  rw [worth_S1 hl, key c.length (by omega) (Nat.le_refl _)]
  exact emod_le0 l0 (by omega)
theorem lesser_le {c x h : List Int} (hc : Chn c) (hx : x.length = c.length) (hh : h.length = c.length) (hr : ∀ i, i < c.length → x.getD i 0 ≤ h.getD i 0) {k : Nat} (hk : k ≤ c.length) : lesser c x k ≤ lesser c h k := by
  rw [lesser_S1 hx hk, lesser_S1 hh hk]
  exact S1_le fun i hi => Int.mul_le_mul_of_nonneg_left (hr i (by omega)) (by have := hc.getD (k := i) (by omega); omega)
theorem grLeft_ok {c h x : List Int} {a : Int} (hc : Chn c) (hh : Hep c h) (hp : Pays c h x a) (ha : 0 ≤ a) : ∀ i, i ≤ c.length → 0 ≤ grLeft c h a i ∧ grLeft c h a i ≤ lesser c h (c.length - i) ∧ ∀ k, k < c.length - i → grLeft c h a i % c.getD k 0 = a % c.getD k 0
  | 0, _ => by
    refine ⟨ha, ?_, fun k _ => rfl⟩
    show a ≤ lesser c h (c.length - 0)
    rw [Nat.sub_zero]
    have := lesser_le hc hp.len hh.len (fun i hi => (hp.rg i hi).2) (Nat.le_refl c.length)
    rw [lesser_all hp.len, hp.sum] at this
    exact this
  | i + 1, hi => by
    obtain ⟨g0, g1, g2⟩ := grLeft_ok hc hh hp ha i (by omega)
    have e1 : c.length - i = (c.length - 1 - i) + 1 := by omega
    have e2 : c.length - (i + 1) = c.length - 1 - i := by omega
    have hk : c.length - 1 - i < c.length := by omega
    show 0 ≤ grLeft c h a i - _ ∧ grLeft c h a i - _ ≤ _ ∧ ∀ k, k < c.length - (i + 1) → (grLeft c h a i - _) % c.getD k 0 = _
    rw [e2]
    rw [e1] at g1 g2
    generalize hkk : c.length - 1 - i = k at *
    generalize grLeft c h a i = l at *
    have hv := hc.getD hk
    have hg := (hh.rg _ (getD_mem (d := 0) (j := k) (by rw [hh.len]; exact hk))).1
    have hless : lesser c h (k + 1) = lesser c h k + c.getD k 0 * h.getD k 0 := by
      rw [lesser_S1 hh.len (by omega), lesser_S1 hh.len (by omega)]
      rfl
    have hq := Int.ediv_nonneg g0 (show 0 ≤ c.getD k 0 by omega)
    have hd := Int.ediv_mul_le l (b := c.getD k 0) (by omega)
    have hm := Int.mul_ediv_add_emod l (c.getD k 0)
    refine ⟨?_, ?_, fun j hj => ?_⟩
    · have : min (h.getD k 0) (l / c.getD k 0) * c.getD k 0 ≤ l / c.getD k 0 * c.getD k 0 := Int.mul_le_mul_of_nonneg_right (by omega) (by omega)
      omega
    · by_cases hmin : h.getD k 0 ≤ l / c.getD k 0
      · rw [Int.min_eq_left hmin, Int.mul_comm (h.getD k 0)]
        omega
      · rw [Int.min_eq_right (by omega), Int.mul_comm (l / c.getD k 0)]
        have h1 := g2 k (by omega)
        have h2 := mod_lesser hc hp.len (fun i hi => (hp.rg i hi).1) hk
        rw [hp.sum] at h2
        have h3 := lesser_le hc hp.len hh.len (fun i hi => (hp.rg i hi).2) (k := k) (by omega)
        omega
    · rw [sub_mod (hc.dvd (by omega) hk)]
      exact g2 j (by omega)
/-- greedy pays whatever can be paid -/
theorem gr_pays {c h x : List Int} {a : Int} (hc : Chn c) (hh : Hep c h) (hp : Pays c h x a) (ha : 0 ≤ a) : grLeft c h a c.length = 0 := by
  obtain ⟨g0, g1, _⟩ := grLeft_ok hc hh hp ha c.length (Nat.le_refl _)
  rw [Nat.sub_self, lesser_S1 hh.len (Nat.zero_le _)] at g1
  have : S1 (fun i => c.getD i 0 * h.getD i 0) 0 = 0 := rfl
  omega
end Pa
namespace Pa
def plainAt (c h : List Int) : Nat → List Int
  | 0 => h
  | k + 1 =>
    let f := plainAt c h k
    (f.set (k + 1) (f.getD (k + 1) 0 + f.getD k 0 / (c.getD (k + 1) 0 / c.getD k 0))).set k (f.getD k 0 % (c.getD (k + 1) 0 / c.getD k 0))
theorem plainAt_len {c h : List Int} : ∀ k, (plainAt c h k).length = h.length
  | 0 => rfl
  | k + 1 => by
    show ((List.set _ _ _).set _ _).length = _
    rw [List.length_set, List.length_set]
    exact plainAt_len k
theorem worth_put {c r : List Int} {k : Nat} {x : Int} (hl : r.length = c.length) (hk : k < c.length) : worth c (r.set k x) = worth c r + c.getD k 0 * (x - r.getD k 0) := by
  rw [worth_S1 (by rw [List.length_set, hl]), worth_S1 hl]
  refine S1_set hk (fun i hi hne => by rw [getD_set_ne (Ne.symm hne)]) ?_
  rw [getD_set_self (by omega), Int.mul_sub]
  omega
theorem plain_worth {c h : List Int} (hc : Chn c) (hl : h.length = c.length) : ∀ k, k + 1 ≤ c.length → worth c (plainAt c h k) = worth c h
  | 0, _ => rfl
  | k + 1, hk => by
    have ih := plain_worth hc hl k (by omega)
    have pl : (plainAt c h k).length = c.length := (plainAt_len k).trans hl
    show worth c (((plainAt c h k).set (k + 1) _).set k _) = _
    rw [worth_put (by rw [List.length_set]; exact pl) (by omega), worth_put pl (by omega), getD_set_ne (by omega), ih]
    obtain ⟨e, he⟩ := hc.dvd (i := k) (j := k + 1) (by omega) (by omega)
    have hv := hc.getD (k := k) (by omega)
    have es : c.getD (k + 1) 0 / c.getD k 0 = e := by rw [he]; exact Int.mul_ediv_cancel_left e (by omega)
    rw [es]
    generalize (plainAt c h k).getD k 0 = x
    generalize (plainAt c h k).getD (k + 1) 0 = y
    rw [he]
    have hm := Int.mul_ediv_add_emod x e
    have h1 : c.getD k 0 * e * (y + x / e - y) = c.getD k 0 * (e * (x / e)) := by
      have : y + x / e - y = x / e := by omega
      rw [this, Int.mul_assoc]
    have h2 : c.getD k 0 * (x % e - x) = c.getD k 0 * (x % e) - c.getD k 0 * x := Int.mul_sub _ _ _
    have h3 : c.getD k 0 * x = c.getD k 0 * (e * (x / e)) + c.getD k 0 * (x % e) := by rw [← Int.mul_add, hm]
    rw [h1, h2]
    omega
end Pa
namespace Pa
/-- the numbers of pieces at k that may be paid of l -/
def nAt (c h : List Int) (k : Nat) (l : Int) : List Int :=
  if 0 < l % c.getD k 0 then [] else
  if k = c.length - 1 then (if l / c.getD k 0 = min (h.getD k 0) (l / c.getD k 0) then [l / c.getD k 0] else []) else
  rngD ((min (h.getD k 0) (l / c.getD k 0) - l / c.getD k 0 % (c.getD (k + 1) 0 / c.getD k 0)) / (c.getD (k + 1) 0 / c.getD k 0) + 1).toNat fun i => l / c.getD k 0 % (c.getD (k + 1) 0 / c.getD k 0) + (i : Int) * (c.getD (k + 1) 0 / c.getD k 0)
/-- the ways to pay l with the last j values, and the pieces of all of them -/
def wpN (c h : List Int) : Nat → Int → Int × Int
  | 0, l => if l = 0 then (1, 0) else (0, 0)
  | j + 1, l => (((nAt c h (c.length - (j + 1)) l).map fun x => (wpN c h j (l - x * c.getD (c.length - (j + 1)) 0)).1).sum,
      ((nAt c h (c.length - (j + 1)) l).map fun x => (wpN c h j (l - x * c.getD (c.length - (j + 1)) 0)).2 + x * (wpN c h j (l - x * c.getD (c.length - (j + 1)) 0)).1).sum)
def wN (c h : List Int) (j : Nat) (l : Int) : Int := (wpN c h j l).1
def pN (c h : List Int) (j : Nat) (l : Int) : Int := (wpN c h j l).2
theorem wN_succ {c h : List Int} {j : Nat} {l : Int} : wN c h (j + 1) l = ((nAt c h (c.length - (j + 1)) l).map fun x => wN c h j (l - x * c.getD (c.length - (j + 1)) 0)).sum := rfl
theorem pN_succ {c h : List Int} {j : Nat} {l : Int} : pN c h (j + 1) l = ((nAt c h (c.length - (j + 1)) l).map fun x => pN c h j (l - x * c.getD (c.length - (j + 1)) 0) + x * wN c h j (l - x * c.getD (c.length - (j + 1)) 0)).sum := rfl
theorem sum_nonneg {xs : List Int} (h : ∀ x ∈ xs, 0 ≤ x) : 0 ≤ xs.sum := by
  induction xs with
  | nil => exact Int.le_refl _
  | cons x xs ih =>
    rw [List.sum_cons]
    have h1 := h x List.mem_cons_self
    have h2 := ih fun y hy => h y (List.mem_cons_of_mem _ hy)
    omega
theorem wN_nonneg {c h : List Int} : ∀ (j : Nat) (l : Int), 0 ≤ wN c h j l
  | 0, l => by
    unfold wN wpN
    split <;> decide
  | j + 1, l => by
    rw [wN_succ]
    refine sum_nonneg fun x hx => ?_
    obtain ⟨y, _, rfl⟩ := List.mem_map.mp hx
    exact wN_nonneg j _
/-- the step from a value to the next one -/
theorem Chn.step {c : List Int} (hc : Chn c) {k : Nat} (hk : k + 1 < c.length) : 2 ≤ c.getD (k + 1) 0 / c.getD k 0 ∧ c.getD (k + 1) 0 = c.getD k 0 * (c.getD (k + 1) 0 / c.getD k 0) := by
  have h1 := hc.getD (k := k) (by omega)
  have h2 := hc.st k hk
  have h3 : c.getD (k + 1) 0 = c.getD k 0 * (c.getD (k + 1) 0 / c.getD k 0) := (Int.mul_ediv_cancel' (Int.dvd_of_emod_eq_zero h2.2)).symm
  refine ⟨?_, h3⟩
  by_cases h : c.getD (k + 1) 0 / c.getD k 0 ≤ 1
  · have := Int.mul_le_mul_of_nonneg_left h (show 0 ≤ c.getD k 0 by omega)
    omega
  · omega
theorem nAt_rg {c h : List Int} {k : Nat} {l x : Int} (hc : Chn c) (hh : Hep c h) (hk : k < c.length) (hl : 0 ≤ l) (hx : x ∈ nAt c h k l) : 0 ≤ x ∧ x ≤ h.getD k 0 ∧ x ≤ l / c.getD k 0 ∧ l % c.getD k 0 = 0 ∧ (k + 1 = c.length → x = l / c.getD k 0) ∧ (k + 1 < c.length → (l / c.getD k 0 - x) % (c.getD (k + 1) 0 / c.getD k 0) = 0) := by
  have hv := hc.getD hk
  have hg := hh.rg _ (getD_mem (d := 0) (j := k) (by rw [hh.len]; exact hk))
  have hq := Int.ediv_nonneg hl (show 0 ≤ c.getD k 0 by omega)
  have hm0 := Int.emod_nonneg l (show c.getD k 0 ≠ 0 by omega)
  unfold nAt at hx
  split at hx
  · cases hx
  · rename_i h0
    split at hx
    · rename_i h1
      split at hx
      · rename_i h2
        rw [List.mem_singleton.mp hx]
        exact ⟨hq, by omega, by omega, by omega, fun _ => rfl, fun h => by omega⟩
      · cases hx
    · rename_i h1
      obtain ⟨i, hi, rfl⟩ := rngD_mem hx
      obtain ⟨s2, s3⟩ := hc.step (k := k) (by omega)
      generalize c.getD (k + 1) 0 / c.getD k 0 = st at *
      generalize hqq : l / c.getD k 0 = q at *
      have m0 := Int.emod_nonneg q (show st ≠ 0 by omega)
      have m1 := Int.emod_lt_of_pos q (show 0 < st by omega)
      have m2 := Int.mul_ediv_add_emod q st
      generalize hlo : q % st = lo at *
      have hi0 : 0 ≤ (i : Int) * st := Int.mul_nonneg (by omega) (by omega)
      have key : lo + (i : Int) * st ≤ min (h.getD k 0) q := by
        generalize hmn : min (h.getD k 0) q = mn at *
        have hd := Int.ediv_mul_le (mn - lo) (b := st) (by omega)
        have hi1 : (i : Int) ≤ (mn - lo) / st := by omega
        have hi2 := Int.mul_le_mul_of_nonneg_right hi1 (show 0 ≤ st by omega)
        omega
      refine ⟨by omega, by omega, by omega, by omega, fun h => by omega, fun _ => ?_⟩
      have e : q - (lo + (i : Int) * st) = st * (q / st - i) := by
        rw [Int.mul_sub, Int.mul_comm st (i : Int)]
        omega
      rw [e]
      exact Int.mul_emod_right _ _
theorem nAt_asc {c h : List Int} {k : Nat} {l : Int} (hc : Chn c) (hk : k < c.length) : (nAt c h k l).Pairwise (· < ·) := by
  unfold nAt
  split
  · exact .nil
  · split
    · split
      · exact List.pairwise_singleton _ _
      · exact .nil
    · obtain ⟨s2, s3⟩ := hc.step (k := k) (by omega)
      unfold rngD
      rw [List.pairwise_map]
      refine List.Pairwise.imp ?_ List.pairwise_lt_range
      intro i j hij
      have : (i : Int) * (c.getD (k + 1) 0 / c.getD k 0) < (j : Int) * (c.getD (k + 1) 0 / c.getD k 0) := Int.mul_lt_mul_of_pos_right (by omega) (by omega)
      omega
/-- what is left at k of a, p paid -/
def lfAt (c p : List Int) (a : Int) : Nat → Int
  | 0 => a
  | k + 1 => lfAt c p a k - p.getD k 0 * c.getD k 0
structure Way (c h p : List Int) (a : Int) : Prop where
  len : p.length = c.length
  mem : ∀ k, k < c.length → p.getD k 0 ∈ nAt c h k (lfAt c p a k)
  last : lfAt c p a c.length = 0
/-- those that come ahead, at k -/
def rkAt (c h p : List Int) (a : Int) (k : Nat) : Int := ((nAt c h k (lfAt c p a k)).map fun y => if y < p.getD k 0 then wN c h (c.length - (k + 1)) (lfAt c p a k - y * c.getD k 0) else 0).sum
def rankN (c h p : List Int) (a : Int) : Nat → Int
  | 0 => 0
  | j + 1 => rkAt c h p a (c.length - (j + 1)) + rankN c h p a j
def numAt (c h p : List Int) (a : Int) : Nat → Int
  | 0 => 0
  | k + 1 => numAt c h p a k + rkAt c h p a k
theorem num_rank {c h p : List Int} {a : Int} : ∀ k, k ≤ c.length → numAt c h p a k + rankN c h p a (c.length - k) = rankN c h p a c.length
  | 0, _ => by
    show 0 + rankN c h p a (c.length - 0) = _
    rw [Nat.sub_zero, Int.zero_add]
  | k + 1, hk => by
    have ih := num_rank (c := c) (h := h) (p := p) (a := a) k (by omega)
    have e : c.length - k = (c.length - (k + 1)) + 1 := by omega
    rw [e] at ih
    have e2 : rankN c h p a ((c.length - (k + 1)) + 1) = rkAt c h p a (c.length - ((c.length - (k + 1)) + 1)) + rankN c h p a (c.length - (k + 1)) := rfl
    have e3 : c.length - ((c.length - (k + 1)) + 1) = k := by omega
    rw [e2, e3] at ih
    show numAt c h p a k + rkAt c h p a k + _ = _
    omega
theorem num_all {c h p : List Int} {a : Int} : numAt c h p a c.length = rankN c h p a c.length := by
  have := num_rank (c := c) (h := h) (p := p) (a := a) c.length (Nat.le_refl _)
  rw [Nat.sub_self] at this
  have e : rankN c h p a 0 = 0 := rfl
  omega
/-- the numbers ahead of p's own, its own, those behind -/
theorem Way.split {c h p : List Int} {a : Int} (hc : Chn c) (w : Way c h p a) {k : Nat} (hk : k < c.length) : ∃ ys zs, nAt c h k (lfAt c p a k) = ys ++ p.getD k 0 :: zs ∧ (∀ y ∈ ys, y < p.getD k 0) ∧ (∀ y ∈ zs, p.getD k 0 < y) := by
  obtain ⟨ys, zs, e⟩ := List.append_of_mem (w.mem k hk)
  have asc := nAt_asc (h := h) (l := lfAt c p a k) hc hk
  rw [e] at asc
  obtain ⟨h1, h2, h3⟩ := List.pairwise_append.mp asc
  exact ⟨ys, zs, e, fun y hy => h3 y hy _ List.mem_cons_self, fun y hy => (List.pairwise_cons.mp h2).1 y hy⟩
theorem map_if_lt {ys : List Int} {x : Int} {f : Int → Int} (h : ∀ y ∈ ys, y < x) : (ys.map fun y => if y < x then f y else 0) = ys.map f := List.map_congr_left fun y hy => if_pos (h y hy)
theorem sum_if_gt {ys : List Int} {x : Int} {f : Int → Int} (h : ∀ y ∈ ys, x < y) : (ys.map fun y => if y < x then f y else 0).sum = 0 := by
  induction ys with
  | nil => rfl
  | cons y ys ih =>
    rw [List.map_cons, List.sum_cons, ih fun z hz => h z (List.mem_cons_of_mem _ hz), if_neg (by have := h y List.mem_cons_self; omega)]
    rfl
theorem rk_split {c h p ys zs : List Int} {a : Int} {k : Nat} (e : nAt c h k (lfAt c p a k) = ys ++ p.getD k 0 :: zs) (h1 : ∀ y ∈ ys, y < p.getD k 0) (h2 : ∀ y ∈ zs, p.getD k 0 < y) : rkAt c h p a k = (ys.map fun y => wN c h (c.length - (k + 1)) (lfAt c p a k - y * c.getD k 0)).sum := by
  unfold rkAt
  rw [e, List.map_append, List.sum_append, List.map_cons, List.sum_cons, map_if_lt h1, sum_if_gt h2, if_neg (by omega)]
  omega
theorem rank_rg {c h p : List Int} {a : Int} (hc : Chn c) (w : Way c h p a) : ∀ j, j ≤ c.length → 0 ≤ rankN c h p a j ∧ rankN c h p a j < wN c h j (lfAt c p a (c.length - j))
  | 0, _ => by
    rw [Nat.sub_zero, w.last]
    exact ⟨Int.le_refl _, by show (0 : Int) < (if (0 : Int) = 0 then ((1 : Int), (0 : Int)) else (0, 0)).1; decide⟩
  | j + 1, hj => by
    obtain ⟨i1, i2⟩ := rank_rg hc w j (by omega)
    have hk : c.length - (j + 1) < c.length := by omega
    obtain ⟨ys, zs, e, h1, h2⟩ := w.split hc hk
    have er := rk_split e h1 h2
    have e1 : c.length - j = (c.length - (j + 1)) + 1 := by omega
    have e2 : c.length - ((c.length - (j + 1)) + 1) = j := by omega
    rw [e1] at i2
    have e3 : lfAt c p a ((c.length - (j + 1)) + 1) = lfAt c p a (c.length - (j + 1)) - p.getD (c.length - (j + 1)) 0 * c.getD (c.length - (j + 1)) 0 := rfl
    rw [e3] at i2
    rw [wN_succ, e, List.map_append, List.sum_append, List.map_cons, List.sum_cons]
    show 0 ≤ rkAt c h p a (c.length - (j + 1)) + rankN c h p a j ∧ rkAt c h p a (c.length - (j + 1)) + rankN c h p a j < _
    rw [er, e2]
    have n1 : 0 ≤ (ys.map fun y => wN c h j (lfAt c p a (c.length - (j + 1)) - y * c.getD (c.length - (j + 1)) 0)).sum := sum_nonneg fun x hx => by
      obtain ⟨y, _, rfl⟩ := List.mem_map.mp hx
      exact wN_nonneg j _
    have n2 : 0 ≤ (zs.map fun y => wN c h j (lfAt c p a (c.length - (j + 1)) - y * c.getD (c.length - (j + 1)) 0)).sum := sum_nonneg fun x hx => by
      obtain ⟨y, _, rfl⟩ := List.mem_map.mp hx
      exact wN_nonneg j _
    omega
theorem lf_S1 {c p : List Int} {a : Int} : ∀ k, lfAt c p a k = a - S1 (fun i => c.getD i 0 * p.getD i 0) k
  | 0 => by show a = a - 0; omega
  | k + 1 => by
    show lfAt c p a k - _ = a - (S1 _ k + c.getD k 0 * p.getD k 0)
    rw [lf_S1 k, Int.mul_comm (p.getD k 0)]
    omega
/-- what is left at k is what the values from k on pay: a multiple of them -/
theorem S1_tail {f : Nat → Int} {d : Int} {k : Nat} : ∀ m, (∀ i, k ≤ i → i < k + m → d ∣ f i) → d ∣ S1 f (k + m) - S1 f k
  | 0, _ => by
    rw [Nat.add_zero, Int.sub_self]
    exact Int.dvd_zero d
  | m + 1, h => by
    have ih := S1_tail (f := f) (d := d) (k := k) m fun i h1 h2 => h i h1 (by omega)
    have e : S1 f (k + (m + 1)) - S1 f k = (S1 f (k + m) - S1 f k) + f (k + m) := by
      show S1 f (k + m) + f (k + m) - S1 f k = _
      omega
    rw [e]
    exact Int.dvd_add ih (h (k + m) (by omega) (by omega))
theorem lf_dvd {c h p : List Int} {a : Int} (hc : Chn c) (hp : Pays c h p a) {k : Nat} (hk : k < c.length) : c.getD k 0 ∣ lfAt c p a k := by
  rw [lf_S1, ← hp.sum, worth_S1 hp.len]
  have := S1_tail (f := fun i => c.getD i 0 * p.getD i 0) (d := c.getD k 0) (k := k) (c.length - k) fun i h1 h2 => Int.dvd_trans (hc.dvd h1 (by omega)) (Int.dvd_mul_right _ _)
  have e : k + (c.length - k) = c.length := by omega
  rw [e] at this
  exact this
theorem lf_nonneg {c h p : List Int} {a : Int} (hc : Chn c) (hp : Pays c h p a) {k : Nat} (hk : k ≤ c.length) : 0 ≤ lfAt c p a k := by
  rw [lf_S1, ← hp.sum, worth_S1 hp.len]
  have key : ∀ m, k + m ≤ c.length → S1 (fun i => c.getD i 0 * p.getD i 0) k ≤ S1 (fun i => c.getD i 0 * p.getD i 0) (k + m) := by
    intro m
    induction m with
    | zero => intro _; exact Int.le_refl _
    | succ m ih =>
      intro hm
      have := ih (by omega)
      have h1 : 0 ≤ c.getD (k + m) 0 * p.getD (k + m) 0 := Int.mul_nonneg (by have := hc.getD (k := k + m) (by omega); omega) (hp.rg _ (by omega)).1
      show _ ≤ S1 _ (k + m) + c.getD (k + m) 0 * p.getD (k + m) 0
      omega
  have := key (c.length - k) (by omega)
  rw [show k + (c.length - k) = c.length by omega] at this
  omega
/-- a payment is one of the ways -/
theorem pays_way {c h p : List Int} {a : Int} (hc : Chn c) (hh : Hep c h) (hp : Pays c h p a) : Way c h p a := by
  have last : lfAt c p a c.length = 0 := by
    rw [lf_S1, ← hp.sum, worth_S1 hp.len]
    omega
  refine ⟨hp.len, fun k hk => ?_, last⟩
  have hv := hc.getD hk
  obtain ⟨p0, p1⟩ := hp.rg k hk
  obtain ⟨q, hq⟩ := lf_dvd hc hp hk
  have e1 : lfAt c p a k / c.getD k 0 = q := by rw [hq]; exact Int.mul_ediv_cancel_left q (by omega)
  have e2 : lfAt c p a k % c.getD k 0 = 0 := by rw [hq]; exact Int.mul_emod_right _ _
  have es : lfAt c p a (k + 1) = c.getD k 0 * (q - p.getD k 0) := by
    show lfAt c p a k - p.getD k 0 * c.getD k 0 = _
    rw [hq, Int.mul_sub, Int.mul_comm (p.getD k 0)]
  have n1 := lf_nonneg hc hp (k := k + 1) (by omega)
  have hpq : p.getD k 0 ≤ q := by
    by_cases h : p.getD k 0 ≤ q
    · exact h
    · have := Int.mul_le_mul_of_nonneg_left (show q - p.getD k 0 ≤ -1 by omega) (show 0 ≤ c.getD k 0 by omega)
      omega
  unfold nAt
  rw [e1, e2, if_neg (by decide)]
  split
  · rename_i hl
    have ek : k + 1 = c.length := by omega
    rw [ek, last] at es
    have hz : q - p.getD k 0 = 0 := by
      rcases Int.mul_eq_zero.mp es.symm with h | h <;> omega
    rw [if_pos (by omega)]
    exact List.mem_singleton.mpr (by omega)
  · rename_i hl
    obtain ⟨s2, s3⟩ := hc.step (k := k) (by omega)
    obtain ⟨m, hm⟩ := lf_dvd hc hp (k := k + 1) (by omega)
    rw [es, s3, Int.mul_assoc] at hm
    generalize c.getD (k + 1) 0 / c.getD k 0 = st at *
    have hm2 : q - p.getD k 0 = st * m := Int.eq_of_mul_eq_mul_left (by omega) hm
    have elo : q % st = p.getD k 0 % st := by
      have : q = p.getD k 0 + st * m := by omega
      rw [this, Int.add_mul_emod_self_left]
    rw [elo]
    generalize p.getD k 0 = x at *
    have d1 := Int.mul_ediv_add_emod x st
    have d2 := Int.emod_nonneg x (show st ≠ 0 by omega)
    have d3 : 0 ≤ x / st := Int.ediv_nonneg p0 (by omega)
    have i1 : x / st ≤ (min (h.getD k 0) q - x % st) / st := by
      rw [Int.le_ediv_iff_mul_le (by omega), Int.mul_comm]
      omega
    have hin : (x / st).toNat < ((min (h.getD k 0) q - x % st) / st + 1).toNat := by omega
    refine List.mem_of_getElem? (i := (x / st).toNat) ?_
    rw [rngD_get hin]
    have : (((x / st).toNat : Nat) : Int) = x / st := Int.toNat_of_nonneg d3
    rw [this, Int.mul_comm (x / st)]
    congr 1
    omega
end Pa
namespace Pa
open L2
def putI (ks : List Int) (x : Int) : List Int := if x ∈ ks then ks else ks ++ [x]
/-- of l, the first i of the numbers -/
def putsI (c h : List Int) (k : Nat) (l : Int) (ks : List Int) : Nat → List Int
  | 0 => ks
  | i + 1 => putI (putsI c h k l ks i) (l - (nAt c h k l).getD i 0 * c.getD k 0)
/-- of the first j of ls -/
def putsL (c h : List Int) (k : Nat) (ls : List Int) : Nat → List Int
  | 0 => []
  | j + 1 => putsI c h k (ls.getD j 0) (putsL c h k ls j) (nAt c h k (ls.getD j 0)).length
def leftsAt (c h : List Int) (a : Int) : Nat → List Int
  | 0 => [a]
  | k + 1 => putsL c h k (leftsAt c h a k) (leftsAt c h a k).length
theorem mem_putI {ks : List Int} {x y : Int} : y ∈ putI ks x ↔ y ∈ ks ∨ y = x := by
  unfold putI
  split
  · rename_i h
    constructor
    · exact .inl
    · rintro (h' | rfl)
      · exact h'
      · exact h
  · rw [List.mem_append, List.mem_singleton]
theorem nodup_putI {ks : List Int} {x : Int} (h : ks.Nodup) : (putI ks x).Nodup := by
  unfold putI
  split
  · exact h
  · rename_i hx
    exact List.nodup_append.mpr ⟨h, by simp, fun a ha b hb z => by rw [List.mem_singleton.mp hb] at z; exact hx (z ▸ ha)⟩
/-- what may stand at the index k -/
structure LOk (c : List Int) (a : Int) (k : Nat) (l : Int) : Prop where
  pos : 0 ≤ l
  le : l ≤ a
  near : a - l ≤ 99 * c.getD k 0
  dvd : 0 < k → c.getD k 0 ∣ l
  zero : k = 0 → l = a
structure LsOk (c : List Int) (a : Int) (k : Nat) (ks : List Int) : Prop where
  nd : ks.Nodup
  ok : ∀ l ∈ ks, LOk c a k l
theorem LsOk.put {c : List Int} {a : Int} {k : Nat} {ks : List Int} {x : Int} (h : LsOk c a k ks) (hx : LOk c a k x) : LsOk c a k (putI ks x) :=
  ⟨nodup_putI h.nd, fun l hl => by
    rcases mem_putI.mp hl with h' | rfl
    · exact h.ok l h'
    · exact hx⟩
theorem LOk.next {c h : List Int} {a : Int} {k : Nat} {l x : Int} (hc : Chn c) (hh : Hep c h) (hk : k + 1 < c.length) (hl : LOk c a k l) (hx : x ∈ nAt c h k l) : LOk c a (k + 1) (l - x * c.getD k 0) := by
  obtain ⟨x0, x1, x2, x3, _, x5⟩ := nAt_rg hc hh (by omega) hl.pos hx
  have x5 := x5 hk
  have hv := hc.getD (k := k) (by omega)
  have hg := hh.rg _ (getD_mem (d := 0) (j := k) (by rw [hh.len]; omega))
  obtain ⟨s2, s3⟩ := hc.step hk
  have e1 := Int.mul_ediv_add_emod l (c.getD k 0)
  rw [x3, Int.add_zero] at e1
  have x9 : x ≤ 99 := by omega
  have m1 : x * c.getD k 0 ≤ 99 * c.getD k 0 := Int.mul_le_mul_of_nonneg_right x9 (by omega)
  have m0 : 0 ≤ x * c.getD k 0 := Int.mul_nonneg x0 (by omega)
  have el : l - x * c.getD k 0 = c.getD k 0 * (l / c.getD k 0 - x) := by
    rw [Int.mul_sub, e1, Int.mul_comm x]
  have h1 := hl.le
  have h2 := hl.near
  refine ⟨?_, by omega, ?_, fun _ => ?_, fun h => by omega⟩
  · rw [el]
    exact Int.mul_nonneg (by omega) (by omega)
  · have : c.getD k 0 * 2 ≤ c.getD (k + 1) 0 := by
      rw [s3]
      exact Int.mul_le_mul_of_nonneg_left s2 (by omega)
    omega
  · rw [el, s3]
    exact Int.mul_dvd_mul_left _ (Int.dvd_of_emod_eq_zero x5)
theorem nodup_le : ∀ (n : Nat) {xs : List Nat}, xs.Nodup → (∀ x ∈ xs, x < n) → xs.length ≤ n
  | 0, xs, _, h => by
    cases xs with
    | nil => exact Nat.le_refl _
    | cons x xs => exact absurd (h x List.mem_cons_self) (Nat.not_lt_zero x)
  | n + 1, xs, nd, h => by
    have key := nodup_le n (xs := xs.erase n) (nd.erase n) fun x hx => by
      have h1 := (List.Nodup.mem_erase_iff nd).mp hx
      have h2 := h x h1.2
      have h3 := h1.1
      omega
    rw [List.length_erase] at key
    split at key <;> omega
theorem LsOk.len {c : List Int} {a : Int} {k : Nat} {ks : List Int} (hc : Chn c) (hk : k < c.length) (h : LsOk c a k ks) : ks.length ≤ 100 := by
  have hv := hc.getD hk
  have inj : ∀ l ∈ ks, ∀ m ∈ ks, ((a - l) / c.getD k 0).toNat = ((a - m) / c.getD k 0).toNat → l = m := fun l hl m hm e => by
    have o1 := h.ok l hl
    have o2 := h.ok m hm
    by_cases h0 : k = 0
    · rw [o1.zero h0, o2.zero h0]
    · obtain ⟨x, hx⟩ := o1.dvd (by omega)
      obtain ⟨y, hy⟩ := o2.dvd (by omega)
      have p1 := o1.le
      have p2 := o2.le
      have q1 : 0 ≤ (a - l) / c.getD k 0 := Int.ediv_nonneg (by omega) (by omega)
      have q2 : 0 ≤ (a - m) / c.getD k 0 := Int.ediv_nonneg (by omega) (by omega)
      have e : (a - l) / c.getD k 0 = (a - m) / c.getD k 0 := by omega
      have f1 : (a - l) / c.getD k 0 = a / c.getD k 0 - x := by
        have : a - l = a + c.getD k 0 * (-x) := by rw [Int.mul_neg, ← hx]; omega
        rw [this, Int.add_mul_ediv_left _ _ (by omega)]
        omega
      have f2 : (a - m) / c.getD k 0 = a / c.getD k 0 - y := by
        have : a - m = a + c.getD k 0 * (-y) := by rw [Int.mul_neg, ← hy]; omega
        rw [this, Int.add_mul_ediv_left _ _ (by omega)]
        omega
      have : x = y := by omega
      rw [hx, hy, this]
  have nd : (ks.map fun l => ((a - l) / c.getD k 0).toNat).Nodup := by
    unfold List.Nodup
    rw [List.pairwise_map]
    exact List.Pairwise.imp_of_mem (fun {l m} hl hm hne e => hne (inj l hl m hm e)) h.nd
  have := nodup_le 100 nd fun n hn => by
    obtain ⟨l, hl, rfl⟩ := List.mem_map.mp hn
    have o := h.ok l hl
    have h1 := o.near
    have h2 := o.le
    have : (a - l) / c.getD k 0 ≤ 99 := by
      have := Int.ediv_le_ediv (c := c.getD k 0) (by omega) h1
      rw [Int.mul_ediv_cancel _ (by omega)] at this
      exact this
    omega
  rw [List.length_map] at this
  exact this
theorem putsI_ok {c h : List Int} {a : Int} {k : Nat} {l : Int} {ks : List Int} (hc : Chn c) (hh : Hep c h) (hk : k + 1 < c.length) (hl : LOk c a k l) (h0 : LsOk c a (k + 1) ks) : ∀ i, i ≤ (nAt c h k l).length → LsOk c a (k + 1) (putsI c h k l ks i)
  | 0, _ => h0
  | i + 1, hi => (putsI_ok hc hh hk hl h0 i (by omega)).put (hl.next hc hh hk (getD_mem (by omega)))
theorem putsL_ok {c h : List Int} {a : Int} {k : Nat} {ls : List Int} (hc : Chn c) (hh : Hep c h) (hk : k + 1 < c.length) (hl : LsOk c a k ls) : ∀ j, j ≤ ls.length → LsOk c a (k + 1) (putsL c h k ls j)
  | 0, _ => ⟨List.nodup_nil, fun l h => by cases h⟩
  | j + 1, hj => putsI_ok hc hh hk (hl.ok _ (getD_mem (by omega))) (putsL_ok hc hh hk hl j (by omega)) _ (Nat.le_refl _)
theorem lefts_ok {c h : List Int} {a : Int} (hc : Chn c) (hh : Hep c h) (ha : 0 ≤ a) : ∀ k, k < c.length → LsOk c a k (leftsAt c h a k)
  | 0, hk => ⟨by show [a].Nodup; simp, fun l hl => by
    have e : l = a := List.mem_singleton.mp hl
    subst e
    have := hc.getD hk
    exact ⟨ha, Int.le_refl _, by omega, fun h => by omega, fun _ => rfl⟩⟩
  | k + 1, hk => putsL_ok hc hh hk (lefts_ok hc hh ha k (by omega)) _ (Nat.le_refl _)
theorem putsI_keep {c h : List Int} {k : Nat} {l y : Int} {ks : List Int} (hy : y ∈ ks) : ∀ i, y ∈ putsI c h k l ks i
  | 0 => hy
  | i + 1 => mem_putI.mpr (.inl (putsI_keep hy i))
theorem putsI_mem {c h : List Int} {k : Nat} {l : Int} {ks : List Int} {m : Nat} : ∀ i, m < i → l - (nAt c h k l).getD m 0 * c.getD k 0 ∈ putsI c h k l ks i
  | 0, h => by omega
  | i + 1, hm => by
    by_cases e : m = i
    · subst e
      exact mem_putI.mpr (.inr rfl)
    · exact mem_putI.mpr (.inl (putsI_mem i (by omega)))
theorem putsL_mem {c h : List Int} {k : Nat} {ls : List Int} {m : Nat} {x : Int} : ∀ j, m < j → x ∈ nAt c h k (ls.getD m 0) → ls.getD m 0 - x * c.getD k 0 ∈ putsL c h k ls j
  | 0, h, _ => by omega
  | j + 1, hm, hx => by
    by_cases e : m = j
    · subst e
      obtain ⟨i, hi, ei⟩ := List.mem_iff_getElem.mp hx
      have : (nAt c h k (ls.getD m 0)).getD i 0 = x := by
        rw [List.getD_eq_getElem?_getD, List.getElem?_eq_getElem hi, ei]
        rfl
      have := putsI_mem (c := c) (h := h) (k := k) (l := ls.getD m 0) (ks := putsL c h k ls m) (m := i) (nAt c h k (ls.getD m 0)).length hi
      rename_i e2
      rw [e2] at this
      exact this
    · exact putsI_keep (putsL_mem j (by omega) hx) _
theorem lefts_next {c h : List Int} {a : Int} {k : Nat} {l x : Int} (hl : l ∈ leftsAt c h a k) (hx : x ∈ nAt c h k l) : l - x * c.getD k 0 ∈ leftsAt c h a (k + 1) := by
  obtain ⟨m, hm, em⟩ := List.mem_iff_getElem.mp hl
  have e : (leftsAt c h a k).getD m 0 = l := by
    rw [List.getD_eq_getElem?_getD, List.getElem?_eq_getElem hm, em]
    rfl
  have := putsL_mem (c := c) (h := h) (k := k) (ls := leftsAt c h a k) (m := m) (x := x) (leftsAt c h a k).length hm (by rw [e]; exact hx)
  rw [e] at this
  exact this
/-- the keys of the k-th table -/
def keysAt (c h : List Int) (a : Int) (k : Nat) : List Int := if k = c.length then [0] else leftsAt c h a k
theorem keys_lt {c h : List Int} {a : Int} {k : Nat} (hk : k < c.length) : keysAt c h a k = leftsAt c h a k := if_neg (by omega)
theorem keys_next {c h : List Int} {a : Int} {k : Nat} {l x : Int} (hc : Chn c) (hh : Hep c h) (ha : 0 ≤ a) (hk : k < c.length) (hl : l ∈ keysAt c h a k) (hx : x ∈ nAt c h k l) : l - x * c.getD k 0 ∈ keysAt c h a (k + 1) := by
  rw [keys_lt hk] at hl
  by_cases e : k + 1 = c.length
  · unfold keysAt
    rw [if_pos e]
    have ok := (lefts_ok hc hh ha k hk).ok l hl
    obtain ⟨_, _, _, x3, x4, _⟩ := nAt_rg hc hh hk ok.pos hx
    have x4 := x4 e
    have e1 := Int.mul_ediv_add_emod l (c.getD k 0)
    refine List.mem_singleton.mpr ?_
    rw [x4, Int.mul_comm]
    omega
  · rw [keys_lt (by omega)]
    exact lefts_next hl hx
/-- the numbers are few -/
theorem nAt_len {c h : List Int} {k : Nat} {l : Int} (hc : Chn c) (hh : Hep c h) (hk : k < c.length) (hl : 0 ≤ l) : (nAt c h k l).length ≤ 100 := by
  have asc := nAt_asc (h := h) (l := l) hc hk
  have nd : ((nAt c h k l).map Int.toNat).Nodup := by
    unfold List.Nodup
    rw [List.pairwise_map]
    refine List.Pairwise.imp_of_mem (fun {x y} hx hy hlt => ?_) asc
    have := (nAt_rg hc hh hk hl hx).1
    have := (nAt_rg hc hh hk hl hy).1
    omega
  have := nodup_le 100 nd fun n hn => by
    obtain ⟨x, hx, rfl⟩ := List.mem_map.mp hn
    have h1 := nAt_rg hc hh hk hl hx
    have hg := hh.rg _ (getD_mem (d := 0) (j := k) (by rw [hh.len]; exact hk))
    omega
  rw [List.length_map] at this
  exact this
end Pa
namespace Pa
open PySem PySem.Spec PyProof.Rows L2
theorem pe_frz {X : Cx} {e : Expr} {t : TE} (h : PE X e t) : PE X e (fun σ H Q => t σ H fun v H1 => ∃ d u, v = .ref d ∧ H1 d = some u ∧ Mut (some u) ∧ ∀ od, Q v (upd H1 d (.frz od u))) := ⟨fun pins s σ H Q I w =>
  thn (h.run pins s σ H _ I w) fun u s1 ⟨x, H1, I1, r, d, o, ev, hd, mu, q⟩ => by
    obtain ⟨od, I2⟩ := I1.lock hd mu
    exact ⟨x, _, I2, r, q od⟩⟩
theorem pss_frz {X : Cx} {sts : List Stmt} {t : TS} (h : PSs X sts t) : PSs X sts (fun D σ H => ∃ d u, H d = some u ∧ Mut (some u) ∧ ∀ od, t D σ (upd H d (.frz od u))) := ⟨fun pins s σ H D I w => by
  obtain ⟨d, u, hd, mu, q⟩ := w
  obtain ⟨od, I2⟩ := I.lock hd mu
  exact h.run pins s σ _ D I2 (q od)⟩
def lookD (kds : List (Key × Dt)) (k : Key) : Option Dt := (kds.find? fun p => decide (p.1 = k)).map (·.2)
def keyD : Key → Dt
  | .inl i => .int i
  | .inr x => .str x
theorem Den.key {G : Hp} (k : Key) : Den G (kV k) (keyD k) := by
  cases k with
  | inl i => exact .int i
  | inr x => exact .str x
theorem Den.key_inv {G : Hp} {v : V} {k : Key} (h : Den G v (keyD k)) : v = kV k := by
  cases k with
  | inl i => exact h.int_inv
  | inr x => exact h.str_inv
/-- the pairs of a dict and their data -/
def DenK (G : Hp) (kvs : List (Key × V)) (kds : List (Key × Dt)) : Prop := kvs.map (·.1) = kds.map (·.1) ∧ ∀ (i : Nat) (p : Key × V) (q : Key × Dt), kvs[i]? = some p → kds[i]? = some q → Den G p.2 q.2
theorem Den.dic_inv {G : Hp} {v : V} {kds : List (Key × Dt)} (h : Den G v (.dic kds)) : ∃ a o kvs, v = .ref a ∧ G a = some (.frz o (.dK kvs)) ∧ DenK G kvs kds := by
  cases h with
  | dic h hk hd => exact ⟨_, _, _, rfl, h, hk, hd⟩
theorem DenK.len {G : Hp} {kvs : List (Key × V)} {kds : List (Key × Dt)} (h : DenK G kvs kds) : kvs.length = kds.length := by
  have := congrArg List.length h.1
  rwa [List.length_map, List.length_map] at this
theorem DenK.mono {G G' : Hp} (e : Same G G') {kvs : List (Key × V)} {kds : List (Key × Dt)} (h : DenK G kvs kds) : DenK G' kvs kds := ⟨h.1, fun i p q a b => (h.2 i p q a b).mono e⟩
theorem DenK.nil {G : Hp} : DenK G [] [] := ⟨rfl, fun i p q h => by simp at h⟩
theorem DenK.tail {G : Hp} {p : Key × V} {q : Key × Dt} {kvs : List (Key × V)} {kds : List (Key × Dt)} (h : DenK G (p :: kvs) (q :: kds)) : p.1 = q.1 ∧ Den G p.2 q.2 ∧ DenK G kvs kds := by
  have h1 := h.1
  rw [List.map_cons, List.map_cons] at h1
  injection h1 with h1 h2
  exact ⟨h1, h.2 0 p q rfl rfl, h2, fun i a b e1 e2 => h.2 (i + 1) a b e1 e2⟩
theorem DenK.look {G : Hp} {k : Key} : ∀ {kvs : List (Key × V)} {kds : List (Key × Dt)}, DenK G kvs kds → match lookD kds k with
    | some d => ∃ v, valV kvs k = some v ∧ Den G v d
    | none => valV kvs k = none
  | [], [], _ => rfl
  | [], _ :: _, h => by have := h.len; cases this
  | _ :: _, [], h => by have := h.len; cases this
  | p :: kvs, q :: kds, h => by
    obtain ⟨e, d, r⟩ := h.tail
    by_cases hk : q.1 = k
    · have e1 : lookD (q :: kds) k = some q.2 := by simp [lookD, List.find?_cons, hk]
      rw [e1]
      exact ⟨p.2, valV_pos (e.trans hk), d⟩
    · have e1 : lookD (q :: kds) k = lookD kds k := by simp [lookD, List.find?_cons, hk]
      rw [e1, valV_neg (fun z => hk (e.symm.trans z))]
      exact DenK.look r
/-- a new dict is frozen and is data -/
theorem Grow.dict {G H : Hp} {p : Addr} {u : HO} (s : Same G H) (g : G p = none) : Same G (upd G p u) := same_new g
section
variable {X : Cx} {δ : Sl} {pos p : Pos}
theorem NoSl.of {i : Expr} (h : ∀ ov iv, subscripted i false ov iv = operate [ov, iv] (getItem ov iv) := by intros; rfl) : NoSl i := h
/-- {n: d} -/
theorem xe_disp1 {k v : Expr} {n : Int} {d : Dt} (hk : Xe X k δ (.int n)) (hv : Xe X v δ d) : Xe X (.Dict [some k] [v] pos) δ (.dic [(.inl n, d)]) :=
  PE.sub (pe_frz (pe_disp (pps_cons hk hv pps_nil) rfl rfl (by simp) (Nat.le_of_ble_eq_true rfl))) fun σ H Q h => by
    obtain ⟨G, s, e, kq⟩ := h
    intro q hq
    have hG : G q = none := same_none s hq
    have hh : (upd H q (.dK [])) q ≠ none := by rw [upd_same]; exact fun z => by cases z
    refine ⟨G, s.trans (same_new hq), e, fun kv H1 G1 g1 d1 => ⟨G1, g1.sub, e.mono g1.gg, fun vv H2 G2 g2 d2 => ?_⟩⟩
    have g := g1.trans g2
    have h1 : H1 q = some (.dK []) := g1.hh q _ upd_same
    have hG2 : G2 q = none := g.new q hG hh
    have h2 : H2 q = some (.dK []) := g.hh q _ upd_same
    refine ⟨h2, [(.inl n, vv)], by rw [d1.int_inv]; rfl, by simp, q, .dK (mergeK [] [(.inl n, vv)]), rfl, upd_same, trivial, fun od => ?_⟩
    have em : mergeK [] [((.inl n : Key), vv)] = [(.inl n, vv)] := rfl
    rw [em, upd_upd]
    have sg : Same G2 (upd G2 q (.frz od (.dK [(.inl n, vv)]))) := same_new hG2
    refine kq _ _ (upd G2 q (.frz od (.dK [(.inl n, vv)]))) ⟨fun a o ha => ?_, g.gg.trans sg, same_upd2 g.sub, fun a a1 a2 => ?_⟩ (.dic upd_same rfl fun i x y e1 e2 => ?_)
    · rw [upd_ne (fun z => by rw [z, hq] at ha; cases ha)]
      refine g.hh a o ?_
      rw [upd_ne (fun z => by rw [z, hq] at ha; cases ha)]
      exact ha
    · have ne : a ≠ q := fun z => by rw [z] at a2; exact a2 hq
      rw [upd_ne ne]
      exact g.new a a1 (by rw [upd_ne ne]; exact a2)
    · cases i with
      | zero =>
        cases e1
        cases e2
        exact d2.mono sg
      | succ i => simp at e1
/-- d[n] -/
theorem xe_dix {o i : Expr} {n : Int} {d : Dt} {kds : List (Key × Dt)} (hu : X.A.units + 64 < cLine) (ho : Xe X o δ (.dic kds)) (hi : Xe X i δ (.int n)) (hl : lookD kds (.inl n) = some d) (hs : NoSl i := by intros _ _; rfl) : Xe X (.Subscript o i pos) δ d :=
  PE.sub (pe_dget (by omega) ho hi hs) fun σ H Q h => by
    obtain ⟨G, s, e, k⟩ := h
    refine ⟨G, s, e, fun v H1 G1 g1 d1 => ⟨G1, g1.sub, e.mono g1.gg, fun w H2 G2 g2 d2 => ?_⟩⟩
    obtain ⟨a, oo, kvs, rfl, hg, dk⟩ := d1.dic_inv
    have lk := (dk.mono g2.gg).look (k := .inl n)
    rw [hl] at lk
    obtain ⟨v, hv, dv⟩ := lk
    rw [d2.int_inv]
    exact ⟨a, v, rfl, .inl ⟨kvs, .inl n, .inr ⟨oo, g2.sub _ _ (g2.gg _ _ hg)⟩, rfl, hv.symm⟩, k v H2 G2 (g1.trans g2) dv⟩
/-- d.get(n, x) -/
theorem xe_dget {o e f : Expr} {n : Int} {x : Dt} {kds : List (Key × Dt)} {apos cpos : Pos} (hu : X.A.units + 64 < cLine) (ho : Xe X o δ (.dic kds)) (he : Xe X e δ (.int n)) (hf : Xe X f δ x)
    (hbase : attributeBase o "get" X.env (eval o X.env) = eval o X.env := by rfl)
    (hfew : ((backTo cpos (starEach [e, f] X.env)).all (fun x => !x.1) && (backToKw cpos (keywordEach [] X.env)).all (fun x => x.1.isSome) && decide (([e, f] : List Expr).length + ([] : List Keyword).length + (if ([] : List Keyword).isEmpty then 0 else 1) < 30)) = true := by rfl)
    (hline : (apos.endLine == cpos.line) = true := by rfl) (htrees : backTo cpos (starEach [e, f] X.env) = [(false, eval e X.env), (false, eval f X.env)] := by rfl) : Xe X (.Call (.Attribute o "get" apos) [e, f] [] cpos) δ ((lookD kds (.inl n)).getD x) :=
  PE.sub (pe_dget2 (by omega) ho he hf ⟨hbase, hfew, hline, htrees⟩) fun σ H Q h => by
    obtain ⟨G, s, en, k⟩ := h
    refine ⟨G, s, en, fun v H1 G1 g1 d1 => ?_⟩
    obtain ⟨a, oo, kvs, rfl, hg, dk⟩ := d1.dic_inv
    refine ⟨a, rfl, .inl ⟨kvs, .inr ⟨oo, g1.sub _ _ hg⟩⟩, G1, g1.sub, en.mono g1.gg, fun w H2 G2 g2 d2 => ⟨G2, g2.sub, en.mono (g1.gg.trans g2.gg), fun z H3 G3 g3 d3 => ?_⟩⟩
    have s13 := g2.gg.trans g3.gg
    have lk := (dk.mono s13).look (k := .inl n)
    rw [d2.int_inv]
    refine ⟨valV kvs (.inl n), .inl ⟨kvs, .inl n, .inr ⟨oo, g3.sub _ _ (s13 _ _ hg)⟩, rfl, rfl⟩, ?_⟩
    refine k _ H3 G3 ((g1.trans g2).trans g3) ?_
    cases hl : lookD kds (.inl n) with
    | none =>
      rw [hl] at lk
      have lk : valV kvs (.inl n) = none := lk
      rw [lk]
      exact d3
    | some d =>
      rw [hl] at lk
      obtain ⟨v, hv, dv⟩ := lk
      rw [hv]
      exact dv
/-- for x in d -/
theorem xi_keys {tg e : Expr} {kds : List (Key × Dt)} (he : Xe X e δ (.dic kds)) : Xi X tg e δ (kds.map fun p => keyD p.1) := PI.sub (pi_keys he) fun σ H R h => by
  obtain ⟨G, s, en, k⟩ := h
  refine ⟨G, s, en, fun v H1 G1 g1 d1 => ?_⟩
  obtain ⟨a, oo, kvs, rfl, hg, dk⟩ := d1.dic_inv
  refine ⟨a, oo, rfl, .inl ⟨kvs, g1.sub _ _ hg, k _ H1 G1 g1 ?_⟩⟩
  unfold WalkD
  rw [List.length_map, ← dk.len]
  refine Walk.mono (walk_keys (d := a) (o := oo) (kvs := kvs)) (fun H2 s2 => s2 _ _ hg) fun i H2 x H3 hi s2 y G2 s3 s4 => ?_
  obtain ⟨rfl, kk, vv, e1, rfl⟩ := y
  have e2 : (kds.map (·.1))[i]? = some kk := by
    rw [← dk.1, List.getElem?_map, e1]
    rfl
  rw [List.getElem?_map] at e2
  cases q : kds[i]? with
  | none =>
    rw [q] at e2
    cases e2
  | some pr =>
    rw [q] at e2
    have e2 : pr.1 = kk := Option.some.inj e2
    refine ⟨G2, keyD pr.1, by rw [List.getElem?_map, q]; rfl, Grow.refl s4, ?_⟩
    rw [e2]
    exact .key kk
end
theorem dc_it {J : It} {n : Nat} {G : Hp → Prop} {Y : Nat → Hp → V → Hp → Prop} (w : Walk J n G Y) {g : TG} {tt : TT} {tk tv : TE} {vs : List Nat} {σ : L2.St} {H1 : Hp} {D : Addr} {Qd : Hp → Prop} (Pv : Nat → Hp → Prop) (h0 : Pv 0 (upd H1 D (.dK []))) (hG : ∀ i H, i ≤ n → Pv i H → G H)
    (hs : ∀ i x H H', i < n → Pv i H → Y i H x H' → g x (L2.wipe σ vs) H' fun σ2 H2 => L2.wipe σ2 vs = L2.wipe σ vs ∧ tt σ2 H2 fun b H3 =>
      if b = true then tk σ2 H3 fun y H4 => tv σ2 H4 fun z H5 => ∃ kvs k, y = kV k ∧ H5 D = some (.dK kvs) ∧ kvs.length < sizeLine ∧ Pv (i + 1) (upd H5 D (.dK (putK kvs k z))) else Pv (i + 1) H3) (hd : ∀ H, Pv n H → Qd H) :
    ∃ W : Nat → Nat → Hp → Prop, (∃ m, W 0 m (upd H1 D (.dK []))) ∧ ∀ i m H, W i m H →
      (J.stop i H ∧ Qd H) ∨ (J.go i H ∧ ∃ Nx : Hp → Prop, (∀ H', Nx H' → ∃ m', m' < m ∧ W (i + 1) m' H') ∧ ∀ x H', J.yld i H x H' → g x (L2.wipe σ vs) H' fun σ2 H2 => L2.wipe σ2 vs = L2.wipe σ vs ∧ tt σ2 H2 fun b H3 =>
        if b = true then tk σ2 H3 fun y H4 => tv σ2 H4 fun z H5 => ∃ kvs k, y = kV k ∧ H5 D = some (.dK kvs) ∧ kvs.length < sizeLine ∧ Nx (upd H5 D (.dK (putK kvs k z))) else Nx H3) := by
  refine ⟨fun i m H => n = m + i ∧ Pv i H, ⟨n, rfl, h0⟩, ?_⟩
  rintro i m H ⟨em, pv⟩
  have hG1 := hG i H (by omega) pv
  cases m with
  | zero =>
    have e : i = n := by omega
    subst e
    exact .inl ⟨w.stops H hG1, hd H pv⟩
  | succ m =>
    have hlt : i < n := by omega
    exact .inr ⟨w.goes i H hlt hG1, Pv (i + 1), fun H' p' => ⟨m, Nat.lt_succ_self m, by omega, p'⟩, fun x H' y => hs i x H H' hlt pv (w.yields i H x H' hlt hG1 y)⟩
theorem valV_none {kvs : List (Key × V)} {k : Key} (h : k ∉ kvs.map (·.1)) : valV kvs k = none := by
  induction kvs with
  | nil => rfl
  | cons p kvs ih =>
    rw [List.map_cons] at h
    rw [valV_neg (fun z => h (by rw [z]; exact List.mem_cons_self))]
    exact ih fun z => h (List.mem_cons_of_mem _ z)
theorem DenK.snoc {G : Hp} {kvs : List (Key × V)} {kds : List (Key × Dt)} {k : Key} {v : V} {d : Dt} (h : DenK G kvs kds) (hv : Den G v d) : DenK G (kvs ++ [(k, v)]) (kds ++ [(k, d)]) := by
  refine ⟨by rw [List.map_append, List.map_append, h.1]; rfl, fun i p q e1 e2 => ?_⟩
  have hl := h.len
  by_cases hi : i < kvs.length
  · rw [List.getElem?_append_left hi] at e1
    rw [List.getElem?_append_left (by omega)] at e2
    exact h.2 i p q e1 e2
  · rw [List.getElem?_append_right (by omega)] at e1
    rw [List.getElem?_append_right (by omega), ← hl] at e2
    cases hm : i - kvs.length with
    | zero =>
      rw [hm] at e1 e2
      cases e1
      cases e2
      exact hv
    | succ m =>
      rw [hm] at e1
      cases e1
section
variable {X : Cx} {δ : Sl} {pos p : Pos}
theorem xe_dc {kx vx tg iter : Expr} {scope : Scope} (own : List (Str × Nat)) (t : Tg) {ds : List Dt} {kds : List (Key × Dt)} (hN : X.N.Nodup) (hi : Xi X tg iter δ ds) (hl : kds.length = ds.length) (nd : (kds.map (·.1)).Nodup)
    (c : ∀ (i : Nat) (d : Dt) (q : Key × Dt), ds[i]? = some d → kds[i]? = some q → ∃ δ', t.put d (wipeD δ (own.map (·.2))) = some δ' ∧ InB X scope fun Y => Xe Y kx δ' (keyD q.1) ∧ Xe Y vx δ' q.2) (hz : ds.length ≤ 100000)
    (hg : ∀ (s : Shared) (H : Hp) (C : Addr) (cl : List (Str × Addr)) (fp : List Addr), Xg (X.blk s H scope (compEnvC scope cl C X.env) fp) tg t) (hw : t.within (own.map (·.2)) := by decide) (ok : blkC X.N X.env.scope scope own = true := by rfl) (hc : X.calm = true := by rfl)
    (hs : ∀ x, foldedSetIterable iter X.env x = pure x := by intro _; rfl) : Xe X (.DictComp kx vx [⟨tg, iter, [], 0⟩] scope pos) δ (.dic kds) :=
  PE.sub (pe_frz (pe_dc hc hN hi (blkOk_by ok) hg (fun _ _ _ _ _ => PTs.anyB) (fun _ _ _ _ _ => PE.anyB) (fun _ _ _ _ _ => PE.anyB) hs)) fun σ H Q h => by
    obtain ⟨G0, s0, e0, k⟩ := h
    refine ⟨G0, s0, e0, fun J H1 G g1 w D hD => ?_⟩
    have s := g1.sub
    have e := e0.mono g1.gg
    have hGD : G D = none := same_none s hD
    refine dc_it (D := D) (σ := σ) (vs := own.map (·.2)) (g := gT X.K t) (tt := tAllT X scope []) (tk := tAllE X scope kx) (tv := tAllE X scope vx) (Qd := fun H => ∃ d u, V.ref D = .ref d ∧ H d = some u ∧ Mut (some u) ∧ ∀ od, Q (.ref D) (upd H d (.frz od u))) w
      (fun i H => ∃ (G1 : Hp) (kvs : List (Key × V)), Same G G1 ∧ Same H1 H ∧ Same G1 H ∧ G1 D = none ∧ (∀ x, G x = none → H1 x ≠ none → G1 x = none) ∧ H D = some (.dK kvs) ∧ kvs.length = i ∧ DenK G1 kvs (kds.take i)) ?_ ?_ ?_ ?_
    · exact ⟨G, [], .refl _, same_new hD, s.trans (same_new hD), hGD, fun _ h _ => h, upd_same, rfl, .nil⟩
    · rintro i H _ ⟨G1, kvs, a1, _, a3, _⟩
      exact a1.trans a3
    · rintro i x H H' hi' ⟨G1, kvs, a1, a2, a3, a4, a5, a6, a7, a8⟩ hy
      obtain ⟨G2, d, ed, gr, dx⟩ := hy G1 a1 a3
      have hHD : H D ≠ none := by rw [a6]; exact fun z => by cases z
      have hG2D : G2 D = none := gr.new D a4 hHD
      have e2 : EnvD G2 (L2.wipe σ (own.map (·.2))) (wipeD δ (own.map (·.2))) := (e.mono (a1.trans gr.gg)).wipe _
      have hik : i < kds.length := by omega
      have eq : kds[i]? = some kds[i] := List.getElem?_eq_getElem hik
      obtain ⟨δ', hp, hx⟩ := c i d _ ed eq
      have hDv' : H' D = some (.dK kvs) := gr.hh D _ a6
      refine gT_run gr.sub e2 dx hp fun σ' eσ hwp => ⟨(hwp hw).trans (wipe_wipe _ σ), _, (fun s H C cl fp => xts_nil (δ := δ')), G2, gr.sub, eσ, fun H3 G3 g3 => ?_⟩
      refine iteT ?_
      refine ⟨_, fun s H C cl fp => (hx s H C cl fp).1, G3, g3.sub, eσ.mono g3.gg, fun y H4 G4 g4 dy => ?_⟩
      refine ⟨_, fun s H C cl fp => (hx s H C cl fp).2, G4, g4.sub, eσ.mono (g3.gg.trans g4.gg), fun z H5 G5 g5 dz => ?_⟩
      have gg := ((gr.trans g3).trans g4).trans g5
      have h5 : H5 D = some (.dK kvs) := gg.hh D _ a6
      have hG5 : G5 D = none := gg.new D a4 hHD
      have dk5 := a8.mono gg.gg
      have hne : kds[i].1 ∉ kvs.map (·.1) := fun hm => by
        rw [a8.1] at hm
        obtain ⟨q, hq, eqq⟩ := List.mem_map.mp hm
        obtain ⟨j, hj, ej⟩ := List.mem_iff_getElem.mp hq
        rw [List.length_take] at hj
        rw [List.getElem_take] at ej
        have h1 : (kds.map (·.1))[j]? = some kds[i].1 := by rw [List.getElem?_map, List.getElem?_eq_getElem (by omega), ej]; exact congrArg some eqq
        have h2 : (kds.map (·.1))[i]? = some kds[i].1 := by rw [List.getElem?_map, eq]; rfl
        have := nd_two nd h1 h2
        omega
      refine ⟨kvs, kds[i].1, dy.key_inv, h5, by rw [a7, sizeLine_eq]; omega, G5, kvs ++ [(kds[i].1, z)], a1.trans gg.gg, ?_, ?_, hG5, ?_, ?_, by rw [List.length_append, a7]; rfl, ?_⟩
      · intro a o ha
        rw [upd_ne (fun z => by rw [z, hD] at ha; cases ha)]
        exact gg.hh a o (a2 a o ha)
      · intro a o ha
        rw [upd_ne (fun z => by rw [z, hG5] at ha; cases ha)]
        exact gg.sub a o ha
      · intro a b1 b2
        exact gg.new a (a5 a b1 b2) (held_of a2 b2)
      · rw [upd_same, putK_new _ (valV_none hne)]
      · have et : kds.take (i + 1) = kds.take i ++ [(kds[i].1, kds[i].2)] := by rw [List.take_succ_eq_append_getElem hik]
        rw [et]
        exact dk5.snoc dz
    · rintro H ⟨G1, kvs, a1, a2, a3, a4, a5, a6, a7, a8⟩
      refine ⟨D, .dK kvs, rfl, a6, trivial, fun od => ?_⟩
      rw [← hl, List.take_length] at a8
      have sD : Same G1 (upd G1 D (.frz od (.dK kvs))) := same_new a4
      refine k _ _ (upd G1 D (.frz od (.dK kvs))) ⟨fun a o ha => ?_, (g1.gg.trans a1).trans sD, same_upd2 a3, fun a b1 b2 => ?_⟩ (.dic upd_same (a8.mono sD).1 (a8.mono sD).2)
      · have ha1 := g1.hh a o ha
        rw [upd_ne (fun z => by rw [z, hD] at ha1; cases ha1)]
        exact a2 a o ha1
      · have hb := held_of g1.hh b2
        rw [upd_ne (fun z => by rw [z] at hb; exact hb hD)]
        exact a5 a (g1.new a b1 b2) hb
end
end Pa
namespace PaZ
open PySem
open PySem.Sem (wp)
section
variable {prog : Program} {w : World} {A : Around} {E : Value → Shared → Prop} {s : Shared}
theorem rev_next {it l : Addr} {i : Nat} {items : Array Value} {x : Value} {Q : Value → Shared → Prop} (r : s.heap.IsRevIter it l (i : Int)) (pl : s.heap.IsList l items) (gx : items[i]? = some x)
    (k : ∀ h', h'.IsRevIter it l ((i : Int) - 1) → Heap.SameBut it s.heap h' → Q x { s with heap := h' }) : wpAny (model prog w) A (Builtin.SmallTypes.nextOf (.ref it)) Q E s := by
  obtain ⟨oi, hi, hci, hdi⟩ := id r
  obtain ⟨ol, hol, _, nl, hdl⟩ := pl
  unfold Builtin.SmallTypes.nextOf
  refine wpAny_bind (wpAny_callSpecial?_slot (name := Str.ofString "__next__") r.typeIs F.slot_lri_next (wpAny_call_entry F.slot_lri_next r.typeIs F.entry_lri_next ?_ (F.args_lri_next_1 _)))
  unfold Builtin.«list_reverseiterator.__next__»
  refine wpAny_bind (wpAny_of_eq (a := ((Value.ref it, []) : Value × List Value)) rfl ?_)
  try dsimp only
  refine wpAny_bind (wpAny_field hi hdi (x := rawInt ((i : Nat) : Int)) rfl ?_)
  show wpAny _ _ (if ((i : Nat) : Int) < 0 then _ else _) _ _ s
  rw [if_neg (show ¬ ((i : Nat) : Int) < 0 by omega)]
  show wpAny _ _ (field (Value.ref it) 0 >>= _) _ _ s
  refine wpAny_bind (wpAny_field hi hdi (x := Value.ref l) rfl ?_)
  show wpAny _ _ (seqItems? (Value.ref l) >>= _) _ _ s
  refine wpAny_bind (wpAny_seqItems hol hdl ?_)
  simp only [Int.toNat_natCast, gx]
  refine wpAny_bind (wpAny_setField hi hdi (by simp) ?_)
  first
  | refine wpAny_pure ⟨x, rfl, wpAny_pure (k _ ?_ (Heap.SameBut.update ..))⟩
  | refine wpAny_bind (wpAny_pure (wpAny_pure ⟨x, rfl, wpAny_pure (k _ ?_ (Heap.SameBut.update ..))⟩))
  exact ⟨_, Heap.get?_update_self _ hi (Obj.isFreed_of_fields (Obj.data_mapFields hdi _)), (Obj.cls_mapFields ..).trans hci, by rw [Obj.data_mapFields hdi]; simp⟩
theorem rev_stop {it l : Addr} {Q : Value → Shared → Prop} (hn : A.handled = none) (r : s.heap.IsRevIter it l (-1))
    (k : ∀ h' e, Heap.ExtBut it s.heap h' → (∃ o, h'.get? e = some o ∧ o.cls = .type "StopIteration") → E (.ref e) { s with heap := h' }) : wpAny (model prog w) A (Builtin.SmallTypes.nextOf (.ref it)) Q E s := by
  obtain ⟨oi, hi, hci, hdi⟩ := id r
  unfold Builtin.SmallTypes.nextOf
  refine wpAny_bind (wpAny_callSpecial?_slot (name := Str.ofString "__next__") r.typeIs F.slot_lri_next (wpAny_call_entry F.slot_lri_next r.typeIs F.entry_lri_next ?_ (F.args_lri_next_1 _)))
  unfold Builtin.«list_reverseiterator.__next__»
  refine wpAny_bind (wpAny_of_eq (a := ((Value.ref it, []) : Value × List Value)) rfl ?_)
  try dsimp only
  refine wpAny_bind (wpAny_field hi hdi (x := rawInt (-1 : Int)) rfl ?_)
  show wpAny _ _ (if ((-1 : Int)) < 0 then _ else _) _ _ s
  rw [if_pos (show ((-1 : Int)) < 0 by decide)]
  refine wpAny_bind (wpAny_rule ?_)
  first
  | show wpAny _ _ (newExc (Value.type "StopIteration") [] >>= _) _ _ _
  | (refine wpAny_bind ?_; show wpAny _ _ (newExc (Value.type "StopIteration") [] >>= _) _ _ _)
  refine wpAny_bind ?_
  simp only [newExc, newTuple]
  refine wpAny_bind (wpAny_newObj_type ?_ (by size_fits))
  refine wpAny_bind (m := firstArgMember _ _) (wpAny_of_eq (a := Value.none) (by first | rfl | (simp only [firstArgMember] ; rfl)) ?_)
  refine wpAny_newObj_type ?_ (by size_fits)
  simp only [raiseNew]
  refine wpAny_bind (wpAny_handled ?_)
  first | rw [show A.in1.handled = none from hn] | rw [hn]
  refine wpAny_bind (wpAny_pure (wpAny_throw ?_))
  exact k _ _ (((Heap.ExtBut.refl _ _).push _).push _) ⟨_, Heap.get?_push_size _ rfl, rfl⟩
end
theorem draws_rev {prog : Program} {w : World} {A : Around} (hn : A.handled = none) (it l : Addr) (ne : l ≠ it) (items : Array Value) :
    Draws prog w A it [it, l] items.size (fun i v => items[items.size - 1 - i]? = some v) (fun i h => i ≤ items.size ∧ h.IsRevIter it l ((items.size : Int) - 1 - ((i : Nat) : Int)) ∧ h.IsList l items) where
  live := fun _ _ st => let ⟨o, ho, _⟩ := st.2.1; ⟨o, ho⟩
  frame := fun _ _ _ st hk => ⟨st.1, st.2.1.at fun o e => hk it (by simp) o e, st.2.2.at fun o e => hk l (by simp) o e⟩
  item := fun i s Q E hi st hQ => by
    obtain ⟨_, r, pl⟩ := st
    have e1 : (items.size : Int) - 1 - ((i : Nat) : Int) = ((items.size - 1 - i : Nat) : Int) := by omega
    rw [e1] at r
    have hj : items.size - 1 - i < items.size := by omega
    refine rev_next r pl (x := items[items.size - 1 - i]) (Array.getElem?_eq_getElem hj) fun h' r' sb => ?_
    have e2 : ((items.size - 1 - i : Nat) : Int) - 1 = (items.size : Int) - 1 - ((i + 1 : Nat) : Int) := by omega
    rw [e2] at r'
    exact hQ _ h' s.toks (Array.getElem?_eq_getElem hj) ⟨hi, r', pl.extBut sb.extBut ne⟩ sb
  done := fun s Q E st hE => by
    obtain ⟨_, r, pl⟩ := st
    have e1 : (items.size : Int) - 1 - ((items.size : Nat) : Int) = -1 := by omega
    rw [e1] at r
    exact rev_stop hn r hE
abbrev zT (h : Heap) (a b : Addr) : Heap := h.push { cls := .type "tuple", data := .seq #[.ref a, .ref b] }
abbrev zO (h : Heap) (a b : Addr) : Heap := (zT h a b).push { cls := .type "tuple", data := .seq #[.none, .none] }
abbrev zZ (h : Heap) (a b : Addr) : Heap := (zO h a b).push { cls := .type "zip", data := .fields #[.none, .bool false, .bool false, .ref h.objs.size, .ref (zT h a b).objs.size] }
theorem meets_zipR {a b l m : Addr} {i j : Int} :
    Meets (Builtin.«zip.__new__» ⟨[.type "zip", .ref a, .ref b], []⟩) (fun _ R s => (s.heap.IsRevIter a l i ∧ s.heap.IsRevIter b m j) ∧ R (.ok (.ret (.ref (zO s.heap a b).objs.size))) { s with heap := zZ s.heap a b }) :=
  .of_wp fun prog w A R s h => by
    obtain ⟨hp, g, d, tk, os⟩ := s
    obtain ⟨⟨h1, h2⟩, h⟩ := h
    have hsub := sub_zip
    have q1 : ∀ {A' : Around} {E' : Value → Shared → Prop} {Q' : Value → Shared → Prop}, Q' (.ref a) ⟨hp, g, d, tk, os⟩ → wpAny (model prog w) A' (pyIter (.ref a)) Q' E' ⟨hp, g, d, tk, os⟩ := fun q => wpAny_pyIter_revIter h1 q
    have q2 : ∀ {A' : Around} {E' : Value → Shared → Prop} {Q' : Value → Shared → Prop}, Q' (.ref b) ⟨hp, g, d, tk, os⟩ → wpAny (model prog w) A' (pyIter (.ref b)) Q' E' ⟨hp, g, d, tk, os⟩ := fun q => wpAny_pyIter_revIter h2 q
    wp_walk using q1, q2
    exact ⟨_, rfl, h⟩
section
variable {prog : Program} {w : World} {A : Around} {E : Value → Shared → Prop} {s : Shared}
theorem call_zipR {a b l m : Addr} {i j : Int} {Q : Value → Shared → Prop} (h1 : s.heap.IsRevIter a l i) (h2 : s.heap.IsRevIter b m j)
    (k : ∀ h', IsZip h' (s.heap.objs.size + 2) s.heap.objs.size (s.heap.objs.size + 1) .none → IsTupOf2 h' s.heap.objs.size (.ref a) (.ref b) → IsTupOf2 h' (s.heap.objs.size + 1) .none .none → h'.objs.size = s.heap.objs.size + 3 →
      (∀ c o, s.heap.get? c = some o → h'.get? c = some o) → Q (.ref (s.heap.objs.size + 2)) { s with heap := h' }) : wpAny (model prog w) A (call (.type "zip") [.ref a, .ref b]) Q E s := by
  refine callType_new F.called_zip (by decide) (F.typeCall_zip_2 _ _) (F.newCall_zip_2 _ _) (fun obj => F.args_object_init_3 obj _ _) F.entry_zip_new meets_zipR ⟨⟨h1, h2⟩, ?_⟩
  have s1 : (zT s.heap a b).objs.size = s.heap.objs.size + 1 := Heap.size_push ..
  have s2 : (zO s.heap a b).objs.size = s.heap.objs.size + 2 := by rw [Heap.size_push, s1]
  have s3 : (zZ s.heap a b).objs.size = s.heap.objs.size + 3 := by rw [Heap.size_push, s2]
  have g3 : (zZ s.heap a b).get? (zO s.heap a b).objs.size = some { cls := .type "zip", data := .fields #[.none, .bool false, .bool false, .ref s.heap.objs.size, .ref (zT s.heap a b).objs.size] } := Heap.get?_push_size _ rfl
  have g2 : (zZ s.heap a b).get? (zT s.heap a b).objs.size = some { cls := .type "tuple", data := .seq #[.none, .none] } := Heap.get?_push_of_some _ (Heap.get?_push_size _ rfl)
  have g1 : (zZ s.heap a b).get? s.heap.objs.size = some { cls := .type "tuple", data := .seq #[.ref a, .ref b] } := Heap.get?_push_of_some _ (Heap.get?_push_of_some _ (Heap.get?_push_size _ rfl))
  rw [s1, s2] at g3
  rw [s1] at g2
  show _ ∧ _
  rw [s2]
  exact ⟨⟨_, g3, rfl⟩, k _ g3 g1 g2 s3 fun c o e => Heap.get?_push_of_some _ (Heap.get?_push_of_some _ (Heap.get?_push_of_some _ e))⟩
end
end PaZ
namespace PaZ
open PySem PySem.Spec PyProof.Rows L2
/-- the lists at a and b from their ends, n and m items, in new pairs -/
def ItzR (K : PySem.W.Frag) (a b : Addr) (n m : Nat) : It :=
  ⟨fun i H => i < n ∧ i < m ∧ ∃ (xs ys : List V), SqL K H a xs ∧ SqL K H b ys ∧ xs.length = n ∧ ys.length = m,
    fun i H v H' => ∃ T x y, v = .ref T ∧ H T = none ∧ H' = upd H T (.tup [x, y]) ∧ (∀ xs, SqL K H a xs → xs[n - 1 - i]? = some x) ∧ ∀ ys, SqL K H b ys → ys[m - 1 - i]? = some y,
    fun i H => (n ≤ i ∨ m ≤ i) ∧ ∃ (xs ys : List V), SqL K H a xs ∧ SqL K H b ys ∧ xs.length = n ∧ ys.length = m⟩
theorem turn_zipR {P : Program} {w : World} {K : PySem.W.Frag} {elts : List Expr} {kk : Nat} {tpos : Pos} {a b z TI TO i1 i2 : Addr} {n m : Nat} (D : ZipSep2 z TI TO i1 i2 [i1, a] [i2, b]) :
    Turn P w K (.Tuple elts kk tpos) (ItzR K a b n m) [z, TI, TO, i1, i2] z (fun i h => IsZip h z TI TO .none ∧ IsTupOf2 h TI (.ref i1) (.ref i2) ∧ (∃ x y, IsTupOf2 h TO x y) ∧ (i ≤ n ∧ h.IsRevIter i1 a ((n : Int) - 1 - ((i : Nat) : Int))) ∧ i ≤ m ∧ h.IsRevIter i2 b ((m : Int) - 1 - ((i : Nat) : Int))) where
  mem := by simp
  obj := fun i h st c hc => by
    obtain ⟨hz, hTI, ⟨x, y, hTO⟩, ⟨_, o1, e1, _, d1⟩, _, o2, e2, _, d2⟩ := st
    have q : c = z ∨ c = TI ∨ c = TO ∨ c = i1 ∨ c = i2 := by simpa using hc
    rcases q with rfl | rfl | rfl | rfl | rfl
    · exact ⟨_, hz, fun v q => nomatch q⟩
    · exact ⟨_, hTI, fun v q => nomatch q⟩
    · exact ⟨_, hTO, fun v q => nomatch q⟩
    · exact ⟨o1, e1, fun v q => by rw [d1] at q; cases q⟩
    · exact ⟨o2, e2, fun v q => by rw [d2] at q; cases q⟩
  keep := fun i h h' st k => by
    obtain ⟨hz, hTI, ⟨x, y, hTO⟩, ⟨l1, h1⟩, l2, h2⟩ := st
    exact ⟨k _ (by simp) _ hz, k _ (by simp) _ hTI, ⟨x, y, k _ (by simp) _ hTO⟩, ⟨l1, h1.at fun o q => k i1 (by simp) o q⟩, l2, h2.at fun o q => k i2 (by simp) o q⟩
  item := by
    intro X hP hw hK hc i pins s σ H E I hf st hg
    subst hP hw hK
    obtain ⟨hz, hTI, ⟨x0, y0, hTO⟩, ⟨l1, h1⟩, l2, h2⟩ := st
    obtain ⟨hin, him, xs, ys, hqx, hqy, en, em⟩ := hg
    obtain ⟨its, rv, p, _⟩ := I.list hqx
    obtain ⟨its2, rv2, p2, _⟩ := I.list hqy
    have len1 : its.toArray.size = n := by rw [List.size_toArray, ← rv.length, en]
    have len2 : its2.toArray.size = m := by rw [List.size_toArray, ← rv2.length, em]
    have hh := I.ok.hd hc
    have ne1 : a ≠ i1 := fun q => by
      obtain ⟨oa, _, ga, ca, _⟩ := id p
      obtain ⟨ob, gb, cb, _⟩ := id h1
      rw [← q, ga] at gb
      cases gb
      rw [ca] at cb
      exact absurd cb (by decide)
    have ne2 : b ≠ i2 := fun q => by
      obtain ⟨oa, _, ga, ca, _⟩ := id p2
      obtain ⟨ob, gb, cb, _⟩ := id h2
      rw [← q, ga] at gb
      cases gb
      rw [ca] at cb
      exact absurd cb (by decide)
    have D1 := draws_rev (prog := X.prog) (w := X.w) (A := X.A.in1) hh i1 a ne1 its.toArray
    have D2 := draws_rev (prog := X.prog) (w := X.w) (A := X.A.in1) hh i2 b ne2 its2.toArray
    rw [len1] at D1
    rw [len2] at D2
    have hzl : z < s.heap.objs.size := Heap.lt_size hz
    refine wpAny_pyNext_zipD2_item D D1 D2 hz hTI hTO ⟨l1, h1, p.isList⟩ ⟨l2, h2, p2.isList⟩ hin him fun u1 u2 h' tk y1 y2 z' TO' t1 t2 hT hsz hk => ?_
    have hx : n - 1 - i < xs.length := by omega
    have hy : m - 1 - i < ys.length := by omega
    obtain ⟨v1, gv1, r1⟩ := rv.get (List.getElem?_eq_getElem hx)
    obtain ⟨v2, gv2, r2⟩ := rv2.get (List.getElem?_eq_getElem hy)
    have y1' : its[n - 1 - i]? = some u1 := by simpa using y1
    have y2' : its2[m - 1 - i]? = some u2 := by simpa using y2
    rw [gv1] at y1'
    rw [gv2] at y2'
    cases y1'
    cases y2'
    refine ⟨_, rfl, wpAny_letOwnedTupleGo_zip (s := { s with heap := h', toks := tk }) z' fun h'' z'' sb => ?_⟩
    have hT2 : h''.get? s.heap.objs.size = some { cls := .type "tuple", data := .seq #[u1, u2] } := (sb.2 _ (Nat.ne_of_gt hzl)).trans hT
    have new : ObjOk X.prog X.w (upd H s.heap.objs.size (.tup [xs[n - 1 - i], ys[m - 1 - i]])) h'' s.heap.objs.size (.tup [xs[n - 1 - i], ys[m - 1 - i]]) :=
      ⟨(by show 2 ≤ sizeLine; decide), [u1, u2], .cons r1 (.cons r2 .nil), ⟨_, hT2, rfl, _, rfl⟩⟩
    have I1 : Inv X pins σ (upd H s.heap.objs.size (.tup [xs[n - 1 - i], ys[m - 1 - i]])) { s with heap := h'', toks := tk } :=
      I.turnedNew (t' := tk) (ch := [z, TI, TO, i1, i2]) (fun c o hb q => by
        have hb' : c ≠ z ∧ c ≠ TI ∧ c ≠ TO ∧ c ≠ i1 ∧ c ≠ i2 := by simpa using hb
        exact (sb.2 c hb'.1).trans (hk c o hb'.1 hb'.2.2.1 hb'.2.2.2.1 hb'.2.2.2.2 q)) hf (Nat.le_refl _) new
    have lt1 : i1 < s.heap.objs.size := by obtain ⟨_, e1, _⟩ := h1; exact Heap.lt_size e1
    have lt2 : i2 < s.heap.objs.size := by obtain ⟨_, e2, _⟩ := h2; exact Heap.lt_size e2
    refine ⟨.ref s.heap.objs.size, _, I1, rfl, ⟨_, _, _, rfl, I.hok.fresh (Nat.le_refl _), rfl, fun l hl => by rw [I.list_inj hl hqx]; exact List.getElem?_eq_getElem hx, fun l hl => by rw [I.list_inj hl hqy]; exact List.getElem?_eq_getElem hy⟩, ⟨z'', ?_, ⟨u1, u2, ?_⟩, ⟨hin, ?_⟩, him, ?_⟩, fun c hcm => ?_⟩
    · exact (sb.2 _ D.TIz).trans (hk _ _ D.TIz D.TITO D.TIi1 D.TIi2 hTI)
    · exact (sb.2 _ D.TOz).trans TO'
    · exact t1.2.1.at fun o q => (sb.2 _ D.zi1.symm).trans q
    · exact t2.2.1.at fun o q => (sb.2 _ D.zi2.symm).trans q
    · have q : c = z ∨ c = TI ∨ c = TO ∨ c = i1 ∨ c = i2 := by simpa using hcm
      have hlt : c < s.heap.objs.size := by
        rcases q with rfl | rfl | rfl | rfl | rfl
        · exact hzl
        · exact Heap.lt_size hTI
        · exact Heap.lt_size hTO
        · exact lt1
        · exact lt2
      rw [upd_ne (Nat.ne_of_lt hlt)]
      exact (hf c hcm).1
  done := by
    intro X hP hw hK hc i pins s σ H E I hf st hg
    subst hP hw hK
    obtain ⟨hz, hTI, ⟨x0, y0, hTO⟩, ⟨l1, h1⟩, l2, h2⟩ := st
    obtain ⟨hend, xs, ys, hqx, hqy, en, em⟩ := hg
    obtain ⟨its, rv, p, _⟩ := I.list hqx
    obtain ⟨its2, rv2, p2, _⟩ := I.list hqy
    have len1 : its.toArray.size = n := by rw [List.size_toArray, ← rv.length, en]
    have len2 : its2.toArray.size = m := by rw [List.size_toArray, ← rv2.length, em]
    have hh := I.ok.hd hc
    have ne1 : a ≠ i1 := fun q => by
      obtain ⟨oa, _, ga, ca, _⟩ := id p
      obtain ⟨ob, gb, cb, _⟩ := id h1
      rw [← q, ga] at gb
      cases gb
      rw [ca] at cb
      exact absurd cb (by decide)
    have ne2 : b ≠ i2 := fun q => by
      obtain ⟨oa, _, ga, ca, _⟩ := id p2
      obtain ⟨ob, gb, cb, _⟩ := id h2
      rw [← q, ga] at gb
      cases gb
      rw [ca] at cb
      exact absurd cb (by decide)
    have D1 := draws_rev (prog := X.prog) (w := X.w) (A := X.A.in1) hh i1 a ne1 its.toArray
    have D2 := draws_rev (prog := X.prog) (w := X.w) (A := X.A.in1) hh i2 b ne2 its2.toArray
    rw [len1] at D1
    rw [len2] at D2
    exact wpAny_pyNext_zipD2_end D D1 D2 hz hTI hTO ⟨l1, h1, p.isList⟩ ⟨l2, h2, p2.isList⟩ l1 l2 (by omega) fun h' tk hk => ⟨rfl, I.turnedL (t' := tk) (ch := [z, TI, TO, i1, i2]) (fun c o hb q => by
      have hb' : c ≠ z ∧ c ≠ TI ∧ c ≠ TO ∧ c ≠ i1 ∧ c ≠ i2 := by simpa using hb
      exact hk c o hb'.1 hb'.2.2.1 hb'.2.2.2.1 hb'.2.2.2.2 q) hf⟩
  self := fun A i s Q E st h => wpAny_pyIter_zip st.1 h
theorem walk_zipR {K : PySem.W.Frag} {a b : Addr} {xs ys : List V} {n : Nat} (hn : n = min xs.length ys.length) : Walk (ItzR K a b xs.length ys.length) n (fun H => SqL K H a xs ∧ SqL K H b ys) (YPair (fun i => xs[xs.length - 1 - i]?) (fun i => ys[ys.length - 1 - i]?)) := by
  subst hn
  refine ⟨fun i _ hi q => ⟨by omega, by omega, xs, ys, q.1, q.2, rfl, rfl⟩, fun _ q => ⟨by omega, xs, ys, q.1, q.2, rfl, rfl⟩, fun i H v H' _ q y => ?_⟩
  obtain ⟨T, x, y, h1, h2, h3, h4, h5⟩ := y
  exact ⟨T, x, y, h1, h2, h3, h4 xs q.1, h5 ys q.2⟩
def iZipR (K : PySem.W.Frag) (ta tb : TE) : TI := fun σ H R => ta σ H fun v H1 => ∃ a xs, v = .ref a ∧ SqL K H1 a xs ∧ tb σ H1 fun w H2 => ∃ b ys, w = .ref b ∧ SqL K H2 a xs ∧ SqL K H2 b ys ∧ R (ItzR K a b xs.length ys.length) H2
theorem pi_zipR {X : Cx} {e1 e2 : Expr} {ta tb : TE} {p p1 p2 q1 q2 pos tpos : Pos} {elts : List Expr} {kk : Nat} (hg : Gl X "zip") (hm : X.mg "zip" = none) (hgr : Gl X "reversed") (hmr : X.mg "reversed" = none) (ha : PE X e1 ta) (hb : PE X e2 tb)
    (hs1 : starEach [e1] X.env = (false, eval e1 X.env) :: starEach [] X.env := by rfl) (hs2 : starEach [e2] X.env = (false, eval e2 X.env) :: starEach [] X.env := by rfl)
    (hs : starEach [.Call (.Name "reversed" p1) [e1] [] q1, .Call (.Name "reversed" p2) [e2] [] q2] X.env = (false, eval (.Call (.Name "reversed" p1) [e1] [] q1) X.env) :: starEach [.Call (.Name "reversed" p2) [e2] [] q2] X.env := by rfl)
    (hs3 : starEach [.Call (.Name "reversed" p2) [e2] [] q2] X.env = (false, eval (.Call (.Name "reversed" p2) [e2] [] q2) X.env) :: starEach [] X.env := by rfl)
    (hpl : (backTo pos (starEach [.Call (.Name "reversed" p2) [e2] [] q2] X.env)).any (·.1) = false := by rfl) :
    PI X (.Tuple elts kk tpos) (.Call (.Name "zip" p) [.Call (.Name "reversed" p1) [e1] [] q1, .Call (.Name "reversed" p2) [e2] [] q2] [] pos) (iZipR X.K ta tb) := by
  refine ⟨fun pins s σ H R I h => ?_⟩
  refine Call_ (ld_blt I hg hm PyProof.Rows.boot_zip (PyProof.Rows.callWith_type1 (args_cons (Call_ (ld_blt I hgr hmr PyProof.Rows.boot_reversed (PyProof.Rows.callWith_type1 (args_cons (thn (ha.run pins s σ H _ I h) fun u s1 ⟨v, H1, I1, r1, q⟩ => args_nil ?_) hs1) hs1 rfl))) hs) hs hpl))
  obtain ⟨a, xs, ev, hq, q⟩ := q
  subst ev
  obtain rfl : u = Value.ref a := r1
  obtain ⟨its, rv, pl, hz⟩ := I1.list hq
  refine call_reversed_list pl.isList ?_
  have I2 : Inv X pins σ H1 { s1 with heap := s1.heap.push (revObj a ((its.toArray.size : Int) - 1)) } := I1.kept (t' := s1.toks) fun b o e => Heap.get?_push_of_some _ e
  have f1 := I1.fpOk (H' := H1) (b := s1.heap.objs.size) (Nat.le_refl _) (I1.hok.fresh (Nat.le_refl _))
  have g1 : (s1.heap.push (revObj a ((its.toArray.size : Int) - 1))).get? s1.heap.objs.size = some (revObj a ((its.toArray.size : Int) - 1)) := Heap.get?_push_size _ rfl
  have I3 := I2.pinned (fp := [s1.heap.objs.size]) (fun b hb => by rw [List.mem_singleton.mp hb]; exact f1) (fun b hb => by rw [List.mem_singleton.mp hb]; exact ⟨_, g1, fun v z => nomatch z⟩)
  refine args_cons (Call_ (ld_blt I3 hgr hmr PyProof.Rows.boot_reversed (PyProof.Rows.callWith_type1 (args_cons (thn (hb.run _ _ σ H1 _ I3 q) fun u2 s2 ⟨v2, H2, I4, r2, q⟩ => args_nil ?_) hs2) hs2 rfl))) hs3
  obtain ⟨b, ys, ev, hqa, hqb, q⟩ := q
  subst ev
  obtain rfl : u2 = Value.ref b := r2
  obtain ⟨its2, rv2, pl2, hz2⟩ := I4.list hqb
  have pin := I4.pin (s1.heap.objs.size, revObj a ((its.toArray.size : Int) - 1)) (List.mem_append_right _ (List.mem_append_right _ (mem_pinsAt (List.mem_singleton.mpr rfl) g1)))
  have I5 := I4.unpinned
  have lt1 : s1.heap.objs.size < s2.heap.objs.size := Heap.lt_size pin.1
  refine call_reversed_list pl2.isList (args_nil ?_)
  obtain ⟨its', rv', pl', hz'⟩ := I5.list hqa
  have alt : a < s2.heap.objs.size := pl'.lt
  have blt : b < s2.heap.objs.size := pl2.lt
  have k0 : ∀ c o, s2.heap.get? c = some o → (s2.heap.push (revObj b ((its2.toArray.size : Int) - 1))).get? c = some o := fun c o e => Heap.get?_push_of_some _ e
  have g2 : (s2.heap.push (revObj b ((its2.toArray.size : Int) - 1))).get? s2.heap.objs.size = some (revObj b ((its2.toArray.size : Int) - 1)) := Heap.get?_push_size _ rfl
  have e1 : ((its.toArray.size : Nat) : Int) - 1 = (xs.length : Int) - 1 - ((0 : Nat) : Int) := by have := rv.length; simp only [List.size_toArray]; omega
  have e2 : ((its2.toArray.size : Nat) : Int) - 1 = (ys.length : Int) - 1 - ((0 : Nat) : Int) := by have := rv2.length; simp only [List.size_toArray]; omega
  have hr1 : (s2.heap.push (revObj b ((its2.toArray.size : Int) - 1))).IsRevIter s1.heap.objs.size a ((its.toArray.size : Int) - 1) := ⟨_, k0 _ _ pin.1, rfl, rfl⟩
  have hr2 : (s2.heap.push (revObj b ((its2.toArray.size : Int) - 1))).IsRevIter s2.heap.objs.size b ((its2.toArray.size : Int) - 1) := ⟨_, g2, rfl, rfl⟩
  have hN : (s2.heap.push (revObj b ((its2.toArray.size : Int) - 1))).objs.size = s2.heap.objs.size + 1 := Heap.size_push ..
  refine call_zipR (s := { s2 with heap := s2.heap.push (revObj b ((its2.toArray.size : Int) - 1)) }) hr1 hr2 fun h' z' TI' TO' sz' hk => wpAny_pyIter_zip z' ?_
  have hk' : ∀ c o, s2.heap.get? c = some o → h'.get? c = some o := fun c o e => hk c o (k0 c o e)
  have I6 : Inv X pins σ H2 { s2 with heap := h' } := I5.kept (t' := s2.toks) hk'
  have ane : a ≠ s1.heap.objs.size := Nat.ne_of_lt (by obtain ⟨o, _, e, _⟩ := id pl; exact Heap.lt_size e)
  have bne : s1.heap.objs.size ≠ b := fun z => by
    obtain ⟨ob, _, gb, cb, _⟩ := id pl2
    have gp := pin.1
    rw [z] at gp
    have gp : s2.heap.get? b = some (revObj a ((its.toArray.size : Int) - 1)) := gp
    rw [gp] at gb
    cases gb
    have cb : Value.type "list_reverseiterator" = Value.type "list" := cb
    exact absurd cb (by decide)
  generalize hM : (s2.heap.push (revObj b ((its2.toArray.size : Int) - 1))).objs.size = M at *
  have hM2 : M = s2.heap.objs.size + 1 := hN
  clear hN
  refine ⟨M + 2, [M + 2, M, M + 1, s1.heap.objs.size, s2.heap.objs.size], _, _, H2, rfl, I6, turn_zipR (n := xs.length) (m := ys.length) ?_, ⟨z', TI', ⟨_, _, TO'⟩, ⟨Nat.zero_le _, ?_⟩, Nat.zero_le _, ?_⟩, fun c hc => ?_, q⟩
  · have lt1 : (s1.heap.objs.size : Nat) < s2.heap.objs.size := lt1
    have alt : @LT.lt Nat instLTNat a s2.heap.objs.size := alt
    have blt : @LT.lt Nat instLTNat b s2.heap.objs.size := blt
    have hM2 : (M : Nat) = s2.heap.objs.size + 1 := hM2
    have ane : @Ne Nat a s1.heap.objs.size := ane
    have bne : @Ne Nat s1.heap.objs.size b := bne
    generalize (s1.heap.objs.size : Nat) = n1 at *
    generalize (s2.heap.objs.size : Nat) = n2 at *
    have two : ∀ {x y z : Nat}, x ≠ y → x ≠ z → (x : Addr) ∉ ([y, z] : List Addr) := fun h1 h2 hm => by
      rcases List.mem_cons.mp hm with e | hm
      · exact h1 e
      · exact h2 (List.mem_singleton.mp hm)
    exact ⟨(show (M : Nat) ≠ M + 2 by omega), (show (M + 1 : Nat) ≠ M + 2 by omega), (show (M : Nat) ≠ M + 1 by omega), (show (M : Nat) ≠ n1 by omega), List.mem_cons_self, two (x := M + 2) (by omega) (by omega), two (x := M + 1) (by omega) (by omega),
      (show (M : Nat) ≠ n2 by omega), List.mem_cons_self, two (x := M + 2) (by omega) (by omega), two (x := M + 1) (by omega) (by omega), two (x := n1) (by omega) (by omega), two (x := n2) (by omega) (by omega)⟩
  · rw [← e1]
    exact hr1.at fun o e => hk _ o e
  · rw [← e2]
    exact hr2.at fun o e => hk _ o e
  · have qc : c = M + 2 ∨ c = M ∨ c = M + 1 ∨ c = s1.heap.objs.size ∨ c = s2.heap.objs.size := by simpa using hc
    have hn1 : H2 s1.heap.objs.size = none := pin.2.1
    rcases qc with e | e | e | e | e
    · rw [e]; exact I5.fpOk (Nat.le_trans (Nat.le_succ _) (by show (s2.heap.objs.size + 1 : Nat) ≤ (M + 2 : Nat); have : (M : Nat) = s2.heap.objs.size + 1 := hM2; omega)) (I5.hok.fresh (by show (s2.heap.objs.size : Nat) ≤ (M + 2 : Nat); have : (M : Nat) = s2.heap.objs.size + 1 := hM2; omega))
    · rw [e]; exact I5.fpOk (by show (s2.heap.objs.size : Nat) ≤ (M : Nat); have : (M : Nat) = s2.heap.objs.size + 1 := hM2; omega) (I5.hok.fresh (by show (s2.heap.objs.size : Nat) ≤ (M : Nat); have : (M : Nat) = s2.heap.objs.size + 1 := hM2; omega))
    · rw [e]; exact I5.fpOk (by show (s2.heap.objs.size : Nat) ≤ (M + 1 : Nat); have : (M : Nat) = s2.heap.objs.size + 1 := hM2; omega) (I5.hok.fresh (by show (s2.heap.objs.size : Nat) ≤ (M + 1 : Nat); have : (M : Nat) = s2.heap.objs.size + 1 := hM2; omega))
    · rw [e]; exact ⟨hn1, f1.2⟩
    · rw [e]; exact I5.fpOk (Nat.le_refl _) (I5.hok.fresh (Nat.le_refl _))
end PaZ
namespace Pa
open PySem PySem.Spec PyProof.Rows L2
theorem rev_get {α : Type} {xs : List α} {i : Nat} (h : i < xs.length) : xs.reverse[i]? = xs[xs.length - 1 - i]? := List.getElem?_reverse h
section
variable {X : Cx} {δ : Sl} {pos p p1 p2 q1 q2 tpos : Pos}
theorem xi_zipR {a b : Expr} {elts : List Expr} {kk : Nat} {ds es : List Dt} (hm : X.mg "zip" = none) (hmr : X.mg "reversed" = none) (ha : Xe X a δ (.lst ds)) (hb : Xe X b δ (.lst es)) (hg : Gl X "zip" := by rfl) (hgr : Gl X "reversed" := by rfl)
    (hs1 : starEach [a] X.env = (false, eval a X.env) :: starEach [] X.env := by rfl) (hs2 : starEach [b] X.env = (false, eval b X.env) :: starEach [] X.env := by rfl)
    (hs : starEach [.Call (.Name "reversed" p1) [a] [] q1, .Call (.Name "reversed" p2) [b] [] q2] X.env = (false, eval (.Call (.Name "reversed" p1) [a] [] q1) X.env) :: starEach [.Call (.Name "reversed" p2) [b] [] q2] X.env := by rfl)
    (hs3 : starEach [.Call (.Name "reversed" p2) [b] [] q2] X.env = (false, eval (.Call (.Name "reversed" p2) [b] [] q2) X.env) :: starEach [] X.env := by rfl)
    (hpl : (backTo pos (starEach [.Call (.Name "reversed" p2) [b] [] q2] X.env)).any (·.1) = false := by rfl) :
    Xi X (.Tuple elts kk tpos) (.Call (.Name "zip" p) [.Call (.Name "reversed" p1) [a] [] q1, .Call (.Name "reversed" p2) [b] [] q2] [] pos) δ (zipD ds.reverse es.reverse) := PI.sub (PaZ.pi_zipR hg hm hgr hmr ha hb hs1 hs2 hs hs3 hpl) fun σ H R h => by
  obtain ⟨G, s, e, k⟩ := h
  refine ⟨G, s, e, fun v H1 G1 g1 d1 => ?_⟩
  obtain ⟨l, us, rfl, r, dl⟩ := d1.lst_inv
  refine ⟨l, us, rfl, .inl (.inl (g1.sub _ _ r)), G1, g1.sub, e.mono g1.gg, fun v2 H2 G2 g2 d2 => ?_⟩
  obtain ⟨l2, us2, rfl, r2, dl2⟩ := d2.lst_inv
  have dl := dl.mono g2.gg
  have r := g2.gg _ _ r
  refine ⟨l2, us2, rfl, .inl (.inl (g2.sub _ _ r)), .inl (.inl (g2.sub _ _ r2)), k _ H2 G2 (g1.trans g2) ?_⟩
  refine walkD_pair (n := min us.length us2.length) (Walk.mono (PaZ.walk_zipR (K := X.K) (a := l) (b := l2) (xs := us) (ys := us2) rfl) (fun H s => ⟨.inl (.inl (s _ _ r)), .inl (.inl (s _ _ r2))⟩) fun i H x H' _ _ y => y) ?_ fun i x y hi ex ey => ?_
  · unfold zipD
    rw [List.length_map, List.length_zip, List.length_reverse, List.length_reverse, dl.1, dl2.1]
  · have l1 := dl.1
    have l2 := dl2.1
    have h1 : ds.length - 1 - i < ds.length := by omega
    have h2 : es.length - 1 - i < es.length := by omega
    have f1 : ds.reverse[i]? = some ds[ds.length - 1 - i] := by rw [rev_get (by omega), List.getElem?_eq_getElem h1]
    have f2 : es.reverse[i]? = some es[es.length - 1 - i] := by rw [rev_get (by omega), List.getElem?_eq_getElem h2]
    rw [l1] at ex
    rw [l2] at ey
    refine ⟨ds[ds.length - 1 - i], es[es.length - 1 - i], ?_, dl.2 _ x _ ex (List.getElem?_eq_getElem h1), dl2.2 _ y _ ey (List.getElem?_eq_getElem h2)⟩
    unfold zipD
    have fz : (ds.reverse.zip es.reverse)[i]? = some (ds[ds.length - 1 - i], es[es.length - 1 - i]) := List.getElem?_zip_eq_some.mpr ⟨f1, f2⟩
    rw [List.getElem?_map, fz]
    rfl
/-- xs[::-1] -/
theorem xe_rev {a : Expr} {ds : List Dt} {k : Nat} {p3 : Pos} (ha : Xe X a δ (.lst ds)) : Xe X (.Subscript a (.Slice none none (some (.UnaryOp .USub (.Constant (.int 1) k p1) p2)) p3) pos) δ (.lst ds.reverse) :=
  PE.sub (pe_revL ha) fun σ H Q h => by
    obtain ⟨G, s, e, k⟩ := h
    refine ⟨G, s, e, fun v H1 G1 g1 d1 => ?_⟩
    obtain ⟨l, us, rfl, r, dl⟩ := d1.lst_inv
    refine ⟨l, us, rfl, .inl (.inl (g1.sub _ _ r)), fun q hq => ?_⟩
    have gl : Grow G1 H1 (upd G1 q (.lst us.reverse)) (upd H1 q (.lst us.reverse)) := Grow.laid g1.sub hq
    have dl := dl.mono gl.gg
    refine k _ _ _ (g1.trans gl) (.lst upd_same (by rw [List.length_reverse, List.length_reverse, dl.1]) fun i v d e1 e2 => ?_)
    have hi : i < us.length := by
      have := (List.getElem?_eq_some_iff.mp e1).1
      rwa [List.length_reverse] at this
    rw [rev_get hi] at e1
    rw [rev_get (by rw [← dl.1]; exact hi), ← dl.1] at e2
    exact dl.2 _ v d e1 e2
/-- x not in xs, ints -/
theorem inV_ints {x : Int} : ∀ ns : List Int, inV (.int x) (ns.map V.int) = decide (x ∈ ns)
  | [] => rfl
  | n :: ns => by
    have ih := inV_ints (x := x) ns
    show (eqV (.int n) (.int x) || inV (.int x) (ns.map V.int)) = _
    rw [ih]
    by_cases h : n = x
    · subst h
      rw [decide_eq_true (List.mem_cons_self)]
      have : eqV (.int n) (.int n) = true := by show decide (_ = _) = true <;> simp [eqV]
      rw [this]
      rfl
    · have e1 : eqV (.int n) (.int x) = false := by simp [eqV, h]
      rw [e1, Bool.false_or]
      exact decide_eq_decide.mpr ⟨fun z => List.mem_cons_of_mem _ z, fun z => (List.mem_cons.mp z).resolve_left (Ne.symm h)⟩
theorem flat_ints : ∀ ns : List Int, (ns.map V.int).all flatV = true
  | [] => rfl
  | n :: ns => flat_ints ns
theorem o_notInI {x : Int} {ns : List Int} : Xop X (compareOp .NotIn) (.int x) (dI ns) (.bl (!decide (x ∈ ns))) := OpR.sub op_notIn_seq fun v w H Q ⟨G, s, a, b, k⟩ => by
  obtain ⟨l, rfl, r⟩ := dI_inv b
  rw [a.int_inv]
  refine ⟨l, ns.map V.int, rfl, .inl (.inl (.inl (s _ _ r))), rfl, flat_ints ns, ?_⟩
  rw [inV_ints]
  exact k _ _ _ (Grow.refl s) (.bl _)
/-- list(range(a, b, c)) -/
theorem vals_rgC {lo st : Int} {n : Nat} {acc : Array Value} (h : ItemsOf (fun i v => ∃ t, v = .int (lo + i * st) t) acc n) : Vals ((rngD n fun i => lo + (i : Int) * st).map V.int) acc.toList := by
  have e : acc.toList.length = n := by rw [Array.length_toList]; exact h.1
  unfold rngD
  rw [List.map_map, ← e]
  refine vals_of_get acc.toList _ fun j u hj => ?_
  obtain ⟨t, rfl⟩ := h.2 j u (by rw [← hj, Array.getElem?_toList])
  exact ⟨t, rfl⟩
theorem pe_listRgC {a b c : Expr} {ta : TA} (hc : X.calm = true) (hgl : Gl X "list") (hml : X.mg "list" = none) (hg : Gl X "range") (hm : X.mg "range" = none) (ha : PA X [a, b, c] ta)
    (hs : starEach [a, b, c] X.env = (false, eval a X.env) :: starEach [b, c] X.env := by rfl) (hpl : (backTo q1 (starEach [b, c] X.env)).any (·.1) = false := by rfl)
    (hs2 : starEach [.Call (.Name "range" p1) [a, b, c] [] q1] X.env = (false, eval (.Call (.Name "range" p1) [a, b, c] [] q1) X.env) :: starEach [] X.env := by rfl) :
    PE X (.Call (.Name "list" p) [.Call (.Name "range" p1) [a, b, c] [] q1] [] pos) (fun σ H Q => ta σ H fun vs H1 => ∃ (lo hi st : Int) (n : Nat), vs = [.int lo, .int hi, .int st] ∧ RgC lo hi st n ∧ n ≤ 2 ^ 24 ∧ ∀ q, H1 q = none → Q (.ref q) (upd H1 q (.lst ((rngD n fun i => lo + (i : Int) * st).map V.int)))) := by
  refine ⟨fun pins s σ H Q I h => ?_⟩
  refine Call_ (ld_blt I hgl hml boot_list (PyProof.Rows.callWith_type1 (args_cons (Call_ (ld_blt I hg hm boot_range (PyProof.Rows.callWith_type1 (thn (ha.run q1 pins s σ H _ I h) fun us s1 ⟨vs, H1, I1, r1, w1⟩ => ?_) hs hpl))) hs2) hs2 rfl))
  obtain ⟨lo, hi, st, n, e, ⟨c0, c1, c2, c3⟩, hz, q⟩ := w1
  subst e
  cases r1 with
  | cons r rr =>
    cases rr with
    | cons r' rr =>
      cases rr with
      | cons r'' rr =>
        cases rr
        obtain ⟨t, rfl⟩ := r
        obtain ⟨t', rfl⟩ := r'
        obtain ⟨t'', rfl⟩ := r''
        refine call_range_3 c0 ?_ (.inl (PyProof.noPylong_small c1))
        refine args_nil ?_
        have I2 : Inv X pins σ H1 { s1 with heap := s1.heap.push { cls := .type "range", data := .fields #[.int lo t, .int hi t', .int st t''] } } := I1.kept (t' := s1.toks) fun b o e => Heap.get?_push_of_some _ e
        refine call_list_range (n := n) (I2.ok.hd hc) (IsRange.new ..) c2 c3 hz fun h' tk acc c' hk e' hi' => ?_
        refine ⟨.ref _, upd H1 _ (.lst ((rngD n fun i => lo + (i : Int) * st).map V.int)), I2.laid hk (Nat.le_refl _) (show ObjOk X.prog X.w _ _ _ (.lst _) from ⟨?_, acc.toList, c', vals_rgC hi', ?_⟩), rfl, q _ (I2.hok.fresh (Nat.le_refl _))⟩
        · rw [List.length_map, rngD_len]
          exact Nat.le_trans hz (by rw [sizeLine_eq]; decide)
        · rw [Array.toArray_toList]; exact e'
theorem xe_listRgC {a b c : Expr} {lo hi st : Int} {n : Nat} (hml : X.mg "list" = none) (hm : X.mg "range" = none) (ha : Xa X [a, b, c] δ [.int lo, .int hi, .int st]) (hr : RgC lo hi st n) (hz : n ≤ 100000) (hc : X.calm = true := by rfl) (hgl : Gl X "list" := by rfl) (hg : Gl X "range" := by rfl)
    (hs : starEach [a, b, c] X.env = (false, eval a X.env) :: starEach [b, c] X.env := by rfl) (hpl : (backTo q1 (starEach [b, c] X.env)).any (·.1) = false := by rfl)
    (hs2 : starEach [.Call (.Name "range" p1) [a, b, c] [] q1] X.env = (false, eval (.Call (.Name "range" p1) [a, b, c] [] q1) X.env) :: starEach [] X.env := by rfl) :
    Xe X (.Call (.Name "list" p) [.Call (.Name "range" p1) [a, b, c] [] q1] [] pos) δ (dI (rngD n fun i => lo + (i : Int) * st)) :=
  PE.sub (pe_listRgC hc hgl hml hg hm ha hs hpl hs2) fun σ H Q h => by
    obtain ⟨G, s, e, k⟩ := h
    refine ⟨G, s, e, fun vs H1 G1 g1 d1 => ⟨lo, hi, st, n, d1.ints_inv (ns := [lo, hi, st]), hr, by omega, fun q hq => ?_⟩⟩
    have gl : Grow G1 H1 (upd G1 q (.lst ((rngD n fun i => lo + (i : Int) * st).map V.int))) (upd H1 q (.lst ((rngD n fun i => lo + (i : Int) * st).map V.int))) := Grow.laid g1.sub hq
    exact k _ _ _ (g1.trans gl) (.lst upd_same (by rw [List.length_map, List.length_map]) (DenL.ints _).2)
end
end Pa
namespace Pa
open PySem PySem.Spec PyProof.Rows L2
theorem EnvR.pub {R H G : Hp} {σ : L2.St} {δ : Ss} {ω : Om} {regs : List (List Addr)} {q : Addr} {u : HO} (e : EnvR R H G σ δ ω regs) (hR : R q = none) (hG : G q = none) (hr : q ∉ regs.flatten) (hq : H q = some u) : EnvR R H (upd G q u) σ δ ω regs :=
  ⟨e.rh, fun b o hb => by
    by_cases z : b = q
    · subst z
      rw [upd_same] at hb
      cases hb
      exact hq
    · rw [upd_ne z] at hb
      exact e.gh b o hb, fun a ha => by
    rw [upd_ne (fun z => by rw [z] at ha; exact ha hR)]
    exact e.rg a ha, e.len, e.rlen, e.nd, e.real, fun a ha => ⟨(e.out a ha).1, by
    rw [upd_ne (fun z => hr (by rw [← z]; exact ha))]
    exact (e.out a ha).2⟩, fun i d h => by
    obtain ⟨v, h1, h2⟩ := e.sh i d h
    exact ⟨v, h1, h2.mono (same_new hG)⟩, e.ow⟩
theorem set_same {σ : L2.St} {i : Nat} {v : V} (h : σ[i]? = some (some v)) : σ.set i (some v) = σ := by
  apply List.ext_getElem?
  intro j
  by_cases e : i = j
  · subst e
    rw [List.getElem?_set_self (List.getElem?_eq_some_iff.mp h).1, h]
  · rw [List.getElem?_set_ne e]
theorem EnvR.know {R H G : Hp} {σ : L2.St} {δ : Ss} {ω : Om} {regs : List (List Addr)} {i : Nat} {v : V} {d : Dt} (e : EnvR R H G σ δ ω regs) (h : σ[i]? = some (some v)) (dv : Den G v d) : EnvR R H G σ (δ.set i (some (.sh d))) ω regs := by
  have := EnvR.set (i := i) (v := v) (x := .sh d) e (fun d' z => by cases z; exact dv) trivial
  rwa [set_same h] at this
/-- x.append(y), both names -/
def tApp (i j : Nat) : TS := fun D σ H => ∃ p vs v, σ[i]? = some (some (.ref p)) ∧ σ[j]? = some (some v) ∧ H p = some (.lst vs) ∧ vs.length < sizeLine ∧ D.nx σ (upd H p (.lst (vs ++ [v])))
theorem ps_app {X : Cx} {i j : Nat} {x y : Str} {px py apos cpos pos : Pos} (hi : X.N[i]? = some x := by rfl) (hj : X.N[j]? = some y := by rfl) (hv : Vis X.env.scope x := by first | exact Or.inl rfl | exact Or.inr (Or.inl rfl) | exact Or.inr (Or.inr rfl)) (hw : Vis X.env.scope y := by first | exact Or.inl rfl | exact Or.inr (Or.inl rfl) | exact Or.inr (Or.inr rfl))
    (h1 : (x == ("__debug__" : Str)) = false := by decide) (h2 : (x == ("__classdict__" : Str)) = false := by decide) (h3 : (y == ("__debug__" : Str)) = false := by decide) (h4 : (y == ("__classdict__" : Str)) = false := by decide)
    (hbase : attributeBase (.Name x px) "append" X.env (eval (.Name x px) X.env) = eval (.Name x px) X.env := by rfl)
    (hfew : ((backTo cpos (starEach [.Name y py] X.env)).all (fun x => !x.1) && (backToKw cpos (keywordEach [] X.env)).all (fun x => x.1.isSome) && decide (([.Name y py] : List Expr).length + ([] : List Keyword).length + (if ([] : List Keyword).isEmpty then 0 else 1) < 30)) = true := by rfl)
    (hline : (apos.endLine == cpos.line) = true := by rfl) (hs : starEach (.Name y py :: []) X.env = (false, eval (.Name y py) X.env) :: starEach [] X.env := by rfl) (hplain : (backTo cpos (starEach [] X.env)).any (·.1) = false := by rfl)
    (hsw : swapsWith (.Call (.Attribute (.Name x px) "append" apos) [.Name y py] [] cpos) none pos.line X.env = pure false := by rfl) : PS X (.Expr (.Call (.Attribute (.Name x px) "append" apos) [.Name y py] [] cpos) pos) (tApp i j) :=
  PS.sub (ps_expr (pe_bm PySem.F.plainAttrs_list PySem.F.slot_list_append PySem.F.type_list_append mt_append (pe_var hi hv h1 h2) (pa_cons (pe_var hj hw h3 h4) pa_nil hs) hbase hfew hline hs hplain) hsw) fun D σ H h => by
    obtain ⟨p, vs, v, e1, e2, e3, e4, k⟩ := h
    exact ⟨.ref p, e1, .inl ⟨rfl, _, .inl (.inl e3)⟩, v, e2, p, vs, v, rfl, rfl, e3, e4, k⟩
def kvT (ks : List Int) : List (Key × V) := ks.map fun l => ((Sum.inl l : Key), V.bl true)
def dicKT (ks : List Int) : Dt := .dic (ks.map fun l => ((Sum.inl l : Key), Dt.bl true))
theorem putK_T {ks : List Int} {n : Int} : putK (kvT ks) (.inl n) (.bl true) = kvT (putI ks n) := by
  have ea : ((kvT ks).any fun kv => decide (kv.1 = (.inl n : Key))) = decide (n ∈ ks) := by
    unfold kvT
    rw [List.any_map]
    by_cases h : n ∈ ks
    · rw [decide_eq_true h]
      exact List.any_eq_true.mpr ⟨n, h, by simp⟩
    · rw [decide_eq_false h]
      refine List.any_eq_false.mpr fun x hx => ?_
      simp only [Function.comp_apply, decide_eq_true_eq]
      intro z
      injection z with z
      exact h (z ▸ hx)
  unfold putK putI
  rw [ea]
  by_cases h : n ∈ ks
  · rw [if_pos (decide_eq_true h), if_pos h]
    unfold kvT
    rw [List.map_map]
    refine List.map_congr_left fun l _ => ?_
    simp only [Function.comp_apply]
    split <;> rfl
  · rw [if_neg (by rw [decide_eq_false h]; exact Bool.false_ne_true), if_neg h]
    unfold kvT
    rw [List.map_append]
    rfl
theorem kvT_len {ks : List Int} : (kvT ks).length = ks.length := List.length_map ..
theorem den_T {G : Hp} {q : Addr} {od : Obj} {ks : List Int} (h : G q = some (.frz od (.dK (kvT ks)))) : Den G (.ref q) (dicKT ks) := by
  refine .dic h ?_ fun i x y e1 e2 => ?_
  · unfold kvT
    rw [List.map_map, List.map_map]
    rfl
  · unfold kvT at e1
    rw [List.getElem?_map] at e1 e2
    cases q : ks[i]? with
    | none =>
      rw [q] at e1
      cases e1
    | some l =>
      rw [q] at e1 e2
      cases e1
      cases e2
      exact .bl true
/-- the fixed addresses: p the list, q the dict that is being filled -/
structure LFx (R F : Hp) (regs : List (List Addr)) (p q : Addr) : Prop where
  rp : R p = none
  rq : R q = none
  fq : F q = none
  op : p ∉ regs.flatten
  oq : q ∉ regs.flatten
  ne : p ≠ q
structure LSt (R F H G : Hp) (σ : L2.St) (δ : Ss) (ω : Om) (regs : List (List Addr)) (p q : Addr) (vs : List V) (ks : List Int) : Prop where
  e : EnvR R H G σ δ ω regs
  ff : Same F H
  s3 : σ[3]? = some (some (.ref p))
  s5 : σ[5]? = some (some (.ref q))
  hp : H p = some (.lst vs)
  hq : H q = some (.dK (kvT ks))
  gp : G p = none
  gq : G q = none
section
variable {R F H G : Hp} {σ : L2.St} {δ : Ss} {ω : Om} {regs : List (List Addr)} {p q : Addr} {vs : List V} {ks : List Int}
theorem LSt.grow (st : LSt R F H G σ δ ω regs p q vs ks) {G' H' : Hp} (g : Grow G H G' H') : LSt R F H' G' σ δ ω regs p q vs ks :=
  ⟨st.e.grow g, st.ff.trans g.hh, st.s3, st.s5, g.hh _ _ st.hp, g.hh _ _ st.hq, g.new p st.gp (by rw [st.hp]; exact fun z => by cases z), g.new q st.gq (by rw [st.hq]; exact fun z => by cases z)⟩
theorem LSt.junk (st : LSt R F H G σ δ ω regs p q vs ks) {H' : Hp} (s : Same H H') : LSt R F H' G σ δ ω regs p q vs ks := st.grow (Grow.junk st.e.gh s)
theorem LSt.less (st : LSt R F H G σ δ ω regs p q vs ks) {δ' : Ss} (l : LessS δ δ') : LSt R F H G σ δ' ω regs p q vs ks := ⟨st.e.less l, st.ff, st.s3, st.s5, st.hp, st.hq, st.gp, st.gq⟩
theorem LSt.put (fx : LFx R F regs p q) (st : LSt R F H G σ δ ω regs p q vs ks) (ms : List Int) : LSt R F (upd H q (.dK (kvT ms))) G σ δ ω regs p q vs ms :=
  ⟨st.e.alien fx.rq st.gq fx.oq, fun a o ha => by
    rw [upd_ne (fun z => by rw [z, fx.fq] at ha; cases ha)]
    exact st.ff a o ha, st.s3, st.s5, by rw [upd_ne fx.ne]; exact st.hp, upd_same, st.gp, st.gq⟩
theorem LSt.slot (st : LSt R F H G σ δ ω regs p q vs ks) {i : Nat} {n : Int} (h3 : i ≠ 3) (h5 : i ≠ 5) : LSt R F H G (σ.set i (some (.int n))) (δ.set i (some (.sh (.int n)))) ω regs p q vs ks :=
  ⟨EnvR.set (x := .sh (.int n)) st.e (fun d' h => by cases h; exact .int _) trivial, st.ff, by rw [List.getElem?_set_ne h3]; exact st.s3, by rw [List.getElem?_set_ne h5]; exact st.s5, st.hp, st.hq, st.gp, st.gq⟩
end
section
variable {X : Cx} {E : XK} {c h : List Int} {a : Int} {ω : Om} {stA stF stP stQ : Stmt} {tgk itk tgl lx tgn nx : Expr} {p1 p2 p3 : Pos}
abbrev δ0 (c h : List Int) (a : Int) : Ss := [some (.sh (dI c)), some (.sh (dI h)), some (.sh (.int a)), none, none, none, none, none, none]
abbrev δk (c h : List Int) (a : Int) (i : Nat) : Ss := [some (.sh (dI c)), some (.sh (dI h)), some (.sh (.int a)), none, some (.sh (.int i)), none, none, none, none]
abbrev δl (c h : List Int) (a : Int) (i : Nat) (l : Int) : Ss := [some (.sh (dI c)), some (.sh (dI h)), some (.sh (.int a)), none, some (.sh (.int i)), none, some (.sh (.int l)), none, none]
abbrev sl (c h : List Int) (a : Int) (i : Nat) (l : Int) : Sl := [some (dI c), some (dI h), some (.int a), none, some (.int i), none, some (.int l), none, none]
abbrev sx (c h : List Int) (a : Int) (i : Nat) (l x : Int) : Sl := [some (dI c), some (dI h), some (.int a), none, some (.int i), none, some (.int l), some (.int x), none]
abbrev s9 : Sl := [none, none, none, none, none, none, none, none, none]
theorem lefts_num (hc : Chn c) (hh : Hep c h) (hp : PassesOwn (model X.prog X.w) X.A X.env X.xe) (hcalm : X.calm = true) {i : Nat} {l : Int} (hi : i + 1 < c.length) (hl : LOk c a i l)
    (hI : Xi X tgn nx (sl c h a i l) ((nAt c h i l).map Dt.int)) (hg : Xg X tgn (.one 7)) (hP : ∀ x, x ∈ nAt c h i l → PS X stP (tAsg (tX s9 (.bl true)) (gSub (tVar 5) (tX (sx c h a i l x) (.int (l - x * c.getD i 0))) rSetD)))
    (hs : ∀ x, foldedSetIterable nx X.env x = pure x) :
    PS X (.For tgn nx [stP] [] p3) (fun D σ H => ∃ R F G regs p q vs ks, LFx R F regs p q ∧ LSt R F H G σ (δl c h a i l) ω regs p q vs ks ∧ LsOk c a (i + 1) ks ∧
      ∀ σ' H' G', Same G G' → LSt R F H' G' σ' (δl c h a i l) ω regs p q vs (putsI c h i l ks (nAt c h i l).length) → D.nx σ' H') := PS.sub (ps_for hp hcalm hI hg PSs.any hs) fun D σ H hyp => by
  obtain ⟨R, F, G, regs, p, q, vs, ks, fx, st, ok, post⟩ := hyp
  refine ⟨G, st.e.gh, st.e.still, fun J H1 G1 g1 w => ?_⟩
  have st1 := st.grow g1
  refine for_it (D := D) (g := gT X.K (.one 7)) (tb := fun D σ H => ∃ t, PSs X [stP] t ∧ t D σ H) w (fun j σ' H' => ∃ G2, Same G1 G2 ∧ LSt R F H' G2 σ' (δl c h a i l) ω regs p q vs (putsI c h i l ks j)) ⟨G1, .refl _, st1⟩ ?_ ?_ ?_
  · rintro j σ' H' _ ⟨G2, s, e2⟩
    exact s.trans e2.e.gh
  · rintro j x σ' H' H2 hj ⟨G2, s, e2⟩ hy
    rw [List.length_map] at hj
    obtain ⟨G3, d, ed, gr, dx⟩ := hy G2 s e2.e.gh
    rw [List.getElem?_map, getD_some (d := 0) hj] at ed
    cases ed
    have hx := getD_mem (d := 0) hj
    have ep : putsI c h i l ks (j + 1) = putI (putsI c h i l ks j) (l - (nAt c h i l).getD j 0 * c.getD i 0) := rfl
    rw [ep]
    have okj := putsI_ok hc hh hi hl ok j (by omega)
    have lenj := okj.len hc (by omega)
    generalize (nAt c h i l).getD j 0 = n at *
    have e3 := (e2.grow gr).slot (i := 7) (n := n) (by decide) (by decide)
    rw [dx.int_inv]
    refine ⟨_, pss_cons (hP n hx) pss_nil, ?_⟩
    refine ⟨G3, e3.e.gh, ⟨e3.e.len, fun i' d' z => by
      rcases i' with _ | _ | _ | _ | _ | _ | _ | _ | _ | i' <;> cases z⟩, fun v4 H4 G4 g4 d4 => ?_⟩
    have e4 := e3.grow g4
    refine ⟨.ref q, e4.s5, G4, e4.e.gh, e4.e.still, fun v5 H5 G5 g5 d5 => ?_⟩
    have e5 := e4.grow g5
    rw [d4.bl_inv, d5.int_inv]
    refine ⟨q, _, rfl, DPut.k (k := .inl (l - n * c.getD i 0)) e5.hq (by rw [kvT_len, sizeLine_eq]; omega), ?_⟩
    rw [putK_T]
    exact ⟨G5, ((s.trans gr.gg).trans g4.gg).trans g5.gg, (e5.put fx _).less (by repeat (first | exact LessS.nil | apply LessS.keep | apply LessS.drop))⟩
  · rintro σ' H' ⟨G2, s, e2⟩
    rw [List.length_map] at e2
    exact post σ' H' G2 (g1.gg.trans s) e2
theorem lefts_left (hc : Chn c) (hh : Hep c h) (ha : 0 ≤ a) (hp : PassesOwn (model X.prog X.w) X.A X.env X.xe) (hcalm : X.calm = true) {i : Nat} (hi : i + 1 < c.length)
    (hI2 : ∀ ds ls, Xi X tgl lx [none, none, none, some (.lst (ds ++ [dicKT ls])), none, none, none, none, none] (ls.map Dt.int)) (hg2 : Xg X tgl (.one 6)) (hs2 : ∀ x, foldedSetIterable lx X.env x = pure x)
    (hI : ∀ l, LOk c a i l → Xi X tgn nx (sl c h a i l) ((nAt c h i l).map Dt.int)) (hg : Xg X tgn (.one 7)) (hP : ∀ l x, LOk c a i l → x ∈ nAt c h i l → PS X stP (tAsg (tX s9 (.bl true)) (gSub (tVar 5) (tX (sx c h a i l x) (.int (l - x * c.getD i 0))) rSetD)))
    (hs : ∀ x, foldedSetIterable nx X.env x = pure x) :
    PS X (.For tgl lx [.For tgn nx [stP] [] p3] [] p2) (fun D σ H => ∃ R F G regs p q vs ds, LFx R F regs p q ∧ LSt R F H G σ (δk c h a i) ω regs p q vs [] ∧ DenL G vs (ds ++ [dicKT (leftsAt c h a i)]) ∧
      ∀ σ' H' G', Same G G' → LSt R F H' G' σ' (δk c h a i) ω regs p q vs (leftsAt c h a (i + 1)) → D.nx σ' H') := PS.sub PS.any fun D σ H hyp => by
  obtain ⟨R, F, G, regs, p, q, vs, ds, fx, st, dl, post⟩ := hyp
  refine ⟨_, ps_for hp hcalm (hI2 ds (leftsAt c h a i)) hg2 PSs.any hs2, ?_⟩
  have sp : Same G (upd G p (.lst vs)) := same_new st.gp
  refine ⟨upd G p (.lst vs), fun b o hb => ?_, ⟨st.e.len, fun i' d' z => ?_⟩, fun J H1 G1 g1 w => ?_⟩
  · by_cases z : b = p
    · subst z
      rw [upd_same] at hb
      cases hb
      exact st.hp
    · rw [upd_ne z] at hb
      exact st.e.gh b o hb
  · rcases i' with _ | _ | _ | _ | _ | _ | _ | _ | _ | i' <;> try (cases z; done)
    have z : some (some (Dt.lst (ds ++ [dicKT (leftsAt c h a i)]))) = some (some d') := z
    cases z
    have dm := dl.mono sp
    exact ⟨.ref p, st.s3, .lst upd_same dm.1 dm.2⟩
  · have hqn : H q ≠ none := by rw [st.hq]; exact fun z => by cases z
    have g1q : G1 q = none := g1.new q (by rw [upd_ne fx.ne.symm]; exact st.gq) hqn
    have fx' : LFx R G1 regs p q := ⟨fx.rp, fx.rq, g1q, fx.op, fx.oq, fx.ne⟩
    have st1 := st.junk g1.hh
    have st1' : LSt R G1 H1 G σ (δk c h a i) ω regs p q vs [] := ⟨st1.e, g1.sub, st1.s3, st1.s5, st1.hp, st1.hq, st1.gp, st1.gq⟩
    have lsok := lefts_ok hc hh ha i (by omega)
    refine for_it (D := D) (g := gT X.K (.one 6)) (tb := fun D σ H => ∃ t, PSs X [.For tgn nx [stP] [] p3] t ∧ t D σ H) w (fun t σ' H' => ∃ G2, Same G G2 ∧ Same F H' ∧ LSt R G1 H' G2 σ' (δk c h a i) ω regs p q vs (putsL c h i (leftsAt c h a i) t)) ⟨G, .refl _, st.ff.trans g1.hh, st1'⟩ ?_ ?_ ?_
    · rintro t σ' H' _ ⟨G2, s, sf, e2⟩
      exact e2.ff
    · rintro t x σ' H' H2 ht ⟨G2, s, sf, e2⟩ hy
      rw [List.length_map] at ht
      obtain ⟨G3, d, ed, gr, dx⟩ := hy G1 (.refl _) e2.ff
      rw [List.getElem?_map, getD_some (d := 0) ht] at ed
      cases ed
      have hl := lsok.ok _ (getD_mem (d := 0) ht)
      have ok := putsL_ok hc hh hi lsok t (by omega)
      have ep : putsL c h i (leftsAt c h a i) (t + 1) = putsI c h i ((leftsAt c h a i).getD t 0) (putsL c h i (leftsAt c h a i) t) (nAt c h i ((leftsAt c h a i).getD t 0)).length := rfl
      rw [ep]
      generalize (leftsAt c h a i).getD t 0 = l at *
      have e3 := (e2.junk gr.hh).slot (i := 6) (n := l) (by decide) (by decide)
      rw [dx.int_inv]
      have fxx : LFx R (fun b => if b = q then none else match F b with | some o => some o | none => G1 b) regs p q := ⟨fx.rp, fx.rq, if_pos rfl, fx.op, fx.oq, fx.ne⟩
      have sff : Same F H2 := sf.trans gr.hh
      have st3 : LSt R (fun b => if b = q then none else match F b with | some o => some o | none => G1 b) H2 G2 (σ'.set 6 (some (.int l))) (δl c h a i l) ω regs p q vs (putsL c h i (leftsAt c h a i) t) := ⟨e3.e, fun b o hb => by
        by_cases z : b = q
        · have hb : (if b = q then none else match F b with | some o => some o | none => G1 b) = some o := hb
          rw [if_pos z] at hb
          cases hb
        · have hb : (if b = q then none else match F b with | some o => some o | none => G1 b) = some o := hb
          rw [if_neg z] at hb
          cases qq : F b with
          | some u =>
            rw [qq] at hb
            cases hb
            exact sff b _ qq
          | none =>
            rw [qq] at hb
            exact e3.ff b o hb, e3.s3, e3.s5, e3.hp, e3.hq, e3.gp, e3.gq⟩
      refine ⟨_, pss_cons (lefts_num (ω := ω) hc hh hp hcalm hi hl (hI l hl) hg (fun x hx => hP l x hl hx) hs) pss_nil, R, _, G2, regs, p, q, vs, _, fxx, st3, ok, fun σ4 H4 G4 s4 st4 => ?_⟩
      have pick : ∀ b, b ≠ q → ∀ u, F b = some u → H4 b = some u := fun b hb u hu => st4.ff b u (by
        show (if b = q then none else match F b with | some o => some o | none => G1 b) = some u
        rw [if_neg hb, hu])
      have pick2 : ∀ b, b ≠ q → ∀ u, G1 b = some u → H4 b = some u := fun b hb u hu => by
        cases qq : F b with
        | none => exact st4.ff b u (by
            show (if b = q then none else match F b with | some o => some o | none => G1 b) = some u
            rw [if_neg hb, qq]
            exact hu)
        | some o =>
          have h1 := sff b o qq
          have h2 := e3.ff b u hu
          rw [h1] at h2
          cases h2
          exact pick b hb _ qq
      refine ⟨G4, s.trans s4, fun b u hu => pick b (fun z => by rw [z, fx.fq] at hu; cases hu) u hu, ?_⟩
      exact LSt.less ⟨st4.e, fun b u hu => pick2 b (fun z => by rw [z, g1q] at hu; cases hu) u hu, st4.s3, st4.s5, st4.hp, st4.hq, st4.gp, st4.gq⟩ (by repeat (first | exact LessS.nil | apply LessS.keep | apply LessS.drop))
    · rintro σ' H' ⟨G2, s, sf, e2⟩
      rw [List.length_map] at e2
      exact post σ' H' G2 s ⟨e2.e, sf, e2.s3, e2.s5, e2.hp, e2.hq, e2.gp, e2.gq⟩
def dicsD (c h : List Int) (a : Int) (j : Nat) : List Dt := (List.range j).map fun i => dicKT (leftsAt c h a i)
theorem dicsD_succ {j : Nat} : dicsD c h a (j + 1) = dicsD c h a j ++ [dicKT (leftsAt c h a j)] := by
  unfold dicsD
  rw [List.range_succ, List.map_append]
  rfl
theorem xb_lefts {rest : List Stmt} {O : Out} (hc : Chn c) (hh : Hep c h) (ha : 0 ≤ a) (hp : PassesOwn (model X.prog X.w) X.A X.env X.xe) (hcalm : X.calm = true)
    (hA : PS X stA (tAsg (tLst (tXA (still (δ0 c h a)) [dicKT [a]])) (gName 3))) (hF : PS X stF (tAsg tDNewK (gName 5)))
    (hI1 : Xi X tgk itk (still (δ0 c h a)) ((rngD (c.length - 1) fun i => (i : Int)).map Dt.int)) (hg1 : Xg X tgk (.one 4)) (hs1 : ∀ x, foldedSetIterable itk X.env x = pure x)
    (hI2 : ∀ ds ls, Xi X tgl lx [none, none, none, some (.lst (ds ++ [dicKT ls])), none, none, none, none, none] (ls.map Dt.int)) (hg2 : Xg X tgl (.one 6)) (hs2 : ∀ x, foldedSetIterable lx X.env x = pure x)
    (hI : ∀ i l, i + 1 < c.length → LOk c a i l → Xi X tgn nx (sl c h a i l) ((nAt c h i l).map Dt.int)) (hg : Xg X tgn (.one 7)) (hP : ∀ i l x, i + 1 < c.length → LOk c a i l → x ∈ nAt c h i l → PS X stP (tAsg (tX s9 (.bl true)) (gSub (tVar 5) (tX (sx c h a i l x) (.int (l - x * c.getD i 0))) rSetD)))
    (hs : ∀ x, foldedSetIterable nx X.env x = pure x) (hQ : PS X stQ (tApp 3 5))
    (hr : Xb X E rest [some (.sh (dI c)), some (.sh (dI h)), some (.sh (.int a)), some (.sh (.lst (dicsD c h a c.length))), none, none, none, none, none] ω O) :
    Xb X E (stA :: .For tgk itk [stF, .For tgl lx [.For tgn nx [stP] [] p3] [] p2, stQ] [] p1 :: rest) (δ0 c h a) ω O := PSs.sub (pss_cons hA (pss_cons (ps_for hp hcalm hI1 hg1 PSs.any hs1) hr)) fun D σ H hyp => by
  obtain ⟨R, G, regs, e, kn⟩ := hyp
  have l0 := hc.len0
  have l8 := hc.len8
  refine ⟨G, e.gh, e.still, fun vs0 H1 G1 g1 d1 => ⟨by rw [d1.1, sizeLine_eq]; show 1 ≤ 16777216; decide, fun p hpn => ?_⟩⟩
  have e1 := e.grow g1
  have eA : EnvR R (upd H1 p (.lst vs0)) G1 (σ.set 3 (some (.ref p))) (δ0 c h a) ω regs := EnvR.forget (i := 3) (e1.junk (same_new hpn))
  have len9 : σ.length = 9 := e.len
  have rp : R p = none := same_none e1.rh hpn
  have gp : G1 p = none := same_none e1.gh hpn
  have op : p ∉ regs.flatten := fun hm => e1.held p hm hpn
  refine ⟨G1, eA.gh, eA.still, fun J H2 G2 g2 w => ?_⟩
  have e2 := eA.grow g2
  have hp2 : H2 p = some (.lst vs0) := g2.hh p _ upd_same
  have gp2 : G2 p = none := g2.new p gp (by rw [upd_same]; exact fun z => by cases z)
  refine for_it (D := { D with nx := tXs E [some (.sh (dI c)), some (.sh (dI h)), some (.sh (.int a)), some (.sh (.lst (dicsD c h a c.length))), none, none, none, none, none] ω O D }) (g := gT X.K (.one 4)) (tb := fun D σ H => ∃ t, PSs X [stF, .For tgl lx [.For tgn nx [stP] [] p3] [] p2, stQ] t ∧ t D σ H) w
    (fun i σ' H' => ∃ G3 vs, Same G2 G3 ∧ EnvR R H' G3 σ' (δ0 c h a) ω regs ∧ σ'[3]? = some (some (.ref p)) ∧ H' p = some (.lst vs) ∧ DenL G3 vs (dicsD c h a (i + 1)) ∧ G3 p = none) ⟨G2, vs0, .refl _, e2, List.getElem?_set_self (by omega), hp2, d1.mono g2.gg, gp2⟩ ?_ ?_ ?_
  · rintro i σ' H' _ ⟨G3, vs, s, e3, _⟩
    exact s.trans e3.gh
  · rintro i x σ' H' H3 hi ⟨G3, vs, s, e3, s3, hpv, dl, gp3⟩ hy
    rw [List.length_map, rngD_len] at hi
    obtain ⟨G4, d, ed, gr, dx⟩ := hy G3 s e3.gh
    rw [List.getElem?_map, rngD_get hi] at ed
    cases ed
    rw [dx.int_inv]
    have e4 := e3.grow gr
    have gp4 : G4 p = none := gr.new p gp3 (by rw [hpv]; exact fun z => by cases z)
    have hp4 : H3 p = some (.lst vs) := gr.hh p _ hpv
    have e5 : EnvR R H3 G4 (σ'.set 4 (some (.int (i : Nat)))) (δk c h a i) ω regs := EnvR.set (i := 4) (x := .sh (.int (i : Nat))) e4 (fun d' h => by cases h; exact .int _) trivial
    refine ⟨_, pss_cons hF (pss_cons (lefts_left (ω := ω) hc hh ha hp hcalm (i := i) (by omega) hI2 hg2 hs2 (fun l hl => hI i l (by omega) hl) hg (fun l x hl hx => hP i l x (by omega) hl hx) hs) (pss_cons hQ (pss_frz pss_nil))), fun q hqn => ?_⟩
    have rq : R q = none := same_none e5.rh hqn
    have gq : G4 q = none := same_none e5.gh hqn
    have oq : q ∉ regs.flatten := fun hm => e5.held q hm hqn
    have ne : p ≠ q := fun z => by rw [z, hqn] at hp4; cases hp4
    have eF : EnvR R (upd H3 q (.dK [])) G4 ((σ'.set 4 (some (.int (i : Nat)))).set 5 (some (.ref q))) (δk c h a i) ω regs := EnvR.forget (i := 5) (e5.junk (same_new hqn))
    have len9 : σ'.length = 9 := e3.len
    have st : LSt R (fun _ => none) (upd H3 q (.dK [])) G4 ((σ'.set 4 (some (.int (i : Nat)))).set 5 (some (.ref q))) (δk c h a i) ω regs p q vs [] :=
      ⟨eF, fun b o hb => (by cases hb), by rw [List.getElem?_set_ne (by decide), List.getElem?_set_ne (by decide)]; exact s3, List.getElem?_set_self (by rw [List.length_set]; omega), by rw [upd_ne ne]; exact hp4, upd_same, gp4, gq⟩
    have dl4 := dl.mono gr.gg
    refine ⟨R, fun _ => none, G4, regs, p, q, vs, dicsD c h a i, ⟨rp, rq, rfl, op, oq, ne⟩, st, by rw [← dicsD_succ]; exact dl4, fun σ6 H6 G6 s6 st6 => ?_⟩
    refine ⟨p, vs, .ref q, st6.s3, st6.s5, st6.hp, by rw [dl4.1]; unfold dicsD; rw [List.length_map, List.length_range, sizeLine_eq]; omega, ?_⟩
    refine ⟨q, .dK (kvT (leftsAt c h a (i + 1))), by rw [upd_ne ne.symm]; exact st6.hq, trivial, fun od => ?_⟩
    have eP : EnvR R (upd H6 p (.lst (vs ++ [.ref q]))) G6 σ6 (δk c h a i) ω regs := st6.e.alien rp st6.gp op
    have eQ : EnvR R (upd (upd H6 p (.lst (vs ++ [.ref q]))) q (.frz od (.dK (kvT (leftsAt c h a (i + 1)))))) G6 σ6 (δk c h a i) ω regs := eP.alien rq st6.gq oq
    have eU := eQ.pub rq st6.gq oq upd_same
    have sU : Same G6 (upd G6 q (.frz od (.dK (kvT (leftsAt c h a (i + 1)))))) := same_new st6.gq
    refine ⟨_, vs ++ [.ref q], ((s.trans gr.gg).trans s6).trans sU, eU.less (by repeat (first | exact LessS.nil | apply LessS.keep | apply LessS.drop)), st6.s3, by rw [upd_ne ne, upd_same], ?_, by rw [upd_ne ne]; exact st6.gp⟩
    rw [dicsD_succ]
    exact (dl4.mono (s6.trans sU)).append (.cons (den_T upd_same) .nil)
  · rintro σ' H' ⟨G3, vs, s, e3, s3, hpv, dl, gp3⟩
    rw [List.length_map, rngD_len] at dl
    have ej : c.length - 1 + 1 = c.length := by omega
    rw [ej] at dl
    have eU := e3.pub rp gp3 op hpv
    have sU : Same G3 (upd G3 p (.lst vs)) := same_new gp3
    have dU := dl.mono sU
    have eK := eU.know (i := 3) s3 (d := .lst (dicsD c h a c.length)) (.lst upd_same dU.1 dU.2)
    exact ⟨R, _, regs, eK, kn.mono (((g1.gg.trans g2.gg).trans s).trans sU) (.refl _)⟩
end
end Pa
namespace Pa
open PySem PySem.Spec PyProof.Rows L2
def grNums (c h : List Int) (a : Int) : Nat → List Int
  | 0 => []
  | i + 1 => grNums c h a i ++ [min (h.getD (c.length - 1 - i) 0) (grLeft c h a i / c.getD (c.length - 1 - i) 0)]
theorem grNums_len {c h : List Int} {a : Int} : ∀ i, (grNums c h a i).length = i
  | 0 => rfl
  | i + 1 => by
    show (grNums c h a i ++ [_]).length = _
    rw [List.length_append, grNums_len i]
    rfl
theorem zip_rev {c h : List Int} (hl : h.length = c.length) {j : Nat} (hj : j < c.length) : (zipD (c.map Dt.int).reverse (h.map Dt.int).reverse)[j]? = some (.tup [.int (c.getD (c.length - 1 - j) 0), .int (h.getD (c.length - 1 - j) 0)]) := by
  have h1 : (c.map Dt.int).reverse[j]? = some (.int (c.getD (c.length - 1 - j) 0)) := by
    rw [rev_get (by rw [List.length_map]; exact hj), List.length_map, List.getElem?_map, getD_some (d := 0) (by omega)]
    rfl
  have h2 : (h.map Dt.int).reverse[j]? = some (.int (h.getD (c.length - 1 - j) 0)) := by
    rw [rev_get (by rw [List.length_map]; omega), List.length_map, hl, List.getElem?_map, getD_some (d := 0) (by omega)]
    rfl
  have h3 : ((c.map Dt.int).reverse.zip (h.map Dt.int).reverse)[j]? = some (.int (c.getD (c.length - 1 - j) 0), .int (h.getD (c.length - 1 - j) 0)) := List.getElem?_zip_eq_some.mpr ⟨h1, h2⟩
  unfold zipD
  rw [List.getElem?_map, h3]
  rfl
section
variable {P : Program} {w : World} {K : PySem.W.Frag} {mg : Str → Option Value} {base : Heap} (Z : Txt K mg)
include Z
theorem d_is_amount : Df P w K mg base CX0 3 "is_amount" 1 (fun ds r => ∃ i : Int, 0 ≤ i ∧ i ≤ 1000000000 ∧ ds = [.int i] ∧ r = .ok (.bl true)) :=
  Df.mk' Z.f_is_amount sc_is_amount (fun _ _ _ _ _ _ us hl => match us, hl with | [_], _ => rfl) fun f cdv A outer s H E ds r hr hn hR => by
    obtain ⟨i, h0, h1, rfl, rfl⟩ := hR
    exact ⟨.rt _, rfl, xb_stop (xs_ret (xe_call (d_is_from_to Z) pass0 hr (xa_cons (xe_var 0) (xa_cons xe_int (xa_cons (xe_glob Z.c_MOST_AMOUNT) xa_nil))) ⟨_, _, _, rfl, rfl, by rw [isFT_of ⟨h0, h1⟩]⟩)) trivial⟩
theorem d_check_amount : Df P w K mg base CX0 4 "check_amount" 1 (fun ds r => ∃ i : Int, 0 ≤ i ∧ i ≤ 1000000000 ∧ ds = [.int i] ∧ r = .ok .non) :=
  Df.mk' Z.f_check_amount sc_check_amount (fun _ _ _ _ _ _ us hl => match us, hl with | [_], _ => rfl) fun f cdv A outer s H E ds r hr hn hR => by
    obtain ⟨i, h0, h1, rfl, rfl⟩ := hR
    exact ⟨.nx _ _, rfl, xb_cons (xs_if (c := false) (xt_not (xt_val (c := true) (xe_call (d_is_amount Z) pass0 hr (xa_cons (xe_var 0) xa_nil) ⟨i, h0, h1, rfl, rfl⟩))) (fun h => by cases h) (fun _ => xb_nil)) xb_nil⟩
theorem d_are_any_counts : Df P w K mg base CX0 2 "are_any_counts" 2 (fun ds r => ∃ c h, Chn c ∧ Hep c h ∧ ds = [dI c, dI h] ∧ r = .ok (.bl true)) :=
  Df.mk' Z.f_are_any_counts sc_are_any_counts (fun _ _ _ _ _ _ us hl => match us, hl with | [_, _], _ => rfl) fun f cdv A outer s H E ds r hr hn hR => by
    obtain ⟨c, h, hc, hh, rfl, rfl⟩ := hR
    have nd := sc_are_any_counts.nd
    have l8 := hc.len8
    have hl := hh.len
    have ea : (h.map fun _ => true).all id = true := all_map fun _ _ => rfl
    have eb : (h.map fun _ => true).map Dt.bl = h.map fun _ => Dt.bl true := by rw [List.map_map]; rfl
    refine ⟨.rt _, rfl, xb_cons (xs_if (c := false) (xt_bool (xw_or (c := false) (xt_not (xt_val (c := true) (xe_isi (xe_var 1) Z.b_isinstance Z.b_list boot_list (kit_isL (dI h))))) (fun _ => xw_or1 (xt_cmp (opE o_neI (neI_same (i := (h.length : Int)) (j := (c.length : Int)) (by rw [hh.len]))) (xe_callB c_lenI Z.b_len boot_len (xa_cons (xe_var 1) xa_nil)) (xe_callB c_lenI Z.b_len boot_len (xa_cons (xe_var 0) xa_nil)))) (fun h => by cases h))) (fun h => by cases h) (fun _ => xb_nil))
      (xb_stop (xs_ret (xeE (xe_callB (c_all (bs := h.map fun _ => true)) Z.b_all boot_all (xa_cons (xe_lc (es := (h.map fun _ => true).map Dt.bl) [("count", 2)] (.one 2) nd (xi_list (xe_var 1)) ?_ (by rw [List.length_map]; omega) (fun _ _ _ _ _ => xg_one nd)) xa_nil)) (by rw [ea]))) trivial)⟩
    rw [eb]
    refine comp_map (g := Dt.int) (h := fun _ => Dt.bl true) (dl := fun n => [some (dI c), some (dI h), some (.int n)]) h fun n hn => ⟨rfl, fun s H C cl fp => ⟨xts_nil, xe_and (c := true) (xe_call (d_is_whole Z) pass0 hr (xa_cons (xe_var 2) xa_nil) ⟨.int n, rfl, rfl, rfl⟩) (fun _ => xe_one (xeE (xe_cmp o_ge (xe_var 2) xe_int) (by rw [decide_eq_true (hh.rg n hn).1]))) (fun h => by cases h)⟩⟩
theorem d_plain_of : Df P w K mg base CX0 1 "plain_of" 2 (fun ds r => ∃ c h, Chn c ∧ Hep c h ∧ ds = [dI c, dI h] ∧ r = .ok (dI (plainAt c h (c.length - 1)))) :=
  Df.mk' Z.f_plain_of sc_plain_of (fun _ _ _ _ _ _ us hl => match us, hl with | [_, _], _ => rfl) fun f cdv A outer s H E ds r hr hn hR => by
    obtain ⟨c, h, hc, hh, rfl, rfl⟩ := hR
    have nd := sc_plain_of.nd
    have l0 := hc.len0
    have l8 := hc.len8
    have hl := hh.len
    refine ⟨.rt _, rfl, xb_cons (xs_new (i := 2) nd (xn_list Z.b_list (xe_var 1)))
      (xb_cons (xs_for (.one 3) (passes_of rfl) (xi_range1 Z.b_range (xa_cons (xe_op o_sub (xe_callB c_lenI Z.b_len boot_len (xa_cons (xe_var 0) xa_nil)) xe_int) xa_nil) (by omega) (by omega)) (xg_one nd)
        (LoopS.runI (c.length - 1) (fun _ => [some (.sh (dI c)), some (.sh (dI h)), some (.at_ 0), none, none]) (fun j => [.nums (plainAt c h j)]) (by omega) rfl rfl fun j hj => ?_))
      (xb_stop (xs_ret (xe_var 2)) trivial))⟩
    have pl := plainAt_len (c := c) (h := h) j
    have est : plainAt c h (j + 1) = ((plainAt c h j).set (j + 1) ((plainAt c h j).getD (j + 1) 0 + (plainAt c h j).getD j 0 / (c.getD (j + 1) 0 / c.getD j 0))).set j ((plainAt c h j).getD j 0 % (c.getD (j + 1) 0 / c.getD j 0)) := rfl
    rw [est]
    generalize plainAt c h j = f at *
    have ej : ((j : Int) + 1).toNat = j + 1 := by omega
    have ej0 : ((j : Nat) : Int).toNat = j := by omega
    have hc1 := hc.getD (k := j) (by omega)
    have hc2 := hc.getD (k := j + 1) (by omega)
    obtain ⟨s2, s3⟩ := hc.step (k := j) (by omega)
    have smax : c.getD (j + 1) 0 / c.getD j 0 ≤ 1000000 := by
      have := Int.ediv_le_self (a := c.getD (j + 1) 0) (c.getD j 0) (by omega)
      omega
    generalize hst : c.getD (j + 1) 0 / c.getD j 0 = st at *
    refine ⟨_, _, rfl, xb_cons (xs_flat (i := 4) (d := .int st) nd (xeE (xe_op (o_div ⟨by omega, by omega⟩) (xe_ix (i_intE (ns := c) (v := c.getD (j + 1) 0) (k := (j : Int) + 1) (by omega) (by omega) (by rw [ej])) (xe_var 0) (xe_op o_add (xe_var 3) xe_int)) (xe_ix (i_intE (ns := c) (v := c.getD j 0) (k := (j : Nat)) (by omega) (by omega) (by rw [ej0])) (xe_var 0) (xe_var 3))) (by rw [hst])))
      (xb_cons (xs_augix (v := f.getD j 0 / st) ip_add (y := .at_ 0) (j := (j : Int) + 1) (ns := f) (xr_var 2) rfl (xe_op o_add (xe_var 3) xe_int) (by omega) (by omega) (by omega) (xe_op (o_div ⟨by omega, by omega⟩) (xe_ix (i_intE (ns := f) (v := f.getD j 0) (k := (j : Nat)) (by omega) (by omega) (by rw [ej0])) (xe_var 2) (xe_var 3)) (xe_var 4)))
      (xb_cons (xs_setix (v := f.getD j 0 % st) (y := .at_ 0) (j := (j : Nat)) (ns := f.set (j + 1) (f.getD (j + 1) 0 + f.getD j 0 / st)) (xr_var 2) ?_ (xe_var 3) (by omega) (by rw [List.length_set]; omega) (xe_op (o_mod (by omega)) (xe_ix (i_intE (ns := f.set (j + 1) (f.getD (j + 1) 0 + f.getD j 0 / st)) (v := f.getD j 0) (k := (j : Nat)) (by omega) (by rw [List.length_set]; omega) (by rw [ej0, getD_set_ne (by omega)])) (xe_var 2 (hd := ?_)) (xe_var 3)) (xe_var 4))) xb_nil)), (by repeat (first | exact LessS.nil | apply LessS.keep | apply LessS.drop))⟩
    · rw [ej]
      rfl
    · rw [ej]
      rfl
theorem d_check_counts_exchange : Df P w K mg base CX0 3 "check_counts_exchange" 2 (fun ds r => ∃ c h, Chn c ∧ Hep c h ∧ ds = [dI c, dI h] ∧ r = .ok .non) :=
  Df.mk' Z.f_check_counts_exchange sc_check_counts_exchange (fun _ _ _ _ _ _ us hl => match us, hl with | [_, _], _ => rfl) fun f cdv A outer s H E ds r hr hn hR => by
    obtain ⟨c, h, hc, hh, rfl, rfl⟩ := hR
    exact ⟨.nx _ _, rfl, xb_cons (xs_if (c := false) (xt_not (xt_val (c := true) (xe_call (d_are_any_counts Z) pass0 hr (xa_cons (xe_var 0) (xa_cons (xe_var 1) xa_nil)) ⟨c, h, hc, hh, rfl, rfl⟩))) (fun h => by cases h) (fun _ => xb_nil)) xb_nil⟩
theorem d_check_one : Df P w K mg base CX0 5 "check_one" 2 (fun ds r => ∃ c h, Chn c ∧ Hep c h ∧ ds = [dI c, dI h] ∧ r = .ok .non) :=
  Df.mk' Z.f_check_one sc_check_one (fun _ _ _ _ _ _ us hl => match us, hl with | [_, _], _ => rfl) fun f cdv A outer s H E ds r hr hn hR => by
    obtain ⟨c, h, hc, hh, rfl, rfl⟩ := hR
    exact ⟨.nx _ _, rfl, xb_cons (xs_expr (xe_call (d_check_chain Z) pass0 hr (xa_cons (xe_var 0) xa_nil) ⟨c, hc, rfl, rfl⟩)) (xb_cons (xs_expr (xe_call (d_check_counts_exchange Z) pass0 (hr.mono (by decide)) (xa_cons (xe_var 0) (xa_cons (xe_var 1) xa_nil)) ⟨c, h, hc, hh, rfl, rfl⟩)) xb_nil)⟩
theorem d_plain_form : Df P w K mg base CX0 6 "plain_form" 2 (fun ds r => ∃ c h, Chn c ∧ Hep c h ∧ ds = [dI c, dI h] ∧ r = .ok (dI (plainAt c h (c.length - 1)))) :=
  Df.mk' Z.f_plain_form sc_plain_form (fun _ _ _ _ _ _ us hl => match us, hl with | [_, _], _ => rfl) fun f cdv A outer s H E ds r hr hn hR => by
    obtain ⟨c, h, hc, hh, rfl, rfl⟩ := hR
    exact ⟨.rt _, rfl, xb_cons (xs_expr (xe_call (d_check_one Z) pass0 hr (xa_cons (xe_var 0) (xa_cons (xe_var 1) xa_nil)) ⟨c, h, hc, hh, rfl, rfl⟩)) (xb_stop (xs_ret (xe_call (d_plain_of Z) pass0 (hr.mono (by decide)) (xa_cons (xe_var 0) (xa_cons (xe_var 1) xa_nil)) ⟨c, h, hc, hh, rfl, rfl⟩)) trivial)⟩
theorem d_check_paying : Df P w K mg base CX0 6 "check_paying" 3 (fun ds r => ∃ c h, ∃ a : Int, Chn c ∧ Hep c h ∧ 0 ≤ a ∧ a ≤ 1000000000 ∧ ds = [dI c, dI h, .int a] ∧ r = .ok .non) :=
  Df.mk' Z.f_check_paying sc_check_paying (fun _ _ _ _ _ _ us hl => match us, hl with | [_, _, _], _ => rfl) fun f cdv A outer s H E ds r hr hn hR => by
    obtain ⟨c, h, a, hc, hh, a0, a1, rfl, rfl⟩ := hR
    exact ⟨.nx _ _, rfl, xb_cons (xs_expr (xe_call (d_check_heap Z) pass0 hr (xa_cons (xe_var 0) (xa_cons (xe_var 1) xa_nil)) ⟨c, h, hc, hh, rfl, rfl⟩)) (xb_cons (xs_expr (xe_call (d_check_amount Z) pass0 (hr.mono (by decide)) (xa_cons (xe_var 2) xa_nil) ⟨a, a0, a1, rfl, rfl⟩)) xb_nil)⟩
theorem d_greedy : Df P w K mg base CX0 1 "greedy" 3 (fun ds r => ∃ c h, ∃ a : Int, Chn c ∧ Hep c h ∧ 0 ≤ a ∧ a ≤ 1000000000 ∧ ds = [dI c, dI h, .int a] ∧ r = .ok (.tup [dI (grNums c h a c.length).reverse, .int (grLeft c h a c.length)])) :=
  Df.mk' Z.f_greedy sc_greedy (fun _ _ _ _ _ _ us hl => match us, hl with | [_, _, _], _ => rfl) fun f cdv A outer s H E ds r hr hn hR => by
    obtain ⟨c, h, a, hc, hh, a0, a1, rfl, rfl⟩ := hR
    have nd := sc_greedy.nd
    have l8 := hc.len8
    have hl := hh.len
    have er : dI (grNums c h a c.length).reverse = .lst ((grNums c h a c.length).map Dt.int).reverse := by rw [← List.map_reverse]
    rw [er]
    refine ⟨.rt _, rfl, xb_cons (xs_new (i := 3) (c := .nums []) nd (xn_lst xa_nil))
      (xb_cons (xs_for (.two 4 5) (passes_of rfl) (xi_zipR Z.b_zip Z.b_reversed (xe_var 0) (xe_var 1)) (xg_two nd)
        (LoopS.runN c.length (fun j => [some (.sh (dI c)), some (.sh (dI h)), some (.sh (.int (grLeft c h a j))), some (.at_ 0), none, none, none]) (fun j => [.nums (grNums c h a j)]) (by unfold zipD; rw [List.length_map, List.length_zip, List.length_reverse, List.length_reverse, List.length_map, List.length_map]; omega) rfl rfl fun j d hd hj => ?_))
      (xb_stop (xs_ret (xe_tup (xa_cons (xe_rev (xe_var 3)) (xa_cons (xe_var 2) xa_nil)))) trivial))⟩
    rw [zip_rev hl hj] at hd
    cases hd
    have gl := grNums_len (c := c) (h := h) (a := a) j
    have e1 : grNums c h a (j + 1) = grNums c h a j ++ [min (h.getD (c.length - 1 - j) 0) (grLeft c h a j / c.getD (c.length - 1 - j) 0)] := rfl
    have e2 : grLeft c h a (j + 1) = grLeft c h a j - min (h.getD (c.length - 1 - j) 0) (grLeft c h a j / c.getD (c.length - 1 - j) 0) * c.getD (c.length - 1 - j) 0 := rfl
    have hv := hc.getD (k := c.length - 1 - j) (by omega)
    rw [e1, e2]
    generalize c.getD (c.length - 1 - j) 0 = v at *
    generalize h.getD (c.length - 1 - j) 0 = n at *
    generalize grLeft c h a j = l at *
    generalize grNums c h a j = ns at *
    exact ⟨_, _, rfl, xb_cons (xs_flat (i := 6) (d := .int (min n (l / v))) nd (xe_callB c_min2 Z.b_min boot_min (xa_cons (xe_var 5) (xa_cons (xe_op (o_div ⟨by omega, by omega⟩) (xe_var 2) (xe_var 4)) xa_nil))))
      (xb_cons (xs_append (y := .at_ 0) (ns := ns) (v := min n (l / v)) (xr_var 3) rfl (xe_var 6) (by omega))
      (xb_cons (xs_aug (i := 2) (n := l) (m := min n (l / v) * v) ip_sub nd (xe_op (o_mul (i := min n (l / v)) (j := v) (.inr ⟨by omega, by omega⟩)) (xe_var 6) (xe_var 4))) xb_nil)), (by repeat (first | exact LessS.nil | apply LessS.keep | apply LessS.drop))⟩
theorem d_paid : Df P w K mg base CX0 2 "paid" 3 (fun ds r => ∃ c h, ∃ a : Int, Chn c ∧ Hep c h ∧ 0 ≤ a ∧ a ≤ 1000000000 ∧ grLeft c h a c.length = 0 ∧ ds = [dI c, dI h, .int a] ∧ r = .ok (dI (grNums c h a c.length).reverse)) :=
  Df.mk' Z.f_paid sc_paid (fun _ _ _ _ _ _ us hl => match us, hl with | [_, _, _], _ => rfl) fun f cdv A outer s H E ds r hr hn hR => by
    obtain ⟨c, h, a, hc, hh, a0, a1, h0, rfl, rfl⟩ := hR
    have nd := sc_paid.nd
    exact ⟨.rt _, rfl, xb_cons (xs_two (i := 3) (j := 4) (xe_call (d_greedy Z) pass0 hr (xa_cons (xe_var 0) (xa_cons (xe_var 1) (xa_cons (xe_var 2) xa_nil))) ⟨c, h, a, hc, hh, a0, a1, rfl, rfl⟩) (xg_two nd))
      (xb_stop (xs_ret (xe_if (c := true) (xt_cmp (opE o_eqI (decide_eq_true h0)) (xe_var 4) xe_int) (fun _ => xe_var 3) (fun h => by cases h))) trivial)⟩
theorem d_first_payment : Df P w K mg base CX0 7 "first_payment" 3 (fun ds r => ∃ c h, ∃ a : Int, Chn c ∧ Hep c h ∧ 0 ≤ a ∧ a ≤ 1000000000 ∧ grLeft c h a c.length = 0 ∧ ds = [dI c, dI h, .int a] ∧ r = .ok (dI (grNums c h a c.length).reverse)) :=
  Df.mk' Z.f_first_payment sc_first_payment (fun _ _ _ _ _ _ us hl => match us, hl with | [_, _, _], _ => rfl) fun f cdv A outer s H E ds r hr hn hR => by
    obtain ⟨c, h, a, hc, hh, a0, a1, h0, rfl, rfl⟩ := hR
    exact ⟨.rt _, rfl, xb_cons (xs_expr (xe_call (d_check_paying Z) pass0 hr (xa_cons (xe_var 0) (xa_cons (xe_var 1) (xa_cons (xe_var 2) xa_nil))) ⟨c, h, a, hc, hh, a0, a1, rfl, rfl⟩)) (xb_stop (xs_ret (xe_call (d_paid Z) pass0 (hr.mono (by decide)) (xa_cons (xe_var 0) (xa_cons (xe_var 1) (xa_cons (xe_var 2) xa_nil))) ⟨c, h, a, hc, hh, a0, a1, h0, rfl, rfl⟩)) trivial)⟩
theorem d_can_pay : Df P w K mg base CX0 8 "can_pay" 3 (fun ds r => ∃ c h, ∃ a : Int, Chn c ∧ Hep c h ∧ 0 ≤ a ∧ a ≤ 1000000000 ∧ grLeft c h a c.length = 0 ∧ ds = [dI c, dI h, .int a] ∧ r = .ok (.bl true)) :=
  Df.mk' Z.f_can_pay sc_can_pay (fun _ _ _ _ _ _ us hl => match us, hl with | [_, _, _], _ => rfl) fun f cdv A outer s H E ds r hr hn hR => by
    obtain ⟨c, h, a, hc, hh, a0, a1, h0, rfl, rfl⟩ := hR
    exact ⟨.rt _, rfl, xb_stop (xs_ret (xe_cmp (o_notN (d := dI (grNums c h a c.length).reverse)) (xe_call (d_first_payment Z) pass0 hr (xa_cons (xe_var 0) (xa_cons (xe_var 1) (xa_cons (xe_var 2) xa_nil))) ⟨c, h, a, hc, hh, a0, a1, h0, rfl, rfl⟩) xe_non)) trivial⟩
end
end Pa
namespace Pa
open PySem PySem.Spec PyProof.Rows L2
theorem rgC_up {lo hi st : Int} (h0 : 0 ≤ lo) (h1 : lo ≤ 1000000) (h2 : 0 ≤ hi) (h3 : hi ≤ 1000000) (h4 : 1 ≤ st) (h5 : st ≤ 1000000) : RgC lo hi st ((hi - 1 - lo) / st + 1).toNat := by
  have hn : Builtin.Range.rangeSize lo hi st = (((hi - 1 - lo) / st + 1).toNat : Int) := by
    unfold Builtin.Range.rangeSize
    rw [if_pos (show st > 0 by omega)]
    by_cases h : lo < hi
    · have e : hi - lo - 1 = hi - 1 - lo := by omega
      have := Int.ediv_nonneg (a := hi - 1 - lo) (b := st) (by omega) (by omega)
      rw [if_pos h, e]
      omega
    · have := (Int.ediv_lt_iff_lt_mul (a := hi - 1 - lo) (b := 0) (c := st) (by omega)).mpr (by omega)
      rw [if_neg h]
      omega
  have hb : ((hi - 1 - lo) / st + 1).toNat ≤ 1000001 := by
    by_cases h : 0 ≤ hi - 1 - lo
    · have := Int.ediv_le_self (a := hi - 1 - lo) st h
      omega
    · have := (Int.ediv_lt_iff_lt_mul (a := hi - 1 - lo) (b := 0) (c := st) (by omega)).mpr (by omega)
      omega
  refine ⟨by omega, by omega, ?_, hn⟩
  unfold Builtin.Range.small
  rw [hn]
  generalize ((hi - 1 - lo) / st + 1).toNat = n at *
  have f : ∀ x : Int, -(2 ^ 63) ≤ x → x < 2 ^ 63 → Builtin.Range.rangeFitsLong x = true := fun x a b => by
    unfold Builtin.Range.rangeFitsLong
    rw [decide_eq_true a, decide_eq_true b]
    rfl
  rw [f lo (by omega) (by omega), f hi (by omega) (by omega), f st (by omega) (by omega), f (n : Int) (by omega) (by omega), if_pos (show st > 0 by omega), f (hi + (st - 1)) (by omega) (by omega)]
  simp
def tabK (c h : List Int) (a : Int) (k : Nat) : List (Key × Dt) := (keysAt c h a k).map fun l => (Sum.inl l, Dt.tup [.int (wN c h (c.length - k) l), .int (pN c h (c.length - k) l)])
def tabsN (c h : List Int) (a : Int) : Nat → List Dt
  | 0 => [.dic (tabK c h a c.length)]
  | j + 1 => .dic (tabK c h a (c.length - (j + 1))) :: tabsN c h a j
theorem tabs_get {c h : List Int} {a : Int} : ∀ j i, i ≤ j → j ≤ c.length → (tabsN c h a j)[i]? = some (.dic (tabK c h a (c.length - j + i)))
  | 0, i, h1, h2 => by
    have : i = 0 := by omega
    subst this
    rfl
  | j + 1, 0, h1, h2 => rfl
  | j + 1, i + 1, h1, h2 => by
    show (tabsN c h a j)[i]? = _
    rw [tabs_get j i (by omega) (by omega)]
    have : c.length - j + i = c.length - (j + 1) + (i + 1) := by omega
    rw [this]
theorem tabs_at {c h : List Int} {a : Int} {k : Nat} (hk : k ≤ c.length) : (tabsN c h a c.length)[k]? = some (.dic (tabK c h a k)) := by
  rw [tabs_get c.length k hk (Nat.le_refl _), Nat.sub_self, Nat.zero_add]
theorem tabs_len {c h : List Int} {a : Int} : ∀ j, (tabsN c h a j).length = j + 1
  | 0 => rfl
  | j + 1 => congrArg Nat.succ (tabs_len j)
theorem look_T {ks : List Int} {f : Int → Dt} {x : Int} (hx : x ∈ ks) : lookD (ks.map fun l => ((Sum.inl l : Key), f l)) (.inl x) = some (f x) := by
  induction ks with
  | nil => cases hx
  | cons y ks ih =>
    by_cases e : y = x
    · subst e
      simp [lookD, List.find?_cons]
    · have h1 : x ∈ ks := (List.mem_cons.mp hx).resolve_left (Ne.symm e)
      have := ih h1
      have e2 : lookD ((y :: ks).map fun l => ((Sum.inl l : Key), f l)) (.inl x) = lookD (ks.map fun l => ((Sum.inl l : Key), f l)) (.inl x) := by
        have e3 : ¬ ((Sum.inl y : Key) = Sum.inl x) := fun z => e (Sum.inl.inj z)
        simp [lookD, List.find?_cons, e]
      rw [e2]
      exact this
theorem tab_look {c h : List Int} {a : Int} {k : Nat} {l x : Int} {d : Dt} (hc : Chn c) (hh : Hep c h) (ha : 0 ≤ a) (hk : k < c.length) (hl : l ∈ keysAt c h a k) (hx : x ∈ nAt c h k l) : (lookD (tabK c h a (k + 1)) (.inl (l - x * c.getD k 0))).getD d = .tup [.int (wN c h (c.length - (k + 1)) (l - x * c.getD k 0)), .int (pN c h (c.length - (k + 1)) (l - x * c.getD k 0))] := by
  unfold tabK
  rw [look_T (f := fun l => Dt.tup [.int (wN c h (c.length - (k + 1)) l), .int (pN c h (c.length - (k + 1)) l)]) (keys_next hc hh ha hk hl hx)]
  rfl
theorem tab_last {c h : List Int} {a : Int} : tabK c h a c.length = [(Sum.inl 0, Dt.tup [.int 1, .int 0])] := by
  unfold tabK keysAt
  rw [if_pos rfl, Nat.sub_self]
  rfl
theorem xiE {X : Cx} {tg e : Expr} {δ : Sl} {ds es : List Dt} (h : Xi X tg e δ ds) (q : ds = es) : Xi X tg e δ es := q ▸ h
theorem at_end {α : Type} {xs : List α} {x : α} : atI (xs ++ [x]) (-1) = some x := by
  unfold L2.atI
  have e : ixN (xs ++ [x]).length (-1) = some xs.length := by
    unfold ixN
    rw [List.length_append, if_neg (by decide)]
    show (if -(((xs.length + 1 : Nat)) : Int) ≤ -1 then _ else _) = _
    rw [if_pos (by omega)]
    congr 1
    show ((((xs.length + 1 : Nat)) : Int) + -1).toNat = _
    omega
  rw [e]
  show (xs ++ [x])[xs.length]? = some x
  rw [List.getElem?_append_right (Nat.le_refl _), Nat.sub_self]
  rfl
section
variable {P : Program} {w : World} {K : PySem.W.Frag} {mg : Str → Option Value} {base : Heap} (Z : Txt K mg)
include Z
theorem d_numbers_at : Df P w K mg base CX0 1 "numbers_at" 4 (fun ds r => ∃ c h, ∃ k : Nat, ∃ l : Int, Chn c ∧ Hep c h ∧ k < c.length ∧ 0 ≤ l ∧ ds = [dI c, dI h, .int k, .int l] ∧ r = .ok (dI (nAt c h k l))) :=
  Df.mk' Z.f_numbers_at sc_numbers_at (fun _ _ _ _ _ _ us hl => match us, hl with | [_, _, _, _], _ => rfl) fun f cdv A outer s H E ds r hr hn hR => by
    obtain ⟨c, h, k, l, hc, hh, hk, l0, rfl, rfl⟩ := hR
    have nd := sc_numbers_at.nd
    have l8 := hc.len8
    have hl := hh.len
    have hv := hc.getD hk
    have hg := hh.rg _ (getD_mem (d := 0) (j := k) (by omega))
    have ek : ((k : Nat) : Int).toNat = k := by omega
    have ek1 : ((k : Int) + 1).toNat = k + 1 := by omega
    have hq := Int.ediv_nonneg l0 (show 0 ≤ c.getD k 0 by omega)
    unfold nAt
    refine ⟨.rt _, rfl, xb_cons (xs_flat (i := 4) (d := .int (c.getD k 0)) nd (xe_ix (i_intE (ns := c) (v := c.getD k 0) (k := (k : Nat)) (by omega) (by omega) (by rw [ek])) (xe_var 0) (xe_var 2))) ?_⟩
    by_cases h0 : 0 < l % c.getD k 0
    · rw [if_pos h0]
      exact xb_stop (xs_if (c := true) (xt_cmp (opE (o_gt (i := l % c.getD k 0) (j := 0)) (decide_eq_true h0)) (xe_op (o_mod (by omega)) (xe_var 3) (xe_var 4)) xe_int) (fun _ => xb_stop (xs_ret (xe_lst xa_nil)) trivial) (fun h => by cases h)) trivial
    · rw [if_neg h0]
      refine xb_cons (xs_if (c := false) (xt_cmp (opE (o_gt (i := l % c.getD k 0) (j := 0)) (decide_eq_false h0)) (xe_op (o_mod (by omega)) (xe_var 3) (xe_var 4)) xe_int) (fun h => by cases h) (fun _ => xb_nil)) (xb_cons (xs_flat (i := 5) (d := .int (min (h.getD k 0) (l / c.getD k 0))) nd (xe_callB c_min2 Z.b_min boot_min (xa_cons (xe_ix (i_intE (ns := h) (v := h.getD k 0) (k := (k : Nat)) (by omega) (by omega) (by rw [ek])) (xe_var 1) (xe_var 2)) (xa_cons (xe_op (o_div ⟨by omega, by omega⟩) (xe_var 3) (xe_var 4)) xa_nil)))) ?_)
      by_cases hk2 : k = c.length - 1
      · rw [if_pos hk2]
        refine xb_stop (xs_if (c := true) (xt_cmp (opE (o_eqI (i := (k : Int)) (j := (c.length : Int) - 1)) (decide_eq_true (by omega))) (xe_var 2) (xe_op o_sub (xe_callB c_lenI Z.b_len boot_len (xa_cons (xe_var 0) xa_nil)) xe_int)) (fun _ => ?_) (fun h => by cases h)) trivial
        by_cases h1 : l / c.getD k 0 = min (h.getD k 0) (l / c.getD k 0)
        · rw [if_pos h1]
          exact xb_stop (xs_ret (xe_if (c := true) (xt_cmp (opE (o_eqI (i := l / c.getD k 0) (j := min (h.getD k 0) (l / c.getD k 0))) (decide_eq_true h1)) (xe_op (o_div ⟨by omega, by omega⟩) (xe_var 3) (xe_var 4)) (xe_var 5)) (fun _ => xe_lst (xa_cons (xe_op (o_div ⟨by omega, by omega⟩) (xe_var 3) (xe_var 4)) xa_nil)) (fun h => by cases h))) trivial
        · rw [if_neg h1]
          exact xb_stop (xs_ret (xe_if (c := false) (xt_cmp (opE (o_eqI (i := l / c.getD k 0) (j := min (h.getD k 0) (l / c.getD k 0))) (decide_eq_false h1)) (xe_op (o_div ⟨by omega, by omega⟩) (xe_var 3) (xe_var 4)) (xe_var 5)) (fun h => by cases h) (fun _ => xe_lst xa_nil))) trivial
      · rw [if_neg hk2]
        obtain ⟨s2, s3⟩ := hc.step (k := k) (by omega)
        have hv2 := hc.getD (k := k + 1) (by omega)
        have smax : c.getD (k + 1) 0 / c.getD k 0 ≤ 1000000 := by
          have := Int.ediv_le_self (a := c.getD (k + 1) 0) (c.getD k 0) (by omega)
          omega
        refine xb_cons (xs_if (c := false) (xt_cmp (opE (o_eqI (i := (k : Int)) (j := (c.length : Int) - 1)) (decide_eq_false (by omega))) (xe_var 2) (xe_op o_sub (xe_callB c_lenI Z.b_len boot_len (xa_cons (xe_var 0) xa_nil)) xe_int)) (fun h => by cases h) (fun _ => xb_nil)) (xb_cons (xs_flat (i := 6) (d := .int (c.getD (k + 1) 0 / c.getD k 0)) nd (xe_op (o_div ⟨by omega, by omega⟩) (xe_ix (i_intE (ns := c) (v := c.getD (k + 1) 0) (k := (k : Int) + 1) (by omega) (by omega) (by rw [ek1])) (xe_var 0) (xe_op o_add (xe_var 2) xe_int)) (xe_var 4))) ?_)
        generalize c.getD (k + 1) 0 / c.getD k 0 = st at *
        generalize hqq : l / c.getD k 0 = q at *
        have m0 := Int.emod_nonneg q (show st ≠ 0 by omega)
        have m1 := Int.emod_lt_of_pos q (show 0 < st by omega)
        have rg := rgC_up (lo := q % st) (hi := min (h.getD k 0) q + 1) (st := st) (by omega) (by omega) (by omega) (by omega) (by omega) (by omega)
        have er : min (h.getD k 0) q + 1 - 1 - q % st = min (h.getD k 0) q - q % st := by omega
        rw [er] at rg
        have hz : ((min (h.getD k 0) q - q % st) / st + 1).toNat ≤ 100000 := by
          by_cases hx : 0 ≤ min (h.getD k 0) q - q % st
          · have := Int.ediv_le_self (a := min (h.getD k 0) q - q % st) st hx
            omega
          · have := (Int.ediv_lt_iff_lt_mul (a := min (h.getD k 0) q - q % st) (b := 0) (c := st) (by omega)).mpr (by omega)
            omega
        exact xb_stop (xs_ret (xe_listRgC Z.b_list Z.b_range (xa_cons (xe_op (o_mod (i := q) (j := st) (by omega)) (xeE (xe_op (o_div (i := l) (j := c.getD k 0) ⟨by omega, by omega⟩) (xe_var 3) (xe_var 4)) (by rw [hqq])) (xe_var 6)) (xa_cons (xe_op o_add (xe_var 5) xe_int) (xa_cons (xe_var 6) xa_nil))) rg hz)) trivial
theorem d_sums_at : Df P w K mg base CX0 2 "sums_at" 5 (fun ds r => ∃ c h, ∃ a : Int, ∃ k : Nat, ∃ l : Int, Chn c ∧ Hep c h ∧ 0 ≤ a ∧ k < c.length ∧ l ∈ keysAt c h a k ∧ ds = [dI c, dI h, .int k, .int l, .dic (tabK c h a (k + 1))] ∧ r = .ok (.tup [.int (wN c h (c.length - k) l), .int (pN c h (c.length - k) l)])) :=
  Df.mk' Z.f_sums_at sc_sums_at (fun _ _ _ _ _ _ us hl => match us, hl with | [_, _, _, _, _], _ => rfl) fun f cdv A outer s H E ds r hr hn hR => by
    obtain ⟨c, h, a, k, l, hc, hh, ha, hk, hl, rfl, rfl⟩ := hR
    have nd := sc_sums_at.nd
    have hu := hr.units
    have l8 := hc.len8
    have hv := hc.getD hk
    have ek : ((k : Nat) : Int).toNat = k := by omega
    have hl2 : l ∈ leftsAt c h a k := by rw [keys_lt hk] at hl; exact hl
    have lok := (lefts_ok hc hh ha k hk).ok l hl2
    have e1 : wN c h (c.length - k) l = S1 (fun i => wN c h (c.length - (k + 1)) (l - (nAt c h k l).getD i 0 * c.getD k 0)) (nAt c h k l).length := by
      have e : c.length - k = (c.length - (k + 1)) + 1 := by omega
      have e' : c.length - ((c.length - (k + 1)) + 1) = k := by omega
      rw [e, wN_succ, e', sum_map_S1 0]
    have e2 : pN c h (c.length - k) l = S1 (fun i => pN c h (c.length - (k + 1)) (l - (nAt c h k l).getD i 0 * c.getD k 0) + (nAt c h k l).getD i 0 * wN c h (c.length - (k + 1)) (l - (nAt c h k l).getD i 0 * c.getD k 0)) (nAt c h k l).length := by
      have e : c.length - k = (c.length - (k + 1)) + 1 := by omega
      have e' : c.length - ((c.length - (k + 1)) + 1) = k := by omega
      rw [e, pN_succ, e', sum_map_S1 0]
    rw [e1, e2]
    refine ⟨.rt _, rfl, xb_cons (xs_flat (i := 5) (d := .int 0) nd xe_int) (xb_cons (xs_flat (i := 6) (d := .int 0) nd xe_int)
      (xb_cons (xs_for (.one 7) (passes_of rfl) (xi_list (xe_call (d_numbers_at Z) pass0 hr (xa_cons (xe_var 0) (xa_cons (xe_var 1) (xa_cons (xe_var 2) (xa_cons (xe_var 3) xa_nil)))) ⟨c, h, k, l, hc, hh, hk, lok.pos, rfl, rfl⟩)) (xg_one nd)
        (LoopS.runN (nAt c h k l).length (fun j => [some (.sh (dI c)), some (.sh (dI h)), some (.sh (.int k)), some (.sh (.int l)), some (.sh (.dic (tabK c h a (k + 1)))), some (.sh (.int (S1 (fun i => wN c h (c.length - (k + 1)) (l - (nAt c h k l).getD i 0 * c.getD k 0)) j))),
          some (.sh (.int (S1 (fun i => pN c h (c.length - (k + 1)) (l - (nAt c h k l).getD i 0 * c.getD k 0) + (nAt c h k l).getD i 0 * wN c h (c.length - (k + 1)) (l - (nAt c h k l).getD i 0 * c.getD k 0)) j))), none, none, none]) (fun _ => []) (List.length_map ..) rfl rfl fun j d hd hj => ?_))
      (xb_stop (xs_ret (xe_tup (xa_cons (xe_var 5) (xa_cons (xe_var 6) xa_nil)))) trivial)))⟩
    rw [List.getElem?_map, getD_some (d := 0) hj] at hd
    cases hd
    have hx := getD_mem (d := 0) hj
    have hxr := nAt_rg hc hh hk lok.pos hx
    have hg := hh.rg _ (getD_mem (d := 0) (j := k) (by rw [hh.len]; exact hk))
    have tl := tab_look (d := .tup [.int 0, .int 0]) hc hh ha hk hl hx
    have s1 : S1 (fun i => wN c h (c.length - (k + 1)) (l - (nAt c h k l).getD i 0 * c.getD k 0)) (j + 1) = S1 (fun i => wN c h (c.length - (k + 1)) (l - (nAt c h k l).getD i 0 * c.getD k 0)) j + wN c h (c.length - (k + 1)) (l - (nAt c h k l).getD j 0 * c.getD k 0) := rfl
    have s2 : S1 (fun i => pN c h (c.length - (k + 1)) (l - (nAt c h k l).getD i 0 * c.getD k 0) + (nAt c h k l).getD i 0 * wN c h (c.length - (k + 1)) (l - (nAt c h k l).getD i 0 * c.getD k 0)) (j + 1) = S1 (fun i => pN c h (c.length - (k + 1)) (l - (nAt c h k l).getD i 0 * c.getD k 0) + (nAt c h k l).getD i 0 * wN c h (c.length - (k + 1)) (l - (nAt c h k l).getD i 0 * c.getD k 0)) j + (pN c h (c.length - (k + 1)) (l - (nAt c h k l).getD j 0 * c.getD k 0) + (nAt c h k l).getD j 0 * wN c h (c.length - (k + 1)) (l - (nAt c h k l).getD j 0 * c.getD k 0)) := rfl
    rw [s1, s2]
    generalize S1 (fun i => wN c h (c.length - (k + 1)) (l - (nAt c h k l).getD i 0 * c.getD k 0)) j = A1 at *
    generalize S1 (fun i => pN c h (c.length - (k + 1)) (l - (nAt c h k l).getD i 0 * c.getD k 0) + (nAt c h k l).getD i 0 * wN c h (c.length - (k + 1)) (l - (nAt c h k l).getD i 0 * c.getD k 0)) j = A2 at *
    generalize (nAt c h k l).getD j 0 = x at *
    generalize wN c h (c.length - (k + 1)) (l - x * c.getD k 0) = wv at *
    generalize pN c h (c.length - (k + 1)) (l - x * c.getD k 0) = pv at *
    exact ⟨_, _, rfl, xb_cons (xs_two (i := 8) (j := 9) (d1 := .int wv) (d2 := .int pv) (xeE (xe_dget (n := l - x * c.getD k 0) (x := .tup [.int 0, .int 0]) (kds := tabK c h a (k + 1)) hu (xe_var 4) (xe_op o_sub (xe_var 3) (xe_op (o_mul (i := x) (j := c.getD k 0) (.inr ⟨by omega, by omega⟩)) (xe_var 7) (xe_ix (i_intE (ns := c) (v := c.getD k 0) (k := (k : Nat)) (by omega) (by omega) (by rw [ek])) (xe_var 0) (xe_var 2)))) (xe_tup (xa_cons xe_int (xa_cons xe_int xa_nil)))) tl) (xg_two nd))
      (xb_cons (xs_aug (i := 5) (n := A1) (m := wv) ip_add nd (xe_var 8))
      (xb_cons (xs_aug (i := 6) (n := A2) (m := pv + x * wv) ip_add nd (xe_op o_add (xe_var 9) (xe_op (o_mul (i := x) (j := wv) (.inl ⟨by omega, by omega⟩)) (xe_var 7) (xe_var 8)))) xb_nil)), (by repeat (first | exact LessS.nil | apply LessS.keep | apply LessS.drop))⟩
end
end Pa
namespace Pa
open PySem PySem.Spec PyProof.Rows L2
theorem lefts_at {c h : List Int} {a : Int} {k : Nat} (hk : k < c.length) : atI (dicsD c h a c.length) (k : Int) = some (dicKT (leftsAt c h a k)) := by
  refine atI_nat ?_
  unfold dicsD
  rw [List.getElem?_map, List.getElem?_range hk]
  rfl
theorem keys_ints (ls : List Int) : (ls.map fun l => ((Sum.inl l : Key), Dt.bl true)).map (fun p => keyD p.1) = ls.map Dt.int := by
  rw [List.map_map]
  rfl
section
variable {P : Program} {w : World} {K : PySem.W.Frag} {mg : Str → Option Value} {base : Heap} (Z : Txt K mg)
include Z
theorem d_known_ways : Df P w K mg base CX0 3 "known_ways" 3 (fun ds r => ∃ c h, ∃ a : Int, Chn c ∧ Hep c h ∧ 0 ≤ a ∧ ds = [dI c, dI h, .int a] ∧ r = .ok (.lst (tabsN c h a c.length))) :=
  Df.mk' Z.f_known_ways sc_known_ways (fun _ _ _ _ _ _ us hl => match us, hl with | [_, _, _], _ => rfl) fun f cdv A outer s H E ds r hr hn hR => by
    obtain ⟨c, h, a, hc, hh, ha, rfl, rfl⟩ := hR
    have nd := sc_known_ways.nd
    have hu := hr.units
    have l0 := hc.len0
    have l8 := hc.len8
    have e0 : ((c.length : Int) - 1).toNat = c.length - 1 := by omega
    have ei : ∀ i : Nat, ((i : Nat) : Int).toNat = i := fun i => by omega
    refine ⟨.rt _, rfl, xb_lefts (c := c) (h := h) (a := a) hc hh ha (passes_of rfl) rfl
      (ps_set nd rfl (by first | exact Or.inl rfl | exact Or.inr rfl) (pe_lst (xa_cons (d := dicKT [a]) (xe_disp1 (xe_var 2) xe_bl) xa_nil)))
      (ps_set nd rfl (by first | exact Or.inl rfl | exact Or.inr rfl) pe_dnewK)
      (xiE (xi_range1 (n := (c.length : Int) - 1) Z.b_range (xa_cons (xe_op o_sub (xe_callB c_lenI Z.b_len boot_len (xa_cons (xe_var 0) xa_nil)) xe_int) xa_nil) (by omega) (by omega)) (by rw [e0])) (xg_one nd) (by intro _; rfl)
      (fun ds ls => xiE (xi_keys (xe_ix (i_list at_end) (xe_var 3) (xe_un o_neg xe_int))) (keys_ints ls)) (xg_one nd) (by intro _; rfl)
      (fun i l hi hl => xi_list (xe_call (d_numbers_at Z) pass0 (hr.mono (by decide)) (xa_cons (xe_var 0) (xa_cons (xe_var 1) (xa_cons (xe_var 4) (xa_cons (xe_var 6) xa_nil)))) ⟨c, h, i, l, hc, hh, by omega, hl.pos, rfl, rfl⟩)) (xg_one nd)
      (fun i l x hi hl hx => ps_asg xe_bl (pg_sub (pe_var rfl (by first | exact Or.inl rfl | exact Or.inr (Or.inl rfl) | exact Or.inr (Or.inr rfl))) (xe_op o_sub (xe_var 6) (xe_op (o_mul (i := x) (j := c.getD i 0) (.inr ?_)) (xe_var 7) (xe_ix (i_intE (ns := c) (v := c.getD i 0) (k := (i : Nat)) (by omega) (by omega) (by rw [ei])) (xe_var 0) (xe_var 4)))) (set_dict (Nat.lt_of_le_of_lt (Nat.add_le_add_left (by decide : 1 ≤ 64) _) hu)))) (by intro _; rfl)
      ps_app
      (xb_cons (xs_sh (i := 8) (d := .lst (tabsN c h a 0)) nd (xe_lst (xa_cons (d := .dic (tabK c h a c.length)) (xeE (xe_disp1 xe_int (xe_tup (xa_cons xe_int (xa_cons xe_int xa_nil)))) (by rw [tab_last])) xa_nil)))
      (xb_cons (xs_for (.one 4) (passes_of rfl) (xi_range3 (n := ((c.length : Int) - 1 - (-1)).toNat) Z.b_range (xa_cons (xe_op o_sub (xe_callB c_lenI Z.b_len boot_len (xa_cons (xe_var 0) xa_nil)) xe_int) (xa_cons (xe_un o_neg xe_int) (xa_cons (xe_un o_neg xe_int) xa_nil))) (RgC.neg (by omega) (by omega) (by omega) (by omega))) (xg_one nd)
        (LoopS.runI c.length (fun i => [some (.sh (dI c)), some (.sh (dI h)), some (.sh (.int a)), some (.sh (.lst (dicsD c h a c.length))), none, none, none, none, some (.sh (.lst (tabsN c h a i)))]) (fun _ => []) (by omega) rfl rfl fun i hi => ?_))
      (xb_stop (xs_ret (xe_var 8)) trivial)))⟩
    · have := hc.getD (k := i) (by omega)
      exact ⟨by omega, by omega⟩
    · have ek : ((c.length : Int) - 1 + (i : Int) * -1) = ((c.length - 1 - i : Nat) : Int) := by omega
      have ek2 : c.length - (i + 1) = c.length - 1 - i := by omega
      have et : tabsN c h a (i + 1) = .dic (tabK c h a (c.length - (i + 1))) :: tabsN c h a i := rfl
      have tg := tabs_get (c := c) (h := h) (a := a) i 0 (Nat.zero_le _) (by omega)
      have ek3 : c.length - i + 0 = c.length - 1 - i + 1 := by omega
      have tl := tabs_len (c := c) (h := h) (a := a) i
      rw [ek3] at tg
      rw [ek, et, ek2]
      have hk : c.length - 1 - i < c.length := by omega
      have lok := lefts_ok hc hh ha (c.length - 1 - i) hk
      have llen := lok.len hc hk
      generalize c.length - 1 - i = k at *
      generalize tabsN c h a i = ts at *
      have ekl : tabK c h a k = (leftsAt c h a k).map fun l => ((Sum.inl l : Key), Dt.tup [.int (wN c h (c.length - k) l), .int (pN c h (c.length - k) l)]) := by
        unfold tabK
        rw [keys_lt hk]
      refine ⟨_, _, rfl, xb_cons (xs_sh (i := 8) (d := .lst ([.dic (tabK c h a k)] ++ ts)) nd (xe_op (o_cat (by simp only [List.length_cons, List.length_nil]; omega)) (xe_lst (xa_cons (xe_dc (ds := (leftsAt c h a k).map Dt.int) [("left", 6)] (.one 6) nd (xiE (xi_keys (xe_ix (i_list (lefts_at hk)) (xe_var 3) (xe_var 4))) (keys_ints _)) ?_ ?_ ?_ (by rw [List.length_map]; omega) (fun _ _ _ _ _ => xg_one nd)) xa_nil)) (xe_var 8))) xb_nil, (by repeat (first | exact LessS.nil | apply LessS.keep | apply LessS.drop))⟩
      · rw [ekl, List.length_map, List.length_map]
      · rw [ekl, List.map_map]
        unfold List.Nodup
        rw [List.pairwise_map]
        exact List.Pairwise.imp (fun {x y} hne z => hne (Sum.inl.inj z)) lok.nd
      · intro j d q e1 e2
        rw [ekl, List.getElem?_map] at e2
        rw [List.getElem?_map] at e1
        cases ej : (leftsAt c h a k)[j]? with
        | none =>
          rw [ej] at e1
          cases e1
        | some l =>
          rw [ej] at e1 e2
          cases e1
          cases e2
          have hl : l ∈ keysAt c h a k := by rw [keys_lt hk]; exact List.mem_of_getElem? ej
          exact ⟨_, rfl, fun s H C cl fp => ⟨xe_var 6, xe_call (d_sums_at Z) pass0 hr (xa_cons (xe_var 0) (xa_cons (xe_var 1) (xa_cons (xe_var 4) (xa_cons (xe_var 6) (xa_cons (xe_ix (i_list (atI_nat (j := 0) tg)) (xe_var 8) xe_int) xa_nil))))) ⟨c, h, a, k, l, hc, hh, ha, hk, hl, rfl, rfl⟩⟩⟩
end
end Pa
namespace Pa
open PySem PySem.Spec PyProof.Rows L2
theorem way_left {c h p : List Int} {a : Int} (hc : Chn c) (hh : Hep c h) (ha : 0 ≤ a) (w : Way c h p a) : ∀ k, k < c.length → lfAt c p a k ∈ keysAt c h a k
  | 0, hk => by
    rw [keys_lt hk]
    exact List.mem_singleton.mpr rfl
  | k + 1, hk => by
    have ih := way_left hc hh ha w k (by omega)
    exact keys_next hc hh ha (by omega) ih (w.mem k (by omega))
theorem take_snoc {p : List Int} {k : Nat} (hk : k < p.length) : p.take (k + 1) = p.take k ++ [p.getD k 0] := by
  rw [List.take_succ_eq_append_getElem hk, List.getD_eq_getElem?_getD, List.getElem?_eq_getElem hk]
  rfl
theorem rank_step {c h p ys zs : List Int} {a : Int} {k : Nat} (hk : k < c.length) (e : nAt c h k (lfAt c p a k) = ys ++ p.getD k 0 :: zs) (h1 : ∀ y ∈ ys, y < p.getD k 0) (h2 : ∀ y ∈ zs, p.getD k 0 < y) :
    rankN c h p a (c.length - k) = (ys.map fun y => wN c h (c.length - (k + 1)) (lfAt c p a k - y * c.getD k 0)).sum + rankN c h p a (c.length - (k + 1)) := by
  have e1 : c.length - k = (c.length - (k + 1)) + 1 := by omega
  have e2 : c.length - ((c.length - (k + 1)) + 1) = k := by omega
  rw [e1]
  show rkAt c h p a (c.length - ((c.length - (k + 1)) + 1)) + _ = _
  rw [e2, rk_split e h1 h2]
section
variable {P : Program} {w : World} {K : PySem.W.Frag} {mg : Str → Option Value} {base : Heap} (Z : Txt K mg)
include Z
theorem d_way_numbered : Df P w K mg base CX0 4 "way_numbered" 4 (fun ds r => ∃ c h, ∃ a : Int, ∃ p, Chn c ∧ Hep c h ∧ 0 ≤ a ∧ Way c h p a ∧ ds = [dI c, dI h, .int a, .int (rankN c h p a c.length)] ∧ r = .ok (dI p)) :=
  Df.mk' Z.f_way_numbered sc_way_numbered (fun _ _ _ _ _ _ us hl => match us, hl with | [_, _, _, _], _ => rfl) fun f cdv A outer s H E ds r hr hn hR => by
    obtain ⟨c, h, a, p, hc, hh, ha, wy, rfl, rfl⟩ := hR
    have nd := sc_way_numbered.nd
    have hu := hr.units
    have l8 := hc.len8
    have tl := tabs_len (c := c) (h := h) (a := a) c.length
    have ep : p = p.take c.length := by rw [List.take_of_length_le (by rw [wy.len]; exact Nat.le_refl _)]
    refine ⟨.rt (dI (p.take c.length)), (by show dI (p.take c.length) = dI p; rw [← ep]), ?_⟩
    refine xb_cons (xs_sh (i := 4) (d := .lst (tabsN c h a c.length)) nd (xe_call (d_known_ways Z) pass0 hr (xa_cons (xe_var 0) (xa_cons (xe_var 1) (xa_cons (xe_var 2) xa_nil))) ⟨c, h, a, hc, hh, ha, rfl, rfl⟩))
      (xb_cons (xs_new (i := 5) (c := .nums []) nd (xn_lst xa_nil))
      (xb_cons (xs_for (.one 6) (passes_of rfl) (xi_range1 Z.b_range (xa_cons (xe_callB c_lenI Z.b_len boot_len (xa_cons (xe_var 0) xa_nil)) xa_nil) (by omega) (by omega)) (xg_one nd)
        (LoopS.runI c.length (fun k => [some (.sh (dI c)), some (.sh (dI h)), some (.sh (.int (lfAt c p a k))), some (.sh (.int (rankN c h p a (c.length - k)))), some (.sh (.lst (tabsN c h a c.length))), some (.at_ 0), none, none, none]) (fun k => [.nums (p.take k)]) (by omega) rfl rfl fun k hk => ?_))
      (xb_stop (xs_ret (xe_var 5)) trivial)))
    obtain ⟨ys, zs, en, h1, h2⟩ := wy.split hc hk
    have hl := way_left hc hh ha wy k hk
    have hl2 : lfAt c p a k ∈ leftsAt c h a k := by rw [keys_lt hk] at hl; exact hl
    have lok := (lefts_ok hc hh ha k hk).ok _ hl2
    have hv := hc.getD hk
    have ek : ((k : Nat) : Int).toNat = k := by omega
    have rs := rank_step hk en h1 h2
    have rr := rank_rg hc wy (c.length - (k + 1)) (by omega)
    have ek1 : c.length - (c.length - (k + 1)) = k + 1 := by omega
    rw [ek1] at rr
    have el : lfAt c p a (k + 1) = lfAt c p a k - p.getD k 0 * c.getD k 0 := rfl
    have plen : p.length = c.length := wy.len
    have etk := take_snoc (p := p) (k := k) (by omega)
    have tka : (p.take k).length ≤ 100000 := by rw [List.length_take]; omega
    have nr : ∀ y ∈ nAt c h k (lfAt c p a k), 0 ≤ y ∧ y ≤ 99 := fun y hy => by
      have := nAt_rg hc hh hk lok.pos hy
      have hg := hh.rg _ (getD_mem (d := 0) (j := k) (by rw [hh.len]; exact hk))
      omega
    have tg : ∀ {δ : Sl} {e1 e2 e3 e4 : Expr} {apos cpos pos : Pos}, True := fun {_ _ _ _ _ _ _ _} => trivial
    have tlook : ∀ y, y ∈ nAt c h k (lfAt c p a k) → (lookD (tabK c h a (k + 1)) (.inl (lfAt c p a k - y * c.getD k 0))).getD (.tup [.int 0, .int 0]) = .tup [.int (wN c h (c.length - (k + 1)) (lfAt c p a k - y * c.getD k 0)), .int (pN c h (c.length - (k + 1)) (lfAt c p a k - y * c.getD k 0))] := fun y hy => tab_look hc hh ha hk hl hy
    have tat : atI (tabsN c h a c.length) ((k : Int) + 1) = some (.dic (tabK c h a (k + 1))) := by
      have : ((k : Int) + 1) = ((k + 1 : Nat) : Int) := by omega
      rw [this]
      exact atI_nat (tabs_at (by omega))
    rw [el] at rr
    rw [el, rs, etk]
    have hxm := wy.mem k hk
    generalize rankN c h p a (c.length - (k + 1)) = rn at *
    generalize tabsN c h a c.length = ts at *
    generalize lfAt c p a k = l at *
    generalize hxx : p.getD k 0 = x at *
    generalize p.take k = pk at *
    refine ⟨_, _, rfl, xb_cons (xs_for (.one 7) (passes_of rfl) (xi_list (xe_call (d_numbers_at Z) pass0 (hr.mono (by decide)) (xa_cons (xe_var 0) (xa_cons (xe_var 1) (xa_cons (xe_var 6) (xa_cons (xe_var 2) xa_nil)))) ⟨c, h, k, l, hc, hh, hk, lok.pos, rfl, rfl⟩)) (xg_one nd)
      (LoopS.ind (fun ds δ ω O => ∃ us, ds = (us ++ x :: zs).map Dt.int ∧ (∀ y ∈ us, y ∈ nAt c h k l) ∧ δ = [some (.sh (dI c)), some (.sh (dI h)), some (.sh (.int l)), some (.sh (.int ((us.map fun y => wN c h (c.length - (k + 1)) (l - y * c.getD k 0)).sum + rn))), some (.sh (.lst ts)), some (.at_ 0), some (.sh (.int (k : Nat))), none, none] ∧ ω = [.nums pk] ∧
          O = .nx [some (.sh (dI c)), some (.sh (dI h)), some (.sh (.int (l - x * c.getD k 0))), some (.sh (.int rn)), some (.sh (.lst ts)), some (.at_ 0), some (.sh (.int (k : Nat))), some (.sh (.int x)), some (.sh (.int (wN c h (c.length - (k + 1)) (l - x * c.getD k 0))))] [.nums (pk ++ [x])]) ?_ ?_ ⟨ys, by rw [en], fun y hy => by rw [en]; exact List.mem_append_left _ hy, rfl, rfl, rfl⟩)) xb_nil, (by repeat (first | exact LessS.nil | apply LessS.keep | apply LessS.drop))⟩
    · rintro δ ω O ⟨us, e, _⟩
      cases us <;> cases e
    · rintro d ds δ ω O ⟨us, e, hus, rfl, rfl, rfl⟩
      cases us with
      | nil =>
        injection e with e e'
        subst e
        subst e'
        refine TurnS.brk rfl (xb_cons (xs_flat (i := 8) (d := .int (wN c h (c.length - (k + 1)) (l - x * c.getD k 0))) nd (xe_ix i_tup0 (xeE (xe_dget (n := l - x * c.getD k 0) (x := .tup [.int 0, .int 0]) (kds := tabK c h a (k + 1)) hu (xe_ix (i_list tat) (xe_var 4) (xe_op o_add (xe_var 6) xe_int)) (xe_op o_sub (xe_var 2) (xe_op (o_mul (i := x) (j := c.getD k 0) (.inr ⟨by omega, by omega⟩)) (xe_var 7) (xe_ix (i_intE (ns := c) (v := c.getD k 0) (k := (k : Nat)) (by omega) (by omega) (by rw [ek])) (xe_var 0) (xe_var 6)))) (xe_tup (xa_cons xe_int (xa_cons xe_int xa_nil)))) (tlook x hxm)) xe_int))
          (xb_stop (xs_if (c := true) (xt_cmp (opE (o_lt (i := (([] : List Int).map fun y => wN c h (c.length - (k + 1)) (l - y * c.getD k 0)).sum + rn) (j := wN c h (c.length - (k + 1)) (l - x * c.getD k 0))) (decide_eq_true ?_)) (xe_var 3) (xe_var 8)) (fun _ => xb_cons (xs_append (y := .at_ 0) (ns := pk) (v := x) (xr_var 5) rfl (xe_var 7) tka)
            (xb_cons (xs_aug (i := 2) (n := l) (m := x * c.getD k 0) ip_sub nd (xe_op (o_mul (i := x) (j := c.getD k 0) (.inr ⟨by omega, by omega⟩)) (xe_var 7) (xe_ix (i_intE (ns := c) (v := c.getD k 0) (k := (k : Nat)) (by omega) (by omega) (by rw [ek])) (xe_var 0) (xe_var 6))))
            (xb_stop xs_break trivial))) (fun h => by cases h)) trivial)) ?_
        · show (0 : Int) + rn < _
          omega
        · show Out.nx _ _ = Out.nx _ _
          have e0 : (([] : List Int).map fun y => wN c h (c.length - (k + 1)) (l - y * c.getD k 0)).sum + rn = rn := Int.zero_add _
          rw [e0]
          rfl
      | cons u us =>
        injection e with e e'
        subst e
        subst e'
        have hum := hus u List.mem_cons_self
        have nn : 0 ≤ (us.map fun y => wN c h (c.length - (k + 1)) (l - y * c.getD k 0)).sum := sum_nonneg fun v hv => by
          obtain ⟨y, _, rfl⟩ := List.mem_map.mp hv
          exact wN_nonneg _ _
        have es : ((u :: us).map fun y => wN c h (c.length - (k + 1)) (l - y * c.getD k 0)).sum = wN c h (c.length - (k + 1)) (l - u * c.getD k 0) + (us.map fun y => wN c h (c.length - (k + 1)) (l - y * c.getD k 0)).sum := rfl
        have tlu := tlook u hum
        rw [es]
        have nru := nr u hum
        generalize ews : (us.map fun y => wN c h (c.length - (k + 1)) (l - y * c.getD k 0)).sum = sm at *
        generalize wN c h (c.length - (k + 1)) (l - u * c.getD k 0) = wu at *
        refine TurnS.next (δ3 := [some (.sh (dI c)), some (.sh (dI h)), some (.sh (.int l)), some (.sh (.int (sm + rn))), some (.sh (.lst ts)), some (.at_ 0), some (.sh (.int (k : Nat))), none, none]) rfl (xb_cons (xs_flat (i := 8) (d := .int wu) nd (xe_ix i_tup0 (xeE (xe_dget (n := l - u * c.getD k 0) (x := .tup [.int 0, .int 0]) (kds := tabK c h a (k + 1)) hu (xe_ix (i_list tat) (xe_var 4) (xe_op o_add (xe_var 6) xe_int)) (xe_op o_sub (xe_var 2) (xe_op (o_mul (i := u) (j := c.getD k 0) (.inr ⟨by omega, by omega⟩)) (xe_var 7) (xe_ix (i_intE (ns := c) (v := c.getD k 0) (k := (k : Nat)) (by omega) (by omega) (by rw [ek])) (xe_var 0) (xe_var 6)))) (xe_tup (xa_cons xe_int (xa_cons xe_int xa_nil)))) tlu) xe_int))
          (xb_cons (xs_if (c := false) (xt_cmp (opE (o_lt (i := wu + sm + rn) (j := wu)) (decide_eq_false (by omega))) (xe_var 3) (xe_var 8)) (fun h => by cases h) (fun _ => xb_nil))
          (xb_cons (xs_aug (i := 3) (n := wu + sm + rn) (m := wu) ip_sub nd (xe_var 8)) xb_nil))) ?_ ⟨us, rfl, fun y hy => hus y (List.mem_cons_of_mem _ hy), by rw [ews], rfl, rfl⟩
        have e9 : wu + sm + rn - wu = sm + rn := by omega
        rw [e9]
        exact (by repeat (first | exact LessS.nil | apply LessS.keep | apply LessS.drop))
theorem d_number_told : Df P w K mg base CX0 4 "number_told" 4 (fun ds r => ∃ c h, ∃ a : Int, ∃ p, Chn c ∧ Hep c h ∧ 0 ≤ a ∧ Way c h p a ∧ ds = [dI c, dI h, .int a, dI p] ∧ r = .ok (.int (numAt c h p a c.length))) :=
  Df.mk' Z.f_number_told sc_number_told (fun _ _ _ _ _ _ us hl => match us, hl with | [_, _, _, _], _ => rfl) fun f cdv A outer s H E ds r hr hn hR => by
    obtain ⟨c, h, a, p, hc, hh, ha, wy, rfl, rfl⟩ := hR
    have nd := sc_number_told.nd
    have hu := hr.units
    have l8 := hc.len8
    have plen : p.length = c.length := wy.len
    refine ⟨.rt _, rfl, xb_cons (xs_sh (i := 4) (d := .lst (tabsN c h a c.length)) nd (xe_call (d_known_ways Z) pass0 hr (xa_cons (xe_var 0) (xa_cons (xe_var 1) (xa_cons (xe_var 2) xa_nil))) ⟨c, h, a, hc, hh, ha, rfl, rfl⟩))
      (xb_cons (xs_flat (i := 5) (d := .int 0) nd xe_int)
      (xb_cons (xs_for (.two 6 7) (passes_of rfl) (xi_enum Z.b_enumerate (xe_var 3)) (xg_two nd)
        (LoopS.runN c.length (fun k => [some (.sh (dI c)), some (.sh (dI h)), some (.sh (.int (lfAt c p a k))), some (.sh (dI p)), some (.sh (.lst (tabsN c h a c.length))), some (.sh (.int (numAt c h p a k))), none, none, none]) (fun k => []) (by rw [enum_len, plen]) rfl rfl fun k d hd hk => ?_))
      (xb_stop (xs_ret (xe_var 5)) trivial)))⟩
    rw [enum_ints, List.getElem?_map, List.getElem?_zipIdx, getD_some (d := 0) (by omega)] at hd
    cases hd
    have hl := way_left hc hh ha wy k hk
    have hl2 : lfAt c p a k ∈ leftsAt c h a k := by rw [keys_lt hk] at hl; exact hl
    have lok := (lefts_ok hc hh ha k hk).ok _ hl2
    have hv := hc.getD hk
    have ek : ((k : Nat) : Int).toNat = k := by omega
    have el : lfAt c p a (k + 1) = lfAt c p a k - p.getD k 0 * c.getD k 0 := rfl
    have en : numAt c h p a (k + 1) = numAt c h p a k + S1 (fun i => if (nAt c h k (lfAt c p a k)).getD i 0 < p.getD k 0 then wN c h (c.length - (k + 1)) (lfAt c p a k - (nAt c h k (lfAt c p a k)).getD i 0 * c.getD k 0) else 0) (nAt c h k (lfAt c p a k)).length := by
      show numAt c h p a k + rkAt c h p a k = _
      unfold rkAt
      rw [sum_map_S1 0]
    have nr : ∀ y ∈ nAt c h k (lfAt c p a k), 0 ≤ y ∧ y ≤ 99 := fun y hy => by
      have := nAt_rg hc hh hk lok.pos hy
      have hg := hh.rg _ (getD_mem (d := 0) (j := k) (by rw [hh.len]; exact hk))
      omega
    have tlook : ∀ y, y ∈ nAt c h k (lfAt c p a k) → (lookD (tabK c h a (k + 1)) (.inl (lfAt c p a k - y * c.getD k 0))).getD (.tup [.int 0, .int 0]) = .tup [.int (wN c h (c.length - (k + 1)) (lfAt c p a k - y * c.getD k 0)), .int (pN c h (c.length - (k + 1)) (lfAt c p a k - y * c.getD k 0))] := fun y hy => tab_look hc hh ha hk hl hy
    have tat : atI (tabsN c h a c.length) ((k : Int) + 1) = some (.dic (tabK c h a (k + 1))) := by
      have : ((k : Int) + 1) = ((k + 1 : Nat) : Int) := by omega
      rw [this]
      exact atI_nat (tabs_at (by omega))
    rw [el, en]
    have e0 : (0 : Nat) + k = k := by omega
    generalize numAt c h p a k = nm at *
    generalize tabsN c h a c.length = ts at *
    generalize lfAt c p a k = l at *
    generalize p.getD k 0 = x at *
    refine ⟨_, _, rfl, xb_cons (xs_for (.one 8) (passes_of rfl) (xi_list (xe_call (d_numbers_at Z) pass0 (hr.mono (by decide)) (xa_cons (xe_var 0) (xa_cons (xe_var 1) (xa_cons (xe_var 6) (xa_cons (xe_var 2) xa_nil)))) ⟨c, h, k, l, hc, hh, hk, lok.pos, by rw [e0], rfl⟩)) (xg_one nd)
      (LoopS.runN (nAt c h k l).length (fun j => [some (.sh (dI c)), some (.sh (dI h)), some (.sh (.int l)), some (.sh (dI p)), some (.sh (.lst ts)), some (.sh (.int (nm + S1 (fun i => if (nAt c h k l).getD i 0 < x then wN c h (c.length - (k + 1)) (l - (nAt c h k l).getD i 0 * c.getD k 0) else 0) j))), some (.sh (.int ((k : Nat) : Int))), some (.sh (.int x)), none]) (fun _ => []) (List.length_map ..) (by
        rw [e0]
        show _ = [_, _, _, _, _, some (S.sh (Dt.int (nm + 0))), _, _, _]
        rw [Int.add_zero]
        rfl) rfl fun j d hd hj => ?_))
      (xb_cons (xs_aug (i := 2) (n := l) (m := x * c.getD k 0) ip_sub nd (xe_op (o_mul (i := x) (j := c.getD k 0) (.inr ⟨by omega, by omega⟩)) (xe_var 7) (xe_ix (i_intE (ns := c) (v := c.getD k 0) (k := (k : Nat)) (by omega) (by omega) (by rw [ek])) (xe_var 0) (xe_var 6)))) xb_nil), (by repeat (first | exact LessS.nil | apply LessS.keep | apply LessS.drop))⟩
    rw [List.getElem?_map, getD_some (d := 0) hj] at hd
    cases hd
    have hx := getD_mem (d := 0) hj
    have es : S1 (fun i => if (nAt c h k l).getD i 0 < x then wN c h (c.length - (k + 1)) (l - (nAt c h k l).getD i 0 * c.getD k 0) else 0) (j + 1) = S1 (fun i => if (nAt c h k l).getD i 0 < x then wN c h (c.length - (k + 1)) (l - (nAt c h k l).getD i 0 * c.getD k 0) else 0) j + (if (nAt c h k l).getD j 0 < x then wN c h (c.length - (k + 1)) (l - (nAt c h k l).getD j 0 * c.getD k 0) else 0) := rfl
    rw [es]
    generalize S1 (fun i => if (nAt c h k l).getD i 0 < x then wN c h (c.length - (k + 1)) (l - (nAt c h k l).getD i 0 * c.getD k 0) else 0) j = A1 at *
    have tly := tlook _ hx
    have nry := nr _ hx
    generalize (nAt c h k l).getD j 0 = y at *
    by_cases hb : y < x
    · rw [if_pos hb]
      generalize wN c h (c.length - (k + 1)) (l - y * c.getD k 0) = wy' at *
      refine ⟨_, _, rfl, xb_cons (xs_if (c := true) (xt_cmp (opE (o_lt (i := y) (j := x)) (decide_eq_true hb)) (xe_var 8) (xe_var 7)) (fun _ => xb_cons (xs_aug (i := 5) (n := nm + A1) (m := wy') ip_add nd (xe_ix i_tup0 (xeE (xe_dget (n := l - y * c.getD k 0) (x := .tup [.int 0, .int 0]) (kds := tabK c h a (k + 1)) hu (xe_ix (i_list tat) (xe_var 4) (xe_op o_add (xe_var 6) xe_int)) (xe_op o_sub (xe_var 2) (xe_op (o_mul (i := y) (j := c.getD k 0) (.inr ⟨by omega, by omega⟩)) (xe_var 8) (xe_ix (i_intE (ns := c) (v := c.getD k 0) (k := (k : Nat)) (by omega) (by omega) (by rw [ek])) (xe_var 0) (xe_var 6)))) (xe_tup (xa_cons xe_int (xa_cons xe_int xa_nil)))) tly) xe_int)) xb_nil) (fun h => by cases h)) xb_nil, ?_⟩
      have e9 : nm + A1 + wy' = nm + (A1 + wy') := by omega
      rw [e9]
      exact (by repeat (first | exact LessS.nil | apply LessS.keep | apply LessS.drop))
    · rw [if_neg hb, Int.add_zero]
      exact ⟨_, _, rfl, xb_cons (xs_if (c := false) (xt_cmp (opE (o_lt (i := y) (j := x)) (decide_eq_false hb)) (xe_var 8) (xe_var 7)) (fun h => by cases h) (fun _ => xb_nil)) xb_nil, (by repeat (first | exact LessS.nil | apply LessS.keep | apply LessS.drop))⟩
theorem d_totals : Df P w K mg base CX0 4 "totals" 3 (fun ds r => ∃ c h, ∃ a : Int, Chn c ∧ Hep c h ∧ 0 ≤ a ∧ ds = [dI c, dI h, .int a] ∧ r = .ok (.tup [.int (wN c h c.length a), .int (pN c h c.length a)])) :=
  Df.mk' Z.f_totals sc_totals (fun _ _ _ _ _ _ us hl => match us, hl with | [_, _, _], _ => rfl) fun f cdv A outer s H E ds r hr hn hR => by
    obtain ⟨c, h, a, hc, hh, ha, rfl, rfl⟩ := hR
    have hu := hr.units
    have hk := hc.len0
    have tat : atI (tabsN c h a c.length) 0 = some (.dic (tabK c h a 0)) := atI_nat (j := 0) (tabs_at (by omega))
    have tlook : lookD (tabK c h a 0) (.inl a) = some (.tup [.int (wN c h c.length a), .int (pN c h c.length a)]) := by
      unfold tabK
      rw [look_T (f := fun l => Dt.tup [.int (wN c h (c.length - 0) l), .int (pN c h (c.length - 0) l)]) (by rw [keys_lt hk]; exact List.mem_singleton.mpr rfl), Nat.sub_zero]
    exact ⟨.rt _, rfl, xb_stop (xs_ret (xe_dix hu (xe_ix (i_list tat) (xe_call (d_known_ways Z) pass0 hr (xa_cons (xe_var 0) (xa_cons (xe_var 1) (xa_cons (xe_var 2) xa_nil))) ⟨c, h, a, hc, hh, ha, rfl, rfl⟩) xe_int) (xe_var 2) tlook)) trivial⟩
theorem d_way_count : Df P w K mg base CX0 7 "way_count" 3 (fun ds r => ∃ c h, ∃ a : Int, Chn c ∧ Hep c h ∧ 0 ≤ a ∧ a ≤ 1000000000 ∧ ds = [dI c, dI h, .int a] ∧ r = .ok (.int (wN c h c.length a))) :=
  Df.mk' Z.f_way_count sc_way_count (fun _ _ _ _ _ _ us hl => match us, hl with | [_, _, _], _ => rfl) fun f cdv A outer s H E ds r hr hn hR => by
    obtain ⟨c, h, a, hc, hh, ha, a1, rfl, rfl⟩ := hR
    exact ⟨.rt _, rfl, xb_cons (xs_expr (xe_call (d_check_paying Z) pass0 hr (xa_cons (xe_var 0) (xa_cons (xe_var 1) (xa_cons (xe_var 2) xa_nil))) ⟨c, h, a, hc, hh, ha, a1, rfl, rfl⟩)) (xb_stop (xs_ret (xe_ix i_tup0 (xe_call (d_totals Z) pass0 (hr.mono (by decide)) (xa_cons (xe_var 0) (xa_cons (xe_var 1) (xa_cons (xe_var 2) xa_nil))) ⟨c, h, a, hc, hh, ha, rfl, rfl⟩) xe_int)) trivial)⟩
theorem d_way_at : Df P w K mg base CX0 8 "way_at" 4 (fun ds r => ∃ c h, ∃ a : Int, ∃ p, Chn c ∧ Hep c h ∧ 0 ≤ a ∧ a ≤ 1000000000 ∧ Way c h p a ∧ ds = [dI c, dI h, .int a, .int (rankN c h p a c.length)] ∧ r = .ok (dI p)) :=
  Df.mk' Z.f_way_at sc_way_at (fun _ _ _ _ _ _ us hl => match us, hl with | [_, _, _, _], _ => rfl) fun f cdv A outer s H E ds r hr hn hR => by
    obtain ⟨c, h, a, p, hc, hh, ha, a1, wy, rfl, rfl⟩ := hR
    have nd := sc_way_at.nd
    obtain ⟨r0, r1⟩ := rank_rg hc wy c.length (Nat.le_refl _)
    rw [Nat.sub_self] at r1
    have r1 : rankN c h p a c.length < wN c h c.length a := r1
    exact ⟨.rt _, rfl, xb_cons (xs_flat (i := 4) (d := .int (wN c h c.length a)) nd (xe_call (d_way_count Z) pass0 hr (xa_cons (xe_var 0) (xa_cons (xe_var 1) (xa_cons (xe_var 2) xa_nil))) ⟨c, h, a, hc, hh, ha, a1, rfl, rfl⟩))
      (xb_stop (xs_ret (xe_if (c := true) (xt_chain (k1 := true) (opE (o_le (i := 0) (j := rankN c h p a c.length)) (decide_eq_true r0)) xe_int (xe_var 3) (fun _ => ⟨opE (o_lt (i := rankN c h p a c.length) (j := wN c h c.length a)) (decide_eq_true r1), xe_var 4⟩) (fun h => by cases h)) (fun _ => xe_call (d_way_numbered Z) pass0 (hr.mono (by decide)) (xa_cons (xe_var 0) (xa_cons (xe_var 1) (xa_cons (xe_var 2) (xa_cons (xe_var 3) xa_nil)))) ⟨c, h, a, p, hc, hh, ha, wy, rfl, rfl⟩) (fun h => by cases h))) trivial)⟩
theorem d_number_of : Df P w K mg base CX0 7 "number_of" 4 (fun ds r => ∃ c h, ∃ a : Int, ∃ p, Chn c ∧ Hep c h ∧ 0 ≤ a ∧ a ≤ 1000000000 ∧ Way c h p a ∧ ds = [dI c, dI h, .int a, dI p] ∧ r = .ok (.int (rankN c h p a c.length))) :=
  Df.mk' Z.f_number_of sc_number_of (fun _ _ _ _ _ _ us hl => match us, hl with | [_, _, _, _], _ => rfl) fun f cdv A outer s H E ds r hr hn hR => by
    obtain ⟨c, h, a, p, hc, hh, ha, a1, wy, rfl, rfl⟩ := hR
    rw [← num_all]
    exact ⟨.rt _, rfl, xb_cons (xs_expr (xe_call (d_check_paying Z) pass0 hr (xa_cons (xe_var 0) (xa_cons (xe_var 1) (xa_cons (xe_var 2) xa_nil))) ⟨c, h, a, hc, hh, ha, a1, rfl, rfl⟩)) (xb_stop (xs_ret (xe_call (d_number_told Z) pass0 (hr.mono (by decide)) (xa_cons (xe_var 0) (xa_cons (xe_var 1) (xa_cons (xe_var 2) (xa_cons (xe_var 3) xa_nil)))) ⟨c, h, a, p, hc, hh, ha, wy, rfl, rfl⟩)) trivial)⟩
end
end Pa
namespace Pa
open PySem PySem.Spec PyProof.Rows L2
theorem worth_max {c h : List Int} (hc : Chn c) (hh : Hep c h) : worth c h ≤ 1000000000 := by
  rw [worth_S1 hh.len]
  have h1 : S1 (fun k => c.getD k 0 * h.getD k 0) c.length ≤ S1 (fun _ => 99000000) c.length := S1_le fun i hi => by
    have a := hc.getD hi
    have b := hh.rg _ (getD_mem (d := 0) (j := i) (by rw [hh.len]; exact hi))
    have c1 : c.getD i 0 * h.getD i 0 ≤ c.getD i 0 * 99 := Int.mul_le_mul_of_nonneg_left b.2 (by omega)
    omega
  rw [S1_const] at h1
  have := hc.len8
  omega
theorem row_pays {c h r : List Int} {a : Int} {rs : List (List Int)} (hh : Hep c h) (g : Parts c h rs) (hr : r ∈ rs) (hw : worth c r = a) : Pays c h r a := by
  have hl := g.len r hr
  refine ⟨hl, fun i hi => ?_, hw⟩
  have h1 : i < r.length := by omega
  have h2 : i < h.length := by rw [hh.len]; exact hi
  have hz : i < (r.zip h).length := by rw [List.length_zip]; omega
  have := g.rg r hr (r.zip h)[i] (List.getElem_mem hz)
  rw [List.getElem_zip] at this
  rw [List.getD_eq_getElem?_getD, List.getD_eq_getElem?_getD, List.getElem?_eq_getElem h1, List.getElem?_eq_getElem h2]
  exact this
theorem mem_numbers {c h : List Int} {m : Int} : m ∈ numbersD c h ↔ (2 ≤ m ∧ m ≤ 8) ∧ sharesB c h m = true := by
  unfold numbersD
  rw [List.mem_filter]
  constructor
  · rintro ⟨h1, h2⟩
    obtain ⟨i, hi, rfl⟩ := rngD_mem h1
    exact ⟨by omega, h2⟩
  · rintro ⟨h1, h2⟩
    refine ⟨List.mem_of_getElem? (i := (m - 2).toNat) ?_, h2⟩
    rw [rngD_get (by omega)]
    congr 1
    omega
section
variable {P : Program} {w : World} {K : PySem.W.Frag} {mg : Str → Option Value} {base : Heap} (Z : Txt K mg)
include Z
theorem law_ok {fo : Addr} {fdo : FuncData} (Fd : FunD K "law" "law" (defArgs s_law) (defBody s_law) (defScope s_law) [] [] fo fdo) : FnOk P w K mg base CX0 9 fo fdo ["script"] (spF 1 fun ds r => ∃ script, ds = [.scr K script] ∧ r = .ok (.bl true)) :=
  fn_mk Fd sc_law fun f cdv A outer s H E ds r hr hn hR => by
    obtain ⟨script, rfl, rfl⟩ := hR
    have nd := sc_law.nd
    have hu := hr.units
    have hc : Chn (lawChain script 0 5) := lawChain_ok (by decide) (by decide)
    have hcl := lawChain_len (script := script) (at' := 0) (most := 5) (by decide)
    have hx := lawNums_rg (script := script) (at' := 2) (many := 1) (k := 0) (by decide)
    have hxl : (lawNums script 2 1).length = 1 := lawNums_len
    have hh : Hep (lawChain script 0 5) (evenH script 1 (lawChain script 0 5) (2 + (lawNums script 2 1).getD 0 0 % 4)) := evenH_ok hc (by omega) (by omega) hcl.1
    generalize hec : lawChain script 0 5 = c at *
    generalize hen : lawNums script 2 1 = ns at *
    have hn2 : 2 ≤ 2 + ns.getD 0 0 % 4 := by omega
    have hn8 : 2 + ns.getD 0 0 % 4 ≤ 8 := by omega
    generalize hnn : 2 + ns.getD 0 0 % 4 = n at *
    generalize heh : evenH script 1 c n = h at *
    have l0 := hc.len0
    have l8 := hc.len8
    have hl := hh.len
    have hw0 := worth_nonneg hc hh
    have hw1 := worth_max hc hh
    have hv0 := hc.getD l0
    obtain ⟨tag, rest, et1, et2⟩ := sharedD_tag c h n
    refine ⟨.rt (.bl true), rfl, xb_cons (xs_sh (i := 1) (d := dI c) nd (xe_call (d__law_chain Z) pass0 (hr.mono (by decide)) (xa_cons (xe_var 0) (xa_cons xe_int (xa_cons xe_int xa_nil))) ⟨script, 0, 5, by decide, by decide, by decide, rfl, by rw [hec]⟩))
      (xb_cons (xs_flat (i := 2) (d := .int n) nd (xeE (xe_op o_add xe_int (xe_op (o_mod (by decide)) (xe_ix (i_int (k := 0) (ns := ns) (by decide) (by omega)) (xe_call (d__law_numbers Z) pass0 (hr.mono (by decide)) (xa_cons (xe_var 0) (xa_cons xe_int (xa_cons xe_int xa_nil))) ⟨script, 2, 1, by decide, by decide, rfl, by rw [hen]⟩) xe_int) xe_int)) (congrArg Dt.int hnn)))
      (xb_cons (xs_lc (i := 3) (es := h.map Dt.int) [("count", 4)] (.one 4) nd (xi_list (xe_call (d__law_even_heap Z) pass0 (hr.mono (by decide)) (xa_cons (xe_var 0) (xa_cons xe_int (xa_cons (xe_var 1) (xa_cons (xe_var 2) xa_nil)))) ⟨script, 1, c, n, hc, by omega, by omega, by omega, by decide, rfl, by rw [heh]⟩)) ?_ (by rw [List.length_map]; omega) (fun _ _ _ _ _ => xg_one nd))
      (xb_cons (xs_flat (i := 5) (d := .int (worth c h)) nd (xe_call (d__law_worth Z) pass0 (hr.mono (by decide)) (xa_cons (xe_var 1) (xa_cons (xe_var 3) xa_nil)) ⟨c, h, by omega, hl, hc.small, rfl, rfl⟩))
      (xb_cons (xs_sh (i := 6) (d := sharedD c h n) nd (xe_call (d_answer Z) pass0 (hr.mono (by decide)) (xa_cons (xe_var 1) (xa_cons (xe_var 3) (xa_cons (xe_var 2) xa_nil))) ⟨c, h, n, hc, hh, hn2, hn8, rfl, rfl⟩))
      (xb_cons (δ1 := [some (.sh (.scr K script)), some (.sh (dI c)), some (.sh (.int n)), some (.sh (dI h)), none, some (.sh (.int (worth c h))), none, none, none, none, none]) (ω1 := []) ?_
      (xb_cons (xs_sh (i := 9) (d := dI (numbersD c h)) nd (xe_call (d_numbers Z) pass0 (hr.mono (by decide)) (xa_cons (xe_var 1) (xa_cons (xe_var 3) xa_nil)) ⟨c, h, hc, hh, rfl, rfl⟩))
      (xb_cons (xs_for (.one 4) (passes_of rfl) (xi_list (xe_var 9)) (xg_one nd)
        (LoopS.runN (numbersD c h).length (fun _ => [some (.sh (.scr K script)), some (.sh (dI c)), some (.sh (.int n)), some (.sh (dI h)), none, some (.sh (.int (worth c h))), none, none, none, some (.sh (dI (numbersD c h))), none]) (fun _ => []) (List.length_map ..) rfl rfl fun j d hd hj => ?_))
      (xb_stop (xs_ret (xeE (xe_cmp (o_eqI (i := worth c (plainAt c h (c.length - 1))) (j := worth c h)) (xe_call (d__law_worth Z) pass0 (hr.mono (by decide)) (xa_cons (xe_var 1) (xa_cons (xe_call (d_plain_form Z) pass0 (hr.mono (by decide)) (xa_cons (xe_var 1) (xa_cons (xe_var 3) xa_nil)) ⟨c, h, hc, hh, rfl, rfl⟩) xa_nil)) ⟨c, _, by omega, (plainAt_len _).trans hl, hc.small, rfl, rfl⟩) (xe_var 5)) (by rw [decide_eq_true (plain_worth hc hl (c.length - 1) (by omega))]))) trivial))))))))⟩
    · exact comp_map (g := Dt.int) (h := Dt.int) (dl := fun v => [some (.scr K script), some (dI c), some (.int n), none, some (.int v), none, none, none, none, none, none]) h fun v hv => ⟨rfl, fun s H C cl fp => ⟨xts_nil, xeE (xe_callB c_min2 Z.b_min boot_min (xa_cons xe_int (xa_cons (xe_var 4) xa_nil))) (congrArg Dt.int (by have := hh.rg v hv; omega))⟩⟩
    · cases hs : sharesB c h n with
      | true =>
        obtain ⟨g1, g2, g3⟩ := evens_good hc hh hn2 hs
        have esh := sharedD_shares hs
        rw [hs] at et2
        generalize hrs : housePay c h (evens c h n) = rs at *
        have p0 : 0 ≤ worth c h / n := Int.ediv_nonneg hw0 (by omega)
        have p1 : worth c h / n ≤ 1000000000 := Int.le_trans (Int.ediv_le_self n hw0) hw1
        have hp0 := row_pays hh g2 (getD_mem (xs := rs) (d := []) (j := 0) (by omega)) (g3 _ (getD_mem (by omega)))
        have hgr := gr_pays hc hh hp0 p0
        have hway := pays_way hc hh hp0
        have hrk := rank_rg hc hway c.length (Nat.le_refl _)
        rw [Nat.sub_self] at hrk
        have hwn : 1 ≤ wN c h c.length (worth c h / n) := by
          have : rankN c h (rs.getD 0 []) (worth c h / n) c.length < wN c h c.length (worth c h / n) := hrk.2
          omega
        refine xs_if (c := true) (xt_cmp (o_eqS et2) (xe_ix (i_tup0 (ds := rest)) (xeE (xe_var 6) et1) xe_int) xe_str) (fun _ => xb_lessO (by repeat (first | exact LessS.nil | apply LessS.keep | apply LessS.drop)) (xb_cons (xs_flat (i := 7) (d := .int (worth c h / n)) nd (xe_op (o_div ⟨by omega, by omega⟩) (xe_var 5) (xe_var 2)))
          (xb_cons (xs_if (c := false) (xt_bool (xw_or (c := false) (xt_cmp (opE (o_notB (i := true) (j := true)) rfl) (xe_call (d_can_pay Z) pass0 hr (xa_cons (xe_var 1) (xa_cons (xe_var 3) (xa_cons (xe_var 7) xa_nil))) ⟨c, h, _, hc, hh, p0, p1, hgr, rfl, rfl⟩) xe_bl)
            (fun _ => xw_or1 (xt_cmp (opE (o_lt (i := wN c h c.length (worth c h / n)) (j := 1)) (decide_eq_false (by omega))) (xe_call (d_way_count Z) pass0 (hr.mono (by decide)) (xa_cons (xe_var 1) (xa_cons (xe_var 3) (xa_cons (xe_var 7) xa_nil))) ⟨c, h, _, hc, hh, p0, p1, rfl, rfl⟩) xe_int)) (fun h => by cases h))) (fun h => by cases h) (fun _ => xb_nil))
          (xb_cons (xs_for (.one 8) (passes_of rfl) (xi_list (ds := rs.map dI) (xe_ix i_tup1 (xeE (xe_var 6) esh) xe_int)) (xg_one nd)
            (LoopS.runN rs.length (fun _ => [some (.sh (.scr K script)), some (.sh (dI c)), some (.sh (.int n)), some (.sh (dI h)), none, some (.sh (.int (worth c h))), some (.sh (sharedD c h n)), some (.sh (.int (worth c h / n))), none, none, none]) (fun _ => []) (List.length_map ..) rfl rfl fun j d hd hj => ?_)) xb_nil)))) (fun h => by cases h)
        rw [List.getElem?_map, getD_some (d := []) hj] at hd
        cases hd
        have hrm := getD_mem (d := []) hj
        generalize rs.getD j [] = row at *
        have hwy := pays_way hc hh (row_pays hh g2 hrm (g3 _ hrm))
        exact ⟨_, _, rfl, xb_cons (xs_if (c := false) (xt_cmp (o_neSame (x := dI row) hu (nods_ints _) (shaped_ints _)) (xe_call (d_way_at Z) pass0 hr (xa_cons (xe_var 1) (xa_cons (xe_var 3) (xa_cons (xe_var 7) (xa_cons (xe_call (d_number_of Z) pass0 (hr.mono (by decide)) (xa_cons (xe_var 1) (xa_cons (xe_var 3) (xa_cons (xe_var 7) (xa_cons (xe_var 8) xa_nil)))) ⟨c, h, _, row, hc, hh, p0, p1, hwy, rfl, rfl⟩) xa_nil)))) ⟨c, h, _, row, hc, hh, p0, p1, hwy, rfl, rfl⟩) (xe_var 8)) (fun h => by cases h) (fun _ => xb_nil)) xb_nil, (by repeat (first | exact LessS.nil | apply LessS.keep | apply LessS.drop))⟩
      | false =>
        rw [hs] at et2
        refine xs_if (c := false) (xt_cmp (o_eqS et2) (xe_ix (i_tup0 (ds := rest)) (xeE (xe_var 6) et1) xe_int) xe_str) (fun h => by cases h) (fun _ => xb_lessO (δ1 := [some (.sh (.scr K script)), some (.sh (dI c)), some (.sh (.int n)), some (.sh (dI h)), none, some (.sh (.int (worth c h))), some (.sh (sharedD c h n)), none, none, none, none]) (by repeat (first | exact LessS.nil | apply LessS.keep | apply LessS.drop)) (xb_cons ?_ xb_nil))
        by_cases h0 : 0 < worth c h % n
        · have e1 := (sharedD_worth h0).1
          exact xs_if (c := false) (xt_bool (xw_and (c := false) (xt_cmp (o_eqS (i := "worth") (c := false)) (xe_ix i_tup0 (xeE (xe_var 6) e1) xe_int) xe_str) (fun h => by cases h) (fun _ => rfl))) (fun h => by cases h) (fun _ => xb_nil)
        · have hm0 : worth c h % n = 0 := by
            have := Int.emod_nonneg (worth c h) (show n ≠ 0 by omega)
            omega
          cases q : firstLack c h (evens c h n) with
          | none =>
            rw [(sharedD_none h0 q).2] at hs
            cases hs
          | some k =>
            have e1 := (sharedD_lack h0 q).1
            have tv := fun {X : Cx} {δ : Sl} {a b : Expr} {p : Pos} => True
            by_cases h1 : worth c h / c.getD 0 0 ≤ 99
            · by_cases h2 : worth c h / n % c.getD 0 0 = 0
              · have lsh := least_shares hc hh hn2 h1 hm0 h2
                have lok := leastH_ok hc hh h1
                obtain ⟨tag2, rest2, ft1, ft2⟩ := sharedD_tag c (leastH c (worth c h / c.getD 0 0)) n
                rw [lsh] at ft2
                refine xs_if (c := true) (xt_bool (xw_and (c := true) (xt_cmp (o_eqS (i := "value") (c := true)) (xe_ix i_tup0 (xeE (xe_var 6) e1) xe_int) xe_str) (fun _ => xw_and (c := true) (xt_cmp (opE (o_le (i := worth c h / c.getD 0 0) (j := 99)) (decide_eq_true h1)) (xe_op (o_div ⟨by omega, by omega⟩) (xe_var 5) (xe_ix (i_intE (ns := c) (v := c.getD 0 0) (k := 0) (by decide) (by omega) rfl) (xe_var 1) xe_int)) xe_int)
                  (fun _ => xw_and1 (xt_cmp (opE (o_eqI (i := worth c h / n % c.getD 0 0) (j := 0)) (decide_eq_true h2)) (xe_op (o_mod (i := worth c h / n) (j := c.getD 0 0) (by omega)) (xe_op (o_div ⟨by omega, by omega⟩) (xe_var 5) (xe_var 2)) (xe_ix (i_intE (ns := c) (v := c.getD 0 0) (k := 0) (by decide) (by omega) rfl) (xe_var 1) xe_int)) xe_int)) (fun h => by cases h)) (fun h => by cases h)))
                  (fun _ => xb_cons (xs_if (c := false) (xt_cmp (o_neS (i := tag2) (j := "shares") (c := false) (by rw [ft2]; rfl)) (xe_ix (i_tup0 (ds := rest2)) (xe_call (d_answer Z) pass0 (hr.mono (by decide)) (xa_cons (xe_var 1) (xa_cons (d := dI (leastH c (worth c h / c.getD 0 0))) ?_ (xa_cons (xe_var 2) xa_nil))) ⟨c, _, n, hc, lok, hn2, hn8, rfl, by rw [ft1]⟩) xe_int) xe_str) (fun h => by cases h) (fun _ => xb_nil)) xb_nil) (fun h => by cases h)
                have el : ((c.length : Int) - 1).toNat = c.length - 1 := by omega
                exact xeE (xe_op (o_cat (es := (List.replicate ((c.length : Int) - 1).toNat (0 : Int)).map Dt.int) (by rw [List.length_map, List.length_replicate]; simp only [List.length_cons, List.length_nil]; omega)) (xe_lst (xa_cons (xe_op (o_div (i := worth c h) (j := c.getD 0 0) ⟨by omega, by omega⟩) (xe_var 5) (xe_ix (i_intE (ns := c) (v := c.getD 0 0) (k := 0) (by decide) (by omega) rfl) (xe_var 1) xe_int)) xa_nil)) (xe_op (o_repI (x := 0) (n := (c.length : Int) - 1) (by omega) (by omega)) (xe_lst (xa_cons xe_int xa_nil)) (xe_op o_sub (xe_callB c_lenI Z.b_len boot_len (xa_cons (xe_var 1) xa_nil)) xe_int))) (by rw [el]; rfl)
              · exact xs_if (c := false) (xt_bool (xw_and (c := true) (xt_cmp (o_eqS (i := "value") (c := true)) (xe_ix i_tup0 (xeE (xe_var 6) e1) xe_int) xe_str) (fun _ => xw_and (c := true) (xt_cmp (opE (o_le (i := worth c h / c.getD 0 0) (j := 99)) (decide_eq_true h1)) (xe_op (o_div ⟨by omega, by omega⟩) (xe_var 5) (xe_ix (i_intE (ns := c) (v := c.getD 0 0) (k := 0) (by decide) (by omega) rfl) (xe_var 1) xe_int)) xe_int)
                  (fun _ => xw_and1 (xt_cmp (opE (o_eqI (i := worth c h / n % c.getD 0 0) (j := 0)) (decide_eq_false h2)) (xe_op (o_mod (i := worth c h / n) (j := c.getD 0 0) (by omega)) (xe_op (o_div ⟨by omega, by omega⟩) (xe_var 5) (xe_var 2)) (xe_ix (i_intE (ns := c) (v := c.getD 0 0) (k := 0) (by decide) (by omega) rfl) (xe_var 1) xe_int)) xe_int)) (fun h => by cases h)) (fun h => by cases h))) (fun h => by cases h) (fun _ => xb_nil)
            · exact xs_if (c := false) (xt_bool (xw_and (c := true) (xt_cmp (o_eqS (i := "value") (c := true)) (xe_ix i_tup0 (xeE (xe_var 6) e1) xe_int) xe_str) (fun _ => xw_and (c := false) (xt_cmp (opE (o_le (i := worth c h / c.getD 0 0) (j := 99)) (decide_eq_false h1)) (xe_op (o_div ⟨by omega, by omega⟩) (xe_var 5) (xe_ix (i_intE (ns := c) (v := c.getD 0 0) (k := 0) (by decide) (by omega) rfl) (xe_var 1) xe_int)) xe_int)
                  (fun h => by cases h) (fun _ => rfl)) (fun h => by cases h))) (fun h => by cases h) (fun _ => xb_nil)
    · rw [List.getElem?_map, getD_some (d := 0) hj] at hd
      cases hd
      have hm := mem_numbers.mp (getD_mem (d := 0) hj)
      generalize (numbersD c h).getD j 0 = m at *
      refine ⟨_, _, rfl, xb_cons (xs_if (c := false) (xt_cmp (o_neSame (x := .lst []) hu rfl rfl) (xe_lc [("divisor", 10)] (.one 10) nd (xi_range2 (lo := 2) (hi := m) Z.b_range (xa_cons xe_int (xa_cons (xe_var 4) xa_nil)) (by omega)) (comp_none (g := Dt.int) (dl := fun v => [some (.scr K script), some (dI c), some (.int n), some (dI h), some (.int m), some (.int (worth c h)), none, none, none, some (dI (numbersD c h)), some (.int v)]) (rngD (m - 2).toNat fun i => 2 + (i : Int)) fun v hv => ⟨rfl, fun s H C cl fp => ?_⟩)
        (by rw [List.length_map, rngD_len]; omega) (fun _ _ _ _ _ => xg_one nd)) (xe_lst xa_nil)) (fun h => by cases h) (fun _ => xb_nil)) xb_nil, (by repeat (first | exact LessS.nil | apply LessS.keep | apply LessS.drop))⟩
      obtain ⟨i, hi, rfl⟩ := rngD_mem hv
      have hv2 : 2 ≤ 2 + (i : Int) := by omega
      have hv8 : 2 + (i : Int) ≤ 8 := by omega
      generalize 2 + (i : Int) = v at *
      exact xts_one (xt_bool (xw_and (c := decide (m % v = 0)) (xt_cmp o_eqI (xe_op (o_mod (i := m) (j := v) (by omega)) (xe_var 4) (xe_var 10)) xe_int) (fun hd => xw_and1 (xt_cmp (opE (o_notInI (x := v) (ns := numbersD c h)) (by rw [decide_eq_true (mem_numbers.mpr ⟨⟨hv2, hv8⟩, shares_div hc hh hm.1.1 hv2 (of_decide_eq_true hd) hm.2⟩)]; rfl)) (xe_var 10) (xe_var 9))) (fun _ => rfl)))
end
end Pa
namespace Pa
open PySem PySem.Spec PyProof.Rows L2

def mkD (g x : Str) (st : Stmt) : He.DefD := ⟨(g, none), x, x, defArgs st, defBody st, defScope st, [], []⟩
def fn : List He.DefD := ([mkD "is_whole" "is_whole" s_is_whole, mkD "is_from_to" "is_from_to" s_is_from_to, mkD "is_amount" "is_amount" s_is_amount, mkD "is_listed" "is_listed" s_is_listed, mkD "follows" "follows" s_follows, mkD "first_wrong_chains" "first_wrong" s_first_wrong_chains, mkD "check_chain" "check_chain" s_check_chain, mkD "check_amount" "check_amount" s_check_amount, mkD "first_wrong_heaps" "first_wrong" s_first_wrong_heaps, mkD "check_counts_heaps" "check_counts" s_check_counts_heaps, mkD "check_heap" "check_heap" s_check_heap, mkD "worth_of" "worth_of" s_worth_of, mkD "lesser_of" "lesser_of" s_lesser_of, mkD "left_by" "left_by" s_left_by, mkD "spare_list" "spare_list" s_spare_list, mkD "house_payments" "house_payments" s_house_payments, mkD "first_lack" "first_lack" s_first_lack, mkD "told_answer" "told_answer" s_told_answer, mkD "check_persons" "check_persons" s_check_persons, mkD "check_sharing" "check_sharing" s_check_sharing, mkD "shared" "shared" s_shared, mkD "answer" "answer" s_answer, mkD "numbers" "numbers" s_numbers, mkD "are_any_counts" "are_any_counts" s_are_any_counts, mkD "plain_of" "plain_of" s_plain_of, mkD "check_paying" "check_paying" s_check_paying, mkD "greedy" "greedy" s_greedy, mkD "paid" "paid" s_paid, mkD "first_payment" "first_payment" s_first_payment, mkD "can_pay" "can_pay" s_can_pay, mkD "check_counts_exchange" "check_counts" s_check_counts_exchange, mkD "check_one" "check_one" s_check_one, mkD "plain_form" "plain_form" s_plain_form, mkD "numbers_at" "numbers_at" s_numbers_at, mkD "known_ways" "known_ways" s_known_ways] : List He.DefD) ++ ([mkD "sums_at" "sums_at" s_sums_at, mkD "way_numbered" "way_numbered" s_way_numbered, mkD "number_told" "number_told" s_number_told, mkD "totals" "totals" s_totals, mkD "way_count" "way_count" s_way_count, mkD "way_at" "way_at" s_way_at, mkD "number_of" "number_of" s_number_of, mkD "_law_numbers" "_law_numbers" s__law_numbers, mkD "_law_chain" "_law_chain" s__law_chain, mkD "_law_worth" "_law_worth" s__law_worth, mkD "_law_even_heap" "_law_even_heap" s__law_even_heap, mkD "law" "law" s_law] : List He.DefD)
def fa : List He.Fa := ([.glo "is_whole", .glo "is_from_to", .glo "is_amount", .glo "is_listed", .glo "follows", .glo "first_wrong_chains", .glo "check_chain", .glo "check_amount", .glo "first_wrong_heaps", .glo "check_counts_heaps", .glo "check_heap", .glo "worth_of", .glo "lesser_of", .glo "left_by", .glo "spare_list", .glo "house_payments", .glo "first_lack", .glo "told_answer", .glo "check_persons", .glo "check_sharing", .glo "shared", .glo "answer", .glo "numbers", .glo "are_any_counts", .glo "plain_of", .glo "check_paying", .glo "greedy", .glo "paid", .glo "first_payment", .glo "can_pay", .glo "check_counts_exchange", .glo "check_one", .glo "plain_form", .glo "numbers_at", .glo "known_ways"] : List He.Fa) ++ ([.glo "sums_at", .glo "way_numbered", .glo "number_told", .glo "totals", .glo "way_count", .glo "way_at", .glo "number_of", .glo "_law_numbers", .glo "_law_chain", .glo "_law_worth", .glo "_law_even_heap", .glo "law", .free "enumerate", .free "sum", .free "list", .free "range", .free "all", .free "zip", .free "min", .free "isinstance", .free "int", .free "len", .free "reversed", .free "bool", .int "MOST_AMOUNT" (1000000000), .int "MOST_VALUES" (8), .int "GREATEST_VALUE" (1000000), .int "WRONG_LIST_chains" (-1), .int "MOST_PIECES" (99), .int "WRONG_LIST_heaps" (-1), .int "FEWEST" (2), .int "MOST" (8), .int "WRONG" (-1)] : List He.Fa)
def loose : List Str := ([("MOST_AMOUNT" : Str), ("is_whole" : Str), ("is_from_to" : Str), ("is_amount" : Str), ("PieceError" : Str), ("BadChain" : Str), ("BadHeap" : Str), ("BadAmount" : Str), ("BadNumber" : Str), ("MOST_VALUES" : Str), ("GREATEST_VALUE" : Str), ("WRONG_LIST_chains" : Str), ("is_listed" : Str), ("follows" : Str), ("first_wrong" : Str), ("first_wrong_chains" : Str), ("check_chain" : Str), ("check_amount" : Str), ("MOST_PIECES" : Str), ("WRONG_LIST_heaps" : Str), ("first_wrong_heaps" : Str), ("check_counts" : Str), ("check_counts_heaps" : Str), ("check_heap" : Str), ("worth_of" : Str), ("lesser_of" : Str), ("left_by" : Str), ("spare_list" : Str), ("house_payments" : Str), ("first_lack" : Str), ("told_answer" : Str), ("FEWEST" : Str), ("MOST" : Str), ("check_persons" : Str), ("check_sharing" : Str)] : List Str) ++ ([("shared" : Str), ("answer" : Str), ("numbers" : Str), ("are_any_counts" : Str), ("plain_of" : Str), ("check_paying" : Str), ("greedy" : Str), ("paid" : Str), ("first_payment" : Str), ("can_pay" : Str), ("WRONG" : Str), ("check_counts_exchange" : Str), ("check_one" : Str), ("plain_form" : Str), ("numbers_at" : Str), ("known_ways" : Str), ("sums_at" : Str), ("way_numbered" : Str), ("number_told" : Str), ("totals" : Str), ("way_count" : Str), ("way_at" : Str), ("number_of" : Str), ("_law_numbers" : Str), ("_law_chain" : Str), ("_law_worth" : Str), ("_law_even_heap" : Str)] : List Str)
abbrev R : PySem.W.OpenRow := PySem.W.OpenLaw.row PySem.Challenge.rw_paidatonce_k99_whole_shares_ways_and_exc
abbrev hk : PySem.W.Hook := He.hookD 4 fa fn
def ob (s : PySem.W.SharedT) : He.AlD := He.obsDG 4 fa fn (HandSHeadRun.getT s)
theorem ob_eq (s : PySem.W.SharedT) : ob s = hk.obs s.abs := He.obsDG_eq (HandSHeadRun.getT_eq s)
theorem run (w : World) : HandSHeadRun.RunEq R (PySem.W.view R.prog [76]) hk ob 6000 loose w := by
  intro os
  kernel_rfl

theorem txt {K : PySem.W.Frag} {h : Heap} {mg : Str → Option Value} (X : K.In h) (G : h.Ns mainGlobals mg) (c : He.SaysD fa fn K) : Txt K mg := by
  constructor
  · exact He.free_ok X G (c.fact 47 (f := .free "enumerate") rfl)
  · exact He.free_ok X G (c.fact 48 (f := .free "sum") rfl)
  · exact He.free_ok X G (c.fact 49 (f := .free "list") rfl)
  · exact He.free_ok X G (c.fact 50 (f := .free "range") rfl)
  · exact He.free_ok X G (c.fact 51 (f := .free "all") rfl)
  · exact He.free_ok X G (c.fact 52 (f := .free "zip") rfl)
  · exact He.free_ok X G (c.fact 53 (f := .free "min") rfl)
  · exact He.free_ok X G (c.fact 54 (f := .free "isinstance") rfl)
  · exact He.free_ok X G (c.fact 55 (f := .free "int") rfl)
  · exact He.free_ok X G (c.fact 56 (f := .free "len") rfl)
  · exact He.free_ok X G (c.fact 57 (f := .free "reversed") rfl)
  · exact He.free_ok X G (c.fact 58 (f := .free "bool") rfl)
  · exact He.int_ok X G (c.fact 59 (f := .int "MOST_AMOUNT" (1000000000)) rfl)
  · exact He.int_ok X G (c.fact 60 (f := .int "MOST_VALUES" (8)) rfl)
  · exact He.int_ok X G (c.fact 61 (f := .int "GREATEST_VALUE" (1000000)) rfl)
  · exact He.int_ok X G (c.fact 62 (f := .int "WRONG_LIST_chains" (-1)) rfl)
  · exact He.int_ok X G (c.fact 63 (f := .int "MOST_PIECES" (99)) rfl)
  · exact He.int_ok X G (c.fact 64 (f := .int "WRONG_LIST_heaps" (-1)) rfl)
  · exact He.int_ok X G (c.fact 65 (f := .int "FEWEST" (2)) rfl)
  · exact He.int_ok X G (c.fact 66 (f := .int "MOST" (8)) rfl)
  · exact He.int_ok X G (c.fact 67 (f := .int "WRONG" (-1)) rfl)
  · obtain ⟨fd, F⟩ := c.def_ 0 (d := mkD "is_whole" "is_whole" s_is_whole) rfl
    exact ⟨_, fd, He.glo_ok X G (c.fact 0 (f := .glo "is_whole") rfl), F⟩
  · obtain ⟨fd, F⟩ := c.def_ 1 (d := mkD "is_from_to" "is_from_to" s_is_from_to) rfl
    exact ⟨_, fd, He.glo_ok X G (c.fact 1 (f := .glo "is_from_to") rfl), F⟩
  · obtain ⟨fd, F⟩ := c.def_ 2 (d := mkD "is_amount" "is_amount" s_is_amount) rfl
    exact ⟨_, fd, He.glo_ok X G (c.fact 2 (f := .glo "is_amount") rfl), F⟩
  · obtain ⟨fd, F⟩ := c.def_ 3 (d := mkD "is_listed" "is_listed" s_is_listed) rfl
    exact ⟨_, fd, He.glo_ok X G (c.fact 3 (f := .glo "is_listed") rfl), F⟩
  · obtain ⟨fd, F⟩ := c.def_ 4 (d := mkD "follows" "follows" s_follows) rfl
    exact ⟨_, fd, He.glo_ok X G (c.fact 4 (f := .glo "follows") rfl), F⟩
  · obtain ⟨fd, F⟩ := c.def_ 5 (d := mkD "first_wrong_chains" "first_wrong" s_first_wrong_chains) rfl
    exact ⟨_, fd, He.glo_ok X G (c.fact 5 (f := .glo "first_wrong_chains") rfl), F⟩
  · obtain ⟨fd, F⟩ := c.def_ 6 (d := mkD "check_chain" "check_chain" s_check_chain) rfl
    exact ⟨_, fd, He.glo_ok X G (c.fact 6 (f := .glo "check_chain") rfl), F⟩
  · obtain ⟨fd, F⟩ := c.def_ 7 (d := mkD "check_amount" "check_amount" s_check_amount) rfl
    exact ⟨_, fd, He.glo_ok X G (c.fact 7 (f := .glo "check_amount") rfl), F⟩
  · obtain ⟨fd, F⟩ := c.def_ 8 (d := mkD "first_wrong_heaps" "first_wrong" s_first_wrong_heaps) rfl
    exact ⟨_, fd, He.glo_ok X G (c.fact 8 (f := .glo "first_wrong_heaps") rfl), F⟩
  · obtain ⟨fd, F⟩ := c.def_ 9 (d := mkD "check_counts_heaps" "check_counts" s_check_counts_heaps) rfl
    exact ⟨_, fd, He.glo_ok X G (c.fact 9 (f := .glo "check_counts_heaps") rfl), F⟩
  · obtain ⟨fd, F⟩ := c.def_ 10 (d := mkD "check_heap" "check_heap" s_check_heap) rfl
    exact ⟨_, fd, He.glo_ok X G (c.fact 10 (f := .glo "check_heap") rfl), F⟩
  · obtain ⟨fd, F⟩ := c.def_ 11 (d := mkD "worth_of" "worth_of" s_worth_of) rfl
    exact ⟨_, fd, He.glo_ok X G (c.fact 11 (f := .glo "worth_of") rfl), F⟩
  · obtain ⟨fd, F⟩ := c.def_ 12 (d := mkD "lesser_of" "lesser_of" s_lesser_of) rfl
    exact ⟨_, fd, He.glo_ok X G (c.fact 12 (f := .glo "lesser_of") rfl), F⟩
  · obtain ⟨fd, F⟩ := c.def_ 13 (d := mkD "left_by" "left_by" s_left_by) rfl
    exact ⟨_, fd, He.glo_ok X G (c.fact 13 (f := .glo "left_by") rfl), F⟩
  · obtain ⟨fd, F⟩ := c.def_ 14 (d := mkD "spare_list" "spare_list" s_spare_list) rfl
    exact ⟨_, fd, He.glo_ok X G (c.fact 14 (f := .glo "spare_list") rfl), F⟩
  · obtain ⟨fd, F⟩ := c.def_ 15 (d := mkD "house_payments" "house_payments" s_house_payments) rfl
    exact ⟨_, fd, He.glo_ok X G (c.fact 15 (f := .glo "house_payments") rfl), F⟩
  · obtain ⟨fd, F⟩ := c.def_ 16 (d := mkD "first_lack" "first_lack" s_first_lack) rfl
    exact ⟨_, fd, He.glo_ok X G (c.fact 16 (f := .glo "first_lack") rfl), F⟩
  · obtain ⟨fd, F⟩ := c.def_ 17 (d := mkD "told_answer" "told_answer" s_told_answer) rfl
    exact ⟨_, fd, He.glo_ok X G (c.fact 17 (f := .glo "told_answer") rfl), F⟩
  · obtain ⟨fd, F⟩ := c.def_ 18 (d := mkD "check_persons" "check_persons" s_check_persons) rfl
    exact ⟨_, fd, He.glo_ok X G (c.fact 18 (f := .glo "check_persons") rfl), F⟩
  · obtain ⟨fd, F⟩ := c.def_ 19 (d := mkD "check_sharing" "check_sharing" s_check_sharing) rfl
    exact ⟨_, fd, He.glo_ok X G (c.fact 19 (f := .glo "check_sharing") rfl), F⟩
  · obtain ⟨fd, F⟩ := c.def_ 20 (d := mkD "shared" "shared" s_shared) rfl
    exact ⟨_, fd, He.glo_ok X G (c.fact 20 (f := .glo "shared") rfl), F⟩
  · obtain ⟨fd, F⟩ := c.def_ 21 (d := mkD "answer" "answer" s_answer) rfl
    exact ⟨_, fd, He.glo_ok X G (c.fact 21 (f := .glo "answer") rfl), F⟩
  · obtain ⟨fd, F⟩ := c.def_ 22 (d := mkD "numbers" "numbers" s_numbers) rfl
    exact ⟨_, fd, He.glo_ok X G (c.fact 22 (f := .glo "numbers") rfl), F⟩
  · obtain ⟨fd, F⟩ := c.def_ 23 (d := mkD "are_any_counts" "are_any_counts" s_are_any_counts) rfl
    exact ⟨_, fd, He.glo_ok X G (c.fact 23 (f := .glo "are_any_counts") rfl), F⟩
  · obtain ⟨fd, F⟩ := c.def_ 24 (d := mkD "plain_of" "plain_of" s_plain_of) rfl
    exact ⟨_, fd, He.glo_ok X G (c.fact 24 (f := .glo "plain_of") rfl), F⟩
  · obtain ⟨fd, F⟩ := c.def_ 25 (d := mkD "check_paying" "check_paying" s_check_paying) rfl
    exact ⟨_, fd, He.glo_ok X G (c.fact 25 (f := .glo "check_paying") rfl), F⟩
  · obtain ⟨fd, F⟩ := c.def_ 26 (d := mkD "greedy" "greedy" s_greedy) rfl
    exact ⟨_, fd, He.glo_ok X G (c.fact 26 (f := .glo "greedy") rfl), F⟩
  · obtain ⟨fd, F⟩ := c.def_ 27 (d := mkD "paid" "paid" s_paid) rfl
    exact ⟨_, fd, He.glo_ok X G (c.fact 27 (f := .glo "paid") rfl), F⟩
  · obtain ⟨fd, F⟩ := c.def_ 28 (d := mkD "first_payment" "first_payment" s_first_payment) rfl
    exact ⟨_, fd, He.glo_ok X G (c.fact 28 (f := .glo "first_payment") rfl), F⟩
  · obtain ⟨fd, F⟩ := c.def_ 29 (d := mkD "can_pay" "can_pay" s_can_pay) rfl
    exact ⟨_, fd, He.glo_ok X G (c.fact 29 (f := .glo "can_pay") rfl), F⟩
  · obtain ⟨fd, F⟩ := c.def_ 30 (d := mkD "check_counts_exchange" "check_counts" s_check_counts_exchange) rfl
    exact ⟨_, fd, He.glo_ok X G (c.fact 30 (f := .glo "check_counts_exchange") rfl), F⟩
  · obtain ⟨fd, F⟩ := c.def_ 31 (d := mkD "check_one" "check_one" s_check_one) rfl
    exact ⟨_, fd, He.glo_ok X G (c.fact 31 (f := .glo "check_one") rfl), F⟩
  · obtain ⟨fd, F⟩ := c.def_ 32 (d := mkD "plain_form" "plain_form" s_plain_form) rfl
    exact ⟨_, fd, He.glo_ok X G (c.fact 32 (f := .glo "plain_form") rfl), F⟩
  · obtain ⟨fd, F⟩ := c.def_ 33 (d := mkD "numbers_at" "numbers_at" s_numbers_at) rfl
    exact ⟨_, fd, He.glo_ok X G (c.fact 33 (f := .glo "numbers_at") rfl), F⟩
  · obtain ⟨fd, F⟩ := c.def_ 34 (d := mkD "known_ways" "known_ways" s_known_ways) rfl
    exact ⟨_, fd, He.glo_ok X G (c.fact 34 (f := .glo "known_ways") rfl), F⟩
  · obtain ⟨fd, F⟩ := c.def_ 35 (d := mkD "sums_at" "sums_at" s_sums_at) rfl
    exact ⟨_, fd, He.glo_ok X G (c.fact 35 (f := .glo "sums_at") rfl), F⟩
  · obtain ⟨fd, F⟩ := c.def_ 36 (d := mkD "way_numbered" "way_numbered" s_way_numbered) rfl
    exact ⟨_, fd, He.glo_ok X G (c.fact 36 (f := .glo "way_numbered") rfl), F⟩
  · obtain ⟨fd, F⟩ := c.def_ 37 (d := mkD "number_told" "number_told" s_number_told) rfl
    exact ⟨_, fd, He.glo_ok X G (c.fact 37 (f := .glo "number_told") rfl), F⟩
  · obtain ⟨fd, F⟩ := c.def_ 38 (d := mkD "totals" "totals" s_totals) rfl
    exact ⟨_, fd, He.glo_ok X G (c.fact 38 (f := .glo "totals") rfl), F⟩
  · obtain ⟨fd, F⟩ := c.def_ 39 (d := mkD "way_count" "way_count" s_way_count) rfl
    exact ⟨_, fd, He.glo_ok X G (c.fact 39 (f := .glo "way_count") rfl), F⟩
  · obtain ⟨fd, F⟩ := c.def_ 40 (d := mkD "way_at" "way_at" s_way_at) rfl
    exact ⟨_, fd, He.glo_ok X G (c.fact 40 (f := .glo "way_at") rfl), F⟩
  · obtain ⟨fd, F⟩ := c.def_ 41 (d := mkD "number_of" "number_of" s_number_of) rfl
    exact ⟨_, fd, He.glo_ok X G (c.fact 41 (f := .glo "number_of") rfl), F⟩
  · obtain ⟨fd, F⟩ := c.def_ 42 (d := mkD "_law_numbers" "_law_numbers" s__law_numbers) rfl
    exact ⟨_, fd, He.glo_ok X G (c.fact 42 (f := .glo "_law_numbers") rfl), F⟩
  · obtain ⟨fd, F⟩ := c.def_ 43 (d := mkD "_law_chain" "_law_chain" s__law_chain) rfl
    exact ⟨_, fd, He.glo_ok X G (c.fact 43 (f := .glo "_law_chain") rfl), F⟩
  · obtain ⟨fd, F⟩ := c.def_ 44 (d := mkD "_law_worth" "_law_worth" s__law_worth) rfl
    exact ⟨_, fd, He.glo_ok X G (c.fact 44 (f := .glo "_law_worth") rfl), F⟩
  · obtain ⟨fd, F⟩ := c.def_ 45 (d := mkD "_law_even_heap" "_law_even_heap" s__law_even_heap) rfl
    exact ⟨_, fd, He.glo_ok X G (c.fact 45 (f := .glo "_law_even_heap") rfl), F⟩
  · obtain ⟨fd, F⟩ := c.def_ 46 (d := mkD "law" "law" s_law) rfl
    exact ⟨_, fd, He.glo_ok X G (c.fact 46 (f := .glo "law") rfl), F⟩
theorem facts {P : Program} {w : World} {K : PySem.W.Frag} {h : Heap} {mg : Str → Option Value} {f : Addr} (X : K.In h) (G : h.Ns mainGlobals mg) (hfa : mg ("law" : Str) = some (.ref f)) (c : He.SaysD fa fn K) :
    ∃ fd : FuncData, (∀ (s : Shared) (v : Value), BindsTo s fd ⟨[v], []⟩ [("script", v)]) ∧ ∀ base : Heap, FnOk P w K mg base CX0 9 f fd ["script"] (spF 1 fun ds r => ∃ script, ds = [.scr K script] ∧ r = .ok (.bl true)) := by
  obtain ⟨fd, F⟩ := c.def_ 46 (d := mkD "law" "law" s_law) rfl
  have e := hfa.symm.trans (He.glo_ok X G (c.fact 46 (f := .glo "law") rfl))
  cases e
  have b := FunD.bindsA (ps := ["script"]) F fun _ _ _ _ _ _ us hl => match us, hl with | [_], _ => rfl
  exact ⟨fd, fun s v => b s [v] rfl, fun base => law_ok (txt X G c) F⟩
end Pa
open PySem PySem.W PySem.Calls PyProof.Rows
theorem PySem.Challenge.cw_paidatonce_k99_whole_shares_ways_and_exc_holds : PySem.Challenge.rw_paidatonce_k99_whole_shares_ways_and_exc.Holds := by
  w_on; o_law
  refine HandSHeadRun.head_any (r := OpenLaw.row PySem.Challenge.rw_paidatonce_k99_whole_shares_ways_and_exc) (q := view (OpenLaw.row PySem.Challenge.rw_paidatonce_k99_whole_shares_ways_and_exc).prog [76]) (H := Pa.hk) (ob := Pa.ob) (M := 6000) (loose := Pa.loose) (d := HandSHeadRun.topDef (OpenLaw.row PySem.Challenge.rw_paidatonce_k99_whole_shares_ways_and_exc).prog 76) (kwd := []) Pa.ob_eq
    (by kernel_rfl) (fun s => by kernel_rfl) Pa.run (by kernel_rfl) (by kernel_rfl) (by kernel_rfl) (by rfl) (by first | assumption | decide +kernel) (by decide +kernel) ⟨rfl, rfl, rfl, rfl, rfl, by decide +kernel⟩ ?hw ?hc
  case hw => w_witness2
  case hc =>
    refine L2.walk_ofE (l := PySem.Challenge.rw_paidatonce_k99_whole_shares_ways_and_exc) (n := 63) (k := 9) (x := "script") (CX := L2.CX0) rfl (by decide) (by kernel_rfl) ⟨rfl, by decide, by decide⟩ ?F (fun _ _ _ _ z => z)
    intro w mg fo h Y G hmg0
    obtain ⟨K, KX, c⟩ := Y
    have hmg : mg ("law" : PySem.Str) = some (.ref fo) := by
      have e : (HandSHeadRun.topDef (OpenLaw.row PySem.Challenge.rw_paidatonce_k99_whole_shares_ways_and_exc).prog 76).name = ("law" : PySem.Str) := by kernel_rfl
      rw [← e]
      exact hmg0
    obtain ⟨fd, hb, hF⟩ := Pa.facts (P := (PySem.Challenge.rw_paidatonce_k99_whole_shares_ways_and_exc).prog) (w := w) KX G hmg c
    exact ⟨K, fd, _, KX, hb, fun H a ns hl _ hS => ⟨H, [.scr K ns], .ok (.bl true), rfl, .refl _, .cons (.scr hS) .nil, ⟨ns, rfl, rfl⟩, fun v H' G' _ dv => dv.bl_inv⟩, fun base _ _ => hF base⟩
