import PyProof.Rows.All
import Wide.All
import OpenK.AllK
import Wide.FinOn
import KE.KStateDown
import HandS.ForMost
import HandS.Wide
import HandS.IsInst
import HandS.Conv
import HandS.Zip
import HandS.Defaults
import HandS.Walk
import HandS.HeadEnd
import HandS.HeadHook4
import HandS.Star
import HandS.Strs
import HandS.Head0
import HandS.Head1
import HandS.Head2
import HandS.MakeKwOnly
import KE.KDictKeyed
import KE.KDictWalk
import KE.KDictDisplayH
import HandS.DictComp
import KE.GoesMore
import KE.GoesEnum
import HandS.Style
import HandS.Small
import HandS.TupLen
import HandS.Sort
import PySem.Challenge.RW_liftedladders_k65_whole_greatest_means
set_option Elab.async false
set_option linter.all false
set_option maxRecDepth 100000
namespace Gm
open PySem PySem.Spec PyProof.Rows L2
set_option maxHeartbeats 4000000
/-! The layer: canonical readings over a family of contexts; judgements that speak of data alone. -/

/-- all that was tracked stays -/
def Ex (H H' : Hp) : Prop := ∀ a o, H a = some o → H' a = some o
theorem Ex.refl (H : Hp) : Ex H H := fun _ _ h => h
theorem Ex.trans {H H1 H2 : Hp} (a : Ex H H1) (b : Ex H1 H2) : Ex H H2 := fun x o h => b x o (a x o h)
theorem Ex.new {H : Hp} {p : Addr} {o : HO} (h : H p = none) : Ex H (upd H p o) := fun a u e => by
  rw [upd_ne (ne_of_none e h)]; exact e

/-- what a slot holds: data, or just a value -/
inductive SV where
  | d (x : PyData)
  | v (x : V)
  | l (xs : List PyData)
def Dq (K : PySem.W.Frag) (H : Hp) (u : V) : SV → Prop
  | .d x => Dp K H u x
  | .v w => u = w
  | .l xs => ∃ a vs, u = .ref a ∧ H a = some (.lst vs) ∧ DpAll K H vs xs
inductive DqAll (K : PySem.W.Frag) (H : Hp) : List V → List SV → Prop
  | nil : DqAll K H [] []
  | cons {v vs d ds} : Dq K H v d → DqAll K H vs ds → DqAll K H (v :: vs) (d :: ds)

/-- what is the same in all contexts of a family -/
structure Ct where
  P : Program
  w : World
  K : PySem.W.Frag
  mg : Str → Option Value
  base : Heap
  N : List Str
/-- a family of contexts, the relation of heaps that is kept, the heap at the start -/
structure Mo (ι : Type) where
  F : ι → Cx
  S : Ct
  R : Hp → Hp → Prop
  H0 : Hp
  k : Nat
structure Mo.Ok {ι : Type} (m : Mo ι) : Prop where
  hp : ∀ i, (m.F i).prog = m.S.P
  hw : ∀ i, (m.F i).w = m.S.w
  hK : ∀ i, (m.F i).K = m.S.K
  hm : ∀ i, (m.F i).mg = m.S.mg
  hb : ∀ i, (m.F i).base = m.S.base
  hN : ∀ i, (m.F i).N = m.S.N
  calm : ∀ i, (m.F i).calm = true
  room : ∀ i, Room m.k (m.F i).A
  nd : m.S.N.Nodup
  refl : ∀ H, m.R H H
  trans : ∀ {H H1 H2}, m.R H H1 → m.R H1 H2 → m.R H H2
  ex : ∀ {H H'}, Ex H H' → m.R H H'
  sl_ : ∀ {H H' a xs}, m.R H H' → SqL m.S.K H a xs → SqL m.S.K H' a xs
  st_ : ∀ {H H' a xs}, m.R H H' → SqT m.S.K H a xs → SqT m.S.K H' a xs
  lk : ∀ {H H' a xs}, m.R H H' → H a = some (.lst xs) → H' a = some (.lst xs)
  mt_ : ∀ {H H' a xs ys}, m.R H H' → H a = none → H' a = some (.lst xs) → m.R H (upd H' a (.lst ys))

section
variable {ι : Type} {m : Mo ι}
mutual
theorem dp_of {K : PySem.W.Frag} {H H' : Hp} (h1 : ∀ a xs, SqL K H a xs → SqL K H' a xs) (h2 : ∀ a xs, SqT K H a xs → SqT K H' a xs) : ∀ {v : V} {d : PyData}, Dp K H v d → Dp K H' v d
  | _, _, .non => .non
  | _, _, .bl b => .bl b
  | _, _, .int i => .int i
  | _, _, .str x => .str x
  | _, _, .lst q a => .lst (h1 _ _ q) (dpa_of h1 h2 a)
  | _, _, .tup q a => .tup (h2 _ _ q) (dpa_of h1 h2 a)
theorem dpa_of {K : PySem.W.Frag} {H H' : Hp} (h1 : ∀ a xs, SqL K H a xs → SqL K H' a xs) (h2 : ∀ a xs, SqT K H a xs → SqT K H' a xs) : ∀ {vs : List V} {ds : List PyData}, DpAll K H vs ds → DpAll K H' vs ds
  | _, _, .nil => .nil
  | _, _, .cons a t => .cons (dp_of h1 h2 a) (dpa_of h1 h2 t)
end
theorem Mo.Ok.dp (ok : m.Ok) {H H' : Hp} {v : V} {d : PyData} (h : m.R H H') (q : Dp m.S.K H v d) : Dp m.S.K H' v d := dp_of (fun _ _ => ok.sl_ h) (fun _ _ => ok.st_ h) q
theorem Mo.Ok.dq (ok : m.Ok) {H H' : Hp} {v : V} {r : SV} (h : m.R H H') (q : Dq m.S.K H v r) : Dq m.S.K H' v r := by
  cases r with
  | d x => exact ok.dp h q
  | v w => exact q
  | l xs =>
    obtain ⟨a, vs, e, h1, h2⟩ := q
    exact ⟨a, vs, e, ok.lk h h1, dpa_of (fun _ _ => ok.sl_ h) (fun _ _ => ok.st_ h) h2⟩
theorem Mo.Ok.dqs (ok : m.Ok) {H H' : Hp} {vs : List V} {rs : List SV} (h : m.R H H') (q : DqAll m.S.K H vs rs) : DqAll m.S.K H' vs rs := by
  induction q with
  | nil => exact .nil
  | cons a _ ih => exact .cons (ok.dq h a) ih
theorem Mo.Ok.new (ok : m.Ok) {H : Hp} {p : Addr} {o : HO} (h : H p = none) : m.R H (upd H p o) := ok.ex (Ex.new h)
end

/-- the slots as they are known -/
abbrev Sd := List (Option SV)
def Sl (K : PySem.W.Frag) (H : Hp) (σ : L2.St) (ds : Sd) : Prop := σ.length = ds.length ∧ ∀ (i : Nat) (r : SV), ds[i]? = some (some r) → ∃ v, σ[i]? = some (some v) ∧ Dq K H v r
section
variable {ι : Type} {m : Mo ι}
theorem Mo.Ok.sl (ok : m.Ok) {H H' : Hp} {σ : L2.St} {ds : Sd} (h : m.R H H') (q : Sl m.S.K H σ ds) : Sl m.S.K H' σ ds :=
  ⟨q.1, fun i r e => let ⟨v, a, b⟩ := q.2 i r e; ⟨v, a, ok.dq h b⟩⟩
theorem Sl.set {K : PySem.W.Frag} {H : Hp} {σ : L2.St} {ds : Sd} {v : V} {r : SV} (q : Sl K H σ ds) (j : Nat) (h : Dq K H v r) : Sl K H (σ.set j (some v)) (ds.set j (some r)) := by
  refine ⟨by rw [List.length_set, List.length_set]; exact q.1, fun i r' e => ?_⟩
  by_cases hij : j = i
  · subst hij
    by_cases hl : j < ds.length
    · rw [List.getElem?_set_self hl] at e
      cases e
      exact ⟨v, List.getElem?_set_self (by rw [q.1]; exact hl), h⟩
    · rw [List.getElem?_eq_none (by rw [List.length_set]; omega)] at e
      cases e
  · rw [List.getElem?_set_ne hij] at e ⊢
    exact q.2 i r' e
/-- a slot forgotten -/
theorem Sl.drop {K : PySem.W.Frag} {H : Hp} {σ : L2.St} {ds ds' : Sd} (q : Sl K H σ ds) (hl : ds'.length = ds.length) (h : ∀ (i : Nat) (r : SV), ds'[i]? = some (some r) → ds[i]? = some (some r)) : Sl K H σ ds' :=
  ⟨by rw [hl]; exact q.1, fun i r e => q.2 i r (h i r e)⟩
end

/-! ### canonical readings -/
section
variable {ι : Type}
def wE (F : ι → Cx) (e : Expr) : TE := fun σ H Q => ∃ t, (∀ i, PE (F i) e t) ∧ t σ H Q
def wT (F : ι → Cx) (e : Expr) : TT := fun σ H Q => ∃ t, (∀ i, PT (F i) e t) ∧ t σ H Q
def wA (F : ι → Cx) (es : List Expr) : TA := fun σ H Q => ∃ t, (∀ i, PA (F i) es t) ∧ t σ H Q
def wS (F : ι → Cx) (s : Stmt) : TS := fun D σ H => ∃ t, (∀ i, PS (F i) s t) ∧ t D σ H
def wSs (F : ι → Cx) (s : List Stmt) : TS := fun D σ H => ∃ t, (∀ i, PSs (F i) s t) ∧ t D σ H
def wG (F : ι → Cx) (e : Expr) : TG := fun v σ H Q => ∃ t, (∀ i, PG (F i) e t) ∧ t v σ H Q
def wI (F : ι → Cx) (tg e : Expr) : TI := fun σ H R => ∃ t, (∀ i, PI (F i) tg e t) ∧ t σ H R
variable {F : ι → Cx} {e : Expr} {es : List Expr} {s : Stmt} {ss : List Stmt} {tg : Expr}
theorem wE_ok (i : ι) : PE (F i) e (wE F e) := ⟨fun pins s σ H Q I ⟨t, h, q⟩ => (h i).run pins s σ H Q I q⟩
theorem wT_ok (i : ι) : PT (F i) e (wT F e) := ⟨fun pins s σ H Q I ⟨t, h, q⟩ => (h i).run pins s σ H Q I q⟩
theorem wA_ok (i : ι) : PA (F i) es (wA F es) := ⟨fun pos pins s σ H Q I ⟨t, h, q⟩ => (h i).run pos pins s σ H Q I q⟩
theorem wS_ok (i : ι) : PS (F i) s (wS F s) := ⟨fun pins s σ H D I ⟨t, h, q⟩ => (h i).run pins s σ H D I q⟩
theorem wSs_ok (i : ι) : PSs (F i) ss (wSs F ss) := ⟨fun pins s σ H D I ⟨t, h, q⟩ => (h i).run pins s σ H D I q⟩
theorem wG_ok (i : ι) : PG (F i) e (wG F e) := ⟨fun pins s σ H v u Q I r ⟨t, h, q⟩ => (h i).run pins s σ H v u Q I r q⟩
theorem wI_ok (i : ι) : PI (F i) tg e (wI F tg e) := ⟨fun pins s σ H R I ⟨t, h, q⟩ => (h i).run pins s σ H R I q⟩
theorem wE_of {t : TE} (h : ∀ i, PE (F i) e t) {σ : L2.St} {H : Hp} {Q : VK} (q : t σ H Q) : wE F e σ H Q := ⟨t, h, q⟩
theorem wT_of {t : TT} (h : ∀ i, PT (F i) e t) {σ : L2.St} {H : Hp} {Q : Bool → Hp → Prop} (q : t σ H Q) : wT F e σ H Q := ⟨t, h, q⟩
theorem wA_of {t : TA} (h : ∀ i, PA (F i) es t) {σ : L2.St} {H : Hp} {Q : List V → Hp → Prop} (q : t σ H Q) : wA F es σ H Q := ⟨t, h, q⟩
theorem wS_of {t : TS} (h : ∀ i, PS (F i) s t) {σ : L2.St} {H : Hp} {D : Ends} (q : t D σ H) : wS F s D σ H := ⟨t, h, q⟩
theorem wSs_of {t : TS} (h : ∀ i, PSs (F i) ss t) {σ : L2.St} {H : Hp} {D : Ends} (q : t D σ H) : wSs F ss D σ H := ⟨t, h, q⟩
theorem wG_of {t : TG} (h : ∀ i, PG (F i) e t) {v : V} {σ : L2.St} {H : Hp} {Q : L2.St → Hp → Prop} (q : t v σ H Q) : wG F e v σ H Q := ⟨t, h, q⟩
theorem wI_of {t : TI} (h : ∀ i, PI (F i) tg e t) {σ : L2.St} {H : Hp} {R : It → Hp → Prop} (q : t σ H R) : wI F tg e σ H R := ⟨t, h, q⟩
end

/-! ### judgements -/
section
variable {ι : Type}
/-- e gives a value of which Post tells -/
def EX (m : Mo ι) (ds : Sd) (e : Expr) (Post : V → Hp → Prop) : Prop := ∀ σ H, m.R m.H0 H → Sl m.S.K H σ ds → ∀ Q : VK, (∀ v H2, m.R H H2 → Post v H2 → Q v H2) → wE m.F e σ H Q
/-- e gives r -/
def EV (m : Mo ι) (ds : Sd) (e : Expr) (r : SV) : Prop := EX m ds e fun v H => Dq m.S.K H v r
def TV (m : Mo ι) (ds : Sd) (e : Expr) (b : Bool) : Prop := ∀ σ H, m.R m.H0 H → Sl m.S.K H σ ds → ∀ Q : Bool → Hp → Prop, (∀ H2, m.R H H2 → Q b H2) → wT m.F e σ H Q
def EA (m : Mo ι) (ds : Sd) (es : List Expr) (rs : List SV) : Prop := ∀ σ H, m.R m.H0 H → Sl m.S.K H σ ds → ∀ Q : List V → Hp → Prop, (∀ vs H2, m.R H H2 → DqAll m.S.K H2 vs rs → Q vs H2) → wA m.F es σ H Q
/-- the block, from every state that is so known -/
def BD (m : Mo ι) (ds : Sd) (ss : List Stmt) (D : Ends) : Prop := ∀ σ H, m.R m.H0 H → Sl m.S.K H σ ds → wSs m.F ss D σ H
/-- the heap at the start moved on -/
abbrev Mo.at_ (m : Mo ι) (H : Hp) : Mo ι := { m with H0 := H }
theorem Mo.Ok.at_ {m : Mo ι} (ok : m.Ok) (H : Hp) : (m.at_ H).Ok := ⟨ok.hp, ok.hw, ok.hK, ok.hm, ok.hb, ok.hN, ok.calm, ok.room, ok.nd, ok.refl, ok.trans, ok.ex, ok.sl_, ok.st_, ok.lk, ok.mt_⟩
theorem EX.at_ {m : Mo ι} (ok : m.Ok) {ds : Sd} {e : Expr} {Post : V → Hp → Prop} {H1 : Hp} (h : EX m ds e Post) (r : m.R m.H0 H1) : EX (m.at_ H1) ds e Post := fun σ H hr => h σ H (ok.trans r hr)
theorem BD.at_ {m : Mo ι} (ok : m.Ok) {ds : Sd} {ss : List Stmt} {D : Ends} {H1 : Hp} (h : BD m ds ss D) (r : m.R m.H0 H1) : BD (m.at_ H1) ds ss D := fun σ H hr => h σ H (ok.trans r hr)
end
/-! The layer: expressions. -/
section
variable {ι : Type} {m : Mo ι} {ds : Sd} {pos : Pos}
theorem EV.ex {e : Expr} {r : SV} (h : EV m ds e r) : EX m ds e fun v H => Dq m.S.K H v r := h
theorem EV.cast {e : Expr} {r r' : SV} (h : EV m ds e r) (q : r = r') : EV m ds e r' := q ▸ h
theorem TV.cast {e : Expr} {b b' : Bool} (h : TV m ds e b) (q : b = b') : TV m ds e b' := q ▸ h
theorem EX.imp (ok : m.Ok) {e : Expr} {Post Post' : V → Hp → Prop} (h : EX m ds e Post) (q : ∀ v H, m.R m.H0 H → Post v H → Post' v H) : EX m ds e Post' := fun σ H hr hs Q k =>
  h σ H hr hs Q fun v H2 r p => k v H2 r (q v H2 (ok.trans hr r) p)
/-! #### names, constants -/
theorem ev_var (ok : m.Ok) (j : Nat) {x : Str} {r : SV} (hN : m.S.N[j]? = some x) (hd : ds[j]? = some (some r)) (hv : ∀ i, Vis (m.F i).env.scope x) (h1 : (x == ("__debug__" : Str)) = false := by decide) (h2 : (x == ("__classdict__" : Str)) = false := by decide) :
    EV m ds (.Name x pos) r := fun σ H hr hs Q k => by
  obtain ⟨v, e, q⟩ := hs.2 j r hd
  exact wE_of (fun i => pe_var (i := j) (by rw [ok.hN i]; exact hN) (hv i) h1 h2) ⟨v, e, k v H (ok.refl H) q⟩
theorem ev_int (ok : m.Ok) {i j pos} : EV m ds (.Constant (.int i) j pos) (.d (.int i)) := fun σ H hr hs Q k => wE_of (fun _ => pe_int) (k _ H (ok.refl H) (.int i))
theorem ev_str (ok : m.Ok) {x j pos} : EV m ds (.Constant (.str x) j pos) (.d (.str x)) := fun σ H hr hs Q k => wE_of (fun _ => pe_str) (k _ H (ok.refl H) (.str x))
theorem ev_bl (ok : m.Ok) {b j pos} : EV m ds (.Constant (.bool b) j pos) (.d (.bool b)) := fun σ H hr hs Q k => wE_of (fun _ => pe_bl) (k _ H (ok.refl H) (.bl b))
theorem ev_non (ok : m.Ok) {j pos} : EV m ds (.Constant .none j pos) (.d .none) := fun σ H hr hs Q k => wE_of (fun _ => pe_non) (k _ H (ok.refl H) .non)
/-- a constant of the module -/
theorem ev_glob (ok : m.Ok) {x : Str} {r : SV} {v : V} {u : Value} (hm : m.S.mg x = some u) (rv : RelV v u) (hq : ∀ H, Dq m.S.K H v r) (hg : ∀ i, Gl (m.F i) x) (h1 : (x == ("__debug__" : Str)) = false := by decide) : EV m ds (.Name x pos) r := fun σ H hr hs Q k =>
  wE_of (fun i => pe_glob (hg i) (by rw [ok.hm i]; exact hm) rv h1) (k _ H (ok.refl H) (hq H))
/-! #### two values -/
theorem wE_op (ok : m.Ok) {a b : Expr} {op : Operator} {r : R2} (ho : ∀ i, OpR (m.F i) (binaryOp op) r) {σ : L2.St} {H : Hp} {Q : VK} (h : wE m.F a σ H fun x H1 => wE m.F b σ H1 fun y H2 => r x y H2 Q) : wE m.F (.BinOp a op b pos) σ H Q :=
  wE_of (fun i => pe_op (ho i) (wE_ok i) (wE_ok i)) h
theorem Dp.int_inv {K : PySem.W.Frag} {H : Hp} {v : V} {i : Int} (h : Dp K H v (.int i)) : v = .int i := by cases h; rfl
theorem Dp.bl_inv {K : PySem.W.Frag} {H : Hp} {v : V} {b : Bool} (h : Dp K H v (.bool b)) : v = .bl b := by cases h; rfl
theorem Dp.str_inv {K : PySem.W.Frag} {H : Hp} {v : V} {x : Str} (h : Dp K H v (.str x)) : v = .str x := by cases h; rfl
theorem Dp.non_inv {K : PySem.W.Frag} {H : Hp} {v : V} (h : Dp K H v .none) : v = .non := by cases h; rfl
theorem Dp.tup_inv {K : PySem.W.Frag} {H : Hp} {v : V} {xs : List PyData} (h : Dp K H v (.tuple xs)) : ∃ a vs, v = .ref a ∧ SqT K H a vs ∧ DpAll K H vs xs := by
  cases h with
  | tup h1 h2 => exact ⟨_, _, rfl, h1, h2⟩
theorem Dp.lst_inv {K : PySem.W.Frag} {H : Hp} {v : V} {xs : List PyData} (h : Dp K H v (.list xs)) : ∃ a vs, v = .ref a ∧ SqL K H a vs ∧ DpAll K H vs xs := by
  cases h with
  | lst h1 h2 => exact ⟨_, _, rfl, h1, h2⟩
theorem dpa_get {K : PySem.W.Frag} {H : Hp} : ∀ {vs : List V} {xs : List PyData} {j : Nat} {x : PyData}, DpAll K H vs xs → xs[j]? = some x → ∃ v, vs[j]? = some v ∧ Dp K H v x
  | _, _, _, _, .nil, e => by simp at e
  | _, _, 0, _, .cons h _, e => by simp at e; subst e; exact ⟨_, rfl, h⟩
  | _, _, j + 1, _, .cons _ t, e => by
    obtain ⟨v, a, b⟩ := dpa_get (j := j) t (by simpa using e)
    exact ⟨v, by simpa using a, b⟩
theorem dpa_get' {K : PySem.W.Frag} {H : Hp} : ∀ {vs : List V} {xs : List PyData} {j : Nat} {v : V}, DpAll K H vs xs → vs[j]? = some v → ∃ x, xs[j]? = some x ∧ Dp K H v x
  | _, _, _, _, .nil, e => by simp at e
  | _, _, 0, _, .cons h _, e => by simp at e; subst e; exact ⟨_, rfl, h⟩
  | _, _, j + 1, _, .cons _ t, e => by
    obtain ⟨v, a, b⟩ := dpa_get' (j := j) t (by simpa using e)
    exact ⟨v, by simpa using a, b⟩
theorem dpa_len {K : PySem.W.Frag} {H : Hp} : ∀ {vs : List V} {xs : List PyData}, DpAll K H vs xs → vs.length = xs.length
  | _, _, .nil => rfl
  | _, _, .cons _ t => by rw [List.length_cons, List.length_cons, dpa_len t]
/-- two ints, by an operator's rule -/
theorem ev_opI (ok : m.Ok) {a b : Expr} {op : Operator} {x y : Int} {C : Int → Int → Prop} {g : Int → Int → V} {z : PyData} (ho : ∀ i, OpR (m.F i) (binaryOp op) (rI C g)) (ha : EV m ds a (.d (.int x))) (hb : EV m ds b (.d (.int y))) (hc : C x y) (hz : ∀ H, Dp m.S.K H (g x y) z) :
    EV m ds (.BinOp a op b pos) (.d z) := fun σ H hr hs Q k => by
  refine wE_op ok ho (ha σ H hr hs _ fun v H1 r1 q1 => hb σ H1 (ok.trans hr r1) (ok.sl r1 hs) _ fun u H2 r2 q2 => ?_)
  rw [Dp.int_inv q1, Dp.int_inv q2]
  exact ⟨x, y, rfl, rfl, hc, k _ H2 (ok.trans r1 r2) (hz H2)⟩
theorem ev_opI0 (ok : m.Ok) {a b : Expr} {op : Operator} {x y : Int} {g : Int → Int → V} {z : PyData} (ho : ∀ i, OpR (m.F i) (binaryOp op) (rI0 g)) (ha : EV m ds a (.d (.int x))) (hb : EV m ds b (.d (.int y))) (hz : ∀ H, Dp m.S.K H (g x y) z) :
    EV m ds (.BinOp a op b pos) (.d z) := fun σ H hr hs Q k => by
  refine wE_op ok ho (ha σ H hr hs _ fun v H1 r1 q1 => hb σ H1 (ok.trans hr r1) (ok.sl r1 hs) _ fun u H2 r2 q2 => ?_)
  rw [Dp.int_inv q1, Dp.int_inv q2]
  exact ⟨x, y, rfl, rfl, k _ H2 (ok.trans r1 r2) (hz H2)⟩
theorem ev_add (ok : m.Ok) {a b : Expr} {x y : Int} (ha : EV m ds a (.d (.int x))) (hb : EV m ds b (.d (.int y))) : EV m ds (.BinOp a .Add b pos) (.d (.int (x + y))) := ev_opI0 ok (fun _ => op_add) ha hb fun _ => .int _
theorem ev_sub (ok : m.Ok) {a b : Expr} {x y : Int} (ha : EV m ds a (.d (.int x))) (hb : EV m ds b (.d (.int y))) : EV m ds (.BinOp a .Sub b pos) (.d (.int (x - y))) := ev_opI0 ok (fun _ => op_sub) ha hb fun _ => .int _
theorem ev_mul (ok : m.Ok) {a b : Expr} {x y : Int} (ha : EV m ds a (.d (.int x))) (hb : EV m ds b (.d (.int y))) (hc : CMul x y) : EV m ds (.BinOp a .Mult b pos) (.d (.int (x * y))) := ev_opI ok (fun _ => op_mul) ha hb hc fun _ => .int _
theorem ev_div (ok : m.Ok) {a b : Expr} {x y : Int} (ha : EV m ds a (.d (.int x))) (hb : EV m ds b (.d (.int y))) (hc : CDivW x y) : EV m ds (.BinOp a .FloorDiv b pos) (.d (.int (x / y))) := ev_opI ok (fun _ => op_fdivW) ha hb hc fun _ => .int _
theorem ev_mod (ok : m.Ok) {a b : Expr} {x y : Int} (ha : EV m ds a (.d (.int x))) (hb : EV m ds b (.d (.int y))) (hc : 0 < y) : EV m ds (.BinOp a .Mod b pos) (.d (.int (x % y))) := ev_opI ok (C := fun _ j => 0 < j) (fun _ => op_mod) ha hb hc fun _ => .int _
theorem ev_pow (ok : m.Ok) {a b : Expr} {x y : Int} (ha : EV m ds a (.d (.int x))) (hb : EV m ds b (.d (.int y))) (hc : CPow x y) : EV m ds (.BinOp a .Pow b pos) (.d (.int (x ^ y.toNat))) := ev_opI ok (fun _ => op_pow) ha hb hc fun _ => .int _
theorem ev_neg (ok : m.Ok) {a : Expr} {x : Int} (ha : EV m ds a (.d (.int x))) : EV m ds (.UnaryOp .USub a pos) (.d (.int (-x))) := fun σ H hr hs Q k => by
  refine wE_of (fun i => pe_un un_neg (wE_ok i)) (ha σ H hr hs _ fun v H1 r1 q1 => ?_)
  rw [Dp.int_inv q1]
  exact ⟨x, rfl, k _ H1 r1 (.int _)⟩
/-! #### comparisons as values -/
theorem wE_cmp (ok : m.Ok) {a b : Expr} {op : CmpOp} {r : R2} (ho : ∀ i, OpR (m.F i) (compareOp op) r) (hm : behindInMarks op b = false) {σ : L2.St} {H : Hp} {Q : VK} (h : wE m.F a σ H fun x H1 => wE m.F b σ H1 fun y H2 => r x y H2 Q) : wE m.F (.Compare a [op] [b] pos) σ H Q :=
  wE_of (fun i => pe_cmpR (ho i) (wE_ok i) (wE_ok i) hm) h
theorem ev_cmpI (ok : m.Ok) {a b : Expr} {op : CmpOp} {x y : Int} {p : Int → Int → Bool} (ho : ∀ i, OpR (m.F i) (compareOp op) (rI0 fun i j => .bl (p i j))) (hm : behindInMarks op b = false) (ha : EV m ds a (.d (.int x))) (hb : EV m ds b (.d (.int y))) :
    EV m ds (.Compare a [op] [b] pos) (.d (.bool (p x y))) := fun σ H hr hs Q k => by
  refine wE_cmp ok ho hm (ha σ H hr hs _ fun v H1 r1 q1 => hb σ H1 (ok.trans hr r1) (ok.sl r1 hs) _ fun u H2 r2 q2 => ?_)
  rw [Dp.int_inv q1, Dp.int_inv q2]
  exact ⟨x, y, rfl, rfl, k _ H2 (ok.trans r1 r2) (.bl _)⟩
theorem ev_lt (ok : m.Ok) {a b : Expr} {x y : Int} (ha : EV m ds a (.d (.int x))) (hb : EV m ds b (.d (.int y))) : EV m ds (.Compare a [.Lt] [b] pos) (.d (.bool (decide (x < y)))) := ev_cmpI ok (p := fun i j => decide (i < j)) (fun _ => op_lt) (nomark _) ha hb
theorem ev_le (ok : m.Ok) {a b : Expr} {x y : Int} (ha : EV m ds a (.d (.int x))) (hb : EV m ds b (.d (.int y))) : EV m ds (.Compare a [.LtE] [b] pos) (.d (.bool (decide (x ≤ y)))) := ev_cmpI ok (p := fun i j => decide (i ≤ j)) (fun _ => op_le) (nomark _) ha hb
theorem ev_gt (ok : m.Ok) {a b : Expr} {x y : Int} (ha : EV m ds a (.d (.int x))) (hb : EV m ds b (.d (.int y))) : EV m ds (.Compare a [.Gt] [b] pos) (.d (.bool (decide (y < x)))) := ev_cmpI ok (p := fun i j => decide (j < i)) (fun _ => op_gt) (nomark _) ha hb
theorem ev_ge (ok : m.Ok) {a b : Expr} {x y : Int} (ha : EV m ds a (.d (.int x))) (hb : EV m ds b (.d (.int y))) : EV m ds (.Compare a [.GtE] [b] pos) (.d (.bool (decide (y ≤ x)))) := ev_cmpI ok (p := fun i j => decide (j ≤ i)) (fun _ => op_ge) (nomark _) ha hb
/-- == of data -/
theorem ev_eq (ok : m.Ok) {a b : Expr} {x y : PyData} (ha : EV m ds a (.d x)) (hb : EV m ds b (.d y)) (h1 : SeqAt.shaped x = true) (h2 : SeqAt.shaped y = true) : EV m ds (.Compare a [.Eq] [b] pos) (.d (.bool (PyData.eqv x y))) := fun σ H hr hs Q k => by
  refine wE_cmp ok (r := rEqD m.S.K) (fun i => by rw [← ok.hK i]; exact op_eqD (ok.room i).units) (nomark _) (ha σ H hr hs _ fun v H1 r1 q1 => hb σ H1 (ok.trans hr r1) (ok.sl r1 hs) _ fun u H2 r2 q2 => ?_)
  exact ⟨x, y, ok.dp r2 q1, q2, h1, h2, k _ H2 (ok.trans r1 r2) (.bl _)⟩
theorem ev_ne (ok : m.Ok) {a b : Expr} {x y : PyData} (ha : EV m ds a (.d x)) (hb : EV m ds b (.d y)) (h1 : SeqAt.shaped x = true) (h2 : SeqAt.shaped y = true) : EV m ds (.Compare a [.NotEq] [b] pos) (.d (.bool (!PyData.eqv x y))) := fun σ H hr hs Q k => by
  refine wE_cmp ok (r := rNeD m.S.K) (fun i => by rw [← ok.hK i]; exact op_neD (ok.room i).units) (nomark _) (ha σ H hr hs _ fun v H1 r1 q1 => hb σ H1 (ok.trans hr r1) (ok.sl r1 hs) _ fun u H2 r2 q2 => ?_)
  exact ⟨x, y, ok.dp r2 q1, q2, h1, h2, k _ H2 (ok.trans r1 r2) (.bl _)⟩
/-- == of ints, of texts -/
theorem ev_eqI (ok : m.Ok) {a b : Expr} {x y : Int} (ha : EV m ds a (.d (.int x))) (hb : EV m ds b (.d (.int y))) : EV m ds (.Compare a [.Eq] [b] pos) (.d (.bool (decide (x = y)))) :=
  (ev_eq ok ha hb rfl rfl).cast (by show SV.d (.bool (x == y)) = _; rw [Bool.beq_eq_decide_eq])
theorem ev_neI (ok : m.Ok) {a b : Expr} {x y : Int} (ha : EV m ds a (.d (.int x))) (hb : EV m ds b (.d (.int y))) : EV m ds (.Compare a [.NotEq] [b] pos) (.d (.bool (!decide (x = y)))) :=
  (ev_ne ok ha hb rfl rfl).cast (by show SV.d (.bool (!(x == y))) = _; rw [Bool.beq_eq_decide_eq])
theorem ev_eqS (ok : m.Ok) {a b : Expr} {x y : Str} (ha : EV m ds a (.d (.str x))) (hb : EV m ds b (.d (.str y))) : EV m ds (.Compare a [.Eq] [b] pos) (.d (.bool (decide (x = y)))) := fun σ H hr hs Q k => by
  refine wE_cmp ok (r := rEq) (fun i => op_eq) (nomark _) (ha σ H hr hs _ fun v H1 r1 q1 => hb σ H1 (ok.trans hr r1) (ok.sl r1 hs) _ fun u H2 r2 q2 => ?_)
  rw [Dp.str_inv q1, Dp.str_inv q2]
  refine ⟨rfl, k _ H2 (ok.trans r1 r2) ?_⟩
  have e : decide (V.str x = V.str y) = decide (x = y) := by
    by_cases h : x = y
    · rw [decide_eq_true h, decide_eq_true (congrArg V.str h)]
    · rw [decide_eq_false h, decide_eq_false fun q => h (V.str.inj q)]
  rw [e]
  exact .bl _
/-- is None -/
def isNon : PyData → Bool
  | .none => true
  | _ => false
theorem Dp.isNon {K : PySem.W.Frag} {H : Hp} {v : V} {x : PyData} (h : Dp K H v x) : decide (v = .non) = isNon x := by
  cases h <;> simp [Gm.isNon]
theorem ev_isN (ok : m.Ok) {a : Expr} {x : PyData} {j p'} (ha : EV m ds a (.d x)) : EV m ds (.Compare a [.Is] [.Constant .none j p'] pos) (.d (.bool (isNon x))) := fun σ H hr hs Q k => by
  refine wE_of (fun i => pe_cmp (pc_isN (wE_ok i)) rfl) (ha σ H hr hs _ fun v H1 r1 q1 => ?_)
  exact k _ H1 r1 (by rw [Dp.isNon q1]; exact .bl _)
theorem ev_notN (ok : m.Ok) {a : Expr} {x : PyData} {j p'} (ha : EV m ds a (.d x)) : EV m ds (.Compare a [.IsNot] [.Constant .none j p'] pos) (.d (.bool (!isNon x))) := fun σ H hr hs Q k => by
  refine wE_of (fun i => pe_cmp (pc_notN (wE_ok i)) rfl) (ha σ H hr hs _ fun v H1 r1 q1 => ?_)
  exact k _ H1 r1 (by rw [Dp.isNon q1]; exact .bl _)
/-- a <= b <= c and the like -/
theorem ev_chain (ok : m.Ok) {a b c : Expr} {op op' : CmpOp} {x y z : Int} {p p' : Int → Int → Bool} (ho : ∀ i, OpR (m.F i) (compareOp op) (rI0 fun i j => .bl (p i j))) (ho' : ∀ i, OpR (m.F i) (compareOp op') (rI0 fun i j => .bl (p' i j)))
    (h1 : lastMarks [op, op'] [b, c] = false) (ha : EV m ds a (.d (.int x))) (hb : EV m ds b (.d (.int y))) (hc : EV m ds c (.d (.int z)))  :
    EV m ds (.Compare a [op, op'] [b, c] pos) (.d (.bool (p x y && p' y z))) := fun σ H hr hs Q k => by
  refine wE_of (fun i => pe_chain (ho i) (ho' i) (wE_ok i) (wE_ok i) (wE_ok i) h1) (ha σ H hr hs _ fun v H1 r1 q1 => hb σ H1 (ok.trans hr r1) (ok.sl r1 hs) _ fun u H2 r2 q2 => ?_)
  rw [Dp.int_inv q1, Dp.int_inv q2]
  refine ⟨x, y, rfl, rfl, p x y, rfl, ?_⟩
  cases e : p x y with
  | false =>
    rw [if_neg Bool.false_ne_true]
    exact k _ H2 (ok.trans r1 r2) (by show Dp _ _ _ (.bool (p x y && p' y z)); rw [e]; exact .bl false)
  | true =>
    rw [if_pos rfl]
    refine hc σ H2 (ok.trans hr (ok.trans r1 r2)) (ok.sl (ok.trans r1 r2) hs) _ fun t H3 r3 q3 => ?_
    rw [Dp.int_inv q3]
    exact ⟨y, z, rfl, rfl, k _ H3 (ok.trans (ok.trans r1 r2) r3) (by show Dp _ _ _ (.bool (p x y && p' y z)); rw [e]; exact .bl _)⟩
theorem ev_leLe (ok : m.Ok) {a b c : Expr} {x y z : Int} (ha : EV m ds a (.d (.int x))) (hb : EV m ds b (.d (.int y))) (hc : EV m ds c (.d (.int z))) (h1 : lastMarks [CmpOp.LtE, CmpOp.LtE] [b, c] = false := by with_unfolding_all rfl) : EV m ds (.Compare a [.LtE, .LtE] [b, c] pos) (.d (.bool (decide (x ≤ y) && decide (y ≤ z)))) :=
  ev_chain ok (p := fun i j => decide (i ≤ j)) (p' := fun i j => decide (i ≤ j)) (fun _ => op_le) (fun _ => op_le) h1 ha hb hc
/-! #### tests -/
theorem tv_cmpI (ok : m.Ok) {a b : Expr} {op : CmpOp} {x y : Int} {p : Int → Int → Bool} (ho : ∀ i, OpR (m.F i) (compareOp op) (rI0 fun i j => .bl (p i j))) (hm : behindInMarks op b = false) (ha : EV m ds a (.d (.int x))) (hb : EV m ds b (.d (.int y))) :
    TV m ds (.Compare a [op] [b] pos) (p x y) := fun σ H hr hs Q k => by
  refine wT_of (fun i => pt_cmpR (ho i) (wE_ok i) (wE_ok i) hm) (ha σ H hr hs _ fun v H1 r1 q1 => hb σ H1 (ok.trans hr r1) (ok.sl r1 hs) _ fun u H2 r2 q2 => ?_)
  rw [Dp.int_inv q1, Dp.int_inv q2]
  exact ⟨x, y, rfl, rfl, _, rfl, k H2 (ok.trans r1 r2)⟩
theorem tv_lt (ok : m.Ok) {a b : Expr} {x y : Int} (ha : EV m ds a (.d (.int x))) (hb : EV m ds b (.d (.int y))) : TV m ds (.Compare a [.Lt] [b] pos) (decide (x < y)) := tv_cmpI ok (p := fun i j => decide (i < j)) (fun _ => op_lt) (nomark _) ha hb
theorem tv_le (ok : m.Ok) {a b : Expr} {x y : Int} (ha : EV m ds a (.d (.int x))) (hb : EV m ds b (.d (.int y))) : TV m ds (.Compare a [.LtE] [b] pos) (decide (x ≤ y)) := tv_cmpI ok (p := fun i j => decide (i ≤ j)) (fun _ => op_le) (nomark _) ha hb
theorem tv_gt (ok : m.Ok) {a b : Expr} {x y : Int} (ha : EV m ds a (.d (.int x))) (hb : EV m ds b (.d (.int y))) : TV m ds (.Compare a [.Gt] [b] pos) (decide (y < x)) := tv_cmpI ok (p := fun i j => decide (j < i)) (fun _ => op_gt) (nomark _) ha hb
theorem tv_ge (ok : m.Ok) {a b : Expr} {x y : Int} (ha : EV m ds a (.d (.int x))) (hb : EV m ds b (.d (.int y))) : TV m ds (.Compare a [.GtE] [b] pos) (decide (y ≤ x)) := tv_cmpI ok (p := fun i j => decide (j ≤ i)) (fun _ => op_ge) (nomark _) ha hb
theorem tv_chain (ok : m.Ok) {a b c : Expr} {op op' : CmpOp} {x y z : Int} {p p' : Int → Int → Bool} (ho : ∀ i, OpR (m.F i) (compareOp op) (rI0 fun i j => .bl (p i j))) (ho' : ∀ i, OpR (m.F i) (compareOp op') (rI0 fun i j => .bl (p' i j)))
    (h1 : lastMarks [op, op'] [b, c] = false) (ha : EV m ds a (.d (.int x))) (hb : EV m ds b (.d (.int y))) (hc : EV m ds c (.d (.int z)))  :
    TV m ds (.Compare a [op, op'] [b, c] pos) (p x y && p' y z) := fun σ H hr hs Q k => by
  refine wT_of (fun i => pt_chain (ho i) (ho' i) (wE_ok i) (wE_ok i) (wE_ok i) h1) (ha σ H hr hs _ fun v H1 r1 q1 => hb σ H1 (ok.trans hr r1) (ok.sl r1 hs) _ fun u H2 r2 q2 => ?_)
  rw [Dp.int_inv q1, Dp.int_inv q2]
  refine ⟨x, y, rfl, rfl, p x y, rfl, ?_⟩
  cases e : p x y with
  | false =>
    rw [if_neg Bool.false_ne_true]
    refine ⟨false, rfl, ?_⟩
    have q := k H2 (ok.trans r1 r2)
    rw [e] at q
    exact q
  | true =>
    rw [if_pos rfl]
    refine hc σ H2 (ok.trans hr (ok.trans r1 r2)) (ok.sl (ok.trans r1 r2) hs) _ fun t H3 r3 q3 => ?_
    rw [Dp.int_inv q3]
    have q := k H3 (ok.trans (ok.trans r1 r2) r3)
    rw [e] at q
    exact ⟨y, z, rfl, rfl, _, rfl, q⟩
theorem tv_leLe (ok : m.Ok) {a b c : Expr} {x y z : Int} (ha : EV m ds a (.d (.int x))) (hb : EV m ds b (.d (.int y))) (hc : EV m ds c (.d (.int z))) (h1 : lastMarks [CmpOp.LtE, CmpOp.LtE] [b, c] = false := by with_unfolding_all rfl) : TV m ds (.Compare a [.LtE, .LtE] [b, c] pos) (decide (x ≤ y) && decide (y ≤ z)) :=
  tv_chain ok (p := fun i j => decide (i ≤ j)) (p' := fun i j => decide (i ≤ j)) (fun _ => op_le) (fun _ => op_le) h1 ha hb hc
/-- an expression that gives a bool -/
theorem tv_val (ok : m.Ok) {e : Expr} {b : Bool} (h : EV m ds e (.d (.bool b))) (he : ∀ i, ∀ whole, isTrue e (m.F i).env whole = (do let v ← whole; standAt e.pos; holding [v] (truthy v)) := by intro _ _; rfl) : TV m ds e b := fun σ H hr hs Q k => by
  refine wT_of (fun i => pt_val (wE_ok i) (he i)) (h σ H hr hs _ fun v H1 r1 q1 => ?_)
  exact ⟨b, Dp.bl_inv q1, k H1 r1⟩
theorem wT_cmp (ok : m.Ok) {a b : Expr} {op : CmpOp} {r : R2} (ho : ∀ i, OpR (m.F i) (compareOp op) r) (hm : behindInMarks op b = false) {σ : L2.St} {H : Hp} {Q : Bool → Hp → Prop} (h : wE m.F a σ H fun x H1 => wE m.F b σ H1 fun y H2 => r x y H2 fun v H3 => ∃ k, v = .bl k ∧ Q k H3) : wT m.F (.Compare a [op] [b] pos) σ H Q :=
  wT_of (fun i => pt_cmpR (ho i) (wE_ok i) (wE_ok i) hm) h
theorem tv_eq (ok : m.Ok) {a b : Expr} {x y : PyData} (ha : EV m ds a (.d x)) (hb : EV m ds b (.d y)) (h1 : SeqAt.shaped x = true) (h2 : SeqAt.shaped y = true) : TV m ds (.Compare a [.Eq] [b] pos) (PyData.eqv x y) := fun σ H hr hs Q k => by
  refine wT_cmp ok (r := rEqD m.S.K) (fun i => by rw [← ok.hK i]; exact op_eqD (ok.room i).units) (nomark _) (ha σ H hr hs _ fun v H1 r1 q1 => hb σ H1 (ok.trans hr r1) (ok.sl r1 hs) _ fun u H2 r2 q2 => ?_)
  exact ⟨x, y, ok.dp r2 q1, q2, h1, h2, _, rfl, k H2 (ok.trans r1 r2)⟩
theorem tv_ne (ok : m.Ok) {a b : Expr} {x y : PyData} (ha : EV m ds a (.d x)) (hb : EV m ds b (.d y)) (h1 : SeqAt.shaped x = true) (h2 : SeqAt.shaped y = true) : TV m ds (.Compare a [.NotEq] [b] pos) (!PyData.eqv x y) := fun σ H hr hs Q k => by
  refine wT_cmp ok (r := rNeD m.S.K) (fun i => by rw [← ok.hK i]; exact op_neD (ok.room i).units) (nomark _) (ha σ H hr hs _ fun v H1 r1 q1 => hb σ H1 (ok.trans hr r1) (ok.sl r1 hs) _ fun u H2 r2 q2 => ?_)
  exact ⟨x, y, ok.dp r2 q1, q2, h1, h2, _, rfl, k H2 (ok.trans r1 r2)⟩
theorem tv_eqI (ok : m.Ok) {a b : Expr} {x y : Int} (ha : EV m ds a (.d (.int x))) (hb : EV m ds b (.d (.int y))) : TV m ds (.Compare a [.Eq] [b] pos) (decide (x = y)) := (tv_eq ok ha hb rfl rfl).cast (by show (x == y) = _; rw [Bool.beq_eq_decide_eq])
theorem tv_neI (ok : m.Ok) {a b : Expr} {x y : Int} (ha : EV m ds a (.d (.int x))) (hb : EV m ds b (.d (.int y))) : TV m ds (.Compare a [.NotEq] [b] pos) (!decide (x = y)) := (tv_ne ok ha hb rfl rfl).cast (by show (!(x == y)) = _; rw [Bool.beq_eq_decide_eq])
theorem tv_isN (ok : m.Ok) {a : Expr} {x : PyData} {j p'} (ha : EV m ds a (.d x)) : TV m ds (.Compare a [.Is] [.Constant .none j p'] pos) (isNon x) := fun σ H hr hs Q k => by
  refine wT_of (fun i => pt_cmp (pc_isN (wE_ok i)) rfl) (ha σ H hr hs _ fun v H1 r1 q1 => ?_)
  exact ⟨_, rfl, by rw [Dp.isNon q1]; exact k H1 r1⟩
theorem tv_notN (ok : m.Ok) {a : Expr} {x : PyData} {j p'} (ha : EV m ds a (.d x)) : TV m ds (.Compare a [.IsNot] [.Constant .none j p'] pos) (!isNon x) := fun σ H hr hs Q k => by
  refine wT_of (fun i => pt_cmp (pc_notN (wE_ok i)) rfl) (ha σ H hr hs _ fun v H1 r1 q1 => ?_)
  exact ⟨_, rfl, by rw [Dp.isNon q1]; exact k H1 r1⟩
theorem tv_not (ok : m.Ok) {a : Expr} {b : Bool} (h : TV m ds a b) : TV m ds (.UnaryOp .Not a pos) (!b) := fun σ H hr hs Q k =>
  wT_of (fun i => pt_not (wT_ok i)) (h σ H hr hs _ fun H1 r1 => k H1 r1)
/-- the tests of and, or -/
def wW {ι : Type} (F : ι → Cx) (e : Expr) : TT := fun σ H Q => ∃ t, (∀ i, PW (F i) e t) ∧ t σ H Q
theorem wW_ok {ι : Type} {F : ι → Cx} {e : Expr} (i : ι) : PW (F i) e (wW F e) := ⟨fun wh pins s σ H Q I ⟨t, h, q⟩ => (h i).run wh pins s σ H Q I q⟩
def WV (m : Mo ι) (ds : Sd) (e : Expr) (b : Bool) : Prop := ∀ σ H, m.R m.H0 H → Sl m.S.K H σ ds → ∀ Q : Bool → Hp → Prop, (∀ H2, m.R H H2 → Q b H2) → wW m.F e σ H Q
theorem tv_w (ok : m.Ok) {e : Expr} {b : Bool} (h : WV m ds e b) : TV m ds e b := fun σ H hr hs Q k => by
  obtain ⟨t, ht, q⟩ := h σ H hr hs Q k
  exact ⟨t, fun i => (ht i).pt, q⟩
theorem wv_and1 (ok : m.Ok) {a : Expr} {b : Bool} (h : TV m ds a b) : WV m ds (.BoolOp .And [a] pos) b := fun σ H hr hs Q k => ⟨_, fun i => pw_and1 (wT_ok i), h σ H hr hs Q k⟩
theorem wv_or1 (ok : m.Ok) {a : Expr} {b : Bool} (h : TV m ds a b) : WV m ds (.BoolOp .Or [a] pos) b := fun σ H hr hs Q k => ⟨_, fun i => pw_or1 (wT_ok i), h σ H hr hs Q k⟩
theorem wv_and (ok : m.Ok) {a c : Expr} {rest : List Expr} {b b' : Bool} (h : TV m ds a b) (h' : b = true → WV m ds (.BoolOp .And (c :: rest) pos) b') : WV m ds (.BoolOp .And (a :: c :: rest) pos) (b && b') := fun σ H hr hs Q k => by
  refine ⟨_, fun i => pw_and (wT_ok i) (wW_ok i), h σ H hr hs _ fun H1 r1 => ?_⟩
  cases b with
  | false =>
    rw [if_neg Bool.false_ne_true]
    exact k H1 r1
  | true =>
    rw [if_pos rfl]
    exact h' rfl σ H1 (ok.trans hr r1) (ok.sl r1 hs) _ fun H2 r2 => k H2 (ok.trans r1 r2)
theorem wv_or (ok : m.Ok) {a c : Expr} {rest : List Expr} {b b' : Bool} (h : TV m ds a b) (h' : b = false → WV m ds (.BoolOp .Or (c :: rest) pos) b') : WV m ds (.BoolOp .Or (a :: c :: rest) pos) (b || b') := fun σ H hr hs Q k => by
  refine ⟨_, fun i => pw_or (wT_ok i) (wW_ok i), h σ H hr hs _ fun H1 r1 => ?_⟩
  cases b with
  | true =>
    rw [if_pos rfl]
    exact k H1 r1
  | false =>
    rw [if_neg Bool.false_ne_true]
    exact h' rfl σ H1 (ok.trans hr r1) (ok.sl r1 hs) _ fun H2 r2 => k H2 (ok.trans r1 r2)
/-- and, or, not as values -/
theorem ev_one (ok : m.Ok) {a : Expr} {op} {r : SV} (h : EV m ds a r) : EV m ds (.BoolOp op [a] pos) r := fun σ H hr hs Q k => wE_of (fun i => pe_one (wE_ok i)) (h σ H hr hs Q k)
theorem ev_and (ok : m.Ok) {a c : Expr} {rest : List Expr} {b b' : Bool} (h : EV m ds a (.d (.bool b))) (h' : b = true → EV m ds (.BoolOp .And (c :: rest) pos) (.d (.bool b'))) : EV m ds (.BoolOp .And (a :: c :: rest) pos) (.d (.bool (b && b'))) := fun σ H hr hs Q k => by
  refine wE_of (fun i => pe_and (wE_ok i) (wE_ok i)) (h σ H hr hs _ fun v H1 r1 q1 => ⟨b, Dp.bl_inv q1, ?_⟩)
  cases b with
  | false =>
    rw [if_neg Bool.false_ne_true]
    exact k _ H1 r1 (.bl false)
  | true =>
    rw [if_pos rfl]
    exact h' rfl σ H1 (ok.trans hr r1) (ok.sl r1 hs) _ fun v H2 r2 q2 => k v H2 (ok.trans r1 r2) q2
theorem ev_or (ok : m.Ok) {a c : Expr} {rest : List Expr} {b b' : Bool} (h : EV m ds a (.d (.bool b))) (h' : b = false → EV m ds (.BoolOp .Or (c :: rest) pos) (.d (.bool b'))) : EV m ds (.BoolOp .Or (a :: c :: rest) pos) (.d (.bool (b || b'))) := fun σ H hr hs Q k => by
  refine wE_of (fun i => pe_or (wE_ok i) (wE_ok i)) (h σ H hr hs _ fun v H1 r1 q1 => ⟨b, Dp.bl_inv q1, ?_⟩)
  cases b with
  | true =>
    rw [if_pos rfl]
    exact k _ H1 r1 (.bl true)
  | false =>
    rw [if_neg Bool.false_ne_true]
    exact h' rfl σ H1 (ok.trans hr r1) (ok.sl r1 hs) _ fun v H2 r2 q2 => k v H2 (ok.trans r1 r2) q2
theorem ev_not (ok : m.Ok) {a : Expr} {b : Bool} (h : EV m ds a (.d (.bool b))) : EV m ds (.UnaryOp .Not a pos) (.d (.bool (!b))) := fun σ H hr hs Q k =>
  wE_of (fun i => pe_not (wE_ok i)) (h σ H hr hs _ fun v H1 r1 q1 => ⟨b, Dp.bl_inv q1, k _ H1 r1 (.bl _)⟩)
theorem ev_ifR (ok : m.Ok) {c a e : Expr} {b : Bool} {r : SV} (h : TV m ds c b) (h1 : b = true → EV m ds a r) (h2 : b = false → EV m ds e r) : EV m ds (.IfExp c a e pos) r := fun σ H hr hs Q k => by
  refine wE_of (fun i => pe_ifExp (wT_ok i) (wE_ok i) (wE_ok i)) (h σ H hr hs _ fun H1 r1 => ?_)
  cases b with
  | true =>
    rw [if_pos rfl]
    exact h1 rfl σ H1 (ok.trans hr r1) (ok.sl r1 hs) _ fun v H2 r2 q2 => k v H2 (ok.trans r1 r2) q2
  | false =>
    rw [if_neg Bool.false_ne_true]
    exact h2 rfl σ H1 (ok.trans hr r1) (ok.sl r1 hs) _ fun v H2 r2 q2 => k v H2 (ok.trans r1 r2) q2
theorem ev_if (ok : m.Ok) {c a e : Expr} {b : Bool} {x y : PyData} (h : TV m ds c b) (h1 : EV m ds a (.d x)) (h2 : EV m ds e (.d y)) : EV m ds (.IfExp c a e pos) (.d (if b = true then x else y)) :=
  ev_ifR ok h (fun z => by rw [if_pos z]; exact h1) (fun z => by rw [if_neg (by rw [z]; decide)]; exact h2)
theorem ev_ifI (ok : m.Ok) {c a e : Expr} {b : Bool} {x y : Int} (h : TV m ds c b) (h1 : EV m ds a (.d (.int x))) (h2 : EV m ds e (.d (.int y))) : EV m ds (.IfExp c a e pos) (.d (.int (if b = true then x else y))) :=
  ev_ifR ok h (fun z => by rw [if_pos z]; exact h1) (fun z => by rw [if_neg (by rw [z]; decide)]; exact h2)
/-! #### arguments, displays -/
theorem ea_nil (ok : m.Ok) : EA m ds [] [] := fun σ H hr hs Q k => wA_of (fun _ => pa_nil) (k [] H (ok.refl H) .nil)
theorem ea_cons (ok : m.Ok) {e : Expr} {es : List Expr} {r : SV} {rs : List SV} (h : EV m ds e r) (h' : EA m ds es rs) (hs : ∀ i, starEach (e :: es) (m.F i).env = (false, eval e (m.F i).env) :: starEach es (m.F i).env := by intro _; rfl) : EA m ds (e :: es) (r :: rs) := fun σ H hr hl Q k =>
  wA_of (fun i => pa_cons (wE_ok i) (wA_ok i) (hs i)) (h σ H hr hl _ fun v H1 r1 q1 => h' σ H1 (ok.trans hr r1) (ok.sl r1 hl) _ fun vs H2 r2 q2 => k (v :: vs) H2 (ok.trans r1 r2) (.cons (ok.dq r2 q1) q2))
theorem DqAll.dp {K : PySem.W.Frag} {H : Hp} : ∀ {xs : List PyData} {vs : List V}, DqAll K H vs (xs.map SV.d) → DpAll K H vs xs
  | [], _, h => by cases h; exact .nil
  | x :: xs, _, h => by
    cases h with
    | cons a b => exact .cons a (DqAll.dp b)
theorem DqAll.length {K : PySem.W.Frag} {H : Hp} : ∀ {rs : List SV} {vs : List V}, DqAll K H vs rs → vs.length = rs.length
  | [], _, h => by cases h; rfl
  | _ :: _, _, h => by
    cases h with
    | cons a b => rw [List.length_cons, List.length_cons, DqAll.length b]
theorem ev_tup (ok : m.Ok) {es : List Expr} {xs : List PyData} {kk : Nat} (h : EA m ds es (xs.map SV.d)) (hz : xs.length ≤ 100) : EV m ds (.Tuple es kk pos) (.d (.tuple xs)) := fun σ H hr hs Q k => by
  refine wE_of (fun i => pe_tup (wA_ok i)) (h σ H hr hs _ fun vs H1 r1 q1 => ?_)
  have l := DqAll.length q1
  rw [List.length_map] at l
  refine ⟨Nat.le_trans (by omega : vs.length ≤ 100) (by decide), fun p np => ?_⟩
  have e := ok.new (o := HO.tup vs) np
  exact k _ _ (ok.trans r1 e) (.tup (SqT.of upd_same) (DqAll.dp (ok.dqs e q1)))
theorem ev_lst (ok : m.Ok) {es : List Expr} {xs : List PyData} (h : EA m ds es (xs.map SV.d)) (hz : xs.length ≤ 100) : EV m ds (.List es pos) (.d (.list xs)) := fun σ H hr hs Q k => by
  refine wE_of (fun i => pe_lst (wA_ok i)) (h σ H hr hs _ fun vs H1 r1 q1 => ?_)
  have l := DqAll.length q1
  rw [List.length_map] at l
  refine ⟨Nat.le_trans (by omega : vs.length ≤ 100) (by decide), fun p np => ?_⟩
  have e := ok.new (o := HO.lst vs) np
  exact k _ _ (ok.trans r1 e) (.lst (SqL.of upd_same) (DqAll.dp (ok.dqs e q1)))
theorem ev_tup2 (ok : m.Ok) {a b : Expr} {x y : PyData} {kk : Nat} (ha : EV m ds a (.d x)) (hb : EV m ds b (.d y)) (h1 : ∀ i, starEach [a, b] (m.F i).env = (false, eval a (m.F i).env) :: starEach [b] (m.F i).env := by intro _; rfl) (h2 : ∀ i, starEach [b] (m.F i).env = (false, eval b (m.F i).env) :: starEach [] (m.F i).env := by intro _; rfl) :
    EV m ds (.Tuple [a, b] kk pos) (.d (.tuple [x, y])) := ev_tup ok (xs := [x, y]) (ea_cons ok ha (ea_cons ok hb (ea_nil ok) h2) h1) (by show 2 ≤ 100; decide)
theorem ev_tup3 (ok : m.Ok) {a b c : Expr} {x y z : PyData} {kk : Nat} (ha : EV m ds a (.d x)) (hb : EV m ds b (.d y)) (hc : EV m ds c (.d z)) (h1 : ∀ i, starEach [a, b, c] (m.F i).env = (false, eval a (m.F i).env) :: starEach [b, c] (m.F i).env := by intro _; rfl)
    (h2 : ∀ i, starEach [b, c] (m.F i).env = (false, eval b (m.F i).env) :: starEach [c] (m.F i).env := by intro _; rfl) (h3 : ∀ i, starEach [c] (m.F i).env = (false, eval c (m.F i).env) :: starEach [] (m.F i).env := by intro _; rfl) :
    EV m ds (.Tuple [a, b, c] kk pos) (.d (.tuple [x, y, z])) := ev_tup ok (xs := [x, y, z]) (ea_cons ok ha (ea_cons ok hb (ea_cons ok hc (ea_nil ok) h3) h2) h1) (by show 3 ≤ 100; decide)
/-- a list that stands by itself, as data -/
theorem ev_ld (ok : m.Ok) {e : Expr} {xs : List PyData} (h : EV m ds e (.l xs)) : EV m ds e (.d (.list xs)) := fun σ H hr hs Q k => h σ H hr hs Q fun v H2 r2 d => by
  obtain ⟨a, vs, rfl, h1, h2⟩ := d
  exact k _ H2 r2 (.lst (SqL.of h1) h2)
theorem ev_lstL (ok : m.Ok) {es : List Expr} {xs : List PyData} (h : EA m ds es (xs.map SV.d)) (hz : xs.length ≤ 100) : EV m ds (.List es pos) (.l xs) := fun σ H hr hs Q k => by
  refine wE_of (fun i => pe_lst (wA_ok i)) (h σ H hr hs _ fun vs H1 r1 q1 => ?_)
  have l := DqAll.length q1
  rw [List.length_map] at l
  refine ⟨Nat.le_trans (by omega : vs.length ≤ 100) (by decide), fun p np => ?_⟩
  have e := ok.new (o := HO.lst vs) np
  exact k _ _ (ok.trans r1 e) ⟨p, vs, rfl, upd_same, DqAll.dp (ok.dqs e q1)⟩
/-! #### items -/
theorem dpa_at {K : PySem.W.Frag} {H : Hp} {vs : List V} {xs : List PyData} {i : Int} {x : PyData} (h : DpAll K H vs xs) (e : atI xs i = some x) : ∃ v, L2.atI vs i = some v ∧ Dp K H v x := by
  unfold L2.atI at e ⊢
  rw [dpa_len h]
  cases q : ixN xs.length i with
  | none => rw [q] at e; cases e
  | some j =>
    rw [q] at e
    exact dpa_get h e
theorem ev_ixT (ok : m.Ok) {a b : Expr} {xs : List PyData} {i : Int} {x : PyData} (ha : EV m ds a (.d (.tuple xs))) (hb : EV m ds b (.d (.int i))) (he : atI xs i = some x) (hp : PlainIx b) : EV m ds (.Subscript a b pos) (.d x) := fun σ H hr hs Q k => by
  refine wE_of (t := tOp (rIxT m.S.K) (wE m.F a) (wE m.F b)) (fun i => pe_ix (by rw [← ok.hK i]; exact ix_tup) (wE_ok i) (wE_ok i) hp) (ha σ H hr hs _ fun v H1 r1 q1 => hb σ H1 (ok.trans hr r1) (ok.sl r1 hs) _ fun u H2 r2 q2 => ?_)
  obtain ⟨p, vs, e1, hq, hd⟩ := Dp.tup_inv (ok.dp r2 q1)
  obtain ⟨z, hz, dz⟩ := dpa_at hd he
  exact ⟨p, vs, i, z, e1, Dp.int_inv q2, hq, hz, k _ H2 (ok.trans r1 r2) dz⟩
theorem ev_ixL (ok : m.Ok) {a b : Expr} {xs : List PyData} {i : Int} {x : PyData} (ha : EV m ds a (.d (.list xs))) (hb : EV m ds b (.d (.int i))) (he : atI xs i = some x) (hp : PlainIx b) : EV m ds (.Subscript a b pos) (.d x) := fun σ H hr hs Q k => by
  refine wE_of (t := tOp (rIxL m.S.K) (wE m.F a) (wE m.F b)) (fun i => pe_ix (by rw [← ok.hK i]; exact ix_list) (wE_ok i) (wE_ok i) hp) (ha σ H hr hs _ fun v H1 r1 q1 => hb σ H1 (ok.trans hr r1) (ok.sl r1 hs) _ fun u H2 r2 q2 => ?_)
  obtain ⟨p, vs, e1, hq, hd⟩ := Dp.lst_inv (ok.dp r2 q1)
  obtain ⟨z, hz, dz⟩ := dpa_at hd he
  exact ⟨p, vs, i, z, e1, Dp.int_inv q2, hq, hz, k _ H2 (ok.trans r1 r2) dz⟩
end
/-! The layer: calls, statements, loops, comprehensions. -/
section
variable {ι : Type} {m : Mo ι} {ds : Sd} {pos : Pos}
/-! #### calls -/
/-- a def of the module that keeps a promise -/
structure CallOk (P : Program) (w : World) (K : PySem.W.Frag) (mg : Str → Option Value) (base : Heap) (x : Str) (k : Nat) (sp : Sp) : Prop where
  ex : ∃ f fd ps, FnOk P w K mg base CX0 k f fd ps sp ∧ mg x = some (.ref f) ∧ PySem.W.keepIn K (.ref f) = true ∧ Binds K fd ps []
abbrev Ct.call (S : Ct) (x : Str) (k : Nat) (sp : Sp) : Prop := CallOk S.P S.w S.K S.mg S.base x k sp
theorem ex_call (ok : m.Ok) {x : Str} {k : Nat} {sp : Sp} (C : m.S.call x k sp) (hk : k ≤ m.k) {e : Expr} {es : List Expr} {rs : List SV} {Post : V → Hp → Prop} {p : Pos} (ha : EA m ds (e :: es) rs)
    (hsp : ∀ H vs (Q : VK), m.R m.H0 H → DqAll m.S.K H vs rs → (∀ v H2, m.R H H2 → Post v H2 → Q v H2) → sp vs H Q E0)
    (hg : ∀ i, Gl (m.F i) x := by intro _; rfl) (hdb : (x == ("__debug__" : Str)) = false := by decide)
    (he : ∀ i, starEach (e :: es) (m.F i).env = (false, eval e (m.F i).env) :: starEach es (m.F i).env := by intro _; rfl) (hpl : ∀ i, (backTo pos (starEach es (m.F i).env)).any (·.1) = false := by intro _; rfl) :
    EX m ds (.Call (.Name x p) (e :: es) [] pos) Post := fun σ H hr hs Q q => by
  obtain ⟨f, fd, ps, F, hm, kp, b⟩ := C.ex
  refine wE_of (t := tCall sp [] E0 (wA m.F (e :: es))) (fun i => pe_call (by rw [ok.hp i, ok.hw i, ok.hK i, ok.hm i, ok.hb i]; exact F) ((ok.room i).mono hk) (hg i) (by rw [ok.hm i]; exact hm) (by rw [ok.hK i]; exact kp) (by rw [ok.hK i]; exact b) .nil pass0 (wA_ok i) hdb (he i) (hpl i))
    (ha σ H hr hs _ fun vs H1 r1 q1 => ?_)
  rw [List.append_nil]
  exact hsp H1 vs Q (ok.trans hr r1) q1 fun v H2 r2 p2 => q v H2 (ok.trans r1 r2) p2
/-- a promise that tells data of data -/
def SpR (K : PySem.W.Frag) (rel : List SV → Hp → SV → Prop) : Sp := fun vs H Q _ => ∃ rs r, DqAll K H vs rs ∧ rel rs H r ∧ ∀ v H', Ex H H' → Dq K H' v r → Q v H'
theorem ev_call (ok : m.Ok) {x : Str} {k : Nat} {rel : List SV → Hp → SV → Prop} (C : m.S.call x k (SpR m.S.K rel)) (hk : k ≤ m.k) {e : Expr} {es : List Expr} {rs : List SV} {r : SV} {p : Pos} (ha : EA m ds (e :: es) rs)
    (hrel : ∀ H, m.R m.H0 H → rel rs H r)
    (hg : ∀ i, Gl (m.F i) x := by intro _; rfl) (hdb : (x == ("__debug__" : Str)) = false := by decide)
    (he : ∀ i, starEach (e :: es) (m.F i).env = (false, eval e (m.F i).env) :: starEach es (m.F i).env := by intro _; rfl) (hpl : ∀ i, (backTo pos (starEach es (m.F i).env)).any (·.1) = false := by intro _; rfl) :
    EV m ds (.Call (.Name x p) (e :: es) [] pos) r :=
  ex_call ok C hk ha (fun H vs Q hr hd q => ⟨rs, r, hd, hrel H hr, fun v H' e' d => q v H' (ok.ex e') d⟩) hg hdb he hpl
/-- a method of a class that keeps a promise -/
structure MethOk (P : Program) (w : World) (K : PySem.W.Frag) (mg : Str → Option Value) (base : Heap) (C : Addr) (x : Str) (k : Nat) (sp : Sp) : Prop where
  ex : ∃ f fd ps, FnOk P w K mg base CX0 k f fd ps sp ∧ Meth K C x f ∧ Binds K fd ps []
  cl : Cls K C
abbrev Ct.meth (S : Ct) (C : Addr) (x : Str) (k : Nat) (sp : Sp) : Prop := MethOk S.P S.w S.K S.mg S.base C x k sp
/-- an instance of C that has no attribute named x stands at a -/
def InsA (H : Hp) (a C : Addr) (x : Str) : Prop := ∃ dx fs, H a = some (.ins C dx fs) ∧ fs.lookup x = none
theorem ex_meth (ok : m.Ok) {C a : Addr} {x : Str} {k : Nat} {sp : Sp} (M : m.S.meth C x k sp) (hk : k ≤ m.k) {o e : Expr} {es : List Expr} {rs : List SV} {Post : V → Hp → Prop} {p : Pos} (ho : EV m ds o (.v (.ref a))) (hi : ∀ H, m.R m.H0 H → InsA H a C x) (ha : EA m ds (e :: es) rs)
    (hsp : ∀ H vs (Q : VK), m.R m.H0 H → DqAll m.S.K H vs rs → (∀ v H2, m.R H H2 → Post v H2 → Q v H2) → sp (.ref a :: vs) H Q E0)
    {pl : ι → Sem Bool} (hst : ∀ i, starEach (e :: es) (m.F i).env = (false, eval e (m.F i).env) :: starEach es (m.F i).env := by intro _; rfl) (hpl : ∀ i, (backTo pos (starEach es (m.F i).env)).any (·.1) = false := by intro _; rfl)
    (ht : ∀ i, eval (.Call (.Attribute o x p) (e :: es) [] pos) (m.F i).env = (do
      let ov ← eval o (m.F i).env
      standAt p.atName
      let (f, first) ← holding [ov] (getMethod ov x (pl i))
      callWith pos f first (backTo pos (starEach (e :: es) (m.F i).env)) (backToKw pos (keywordEach [] (m.F i).env))) := by intro _; rfl) :
    EX m ds (.Call (.Attribute o x p) (e :: es) [] pos) Post := fun σ H hr hs Q q => by
  obtain ⟨f, fd, ps, F, hm, b⟩ := M.ex
  refine wE_of (t := tMeth C x sp [] E0 (wE m.F o) (wA m.F (e :: es))) (fun i => pe_meth (wE_ok i) (by rw [ok.hK i]; exact M.cl) (by rw [ok.hK i]; exact hm) (by rw [ok.hp i, ok.hw i, ok.hK i, ok.hm i, ok.hb i]; exact F) ((ok.room i).mono hk) (by rw [ok.hK i]; exact b) .nil pass0 (wA_ok i) (hst i) (hpl i) (ht i))
    (ho σ H hr hs _ fun v H1 r1 q1 => ?_)
  obtain ⟨dx, fs, h1, h2⟩ := hi H1 (ok.trans hr r1)
  refine ⟨a, dx, fs, q1, h1, h2, ha σ H1 (ok.trans hr r1) (ok.sl r1 hs) _ fun vs H2 r2 q2 => ?_⟩
  rw [List.append_nil]
  rw [show v = V.ref a from q1]
  exact hsp H2 vs Q (ok.trans hr (ok.trans r1 r2)) q2 fun v H3 r3 p3 => q v H3 (ok.trans r1 (ok.trans r2 r3)) p3
theorem ex_meth0 (ok : m.Ok) {C a : Addr} {x : Str} {k : Nat} {sp : Sp} (M : m.S.meth C x k sp) (hk : k ≤ m.k) {o : Expr} {Post : V → Hp → Prop} {p : Pos} (ho : EV m ds o (.v (.ref a))) (hi : ∀ H, m.R m.H0 H → InsA H a C x)
    (hsp : ∀ H (Q : VK), m.R m.H0 H → (∀ v H2, m.R H H2 → Post v H2 → Q v H2) → sp [.ref a] H Q E0)
    {pl : ι → Sem Bool} (ht : ∀ i, eval (.Call (.Attribute o x p) [] [] pos) (m.F i).env = (do
      let ov ← eval o (m.F i).env
      standAt p.atName
      let (f, first) ← holding [ov] (getMethod ov x (pl i))
      callWith pos f first (backTo pos (starEach [] (m.F i).env)) (backToKw pos (keywordEach [] (m.F i).env))) := by intro _; rfl) :
    EX m ds (.Call (.Attribute o x p) [] [] pos) Post := fun σ H hr hs Q q => by
  obtain ⟨f, fd, ps, F, hm, b⟩ := M.ex
  refine wE_of (t := tMeth C x sp [] E0 (wE m.F o) tNil) (fun i => pe_meth0 (wE_ok i) (by rw [ok.hK i]; exact M.cl) (by rw [ok.hK i]; exact hm) (by rw [ok.hp i, ok.hw i, ok.hK i, ok.hm i, ok.hb i]; exact F) ((ok.room i).mono hk) (by rw [ok.hK i]; exact b) .nil pass0 (ht i))
    (ho σ H hr hs _ fun v H1 r1 q1 => ?_)
  obtain ⟨dx, fs, h1, h2⟩ := hi H1 (ok.trans hr r1)
  refine ⟨a, dx, fs, q1, h1, h2, ?_⟩
  show sp (v :: []) H1 Q E0
  rw [show v = V.ref a from q1]
  exact hsp H1 Q (ok.trans hr r1) fun v H3 r3 p3 => q v H3 (ok.trans r1 r3) p3
/-- o.f -/
theorem ev_fld (ok : m.Ok) {C a : Addr} {x : Str} {o : Expr} {r : SV} {p : Pos} (cl : Cls m.S.K C) (na : NoAttr m.S.K C x) (ho : EV m ds o (.v (.ref a))) (hi : ∀ H, m.R m.H0 H → ∃ dx fs v, H a = some (.ins C dx fs) ∧ fs.lookup x = some v ∧ Dq m.S.K H v r)
    (hb : ∀ i, attributeBase o x (m.F i).env (eval o (m.F i).env) = eval o (m.F i).env := by intro _; rfl) : EV m ds (.Attribute o x p) r := fun σ H hr hs Q q => by
  refine wE_of (t := tFld m.S.K (wE m.F o) x) (fun i => by rw [← ok.hK i]; exact pe_fld (wE_ok i) (hb i)) (ho σ H hr hs _ fun v H1 r1 q1 => ?_)
  obtain ⟨dx, fs, z, h1, h2, h3⟩ := hi H1 (ok.trans hr r1)
  exact ⟨a, C, dx, fs, z, q1, h1, cl, na, h2, q z H1 r1 h3⟩
/-- a built-in function, a built-in class, called -/
theorem ex_callB (ok : m.Ok) {x : Str} {id : String} {r : List V → Hp → VK → Prop} {e : Expr} {es : List Expr} {rs : List SV} {Post : V → Hp → Prop} {p : Pos} (hc : ∀ i, CallR (m.F i) (.builtin id) r) (hm : m.S.mg x = none) (hv : bootBuiltins x = some (.builtin id)) (ha : EA m ds (e :: es) rs)
    (hr' : ∀ H vs (Q : VK), m.R m.H0 H → DqAll m.S.K H vs rs → (∀ v H2, m.R H H2 → Post v H2 → Q v H2) → r vs H Q)
    (hg : ∀ i, Gl (m.F i) x := by intro _; rfl) (hn : x ≠ "__name__" := by decide) (hdb : (x == ("__debug__" : Str)) = false := by decide)
    (he : ∀ i, starEach (e :: es) (m.F i).env = (false, eval e (m.F i).env) :: starEach es (m.F i).env := by intro _; rfl) (hpl : ∀ i, (backTo pos (starEach es (m.F i).env)).any (·.1) = false := by intro _; rfl) :
    EX m ds (.Call (.Name x p) (e :: es) [] pos) Post := fun σ H hr hs Q q => by
  refine wE_of (t := tCB r (wA m.F (e :: es))) (fun i => pe_callB (hc i) (hg i) (by rw [ok.hm i]; exact hm) hv (wA_ok i) hn hdb (he i) (hpl i)) (ha σ H hr hs _ fun vs H1 r1 q1 => ?_)
  exact hr' H1 vs Q (ok.trans hr r1) q1 fun v H2 r2 p2 => q v H2 (ok.trans r1 r2) p2
theorem ex_callTy (ok : m.Ok) {x : Str} {T : String} {r : List V → Hp → VK → Prop} {e : Expr} {es : List Expr} {rs : List SV} {Post : V → Hp → Prop} {p : Pos} (hc : ∀ i, CallR (m.F i) (.type T) r) (hm : m.S.mg x = none) (hv : bootBuiltins x = some (.type T)) (ha : EA m ds (e :: es) rs)
    (hr' : ∀ H vs (Q : VK), m.R m.H0 H → DqAll m.S.K H vs rs → (∀ v H2, m.R H H2 → Post v H2 → Q v H2) → r vs H Q)
    (hg : ∀ i, Gl (m.F i) x := by intro _; rfl) (hn : x ≠ "__name__" := by decide) (hdb : (x == ("__debug__" : Str)) = false := by decide)
    (he : ∀ i, starEach (e :: es) (m.F i).env = (false, eval e (m.F i).env) :: starEach es (m.F i).env := by intro _; rfl) (hpl : ∀ i, (backTo pos (starEach es (m.F i).env)).any (·.1) = false := by intro _; rfl) :
    EX m ds (.Call (.Name x p) (e :: es) [] pos) Post := fun σ H hr hs Q q => by
  refine wE_of (t := tCB r (wA m.F (e :: es))) (fun i => pe_callTy (hc i) (hg i) (by rw [ok.hm i]; exact hm) hv (wA_ok i) hn hdb (he i) (hpl i)) (ha σ H hr hs _ fun vs H1 r1 q1 => ?_)
  exact hr' H1 vs Q (ok.trans hr r1) q1 fun v H2 r2 p2 => q v H2 (ok.trans r1 r2) p2
theorem dqa1 {K : PySem.W.Frag} {H : Hp} {vs : List V} {r : SV} (h : DqAll K H vs [r]) : ∃ v, vs = [v] ∧ Dq K H v r := by
  cases h with
  | cons a b =>
    cases b
    exact ⟨_, rfl, a⟩
theorem dqa2 {K : PySem.W.Frag} {H : Hp} {vs : List V} {r r' : SV} (h : DqAll K H vs [r, r']) : ∃ v v', vs = [v, v'] ∧ Dq K H v r ∧ Dq K H v' r' := by
  cases h with
  | cons a b =>
    obtain ⟨v, rfl, d⟩ := dqa1 b
    exact ⟨_, _, rfl, a, d⟩
theorem dqa3 {K : PySem.W.Frag} {H : Hp} {vs : List V} {r r' r'' : SV} (h : DqAll K H vs [r, r', r'']) : ∃ v v' v'', vs = [v, v', v''] ∧ Dq K H v r ∧ Dq K H v' r' ∧ Dq K H v'' r'' := by
  cases h with
  | cons a b =>
    obtain ⟨v, v', rfl, d, d'⟩ := dqa2 b
    exact ⟨_, _, _, rfl, a, d, d'⟩
theorem ea_one (ok : m.Ok) {e : Expr} {r : SV} (h : EV m ds e r) (h1 : ∀ i, starEach [e] (m.F i).env = (false, eval e (m.F i).env) :: starEach [] (m.F i).env := by intro _; rfl) : EA m ds [e] [r] := ea_cons ok h (ea_nil ok) h1
theorem ea_two (ok : m.Ok) {e f : Expr} {r s : SV} (h : EV m ds e r) (h' : EV m ds f s) (h1 : ∀ i, starEach [e, f] (m.F i).env = (false, eval e (m.F i).env) :: starEach [f] (m.F i).env := by intro _; rfl) (h2 : ∀ i, starEach [f] (m.F i).env = (false, eval f (m.F i).env) :: starEach [] (m.F i).env := by intro _; rfl) :
    EA m ds [e, f] [r, s] := ea_cons ok h (ea_one ok h' h2) h1
def absI (i : Int) : Int := if i < 0 then -i else i
def maxI (i j : Int) : Int := if j > i then j else i
def minI (i j : Int) : Int := if j < i then j else i
theorem ev_abs (ok : m.Ok) {e : Expr} {x : Int} {p : Pos} (hm : m.S.mg "abs" = none) (h : EV m ds e (.d (.int x))) (hg : ∀ i, Gl (m.F i) "abs" := by intro _; rfl) (he : ∀ i, starEach [e] (m.F i).env = (false, eval e (m.F i).env) :: starEach [] (m.F i).env := by intro _; rfl) (hpl : ∀ i, (backTo pos (starEach [] (m.F i).env)).any (·.1) = false := by intro _; rfl) :
    EV m ds (.Call (.Name "abs" p) [e] [] pos) (.d (.int (absI x))) :=
  ex_callB ok (id := "abs") (fun i => call_abs) hm (by decide +kernel) (ea_one ok h he) (fun H vs Q hr hd q => by
    obtain ⟨v, rfl, d⟩ := dqa1 hd
    exact ⟨x, by rw [Dp.int_inv d], q _ H (ok.refl H) (.int _)⟩) hg (by decide) (by decide) he hpl
theorem ev_max (ok : m.Ok) {e f : Expr} {x y : Int} {p : Pos} (hm : m.S.mg "max" = none) (h : EV m ds e (.d (.int x))) (h' : EV m ds f (.d (.int y))) (hg : ∀ i, Gl (m.F i) "max" := by intro _; rfl)
    (he : ∀ i, starEach [e, f] (m.F i).env = (false, eval e (m.F i).env) :: starEach [f] (m.F i).env := by intro _; rfl) (he2 : ∀ i, starEach [f] (m.F i).env = (false, eval f (m.F i).env) :: starEach [] (m.F i).env := by intro _; rfl) (hpl : ∀ i, (backTo pos (starEach [f] (m.F i).env)).any (·.1) = false := by intro _; rfl) :
    EV m ds (.Call (.Name "max" p) [e, f] [] pos) (.d (.int (maxI x y))) :=
  ex_callB ok (id := "max") (fun i => call_max2 (ok.calm i)) hm (by decide +kernel) (ea_two ok h h' he he2) (fun H vs Q hr hd q => by
    obtain ⟨v, v', rfl, d, d'⟩ := dqa2 hd
    exact ⟨x, y, by rw [Dp.int_inv d, Dp.int_inv d'], q _ H (ok.refl H) (.int _)⟩) hg (by decide) (by decide) he hpl
theorem ev_min (ok : m.Ok) {e f : Expr} {x y : Int} {p : Pos} (hm : m.S.mg "min" = none) (h : EV m ds e (.d (.int x))) (h' : EV m ds f (.d (.int y))) (hg : ∀ i, Gl (m.F i) "min" := by intro _; rfl)
    (he : ∀ i, starEach [e, f] (m.F i).env = (false, eval e (m.F i).env) :: starEach [f] (m.F i).env := by intro _; rfl) (he2 : ∀ i, starEach [f] (m.F i).env = (false, eval f (m.F i).env) :: starEach [] (m.F i).env := by intro _; rfl) (hpl : ∀ i, (backTo pos (starEach [f] (m.F i).env)).any (·.1) = false := by intro _; rfl) :
    EV m ds (.Call (.Name "min" p) [e, f] [] pos) (.d (.int (minI x y))) :=
  ex_callB ok (id := "min") (fun i => call_min2 (ok.calm i)) hm (by decide +kernel) (ea_two ok h h' he he2) (fun H vs Q hr hd q => by
    obtain ⟨v, v', rfl, d, d'⟩ := dqa2 hd
    exact ⟨x, y, by rw [Dp.int_inv d, Dp.int_inv d'], q _ H (ok.refl H) (.int _)⟩) hg (by decide) (by decide) he hpl
theorem ev_intI (ok : m.Ok) {e : Expr} {x : Int} {p : Pos} (hm : m.S.mg "int" = none) (h : EV m ds e (.d (.int x))) (hg : ∀ i, Gl (m.F i) "int" := by intro _; rfl) (he : ∀ i, starEach [e] (m.F i).env = (false, eval e (m.F i).env) :: starEach [] (m.F i).env := by intro _; rfl) (hpl : ∀ i, (backTo pos (starEach [] (m.F i).env)).any (·.1) = false := by intro _; rfl) :
    EV m ds (.Call (.Name "int" p) [e] [] pos) (.d (.int x)) :=
  ex_callTy ok (T := "int") (fun i => call_int1) hm (by decide +kernel) (ea_one ok h he) (fun H vs Q hr hd q => by
    obtain ⟨v, rfl, d⟩ := dqa1 hd
    exact .inl ⟨x, by rw [Dp.int_inv d], q _ H (ok.refl H) (.int _)⟩) hg (by decide) (by decide) he hpl
def b2z (b : Bool) : Int := if b = true then 1 else 0
theorem ev_intB (ok : m.Ok) {e : Expr} {b : Bool} {p : Pos} (hm : m.S.mg "int" = none) (h : EV m ds e (.d (.bool b))) (hg : ∀ i, Gl (m.F i) "int" := by intro _; rfl) (he : ∀ i, starEach [e] (m.F i).env = (false, eval e (m.F i).env) :: starEach [] (m.F i).env := by intro _; rfl) (hpl : ∀ i, (backTo pos (starEach [] (m.F i).env)).any (·.1) = false := by intro _; rfl) :
    EV m ds (.Call (.Name "int" p) [e] [] pos) (.d (.int (b2z b))) :=
  ex_callTy ok (T := "int") (fun i => call_int1) hm (by decide +kernel) (ea_one ok h he) (fun H vs Q hr hd q => by
    obtain ⟨v, rfl, d⟩ := dqa1 hd
    exact .inr ⟨b, by rw [Dp.bl_inv d], q _ H (ok.refl H) (.int _)⟩) hg (by decide) (by decide) he hpl
theorem ev_lenT (ok : m.Ok) {e : Expr} {xs : List PyData} {p : Pos} (hm : m.S.mg "len" = none) (h : EV m ds e (.d (.tuple xs))) (hg : ∀ i, Gl (m.F i) "len" := by intro _; rfl) (he : ∀ i, starEach [e] (m.F i).env = (false, eval e (m.F i).env) :: starEach [] (m.F i).env := by intro _; rfl) (hpl : ∀ i, (backTo pos (starEach [] (m.F i).env)).any (·.1) = false := by intro _; rfl) :
    EV m ds (.Call (.Name "len" p) [e] [] pos) (.d (.int xs.length)) :=
  ex_callB ok (id := "len") (fun i => by have z := @call_len_seq (m.F i); rw [ok.hK i] at z; exact z) hm (by decide +kernel) (ea_one ok h he) (fun H vs Q hr hd q => by
    obtain ⟨v, rfl, d⟩ := dqa1 hd
    obtain ⟨a, us, rfl, hq, ha⟩ := Dp.tup_inv d
    exact ⟨a, us, rfl, .inr hq, q _ H (ok.refl H) (by rw [dpa_len ha]; exact .int _)⟩) hg (by decide) (by decide) he hpl
theorem ev_lenL (ok : m.Ok) {e : Expr} {xs : List PyData} {p : Pos} (hm : m.S.mg "len" = none) (h : EV m ds e (.d (.list xs))) (hg : ∀ i, Gl (m.F i) "len" := by intro _; rfl) (he : ∀ i, starEach [e] (m.F i).env = (false, eval e (m.F i).env) :: starEach [] (m.F i).env := by intro _; rfl) (hpl : ∀ i, (backTo pos (starEach [] (m.F i).env)).any (·.1) = false := by intro _; rfl) :
    EV m ds (.Call (.Name "len" p) [e] [] pos) (.d (.int xs.length)) :=
  ex_callB ok (id := "len") (fun i => by have z := @call_len_seq (m.F i); rw [ok.hK i] at z; exact z) hm (by decide +kernel) (ea_one ok h he) (fun H vs Q hr hd q => by
    obtain ⟨v, rfl, d⟩ := dqa1 hd
    obtain ⟨a, us, rfl, hq, ha⟩ := Dp.lst_inv d
    exact ⟨a, us, rfl, .inl hq, q _ H (ok.refl H) (by rw [dpa_len ha]; exact .int _)⟩) hg (by decide) (by decide) he hpl
theorem dpa_bls {K : PySem.W.Frag} {H : Hp} : ∀ {bs : List Bool} {vs : List V}, DpAll K H vs (bs.map PyData.bool) → vs = bs.map V.bl
  | [], _, h => by cases h; rfl
  | b :: bs, _, h => by
    cases h with
    | cons a t => rw [Dp.bl_inv a, dpa_bls t]; rfl
theorem ev_all (ok : m.Ok) {e : Expr} {bs : List Bool} {p : Pos} (hm : m.S.mg "all" = none) (h : EV m ds e (.d (.list (bs.map PyData.bool)))) (hg : ∀ i, Gl (m.F i) "all" := by intro _; rfl) (he : ∀ i, starEach [e] (m.F i).env = (false, eval e (m.F i).env) :: starEach [] (m.F i).env := by intro _; rfl) (hpl : ∀ i, (backTo pos (starEach [] (m.F i).env)).any (·.1) = false := by intro _; rfl) :
    EV m ds (.Call (.Name "all" p) [e] [] pos) (.d (.bool (bs.all id))) :=
  ex_callB ok (id := "all") (r := rAll m.S.K) (fun i => by rw [← ok.hK i]; exact cr_all (ok.calm i)) hm (by decide +kernel) (ea_one ok h he) (fun H vs Q hr hd q => by
    obtain ⟨v, rfl, d⟩ := dqa1 hd
    obtain ⟨a, us, rfl, hq, ha⟩ := Dp.lst_inv d
    exact ⟨a, bs, rfl, by rw [← dpa_bls ha]; exact hq, q _ H (ok.refl H) (.bl _)⟩) hg (by decide) (by decide) he hpl
theorem ev_listOf (ok : m.Ok) {e : Expr} {xs : List PyData} {p : Pos} (hm : m.S.mg "list" = none) (h : EV m ds e (.d (.list xs))) (hg : ∀ i, Gl (m.F i) "list" := by intro _; rfl) (he : ∀ i, starEach [e] (m.F i).env = (false, eval e (m.F i).env) :: starEach [] (m.F i).env := by intro _; rfl) (hpl : ∀ i, (backTo pos (starEach [] (m.F i).env)).any (·.1) = false := by intro _; rfl) :
    EV m ds (.Call (.Name "list" p) [e] [] pos) (.d (.list xs)) :=
  ex_callTy ok (T := "list") (fun i => by have z := @call_list_of (m.F i); rw [ok.hK i] at z; exact z) hm (by decide +kernel) (ea_one ok h he) (fun H vs Q hr hd q => by
    obtain ⟨v, rfl, d⟩ := dqa1 hd
    obtain ⟨a, us, rfl, hq, ha⟩ := Dp.lst_inv d
    refine ⟨a, us, rfl, .inl hq, fun l nl => ?_⟩
    have e' := ok.new (o := HO.lst us) nl
    exact q _ _ e' (ok.dp (v := .ref l) (d := .list xs) (ok.refl _) (.lst (SqL.of upd_same) (by
      have := ok.dqs e' (vs := us) (rs := xs.map SV.d)
      clear this
      exact (by
        have g : ∀ {vs : List V} {ys : List PyData}, DpAll m.S.K H vs ys → DpAll m.S.K (upd H l (.lst us)) vs ys := fun {vs ys} t => by
          induction vs generalizing ys with
          | nil => cases t; exact .nil
          | cons v vs ih => cases t with | cons a b => exact .cons (ok.dp e' a) (ih b)
        exact g ha))))) hg (by decide) (by decide) he hpl
theorem ev_tupleOf (ok : m.Ok) {e : Expr} {xs : List PyData} {p : Pos} (hm : m.S.mg "tuple" = none) (h : EV m ds e (.d (.list xs))) (hg : ∀ i, Gl (m.F i) "tuple" := by intro _; rfl) (he : ∀ i, starEach [e] (m.F i).env = (false, eval e (m.F i).env) :: starEach [] (m.F i).env := by intro _; rfl) (hpl : ∀ i, (backTo pos (starEach [] (m.F i).env)).any (·.1) = false := by intro _; rfl) :
    EV m ds (.Call (.Name "tuple" p) [e] [] pos) (.d (.tuple xs)) :=
  ex_callTy ok (T := "tuple") (fun i => by have z := @call_tuple_of (m.F i); rw [ok.hK i] at z; exact z) hm (by decide +kernel) (ea_one ok h he) (fun H vs Q hr hd q => by
    obtain ⟨v, rfl, d⟩ := dqa1 hd
    obtain ⟨a, us, rfl, hq, ha⟩ := Dp.lst_inv d
    refine ⟨a, us, rfl, .inl ⟨hq, fun l nl => ?_⟩⟩
    have e' := ok.new (o := HO.tup us) nl
    have g : ∀ {vs : List V} {ys : List PyData}, DpAll m.S.K H vs ys → DpAll m.S.K (upd H l (.tup us)) vs ys := fun {vs ys} t => by
      induction vs generalizing ys with
      | nil => cases t; exact .nil
      | cons v vs ih => cases t with | cons a b => exact .cons (ok.dp e' a) (ih b)
    exact q _ _ e' (.tup (SqT.of upd_same) (g ha))) hg (by decide) (by decide) he hpl
end
/-! The layer: statements, loops, comprehensions. -/
section
variable {ι : Type} {m : Mo ι} {ds : Sd} {pos : Pos}
theorem Mo.Ok.dpa (ok : m.Ok) {H H' : Hp} (h : m.R H H') : ∀ {vs : List V} {xs : List PyData}, DpAll m.S.K H vs xs → DpAll m.S.K H' vs xs
  | _, _, .nil => .nil
  | _, _, .cons a t => .cons (ok.dp h a) (ok.dpa h t)
/-! #### isinstance -/
def tyOf : PyData → Value
  | .none => .type "NoneType"
  | .bool _ => .type "bool"
  | .int _ => .type "int"
  | .str _ => .type "str"
  | .list _ => .type "list"
  | .tuple _ => .type "tuple"
  | .dict _ => .type "dict"
theorem Dp.tyx {K : PySem.W.Frag} {H : Hp} {v : V} {x : PyData} (h : Dp K H v x) : TyX K H v (tyOf x) := by
  cases h with
  | non => exact .base .non
  | bl b => exact .base (.bl b)
  | int i => exact .base (.int i)
  | str x => exact .base (.str x)
  | lst hq _ =>
    rcases hq with (hq | ⟨o, hq⟩) | ⟨o, its, n, hk, hc, _⟩
    · exact .base (.lst hq)
    · exact .base (.frz hq)
    · exact .kList hk hc
  | tup hq _ =>
    rcases hq with (hq | ⟨o, hq⟩) | ⟨o, its, n, hk, hc, _⟩
    · exact .base (.tup hq)
    · exact .fTuple hq
    · exact .kTuple hk hc
/-- isinstance(e, T) -/
theorem ev_isi (ok : m.Ok) {e : Expr} {x : PyData} {y : Str} {Tn : String} {b : Bool} {p p' : Pos} (hm : m.S.mg "isinstance" = none) (hmT : m.S.mg y = none) (hbT : bootBuiltins y = some (.type Tn)) (hk : PySem.W.kitOne m.S.K (tyOf x) (.type Tn) = some b) (h : EV m ds e (.d x))
    (hg : ∀ i, Gl (m.F i) "isinstance" := by intro _; rfl) (hgT : ∀ i, Gl (m.F i) y := by intro _; rfl) (hy : y ≠ "__name__" := by decide) (hyd : (y == ("__debug__" : Str)) = false := by decide)
    (he : ∀ i, starEach [e, .Name y p'] (m.F i).env = (false, eval e (m.F i).env) :: starEach [.Name y p'] (m.F i).env := by intro _; rfl) (he2 : ∀ i, starEach [.Name y p'] (m.F i).env = (false, eval (.Name y p') (m.F i).env) :: starEach [] (m.F i).env := by intro _; rfl) (hpl : ∀ i, (backTo pos (starEach [.Name y p'] (m.F i).env)).any (·.1) = false := by intro _; rfl) :
    EV m ds (.Call (.Name "isinstance" p) [e, .Name y p'] [] pos) (.d (.bool b)) := by
  have ety : EV m ds (.Name y p') (.v (.ty Tn)) := fun σ H hr hs Q k => wE_of (fun i => pe_bltn (hgT i) (by rw [ok.hm i]; exact hmT) hbT (v := .ty Tn) rfl hy hyd) (k _ H (ok.refl H) rfl)
  refine ex_callB ok (id := "isinstance") (r := rIsi m.S.K) (fun i => by rw [← ok.hK i]; exact call_isi) hm (by decide +kernel) (ea_two ok h ety he he2) (fun H vs Q hr hd q => ?_) hg (by decide) (by decide) he hpl
  obtain ⟨v, v', rfl, d, d'⟩ := dqa2 hd
  obtain rfl : v' = V.ty Tn := d'
  exact ⟨v, .ty Tn, tyOf x, .type Tn, b, rfl, .ty Tn, Dp.tyx d, hk, q _ H (ok.refl H) (.bl _)⟩
/-- isinstance(e, (T, U)) -/
theorem ev_isi2 (ok : m.Ok) {e : Expr} {x : PyData} {y z : Str} {Tn Un : String} {b c : Bool} {p p' p2 p3 : Pos} {kk : Nat} (hm : m.S.mg "isinstance" = none) (hmT : m.S.mg y = none) (hbT : bootBuiltins y = some (.type Tn)) (hmU : m.S.mg z = none) (hbU : bootBuiltins z = some (.type Un))
    (hk : PySem.W.kitOne m.S.K (tyOf x) (.type Tn) = some b) (hk2 : PySem.W.kitOne m.S.K (tyOf x) (.type Un) = some c) (h : EV m ds e (.d x))
    (hg : ∀ i, Gl (m.F i) "isinstance" := by intro _; rfl) (hgT : ∀ i, Gl (m.F i) y := by intro _; rfl) (hgU : ∀ i, Gl (m.F i) z := by intro _; rfl) (hy : y ≠ "__name__" := by decide) (hyd : (y == ("__debug__" : Str)) = false := by decide) (hz : z ≠ "__name__" := by decide) (hzd : (z == ("__debug__" : Str)) = false := by decide)
    (hs : ∀ i, starEach [.Name y p2, .Name z p3] (m.F i).env = (false, eval (.Name y p2) (m.F i).env) :: starEach [.Name z p3] (m.F i).env := by intro _; rfl) (hs2 : ∀ i, starEach [.Name z p3] (m.F i).env = (false, eval (.Name z p3) (m.F i).env) :: starEach [] (m.F i).env := by intro _; rfl)
    (he : ∀ i, starEach [e, .Tuple [.Name y p2, .Name z p3] kk p'] (m.F i).env = (false, eval e (m.F i).env) :: starEach [.Tuple [.Name y p2, .Name z p3] kk p'] (m.F i).env := by intro _; rfl) (he2 : ∀ i, starEach [.Tuple [.Name y p2, .Name z p3] kk p'] (m.F i).env = (false, eval (.Tuple [.Name y p2, .Name z p3] kk p') (m.F i).env) :: starEach [] (m.F i).env := by intro _; rfl) (hpl : ∀ i, (backTo pos (starEach [.Tuple [.Name y p2, .Name z p3] kk p'] (m.F i).env)).any (·.1) = false := by intro _; rfl) :
    EV m ds (.Call (.Name "isinstance" p) [e, .Tuple [.Name y p2, .Name z p3] kk p'] [] pos) (.d (.bool (b || c))) := fun σ H hr hl Q q => by
  have ety : EV m ds (.Name y p2) (.v (.ty Tn)) := fun σ H hr hs Q k => wE_of (fun i => pe_bltn (hgT i) (by rw [ok.hm i]; exact hmT) hbT (v := .ty Tn) rfl hy hyd) (k _ H (ok.refl H) rfl)
  have etz : EV m ds (.Name z p3) (.v (.ty Un)) := fun σ H hr hs Q k => wE_of (fun i => pe_bltn (hgU i) (by rw [ok.hm i]; exact hmU) hbU (v := .ty Un) rfl hz hzd) (k _ H (ok.refl H) rfl)
  refine wE_of (t := tCB (rIsiT m.S.K) (tCons (wE m.F e) (tCons (tTup (wA m.F [.Name y p2, .Name z p3])) tNil))) (fun i => pe_callB (by rw [← ok.hK i]; exact call_isiT) (hg i) (by rw [ok.hm i]; exact hm) (by decide +kernel) (pa_cons (wE_ok i) (pa_cons (pe_tup (wA_ok i)) pa_nil (he2 i)) (he i)) (by decide) (by decide) (he i) (hpl i)) ?_
  refine h σ H hr hl _ fun v H1 r1 q1 => ea_two ok ety etz hs hs2 σ H1 (ok.trans hr r1) (ok.sl r1 hl) _ fun vs H2 r2 q2 => ?_
  obtain ⟨v1, v2, rfl, d1, d2⟩ := dqa2 q2
  obtain rfl : v1 = V.ty Tn := d1
  obtain rfl : v2 = V.ty Un := d2
  refine ⟨by show 2 ≤ sizeLine; decide, fun tp ntp => ?_⟩
  have e' := ok.new (o := HO.tup [V.ty Tn, V.ty Un]) ntp
  refine ⟨v, tp, _, tyOf x, [.type Tn, .type Un], b || c, rfl, upd_same, .cons (.ty Tn) (.cons (.ty Un) .nil), Dp.tyx (ok.dp e' (ok.dp r2 q1)), ?_, q _ _ (ok.trans r1 (ok.trans r2 e')) (.bl _)⟩
  refine kitAny_cons hk (fun hb => ?_) (fun hb => by rw [hb]; rfl)
  subst hb
  refine kitAny_cons hk2 (fun hc => ?_) (fun hc => by rw [hc]; rfl)
  subst hc
  exact kitAny_nil
/-! #### statements -/
theorem wSs_cons {F : ι → Cx} {s : Stmt} {rest : List Stmt} {D : Ends} {σ : L2.St} {H : Hp} (h : wS F s { D with nx := fun σ' H' => wSs F rest D σ' H' } σ H) : wSs F (s :: rest) D σ H :=
  wSs_of (t := tSeq (wS F s) (wSs F rest)) (fun i => pss_cons (wS_ok i) (wSs_ok i)) h
theorem wSs_nil {F : ι → Cx} {D : Ends} {σ : L2.St} {H : Hp} (h : D.nx σ H) : wSs F [] D σ H := wSs_of (fun _ => pss_nil) h
theorem bd_nil {D : Ends} (h : ∀ σ H, m.R m.H0 H → Sl m.S.K H σ ds → D.nx σ H) : BD m ds [] D := fun σ H hr hs => wSs_nil (h σ H hr hs)
theorem bd_ret (ok : m.Ok) {e : Expr} {r : SV} {rest : List Stmt} {D : Ends} (h : EV m ds e r) (q : ∀ v H, m.R m.H0 H → Dq m.S.K H v r → D.rt v H) : BD m ds (.Return (some e) pos :: rest) D := fun σ H hr hs =>
  wSs_cons (wS_of (fun i => ps_ret (wE_ok i)) (h σ H hr hs _ fun v H1 r1 q1 => q v H1 (ok.trans hr r1) q1))
theorem bd_retC (ok : m.Ok) {e : Expr} {r r' : SV} {rest : List Stmt} {D : Ends} (q : ∀ v H, m.R m.H0 H → Dq m.S.K H v r' → D.rt v H) (h : EV m ds e r) (eq : r = r') : BD m ds (.Return (some e) pos :: rest) D := bd_ret ok (h.cast eq) q
theorem bd_retX (ok : m.Ok) {e : Expr} {Post : V → Hp → Prop} {rest : List Stmt} {D : Ends} (h : EX m ds e Post) (q : ∀ v H, m.R m.H0 H → Post v H → D.rt v H) : BD m ds (.Return (some e) pos :: rest) D := fun σ H hr hs =>
  wSs_cons (wS_of (fun i => ps_ret (wE_ok i)) (h σ H hr hs _ fun v H1 r1 q1 => q v H1 (ok.trans hr r1) q1))
/-- x = e, e of which something is told -/
theorem bd_asgX (ok : m.Ok) (j : Nat) {x : Str} {e : Expr} {Post : V → Hp → Prop} {rest : List Stmt} {D : Ends} {p : Pos} (hN : m.S.N[j]? = some x) (h : EX m ds e Post)
    (q : ∀ v H, m.R m.H0 H → Post v H → (m.at_ H).Ok → ∃ r, Dq m.S.K H v r ∧ BD (m.at_ H) (ds.set j (some r)) rest D)
    (hl : ∀ i, Loc (m.F i).env.scope x := by intro _; first | exact Or.inl rfl | exact Or.inr rfl) (hsw : ∀ i, swapsWith e (some (.Name x p)) pos.line (m.F i).env = pure false := by intro _; rfl)
    (hf : ∀ i, (m.F i).fn x = true ∨ (m.F i).env.scope.names.lookup x = some .local := by intro _; first | exact Or.inl rfl | exact Or.inr rfl) : BD m ds (.Assign [.Name x p] e pos :: rest) D := fun σ H hr hs => by
  refine wSs_cons (wS_of (t := tAsg (wE m.F e) (gName j)) (fun i => ps_set (by rw [ok.hN i]; exact ok.nd) (by rw [ok.hN i]; exact hN) (hl i) (wE_ok i) (hsw i) (hf i)) (h σ H hr hs _ fun v H1 r1 p1 => ?_))
  obtain ⟨r, d, b⟩ := q v H1 (ok.trans hr r1) p1 (ok.at_ H1)
  exact b _ H1 (ok.refl H1) ((ok.sl r1 hs).set j d)
theorem bd_asg (ok : m.Ok) (j : Nat) {x : Str} {e : Expr} {r : SV} {rest : List Stmt} {D : Ends} {p : Pos} (hN : m.S.N[j]? = some x) (h : EV m ds e r) (q : BD m (ds.set j (some r)) rest D)
    (hl : ∀ i, Loc (m.F i).env.scope x := by intro _; first | exact Or.inl rfl | exact Or.inr rfl) (hsw : ∀ i, swapsWith e (some (.Name x p)) pos.line (m.F i).env = pure false := by intro _; rfl)
    (hf : ∀ i, (m.F i).fn x = true ∨ (m.F i).env.scope.names.lookup x = some .local := by intro _; first | exact Or.inl rfl | exact Or.inr rfl) : BD m ds (.Assign [.Name x p] e pos :: rest) D :=
  bd_asgX ok j hN h (fun v H hr d _ => ⟨r, d, q.at_ ok hr⟩) hl hsw hf
/-- x op= e, ints -/
theorem bd_aug (ok : m.Ok) (j : Nat) {x : Str} {e : Expr} {op : Operator} {f : Int → Int → Int} {a b : Int} {rest : List Stmt} {D : Ends} {p : Pos} (hN : m.S.N[j]? = some x) (hd : ds[j]? = some (some (.d (.int a)))) (ho : ∀ i, PIp (m.F i) op (ipI f)) (h : EV m ds e (.d (.int b))) (q : BD m (ds.set j (some (.d (.int (f a b))))) rest D)
    (hl : ∀ i, Loc (m.F i).env.scope x := by intro _; first | exact Or.inl rfl | exact Or.inr rfl)
    (hf : ∀ i, (m.F i).fn x = true ∨ (m.F i).env.scope.names.lookup x = some .local := by intro _; first | exact Or.inl rfl | exact Or.inr rfl) : BD m ds (.AugAssign (.Name x p) op e pos :: rest) D := fun σ H hr hs => by
  obtain ⟨v, ev, dv⟩ := hs.2 j _ hd
  refine wSs_cons (wS_of (t := tAug j (wE m.F e) (ipI f)) (fun i => ps_aug (by rw [ok.hN i]; exact ok.nd) (by rw [ok.hN i]; exact hN) (hl i) (wE_ok i) (ho i) (hf i)) ⟨v, ev, h σ H hr hs _ fun u H1 r1 p1 => ?_⟩)
  exact ⟨a, b, Dp.int_inv dv, Dp.int_inv p1, q _ H1 (ok.trans hr r1) ((ok.sl r1 hs).set j (.int _))⟩
/-- a, b = e, f -/
theorem bd_par (ok : m.Ok) (j l : Nat) {x y : Str} {e f : Expr} {r r' : SV} {rest : List Stmt} {D : Ends} {px py pt pt2 : Pos} {kt k2 : Nat} (hx : m.S.N[j]? = some x) (hy : m.S.N[l]? = some y) (hjl : j ≠ l) (h : EV m ds e r) (h' : EV m ds f r') (q : BD m ((ds.set j (some r)).set l (some r')) rest D)
    (hlx : ∀ i, (m.F i).env.scope.names.lookup x = some .local := by intro _; rfl) (hly : ∀ i, (m.F i).env.scope.names.lookup y = some .local := by intro _; rfl)
    (hw : ∀ i, swappedStores [.Tuple [.Name x px, .Name y py] kt pt] (.Tuple [e, f] k2 pt2) (m.F i).env = pure (some [x, y]) := by intro _; rfl) (hsw : ∀ i, swapsWithSole [.Tuple [.Name x px, .Name y py] kt pt] (.Tuple [e, f] k2 pt2) pos.line (m.F i).env = pure false := by intro _; rfl)
    (he : ∀ i, starEach [e, f] (m.F i).env = (false, eval e (m.F i).env) :: starEach [f] (m.F i).env := by intro _; rfl) (he2 : ∀ i, starEach [f] (m.F i).env = (false, eval f (m.F i).env) :: starEach [] (m.F i).env := by intro _; rfl) :
    BD m ds (.Assign [.Tuple [.Name x px, .Name y py] kt pt] (.Tuple [e, f] k2 pt2) pos :: rest) D := fun σ H hr hs => by
  refine wSs_cons (wS_of (t := tPar j l (wA m.F [e, f])) (fun i => ps_par (ok.calm i) (by rw [ok.hN i]; exact ok.nd) (by rw [ok.hN i]; exact hx) (by rw [ok.hN i]; exact hy) hjl (hlx i) (hly i) (wA_ok i) (hw i) (hsw i)) ?_)
  refine ea_two ok h h' he he2 σ H hr hs _ fun vs H1 r1 q1 => ?_
  obtain ⟨v, v', rfl, d, d'⟩ := dqa2 q1
  exact ⟨v, v', rfl, q _ H1 (ok.trans hr r1) (((ok.sl r1 hs).set j d).set l d')⟩
/-- if, its two ways -/
theorem bd_if (ok : m.Ok) {c : Expr} {b : Bool} {as bs rest : List Stmt} {D : Ends} (h : TV m ds c b) (h1 : b = true → BD m ds as { D with nx := fun σ H => wSs m.F rest D σ H }) (h2 : b = false → BD m ds bs { D with nx := fun σ H => wSs m.F rest D σ H }) : BD m ds (.If c as bs pos :: rest) D := fun σ H hr hs => by
  refine wSs_cons (wS_of (t := tIfS (wT m.F c) (wSs m.F as) (wSs m.F bs)) (fun i => ps_if (wT_ok i) (wSs_ok i) (wSs_ok i)) (h σ H hr hs _ fun H1 r1 => ?_))
  cases b with
  | true =>
    rw [if_pos rfl]
    exact h1 rfl σ H1 (ok.trans hr r1) (ok.sl r1 hs)
  | false =>
    rw [if_neg Bool.false_ne_true]
    exact h2 rfl σ H1 (ok.trans hr r1) (ok.sl r1 hs)
theorem bd_end {rest : List Stmt} {D D0 : Ends} (h : BD m ds rest D) : BD m ds [] { D0 with nx := fun σ H => wSs m.F rest D σ H } := fun σ H hr hs => wSs_nil (h σ H hr hs)
/-- if without else that is not taken -/
theorem bd_if0 (ok : m.Ok) {c : Expr} {b : Bool} {as rest : List Stmt} {D : Ends} (h : TV m ds c b) (hb : b = false) (q : BD m ds rest D) : BD m ds (.If c as [] pos :: rest) D :=
  bd_if ok h (fun z => by rw [hb] at z; cases z) fun _ => bd_end q
/-- if without else that leaves the block -/
theorem bd_ifr (ok : m.Ok) {c : Expr} {b : Bool} {as rest : List Stmt} {D : Ends} (h : TV m ds c b) (h1 : b = true → BD m ds as { D with nx := fun σ H => wSs m.F rest D σ H }) (q : b = false → BD m ds rest D) : BD m ds (.If c as [] pos :: rest) D :=
  bd_if ok h h1 fun z => bd_end (q z)
/-! #### targets -/
theorem wG_name (ok : m.Ok) (j : Nat) {x : Str} {v : V} {σ : L2.St} {H : Hp} {Q : L2.St → Hp → Prop} {p : Pos} (hN : m.S.N[j]? = some x) (q : Q (σ.set j (some v)) H) (hl : ∀ i, Loc (m.F i).env.scope x := by intro _; first | exact Or.inl rfl | exact Or.inr rfl)
    (hf : ∀ i, (m.F i).fn x = true ∨ (m.F i).env.scope.names.lookup x = some .local := by intro _; first | exact Or.inl rfl | exact Or.inr rfl) : wG m.F (.Name x p) v σ H Q :=
  wG_of (t := gName j) (fun i => pg_name (by rw [ok.hN i]; exact ok.nd) (by rw [ok.hN i]; exact hN) (hl i) (hf i)) q
theorem wG_two (ok : m.Ok) (j l : Nat) {x y : Str} {r r' : PyData} {v : V} {σ : L2.St} {H : Hp} {Q : L2.St → Hp → Prop} {px py p : Pos} {kk : Nat} (hx : m.S.N[j]? = some x) (hy : m.S.N[l]? = some y) (d : Dp m.S.K H v (.tuple [r, r'])) (q : ∀ u u', Dp m.S.K H u r → Dp m.S.K H u' r' → Q ((σ.set j (some u)).set l (some u')) H)
    (hlx : ∀ i, Loc (m.F i).env.scope x := by intro _; first | exact Or.inl rfl | exact Or.inr rfl) (hly : ∀ i, Loc (m.F i).env.scope y := by intro _; first | exact Or.inl rfl | exact Or.inr rfl)
    (hfx : ∀ i, (m.F i).fn x = true ∨ (m.F i).env.scope.names.lookup x = some .local := by intro _; first | exact Or.inl rfl | exact Or.inr rfl) (hfy : ∀ i, (m.F i).fn y = true ∨ (m.F i).env.scope.names.lookup y = some .local := by intro _; first | exact Or.inl rfl | exact Or.inr rfl)
    (h1 : ∀ i, (assignEach [.Name x px, .Name y py] (m.F i).env).map (·.2) = assign (.Name x px) (m.F i).env :: (assignEach [.Name y py] (m.F i).env).map (·.2) := by intro _; rfl) (h2 : ∀ i, (assignEach [.Name y py] (m.F i).env).map (·.2) = assign (.Name y py) (m.F i).env :: (assignEach [] (m.F i).env).map (·.2) := by intro _; rfl)
    (h3 : ∀ i, (assignEach [.Name x px, .Name y py] (m.F i).env).length = 2 := by intro _; rfl) (h4 : ∀ i, (assignEach [.Name x px, .Name y py] (m.F i).env).findIdx? (·.1) = none := by intro _; rfl) : wG m.F (.Tuple [.Name x px, .Name y py] kk p) v σ H Q := by
  obtain ⟨a, vs, rfl, hq, hd⟩ := Dp.tup_inv d
  refine wG_of (t := gTup m.S.K 2 (gCons (gName j) (gCons (gName l) gNil))) (fun i => by
    rw [← ok.hK i]
    exact pg_tup (ok.calm i) (pgs_cons (pg_name (by rw [ok.hN i]; exact ok.nd) (by rw [ok.hN i]; exact hx) (hlx i) (hfx i)) (pgs_cons (pg_name (by rw [ok.hN i]; exact ok.nd) (by rw [ok.hN i]; exact hy) (hly i) (hfy i)) pgs_nil (h2 i)) (h1 i)) (h3 i) (h4 i)) ?_
  cases hd with
  | cons d1 t1 =>
    cases t1 with
    | cons d2 t2 =>
      cases t2
      exact ⟨a, _, rfl, hq, rfl, _, _, rfl, _, _, rfl, rfl, q _ _ d1 d2⟩
/-- a, b = e, e a pair -/
theorem bd_unpack (ok : m.Ok) (j l : Nat) {x y : Str} {e : Expr} {r r' : PyData} {rest : List Stmt} {D : Ends} {px py p : Pos} {kk : Nat} (hx : m.S.N[j]? = some x) (hy : m.S.N[l]? = some y) (h : EV m ds e (.d (.tuple [r, r']))) (q : BD m ((ds.set j (some (.d r))).set l (some (.d r'))) rest D)
    (hg : ∀ (v : V) (σ : L2.St) (H : Hp) (Q : L2.St → Hp → Prop), Dp m.S.K H v (.tuple [r, r']) → (∀ u u', Dp m.S.K H u r → Dp m.S.K H u' r' → Q ((σ.set j (some u)).set l (some u')) H) → wG m.F (.Tuple [.Name x px, .Name y py] kk p) v σ H Q)
    (hsw : ∀ i, swapsWithSole [.Tuple [.Name x px, .Name y py] kk p] e pos.line (m.F i).env = pure false := by intro _; rfl) (hw : ∀ i, swappedStores [.Tuple [.Name x px, .Name y py] kk p] e (m.F i).env = pure none := by intro _; rfl)
    (h1 : ∀ i, (assignEach [.Tuple [.Name x px, .Name y py] kk p] (m.F i).env).map (·.2) = [assign (.Tuple [.Name x px, .Name y py] kk p) (m.F i).env] := by intro _; rfl) : BD m ds (.Assign [.Tuple [.Name x px, .Name y py] kk p] e pos :: rest) D := fun σ H hr hs => by
  refine wSs_cons (wS_of (t := tAsg (wE m.F e) (wG m.F (.Tuple [.Name x px, .Name y py] kk p))) (fun i => ps_asg (wE_ok i) (wG_ok i) (hsw i) (hw i) (h1 i)) (h σ H hr hs _ fun v H1 r1 p1 => ?_))
  refine hg v σ H1 _ p1 fun u u' d d' => ?_
  exact q _ H1 (ok.trans hr r1) (((ok.sl r1 hs).set (r := .d r) j d).set (r := .d r') l d')
/-! #### loops -/
/-- some known state is come to -/
def Nx (m : Mo ι) (I : Sd → Hp → Prop) : L2.St → Hp → Prop := fun σ H => ∃ ds', m.R m.H0 H ∧ I ds' H ∧ Sl m.S.K H σ ds'
/-- what a for walks: n turns, at turn i the data Y i -/
def IV (m : Mo ι) (ds : Sd) (tg iter : Expr) (n : Nat) (Y : Nat → PyData) : Prop := ∀ σ H, m.R m.H0 H → Sl m.S.K H σ ds → ∀ Q : It → Hp → Prop,
  (∀ J H1 (G : Hp → Prop), m.R H H1 → (∀ H2, m.R H1 H2 → G H2) → Walk J n G (fun i H v H' => Ex H H' ∧ (m.R H1 H → Dp m.S.K H' v (Y i))) → Q J H1) → wI m.F tg iter σ H Q
theorem iv_list (ok : m.Ok) {tg iter : Expr} {xs : List PyData} (h : EV m ds iter (.d (.list xs))) : IV m ds tg iter xs.length fun i => xs.getD i .none := fun σ H hr hs Q q => by
  refine wI_of (t := iList m.S.K (wE m.F iter)) (fun i => by rw [← ok.hK i]; exact pi_list (wE_ok i)) (h σ H hr hs _ fun v H1 r1 q1 => ?_)
  obtain ⟨a, vs, rfl, hq, hv⟩ := Dp.lst_inv q1
  refine ⟨a, rfl, ⟨vs, hq⟩, q _ H1 (fun H => SqL m.S.K H a vs) r1 (fun H2 r2 => ok.sl_ r2 hq) ?_⟩
  rw [← dpa_len hv]
  refine walk_list.mono (fun _ z => z) fun i H v H' hi _ y => ⟨by rw [y.1]; exact Ex.refl H, fun r => ?_⟩
  obtain ⟨x, hx, dx⟩ := dpa_get' (ok.dpa r hv) y.2
  show Dp m.S.K H' v (xs.getD i .none)
  rw [y.1, List.getD_eq_getElem?_getD, hx]
  exact dx
theorem iv_tup (ok : m.Ok) {tg iter : Expr} {xs : List PyData} (h : EV m ds iter (.d (.tuple xs))) : IV m ds tg iter xs.length fun i => xs.getD i .none := fun σ H hr hs Q q => by
  refine wI_of (t := iTup m.S.K (wE m.F iter)) (fun i => by rw [← ok.hK i]; exact pi_tup (wE_ok i)) (h σ H hr hs _ fun v H1 r1 q1 => ?_)
  obtain ⟨a, vs, rfl, hq, hv⟩ := Dp.tup_inv q1
  refine ⟨a, rfl, ⟨vs, hq⟩, q _ H1 (fun H => SqT m.S.K H a vs) r1 (fun H2 r2 => ok.st_ r2 hq) ?_⟩
  rw [← dpa_len hv]
  refine walk_tup.mono (fun _ z => z) fun i H v H' hi _ y => ⟨by rw [y.1]; exact Ex.refl H, fun r => ?_⟩
  obtain ⟨x, hx, dx⟩ := dpa_get' (ok.dpa r hv) y.2
  show Dp m.S.K H' v (xs.getD i .none)
  rw [y.1, List.getD_eq_getElem?_getD, hx]
  exact dx
theorem iv_range1 (ok : m.Ok) {tg e : Expr} {n : Int} {p : Pos} (hm : m.S.mg "range" = none) (h : EV m ds e (.d (.int n))) (hn : -1000 ≤ n ∧ n ≤ 1000) (hg : ∀ i, Gl (m.F i) "range" := by intro _; rfl)
    (he : ∀ i, starEach [e] (m.F i).env = (false, eval e (m.F i).env) :: starEach [] (m.F i).env := by intro _; rfl) : IV m ds tg (.Call (.Name "range" p) [e] [] pos) n.toNat fun i => .int i := fun σ H hr hs Q q => by
  refine wI_of (t := iRng1 (wA m.F [e])) (fun i => pi_range1 (hg i) (by rw [ok.hm i]; exact hm) (wA_ok i) (by rw [he i]; rfl)) (ea_one ok h he σ H hr hs _ fun vs H1 r1 q1 => ?_)
  obtain ⟨v, rfl, d⟩ := dqa1 q1
  refine ⟨n, by rw [Dp.int_inv d], by omega, by omega, q _ H1 (fun _ => True) r1 (fun _ _ => trivial) ?_⟩
  refine walk_range.mono (fun _ z => z) fun i H v H' hi _ y => ⟨by rw [y.1]; exact Ex.refl H, fun r => ?_⟩
  rw [y.2]
  show Dp m.S.K H' (.int (0 + (i : Int))) (.int i)
  rw [Int.zero_add]
  exact .int _
theorem iv_range2 (ok : m.Ok) {tg e f : Expr} {lo n : Int} {p : Pos} (hm : m.S.mg "range" = none) (h : EV m ds e (.d (.int lo))) (h' : EV m ds f (.d (.int n))) (hn : (-1000 ≤ lo ∧ lo ≤ 1000) ∧ -1000 ≤ n ∧ n ≤ 1000) (hg : ∀ i, Gl (m.F i) "range" := by intro _; rfl)
    (he : ∀ i, starEach [e, f] (m.F i).env = (false, eval e (m.F i).env) :: starEach [f] (m.F i).env := by intro _; rfl) (he2 : ∀ i, starEach [f] (m.F i).env = (false, eval f (m.F i).env) :: starEach [] (m.F i).env := by intro _; rfl) : IV m ds tg (.Call (.Name "range" p) [e, f] [] pos) (n - lo).toNat fun i => .int (lo + i) := fun σ H hr hs Q q => by
  refine wI_of (t := iRng2 (wA m.F [e, f])) (fun i => pi_range2 (hg i) (by rw [ok.hm i]; exact hm) (wA_ok i) (by rw [he i, he2 i]; rfl) (by rw [he2 i]; rfl)) (ea_two ok h h' he he2 σ H hr hs _ fun vs H1 r1 q1 => ?_)
  obtain ⟨v, v', rfl, d, d'⟩ := dqa2 q1
  refine ⟨lo, n, by rw [Dp.int_inv d, Dp.int_inv d'], by omega, q _ H1 (fun _ => True) r1 (fun _ _ => trivial) ?_⟩
  refine walk_range.mono (fun _ z => z) fun i H v H' hi _ y => ⟨by rw [y.1]; exact Ex.refl H, fun r => ?_⟩
  rw [y.2]
  exact .int _
/-- the walk of zip of two tuples -/
theorem walk_zipT {K : PySem.W.Frag} {a b : Addr} {xs ys : List V} {n : Nat} (hn : n = min xs.length ys.length) : Walk (RZ.ItzT K a b) n (fun H => SqT K H a xs ∧ SqT K H b ys) (YPair (fun i => xs[i]?) (fun i => ys[i]?)) := by
  subst hn
  refine ⟨fun i _ hi q => ?_, fun _ q => ⟨xs, ys, q.1, q.2, by omega⟩, fun i H v H' _ q y => ?_⟩
  · have h1 : i < xs.length := by omega
    have h2 : i < ys.length := by omega
    exact ⟨xs, ys, xs[i], ys[i], q.1, q.2, by simp [h1], by simp [h2]⟩
  · obtain ⟨T, x, z, h1, h2, h3, h4, h5⟩ := y
    exact ⟨T, x, z, h1, h2, h3, h4 xs q.1, h5 ys q.2⟩
theorem pair_dp (ok : m.Ok) {vs us : List V} {xs ys : List PyData} {i : Nat} {H1 H H' : Hp} {v : V} (hv : DpAll m.S.K H1 vs xs) (hu : DpAll m.S.K H1 us ys) (y : YPair (fun i => vs[i]?) (fun i => us[i]?) i H v H') : Ex H H' ∧ (m.R H1 H → Dp m.S.K H' v (.tuple [xs.getD i .none, ys.getD i .none])) := by
  obtain ⟨T, x, z, rfl, hT, rfl, e1, e2⟩ := y
  refine ⟨Ex.new hT, fun r => ?_⟩
  have r' : m.R H1 (upd H T (.tup [x, z])) := ok.trans r (ok.new hT)
  obtain ⟨a, ha, da⟩ := dpa_get' (ok.dpa r' hv) e1
  obtain ⟨b, hb, db⟩ := dpa_get' (ok.dpa r' hu) e2
  rw [List.getD_eq_getElem?_getD, ha, List.getD_eq_getElem?_getD, hb]
  exact .tup (SqT.of upd_same) (.cons da (.cons db .nil))
theorem iv_zipT (ok : m.Ok) {e f : Expr} {xs ys : List PyData} {p tpos : Pos} {elts : List Expr} {kk : Nat} (hm : m.S.mg "zip" = none) (h : EV m ds e (.d (.tuple xs))) (h' : EV m ds f (.d (.tuple ys))) (hg : ∀ i, Gl (m.F i) "zip" := by intro _; rfl)
    (he : ∀ i, starEach [e, f] (m.F i).env = (false, eval e (m.F i).env) :: starEach [f] (m.F i).env := by intro _; rfl) (he2 : ∀ i, starEach [f] (m.F i).env = (false, eval f (m.F i).env) :: starEach [] (m.F i).env := by intro _; rfl) (hpl : ∀ i, (backTo pos (starEach [f] (m.F i).env)).any (·.1) = false := by intro _; rfl) :
    IV m ds (.Tuple elts kk tpos) (.Call (.Name "zip" p) [e, f] [] pos) (min xs.length ys.length) fun i => .tuple [xs.getD i .none, ys.getD i .none] := fun σ H hr hs Q q => by
  refine wI_of (t := RZ.iZipA m.S.K (wA m.F [e, f])) (fun i => by rw [← ok.hK i]; exact RZ.pi_zipA (hg i) (by rw [ok.hm i]; exact hm) (wA_ok i) (he i) (hpl i)) (ea_two ok h h' he he2 σ H hr hs _ fun vs H1 r1 q1 => ?_)
  obtain ⟨v, v', rfl, d, d'⟩ := dqa2 q1
  obtain ⟨a, us, rfl, hq, hv⟩ := Dp.tup_inv d
  obtain ⟨b, ws, rfl, hq', hv'⟩ := Dp.tup_inv d'
  refine ⟨a, b, us, ws, rfl, .inr ⟨hq, hq', q _ H1 (fun H => SqT m.S.K H a us ∧ SqT m.S.K H b ws) r1 (fun H2 r2 => ⟨ok.st_ r2 hq, ok.st_ r2 hq'⟩) ?_⟩⟩
  exact (walk_zipT (by rw [dpa_len hv, dpa_len hv'])).mono (fun _ z => z) fun i H v H' hi _ y => pair_dp ok hv hv' y
theorem iv_zipL (ok : m.Ok) {e f : Expr} {xs ys : List PyData} {p tpos : Pos} {elts : List Expr} {kk : Nat} (hm : m.S.mg "zip" = none) (h : EV m ds e (.d (.list xs))) (h' : EV m ds f (.d (.list ys))) (hg : ∀ i, Gl (m.F i) "zip" := by intro _; rfl)
    (he : ∀ i, starEach [e, f] (m.F i).env = (false, eval e (m.F i).env) :: starEach [f] (m.F i).env := by intro _; rfl) (he2 : ∀ i, starEach [f] (m.F i).env = (false, eval f (m.F i).env) :: starEach [] (m.F i).env := by intro _; rfl) (hpl : ∀ i, (backTo pos (starEach [f] (m.F i).env)).any (·.1) = false := by intro _; rfl) :
    IV m ds (.Tuple elts kk tpos) (.Call (.Name "zip" p) [e, f] [] pos) (min xs.length ys.length) fun i => .tuple [xs.getD i .none, ys.getD i .none] := fun σ H hr hs Q q => by
  refine wI_of (t := RZ.iZipA m.S.K (wA m.F [e, f])) (fun i => by rw [← ok.hK i]; exact RZ.pi_zipA (hg i) (by rw [ok.hm i]; exact hm) (wA_ok i) (he i) (hpl i)) (ea_two ok h h' he he2 σ H hr hs _ fun vs H1 r1 q1 => ?_)
  obtain ⟨v, v', rfl, d, d'⟩ := dqa2 q1
  obtain ⟨a, us, rfl, hq, hv⟩ := Dp.lst_inv d
  obtain ⟨b, ws, rfl, hq', hv'⟩ := Dp.lst_inv d'
  refine ⟨a, b, us, ws, rfl, .inl ⟨hq, hq', q _ H1 (fun H => SqL m.S.K H a us ∧ SqL m.S.K H b ws) r1 (fun H2 r2 => ⟨ok.sl_ r2 hq, ok.sl_ r2 hq'⟩) ?_⟩⟩
  exact (walk_zip (by rw [dpa_len hv, dpa_len hv'])).mono (fun _ z => z) fun i H v H' hi _ y => pair_dp ok hv hv' y
/-- for, from a state -/
theorem ws_for (ok : m.Ok) {tg iter : Expr} {body rest : List Stmt} {D : Ends} {n : Nat} {Y : Nat → PyData} {σ : L2.St} {H : Hp} (hr : m.R m.H0 H) (hs : Sl m.S.K H σ ds) (hi : IV m ds tg iter n Y) (I : Nat → Sd → Hp → Prop) (hst : ∀ i ds' H H', Ex H H' → I i ds' H → I i ds' H') (h0 : ∀ H1, m.R H H1 → I 0 ds H1)
    (ht : ∀ H1, m.R H H1 → (m.at_ H1).Ok → ∀ i v ds' σ' H', i < n → m.R H1 H' → I i ds' H' → Sl m.S.K H' σ' ds' → Dp m.S.K H' v (Y i) → wG m.F tg v σ' H' fun σ2 H2 => wSs m.F body { D with nx := Nx (m.at_ H1) (I (i + 1)), ct := Nx (m.at_ H1) (I (i + 1)), bk := fun σ H => wSs m.F rest D σ H } σ2 H2)
    (hd : ∀ H1 ds' σ' H', m.R H H1 → m.R H1 H' → I n ds' H' → Sl m.S.K H' σ' ds' → wSs m.F rest D σ' H')
    (hp : ∀ i, PassesOwn (model (m.F i).prog (m.F i).w) (m.F i).A (m.F i).env (m.F i).xe := by intro _; exact PassesOwn.never) (hf : ∀ i, ∀ x, foldedSetIterable iter (m.F i).env x = pure x := by intro _ _; rfl) : wSs m.F (.For tg iter body [] pos :: rest) D σ H := by
  refine wSs_cons (wS_of (t := tFor (wI m.F tg iter) (wG m.F tg) (wSs m.F body)) (fun i => ps_for (hp i) (ok.calm i) (wI_ok i) (wG_ok i) (wSs_ok i) (hf i)) (hi σ H hr hs _ fun J H1 G r1 hG w => ?_))
  refine for_it w (Nx (m.at_ H1) <| I ·) ⟨ds, ok.refl H1, h0 H1 r1, ok.sl r1 hs⟩ (fun i σ' H' _ ⟨ds', k1, _⟩ => hG H' k1) (fun i x σ' H' H'' hi' ⟨ds', k1, k2, k3⟩ y => ?_) (fun σ' H' ⟨ds', k1, k2, k3⟩ => hd H1 ds' σ' H' r1 k1 k2 k3)
  have e := y.1
  exact ht H1 r1 (ok.at_ H1) i x ds' σ' H'' hi' (ok.trans k1 (ok.ex e)) (hst i ds' H' H'' e k2) (ok.sl (ok.ex e) k3) (y.2 k1)
/-- for, the known slots alone -/
theorem bd_for (ok : m.Ok) {tg iter : Expr} {body rest : List Stmt} {D : Ends} {n : Nat} {Y : Nat → PyData} (hi : IV m ds tg iter n Y) (I : Nat → Sd → Prop) (h0 : I 0 ds)
    (ht : ∀ H1, m.R m.H0 H1 → (m.at_ H1).Ok → ∀ i v ds' σ' H', i < n → m.R H1 H' → I i ds' → Sl m.S.K H' σ' ds' → Dp m.S.K H' v (Y i) → wG m.F tg v σ' H' fun σ2 H2 => wSs m.F body { D with nx := Nx (m.at_ H1) (fun d _ => I (i + 1) d), ct := Nx (m.at_ H1) (fun d _ => I (i + 1) d), bk := fun σ H => wSs m.F rest D σ H } σ2 H2)
    (hd : ∀ ds', I n ds' → BD m ds' rest D)
    (hp : ∀ i, PassesOwn (model (m.F i).prog (m.F i).w) (m.F i).A (m.F i).env (m.F i).xe := by intro _; exact PassesOwn.never) (hf : ∀ i, ∀ x, foldedSetIterable iter (m.F i).env x = pure x := by intro _ _; rfl) : BD m ds (.For tg iter body [] pos :: rest) D := fun σ H hr hs =>
  ws_for ok hr hs hi (fun i d _ => I i d) (fun _ _ _ _ _ z => z) (fun _ _ => h0) (fun H1 r1 => ht H1 (ok.trans hr r1)) (fun H1 ds' σ' H' r1 r2 k => hd ds' k σ' H' (ok.trans hr (ok.trans r1 r2))) hp hf
/-- .. one name -/
theorem bd_for1 (ok : m.Ok) (j : Nat) {x : Str} {iter : Expr} {body rest : List Stmt} {D : Ends} {n : Nat} {Y : Nat → PyData} {p : Pos} (hN : m.S.N[j]? = some x) (hi : IV m ds (.Name x p) iter n Y) (I : Nat → Sd → Prop) (h0 : I 0 ds)
    (ht : ∀ H1, m.R m.H0 H1 → (m.at_ H1).Ok → ∀ i ds', i < n → I i ds' → BD (m.at_ H1) (ds'.set j (some (.d (Y i)))) body { D with nx := Nx (m.at_ H1) (fun d _ => I (i + 1) d), ct := Nx (m.at_ H1) (fun d _ => I (i + 1) d), bk := fun σ H => wSs m.F rest D σ H })
    (hd : ∀ ds', I n ds' → BD m ds' rest D)
    (hl : ∀ i, Loc (m.F i).env.scope x := by intro _; first | exact Or.inl rfl | exact Or.inr rfl)
    (hfn : ∀ i, (m.F i).fn x = true ∨ (m.F i).env.scope.names.lookup x = some .local := by intro _; first | exact Or.inl rfl | exact Or.inr rfl)
    (hp : ∀ i, PassesOwn (model (m.F i).prog (m.F i).w) (m.F i).A (m.F i).env (m.F i).xe := by intro _; exact PassesOwn.never) (hf : ∀ i, ∀ x, foldedSetIterable iter (m.F i).env x = pure x := by intro _ _; rfl) : BD m ds (.For (.Name x p) iter body [] pos :: rest) D :=
  bd_for ok hi I h0 (fun H1 r1 ok1 i v ds' σ' H' hi' r2 k s d => wG_name ok j hN (ht H1 r1 ok1 i ds' hi' k _ H' r2 (s.set (r := .d (Y i)) j d)) hl hfn) hd hp hf
/-- the end of a turn -/
theorem bd_nx {I : Sd → Hp → Prop} {D0 : Ends} (h : ∀ σ H, m.R m.H0 H → Sl m.S.K H σ ds → I ds H) : BD m ds [] { D0 with nx := Nx m I } := bd_nil fun σ H hr hs => ⟨ds, hr, h σ H hr hs, hs⟩
/-- while -/
theorem bd_while (ok : m.Ok) {c : Expr} {body rest : List Stmt} {D : Ends} (W : Nat → Sd → Prop) (n0 : Nat) (h0 : W n0 ds)
    (ht : ∀ n ds', W n ds' → ∃ b, TV m ds' c b ∧ (b = true → ∀ N : L2.St → Hp → Prop, (∀ n' ds'' σ H, n' < n → W n' ds'' → m.R m.H0 H → Sl m.S.K H σ ds'' → N σ H) → BD m ds' body { D with nx := N, ct := N, bk := fun σ H => wSs m.F rest D σ H }) ∧ (b = false → BD m ds' rest D))
    (hp : ∀ i, PassesOwn (model (m.F i).prog (m.F i).w) (m.F i).A (m.F i).env (m.F i).xe := by intro _; exact PassesOwn.never) : BD m ds (.While c body [] pos :: rest) D := fun σ H hr hs => by
  refine wSs_cons (wS_of (t := tWhile (wT m.F c) (wSs m.F body)) (fun i => ps_while (hp i) (wT_ok i) (wSs_ok i)) ?_)
  refine ⟨fun n σ H => ∃ ds', W n ds' ∧ m.R m.H0 H ∧ Sl m.S.K H σ ds', ⟨n0, ds, h0, hr, hs⟩, fun n σ' H' ⟨ds', w, r, s⟩ => ?_⟩
  obtain ⟨b, tb, h1, h2⟩ := ht n ds' w
  refine tb σ' H' r s _ fun H2 r2 => ?_
  cases b with
  | true =>
    rw [if_pos rfl]
    refine ⟨fun σ H => ∃ n', n' < n ∧ ∃ ds', W n' ds' ∧ m.R m.H0 H ∧ Sl m.S.K H σ ds', fun _ _ z => z, ?_⟩
    exact h1 rfl _ (fun n' ds'' σ H a b c d => ⟨n', a, ds'', b, c, d⟩) σ' H2 (ok.trans r r2) (ok.sl r2 s)
  | false =>
    rw [if_neg Bool.false_ne_true]
    exact h2 rfl σ' H2 (ok.trans r r2) (ok.sl r2 s)
/-! #### comprehensions -/
/-- no lists within -/
def noL : PyData → Bool
  | .list _ => false
  | .dict _ => false
  | .tuple xs => noLs xs
  | _ => true
where noLs : List PyData → Bool
  | [] => true
  | x :: xs => noL x && noLs xs
mutual
theorem dp_noL {K : PySem.W.Frag} {H : Hp} {D : Addr} {zs : List V} (ht : ∀ a xs, SqT K H a xs → SqT K (upd H D (.lst zs)) a xs) : ∀ {v : V} {d : PyData}, Dp K H v d → noL d = true → Dp K (upd H D (.lst zs)) v d
  | _, _, .non, _ => .non
  | _, _, .bl b, _ => .bl b
  | _, _, .int i, _ => .int i
  | _, _, .str x, _ => .str x
  | _, _, .lst q a, h => by simp [noL] at h
  | _, _, .tup q a, h => .tup (ht _ _ q) (dpa_noL ht a (by simpa [noL] using h))
theorem dpa_noL {K : PySem.W.Frag} {H : Hp} {D : Addr} {zs : List V} (ht : ∀ a xs, SqT K H a xs → SqT K (upd H D (.lst zs)) a xs) : ∀ {vs : List V} {ds : List PyData}, DpAll K H vs ds → noL.noLs ds = true → DpAll K (upd H D (.lst zs)) vs ds
  | _, _, .nil, _ => .nil
  | _, _, .cons a t, h => by
    simp only [noL.noLs, Bool.and_eq_true] at h
    exact .cons (dp_noL ht a h.1) (dpa_noL ht t h.2)
end
theorem sqt_lst {K : PySem.W.Frag} {H : Hp} {D : Addr} {acc zs : List V} (hD : H D = some (.lst acc)) (a : Addr) (xs : List V) (h : SqT K H a xs) : SqT K (upd H D (.lst zs)) a xs := by
  rcases h with (h | ⟨o, h⟩) | h
  · exact .inl (.inl (by rw [upd_ne (ne_of h hD (by intro z; cases z))]; exact h))
  · exact .inl (.inr ⟨o, by rw [upd_ne (ne_of h hD (by intro z; cases z))]; exact h⟩)
  · exact .inr h
theorem dpa_snoc {K : PySem.W.Frag} {H : Hp} {v : V} {x : PyData} : ∀ {vs : List V} {xs : List PyData}, DpAll K H vs xs → Dp K H v x → DpAll K H (vs ++ [v]) (xs ++ [x])
  | _, _, .nil, d => .cons d .nil
  | _, _, .cons a t, d => .cons a (dpa_snoc t d)
theorem noLs_snoc {x : PyData} : ∀ {xs : List PyData}, noL.noLs xs = true → noL x = true → noL.noLs (xs ++ [x]) = true
  | [], _, h => by simp [noL.noLs, h]
  | y :: ys, h, hx => by
    simp only [noL.noLs, Bool.and_eq_true] at h
    simp only [List.cons_append, noL.noLs, Bool.and_eq_true]
    exact ⟨h.1, noLs_snoc h.2 hx⟩
abbrev BI (ι : Type) : Type := ι × Shared × Hp × Addr × List (Str × Addr) × List Addr
def Mo.blk (m : Mo ι) (scope : Scope) : Mo (BI ι) where
  F := fun z => (m.F z.1).blk z.2.1 z.2.2.1 scope (compEnvC scope z.2.2.2.2.1 z.2.2.2.1 (m.F z.1).env) z.2.2.2.2.2
  S := m.S
  R := m.R
  H0 := m.H0
  k := m.k
theorem Mo.Ok.blk (ok : m.Ok) (scope : Scope) : (m.blk scope).Ok := ⟨fun z => ok.hp z.1, fun z => ok.hw z.1, fun z => ok.hK z.1, fun z => ok.hm z.1, fun z => ok.hb z.1, fun z => ok.hN z.1, fun z => ok.calm z.1, fun z => ok.room z.1, ok.nd, ok.refl, ok.trans, ok.ex, ok.sl_, ok.st_, ok.lk, ok.mt_⟩
def wipeD (ds : Sd) : List Nat → Sd
  | [] => ds
  | v :: vs => (wipeD ds vs).set v none
theorem Sl.none {K : PySem.W.Frag} {H : Hp} {σ : L2.St} {ds : Sd} (q : Sl K H σ ds) (j : Nat) : Sl K H (σ.set j none) (ds.set j none) := by
  refine ⟨by rw [List.length_set, List.length_set]; exact q.1, fun i r e => ?_⟩
  by_cases hij : j = i
  · subst hij
    by_cases hl : j < ds.length
    · rw [List.getElem?_set_self hl] at e
      cases e
    · rw [List.getElem?_eq_none (by rw [List.length_set]; omega)] at e
      cases e
  · rw [List.getElem?_set_ne hij] at e ⊢
    exact q.2 i r e
theorem Sl.wipe {K : PySem.W.Frag} {H : Hp} {σ : L2.St} {ds : Sd} (q : Sl K H σ ds) : ∀ vs, Sl K H (L2.wipe σ vs) (wipeD ds vs)
  | [] => q
  | v :: vs => (Sl.wipe q vs).none v
def wP {ι : Type} (F : ι → Cx) (ifs : List Expr) : TT := fun σ H Q => ∃ t, (∀ i, PTs (F i) ifs t) ∧ t σ H Q
theorem wP_ok {ι : Type} {F : ι → Cx} {ifs : List Expr} (i : ι) : PTs (F i) ifs (wP F ifs) := ⟨fun pins s σ H Q I ⟨t, h, q⟩ => (h i).run pins s σ H Q I q⟩
/-- the tests of a clause -/
def PV (m : Mo ι) (ds : Sd) (ifs : List Expr) (b : Bool) : Prop := ∀ σ H, m.R m.H0 H → Sl m.S.K H σ ds → ∀ Q : Bool → Hp → Prop, (∀ H2, m.R H H2 → Q b H2) → wP m.F ifs σ H Q
theorem pv_nil (ok : m.Ok) : PV m ds [] true := fun σ H hr hs Q k => ⟨_, fun _ => pts_nil, k H (ok.refl H)⟩
theorem pv_one (ok : m.Ok) {c : Expr} {b : Bool} (h : TV m ds c b) : PV m ds [c] b := fun σ H hr hs Q k => ⟨_, fun i => pts_one (wT_ok i), h σ H hr hs Q k⟩
/-- what a comprehension has gathered behind i turns -/
def got (f : Nat → Bool) (g : Nat → PyData) : Nat → List PyData
  | 0 => []
  | n + 1 => if f n = true then got f g n ++ [g n] else got f g n
theorem got_len (f : Nat → Bool) (g : Nat → PyData) : ∀ n, (got f g n).length ≤ n
  | 0 => Nat.le_refl _
  | n + 1 => by
    have := got_len f g n
    unfold got
    split
    · rw [List.length_append]; simp; omega
    · omega
theorem got_noL {f : Nat → Bool} {g : Nat → PyData} : ∀ n, (∀ i, i < n → f i = true → noL (g i) = true) → noL.noLs (got f g n) = true
  | 0, _ => rfl
  | n + 1, h => by
    have ih := got_noL n fun i hi => h i (by omega)
    unfold got
    split
    · rename_i hf
      exact noLs_snoc ih (h n (by omega) hf)
    · exact ih
/-- [elt for tg in iter if ..] -/
theorem ev_lcL (ok : m.Ok) {elt tg iter : Expr} {ifs : List Expr} {scope : Scope} (own : List (Str × Nat)) {n : Nat} {Y : Nat → PyData} (f : Nat → Bool) (g : Nat → PyData) (hi : IV m ds tg iter n Y) (hb : ∀ i, blkC m.S.N (m.F i).env.scope scope own = true) (hz : n ≤ 1000)
    (ht : ∀ H1, m.R m.H0 H1 → ((m.blk scope).at_ H1).Ok → ∀ i, i < n → ∃ ds2, (∀ v σ H, m.R H1 H → Sl m.S.K H σ (wipeD ds (own.map (·.2))) → Dp m.S.K H v (Y i) → ∀ Q : L2.St → Hp → Prop, (∀ σ2, Sl m.S.K H σ2 ds2 → (L2.wipe σ (own.map (·.2)) = σ → L2.wipe σ2 (own.map (·.2)) = σ) → Q σ2 H) → wG (m.blk scope).F tg v σ H Q) ∧
      PV ((m.blk scope).at_ H1) ds2 ifs (f i) ∧ (f i = true → EV ((m.blk scope).at_ H1) ds2 elt (.d (g i)) ∧ noL (g i) = true))
    (hfs : ∀ i, ∀ x, foldedSetIterable iter (m.F i).env x = pure x := by intro _ _; rfl) : EV m ds (.ListComp elt [⟨tg, iter, ifs, 0⟩] scope pos) (.l (got f g n)) := fun σ H hr hs Q q => by
  have okb : ∀ H1, ((m.blk scope).at_ H1).Ok := fun H1 => (ok.blk scope).at_ H1
  refine wE_of (t := tLc (wI m.F tg iter) (wG (m.blk scope).F tg) (wP (m.blk scope).F ifs) (wE (m.blk scope).F elt) (own.map (·.2))) (fun i => pe_lc (ok.calm i) (by rw [ok.hN i]; exact ok.nd) (wI_ok i) (blkOk_by (by rw [ok.hN i]; exact hb i))
    (fun s H C cl fp => wG_ok (F := (m.blk scope).F) (i, s, H, C, cl, fp)) (fun s H C cl fp => wP_ok (F := (m.blk scope).F) (i, s, H, C, cl, fp)) (fun s H C cl fp => wE_ok (F := (m.blk scope).F) (i, s, H, C, cl, fp)) (hfs i)) ?_
  refine hi σ H hr hs _ fun J H1 G r1 hG w D nD => ?_
  have r01 := ok.trans hr r1
  have wi := (ok.sl r1 hs).wipe (own.map (·.2))
  have ww : ∀ (l : List Nat) (σ : L2.St), L2.wipe (L2.wipe σ l) l = L2.wipe σ l := by
    intro l
    have comm : ∀ (l : List Nat) (σ : L2.St) (j : Nat), L2.wipe (σ.set j none) l = (L2.wipe σ l).set j none := by
      intro l
      induction l with
      | nil => intro σ j; rfl
      | cons a l ih =>
        intro σ j
        show (L2.wipe (σ.set j none) l).set a none = ((L2.wipe σ l).set a none).set j none
        rw [ih]
        by_cases e : j = a
        · subst e; rfl
        · exact List.set_comm _ _ e
    induction l with
    | nil => intro σ; rfl
    | cons a l ih =>
      intro σ
      show (L2.wipe ((L2.wipe σ l).set a none) l).set a none = (L2.wipe σ l).set a none
      rw [comm, ih, List.set_set]
  refine lc_it w (fun i H' => m.R H1 H' ∧ ∃ acc, H' D = some (.lst acc) ∧ DpAll m.S.K H' acc (got f g i)) ⟨ok.new nD, [], upd_same, .nil⟩ (fun i H' _ k => hG H' k.1) (fun i x H' H'' hi' ⟨k1, acc, k2, k3⟩ y => ?_) (fun H' ⟨k1, acc, k2, k3⟩ => q _ H' (ok.trans r1 k1) ⟨D, acc, rfl, k2, k3⟩)
  have e1 := y.1
  have k1' := ok.trans k1 (ok.ex e1)
  obtain ⟨ds2, g1, g2, g3⟩ := ht H1 r01 (okb H1) i hi'
  refine g1 x _ H'' k1' (ok.sl k1' wi) (y.2 k1) _ fun σ2 s2 hw => ⟨hw (ww _ _), ?_⟩
  refine g2 σ2 H'' k1' s2 _ fun H3 r3 => ?_
  have e2 : H'' D = some (.lst acc) := e1 _ _ k2
  have k3' : DpAll m.S.K H'' acc (got f g i) := ok.dpa (ok.ex e1) k3
  cases hf : f i with
  | true =>
    rw [if_pos rfl]
    obtain ⟨g4, g5⟩ := g3 hf
    refine g4 σ2 H3 (ok.trans k1' r3) (ok.sl r3 s2) _ fun u H4 r4 d4 => ⟨acc, ok.lk r4 (ok.lk r3 e2), ?_, ?_⟩
    · have := got_len f g i
      rw [dpa_len k3']
      exact Nat.lt_of_lt_of_le (show (got f g i).length < 2000 by omega) (by decide)
    · have e4 : H4 D = some (.lst acc) := ok.lk r4 (ok.lk r3 e2)
      refine ⟨ok.mt_ (ok.trans k1' (ok.trans r3 r4)) nD e4, acc ++ [u], upd_same, ?_⟩
      have l1 : noL.noLs (got f g i) = true := got_noL i fun j hj hfj => by
        obtain ⟨_, _, _, h3⟩ := ht H1 r01 (okb H1) j (by omega)
        exact (h3 hfj).2
      have eg : got f g (i + 1) = got f g i ++ [g i] := if_pos hf
      rw [eg]
      exact dpa_snoc (dpa_noL (sqt_lst e4) (ok.dpa (ok.trans r3 r4) k3') l1) (dp_noL (sqt_lst e4) d4 g5)
  | false =>
    rw [if_neg Bool.false_ne_true]
    have eg : got f g (i + 1) = got f g i := if_neg (by rw [hf]; decide)
    refine ⟨ok.trans k1' r3, acc, ok.lk r3 e2, ?_⟩
    rw [eg]
    exact ok.dpa r3 k3'
end
/-! The layer: one-name comprehensions, slices, membership; defs. -/
section
variable {ι : Type} {m : Mo ι} {ds : Sd} {pos : Pos}
/-- [elt for x in iter if ..], x a name -/
theorem ev_lc1L (ok : m.Ok) (j : Nat) {x : Str} {elt iter : Expr} {ifs : List Expr} {scope : Scope} {n : Nat} {Y : Nat → PyData} (f : Nat → Bool) (g : Nat → PyData) {p : Pos} (hN : m.S.N[j]? = some x) (hi : IV m ds (.Name x p) iter n Y) (hz : n ≤ 1000)
    (ht : ∀ H1, m.R m.H0 H1 → ((m.blk scope).at_ H1).Ok → ∀ i, i < n → PV ((m.blk scope).at_ H1) ((ds.set j none).set j (some (.d (Y i)))) ifs (f i) ∧ (f i = true → EV ((m.blk scope).at_ H1) ((ds.set j none).set j (some (.d (Y i)))) elt (.d (g i)) ∧ noL (g i) = true))
    (hb : ∀ i, blkC m.S.N (m.F i).env.scope scope [(x, j)] = true := by intro _; kernel_rfl)
    (hl : ∀ z, Loc ((m.blk scope).F z).env.scope x := by intro _; first | exact Or.inl rfl | exact Or.inr rfl)
    (hfn : ∀ z, ((m.blk scope).F z).fn x = true ∨ ((m.blk scope).F z).env.scope.names.lookup x = some .local := by intro _; first | exact Or.inl rfl | exact Or.inr rfl)
    (hfs : ∀ i, ∀ x, foldedSetIterable iter (m.F i).env x = pure x := by intro _ _; rfl) : EV m ds (.ListComp elt [⟨.Name x p, iter, ifs, 0⟩] scope pos) (.l (got f g n)) :=
  ev_lcL ok [(x, j)] f g hi hb hz (fun H1 r1 okb i hi' => ⟨(ds.set j none).set j (some (.d (Y i))), fun v σ H r s d Q q => wG_name (ok.blk scope) j hN (q _ (s.set (r := .d (Y i)) j d) fun _ => by
    show (σ.set j (some v)).set j none = σ
    rename_i hw
    have hw' : σ.set j none = σ := hw
    rw [List.set_set]
    exact hw') hl hfn, ht H1 r1 okb i hi'⟩) hfs
/-- [elt for x, y in iter if ..] -/
theorem ev_lc2n (ok : m.Ok) (j l : Nat) {x y : Str} {elt iter : Expr} {ifs : List Expr} {scope : Scope} {n : Nat} {Y Z : Nat → PyData} (f : Nat → Bool) (g : Nat → PyData) {p px py : Pos} {kk : Nat} (hx : m.S.N[j]? = some x) (hy : m.S.N[l]? = some y) (hjl : j ≠ l) (hi : IV m ds (.Tuple [.Name x px, .Name y py] kk p) iter n fun i => .tuple [Y i, Z i]) (hz : n ≤ 1000)
    (ht : ∀ H1, m.R m.H0 H1 → ((m.blk scope).at_ H1).Ok → ∀ i, i < n → PV ((m.blk scope).at_ H1) ((((ds.set l none).set j none).set j (some (.d (Y i)))).set l (some (.d (Z i)))) ifs (f i) ∧ (f i = true → EV ((m.blk scope).at_ H1) ((((ds.set l none).set j none).set j (some (.d (Y i)))).set l (some (.d (Z i)))) elt (.d (g i)) ∧ noL (g i) = true))
    (hb : ∀ i, blkC m.S.N (m.F i).env.scope scope [(x, j), (y, l)] = true := by intro _; kernel_rfl)
    (hg : ∀ (v : V) (σ : L2.St) (H : Hp) (r r' : PyData) (Q : L2.St → Hp → Prop), Dp m.S.K H v (.tuple [r, r']) → (∀ u u', Dp m.S.K H u r → Dp m.S.K H u' r' → Q ((σ.set j (some u)).set l (some u')) H) → wG (m.blk scope).F (.Tuple [.Name x px, .Name y py] kk p) v σ H Q)
    (hfs : ∀ i, ∀ x, foldedSetIterable iter (m.F i).env x = pure x := by intro _ _; rfl) : EV m ds (.ListComp elt [⟨.Tuple [.Name x px, .Name y py] kk p, iter, ifs, 0⟩] scope pos) (.l (got f g n)) :=
  ev_lcL ok [(x, j), (y, l)] f g hi hb hz (fun H1 r1 okb i hi' => ⟨(((ds.set l none).set j none).set j (some (.d (Y i)))).set l (some (.d (Z i))), fun v σ H r s d Q q => hg v σ H _ _ Q d fun u u' d1 d2 => q _ ((s.set (r := .d (Y i)) j d1).set (r := .d (Z i)) l d2) fun hw => by
    show ((((σ.set j (some u)).set l (some u')).set l none).set j none) = σ
    have hw' : (σ.set l none).set j none = σ := hw
    rw [List.set_set, List.set_comm _ _ hjl, List.set_set, hw'], ht H1 r1 okb i hi'⟩) hfs
/-! #### slices from a place on -/
theorem cut_from (vs : List V) (k : Nat) : cutV vs (some (k : Int)) none = vs.drop k := by
  unfold cutV
  rw [HT.sIx_none, HT.sIx_nat]
  by_cases h : k ≤ vs.length
  · rw [Nat.min_eq_left h, List.take_of_length_le (by rw [List.length_drop]; omega)]
  · rw [Nat.min_eq_right (by omega), List.drop_of_length_le (by omega), List.drop_of_length_le (by omega)]
    simp
theorem cut_to (vs : List V) (k : Nat) : cutV vs none (some (k : Int)) = vs.take k := by
  unfold cutV
  rw [HT.sIx_none, HT.sIx_nat]
  by_cases h : k ≤ vs.length
  · rw [Nat.min_eq_left h]; simp
  · rw [Nat.min_eq_right (by omega), List.take_of_length_le (by simp), List.take_of_length_le (by omega)]
    simp
theorem dpa_drop {K : PySem.W.Frag} {H : Hp} : ∀ {vs : List V} {xs : List PyData} (k : Nat), DpAll K H vs xs → DpAll K H (vs.drop k) (xs.drop k)
  | _, _, 0, h => h
  | _, _, _ + 1, .nil => .nil
  | _, _, k + 1, .cons _ t => dpa_drop k t
theorem dpa_take {K : PySem.W.Frag} {H : Hp} : ∀ {vs : List V} {xs : List PyData} (k : Nat), DpAll K H vs xs → DpAll K H (vs.take k) (xs.take k)
  | _, _, 0, _ => .nil
  | _, _, _ + 1, .nil => .nil
  | _, _, k + 1, .cons a t => .cons a (dpa_take k t)
theorem ev_dropT (ok : m.Ok) {e lo : Expr} {xs : List PyData} {k : Nat} {p2 : Pos} (h : EV m ds e (.d (.tuple xs))) (hl : EV m ds lo (.d (.int (k : Int)))) (hk : 0 < k) (hx : 0 < xs.length) : EV m ds (.Subscript e (.Slice (some lo) none none p2) pos) (.d (.tuple (xs.drop k))) := fun σ H hr hs Q q => by
  refine wE_of (t := tSl (rSlT m.S.K) (wE m.F e) (tPart (wE m.F lo)) tNoPart) (fun i => pe_slice (by rw [← ok.hK i]; exact sl_tup) (wE_ok i) (po_some (wE_ok i)) po_none) (h σ H hr hs _ fun v H1 r1 q1 => hl σ H1 (ok.trans hr r1) (ok.sl r1 hs) _ fun u H2 r2 q2 => ⟨k, Dp.int_inv q2, ?_⟩)
  obtain ⟨a, vs, rfl, hq, hv⟩ := Dp.tup_inv (ok.dp r2 q1)
  refine ⟨a, vs, rfl, hq, fun ⟨z, _⟩ => ?_, fun p np => ?_⟩
  · rw [HT.sIx_nat, dpa_len hv] at z
    omega
  · rw [cut_from]
    have e' := ok.new (o := HO.tup (vs.drop k)) np
    exact q _ _ (ok.trans r1 (ok.trans r2 e')) (.tup (SqT.of upd_same) (ok.dpa e' (dpa_drop k hv)))
theorem ev_dropL (ok : m.Ok) {e lo : Expr} {xs : List PyData} {k : Nat} {p2 : Pos} (h : EV m ds e (.d (.list xs))) (hl : EV m ds lo (.d (.int (k : Int)))) : EV m ds (.Subscript e (.Slice (some lo) none none p2) pos) (.d (.list (xs.drop k))) := fun σ H hr hs Q q => by
  refine wE_of (t := tSl (rSlL m.S.K) (wE m.F e) (tPart (wE m.F lo)) tNoPart) (fun i => pe_slice (by rw [← ok.hK i]; exact sl_list) (wE_ok i) (po_some (wE_ok i)) po_none) (h σ H hr hs _ fun v H1 r1 q1 => hl σ H1 (ok.trans hr r1) (ok.sl r1 hs) _ fun u H2 r2 q2 => ⟨k, Dp.int_inv q2, ?_⟩)
  obtain ⟨a, vs, rfl, hq, hv⟩ := Dp.lst_inv (ok.dp r2 q1)
  refine ⟨a, vs, rfl, hq, fun p np => ?_⟩
  rw [cut_from]
  have e' := ok.new (o := HO.lst (vs.drop k)) np
  exact q _ _ (ok.trans r1 (ok.trans r2 e')) (.lst (SqL.of upd_same) (ok.dpa e' (dpa_drop k hv)))
theorem ev_takeL (ok : m.Ok) {e hi : Expr} {xs : List PyData} {k : Nat} {p2 : Pos} (h : EV m ds e (.d (.list xs))) (hl : EV m ds hi (.d (.int (k : Int)))) : EV m ds (.Subscript e (.Slice none (some hi) none p2) pos) (.d (.list (xs.take k))) := fun σ H hr hs Q q => by
  refine wE_of (t := tSl (rSlL m.S.K) (wE m.F e) tNoPart (tPart (wE m.F hi))) (fun i => pe_slice (by rw [← ok.hK i]; exact sl_list) (wE_ok i) po_none (po_some (wE_ok i))) (h σ H hr hs _ fun v H1 r1 q1 => hl σ H1 (ok.trans hr r1) (ok.sl r1 hs) _ fun u H2 r2 q2 => ⟨k, Dp.int_inv q2, ?_⟩)
  obtain ⟨a, vs, rfl, hq, hv⟩ := Dp.lst_inv (ok.dp r2 q1)
  refine ⟨a, vs, rfl, hq, fun p np => ?_⟩
  rw [cut_to]
  have e' := ok.new (o := HO.lst (vs.take k)) np
  exact q _ _ (ok.trans r1 (ok.trans r2 e')) (.lst (SqL.of upd_same) (ok.dpa e' (dpa_take k hv)))
/-! #### lists: +, * -/
theorem dpa_app {K : PySem.W.Frag} {H : Hp} : ∀ {vs : List V} {xs : List PyData} {vs' : List V} {xs' : List PyData}, DpAll K H vs xs → DpAll K H vs' xs' → DpAll K H (vs ++ vs') (xs ++ xs')
  | _, _, _, _, .nil, b => b
  | _, _, _, _, .cons a t, b => .cons a (dpa_app t b)
theorem dpa_rep {K : PySem.W.Frag} {H : Hp} {vs : List V} {xs : List PyData} (h : DpAll K H vs xs) : ∀ n, DpAll K H (List.replicate n vs).flatten (List.replicate n xs).flatten
  | 0 => .nil
  | n + 1 => by
    rw [List.replicate_succ, List.replicate_succ, List.flatten_cons, List.flatten_cons]
    exact dpa_app h (dpa_rep h n)
theorem ev_cat (ok : m.Ok) {a b : Expr} {xs ys : List PyData} (ha : EV m ds a (.l xs)) (hb : EV m ds b (.l ys)) (hz : xs.length + ys.length ≤ 10000) : EV m ds (.BinOp a .Add b pos) (.l (xs ++ ys)) := fun σ H hr hs Q q => by
  refine wE_op ok (r := rCat) (fun i => op_cat) (ha σ H hr hs _ fun v H1 r1 d1 => hb σ H1 (ok.trans hr r1) (ok.sl r1 hs) _ fun v' H2 r2 d2 => ?_)
  obtain ⟨p, us, rfl, h1, h1'⟩ := ok.dq (r := .l xs) r2 d1
  obtain ⟨p', ws, rfl, h2, h2'⟩ := d2
  have l1 := dpa_len h1'
  have l2 := dpa_len h2'
  refine ⟨p, p', us, ws, rfl, rfl, h1, h2, Nat.le_trans (show us.length + ws.length ≤ 10000 by omega) (by decide), fun l nl => ?_⟩
  have e' := ok.new (o := HO.lst (us ++ ws)) nl
  refine q _ _ (ok.trans r1 (ok.trans r2 e')) ⟨l, _, rfl, upd_same, ?_⟩
  exact dpa_app (ok.dpa e' h1') (ok.dpa e' h2')
theorem ev_rep (ok : m.Ok) {a b : Expr} {xs : List PyData} {n : Nat} (ha : EV m ds a (.l xs)) (hb : EV m ds b (.d (.int n))) (hz : xs.length * n ≤ 10000) (hn : n ≤ 10000) : EV m ds (.BinOp a .Mult b pos) (.l (List.replicate n xs).flatten) := fun σ H hr hs Q q => by
  refine wE_op ok (r := rRep) (fun i => op_rep) (ha σ H hr hs _ fun v H1 r1 d1 => hb σ H1 (ok.trans hr r1) (ok.sl r1 hs) _ fun v' H2 r2 d2 => ?_)
  obtain ⟨p, us, rfl, h1, h1'⟩ := ok.dq (r := .l xs) r2 d1
  have l1 := dpa_len h1'
  refine ⟨p, n, us, rfl, Dp.int_inv d2, h1, by omega, by omega, ?_, fun l nl => ?_⟩
  · rw [Int.toNat_natCast, l1]
    exact Nat.le_trans hz (by decide)
  · rw [Int.toNat_natCast]
    have e' := ok.new (o := HO.lst (List.replicate n us).flatten) nl
    refine q _ _ (ok.trans r1 (ok.trans r2 e')) ⟨l, _, rfl, upd_same, ?_⟩
    exact dpa_rep (ok.dpa e' h1') n
/-! #### x in t, flat items -/
def flatP : PyData → Bool
  | .none => true
  | .bool _ => true
  | .int _ => true
  | .str _ => true
  | _ => false
end
/-! #### defs -/
/-- the family of a def's body: one context -/
abbrev bodyMo (P : Program) (w : World) (K : PySem.W.Frag) (mg : Str → Option Value) (base : Heap) (N : List Str) (qual : Str) (scope : Scope) (f : Addr) (cdv : Value) (A : Around) (outer : List Env) (s : Shared) (H : Hp) (E : XK) (R : Hp → Hp → Prop) (k : Nat) : Mo Unit :=
  ⟨fun _ => (cxOf CX0 P w K mg base N qual scope f cdv A outer s H E).nox, ⟨P, w, K, mg, base, N⟩, R, H, k⟩
/-- what is asked of a relation of heaps -/
structure Kp (K : PySem.W.Frag) (R : Hp → Hp → Prop) : Prop where
  refl : ∀ H, R H H
  trans : ∀ {H H1 H2}, R H H1 → R H1 H2 → R H H2
  ex : ∀ {H H'}, Ex H H' → R H H'
  sl_ : ∀ {H H' a xs}, R H H' → SqL K H a xs → SqL K H' a xs
  st_ : ∀ {H H' a xs}, R H H' → SqT K H a xs → SqT K H' a xs
  lk : ∀ {H H' a xs}, R H H' → H a = some (.lst xs) → H' a = some (.lst xs)
  mt_ : ∀ {H H' a xs ys}, R H H' → H a = none → H' a = some (.lst xs) → R H (upd H' a (.lst ys))
theorem kp_ex (K : PySem.W.Frag) : Kp K Ex := by
  refine ⟨Ex.refl, Ex.trans, fun z => z, fun {H H' a xs} e h => ?_, fun {H H' a xs} e h => ?_, fun e h => e _ _ h, fun {H H' a xs ys} e n h b o hb => ?_⟩
  · rcases h with (h | ⟨o, h⟩) | h
    · exact .inl (.inl (e _ _ h))
    · exact .inl (.inr ⟨o, e _ _ h⟩)
    · exact .inr h
  · rcases h with (h | ⟨o, h⟩) | h
    · exact .inl (.inl (e _ _ h))
    · exact .inl (.inr ⟨o, e _ _ h⟩)
    · exact .inr h
  · rw [upd_ne (ne_of_none hb n)]
    exact e _ _ hb
theorem body_ok {P : Program} {w : World} {K : PySem.W.Frag} {mg : Str → Option Value} {base : Heap} {N ps : List Str} {qual : Str} {scope : Scope} {f : Addr} {cdv : Value} {A : Around} {outer : List Env} {s : Shared} {H : Hp} {E : XK} {R : Hp → Hp → Prop} {k : Nat} (kp : Kp K R) (S : FnScope N ps scope) (hr : Room k (A.deeper (envOfC qual scope s.heap.objs.size f cdv))) :
    (bodyMo P w K mg base N qual scope f cdv A outer s H E R k).Ok :=
  ⟨fun _ => rfl, fun _ => rfl, fun _ => rfl, fun _ => rfl, fun _ => rfl, fun _ => rfl, fun _ => rfl, fun _ => hr, S.nd, kp.refl, kp.trans, kp.ex, kp.sl_, kp.st_, kp.lk, kp.mt_⟩
/-- the slots at the start -/
def startD (N : List Str) (rs : List SV) : Sd := rs.map some ++ List.replicate (N.length - rs.length) none
theorem start_sl {K : PySem.W.Frag} {H : Hp} {N : List Str} : ∀ {vs : List V} {rs : List SV}, DqAll K H vs rs → Sl K H (L2.start N vs) (startD N rs) := by
  intro vs rs h
  have l := DqAll.length h
  refine ⟨?_, fun i r e => ?_⟩
  · unfold L2.start startD
    rw [List.length_append, List.length_append, List.length_map, List.length_map, List.length_replicate, List.length_replicate, l]
  · unfold startD at e
    by_cases hi : i < rs.length
    · rw [List.getElem?_append_left (by simpa using hi), List.getElem?_map] at e
      have : ∃ v, vs[i]? = some v ∧ Dq K H v r := by
        clear l
        induction h generalizing i with
        | nil => simp at hi
        | cons a t ih =>
          cases i with
          | zero =>
            simp at e
            subst e
            exact ⟨_, rfl, a⟩
          | succ i =>
            obtain ⟨v, h1, h2⟩ := ih i (by simpa using e) (by simpa using hi)
            exact ⟨v, by simpa using h1, h2⟩
      obtain ⟨v, h1, h2⟩ := this
      refine ⟨v, ?_, h2⟩
      unfold L2.start
      rw [List.getElem?_append_left (by rw [List.length_map, l]; exact hi), List.getElem?_map, h1] <;> rfl
    · rw [List.getElem?_append_right (by simpa using hi), List.getElem?_replicate] at e
      split at e <;> cases e
section
variable {P : Program} {w : World} {K : PySem.W.Frag} {mg : Str → Option Value} {base : Heap} {x qual : Str} {params : Arguments} {body : List Stmt} {scope : Scope} {dvs : List V} {kws : List (Str × V)} {f : Addr} {fd : FuncData} {N ps : List Str} {k : Nat}
/-- THE RULE for a def, by its body -/
theorem fn_ok {sp : Sp} (F : FunD K x qual params body scope dvs kws f fd) (S : FnScope N ps scope) (len : ∀ vs H Q E, sp vs H Q E → vs.length = ps.length)
    (h : ∀ (cdv : Value) (A : Around) (outer : List Env) (s : Shared) (H : Hp) (vs : List V) (Q : VK) (E : XK), Room k (A.deeper (envOfC qual scope s.heap.objs.size f cdv)) → sp vs H Q E →
      wSs (fun _ : Unit => (cxOf CX0 P w K mg base N qual scope f cdv A outer s H E).nox) body { nx := fun _ H' => Q .non H', rt := Q } (L2.start N vs) H) : FnOk P w K mg base CX0 (k + 1) f fd ps sp :=
  F.ok S len fun cdv A outer s H vs Q E hr hsp => by
    obtain ⟨t, ht, q⟩ := h cdv A outer s H vs Q E hr hsp
    exact ⟨t, (ht ()).nox, q⟩
/-- a def that makes data of data -/
theorem fn_pure {rel : List SV → Hp → SV → Prop} (F : FunD K x qual params body scope dvs kws f fd) (S : FnScope N ps scope) (len : ∀ rs H r, rel rs H r → rs.length = ps.length)
    (h : ∀ (cdv : Value) (A : Around) (outer : List Env) (s : Shared) (H : Hp) (E : XK) (Q : VK) (rs : List SV) (r : SV), Room k (A.deeper (envOfC qual scope s.heap.objs.size f cdv)) → rel rs H r → (bodyMo P w K mg base N qual scope f cdv A outer s H E Ex k).Ok → (∀ v H', Ex H H' → Dq K H' v r → Q v H') →
      BD (bodyMo P w K mg base N qual scope f cdv A outer s H E Ex k) (startD N rs) body { nx := fun _ H' => Q .non H', rt := Q }) : FnOk P w K mg base CX0 (k + 1) f fd ps (SpR K rel) :=
  fn_ok F S (fun vs H Q E ⟨rs, r, d, q, _⟩ => (DqAll.length d).trans (len rs H r q)) fun cdv A outer s H vs Q E hr ⟨rs, r, d, q, hQ⟩ =>
    h cdv A outer s H E Q rs r hr q (body_ok (kp_ex K) S hr) hQ (L2.start N vs) H (Ex.refl H) (start_sl d)
theorem call_of {y : Str} {sp : Sp} {k : Nat} (F : FunD K x qual params body scope [] kws f fd) (G : FnOk P w K mg base CX0 k f fd ps sp) (hm : mg y = some (.ref f))
    (hb : ∀ (kV doc pm : Value) (an : Option Addr) (cdv ct : Value) (us : List Value), us.length = ps.length → bindArgs (PySem.W.fnOf x qual params body scope .none kV doc pm an cdv ct) ⟨us, []⟩ = pure (ps.zip us)) : CallOk P w K mg base y k sp :=
  ⟨f, fd, ps, G, hm, F.kp, F.bindsN hb⟩
end
end Gm
namespace Gm
set_option maxHeartbeats 4000000
/-! The mathematics, without any program. -/
/-- a fraction, over and under -/
abbrev Fr := Int × Int
def norm (o u : Int) : Fr := (o / (Int.gcd o u : Int), u / (Int.gcd o u : Int))
def addF (a b : Fr) : Fr := norm (a.1 * b.2 + b.1 * a.2) (a.2 * b.2)
def lessF (a b : Fr) : Fr := norm (a.1 * b.2 - b.1 * a.2) (a.2 * b.2)
def mulF (a b : Fr) : Fr := norm (a.1 * b.1) (a.2 * b.2)
def aboveF (a b : Fr) : Bool := decide (b.1 * a.2 < a.1 * b.2)
def val (f : Fr) : Rat := (f.1 : Rat) / (f.2 : Rat)
/-- in least terms -/
structure OkF (f : Fr) : Prop where
  pos : 0 < f.2
  cop : Int.gcd f.1 f.2 = 1
theorem cast_ne {x : Int} (h : x ≠ 0) : (x : Rat) ≠ 0 := fun e => h (Rat.intCast_inj.mp e)
theorem cast_pos {x : Int} (h : 0 < x) : (0 : Rat) < (x : Rat) := Rat.intCast_lt_intCast.mpr h
theorem gcd_pos {o u : Int} (h : 0 < u) : 0 < (Int.gcd o u : Int) := by
  have : Int.gcd o u ≠ 0 := fun e => by
    have := (Int.gcd_eq_zero_iff.mp e).2
    omega
  omega
theorem norm_pos {o u : Int} (h : 0 < u) : 0 < (norm o u).2 := by
  have g := gcd_pos (o := o) h
  exact Int.ediv_pos_of_pos_of_dvd h (Int.le_of_lt g) (Int.gcd_dvd_right ..)
theorem norm_cop {o u : Int} (h : 0 < u) : Int.gcd (norm o u).1 (norm o u).2 = 1 := by
  have g := gcd_pos (o := o) h
  exact Int.gcd_ediv_gcd_ediv_gcd (by omega)
theorem norm_ok {o u : Int} (h : 0 < u) : OkF (norm o u) := ⟨norm_pos h, norm_cop h⟩
theorem norm_le {o u : Int} (h : 0 < u) : (norm o u).2 ≤ u := by
  have g := gcd_pos (o := o) h
  exact Int.ediv_le_self _ (Int.le_of_lt h)
theorem val_norm {o u : Int} (h : 0 < u) : val (norm o u) = (o : Rat) / (u : Rat) := by
  have g := gcd_pos (o := o) h
  have gn : ((Int.gcd o u : Int) : Rat) ≠ 0 := cast_ne (by omega)
  have un : (u : Rat) ≠ 0 := cast_ne (by omega)
  have e1 : (norm o u).1 * (Int.gcd o u : Int) = o := Int.ediv_mul_cancel (Int.gcd_dvd_left ..)
  have e2 : (norm o u).2 * (Int.gcd o u : Int) = u := Int.ediv_mul_cancel (Int.gcd_dvd_right ..)
  have p2 : ((norm o u).2 : Rat) ≠ 0 := cast_ne (Int.ne_of_gt (norm_pos h))
  have r1 : ((norm o u).1 : Rat) * ((Int.gcd o u : Int) : Rat) = (o : Rat) := by rw [← Rat.intCast_mul, e1]
  have r2 : ((norm o u).2 : Rat) * ((Int.gcd o u : Int) : Rat) = (u : Rat) := by rw [← Rat.intCast_mul, e2]
  unfold val
  grind
theorem OkF.ne {f : Fr} (h : OkF f) : (f.2 : Rat) ≠ 0 := cast_ne (Int.ne_of_gt h.pos)
theorem val_add {a b : Fr} (ha : OkF a) (hb : OkF b) : val (addF a b) = val a + val b := by
  unfold addF
  rw [val_norm (Int.mul_pos ha.pos hb.pos)]
  have := ha.ne
  have := hb.ne
  unfold val
  simp only [Rat.intCast_mul, Rat.intCast_add]
  grind
theorem val_less {a b : Fr} (ha : OkF a) (hb : OkF b) : val (lessF a b) = val a - val b := by
  unfold lessF
  rw [val_norm (Int.mul_pos ha.pos hb.pos)]
  have := ha.ne
  have := hb.ne
  unfold val
  simp only [Rat.intCast_mul, Rat.intCast_sub]
  grind
theorem val_mul {a b : Fr} (ha : OkF a) (hb : OkF b) : val (mulF a b) = val a * val b := by
  unfold mulF
  rw [val_norm (Int.mul_pos ha.pos hb.pos)]
  have := ha.ne
  have := hb.ne
  unfold val
  simp only [Rat.intCast_mul]
  grind
theorem add_ok {a b : Fr} (ha : OkF a) (hb : OkF b) : OkF (addF a b) := norm_ok (Int.mul_pos ha.pos hb.pos)
theorem less_ok {a b : Fr} (ha : OkF a) (hb : OkF b) : OkF (lessF a b) := norm_ok (Int.mul_pos ha.pos hb.pos)
theorem mul_ok {a b : Fr} (ha : OkF a) (hb : OkF b) : OkF (mulF a b) := norm_ok (Int.mul_pos ha.pos hb.pos)
theorem above_iff {a b : Fr} (ha : OkF a) (hb : OkF b) : aboveF a b = true ↔ val b < val a := by
  have h1 := cast_pos ha.pos
  have h2 := cast_pos hb.pos
  unfold aboveF val
  rw [decide_eq_true_iff, Rat.div_lt_iff h2]
  have e : (a.1 : Rat) / (a.2 : Rat) * (b.2 : Rat) = ((a.1 * b.2 : Int) : Rat) / (a.2 : Rat) := by
    rw [Rat.intCast_mul]
    have := ha.ne
    grind
  rw [e, Rat.lt_div_iff h1, ← Rat.intCast_mul, Rat.intCast_lt_intCast]
theorem dvd_cop {k m n : Int} (h : k ∣ m * n) (g : Int.gcd m k = 1) : k ∣ n := by
  have h1 : k.natAbs ∣ m.natAbs * n.natAbs := by rw [← Int.natAbs_mul]; exact Int.natAbs_dvd_natAbs.mpr h
  have h2 : Nat.Coprime k.natAbs m.natAbs := by unfold Nat.Coprime; rw [Nat.gcd_comm]; exact g
  exact Int.natAbs_dvd_natAbs.mp (h2.dvd_of_dvd_mul_left h1)
theorem val_inj {a b : Fr} (ha : OkF a) (hb : OkF b) (h : val a = val b) : a = b := by
  have e : a.1 * b.2 = b.1 * a.2 := by
    have h1 := ha.ne
    have h2 := hb.ne
    have : ((a.1 * b.2 : Int) : Rat) = ((b.1 * a.2 : Int) : Rat) := by
      rw [Rat.intCast_mul, Rat.intCast_mul]
      unfold val at h
      grind
    exact Rat.intCast_inj.mp this
  have d1 : a.2 ∣ b.2 := by
    have : a.2 ∣ a.1 * b.2 := ⟨b.1, by rw [e, Int.mul_comm]⟩
    exact dvd_cop this ha.cop
  have d2 : b.2 ∣ a.2 := by
    have : b.2 ∣ b.1 * a.2 := ⟨a.1, by rw [← e, Int.mul_comm]⟩
    exact dvd_cop this hb.cop
  have e2 : a.2 = b.2 := Int.dvd_antisymm (Int.le_of_lt ha.pos) (Int.le_of_lt hb.pos) d1 d2
  have e1 : a.1 = b.1 := by
    rw [e2] at e
    exact Int.eq_of_mul_eq_mul_right (Int.ne_of_gt hb.pos) e
  exact Prod.ext e1 e2
/-- x times the whole number M is whole -/
def Dv (M : Int) (x : Rat) : Prop := ∃ z : Int, x * (M : Rat) = (z : Rat)
theorem Dv.add {M : Int} {x y : Rat} (h : Dv M x) (h' : Dv M y) : Dv M (x + y) := by
  obtain ⟨a, ha⟩ := h
  obtain ⟨b, hb⟩ := h'
  exact ⟨a + b, by rw [Rat.add_mul, ha, hb, Rat.intCast_add]⟩
theorem Dv.mul {M N : Int} {x y : Rat} (h : Dv M x) (h' : Dv N y) : Dv (M * N) (x * y) := by
  obtain ⟨a, ha⟩ := h
  obtain ⟨b, hb⟩ := h'
  exact ⟨a * b, by rw [Rat.intCast_mul, Rat.intCast_mul, ← ha, ← hb]; grind⟩
theorem Dv.of_dvd {M N : Int} {x : Rat} (h : Dv M x) (d : M ∣ N) : Dv N x := by
  obtain ⟨a, ha⟩ := h
  obtain ⟨c, hc⟩ := d
  exact ⟨a * c, by rw [hc, Rat.intCast_mul, Rat.intCast_mul, ← ha]; grind⟩
theorem Dv.int {z : Int} : Dv 1 (z : Rat) := ⟨z, by rw [show ((1 : Int) : Rat) = 1 from rfl]; grind⟩
theorem Dv.under {M : Int} {f : Fr} (hf : OkF f) (h : Dv M (val f)) : f.2 ∣ M := by
  obtain ⟨z, hz⟩ := h
  have e : f.1 * M = z * f.2 := by
    have h1 := hf.ne
    have : ((f.1 * M : Int) : Rat) = ((z * f.2 : Int) : Rat) := by
      rw [Rat.intCast_mul, Rat.intCast_mul, ← hz]
      unfold val
      grind
    exact Rat.intCast_inj.mp this
  have : f.2 ∣ f.1 * M := ⟨z, by rw [e, Int.mul_comm]⟩
  exact dvd_cop this hf.cop
theorem Dv.le {M : Int} {f : Fr} (hf : OkF f) (h : Dv M (val f)) (hM : 0 < M) : f.2 ≤ M := Int.le_of_dvd hM (Dv.under hf h)
theorem dv_of_under {M : Int} {f : Fr} (hf : OkF f) (d : f.2 ∣ M) : Dv M (val f) := by
  obtain ⟨c, hc⟩ := d
  have h1 := hf.ne
  exact ⟨f.1 * c, by rw [hc, Rat.intCast_mul, Rat.intCast_mul]; unfold val; grind⟩
end Gm
namespace Gm
open PySem PySem.Spec PyProof.Rows L2
set_option maxHeartbeats 4000000
section
variable {M : Model} {A : Around} {E : Value → Shared → Prop} {s : Shared} {K : PySem.W.Frag} {x C f : Addr} {ox : Obj} {od : Option Obj}
theorem contains_own {i : Value} {Q : Bool → Shared → Prop} (X : K.In s.heap) (I : PySem.W.InstAt s.heap x ox C od) (hs : PySem.W.findIn K (.ref C) "__contains__" = some (some (.ref f))) (hf : PySem.W.typeIn K (.ref f) = some (.type "function"))
    (h : wpAny M A (call (.ref f) [.ref x, i]) (fun v s' => ∃ b, v = .bool b ∧ Q b s') E s) : wpAny M A (contains (.ref x) i) Q E s := by
  unfold contains
  refine wpAny_holding ?_
  have e0 : stdlibNamesSay? (.ref x) i = none := rfl
  rw [e0]
  refine wpAny_bind (wpAny_bind (I.type.here ((PySem.W.looks_findIn X hs).here ?_)))
  have e1 : ((some (Value.ref f)) == some Value.none) = false := rfl
  rw [e1]
  refine wpAny_bind (wpAny_bind (wpAny_bind (I.type.here ((PySem.W.looks_findIn X hs).here ?_))))
  refine wpAny_holding (wpAny_bind ((PySem.W.bind_fn X _ hf).here ?_))
  have e2 : (Value.ref f == Value.none) = false := rfl
  show wpAny M A (if (Value.ref f == Value.none) = true then _ else _) _ E s
  rw [e2, if_neg Bool.false_ne_true]
  refine wpAny_bind (wpAny_mono h (fun v s' hv => ?_) fun _ _ z => z)
  obtain ⟨b, rfl, q⟩ := hv
  exact wpAny_pure (wpAny_truthy_bool q)
end
section
variable {X : Cx} {pos apos : Pos}
/-- what a class must have that «in» asks its own method -/
structure OwnIn (K : PySem.W.Frag) (C f : Addr) : Prop where
  at_ : PySem.W.findIn K (.ref C) "__contains__" = some (some (.ref f))
  fn : PySem.W.typeIn K (.ref f) = some (.type "function")
/-- e in o, e not in o, o an instance of C with its own __contains__ -/
def rOwnIn (C : Addr) (sp : Sp) (neg : Bool) : R2 := fun x y H Q => ∃ a, y = .ref a ∧ (∃ dx fs, H a = some (.ins C dx fs)) ∧ sp [.ref a, x] H (fun v H' => ∃ b, v = .bl b ∧ Q (.bl (if neg then !b else b)) H') E0
theorem op_notInOwn {C f : Addr} {fd : FuncData} {ps : List Str} {k : Nat} {sp : Sp} (c : OwnIn X.K C f) (F : FnOk X.prog X.w X.K X.mg X.base CX0 k f fd ps sp) (hb : Binds X.K fd ps []) (hr : Room k X.A) : OpR X (compareOp .NotIn) (rOwnIn C sp true) := by
  intro pins s σ H x y v u Q I rx ry h
  obtain ⟨a, rfl, ⟨dx, fs, ha⟩, q⟩ := h
  obtain rfl : u = Value.ref a := ry
  obtain ⟨mA, O, _⟩ := ins_get I.hok ha
  obtain ⟨od, J, _⟩ := O.look
  show wpAny _ X.A (do return Value.bool (!(← contains (.ref a) v))) _ X.xe s
  refine wpAny_bind (contains_own I.kIn J c.at_ c.fn ?_)
  refine wpAny_mono (run_fn (E := E0) F hr hb .nil pass0 I (show Vals [V.ref a, x] [Value.ref a, v] from .cons rfl (.cons rx .nil)) (by rw [List.append_nil]; exact q)) (fun w' s' hw => ?_) fun _ _ z => z
  obtain ⟨v', H', I', r', b, rfl, q'⟩ := hw
  obtain rfl : w' = Value.bool b := r'
  exact ⟨b, rfl, wpAny_pure ⟨.bl (!b), H', I', rfl, q'⟩⟩
end
section
variable {ι : Type} {m : Mo ι} {ds : Sd} {pos : Pos}
structure InOk (P : Program) (w : World) (K : PySem.W.Frag) (mg : Str → Option Value) (base : Heap) (C : Addr) (k : Nat) (sp : Sp) : Prop where
  ex : ∃ f fd ps, FnOk P w K mg base CX0 k f fd ps sp ∧ OwnIn K C f ∧ Binds K fd ps []
theorem wE_notIn (ok : m.Ok) {C : Addr} {k : Nat} {sp : Sp} (c : InOk m.S.P m.S.w m.S.K m.S.mg m.S.base C k sp) (hk : k ≤ m.k) {a b : Expr} (hmk : behindInMarks .NotIn b = false) {σ : L2.St} {H : Hp} {Q : Bool → Hp → Prop} (h : wE m.F a σ H fun x H1 => wE m.F b σ H1 fun y H2 => rOwnIn C sp true x y H2 fun v H3 => ∃ k, v = .bl k ∧ Q k H3) :
    wT m.F (.Compare a [.NotIn] [b] pos) σ H Q := by
  obtain ⟨f, fd, ps, F, o, bd⟩ := c.ex
  exact wT_cmp ok (r := rOwnIn C sp true) (fun i => op_notInOwn (by rw [ok.hK i]; exact o) (by rw [ok.hp i, ok.hw i, ok.hK i, ok.hm i, ok.hb i]; exact F) (by rw [ok.hK i]; exact bd) ((ok.room i).mono hk)) hmk h
/-- e not in o -/
theorem tv_notInO (ok : m.Ok) {C a : Addr} {k : Nat} {rel : List SV → Hp → SV → Prop} (c : InOk m.S.P m.S.w m.S.K m.S.mg m.S.base C k (SpR m.S.K rel)) (hk : k ≤ m.k) {e o : Expr} {r : SV} {b : Bool} (he : EV m ds e r) (ho : EV m ds o (.v (.ref a))) (hi : ∀ H, m.R m.H0 H → ∃ dx fs, H a = some (.ins C dx fs))
    (hrel : ∀ H, m.R m.H0 H → rel [.v (.ref a), r] H (.d (.bool b))) (hmk : behindInMarks .NotIn o = false := by rfl) : TV m ds (.Compare e [.NotIn] [o] pos) (!b) := fun σ H hr hs Q q => by
  refine wE_notIn ok c hk hmk (he σ H hr hs _ fun v H1 r1 d1 => ho σ H1 (ok.trans hr r1) (ok.sl r1 hs) _ fun u H2 r2 d2 => ?_)
  have r02 := ok.trans hr (ok.trans r1 r2)
  refine ⟨a, d2, hi H2 r02, [.v (.ref a), r], .d (.bool b), .cons rfl (.cons (ok.dq r2 d1) .nil), hrel H2 r02, fun w' H' e' d' => ?_⟩
  exact ⟨b, Dp.bl_inv d', !b, rfl, q H' (ok.trans r1 (ok.trans r2 (ok.ex e')))⟩
/-! #### len(o), o an instance with its own __len__ -/
def rOwnLen (C : Addr) (sp : Sp) : List V → Hp → VK → Prop := fun xs H Q => ∃ a, xs = [.ref a] ∧ (∃ dx fs, H a = some (.ins C dx fs)) ∧ sp [.ref a] H (fun v H' => ∃ n : Nat, v = .int n ∧ n < 2 ^ 62 ∧ Q (.int n) H') E0
theorem call_ownLen {X : Cx} {C f : Addr} {fd : FuncData} {ps : List Str} {k : Nat} {sp : Sp} (hs : PySem.W.findIn X.K (.ref C) "__len__" = some (some (.ref f))) (hf : PySem.W.isFn X.K (.ref f) = true) (F : FnOk X.prog X.w X.K X.mg X.base CX0 k f fd ps sp) (hb : Binds X.K fd ps []) (hr : Room (k + 1) X.A) :
    CallR X (.builtin "len") (rOwnLen C sp) := by
  intro pins s σ H xs us Q I r h
  obtain ⟨a, rfl, ⟨dx, fs, ha⟩, q⟩ := h
  obtain ⟨u, rfl, ru⟩ := vals1 r
  obtain rfl : u = Value.ref a := ru
  obtain ⟨mA, O, _⟩ := ins_get I.hok ha
  obtain ⟨od, J, _⟩ := O.look
  obtain ⟨mm, Fr'⟩ := I.fr
  refine PySem.W.len_K Fr' I.mod.kin J hs hf ?_
  have hl : ([Value.ref a] ++ ([] : List Value)).length = ps.length := (F.len [V.ref a] H _ E0 q)
  refine wpAny_call (codeAny_mono (F.run X.A.in1 X.stack s H ⟨[.ref a], []⟩ [.ref a] [.ref a] _ E0 hr.in1 I.env0.in1 (hb s [.ref a] I.kIn hl) (.cons rfl .nil) q) fun r s' hq => ?_)
  cases r with
  | error e => exact False.elim hq
  | ok fl =>
    cases fl with
    | ret w' =>
      obtain ⟨v', H', I', r', n, rfl, hn, q'⟩ := I.after hq
      obtain ⟨t, rfl⟩ := r'
      exact ⟨by omega, ⟨.int n, H', I'.tok _, ⟨_, rfl⟩, q'⟩⟩
    | next => exact False.elim hq
    | brk => exact False.elim hq
    | cont => exact False.elim hq
theorem ev_lenO (ok : m.Ok) {C a : Addr} {k n : Nat} {rel : List SV → Hp → SV → Prop} {p : Pos} (c : m.S.meth C "__len__" k (SpR m.S.K rel)) (hk : k + 1 ≤ m.k) {o : Expr} (hm : m.S.mg "len" = none) (ho : EV m ds o (.v (.ref a))) (hi : ∀ H, m.R m.H0 H → ∃ dx fs, H a = some (.ins C dx fs))
    (hrel : ∀ H, m.R m.H0 H → rel [.v (.ref a)] H (.d (.int n))) (hn : n < 2 ^ 62)
    (hg : ∀ i, Gl (m.F i) "len" := by intro _; rfl) (he : ∀ i, starEach [o] (m.F i).env = (false, eval o (m.F i).env) :: starEach [] (m.F i).env := by intro _; rfl) (hpl : ∀ i, (backTo pos (starEach [] (m.F i).env)).any (·.1) = false := by intro _; rfl) :
    EV m ds (.Call (.Name "len" p) [o] [] pos) (.d (.int n)) := by
  obtain ⟨f, fd, ps, F, me, bd⟩ := c.ex
  refine ex_callB ok (id := "len") (r := rOwnLen C (SpR m.S.K rel)) (fun i => call_ownLen (by rw [ok.hK i]; exact me.1) (by rw [ok.hK i]; exact me.2) (by rw [ok.hp i, ok.hw i, ok.hK i, ok.hm i, ok.hb i]; exact F) (by rw [ok.hK i]; exact bd) ((ok.room i).mono hk)) hm (by decide +kernel) (ea_one ok ho he) (fun H vs Q hr hd q => ?_) hg (by decide) (by decide) he hpl
  obtain ⟨v, rfl, d⟩ := dqa1 hd
  obtain rfl : v = V.ref a := d
  exact ⟨a, rfl, hi H hr, [.v (.ref a)], _, .cons rfl .nil, hrel H hr, fun v' H' e' d' => ⟨n, Dp.int_inv d', hn, q _ H' (ok.ex e') (.int _)⟩⟩
/-! #### an instance called -/
structure CallOOk (P : Program) (w : World) (K : PySem.W.Frag) (mg : Str → Option Value) (base : Heap) (C : Addr) (k : Nat) (sp : Sp) : Prop where
  ex : ∃ f fd ps, FnOk P w K mg base CX0 k f fd ps sp ∧ StX.CallO K C f ∧ Binds K fd ps []
theorem ev_callO (ok : m.Ok) {C a : Addr} {k : Nat} {rel : List SV → Hp → SV → Prop} (c : CallOOk m.S.P m.S.w m.S.K m.S.mg m.S.base C k (SpR m.S.K rel)) (hk : k ≤ m.k) {fe e : Expr} {es : List Expr} {rs : List SV} {r : SV} (hf : EV m ds fe (.v (.ref a))) (hi : ∀ H, m.R m.H0 H → ∃ dx fs, H a = some (.ins C dx fs)) (ha : EA m ds (e :: es) rs)
    (hrel : ∀ H, m.R m.H0 H → rel (.v (.ref a) :: rs) H r)
    (ht : ∀ i, eval (.Call fe (e :: es) [] pos) (m.F i).env = (do callWith pos (← eval fe (m.F i).env) [] (backTo pos (starEach (e :: es) (m.F i).env)) (backToKw pos (keywordEach [] (m.F i).env))) := by intro _; rfl)
    (he : ∀ i, starEach (e :: es) (m.F i).env = (false, eval e (m.F i).env) :: starEach es (m.F i).env := by intro _; rfl) (hpl : ∀ i, (backTo pos (starEach es (m.F i).env)).any (·.1) = false := by intro _; rfl) : EV m ds (.Call fe (e :: es) [] pos) r := fun σ H hr hs Q q => by
  obtain ⟨f, fd, ps, F, co, bd⟩ := c.ex
  refine wE_of (t := fun σ H Q => wE m.F fe σ H fun y H1 => ∃ a, y = V.ref a ∧ wA m.F (e :: es) σ H1 fun vs H2 => ((∃ dx vs, SlX.Slt H2 a C dx vs) ∨ ∃ dx fs, H2 a = some (.ins C dx fs)) ∧ SpR m.S.K rel ((V.ref a :: vs) ++ []) H2 Q E0) (fun i =>
    StX.pe_callO (X := m.F i) (C := C) (g := f) (k := k) (sp := fun vs H Q E => SpR m.S.K rel (vs ++ []) H Q E) (E := E0) (wE_ok (F := m.F) (e := fe) i) (by rw [ok.hK i]; exact co) (by rw [ok.hp i, ok.hw i, ok.hK i, ok.hm i, ok.hb i]; exact F.raw bd .nil) ((ok.room i).mono hk) pass0 (wA_ok (F := m.F) (es := e :: es) i) (ht i) (he i) (hpl i)) ?_
  refine hf σ H hr hs _ fun y H1 r1 d1 => ⟨a, d1, ha σ H1 (ok.trans hr r1) (ok.sl r1 hs) _ fun vs H2 r2 d2 => ⟨.inr (hi H2 (ok.trans hr (ok.trans r1 r2))), ?_⟩⟩
  rw [List.append_nil]
  exact ⟨.v (.ref a) :: rs, r, (show DqAll m.S.K H2 (V.ref a :: vs) (.v (.ref a) :: rs) from .cons (show Dq m.S.K H2 (V.ref a) (.v (.ref a)) from rfl) d2), hrel H2 (ok.trans hr (ok.trans r1 r2)), fun v H' e' d' => q v H' (ok.trans r1 (ok.trans r2 (ok.ex e'))) d'⟩
/-! #### (a, b, ..).index(x), texts -/
/-- the place of a text among texts -/
def rTupIx (es : TA) (te : TA) : TE := fun σ H Q => es σ H fun vs H1 => ∃ ss : List Str, vs = ss.map V.str ∧ ss.length ≤ 100 ∧ ∀ p, H1 p = none → te σ (upd H1 p (.tup (ss.map V.str))) fun ys H2 => ∃ z j, ys = [.str z] ∧ H2 p = some (.tup (ss.map V.str)) ∧ ss[j]? = some z ∧ (∀ l, l < j → ss[l]? ≠ some z) ∧ Q (.int (j : Nat)) H2
theorem pe_tupIx {X : Cx} {es : List Expr} {e : Expr} {ts te : TA} {kk : Nat} {p1 ap cp : Pos} (ha : PA X es ts) (hb : PA X [e] te)
    (hbase : attributeBase (.Tuple es kk p1) "index" X.env (eval (.Tuple es kk p1) X.env) = eval (.Tuple es kk p1) X.env)
    (hfew : ((backTo cp (starEach [e] X.env)).all (fun x => !x.1) && (backToKw cp (keywordEach [] X.env)).all (fun x => x.1.isSome) && decide ([e].length + ([] : List Keyword).length + (if ([] : List Keyword).isEmpty then 0 else 1) < 30)) = true)
    (hline : (ap.endLine == cp.line) = true) (hs : starEach [e] X.env = (false, eval e X.env) :: starEach [] X.env) (hplain : (backTo cp (starEach [] X.env)).any (·.1) = false) : PE X (.Call (.Attribute (.Tuple es kk p1) "index" ap) [e] [] cp) (rTupIx ts te) := by
  refine ⟨fun pins s σ H Q I h => ?_⟩
  refine wpAny_Call_method_late hbase hfew hline rfl (wpAny_Tuple_spliced (thn (ha.run p1 pins s σ H _ I h) fun us s1 ⟨xs, H1, I1, r, ss, ex, hl, q⟩ => ⟨?_, ?_⟩))
  · rw [← r.length, ex, List.length_map]
    exact Nat.le_trans hl (by decide)
  · have z : xs.length ≤ sizeLine := by
      rw [ex, List.length_map]
      exact Nat.le_trans hl (by decide)
    subst ex
    have hf : H1 s1.heap.objs.size = none := I1.hok.fresh (Nat.le_refl _)
    have I2 : Inv X pins σ (upd H1 s1.heap.objs.size (.tup (ss.map V.str))) { s1 with heap := s1.heap.push { cls := .type "tuple", data := .seq us.toArray } } :=
      I1.laid (t' := s1.toks) (fun b u e => Heap.get?_push_of_some _ e) (Nat.le_refl _) ⟨z, us, r, ⟨_, Heap.get?_push_size _ rfl, rfl, _, rfl⟩⟩
    have q2 := q _ hf
    refine ⟨"tuple", "tuple.index", PySem.F.plainAttrs_tuple, PySem.F.slot_tuple_index, PySem.F.type_tuple_index, ⟨_, Heap.get?_push_size _ rfl, rfl⟩, fun a ea => ?_, ?_⟩
    · cases ea
      exact ⟨_, Heap.get?_push_size _ rfl, rfl⟩
    · have hA := hb.run cp pins _ σ _ _ I2 q2
      rw [hs] at hA ⊢
      refine Calls.callWith_builtin (by show (false || (backTo cp (starEach [] X.env)).any (·.1)) = false; rw [hplain] <;> rfl) (Calls.evalArgs_plain ?_)
      refine thn hA fun us2 s2 ⟨vs, H2, I3, r2, z2, j, e2, hk, h1, h2, q3⟩ => ?_
      exact mt_tup_index pins s2 σ H2 (.ref s1.heap.objs.size) vs (.ref s1.heap.objs.size) us2 Q I3 rfl r2 ⟨_, ss, z2, j, rfl, e2, SqT.of hk, h1, h2, q3⟩
theorem dqa_strs {K : PySem.W.Frag} {H : Hp} : ∀ {ss : List Str} {vs : List V}, DqAll K H vs (ss.map fun x => .d (.str x)) → vs = ss.map V.str
  | [], _, h => by cases h; rfl
  | x :: ss, _, h => by
    cases h with
    | cons d t =>
      obtain rfl := Dp.str_inv d
      rw [dqa_strs t]
      rfl
/-- (a, b, ..).index(x) -/
theorem ev_tupIx (ok : m.Ok) {es : List Expr} {e : Expr} {kk : Nat} {p1 ap : Pos} (ss : List Str) {z : Str} (j : Nat) (ha : EA m ds es (ss.map fun x => .d (.str x))) (hb : EV m ds e (.d (.str z))) (hl : ss.length ≤ 100) (hj : ss[j]? = some z) (hn : ∀ l, l < j → ss[l]? ≠ some z) (hst : ∀ {H H' : Hp} {a xs}, m.R H H' → H a = some (.tup xs) → H' a = some (.tup xs))
    (hbase : ∀ i, attributeBase (.Tuple es kk p1) "index" (m.F i).env (eval (.Tuple es kk p1) (m.F i).env) = eval (.Tuple es kk p1) (m.F i).env := by intro _; rfl)
    (hfew : ∀ i, ((backTo pos (starEach [e] (m.F i).env)).all (fun x => !x.1) && (backToKw pos (keywordEach [] (m.F i).env)).all (fun x => x.1.isSome) && decide ([e].length + ([] : List Keyword).length + (if ([] : List Keyword).isEmpty then 0 else 1) < 30)) = true := by intro _; rfl)
    (hline : (ap.endLine == pos.line) = true := by rfl) (hs : ∀ i, starEach [e] (m.F i).env = (false, eval e (m.F i).env) :: starEach [] (m.F i).env := by intro _; rfl) (hplain : ∀ i, (backTo pos (starEach [] (m.F i).env)).any (·.1) = false := by intro _; rfl) :
    EV m ds (.Call (.Attribute (.Tuple es kk p1) "index" ap) [e] [] pos) (.d (.int (j : Nat))) := fun σ H hr hl' Q q => by
  refine wE_of (t := rTupIx (wA m.F es) (wA m.F [e])) (fun i => pe_tupIx (wA_ok i) (wA_ok i) (hbase i) (hfew i) hline (hs i) (hplain i)) ?_
  refine ha σ H hr hl' _ fun vs H1 r1 d1 => ⟨ss, dqa_strs d1, hl, fun p hp => ?_⟩
  have e1 := ok.new (o := HO.tup (ss.map V.str)) hp
  refine ea_one ok hb hs σ _ (ok.trans hr (ok.trans r1 e1)) (ok.sl (ok.trans r1 e1) hl') _ fun ys H2 r2 d2 => ?_
  obtain ⟨y, rfl, d⟩ := dqa1 d2
  obtain rfl := Dp.str_inv d
  exact ⟨z, j, rfl, hst r2 upd_same, hj, hn, q _ H2 (ok.trans r1 (ok.trans e1 r2)) (.int _)⟩
end
end Gm
namespace Gm
open PySem PySem.Spec PyProof.Rows L2
set_option maxHeartbeats 0
/-! The text by places, its defs as data, the facts of the head. Printed by gen_defs.py. -/
def top (i : Nat) : Stmt := PySem.Challenge.pw_liftedladders_k65_whole_greatest_means.main.body.getD i (.Pass ⟨0, 0, 0, 0⟩)
abbrev s_isinteger : Stmt := top 13
abbrev s_iswhole : Stmt := top 14
abbrev s_commondivisor : Stmt := top 15
abbrev s_isfraction : Stmt := top 16
abbrev s_fraction : Stmt := top 17
abbrev s_added : Stmt := top 18
abbrev s_less : Stmt := top 19
abbrev s_multiplied : Stmt := top 20
abbrev s_isabove : Stmt := top 21
abbrev s_isstrength : Stmt := top 28
abbrev s_ischancerow : Stmt := top 29
abbrev s_ccinit : Stmt := inClass (top 30) 0
abbrev s_cccall : Stmt := inClass (top 30) 5
abbrev s_checkknown : Stmt := top 31
abbrev s_placebehind : Stmt := top 32
abbrev s_endsof : Stmt := top 33
abbrev s_checkopponents : Stmt := top 34
abbrev s_chinit : Stmt := inClass (top 35) 0
abbrev s_chmeanwith : Stmt := inClass (top 35) 1
abbrev s_chbest : Stmt := inClass (top 35) 2
abbrev s_checkchoice : Stmt := top 36
abbrev s_greatestmean : Stmt := top 37
abbrev s_bestplan : Stmt := top 38
abbrev s_checkplan : Stmt := top 39
abbrev s_meanof : Stmt := top 40
abbrev s_isentry : Stmt := top 46
abbrev s_istablerow : Stmt := top 47
abbrev s_istable : Stmt := top 48
abbrev s_rowat : Stmt := top 49
abbrev s_isresult : Stmt := top 50
abbrev s_bkinit : Stmt := inClass (top 51) 0
abbrev s_bklen : Stmt := inClass (top 51) 1
abbrev s_bkcontains : Stmt := inClass (top 51) 3
abbrev s_bklastphase : Stmt := inClass (top 51) 7
abbrev s_bkplaces : Stmt := inClass (top 51) 8
abbrev s_bkmoved : Stmt := inClass (top 51) 10
abbrev s_bkgame : Stmt := inClass (top 51) 11
abbrev s_zpool : Stmt := top 53
abbrev s_zdraw : Stmt := top 54
abbrev s_zpick : Stmt := top 55
abbrev s_zentry : Stmt := top 56
abbrev s_zmodel : Stmt := top 57
abbrev s_zmade : Stmt := top 58
abbrev s_zspots : Stmt := top 59
abbrev s_zcut : Stmt := top 60
abbrev s_zone : Stmt := top 61
abbrev s_zgame : Stmt := top 62
abbrev s_zmine : Stmt := top 63
abbrev s_zsmall : Stmt := top 64
abbrev s_zrow : Stmt := top 65
abbrev s_zrows : Stmt := top 66
abbrev s_zchance : Stmt := top 67
abbrev s_zplus : Stmt := top 68
abbrev s_ztimes : Stmt := top 69
abbrev s_zover : Stmt := top 70
abbrev s_zbest : Stmt := top 71
abbrev s_ztwelveright : Stmt := top 72
abbrev s_law : Stmt := top 73
abbrev n_isinteger : List Str := ["value", "lowest", "highest"]
theorem sc_isinteger : FnScope n_isinteger ["value", "lowest", "highest"] (defScope s_isinteger) := ⟨rfl, rfl, rfl, by decide +kernel, rfl, by decide +kernel, by decide +kernel⟩
abbrev n_iswhole : List Str := ["value"]
theorem sc_iswhole : FnScope n_iswhole ["value"] (defScope s_iswhole) := ⟨rfl, rfl, rfl, by decide +kernel, rfl, by decide +kernel, by decide +kernel⟩
abbrev n_commondivisor : List Str := ["one", "other"]
theorem sc_commondivisor : FnScope n_commondivisor ["one", "other"] (defScope s_commondivisor) := ⟨rfl, rfl, rfl, by decide +kernel, rfl, by decide +kernel, by decide +kernel⟩
abbrev n_isfraction : List Str := ["value", "part"]
theorem sc_isfraction : FnScope n_isfraction ["value"] (defScope s_isfraction) := ⟨rfl, rfl, rfl, by decide +kernel, rfl, by decide +kernel, by decide +kernel⟩
abbrev n_fraction : List Str := ["over", "under", "divisor"]
theorem sc_fraction : FnScope n_fraction ["over", "under"] (defScope s_fraction) := ⟨rfl, rfl, rfl, by decide +kernel, rfl, by decide +kernel, by decide +kernel⟩
abbrev n_added : List Str := ["one", "other"]
theorem sc_added : FnScope n_added ["one", "other"] (defScope s_added) := ⟨rfl, rfl, rfl, by decide +kernel, rfl, by decide +kernel, by decide +kernel⟩
abbrev n_less : List Str := ["one", "other"]
theorem sc_less : FnScope n_less ["one", "other"] (defScope s_less) := ⟨rfl, rfl, rfl, by decide +kernel, rfl, by decide +kernel, by decide +kernel⟩
abbrev n_multiplied : List Str := ["one", "other"]
theorem sc_multiplied : FnScope n_multiplied ["one", "other"] (defScope s_multiplied) := ⟨rfl, rfl, rfl, by decide +kernel, rfl, by decide +kernel, by decide +kernel⟩
abbrev n_isabove : List Str := ["one", "other"]
theorem sc_isabove : FnScope n_isabove ["one", "other"] (defScope s_isabove) := ⟨rfl, rfl, rfl, by decide +kernel, rfl, by decide +kernel, by decide +kernel⟩
abbrev n_isstrength : List Str := ["value"]
theorem sc_isstrength : FnScope n_isstrength ["value"] (defScope s_isstrength) := ⟨rfl, rfl, rfl, by decide +kernel, rfl, by decide +kernel, by decide +kernel⟩
abbrev n_ischancerow : List Str := ["value", "part"]
theorem sc_ischancerow : FnScope n_ischancerow ["value"] (defScope s_ischancerow) := ⟨rfl, rfl, rfl, by decide +kernel, rfl, by decide +kernel, by decide +kernel⟩
abbrev n_ccinit : List Str := ["self", "rows", "index", "row"]
theorem sc_ccinit : FnScope n_ccinit ["self", "rows"] (defScope s_ccinit) := ⟨rfl, rfl, rfl, by decide +kernel, rfl, by decide +kernel, by decide +kernel⟩
abbrev n_cccall : List Str := ["self", "one", "other", "value", "row", "half"]
theorem sc_cccall : FnScope n_cccall ["self", "one", "other"] (defScope s_cccall) := ⟨rfl, rfl, rfl, by decide +kernel, rfl, by decide +kernel, by decide +kernel⟩
abbrev n_checkknown : List Str := ["book", "place"]
theorem sc_checkknown : FnScope n_checkknown ["book", "place"] (defScope s_checkknown) := ⟨rfl, rfl, rfl, by decide +kernel, rfl, by decide +kernel, by decide +kernel⟩
abbrev n_placebehind : List Str := ["book", "place", "other", "result", "is_upper", "names", "name", "behind"]
theorem sc_placebehind : FnScope n_placebehind ["book", "place", "other", "result"] (defScope s_placebehind) := ⟨rfl, rfl, rfl, by decide +kernel, rfl, by decide +kernel, by decide +kernel⟩
abbrev n_endsof : List Str := ["book", "chances", "place", "strength", "other", "others", "found", "chance", "result"]
theorem sc_endsof : FnScope n_endsof ["book", "chances", "place", "strength", "other", "others"] (defScope s_endsof) := ⟨rfl, rfl, rfl, by decide +kernel, rfl, by decide +kernel, by decide +kernel⟩
abbrev n_checkopponents : List Str := ["book", "strength", "opponents", "index", "row"]
theorem sc_checkopponents : FnScope n_checkopponents ["book", "strength", "opponents"] (defScope s_checkopponents) := ⟨rfl, rfl, rfl, by decide +kernel, rfl, by decide +kernel, by decide +kernel⟩
abbrev n_chinit : List Str := ["self", "book", "chances", "strength", "opponents"]
theorem sc_chinit : FnScope n_chinit ["self", "book", "chances", "strength", "opponents"] (defScope s_chinit) := ⟨rfl, rfl, rfl, by decide +kernel, rfl, by decide +kernel, by decide +kernel⟩
abbrev n_chmeanwith : List Str := ["self", "left", "place", "index", "other", "others", "total", "chance", "behind"]
theorem sc_chmeanwith : FnScope n_chmeanwith ["self", "left", "place", "index"] (defScope s_chmeanwith) := ⟨rfl, rfl, rfl, by decide +kernel, rfl, by decide +kernel, by decide +kernel⟩
abbrev n_chbest : List Str := ["self", "left", "place", "found", "index", "mean"]
theorem sc_chbest : FnScope n_chbest ["self", "left", "place"] (defScope s_chbest) := ⟨rfl, rfl, rfl, by decide +kernel, rfl, by decide +kernel, by decide +kernel⟩
abbrev n_checkchoice : List Str := ["book", "place", "strength", "opponents", "games"]
theorem sc_checkchoice : FnScope n_checkchoice ["book", "place", "strength", "opponents", "games"] (defScope s_checkchoice) := ⟨rfl, rfl, rfl, by decide +kernel, rfl, by decide +kernel, by decide +kernel⟩
abbrev n_greatestmean : List Str := ["book", "chances", "place", "strength", "opponents", "games"]
theorem sc_greatestmean : FnScope n_greatestmean ["book", "chances", "place", "strength", "opponents", "games"] (defScope s_greatestmean) := ⟨rfl, rfl, rfl, by decide +kernel, rfl, by decide +kernel, by decide +kernel⟩
abbrev n_bestplan : List Str := ["book", "chances", "place", "strength", "opponents", "games", "chooser", "keys", "left", "other", "key"]
theorem sc_bestplan : FnScope n_bestplan ["book", "chances", "place", "strength", "opponents", "games"] (defScope s_bestplan) := ⟨rfl, rfl, rfl, by decide +kernel, rfl, by decide +kernel, by decide +kernel⟩
abbrev n_checkplan : List Str := ["book", "opponents", "games", "plan", "left", "place", "index"]
theorem sc_checkplan : FnScope n_checkplan ["book", "opponents", "games", "plan"] (defScope s_checkplan) := ⟨rfl, rfl, rfl, by decide +kernel, rfl, by decide +kernel, by decide +kernel⟩
abbrev n_meanof : List Str := ["book", "chances", "place", "strength", "opponents", "games", "plan", "shares", "ends", "left", "later", "here", "share", "index", "other", "others", "chance", "behind"]
theorem sc_meanof : FnScope n_meanof ["book", "chances", "place", "strength", "opponents", "games", "plan"] (defScope s_meanof) := ⟨rfl, rfl, rfl, by decide +kernel, rfl, by decide +kernel, by decide +kernel⟩
abbrev n_isentry : List Str := ["value", "change"]
theorem sc_isentry : FnScope n_isentry ["value"] (defScope s_isentry) := ⟨rfl, rfl, rfl, by decide +kernel, rfl, by decide +kernel, by decide +kernel⟩
abbrev n_istablerow : List Str := ["value", "entry"]
theorem sc_istablerow : FnScope n_istablerow ["value"] (defScope s_istablerow) := ⟨rfl, rfl, rfl, by decide +kernel, rfl, by decide +kernel, by decide +kernel⟩
abbrev n_istable : List Str := ["value", "row", "one", "other"]
theorem sc_istable : FnScope n_istable ["value"] (defScope s_istable) := ⟨rfl, rfl, rfl, by decide +kernel, rfl, by decide +kernel, by decide +kernel⟩
abbrev n_rowat : List Str := ["table", "difference", "row"]
theorem sc_rowat : FnScope n_rowat ["table", "difference"] (defScope s_rowat) := ⟨rfl, rfl, rfl, by decide +kernel, rfl, by decide +kernel, by decide +kernel⟩
abbrev n_isresult : List Str := ["value"]
theorem sc_isresult : FnScope n_isresult ["value"] (defScope s_isresult) := ⟨rfl, rfl, rfl, by decide +kernel, rfl, by decide +kernel, by decide +kernel⟩
abbrev n_bkinit : List Str := ["self", "low", "high", "table", "fresh", "times", "bonus"]
theorem sc_bkinit : FnScope n_bkinit ["self", "low", "high", "table", "fresh", "times", "bonus"] (defScope s_bkinit) := ⟨rfl, rfl, rfl, by decide +kernel, rfl, by decide +kernel, by decide +kernel⟩
abbrev n_bklen : List Str := ["self"]
theorem sc_bklen : FnScope n_bklen ["self"] (defScope s_bklen) := ⟨rfl, rfl, rfl, by decide +kernel, rfl, by decide +kernel, by decide +kernel⟩
abbrev n_bkcontains : List Str := ["self", "place"]
theorem sc_bkcontains : FnScope n_bkcontains ["self", "place"] (defScope s_bkcontains) := ⟨rfl, rfl, rfl, by decide +kernel, rfl, by decide +kernel, by decide +kernel⟩
abbrev n_bklastphase : List Str := ["self"]
theorem sc_bklastphase : FnScope n_bklastphase ["self"] (defScope s_bklastphase) := ⟨rfl, rfl, rfl, by decide +kernel, rfl, by decide +kernel, by decide +kernel⟩
abbrev n_bkplaces : List Str := ["self", "phases", "rating", "phase"]
theorem sc_bkplaces : FnScope n_bkplaces ["self"] (defScope s_bkplaces) := ⟨rfl, rfl, rfl, by decide +kernel, rfl, by decide +kernel, by decide +kernel⟩
abbrev n_bkmoved : List Str := ["self", "place", "change", "is_won", "rating", "phase", "later"]
theorem sc_bkmoved : FnScope n_bkmoved ["self", "place", "change", "is_won"] (defScope s_bkmoved) := ⟨rfl, rfl, rfl, by decide +kernel, rfl, by decide +kernel, by decide +kernel⟩
abbrev n_bkgame : List Str := ["self", "upper", "lower", "result", "place", "entry"]
theorem sc_bkgame : FnScope n_bkgame ["self", "upper", "lower", "result"] (defScope s_bkgame) := ⟨rfl, rfl, rfl, by decide +kernel, rfl, by decide +kernel, by decide +kernel⟩
abbrev n_zpool : List Str := ["_law_script", "_law_k", "_law_size", "_law_mixed"]
theorem sc_zpool : FnScope n_zpool ["_law_script", "_law_k"] (defScope s_zpool) := ⟨rfl, rfl, rfl, by decide +kernel, rfl, by decide +kernel, by decide +kernel⟩
abbrev n_zdraw : List Str := ["_law_pool_here", "_law_many", "_law_found"]
theorem sc_zdraw : FnScope n_zdraw ["_law_pool_here", "_law_many"] (defScope s_zdraw) := ⟨rfl, rfl, rfl, by decide +kernel, rfl, by decide +kernel, by decide +kernel⟩
abbrev n_zpick : List Str := ["_law_pool_here", "_law_row_here"]
theorem sc_zpick : FnScope n_zpick ["_law_pool_here", "_law_row_here"] (defScope s_zpick) := ⟨rfl, rfl, rfl, by decide +kernel, rfl, by decide +kernel, by decide +kernel⟩
abbrev n_zentry : List Str := ["_law_pool_here", "_law_most"]
theorem sc_zentry : FnScope n_zentry ["_law_pool_here", "_law_most"] (defScope s_zentry) := ⟨rfl, rfl, rfl, by decide +kernel, rfl, by decide +kernel, by decide +kernel⟩
abbrev n_zmodel : List Str := ["_law_pool_here", "_law_size", "_law_most", "_law_low", "_law_borders", "_law_table", "_law_border", "_law_m", "_law_way"]
theorem sc_zmodel : FnScope n_zmodel ["_law_pool_here", "_law_size", "_law_most"] (defScope s_zmodel) := ⟨rfl, rfl, rfl, by decide +kernel, rfl, by decide +kernel, by decide +kernel⟩
abbrev n_zmade : List Str := ["_law_m"]
theorem sc_zmade : FnScope n_zmade ["_law_m"] (defScope s_zmade) := ⟨rfl, rfl, rfl, by decide +kernel, rfl, by decide +kernel, by decide +kernel⟩
abbrev n_zspots : List Str := ["_law_m", "_law_last", "_law_found", "_law_rating", "_law_phase"]
theorem sc_zspots : FnScope n_zspots ["_law_m"] (defScope s_zspots) := ⟨rfl, rfl, rfl, by decide +kernel, rfl, by decide +kernel, by decide +kernel⟩
abbrev n_zcut : List Str := ["_law_m", "_law_rating"]
theorem sc_zcut : FnScope n_zcut ["_law_m", "_law_rating"] (defScope s_zcut) := ⟨rfl, rfl, rfl, by decide +kernel, rfl, by decide +kernel, by decide +kernel⟩
abbrev n_zone : List Str := ["_law_m", "_law_spot", "_law_change", "_law_has_won", "_law_rating", "_law_phase", "_law_more"]
theorem sc_zone : FnScope n_zone ["_law_m", "_law_spot", "_law_change", "_law_has_won"] (defScope s_zone) := ⟨rfl, rfl, rfl, by decide +kernel, rfl, by decide +kernel, by decide +kernel⟩
abbrev n_zgame : List Str := ["_law_m", "_law_upper", "_law_lower", "_law_result", "_law_row_here", "_law_entry_here"]
theorem sc_zgame : FnScope n_zgame ["_law_m", "_law_upper", "_law_lower", "_law_result"] (defScope s_zgame) := ⟨rfl, rfl, rfl, by decide +kernel, rfl, by decide +kernel, by decide +kernel⟩
abbrev n_zmine : List Str := ["_law_m", "_law_spot", "_law_other", "_law_result", "_law_told"]
theorem sc_zmine : FnScope n_zmine ["_law_m", "_law_spot", "_law_other", "_law_result"] (defScope s_zmine) := ⟨rfl, rfl, rfl, by decide +kernel, rfl, by decide +kernel, by decide +kernel⟩
abbrev n_zsmall : List Str := ["_law_over_here", "_law_under", "_law_one_here", "_law_other", "_law_turn"]
theorem sc_zsmall : FnScope n_zsmall ["_law_over_here", "_law_under"] (defScope s_zsmall) := ⟨rfl, rfl, rfl, by decide +kernel, rfl, by decide +kernel, by decide +kernel⟩
abbrev n_zrow : List Str := ["_law_pool_here", "_law_border", "_law_under", "_law_first", "_law_second", "_law_some"]
theorem sc_zrow : FnScope n_zrow ["_law_pool_here", "_law_border"] (defScope s_zrow) := ⟨rfl, rfl, rfl, by decide +kernel, rfl, by decide +kernel, by decide +kernel⟩
abbrev n_zrows : List Str := ["_law_pool_here", "_law_found", "_law_border"]
theorem sc_zrows : FnScope n_zrows ["_law_pool_here"] (defScope s_zrows) := ⟨rfl, rfl, rfl, by decide +kernel, rfl, by decide +kernel, by decide +kernel⟩
abbrev n_zchance : List Str := ["_law_rows_here", "_law_one_here", "_law_other", "_law_row_here", "_law_half"]
theorem sc_zchance : FnScope n_zchance ["_law_rows_here", "_law_one_here", "_law_other"] (defScope s_zchance) := ⟨rfl, rfl, rfl, by decide +kernel, rfl, by decide +kernel, by decide +kernel⟩
abbrev n_zplus : List Str := ["_law_one_here", "_law_other"]
theorem sc_zplus : FnScope n_zplus ["_law_one_here", "_law_other"] (defScope s_zplus) := ⟨rfl, rfl, rfl, by decide +kernel, rfl, by decide +kernel, by decide +kernel⟩
abbrev n_ztimes : List Str := ["_law_one_here", "_law_other"]
theorem sc_ztimes : FnScope n_ztimes ["_law_one_here", "_law_other"] (defScope s_ztimes) := ⟨rfl, rfl, rfl, by decide +kernel, rfl, by decide +kernel, by decide +kernel⟩
abbrev n_zover : List Str := ["_law_one_here", "_law_other"]
theorem sc_zover : FnScope n_zover ["_law_one_here", "_law_other"] (defScope s_zover) := ⟨rfl, rfl, rfl, by decide +kernel, rfl, by decide +kernel, by decide +kernel⟩
abbrev n_zbest : List Str := ["_law_m", "_law_rows_here", "_law_strength", "_law_mates", "_law_spot", "_law_left", "_law_found", "_law_other", "_law_others", "_law_total", "_law_chance_here", "_law_result", "_law_later"]
theorem sc_zbest : FnScope n_zbest ["_law_m", "_law_rows_here", "_law_strength", "_law_mates", "_law_spot", "_law_left"] (defScope s_zbest) := ⟨rfl, rfl, rfl, by decide +kernel, rfl, by decide +kernel, by decide +kernel⟩
abbrev n_ztwelveright : List Str := ["_law_book", "_law_sure", "_law_rating", "_law_plan"]
theorem sc_ztwelveright : FnScope n_ztwelveright [] (defScope s_ztwelveright) := ⟨rfl, rfl, rfl, by decide +kernel, rfl, by decide +kernel, by decide +kernel⟩
abbrev n_law : List Str := ["_law_script", "_law_pool_here", "_law_m", "_law_rows_here", "_law_book", "_law_chances", "_law_spots_here", "_law_mates", "_law_strength", "_law_games", "_law_turn", "_law_keys", "_law_left", "_law_spot", "_law_due", "_law_plan", "_law_key"]
theorem sc_law : FnScope n_law ["_law_script"] (defScope s_law) := ⟨rfl, rfl, rfl, by decide +kernel, rfl, by decide +kernel, by decide +kernel⟩
def d_isinteger : He.DefD := ⟨("is_integer", none), "is_integer", "is_integer", defArgs s_isinteger, defBody s_isinteger, defScope s_isinteger, [], []⟩
def d_iswhole : He.DefD := ⟨("is_whole", none), "is_whole", "is_whole", defArgs s_iswhole, defBody s_iswhole, defScope s_iswhole, [], []⟩
def d_commondivisor : He.DefD := ⟨("common_divisor", none), "common_divisor", "common_divisor", defArgs s_commondivisor, defBody s_commondivisor, defScope s_commondivisor, [], []⟩
def d_isfraction : He.DefD := ⟨("is_fraction", none), "is_fraction", "is_fraction", defArgs s_isfraction, defBody s_isfraction, defScope s_isfraction, [], []⟩
def d_fraction : He.DefD := ⟨("fraction", none), "fraction", "fraction", defArgs s_fraction, defBody s_fraction, defScope s_fraction, [], []⟩
def d_added : He.DefD := ⟨("added", none), "added", "added", defArgs s_added, defBody s_added, defScope s_added, [], []⟩
def d_less : He.DefD := ⟨("less", none), "less", "less", defArgs s_less, defBody s_less, defScope s_less, [], []⟩
def d_multiplied : He.DefD := ⟨("multiplied", none), "multiplied", "multiplied", defArgs s_multiplied, defBody s_multiplied, defScope s_multiplied, [], []⟩
def d_isabove : He.DefD := ⟨("is_above", none), "is_above", "is_above", defArgs s_isabove, defBody s_isabove, defScope s_isabove, [], []⟩
def d_isstrength : He.DefD := ⟨("is_strength", none), "is_strength", "is_strength", defArgs s_isstrength, defBody s_isstrength, defScope s_isstrength, [], []⟩
def d_ischancerow : He.DefD := ⟨("is_chance_row", none), "is_chance_row", "is_chance_row", defArgs s_ischancerow, defBody s_ischancerow, defScope s_ischancerow, [], []⟩
def d_ccinit : He.DefD := ⟨("Chances", some "__init__"), "__init__", "Chances.__init__", defArgs s_ccinit, defBody s_ccinit, defScope s_ccinit, [], []⟩
def d_cccall : He.DefD := ⟨("Chances", some "__call__"), "__call__", "Chances.__call__", defArgs s_cccall, defBody s_cccall, defScope s_cccall, [], []⟩
def d_checkknown : He.DefD := ⟨("check_known", none), "check_known", "check_known", defArgs s_checkknown, defBody s_checkknown, defScope s_checkknown, [], []⟩
def d_placebehind : He.DefD := ⟨("place_behind", none), "place_behind", "place_behind", defArgs s_placebehind, defBody s_placebehind, defScope s_placebehind, [], []⟩
def d_endsof : He.DefD := ⟨("ends_of", none), "ends_of", "ends_of", defArgs s_endsof, defBody s_endsof, defScope s_endsof, [], []⟩
def d_checkopponents : He.DefD := ⟨("check_opponents", none), "check_opponents", "check_opponents", defArgs s_checkopponents, defBody s_checkopponents, defScope s_checkopponents, [], []⟩
def d_chinit : He.DefD := ⟨("Chooser", some "__init__"), "__init__", "Chooser.__init__", defArgs s_chinit, defBody s_chinit, defScope s_chinit, [], []⟩
def d_chmeanwith : He.DefD := ⟨("Chooser", some "mean_with"), "mean_with", "Chooser.mean_with", defArgs s_chmeanwith, defBody s_chmeanwith, defScope s_chmeanwith, [], []⟩
def d_chbest : He.DefD := ⟨("Chooser", some "best"), "best", "Chooser.best", defArgs s_chbest, defBody s_chbest, defScope s_chbest, [], []⟩
def d_checkchoice : He.DefD := ⟨("check_choice", none), "check_choice", "check_choice", defArgs s_checkchoice, defBody s_checkchoice, defScope s_checkchoice, [], []⟩
def d_greatestmean : He.DefD := ⟨("greatest_mean", none), "greatest_mean", "greatest_mean", defArgs s_greatestmean, defBody s_greatestmean, defScope s_greatestmean, [], []⟩
def d_bestplan : He.DefD := ⟨("best_plan", none), "best_plan", "best_plan", defArgs s_bestplan, defBody s_bestplan, defScope s_bestplan, [], []⟩
def d_checkplan : He.DefD := ⟨("check_plan", none), "check_plan", "check_plan", defArgs s_checkplan, defBody s_checkplan, defScope s_checkplan, [], []⟩
def d_meanof : He.DefD := ⟨("mean_of", none), "mean_of", "mean_of", defArgs s_meanof, defBody s_meanof, defScope s_meanof, [], []⟩
def d_isentry : He.DefD := ⟨("is_entry", none), "is_entry", "is_entry", defArgs s_isentry, defBody s_isentry, defScope s_isentry, [], []⟩
def d_istablerow : He.DefD := ⟨("is_table_row", none), "is_table_row", "is_table_row", defArgs s_istablerow, defBody s_istablerow, defScope s_istablerow, [], []⟩
def d_istable : He.DefD := ⟨("is_table", none), "is_table", "is_table", defArgs s_istable, defBody s_istable, defScope s_istable, [], []⟩
def d_rowat : He.DefD := ⟨("row_at", none), "row_at", "row_at", defArgs s_rowat, defBody s_rowat, defScope s_rowat, [], []⟩
def d_isresult : He.DefD := ⟨("is_result", none), "is_result", "is_result", defArgs s_isresult, defBody s_isresult, defScope s_isresult, [], []⟩
def d_bkinit : He.DefD := ⟨("Book", some "__init__"), "__init__", "Book.__init__", defArgs s_bkinit, defBody s_bkinit, defScope s_bkinit, [], [("fresh", .int 0), ("times", .int 1), ("bonus", .int 0)]⟩
def d_bklen : He.DefD := ⟨("Book", some "__len__"), "__len__", "Book.__len__", defArgs s_bklen, defBody s_bklen, defScope s_bklen, [], []⟩
def d_bkcontains : He.DefD := ⟨("Book", some "__contains__"), "__contains__", "Book.__contains__", defArgs s_bkcontains, defBody s_bkcontains, defScope s_bkcontains, [], []⟩
def d_bklastphase : He.DefD := ⟨("Book", some "last_phase"), "last_phase", "Book.last_phase", defArgs s_bklastphase, defBody s_bklastphase, defScope s_bklastphase, [], []⟩
def d_bkplaces : He.DefD := ⟨("Book", some "places"), "places", "Book.places", defArgs s_bkplaces, defBody s_bkplaces, defScope s_bkplaces, [], []⟩
def d_bkmoved : He.DefD := ⟨("Book", some "moved"), "moved", "Book.moved", defArgs s_bkmoved, defBody s_bkmoved, defScope s_bkmoved, [], []⟩
def d_bkgame : He.DefD := ⟨("Book", some "game"), "game", "Book.game", defArgs s_bkgame, defBody s_bkgame, defScope s_bkgame, [], []⟩
def d_zpool : He.DefD := ⟨("_law_pool", none), "_law_pool", "_law_pool", defArgs s_zpool, defBody s_zpool, defScope s_zpool, [], []⟩
def d_zdraw : He.DefD := ⟨("_law_draw", none), "_law_draw", "_law_draw", defArgs s_zdraw, defBody s_zdraw, defScope s_zdraw, [], []⟩
def d_zpick : He.DefD := ⟨("_law_pick", none), "_law_pick", "_law_pick", defArgs s_zpick, defBody s_zpick, defScope s_zpick, [], []⟩
def d_zentry : He.DefD := ⟨("_law_entry", none), "_law_entry", "_law_entry", defArgs s_zentry, defBody s_zentry, defScope s_zentry, [], []⟩
def d_zmodel : He.DefD := ⟨("_law_model", none), "_law_model", "_law_model", defArgs s_zmodel, defBody s_zmodel, defScope s_zmodel, [], []⟩
def d_zmade : He.DefD := ⟨("_law_made", none), "_law_made", "_law_made", defArgs s_zmade, defBody s_zmade, defScope s_zmade, [], []⟩
def d_zspots : He.DefD := ⟨("_law_spots", none), "_law_spots", "_law_spots", defArgs s_zspots, defBody s_zspots, defScope s_zspots, [], []⟩
def d_zcut : He.DefD := ⟨("_law_cut", none), "_law_cut", "_law_cut", defArgs s_zcut, defBody s_zcut, defScope s_zcut, [], []⟩
def d_zone : He.DefD := ⟨("_law_one", none), "_law_one", "_law_one", defArgs s_zone, defBody s_zone, defScope s_zone, [], []⟩
def d_zgame : He.DefD := ⟨("_law_game", none), "_law_game", "_law_game", defArgs s_zgame, defBody s_zgame, defScope s_zgame, [], []⟩
def d_zmine : He.DefD := ⟨("_law_mine", none), "_law_mine", "_law_mine", defArgs s_zmine, defBody s_zmine, defScope s_zmine, [], []⟩
def d_zsmall : He.DefD := ⟨("_law_small", none), "_law_small", "_law_small", defArgs s_zsmall, defBody s_zsmall, defScope s_zsmall, [], []⟩
def d_zrow : He.DefD := ⟨("_law_row", none), "_law_row", "_law_row", defArgs s_zrow, defBody s_zrow, defScope s_zrow, [], []⟩
def d_zrows : He.DefD := ⟨("_law_rows", none), "_law_rows", "_law_rows", defArgs s_zrows, defBody s_zrows, defScope s_zrows, [], []⟩
def d_zchance : He.DefD := ⟨("_law_chance", none), "_law_chance", "_law_chance", defArgs s_zchance, defBody s_zchance, defScope s_zchance, [], []⟩
def d_zplus : He.DefD := ⟨("_law_plus", none), "_law_plus", "_law_plus", defArgs s_zplus, defBody s_zplus, defScope s_zplus, [], []⟩
def d_ztimes : He.DefD := ⟨("_law_times", none), "_law_times", "_law_times", defArgs s_ztimes, defBody s_ztimes, defScope s_ztimes, [], []⟩
def d_zover : He.DefD := ⟨("_law_over", none), "_law_over", "_law_over", defArgs s_zover, defBody s_zover, defScope s_zover, [], []⟩
def d_zbest : He.DefD := ⟨("_law_best", none), "_law_best", "_law_best", defArgs s_zbest, defBody s_zbest, defScope s_zbest, [], []⟩
def d_ztwelveright : He.DefD := ⟨("_law_twelve_right", none), "_law_twelve_right", "_law_twelve_right", defArgs s_ztwelveright, defBody s_ztwelveright, defScope s_ztwelveright, [], []⟩
def d_law : He.DefD := ⟨("law", none), "law", "law", defArgs s_law, defBody s_law, defScope s_law, [], []⟩
def fn0 : List He.DefD := [d_isinteger, d_iswhole, d_commondivisor, d_isfraction, d_fraction, d_added, d_less, d_multiplied, d_isabove, d_isstrength, d_ischancerow, d_ccinit]
def fn1 : List He.DefD := [d_cccall, d_checkknown, d_placebehind, d_endsof, d_checkopponents, d_chinit, d_chmeanwith, d_chbest, d_checkchoice, d_greatestmean, d_bestplan, d_checkplan]
def fn2 : List He.DefD := [d_meanof, d_isentry, d_istablerow, d_istable, d_rowat, d_isresult, d_bkinit, d_bklen, d_bkcontains, d_bklastphase, d_bkplaces, d_bkmoved]
def fn3 : List He.DefD := [d_bkgame, d_zpool, d_zdraw, d_zpick, d_zentry, d_zmodel, d_zmade, d_zspots, d_zcut, d_zone, d_zgame, d_zmine]
def fn4 : List He.DefD := [d_zsmall, d_zrow, d_zrows, d_zchance, d_zplus, d_ztimes, d_zover, d_zbest, d_ztwelveright, d_law]
def fns : List He.DefD := fn0 ++ (fn1 ++ (fn2 ++ (fn3 ++ (fn4))))
def fGlo0 : List He.Fa := [.glo "is_integer", .glo "is_whole", .glo "common_divisor", .glo "is_fraction", .glo "fraction", .glo "added", .glo "less", .glo "multiplied", .glo "is_above", .glo "is_strength", .glo "is_chance_row", .glo "check_known"]
def fGlo1 : List He.Fa := [.glo "place_behind", .glo "ends_of", .glo "check_opponents", .glo "check_choice", .glo "greatest_mean", .glo "best_plan", .glo "check_plan", .glo "mean_of", .glo "is_entry", .glo "is_table_row", .glo "is_table", .glo "row_at"]
def fGlo2 : List He.Fa := [.glo "is_result", .glo "_law_pool", .glo "_law_draw", .glo "_law_pick", .glo "_law_entry", .glo "_law_model", .glo "_law_made", .glo "_law_spots", .glo "_law_cut", .glo "_law_one", .glo "_law_game", .glo "_law_mine"]
def fGlo3 : List He.Fa := [.glo "_law_small", .glo "_law_row", .glo "_law_rows", .glo "_law_chance", .glo "_law_plus", .glo "_law_times", .glo "_law_over", .glo "_law_best", .glo "_law_twelve_right", .glo "law", .glo "Chances", .glo "Chooser"]
def fGlo4 : List He.Fa := [.glo "Book"]
def fGlo : List He.Fa := fGlo0 ++ (fGlo1 ++ (fGlo2 ++ (fGlo3 ++ (fGlo4))))
def fFree0 : List He.Fa := [.free "isinstance", .free "int", .free "bool", .free "tuple", .free "list", .free "dict", .free "len", .free "all", .free "abs", .free "max", .free "min", .free "range"]
def fFree1 : List He.Fa := [.free "zip", .free "enumerate", .free "sorted", .free "str"]
def fFree : List He.Fa := fFree0 ++ (fFree1)
def fRest0 : List He.Fa := [.int "MOST_STRENGTH" 99, .int "MOST_ROWS_chances" 6, .int "MOST_GAMES" 12, .int "MOST_RATING" 23, .int "MOST_PLACES" 24, .int "MOST_ROWS_books" 6, .cls "Chances", .cls "Chooser", .cls "Book", .noat "Chances" "own_rows", .noat "Chooser" "book", .noat "Chooser" "chances"]
def fRest1 : List He.Fa := [.noat "Chooser" "strength", .noat "Chooser" "opponents", .noat "Chooser" "known", .noat "Book" "low", .noat "Book" "high", .noat "Book" "table", .noat "Book" "fresh", .noat "Book" "times", .noat "Book" "bonus", .meth "Chances" "__call__", .meth "Chooser" "mean_with", .meth "Chooser" "best"]
def fRest2 : List He.Fa := [.meth "Book" "__len__", .meth "Book" "__contains__", .meth "Book" "last_phase", .meth "Book" "places", .meth "Book" "moved", .meth "Book" "game", .mkr "Chances", .mkr "Chooser", .mkr "Book"]
def fRest : List He.Fa := fRest0 ++ (fRest1 ++ (fRest2))
def fas : List He.Fa := fGlo ++ (fFree ++ fRest)
def tupN (K : PySem.W.Frag) (x : PySem.Str) : Bool := match K.lookup (He.ga K x) with
  | some ⟨.type c, none, _, _⟩ => decide (c = "tuple")
  | _ => false
def more (K : PySem.W.Frag) : Bool := He.tupB K "NONE" [.int 0, .int 1] && (He.tupB K "ALL" [.int 1, .int 1] && (He.tupB K "RESULTS" [.str "upper", .str "draw", .str "lower"] &&
  ((He.Fa.glo "NONE").ok K && ((He.Fa.glo "ALL").ok K && ((He.Fa.glo "RESULTS").ok K && (PySem.W.fnIn K (He.ma K (He.ga K "Chances") "__call__") && tupN K "RESULTS"))))))
def loose0 : List PySem.Str := ["_wall", "LadderError", "BadNumber", "BadBook", "BadPlace", "BadGame", "BadChances", "BadOpponent", "BadPlan", "UnknownPlace", "TooMany", "is_integer"]
def loose1 : List PySem.Str := ["is_whole", "common_divisor", "is_fraction", "fraction", "added", "less", "multiplied", "is_above", "MOST_STRENGTH", "MOST_ROWS_chances", "MOST_GAMES", "NONE"]
def loose2 : List PySem.Str := ["ALL", "is_strength", "is_chance_row", "Chances", "check_known", "place_behind", "ends_of", "check_opponents", "Chooser", "check_choice", "greatest_mean", "best_plan"]
def loose3 : List PySem.Str := ["check_plan", "mean_of", "MOST_RATING", "MOST_PLACES", "MOST_ROWS_books", "RESULTS", "is_entry", "is_table_row", "is_table", "row_at", "is_result", "Book"]
def loose4 : List PySem.Str := ["_law_pool", "_law_draw", "_law_pick", "_law_entry", "_law_model", "_law_made", "_law_spots", "_law_cut", "_law_one", "_law_game", "_law_mine", "_law_small"]
def loose5 : List PySem.Str := ["_law_row", "_law_rows", "_law_chance", "_law_plus", "_law_times", "_law_over", "_law_best", "_law_twelve_right"]
def loose : List PySem.Str := loose0 ++ (loose1 ++ (loose2 ++ (loose3 ++ (loose4 ++ (loose5)))))
/-- what the proofs lean on -/
structure Tx (K : PySem.W.Frag) (mg : Str → Option Value) : Prop where
  ex : ∃ h : Heap, K.In h ∧ h.Ns mainGlobals mg
  c : He.SaysD fas fns K
  m : more K = true
section
variable {K : PySem.W.Frag} {mg : Str → Option Value}
theorem Tx.glo (T : Tx K mg) (i : Nat) {x : Str} (h : fas[i]? = some (.glo x)) : mg x = some (.ref (He.ga K x)) := let ⟨_, X, G⟩ := T.ex; He.glo_ok X G (T.c.fact i h)
theorem Tx.free (T : Tx K mg) (i : Nat) {x : Str} (h : fas[i]? = some (.free x)) : mg x = none := let ⟨_, X, G⟩ := T.ex; He.free_ok X G (T.c.fact i h)
theorem Tx.int (T : Tx K mg) (i : Nat) {x : Str} {n : Int} (h : fas[i]? = some (.int x n)) : ∃ t, mg x = some (.int n t) := let ⟨_, X, G⟩ := T.ex; He.int_ok X G (T.c.fact i h)
theorem g_isinteger (T : Tx K mg) : mg "is_integer" = some (.ref (He.ga K "is_integer")) := T.glo 0 rfl
theorem g_iswhole (T : Tx K mg) : mg "is_whole" = some (.ref (He.ga K "is_whole")) := T.glo 1 rfl
theorem g_commondivisor (T : Tx K mg) : mg "common_divisor" = some (.ref (He.ga K "common_divisor")) := T.glo 2 rfl
theorem g_isfraction (T : Tx K mg) : mg "is_fraction" = some (.ref (He.ga K "is_fraction")) := T.glo 3 rfl
theorem g_fraction (T : Tx K mg) : mg "fraction" = some (.ref (He.ga K "fraction")) := T.glo 4 rfl
theorem g_added (T : Tx K mg) : mg "added" = some (.ref (He.ga K "added")) := T.glo 5 rfl
theorem g_less (T : Tx K mg) : mg "less" = some (.ref (He.ga K "less")) := T.glo 6 rfl
theorem g_multiplied (T : Tx K mg) : mg "multiplied" = some (.ref (He.ga K "multiplied")) := T.glo 7 rfl
theorem g_isabove (T : Tx K mg) : mg "is_above" = some (.ref (He.ga K "is_above")) := T.glo 8 rfl
theorem g_isstrength (T : Tx K mg) : mg "is_strength" = some (.ref (He.ga K "is_strength")) := T.glo 9 rfl
theorem g_ischancerow (T : Tx K mg) : mg "is_chance_row" = some (.ref (He.ga K "is_chance_row")) := T.glo 10 rfl
theorem g_checkknown (T : Tx K mg) : mg "check_known" = some (.ref (He.ga K "check_known")) := T.glo 11 rfl
theorem g_placebehind (T : Tx K mg) : mg "place_behind" = some (.ref (He.ga K "place_behind")) := T.glo 12 rfl
theorem g_endsof (T : Tx K mg) : mg "ends_of" = some (.ref (He.ga K "ends_of")) := T.glo 13 rfl
theorem g_checkopponents (T : Tx K mg) : mg "check_opponents" = some (.ref (He.ga K "check_opponents")) := T.glo 14 rfl
theorem g_checkchoice (T : Tx K mg) : mg "check_choice" = some (.ref (He.ga K "check_choice")) := T.glo 15 rfl
theorem g_greatestmean (T : Tx K mg) : mg "greatest_mean" = some (.ref (He.ga K "greatest_mean")) := T.glo 16 rfl
theorem g_bestplan (T : Tx K mg) : mg "best_plan" = some (.ref (He.ga K "best_plan")) := T.glo 17 rfl
theorem g_checkplan (T : Tx K mg) : mg "check_plan" = some (.ref (He.ga K "check_plan")) := T.glo 18 rfl
theorem g_meanof (T : Tx K mg) : mg "mean_of" = some (.ref (He.ga K "mean_of")) := T.glo 19 rfl
theorem g_isentry (T : Tx K mg) : mg "is_entry" = some (.ref (He.ga K "is_entry")) := T.glo 20 rfl
theorem g_istablerow (T : Tx K mg) : mg "is_table_row" = some (.ref (He.ga K "is_table_row")) := T.glo 21 rfl
theorem g_istable (T : Tx K mg) : mg "is_table" = some (.ref (He.ga K "is_table")) := T.glo 22 rfl
theorem g_rowat (T : Tx K mg) : mg "row_at" = some (.ref (He.ga K "row_at")) := T.glo 23 rfl
theorem g_isresult (T : Tx K mg) : mg "is_result" = some (.ref (He.ga K "is_result")) := T.glo 24 rfl
theorem g_zpool (T : Tx K mg) : mg "_law_pool" = some (.ref (He.ga K "_law_pool")) := T.glo 25 rfl
theorem g_zdraw (T : Tx K mg) : mg "_law_draw" = some (.ref (He.ga K "_law_draw")) := T.glo 26 rfl
theorem g_zpick (T : Tx K mg) : mg "_law_pick" = some (.ref (He.ga K "_law_pick")) := T.glo 27 rfl
theorem g_zentry (T : Tx K mg) : mg "_law_entry" = some (.ref (He.ga K "_law_entry")) := T.glo 28 rfl
theorem g_zmodel (T : Tx K mg) : mg "_law_model" = some (.ref (He.ga K "_law_model")) := T.glo 29 rfl
theorem g_zmade (T : Tx K mg) : mg "_law_made" = some (.ref (He.ga K "_law_made")) := T.glo 30 rfl
theorem g_zspots (T : Tx K mg) : mg "_law_spots" = some (.ref (He.ga K "_law_spots")) := T.glo 31 rfl
theorem g_zcut (T : Tx K mg) : mg "_law_cut" = some (.ref (He.ga K "_law_cut")) := T.glo 32 rfl
theorem g_zone (T : Tx K mg) : mg "_law_one" = some (.ref (He.ga K "_law_one")) := T.glo 33 rfl
theorem g_zgame (T : Tx K mg) : mg "_law_game" = some (.ref (He.ga K "_law_game")) := T.glo 34 rfl
theorem g_zmine (T : Tx K mg) : mg "_law_mine" = some (.ref (He.ga K "_law_mine")) := T.glo 35 rfl
theorem g_zsmall (T : Tx K mg) : mg "_law_small" = some (.ref (He.ga K "_law_small")) := T.glo 36 rfl
theorem g_zrow (T : Tx K mg) : mg "_law_row" = some (.ref (He.ga K "_law_row")) := T.glo 37 rfl
theorem g_zrows (T : Tx K mg) : mg "_law_rows" = some (.ref (He.ga K "_law_rows")) := T.glo 38 rfl
theorem g_zchance (T : Tx K mg) : mg "_law_chance" = some (.ref (He.ga K "_law_chance")) := T.glo 39 rfl
theorem g_zplus (T : Tx K mg) : mg "_law_plus" = some (.ref (He.ga K "_law_plus")) := T.glo 40 rfl
theorem g_ztimes (T : Tx K mg) : mg "_law_times" = some (.ref (He.ga K "_law_times")) := T.glo 41 rfl
theorem g_zover (T : Tx K mg) : mg "_law_over" = some (.ref (He.ga K "_law_over")) := T.glo 42 rfl
theorem g_zbest (T : Tx K mg) : mg "_law_best" = some (.ref (He.ga K "_law_best")) := T.glo 43 rfl
theorem g_ztwelveright (T : Tx K mg) : mg "_law_twelve_right" = some (.ref (He.ga K "_law_twelve_right")) := T.glo 44 rfl
theorem g_law (T : Tx K mg) : mg "law" = some (.ref (He.ga K "law")) := T.glo 45 rfl
theorem g_Chances (T : Tx K mg) : mg "Chances" = some (.ref (He.ga K "Chances")) := T.glo 46 rfl
theorem g_Chooser (T : Tx K mg) : mg "Chooser" = some (.ref (He.ga K "Chooser")) := T.glo 47 rfl
theorem g_Book (T : Tx K mg) : mg "Book" = some (.ref (He.ga K "Book")) := T.glo 48 rfl
theorem b_isinstance (T : Tx K mg) : mg "isinstance" = none := T.free 49 rfl
theorem b_int (T : Tx K mg) : mg "int" = none := T.free 50 rfl
theorem b_bool (T : Tx K mg) : mg "bool" = none := T.free 51 rfl
theorem b_tuple (T : Tx K mg) : mg "tuple" = none := T.free 52 rfl
theorem b_list (T : Tx K mg) : mg "list" = none := T.free 53 rfl
theorem b_dict (T : Tx K mg) : mg "dict" = none := T.free 54 rfl
theorem b_len (T : Tx K mg) : mg "len" = none := T.free 55 rfl
theorem b_all (T : Tx K mg) : mg "all" = none := T.free 56 rfl
theorem b_abs (T : Tx K mg) : mg "abs" = none := T.free 57 rfl
theorem b_max (T : Tx K mg) : mg "max" = none := T.free 58 rfl
theorem b_min (T : Tx K mg) : mg "min" = none := T.free 59 rfl
theorem b_range (T : Tx K mg) : mg "range" = none := T.free 60 rfl
theorem b_zip (T : Tx K mg) : mg "zip" = none := T.free 61 rfl
theorem b_enumerate (T : Tx K mg) : mg "enumerate" = none := T.free 62 rfl
theorem b_sorted (T : Tx K mg) : mg "sorted" = none := T.free 63 rfl
theorem b_str (T : Tx K mg) : mg "str" = none := T.free 64 rfl
theorem i_MOSTSTRENGTH (T : Tx K mg) : ∃ t, mg "MOST_STRENGTH" = some (.int 99 t) := T.int 65 rfl
theorem i_MOSTROWSchances (T : Tx K mg) : ∃ t, mg "MOST_ROWS_chances" = some (.int 6 t) := T.int 66 rfl
theorem i_MOSTGAMES (T : Tx K mg) : ∃ t, mg "MOST_GAMES" = some (.int 12 t) := T.int 67 rfl
theorem i_MOSTRATING (T : Tx K mg) : ∃ t, mg "MOST_RATING" = some (.int 23 t) := T.int 68 rfl
theorem i_MOSTPLACES (T : Tx K mg) : ∃ t, mg "MOST_PLACES" = some (.int 24 t) := T.int 69 rfl
theorem i_MOSTROWSbooks (T : Tx K mg) : ∃ t, mg "MOST_ROWS_books" = some (.int 6 t) := T.int 70 rfl
theorem cl_Chances (T : Tx K mg) : Cls K (He.ga K "Chances") := He.cls_ok (T.c.fact 71 rfl)
theorem cl_Chooser (T : Tx K mg) : Cls K (He.ga K "Chooser") := He.cls_ok (T.c.fact 72 rfl)
theorem cl_Book (T : Tx K mg) : Cls K (He.ga K "Book") := He.cls_ok (T.c.fact 73 rfl)
theorem na_Chances_ownrows (T : Tx K mg) : NoAttr K (He.ga K "Chances") "own_rows" := He.noat_ok (T.c.fact 74 rfl)
theorem na_Chooser_book (T : Tx K mg) : NoAttr K (He.ga K "Chooser") "book" := He.noat_ok (T.c.fact 75 rfl)
theorem na_Chooser_chances (T : Tx K mg) : NoAttr K (He.ga K "Chooser") "chances" := He.noat_ok (T.c.fact 76 rfl)
theorem na_Chooser_strength (T : Tx K mg) : NoAttr K (He.ga K "Chooser") "strength" := He.noat_ok (T.c.fact 77 rfl)
theorem na_Chooser_opponents (T : Tx K mg) : NoAttr K (He.ga K "Chooser") "opponents" := He.noat_ok (T.c.fact 78 rfl)
theorem na_Chooser_known (T : Tx K mg) : NoAttr K (He.ga K "Chooser") "known" := He.noat_ok (T.c.fact 79 rfl)
theorem na_Book_low (T : Tx K mg) : NoAttr K (He.ga K "Book") "low" := He.noat_ok (T.c.fact 80 rfl)
theorem na_Book_high (T : Tx K mg) : NoAttr K (He.ga K "Book") "high" := He.noat_ok (T.c.fact 81 rfl)
theorem na_Book_table (T : Tx K mg) : NoAttr K (He.ga K "Book") "table" := He.noat_ok (T.c.fact 82 rfl)
theorem na_Book_fresh (T : Tx K mg) : NoAttr K (He.ga K "Book") "fresh" := He.noat_ok (T.c.fact 83 rfl)
theorem na_Book_times (T : Tx K mg) : NoAttr K (He.ga K "Book") "times" := He.noat_ok (T.c.fact 84 rfl)
theorem na_Book_bonus (T : Tx K mg) : NoAttr K (He.ga K "Book") "bonus" := He.noat_ok (T.c.fact 85 rfl)
theorem me_cccall (T : Tx K mg) : Meth K (He.ga K "Chances") "__call__" (He.ma K (He.ga K "Chances") "__call__") := He.meth_ok (T.c.fact 86 rfl)
theorem me_chmeanwith (T : Tx K mg) : Meth K (He.ga K "Chooser") "mean_with" (He.ma K (He.ga K "Chooser") "mean_with") := He.meth_ok (T.c.fact 87 rfl)
theorem me_chbest (T : Tx K mg) : Meth K (He.ga K "Chooser") "best" (He.ma K (He.ga K "Chooser") "best") := He.meth_ok (T.c.fact 88 rfl)
theorem me_bklen (T : Tx K mg) : Meth K (He.ga K "Book") "__len__" (He.ma K (He.ga K "Book") "__len__") := He.meth_ok (T.c.fact 89 rfl)
theorem me_bkcontains (T : Tx K mg) : Meth K (He.ga K "Book") "__contains__" (He.ma K (He.ga K "Book") "__contains__") := He.meth_ok (T.c.fact 90 rfl)
theorem me_bklastphase (T : Tx K mg) : Meth K (He.ga K "Book") "last_phase" (He.ma K (He.ga K "Book") "last_phase") := He.meth_ok (T.c.fact 91 rfl)
theorem me_bkplaces (T : Tx K mg) : Meth K (He.ga K "Book") "places" (He.ma K (He.ga K "Book") "places") := He.meth_ok (T.c.fact 92 rfl)
theorem me_bkmoved (T : Tx K mg) : Meth K (He.ga K "Book") "moved" (He.ma K (He.ga K "Book") "moved") := He.meth_ok (T.c.fact 93 rfl)
theorem me_bkgame (T : Tx K mg) : Meth K (He.ga K "Book") "game" (He.ma K (He.ga K "Book") "game") := He.meth_ok (T.c.fact 94 rfl)
theorem mk_Chances (T : Tx K mg) : Mk K (He.ga K "Chances") (He.ma K (He.ga K "Chances") "__init__") := He.mkr_ok (T.c.fact 95 rfl)
theorem mk_Chooser (T : Tx K mg) : Mk K (He.ga K "Chooser") (He.ma K (He.ga K "Chooser") "__init__") := He.mkr_ok (T.c.fact 96 rfl)
theorem mk_Book (T : Tx K mg) : Mk K (He.ga K "Book") (He.ma K (He.ga K "Book") "__init__") := He.mkr_ok (T.c.fact 97 rfl)
theorem D_isinteger (T : Tx K mg) : ∃ fd, FunD K "is_integer" "is_integer" (defArgs s_isinteger) (defBody s_isinteger) (defScope s_isinteger) [] [] (He.ga K "is_integer") fd := T.c.def_ 0 (d := d_isinteger) rfl
theorem D_iswhole (T : Tx K mg) : ∃ fd, FunD K "is_whole" "is_whole" (defArgs s_iswhole) (defBody s_iswhole) (defScope s_iswhole) [] [] (He.ga K "is_whole") fd := T.c.def_ 1 (d := d_iswhole) rfl
theorem D_commondivisor (T : Tx K mg) : ∃ fd, FunD K "common_divisor" "common_divisor" (defArgs s_commondivisor) (defBody s_commondivisor) (defScope s_commondivisor) [] [] (He.ga K "common_divisor") fd := T.c.def_ 2 (d := d_commondivisor) rfl
theorem D_isfraction (T : Tx K mg) : ∃ fd, FunD K "is_fraction" "is_fraction" (defArgs s_isfraction) (defBody s_isfraction) (defScope s_isfraction) [] [] (He.ga K "is_fraction") fd := T.c.def_ 3 (d := d_isfraction) rfl
theorem D_fraction (T : Tx K mg) : ∃ fd, FunD K "fraction" "fraction" (defArgs s_fraction) (defBody s_fraction) (defScope s_fraction) [] [] (He.ga K "fraction") fd := T.c.def_ 4 (d := d_fraction) rfl
theorem D_added (T : Tx K mg) : ∃ fd, FunD K "added" "added" (defArgs s_added) (defBody s_added) (defScope s_added) [] [] (He.ga K "added") fd := T.c.def_ 5 (d := d_added) rfl
theorem D_less (T : Tx K mg) : ∃ fd, FunD K "less" "less" (defArgs s_less) (defBody s_less) (defScope s_less) [] [] (He.ga K "less") fd := T.c.def_ 6 (d := d_less) rfl
theorem D_multiplied (T : Tx K mg) : ∃ fd, FunD K "multiplied" "multiplied" (defArgs s_multiplied) (defBody s_multiplied) (defScope s_multiplied) [] [] (He.ga K "multiplied") fd := T.c.def_ 7 (d := d_multiplied) rfl
theorem D_isabove (T : Tx K mg) : ∃ fd, FunD K "is_above" "is_above" (defArgs s_isabove) (defBody s_isabove) (defScope s_isabove) [] [] (He.ga K "is_above") fd := T.c.def_ 8 (d := d_isabove) rfl
theorem D_isstrength (T : Tx K mg) : ∃ fd, FunD K "is_strength" "is_strength" (defArgs s_isstrength) (defBody s_isstrength) (defScope s_isstrength) [] [] (He.ga K "is_strength") fd := T.c.def_ 9 (d := d_isstrength) rfl
theorem D_ischancerow (T : Tx K mg) : ∃ fd, FunD K "is_chance_row" "is_chance_row" (defArgs s_ischancerow) (defBody s_ischancerow) (defScope s_ischancerow) [] [] (He.ga K "is_chance_row") fd := T.c.def_ 10 (d := d_ischancerow) rfl
theorem D_ccinit (T : Tx K mg) : ∃ fd, FunD K "__init__" "Chances.__init__" (defArgs s_ccinit) (defBody s_ccinit) (defScope s_ccinit) [] [] (He.ma K (He.ga K "Chances") "__init__") fd := T.c.def_ 11 (d := d_ccinit) rfl
theorem D_cccall (T : Tx K mg) : ∃ fd, FunD K "__call__" "Chances.__call__" (defArgs s_cccall) (defBody s_cccall) (defScope s_cccall) [] [] (He.ma K (He.ga K "Chances") "__call__") fd := T.c.def_ 12 (d := d_cccall) rfl
theorem D_checkknown (T : Tx K mg) : ∃ fd, FunD K "check_known" "check_known" (defArgs s_checkknown) (defBody s_checkknown) (defScope s_checkknown) [] [] (He.ga K "check_known") fd := T.c.def_ 13 (d := d_checkknown) rfl
theorem D_placebehind (T : Tx K mg) : ∃ fd, FunD K "place_behind" "place_behind" (defArgs s_placebehind) (defBody s_placebehind) (defScope s_placebehind) [] [] (He.ga K "place_behind") fd := T.c.def_ 14 (d := d_placebehind) rfl
theorem D_endsof (T : Tx K mg) : ∃ fd, FunD K "ends_of" "ends_of" (defArgs s_endsof) (defBody s_endsof) (defScope s_endsof) [] [] (He.ga K "ends_of") fd := T.c.def_ 15 (d := d_endsof) rfl
theorem D_checkopponents (T : Tx K mg) : ∃ fd, FunD K "check_opponents" "check_opponents" (defArgs s_checkopponents) (defBody s_checkopponents) (defScope s_checkopponents) [] [] (He.ga K "check_opponents") fd := T.c.def_ 16 (d := d_checkopponents) rfl
theorem D_chinit (T : Tx K mg) : ∃ fd, FunD K "__init__" "Chooser.__init__" (defArgs s_chinit) (defBody s_chinit) (defScope s_chinit) [] [] (He.ma K (He.ga K "Chooser") "__init__") fd := T.c.def_ 17 (d := d_chinit) rfl
theorem D_chmeanwith (T : Tx K mg) : ∃ fd, FunD K "mean_with" "Chooser.mean_with" (defArgs s_chmeanwith) (defBody s_chmeanwith) (defScope s_chmeanwith) [] [] (He.ma K (He.ga K "Chooser") "mean_with") fd := T.c.def_ 18 (d := d_chmeanwith) rfl
theorem D_chbest (T : Tx K mg) : ∃ fd, FunD K "best" "Chooser.best" (defArgs s_chbest) (defBody s_chbest) (defScope s_chbest) [] [] (He.ma K (He.ga K "Chooser") "best") fd := T.c.def_ 19 (d := d_chbest) rfl
theorem D_checkchoice (T : Tx K mg) : ∃ fd, FunD K "check_choice" "check_choice" (defArgs s_checkchoice) (defBody s_checkchoice) (defScope s_checkchoice) [] [] (He.ga K "check_choice") fd := T.c.def_ 20 (d := d_checkchoice) rfl
theorem D_greatestmean (T : Tx K mg) : ∃ fd, FunD K "greatest_mean" "greatest_mean" (defArgs s_greatestmean) (defBody s_greatestmean) (defScope s_greatestmean) [] [] (He.ga K "greatest_mean") fd := T.c.def_ 21 (d := d_greatestmean) rfl
theorem D_bestplan (T : Tx K mg) : ∃ fd, FunD K "best_plan" "best_plan" (defArgs s_bestplan) (defBody s_bestplan) (defScope s_bestplan) [] [] (He.ga K "best_plan") fd := T.c.def_ 22 (d := d_bestplan) rfl
theorem D_checkplan (T : Tx K mg) : ∃ fd, FunD K "check_plan" "check_plan" (defArgs s_checkplan) (defBody s_checkplan) (defScope s_checkplan) [] [] (He.ga K "check_plan") fd := T.c.def_ 23 (d := d_checkplan) rfl
theorem D_meanof (T : Tx K mg) : ∃ fd, FunD K "mean_of" "mean_of" (defArgs s_meanof) (defBody s_meanof) (defScope s_meanof) [] [] (He.ga K "mean_of") fd := T.c.def_ 24 (d := d_meanof) rfl
theorem D_isentry (T : Tx K mg) : ∃ fd, FunD K "is_entry" "is_entry" (defArgs s_isentry) (defBody s_isentry) (defScope s_isentry) [] [] (He.ga K "is_entry") fd := T.c.def_ 25 (d := d_isentry) rfl
theorem D_istablerow (T : Tx K mg) : ∃ fd, FunD K "is_table_row" "is_table_row" (defArgs s_istablerow) (defBody s_istablerow) (defScope s_istablerow) [] [] (He.ga K "is_table_row") fd := T.c.def_ 26 (d := d_istablerow) rfl
theorem D_istable (T : Tx K mg) : ∃ fd, FunD K "is_table" "is_table" (defArgs s_istable) (defBody s_istable) (defScope s_istable) [] [] (He.ga K "is_table") fd := T.c.def_ 27 (d := d_istable) rfl
theorem D_rowat (T : Tx K mg) : ∃ fd, FunD K "row_at" "row_at" (defArgs s_rowat) (defBody s_rowat) (defScope s_rowat) [] [] (He.ga K "row_at") fd := T.c.def_ 28 (d := d_rowat) rfl
theorem D_isresult (T : Tx K mg) : ∃ fd, FunD K "is_result" "is_result" (defArgs s_isresult) (defBody s_isresult) (defScope s_isresult) [] [] (He.ga K "is_result") fd := T.c.def_ 29 (d := d_isresult) rfl
theorem D_bkinit (T : Tx K mg) : ∃ fd, FunD K "__init__" "Book.__init__" (defArgs s_bkinit) (defBody s_bkinit) (defScope s_bkinit) [] [("fresh", .int 0), ("times", .int 1), ("bonus", .int 0)] (He.ma K (He.ga K "Book") "__init__") fd := T.c.def_ 30 (d := d_bkinit) rfl
theorem D_bklen (T : Tx K mg) : ∃ fd, FunD K "__len__" "Book.__len__" (defArgs s_bklen) (defBody s_bklen) (defScope s_bklen) [] [] (He.ma K (He.ga K "Book") "__len__") fd := T.c.def_ 31 (d := d_bklen) rfl
theorem D_bkcontains (T : Tx K mg) : ∃ fd, FunD K "__contains__" "Book.__contains__" (defArgs s_bkcontains) (defBody s_bkcontains) (defScope s_bkcontains) [] [] (He.ma K (He.ga K "Book") "__contains__") fd := T.c.def_ 32 (d := d_bkcontains) rfl
theorem D_bklastphase (T : Tx K mg) : ∃ fd, FunD K "last_phase" "Book.last_phase" (defArgs s_bklastphase) (defBody s_bklastphase) (defScope s_bklastphase) [] [] (He.ma K (He.ga K "Book") "last_phase") fd := T.c.def_ 33 (d := d_bklastphase) rfl
theorem D_bkplaces (T : Tx K mg) : ∃ fd, FunD K "places" "Book.places" (defArgs s_bkplaces) (defBody s_bkplaces) (defScope s_bkplaces) [] [] (He.ma K (He.ga K "Book") "places") fd := T.c.def_ 34 (d := d_bkplaces) rfl
theorem D_bkmoved (T : Tx K mg) : ∃ fd, FunD K "moved" "Book.moved" (defArgs s_bkmoved) (defBody s_bkmoved) (defScope s_bkmoved) [] [] (He.ma K (He.ga K "Book") "moved") fd := T.c.def_ 35 (d := d_bkmoved) rfl
theorem D_bkgame (T : Tx K mg) : ∃ fd, FunD K "game" "Book.game" (defArgs s_bkgame) (defBody s_bkgame) (defScope s_bkgame) [] [] (He.ma K (He.ga K "Book") "game") fd := T.c.def_ 36 (d := d_bkgame) rfl
theorem D_zpool (T : Tx K mg) : ∃ fd, FunD K "_law_pool" "_law_pool" (defArgs s_zpool) (defBody s_zpool) (defScope s_zpool) [] [] (He.ga K "_law_pool") fd := T.c.def_ 37 (d := d_zpool) rfl
theorem D_zdraw (T : Tx K mg) : ∃ fd, FunD K "_law_draw" "_law_draw" (defArgs s_zdraw) (defBody s_zdraw) (defScope s_zdraw) [] [] (He.ga K "_law_draw") fd := T.c.def_ 38 (d := d_zdraw) rfl
theorem D_zpick (T : Tx K mg) : ∃ fd, FunD K "_law_pick" "_law_pick" (defArgs s_zpick) (defBody s_zpick) (defScope s_zpick) [] [] (He.ga K "_law_pick") fd := T.c.def_ 39 (d := d_zpick) rfl
theorem D_zentry (T : Tx K mg) : ∃ fd, FunD K "_law_entry" "_law_entry" (defArgs s_zentry) (defBody s_zentry) (defScope s_zentry) [] [] (He.ga K "_law_entry") fd := T.c.def_ 40 (d := d_zentry) rfl
theorem D_zmodel (T : Tx K mg) : ∃ fd, FunD K "_law_model" "_law_model" (defArgs s_zmodel) (defBody s_zmodel) (defScope s_zmodel) [] [] (He.ga K "_law_model") fd := T.c.def_ 41 (d := d_zmodel) rfl
theorem D_zmade (T : Tx K mg) : ∃ fd, FunD K "_law_made" "_law_made" (defArgs s_zmade) (defBody s_zmade) (defScope s_zmade) [] [] (He.ga K "_law_made") fd := T.c.def_ 42 (d := d_zmade) rfl
theorem D_zspots (T : Tx K mg) : ∃ fd, FunD K "_law_spots" "_law_spots" (defArgs s_zspots) (defBody s_zspots) (defScope s_zspots) [] [] (He.ga K "_law_spots") fd := T.c.def_ 43 (d := d_zspots) rfl
theorem D_zcut (T : Tx K mg) : ∃ fd, FunD K "_law_cut" "_law_cut" (defArgs s_zcut) (defBody s_zcut) (defScope s_zcut) [] [] (He.ga K "_law_cut") fd := T.c.def_ 44 (d := d_zcut) rfl
theorem D_zone (T : Tx K mg) : ∃ fd, FunD K "_law_one" "_law_one" (defArgs s_zone) (defBody s_zone) (defScope s_zone) [] [] (He.ga K "_law_one") fd := T.c.def_ 45 (d := d_zone) rfl
theorem D_zgame (T : Tx K mg) : ∃ fd, FunD K "_law_game" "_law_game" (defArgs s_zgame) (defBody s_zgame) (defScope s_zgame) [] [] (He.ga K "_law_game") fd := T.c.def_ 46 (d := d_zgame) rfl
theorem D_zmine (T : Tx K mg) : ∃ fd, FunD K "_law_mine" "_law_mine" (defArgs s_zmine) (defBody s_zmine) (defScope s_zmine) [] [] (He.ga K "_law_mine") fd := T.c.def_ 47 (d := d_zmine) rfl
theorem D_zsmall (T : Tx K mg) : ∃ fd, FunD K "_law_small" "_law_small" (defArgs s_zsmall) (defBody s_zsmall) (defScope s_zsmall) [] [] (He.ga K "_law_small") fd := T.c.def_ 48 (d := d_zsmall) rfl
theorem D_zrow (T : Tx K mg) : ∃ fd, FunD K "_law_row" "_law_row" (defArgs s_zrow) (defBody s_zrow) (defScope s_zrow) [] [] (He.ga K "_law_row") fd := T.c.def_ 49 (d := d_zrow) rfl
theorem D_zrows (T : Tx K mg) : ∃ fd, FunD K "_law_rows" "_law_rows" (defArgs s_zrows) (defBody s_zrows) (defScope s_zrows) [] [] (He.ga K "_law_rows") fd := T.c.def_ 50 (d := d_zrows) rfl
theorem D_zchance (T : Tx K mg) : ∃ fd, FunD K "_law_chance" "_law_chance" (defArgs s_zchance) (defBody s_zchance) (defScope s_zchance) [] [] (He.ga K "_law_chance") fd := T.c.def_ 51 (d := d_zchance) rfl
theorem D_zplus (T : Tx K mg) : ∃ fd, FunD K "_law_plus" "_law_plus" (defArgs s_zplus) (defBody s_zplus) (defScope s_zplus) [] [] (He.ga K "_law_plus") fd := T.c.def_ 52 (d := d_zplus) rfl
theorem D_ztimes (T : Tx K mg) : ∃ fd, FunD K "_law_times" "_law_times" (defArgs s_ztimes) (defBody s_ztimes) (defScope s_ztimes) [] [] (He.ga K "_law_times") fd := T.c.def_ 53 (d := d_ztimes) rfl
theorem D_zover (T : Tx K mg) : ∃ fd, FunD K "_law_over" "_law_over" (defArgs s_zover) (defBody s_zover) (defScope s_zover) [] [] (He.ga K "_law_over") fd := T.c.def_ 54 (d := d_zover) rfl
theorem D_zbest (T : Tx K mg) : ∃ fd, FunD K "_law_best" "_law_best" (defArgs s_zbest) (defBody s_zbest) (defScope s_zbest) [] [] (He.ga K "_law_best") fd := T.c.def_ 55 (d := d_zbest) rfl
theorem D_ztwelveright (T : Tx K mg) : ∃ fd, FunD K "_law_twelve_right" "_law_twelve_right" (defArgs s_ztwelveright) (defBody s_ztwelveright) (defScope s_ztwelveright) [] [] (He.ga K "_law_twelve_right") fd := T.c.def_ 56 (d := d_ztwelveright) rfl
theorem D_law (T : Tx K mg) : ∃ fd, FunD K "law" "law" (defArgs s_law) (defBody s_law) (defScope s_law) [] [] (He.ga K "law") fd := T.c.def_ 57 (d := d_law) rfl
theorem Tx.parts (T : Tx K mg) : He.tupB K "NONE" [.int 0, .int 1] = true ∧ He.tupB K "ALL" [.int 1, .int 1] = true ∧ He.tupB K "RESULTS" [.str "upper", .str "draw", .str "lower"] = true ∧ (He.Fa.glo "NONE").ok K = true ∧ (He.Fa.glo "ALL").ok K = true ∧ (He.Fa.glo "RESULTS").ok K = true ∧ PySem.W.fnIn K (He.ma K (He.ga K "Chances") "__call__") = true ∧ tupN K "RESULTS" = true := by
  have h := T.m
  unfold more at h
  simp only [Bool.and_eq_true] at h
  obtain ⟨a, b, c, d, e, f, g, i⟩ := h
  exact ⟨a, b, c, d, e, f, g, i⟩
theorem tup_NONE (T : Tx K mg) (H : Hp) : SqT K H (He.ga K "NONE") [.int 0, .int 1] := He.tupB_ok T.parts.1 H
theorem tup_ALL (T : Tx K mg) (H : Hp) : SqT K H (He.ga K "ALL") [.int 1, .int 1] := He.tupB_ok T.parts.2.1 H
theorem tup_RESULTS (T : Tx K mg) (H : Hp) : SqT K H (He.ga K "RESULTS") [.str "upper", .str "draw", .str "lower"] := He.tupB_ok T.parts.2.2.1 H
theorem g_NONE (T : Tx K mg) : mg "NONE" = some (.ref (He.ga K "NONE")) := let ⟨_, X, G⟩ := T.ex; He.glo_ok X G T.parts.2.2.2.1
theorem g_ALL (T : Tx K mg) : mg "ALL" = some (.ref (He.ga K "ALL")) := let ⟨_, X, G⟩ := T.ex; He.glo_ok X G T.parts.2.2.2.2.1
theorem g_RESULTS (T : Tx K mg) : mg "RESULTS" = some (.ref (He.ga K "RESULTS")) := let ⟨_, X, G⟩ := T.ex; He.glo_ok X G T.parts.2.2.2.2.2.1
theorem fi_call (T : Tx K mg) : PySem.W.fnIn K (He.ma K (He.ga K "Chances") "__call__") = true := T.parts.2.2.2.2.2.2.1
theorem nd_RESULTS (T : Tx K mg) : ∃ o, K.lookup (He.ga K "RESULTS") = some o ∧ o.cls = .type "tuple" ∧ o.dict = none := by
  have h := T.parts.2.2.2.2.2.2.2
  unfold tupN at h
  split at h
  · rename_i c d sl e
    exact ⟨_, e, congrArg Value.type (of_decide_eq_true h), rfl⟩
  · cases h
end
abbrev RR : PySem.W.OpenRow := PySem.W.OpenLaw.row PySem.Challenge.rw_liftedladders_k65_whole_greatest_means
abbrev hk : PySem.W.Hook := He.hookX 5 fas fns [] [] more
def obs (s : PySem.W.SharedT) : He.AlX := He.obsX 5 fas fns [] [] more (HandSHeadRun.getT s)
theorem obs_eq (s : PySem.W.SharedT) : obs s = hk.obs s.abs := He.obsX_eq (HandSHeadRun.getT_eq s)
theorem run (w : World) : HandSHeadRun.RunEq RR (PySem.W.view RR.prog [73]) hk obs 6000 loose w := by
  intro os
  kernel_rfl
end Gm
namespace Gm
open PySem PySem.Spec PyProof.Rows L2
set_option maxHeartbeats 800000
local macro_rules | `(tactic| walk_at "vis") => `(tactic| (intro _; first | exact Or.inl rfl | exact Or.inr (Or.inl rfl) | exact Or.inr (Or.inr rfl)))
local macro_rules | `(tactic| walk_at "var") => `(tactic| first
  | (refine' ev_var (by assumption) 0 rfl rfl ?vz; (case vz => walk_at "vis"))
  | (refine' ev_var (by assumption) 1 rfl rfl ?vz; (case vz => walk_at "vis"))
  | (refine' ev_var (by assumption) 2 rfl rfl ?vz; (case vz => walk_at "vis"))
  | (refine' ev_var (by assumption) 3 rfl rfl ?vz; (case vz => walk_at "vis"))
  | (refine' ev_var (by assumption) 4 rfl rfl ?vz; (case vz => walk_at "vis"))
  | (refine' ev_var (by assumption) 5 rfl rfl ?vz; (case vz => walk_at "vis"))
  | (refine' ev_var (by assumption) 6 rfl rfl ?vz; (case vz => walk_at "vis"))
  | (refine' ev_var (by assumption) 7 rfl rfl ?vz; (case vz => walk_at "vis"))
  | (refine' ev_var (by assumption) 8 rfl rfl ?vz; (case vz => walk_at "vis"))
  | (refine' ev_var (by assumption) 9 rfl rfl ?vz; (case vz => walk_at "vis"))
  | (refine' ev_var (by assumption) 10 rfl rfl ?vz; (case vz => walk_at "vis"))
  | (refine' ev_var (by assumption) 11 rfl rfl ?vz; (case vz => walk_at "vis"))
  | (refine' ev_var (by assumption) 12 rfl rfl ?vz; (case vz => walk_at "vis"))
  | (refine' ev_var (by assumption) 13 rfl rfl ?vz; (case vz => walk_at "vis"))
  | (refine' ev_var (by assumption) 14 rfl rfl ?vz; (case vz => walk_at "vis"))
  | (refine' ev_var (by assumption) 15 rfl rfl ?vz; (case vz => walk_at "vis"))
  | (refine' ev_var (by assumption) 16 rfl rfl ?vz; (case vz => walk_at "vis")))
local macro_rules | `(tactic| walk_at "side") => `(tactic| first | assumption | omega | (constructor <;> omega) | skip)
local macro_rules | `(tactic| walk_at "bk") => `(tactic| first
  | (refine' ev_bk (by assumption) (x := "low") (cl_Book (by assumption)) (na_Book_low (by assumption)) ?va (by assumption) (fun _ => rfl); (case va => walk_at "ev"))
  | (refine' ev_bk (by assumption) (x := "high") (cl_Book (by assumption)) (na_Book_high (by assumption)) ?va (by assumption) (fun _ => rfl); (case va => walk_at "ev"))
  | (refine' ev_bk (by assumption) (x := "fresh") (cl_Book (by assumption)) (na_Book_fresh (by assumption)) ?va (by assumption) (fun _ => rfl); (case va => walk_at "ev"))
  | (refine' ev_bk (by assumption) (x := "times") (cl_Book (by assumption)) (na_Book_times (by assumption)) ?va (by assumption) (fun _ => rfl); (case va => walk_at "ev"))
  | (refine' ev_bk (by assumption) (x := "bonus") (cl_Book (by assumption)) (na_Book_bonus (by assumption)) ?va (by assumption) (fun _ => rfl); (case va => walk_at "ev")))
local macro_rules | `(tactic| walk_at "ev") => `(tactic| first
  | exact ev_int (by assumption)
  | exact ev_str (by assumption)
  | exact ev_bl (by assumption)
  | exact ev_non (by assumption)
  | walk_at "var"
  | (refine' ev_add (by assumption) ?va ?vb; (case va => walk_at "ev"); (case vb => walk_at "ev"))
  | (refine' ev_sub (by assumption) ?va ?vb; (case va => walk_at "ev"); (case vb => walk_at "ev"))
  | (refine' ev_neg (by assumption) ?va; (case va => walk_at "ev"))
  | (refine' ev_mul (by assumption) ?va ?vb ?vc; (case va => walk_at "ev"); (case vb => walk_at "ev"); (case vc => walk_at "side"))
  | (refine' ev_div (by assumption) ?va ?vb ?vc; (case va => walk_at "ev"); (case vb => walk_at "ev"); (case vc => walk_at "side"))
  | (refine' ev_mod (by assumption) ?va ?vb ?vc; (case va => walk_at "ev"); (case vb => walk_at "ev"); (case vc => walk_at "side"))
  | (refine' ev_ixT (by assumption) ?va ?vb ?vc ?vd; (case va => walk_at "ev"); (case vb => walk_at "ev"); (case vc => rfl); (case vd => exact fun _ _ => rfl))
  | (refine' ev_tup2 (by assumption) ?va ?vb; (case va => walk_at "ev"); (case vb => walk_at "ev"))
  | (refine' ev_tup3 (by assumption) ?va ?vb ?vc; (case va => walk_at "ev"); (case vb => walk_at "ev"); (case vc => walk_at "ev"))
  | (refine' ev_lt (by assumption) ?va ?vb; (case va => walk_at "ev"); (case vb => walk_at "ev"))
  | (refine' ev_le (by assumption) ?va ?vb; (case va => walk_at "ev"); (case vb => walk_at "ev"))
  | (refine' ev_gt (by assumption) ?va ?vb; (case va => walk_at "ev"); (case vb => walk_at "ev"))
  | (refine' ev_ge (by assumption) ?va ?vb; (case va => walk_at "ev"); (case vb => walk_at "ev"))
  | (refine' ev_leLe (by assumption) ?va ?vb ?vc; (case va => walk_at "ev"); (case vb => walk_at "ev"); (case vc => walk_at "ev"))
  | (refine' ev_eqI (by assumption) ?va ?vb; (case va => walk_at "ev"); (case vb => walk_at "ev"))
  | (refine' ev_neI (by assumption) ?va ?vb; (case va => walk_at "ev"); (case vb => walk_at "ev"))
  | (refine' ev_eqS (by assumption) ?va ?vb; (case va => walk_at "ev"); (case vb => walk_at "ev"))
  | (refine' ev_isN (by assumption) ?va; (case va => walk_at "ev"))
  | (refine' ev_notN (by assumption) ?va; (case va => walk_at "ev"))
  | (refine' ev_not (by assumption) ?va; (case va => walk_at "ev"))
  | walk_at "bk")
local macro_rules | `(tactic| walk_at "tv") => `(tactic| first
  | (refine' tv_lt (by assumption) ?va ?vb; (case va => walk_at "ev"); (case vb => walk_at "ev"))
  | (refine' tv_le (by assumption) ?va ?vb; (case va => walk_at "ev"); (case vb => walk_at "ev"))
  | (refine' tv_gt (by assumption) ?va ?vb; (case va => walk_at "ev"); (case vb => walk_at "ev"))
  | (refine' tv_ge (by assumption) ?va ?vb; (case va => walk_at "ev"); (case vb => walk_at "ev"))
  | (refine' tv_leLe (by assumption) ?va ?vb ?vc; (case va => walk_at "ev"); (case vb => walk_at "ev"); (case vc => walk_at "ev"))
  | (refine' tv_eqI (by assumption) ?va ?vb; (case va => walk_at "ev"); (case vb => walk_at "ev"))
  | (refine' tv_neI (by assumption) ?va ?vb; (case va => walk_at "ev"); (case vb => walk_at "ev"))
  | (refine' tv_isN (by assumption) ?va; (case va => walk_at "ev"))
  | (refine' tv_notN (by assumption) ?va; (case va => walk_at "ev"))
  | (refine' tv_not (by assumption) ?va; (case va => walk_at "tv"))
  | (refine' tv_val (by assumption) ?va; (case va => walk_at "ev")))
local macro_rules | `(tactic| walk_at "isi") => `(tactic| first
  | (refine' ev_isiA (by assumption) (Tn := "tuple") (b_isinstance (by assumption)) (b_tuple (by assumption)) (by decide +kernel) (kit_ty (a := "tuple") (b := "tuple") (r := true) (by decide +kernel)) ?va ?vx; (case va => walk_at "ev"); (case vx => rfl))
  | (refine' ev_isiA (by assumption) (Tn := "int") (b_isinstance (by assumption)) (b_int (by assumption)) (by decide +kernel) (kit_ty (a := "int") (b := "int") (r := true) (by decide +kernel)) ?va ?vx; (case va => walk_at "ev"); (case vx => rfl))
  | (refine' ev_isiA (by assumption) (Tn := "bool") (b_isinstance (by assumption)) (b_bool (by assumption)) (by decide +kernel) (kit_ty (a := "int") (b := "bool") (r := false) (by decide +kernel)) ?va ?vx; (case va => walk_at "ev"); (case vx => rfl))
  | (refine' ev_isiA (by assumption) (Tn := "str") (b_isinstance (by assumption)) (b_str (by assumption)) (by decide +kernel) (kit_ty (a := "str") (b := "str") (r := true) (by decide +kernel)) ?va ?vx; (case va => walk_at "ev"); (case vx => rfl)))
/-! Numbers: is_whole .. is_above. -/
def pr (f : Fr) : PyData := .tuple [.int f.1, .int f.2]
section
variable {P : Program} {w : World} {K : PySem.W.Frag} {mg : Str → Option Value} {base : Heap}
def boolD (b : Bool) : SV := .d (.bool b)
/-- value, whether an int -/
def rWhole (rs : List SV) (_ : Hp) (r : SV) : Prop := ∃ x : PyData, rs = [.d x] ∧ noL x = true ∧ ((∃ n, x = .int n ∧ r = boolD true))
theorem ok_iswhole (T : Tx K mg) : CallOk P w K mg base "is_whole" 1 (SpR K rWhole) := by
  obtain ⟨fd, F⟩ := D_iswhole T
  refine call_of F (fn_pure F sc_iswhole (fun rs H r ⟨x, e, _⟩ => by rw [e]; rfl) ?_) (g_iswhole T) (fun _ _ _ _ _ _ us hl => match us, hl with | [_], _ => rfl)
  rintro cdv A outer s H E Q rs r hr ⟨_, rfl, _, n, rfl, rfl⟩ ok hQ
  refine bd_retC ok hQ (ev_and ok (ev_isi ok (Tn := "int") (b_isinstance T) (b_int T) (by decide +kernel) (kit_ty (a := "int") (b := "int") (r := true) (by decide +kernel)) (by walk_at "ev")) fun _ => ev_one ok (ev_not ok (ev_isi ok (Tn := "bool") (b_isinstance T) (b_bool T) (by decide +kernel) (kit_ty (a := "int") (b := "bool") (r := false) (by decide +kernel)) (by walk_at "ev")))) rfl
/-- .. between two bounds -/
def rInteger (rs : List SV) (_ : Hp) (r : SV) : Prop := ∃ n lo hi : Int, rs = [.d (.int n), .d (.int lo), .d (.int hi)] ∧ r = boolD (decide (lo ≤ n) && decide (n ≤ hi))
theorem ok_isinteger (T : Tx K mg) : CallOk P w K mg base "is_integer" 2 (SpR K rInteger) := by
  have C1 := ok_iswhole (P := P) (w := w) (base := base) T
  obtain ⟨fd, F⟩ := D_isinteger T
  refine call_of F (fn_pure F sc_isinteger (fun rs H r ⟨_, _, _, e, _⟩ => by rw [e]; rfl) ?_) (g_isinteger T) (fun _ _ _ _ _ _ us hl => match us, hl with | [_, _, _], _ => rfl)
  rintro cdv A outer s H E Q rs r hr ⟨n, lo, hi, rfl, rfl⟩ ok hQ
  refine bd_retC ok hQ (ev_and ok (ev_call ok C1 (Nat.le_of_ble_eq_true rfl) (ea_one ok (by walk_at "ev")) fun _ _ => ⟨_, rfl, rfl, _, rfl, rfl⟩) fun _ => ev_one ok (by walk_at "ev")) ?_
  rw [Bool.true_and]; rfl
/-- the greatest common divisor -/
def rGcd (rs : List SV) (_ : Hp) (r : SV) : Prop := ∃ a b : Int, rs = [.d (.int a), .d (.int b)] ∧ r = .d (.int (Int.gcd a b))
theorem absI_nat (a : Int) : absI a = (a.natAbs : Int) := by unfold absI; split <;> omega
theorem ok_commondivisor (T : Tx K mg) : CallOk P w K mg base "common_divisor" 1 (SpR K rGcd) := by
  obtain ⟨fd, F⟩ := D_commondivisor T
  refine call_of F (fn_pure F sc_commondivisor (fun rs H r ⟨_, _, e, _⟩ => by rw [e]; rfl) ?_) (g_commondivisor T) (fun _ _ _ _ _ _ us hl => match us, hl with | [_, _], _ => rfl)
  rintro cdv A outer s H E Q rs r hr ⟨a, b, rfl, rfl⟩ ok hQ
  refine bd_par ok 0 1 rfl rfl (by decide) (ev_abs ok (b_abs T) (by walk_at "ev")) (ev_abs ok (b_abs T) (by walk_at "ev")) ?_
  refine bd_while ok (fun n ds => ∃ x y : Nat, ds = [some (.d (.int x)), some (.d (.int y))] ∧ Nat.gcd x y = Int.gcd a b ∧ n = y) b.natAbs ⟨a.natAbs, b.natAbs, by rw [absI_nat, absI_nat]; rfl, rfl, rfl⟩ ?_
  rintro y _ ⟨x, _, rfl, hg, rfl⟩
  refine ⟨_, by walk_at "tv", fun hb N hN => ?_, fun hb => ?_⟩
  · obtain hy : 0 < y := by
      have := of_decide_eq_true hb
      omega
    refine bd_par ok 0 1 rfl rfl (by decide) (by walk_at "ev") (ev_mod ok (ev_intI ok (b_int T) (by walk_at "ev")) (ev_intI ok (b_int T) (by walk_at "ev")) (by omega)) ?_
    refine bd_nil fun σ H' hr' hs' => hN (x % y) _ σ H' (Nat.mod_lt _ hy) ⟨y, x % y, by rfl, ?_, rfl⟩ hr' hs'
    rw [← hg, Nat.gcd_comm x y, Nat.gcd_rec y x, Nat.gcd_comm]
  · have hy : y = 0 := by
      have := of_decide_eq_false hb
      omega
    subst hy
    refine bd_retC ok hQ (by walk_at "ev") ?_
    rw [← hg, Nat.gcd_zero_right]
end
section
variable {P : Program} {w : World} {K : PySem.W.Frag} {mg : Str → Option Value} {base : Heap}
def rFraction (rs : List SV) (_ : Hp) (r : SV) : Prop := ∃ o u : Int, rs = [.d (.int o), .d (.int u)] ∧ 0 < u ∧ u < 2 ^ 64 ∧ r = .d (pr (norm o u))
theorem gcd_div {o u : Int} (h0 : 0 < u) (h1 : u < 2 ^ 64) : CDivW o (Int.gcd o u) ∧ CDivW u (Int.gcd o u) := by
  have g := gcd_pos (o := o) h0
  have l : (Int.gcd o u : Int) ≤ u := Int.le_of_dvd h0 (Int.gcd_dvd_right ..)
  have b : (Int.gcd o u : Int).natAbs < 2 ^ 64 := by omega
  exact ⟨wide_div g b (by decide) (by decide), wide_div g b (by decide) (by decide)⟩
theorem ok_fraction (T : Tx K mg) : CallOk P w K mg base "fraction" 2 (SpR K rFraction) := by
  have C1 := ok_commondivisor (P := P) (w := w) (base := base) T
  obtain ⟨fd, F⟩ := D_fraction T
  refine call_of F (fn_pure F sc_fraction (fun rs H r ⟨_, _, e, _⟩ => by rw [e]; rfl) ?_) (g_fraction T) (fun _ _ _ _ _ _ us hl => match us, hl with | [_, _], _ => rfl)
  rintro cdv A outer s H E Q rs r hr ⟨o, u, rfl, h0, h1, rfl⟩ ok hQ
  refine bd_if0 ok (by walk_at "tv") (decide_eq_false (by omega)) ?_
  refine bd_asg ok 2 (r := .d (.int (Int.gcd o u))) rfl (ev_ifR ok (by walk_at "tv") (fun _ => ev_call ok C1 (Nat.le_of_ble_eq_true rfl) (ea_two ok (by walk_at "ev") (by walk_at "ev")) fun _ _ => ⟨_, _, rfl, rfl⟩) fun z => absurd (of_decide_eq_false z) (by omega)) ?_
  obtain ⟨c1, c2⟩ := gcd_div h0 h1 (o := o)
  exact bd_retC ok hQ (by walk_at "ev") rfl
/-- the bounds within which two fractions are reckoned -/
structure Two (a b : Fr) : Prop where
  a0 : 0 < a.2
  a1 : a.2 < 2 ^ 64
  b0 : 0 < b.2
  b1 : b.2 < 2 ^ 64
  ab : a.2 * b.2 < 2 ^ 64
def rAdded (rs : List SV) (_ : Hp) (r : SV) : Prop := ∃ a b : Fr, rs = [.d (pr a), .d (pr b)] ∧ Two a b ∧ r = .d (pr (addF a b))
def rLess (rs : List SV) (_ : Hp) (r : SV) : Prop := ∃ a b : Fr, rs = [.d (pr a), .d (pr b)] ∧ Two a b ∧ r = .d (pr (lessF a b))
def rMultiplied (rs : List SV) (_ : Hp) (r : SV) : Prop := ∃ a b : Fr, rs = [.d (pr a), .d (pr b)] ∧ Two a b ∧ ((-(2 ^ 64) < a.1 ∧ a.1 < 2 ^ 64) ∨ (-(2 ^ 64) < b.1 ∧ b.1 < 2 ^ 64)) ∧ r = .d (pr (mulF a b))
def rAbove (rs : List SV) (_ : Hp) (r : SV) : Prop := ∃ a b : Fr, rs = [.d (pr a), .d (pr b)] ∧ Two a b ∧ r = boolD (aboveF a b)
theorem ok_added (T : Tx K mg) : CallOk P w K mg base "added" 3 (SpR K rAdded) := by
  have C1 := ok_fraction (P := P) (w := w) (base := base) T
  obtain ⟨fd, F⟩ := D_added T
  refine call_of F (fn_pure F sc_added (fun rs H r ⟨_, _, e, _⟩ => by rw [e]; rfl) ?_) (g_added T) (fun _ _ _ _ _ _ us hl => match us, hl with | [_, _], _ => rfl)
  rintro cdv A outer s H E Q rs r hr ⟨a, b, rfl, t, rfl⟩ ok hQ
  obtain ⟨a0, a1, b0, b1, ab⟩ := t
  have m1 : CMul a.1 b.2 := .inr ⟨by omega, b1⟩
  have m2 : CMul b.1 a.2 := .inr ⟨by omega, a1⟩
  have m3 : CMul a.2 b.2 := .inr ⟨by omega, b1⟩
  exact bd_retC ok hQ (ev_call ok C1 (Nat.le_of_ble_eq_true rfl) (ea_two ok (by walk_at "ev") (by walk_at "ev")) fun _ _ => ⟨_, _, rfl, Int.mul_pos a0 b0, ab, rfl⟩) rfl
theorem ok_less (T : Tx K mg) : CallOk P w K mg base "less" 3 (SpR K rLess) := by
  have C1 := ok_fraction (P := P) (w := w) (base := base) T
  obtain ⟨fd, F⟩ := D_less T
  refine call_of F (fn_pure F sc_less (fun rs H r ⟨_, _, e, _⟩ => by rw [e]; rfl) ?_) (g_less T) (fun _ _ _ _ _ _ us hl => match us, hl with | [_, _], _ => rfl)
  rintro cdv A outer s H E Q rs r hr ⟨a, b, rfl, t, rfl⟩ ok hQ
  obtain ⟨a0, a1, b0, b1, ab⟩ := t
  have m1 : CMul a.1 b.2 := .inr ⟨by omega, b1⟩
  have m2 : CMul b.1 a.2 := .inr ⟨by omega, a1⟩
  have m3 : CMul a.2 b.2 := .inr ⟨by omega, b1⟩
  exact bd_retC ok hQ (ev_call ok C1 (Nat.le_of_ble_eq_true rfl) (ea_two ok (by walk_at "ev") (by walk_at "ev")) fun _ _ => ⟨_, _, rfl, Int.mul_pos a0 b0, ab, rfl⟩) rfl
theorem ok_multiplied (T : Tx K mg) : CallOk P w K mg base "multiplied" 3 (SpR K rMultiplied) := by
  have C1 := ok_fraction (P := P) (w := w) (base := base) T
  obtain ⟨fd, F⟩ := D_multiplied T
  refine call_of F (fn_pure F sc_multiplied (fun rs H r ⟨_, _, e, _⟩ => by rw [e]; rfl) ?_) (g_multiplied T) (fun _ _ _ _ _ _ us hl => match us, hl with | [_, _], _ => rfl)
  rintro cdv A outer s H E Q rs r hr ⟨a, b, rfl, t, m1, rfl⟩ ok hQ
  obtain ⟨a0, a1, b0, b1, ab⟩ := t
  have m1 : CMul a.1 b.1 := m1
  have m3 : CMul a.2 b.2 := .inr ⟨by omega, b1⟩
  exact bd_retC ok hQ (ev_call ok C1 (Nat.le_of_ble_eq_true rfl) (ea_two ok (by walk_at "ev") (by walk_at "ev")) fun _ _ => ⟨_, _, rfl, Int.mul_pos a0 b0, ab, rfl⟩) rfl
theorem ok_isabove (T : Tx K mg) : CallOk P w K mg base "is_above" 1 (SpR K rAbove) := by
  obtain ⟨fd, F⟩ := D_isabove T
  refine call_of F (fn_pure F sc_isabove (fun rs H r ⟨_, _, e, _⟩ => by rw [e]; rfl) ?_) (g_isabove T) (fun _ _ _ _ _ _ us hl => match us, hl with | [_, _], _ => rfl)
  rintro cdv A outer s H E Q rs r hr ⟨a, b, rfl, t, rfl⟩ ok hQ
  obtain ⟨a0, a1, b0, b1, ab⟩ := t
  have m1 : CMul a.1 b.2 := .inr ⟨by omega, b1⟩
  have m2 : CMul b.1 a.2 := .inr ⟨by omega, a1⟩
  exact bd_retC ok hQ (by walk_at "ev") rfl
/-- is_fraction of one in least terms -/
def rIsFraction (rs : List SV) (_ : Hp) (r : SV) : Prop := ∃ f : Fr, rs = [.d (pr f)] ∧ OkF f ∧ r = boolD true
theorem ok_isfraction (T : Tx K mg) : CallOk P w K mg base "is_fraction" 2 (SpR K rIsFraction) := by
  have C1 := ok_iswhole (P := P) (w := w) (base := base) T
  have C2 := ok_commondivisor (P := P) (w := w) (base := base) T
  obtain ⟨fd, F⟩ := D_isfraction T
  refine call_of F (fn_pure F sc_isfraction (fun rs H r ⟨_, e, _⟩ => by rw [e]; rfl) ?_) (g_isfraction T) (fun _ _ _ _ _ _ us hl => match us, hl with | [_], _ => rfl)
  rintro cdv A outer s H E Q rs r hr ⟨f, rfl, hf, rfl⟩ ok hQ
  refine bd_if0 ok (tv_w ok (wv_or ok (tv_not ok (tv_val ok (ev_isi ok (Tn := "tuple") (b_isinstance T) (b_tuple T) (by decide +kernel) (kit_ty (a := "tuple") (b := "tuple") (r := true) (by decide +kernel)) (by walk_at "ev")))) fun _ => wv_or ok (tv_neI ok (ev_lenT ok (b_len T) (by walk_at "ev")) (ev_int ok)) fun _ => wv_or1 ok (tv_not ok (tv_val ok (ev_all ok (bs := [true, true]) (b_all T) (ev_ld ok ((ev_lc1L ok 1 (fun _ => true) (fun _ => .bool true) rfl (iv_tup ok (xs := [.int f.1, .int f.2]) (by walk_at "ev")) (Nat.le_of_ble_eq_true rfl) fun H1 r1 okb i hi => ?_).cast rfl))))))) rfl ?_
  · refine ⟨pv_nil okb, fun _ => ⟨ev_call okb C1 (Nat.le_of_ble_eq_true rfl) (ea_one okb (by walk_at "ev")) fun _ _ => ⟨_, rfl, ?_, ?_⟩, rfl⟩⟩
    · match i, hi with
      | 0, _ => rfl
      | 1, _ => rfl
    · match i, hi with
      | 0, _ => exact ⟨_, rfl, rfl⟩
      | 1, _ => exact ⟨_, rfl, rfl⟩
  · refine bd_retC ok hQ (ev_and ok (by walk_at "ev") fun _ => ev_one ok (ev_eqI ok (ev_call ok C2 (Nat.le_of_ble_eq_true rfl) (ea_two ok (by walk_at "ev") (by walk_at "ev")) fun _ _ => ⟨_, _, rfl, rfl⟩) (ev_int ok))) ?_
    have h1 := hf.pos
    have h2 := hf.cop
    show SV.d (.bool (decide (0 < f.2) && decide ((Int.gcd f.1 f.2 : Int) = 1))) = _
    rw [decide_eq_true h1, h2]
    rfl
end
/-! Rules: globals, methods, enumerate, ranges, fields stored, instances made, comprehensions over told lists. -/
section
variable {ι : Type} {m : Mo ι} {ds : Sd} {pos : Pos}
theorem ev_gint (ok : m.Ok) {x : Str} {n : Int} (h : ∃ t, m.S.mg x = some (.int n t)) (hg : ∀ i, Gl (m.F i) x := by intro _; rfl) (h1 : (x == ("__debug__" : Str)) = false := by decide) : EV m ds (.Name x pos) (.d (.int n)) := by
  obtain ⟨t, h⟩ := h
  exact ev_glob ok h (v := .int n) ⟨t, rfl⟩ (fun _ => .int n) hg h1
theorem ev_gdat (ok : m.Ok) {x : Str} {a : Addr} {d : PyData} (h : m.S.mg x = some (.ref a)) (hd : ∀ H, Dp m.S.K H (.ref a) d) (hg : ∀ i, Gl (m.F i) x := by intro _; rfl) (h1 : (x == ("__debug__" : Str)) = false := by decide) : EV m ds (.Name x pos) (.d d) :=
  ev_glob ok h (v := .ref a) rfl hd hg h1
theorem ev_isiA (ok : m.Ok) {e : Expr} {x : PyData} {y : Str} {Tn aN : String} {b : Bool} {p p' : Pos} (hm : m.S.mg "isinstance" = none) (hmT : m.S.mg y = none) (hbT : bootBuiltins y = some (.type Tn)) (hk : PySem.W.kitOne m.S.K (.type aN) (.type Tn) = some b) (h : EV m ds e (.d x)) (hx : tyOf x = .type aN)
    (hg : ∀ i, Gl (m.F i) "isinstance" := by intro _; rfl) (hgT : ∀ i, Gl (m.F i) y := by intro _; rfl) (hy : y ≠ "__name__" := by decide) (hyd : (y == ("__debug__" : Str)) = false := by decide)
    (he : ∀ i, starEach [e, .Name y p'] (m.F i).env = (false, eval e (m.F i).env) :: starEach [.Name y p'] (m.F i).env := by intro _; rfl) (he2 : ∀ i, starEach [.Name y p'] (m.F i).env = (false, eval (.Name y p') (m.F i).env) :: starEach [] (m.F i).env := by intro _; rfl) (hpl : ∀ i, (backTo pos (starEach [.Name y p'] (m.F i).env)).any (·.1) = false := by intro _; rfl) :
    EV m ds (.Call (.Name "isinstance" p) [e, .Name y p'] [] pos) (.d (.bool b)) := ev_isi ok hm hmT hbT (by rw [hx]; exact hk) h hg hgT hy hyd he he2 hpl
/-! #### what a comprehension gathers -/
theorem got_take {α : Type} (xs : List α) (p : α → Bool) (k : α → PyData) (f : Nat → Bool) (g : Nat → PyData) (hf : ∀ (i : Nat) (a : α), xs[i]? = some a → f i = p a ∧ (p a = true → g i = k a)) : ∀ n, n ≤ xs.length → got f g n = ((xs.take n).filter p).map k
  | 0, _ => by simp [got]
  | n + 1, h => by
    have ih := got_take xs p k f g hf n (by omega)
    have hx : xs[n]? = some xs[n] := List.getElem?_eq_getElem (by omega)
    obtain ⟨e1, e2⟩ := hf n _ hx
    rw [List.take_add_one, hx]
    show (if f n = true then got f g n ++ [g n] else got f g n) = _
    rw [ih, e1, List.filter_append, List.map_append]
    cases q : p xs[n] with
    | true => rw [if_pos rfl, e2 q]; simp [q]
    | false => rw [if_neg (by decide)]; simp [q]
theorem got_all {α : Type} (xs : List α) (p : α → Bool) (k : α → PyData) (f : Nat → Bool) (g : Nat → PyData) (hf : ∀ (i : Nat) (a : α), xs[i]? = some a → f i = p a ∧ (p a = true → g i = k a)) : got f g xs.length = (xs.filter p).map k := by
  rw [got_take xs p k f g hf xs.length (Nat.le_refl _), List.take_length]
def pAt {α : Type} (xs : List α) (p : α → Bool) (i : Nat) : Bool := match xs[i]? with
  | some a => p a
  | none => false
def kAt {α : Type} (xs : List α) (k : α → PyData) (i : Nat) : PyData := match xs[i]? with
  | some a => k a
  | none => .none
theorem getD_map {α : Type} {xs : List α} {enc : α → PyData} {i : Nat} {a : α} (h : xs[i]? = some a) : (xs.map enc).getD i .none = enc a := by
  rw [List.getD_eq_getElem?_getD, List.getElem?_map, h]; rfl
/-- [elt for x in xs if ..], xs told -/
theorem ev_lc1M {α : Type} (ok : m.Ok) (j : Nat) {x : Str} {elt iter : Expr} {ifs : List Expr} {scope : Scope} (xs : List α) (enc k : α → PyData) (pr : α → Bool) {p : Pos} (hN : m.S.N[j]? = some x) (hi : IV m ds (.Name x p) iter xs.length fun i => (xs.map enc).getD i .none) (hz : xs.length ≤ 1000)
    (ht : ∀ H1, m.R m.H0 H1 → ((m.blk scope).at_ H1).Ok → ∀ a ∈ xs, PV ((m.blk scope).at_ H1) ((ds.set j none).set j (some (.d (enc a)))) ifs (pr a) ∧ (pr a = true → EV ((m.blk scope).at_ H1) ((ds.set j none).set j (some (.d (enc a)))) elt (.d (k a)) ∧ noL (k a) = true))
    (hb : ∀ i, blkC m.S.N (m.F i).env.scope scope [(x, j)] = true := by intro _; kernel_rfl)
    (hl : ∀ z, Loc ((m.blk scope).F z).env.scope x := by intro _; first | exact Or.inl rfl | exact Or.inr rfl)
    (hfn : ∀ z, ((m.blk scope).F z).fn x = true ∨ ((m.blk scope).F z).env.scope.names.lookup x = some .local := by intro _; first | exact Or.inl rfl | exact Or.inr rfl)
    (hfs : ∀ i, ∀ x, foldedSetIterable iter (m.F i).env x = pure x := by intro _ _; rfl) : EV m ds (.ListComp elt [⟨.Name x p, iter, ifs, 0⟩] scope pos) (.l ((xs.filter pr).map k)) := by
  rw [← got_all xs pr k (pAt xs pr) (kAt xs k) fun i a h => ⟨by unfold pAt; rw [h], fun _ => by unfold kAt; rw [h]⟩]
  refine ev_lc1L ok j (pAt xs pr) (kAt xs k) hN hi hz (fun H1 r1 okb i hi' => ?_) hb hl hfn hfs
  have hx : xs[i]? = some xs[i] := List.getElem?_eq_getElem hi'
  obtain ⟨h1, h2⟩ := ht H1 r1 okb xs[i] (List.getElem_mem hi')
  rw [getD_map hx]
  unfold pAt kAt
  rw [hx]
  exact ⟨h1, h2⟩
theorem iv_listM {α : Type} (ok : m.Ok) {tg iter : Expr} {xs : List α} {enc : α → PyData} (h : EV m ds iter (.d (.list (xs.map enc)))) : IV m ds tg iter xs.length fun i => (xs.map enc).getD i .none := by
  have z := iv_list ok (tg := tg) h
  rw [List.length_map] at z
  exact z
theorem iv_tupM {α : Type} (ok : m.Ok) {tg iter : Expr} {xs : List α} {enc : α → PyData} (h : EV m ds iter (.d (.tuple (xs.map enc)))) : IV m ds tg iter xs.length fun i => (xs.map enc).getD i .none := by
  have z := iv_tup ok (tg := tg) h
  rw [List.length_map] at z
  exact z
theorem filter_true {α : Type} (xs : List α) : xs.filter (fun _ => true) = xs := List.filter_eq_self.mpr fun _ _ => rfl
/-- all([test for x in xs]), each true -/
theorem ev_allM {α : Type} (ok : m.Ok) (j : Nat) {x : Str} {elt iter : Expr} {scope : Scope} (xs : List α) (enc : α → PyData) {p p2 lpos : Pos} (hm : m.S.mg "all" = none) (hN : m.S.N[j]? = some x) (hi : IV m ds (.Name x p) iter xs.length fun i => (xs.map enc).getD i .none) (hz : xs.length ≤ 1000)
    (ht : ∀ H1, m.R m.H0 H1 → ((m.blk scope).at_ H1).Ok → ∀ a ∈ xs, EV ((m.blk scope).at_ H1) ((ds.set j none).set j (some (.d (enc a)))) elt (.d (.bool true)))
    (hb : ∀ i, blkC m.S.N (m.F i).env.scope scope [(x, j)] = true := by intro _; kernel_rfl)
    (hl : ∀ z, Loc ((m.blk scope).F z).env.scope x := by intro _; first | exact Or.inl rfl | exact Or.inr rfl)
    (hfn : ∀ z, ((m.blk scope).F z).fn x = true ∨ ((m.blk scope).F z).env.scope.names.lookup x = some .local := by intro _; first | exact Or.inl rfl | exact Or.inr rfl)
    (hfs : ∀ i, ∀ x, foldedSetIterable iter (m.F i).env x = pure x := by intro _ _; rfl)
    (hg : ∀ i, Gl (m.F i) "all" := by intro _; rfl) (he : ∀ i, starEach [.ListComp elt [⟨.Name x p, iter, [], 0⟩] scope lpos] (m.F i).env = (false, eval (.ListComp elt [⟨.Name x p, iter, [], 0⟩] scope lpos) (m.F i).env) :: starEach [] (m.F i).env := by intro _; rfl) (hpl : ∀ i, (backTo pos (starEach [] (m.F i).env)).any (·.1) = false := by intro _; rfl) :
    EV m ds (.Call (.Name "all" p2) [.ListComp elt [⟨.Name x p, iter, [], 0⟩] scope lpos] [] pos) (.d (.bool true)) := by
  have h1 : EV m ds (.ListComp elt [⟨.Name x p, iter, [], 0⟩] scope lpos) (.d (.list ((xs.map fun _ => true).map PyData.bool))) := by
    have z := ev_lc1M (pos := lpos) ok j xs enc (fun _ => .bool true) (fun _ => true) hN hi hz (fun H1 r1 okb a ha => ⟨pv_nil okb, fun _ => ⟨ht H1 r1 okb a ha, rfl⟩⟩) hb hl hfn hfs
    rw [filter_true] at z
    rw [List.map_map]
    exact ev_ld ok z
  refine (ev_all ok hm h1 hg he hpl).cast ?_
  rw [show (xs.map fun _ => true).all id = true from by simp]
/-! #### methods -/
theorem ev_meth (ok : m.Ok) {C a : Addr} {x : Str} {k : Nat} {rel : List SV → Hp → SV → Prop} (M : m.S.meth C x k (SpR m.S.K rel)) (hk : k ≤ m.k) {o e : Expr} {es : List Expr} {rs : List SV} {r : SV} {p : Pos} (ho : EV m ds o (.v (.ref a))) (hi : ∀ H, m.R m.H0 H → InsA H a C x) (ha : EA m ds (e :: es) rs)
    (hrel : ∀ H, m.R m.H0 H → rel (.v (.ref a) :: rs) H r)
    {pl : ι → Sem Bool} (hst : ∀ i, starEach (e :: es) (m.F i).env = (false, eval e (m.F i).env) :: starEach es (m.F i).env := by intro _; rfl) (hpl : ∀ i, (backTo pos (starEach es (m.F i).env)).any (·.1) = false := by intro _; rfl)
    (ht : ∀ i, eval (.Call (.Attribute o x p) (e :: es) [] pos) (m.F i).env = (do
      let ov ← eval o (m.F i).env
      standAt p.atName
      let (f, first) ← holding [ov] (getMethod ov x (pl i))
      callWith pos f first (backTo pos (starEach (e :: es) (m.F i).env)) (backToKw pos (keywordEach [] (m.F i).env))) := by intro _; rfl) :
    EV m ds (.Call (.Attribute o x p) (e :: es) [] pos) r :=
  ex_meth ok M hk ho hi ha (fun H vs Q hr hd q => ⟨.v (.ref a) :: rs, r, (show DqAll m.S.K H (V.ref a :: vs) _ from .cons rfl hd), hrel H hr, fun v H' e' d => q v H' (ok.ex e') d⟩) hst hpl ht
theorem ev_meth0 (ok : m.Ok) {C a : Addr} {x : Str} {k : Nat} {rel : List SV → Hp → SV → Prop} (M : m.S.meth C x k (SpR m.S.K rel)) (hk : k ≤ m.k) {o : Expr} {r : SV} {p : Pos} (ho : EV m ds o (.v (.ref a))) (hi : ∀ H, m.R m.H0 H → InsA H a C x)
    (hrel : ∀ H, m.R m.H0 H → rel [.v (.ref a)] H r)
    {pl : ι → Sem Bool} (ht : ∀ i, eval (.Call (.Attribute o x p) [] [] pos) (m.F i).env = (do
      let ov ← eval o (m.F i).env
      standAt p.atName
      let (f, first) ← holding [ov] (getMethod ov x (pl i))
      callWith pos f first (backTo pos (starEach [] (m.F i).env)) (backToKw pos (keywordEach [] (m.F i).env))) := by intro _; rfl) :
    EV m ds (.Call (.Attribute o x p) [] [] pos) r :=
  ex_meth0 ok M hk ho hi (fun H Q hr q => ⟨[.v (.ref a)], r, (show DqAll m.S.K H [V.ref a] _ from .cons rfl .nil), hrel H hr, fun v H' e' d => q v H' (ok.ex e') d⟩) ht
/-! #### more walks -/
theorem iv_enum (ok : m.Ok) {e : Expr} {xs : List PyData} {p tpos : Pos} {elts : List Expr} {kk : Nat} (hm : m.S.mg "enumerate" = none) (h : EV m ds e (.d (.list xs))) (hg : ∀ i, Gl (m.F i) "enumerate" := by intro _; rfl)
    (he : ∀ i, starEach [e] (m.F i).env = (false, eval e (m.F i).env) :: starEach [] (m.F i).env := by intro _; rfl) :
    IV m ds (.Tuple elts kk tpos) (.Call (.Name "enumerate" p) [e] [] pos) xs.length fun i => .tuple [.int i, xs.getD i .none] := fun σ H hr hs Q q => by
  refine wI_of (t := iEnum m.S.K (wA m.F [e])) (fun i => by rw [← ok.hK i]; exact pi_enum (hg i) (by rw [ok.hm i]; exact hm) (wA_ok i) (by rw [he i]; rfl)) (ea_one ok h he σ H hr hs _ fun vs H1 r1 q1 => ?_)
  obtain ⟨v, rfl, d⟩ := dqa1 q1
  obtain ⟨a, us, rfl, hq, hv⟩ := Dp.lst_inv d
  refine ⟨a, us, rfl, hq, q _ H1 (fun H => SqL m.S.K H a us) r1 (fun H2 r2 => ok.sl_ r2 hq) ?_⟩
  rw [← dpa_len hv]
  refine walk_enum.mono (fun _ z => z) fun i H v H' hi _ y => ?_
  obtain ⟨T, x, z, rfl, hT, rfl, e1, e2⟩ := y
  refine ⟨Ex.new hT, fun r => ?_⟩
  have r' : m.R H1 (upd H T (.tup [x, z])) := ok.trans r (ok.new hT)
  obtain ⟨b, hb, db⟩ := dpa_get' (ok.dpa r' hv) e2
  have e1' : V.int (i : Nat) = x := Option.some.inj e1
  show Dp m.S.K (upd H T (.tup [x, z])) (.ref T) (.tuple [.int i, xs.getD i .none])
  rw [List.getD_eq_getElem?_getD, hb]
  subst e1'
  exact .tup (SqT.of upd_same) (.cons (.int _) (.cons db .nil))
theorem iv_down (ok : m.Ok) {tg e f g : Expr} {hi lo : Int} {p : Pos} (hm : m.S.mg "range" = none) (h : EV m ds e (.d (.int hi))) (h' : EV m ds f (.d (.int lo))) (h'' : EV m ds g (.d (.int (-1)))) (hn : (-1000 ≤ lo ∧ lo ≤ 1000) ∧ -1000 ≤ hi ∧ hi ≤ 1000) (hg : ∀ i, Gl (m.F i) "range" := by intro _; rfl)
    (he : ∀ i, starEach [e, f, g] (m.F i).env = (false, eval e (m.F i).env) :: starEach [f, g] (m.F i).env := by intro _; rfl) (he2 : ∀ i, starEach [f, g] (m.F i).env = (false, eval f (m.F i).env) :: starEach [g] (m.F i).env := by intro _; rfl) (he3 : ∀ i, starEach [g] (m.F i).env = (false, eval g (m.F i).env) :: starEach [] (m.F i).env := by intro _; rfl) :
    IV m ds tg (.Call (.Name "range" p) [e, f, g] [] pos) (hi - lo).toNat fun i => .int (hi - i) := fun σ H hr hs Q q => by
  refine wI_of (t := iRng3 (wA m.F [e, f, g])) (fun i => pi_range3 (hg i) (by rw [ok.hm i]; exact hm) (wA_ok i) (he i) (by rw [he2 i, he3 i]; rfl)) (ea_cons ok h (ea_two ok h' h'' he2 he3) he σ H hr hs _ fun vs H1 r1 q1 => ?_)
  obtain ⟨v, v', v'', rfl, d, d', d''⟩ := dqa3 q1
  refine ⟨hi, lo, -1, (hi - lo).toNat, by rw [Dp.int_inv d, Dp.int_inv d', Dp.int_inv d''], RgC.neg (by omega) (by omega) (by omega) (by omega), q _ H1 (fun _ => True) r1 (fun _ _ => trivial) ?_⟩
  refine walk_rangeC.mono (fun _ z => z) fun i H v H' hi' _ y => ⟨by rw [y.1]; exact Ex.refl H, fun r => ?_⟩
  rw [y.2]
  show Dp m.S.K H' (.int (hi + (i : Nat) * -1)) (.int (hi - i))
  rw [show hi + (i : Int) * -1 = hi - i from by omega]
  exact .int _
/-- list(range(..)) -/
theorem dpa_ints {K : PySem.W.Frag} {H : Hp} (f : Nat → Int) : ∀ l : List Nat, DpAll K H (l.map fun i => V.int (f i)) (l.map fun i => PyData.int (f i))
  | [] => .nil
  | x :: l => .cons (.int _) (dpa_ints f l)
theorem ev_listRg (ok : m.Ok) {e : Expr} {n : Int} {p p2 pos2 : Pos} (hml : m.S.mg "list" = none) (hm : m.S.mg "range" = none) (h : EV m ds e (.d (.int n))) (hn : 0 ≤ n ∧ n ≤ 1000) (hgl : ∀ i, Gl (m.F i) "list" := by intro _; rfl) (hg : ∀ i, Gl (m.F i) "range" := by intro _; rfl)
    (he : ∀ i, starEach [e] (m.F i).env = (false, eval e (m.F i).env) :: starEach [] (m.F i).env := by intro _; rfl) (he2 : ∀ i, starEach [.Call (.Name "range" p2) [e] [] pos2] (m.F i).env = (false, eval (.Call (.Name "range" p2) [e] [] pos2) (m.F i).env) :: starEach [] (m.F i).env := by intro _; rfl) :
    EV m ds (.Call (.Name "list" p) [.Call (.Name "range" p2) [e] [] pos2] [] pos) (.l ((List.range n.toNat).map fun i : Nat => PyData.int (i : Int))) := fun σ H hr hs Q q => by
  refine wE_of (t := tLstRg (tRg1 (wE m.F e))) (fun i => pe_listRg (ok.calm i) (hgl i) (by rw [ok.hm i]; exact hml) (prg_1 (hg i) (by rw [ok.hm i]; exact hm) (wE_ok i) (he i)) (he2 i)) (h σ H hr hs _ fun v H1 r1 q1 => ?_)
  refine ⟨n, Dp.int_inv q1, RgOk.of_le (by omega) (by omega) (by omega) (by omega), fun l nl => q _ _ (ok.trans r1 (ok.new nl)) ⟨l, _, rfl, upd_same, ?_⟩⟩
  have z := dpa_ints (K := m.S.K) (H := upd H1 l (.lst (rgV 0 n))) (fun i => (i : Int)) (List.range n.toNat)
  have e1 : rgV 0 n = (List.range n.toNat).map fun i : Nat => V.int (i : Int) := by
    unfold rgV
    rw [Int.sub_zero]
    congr 1
    funext i
    rw [Int.zero_add]
  rw [← e1] at z
  exact z
end
end Gm
namespace Gm
open PySem PySem.Spec PyProof.Rows L2
set_option maxHeartbeats 800000
local macro_rules | `(tactic| walk_at "vis") => `(tactic| (intro _; first | exact Or.inl rfl | exact Or.inr (Or.inl rfl) | exact Or.inr (Or.inr rfl)))
local macro_rules | `(tactic| walk_at "var") => `(tactic| first
  | (refine' ev_var (by assumption) 0 rfl rfl ?vz; (case vz => walk_at "vis"))
  | (refine' ev_var (by assumption) 1 rfl rfl ?vz; (case vz => walk_at "vis"))
  | (refine' ev_var (by assumption) 2 rfl rfl ?vz; (case vz => walk_at "vis"))
  | (refine' ev_var (by assumption) 3 rfl rfl ?vz; (case vz => walk_at "vis"))
  | (refine' ev_var (by assumption) 4 rfl rfl ?vz; (case vz => walk_at "vis"))
  | (refine' ev_var (by assumption) 5 rfl rfl ?vz; (case vz => walk_at "vis"))
  | (refine' ev_var (by assumption) 6 rfl rfl ?vz; (case vz => walk_at "vis"))
  | (refine' ev_var (by assumption) 7 rfl rfl ?vz; (case vz => walk_at "vis"))
  | (refine' ev_var (by assumption) 8 rfl rfl ?vz; (case vz => walk_at "vis"))
  | (refine' ev_var (by assumption) 9 rfl rfl ?vz; (case vz => walk_at "vis"))
  | (refine' ev_var (by assumption) 10 rfl rfl ?vz; (case vz => walk_at "vis"))
  | (refine' ev_var (by assumption) 11 rfl rfl ?vz; (case vz => walk_at "vis"))
  | (refine' ev_var (by assumption) 12 rfl rfl ?vz; (case vz => walk_at "vis"))
  | (refine' ev_var (by assumption) 13 rfl rfl ?vz; (case vz => walk_at "vis"))
  | (refine' ev_var (by assumption) 14 rfl rfl ?vz; (case vz => walk_at "vis"))
  | (refine' ev_var (by assumption) 15 rfl rfl ?vz; (case vz => walk_at "vis"))
  | (refine' ev_var (by assumption) 16 rfl rfl ?vz; (case vz => walk_at "vis")))
local macro_rules | `(tactic| walk_at "side") => `(tactic| first | assumption | omega | (constructor <;> omega) | skip)
local macro_rules | `(tactic| walk_at "bk") => `(tactic| first
  | (refine' ev_bk (by assumption) (x := "low") (cl_Book (by assumption)) (na_Book_low (by assumption)) ?va (by assumption) (fun _ => rfl); (case va => walk_at "ev"))
  | (refine' ev_bk (by assumption) (x := "high") (cl_Book (by assumption)) (na_Book_high (by assumption)) ?va (by assumption) (fun _ => rfl); (case va => walk_at "ev"))
  | (refine' ev_bk (by assumption) (x := "fresh") (cl_Book (by assumption)) (na_Book_fresh (by assumption)) ?va (by assumption) (fun _ => rfl); (case va => walk_at "ev"))
  | (refine' ev_bk (by assumption) (x := "times") (cl_Book (by assumption)) (na_Book_times (by assumption)) ?va (by assumption) (fun _ => rfl); (case va => walk_at "ev"))
  | (refine' ev_bk (by assumption) (x := "bonus") (cl_Book (by assumption)) (na_Book_bonus (by assumption)) ?va (by assumption) (fun _ => rfl); (case va => walk_at "ev")))
local macro_rules | `(tactic| walk_at "ev") => `(tactic| first
  | exact ev_int (by assumption)
  | exact ev_str (by assumption)
  | exact ev_bl (by assumption)
  | exact ev_non (by assumption)
  | walk_at "var"
  | (refine' ev_add (by assumption) ?va ?vb; (case va => walk_at "ev"); (case vb => walk_at "ev"))
  | (refine' ev_sub (by assumption) ?va ?vb; (case va => walk_at "ev"); (case vb => walk_at "ev"))
  | (refine' ev_neg (by assumption) ?va; (case va => walk_at "ev"))
  | (refine' ev_mul (by assumption) ?va ?vb ?vc; (case va => walk_at "ev"); (case vb => walk_at "ev"); (case vc => walk_at "side"))
  | (refine' ev_div (by assumption) ?va ?vb ?vc; (case va => walk_at "ev"); (case vb => walk_at "ev"); (case vc => walk_at "side"))
  | (refine' ev_mod (by assumption) ?va ?vb ?vc; (case va => walk_at "ev"); (case vb => walk_at "ev"); (case vc => walk_at "side"))
  | (refine' ev_ixT (by assumption) ?va ?vb ?vc ?vd; (case va => walk_at "ev"); (case vb => walk_at "ev"); (case vc => rfl); (case vd => exact fun _ _ => rfl))
  | (refine' ev_tup2 (by assumption) ?va ?vb; (case va => walk_at "ev"); (case vb => walk_at "ev"))
  | (refine' ev_tup3 (by assumption) ?va ?vb ?vc; (case va => walk_at "ev"); (case vb => walk_at "ev"); (case vc => walk_at "ev"))
  | (refine' ev_lt (by assumption) ?va ?vb; (case va => walk_at "ev"); (case vb => walk_at "ev"))
  | (refine' ev_le (by assumption) ?va ?vb; (case va => walk_at "ev"); (case vb => walk_at "ev"))
  | (refine' ev_gt (by assumption) ?va ?vb; (case va => walk_at "ev"); (case vb => walk_at "ev"))
  | (refine' ev_ge (by assumption) ?va ?vb; (case va => walk_at "ev"); (case vb => walk_at "ev"))
  | (refine' ev_leLe (by assumption) ?va ?vb ?vc; (case va => walk_at "ev"); (case vb => walk_at "ev"); (case vc => walk_at "ev"))
  | (refine' ev_eqI (by assumption) ?va ?vb; (case va => walk_at "ev"); (case vb => walk_at "ev"))
  | (refine' ev_neI (by assumption) ?va ?vb; (case va => walk_at "ev"); (case vb => walk_at "ev"))
  | (refine' ev_eqS (by assumption) ?va ?vb; (case va => walk_at "ev"); (case vb => walk_at "ev"))
  | (refine' ev_isN (by assumption) ?va; (case va => walk_at "ev"))
  | (refine' ev_notN (by assumption) ?va; (case va => walk_at "ev"))
  | (refine' ev_not (by assumption) ?va; (case va => walk_at "ev"))
  | walk_at "bk")
local macro_rules | `(tactic| walk_at "tv") => `(tactic| first
  | (refine' tv_lt (by assumption) ?va ?vb; (case va => walk_at "ev"); (case vb => walk_at "ev"))
  | (refine' tv_le (by assumption) ?va ?vb; (case va => walk_at "ev"); (case vb => walk_at "ev"))
  | (refine' tv_gt (by assumption) ?va ?vb; (case va => walk_at "ev"); (case vb => walk_at "ev"))
  | (refine' tv_ge (by assumption) ?va ?vb; (case va => walk_at "ev"); (case vb => walk_at "ev"))
  | (refine' tv_leLe (by assumption) ?va ?vb ?vc; (case va => walk_at "ev"); (case vb => walk_at "ev"); (case vc => walk_at "ev"))
  | (refine' tv_eqI (by assumption) ?va ?vb; (case va => walk_at "ev"); (case vb => walk_at "ev"))
  | (refine' tv_neI (by assumption) ?va ?vb; (case va => walk_at "ev"); (case vb => walk_at "ev"))
  | (refine' tv_isN (by assumption) ?va; (case va => walk_at "ev"))
  | (refine' tv_notN (by assumption) ?va; (case va => walk_at "ev"))
  | (refine' tv_not (by assumption) ?va; (case va => walk_at "tv"))
  | (refine' tv_val (by assumption) ?va; (case va => walk_at "ev")))
local macro_rules | `(tactic| walk_at "isi") => `(tactic| first
  | (refine' ev_isiA (by assumption) (Tn := "tuple") (b_isinstance (by assumption)) (b_tuple (by assumption)) (by decide +kernel) (kit_ty (a := "tuple") (b := "tuple") (r := true) (by decide +kernel)) ?va ?vx; (case va => walk_at "ev"); (case vx => rfl))
  | (refine' ev_isiA (by assumption) (Tn := "int") (b_isinstance (by assumption)) (b_int (by assumption)) (by decide +kernel) (kit_ty (a := "int") (b := "int") (r := true) (by decide +kernel)) ?va ?vx; (case va => walk_at "ev"); (case vx => rfl))
  | (refine' ev_isiA (by assumption) (Tn := "bool") (b_isinstance (by assumption)) (b_bool (by assumption)) (by decide +kernel) (kit_ty (a := "int") (b := "bool") (r := false) (by decide +kernel)) ?va ?vx; (case va => walk_at "ev"); (case vx => rfl))
  | (refine' ev_isiA (by assumption) (Tn := "str") (b_isinstance (by assumption)) (b_str (by assumption)) (by decide +kernel) (kit_ty (a := "str") (b := "str") (r := true) (by decide +kernel)) ?va ?vx; (case va => walk_at "ev"); (case vx => rfl)))
/-! Rules: fields stored, instances made, texts in tuples, comprehensions of two clauses. -/
def Opq : HO → Prop
  | .ins _ _ _ => True
  | .ext _ => True
  | _ => False
section
variable {K : PySem.W.Frag} {H : Hp} {a : Addr} {o o' : HO}
theorem opq_lst {b : Addr} {xs : List V} (h : H a = some o) (ho : Opq o) (q : Rd H b (.lst xs)) : Rd (upd H a o') b (.lst xs) := by
  have ne : b ≠ a := by
    rintro rfl
    rcases q with q | ⟨z, q⟩
    · rw [h] at q; cases q; exact ho
    · rw [h] at q; cases q; exact ho
  rcases q with q | ⟨z, q⟩
  · exact .inl (by rw [upd_ne ne]; exact q)
  · exact .inr ⟨z, by rw [upd_ne ne]; exact q⟩
theorem opq_tup {b : Addr} {xs : List V} (h : H a = some o) (ho : Opq o) (q : Rd H b (.tup xs)) : Rd (upd H a o') b (.tup xs) := by
  have ne : b ≠ a := by
    rintro rfl
    rcases q with q | ⟨z, q⟩
    · rw [h] at q; cases q; exact ho
    · rw [h] at q; cases q; exact ho
  rcases q with q | ⟨z, q⟩
  · exact .inl (by rw [upd_ne ne]; exact q)
  · exact .inr ⟨z, by rw [upd_ne ne]; exact q⟩
theorem opq_sl {b : Addr} {xs : List V} (h : H a = some o) (ho : Opq o) (q : SqL K H b xs) : SqL K (upd H a o') b xs := by
  rcases q with q | q
  · exact .inl (opq_lst h ho q)
  · exact .inr q
theorem opq_st {b : Addr} {xs : List V} (h : H a = some o) (ho : Opq o) (q : SqT K H b xs) : SqT K (upd H a o') b xs := by
  rcases q with q | q
  · exact .inl (opq_tup h ho q)
  · exact .inr q
theorem opq_dp {v : V} {x : PyData} (h : H a = some o) (ho : Opq o) (q : Dp K H v x) : Dp K (upd H a o') v x := dp_of (fun _ _ => opq_sl h ho) (fun _ _ => opq_st h ho) q
theorem opq_dpa {vs : List V} {xs : List PyData} (h : H a = some o) (ho : Opq o) (q : DpAll K H vs xs) : DpAll K (upd H a o') vs xs := dpa_of (fun _ _ => opq_sl h ho) (fun _ _ => opq_st h ho) q
theorem opq_dq {v : V} {r : SV} (h : H a = some o) (ho : Opq o) (q : Dq K H v r) : Dq K (upd H a o') v r := by
  cases r with
  | d x => exact opq_dp h ho q
  | v w => exact q
  | l xs =>
    obtain ⟨b, vs, e, h1, h2⟩ := q
    refine ⟨b, vs, e, ?_, opq_dpa h ho h2⟩
    rw [upd_ne]
    · exact h1
    · rintro rfl
      rw [h] at h1
      cases h1
      exact ho
theorem opq_slots {σ : L2.St} {ds : Sd} (h : H a = some o) (ho : Opq o) (q : Sl K H σ ds) : Sl K (upd H a o') σ ds := ⟨q.1, fun i r e => let ⟨v, x, y⟩ := q.2 i r e; ⟨v, x, opq_dq h ho y⟩⟩
end
/-- all but a stays -/
def Exb (a : Addr) (H H' : Hp) : Prop := ∀ b o, b ≠ a → H b = some o → H' b = some o
theorem Exb.of {a : Addr} {H H' : Hp} (e : Ex H H') : Exb a H H' := fun b o _ h => e b o h
theorem Exb.trans {a : Addr} {H H1 H2 : Hp} (h : Exb a H H1) (h' : Exb a H1 H2) : Exb a H H2 := fun b o n e => h' b o n (h b o n e)
theorem Exb.upd {a : Addr} {H : Hp} {o : HO} : Exb a H (upd H a o) := fun b u n e => by rw [upd_ne n]; exact e
section
variable {ι : Type} {m : Mo ι} {ds : Sd} {pos : Pos}
/-- o.f = e -/
theorem bd_fld (ok : m.Ok) {C a dx : Addr} {f : Str} {fs : List (Str × V)} {o value : Expr} {r : SV} {rest : List Stmt} {D : Ends} {p' : Pos} (cl : Cls m.S.K C) (na : NoAttr m.S.K C f) (ho : EV m ds o (.v (.ref a))) (hv : EV m ds value r) (hi : ∀ H, m.R m.H0 H → H a = some (.ins C dx fs)) (hl : fs.length < 1000)
    (q : ∀ H y, m.R m.H0 H → Dq m.S.K H y r → H a = some (.ins C dx fs) → (m.at_ (upd H a (.ins C dx (putF f y fs)))).Ok → Dq m.S.K (upd H a (.ins C dx (putF f y fs))) y r → BD (m.at_ (upd H a (.ins C dx (putF f y fs)))) ds rest D)
    (hs : ∀ i, swapsWith value (some (.Attribute o f p')) pos.line (m.F i).env = pure false := by intro _; rfl) : BD m ds (.Assign [.Attribute o f p'] value pos :: rest) D := fun σ H hr hsl => by
  refine wSs_cons (wS_of (t := sFld m.S.K (wE m.F o) (wE m.F value) f) (fun i => by rw [← ok.hK i]; exact ps_fld (wE_ok i) (wE_ok i) (hs i)) ?_)
  refine hv σ H hr hsl _ fun y H1 r1 d1 => ho σ H1 (ok.trans hr r1) (ok.sl r1 hsl) _ fun x H2 r2 d2 => ?_
  have r02 := ok.trans hr (ok.trans r1 r2)
  have h2 := hi H2 r02
  have dy := ok.dq r2 d1
  refine ⟨a, C, dx, fs, d2, h2, cl, na, hl, ?_⟩
  exact q H2 y r02 dy h2 (ok.at_ _) (opq_dq h2 trivial dy) σ _ (ok.refl _) (opq_slots h2 trivial (ok.sl (ok.trans r1 r2) hsl))
/-! #### instances made -/
structure MakeOk (P : Program) (w : World) (K : PySem.W.Frag) (mg : Str → Option Value) (base : Heap) (x : Str) (C : Addr) (k : Nat) (sp : Sp) (dvs : List V) : Prop where
  ex : ∃ f fd ps ds, Mk K C f ∧ FnOk P w K mg base CX0 k f fd ps sp ∧ mg x = some (.ref C) ∧ Binds K fd ps ds ∧ Vals dvs ds
/-- the promise of an __init__ -/
def SpInit (K : PySem.W.Frag) (C : Addr) (pre : List SV → Hp → Prop) (post : Hp → List SV → Addr → Addr → Hp → Prop) : Sp := fun vs H Q _ => ∃ a dx ws rs, vs = .ref a :: ws ∧ H a = some (.ins C dx []) ∧ DqAll K H ws rs ∧ pre rs H ∧ ∀ H', Exb a H H' → post H rs a dx H' → Q .non H'
theorem dqa_app {K : PySem.W.Frag} {H : Hp} : ∀ {vs : List V} {rs : List SV} {vs' : List V} {rs' : List SV}, DqAll K H vs rs → DqAll K H vs' rs' → DqAll K H (vs ++ vs') (rs ++ rs')
  | _, _, _, _, .nil, q => q
  | _, _, _, _, .cons a t, q => .cons a (dqa_app t q)
/-- C(e, ..), the defaults behind -/
theorem ex_make (ok : m.Ok) {x : Str} {C : Addr} {k : Nat} {pre : List SV → Hp → Prop} {post : Hp → List SV → Addr → Addr → Hp → Prop} {dvs : List V} {rs2 : List SV} (c : MakeOk m.S.P m.S.w m.S.K m.S.mg m.S.base x C k (SpInit m.S.K C pre post) dvs) (hk : k + 1 ≤ m.k) {e : Expr} {es : List Expr} {rs : List SV} {p : Pos} (ha : EA m ds (e :: es) rs)
    (h2 : ∀ H, DqAll m.S.K H dvs rs2) (hst : ∀ H H', Ex H H' → pre (rs ++ rs2) H → pre (rs ++ rs2) H') (hpre : ∀ H, m.R m.H0 H → pre (rs ++ rs2) H)
    (hg : ∀ i, Gl (m.F i) x := by intro _; rfl) (hdb : (x == ("__debug__" : Str)) = false := by decide)
    (he : ∀ i, starEach (e :: es) (m.F i).env = (false, eval e (m.F i).env) :: starEach es (m.F i).env := by intro _; rfl) (hpl : ∀ i, (backTo pos (starEach es (m.F i).env)).any (·.1) = false := by intro _; rfl) :
    EX m ds (.Call (.Name x p) (e :: es) [] pos) (fun v H => ∃ a dx Hs, v = .ref a ∧ m.R m.H0 Hs ∧ post Hs (rs ++ rs2) a dx H) := fun σ H hr hs Q q => by
  obtain ⟨f, fd, ps, ds', M, F, hm, b, hd⟩ := c.ex
  refine wE_of (t := tMake C (SpInit m.S.K C pre post) dvs E0 (wA m.F (e :: es))) (fun i => pe_make (by rw [ok.hK i]; exact M) (by rw [ok.hp i, ok.hw i, ok.hK i, ok.hm i, ok.hb i]; exact F) ((ok.room i).mono hk) (hg i) (by rw [ok.hm i]; exact hm) (by rw [ok.hK i]; exact b) hd pass0 (wA_ok i) hdb (he i) (hpl i)) ?_
  refine ha σ H hr hs _ fun vs H1 r1 d1 a dx na nd ne => ?_
  have e1 : Ex H1 (upd (upd H1 dx (.own a)) a (.ins C dx [])) := (Ex.new nd).trans (Ex.new (by rw [upd_ne (Ne.symm ne)]; exact na))
  refine ⟨a, dx, vs ++ dvs, rs ++ rs2, rfl, upd_same, dqa_app (ok.dqs (ok.ex e1) d1) (h2 _), hst _ _ e1 (hpre H1 (ok.trans hr r1)), fun H' e' hp => ⟨rfl, ?_⟩⟩
  have e2 : Ex H1 H' := fun b o hb => e' b o (ne_of_none hb na) (e1 b o hb)
  exact q _ H' (ok.trans r1 (ok.ex e2)) ⟨a, dx, _, rfl, ok.trans hr (ok.trans r1 (ok.ex e1)), hp⟩
section
variable {P : Program} {w : World} {K : PySem.W.Frag} {mg : Str → Option Value} {base : Heap} {x qual : Str} {params : Arguments} {body : List Stmt} {scope : Scope} {dvs : List V} {kws : List (Str × V)} {f : Addr} {fd : FuncData} {N ps : List Str} {k : Nat}
/-- an __init__, by its body -/
theorem fn_init {C : Addr} {pre : List SV → Hp → Prop} {post : Hp → List SV → Addr → Addr → Hp → Prop} (F : FunD K x qual params body scope dvs kws f fd) (S : FnScope N ps scope) (len : ∀ rs H, pre rs H → rs.length + 1 = ps.length)
    (h : ∀ (cdv : Value) (A : Around) (outer : List Env) (s : Shared) (H : Hp) (E : XK) (Q : VK) (rs : List SV) (a dx : Addr), Room k (A.deeper (envOfC qual scope s.heap.objs.size f cdv)) → pre rs H → H a = some (.ins C dx []) → (bodyMo P w K mg base N qual scope f cdv A outer s H E Ex k).Ok → (∀ H', Exb a H H' → post H rs a dx H' → Q .non H') →
      BD (bodyMo P w K mg base N qual scope f cdv A outer s H E Ex k) (startD N (.v (.ref a) :: rs)) body { nx := fun _ H' => Q .non H', rt := Q }) : FnOk P w K mg base CX0 (k + 1) f fd ps (SpInit K C pre post) :=
  fn_ok F S (fun vs H Q E ⟨a, dx, ws, rs, e, _, d, p, _⟩ => by rw [e, List.length_cons, DqAll.length d]; exact len rs H p) fun cdv A outer s H vs Q E hr ⟨a, dx, ws, rs, e, hi, d, p, hQ⟩ => by
    subst e
    exact h cdv A outer s H E Q rs a dx hr p hi (body_ok (kp_ex K) S hr) hQ (L2.start N (.ref a :: ws)) H (Ex.refl H) (start_sl (show DqAll K H (V.ref a :: ws) _ from .cons rfl d))
end
end
/-! #### x in a tuple of texts -/
theorem dpa_strs {K : PySem.W.Frag} {H : Hp} : ∀ {ss : List Str} {vs : List V}, DpAll K H vs (ss.map PyData.str) → vs = ss.map V.str
  | [], _, h => by cases h; rfl
  | x :: ss, _, h => by
    cases h with
    | cons d t =>
      obtain rfl := Dp.str_inv d
      rw [dpa_strs t]
      rfl
theorem inV_strs (z : Str) : ∀ ss : List Str, inV (.str z) (ss.map V.str) = decide (z ∈ ss)
  | [] => rfl
  | x :: ss => by
    have ih := inV_strs z ss
    unfold inV at ih ⊢
    rw [List.map_cons, List.any_cons, ih]
    show ((x == z) || decide (z ∈ ss)) = _
    by_cases e : x = z
    · subst e
      simp
    · have e' : ¬ z = x := fun h => e h.symm
      rw [beq_eq_false_iff_ne.mpr e, Bool.false_or]
      congr 1
      simp [e']
section
variable {ι : Type} {m : Mo ι} {ds : Sd} {pos : Pos}
theorem ev_inS (ok : m.Ok) {e o : Expr} {z : Str} {ss : List Str} (he : EV m ds e (.d (.str z))) (ho : EV m ds o (.d (.tuple (ss.map PyData.str)))) (hmk : behindInMarks .In o = false := by rfl) : EV m ds (.Compare e [.In] [o] pos) (.d (.bool (decide (z ∈ ss)))) := fun σ H hr hs Q q => by
  refine wE_cmp ok (op := .In) (r := rIn m.S.K false) (fun i => by rw [← ok.hK i]; exact op_in_seq) hmk (he σ H hr hs _ fun v H1 r1 d1 => ho σ H1 (ok.trans hr r1) (ok.sl r1 hs) _ fun u H2 r2 d2 => ?_)
  obtain rfl := Dp.str_inv d1
  obtain ⟨p, vs, rfl, hq, dv⟩ := Dp.tup_inv d2
  obtain rfl := dpa_strs dv
  refine ⟨p, _, rfl, .inr hq, rfl, ?_, ?_⟩
  · rw [List.all_map]
    exact List.all_eq_true.mpr fun _ _ => rfl
  · show Q (V.bl (inV (.str z) (ss.map V.str))) H2
    rw [inV_strs]
    exact q _ H2 (ok.trans r1 r2) (.bl _)
/-- t.index(x), t a tuple of the module -/
theorem ev_kIx (ok : m.Ok) {t e : Expr} {a : Addr} {ap : Pos} (ss : List Str) {z : Str} (j : Nat) (ht : EV m ds t (.v (.ref a))) (hk : ∃ o, m.S.K.lookup a = some o ∧ o.cls = .type "tuple" ∧ o.dict = none) (hq : ∀ H, SqT m.S.K H a (ss.map V.str)) (hb : EV m ds e (.d (.str z))) (hj : ss[j]? = some z) (hn : ∀ l, l < j → ss[l]? ≠ some z)
    (hbase : ∀ i, attributeBase t "index" (m.F i).env (eval t (m.F i).env) = eval t (m.F i).env := by intro _; rfl)
    (hfew : ∀ i, ((backTo pos (starEach [e] (m.F i).env)).all (fun x => !x.1) && (backToKw pos (keywordEach [] (m.F i).env)).all (fun x => x.1.isSome) && decide ([e].length + ([] : List Keyword).length + (if ([] : List Keyword).isEmpty then 0 else 1) < 30)) = true := by intro _; rfl)
    (hline : (ap.endLine == pos.line) = true := by rfl) (hs : ∀ i, starEach [e] (m.F i).env = (false, eval e (m.F i).env) :: starEach [] (m.F i).env := by intro _; rfl) (hplain : ∀ i, (backTo pos (starEach [] (m.F i).env)).any (·.1) = false := by intro _; rfl) :
    EV m ds (.Call (.Attribute t "index" ap) [e] [] pos) (.d (.int (j : Nat))) := fun σ H hr hl' Q q => by
  refine wE_of (t := tBM m.S.K "tuple" (fun x xs H Q => ∃ p, ∃ ys : List Str, ∃ z j, x = .ref p ∧ xs = [.str z] ∧ SqT m.S.K H p (ys.map V.str) ∧ ys[j]? = some z ∧ (∀ m, m < j → ys[m]? ≠ some z) ∧ Q (.int (j : Nat)) H) (wE m.F t) (wA m.F [e]))
    (fun i => by rw [← ok.hK i]; exact pe_bm (es := []) PySem.F.plainAttrs_tuple PySem.F.slot_tuple_index PySem.F.type_tuple_index mt_tup_index (wE_ok i) (wA_ok i) (hbase i) (hfew i) hline (hs i) (hplain i)) ?_
  refine ht σ H hr hl' _ fun v H1 r1 d1 => ?_
  obtain rfl : v = V.ref a := d1
  obtain ⟨o, k1, k2, k3⟩ := hk
  refine ⟨.inr (.inl ⟨rfl, o, k1, k2, k3⟩), ea_one ok hb hs σ H1 (ok.trans hr r1) (ok.sl r1 hl') _ fun ys H2 r2 d2 => ?_⟩
  obtain ⟨y, rfl, d⟩ := dqa1 d2
  obtain rfl := Dp.str_inv d
  exact ⟨a, ss, z, j, rfl, rfl, hq H2, hj, hn, q _ H2 (ok.trans r1 r2) (.int _)⟩
/-- l.index(x), texts -/
theorem ev_lIx (ok : m.Ok) {t e : Expr} {ap : Pos} (ss : List Str) {z : Str} (j : Nat) (ht : EV m ds t (.d (.list (ss.map PyData.str)))) (hb : EV m ds e (.d (.str z))) (hj : ss[j]? = some z) (hn : ∀ l, l < j → ss[l]? ≠ some z)
    (hbase : ∀ i, attributeBase t "index" (m.F i).env (eval t (m.F i).env) = eval t (m.F i).env := by intro _; rfl)
    (hfew : ∀ i, ((backTo pos (starEach [e] (m.F i).env)).all (fun x => !x.1) && (backToKw pos (keywordEach [] (m.F i).env)).all (fun x => x.1.isSome) && decide ([e].length + ([] : List Keyword).length + (if ([] : List Keyword).isEmpty then 0 else 1) < 30)) = true := by intro _; rfl)
    (hline : (ap.endLine == pos.line) = true := by rfl) (hs : ∀ i, starEach [e] (m.F i).env = (false, eval e (m.F i).env) :: starEach [] (m.F i).env := by intro _; rfl) (hplain : ∀ i, (backTo pos (starEach [] (m.F i).env)).any (·.1) = false := by intro _; rfl) :
    EV m ds (.Call (.Attribute t "index" ap) [e] [] pos) (.d (.int (j : Nat))) := fun σ H hr hl' Q q => by
  refine wE_of (t := tBM m.S.K "list" (rIndex m.S.K) (wE m.F t) (wA m.F [e])) (fun i => by rw [← ok.hK i]; exact pe_bm (es := []) PySem.F.plainAttrs_list PySem.F.slot_list_index PySem.F.type_list_index mt_index (wE_ok i) (wA_ok i) (hbase i) (hfew i) hline (hs i) (hplain i)) ?_
  refine ht σ H hr hl' _ fun v H1 r1 d1 => ?_
  obtain ⟨a, vs, rfl, hq, dv⟩ := Dp.lst_inv d1
  obtain rfl := dpa_strs dv
  refine ⟨.inl ⟨rfl, _, hq⟩, ea_one ok hb hs σ H1 (ok.trans hr r1) (ok.sl r1 hl') _ fun ys H2 r2 d2 => ?_⟩
  obtain ⟨y, rfl, d⟩ := dqa1 d2
  obtain rfl := Dp.str_inv d
  refine ⟨a, _, .str z, j, .str z, rfl, rfl, ok.sl_ r2 hq, rfl, ?_, ?_, ?_, fun l z' hl hz => ?_, q _ H2 (ok.trans r1 r2) (.int _)⟩
  · rw [List.all_map]
    exact List.all_eq_true.mpr fun _ _ => rfl
  · rw [List.getElem?_map, hj]; rfl
  · exact beq_self_eq_true z
  · rw [List.getElem?_map] at hz
    cases e1 : ss[l]? with
    | none => rw [e1] at hz; cases hz
    | some y =>
      rw [e1] at hz
      obtain rfl : V.str y = z' := Option.some.inj hz
      exact beq_eq_false_iff_ne.mpr fun e2 => hn l hl (by rw [e1, e2])
end
/-! Comprehensions of two clauses; zip of a tuple and a list. -/
/-- both clauses' turns, one behind another -/
def all2 {α : Type} (g : Nat → Nat → α) (n1 : Nat) : Nat → List α
  | 0 => []
  | n + 1 => all2 g n1 n ++ (List.range n1).map (g n)
theorem all2_map {α β : Type} (f : α → β) (g : Nat → Nat → α) (n1 : Nat) : ∀ n, (all2 g n1 n).map f = all2 (fun i j => f (g i j)) n1 n
  | 0 => rfl
  | n + 1 => by
    show (all2 g n1 n ++ (List.range n1).map (g n)).map f = all2 (fun i j => f (g i j)) n1 n ++ _
    rw [List.map_append, all2_map f g n1 n, List.map_map]
    rfl
theorem mem_all2 {α : Type} {g : Nat → Nat → α} {n1 : Nat} {x : α} : ∀ {n : Nat}, x ∈ all2 g n1 n ↔ ∃ i j, i < n ∧ j < n1 ∧ x = g i j
  | 0 => ⟨fun h => (nomatch h), fun ⟨_, _, h, _⟩ => by omega⟩
  | n + 1 => by
    show x ∈ all2 g n1 n ++ (List.range n1).map (g n) ↔ _
    rw [List.mem_append, mem_all2]
    constructor
    · rintro (⟨i, j, h1, h2, h3⟩ | h)
      · exact ⟨i, j, by omega, h2, h3⟩
      · obtain ⟨j, hj, rfl⟩ := List.mem_map.mp h
        exact ⟨n, j, by omega, List.mem_range.mp hj, rfl⟩
    · rintro ⟨i, j, h1, h2, rfl⟩
      by_cases e : i = n
      · subst e
        exact .inr (List.mem_map.mpr ⟨j, List.mem_range.mpr h2, rfl⟩)
      · exact .inl ⟨i, j, by omega, h2, rfl⟩
theorem all2_len {α : Type} (g : Nat → Nat → α) (n1 : Nat) : ∀ n, (all2 g n1 n).length = n * n1
  | 0 => by simp [all2]
  | n + 1 => by
    show (all2 g n1 n ++ (List.range n1).map (g n)).length = _
    rw [List.length_append, all2_len g n1 n, List.length_map, List.length_range, Nat.succ_mul]
theorem noLs_app : ∀ {xs ys : List PyData}, noL.noLs xs = true → noL.noLs ys = true → noL.noLs (xs ++ ys) = true
  | [], _, _, h => h
  | x :: xs, ys, h, h' => by
    have z : (noL x && noL.noLs xs) = true := h
    rw [Bool.and_eq_true] at z
    show (noL x && noL.noLs (xs ++ ys)) = true
    rw [z.1, noLs_app z.2 h']
    rfl
theorem noLs_of {xs : List PyData} (h : ∀ x ∈ xs, noL x = true) : noL.noLs xs = true := by
  induction xs with
  | nil => rfl
  | cons x xs ih =>
    show (noL x && noL.noLs xs) = true
    rw [h x List.mem_cons_self, ih fun y hy => h y (List.mem_cons_of_mem _ hy)]
    rfl
theorem noLs_mem {xs : List PyData} (h : noL.noLs xs = true) : ∀ x ∈ xs, noL x = true := by
  induction xs with
  | nil => exact fun _ z => nomatch z
  | cons y xs ih =>
    have z : (noL y && noL.noLs xs) = true := h
    rw [Bool.and_eq_true] at z
    intro x hx
    rcases List.mem_cons.mp hx with rfl | hx
    · exact z.1
    · exact ih z.2 x hx
theorem all2_noL {g : Nat → Nat → PyData} {n1 : Nat} : ∀ n, (∀ i j, i < n → j < n1 → noL (g i j) = true) → noL.noLs (all2 g n1 n) = true
  | 0, _ => rfl
  | n + 1, h => noLs_app (all2_noL n fun i j hi hj => h i j (by omega) hj) (noLs_of fun x hx => by
    obtain ⟨j, hj, rfl⟩ := List.mem_map.mp hx
    exact h n j (by omega) (List.mem_range.mp hj))
theorem sl_upd_ne {K : PySem.W.Frag} {H : Hp} {a D : Addr} {o : HO} {xs : List V} (ne : a ≠ D) (q : SqL K H a xs) : SqL K (upd H D o) a xs := by
  rcases q with (q | ⟨z, q⟩) | q
  · exact .inl (.inl (by rw [upd_ne ne]; exact q))
  · exact .inl (.inr ⟨z, by rw [upd_ne ne]; exact q⟩)
  · exact .inr q
section
variable {ι : Type} {m : Mo ι} {ds : Sd} {pos : Pos}
/-- the reading of [elt for x in iter for y in iter1], iter1 a list -/
theorem lc22_t (ok : m.Ok) (hfr : ∀ H D, m.R m.H0 H → H D = none → m.H0 D = none) (j l : Nat) {x y : Str} {elt iter iter1 : Expr} {scope : Scope} {n : Nat} {Y : Nat → PyData} (ys : List PyData) (g : Nat → Nat → PyData) {p py : Pos} (hx : m.S.N[j]? = some x) (hy : m.S.N[l]? = some y) (hjl : j ≠ l) (hi : IV m ds (.Name x p) iter n Y) (hz : n ≤ 100) (hz1 : ys.length ≤ 100) (hys : noL.noLs ys = true) (hY : ∀ i, i < n → noL (Y i) = true)
    (hi1 : ∀ H1, m.R m.H0 H1 → ((m.blk scope).at_ H1).Ok → ∀ i, i < n → ∀ σ H3 D, H1 D = none → (∃ acc, H3 D = some (.lst acc)) → m.R H1 H3 → Sl m.S.K H1 (σ.set j none) (((ds.set l none).set j none).set j none) → Sl m.S.K H3 σ (((ds.set l none).set j none).set j (some (.d (Y i)))) → ∀ Q : VK, (∀ a vs H4, m.R H3 H4 → a ≠ D → SqL m.S.K H4 a vs → DpAll m.S.K H4 vs ys → Q (.ref a) H4) → wE (m.blk scope).F iter1 σ H3 Q)
    (ht : ∀ H1, m.R m.H0 H1 → ((m.blk scope).at_ H1).Ok → ∀ i k z, i < n → ys[k]? = some z → EV ((m.blk scope).at_ H1) ((((ds.set l none).set j none).set j (some (.d (Y i)))).set l (some (.d z))) elt (.d (g i k)) ∧ noL (g i k) = true)
    (hb : ∀ i, blkC m.S.N (m.F i).env.scope scope [(x, j), (y, l)] = true := by intro _; kernel_rfl)
    (hl : ∀ z, Loc ((m.blk scope).F z).env.scope x := by intro _; first | exact Or.inl rfl | exact Or.inr rfl) (hly : ∀ z, Loc ((m.blk scope).F z).env.scope y := by intro _; first | exact Or.inl rfl | exact Or.inr rfl)
    (hfn : ∀ z, ((m.blk scope).F z).fn x = true ∨ ((m.blk scope).F z).env.scope.names.lookup x = some .local := by intro _; first | exact Or.inl rfl | exact Or.inr rfl) (hfny : ∀ z, ((m.blk scope).F z).fn y = true ∨ ((m.blk scope).F z).env.scope.names.lookup y = some .local := by intro _; first | exact Or.inl rfl | exact Or.inr rfl)
    (hfs : ∀ i, ∀ x, foldedSetIterable iter (m.F i).env x = pure x := by intro _ _; rfl) (hfs1 : ∀ env x, foldedSetIterable iter1 env x = pure x := by intro _ _; rfl) : ∀ σ H, m.R m.H0 H → Sl m.S.K H σ ds → ∀ Q : VK, (∀ v H2, m.R H H2 → Dq m.S.K H2 v (.l (all2 g ys.length n)) ∧ (∃ D, v = .ref D ∧ m.H0 D = none) → Q v H2) → tLc2 (wI m.F (.Name x p) iter) (wG (m.blk scope).F (.Name x p)) (wP (m.blk scope).F []) (iList m.S.K (wE (m.blk scope).F iter1)) (wG (m.blk scope).F (.Name y py)) (wP (m.blk scope).F []) (wE (m.blk scope).F elt) ([(x, j), (y, l)].map (·.2)) [l] σ H Q := fun σ H hr hs Q q => by
  have okb : ∀ H1, ((m.blk scope).at_ H1).Ok := fun H1 => (ok.blk scope).at_ H1
  refine hi σ H hr hs _ fun J H1 G r1 hG w D nD => ?_
  have r01 := ok.trans hr r1
  have wi : Sl m.S.K H1 ((σ.set l none).set j none) ((ds.set l none).set j none) := ((ok.sl r1 hs).none l).none j
  refine ⟨fun i k H' => k = n - i ∧ i ≤ n ∧ m.R H1 H' ∧ ∃ acc, H' D = some (.lst acc) ∧ DpAll m.S.K H' acc (all2 g ys.length i), ⟨n, by simp, Nat.zero_le _, ok.new nD, [], upd_same, .nil⟩, ?_⟩
  rintro i k H' ⟨rfl, hin, k1, acc, k2, k3⟩
  by_cases hlt : i < n
  case neg =>
    have e : i = n := by omega
    subst e
    exact .inl ⟨w.stops H' (hG H' k1), q _ H' (ok.trans r1 k1) ⟨⟨D, acc, rfl, k2, k3⟩, D, rfl, hfr H1 D r01 nD⟩⟩
  refine .inr ⟨w.goes i H' hlt (hG H' k1), fun H'' => m.R H1 H'' ∧ ∃ acc, H'' D = some (.lst acc) ∧ DpAll m.S.K H'' acc (all2 g ys.length (i + 1)), fun H'' ⟨z1, z2⟩ => ⟨n - (i + 1), by omega, rfl, hlt, z1, z2⟩, fun v H2 hv => ?_⟩
  obtain ⟨e1, dv⟩ := w.yields i H' v H2 hlt (hG H' k1) hv
  have k1' := ok.trans k1 (ok.ex e1)
  have nd2 : ∀ i j, i < n → j < ys.length → noL (g i j) = true := fun i j hi hj => (ht H1 r01 (okb H1) i j _ hi (List.getElem?_eq_getElem hj)).2
  refine wG_name (ok.blk scope) j hx ?_ hl hfn
  refine ⟨?_, ?_⟩
  · show ((((σ.set l none).set j none).set j (some v)).set l none).set j none = (σ.set l none).set j none
    rw [List.set_set, List.set_comm _ _ hjl, List.set_set, List.set_set]
  refine pv_nil (okb H1) _ H2 k1' ((ok.sl k1' wi).set (r := .d (Y i)) j (dv k1)) _ fun H3 r3 => ?_
  rw [if_pos rfl]
  have k3r := ok.trans k1' r3
  have s3 : Sl m.S.K H3 (((σ.set l none).set j none).set j (some v)) (((ds.set l none).set j none).set j (some (.d (Y i)))) := ok.sl r3 ((ok.sl k1' wi).set (r := .d (Y i)) j (dv k1))
  have e3 : H3 D = some (.lst acc) := ok.lk r3 (e1 _ _ k2)
  refine hi1 H1 r01 (okb H1) i hlt _ H3 D nD ⟨acc, e3⟩ k3r (by rw [List.set_set, List.set_set]; rw [List.set_set]; exact wi) s3 _ fun a vs H4 r4 ne hq hd => ?_
  have k4 := ok.trans k3r r4
  have e4 : H4 D = some (.lst acc) := ok.lk r4 e3
  have d4 : DpAll m.S.K H4 acc (all2 g ys.length i) := ok.dpa (ok.trans (ok.ex e1) (ok.trans r3 r4)) k3
  have s4 := ok.sl r4 s3
  refine ⟨a, rfl, ⟨vs, hq⟩, fun jj kk H' => kk = ys.length - jj ∧ jj ≤ ys.length ∧ m.R H1 H' ∧ Dp m.S.K H' v (Y i) ∧ SqL m.S.K H' a vs ∧ DpAll m.S.K H' vs ys ∧ ∃ acc, H' D = some (.lst acc) ∧ DpAll m.S.K H' acc (all2 g ys.length i ++ (List.range jj).map (g i)), ⟨ys.length, by simp, Nat.zero_le _, k4, ok.dp (ok.trans r3 r4) (dv k1), hq, hd, acc, e4, by simpa using d4⟩, ?_⟩
  have wl := walk_list (K := m.S.K) (a := a) (xs := vs)
  have hlen := dpa_len hd
  rintro jj kk H5 ⟨rfl, hjj, k5, v5, q5, d5, acc5, e5, a5⟩
  by_cases hlt1 : jj < ys.length
  case neg =>
    have e : jj = ys.length := by omega
    subst e
    have st := wl.stops H5 q5
    rw [hlen] at st
    exact .inl ⟨st, k5, acc5, e5, a5⟩
  refine .inr ⟨wl.goes jj H5 (by omega) q5, fun H'' => m.R H1 H'' ∧ Dp m.S.K H'' v (Y i) ∧ SqL m.S.K H'' a vs ∧ DpAll m.S.K H'' vs ys ∧ ∃ acc, H'' D = some (.lst acc) ∧ DpAll m.S.K H'' acc (all2 g ys.length i ++ (List.range (jj + 1)).map (g i)), fun H'' z => ⟨ys.length - (jj + 1), by omega, rfl, hlt1, z⟩, fun u H6 hu => ?_⟩
  obtain ⟨e6, hu2⟩ := wl.yields jj H5 u H6 (by omega) q5 hu
  have e6' : H5 = H6 := e6.symm
  subst e6'
  obtain ⟨z, hz', dz⟩ := dpa_get' d5 hu2
  have s5 : Sl m.S.K H5 (((σ.set l none).set j none).set j (some v)) (((ds.set l none).set j none).set j (some (.d (Y i)))) := (ok.sl k5 wi).set (r := .d (Y i)) j v5
  refine wG_name (ok.blk scope) l hy ?_ hly hfny
  refine ⟨?_, ?_⟩
  · show (((((σ.set l none).set j none).set j (some v)).set l none).set l (some u)).set l none = (((σ.set l none).set j none).set j (some v)).set l none
    rw [List.set_set, List.set_set]
  have hw : wipe (((σ.set l none).set j none).set j (some v)) [l] = ((σ.set l none).set j none).set j (some v) := by
    show (((σ.set l none).set j none).set j (some v)).set l none = _
    rw [List.set_set, List.set_comm _ _ hjl, List.set_set]
  obtain ⟨g1, g2⟩ := ht H1 r01 (okb H1) i jj z hlt hz'
  have s6 : Sl m.S.K H5 ((((σ.set l none).set j none).set j (some v)).set l (some u)) ((((ds.set l none).set j none).set j (some (.d (Y i)))).set l (some (.d z))) := s5.set (r := .d z) l dz
  have hw2 : (wipe ((wipe σ ([(x, j), (y, l)].map (·.2))).set j (some v)) [l]).set l (some u) = (((σ.set l none).set j none).set j (some v)).set l (some u) := congrArg (fun q : L2.St => q.set l (some u)) hw
  rw [hw2]
  refine pv_nil (okb H1) _ H5 k5 s6 _ fun H6 r6 => ?_
  rw [if_pos rfl]
  refine g1 _ H6 (ok.trans k5 r6) (ok.sl r6 s6) _ fun w7 H7 r7 d7 => ?_
  have r57 := ok.trans r6 r7
  have e7' : H7 D = some (.lst acc5) := ok.lk r57 e5
  have a7 := ok.dpa r57 a5
  have ln : noL.noLs (all2 g ys.length i ++ (List.range jj).map (g i)) = true := noLs_app (all2_noL i fun a b ha hb => nd2 a b (by omega) hb) (noLs_of fun x hx => by
    obtain ⟨b, hb, rfl⟩ := List.mem_map.mp hx
    exact nd2 i b hlt (by have := List.mem_range.mp hb; omega))
  refine ⟨acc5, e7', ?_, ok.mt_ (ok.trans k5 r57) nD e7', dp_noL (sqt_lst e7') (ok.dp r57 v5) (hY i hlt), sl_upd_ne ne (ok.sl_ r57 q5), dpa_noL (sqt_lst e7') (ok.dpa r57 d5) hys, acc5 ++ [w7], upd_same, ?_⟩
  · rw [dpa_len a5, List.length_append, all2_len, List.length_map, List.length_range]
    have h1 : i * ys.length ≤ 100 * 100 := Nat.mul_le_mul (by omega) hz1
    exact Nat.lt_of_lt_of_le (show i * ys.length + jj < 20000 by omega) (by decide)
  · rw [List.range_succ, List.map_append, ← List.append_assoc]
    exact dpa_snoc (dpa_noL (sqt_lst e7') a7 ln) (dp_noL (sqt_lst e7') d7 g2)
/-- as a value -/
theorem ex_lc22 (ok : m.Ok) (hfr : ∀ H D, m.R m.H0 H → H D = none → m.H0 D = none) (j l : Nat) {x y : Str} {elt iter iter1 : Expr} {scope : Scope} {n : Nat} {Y : Nat → PyData} (ys : List PyData) (g : Nat → Nat → PyData) {p py : Pos} (hx : m.S.N[j]? = some x) (hy : m.S.N[l]? = some y) (hjl : j ≠ l) (hi : IV m ds (.Name x p) iter n Y) (hz : n ≤ 100) (hz1 : ys.length ≤ 100) (hys : noL.noLs ys = true) (hY : ∀ i, i < n → noL (Y i) = true)
    (hi1 : ∀ H1, m.R m.H0 H1 → ((m.blk scope).at_ H1).Ok → ∀ i, i < n → ∀ σ H3 D, H1 D = none → (∃ acc, H3 D = some (.lst acc)) → m.R H1 H3 → Sl m.S.K H1 (σ.set j none) (((ds.set l none).set j none).set j none) → Sl m.S.K H3 σ (((ds.set l none).set j none).set j (some (.d (Y i)))) → ∀ Q : VK, (∀ a vs H4, m.R H3 H4 → a ≠ D → SqL m.S.K H4 a vs → DpAll m.S.K H4 vs ys → Q (.ref a) H4) → wE (m.blk scope).F iter1 σ H3 Q)
    (ht : ∀ H1, m.R m.H0 H1 → ((m.blk scope).at_ H1).Ok → ∀ i k z, i < n → ys[k]? = some z → EV ((m.blk scope).at_ H1) ((((ds.set l none).set j none).set j (some (.d (Y i)))).set l (some (.d z))) elt (.d (g i k)) ∧ noL (g i k) = true)
    (hb : ∀ i, blkC m.S.N (m.F i).env.scope scope [(x, j), (y, l)] = true := by intro _; kernel_rfl)
    (hl : ∀ z, Loc ((m.blk scope).F z).env.scope x := by intro _; first | exact Or.inl rfl | exact Or.inr rfl) (hly : ∀ z, Loc ((m.blk scope).F z).env.scope y := by intro _; first | exact Or.inl rfl | exact Or.inr rfl)
    (hfn : ∀ z, ((m.blk scope).F z).fn x = true ∨ ((m.blk scope).F z).env.scope.names.lookup x = some .local := by intro _; first | exact Or.inl rfl | exact Or.inr rfl) (hfny : ∀ z, ((m.blk scope).F z).fn y = true ∨ ((m.blk scope).F z).env.scope.names.lookup y = some .local := by intro _; first | exact Or.inl rfl | exact Or.inr rfl)
    (hfs : ∀ i, ∀ x, foldedSetIterable iter (m.F i).env x = pure x := by intro _ _; rfl) (hfs1 : ∀ env x, foldedSetIterable iter1 env x = pure x := by intro _ _; rfl) : EX m ds (.ListComp elt [⟨.Name x p, iter, [], 0⟩, ⟨.Name y py, iter1, [], 0⟩] scope pos) (fun v H => Dq m.S.K H v (.l (all2 g ys.length n)) ∧ ∃ D, v = .ref D ∧ m.H0 D = none) := fun σ H hr hs Q q =>
  wE_of (t := tLc2 (wI m.F (.Name x p) iter) (wG (m.blk scope).F (.Name x p)) (wP (m.blk scope).F []) (iList m.S.K (wE (m.blk scope).F iter1)) (wG (m.blk scope).F (.Name y py)) (wP (m.blk scope).F []) (wE (m.blk scope).F elt) ([(x, j), (y, l)].map (·.2)) [l]) (fun i => pe_lc2 (ok.calm i) (by rw [ok.hN i]; exact ok.nd) (wI_ok i) (blkOk_by (by rw [ok.hN i]; exact hb i)) (by intro k hk; simp at hk ⊢; exact .inr hk)
    (fun s H C cl fp => wG_ok (F := (m.blk scope).F) (i, s, H, C, cl, fp)) (fun s H C cl fp => wP_ok (F := (m.blk scope).F) (i, s, H, C, cl, fp))
    (fun s H C cl fp => by rw [← ok.hK i]; exact pi_list (wE_ok (F := (m.blk scope).F) (i, s, H, C, cl, fp)))
    (fun s H C cl fp => wG_ok (F := (m.blk scope).F) (i, s, H, C, cl, fp)) (fun s H C cl fp => wP_ok (F := (m.blk scope).F) (i, s, H, C, cl, fp))
    (fun s H C cl fp => wE_ok (F := (m.blk scope).F) (i, s, H, C, cl, fp)) (hfs i) hfs1)
    (lc22_t ok hfr j l ys g hx hy hjl hi hz hz1 hys hY hi1 ht hb hl hly hfn hfny hfs hfs1 σ H hr hs Q fun v H2 r h => q v H2 r h)
/-- z = [elt for x in iter for y in iter1] -/
theorem bd_setLc22 (ok : m.Ok) (hfr : ∀ H D, m.R m.H0 H → H D = none → m.H0 D = none) (jz j l : Nat) {x y : Str} {elt iter iter1 : Expr} {scope : Scope} {n : Nat} {Y : Nat → PyData} (ys : List PyData) (g : Nat → Nat → PyData) {p py pz spos : Pos} {z0 : Str} {rest : List Stmt} {D : Ends} (hz0 : m.S.N[jz]? = some z0) (hx : m.S.N[j]? = some x) (hy : m.S.N[l]? = some y) (hjl : j ≠ l) (hi : IV m ds (.Name x p) iter n Y) (hz : n ≤ 100) (hz1 : ys.length ≤ 100) (hys : noL.noLs ys = true) (hY : ∀ i, i < n → noL (Y i) = true)
    (hi1 : ∀ H1, m.R m.H0 H1 → ((m.blk scope).at_ H1).Ok → ∀ i, i < n → ∀ σ H3 D, H1 D = none → (∃ acc, H3 D = some (.lst acc)) → m.R H1 H3 → Sl m.S.K H1 (σ.set j none) (((ds.set l none).set j none).set j none) → Sl m.S.K H3 σ (((ds.set l none).set j none).set j (some (.d (Y i)))) → ∀ Q : VK, (∀ a vs H4, m.R H3 H4 → a ≠ D → SqL m.S.K H4 a vs → DpAll m.S.K H4 vs ys → Q (.ref a) H4) → wE (m.blk scope).F iter1 σ H3 Q)
    (ht : ∀ H1, m.R m.H0 H1 → ((m.blk scope).at_ H1).Ok → ∀ i k z, i < n → ys[k]? = some z → EV ((m.blk scope).at_ H1) ((((ds.set l none).set j none).set j (some (.d (Y i)))).set l (some (.d z))) elt (.d (g i k)) ∧ noL (g i k) = true)
    (hb : ∀ i, blkC m.S.N (m.F i).env.scope scope [(x, j), (y, l)] = true := by intro _; kernel_rfl)
    (hl : ∀ z, Loc ((m.blk scope).F z).env.scope x := by intro _; first | exact Or.inl rfl | exact Or.inr rfl) (hly : ∀ z, Loc ((m.blk scope).F z).env.scope y := by intro _; first | exact Or.inl rfl | exact Or.inr rfl)
    (hfn : ∀ z, ((m.blk scope).F z).fn x = true ∨ ((m.blk scope).F z).env.scope.names.lookup x = some .local := by intro _; first | exact Or.inl rfl | exact Or.inr rfl) (hfny : ∀ z, ((m.blk scope).F z).fn y = true ∨ ((m.blk scope).F z).env.scope.names.lookup y = some .local := by intro _; first | exact Or.inl rfl | exact Or.inr rfl)
    (hfs : ∀ i, ∀ x, foldedSetIterable iter (m.F i).env x = pure x := by intro _ _; rfl) (hfs1 : ∀ env x, foldedSetIterable iter1 env x = pure x := by intro _ _; rfl)
    (q : ∀ v H, m.R m.H0 H → Dq m.S.K H v (.l (all2 g ys.length n)) → BD (m.at_ H) (ds.set jz (some (.l (all2 g ys.length n)))) rest D)
    (hloc : ∀ i, (m.F i).env.scope.names.lookup z0 = some .local := by intro _; rfl) (hsw : ∀ i, swapsWith (.ListComp elt [⟨.Name x p, iter, [], 0⟩, ⟨.Name y py, iter1, [], 0⟩] scope pos) (some (.Name z0 pz)) spos.line (m.F i).env = pure true := by intro _; rfl) :
    BD m ds (.Assign [.Name z0 pz] (.ListComp elt [⟨.Name x p, iter, [], 0⟩, ⟨.Name y py, iter1, [], 0⟩] scope pos) spos :: rest) D := fun σ H hr hs => by
  refine wSs_cons (wS_of (t := tAsg (tLc2 (wI m.F (.Name x p) iter) (wG (m.blk scope).F (.Name x p)) (wP (m.blk scope).F []) (iList m.S.K (wE (m.blk scope).F iter1)) (wG (m.blk scope).F (.Name y py)) (wP (m.blk scope).F []) (wE (m.blk scope).F elt) ([(x, j), (y, l)].map (·.2)) [l]) (gName jz)) (fun i => ps_setLc2 (ok.calm i) (by rw [ok.hN i]; exact ok.nd) (by rw [ok.hN i]; exact hz0) (hloc i) (hsw i) (wI_ok i) (blkOk_by (by rw [ok.hN i]; exact hb i)) (by intro k hk; simp at hk ⊢; exact .inr hk)
    (fun s H C cl fp => wG_ok (F := (m.blk scope).F) (i, s, H, C, cl, fp)) (fun s H C cl fp => wP_ok (F := (m.blk scope).F) (i, s, H, C, cl, fp))
    (fun s H C cl fp => by rw [← ok.hK i]; exact pi_list (wE_ok (F := (m.blk scope).F) (i, s, H, C, cl, fp)))
    (fun s H C cl fp => wG_ok (F := (m.blk scope).F) (i, s, H, C, cl, fp)) (fun s H C cl fp => wP_ok (F := (m.blk scope).F) (i, s, H, C, cl, fp))
    (fun s H C cl fp => wE_ok (F := (m.blk scope).F) (i, s, H, C, cl, fp)) (hfs i) hfs1) ?_)
  refine lc22_t ok hfr j l ys g hx hy hjl hi hz hz1 hys hY hi1 ht hb hl hly hfn hfny hfs hfs1 σ H hr hs _ fun v H1 r1 h => ?_
  exact q v H1 (ok.trans hr r1) h.1 _ H1 (ok.refl H1) ((ok.sl r1 hs).set jz h.1)
end
/-! Books: the checks of a table, the class Book. -/
structure Rw where
  b : Int
  e0 : Option (Int × Int)
  e1 : Option (Int × Int)
  e2 : Option (Int × Int)
def entD : Option (Int × Int) → PyData
  | none => .none
  | some p => .tuple [.int p.1, .int p.2]
def Rw.es (r : Rw) : List (Option (Int × Int)) := [r.e0, r.e1, r.e2]
def rwD (r : Rw) : PyData := .tuple (.int r.b :: r.es.map entD)
def EntOk (e : Option (Int × Int)) : Prop := ∀ p, e = some p → (-9 ≤ p.1 ∧ p.1 ≤ 9) ∧ -9 ≤ p.2 ∧ p.2 ≤ 9
structure RwOk (r : Rw) : Prop where
  b0 : 0 ≤ r.b
  b1 : r.b ≤ 23
  es : ∀ e ∈ r.es, EntOk e
structure TabOk (rows : List Rw) : Prop where
  len0 : 1 ≤ rows.length
  len1 : rows.length ≤ 6
  head : ∃ r rs, rows = r :: rs ∧ r.b = 0
  all : ∀ r ∈ rows, RwOk r
  inc : ∀ (i : Nat) (r r' : Rw), rows[i]? = some r → rows[i + 1]? = some r' → r.b < r'.b
structure Bk where
  low : Int
  high : Int
  rows : List Rw
  fresh : Int
  times : Int
  bonus : Int
def Bk.last (b : Bk) : Int := if 0 < b.fresh then b.fresh else b2z (decide (0 < b.bonus))
structure BkOk (b : Bk) : Prop where
  l0 : 0 ≤ b.low
  lh : b.low ≤ b.high
  h1 : b.high ≤ 23
  tab : TabOk b.rows
  f0 : 0 ≤ b.fresh
  f1 : b.fresh ≤ 2
  t0 : 1 ≤ b.times
  t1 : b.times ≤ if 0 < b.fresh then 3 else 1
  u0 : 0 ≤ b.bonus
  u1 : b.bonus ≤ if b.fresh = 0 then 5 else 0
  many : (b.high + 1 - b.low).toNat * (b.last + 1).toNat ≤ 24
section
variable {P : Program} {w : World} {K : PySem.W.Frag} {mg : Str → Option Value} {base : Heap}
def rEntry (rs : List SV) (_ : Hp) (r : SV) : Prop := ∃ e, rs = [.d (entD e)] ∧ EntOk e ∧ r = boolD true
theorem ok_isentry (T : Tx K mg) : CallOk P w K mg base "is_entry" 3 (SpR K rEntry) := by
  have C1 := ok_isinteger (P := P) (w := w) (base := base) T
  obtain ⟨fd, F⟩ := D_isentry T
  refine call_of F (fn_pure F sc_isentry (fun rs H r ⟨_, e, _⟩ => by rw [e]; rfl) ?_) (g_isentry T) (fun _ _ _ _ _ _ us hl => match us, hl with | [_], _ => rfl)
  rintro cdv A outer s H E Q rs r hr ⟨e, rfl, he, rfl⟩ ok hQ
  refine bd_ifr ok (by walk_at "tv") (fun _ => bd_retC ok hQ (by walk_at "ev") rfl) fun hn => ?_
  cases e with
  | none => cases hn
  | some p =>
    obtain ⟨⟨a1, a2⟩, a3, a4⟩ := he p rfl
    refine bd_retC ok hQ (ev_and ok (by walk_at "isi") fun _ => ev_and ok (ev_eqI ok (ev_lenT ok (b_len T) (xs := [.int p.1, .int p.2]) (by walk_at "ev")) (ev_int ok)) fun _ => ev_one ok (ev_allM ok 1 [p.1, p.2] (fun i => .int i) (b_all T) rfl (iv_tupM ok (by walk_at "ev")) (Nat.le_of_ble_eq_true rfl) fun H1 r1 okb a ha => ?_)) rfl
    refine (ev_call okb C1 (Nat.le_of_ble_eq_true rfl) (ea_cons okb (by walk_at "ev") (ea_two okb (by walk_at "ev") (by walk_at "ev"))) fun _ _ => ⟨a, -9, 9, rfl, rfl⟩).cast ?_
    have hb : -9 ≤ a ∧ a ≤ 9 := by
      rcases List.mem_cons.mp ha with rfl | ha
      · exact ⟨a1, a2⟩
      · rw [List.mem_singleton.mp ha]; exact ⟨a3, a4⟩
    show SV.d (.bool (decide (-9 ≤ a) && decide (a ≤ 9))) = _
    rw [decide_eq_true hb.1, decide_eq_true hb.2]
    rfl
def rTabRow (rs : List SV) (_ : Hp) (r : SV) : Prop := ∃ x, rs = [.d (rwD x)] ∧ RwOk x ∧ r = boolD true
theorem ok_istablerow (T : Tx K mg) : CallOk P w K mg base "is_table_row" 4 (SpR K rTabRow) := by
  have C1 := ok_isinteger (P := P) (w := w) (base := base) T
  have C2 := ok_isentry (P := P) (w := w) (base := base) T
  obtain ⟨fd, F⟩ := D_istablerow T
  refine call_of F (fn_pure F sc_istablerow (fun rs H r ⟨_, e, _⟩ => by rw [e]; rfl) ?_) (g_istablerow T) (fun _ _ _ _ _ _ us hl => match us, hl with | [_], _ => rfl)
  rintro cdv A outer s H E Q rs r hr ⟨x, rfl, hx, rfl⟩ ok hQ
  refine bd_if0 ok (tv_w ok (wv_or ok (tv_not ok (tv_val ok (by walk_at "isi"))) fun _ => wv_or ok (tv_neI ok (ev_lenT ok (b_len T) (xs := .int x.b :: x.es.map entD) (by walk_at "ev")) (ev_int ok)) fun _ => wv_or1 ok (tv_not ok (tv_val ok (ev_call ok C1 (Nat.le_of_ble_eq_true rfl) (ea_cons ok (ev_ixT ok (xs := .int x.b :: x.es.map entD) (by walk_at "ev") (by walk_at "ev") rfl (fun _ _ => rfl)) (ea_two ok (by walk_at "ev") (ev_gint ok (i_MOSTRATING T)))) fun _ _ => ⟨x.b, 0, 23, rfl, rfl⟩))))) ?_ ?_
  · rw [decide_eq_true hx.b0, decide_eq_true hx.b1]
    rfl
  · refine bd_retC ok hQ (ev_allM ok 1 x.es entD (b_all T) rfl (iv_tupM ok (ev_dropT ok (xs := .int x.b :: x.es.map entD) (k := 1) (by walk_at "ev") (ev_int ok) (by decide) (Nat.succ_pos _))) (Nat.le_of_ble_eq_true rfl) fun H1 r1 okb a ha => ?_) rfl
    exact ev_call okb C2 (Nat.le_of_ble_eq_true rfl) (ea_one okb (by walk_at "ev")) fun _ _ => ⟨a, rfl, hx.es a ha, rfl⟩
end
/-! Books: is_table .. Book.game. -/
theorem got_true : ∀ n, got (fun _ => true) (fun _ => .bool true) n = (List.replicate n true).map PyData.bool
  | 0 => rfl
  | n + 1 => by
    show got _ _ n ++ [PyData.bool true] = _
    rw [got_true n, List.replicate_succ', List.map_append]
    rfl
theorem all_rep (n : Nat) : (List.replicate n true).all id = true := by
  rw [List.all_eq_true]
  intro b hb
  rw [List.eq_of_mem_replicate hb]
  rfl
def rowAt (rows : List Rw) (d : Int) : Option Rw := (rows.filter fun r => decide (r.b ≤ d)).getLast?
theorem atI_last {xs : List PyData} {x : PyData} (h : xs.getLast? = some x) : L2.atI xs (-1) = some x := by
  have hne : xs ≠ [] := by
    rintro rfl
    cases h
  have hl : 0 < xs.length := List.length_pos_iff.mpr hne
  rw [List.getLast?_eq_getElem?] at h
  have e1 : L2.ixN xs.length (-1) = some (xs.length - 1) := by
    unfold L2.ixN
    rw [if_neg (by decide), if_pos (by omega)]
    congr 1
    omega
  unfold L2.atI
  rw [e1]
  exact h
theorem atI_get {xs : List PyData} {n : Nat} {x : PyData} (h : xs[n]? = some x) : L2.atI xs (n : Int) = some x := by
  have hl : n < xs.length := by
    rcases Nat.lt_or_ge n xs.length with q | q
    · exact q
    · rw [List.getElem?_eq_none q] at h; cases h
  have e1 : L2.ixN xs.length (n : Int) = some n := by
    unfold L2.ixN
    rw [if_pos (by omega), if_pos (by omega)]
    rfl
  unfold L2.atI
  rw [e1]
  exact h
section
variable {P : Program} {w : World} {K : PySem.W.Frag} {mg : Str → Option Value} {base : Heap}
def rTab (rs : List SV) (_ : Hp) (r : SV) : Prop := ∃ rows, rs = [.d (.list (rows.map rwD))] ∧ TabOk rows ∧ r = boolD true
theorem ok_istable (T : Tx K mg) : CallOk P w K mg base "is_table" 5 (SpR K rTab) := by
  have C1 := ok_istablerow (P := P) (w := w) (base := base) T
  obtain ⟨fd, F⟩ := D_istable T
  refine call_of F (fn_pure F sc_istable (fun rs H r ⟨_, e, _⟩ => by rw [e]; rfl) ?_) (g_istable T) (fun _ _ _ _ _ _ us hl => match us, hl with | [_], _ => rfl)
  rintro cdv A outer s H E Q rs r hr ⟨rows, rfl, ht, rfl⟩ ok hQ
  have l0 := ht.len0
  have l1 := ht.len1
  obtain ⟨r0, rs0, e0, b0⟩ := ht.head
  have hz : rows.length ≤ 1000 := by omega
  refine bd_if0 ok (tv_w ok (wv_or ok (tv_not ok (tv_val ok (ev_isi2 ok (Tn := "list") (Un := "tuple") (b := true) (c := false) (b_isinstance T) (b_list T) (by decide +kernel) (b_tuple T) (by decide +kernel) (kit_ty (a := "list") (b := "list") (r := true) (by decide +kernel)) (kit_ty (a := "list") (b := "tuple") (r := false) (by decide +kernel)) (x := .list (rows.map rwD)) (by walk_at "ev"))))
    fun _ => wv_or1 ok (tv_not ok (tv_leLe ok (ev_int ok) (ev_lenL ok (xs := rows.map rwD) (b_len T) (by walk_at "ev")) (ev_gint ok (i_MOSTROWSbooks T)))))) ?_ ?_
  · rw [List.length_map, decide_eq_true (by omega), decide_eq_true (by omega)]
    rfl
  refine bd_if0 ok (tv_w ok (wv_or ok (tv_not ok (tv_val ok (ev_allM ok 1 rows rwD (b_all T) rfl (iv_listM ok (by walk_at "ev")) hz fun H1 r1 okb a ha => ev_call okb C1 (Nat.le_of_ble_eq_true rfl) (ea_one okb (by walk_at "ev")) fun _ _ => ⟨a, rfl, ht.all a ha, rfl⟩)))
    fun _ => wv_or1 ok (tv_neI ok (x := r0.b) (ev_ixT ok (xs := .int r0.b :: r0.es.map entD) (ev_ixL ok (xs := rows.map rwD) (x := rwD r0) (by walk_at "ev") (ev_int ok) (atI_get (n := 0) (by rw [e0]; rfl)) (fun _ _ => rfl)) (ev_int ok) (atI_get (n := 0) rfl) (fun _ _ => rfl)) (ev_int ok)))) ?_ ?_
  · rw [b0]
    rfl
  refine bd_retC ok hQ ((ev_all ok (b_all T) (bs := List.replicate (min (rows.map rwD).length ((rows.map rwD).drop 1).length) true) (ev_ld ok ((ev_lc2n ok 2 3 (fun _ => true) (fun _ => .bool true) rfl rfl (by decide) (iv_zipL ok (b_zip T) (xs := rows.map rwD) (ys := (rows.map rwD).drop 1) (by walk_at "ev") (ev_dropL ok (k := 1) (by walk_at "ev") (ev_int ok))) (by rw [List.length_map]; omega) (fun H1 r1 okb i hi => ?_) (by intro _; kernel_rfl) (fun v σ H r r' Q d q => wG_two (ok.blk _) 2 3 rfl rfl d q)).cast (congrArg SV.l (got_true _)))))) ?_
  · rw [List.length_map, List.length_drop, List.length_map] at hi
    have h1 : rows[i]? = some rows[i] := List.getElem?_eq_getElem (by omega)
    have h2 : rows[i + 1]? = some rows[i + 1] := List.getElem?_eq_getElem (by omega)
    have lt := ht.inc i _ _ h1 h2
    have e1 : (rows.map rwD).getD i .none = rwD rows[i] := getD_map h1
    have e2 : ((rows.map rwD).drop 1).getD i .none = rwD rows[i + 1] := by
      rw [List.getD_eq_getElem?_getD, List.getElem?_drop, List.getElem?_map, Nat.add_comm 1 i, h2]; rfl
    rw [e1, e2]
    refine ⟨pv_nil okb, fun _ => ⟨(ev_lt okb (x := rows[i].b) (y := rows[i + 1].b) (ev_ixT okb (xs := .int rows[i].b :: rows[i].es.map entD) (by walk_at "ev") (ev_int okb) (atI_get (n := 0) rfl) (fun _ _ => rfl)) (ev_ixT okb (xs := .int rows[i + 1].b :: rows[i + 1].es.map entD) (by walk_at "ev") (ev_int okb) (atI_get (n := 0) rfl) (fun _ _ => rfl))).cast ?_, rfl⟩⟩
    rw [decide_eq_true lt]
  · rw [all_rep]
    rfl
def rRowAt (rs : List SV) (_ : Hp) (r : SV) : Prop := ∃ rows d x, rs = [.d (.tuple (rows.map rwD)), .d (.int d)] ∧ rows.length ≤ 6 ∧ rowAt rows d = some x ∧ r = .d (rwD x)
theorem noL_rwD (x : Rw) : noL (rwD x) = true := by
  obtain ⟨b, e0, e1, e2⟩ := x
  cases e0 <;> cases e1 <;> cases e2 <;> rfl
theorem ok_rowat (T : Tx K mg) : CallOk P w K mg base "row_at" 1 (SpR K rRowAt) := by
  obtain ⟨fd, F⟩ := D_rowat T
  refine call_of F (fn_pure F sc_rowat (fun rs H r ⟨_, _, _, e, _⟩ => by rw [e]; rfl) ?_) (g_rowat T) (fun _ _ _ _ _ _ us hl => match us, hl with | [_, _], _ => rfl)
  rintro cdv A outer s H E Q rs r hr ⟨rows, d, x, rfl, hl, hx, rfl⟩ ok hQ
  refine bd_retC ok hQ (ev_ixL ok (ev_ld ok (ev_lc1M ok 2 rows rwD rwD (fun r => decide (r.b ≤ d)) rfl (iv_tupM ok (by walk_at "ev")) (by omega) fun H1 r1 okb a ha => ⟨pv_one okb (tv_le okb (x := a.b) (ev_ixT okb (xs := .int a.b :: a.es.map entD) (by walk_at "ev") (ev_int okb) (atI_get (n := 0) rfl) (fun _ _ => rfl)) (by walk_at "ev")), fun _ => ⟨by walk_at "ev", noL_rwD a⟩⟩)) (ev_neg ok (ev_int ok)) (atI_last (x := rwD x) ?_) (fun _ _ => rfl)) rfl
  rw [List.getLast?_map, show (rows.filter fun r => decide (r.b ≤ d)).getLast? = some x from hx]
  rfl
def rResult (rs : List SV) (_ : Hp) (r : SV) : Prop := ∃ z : Str, rs = [.d (.str z)] ∧ z ∈ (["upper", "draw", "lower"] : List Str) ∧ r = boolD true
theorem dp_RESULTS (T : Tx K mg) (H : Hp) : Dp K H (.ref (He.ga K "RESULTS")) (.tuple ((["upper", "draw", "lower"] : List Str).map PyData.str)) := .tup (tup_RESULTS T H) (.cons (.str _) (.cons (.str _) (.cons (.str _) .nil)))
theorem ok_isresult (T : Tx K mg) : CallOk P w K mg base "is_result" 1 (SpR K rResult) := by
  obtain ⟨fd, F⟩ := D_isresult T
  refine call_of F (fn_pure F sc_isresult (fun rs H r ⟨_, e, _⟩ => by rw [e]; rfl) ?_) (g_isresult T) (fun _ _ _ _ _ _ us hl => match us, hl with | [_], _ => rfl)
  rintro cdv A outer s H E Q rs r hr ⟨z, rfl, hz, rfl⟩ ok hQ
  refine bd_retC ok hQ (ev_and ok (by walk_at "isi") fun _ => ev_one ok (ev_inS ok (by walk_at "ev") (ev_gdat ok (g_RESULTS T) (dp_RESULTS T)))) ?_
  rw [decide_eq_true hz]
  rfl
end
end Gm
namespace Gm
open PySem PySem.Spec PyProof.Rows L2
set_option maxHeartbeats 800000
local macro_rules | `(tactic| walk_at "vis") => `(tactic| (intro _; first | exact Or.inl rfl | exact Or.inr (Or.inl rfl) | exact Or.inr (Or.inr rfl)))
local macro_rules | `(tactic| walk_at "var") => `(tactic| first
  | (refine' ev_var (by assumption) 0 rfl rfl ?vz; (case vz => walk_at "vis"))
  | (refine' ev_var (by assumption) 1 rfl rfl ?vz; (case vz => walk_at "vis"))
  | (refine' ev_var (by assumption) 2 rfl rfl ?vz; (case vz => walk_at "vis"))
  | (refine' ev_var (by assumption) 3 rfl rfl ?vz; (case vz => walk_at "vis"))
  | (refine' ev_var (by assumption) 4 rfl rfl ?vz; (case vz => walk_at "vis"))
  | (refine' ev_var (by assumption) 5 rfl rfl ?vz; (case vz => walk_at "vis"))
  | (refine' ev_var (by assumption) 6 rfl rfl ?vz; (case vz => walk_at "vis"))
  | (refine' ev_var (by assumption) 7 rfl rfl ?vz; (case vz => walk_at "vis"))
  | (refine' ev_var (by assumption) 8 rfl rfl ?vz; (case vz => walk_at "vis"))
  | (refine' ev_var (by assumption) 9 rfl rfl ?vz; (case vz => walk_at "vis"))
  | (refine' ev_var (by assumption) 10 rfl rfl ?vz; (case vz => walk_at "vis"))
  | (refine' ev_var (by assumption) 11 rfl rfl ?vz; (case vz => walk_at "vis"))
  | (refine' ev_var (by assumption) 12 rfl rfl ?vz; (case vz => walk_at "vis"))
  | (refine' ev_var (by assumption) 13 rfl rfl ?vz; (case vz => walk_at "vis"))
  | (refine' ev_var (by assumption) 14 rfl rfl ?vz; (case vz => walk_at "vis"))
  | (refine' ev_var (by assumption) 15 rfl rfl ?vz; (case vz => walk_at "vis"))
  | (refine' ev_var (by assumption) 16 rfl rfl ?vz; (case vz => walk_at "vis")))
local macro_rules | `(tactic| walk_at "side") => `(tactic| first | assumption | omega | (constructor <;> omega) | skip)
local macro_rules | `(tactic| walk_at "bk") => `(tactic| first
  | (refine' ev_bk (by assumption) (x := "low") (cl_Book (by assumption)) (na_Book_low (by assumption)) ?va (by assumption) (fun _ => rfl); (case va => walk_at "ev"))
  | (refine' ev_bk (by assumption) (x := "high") (cl_Book (by assumption)) (na_Book_high (by assumption)) ?va (by assumption) (fun _ => rfl); (case va => walk_at "ev"))
  | (refine' ev_bk (by assumption) (x := "fresh") (cl_Book (by assumption)) (na_Book_fresh (by assumption)) ?va (by assumption) (fun _ => rfl); (case va => walk_at "ev"))
  | (refine' ev_bk (by assumption) (x := "times") (cl_Book (by assumption)) (na_Book_times (by assumption)) ?va (by assumption) (fun _ => rfl); (case va => walk_at "ev"))
  | (refine' ev_bk (by assumption) (x := "bonus") (cl_Book (by assumption)) (na_Book_bonus (by assumption)) ?va (by assumption) (fun _ => rfl); (case va => walk_at "ev")))
local macro_rules | `(tactic| walk_at "ev") => `(tactic| first
  | exact ev_int (by assumption)
  | exact ev_str (by assumption)
  | exact ev_bl (by assumption)
  | exact ev_non (by assumption)
  | walk_at "var"
  | (refine' ev_add (by assumption) ?va ?vb; (case va => walk_at "ev"); (case vb => walk_at "ev"))
  | (refine' ev_sub (by assumption) ?va ?vb; (case va => walk_at "ev"); (case vb => walk_at "ev"))
  | (refine' ev_neg (by assumption) ?va; (case va => walk_at "ev"))
  | (refine' ev_mul (by assumption) ?va ?vb ?vc; (case va => walk_at "ev"); (case vb => walk_at "ev"); (case vc => walk_at "side"))
  | (refine' ev_div (by assumption) ?va ?vb ?vc; (case va => walk_at "ev"); (case vb => walk_at "ev"); (case vc => walk_at "side"))
  | (refine' ev_mod (by assumption) ?va ?vb ?vc; (case va => walk_at "ev"); (case vb => walk_at "ev"); (case vc => walk_at "side"))
  | (refine' ev_ixT (by assumption) ?va ?vb ?vc ?vd; (case va => walk_at "ev"); (case vb => walk_at "ev"); (case vc => rfl); (case vd => exact fun _ _ => rfl))
  | (refine' ev_tup2 (by assumption) ?va ?vb; (case va => walk_at "ev"); (case vb => walk_at "ev"))
  | (refine' ev_tup3 (by assumption) ?va ?vb ?vc; (case va => walk_at "ev"); (case vb => walk_at "ev"); (case vc => walk_at "ev"))
  | (refine' ev_lt (by assumption) ?va ?vb; (case va => walk_at "ev"); (case vb => walk_at "ev"))
  | (refine' ev_le (by assumption) ?va ?vb; (case va => walk_at "ev"); (case vb => walk_at "ev"))
  | (refine' ev_gt (by assumption) ?va ?vb; (case va => walk_at "ev"); (case vb => walk_at "ev"))
  | (refine' ev_ge (by assumption) ?va ?vb; (case va => walk_at "ev"); (case vb => walk_at "ev"))
  | (refine' ev_leLe (by assumption) ?va ?vb ?vc; (case va => walk_at "ev"); (case vb => walk_at "ev"); (case vc => walk_at "ev"))
  | (refine' ev_eqI (by assumption) ?va ?vb; (case va => walk_at "ev"); (case vb => walk_at "ev"))
  | (refine' ev_neI (by assumption) ?va ?vb; (case va => walk_at "ev"); (case vb => walk_at "ev"))
  | (refine' ev_eqS (by assumption) ?va ?vb; (case va => walk_at "ev"); (case vb => walk_at "ev"))
  | (refine' ev_isN (by assumption) ?va; (case va => walk_at "ev"))
  | (refine' ev_notN (by assumption) ?va; (case va => walk_at "ev"))
  | (refine' ev_not (by assumption) ?va; (case va => walk_at "ev"))
  | walk_at "bk")
local macro_rules | `(tactic| walk_at "tv") => `(tactic| first
  | (refine' tv_lt (by assumption) ?va ?vb; (case va => walk_at "ev"); (case vb => walk_at "ev"))
  | (refine' tv_le (by assumption) ?va ?vb; (case va => walk_at "ev"); (case vb => walk_at "ev"))
  | (refine' tv_gt (by assumption) ?va ?vb; (case va => walk_at "ev"); (case vb => walk_at "ev"))
  | (refine' tv_ge (by assumption) ?va ?vb; (case va => walk_at "ev"); (case vb => walk_at "ev"))
  | (refine' tv_leLe (by assumption) ?va ?vb ?vc; (case va => walk_at "ev"); (case vb => walk_at "ev"); (case vc => walk_at "ev"))
  | (refine' tv_eqI (by assumption) ?va ?vb; (case va => walk_at "ev"); (case vb => walk_at "ev"))
  | (refine' tv_neI (by assumption) ?va ?vb; (case va => walk_at "ev"); (case vb => walk_at "ev"))
  | (refine' tv_isN (by assumption) ?va; (case va => walk_at "ev"))
  | (refine' tv_notN (by assumption) ?va; (case va => walk_at "ev"))
  | (refine' tv_not (by assumption) ?va; (case va => walk_at "tv"))
  | (refine' tv_val (by assumption) ?va; (case va => walk_at "ev")))
local macro_rules | `(tactic| walk_at "isi") => `(tactic| first
  | (refine' ev_isiA (by assumption) (Tn := "tuple") (b_isinstance (by assumption)) (b_tuple (by assumption)) (by decide +kernel) (kit_ty (a := "tuple") (b := "tuple") (r := true) (by decide +kernel)) ?va ?vx; (case va => walk_at "ev"); (case vx => rfl))
  | (refine' ev_isiA (by assumption) (Tn := "int") (b_isinstance (by assumption)) (b_int (by assumption)) (by decide +kernel) (kit_ty (a := "int") (b := "int") (r := true) (by decide +kernel)) ?va ?vx; (case va => walk_at "ev"); (case vx => rfl))
  | (refine' ev_isiA (by assumption) (Tn := "bool") (b_isinstance (by assumption)) (b_bool (by assumption)) (by decide +kernel) (kit_ty (a := "int") (b := "bool") (r := false) (by decide +kernel)) ?va ?vx; (case va => walk_at "ev"); (case vx => rfl))
  | (refine' ev_isiA (by assumption) (Tn := "str") (b_isinstance (by assumption)) (b_str (by assumption)) (by decide +kernel) (kit_ty (a := "str") (b := "str") (r := true) (by decide +kernel)) ?va ?vx; (case va => walk_at "ev"); (case vx => rfl)))
/-! The class Book. -/
def bkFs (b : Bk) (vt : V) : List (Str × V) := [("low", .int b.low), ("high", .int b.high), ("table", vt), ("fresh", .int b.fresh), ("times", .int b.times), ("bonus", .int b.bonus)]
def BookAt (K : PySem.W.Frag) (H : Hp) (a : Addr) (b : Bk) : Prop := ∃ dx vt, H a = some (.ins (He.ga K "Book") dx (bkFs b vt)) ∧ Dp K H vt (.tuple (b.rows.map rwD))
theorem BookAt.ex {K : PySem.W.Frag} {H H' : Hp} {a : Addr} {b : Bk} (h : BookAt K H a b) (e : Ex H H') : BookAt K H' a b :=
  let ⟨dx, vt, h1, h2⟩ := h
  ⟨dx, vt, e _ _ h1, dp_of (fun _ _ => (kp_ex K).sl_ e) (fun _ _ => (kp_ex K).st_ e) h2⟩
def plD (p : Int × Int) : PyData := .tuple [.int p.1, .int p.2]
def Bk.spots (b : Bk) : List (Int × Int) := all2 (fun i j => (b.low + i, (j : Int))) (b.last + 1).toNat (b.high + 1 - b.low).toNat
section
variable {ι : Type} {m : Mo ι} {ds : Sd} {pos : Pos}
theorem BookAt.at_ {K : PySem.W.Frag} {H : Hp} {a : Addr} {b : Bk} {x : Str} (h : BookAt K H a b) (hx : ∀ vt, (bkFs b vt).lookup x = none) : InsA H a (He.ga K "Book") x := let ⟨dx, vt, h1, _⟩ := h; ⟨dx, _, h1, hx vt⟩
theorem ev_bk (ok : m.Ok) {a : Addr} {b : Bk} {o : Expr} {x : Str} {n : Int} {p : Pos} (cl : Cls m.S.K (He.ga m.S.K "Book")) (na : NoAttr m.S.K (He.ga m.S.K "Book") x) (ho : EV m ds o (.v (.ref a))) (hb : ∀ H, m.R m.H0 H → BookAt m.S.K H a b) (hl : ∀ vt, (bkFs b vt).lookup x = some (.int n))
    (hba : ∀ i, attributeBase o x (m.F i).env (eval o (m.F i).env) = eval o (m.F i).env := by intro _; rfl) : EV m ds (.Attribute o x p) (.d (.int n)) :=
  ev_fld ok cl na ho (fun H hr => let ⟨dx, vt, h1, _⟩ := hb H hr; ⟨dx, _, _, h1, hl vt, .int n⟩) hba
theorem ev_bkTab (ok : m.Ok) {a : Addr} {b : Bk} {o : Expr} {p : Pos} (cl : Cls m.S.K (He.ga m.S.K "Book")) (na : NoAttr m.S.K (He.ga m.S.K "Book") "table") (ho : EV m ds o (.v (.ref a))) (hb : ∀ H, m.R m.H0 H → BookAt m.S.K H a b)
    (hba : ∀ i, attributeBase o "table" (m.F i).env (eval o (m.F i).env) = eval o (m.F i).env := by intro _; rfl) : EV m ds (.Attribute o "table" p) (.d (.tuple (b.rows.map rwD))) :=
  ev_fld ok cl na ho (fun H hr => let ⟨dx, vt, h1, h2⟩ := hb H hr; ⟨dx, _, vt, h1, rfl, h2⟩) hba
end
section
variable {P : Program} {w : World} {K : PySem.W.Frag} {mg : Str → Option Value} {base : Heap} {x qual : Str} {params : Arguments} {body : List Stmt} {scope : Scope} {dvs : List V} {kws : List (Str × V)} {f : Addr} {fd : FuncData} {N ps : List Str}
theorem meth_of {C : Addr} {y : Str} {sp : Sp} {k : Nat} (F : FunD K x qual params body scope [] kws f fd) (G : FnOk P w K mg base CX0 k f fd ps sp) (cl : Cls K C) (hm : Meth K C y f)
    (hb : ∀ (kV doc pm : Value) (an : Option Addr) (cdv ct : Value) (us : List Value), us.length = ps.length → bindArgs (PySem.W.fnOf x qual params body scope .none kV doc pm an cdv ct) ⟨us, []⟩ = pure (ps.zip us)) : MethOk P w K mg base C y k sp :=
  ⟨⟨f, fd, ps, G, hm, F.bindsN hb⟩, cl⟩
end
local macro_rules | `(tactic| walk_at "bk") => `(tactic| first
  | (refine' ev_bk (by assumption) (x := "low") (cl_Book (by assumption)) (na_Book_low (by assumption)) ?va (by assumption) (fun _ => rfl); (case va => walk_at "ev"))
  | (refine' ev_bk (by assumption) (x := "high") (cl_Book (by assumption)) (na_Book_high (by assumption)) ?va (by assumption) (fun _ => rfl); (case va => walk_at "ev"))
  | (refine' ev_bk (by assumption) (x := "fresh") (cl_Book (by assumption)) (na_Book_fresh (by assumption)) ?va (by assumption) (fun _ => rfl); (case va => walk_at "ev"))
  | (refine' ev_bk (by assumption) (x := "times") (cl_Book (by assumption)) (na_Book_times (by assumption)) ?va (by assumption) (fun _ => rfl); (case va => walk_at "ev"))
  | (refine' ev_bk (by assumption) (x := "bonus") (cl_Book (by assumption)) (na_Book_bonus (by assumption)) ?va (by assumption) (fun _ => rfl); (case va => walk_at "ev")))
section
variable {P : Program} {w : World} {K : PySem.W.Frag} {mg : Str → Option Value} {base : Heap}
def rLast (K : PySem.W.Frag) (rs : List SV) (H : Hp) (r : SV) : Prop := ∃ a b, rs = [.v (.ref a)] ∧ BookAt K H a b ∧ r = .d (.int b.last)
theorem ok_bklastphase (T : Tx K mg) : MethOk P w K mg base (He.ga K "Book") "last_phase" 1 (SpR K (rLast K)) := by
  obtain ⟨fd, F⟩ := D_bklastphase T
  refine meth_of F (fn_pure F sc_bklastphase (fun rs H r ⟨_, _, e, _⟩ => by rw [e]; rfl) ?_) (cl_Book T) (me_bklastphase T) (fun _ _ _ _ _ _ us hl => match us, hl with | [_], _ => rfl)
  rintro cdv A outer s H E Q rs r hr ⟨a, b, rfl, hb, rfl⟩ ok hQ
  have hB : ∀ H', Ex H H' → BookAt K H' a b := fun H' e => hb.ex e
  refine bd_retC ok hQ (ev_ifI ok (tv_gt ok (by walk_at "bk") (ev_int ok)) (by walk_at "bk") (ev_intB ok (b_int T) (ev_gt ok (by walk_at "bk") (ev_int ok)))) ?_
  unfold Bk.last
  by_cases h : 0 < b.fresh
  · rw [if_pos h, if_pos (decide_eq_true h)]
  · rw [if_neg h, if_neg (by rw [decide_eq_false h]; decide)]
end
/-- a promise of a new list -/
def SpF (K : PySem.W.Frag) (rel : List SV → Hp → List PyData → Prop) : Sp := fun vs H Q _ => ∃ rs xs, DqAll K H vs rs ∧ rel rs H xs ∧ ∀ v H', Ex H H' → Dq K H' v (.l xs) → (∃ D, v = .ref D ∧ H D = none) → Q v H'
theorem sl_one {K : PySem.W.Frag} {H H' : Hp} {σ σ' : L2.St} {ds : Sd} {j : Nat} {xs : List PyData} (q : Sl K H σ ds) (h : ds[j]? = some (some (.l xs))) (hs : σ'[j]? = σ[j]?) (hl : σ'.length = σ.length) :
    ∃ a vs, σ[j]? = some (some (.ref a)) ∧ H a = some (.lst vs) ∧ DpAll K H vs xs ∧ Sl K H' σ' ((List.replicate ds.length none).set j (some (.v (.ref a)))) := by
  obtain ⟨v, e1, a, vs, rfl, e2, e3⟩ := q.2 j _ h
  refine ⟨a, vs, e1, e2, e3, by rw [List.length_set, List.length_replicate, hl]; exact q.1, fun i r e => ?_⟩
  by_cases hij : j = i
  · subst hij
    have hlt : j < (List.replicate ds.length (none : Option SV)).length := by
      rw [List.length_replicate]
      rcases Nat.lt_or_ge j ds.length with q | q
      · exact q
      · rw [List.getElem?_eq_none q] at h; cases h
    rw [List.getElem?_set_self hlt] at e
    cases e
    exact ⟨.ref a, by rw [hs]; exact e1, rfl⟩
  · rw [List.getElem?_set_ne hij, List.getElem?_replicate] at e
    split at e <;> cases e
structure BkB (b : Bk) : Prop where
  l0 : 0 ≤ b.low
  lh : b.low ≤ b.high
  h1 : b.high ≤ 23
  p0 : 0 ≤ b.last
  p1 : b.last ≤ 2
theorem BkOk.b {b : Bk} (h : BkOk b) : BkB b := by
  obtain ⟨a1, a2, a3, _, a5, a6, _, _, _, _, _⟩ := h
  have z : b.last = b.fresh ∨ b.last = 0 ∨ b.last = 1 := by
    unfold Bk.last b2z
    split
    · exact .inl rfl
    · split
      · exact .inr (.inr rfl)
      · exact .inr (.inl rfl)
  exact ⟨a1, a2, a3, by omega, by omega⟩
def rPlaces (K : PySem.W.Frag) (rs : List SV) (H : Hp) (xs : List PyData) : Prop := ∃ a b, rs = [.v (.ref a)] ∧ BookAt K H a b ∧ BkB b ∧ xs = b.spots.map plD
section
variable {P : Program} {w : World} {K : PySem.W.Frag} {mg : Str → Option Value} {base : Heap}
theorem ok_bkplacesF (T : Tx K mg) : MethOk P w K mg base (He.ga K "Book") "places" 2 (SpF K (rPlaces K)) := by
  have C1 := ok_bklastphase (P := P) (w := w) (base := base) T
  obtain ⟨fd, F⟩ := D_bkplaces T
  refine meth_of F (fn_ok F sc_bkplaces (fun vs H Q E ⟨rs, xs, d, ⟨_, _, e, _⟩, _⟩ => by rw [DqAll.length d, e]; rfl) ?_) (cl_Book T) (me_bkplaces T) (fun _ _ _ _ _ _ us hl => match us, hl with | [_], _ => rfl)
  rintro cdv A outer s H vs Q E hr ⟨_, xs, d, ⟨a, b, rfl, hb, hB0, rfl⟩, hQ⟩
  have ok := body_ok (P := P) (w := w) (K := K) (mg := mg) (base := base) (N := n_bkplaces) (cdv := cdv) (outer := outer) (E := E) (H := H) (kp_ex K) sc_bkplaces hr
  have hB : ∀ H', Ex H H' → BookAt K H' a b := fun H' e => hb.ex e
  obtain ⟨b1, b2, b3, b4, b5⟩ := hB0
  have g : BD (bodyMo P w K mg base n_bkplaces "Book.places" (defScope s_bkplaces) (He.ma K (He.ga K "Book") "places") cdv A outer s H E Ex 1) (startD n_bkplaces [.v (.ref a)]) (defBody s_bkplaces) { nx := fun _ H' => Q .non H', rt := Q } := by
    refine bd_asg ok 1 (r := .l ((List.range (b.last + 1).toNat).map fun i : Nat => .int i)) rfl (ev_listRg ok (b_list T) (b_range T) (ev_add ok (ev_meth0 ok C1 (Nat.le_of_ble_eq_true rfl) (by walk_at "ev") (fun H' e => (hB H' e).at_ fun _ => rfl) fun H' e => ⟨a, b, rfl, hB H' e, rfl⟩) (ev_int ok)) (by omega)) ?_
    have hl : ((List.range (b.last + 1).toNat).map fun i : Nat => PyData.int i).length = (b.last + 1).toNat := by rw [List.length_map, List.length_range]
    refine bd_retX ok (ex_lc22 ok (fun H1 D e h => ?_) 2 3 (n := (b.high + 1 - b.low).toNat) ((List.range (b.last + 1).toNat).map fun i : Nat => .int i) (fun i j => plD (b.low + i, (j : Int))) rfl rfl (by decide) (iv_range2 ok (b_range T) (by walk_at "bk") (ev_add ok (by walk_at "bk") (ev_int ok)) (by omega)) (by omega) (by rw [hl]; omega)
      (noLs_of fun x hx => by obtain ⟨i, _, rfl⟩ := List.mem_map.mp hx; rfl) (fun i hi => rfl) (fun H1 r1 okb i hi σ H3 D nD hD r3 s1 s3 Q q => ?_) (fun H1 r1 okb i k z hi hz => ?_)) fun v H' e' hv => hQ v H' e' ?_ ?_
    · cases h1 : H D with
      | none => exact h1
      | some o => rw [e _ _ h1] at h; cases h
    · obtain ⟨a2, vs2, x1, x2, x3, x4⟩ := sl_one (H' := H3) (σ' := σ) (j := 1) s1 rfl (by rw [List.getElem?_set_ne (by decide)]) (by rw [List.length_set])
      refine (ev_var (r := .v (.ref a2)) (ds := (List.replicate 4 none).set 1 (some (.v (.ref a2)))) okb 1 rfl rfl (by walk_at "vis")) σ H3 r3 (show Sl K H3 σ ((List.replicate 4 none).set 1 (some (.v (.ref a2)))) from x4) Q fun v H4 r4 d4 => ?_
      rw [show v = V.ref a2 from d4]
      refine q a2 vs2 H4 r4 (fun e => ?_) (SqL.of (r4 _ _ (r3 _ _ x2))) (okb.dpa (Ex.trans r3 r4) x3)
      rw [e, nD] at x2
      cases x2
    · have hk : z = .int k := by
        rw [List.getElem?_map] at hz
        cases h2 : (List.range (b.last + 1).toNat)[k]? with
        | none => rw [h2] at hz; cases hz
        | some y =>
          rw [h2] at hz
          have := List.getElem?_eq_some_iff.mp h2
          obtain ⟨h3, h4⟩ := this
          rw [List.getElem_range] at h4
          rw [h4]
          exact (Option.some.inj hz).symm
      subst hk
      exact ⟨by walk_at "ev", rfl⟩
    · have e1 : b.spots.map plD = all2 (fun i j => plD (b.low + i, (j : Int))) ((List.range (b.last + 1).toNat).map fun i : Nat => PyData.int i).length (b.high + 1 - b.low).toNat := by
        unfold Bk.spots
        rw [all2_map, hl]
      rw [e1]
      exact hv.1
    · exact hv.2
  exact g (L2.start n_bkplaces vs) H (Ex.refl H) (start_sl d)
theorem ok_bkplaces (T : Tx K mg) : MethOk P w K mg base (He.ga K "Book") "places" 2 (SpR K fun rs H r => ∃ xs, rPlaces K rs H xs ∧ r = .l xs) := by
  obtain ⟨⟨f, fd, ps, F, hm, b⟩, cl⟩ := ok_bkplacesF (P := P) (w := w) (base := base) T
  exact ⟨⟨f, fd, ps, F.imp fun vs H Q E ⟨rs, r, d, ⟨xs, h1, h2⟩, h3⟩ => ⟨rs, xs, d, h1, fun v H' e q _ => h3 v H' e (by rw [h2]; exact q)⟩, hm, b⟩, cl⟩
end
end Gm
namespace Gm
open PySem PySem.Spec PyProof.Rows L2
set_option maxHeartbeats 800000
local macro_rules | `(tactic| walk_at "vis") => `(tactic| (intro _; first | exact Or.inl rfl | exact Or.inr (Or.inl rfl) | exact Or.inr (Or.inr rfl)))
local macro_rules | `(tactic| walk_at "var") => `(tactic| first
  | (refine' ev_var (by assumption) 0 rfl rfl ?vz; (case vz => walk_at "vis"))
  | (refine' ev_var (by assumption) 1 rfl rfl ?vz; (case vz => walk_at "vis"))
  | (refine' ev_var (by assumption) 2 rfl rfl ?vz; (case vz => walk_at "vis"))
  | (refine' ev_var (by assumption) 3 rfl rfl ?vz; (case vz => walk_at "vis"))
  | (refine' ev_var (by assumption) 4 rfl rfl ?vz; (case vz => walk_at "vis"))
  | (refine' ev_var (by assumption) 5 rfl rfl ?vz; (case vz => walk_at "vis"))
  | (refine' ev_var (by assumption) 6 rfl rfl ?vz; (case vz => walk_at "vis"))
  | (refine' ev_var (by assumption) 7 rfl rfl ?vz; (case vz => walk_at "vis"))
  | (refine' ev_var (by assumption) 8 rfl rfl ?vz; (case vz => walk_at "vis"))
  | (refine' ev_var (by assumption) 9 rfl rfl ?vz; (case vz => walk_at "vis"))
  | (refine' ev_var (by assumption) 10 rfl rfl ?vz; (case vz => walk_at "vis"))
  | (refine' ev_var (by assumption) 11 rfl rfl ?vz; (case vz => walk_at "vis"))
  | (refine' ev_var (by assumption) 12 rfl rfl ?vz; (case vz => walk_at "vis"))
  | (refine' ev_var (by assumption) 13 rfl rfl ?vz; (case vz => walk_at "vis"))
  | (refine' ev_var (by assumption) 14 rfl rfl ?vz; (case vz => walk_at "vis"))
  | (refine' ev_var (by assumption) 15 rfl rfl ?vz; (case vz => walk_at "vis"))
  | (refine' ev_var (by assumption) 16 rfl rfl ?vz; (case vz => walk_at "vis")))
local macro_rules | `(tactic| walk_at "side") => `(tactic| first | assumption | omega | (constructor <;> omega) | skip)
local macro_rules | `(tactic| walk_at "bk") => `(tactic| first
  | (refine' ev_bk (by assumption) (x := "low") (cl_Book (by assumption)) (na_Book_low (by assumption)) ?va (by assumption) (fun _ => rfl); (case va => walk_at "ev"))
  | (refine' ev_bk (by assumption) (x := "high") (cl_Book (by assumption)) (na_Book_high (by assumption)) ?va (by assumption) (fun _ => rfl); (case va => walk_at "ev"))
  | (refine' ev_bk (by assumption) (x := "fresh") (cl_Book (by assumption)) (na_Book_fresh (by assumption)) ?va (by assumption) (fun _ => rfl); (case va => walk_at "ev"))
  | (refine' ev_bk (by assumption) (x := "times") (cl_Book (by assumption)) (na_Book_times (by assumption)) ?va (by assumption) (fun _ => rfl); (case va => walk_at "ev"))
  | (refine' ev_bk (by assumption) (x := "bonus") (cl_Book (by assumption)) (na_Book_bonus (by assumption)) ?va (by assumption) (fun _ => rfl); (case va => walk_at "ev")))
local macro_rules | `(tactic| walk_at "ev") => `(tactic| first
  | exact ev_int (by assumption)
  | exact ev_str (by assumption)
  | exact ev_bl (by assumption)
  | exact ev_non (by assumption)
  | walk_at "var"
  | (refine' ev_add (by assumption) ?va ?vb; (case va => walk_at "ev"); (case vb => walk_at "ev"))
  | (refine' ev_sub (by assumption) ?va ?vb; (case va => walk_at "ev"); (case vb => walk_at "ev"))
  | (refine' ev_neg (by assumption) ?va; (case va => walk_at "ev"))
  | (refine' ev_mul (by assumption) ?va ?vb ?vc; (case va => walk_at "ev"); (case vb => walk_at "ev"); (case vc => walk_at "side"))
  | (refine' ev_div (by assumption) ?va ?vb ?vc; (case va => walk_at "ev"); (case vb => walk_at "ev"); (case vc => walk_at "side"))
  | (refine' ev_mod (by assumption) ?va ?vb ?vc; (case va => walk_at "ev"); (case vb => walk_at "ev"); (case vc => walk_at "side"))
  | (refine' ev_ixT (by assumption) ?va ?vb ?vc ?vd; (case va => walk_at "ev"); (case vb => walk_at "ev"); (case vc => rfl); (case vd => exact fun _ _ => rfl))
  | (refine' ev_tup2 (by assumption) ?va ?vb; (case va => walk_at "ev"); (case vb => walk_at "ev"))
  | (refine' ev_tup3 (by assumption) ?va ?vb ?vc; (case va => walk_at "ev"); (case vb => walk_at "ev"); (case vc => walk_at "ev"))
  | (refine' ev_lt (by assumption) ?va ?vb; (case va => walk_at "ev"); (case vb => walk_at "ev"))
  | (refine' ev_le (by assumption) ?va ?vb; (case va => walk_at "ev"); (case vb => walk_at "ev"))
  | (refine' ev_gt (by assumption) ?va ?vb; (case va => walk_at "ev"); (case vb => walk_at "ev"))
  | (refine' ev_ge (by assumption) ?va ?vb; (case va => walk_at "ev"); (case vb => walk_at "ev"))
  | (refine' ev_leLe (by assumption) ?va ?vb ?vc; (case va => walk_at "ev"); (case vb => walk_at "ev"); (case vc => walk_at "ev"))
  | (refine' ev_eqI (by assumption) ?va ?vb; (case va => walk_at "ev"); (case vb => walk_at "ev"))
  | (refine' ev_neI (by assumption) ?va ?vb; (case va => walk_at "ev"); (case vb => walk_at "ev"))
  | (refine' ev_eqS (by assumption) ?va ?vb; (case va => walk_at "ev"); (case vb => walk_at "ev"))
  | (refine' ev_isN (by assumption) ?va; (case va => walk_at "ev"))
  | (refine' ev_notN (by assumption) ?va; (case va => walk_at "ev"))
  | (refine' ev_not (by assumption) ?va; (case va => walk_at "ev"))
  | walk_at "bk")
local macro_rules | `(tactic| walk_at "tv") => `(tactic| first
  | (refine' tv_lt (by assumption) ?va ?vb; (case va => walk_at "ev"); (case vb => walk_at "ev"))
  | (refine' tv_le (by assumption) ?va ?vb; (case va => walk_at "ev"); (case vb => walk_at "ev"))
  | (refine' tv_gt (by assumption) ?va ?vb; (case va => walk_at "ev"); (case vb => walk_at "ev"))
  | (refine' tv_ge (by assumption) ?va ?vb; (case va => walk_at "ev"); (case vb => walk_at "ev"))
  | (refine' tv_leLe (by assumption) ?va ?vb ?vc; (case va => walk_at "ev"); (case vb => walk_at "ev"); (case vc => walk_at "ev"))
  | (refine' tv_eqI (by assumption) ?va ?vb; (case va => walk_at "ev"); (case vb => walk_at "ev"))
  | (refine' tv_neI (by assumption) ?va ?vb; (case va => walk_at "ev"); (case vb => walk_at "ev"))
  | (refine' tv_isN (by assumption) ?va; (case va => walk_at "ev"))
  | (refine' tv_notN (by assumption) ?va; (case va => walk_at "ev"))
  | (refine' tv_not (by assumption) ?va; (case va => walk_at "tv"))
  | (refine' tv_val (by assumption) ?va; (case va => walk_at "ev")))
local macro_rules | `(tactic| walk_at "isi") => `(tactic| first
  | (refine' ev_isiA (by assumption) (Tn := "tuple") (b_isinstance (by assumption)) (b_tuple (by assumption)) (by decide +kernel) (kit_ty (a := "tuple") (b := "tuple") (r := true) (by decide +kernel)) ?va ?vx; (case va => walk_at "ev"); (case vx => rfl))
  | (refine' ev_isiA (by assumption) (Tn := "int") (b_isinstance (by assumption)) (b_int (by assumption)) (by decide +kernel) (kit_ty (a := "int") (b := "int") (r := true) (by decide +kernel)) ?va ?vx; (case va => walk_at "ev"); (case vx => rfl))
  | (refine' ev_isiA (by assumption) (Tn := "bool") (b_isinstance (by assumption)) (b_bool (by assumption)) (by decide +kernel) (kit_ty (a := "int") (b := "bool") (r := false) (by decide +kernel)) ?va ?vx; (case va => walk_at "ev"); (case vx => rfl))
  | (refine' ev_isiA (by assumption) (Tn := "str") (b_isinstance (by assumption)) (b_str (by assumption)) (by decide +kernel) (kit_ty (a := "str") (b := "str") (r := true) (by decide +kernel)) ?va ?vx; (case va => walk_at "ev"); (case vx => rfl)))
/-! The class Book: len, in, moved, game. -/
def movedM (b : Bk) (p : Int × Int) (c : Int) (won : Bool) : Int × Int :=
  if 0 < b.fresh then (minI b.high (maxI b.low (p.1 + if 0 < p.2 then c * b.times else c)), maxI 0 (p.2 - 1))
  else (minI b.high (maxI b.low (p.1 + if (won && decide (0 < p.2)) = true then c + b.bonus else c)), b2z (won && decide (0 < b.bonus)))
def gameM (b : Bk) (u l : Int × Int) (j : Nat) : Option ((Int × Int) × (Int × Int)) := do
  let x ← rowAt b.rows (u.1 - l.1)
  let e ← x.es[j]?
  let c ← e
  some (movedM b u c.1 (decide (j = 0)), movedM b l c.2 (decide (j = 2)))
def gameD : Option ((Int × Int) × (Int × Int)) → PyData
  | none => .none
  | some q => .tuple [plD q.1, plD q.2]
structure InBk (b : Bk) (p : Int × Int) : Prop where
  r0 : b.low ≤ p.1
  r1 : p.1 ≤ b.high
  p0 : 0 ≤ p.2
  p1 : p.2 ≤ b.last
theorem rowAt_mem {rows : List Rw} {d : Int} {x : Rw} (h : rowAt rows d = some x) : x ∈ rows := (List.mem_filter.mp (List.mem_of_getLast? h)).1
theorem rowAt_some {rows : List Rw} {d : Int} (ht : TabOk rows) (hd : 0 ≤ d) : ∃ x, rowAt rows d = some x := by
  obtain ⟨r, rs, e, b0⟩ := ht.head
  unfold rowAt
  cases h : (rows.filter fun r => decide (r.b ≤ d)).getLast? with
  | some x => exact ⟨x, rfl⟩
  | none =>
    have z := List.getLast?_eq_none_iff.mp h
    have m : r ∈ rows.filter fun r => decide (r.b ≤ d) := List.mem_filter.mpr ⟨by rw [e]; exact List.mem_cons_self, decide_eq_true (by omega)⟩
    rw [z] at m
    cases m
def names3 : List Str := ["upper", "draw", "lower"]
section
variable {P : Program} {w : World} {K : PySem.W.Frag} {mg : Str → Option Value} {base : Heap}
def rLen (K : PySem.W.Frag) (rs : List SV) (H : Hp) (r : SV) : Prop := ∃ a b, rs = [.v (.ref a)] ∧ BookAt K H a b ∧ BkB b ∧ r = .d (.int (b.spots.length : Nat))
theorem ok_bklen (T : Tx K mg) : MethOk P w K mg base (He.ga K "Book") "__len__" 3 (SpR K (rLen K)) := by
  have C1 := ok_bkplaces (P := P) (w := w) (base := base) T
  obtain ⟨fd, F⟩ := D_bklen T
  refine meth_of F (fn_pure F sc_bklen (fun rs H r ⟨_, _, e, _⟩ => by rw [e]; rfl) ?_) (cl_Book T) (me_bklen T) (fun _ _ _ _ _ _ us hl => match us, hl with | [_], _ => rfl)
  rintro cdv A outer s H E Q rs r hr ⟨a, b, rfl, hb, hB0, rfl⟩ ok hQ
  have hB : ∀ H', Ex H H' → BookAt K H' a b := fun H' e => hb.ex e
  refine bd_retC ok hQ (ev_lenL ok (b_len T) (ev_ld ok (ev_meth0 ok C1 (Nat.le_of_ble_eq_true rfl) (by walk_at "ev") (fun H' e => (hB H' e).at_ fun _ => rfl) fun H' e => ⟨_, ⟨a, b, rfl, hB H' e, hB0, rfl⟩, rfl⟩))) ?_
  rw [List.length_map]
def rContains (K : PySem.W.Frag) (rs : List SV) (H : Hp) (r : SV) : Prop := ∃ a b p, rs = [.v (.ref a), .d (plD p)] ∧ BookAt K H a b ∧ r = boolD (decide (b.low ≤ p.1) && decide (p.1 ≤ b.high) && (decide (0 ≤ p.2) && decide (p.2 ≤ b.last)))
theorem ok_bkcontains (T : Tx K mg) : MethOk P w K mg base (He.ga K "Book") "__contains__" 3 (SpR K (rContains K)) := by
  have C1 := ok_bklastphase (P := P) (w := w) (base := base) T
  have C2 := ok_isinteger (P := P) (w := w) (base := base) T
  obtain ⟨fd, F⟩ := D_bkcontains T
  refine meth_of F (fn_pure F sc_bkcontains (fun rs H r ⟨_, _, _, e, _⟩ => by rw [e]; rfl) ?_) (cl_Book T) (me_bkcontains T) (fun _ _ _ _ _ _ us hl => match us, hl with | [_, _], _ => rfl)
  rintro cdv A outer s H E Q rs r hr ⟨a, b, p, rfl, hb, rfl⟩ ok hQ
  have hB : ∀ H', Ex H H' → BookAt K H' a b := fun H' e => hb.ex e
  refine bd_if0 ok (tv_w ok (wv_or ok (tv_not ok (tv_val ok (by walk_at "isi"))) fun _ => wv_or1 ok (tv_neI ok (ev_lenT ok (b_len T) (xs := [.int p.1, .int p.2]) (by walk_at "ev")) (ev_int ok)))) rfl ?_
  refine bd_retC ok hQ (ev_and ok (ev_call ok C2 (Nat.le_of_ble_eq_true rfl) (ea_cons ok (ev_ixT ok (xs := [.int p.1, .int p.2]) (by walk_at "ev") (ev_int ok) (atI_get (n := 0) rfl) (fun _ _ => rfl)) (ea_two ok (by walk_at "ev") (by walk_at "ev"))) fun _ _ => ⟨p.1, b.low, b.high, rfl, rfl⟩)
    fun _ => ev_one ok (ev_call ok C2 (Nat.le_of_ble_eq_true rfl) (ea_cons ok (ev_ixT ok (xs := [.int p.1, .int p.2]) (by walk_at "ev") (ev_int ok) (atI_get (n := 1) rfl) (fun _ _ => rfl)) (ea_two ok (ev_int ok) (ev_meth0 ok C1 (Nat.le_of_ble_eq_true rfl) (by walk_at "ev") (fun H' e => (hB H' e).at_ fun _ => rfl) fun H' e => ⟨a, b, rfl, hB H' e, rfl⟩))) fun _ _ => ⟨p.2, 0, b.last, rfl, rfl⟩)) rfl
def rMoved (K : PySem.W.Frag) (rs : List SV) (H : Hp) (r : SV) : Prop := ∃ a b p c won, rs = [.v (.ref a), .d (plD p), .d (.int c), .d (.bool won)] ∧ BookAt K H a b ∧ BkOk b ∧ r = .d (plD (movedM b p c won))
theorem ok_bkmoved (T : Tx K mg) : MethOk P w K mg base (He.ga K "Book") "moved" 1 (SpR K (rMoved K)) := by
  obtain ⟨fd, F⟩ := D_bkmoved T
  refine meth_of F (fn_pure F sc_bkmoved (fun rs H r ⟨_, _, _, _, _, e, _⟩ => by rw [e]; rfl) ?_) (cl_Book T) (me_bkmoved T) (fun _ _ _ _ _ _ us hl => match us, hl with | [_, _, _, _], _ => rfl)
  rintro cdv A outer s H E Q rs r hr ⟨a, b, p, c, won, rfl, hb, hk, rfl⟩ ok hQ
  have hB : ∀ H', Ex H H' → BookAt K H' a b := fun H' e => hb.ex e
  have t0 := hk.t0
  have t1 := hk.t1
  have m1 : CMul c b.times := .inr ⟨by omega, by split at t1 <;> omega⟩
  refine bd_unpack ok 4 5 (r := .int p.1) (r' := .int p.2) rfl rfl (by walk_at "ev") ?_ (fun v σ H Q d q => wG_two ok 4 5 rfl rfl d q)
  refine bd_if ok (tv_gt ok (by walk_at "ev") (ev_int ok)) (fun h => ?_) (fun h => ?_)
  · have h := of_decide_eq_true h
    refine bd_aug ok 4 rfl rfl (fun _ => ip_add) (ev_ifI ok (tv_gt ok (by walk_at "ev") (ev_int ok)) (by walk_at "ev") (by walk_at "ev")) ?_
    refine bd_asg ok 6 rfl (ev_max ok (b_max T) (ev_int ok) (by walk_at "ev")) (bd_end ?_)
    refine bd_retC ok hQ (ev_tup2 ok (ev_min ok (b_min T) (ev_intI ok (b_int T) (by walk_at "ev")) (ev_max ok (b_max T) (ev_intI ok (b_int T) (by walk_at "ev")) (ev_intI ok (b_int T) (by walk_at "ev")))) (by walk_at "ev")) ?_
    unfold movedM
    rw [if_pos h]
    simp only [decide_eq_true_eq]
    rfl
  · have h := of_decide_eq_false h
    refine bd_aug ok 4 rfl rfl (fun _ => ip_add) (ev_ifI ok (tv_w ok (wv_and ok (tv_val ok (by walk_at "ev")) fun _ => wv_and1 ok (tv_gt ok (by walk_at "ev") (ev_int ok)))) (by walk_at "ev") (by walk_at "ev")) ?_
    refine bd_asg ok 6 rfl (ev_intB ok (b_int T) (ev_and ok (by walk_at "ev") fun _ => ev_one ok (by walk_at "ev"))) (bd_end ?_)
    refine bd_retC ok hQ (ev_tup2 ok (ev_min ok (b_min T) (ev_intI ok (b_int T) (by walk_at "ev")) (ev_max ok (b_max T) (ev_intI ok (b_int T) (by walk_at "ev")) (ev_intI ok (b_int T) (by walk_at "ev")))) (by walk_at "ev")) ?_
    unfold movedM
    rw [if_neg h]
    rfl
end
/-! The class Book: game, __init__. -/
section
variable {P : Program} {w : World} {K : PySem.W.Frag} {mg : Str → Option Value} {base : Heap}
theorem in_book (T : Tx K mg) : InOk P w K mg base (He.ga K "Book") 3 (SpR K (rContains K)) := by
  obtain ⟨⟨f, fd, ps, F, hm, b⟩, cl⟩ := ok_bkcontains (P := P) (w := w) (base := base) T
  exact ⟨f, fd, ps, F, ⟨hm.at_, beq_iff_eq.mp hm.fn⟩, b⟩
theorem inBk_dec {b : Bk} {p : Int × Int} (h : InBk b p) : (decide (b.low ≤ p.1) && decide (p.1 ≤ b.high) && (decide (0 ≤ p.2) && decide (p.2 ≤ b.last))) = true := by
  rw [decide_eq_true h.r0, decide_eq_true h.r1, decide_eq_true h.p0, decide_eq_true h.p1]
  rfl
theorem BookAt.ins {H : Hp} {a : Addr} {b : Bk} (h : BookAt K H a b) : ∃ dx fs, H a = some (.ins (He.ga K "Book") dx fs) := let ⟨dx, vt, h1, _⟩ := h; ⟨dx, _, h1⟩
def rGame (K : PySem.W.Frag) (rs : List SV) (H : Hp) (r : SV) : Prop := ∃ (a : Addr) (b : Bk) (u l : Int × Int) (j : Nat) (z : Str), rs = [.v (.ref a), .d (plD u), .d (plD l), .d (.str z)] ∧ BookAt K H a b ∧ BkOk b ∧ InBk b u ∧ InBk b l ∧ l.1 ≤ u.1 ∧ names3[j]? = some z ∧ r = .d (gameD (gameM b u l j))
theorem ok_bkgame (T : Tx K mg) : MethOk P w K mg base (He.ga K "Book") "game" 4 (SpR K (rGame K)) := by
  have C1 := in_book (P := P) (w := w) (base := base) T
  have C2 := ok_isresult (P := P) (w := w) (base := base) T
  have C3 := ok_rowat (P := P) (w := w) (base := base) T
  have C4 := ok_bkmoved (P := P) (w := w) (base := base) T
  obtain ⟨fd, F⟩ := D_bkgame T
  refine meth_of F (fn_pure F sc_bkgame (fun rs H r ⟨_, _, _, _, _, _, e, _⟩ => by rw [e]; rfl) ?_) (cl_Book T) (me_bkgame T) (fun _ _ _ _ _ _ us hl => match us, hl with | [_, _, _, _], _ => rfl)
  rintro cdv A outer s H E Q rs r hr ⟨a, b, u, l, j, z, rfl, hb, hk, hu, hl, hle, hz, rfl⟩ ok hQ
  have hB : ∀ H', Ex H H' → BookAt K H' a b := fun H' e => hb.ex e
  have hB' : ∀ H1, Ex H H1 → ∀ H', Ex H1 H' → BookAt K H' a b := fun H1 e1 H' e => hb.ex (e1.trans e)
  refine bd_for1 ok 4 rfl (iv_tupM ok (xs := [u, l]) (enc := plD) (ev_tup2 ok (by walk_at "ev") (by walk_at "ev"))) (fun i d => ∃ q, d = (startD n_bkgame [.v (.ref a), .d (plD u), .d (plD l), .d (.str z)]).set 4 q) ⟨none, rfl⟩ ?_ ?_
  · rintro H1 r1 ok1 i _ hi ⟨q, rfl⟩
    have hx : ∃ p, ([u, l] : List (Int × Int))[i]? = some p ∧ InBk b p := by
      match i, hi with
      | 0, _ => exact ⟨u, rfl, hu⟩
      | 1, _ => exact ⟨l, rfl, hl⟩
    obtain ⟨p, hp, hip⟩ := hx
    rw [getD_map hp]
    refine bd_if0 ok1 (tv_notInO ok1 C1 (Nat.le_of_ble_eq_true rfl) (r := .d (plD p)) (b := true) (by walk_at "ev") (by walk_at "ev") (fun H' e => (hb.ex (r1.trans e)).ins) fun H' e => ⟨a, b, p, rfl, hb.ex (r1.trans e), by rw [inBk_dec hip]; rfl⟩) rfl ?_
    exact bd_nil fun σ H' hr' hs' => ⟨_, hr', ⟨_, List.set_set ..⟩, hs'⟩
  rintro _ ⟨q, rfl⟩
  have hzm : z ∈ names3 := List.mem_of_getElem? hz
  have hj : j < 3 := (List.getElem?_eq_some_iff.mp hz).1
  refine bd_if0 ok (tv_not ok (tv_val ok (ev_call ok C2 (Nat.le_of_ble_eq_true rfl) (ea_one ok (by walk_at "ev")) fun _ _ => ⟨z, rfl, hzm, rfl⟩))) rfl ?_
  refine bd_if0 ok (tv_gt ok (x := l.1) (y := u.1) (ev_ixT ok (xs := [.int l.1, .int l.2]) (by walk_at "ev") (ev_int ok) (atI_get (n := 0) rfl) (fun _ _ => rfl)) (ev_ixT ok (xs := [.int u.1, .int u.2]) (by walk_at "ev") (ev_int ok) (atI_get (n := 0) rfl) (fun _ _ => rfl))) (decide_eq_false (by omega)) ?_
  obtain ⟨x, hx⟩ := rowAt_some hk.tab (show 0 ≤ u.1 - l.1 by omega)
  have hxo := hk.tab.all x (rowAt_mem hx)
  have hlen := hk.tab.len1
  have hej : ∃ e, x.es[j]? = some e := by
    match j, hj with
    | 0, _ => exact ⟨_, rfl⟩
    | 1, _ => exact ⟨_, rfl⟩
    | 2, _ => exact ⟨_, rfl⟩
  obtain ⟨e, he⟩ := hej
  have hg : gameM b u l j = e.bind fun c => some (movedM b u c.1 (decide (j = 0)), movedM b l c.2 (decide (j = 2))) := by
    unfold gameM
    rw [hx]
    show (x.es[j]?.bind fun e => _) = _
    rw [he]
    rfl
  refine bd_asg ok 5 (r := .d (entD e)) rfl (ev_ixT ok (xs := .int x.b :: x.es.map entD) (i := 1 + (j : Int)) (ev_call ok C3 (Nat.le_of_ble_eq_true rfl) (ea_two ok (ev_bkTab ok (cl_Book T) (na_Book_table T) (by walk_at "ev") hB) (ev_sub ok (ev_ixT ok (xs := [.int u.1, .int u.2]) (by walk_at "ev") (ev_int ok) (atI_get (n := 0) rfl) (fun _ _ => rfl)) (ev_ixT ok (xs := [.int l.1, .int l.2]) (by walk_at "ev") (ev_int ok) (atI_get (n := 0) rfl) (fun _ _ => rfl)))) fun _ _ => ⟨b.rows, u.1 - l.1, x, rfl, hlen, hx, rfl⟩)
    (ev_add ok (ev_int ok) (ev_kIx ok (a := He.ga K "RESULTS") names3 j (ev_glob ok (g_RESULTS T) (v := .ref (He.ga K "RESULTS")) rfl (fun _ => rfl) (by intro _; rfl)) (nd_RESULTS T) (fun H => tup_RESULTS T H) (by walk_at "ev") hz ?_)) ?_ (fun _ _ => rfl)) ?_
  · intro l' hl'
    have nd : names3.Nodup := by decide
    intro h2
    obtain ⟨h3, h4⟩ := List.getElem?_eq_some_iff.mp hz
    obtain ⟨h5, h6⟩ := List.getElem?_eq_some_iff.mp h2
    have := (List.getElem_inj (h₀ := h5) (h₁ := h3) nd).mp (h6.trans h4.symm)
    omega
  · have z1 := atI_get (xs := .int x.b :: x.es.map entD) (n := j + 1) (x := entD e) (by rw [List.getElem?_cons_succ, List.getElem?_map, he]; rfl)
    rw [show (1 + (j : Int)) = ((j + 1 : Nat) : Int) from by omega]
    exact z1
  refine bd_ifr ok (tv_isN ok (by walk_at "ev")) (fun h => ?_) (fun h => ?_)
  · cases e with
    | some c => cases h
    | none => exact bd_retC ok hQ (by walk_at "ev") (by rw [hg]; rfl)
  · cases e with
    | none => cases h
    | some c =>
      refine bd_retC ok hQ (ev_tup2 ok (x := plD (movedM b u c.1 (decide (j = 0)))) (y := plD (movedM b l c.2 (decide (j = 2)))) (ev_meth ok C4 (Nat.le_of_ble_eq_true rfl) (by walk_at "ev") (fun H' e => (hB H' e).at_ fun _ => rfl) (ea_cons ok (by walk_at "ev") (ea_two ok (ev_ixT ok (xs := [.int c.1, .int c.2]) (by walk_at "ev") (ev_int ok) (atI_get (n := 0) rfl) (fun _ _ => rfl)) (ev_eqS ok (by walk_at "ev") (ev_str ok)))) fun H' e => ⟨a, b, u, c.1, _, rfl, hB H' e, hk, ?_⟩)
        (ev_meth ok C4 (Nat.le_of_ble_eq_true rfl) (by walk_at "ev") (fun H' e => (hB H' e).at_ fun _ => rfl) (ea_cons ok (by walk_at "ev") (ea_two ok (ev_ixT ok (xs := [.int c.1, .int c.2]) (by walk_at "ev") (ev_int ok) (atI_get (n := 1) rfl) (fun _ _ => rfl)) (ev_eqS ok (by walk_at "ev") (ev_str ok)))) fun H' e => ⟨a, b, l, c.2, _, rfl, hB H' e, hk, ?_⟩)) (by rw [hg]; rfl)
      · have : decide (z = ("upper" : Str)) = decide (j = 0) := by
          match j, hj, hz with
          | 0, _, h => cases h; rfl
          | 1, _, h => cases h; rfl
          | 2, _, h => cases h; rfl
        rw [this]
      · have : decide (z = ("lower" : Str)) = decide (j = 2) := by
          match j, hj, hz with
          | 0, _, h => cases h; rfl
          | 1, _, h => cases h; rfl
          | 2, _, h => cases h; rfl
        rw [this]
end
/-! The class Book: __init__. -/
def bkArgs (b : Bk) : List SV := [.d (.int b.low), .d (.int b.high), .d (.list (b.rows.map rwD)), .d (.int b.fresh), .d (.int b.times), .d (.int b.bonus)]
theorem entD_inj : ∀ {e e' : Option (Int × Int)}, entD e = entD e' → e = e'
  | none, none, _ => rfl
  | none, some _, h => nomatch h
  | some _, none, h => nomatch h
  | some (a, b), some (c, d), h => by
    injection h with h
    injection h with h1 h
    injection h1 with h1
    injection h with h2 _
    injection h2 with h2
    subst h1 h2
    rfl
theorem rwD_inj {r r' : Rw} (h : rwD r = rwD r') : r = r' := by
  obtain ⟨b, e0, e1, e2⟩ := r
  obtain ⟨b', f0, f1, f2⟩ := r'
  have h : PyData.tuple [.int b, entD e0, entD e1, entD e2] = PyData.tuple [.int b', entD f0, entD f1, entD f2] := h
  injection h with h
  injection h with h1 h
  injection h1 with h1
  injection h with h2 h
  injection h with h3 h
  injection h with h4 _
  rw [h1, entD_inj h2, entD_inj h3, entD_inj h4]
theorem map_inj {α β : Type} {f : α → β} (hf : ∀ x y, f x = f y → x = y) : ∀ {xs ys : List α}, xs.map f = ys.map f → xs = ys
  | [], [], _ => rfl
  | [], _ :: _, h => nomatch h
  | _ :: _, [], h => nomatch h
  | x :: xs, y :: ys, h => by
    rw [List.map_cons, List.map_cons] at h
    injection h with h1 h2
    rw [hf _ _ h1, map_inj hf h2]
theorem bkArgs_inj {b b' : Bk} (h : bkArgs b = bkArgs b') : b = b' := by
  obtain ⟨l, h', r, f, t, u⟩ := b
  obtain ⟨l2, h2, r2, f2, t2, u2⟩ := b'
  unfold bkArgs at h
  simp only [List.cons.injEq, SV.d.injEq, PyData.int.injEq, PyData.list.injEq, and_true] at h
  obtain ⟨a1, a2, a3, a4, a5, a6⟩ := h
  rw [a1, a2, map_inj (fun _ _ => rwD_inj) a3, a4, a5, a6]
def preBk (rs : List SV) (_ : Hp) : Prop := ∃ b, rs = bkArgs b ∧ BkOk b
def postBk (K : PySem.W.Frag) (_ : Hp) (rs : List SV) (a _ : Addr) (H : Hp) : Prop := ∃ b, rs = bkArgs b ∧ BookAt K H a b
section
variable {P : Program} {w : World} {K : PySem.W.Frag} {mg : Str → Option Value} {base : Heap}
theorem fn_bkinit (T : Tx K mg) : ∃ fd, FunD K "__init__" "Book.__init__" (defArgs s_bkinit) (defBody s_bkinit) (defScope s_bkinit) [] [("fresh", .int 0), ("times", .int 1), ("bonus", .int 0)] (He.ma K (He.ga K "Book") "__init__") fd ∧ FnOk P w K mg base CX0 6 (He.ma K (He.ga K "Book") "__init__") fd ["self", "low", "high", "table", "fresh", "times", "bonus"] (SpInit K (He.ga K "Book") preBk (postBk K)) := by
  have C1 := ok_isinteger (P := P) (w := w) (base := base) T
  have C2 := ok_istable (P := P) (w := w) (base := base) T
  have C3 := ok_bklen (P := P) (w := w) (base := base) T
  obtain ⟨fd, F⟩ := D_bkinit T
  refine ⟨fd, F, fn_init F sc_bkinit (fun rs H ⟨_, e, _⟩ => by rw [e]; rfl) ?_⟩
  rintro cdv A outer s H E Q rs a dx hr ⟨b, rfl, hk⟩ hi ok hQ
  have hb0 := hk.b
  have int_ok : ∀ {n lo hi : Int}, lo ≤ n → n ≤ hi → (!(decide (lo ≤ n) && decide (n ≤ hi))) = false := fun h1 h2 => by rw [decide_eq_true h1, decide_eq_true h2]; rfl
  have t1 := hk.t1
  have u1 := hk.u1
  refine bd_if0 ok (tv_not ok (tv_val ok (ev_call ok C1 (Nat.le_of_ble_eq_true rfl) (ea_cons ok (by walk_at "ev") (ea_two ok (ev_int ok) (ev_gint ok (i_MOSTRATING T)))) fun _ _ => ⟨b.low, 0, 23, rfl, rfl⟩))) (int_ok hk.l0 (by have := hk.lh; have := hk.h1; omega)) ?_
  refine bd_if0 ok (tv_not ok (tv_val ok (ev_call ok C1 (Nat.le_of_ble_eq_true rfl) (ea_cons ok (by walk_at "ev") (ea_two ok (by walk_at "ev") (ev_gint ok (i_MOSTRATING T)))) fun _ _ => ⟨b.high, b.low, 23, rfl, rfl⟩))) (int_ok hk.lh hk.h1) ?_
  refine bd_if0 ok (tv_not ok (tv_val ok (ev_call ok C2 (Nat.le_of_ble_eq_true rfl) (ea_one ok (by walk_at "ev")) fun _ _ => ⟨b.rows, rfl, hk.tab, rfl⟩))) rfl ?_
  refine bd_if0 ok (tv_not ok (tv_val ok (ev_call ok C1 (Nat.le_of_ble_eq_true rfl) (ea_cons ok (by walk_at "ev") (ea_two ok (ev_int ok) (ev_int ok))) fun _ _ => ⟨b.fresh, 0, 2, rfl, rfl⟩))) (int_ok hk.f0 hk.f1) ?_
  refine bd_if0 ok (tv_not ok (tv_val ok (ev_call ok C1 (Nat.le_of_ble_eq_true rfl) (ea_cons ok (by walk_at "ev") (ea_two ok (ev_int ok) (ev_ifI ok (tv_gt ok (by walk_at "ev") (ev_int ok)) (ev_int ok) (ev_int ok)))) fun _ _ => ⟨b.times, 1, _, rfl, rfl⟩))) (int_ok hk.t0 (by simpa using t1)) ?_
  refine bd_if0 ok (tv_not ok (tv_val ok (ev_call ok C1 (Nat.le_of_ble_eq_true rfl) (ea_cons ok (by walk_at "ev") (ea_two ok (ev_int ok) (ev_ifI ok (tv_eqI ok (by walk_at "ev") (ev_int ok)) (ev_int ok) (ev_int ok)))) fun _ _ => ⟨b.bonus, 0, _, rfl, rfl⟩))) (int_ok hk.u0 (by simpa using u1)) ?_
  refine bd_fld ok (cl_Book T) (na_Book_low T) (by walk_at "ev") (by walk_at "ev") (fun H' e => e _ _ hi) (by decide) fun H1 y1 e1 d1 k1 ok1 _ => ?_
  obtain rfl := Dp.int_inv d1
  refine bd_fld ok1 (cl_Book T) (na_Book_high T) (by walk_at "ev") (by walk_at "ev") (fun H' e => e _ _ upd_same) (Nat.le_of_ble_eq_true rfl) fun H2 y2 e2 d2 k2 ok2 _ => ?_
  obtain rfl := Dp.int_inv d2
  refine bd_fld ok2 (cl_Book T) (na_Book_table T) (by walk_at "ev") (ev_tupleOf ok2 (b_tuple T) (xs := b.rows.map rwD) (by walk_at "ev")) (fun H' e => e _ _ upd_same) (Nat.le_of_ble_eq_true rfl) fun H3 vt e3 d3 k3 ok3 v3 => ?_
  refine bd_fld ok3 (cl_Book T) (na_Book_fresh T) (by walk_at "ev") (by walk_at "ev") (fun H' e => e _ _ upd_same) (Nat.le_of_ble_eq_true rfl) fun H4 y4 e4 d4 k4 ok4 _ => ?_
  obtain rfl := Dp.int_inv d4
  refine bd_fld ok4 (cl_Book T) (na_Book_times T) (by walk_at "ev") (by walk_at "ev") (fun H' e => e _ _ upd_same) (Nat.le_of_ble_eq_true rfl) fun H5 y5 e5 d5 k5 ok5 _ => ?_
  obtain rfl := Dp.int_inv d5
  refine bd_fld ok5 (cl_Book T) (na_Book_bonus T) (by walk_at "ev") (by walk_at "ev") (fun H' e => e _ _ upd_same) (Nat.le_of_ble_eq_true rfl) fun H6 y6 e6 d6 k6 ok6 _ => ?_
  obtain rfl := Dp.int_inv d6
  have v4 := opq_dp (o' := .ins (He.ga K "Book") dx (putF "fresh" (.int b.fresh) (putF "table" vt (putF "high" (.int b.high) (putF "low" (.int b.low) []))))) k4 trivial (ok.dp e4 v3)
  have v5 := opq_dp (o' := .ins (He.ga K "Book") dx (putF "times" (.int b.times) (putF "fresh" (.int b.fresh) (putF "table" vt (putF "high" (.int b.high) (putF "low" (.int b.low) [])))))) k5 trivial (ok.dp e5 v4)
  have v6 := opq_dp (o' := .ins (He.ga K "Book") dx (putF "bonus" (.int b.bonus) (putF "times" (.int b.times) (putF "fresh" (.int b.fresh) (putF "table" vt (putF "high" (.int b.high) (putF "low" (.int b.low) []))))))) k6 trivial (ok.dp e6 v5)
  have hfs : putF "bonus" (.int b.bonus) (putF "times" (.int b.times) (putF "fresh" (.int b.fresh) (putF "table" vt (putF "high" (.int b.high) (putF "low" (.int b.low) []))))) = bkFs b vt := rfl
  have hB6 : BookAt K (upd H6 a (.ins (He.ga K "Book") dx (putF "bonus" (.int b.bonus) (putF "times" (.int b.times) (putF "fresh" (.int b.fresh) (putF "table" vt (putF "high" (.int b.high) (putF "low" (.int b.low) [])))))))) a b := ⟨dx, vt, by rw [hfs]; exact upd_same, v6⟩
  have hx6 : Exb a H (upd H6 a (.ins (He.ga K "Book") dx (putF "bonus" (.int b.bonus) (putF "times" (.int b.times) (putF "fresh" (.int b.fresh) (putF "table" vt (putF "high" (.int b.high) (putF "low" (.int b.low) [])))))))) :=
    (Exb.of e1).trans (Exb.upd.trans ((Exb.of e2).trans (Exb.upd.trans ((Exb.of e3).trans (Exb.upd.trans ((Exb.of e4).trans (Exb.upd.trans ((Exb.of e5).trans (Exb.upd.trans ((Exb.of e6).trans Exb.upd))))))))))
  have hB : ∀ H', Ex _ H' → BookAt K H' a b := fun H' e => hB6.ex e
  have hlen : b.spots.length ≤ 24 := by
    unfold Bk.spots
    rw [all2_len]
    exact hk.many
  refine bd_if0 ok6 (tv_gt ok6 (x := (b.spots.length : Nat)) (ev_lenO ok6 C3 (Nat.le_of_ble_eq_true rfl) (b_len T) (by walk_at "ev") (fun H' e => (hB H' e).ins) (fun H' e => ⟨a, b, rfl, hB H' e, hb0, rfl⟩) (Nat.lt_of_le_of_lt hlen (by decide))) (ev_gint ok6 (i_MOSTPLACES T))) (decide_eq_false (by omega)) ?_
  exact bd_nil fun σ H' e _ => hQ H' (hx6.trans (Exb.of e)) ⟨b, rfl, hB H' e⟩
end
/-! Book(..), Chances(..), Chooser(..): what is made. -/
section
variable {P : Program} {w : World} {K : PySem.W.Frag} {mg : Str → Option Value} {base : Heap}
theorem make_book0 (T : Tx K mg) : MakeOk P w K mg base "Book" (He.ga K "Book") 6 (SpInit K (He.ga K "Book") preBk (postBk K)) [.int 0, .int 1, .int 0] := by
  obtain ⟨fd, F, G⟩ := fn_bkinit (P := P) (w := w) (base := base) T
  obtain ⟨ds, h1, h2⟩ := F.binds0 (ps := ["self", "low", "high", "table", "fresh", "times", "bonus"]) 4 (by decide) rfl fun D doc pm an cdv ct us ks hl hk => by
    match us, hl, ks, hk with
    | [_, _, _, _], _, [_, _, _], _ => exact ⟨_, _, _, _, _, _, rfl, rfl, _, _, _, _, _, _, rfl, rfl, _, _, _, _, _, _, rfl, rfl, rfl⟩
  exact ⟨_, fd, _, ds, mk_Book T, G, g_Book T, h2, h1⟩
theorem kw_book (T : Tx K mg) : ∃ fd, FnOk P w K mg base CX0 6 (He.ma K (He.ga K "Book") "__init__") fd ["self", "low", "high", "table", "fresh", "times", "bonus"] (SpInit K (He.ga K "Book") preBk (postBk K)) ∧
    ∃ mv : List Value, KBn K fd ["self", "low", "high", "table", "fresh", "times", "bonus"] 4 ["fresh", "times", "bonus"] (fun us ws => us ++ ws) (fun vs zs => vs ++ zs) := by
  obtain ⟨fd, F, G⟩ := fn_bkinit (P := P) (w := w) (base := base) T
  obtain ⟨mv, h⟩ := F.kbinds0 (ps := ["self", "low", "high", "table", "fresh", "times", "bonus"]) 4 ["fresh", "times", "bonus"] [] (fun us _ ws => us ++ ws) (by decide) (fun _ z => nomatch z) (fun r1 _ r2 => r1.append r2) fun D doc pm an cdv ct us mv ws hl _ hw => by
    match us, hl, ws, hw with
    | [_, _, _, _], _, [_, _, _], _ => exact rfl
  exact ⟨fd, G, mv, h⟩
end
section
variable {ι : Type}
def wK (F : ι → Cx) (kws : List Keyword) : TA := fun σ H Q => ∃ t, (∀ i, PK (F i) kws t) ∧ t σ H Q
theorem wK_ok {F : ι → Cx} {kws : List Keyword} (i : ι) : PK (F i) kws (wK F kws) := ⟨fun pos pins s σ H Q I ⟨t, h, q⟩ => (h i).run pos pins s σ H Q I q⟩
variable {m : Mo ι} {ds : Sd} {pos : Pos}
def EK (m : Mo ι) (ds : Sd) (kws : List Keyword) (rs : List SV) : Prop := ∀ σ H, m.R m.H0 H → Sl m.S.K H σ ds → ∀ Q : List V → Hp → Prop, (∀ vs H2, m.R H H2 → DqAll m.S.K H2 vs rs → Q vs H2) → wK m.F kws σ H Q
theorem ek_nil (ok : m.Ok) : EK m ds [] [] := fun σ H hr hs Q k => ⟨_, fun _ => pk_nil, k [] H (ok.refl H) .nil⟩
theorem ek_cons (ok : m.Ok) {e : Expr} {nm : Option Str} {kpos : Pos} {kws : List Keyword} {r : SV} {rs : List SV} (h : EV m ds e r) (h' : EK m ds kws rs) : EK m ds (⟨nm, e, kpos⟩ :: kws) (r :: rs) := fun σ H hr hs Q k => by
  refine ⟨tCons (wE m.F e) (wK m.F kws), fun i => pk_cons (wE_ok i) (wK_ok i), ?_⟩
  refine h σ H hr hs _ fun v H1 r1 d1 => h' σ H1 (ok.trans hr r1) (ok.sl r1 hs) _ fun vs H2 r2 d2 => ?_
  exact k _ H2 (ok.trans r1 r2) (.cons (ok.dq r2 d1) d2)
/-- Book(low, high, table, fresh=.., times=.., bonus=..) -/
theorem ex_bookK {mgT : Tx m.S.K m.S.mg} (ok : m.Ok) (hk : 7 ≤ m.k) {e : Expr} {es : List Expr} {k1 k2 k3 : Expr} {q1 q2 q3 : Pos} {rs1 rs2 : List SV} {b : Bk} {p : Pos} (ha : EA m ds (e :: es) rs1) (hkw : EK m ds [⟨some "fresh", k1, q1⟩, ⟨some "times", k2, q2⟩, ⟨some "bonus", k3, q3⟩] rs2) (l1 : rs1.length = 3) (l2 : rs2.length = 3) (hb : rs1 ++ rs2 = bkArgs b) (hbk : BkOk b)
    (hg : ∀ i, Gl (m.F i) "Book" := by intro _; rfl)
    (hall : ∀ i, (backToKw pos (keywordEach [⟨some "fresh", k1, q1⟩, ⟨some "times", k2, q2⟩, ⟨some "bonus", k3, q3⟩] (m.F i).env)).all (·.1.isSome) = true := by intro _; rfl) (hks : ∀ i, (backToKw pos (keywordEach [⟨some "fresh", k1, q1⟩, ⟨some "times", k2, q2⟩, ⟨some "bonus", k3, q3⟩] (m.F i).env)).filterMap (·.1) = (["fresh", "times", "bonus"] : List Str) := by intro _; rfl)
    (he : ∀ i, starEach (e :: es) (m.F i).env = (false, eval e (m.F i).env) :: starEach es (m.F i).env := by intro _; rfl) (hpl : ∀ i, ((backTo pos (starEach (e :: es) (m.F i).env)).any (·.1) || (backToKw pos (keywordEach [⟨some "fresh", k1, q1⟩, ⟨some "times", k2, q2⟩, ⟨some "bonus", k3, q3⟩] (m.F i).env)).any (·.1.isNone)) = false := by intro _; rfl) :
    EX m ds (.Call (.Name "Book" p) (e :: es) [⟨some "fresh", k1, q1⟩, ⟨some "times", k2, q2⟩, ⟨some "bonus", k3, q3⟩] pos) (fun v H => ∃ a, v = .ref a ∧ BookAt m.S.K H a b) := fun σ H hr hs Q q => by
  obtain ⟨fd, G, mv, hB⟩ := kw_book (P := m.S.P) (w := m.S.w) (base := m.S.base) mgT
  refine wE_of (t := tMakeK (He.ga m.S.K "Book") 3 3 (SpInit m.S.K (He.ga m.S.K "Book") preBk (postBk m.S.K)) (fun vs zs => vs ++ zs) E0 (wA m.F (e :: es)) (wK m.F [⟨some "fresh", k1, q1⟩, ⟨some "times", k2, q2⟩, ⟨some "bonus", k3, q3⟩]))
    (fun i => pe_makeK (by rw [ok.hK i]; exact mk_Book mgT) (by rw [ok.hp i, ok.hw i, ok.hK i, ok.hm i, ok.hb i]; exact G) ((ok.room i).mono hk) (hg i) (by rw [ok.hm i]; exact g_Book mgT) (by rw [ok.hK i]; exact hB) pass0 (wA_ok i) (wK_ok i) (hall i) (hks i) (by decide) (he i) (hpl i)) ?_
  refine ha σ H hr hs _ fun vs H1 r1 d1 => hkw σ H1 (ok.trans hr r1) (ok.sl r1 hs) _ fun zs H2 r2 d2 => ⟨(DqAll.length d1).trans l1, (DqAll.length d2).trans l2, fun a dx na nd ne => ?_⟩
  have e1 : Ex H2 (upd (upd H2 dx (.own a)) a (.ins (He.ga m.S.K "Book") dx [])) := (Ex.new nd).trans (Ex.new (by rw [upd_ne (Ne.symm ne)]; exact na))
  refine ⟨a, dx, vs ++ zs, rs1 ++ rs2, rfl, upd_same, ok.dqs (ok.ex e1) (dqa_app (ok.dqs r2 d1) d2), ⟨b, hb, hbk⟩, fun H' e' hp => ⟨rfl, ?_⟩⟩
  have e2 : Ex H2 H' := fun c o hc => e' c o (ne_of_none hc na) (e1 c o hc)
  obtain ⟨b', hb', hat⟩ := hp
  rw [← bkArgs_inj (hb.symm.trans hb')] at hat
  exact q _ H' (ok.trans r1 (ok.trans r2 (ok.ex e2))) ⟨a, rfl, hat⟩
end
/-! Chances. -/
section
variable {ι : Type} {m : Mo ι} {ds : Sd} {pos : Pos}
/-- for x, y in iter -/
theorem bd_for2 (ok : m.Ok) (j l : Nat) {x y : Str} {iter : Expr} {body rest : List Stmt} {D : Ends} {n : Nat} {Y Z : Nat → PyData} {p px py : Pos} {kk : Nat} (hx : m.S.N[j]? = some x) (hy : m.S.N[l]? = some y) (hi : IV m ds (.Tuple [.Name x px, .Name y py] kk p) iter n fun i => .tuple [Y i, Z i]) (I : Nat → Sd → Prop) (h0 : I 0 ds)
    (ht : ∀ H1, m.R m.H0 H1 → (m.at_ H1).Ok → ∀ i ds', i < n → I i ds' → BD (m.at_ H1) ((ds'.set j (some (.d (Y i)))).set l (some (.d (Z i)))) body { D with nx := Nx (m.at_ H1) (fun d _ => I (i + 1) d), ct := Nx (m.at_ H1) (fun d _ => I (i + 1) d), bk := fun σ H => wSs m.F rest D σ H })
    (hd : ∀ ds', I n ds' → BD m ds' rest D)
    (hg : ∀ (v : V) (σ : L2.St) (H : Hp) (r r' : PyData) (Q : L2.St → Hp → Prop), Dp m.S.K H v (.tuple [r, r']) → (∀ u u', Dp m.S.K H u r → Dp m.S.K H u' r' → Q ((σ.set j (some u)).set l (some u')) H) → wG m.F (.Tuple [.Name x px, .Name y py] kk p) v σ H Q)
    (hp : ∀ i, PassesOwn (model (m.F i).prog (m.F i).w) (m.F i).A (m.F i).env (m.F i).xe := by intro _; exact PassesOwn.never) (hf : ∀ i, ∀ x, foldedSetIterable iter (m.F i).env x = pure x := by intro _ _; rfl) : BD m ds (.For (.Tuple [.Name x px, .Name y py] kk p) iter body [] pos :: rest) D :=
  bd_for ok hi I h0 (fun H1 r1 ok1 i v ds' σ' H' hi' r2 k s d => hg v σ' H' _ _ _ d fun u u' d1 d2 => ht H1 r1 ok1 i ds' hi' k _ H' r2 ((s.set (r := .d (Y i)) j d1).set (r := .d (Z i)) l d2)) hd hp hf
end
structure Cw where
  b : Int
  f0 : Fr
  f1 : Fr
  f2 : Fr
def Cw.fs (r : Cw) : List Fr := [r.f0, r.f1, r.f2]
def cwD (r : Cw) : PyData := .tuple (.int r.b :: r.fs.map pr)
structure FrOk (f : Fr) : Prop where
  ok : OkF f
  nn : 0 ≤ f.1
  sm : f.2 ≤ 1000
structure CwOk (r : Cw) : Prop where
  b0 : 0 ≤ r.b
  b1 : r.b ≤ 99
  fs : ∀ f ∈ r.fs, FrOk f
  sum : addF (addF r.f0 r.f1) r.f2 = (1, 1)
structure CcOk (rows : List Cw) : Prop where
  len0 : 1 ≤ rows.length
  len1 : rows.length ≤ 6
  head : ∃ r rs, rows = r :: rs ∧ r.b = 0
  all : ∀ r ∈ rows, CwOk r
  inc : ∀ (i : Nat) (r r' : Cw), rows[i]? = some r → rows[i + 1]? = some r' → r.b < r'.b
def cwAt (rows : List Cw) (d : Int) : Option Cw := (rows.filter fun r => decide (r.b ≤ d)).getLast?
def halfF (f : Fr) : Fr := mulF (lessF (1, 1) f) (1, 2)
/-- the chances of a win, a draw, a loss -/
def chM (rows : List Cw) (s o : Int) : List Fr := match cwAt rows (absI (s - o)) with
  | none => []
  | some r => if s = o then [halfF r.f1, r.f1, halfF r.f1] else if o < s then [r.f0, r.f1, r.f2] else [r.f2, r.f1, r.f0]
theorem cwAt_mem {rows : List Cw} {d : Int} {x : Cw} (h : cwAt rows d = some x) : x ∈ rows := (List.mem_filter.mp (List.mem_of_getLast? h)).1
theorem cwAt_some {rows : List Cw} {d : Int} (ht : CcOk rows) (hd : 0 ≤ d) : ∃ x, cwAt rows d = some x := by
  obtain ⟨r, rs, e, b0⟩ := ht.head
  unfold cwAt
  cases h : (rows.filter fun r => decide (r.b ≤ d)).getLast? with
  | some x => exact ⟨x, rfl⟩
  | none =>
    have z := List.getLast?_eq_none_iff.mp h
    have m : r ∈ rows.filter fun r => decide (r.b ≤ d) := List.mem_filter.mpr ⟨by rw [e]; exact List.mem_cons_self, decide_eq_true (by omega)⟩
    rw [z] at m
    cases m
theorem FrOk.two {a b : Fr} (ha : FrOk a) (hb : FrOk b) : Two a b := by
  have a1 := ha.ok.pos
  have b1 := hb.ok.pos
  have a2 := ha.sm
  have b2 := hb.sm
  have h : a.2 * b.2 ≤ 1000 * 1000 := Int.mul_le_mul a2 b2 (by omega) (by decide)
  exact ⟨a1, by omega, b1, by omega, by omega⟩
theorem two_of {a b : Fr} {n k : Int} (ha : 0 < a.2) (hb : 0 < b.2) (h1 : a.2 ≤ n) (h2 : b.2 ≤ k) (h : n * k < 2 ^ 64) (hn : 0 < n) (hk : 0 < k) : Two a b := by
  have h3 : a.2 * b.2 ≤ n * k := Int.mul_le_mul h1 h2 (by omega) (by omega)
  have h4 : n * 1 ≤ n * k := Int.mul_le_mul (Int.le_refl _) (by omega) (by decide) (by omega)
  have h5 : 1 * k ≤ n * k := Int.mul_le_mul (by omega) (Int.le_refl _) (by omega) (by omega)
  exact ⟨ha, by omega, hb, by omega, by omega⟩
theorem add_le {a b : Fr} (ha : 0 < a.2) (hb : 0 < b.2) : (addF a b).2 ≤ a.2 * b.2 := norm_le (Int.mul_pos ha hb)
def ccFs (vt : V) : List (Str × V) := [("own_rows", vt)]
def ChAt (K : PySem.W.Frag) (H : Hp) (a : Addr) (rows : List Cw) : Prop := ∃ dx vt, H a = some (.ins (He.ga K "Chances") dx (ccFs vt)) ∧ Dp K H vt (.tuple (rows.map cwD))
theorem ChAt.ex {K : PySem.W.Frag} {H H' : Hp} {a : Addr} {rows : List Cw} (h : ChAt K H a rows) (e : Ex H H') : ChAt K H' a rows :=
  let ⟨dx, vt, h1, h2⟩ := h
  ⟨dx, vt, e _ _ h1, dp_of (fun _ _ => (kp_ex K).sl_ e) (fun _ _ => (kp_ex K).st_ e) h2⟩
theorem noL_cwD (x : Cw) : noL (cwD x) = true := rfl
section
variable {P : Program} {w : World} {K : PySem.W.Frag} {mg : Str → Option Value} {base : Heap}
theorem dp_NONE (T : Tx K mg) (H : Hp) : Dp K H (.ref (He.ga K "NONE")) (pr (0, 1)) := .tup (tup_NONE T H) (.cons (.int _) (.cons (.int _) .nil))
theorem dp_ALL (T : Tx K mg) (H : Hp) : Dp K H (.ref (He.ga K "ALL")) (pr (1, 1)) := .tup (tup_ALL T H) (.cons (.int _) (.cons (.int _) .nil))
def rStrength (rs : List SV) (_ : Hp) (r : SV) : Prop := ∃ n : Int, rs = [.d (.int n)] ∧ r = boolD (decide (0 ≤ n) && decide (n ≤ 99))
theorem ok_isstrength (T : Tx K mg) : CallOk P w K mg base "is_strength" 3 (SpR K rStrength) := by
  have C1 := ok_isinteger (P := P) (w := w) (base := base) T
  obtain ⟨fd, F⟩ := D_isstrength T
  refine call_of F (fn_pure F sc_isstrength (fun rs H r ⟨_, e, _⟩ => by rw [e]; rfl) ?_) (g_isstrength T) (fun _ _ _ _ _ _ us hl => match us, hl with | [_], _ => rfl)
  rintro cdv A outer s H E Q rs r hr ⟨n, rfl, rfl⟩ ok hQ
  exact bd_retC ok hQ (ev_call ok C1 (Nat.le_of_ble_eq_true rfl) (ea_cons ok (by walk_at "ev") (ea_two ok (ev_int ok) (ev_gint ok (i_MOSTSTRENGTH T)))) fun _ _ => ⟨n, 0, 99, rfl, rfl⟩) rfl
def rChRow (rs : List SV) (_ : Hp) (r : SV) : Prop := ∃ x, rs = [.d (cwD x)] ∧ CwOk x ∧ r = boolD true
theorem ok_ischancerow (T : Tx K mg) : CallOk P w K mg base "is_chance_row" 4 (SpR K rChRow) := by
  have C1 := ok_isstrength (P := P) (w := w) (base := base) T
  have C2 := ok_isfraction (P := P) (w := w) (base := base) T
  have C3 := ok_isabove (P := P) (w := w) (base := base) T
  have C4 := ok_added (P := P) (w := w) (base := base) T
  obtain ⟨fd, F⟩ := D_ischancerow T
  refine call_of F (fn_pure F sc_ischancerow (fun rs H r ⟨_, e, _⟩ => by rw [e]; rfl) ?_) (g_ischancerow T) (fun _ _ _ _ _ _ us hl => match us, hl with | [_], _ => rfl)
  rintro cdv A outer s H E Q rs r hr ⟨x, rfl, hx, rfl⟩ ok hQ
  refine bd_if0 ok (tv_w ok (wv_or ok (tv_not ok (tv_val ok (by walk_at "isi"))) fun _ => wv_or ok (tv_neI ok (ev_lenT ok (b_len T) (xs := .int x.b :: x.fs.map pr) (by walk_at "ev")) (ev_int ok)) fun _ => wv_or1 ok (tv_not ok (tv_val ok (ev_call ok C1 (Nat.le_of_ble_eq_true rfl) (ea_one ok (ev_ixT ok (xs := .int x.b :: x.fs.map pr) (by walk_at "ev") (ev_int ok) (atI_get (n := 0) rfl) (fun _ _ => rfl))) fun _ _ => ⟨x.b, rfl, rfl⟩))))) ?_ ?_
  · rw [decide_eq_true hx.b0, decide_eq_true hx.b1]
    rfl
  refine bd_if0 ok (tv_not ok (tv_val ok (ev_allM ok 1 x.fs pr (b_all T) rfl (iv_tupM ok (ev_dropT ok (xs := .int x.b :: x.fs.map pr) (k := 1) (by walk_at "ev") (ev_int ok) (by decide) (Nat.succ_pos _))) (Nat.le_of_ble_eq_true rfl) fun H1 r1 okb a ha => ?_))) rfl ?_
  · have hf := hx.fs a ha
    refine (ev_and okb (b := true) (b' := true) (ev_call okb C2 (Nat.le_of_ble_eq_true rfl) (ea_one okb (by walk_at "ev")) fun _ _ => ⟨a, rfl, hf.ok, rfl⟩) fun _ => ev_one okb ((ev_not okb (b := false) (ev_call okb C3 (Nat.le_of_ble_eq_true rfl) (ea_two okb (ev_gdat okb (g_NONE T) (dp_NONE T)) (by walk_at "ev")) fun _ _ => ⟨(0, 1), a, rfl, ?_, ?_⟩)).cast rfl)).cast rfl
    · exact two_of (n := 1) (k := 1000) (by decide) hf.ok.pos (Int.le_refl _) hf.sm (by decide) (by decide) (by decide)
    · have := hf.nn
      unfold aboveF
      rw [decide_eq_false (by show ¬ a.1 * 1 < 0 * a.2; rw [Int.mul_one, Int.zero_mul]; omega)]
      rfl
  have h0 := hx.fs x.f0 (by simp [Cw.fs])
  have h1 := hx.fs x.f1 (by simp [Cw.fs])
  have h2 := hx.fs x.f2 (by simp [Cw.fs])
  have p0 := h0.ok.pos
  have p1 := h1.ok.pos
  have l1 : (addF x.f0 x.f1).2 ≤ 1000 * 1000 := Int.le_trans (add_le p0 p1) (Int.mul_le_mul h0.sm h1.sm (by omega) (by decide))
  refine bd_retC ok hQ (ev_eq ok (x := pr (addF (addF x.f0 x.f1) x.f2)) (y := pr (1, 1)) (ev_call ok C4 (Nat.le_of_ble_eq_true rfl) (ea_two ok (ev_call ok C4 (Nat.le_of_ble_eq_true rfl) (ea_two ok (ev_ixT ok (xs := .int x.b :: x.fs.map pr) (by walk_at "ev") (ev_int ok) (atI_get (n := 1) rfl) (fun _ _ => rfl)) (ev_ixT ok (xs := .int x.b :: x.fs.map pr) (by walk_at "ev") (ev_int ok) (atI_get (n := 2) rfl) (fun _ _ => rfl))) fun _ _ => ⟨x.f0, x.f1, rfl, h0.two h1, rfl⟩)
    (ev_ixT ok (xs := .int x.b :: x.fs.map pr) (by walk_at "ev") (ev_int ok) (atI_get (n := 3) rfl) (fun _ _ => rfl))) fun _ _ => ⟨addF x.f0 x.f1, x.f2, rfl, two_of (n := 1000 * 1000) (k := 1000) (add_ok h0.ok h1.ok).pos h2.ok.pos l1 h2.sm (by decide) (by decide) (by decide), rfl⟩) (ev_gdat ok (g_ALL T) (dp_ALL T)) rfl rfl) ?_
  rw [hx.sum]
  rfl
end
/-! Chances: __init__, __call__. -/
theorem pr_inj {f g : Fr} (h : pr f = pr g) : f = g := by
  obtain ⟨a, b⟩ := f
  obtain ⟨c, d⟩ := g
  injection h with h
  injection h with h1 h
  injection h1 with h1
  injection h with h2 _
  injection h2 with h2
  subst h1 h2
  rfl
theorem cwD_inj {r r' : Cw} (h : cwD r = cwD r') : r = r' := by
  obtain ⟨b, e0, e1, e2⟩ := r
  obtain ⟨b', f0, f1, f2⟩ := r'
  have h : PyData.tuple [.int b, pr e0, pr e1, pr e2] = PyData.tuple [.int b', pr f0, pr f1, pr f2] := h
  injection h with h
  injection h with h1 h
  injection h1 with h1
  injection h with h2 h
  injection h with h3 h
  injection h with h4 _
  rw [h1, pr_inj h2, pr_inj h3, pr_inj h4]
def preCc (rs : List SV) (_ : Hp) : Prop := ∃ rows : List Cw, rs = [.d (.list (rows.map cwD))] ∧ CcOk rows
def postCc (K : PySem.W.Frag) (_ : Hp) (rs : List SV) (a _ : Addr) (H : Hp) : Prop := ∃ rows : List Cw, rs = [.d (.list (rows.map cwD))] ∧ ChAt K H a rows
section
variable {ι : Type} {m : Mo ι} {ds : Sd} {pos : Pos}
theorem cx_b (ok : m.Ok) {e : Expr} {x : Cw} {p2 : Pos} (h : EV m ds e (.d (cwD x))) : EV m ds (.Subscript e (.Constant (.int 0) 0 p2) pos) (.d (.int x.b)) := ev_ixT ok (xs := .int x.b :: x.fs.map pr) h (ev_int ok) (atI_get (n := 0) rfl) (fun _ _ => rfl)
theorem cx_f (ok : m.Ok) {e : Expr} {x : Cw} {p2 : Pos} {n : Nat} {f : Fr} (h : EV m ds e (.d (cwD x))) (hn : x.fs[n]? = some f) : EV m ds (.Subscript e (.Constant (.int (n + 1 : Nat)) 0 p2) pos) (.d (pr f)) := ev_ixT ok (xs := .int x.b :: x.fs.map pr) h (ev_int ok) (atI_get (n := n + 1) (by rw [List.getElem?_cons_succ, List.getElem?_map, hn]; rfl)) (fun _ _ => rfl)
end
section
variable {P : Program} {w : World} {K : PySem.W.Frag} {mg : Str → Option Value} {base : Heap}
theorem make_chances (T : Tx K mg) : MakeOk P w K mg base "Chances" (He.ga K "Chances") 5 (SpInit K (He.ga K "Chances") preCc (postCc K)) [] := by
  have C1 := ok_ischancerow (P := P) (w := w) (base := base) T
  obtain ⟨fd, F⟩ := D_ccinit T
  refine ⟨_, fd, ["self", "rows"], [], mk_Chances T, fn_init F sc_ccinit (fun rs H ⟨_, e, _⟩ => by rw [e]; rfl) ?_, g_Chances T, F.bindsN (fun _ _ _ _ _ _ us hl => match us, hl with | [_, _], _ => rfl), .nil⟩
  rintro cdv A outer s H E Q rs a dx hr ⟨rows, rfl, ht⟩ hi ok hQ
  have l0 := ht.len0
  have l1 := ht.len1
  obtain ⟨r0, rs0, e0, b0⟩ := ht.head
  refine bd_if0 ok (tv_w ok (wv_or ok (tv_not ok (tv_val ok (ev_isi2 ok (Tn := "list") (Un := "tuple") (b := true) (c := false) (b_isinstance T) (b_list T) (by decide +kernel) (b_tuple T) (by decide +kernel) (kit_ty (a := "list") (b := "list") (r := true) (by decide +kernel)) (kit_ty (a := "list") (b := "tuple") (r := false) (by decide +kernel)) (x := .list (rows.map cwD)) (by walk_at "ev"))))
    fun _ => wv_or1 ok (tv_not ok (tv_leLe ok (ev_int ok) (ev_lenL ok (xs := rows.map cwD) (b_len T) (by walk_at "ev")) (ev_gint ok (i_MOSTROWSchances T)))))) ?_ ?_
  · rw [List.length_map, decide_eq_true (by omega), decide_eq_true (by omega)]
    rfl
  refine bd_for2 ok 2 3 rfl rfl (iv_enum ok (b_enumerate T) (xs := rows.map cwD) (by walk_at "ev")) (fun i d => ∃ q q', d = [some (.v (.ref a)), some (.d (.list (rows.map cwD))), q, q']) ⟨none, none, rfl⟩ ?_ ?_ (fun v σ H r r' Q d q => wG_two ok 2 3 rfl rfl d q)
  · rintro H1 r1 ok1 i _ hi' ⟨q, q', rfl⟩
    rw [List.length_map] at hi'
    obtain ⟨x, h1⟩ : ∃ x, rows[i]? = some x := ⟨_, List.getElem?_eq_getElem hi'⟩
    have hcw := ht.all x (List.mem_of_getElem? h1)
    obtain ⟨y, hy⟩ : ∃ y, 0 < i → rows[i - 1]? = some y ∧ y.b < x.b := by
      rcases Nat.eq_zero_or_pos i with e | e
      · exact ⟨x, fun z => absurd z (by omega)⟩
      · have h2 : rows[i - 1]? = some (rows[i - 1]'(by omega)) := List.getElem?_eq_getElem (by omega)
        exact ⟨_, fun _ => ⟨h2, ht.inc (i - 1) _ x h2 (by rw [show i - 1 + 1 = i from by omega]; exact h1)⟩⟩
    rw [getD_map h1]
    refine bd_if0 ok1 (tv_w ok1 (wv_or ok1 (b := false) (b' := decide ((i : Int) = 0) && !decide (x.b = 0)) (tv_not ok1 (b := true) (tv_val ok1 (ev_call ok1 C1 (Nat.le_of_ble_eq_true rfl) (ea_one ok1 (r := .d (cwD x)) (by walk_at "ev")) fun _ _ => ⟨x, rfl, hcw, rfl⟩))) fun _ => wv_or1 ok1 (tv_w ok1 (wv_and ok1 (b := decide ((i : Int) = 0)) (b' := !decide (x.b = 0)) (tv_eqI ok1 (by walk_at "ev") (ev_int ok1)) fun _ => wv_and1 ok1 (tv_neI ok1 (cx_b ok1 (by walk_at "ev")) (ev_int ok1)))))) ?_ ?_
    · by_cases e : i = 0
      · subst e
        have : x = r0 := by
          have h2 : rows[0]? = some r0 := by rw [e0]; rfl
          rw [h1] at h2
          exact Option.some.inj h2
        rw [this, b0]
        rfl
      · rw [decide_eq_false (by omega)]
        rfl
    refine bd_if0 ok1 (tv_w ok1 (wv_and ok1 (b := decide (0 < (i : Int))) (b' := decide (x.b ≤ y.b)) (tv_gt ok1 (by walk_at "ev") (ev_int ok1)) fun hgt => wv_and1 ok1 (tv_le ok1 (cx_b ok1 (by walk_at "ev")) (cx_b ok1 (ev_ixL ok1 (xs := rows.map cwD) (i := (i : Int) - 1) (x := cwD y) (by walk_at "ev") (by walk_at "ev") ?_ (fun _ _ => rfl)))))) ?_ ?_
    · have hgt := of_decide_eq_true hgt
      rw [show ((i : Int) - 1) = ((i - 1 : Nat) : Int) from by omega]
      exact atI_get (by rw [List.getElem?_map, (hy (by omega)).1]; rfl)
    · rcases Nat.eq_zero_or_pos i with e | e
      · rw [decide_eq_false (by omega)]
        rfl
      · have := (hy e).2
        rw [decide_eq_false (p := x.b ≤ y.b) (by omega), Bool.and_false]
    exact bd_nil fun σ H' hr' hs' => ⟨_, hr', ⟨_, _, rfl⟩, hs'⟩
  rintro _ ⟨q, q', rfl⟩
  refine bd_fld ok (cl_Chances T) (na_Chances_ownrows T) (by walk_at "ev") (ev_tupleOf ok (b_tuple T) (xs := rows.map cwD) (by walk_at "ev")) (fun H' e => e _ _ hi) (Nat.le_of_ble_eq_true rfl) fun H1 vt e1 d1 k1 ok1 v1 => ?_
  refine bd_nil fun σ H' e _ => hQ H' ((Exb.of e1).trans (Exb.upd.trans (Exb.of e))) ⟨rows, rfl, ChAt.ex ⟨dx, vt, upd_same, v1⟩ e⟩
def rCall (K : PySem.W.Frag) (rs : List SV) (H : Hp) (r : SV) : Prop := ∃ (a : Addr) (rows : List Cw) (s o : Int), rs = [.v (.ref a), .d (.int s), .d (.int o)] ∧ ChAt K H a rows ∧ CcOk rows ∧ (0 ≤ s ∧ s ≤ 99) ∧ (0 ≤ o ∧ o ≤ 99) ∧ r = .d (.tuple ((chM rows s o).map pr))
theorem ok_cccall (T : Tx K mg) : CallOOk P w K mg base (He.ga K "Chances") 4 (SpR K (rCall K)) := by
  have C1 := ok_isstrength (P := P) (w := w) (base := base) T
  have C2 := ok_less (P := P) (w := w) (base := base) T
  have C3 := ok_multiplied (P := P) (w := w) (base := base) T
  obtain ⟨fd, F⟩ := D_cccall T
  have hm := me_cccall T
  refine ⟨_, fd, ["self", "one", "other"], fn_pure F sc_cccall (fun rs H r ⟨_, _, _, _, e, _⟩ => by rw [e]; rfl) ?_, ⟨hm.at_, hm.fn, fi_call T⟩, F.bindsN (fun _ _ _ _ _ _ us hl => match us, hl with | [_, _, _], _ => rfl)⟩
  rintro cdv A outer st H E Q rs r hr ⟨a, rows, s, o, rfl, hc, hk, hs, ho, rfl⟩ ok hQ
  have hC : ∀ H', Ex H H' → ChAt K H' a rows := fun H' e => hc.ex e
  refine bd_for1 ok 3 rfl (iv_tupM ok (xs := [s, o]) (enc := fun i => .int i) (ev_tup2 ok (by walk_at "ev") (by walk_at "ev"))) (fun i d => ∃ q, d = (startD n_cccall [.v (.ref a), .d (.int s), .d (.int o)]).set 3 q) ⟨none, rfl⟩ ?_ ?_
  · rintro H1 r1 ok1 i _ hi ⟨q, rfl⟩
    have hx : ∃ p, ([s, o] : List Int)[i]? = some p ∧ 0 ≤ p ∧ p ≤ 99 := by
      match i, hi with
      | 0, _ => exact ⟨s, rfl, hs⟩
      | 1, _ => exact ⟨o, rfl, ho⟩
    obtain ⟨p, hp, hip⟩ := hx
    rw [getD_map hp]
    refine bd_if0 ok1 (tv_not ok1 (tv_val ok1 (ev_call ok1 C1 (Nat.le_of_ble_eq_true rfl) (ea_one ok1 (by walk_at "ev")) fun _ _ => ⟨p, rfl, rfl⟩))) (by rw [decide_eq_true hip.1, decide_eq_true hip.2]; rfl) ?_
    exact bd_nil fun σ H' hr' hs' => ⟨_, hr', ⟨_, List.set_set ..⟩, hs'⟩
  rintro _ ⟨q, rfl⟩
  have ha0 : 0 ≤ absI (s - o) := by unfold absI; split <;> omega
  obtain ⟨x, hx⟩ := cwAt_some hk ha0
  have hxo := hk.all x (cwAt_mem hx)
  have hlen := hk.len1
  have hM : chM rows s o = if s = o then [halfF x.f1, x.f1, halfF x.f1] else if o < s then [x.f0, x.f1, x.f2] else [x.f2, x.f1, x.f0] := by
    unfold chM
    rw [hx]
  have h1 := hxo.fs x.f1 (by simp [Cw.fs])
  refine bd_asg ok 4 (r := .d (cwD x)) rfl (ev_ixL ok (ev_ld ok (ev_lc1M ok 4 rows cwD cwD (fun r => decide (r.b ≤ absI (s - o))) rfl (iv_tupM ok (ev_fld ok (cl_Chances T) (na_Chances_ownrows T) (by walk_at "ev") (fun H' e => let ⟨dx, vt, k1, k2⟩ := hC H' e; ⟨dx, _, vt, k1, rfl, k2⟩))) (by omega) fun H1 r1 okb b hb => ⟨pv_one okb (tv_le okb (cx_b okb (x := b) (by walk_at "ev")) (ev_abs okb (b_abs T) (by walk_at "ev"))), fun _ => ⟨by walk_at "ev", noL_cwD b⟩⟩)) (ev_neg ok (ev_int ok)) (atI_last (x := cwD x) ?_) (fun _ _ => rfl)) ?_
  · rw [List.getLast?_map, show (rows.filter fun r => decide (r.b ≤ absI (s - o))).getLast? = some x from hx]
    rfl
  refine bd_ifr ok (tv_eqI ok (by walk_at "ev") (by walk_at "ev")) (fun h => ?_) (fun h => ?_)
  · have h := of_decide_eq_true h
    have tl : Two (1, 1) x.f1 := two_of (n := 1) (k := 1000) (by decide) h1.ok.pos (Int.le_refl _) h1.sm (by decide) (by decide) (by decide)
    have okl := less_ok (a := (1, 1)) ⟨by decide, by decide⟩ h1.ok
    have l2 : (lessF (1, 1) x.f1).2 ≤ 1000 := Int.le_trans (norm_le (Int.mul_pos (by decide) h1.ok.pos)) (by have := h1.sm; show 1 * x.f1.2 ≤ 1000; omega)
    have tm : Two (lessF (1, 1) x.f1) (1, 2) := two_of (n := 1000) (k := 2) okl.pos (by decide) l2 (Int.le_refl _) (by decide) (by decide) (by decide)
    refine bd_asg ok 5 rfl (ev_call ok C3 (Nat.le_of_ble_eq_true rfl) (ea_two ok (ev_call ok C2 (Nat.le_of_ble_eq_true rfl) (ea_two ok (ev_gdat ok (g_ALL T) (dp_ALL T)) (cx_f ok (n := 1) (f := x.f1) (by walk_at "ev") rfl)) fun _ _ => ⟨(1, 1), x.f1, rfl, tl, rfl⟩) (ev_tup2 ok (x := .int 1) (y := .int 2) (ev_int ok) (ev_int ok))) fun _ _ => ⟨lessF (1, 1) x.f1, (1, 2), rfl, tm, .inr ⟨by decide, by decide⟩, rfl⟩) ?_
    refine bd_retC ok hQ (ev_tup3 ok (x := pr (halfF x.f1)) (y := pr x.f1) (z := pr (halfF x.f1)) (by walk_at "ev") (cx_f ok (n := 1) (f := x.f1) (by walk_at "ev") rfl) (by walk_at "ev")) ?_
    rw [hM, if_pos h]
    rfl
  · have h := of_decide_eq_false h
    refine bd_retC ok hQ (ev_if ok (tv_gt ok (by walk_at "ev") (by walk_at "ev")) (ev_tup3 ok (cx_f ok (n := 0) (f := x.f0) (by walk_at "ev") rfl) (cx_f ok (n := 1) (f := x.f1) (by walk_at "ev") rfl) (cx_f ok (n := 2) (f := x.f2) (by walk_at "ev") rfl)) (ev_tup3 ok (cx_f ok (n := 2) (f := x.f2) (by walk_at "ev") rfl) (cx_f ok (n := 1) (f := x.f1) (by walk_at "ev") rfl) (cx_f ok (n := 0) (f := x.f0) (by walk_at "ev") rfl))) ?_
    rw [hM, if_neg h]
    by_cases h2 : o < s
    · rw [if_pos h2, if_pos (decide_eq_true h2)]
      rfl
    · rw [if_neg h2, if_neg (by rw [decide_eq_false h2]; decide)]
      rfl
end
/-! Objects that may change while others stay: exact objects, relations of heaps, tags, appends, loops. -/
def IsExt : HO → Prop
  | .ext _ => True
  | _ => False
/-- this very object stands at a -/
def exO (a : Addr) (o : Obj) : HO := .ext fun h => h.get? a = some o
theorem opq_exO {a : Addr} {o : Obj} : Opq (exO a o) := trivial
theorem exO_ok {P : Program} {w : World} {H : Hp} {h : Heap} {a : Addr} {o : Obj} (e : h.get? a = some o) : ObjOk P w H h a (exO a o) := ⟨e, ⟨o, e⟩, fun _ _ e' k => k _ e'⟩
theorem exO_get {P : Program} {w : World} {H : Hp} {h : Heap} {a : Addr} {o : Obj} (x : HOk P w H h) (e : H a = some (exO a o)) : h.get? a = some o := (x a _ e).1
/-- all stays but what is exact at the places S; and what G tells goes on -/
def RXS (S : List Addr) (G : Hp → Prop) (H H' : Hp) : Prop := (∀ b o, H b = some o → (b ∈ S → ¬ IsExt o) → H' b = some o) ∧ (G H → G H')
structure Gok (G : Hp → Prop) : Prop where
  ex : ∀ {H H'}, Ex H H' → G H → G H'
  mt : ∀ {H c xs ys}, H c = some (.lst xs) → G H → G (upd H c (.lst ys))
theorem gok_true : Gok fun _ => True := ⟨fun _ z => z, fun _ z => z⟩
theorem rxs_lst {S : List Addr} {G : Hp → Prop} {H H' : Hp} {a : Addr} {u : HO} (hu : ¬ IsExt u) (r : RXS S G H H') (h : Rd H a u) : Rd H' a u := by
  rcases h with h | ⟨o, h⟩
  · exact .inl (r.1 a _ h fun _ => hu)
  · exact .inr ⟨o, r.1 a _ h fun _ => id⟩
theorem kp_rxs {K : PySem.W.Frag} {S : List Addr} {G : Hp → Prop} (g : Gok G) : Kp K (RXS S G) := by
  refine ⟨fun H => ⟨fun _ _ h _ => h, id⟩, fun {H H1 H2} r r' => ⟨fun b o h n => r'.1 b o (r.1 b o h n) n, fun z => r'.2 (r.2 z)⟩, fun {H H'} e => ⟨fun b o h _ => e b o h, g.ex e⟩, fun {H H' a xs} r h => ?_, fun {H H' a xs} r h => ?_, fun {H H' a xs} r h => r.1 a _ h fun _ => id, fun {H H' a xs ys} r n h => ?_⟩
  · rcases h with h | h
    · exact .inl (rxs_lst id r h)
    · exact .inr h
  · rcases h with h | h
    · exact .inl (rxs_lst id r h)
    · exact .inr h
  · refine ⟨fun b o hb nb => ?_, fun z => g.mt h (r.2 z)⟩
    rw [upd_ne (ne_of_none hb n)]
    exact r.1 b o hb nb
theorem RXS.of {S : List Addr} {G : Hp → Prop} {H H' : Hp} (g : Gok G) (e : Ex H H') : RXS S G H H' := ⟨fun b o h _ => e b o h, g.ex e⟩
/-- an exact object replaced -/
theorem RXS.upd {S : List Addr} {G : Hp → Prop} {H H' : Hp} {a : Addr} {o : Obj} {u : HO} (ha : a ∈ S) (h : H a = some (exO a o)) (k : ∀ b v, b ≠ a → H b = some v → H' b = some v) (g : G H → G (upd H' a u)) : RXS S G H (upd H' a u) := by
  refine ⟨fun b v hb nb => ?_, g⟩
  by_cases e : b = a
  · subst e
    rw [h] at hb
    cases hb
    exact absurd trivial (nb ha)
  · rw [upd_ne e]
    exact k b v e hb
section
variable {ι : Type} {m : Mo ι} {ds : Sd} {pos : Pos}
/-- the same family under another relation, from a heap on -/
abbrev Mo.on (m : Mo ι) (R : Hp → Hp → Prop) (H : Hp) : Mo ι := { m with R := R, H0 := H }
theorem Mo.Ok.on (ok : m.Ok) {R : Hp → Hp → Prop} (kp : Kp m.S.K R) (H : Hp) : (m.on R H).Ok := ⟨ok.hp, ok.hw, ok.hK, ok.hm, ok.hb, ok.hN, ok.calm, ok.room, ok.nd, kp.refl, kp.trans, kp.ex, kp.sl_, kp.st_, kp.lk, kp.mt_⟩
theorem Mo.Ok.kp (ok : m.Ok) : Kp m.S.K m.R := ⟨ok.refl, ok.trans, ok.ex, ok.sl_, ok.st_, ok.lk, ok.mt_⟩
/-! #### tags -/
/-- the object of a list with these items -/
structure LX (vs : List V) (o : Obj) : Prop where
  ex : ∃ (its : List Value) (n : Nat), o = { cls := .type "list", data := .seq its.toArray n } ∧ Vals vs its
  sz : vs.length ≤ sizeLine
theorem ws_tag {F : ι → Cx} {a : Addr} {vs : List V} {rest : List Stmt} {D : Ends} {σ : L2.St} {H : Hp} (h : H a = some (.lst vs)) (q : ∀ o, LX vs o → wSs F rest D σ (upd H a (exO a o))) : wSs F rest D σ H := by
  refine wSs_of (t := fun D σ H => H a = some (.lst vs) ∧ ∀ o, LX vs o → wSs F rest D σ (upd H a (exO a o))) (fun i => ⟨fun pins s σ H D I ⟨h, q⟩ => ?_⟩) ⟨h, q⟩
  obtain ⟨z, its, n, r, e⟩ := I.hok a _ h
  have I2 : Inv (F i) pins σ (upd H a (exO a { cls := .type "list", data := .seq its.toArray n })) s := I.write (h' := s.heap) (t' := s.toks) (x := a) (e := a) (by rw [h]; trivial) (.inl rfl) (fun _ _ _ z => z) ⟨_, e⟩ (exO_ok e)
  exact (wSs_ok i).run pins s σ _ D I2 (q _ ⟨⟨its, n, rfl, r⟩, z⟩)
theorem ws_untag {F : ι → Cx} {a : Addr} {vs : List V} {o : Obj} {rest : List Stmt} {D : Ends} {σ : L2.St} {H : Hp} (h : H a = some (exO a o)) (l : LX vs o) (q : wSs F rest D σ (upd H a (.lst vs))) : wSs F rest D σ H := by
  refine wSs_of (t := fun D σ H => H a = some (exO a o) ∧ wSs F rest D σ (upd H a (.lst vs))) (fun i => ⟨fun pins s σ H D I ⟨h, q⟩ => ?_⟩) ⟨h, q⟩
  obtain ⟨its, n, rfl, r⟩ := l.ex
  have e := exO_get I.hok h
  have I2 : Inv (F i) pins σ (upd H a (.lst vs)) s := I.write (h' := s.heap) (t' := s.toks) (x := a) (e := a) (by rw [h]; trivial) (.inl rfl) (fun _ _ _ z => z) ⟨_, e⟩ ⟨l.sz, its, n, r, e⟩
  exact (wSs_ok i).run pins s σ _ D I2 q
/-- a list of these data, as an exact object -/
def AccX (K : PySem.W.Frag) (H : Hp) (a : Addr) (xs : List PyData) : Prop := ∃ o vs, H a = some (exO a o) ∧ LX vs o ∧ DpAll K H vs xs
theorem AccX.ex {K : PySem.W.Frag} {H H' : Hp} {a : Addr} {xs : List PyData} (h : AccX K H a xs) (e : Ex H H') : AccX K H' a xs :=
  let ⟨o, vs, h1, h2, h3⟩ := h
  ⟨o, vs, e _ _ h1, h2, dpa_of (fun _ _ => (kp_ex K).sl_ e) (fun _ _ => (kp_ex K).st_ e) h3⟩
/-- slots that hold no lists -/
def simpS : Sd → Bool
  | [] => true
  | none :: r => simpS r
  | some (.v _) :: r => simpS r
  | some (.d x) :: r => noL x && simpS r
  | some (.l _) :: _ => false
theorem simp_at : ∀ {ds : Sd}, simpS ds = true → ∀ (i : Nat) (r : SV), ds[i]? = some (some r) → (∃ w, r = .v w) ∨ ∃ x, r = .d x ∧ noL x = true
  | [], _, i, r, e => by cases i <;> cases e
  | none :: ds, h, i, r, e => by
    cases i with
    | zero => cases e
    | succ i => exact simp_at (ds := ds) h i r (by simpa using e)
  | some (.v w) :: ds, h, i, r, e => by
    cases i with
    | zero => cases e; exact .inl ⟨_, rfl⟩
    | succ i => exact simp_at (ds := ds) h i r (by simpa using e)
  | some (.d x) :: ds, h, i, r, e => by
    have h : (noL x && simpS ds) = true := h
    rw [Bool.and_eq_true] at h
    cases i with
    | zero => cases e; exact .inr ⟨_, rfl, h.1⟩
    | succ i => exact simp_at (ds := ds) h.2 i r (by simpa using e)
  | some (.l _) :: ds, h, _, _, _ => nomatch h
theorem sqt_any {K : PySem.W.Frag} {H : Hp} {a : Addr} {vs : List V} {u : HO} (h : H a = some (.lst vs)) (b : Addr) (xs : List V) (q : SqT K H b xs) : SqT K (upd H a u) b xs := by
  have ne : ∀ w, H b = some w → (∀ ys, w ≠ .lst ys) → b ≠ a := fun w hb n e => by
    subst e
    rw [h] at hb
    exact n vs (Option.some.inj hb).symm
  rcases q with (q | ⟨z, q⟩) | q
  · exact .inl (.inl (by rw [upd_ne (ne _ q fun _ z => nomatch z)]; exact q))
  · exact .inl (.inr ⟨z, by rw [upd_ne (ne _ q fun _ z => nomatch z)]; exact q⟩)
  · exact .inr q
mutual
theorem dp_noT {K : PySem.W.Frag} {H H' : Hp} (ht : ∀ a xs, SqT K H a xs → SqT K H' a xs) : ∀ {v : V} {d : PyData}, Dp K H v d → noL d = true → Dp K H' v d
  | _, _, .non, _ => .non
  | _, _, .bl b, _ => .bl b
  | _, _, .int i, _ => .int i
  | _, _, .str x, _ => .str x
  | _, _, .lst _ _, h => nomatch h
  | _, _, .tup q a, h => .tup (ht _ _ q) (dpa_noT ht a h)
theorem dpa_noT {K : PySem.W.Frag} {H H' : Hp} (ht : ∀ a xs, SqT K H a xs → SqT K H' a xs) : ∀ {vs : List V} {ds : List PyData}, DpAll K H vs ds → noL.noLs ds = true → DpAll K H' vs ds
  | _, _, .nil, _ => .nil
  | _, _, .cons a t, h => by
    have h' := h
    unfold noL.noLs at h'
    rw [Bool.and_eq_true] at h'
    exact .cons (dp_noT ht a h'.1) (dpa_noT ht t h'.2)
end
theorem simp_sl {K : PySem.W.Frag} {H H' : Hp} {σ : L2.St} {ds : Sd} (q : Sl K H σ ds) (hs : simpS ds = true) (ht : ∀ a xs, SqT K H a xs → SqT K H' a xs) : Sl K H' σ ds := by
  refine ⟨q.1, fun i r e => ?_⟩
  obtain ⟨v, e1, d⟩ := q.2 i r e
  refine ⟨v, e1, ?_⟩
  rcases simp_at hs i r e with ⟨w, rfl⟩ | ⟨x, rfl, n⟩
  · exact d
  · exact dp_noT ht d n
/-- x = [], kept exact -/
theorem ws_newX (ok : m.Ok) (j : Nat) {x : Str} {rest : List Stmt} {D : Ends} {p p2 : Pos} {σ : L2.St} {H : Hp} (hN : m.S.N[j]? = some x) (hs : Sl m.S.K H σ ds)
    (q : ∀ H1 a o, Ex H H1 → H a = none → AccX m.S.K H1 a [] → H1 = upd H a (exO a o) → Sl m.S.K H1 (σ.set j (some (.ref a))) (ds.set j (some (.v (.ref a)))) → wSs m.F rest D (σ.set j (some (.ref a))) H1)
    (hl : ∀ i, Loc (m.F i).env.scope x := by intro _; first | exact Or.inl rfl | exact Or.inr rfl) (hsw : ∀ i, swapsWith (.List [] p2) (some (.Name x p)) pos.line (m.F i).env = pure false := by intro _; rfl)
    (hf : ∀ i, (m.F i).fn x = true ∨ (m.F i).env.scope.names.lookup x = some .local := by intro _; first | exact Or.inl rfl | exact Or.inr rfl) : wSs m.F (.Assign [.Name x p] (.List [] p2) pos :: rest) D σ H := by
  refine wSs_cons (wS_of (t := tAsg (wE m.F (.List [] p2)) (gName j)) (fun i => ps_set (by rw [ok.hN i]; exact ok.nd) (by rw [ok.hN i]; exact hN) (hl i) (wE_ok i) (hsw i) (hf i)) ?_)
  refine wE_of (fun i => pe_lst (wA_ok i)) (wA_of (fun _ => pa_nil) ?_)
  refine ⟨Nat.zero_le _, fun a na => ?_⟩
  refine ws_tag (a := a) upd_same fun o lo => ?_
  rw [upd_upd]
  have e1 : Ex H (upd H a (exO a o)) := Ex.new na
  refine q _ a o e1 na ⟨o, [], upd_same, lo, .nil⟩ rfl ?_
  exact ((ok.sl (ok.ex e1) hs).set (r := .v (.ref a)) j rfl)
end
/-! Appends to an exact list; loops whose turns change more than what is walked. -/
section
variable {ι : Type} {m : Mo ι} {ds : Sd} {pos : Pos}
theorem ws_appX (ok : m.Ok) (j : Nat) {x : Str} {e : Expr} {a : Addr} {xs : List PyData} {y : PyData} {rest : List Stmt} {D : Ends} {p1 ap cp : Pos} {σ : L2.St} {H : Hp} (hN : m.S.N[j]? = some x) (hd : ds[j]? = some (some (.v (.ref a)))) (hs : Sl m.S.K H σ ds) (hsi : simpS ds = true) (hX : AccX m.S.K H a xs) (hxs : noL.noLs xs = true) (hz : xs.length ≤ 10000)
    (he : ∀ vs, EV (m.at_ (upd H a (.lst vs))) ds e (.d y)) (hy : noL y = true)
    (q : ∀ vs H2 o, m.R (upd H a (.lst vs)) H2 → AccX m.S.K (upd H2 a (exO a o)) a (xs ++ [y]) → Sl m.S.K (upd H2 a (exO a o)) σ ds → wSs m.F rest D σ (upd H2 a (exO a o)))
    (hv : ∀ i, Vis (m.F i).env.scope x) (h1 : (x == ("__debug__" : Str)) = false := by decide) (h2 : (x == ("__classdict__" : Str)) = false := by decide)
    (hbase : ∀ i, attributeBase (.Name x p1) "append" (m.F i).env (eval (.Name x p1) (m.F i).env) = eval (.Name x p1) (m.F i).env := by intro _; rfl)
    (hfew : ∀ i, ((backTo cp (starEach [e] (m.F i).env)).all (fun x => !x.1) && (backToKw cp (keywordEach [] (m.F i).env)).all (fun x => x.1.isSome) && decide ([e].length + ([] : List Keyword).length + (if ([] : List Keyword).isEmpty then 0 else 1) < 30)) = true := by intro _; rfl)
    (hline : (ap.endLine == cp.line) = true := by rfl) (hst : ∀ i, starEach [e] (m.F i).env = (false, eval e (m.F i).env) :: starEach [] (m.F i).env := by intro _; rfl) (hplain : ∀ i, (backTo cp (starEach [] (m.F i).env)).any (·.1) = false := by intro _; rfl)
    (hsw : ∀ i, swapsWith (.Call (.Attribute (.Name x p1) "append" ap) [e] [] cp) none pos.line (m.F i).env = pure false := by intro _; rfl) :
    wSs m.F (.Expr (.Call (.Attribute (.Name x p1) "append" ap) [e] [] cp) pos :: rest) D σ H := by
  obtain ⟨o, vs, hX1, hX2, hX3⟩ := hX
  refine ws_untag hX1 hX2 ?_
  have sl1 : Sl m.S.K (upd H a (.lst vs)) σ ds := opq_slots hX1 opq_exO hs
  have d1 : DpAll m.S.K (upd H a (.lst vs)) vs xs := opq_dpa hX1 opq_exO hX3
  refine wSs_cons (wS_of (t := tDrop (tBM m.S.K "list" rAppend (wE m.F (.Name x p1)) (wA m.F [e]))) (fun i => ps_expr (by rw [← ok.hK i]; exact pe_bm (es := []) PySem.F.plainAttrs_list PySem.F.slot_list_append PySem.F.type_list_append mt_append (wE_ok i) (wA_ok i) (hbase i) (hfew i) hline (hst i) (hplain i)) (hsw i)) ?_)
  refine ev_var (ok.at_ (upd H a (.lst vs))) j hN hd hv h1 h2 σ _ (ok.refl _) sl1 _ fun v H1 r1 dv => ?_
  obtain rfl : v = V.ref a := dv
  have e1 : H1 a = some (.lst vs) := ok.lk r1 upd_same
  refine ⟨.inl ⟨rfl, _, SqL.of e1⟩, ea_one (ok.at_ (upd H a (.lst vs))) (he vs) hst σ H1 r1 (ok.sl r1 sl1) _ fun ys H2 r2 d2 => ?_⟩
  obtain ⟨u, rfl, du⟩ := dqa1 d2
  have r12 := ok.trans r1 r2
  have e2 : H2 a = some (.lst vs) := ok.lk r2 e1
  have dl := dpa_len d1
  refine ⟨a, vs, u, rfl, rfl, e2, Nat.lt_of_lt_of_le (show vs.length < 20000 by omega) (by decide), ?_⟩
  refine ws_tag (a := a) upd_same fun o' lo => ?_
  rw [upd_upd]
  have st := fun b zs (z : SqT m.S.K H2 b zs) => sqt_any (u := exO a o') e2 b zs z
  refine q vs H2 o' r12 ⟨o', vs ++ [u], upd_same, lo, ?_⟩ (simp_sl (ok.sl r12 sl1) hsi st)
  exact dpa_snoc (dpa_noT st (ok.dpa r12 d1) hxs) (dp_noT st du hy)
/-- e; -/
theorem bd_expr (ok : m.Ok) {e : Expr} {Post : V → Hp → Prop} {rest : List Stmt} {D : Ends} (h : EX m ds e Post) (q : BD m ds rest D) (hsw : ∀ i, swapsWith e none pos.line (m.F i).env = pure false := by intro _; rfl) : BD m ds (.Expr e pos :: rest) D := fun σ H hr hs =>
  wSs_cons (wS_of (t := tDrop (wE m.F e)) (fun i => ps_expr (wE_ok i) (hsw i)) (h σ H hr hs _ fun v H1 r1 _ => q σ H1 (ok.trans hr r1) (ok.sl r1 hs)))
/-! #### loops with two relations -/
def IVR (m : Mo ι) (R' : Hp → Hp → Prop) (ds : Sd) (tg iter : Expr) (n : Nat) (Y : Nat → PyData) : Prop := ∀ σ H, m.R m.H0 H → Sl m.S.K H σ ds → ∀ Q : It → Hp → Prop,
  (∀ J H1 (G : Hp → Prop), m.R H H1 → (∀ H2, R' H1 H2 → G H2) → Walk J n G (fun i H v H' => Ex H H' ∧ (R' H1 H → Dp m.S.K H' v (Y i))) → Q J H1) → wI m.F tg iter σ H Q
variable {R' : Hp → Hp → Prop}
theorem kp_dpa {K : PySem.W.Frag} {R : Hp → Hp → Prop} (kp : Kp K R) {H H' : Hp} {vs : List V} {xs : List PyData} (r : R H H') (d : DpAll K H vs xs) : DpAll K H' vs xs := dpa_of (fun _ _ => kp.sl_ r) (fun _ _ => kp.st_ r) d
theorem ivr_list (ok : m.Ok) (kp : Kp m.S.K R') {tg iter : Expr} {xs : List PyData} (h : EV m ds iter (.d (.list xs))) : IVR m R' ds tg iter xs.length fun i => xs.getD i .none := fun σ H hr hs Q q => by
  refine wI_of (t := iList m.S.K (wE m.F iter)) (fun i => by rw [← ok.hK i]; exact pi_list (wE_ok i)) (h σ H hr hs _ fun v H1 r1 q1 => ?_)
  obtain ⟨a, vs, rfl, hq, hv⟩ := Dp.lst_inv q1
  refine ⟨a, rfl, ⟨vs, hq⟩, q _ H1 (fun H => SqL m.S.K H a vs) r1 (fun H2 r2 => kp.sl_ r2 hq) ?_⟩
  rw [← dpa_len hv]
  refine walk_list.mono (fun _ z => z) fun i H v H' hi _ y => ⟨by rw [y.1]; exact Ex.refl H, fun r => ?_⟩
  obtain ⟨x, hx, dx⟩ := dpa_get' (kp_dpa kp r hv) y.2
  show Dp m.S.K H' v (xs.getD i .none)
  rw [y.1, List.getD_eq_getElem?_getD, hx]
  exact dx
theorem ivr_zipT (ok : m.Ok) (kp : Kp m.S.K R') {e f : Expr} {xs ys : List PyData} {p tpos : Pos} {elts : List Expr} {kk : Nat} (hm : m.S.mg "zip" = none) (h : EV m ds e (.d (.tuple xs))) (h' : EV m ds f (.d (.tuple ys))) (hg : ∀ i, Gl (m.F i) "zip" := by intro _; rfl)
    (he : ∀ i, starEach [e, f] (m.F i).env = (false, eval e (m.F i).env) :: starEach [f] (m.F i).env := by intro _; rfl) (he2 : ∀ i, starEach [f] (m.F i).env = (false, eval f (m.F i).env) :: starEach [] (m.F i).env := by intro _; rfl) (hpl : ∀ i, (backTo pos (starEach [f] (m.F i).env)).any (·.1) = false := by intro _; rfl) :
    IVR m R' ds (.Tuple elts kk tpos) (.Call (.Name "zip" p) [e, f] [] pos) (min xs.length ys.length) fun i => .tuple [xs.getD i .none, ys.getD i .none] := fun σ H hr hs Q q => by
  refine wI_of (t := RZ.iZipA m.S.K (wA m.F [e, f])) (fun i => by rw [← ok.hK i]; exact RZ.pi_zipA (hg i) (by rw [ok.hm i]; exact hm) (wA_ok i) (he i) (hpl i)) (ea_two ok h h' he he2 σ H hr hs _ fun vs H1 r1 q1 => ?_)
  obtain ⟨v, v', rfl, d, d'⟩ := dqa2 q1
  obtain ⟨a, us, rfl, hq, hv⟩ := Dp.tup_inv d
  obtain ⟨b, ws, rfl, hq', hv'⟩ := Dp.tup_inv d'
  refine ⟨a, b, us, ws, rfl, .inr ⟨hq, hq', q _ H1 (fun H => SqT m.S.K H a us ∧ SqT m.S.K H b ws) r1 (fun H2 r2 => ⟨kp.st_ r2 hq, kp.st_ r2 hq'⟩) ?_⟩⟩
  exact (walk_zipT (by rw [dpa_len hv, dpa_len hv'])).mono (fun _ z => z) fun i H v H' hi _ y => pair_dp (ok.on kp H1) hv hv' y
theorem ivr_range1 (ok : m.Ok) {tg e : Expr} {n : Int} {p : Pos} (hm : m.S.mg "range" = none) (h : EV m ds e (.d (.int n))) (hn : -1000 ≤ n ∧ n ≤ 1000) (hg : ∀ i, Gl (m.F i) "range" := by intro _; rfl)
    (he : ∀ i, starEach [e] (m.F i).env = (false, eval e (m.F i).env) :: starEach [] (m.F i).env := by intro _; rfl) : IVR m R' ds tg (.Call (.Name "range" p) [e] [] pos) n.toNat fun i => .int i := fun σ H hr hs Q q => by
  refine wI_of (t := iRng1 (wA m.F [e])) (fun i => pi_range1 (hg i) (by rw [ok.hm i]; exact hm) (wA_ok i) (by rw [he i]; rfl)) (ea_one ok h he σ H hr hs _ fun vs H1 r1 q1 => ?_)
  obtain ⟨v, rfl, d⟩ := dqa1 q1
  refine ⟨n, by rw [Dp.int_inv d], by omega, by omega, q _ H1 (fun _ => True) r1 (fun _ _ => trivial) ?_⟩
  refine walk_range.mono (fun _ z => z) fun i H v H' hi _ y => ⟨by rw [y.1]; exact Ex.refl H, fun r => ?_⟩
  rw [y.2]
  show Dp m.S.K H' (.int (0 + (i : Int))) (.int i)
  rw [Int.zero_add]
  exact .int _
theorem ivr_down (ok : m.Ok) {tg e f g : Expr} {hi lo : Int} {p : Pos} (hm : m.S.mg "range" = none) (h : EV m ds e (.d (.int hi))) (h' : EV m ds f (.d (.int lo))) (h'' : EV m ds g (.d (.int (-1)))) (hn : (-1000 ≤ lo ∧ lo ≤ 1000) ∧ -1000 ≤ hi ∧ hi ≤ 1000) (hg : ∀ i, Gl (m.F i) "range" := by intro _; rfl)
    (he : ∀ i, starEach [e, f, g] (m.F i).env = (false, eval e (m.F i).env) :: starEach [f, g] (m.F i).env := by intro _; rfl) (he2 : ∀ i, starEach [f, g] (m.F i).env = (false, eval f (m.F i).env) :: starEach [g] (m.F i).env := by intro _; rfl) (he3 : ∀ i, starEach [g] (m.F i).env = (false, eval g (m.F i).env) :: starEach [] (m.F i).env := by intro _; rfl) :
    IVR m R' ds tg (.Call (.Name "range" p) [e, f, g] [] pos) (hi - lo).toNat fun i => .int (hi - i) := fun σ H hr hs Q q => by
  refine wI_of (t := iRng3 (wA m.F [e, f, g])) (fun i => pi_range3 (hg i) (by rw [ok.hm i]; exact hm) (wA_ok i) (he i) (by rw [he2 i, he3 i]; rfl)) (ea_cons ok h (ea_two ok h' h'' he2 he3) he σ H hr hs _ fun vs H1 r1 q1 => ?_)
  obtain ⟨v, v', v'', rfl, d, d', d''⟩ := dqa3 q1
  refine ⟨hi, lo, -1, (hi - lo).toNat, by rw [Dp.int_inv d, Dp.int_inv d', Dp.int_inv d''], RgC.neg (by omega) (by omega) (by omega) (by omega), q _ H1 (fun _ => True) r1 (fun _ _ => trivial) ?_⟩
  refine walk_rangeC.mono (fun _ z => z) fun i H v H' hi' _ y => ⟨by rw [y.1]; exact Ex.refl H, fun r => ?_⟩
  rw [y.2]
  show Dp m.S.K H' (.int (hi + (i : Nat) * -1)) (.int (hi - i))
  rw [show hi + (i : Int) * -1 = hi - i from by omega]
  exact .int _
theorem ws_forR (ok : m.Ok) (kp : Kp m.S.K R') {tg iter : Expr} {body rest : List Stmt} {D : Ends} {n : Nat} {Y : Nat → PyData} {σ : L2.St} {H : Hp} (hr : m.R m.H0 H) (hs : Sl m.S.K H σ ds) (hi : IVR m R' ds tg iter n Y) (I : Nat → Sd → Hp → Prop) (hst : ∀ i ds' H H', Ex H H' → I i ds' H → I i ds' H') (h0 : ∀ H1, m.R H H1 → I 0 ds H1)
    (ht : ∀ H1, m.R H H1 → (m.on R' H1).Ok → ∀ i v ds' σ' H', i < n → R' H1 H' → I i ds' H' → Sl m.S.K H' σ' ds' → Dp m.S.K H' v (Y i) → wG m.F tg v σ' H' fun σ2 H2 => wSs m.F body { D with nx := Nx (m.on R' H1) (I (i + 1)), ct := Nx (m.on R' H1) (I (i + 1)), bk := fun σ H => wSs m.F rest D σ H } σ2 H2)
    (hd : ∀ H1 ds' σ' H', m.R H H1 → R' H1 H' → I n ds' H' → Sl m.S.K H' σ' ds' → wSs m.F rest D σ' H')
    (hp : ∀ i, PassesOwn (model (m.F i).prog (m.F i).w) (m.F i).A (m.F i).env (m.F i).xe := by intro _; exact PassesOwn.never) (hf : ∀ i, ∀ x, foldedSetIterable iter (m.F i).env x = pure x := by intro _ _; rfl) : wSs m.F (.For tg iter body [] pos :: rest) D σ H := by
  refine wSs_cons (wS_of (t := tFor (wI m.F tg iter) (wG m.F tg) (wSs m.F body)) (fun i => ps_for (hp i) (ok.calm i) (wI_ok i) (wG_ok i) (wSs_ok i) (hf i)) (hi σ H hr hs _ fun J H1 G r1 hG w => ?_))
  have ok2 := ok.on kp H1
  refine for_it w (Nx (m.on R' H1) <| I ·) ⟨ds, kp.refl H1, h0 H1 r1, ok.sl r1 hs⟩ (fun i σ' H' _ ⟨ds', k1, _⟩ => hG H' k1) (fun i x σ' H' H'' hi' ⟨ds', k1, k2, k3⟩ y => ?_) (fun σ' H' ⟨ds', k1, k2, k3⟩ => hd H1 ds' σ' H' r1 k1 k2 k3)
  have e := y.1
  exact ht H1 r1 ok2 i x ds' σ' H'' hi' (kp.trans k1 (kp.ex e)) (hst i ds' H' H'' e k2) (ok2.sl (kp.ex e) k3) (y.2 k1)
end
/-! check_known, place_behind, ends_of, check_opponents. -/
def resN : List Str := ["win", "draw", "loss"]
/-- the place behind a game that the player at p wins (0), draws, loses (2) -/
def mineM (b : Bk) (p o : Int × Int) (j : Nat) : Int × Int :=
  if o.1 ≤ p.1 then (match gameM b p o j with | none => p | some q => q.1) else (match gameM b o p (2 - j) with | none => p | some q => q.2)
section
variable {P : Program} {w : World} {K : PySem.W.Frag} {mg : Str → Option Value} {base : Heap}
def rCheckKnown (K : PySem.W.Frag) (rs : List SV) (H : Hp) (r : SV) : Prop := ∃ a b p, rs = [.v (.ref a), .d (plD p)] ∧ BookAt K H a b ∧ InBk b p ∧ r = .d .none
theorem ok_checkknown (T : Tx K mg) : CallOk P w K mg base "check_known" 4 (SpR K (rCheckKnown K)) := by
  have C1 := in_book (P := P) (w := w) (base := base) T
  obtain ⟨fd, F⟩ := D_checkknown T
  refine call_of F (fn_pure F sc_checkknown (fun rs H r ⟨_, _, _, e, _⟩ => by rw [e]; rfl) ?_) (g_checkknown T) (fun _ _ _ _ _ _ us hl => match us, hl with | [_, _], _ => rfl)
  rintro cdv A outer s H E Q rs r hr ⟨a, b, p, rfl, hb, hp, rfl⟩ ok hQ
  refine bd_if0 ok (tv_notInO ok C1 (Nat.le_of_ble_eq_true rfl) (r := .d (plD p)) (b := true) (by walk_at "ev") (by walk_at "ev") (fun H' e => (hb.ex e).ins) fun H' e => ⟨a, b, p, rfl, hb.ex e, by rw [inBk_dec hp]; rfl⟩) rfl ?_
  exact bd_nil fun σ H' e _ => hQ _ H' e .non
def rBehind (K : PySem.W.Frag) (rs : List SV) (H : Hp) (r : SV) : Prop := ∃ (a : Addr) (b : Bk) (p o : Int × Int) (j : Nat) (z : Str), rs = [.v (.ref a), .d (plD p), .d (plD o), .d (.str z)] ∧ BookAt K H a b ∧ BkOk b ∧ InBk b p ∧ InBk b o ∧ resN[j]? = some z ∧ r = .d (plD (mineM b p o j))
theorem nodup_before {ss : List Str} (nd : ss.Nodup) {j : Nat} {z : Str} (hz : ss[j]? = some z) : ∀ l, l < j → ss[l]? ≠ some z := by
  intro l' hl' h2
  obtain ⟨h3, h4⟩ := List.getElem?_eq_some_iff.mp hz
  obtain ⟨h5, h6⟩ := List.getElem?_eq_some_iff.mp h2
  have := (List.getElem_inj (h₀ := h5) (h₁ := h3) nd).mp (h6.trans h4.symm)
  omega
theorem ok_placebehind (T : Tx K mg) : CallOk P w K mg base "place_behind" 5 (SpR K (rBehind K)) := by
  have C1 := ok_bkgame (P := P) (w := w) (base := base) T
  obtain ⟨fd, F⟩ := D_placebehind T
  refine call_of F (fn_pure F sc_placebehind (fun rs H r ⟨_, _, _, _, _, _, e, _⟩ => by rw [e]; rfl) ?_) (g_placebehind T) (fun _ _ _ _ _ _ us hl => match us, hl with | [_, _, _, _], _ => rfl)
  rintro cdv A outer s H E Q rs r hr ⟨a, b, p, o, j, z, rfl, hb, hk, hp, ho, hz, rfl⟩ ok hQ
  have hB : ∀ H', Ex H H' → BookAt K H' a b := fun H' e => hb.ex e
  have hj : j < 3 := (List.getElem?_eq_some_iff.mp hz).1
  have hst : ∀ {H1 H2 : Hp} {c xs}, Ex H1 H2 → H1 c = some (.tup xs) → H2 c = some (.tup xs) := fun e h => e _ _ h
  have hnb := nodup_before (show resN.Nodup by decide) hz
  cases hup : decide (o.1 ≤ p.1) with
  | true =>
    have hle := of_decide_eq_true hup
    obtain ⟨y, hy⟩ : ∃ y, names3[j]? = some y := ⟨_, List.getElem?_eq_getElem (by exact hj)⟩
    refine bd_asg ok 4 (r := .d (.bool true)) rfl ((ev_ge ok (x := p.1) (y := o.1) (ev_ixT ok (xs := [.int p.1, .int p.2]) (by walk_at "ev") (ev_int ok) (atI_get (n := 0) rfl) (fun _ _ => rfl)) (ev_ixT ok (xs := [.int o.1, .int o.2]) (by walk_at "ev") (ev_int ok) (atI_get (n := 0) rfl) (fun _ _ => rfl))).cast (by rw [hup])) ?_
    refine bd_asg ok 5 (r := .d (.tuple [.str "upper", .str "draw", .str "lower"])) rfl (ev_ifR ok (tv_val ok (by walk_at "ev")) (fun _ => ev_tup3 ok (ev_str ok) (ev_str ok) (ev_str ok)) (fun h => by cases h)) ?_
    refine bd_asg ok 6 (r := .d (.str y)) rfl (ev_ixT ok (xs := [.str "upper", .str "draw", .str "lower"]) (by walk_at "ev") (ev_tupIx ok resN j (ea_cons ok (ev_str ok) (ea_two ok (ev_str ok) (ev_str ok))) (by walk_at "ev") (by decide) hz hnb hst) (atI_get (by match j, hj, hy with | 0, _, h => cases h; rfl | 1, _, h => cases h; rfl | 2, _, h => cases h; rfl)) (fun _ _ => rfl)) ?_
    refine bd_asg ok 7 (r := .d (gameD (gameM b p o j))) rfl (ev_ifR ok (tv_val ok (by walk_at "ev")) (fun _ => ev_meth ok C1 (Nat.le_of_ble_eq_true rfl) (by walk_at "ev") (fun H' e => (hB H' e).at_ fun _ => rfl) (ea_cons ok (by walk_at "ev") (ea_two ok (by walk_at "ev") (by walk_at "ev"))) fun H' e => ⟨a, b, p, o, j, y, rfl, hB H' e, hk, hp, ho, hle, hy, rfl⟩) (fun h => by cases h)) ?_
    have hM : mineM b p o j = (match gameM b p o j with | none => p | some q => q.1) := by unfold mineM; rw [if_pos hle]
    cases hg : gameM b p o j with
    | none =>
      rw [hg] at hM
      refine bd_ifr ok (tv_isN ok (x := .none) (by walk_at "ev")) (fun _ => bd_retC ok hQ (by walk_at "ev") (by rw [hM])) (fun h => by cases h)
    | some q =>
      rw [hg] at hM
      refine bd_if0 ok (tv_isN ok (x := .tuple [plD q.1, plD q.2]) (by walk_at "ev")) rfl ?_
      refine bd_retC ok hQ (ev_ifR ok (tv_val ok (by walk_at "ev")) (fun _ => ev_ixT ok (xs := [plD q.1, plD q.2]) (by walk_at "ev") (ev_int ok) (atI_get (n := 0) rfl) (fun _ _ => rfl)) (fun h => by cases h)) (by rw [hM])
  | false =>
    have hle := of_decide_eq_false hup
    obtain ⟨y, hy⟩ : ∃ y, names3[2 - j]? = some y := ⟨_, List.getElem?_eq_getElem (by show 2 - j < 3; omega)⟩
    refine bd_asg ok 4 (r := .d (.bool false)) rfl ((ev_ge ok (x := p.1) (y := o.1) (ev_ixT ok (xs := [.int p.1, .int p.2]) (by walk_at "ev") (ev_int ok) (atI_get (n := 0) rfl) (fun _ _ => rfl)) (ev_ixT ok (xs := [.int o.1, .int o.2]) (by walk_at "ev") (ev_int ok) (atI_get (n := 0) rfl) (fun _ _ => rfl))).cast (by rw [hup])) ?_
    refine bd_asg ok 5 (r := .d (.tuple [.str "lower", .str "draw", .str "upper"])) rfl (ev_ifR ok (tv_val ok (by walk_at "ev")) (fun h => by cases h) (fun _ => ev_tup3 ok (ev_str ok) (ev_str ok) (ev_str ok))) ?_
    refine bd_asg ok 6 (r := .d (.str y)) rfl (ev_ixT ok (xs := [.str "lower", .str "draw", .str "upper"]) (by walk_at "ev") (ev_tupIx ok resN j (ea_cons ok (ev_str ok) (ea_two ok (ev_str ok) (ev_str ok))) (by walk_at "ev") (by decide) hz hnb hst) (atI_get (by match j, hj, hy with | 0, _, h => cases h; rfl | 1, _, h => cases h; rfl | 2, _, h => cases h; rfl)) (fun _ _ => rfl)) ?_
    refine bd_asg ok 7 (r := .d (gameD (gameM b o p (2 - j)))) rfl (ev_ifR ok (tv_val ok (by walk_at "ev")) (fun h => by cases h) (fun _ => ev_meth ok C1 (Nat.le_of_ble_eq_true rfl) (by walk_at "ev") (fun H' e => (hB H' e).at_ fun _ => rfl) (ea_cons ok (by walk_at "ev") (ea_two ok (by walk_at "ev") (by walk_at "ev"))) fun H' e => ⟨a, b, o, p, 2 - j, y, rfl, hB H' e, hk, ho, hp, by omega, hy, rfl⟩)) ?_
    have hM : mineM b p o j = (match gameM b o p (2 - j) with | none => p | some q => q.2) := by unfold mineM; rw [if_neg hle]
    cases hg : gameM b o p (2 - j) with
    | none =>
      rw [hg] at hM
      refine bd_ifr ok (tv_isN ok (x := .none) (by walk_at "ev")) (fun _ => bd_retC ok hQ (by walk_at "ev") (by rw [hM])) (fun h => by cases h)
    | some q =>
      rw [hg] at hM
      refine bd_if0 ok (tv_isN ok (x := .tuple [plD q.1, plD q.2]) (by walk_at "ev")) rfl ?_
      refine bd_retC ok hQ (ev_ifR ok (tv_val ok (by walk_at "ev")) (fun h => by cases h) (fun _ => ev_ixT ok (xs := [plD q.1, plD q.2]) (by walk_at "ev") (ev_int ok) (atI_get (n := 1) rfl) (fun _ _ => rfl))) (by rw [hM])
end
/-! ends_of, check_opponents. -/
section
variable {K : PySem.W.Frag} {H H' : Hp} {σ : L2.St} {ds : Sd}
theorem sl_as {j : Nat} {v : V} {r : SV} (q : Sl K H σ ds) (h : ds[j]? = some (some (.v v))) (d : Dq K H v r) : Sl K H σ (ds.set j (some r)) := by
  refine ⟨by rw [List.length_set]; exact q.1, fun i r' e => ?_⟩
  by_cases hij : j = i
  · subst hij
    have hl : j < ds.length := (List.getElem?_eq_some_iff.mp h).1
    rw [List.getElem?_set_self hl] at e
    cases e
    obtain ⟨v', e1, e2⟩ := q.2 j _ h
    rw [show v' = v from e2] at e1
    exact ⟨v, e1, d⟩
  · rw [List.getElem?_set_ne hij] at e
    exact q.2 i r' e
theorem BookAt.rx {S : List Addr} {G : Hp → Prop} {a : Addr} {b : Bk} (h : BookAt K H a b) (g : Gok G) (r : RXS S G H H') : BookAt K H' a b :=
  let ⟨dx, vt, h1, h2⟩ := h
  ⟨dx, vt, r.1 _ _ h1 fun _ => id, dp_of (fun _ _ => (kp_rxs g).sl_ r) (fun _ _ => (kp_rxs g).st_ r) h2⟩
theorem ChAt.rx {S : List Addr} {G : Hp → Prop} {a : Addr} {rows : List Cw} (h : ChAt K H a rows) (g : Gok G) (r : RXS S G H H') : ChAt K H' a rows :=
  let ⟨dx, vt, h1, h2⟩ := h
  ⟨dx, vt, r.1 _ _ h1 fun _ => id, dp_of (fun _ _ => (kp_rxs g).sl_ r) (fun _ _ => (kp_rxs g).st_ r) h2⟩
theorem ne_exO {c a : Addr} {o : Obj} {u : HO} (h : H a = some (exO a o)) (hc : H c = some u) (hu : ¬ IsExt u) : c ≠ a := by
  rintro rfl
  rw [h] at hc
  cases hc
  exact hu trivial
theorem BookAt.upd {a c : Addr} {b : Bk} {o : Obj} {u : HO} (h : BookAt K H c b) (ha : H a = some (exO a o)) : BookAt K (upd H a u) c b :=
  let ⟨dx, vt, h1, h2⟩ := h
  ⟨dx, vt, by rw [upd_ne (ne_exO ha h1 id)]; exact h1, opq_dp ha opq_exO h2⟩
theorem ChAt.upd {a c : Addr} {rows : List Cw} {o : Obj} {u : HO} (h : ChAt K H c rows) (ha : H a = some (exO a o)) : ChAt K (upd H a u) c rows :=
  let ⟨dx, vt, h1, h2⟩ := h
  ⟨dx, vt, by rw [upd_ne (ne_exO ha h1 id)]; exact h1, opq_dp ha opq_exO h2⟩
theorem ChAt.ins {a : Addr} {rows : List Cw} (h : ChAt K H a rows) : ∃ dx fs, H a = some (.ins (He.ga K "Chances") dx fs) := let ⟨dx, vt, h1, _⟩ := h; ⟨dx, _, h1⟩
end
def endsM (b : Bk) (rows : List Cw) (p : Int × Int) (s : Int) (o : Int × Int) (os : Int) : List (Fr × (Int × Int)) := (chM rows s os).zip [mineM b p o 0, mineM b p o 1, mineM b p o 2]
def enD (e : Fr × (Int × Int)) : PyData := .tuple [pr e.1, plD e.2]
theorem chM_len {rows : List Cw} (h : CcOk rows) (s o : Int) : (chM rows s o).length = 3 := by
  obtain ⟨x, hx⟩ := cwAt_some (d := absI (s - o)) h (by unfold absI; split <;> omega)
  unfold chM
  rw [hx]
  show (if s = o then _ else _ : List Fr).length = 3
  split
  · rfl
  · split <;> rfl
section
variable {P : Program} {w : World} {K : PySem.W.Frag} {mg : Str → Option Value} {base : Heap}
def rEnds (K : PySem.W.Frag) (rs : List SV) (H : Hp) (r : SV) : Prop := ∃ (ab ac : Addr) (b : Bk) (rows : List Cw) (p o : Int × Int) (s os : Int), rs = [.v (.ref ab), .v (.ref ac), .d (plD p), .d (.int s), .d (plD o), .d (.int os)] ∧ BookAt K H ab b ∧ BkOk b ∧ ChAt K H ac rows ∧ CcOk rows ∧ InBk b p ∧ InBk b o ∧ (0 ≤ s ∧ s ≤ 99) ∧ (0 ≤ os ∧ os ≤ 99) ∧ r = .l ((endsM b rows p s o os).map enD)
theorem ok_endsof (T : Tx K mg) : CallOk P w K mg base "ends_of" 6 (SpR K (rEnds K)) := by
  have C1 := ok_placebehind (P := P) (w := w) (base := base) T
  have C2 := ok_cccall (P := P) (w := w) (base := base) T
  obtain ⟨fd, F⟩ := D_endsof T
  refine call_of F (fn_pure F sc_endsof (fun rs H r ⟨_, _, _, _, _, _, _, _, e, _⟩ => by rw [e]; rfl) ?_) (g_endsof T) (fun _ _ _ _ _ _ us hl => match us, hl with | [_, _, _, _, _, _], _ => rfl)
  rintro cdv A outer st H E Q rs r hr ⟨ab, ac, b, rows, p, o, s, os, rfl, hb, hk, hc, hck, hp, ho, hs, hos, rfl⟩ ok hQ
  intro σ H0 hr0 hs0
  refine ws_newX ok 6 rfl hs0 fun H1 a oo e1 na hX hu hs1 => ?_
  have hb1 := hb.ex (Ex.trans hr0 e1)
  have hc1 := hc.ex (Ex.trans hr0 e1)
  have kp := kp_rxs (K := K) (S := [a]) gok_true
  have ok1 := ok.at_ H1
  have hcl := chM_len hck s os
  let zs : List PyData := (endsM b rows p s o os).map enD
  have zl : zs.length = 3 := by
    show ((endsM b rows p s o os).map enD).length = 3
    unfold endsM
    rw [List.length_map, List.length_zip, hcl]
    rfl
  have zn : ∀ i x, zs[i]? = some x → ∃ (f : Fr) (t : Str), ((chM rows s os).map pr).getD i .none = pr f ∧ (resN.map PyData.str).getD i .none = .str t ∧ resN[i]? = some t ∧ x = .tuple [pr f, plD (mineM b p o i)] := by
    intro i x hx
    have hi : i < 3 := by
      have := (List.getElem?_eq_some_iff.mp hx).1
      omega
    obtain ⟨f, hf⟩ : ∃ f, (chM rows s os)[i]? = some f := ⟨_, List.getElem?_eq_getElem (by omega)⟩
    obtain ⟨t, ht⟩ : ∃ t, resN[i]? = some t := ⟨_, List.getElem?_eq_getElem (by exact hi)⟩
    refine ⟨f, t, getD_map hf, getD_map ht, ht, ?_⟩
    have e2 : ([mineM b p o 0, mineM b p o 1, mineM b p o 2] : List (Int × Int))[i]? = some (mineM b p o i) := by
      match i, hi with
      | 0, _ => rfl
      | 1, _ => rfl
      | 2, _ => rfl
    have e3 : zs[i]? = some (enD (f, mineM b p o i)) := by
      show ((endsM b rows p s o os).map enD)[i]? = _
      unfold endsM
      have e4 : ((chM rows s os).zip [mineM b p o 0, mineM b p o 1, mineM b p o 2])[i]? = some (f, mineM b p o i) := List.getElem?_zip_eq_some.mpr ⟨hf, e2⟩
      rw [List.getElem?_map, e4]
      rfl
    rw [e3] at hx
    exact (Option.some.inj hx).symm
  have zN : ∀ x ∈ zs, noL x = true := by
    intro x hx
    obtain ⟨i, hi⟩ := List.mem_iff_getElem?.mp hx
    obtain ⟨f, t, _, _, _, rfl⟩ := zn i x hi
    rfl
  refine ws_forR ok1 kp (Ex.refl H1) hs1 (ivr_zipT ok1 kp (b_zip T) (xs := (chM rows s os).map pr) (ys := resN.map PyData.str) (ev_callO ok1 C2 (Nat.le_of_ble_eq_true rfl) (by walk_at "ev") (fun H' e => (hc1.ex e).ins) (ea_two ok1 (by walk_at "ev") (by walk_at "ev")) fun H' e => ⟨ac, rows, s, os, rfl, hc1.ex e, hck, hs, hos, rfl⟩) (ev_tup3 ok1 (ev_str ok1) (ev_str ok1) (ev_str ok1)))
    (fun i ds' H' => (∃ q q', ds' = [some (.v (.ref ab)), some (.v (.ref ac)), some (.d (plD p)), some (.d (.int s)), some (.d (plD o)), some (.d (.int os)), some (.v (.ref a)), q, q'] ∧ (q = none ∨ ∃ x, q = some (.d x) ∧ noL x = true) ∧ (q' = none ∨ ∃ x, q' = some (.d x) ∧ noL x = true)) ∧ AccX K H' a (zs.take i))
    (fun i ds' H2 H3 e h => ⟨h.1, h.2.ex e⟩) (fun H2 e => ⟨⟨none, none, rfl, .inl rfl, .inl rfl⟩, hX.ex e⟩) ?_ ?_
  · rintro H2 e2 ok2 i v _ σ3 H3 hi r3 ⟨⟨q, q', rfl, hq, hq'⟩, hX3⟩ hs3 dv
    have hi3 : i < 3 := by
      rw [List.length_map, List.length_map, hcl] at hi
      exact hi
    obtain ⟨x, hx⟩ : ∃ x, zs[i]? = some x := ⟨_, List.getElem?_eq_getElem (by omega)⟩
    obtain ⟨f, t, y1, y2, y3, rfl⟩ := zn i x hx
    have dv : Dp K H3 v (.tuple [((chM rows s os).map pr).getD i .none, (resN.map PyData.str).getD i .none]) := dv
    rw [y1, y2] at dv
    refine wG_two (m := (bodyMo P w K mg base n_endsof "ends_of" (defScope s_endsof) (He.ga K "ends_of") cdv A outer st H E Ex 5)) ok 7 8 rfl rfl dv fun u u' d1 d2 => ?_
    have hs4 := (hs3.set (r := .d (pr f)) 7 d1).set (r := .d (.str t)) 8 d2
    have hb3 := (hb1.ex e2).rx gok_true r3
    obtain ⟨o3, vs3, hX1, hX2, hX4⟩ := id hX3
    refine ws_appX (ok.at_ H3) 6 rfl rfl hs4 rfl hX3 (noLs_of fun x hx => zN x (List.mem_of_mem_take hx)) (by rw [List.length_take]; omega) (y := .tuple [pr f, plD (mineM b p o i)]) (fun vs => have okv := ok.at_ (upd H3 a (.lst vs)); ev_tup2 okv (by walk_at "ev") (ev_call okv C1 (Nat.le_of_ble_eq_true rfl) (ea_cons okv (by walk_at "ev") (ea_cons okv (by walk_at "ev") (ea_two okv (by walk_at "ev") (by walk_at "ev")))) fun H' e => ⟨ab, b, p, o, i, t, rfl, (hb3.upd hX1).ex e, hk, hp, ho, y3, rfl⟩)) rfl ?_ (by walk_at "vis")
    intro vs H4 o4 r4 hX4 hs5
    refine wSs_nil ⟨_, kp.trans r3 (RXS.upd (by simp) hX1 (fun c v n hc => r4 c v (by rw [upd_ne n]; exact hc)) id), ⟨⟨_, _, rfl, .inr ⟨_, rfl, rfl⟩, .inr ⟨_, rfl, rfl⟩⟩, ?_⟩, hs5⟩
    rw [List.take_add_one, hx]
    exact hX4
  · rintro H2 _ σ3 H3 e2 r3 ⟨⟨q, q', rfl, hq, hq'⟩, hX3⟩ hs3
    obtain ⟨o3, vs3, hX1, hX2, hX4⟩ := hX3
    refine ws_untag hX1 hX2 ?_
    have hs4 := opq_slots (o' := .lst vs3) hX1 opq_exO hs3
    have hn : min ((chM rows s os).map pr).length (resN.map PyData.str).length = 3 := by rw [List.length_map, List.length_map, hcl]; rfl
    have d3 : Dq K (upd H3 a (.lst vs3)) (.ref a) (.l zs) := ⟨a, vs3, rfl, upd_same, by
      have := opq_dpa (o' := .lst vs3) hX1 opq_exO hX4
      rw [hn, List.take_of_length_le (by omega)] at this
      exact this⟩
    have hs5 := sl_as (j := 6) hs4 rfl d3
    have okr := ok.at_ (upd H3 a (.lst vs3))
    refine bd_retC okr (fun v H4 e4 d4 => hQ v H4 (Ex.trans (fun c u hc => ?_) e4) d4) (by walk_at "ev") rfl σ3 _ (Ex.refl _) hs5
    have h1 := hr0 c u hc
    have ne := ne_of_none h1 na
    show upd H3 a (.lst vs3) c = some u
    rw [upd_ne ne]
    exact r3.1 c u (e2 c u (e1 c u h1)) fun hm => absurd (by simpa using hm) ne
end
/-! check_opponents, check_choice. -/
abbrev Opp := (Int × Int) × Int
def oppD (o : Opp) : PyData := .tuple [plD o.1, .int o.2]
structure OppOk (b : Bk) (os : List Opp) : Prop where
  len : os.length ≤ 10
  all : ∀ o ∈ os, InBk b o.1 ∧ 0 ≤ o.2 ∧ o.2 ≤ 99
section
variable {P : Program} {w : World} {K : PySem.W.Frag} {mg : Str → Option Value} {base : Heap}
def rCheckOpp (K : PySem.W.Frag) (rs : List SV) (H : Hp) (r : SV) : Prop := ∃ (a : Addr) (b : Bk) (s : Int) (os : List Opp), rs = [.v (.ref a), .d (.int s), .d (.list (os.map oppD))] ∧ BookAt K H a b ∧ OppOk b os ∧ (0 ≤ s ∧ s ≤ 99) ∧ r = .d .none
theorem ok_checkopponents (T : Tx K mg) : CallOk P w K mg base "check_opponents" 4 (SpR K (rCheckOpp K)) := by
  have C1 := in_book (P := P) (w := w) (base := base) T
  have C2 := ok_isstrength (P := P) (w := w) (base := base) T
  obtain ⟨fd, F⟩ := D_checkopponents T
  refine call_of F (fn_pure F sc_checkopponents (fun rs H r ⟨_, _, _, _, e, _⟩ => by rw [e]; rfl) ?_) (g_checkopponents T) (fun _ _ _ _ _ _ us hl => match us, hl with | [_, _, _], _ => rfl)
  rintro cdv A outer st H E Q rs r hr ⟨a, b, s, os, rfl, hb, ho, hs, rfl⟩ ok hQ
  refine bd_if0 ok (tv_not ok (tv_val ok (ev_isi2 ok (Tn := "list") (Un := "tuple") (b := true) (c := false) (b_isinstance T) (b_list T) (by decide +kernel) (b_tuple T) (by decide +kernel) (kit_ty (a := "list") (b := "list") (r := true) (by decide +kernel)) (kit_ty (a := "list") (b := "tuple") (r := false) (by decide +kernel)) (x := .list (os.map oppD)) (by walk_at "ev")))) rfl ?_
  refine bd_for2 ok 3 4 rfl rfl (iv_enum ok (b_enumerate T) (xs := os.map oppD) (by walk_at "ev")) (fun i d => ∃ q q', d = [some (.v (.ref a)), some (.d (.int s)), some (.d (.list (os.map oppD))), q, q']) ⟨none, none, rfl⟩ ?_ ?_ (fun v σ H r r' Q d q => wG_two ok 3 4 rfl rfl d q)
  · rintro H1 r1 ok1 i _ hi' ⟨q, q', rfl⟩
    rw [List.length_map] at hi'
    obtain ⟨x, h1⟩ : ∃ x, os[i]? = some x := ⟨_, List.getElem?_eq_getElem hi'⟩
    obtain ⟨hx1, hx2, hx3⟩ := ho.all x (List.mem_of_getElem? h1)
    rw [getD_map h1]
    refine bd_if0 ok1 (tv_w ok1 (wv_or ok1 (b := false) (b' := false) (tv_not ok1 (b := true) (tv_val ok1 (by walk_at "isi"))) fun _ => wv_or ok1 (b := false) (b' := false) (tv_neI ok1 (x := 2) (y := 2) (ev_lenT ok1 (b_len T) (xs := [plD x.1, .int x.2]) (by walk_at "ev")) (ev_int ok1)) fun _ => wv_or ok1 (b := false) (b' := false) (tv_notInO ok1 C1 (Nat.le_of_ble_eq_true rfl) (r := .d (plD x.1)) (b := true) (ev_ixT ok1 (xs := [plD x.1, .int x.2]) (by walk_at "ev") (ev_int ok1) (atI_get (n := 0) rfl) (fun _ _ => rfl)) (by walk_at "ev") (fun H' e => (hb.ex (r1.trans e)).ins) fun H' e => ⟨a, b, x.1, rfl, hb.ex (r1.trans e), by rw [inBk_dec hx1]; rfl⟩)
      fun _ => wv_or1 ok1 (tv_not ok1 (b := true) (tv_val ok1 (ev_call ok1 C2 (Nat.le_of_ble_eq_true rfl) (ea_one ok1 (ev_ixT ok1 (xs := [plD x.1, .int x.2]) (by walk_at "ev") (ev_int ok1) (atI_get (n := 1) rfl) (fun _ _ => rfl))) fun _ _ => ⟨x.2, rfl, by rw [decide_eq_true hx2, decide_eq_true hx3]; rfl⟩))))) rfl ?_
    exact bd_nil fun σ H' hr' hs' => ⟨_, hr', ⟨_, _, rfl⟩, hs'⟩
  rintro _ ⟨q, q', rfl⟩
  refine bd_if0 ok (tv_not ok (b := true) (tv_val ok (ev_call ok C2 (Nat.le_of_ble_eq_true rfl) (ea_one ok (by walk_at "ev")) fun _ _ => ⟨s, rfl, by rw [decide_eq_true hs.1, decide_eq_true hs.2]; rfl⟩))) rfl ?_
  exact bd_nil fun σ H' e _ => hQ _ H' e .non
def rCheckChoice (K : PySem.W.Frag) (rs : List SV) (H : Hp) (r : SV) : Prop := ∃ (a : Addr) (b : Bk) (p : Int × Int) (s : Int) (os : List Opp) (n : Int), rs = [.v (.ref a), .d (plD p), .d (.int s), .d (.list (os.map oppD)), .d (.int n)] ∧ BookAt K H a b ∧ InBk b p ∧ OppOk b os ∧ (0 ≤ s ∧ s ≤ 99) ∧ (0 ≤ n ∧ n ≤ 12) ∧ r = .d .none
theorem ok_checkchoice (T : Tx K mg) : CallOk P w K mg base "check_choice" 5 (SpR K (rCheckChoice K)) := by
  have C1 := ok_checkopponents (P := P) (w := w) (base := base) T
  have C2 := ok_checkknown (P := P) (w := w) (base := base) T
  have C3 := ok_isinteger (P := P) (w := w) (base := base) T
  obtain ⟨fd, F⟩ := D_checkchoice T
  refine call_of F (fn_pure F sc_checkchoice (fun rs H r ⟨_, _, _, _, _, _, e, _⟩ => by rw [e]; rfl) ?_) (g_checkchoice T) (fun _ _ _ _ _ _ us hl => match us, hl with | [_, _, _, _, _], _ => rfl)
  rintro cdv A outer st H E Q rs r hr ⟨a, b, p, s, os, n, rfl, hb, hp, ho, hs, hn, rfl⟩ ok hQ
  refine bd_expr ok (ev_call ok C1 (Nat.le_of_ble_eq_true rfl) (ea_cons ok (by walk_at "ev") (ea_two ok (by walk_at "ev") (by walk_at "ev"))) fun H' e => ⟨a, b, s, os, rfl, hb.ex e, ho, hs, rfl⟩) ?_
  refine bd_expr ok (ev_call ok C2 (Nat.le_of_ble_eq_true rfl) (ea_two ok (by walk_at "ev") (by walk_at "ev")) fun H' e => ⟨a, b, p, rfl, hb.ex e, hp, rfl⟩) ?_
  refine bd_if0 ok (tv_not ok (b := true) ((tv_val ok (ev_call ok C3 (Nat.le_of_ble_eq_true rfl) (ea_cons ok (by walk_at "ev") (ea_two ok (ev_int ok) (ev_gint ok (i_MOSTGAMES T)))) fun _ _ => ⟨n, 0, 12, rfl, rfl⟩)).cast (by rw [decide_eq_true hn.1, decide_eq_true hn.2]; rfl))) rfl ?_
  exact bd_nil fun σ H' e _ => hQ _ H' e .non
end
/-! Dicts whose keys are nested tuples, as exact objects. -/
mutual
def nk : PyData → NestedKey
  | .none => .none
  | .bool b => .num (if b = true then 1 else 0)
  | .int i => .num i
  | .str x => .text x
  | .tuple xs => .tup (nks xs)
  | .list _ => .none
  | .dict _ => .none
def nks : List PyData → List NestedKey
  | [] => []
  | x :: xs => nk x :: nks xs
end
mutual
def isKey : PyData → Bool
  | .int _ => true
  | .tuple xs => areKeys xs
  | _ => false
def areKeys : List PyData → Bool
  | [] => true
  | x :: xs => isKey x && areKeys xs
end
mutual
theorem noL_key : ∀ {x : PyData}, isKey x = true → noL x = true
  | .int _, _ => rfl
  | .tuple xs, h => noL_keys (xs := xs) h
  | .none, h => nomatch h
  | .bool _, h => nomatch h
  | .str _, h => nomatch h
  | .list _, h => nomatch h
  | .dict _, h => nomatch h
theorem noL_keys : ∀ {xs : List PyData}, areKeys xs = true → noL.noLs xs = true
  | [], _ => rfl
  | x :: xs, h => by
    have h : (isKey x && areKeys xs) = true := h
    rw [Bool.and_eq_true] at h
    show (noL x && noL.noLs xs) = true
    rw [noL_key h.1, noL_keys h.2]
    rfl
end
section
variable {X : Cx} {pins : List (Addr × Obj)} {σ : L2.St} {H : Hp} {s : Shared}
mutual
theorem dp_nk (I : Inv X pins σ H s) : ∀ (x : PyData) (v : V) (u : Value), Dp X.K H v x → isKey x = true → RelV v u → NestedIs s.heap (nk x) u
  | .int i, _, _, d, _, r => by
    cases d
    obtain ⟨t, rfl⟩ := r
    exact .int i t
  | .tuple xs, _, _, d, k, r => by
    cases d with
    | tup hq ha =>
      cases r
      obtain ⟨its, rv, ⟨o, ho, hc, n, hd⟩, _⟩ := I.tuple hq
      exact .tup ho hc hd (by simpa using dpa_nk I xs _ its ha k rv)
  | .none, _, _, _, k, _ => nomatch k
  | .bool _, _, _, _, k, _ => nomatch k
  | .str _, _, _, _, k, _ => nomatch k
  | .list _, _, _, _, k, _ => nomatch k
  | .dict _, _, _, _, k, _ => nomatch k
theorem dpa_nk (I : Inv X pins σ H s) : ∀ (xs : List PyData) (vs : List V) (us : List Value), DpAll X.K H vs xs → areKeys xs = true → Vals vs us → NestedAll s.heap (nks xs) us
  | [], _, _, d, _, r => by
    cases d
    cases r
    exact .nil
  | x :: xs, _, _, d, k, r => by
    have k : (isKey x && areKeys xs) = true := k
    rw [Bool.and_eq_true] at k
    cases d with
    | cons d1 d2 =>
      cases r with
      | cons r1 r2 => exact .cons (dp_nk I x _ _ d1 k.1 r1) (dpa_nk I xs _ _ d2 k.2 r2)
end
end
/-- a way to write keys -/
structure Enc {κ : Type} (enc : κ → PyData) : Prop where
  key : ∀ k, isKey (enc k) = true
  dep : ∀ k, (nk (enc k)).depth ≤ 8
  inj : ∀ a b, nk (enc a) = nk (enc b) → a = b
  tup : ∀ k, ∃ xs, enc k = .tuple xs
section
variable {κ β : Type} [DecidableEq κ]
def gAt (kvs : List (κ × β)) (k : κ) : Option β := match kvs with
  | [] => none
  | p :: r => if p.1 = k then some p.2 else gAt r k
def gPut (kvs : List (κ × β)) (k : κ) (x : β) : List (κ × β) := match kvs with
  | [] => [(k, x)]
  | p :: r => if p.1 = k then (k, x) :: r else p :: gPut r k x
theorem gAt_put (k j : κ) (x : β) : ∀ kvs : List (κ × β), gAt (gPut kvs k x) j = if j = k then some x else gAt kvs j
  | [] => by
    show (if k = j then some x else gAt [] j) = _
    by_cases e : j = k
    · rw [if_pos e, if_pos e.symm]
    · rw [if_neg e, if_neg fun z => e z.symm]
  | p :: r => by
    have ih := gAt_put k j x r
    unfold gPut
    by_cases h : p.1 = k
    · rw [if_pos h]
      show (if k = j then some x else gAt r j) = _
      by_cases e : j = k
      · rw [if_pos e, if_pos e.symm]
      · rw [if_neg e, if_neg fun z => e z.symm]
        show _ = (if p.1 = j then some p.2 else gAt r j)
        rw [if_neg (by rw [h]; exact fun z => e z.symm)]
    · rw [if_neg h]
      show (if p.1 = j then some p.2 else gAt (gPut r k x) j) = if j = k then some x else (if p.1 = j then some p.2 else gAt r j)
      rw [ih]
      by_cases e : p.1 = j
      · rw [if_pos e, if_pos e, if_neg (by rw [← e]; exact h)]
      · rw [if_neg e, if_neg e]
theorem gPut_len (k : κ) (x : β) : ∀ kvs : List (κ × β), (gPut kvs k x).length ≤ kvs.length + 1
  | [] => Nat.le_refl _
  | p :: r => by
    have ih := gPut_len k x r
    unfold gPut
    split
    · simp
    · rw [List.length_cons, List.length_cons]
      omega
theorem gPut_new {k : κ} {x : β} : ∀ {kvs : List (κ × β)}, gAt kvs k = none → gPut kvs k x = kvs ++ [(k, x)]
  | [], _ => rfl
  | p :: r, h => by
    have h : (if p.1 = k then some p.2 else gAt r k) = none := h
    by_cases e : p.1 = k
    · rw [if_pos e] at h; cases h
    · rw [if_neg e] at h
      unfold gPut
      rw [if_neg e, gPut_new h]
      rfl
theorem gAt_mem {k : κ} {x : β} : ∀ {kvs : List (κ × β)}, gAt kvs k = some x → (k, x) ∈ kvs
  | [], h => nomatch h
  | p :: r, h => by
    have h : (if p.1 = k then some p.2 else gAt r k) = some x := h
    by_cases e : p.1 = k
    · rw [if_pos e] at h
      obtain ⟨a, b⟩ := p
      obtain rfl : b = x := Option.some.inj h
      obtain rfl : a = k := e
      exact List.mem_cons_self
    · rw [if_neg e] at h
      exact List.mem_cons_of_mem _ (gAt_mem h)
end
section
variable {κ : Type} [DecidableEq κ] {enc : κ → PyData} {K : PySem.W.Frag} {P : Program} {w : World} {H H' : Hp}
/-- abstract entries beside those of the object -/
abbrev NR (K : PySem.W.Frag) (H : Hp) (enc : κ → PyData) : List (κ × PyData) → List (NestedKey × Addr × Value) → Prop := Paired fun p q => q.1 = nk (enc p.1) ∧ Dp K H (.ref q.2.1) (enc p.1) ∧ ∃ v, RelV v q.2.2 ∧ Dp K H v p.2
theorem NR.len {kvs : List (κ × PyData)} {xs : List (NestedKey × Addr × Value)} (r : NR K H enc kvs xs) : kvs.length = xs.length := Paired.length r
theorem NR.at_ (he : Enc enc) {k : κ} {kvs : List (κ × PyData)} {xs : List (NestedKey × Addr × Value)} (r : NR K H enc kvs xs) : match gAt kvs k with
    | none => atKey xs (nk (enc k)) = none
    | some x => ∃ b u v, atKey xs (nk (enc k)) = some (b, u) ∧ RelV v u ∧ Dp K H v x := by
  induction r with
  | nil => rfl
  | @cons p q ps qs h t ih =>
    obtain ⟨h1, h2, v, h3, h4⟩ := h
    show match (if p.1 = k then some p.2 else gAt ps k) with | none => _ | some x => _
    by_cases e : p.1 = k
    · rw [if_pos e]
      refine ⟨q.2.1, q.2.2, v, ?_, h3, h4⟩
      unfold atKey
      rw [List.find?_cons, decide_eq_true (show q.1 = nk (enc k) by rw [h1, e])]
      rfl
    · rw [if_neg e]
      have e2 : atKey (q :: qs) (nk (enc k)) = atKey qs (nk (enc k)) := by
        unfold atKey
        rw [List.find?_cons, decide_eq_false (show ¬ q.1 = nk (enc k) from fun z => e (he.inj _ _ (h1.symm.trans z)))]
      rw [e2]
      exact ih
theorem NR.isSome (he : Enc enc) {k : κ} {kvs : List (κ × PyData)} {xs : List (NestedKey × Addr × Value)} (r : NR K H enc kvs xs) : (atKey xs (nk (enc k))).isSome = (gAt kvs k).isSome := by
  have z := NR.at_ he (k := k) r
  cases h : gAt kvs k with
  | none => rw [h] at z; rw [show atKey xs (nk (enc k)) = none from z]; rfl
  | some x =>
    rw [h] at z
    obtain ⟨b, u, v, e, _⟩ := z
    rw [e]; rfl
theorem NR.put (he : Enc enc) {k : κ} {x : PyData} {b : Addr} {u : Value} {v : V} (hb : Dp K H (.ref b) (enc k)) (rv : RelV v u) (dv : Dp K H v x) {kvs : List (κ × PyData)} {xs : List (NestedKey × Addr × Value)} (nd : (xs.map (·.1)).Nodup) (r : NR K H enc kvs xs) : NR K H enc (gPut kvs k x) (storedH xs (nk (enc k)) b u) := by
  have swap : ∀ {kvs : List (κ × PyData)} {xs : List (NestedKey × Addr × Value)}, NR K H enc kvs xs → (xs.map (·.1)).Nodup → (gAt kvs k).isSome = true → NR K H enc (gPut kvs k x) (xs.map (putAt (nk (enc k)) u)) := by
    intro kvs xs r
    induction r with
    | nil => intro _ h; cases h
    | @cons p q ps qs h t ih =>
      intro nd hs
      rw [List.map_cons, List.nodup_cons] at nd
      obtain ⟨h1, h2, v', h3, h4⟩ := h
      show NR K H enc (if p.1 = k then (k, x) :: ps else p :: gPut ps k x) _
      rw [List.map_cons]
      by_cases e : p.1 = k
      · rw [if_pos e]
        have e1 : q.1 = nk (enc k) := by rw [h1, e]
        have e2 : qs.map (putAt (nk (enc k)) u) = qs := map_putAt_of_not_mem qs _ u (by rw [← e1]; exact nd.1)
        rw [e2]
        have e3 : putAt (nk (enc k)) u q = (q.1, q.2.1, u) := by
          unfold putAt
          rw [if_pos e1]
        rw [e3]
        exact .cons ⟨e1, by rw [← e]; exact h2, v, rv, dv⟩ t
      · rw [if_neg e]
        have e3 : putAt (nk (enc k)) u q = q := by
          unfold putAt
          rw [if_neg (show ¬ q.1 = nk (enc k) from fun z => e (he.inj _ _ (h1.symm.trans z)))]
        rw [e3]
        refine .cons ⟨h1, h2, v', h3, h4⟩ (ih nd.2 ?_)
        have hs : (if p.1 = k then some p.2 else gAt ps k).isSome = true := hs
        rw [if_neg e] at hs
        exact hs
  have hi := NR.isSome he (k := k) r
  unfold storedH
  by_cases q : (gAt kvs k).isSome = true
  · rw [if_pos (hi.trans q)]
    exact swap r nd q
  · rw [if_neg (by rw [hi]; exact q), gPut_new (by cases z : gAt kvs k with
      | none => rfl
      | some y => rw [z] at q; exact absurd rfl q)]
    exact Paired.snoc r ⟨rfl, hb, v, rv, dv⟩
theorem NR.map {kvs : List (κ × PyData)} {xs : List (NestedKey × Addr × Value)} (hd : ∀ v x, Dp K H v x → noL x = true → Dp K H' v x) (he : Enc enc) (hv : ∀ p ∈ kvs, noL p.2 = true) (r : NR K H enc kvs xs) : NR K H' enc kvs xs := by
  induction r with
  | nil => exact .nil
  | cons h t ih =>
    obtain ⟨h1, h2, v, h3, h4⟩ := h
    exact .cons ⟨h1, hd _ _ h2 (noL_key (he.key _)), v, h3, hd _ _ h4 (hv _ List.mem_cons_self)⟩ (ih fun p hp => hv p (List.mem_cons_of_mem _ hp))
/-- the dict at d holds kvs -/
structure DN (P : Program) (w : World) (K : PySem.W.Frag) (H : Hp) (d : Addr) (enc : κ → PyData) (kvs : List (κ × PyData)) : Prop where
  ex : ∃ o es ep xs, H d = some (exO d o) ∧ o.ExactDict ∧ o.data = .dict es ep ∧ es.toList = xs.map (entryOfKey (nestedKind P w)) ∧ (xs.map (·.1)).Nodup ∧ NR K H enc kvs xs
  sz : kvs.length ≤ 100000
  sm : (d == sysModules) = false
  vals : ∀ p ∈ kvs, noL p.2 = true
theorem DN.ex_ {d : Addr} {kvs : List (κ × PyData)} (he : Enc enc) (h : DN P w K H d enc kvs) (e : Ex H H') : DN P w K H' d enc kvs :=
  let ⟨o, es, ep, xs, h1, h2, h3, h4, h5, h6⟩ := h.ex
  ⟨⟨o, es, ep, xs, e _ _ h1, h2, h3, h4, h5, h6.map (fun v x d _ => dp_of (fun _ _ => (kp_ex K).sl_ e) (fun _ _ => (kp_ex K).st_ e) d) he h.vals⟩, h.sz, h.sm, h.vals⟩
theorem DN.tups {d : Addr} {kvs : List (κ × PyData)} (he : Enc enc) (h : DN P w K H d enc kvs) (hd : ∀ o, H d = some (exO d o) → H' d = some (exO d o)) (ht : ∀ a xs, SqT K H a xs → SqT K H' a xs) : DN P w K H' d enc kvs :=
  let ⟨o, es, ep, xs, h1, h2, h3, h4, h5, h6⟩ := h.ex
  ⟨⟨o, es, ep, xs, hd _ h1, h2, h3, h4, h5, h6.map (fun v x d n => dp_noT ht d n) he h.vals⟩, h.sz, h.sm, h.vals⟩
theorem DN.rx {d : Addr} {kvs : List (κ × PyData)} {S : List Addr} {G : Hp → Prop} (he : Enc enc) (h : DN P w K H d enc kvs) (g : Gok G) (r : RXS S G H H') (hd : d ∉ S) : DN P w K H' d enc kvs :=
  h.tups he (fun o e => r.1 _ _ e fun z => absurd z hd) fun _ _ => (kp_rxs g).st_ r
theorem DN.upd {d c : Addr} {kvs : List (κ × PyData)} {o : Obj} {u : HO} (he : Enc enc) (h : DN P w K H d enc kvs) (hc : H c = some (exO c o)) (ne : d ≠ c) : DN P w K (upd H c u) d enc kvs :=
  h.tups he (fun o e => by rw [upd_ne ne]; exact e) fun _ _ => opq_st hc opq_exO
section
variable {X : Cx} {pins : List (Addr × Obj)} {σ : L2.St} {s : Shared}
theorem NR.keys (I : Inv X pins σ H s) (he : Enc enc) {kvs : List (κ × PyData)} {xs : List (NestedKey × Addr × Value)} (r : NR X.K H enc kvs xs) : ∀ x ∈ xs, (nestedKind X.prog X.w).is s.heap x.1 x.2.1 := by
  induction r with
  | nil => exact fun _ z => nomatch z
  | cons h t ih =>
    obtain ⟨h1, h2, _⟩ := h
    intro x hx
    rcases List.mem_cons.mp hx with rfl | hx
    · rw [h1]
      exact ⟨dp_nk I _ _ _ h2 (he.key _) rfl, he.dep _⟩
    · exact ih x hx
theorem DN.obj (I : Inv X pins σ H s) (he : Enc enc) {d : Addr} {kvs : List (κ × PyData)} (h : DN X.prog X.w X.K H d enc kvs) : ∃ xs, s.heap.DictOfH (nestedKind X.prog X.w) d xs ∧ NR X.K H enc kvs xs ∧ (xs.map (·.1)).Nodup := by
  obtain ⟨o, es, ep, xs, h1, h2, h3, h4, h5, h6⟩ := h.ex
  exact ⟨xs, ⟨o, es, ep, exO_get I.hok h1, h2, h3, h4, h6.keys I he, h5⟩, h6, h5⟩
theorem key_nk (I : Inv X pins σ H s) (he : Enc enc) {k : κ} {y : V} {u : Value} (d : Dp X.K H y (enc k)) (r : RelV y u) : ∃ b, y = .ref b ∧ u = .ref b ∧ (nestedKind X.prog X.w).is s.heap (nk (enc k)) b := by
  obtain ⟨xs, e⟩ := he.tup k
  have d2 := d
  rw [e] at d2
  obtain ⟨b, vs, rfl, _⟩ := Dp.tup_inv d2
  cases r
  exact ⟨b, rfl, rfl, dp_nk I _ _ _ d (he.key k) rfl, he.dep k⟩
end
end
/-! Dicts with nested keys: in, [], []=, {}, {k: v}, get. -/
section
variable {κ : Type} [DecidableEq κ] {enc : κ → PyData} {X : Cx} {k0 : Nat}
theorem nroom (r : Room k0 X.A) : (nestedKind X.prog X.w).room X.A.in1 := by
  have := r.un
  show X.A.units + 1 + 8 < cLine
  omega
/-- k in d, k not in d -/
def rNIn (P : Program) (w : World) (K : PySem.W.Frag) (enc : κ → PyData) (neg : Bool) : R2 := fun x y H Q => ∃ d kvs k, y = .ref d ∧ DN P w K H d enc kvs ∧ Dp K H x (enc k) ∧ Q (.bl (if neg = true then !(gAt kvs k).isSome else (gAt kvs k).isSome)) H
theorem op_nNotIn (he : Enc enc) (hr : Room k0 X.A) : OpR X (compareOp .NotIn) (rNIn X.prog X.w X.K enc true) := by
  intro pins s σ H x y v u Q I rx ry h
  obtain ⟨d, kvs, k, rfl, hd, dk, q⟩ := h
  obtain rfl : u = Value.ref d := ry
  obtain ⟨b, rfl, rfl, hk⟩ := key_nk I he dk rx
  obtain ⟨xs, dd, nr, _⟩ := hd.obj I he
  refine wpAny_notIn_heap (nroom hr) hk hd.sm dd ?_
  rw [NR.isSome he nr]
  exact ⟨.bl (!(gAt kvs k).isSome), H, I.tok _, rfl, q⟩
/-- d[k], there -/
def tNGet (P : Program) (w : World) (K : PySem.W.Frag) (enc : κ → PyData) (td ty : TE) : TE := fun σ H Q => td σ H fun x H1 => ty σ H1 fun y H2 => ∃ d kvs k z, x = .ref d ∧ DN P w K H2 d enc kvs ∧ Dp K H2 y (enc k) ∧ gAt kvs k = some z ∧ ∀ v, Dp K H2 v z → Q v H2
theorem DN.isD {pins : List (Addr × Obj)} {σ : L2.St} {H : Hp} {s : Shared} {d : Addr} {kvs : List (κ × PyData)} (he : Enc enc) (I : Inv X pins σ H s) (h : DN X.prog X.w X.K H d enc kvs) : s.TypeIs (.ref d) "dict" ∧ ∀ a, Value.ref d = .ref a → ∃ o, s.heap.get? a = some o ∧ o.dict = none := by
  obtain ⟨xs, dd, _, _⟩ := h.obj I he
  refine ⟨dd.typeIs, fun a e => ?_⟩
  cases e
  obtain ⟨o, _, _, h1, h2, _⟩ := dd
  exact ⟨o, h1, h2.2.1⟩
theorem pe_nget {o i : Expr} {pos : Pos} {td ty : TE} (he : Enc enc) (hr : Room k0 X.A) (ho : PE X o td) (hi : PE X i ty) (hs : NoSl i) : PE X (.Subscript o i pos) (tNGet X.prog X.w X.K enc td ty) := by
  refine ⟨fun pins s σ H Q I h => ?_⟩
  refine subD_of PySem.F.slot_dict_getitem.lookup hs (thn (ho.run pins s σ H _ I h) fun u s1 ⟨x, H1, I1, r1, q1⟩ => thn (hi.run pins s1 σ H1 _ I1 q1) fun iv s2 ⟨y, H2, I2, r2, d, kvs, k, z, ex, hd, dk, hz, q2⟩ => ?_)
  subst ex
  obtain rfl : u = Value.ref d := r1
  obtain ⟨b, rfl, rfl, hk⟩ := key_nk I2 he dk r2
  obtain ⟨xs, dd, nr, _⟩ := hd.obj I2 he
  have at_ := NR.at_ he (k := k) nr
  rw [hz] at at_
  obtain ⟨c, w', v, e1, e2, e3⟩ := at_
  exact ⟨dd.typeIs, wpAny_getItem_heap (nroom hr) hk dd e1 ⟨v, H2, I2.tok _, e2, q2 v e3⟩⟩
/-- d[k] = v -/
def sNPut (P : Program) (w : World) (K : PySem.W.Frag) (enc : κ → PyData) (td ty tv : TE) : TS := fun D σ H => tv σ H fun v H1 => td σ H1 fun x H2 => ty σ H2 fun y H3 => ∃ d kvs k z, x = .ref d ∧ DN P w K H3 d enc kvs ∧ Dp K H3 y (enc k) ∧ Dp K H3 v z ∧ noL z = true ∧ kvs.length < 100000 ∧
  ∀ o, DN P w K (upd H3 d (exO d o)) d enc (gPut kvs k z) → D.nx σ (upd H3 d (exO d o))
theorem gPut_vals {kvs : List (κ × PyData)} {k : κ} {z : PyData} (hz : noL z = true) (h : ∀ p ∈ kvs, noL p.2 = true) : ∀ p ∈ gPut kvs k z, noL p.2 = true := by
  induction kvs with
  | nil =>
    intro p hp
    rw [List.mem_singleton.mp hp]
    exact hz
  | cons q r ih =>
    intro p hp
    unfold gPut at hp
    split at hp
    · rcases List.mem_cons.mp hp with rfl | hp
      · exact hz
      · exact h p (List.mem_cons_of_mem _ hp)
    · rcases List.mem_cons.mp hp with rfl | hp
      · exact h p List.mem_cons_self
      · exact ih (fun p hp => h p (List.mem_cons_of_mem _ hp)) p hp
/-- a dict's object replaced by one that holds kvs -/
theorem DN.put {pins : List (Addr × Obj)} {σ : L2.St} {H : Hp} {s : Shared} {d : Addr} {kvs kvs' : List (κ × PyData)} {xs' : List (NestedKey × Addr × Value)} {h' : Heap} {t' : Nat} (he : Enc enc) (I : Inv X pins σ H s) (h : DN X.prog X.w X.K H d enc kvs) (dd : h'.DictOfH (nestedKind X.prog X.w) d xs') (sb : Heap.SameBut d s.heap h') (nr : NR X.K H enc kvs' xs') (hz : kvs'.length ≤ 100000) (hv : ∀ p ∈ kvs', noL p.2 = true) :
    ∃ o, L2.Inv X pins σ (L2.upd H d (exO d o)) { s with heap := h', toks := t' } ∧ DN X.prog X.w X.K (L2.upd H d (exO d o)) d enc kvs' := by
  obtain ⟨o, es, ep, g1, g2, g3, g4, _, g6⟩ := dd
  obtain ⟨o0, _, _, _, h1, _⟩ := h.ex
  refine ⟨o, I.write (x := d) (e := d) (by rw [h1]; trivial) (.inl rfl) (fun b u hb z => (sb.2 b hb).trans z) ⟨o, g1⟩ (exO_ok g1), ⟨⟨o, es, ep, xs', upd_same, g2, g3, g4, g6, ?_⟩, hz, h.sm, hv⟩⟩
  exact nr.map (fun v x d' n => opq_dp h1 opq_exO d') he hv
theorem ps_nput {o i value : Expr} {pos pos' : Pos} {td ty tv : TE} (he : Enc enc) (hr : Room k0 X.A) (ho : PE X o td) (hi : PE X i ty) (hv : PE X value tv) (hs : swapsWith value (some (.Subscript o i pos')) pos.line X.env = pure false) : PS X (.Assign [.Subscript o i pos'] value pos) (sNPut X.prog X.w X.K enc td ty tv) := by
  refine ⟨fun pins s σ H D I h => ?_⟩
  refine wpAny_Assign_Subscript (thn (hv.run pins s σ H _ I h) fun r s1 ⟨v, H1, I1, rv, q1⟩ => thn (ho.run pins s1 σ H1 _ I1 q1) fun u s2 ⟨x, H2, I2, rx, q2⟩ => thn (hi.run pins s2 σ H2 _ I2 q2) fun iv s3 ⟨y, H3, I3, ry, d, kvs, k, z, ex, hd, dk, dz, nz, hl, q3⟩ => ?_) hs
  subst ex
  obtain rfl : u = Value.ref d := rx
  obtain ⟨b, rfl, rfl, hk⟩ := key_nk I3 he dk ry
  obtain ⟨xs, dd, nr, nd⟩ := hd.obj I3 he
  have lx := nr.len
  refine wpAny_setItem_heap (hsz := by rw [← lx]; exact Nat.le_trans (Nat.le_of_lt hl) (by decide)) (nroom hr) hk dd fun h' dd' sb => ?_
  have hl2 := gPut_len k z kvs
  obtain ⟨o', I4, hd4⟩ := hd.put (t' := s3.toks + (nestedKind X.prog X.w).draws (nk (enc k))) he I3 dd' sb (nr.put he dk rv dz nd) (by omega) (gPut_vals nz hd.vals)
  exact ⟨σ, _, I4, q3 o' hd4⟩
/-! #### displays -/
abbrev emptyD : Obj := { cls := .type "dict", data := .dict #[] }
theorem dn_new {pins : List (Addr × Obj)} {σ : L2.St} {H : Hp} {s : Shared} (I : Inv X pins σ H s) : DN X.prog X.w X.K (upd H s.heap.objs.size (exO s.heap.objs.size emptyD)) s.heap.objs.size enc [] := by
  refine ⟨⟨emptyD, #[], 0, [], upd_same, ⟨rfl, rfl, rfl⟩, rfl, rfl, List.nodup_nil, .nil⟩, Nat.zero_le _, ?_, fun _ z => nomatch z⟩
  exact beq_eq_false_iff_ne.mpr (Ne.symm (Nat.ne_of_lt I.big))
theorem inv_newD {pins : List (Addr × Obj)} {σ : L2.St} {H : Hp} {s : Shared} (I : Inv X pins σ H s) : Inv X pins σ (upd H s.heap.objs.size (exO s.heap.objs.size emptyD)) { s with heap := s.heap.push emptyD } :=
  I.laid (t' := s.toks) (fun _ _ q => Heap.get?_push_of_some _ q) (Nat.le_refl _) (exO_ok (Heap.get?_push_size _ rfl))
def tNNew (P : Program) (w : World) (K : PySem.W.Frag) (enc : κ → PyData) : TE := fun _ H Q => ∀ p, H p = none → DN P w K (upd H p (exO p emptyD)) p enc [] → Q (.ref p) (upd H p (exO p emptyD))
theorem pe_nnew {pos : Pos} : PE X (.Dict [] [] pos) (tNNew X.prog X.w X.K enc) := ⟨fun pins s σ H Q I h => wpAny_Dict_empty ⟨.ref s.heap.objs.size, _, inv_newD I, rfl, h _ (I.hok.fresh (Nat.le_refl _)) (dn_new I)⟩⟩
def tNOne (P : Program) (w : World) (K : PySem.W.Frag) (enc : κ → PyData) (tk tv : TE) : TE := fun σ H Q => ∀ p, H p = none → DN P w K (upd H p (exO p emptyD)) p enc [] → tk σ (upd H p (exO p emptyD)) fun y H1 => tv σ H1 fun v H2 => DN P w K H2 p enc [] ∧ ∃ k z, Dp K H2 y (enc k) ∧ Dp K H2 v z ∧ noL z = true ∧
  ∀ o, DN P w K (upd H2 p (exO p o)) p enc [(k, z)] → Q (.ref p) (upd H2 p (exO p o))
theorem pe_nOne {k v : Expr} {pos : Pos} {tk tv : TE} (he : Enc enc) (hr : Room k0 X.A) (hk : PE X k tk) (hv : PE X v tv) : PE X (.Dict [some k] [v] pos) (tNOne X.prog X.w X.K enc tk tv) := by
  refine ⟨fun pins s σ H Q I h => ?_⟩
  have h0 := h _ (I.hok.fresh (Nat.le_refl s.heap.objs.size)) (dn_new I)
  have r0 : (nestedKind X.prog X.w).room X.A := by
    have := hr.un
    show X.A.units + 8 < cLine
    omega
  have sh : (evalEachOpt [some k] X.env).zip ((evalEach [v] X.env).map fun t => do let x ← t; standAt pos; pure x) = (pairTrees [some k] [v] X.env pos).map fun p => (some p.1, p.2) := rfl
  rw [arm_eval_Dict, sh, dictDisplay_pairs _ (by show _ :: _ ≠ []; exact fun z => nomatch z) (by show 1 < 17; decide)]
  refine wpAny_bind (wpAny_standAt (wpAny_bind (wpAny_subDictH (knd := nestedKind X.prog X.w) (Q := fun d s' => wpAny (model X.prog X.w) X.A (pure (Value.ref d)) (EP X pins σ Q) X.xe s') r0 (by show 1 ≤ 15; decide) ?_)))
  refine pairTrees_cons_walk (thn (hk.run pins _ σ _ _ (inv_newD I) h0) fun u s1 ⟨y, H1, I1, ry, q1⟩ => thn (hv.run pins s1 σ H1 _ I1 q1) fun w' s2 ⟨vv, H2, I2, rv, hd, kk, z, dk, dz, nz, q2⟩ => pairTrees_nil_walk ?_)
  obtain ⟨b, rfl, rfl, hkey⟩ := key_nk I2 he dk ry
  obtain ⟨xs, dd, nr, nd⟩ := hd.obj I2 he
  cases nr
  refine ⟨[(nk (enc kk), b, w')], ⟨rfl, rfl, hkey, trivial⟩, dd, fun h' tk dd' sb => wpAny_pure ?_⟩
  have nr' : NR X.K H2 enc [(kk, z)] (storedAllH [] [(nk (enc kk), b, w')]) := .cons ⟨rfl, dk, vv, rv, dz⟩ .nil
  obtain ⟨o', I4, hd4⟩ := hd.put (t' := tk) he I2 dd' sb nr' (Nat.le_of_ble_eq_true rfl) (fun p hp => by rw [List.mem_singleton.mp hp]; exact nz)
  exact ⟨.ref s.heap.objs.size, _, I4, rfl, q2 o' hd4⟩
/-! #### d.get(k, x) -/
def tNGetOr (P : Program) (w : World) (K : PySem.W.Frag) (enc : κ → PyData) (td ty tx : TE) : TE := fun σ H Q => td σ H fun x H1 => ∃ d, x = .ref d ∧ (∃ kvs, DN P w K H1 d enc kvs) ∧ ty σ H1 fun y H2 => tx σ H2 fun v H3 => ∃ kvs k z, DN P w K H3 d enc kvs ∧ Dp K H3 y (enc k) ∧ Dp K H3 v z ∧ ∀ u, Dp K H3 u ((gAt kvs k).getD z) → Q u H3
theorem pe_ngetOr {o e f : Expr} {apos cpos : Pos} {td ty tx : TE} (he : Enc enc) (hr : Room k0 X.A) (ho : PE X o td) (hk : PE X e ty) (hf : PE X f tx) (m : M2 X o "get" apos e f cpos) : PE X (.Call (.Attribute o "get" apos) [e, f] [] cpos) (tNGetOr X.prog X.w X.K enc td ty tx) := by
  refine ⟨fun pins s σ H Q I h => ?_⟩
  refine wpAny_Call_method m.base m.few m.line PySem.F.plainAttrs_dict PySem.F.slot_dict_get PySem.F.type_dict_get (thn (ho.run pins s σ H _ I h) fun u s1 ⟨x, H1, I1, rx, d, ex, ⟨kvs0, hd0⟩, q1⟩ => ?_)
  subst ex
  obtain rfl : u = Value.ref d := rx
  obtain ⟨t1, t2⟩ := hd0.isD he I1
  refine ⟨t1, t2, ?_⟩
  rw [m.trees]
  refine Calls.callWith_builtin rfl (Calls.evalArgs_plain (Calls.spliced_cons (thn (hk.run pins s1 σ H1 _ I1 q1) fun iv s2 ⟨y, H2, I2, ry, q2⟩ => Calls.spliced_cons (thn (hf.run pins s2 σ H2 _ I2 q2) fun fv s3 ⟨z0, H3, I3, rz, kvs, k, z, hd, dk, dz, q3⟩ => Calls.spliced_nil ?_))))
  obtain ⟨b, rfl, rfl, hkey⟩ := key_nk I3 he dk ry
  obtain ⟨xs, dd, nr, nd⟩ := hd.obj I3 he
  have at_ := NR.at_ he (k := k) nr
  show wpAny _ _ (call (.builtin "dict.get") [.ref d, .ref b, fv]) _ _ s3
  refine getOr_keyed (knd := nestedKind X.prog X.w) (nroom hr) hkey hd.sm ⟨xs, dd, rfl⟩ ?_
  rw [valueAt_pairsH]
  cases hg : gAt kvs k with
  | none =>
    rw [hg] at at_ q3
    rw [show atKey xs (nk (enc k)) = none from at_]
    exact ⟨z0, H3, I3.tok _, rz, q3 z0 dz⟩
  | some zz =>
    rw [hg] at at_ q3
    obtain ⟨c, w', v, e1, e2, e3⟩ := at_
    rw [e1]
    exact ⟨v, H3, I3.tok _, e2, q3 v e3⟩
end
/-! Dicts with nested keys, at the level of families. -/
section
variable {ι : Type} {m : Mo ι} {ds : Sd} {pos : Pos} {κ : Type} [DecidableEq κ] {enc : κ → PyData}
theorem tv_nNotIn (ok : m.Ok) (he : Enc enc) {e o : Expr} {d : Addr} {k : κ} {b : Bool} (hk : EV m ds e (.d (enc k))) (ho : EV m ds o (.v (.ref d))) (hd : ∀ H, m.R m.H0 H → ∃ kvs, DN m.S.P m.S.w m.S.K H d enc kvs ∧ (gAt kvs k).isSome = b) (hmk : behindInMarks .NotIn o = false := by rfl) : TV m ds (.Compare e [.NotIn] [o] pos) (!b) := fun σ H hr hs Q q => by
  refine wT_cmp ok (r := rNIn m.S.P m.S.w m.S.K enc true) (fun i => by rw [← ok.hp i, ← ok.hw i, ← ok.hK i]; exact op_nNotIn he (ok.room i)) hmk (hk σ H hr hs _ fun v H1 r1 d1 => ho σ H1 (ok.trans hr r1) (ok.sl r1 hs) _ fun u H2 r2 d2 => ?_)
  have r12 := ok.trans r1 r2
  obtain ⟨kvs, h1, h2⟩ := hd H2 (ok.trans hr r12)
  refine ⟨d, kvs, k, d2, h1, ok.dp r2 d1, !(gAt kvs k).isSome, rfl, ?_⟩
  rw [h2]
  exact q H2 r12
/-- d[k] -/
theorem ev_nget (ok : m.Ok) (he : Enc enc) {o i : Expr} {d : Addr} {k : κ} {z : PyData} (ho : EV m ds o (.v (.ref d))) (hk : EV m ds i (.d (enc k))) (hd : ∀ H, m.R m.H0 H → ∃ kvs, DN m.S.P m.S.w m.S.K H d enc kvs ∧ gAt kvs k = some z) (hs : NoSl i := by intro _ _; rfl) : EV m ds (.Subscript o i pos) (.d z) := fun σ H hr hsl Q q => by
  refine wE_of (t := tNGet m.S.P m.S.w m.S.K enc (wE m.F o) (wE m.F i)) (fun j => by rw [← ok.hp j, ← ok.hw j, ← ok.hK j]; exact pe_nget he (ok.room j) (wE_ok j) (wE_ok j) hs) (ho σ H hr hsl _ fun x H1 r1 d1 => hk σ H1 (ok.trans hr r1) (ok.sl r1 hsl) _ fun y H2 r2 d2 => ?_)
  have r12 := ok.trans r1 r2
  obtain ⟨kvs, h1, h2⟩ := hd H2 (ok.trans hr r12)
  exact ⟨d, kvs, k, z, d1, h1, d2, h2, fun v dv => q v H2 r12 dv⟩
/-- d[k] = v: what stands behind it -/
theorem ws_nput (ok : m.Ok) (he : Enc enc) {o i value : Expr} {d : Addr} {k : κ} {z : PyData} {rest : List Stmt} {D : Ends} {pos' : Pos} {σ : L2.St} {H : Hp} (hr : m.R m.H0 H) (hs : Sl m.S.K H σ ds) (hv : EV m ds value (.d z)) (ho : EV m ds o (.v (.ref d))) (hk : EV m ds i (.d (enc k))) (nz : noL z = true)
    {Pk : List (κ × PyData) → Prop} (hd : ∀ H1, m.R H H1 → ∃ kvs, DN m.S.P m.S.w m.S.K H1 d enc kvs ∧ kvs.length < 100000 ∧ Pk kvs)
    (q : ∀ H1 kvs o0 o, m.R H H1 → Pk kvs → DN m.S.P m.S.w m.S.K H1 d enc kvs → H1 d = some (exO d o0) → DN m.S.P m.S.w m.S.K (upd H1 d (exO d o)) d enc (gPut kvs k z) → Sl m.S.K (upd H1 d (exO d o)) σ ds → wSs m.F rest D σ (upd H1 d (exO d o)))
    (hsw : ∀ j, swapsWith value (some (.Subscript o i pos')) pos.line (m.F j).env = pure false := by intro _; rfl) : wSs m.F (.Assign [.Subscript o i pos'] value pos :: rest) D σ H := by
  refine wSs_cons (wS_of (t := sNPut m.S.P m.S.w m.S.K enc (wE m.F o) (wE m.F i) (wE m.F value)) (fun j => by rw [← ok.hp j, ← ok.hw j, ← ok.hK j]; exact ps_nput he (ok.room j) (wE_ok j) (wE_ok j) (wE_ok j) (hsw j)) ?_)
  refine hv σ H hr hs _ fun v H1 r1 d1 => ho σ H1 (ok.trans hr r1) (ok.sl r1 hs) _ fun x H2 r2 d2 => hk σ H2 (ok.trans hr (ok.trans r1 r2)) (ok.sl (ok.trans r1 r2) hs) _ fun y H3 r3 d3 => ?_
  have r13 := ok.trans r1 (ok.trans r2 r3)
  obtain ⟨kvs, h1, h2, hp⟩ := hd H3 r13
  obtain ⟨o0, _, _, _, e0, _⟩ := h1.ex
  exact ⟨d, kvs, k, z, d2, h1, d3, ok.dp (ok.trans r2 r3) d1, nz, h2, fun o' hd' => q H3 kvs o0 o' r13 hp h1 e0 hd' (opq_slots e0 opq_exO (ok.sl r13 hs))⟩
/-- {} -/
theorem ex_nnew (ok : m.Ok) (enc : κ → PyData) : EX m ds (.Dict [] [] pos) (fun v H => ∃ d, v = .ref d ∧ DN m.S.P m.S.w m.S.K H d enc []) := fun σ H hr hs Q q => by
  refine wE_of (t := tNNew m.S.P m.S.w m.S.K enc) (fun j => by rw [← ok.hp j, ← ok.hw j, ← ok.hK j]; exact pe_nnew) fun p hp hd => ?_
  exact q _ _ (ok.new hp) ⟨p, rfl, hd⟩
theorem ex_nnewF (ok : m.Ok) (enc : κ → PyData) (hfr : ∀ H D, m.R m.H0 H → H D = none → m.H0 D = none) : EX m ds (.Dict [] [] pos) (fun v H => ∃ d, v = .ref d ∧ DN m.S.P m.S.w m.S.K H d enc [] ∧ m.H0 d = none) := fun σ H hr hs Q q => by
  refine wE_of (t := tNNew m.S.P m.S.w m.S.K enc) (fun j => by rw [← ok.hp j, ← ok.hw j, ← ok.hK j]; exact pe_nnew) fun p hp hd => ?_
  exact q _ _ (ok.new hp) ⟨p, rfl, hd, hfr H p hr hp⟩
/-- x = {}, the dict new -/
theorem ws_nnew (ok : m.Ok) (enc : κ → PyData) (j : Nat) {x : Str} {rest : List Stmt} {D : Ends} {p p2 : Pos} {σ : L2.St} {H : Hp} (hN : m.S.N[j]? = some x) (hs : Sl m.S.K H σ ds)
    (q : ∀ d o, H d = none → DN m.S.P m.S.w m.S.K (upd H d (exO d o)) d enc [] → Sl m.S.K (upd H d (exO d o)) (σ.set j (some (.ref d))) (ds.set j (some (.v (.ref d)))) → wSs m.F rest D (σ.set j (some (.ref d))) (upd H d (exO d o)))
    (hl : ∀ i, Loc (m.F i).env.scope x := by intro _; first | exact Or.inl rfl | exact Or.inr rfl) (hsw : ∀ i, swapsWith (.Dict [] [] p2) (some (.Name x p)) pos.line (m.F i).env = pure false := by intro _; rfl)
    (hf : ∀ i, (m.F i).fn x = true ∨ (m.F i).env.scope.names.lookup x = some .local := by intro _; first | exact Or.inl rfl | exact Or.inr rfl) : wSs m.F (.Assign [.Name x p] (.Dict [] [] p2) pos :: rest) D σ H := by
  refine wSs_cons (wS_of (t := tAsg (wE m.F (.Dict [] [] p2)) (gName j)) (fun i => ps_set (by rw [ok.hN i]; exact ok.nd) (by rw [ok.hN i]; exact hN) (hl i) (wE_ok i) (hsw i) (hf i)) ?_)
  refine wE_of (t := tNNew m.S.P m.S.w m.S.K enc) (fun j => by rw [← ok.hp j, ← ok.hw j, ← ok.hK j]; exact pe_nnew) fun d nd hd => ?_
  exact q d _ nd hd ((ok.sl (ok.new nd) hs).set (r := .v (.ref d)) j rfl)
/-- {k: v} -/
theorem ex_nOne (ok : m.Ok) (he : Enc enc) {k v : Expr} {kk : κ} {z : PyData} (hk : EV m ds k (.d (enc kk))) (hv : EV m ds v (.d z)) (nz : noL z = true) (hex : ∀ {H1 H2}, m.R H1 H2 → ∀ d kvs, DN m.S.P m.S.w m.S.K H1 d enc kvs → DN m.S.P m.S.w m.S.K H2 d enc kvs)
    (hup : ∀ {H H1 : Hp} {d : Addr} {u : HO}, m.R (upd H d u) H1 → H d = none → ∀ u', m.R H (upd H1 d u')) : EX m ds (.Dict [some k] [v] pos) (fun w H => ∃ d, w = .ref d ∧ DN m.S.P m.S.w m.S.K H d enc [(kk, z)]) := fun σ H hr hs Q q => by
  refine wE_of (t := tNOne m.S.P m.S.w m.S.K enc (wE m.F k) (wE m.F v)) (fun j => by rw [← ok.hp j, ← ok.hw j, ← ok.hK j]; exact pe_nOne he (ok.room j) (wE_ok j) (wE_ok j)) fun p hp hd => ?_
  have e0 := ok.new (o := exO p emptyD) hp
  refine hk σ _ (ok.trans hr e0) (ok.sl e0 hs) _ fun y H1 r1 d1 => hv σ H1 (ok.trans hr (ok.trans e0 r1)) (ok.sl (ok.trans e0 r1) hs) _ fun u H2 r2 d2 => ?_
  exact ⟨hex (ok.trans r1 r2) _ _ hd, kk, z, ok.dp r2 d1, d2, nz, fun o ho => q _ _ (hup (ok.trans r1 r2) hp _) ⟨p, rfl, ho⟩⟩
/-- d.get(k, x) -/
theorem ev_ngetOr (ok : m.Ok) (he : Enc enc) {o e f : Expr} {apos : Pos} {d : Addr} {k : κ} {z r : PyData} (ho : EV m ds o (.v (.ref d))) (hk : EV m ds e (.d (enc k))) (hf : EV m ds f (.d z)) (hd : ∀ H, m.R m.H0 H → ∃ kvs, DN m.S.P m.S.w m.S.K H d enc kvs ∧ (gAt kvs k).getD z = r) (hM : ∀ i, M2 (m.F i) o "get" apos e f pos := by intro _; exact ⟨rfl, rfl, rfl, rfl⟩) : EV m ds (.Call (.Attribute o "get" apos) [e, f] [] pos) (.d r) := fun σ H hr hs Q q => by
  refine wE_of (t := tNGetOr m.S.P m.S.w m.S.K enc (wE m.F o) (wE m.F e) (wE m.F f)) (fun j => by rw [← ok.hp j, ← ok.hw j, ← ok.hK j]; exact pe_ngetOr he (ok.room j) (wE_ok j) (wE_ok j) (wE_ok j) (hM j)) (ho σ H hr hs _ fun x H1 r1 d1 => ?_)
  obtain ⟨kvs0, h0, _⟩ := hd H1 (ok.trans hr r1)
  refine ⟨d, d1, ⟨kvs0, h0⟩, hk σ H1 (ok.trans hr r1) (ok.sl r1 hs) _ fun y H2 r2 d2 => hf σ H2 (ok.trans hr (ok.trans r1 r2)) (ok.sl (ok.trans r1 r2) hs) _ fun u H3 r3 d3 => ?_⟩
  have r13 := ok.trans r1 (ok.trans r2 r3)
  obtain ⟨kvs, h1, h2⟩ := hd H3 (ok.trans hr r13)
  refine ⟨kvs, k, z, h1, ok.dp r3 d2, d3, fun w' dw => ?_⟩
  rw [h2] at dw
  exact q w' H3 r13 dw
end
/-! What the chooser reckons, in plain words. -/
def meanM (V : Int × Int → Fr) (es : List (Fr × (Int × Int))) : Fr := es.foldl (fun t e => if e.1 = (0, 1) then t else addF t (mulF e.1 (V e.2))) (0, 1)
def pickM (f : Opp → Fr) : List Opp → Nat → Fr × Option Nat → Fr × Option Nat
  | [], _, acc => acc
  | o :: os, i, acc => pickM f os (i + 1) (if aboveF (f o) acc.1 = true then (f o, some i) else acc)
/-- the greatest mean with n games left, and the opponent -/
def bestM (b : Bk) (rows : List Cw) (s : Int) (os : List Opp) : Nat → Int × Int → Fr × Option Nat
  | 0, p => ((p.1, 1), none)
  | n + 1, p => pickM (fun o => meanM (fun q => (bestM b rows s os n q).1) (endsM b rows p s o.1 o.2)) os 0 ((p.1, 1), none)
def idxD : Option Nat → PyData
  | none => .none
  | some i => .int i
def bvD (x : Fr × Option Nat) : PyData := .tuple [pr x.1, idxD x.2]
theorem noL_bvD (x : Fr × Option Nat) : noL (bvD x) = true := by
  obtain ⟨f, i⟩ := x
  cases i <;> rfl
def encK (k : Int × (Int × Int)) : PyData := .tuple [.int k.1, plD k.2]
def encP (p : Int × Int) : PyData := plD p
theorem enc_K : Enc encK := by
  refine ⟨fun _ => rfl, fun _ => Nat.le_of_ble_eq_true rfl, fun a b h => ?_, fun _ => ⟨_, rfl⟩⟩
  obtain ⟨a1, a2, a3⟩ := a
  obtain ⟨b1, b2, b3⟩ := b
  have h : NestedKey.tup [.num a1, .tup [.num a2, .num a3]] = .tup [.num b1, .tup [.num b2, .num b3]] := h
  injection h with h
  injection h with h1 h
  injection h1 with h1
  injection h with h2 _
  injection h2 with h2
  injection h2 with h3 h2
  injection h3 with h3
  injection h2 with h4 _
  injection h4 with h4
  subst h1 h3 h4
  rfl
theorem enc_P : Enc encP := by
  refine ⟨fun _ => rfl, fun _ => Nat.le_of_ble_eq_true rfl, fun a b h => ?_, fun _ => ⟨_, rfl⟩⟩
  obtain ⟨a2, a3⟩ := a
  obtain ⟨b2, b3⟩ := b
  have h : NestedKey.tup [.num a2, .num a3] = .tup [.num b2, .num b3] := h
  injection h with h2
  injection h2 with h3 h2
  injection h3 with h3
  injection h2 with h4 _
  injection h4 with h4
  subst h3 h4
  rfl
theorem cutI {lo hi r : Int} (h : lo ≤ hi) : lo ≤ minI hi (maxI lo r) ∧ minI hi (maxI lo r) ≤ hi := by
  unfold minI maxI
  split <;> split <;> omega
theorem moved_in {b : Bk} (hk : BkOk b) {p : Int × Int} (hp : InBk b p) (c : Int) (won : Bool) : InBk b (movedM b p c won) := by
  have h0 := hk.lh
  have p0 := hp.p0
  have p1 := hp.p1
  unfold movedM
  by_cases hf : 0 < b.fresh
  · rw [if_pos hf]
    have hl : b.last = b.fresh := by unfold Bk.last; rw [if_pos hf]
    obtain ⟨c1, c2⟩ := cutI (r := p.1 + if 0 < p.2 then c * b.times else c) h0
    refine ⟨c1, c2, ?_, ?_⟩
    · show 0 ≤ maxI 0 (p.2 - 1)
      unfold maxI
      split <;> omega
    · show maxI 0 (p.2 - 1) ≤ b.last
      unfold maxI
      split <;> omega
  · rw [if_neg hf]
    have hl : b.last = b2z (decide (0 < b.bonus)) := by unfold Bk.last; rw [if_neg hf]
    obtain ⟨c1, c2⟩ := cutI (r := p.1 + if (won && decide (0 < p.2)) = true then c + b.bonus else c) h0
    refine ⟨c1, c2, ?_, ?_⟩
    · show 0 ≤ b2z (won && decide (0 < b.bonus))
      unfold b2z
      split <;> omega
    · show b2z (won && decide (0 < b.bonus)) ≤ b.last
      rw [hl]
      cases won with
      | true => rw [Bool.true_and]; exact Int.le_refl _
      | false =>
        rw [Bool.false_and]
        unfold b2z
        rw [if_neg (by decide)]
        split <;> omega
theorem game_in {b : Bk} (hk : BkOk b) {u l : Int × Int} {j : Nat} (hu : InBk b u) (hl : InBk b l) {q : (Int × Int) × (Int × Int)} (h : gameM b u l j = some q) : InBk b q.1 ∧ InBk b q.2 := by
  unfold gameM at h
  cases h1 : rowAt b.rows (u.1 - l.1) with
  | none => rw [h1] at h; cases h
  | some x =>
    rw [h1] at h
    cases h2 : x.es[j]? with
    | none =>
      have h : (x.es[j]?.bind fun e => e.bind fun c => some (movedM b u c.1 (decide (j = 0)), movedM b l c.2 (decide (j = 2)))) = some q := h
      rw [h2] at h; cases h
    | some e =>
      have h : (x.es[j]?.bind fun e => e.bind fun c => some (movedM b u c.1 (decide (j = 0)), movedM b l c.2 (decide (j = 2)))) = some q := h
      rw [h2] at h
      cases e with
      | none => cases h
      | some c =>
        obtain rfl := Option.some.inj h
        exact ⟨moved_in hk hu _ _, moved_in hk hl _ _⟩
theorem mine_in {b : Bk} (hk : BkOk b) {p o : Int × Int} (hp : InBk b p) (ho : InBk b o) (j : Nat) : InBk b (mineM b p o j) := by
  unfold mineM
  split
  · split
    · exact hp
    · rename_i q h
      exact (game_in hk hp ho h).1
  · split
    · exact hp
    · rename_i q h
      exact (game_in hk ho hp h).2
theorem ends_mem {b : Bk} (hk : BkOk b) {rows : List Cw} {p o : Int × Int} {s os : Int} (hp : InBk b p) (ho : InBk b o) {e : Fr × (Int × Int)} (he : e ∈ endsM b rows p s o os) : e.1 ∈ chM rows s os ∧ InBk b e.2 := by
  unfold endsM at he
  have h1 := List.of_mem_zip (a := e.1) (b := e.2) he
  refine ⟨h1.1, ?_⟩
  have h2 := h1.2
  simp only [List.mem_cons, List.not_mem_nil, or_false] at h2
  rcases h2 with h | h | h <;> rw [h] <;> exact mine_in hk hp ho _
/-- all that is asked of one reckoning: N the most games, L a common under -/
structure Rk (b : Bk) (rows : List Cw) (s : Int) (os : List Opp) (L : Int) (N : Nat) : Prop where
  bk : BkOk b
  cc : CcOk rows
  op : OppOk b os
  s0 : 0 ≤ s
  s1 : s ≤ 99
  l0 : 0 < L
  ln : L ^ (2 * N) < 2 ^ 64
  n13 : N ≤ 13
  ch : ∀ o ∈ os, ∀ c ∈ chM rows s o.2, OkF c ∧ 0 ≤ c.1 ∧ c.1 ≤ c.2 ∧ c.2 ∣ L
theorem okI (i : Int) : OkF (i, 1) := ⟨by show (0 : Int) < 1; decide, by show Int.gcd i 1 = 1; exact Int.gcd_one_right i⟩
theorem valI (i : Int) : val (i, 1) = (i : Rat) := by
  unfold val
  show (i : Rat) / ((1 : Int) : Rat) = _
  rw [show ((1 : Int) : Rat) = 1 from rfl]
  grind
theorem dvI (i : Int) : Dv 1 (val (i, 1)) := by rw [valI]; exact Dv.int
theorem dv_up {M : Int} {x : Rat} (h : Dv 1 x) : Dv M x := h.of_dvd (Int.one_dvd M)
/-- the sums stay within their bounds -/
theorem mean_bd {V : Int × Int → Fr} {L M : Int} : ∀ (es : List (Fr × (Int × Int))) (t : Fr), OkF t → Dv (L * M) (val t) → (∀ e ∈ es, OkF e.1 ∧ e.1.2 ∣ L ∧ OkF (V e.2) ∧ Dv M (val (V e.2))) →
    OkF (es.foldl (fun t e => if e.1 = (0, 1) then t else addF t (mulF e.1 (V e.2))) t) ∧ Dv (L * M) (val (es.foldl (fun t e => if e.1 = (0, 1) then t else addF t (mulF e.1 (V e.2))) t))
  | [], t, h1, h2, _ => ⟨h1, h2⟩
  | e :: es, t, h1, h2, h => by
    obtain ⟨a1, a2, a3, a4⟩ := h e List.mem_cons_self
    rw [List.foldl_cons]
    refine mean_bd es _ ?_ ?_ fun e' he' => h e' (List.mem_cons_of_mem _ he')
    · split
      · exact h1
      · exact add_ok h1 (mul_ok a1 a3)
    · split
      · exact h2
      · rw [val_add h1 (mul_ok a1 a3), val_mul a1 a3]
        exact h2.add ((dv_of_under a1 a2).mul a4)
theorem pick_bd {f : Opp → Fr} {R : Fr → Prop} : ∀ (os : List Opp) (i : Nat) (acc : Fr × Option Nat), R acc.1 → (∀ o ∈ os, R (f o)) → R (pickM f os i acc).1
  | [], _, _, h, _ => h
  | o :: os, i, acc, h, hf => by
    unfold pickM
    refine pick_bd os _ _ ?_ fun o' ho' => hf o' (List.mem_cons_of_mem _ ho')
    split
    · exact hf o List.mem_cons_self
    · exact h
theorem best_bd {b : Bk} {rows : List Cw} {s : Int} {os : List Opp} {L : Int} {N : Nat} (rk : Rk b rows s os L N) : ∀ (n : Nat) (p : Int × Int), InBk b p → OkF (bestM b rows s os n p).1 ∧ Dv (L ^ n) (val (bestM b rows s os n p).1)
  | 0, p, _ => ⟨okI _, by rw [Int.pow_zero]; exact dvI _⟩
  | n + 1, p, hp => by
    have ih := best_bd rk n
    refine pick_bd (R := fun f => OkF f ∧ Dv (L ^ (n + 1)) (val f)) os 0 _ ⟨okI _, dv_up (dvI _)⟩ fun o ho => ?_
    have hl : L ^ (n + 1) = L * L ^ n := by rw [Int.pow_succ, Int.mul_comm]
    rw [hl]
    have z := mean_bd (V := fun q => (bestM b rows s os n q).1) (L := L) (M := L ^ n) (endsM b rows p s o.1 o.2) (0, 1) (okI 0) (dv_up (dvI 0)) ?_
    · exact z
    intro e he
    obtain ⟨h1, h2⟩ := ends_mem rk.bk hp (rk.op.all o ho).1 he
    obtain ⟨c1, _, _, c4⟩ := rk.ch o ho e.1 h1
    exact ⟨c1, c4, ih e.2 h2⟩
/-! The chooser: what stands at it, __init__. -/
theorem gPut_keys {κ β : Type} [DecidableEq κ] (k : κ) (x : β) : ∀ kvs : List (κ × β), (gPut kvs k x).map (·.1) = if k ∈ kvs.map (·.1) then kvs.map (·.1) else kvs.map (·.1) ++ [k]
  | [] => rfl
  | p :: r => by
    have ih := gPut_keys k x r
    unfold gPut
    by_cases e : p.1 = k
    · rw [if_pos e, if_pos (by rw [← e]; exact List.mem_cons_self)]
      rw [List.map_cons, List.map_cons, e]
    · rw [if_neg e, List.map_cons, ih, List.map_cons]
      by_cases h : k ∈ r.map (·.1)
      · rw [if_pos h, if_pos (List.mem_cons_of_mem _ h)]
      · rw [if_neg h, if_neg fun z => (List.mem_cons.mp z).elim (fun z => e z.symm) h]
        rfl
theorem gPut_nodup {κ β : Type} [DecidableEq κ] {k : κ} {x : β} {kvs : List (κ × β)} (h : (kvs.map (·.1)).Nodup) : ((gPut kvs k x).map (·.1)).Nodup := by
  rw [gPut_keys]
  split
  · exact h
  · rename_i hn
    rw [List.nodup_append]
    exact ⟨h, by simp, fun a ha b hb e => hn (by rw [List.mem_singleton.mp hb] at e; rw [← e]; exact ha)⟩
theorem gPut_mem {κ β : Type} [DecidableEq κ] {k : κ} {x : β} : ∀ {kvs : List (κ × β)} {p : κ × β}, p ∈ gPut kvs k x → p = (k, x) ∨ p ∈ kvs
  | [], p, h => .inl (List.mem_singleton.mp h)
  | q :: r, p, h => by
    unfold gPut at h
    split at h
    · rcases List.mem_cons.mp h with h | h
      · exact .inl h
      · exact .inr (List.mem_cons_of_mem _ h)
    · rcases List.mem_cons.mp h with h | h
      · exact .inr (by rw [h]; exact List.mem_cons_self)
      · rcases gPut_mem h with h | h
        · exact .inl h
        · exact .inr (List.mem_cons_of_mem _ h)
theorem nodup_len {α : Type} [DecidableEq α] : ∀ {l L : List α}, l.Nodup → (∀ x ∈ l, x ∈ L) → l.length ≤ L.length
  | [], _, _, _ => Nat.zero_le _
  | x :: l, L, h, hs => by
    rw [List.nodup_cons] at h
    have hx := hs x List.mem_cons_self
    have e := List.length_erase_of_mem hx
    have := nodup_len (L := L.erase x) h.2 fun y hy => (List.mem_erase_of_ne (fun z => h.1 (by rw [← z]; exact hy))).mpr (hs y (List.mem_cons_of_mem _ hy))
    have h1 := List.length_pos_of_mem hx
    rw [List.length_cons]
    omega
def allKeys : List (Int × (Int × Int)) := all2 (fun i j => ((i : Int), ((j / 3 : Nat) : Int), ((j % 3 : Nat) : Int))) 72 14
theorem mem_allKeys {n : Nat} {p : Int × Int} (hn : n ≤ 13) (h0 : 0 ≤ p.1) (h1 : p.1 ≤ 23) (h2 : 0 ≤ p.2) (h3 : p.2 ≤ 2) : ((n : Int), p) ∈ allKeys := by
  obtain ⟨a, b⟩ := p
  unfold allKeys
  rw [mem_all2]
  refine ⟨n, a.toNat * 3 + b.toNat, by omega, by show a.toNat * 3 + b.toNat < 72; omega, ?_⟩
  show ((n : Int), a, b) = ((n : Int), (((a.toNat * 3 + b.toNat) / 3 : Nat) : Int), (((a.toNat * 3 + b.toNat) % 3 : Nat) : Int))
  congr 2
  · omega
  · omega
/-- what is remembered is right -/
structure MemoOk (b : Bk) (rows : List Cw) (s : Int) (os : List Opp) (kvs : List ((Int × (Int × Int)) × PyData)) : Prop where
  nd : (kvs.map (·.1)).Nodup
  ok : ∀ p ∈ kvs, ∃ n : Nat, p.1.1 = n ∧ n ≤ 13 ∧ InBk b p.1.2 ∧ p.2 = bvD (bestM b rows s os n p.1.2)
theorem MemoOk.len {b : Bk} {rows : List Cw} {s : Int} {os : List Opp} {kvs : List ((Int × (Int × Int)) × PyData)} (h : MemoOk b rows s os kvs) (hb : BkB b) : kvs.length ≤ 1008 := by
  have := nodup_len (L := allKeys) h.nd fun x hx => by
    obtain ⟨p, hp, rfl⟩ := List.mem_map.mp hx
    obtain ⟨n, e, hn, hi, _⟩ := h.ok p hp
    obtain ⟨⟨k1, k2⟩, v⟩ := p
    have e : k1 = n := e
    subst e
    have b0 := hb.l0
    have b1 := hb.h1
    have b2 := hb.p1
    exact mem_allKeys hn (Int.le_trans b0 hi.r0) (Int.le_trans hi.r1 b1) hi.p0 (Int.le_trans hi.p1 b2)
  rw [List.length_map] at this
  exact Nat.le_trans this (by unfold allKeys; rw [all2_len]; decide)
theorem MemoOk.at_ {b : Bk} {rows : List Cw} {s : Int} {os : List Opp} {kvs : List ((Int × (Int × Int)) × PyData)} (h : MemoOk b rows s os kvs) {n : Nat} {p : Int × Int} {x : PyData} (hx : gAt kvs ((n : Int), p) = some x) : x = bvD (bestM b rows s os n p) := by
  obtain ⟨m, e, _, _, e2⟩ := h.ok _ (gAt_mem hx)
  have e : (n : Int) = m := e
  have : n = m := by omega
  subst this
  exact e2
theorem MemoOk.put {b : Bk} {rows : List Cw} {s : Int} {os : List Opp} {kvs : List ((Int × (Int × Int)) × PyData)} (h : MemoOk b rows s os kvs) {n : Nat} {p : Int × Int} (hn : n ≤ 13) (hp : InBk b p) : MemoOk b rows s os (gPut kvs ((n : Int), p) (bvD (bestM b rows s os n p))) := by
  refine ⟨gPut_nodup h.nd, fun q hq => ?_⟩
  rcases gPut_mem hq with rfl | hq
  · exact ⟨n, rfl, hn, hp, rfl⟩
  · exact h.ok q hq
section
variable {P : Program} {w : World} {K : PySem.W.Frag}
def MemoG (P : Program) (w : World) (K : PySem.W.Frag) (b : Bk) (rows : List Cw) (s : Int) (os : List Opp) (d : Addr) (H : Hp) : Prop := ∃ kvs, DN P w K H d encK kvs ∧ MemoOk b rows s os kvs
theorem gok_memo {b : Bk} {rows : List Cw} {s : Int} {os : List Opp} {d : Addr} : Gok (MemoG P w K b rows s os d) := by
  refine ⟨fun e ⟨kvs, h1, h2⟩ => ⟨kvs, h1.ex_ enc_K e, h2⟩, fun {H c xs ys} hc ⟨kvs, h1, h2⟩ => ⟨kvs, h1.tups enc_K (fun o e => ?_) fun a zs => sqt_any hc a zs, h2⟩⟩
  rw [upd_ne]
  · exact e
  · rintro rfl
    rw [hc] at e
    cases e
def chsFs (ab ac : Addr) (s : Int) (vo : V) (d : Addr) : List (Str × V) := [("book", .ref ab), ("chances", .ref ac), ("strength", .int s), ("opponents", vo), ("known", .ref d)]
def ChsAt (K : PySem.W.Frag) (H : Hp) (a ab ac : Addr) (b : Bk) (rows : List Cw) (s : Int) (os : List Opp) (d : Addr) : Prop := ∃ dx vo, H a = some (.ins (He.ga K "Chooser") dx (chsFs ab ac s vo d)) ∧ Dp K H vo (.list (os.map oppD)) ∧ BookAt K H ab b ∧ ChAt K H ac rows
theorem ChsAt.rx {H H' : Hp} {a ab ac : Addr} {b : Bk} {rows : List Cw} {s : Int} {os : List Opp} {d : Addr} {S : List Addr} {G : Hp → Prop} (h : ChsAt K H a ab ac b rows s os d) (g : Gok G) (r : RXS S G H H') : ChsAt K H' a ab ac b rows s os d :=
  let ⟨dx, vo, h1, h2, h3, h4⟩ := h
  ⟨dx, vo, r.1 _ _ h1 fun _ => id, dp_of (fun _ _ => (kp_rxs g).sl_ r) (fun _ _ => (kp_rxs g).st_ r) h2, h3.rx g r, h4.rx g r⟩
theorem oppD_inj {o o' : Opp} (h : oppD o = oppD o') : o = o' := by
  obtain ⟨⟨a, b⟩, c⟩ := o
  obtain ⟨⟨a', b'⟩, c'⟩ := o'
  have h : PyData.tuple [.tuple [.int a, .int b], .int c] = .tuple [.tuple [.int a', .int b'], .int c'] := h
  injection h with h
  injection h with h1 h
  injection h1 with h1
  injection h1 with h2 h1
  injection h2 with h2
  injection h1 with h3 _
  injection h3 with h3
  injection h with h4 _
  injection h4 with h4
  subst h2 h3 h4
  rfl
def chsArgs (ab ac : Addr) (s : Int) (os : List Opp) : List SV := [.v (.ref ab), .v (.ref ac), .d (.int s), .d (.list (os.map oppD))]
def preChs (rs : List SV) (_ : Hp) : Prop := ∃ ab ac s os, rs = chsArgs ab ac s os
def postChs (P : Program) (w : World) (K : PySem.W.Frag) (Hs : Hp) (rs : List SV) (a dx : Addr) (H : Hp) : Prop := ∃ ab ac s os d vo, rs = chsArgs ab ac s os ∧ H a = some (.ins (He.ga K "Chooser") dx (chsFs ab ac s vo d)) ∧ Dp K H vo (.list (os.map oppD)) ∧ DN P w K H d encK [] ∧ Hs d = none
end
section
variable {ι : Type} {m : Mo ι} {ds : Sd} {pos : Pos}
/-- o.f = e, of which something is told -/
theorem bd_fldX (ok : m.Ok) {C a dx : Addr} {f : Str} {fs : List (Str × V)} {o value : Expr} {Post : V → Hp → Prop} {rest : List Stmt} {D : Ends} {p' : Pos} (cl : Cls m.S.K C) (na : NoAttr m.S.K C f) (ho : ∀ H1, EV (m.at_ H1) ds o (.v (.ref a))) (hv : EX m ds value Post) (hst : ∀ v H H', m.R H H' → Post v H → Post v H') (hi : ∀ H, m.R m.H0 H → H a = some (.ins C dx fs)) (hl : fs.length < 1000)
    (q : ∀ H y, m.R m.H0 H → Post y H → H a = some (.ins C dx fs) → BD (m.at_ (upd H a (.ins C dx (putF f y fs)))) ds rest D)
    (hs : ∀ i, swapsWith value (some (.Attribute o f p')) pos.line (m.F i).env = pure false := by intro _; rfl) : BD m ds (.Assign [.Attribute o f p'] value pos :: rest) D := fun σ H hr hsl => by
  refine wSs_cons (wS_of (t := sFld m.S.K (wE m.F o) (wE m.F value) f) (fun i => by rw [← ok.hK i]; exact ps_fld (wE_ok i) (wE_ok i) (hs i)) ?_)
  refine hv σ H hr hsl _ fun y H1 r1 p1 => ho H1 σ H1 (ok.refl _) (ok.sl r1 hsl) _ fun x H2 r2 d2 => ?_
  have r02 := ok.trans hr (ok.trans r1 r2)
  have h2 := hi H2 r02
  refine ⟨a, C, dx, fs, d2, h2, cl, na, hl, ?_⟩
  exact q H2 y r02 (hst y H1 H2 r2 p1) h2 σ _ (ok.refl _) (opq_slots h2 trivial (ok.sl (ok.trans r1 r2) hsl))
end
theorem none_of_ex {H H' : Hp} {D : Addr} (e : Ex H H') (h : H' D = none) : H D = none := by
  cases hz : H D with
  | none => rfl
  | some z => rw [e _ _ hz] at h; cases h
section
variable {P : Program} {w : World} {K : PySem.W.Frag} {mg : Str → Option Value} {base : Heap}
theorem make_chooser (T : Tx K mg) : MakeOk P w K mg base "Chooser" (He.ga K "Chooser") 1 (SpInit K (He.ga K "Chooser") preChs (postChs P w K)) [] := by
  obtain ⟨fd, F⟩ := D_chinit T
  refine ⟨_, fd, ["self", "book", "chances", "strength", "opponents"], [], mk_Chooser T, fn_init F sc_chinit (fun rs H ⟨_, _, _, _, e⟩ => by rw [e]; rfl) ?_, g_Chooser T, F.bindsN (fun _ _ _ _ _ _ us hl => match us, hl with | [_, _, _, _, _], _ => rfl), .nil⟩
  rintro cdv A outer st H E Q rs a dx hr ⟨ab, ac, s, os, rfl⟩ hi ok hQ
  refine bd_fld ok (cl_Chooser T) (na_Chooser_book T) (by walk_at "ev") (by walk_at "ev") (fun H' e => e _ _ hi) (Nat.le_of_ble_eq_true rfl) fun H1 y1 e1 d1 k1 ok1 _ => ?_
  obtain rfl : y1 = V.ref ab := d1
  refine bd_fld ok1 (cl_Chooser T) (na_Chooser_chances T) (by walk_at "ev") (by walk_at "ev") (fun H' e => e _ _ upd_same) (Nat.le_of_ble_eq_true rfl) fun H2 y2 e2 d2 k2 ok2 _ => ?_
  obtain rfl : y2 = V.ref ac := d2
  refine bd_fld ok2 (cl_Chooser T) (na_Chooser_strength T) (by walk_at "ev") (by walk_at "ev") (fun H' e => e _ _ upd_same) (Nat.le_of_ble_eq_true rfl) fun H3 y3 e3 d3 k3 ok3 _ => ?_
  obtain rfl := Dp.int_inv d3
  refine bd_fld ok3 (cl_Chooser T) (na_Chooser_opponents T) (r := .d (.list (os.map oppD))) (by walk_at "ev") (ev_listOf ok3 (b_list T) (xs := os.map oppD) (by walk_at "ev")) (fun H' e => e _ _ upd_same) (Nat.le_of_ble_eq_true rfl) fun H4 vo e4 d4 k4 ok4 v4 => ?_
  refine bd_fldX ok4 (cl_Chooser T) (na_Chooser_known T) (fun H1 => have okz := ok4.at_ H1; by walk_at "ev") (ex_nnewF ok4 encK fun H5 D e h => none_of_ex e h) (fun v H1 H2 e ⟨d, h1, h2, h3⟩ => ⟨d, h1, h2.ex_ enc_K e, h3⟩) (fun H' e => e _ _ upd_same) (Nat.le_of_ble_eq_true rfl) fun H5 y5 e5 ⟨d, e6, hd, hdn⟩ k5 => ?_
  subst e6
  have v5 := opq_dp (o' := .ins (He.ga K "Chooser") dx (putF "known" (.ref d) (putF "opponents" vo (putF "strength" (.int s) (putF "chances" (.ref ac) (putF "book" (.ref ab) [])))))) k5 trivial (ok.dp e5 v4)
  have hfs : putF "known" (.ref d) (putF "opponents" vo (putF "strength" (.int s) (putF "chances" (.ref ac) (putF "book" (.ref ab) [])))) = chsFs ab ac s vo d := rfl
  rw [hfs] at v5 ⊢
  have hd6 : DN P w K (upd H5 a (.ins (He.ga K "Chooser") dx (chsFs ab ac s vo d))) d encK [] := hd.tups enc_K (fun o e => by rw [upd_ne]; exact e; rintro rfl; rw [k5] at e; cases e) fun c xs => opq_st k5 trivial
  have hx : Exb a H (upd H5 a (.ins (He.ga K "Chooser") dx (chsFs ab ac s vo d))) := (Exb.of e1).trans (Exb.upd.trans ((Exb.of e2).trans (Exb.upd.trans ((Exb.of e3).trans (Exb.upd.trans ((Exb.of e4).trans (Exb.upd.trans ((Exb.of e5).trans Exb.upd))))))))
  have hx4 : Exb a H (upd H4 a (.ins (He.ga K "Chooser") dx (putF "opponents" vo (putF "strength" (.int s) (putF "chances" (.ref ac) (putF "book" (.ref ab) [])))))) := (Exb.of e1).trans (Exb.upd.trans ((Exb.of e2).trans (Exb.upd.trans ((Exb.of e3).trans (Exb.upd.trans ((Exb.of e4).trans Exb.upd))))))
  have hfresh : H d = none := by
    cases hz : H d with
    | none => rfl
    | some z =>
      have hdn : upd H4 a (.ins (He.ga K "Chooser") dx (putF "opponents" vo (putF "strength" (.int s) (putF "chances" (.ref ac) (putF "book" (.ref ab) []))))) d = none := hdn
      by_cases ed : d = a
      · rw [ed, upd_same] at hdn; cases hdn
      · rw [hx4 d z ed hz] at hdn; cases hdn
  refine bd_nil fun σ H' e _ => hQ H' (hx.trans (Exb.of e)) ⟨ab, ac, s, os, d, vo, rfl, e _ _ upd_same, ok.dp e v5, hd6.ex_ enc_K e, hfresh⟩
end
/-! The chooser: mean_with, best. -/
theorem pow_up {L : Int} (h : 0 < L) : ∀ {a b : Nat}, a ≤ b → L ^ a ≤ L ^ b := by
  have st : ∀ (a k : Nat), L ^ a ≤ L ^ (a + k) := by
    intro a k
    induction k with
    | zero => exact Int.le_refl _
    | succ k ih =>
      have p : 0 < L ^ (a + k) := Int.pow_pos h
      have : L ^ (a + k) * 1 ≤ L ^ (a + k) * L := Int.mul_le_mul_of_nonneg_left (by omega) (by omega)
      rw [← Nat.add_assoc, Int.pow_succ]
      omega
  intro a b hab
  have := st a (b - a)
  rw [show a + (b - a) = b from by omega] at this
  exact this
theorem two_dv {a b : Fr} {M N : Int} (ha : OkF a) (hb : OkF b) (h1 : Dv M (val a)) (h2 : Dv N (val b)) (hM : 0 < M) (hN : 0 < N) (h : M * N < 2 ^ 64) : Two a b := two_of ha.pos hb.pos (Dv.le ha h1 hM) (Dv.le hb h2 hN) h hM hN
theorem Rk.pw {b : Bk} {rows : List Cw} {s : Int} {os : List Opp} {L : Int} {N : Nat} (rk : Rk b rows s os L N) {x y : Nat} (h : x + y ≤ 2 * N) : L ^ x * L ^ y < 2 ^ 64 := by
  rw [← Int.pow_add]
  exact Int.lt_of_le_of_lt (pow_up rk.l0 h) rk.ln
theorem eqv_pr (a b : Fr) : PyData.eqv (pr a) (pr b) = decide (a = b) := by
  obtain ⟨a1, a2⟩ := a
  obtain ⟨b1, b2⟩ := b
  have h : PyData.eqv (pr (a1, a2)) (pr (b1, b2)) = ((a1 == b1) && ((a2 == b2) && true)) := rfl
  rw [h, Bool.and_true]
  by_cases e : a1 = b1
  · by_cases e2 : a2 = b2
    · subst e e2; simp
    · rw [decide_eq_false (by simp [e2])]; simp [e2]
  · rw [decide_eq_false (by simp [e])]; simp [e]
theorem pick_snoc (f : Opp → Fr) (o : Opp) : ∀ (xs : List Opp) (i : Nat) (acc : Fr × Option Nat), pickM f (xs ++ [o]) i acc = (if aboveF (f o) (pickM f xs i acc).1 = true then (f o, some (i + xs.length)) else pickM f xs i acc)
  | [], i, acc => by
    show pickM f [] (i + 1) _ = _
    rfl
  | x :: xs, i, acc => by
    show pickM f (xs ++ [o]) (i + 1) _ = _
    rw [pick_snoc f o xs (i + 1), List.length_cons, show i + 1 + xs.length = i + (xs.length + 1) from by omega]
    rfl
section
variable {ι : Type} {m : Mo ι} {ds : Sd} {pos : Pos}
theorem IV.len {tg iter : Expr} {n n' : Nat} {Y : Nat → PyData} (h : IV m ds tg iter n Y) (e : n = n') : IV m ds tg iter n' Y := e ▸ h
theorem IV.cast {tg iter : Expr} {n : Nat} {Y Y' : Nat → PyData} (h : IV m ds tg iter n Y) (e : ∀ i, i < n → Y i = Y' i) : IV m ds tg iter n Y' := fun σ H hr hs Q q =>
  h σ H hr hs Q fun J H1 G r hG w => q J H1 G r hG (w.mono (fun _ z => z) fun i H v H' hi _ y => ⟨y.1, fun r => by rw [← e i hi]; exact y.2 r⟩)
end
section
variable {ι : Type} {m : Mo ι} {ds : Sd}
theorem EX.ev (_ : m.Ok) {e : Expr} {r : SV} (h : EX m ds e fun v H => Dq m.S.K H v r) : EV m ds e r := h
end
section
variable {P : Program} {w : World} {K : PySem.W.Frag} {mg : Str → Option Value} {base : Heap}
theorem ChsAt.fld {H : Hp} {a ab ac : Addr} {b : Bk} {rows : List Cw} {s : Int} {os : List Opp} {d : Addr} (h : ChsAt K H a ab ac b rows s os d) {x : Str} {r : SV} (hx : ∀ vo, Dp K H vo (.list (os.map oppD)) → ∃ v, (chsFs ab ac s vo d).lookup x = some v ∧ Dq K H v r) : ∃ dx fs v, H a = some (.ins (He.ga K "Chooser") dx fs) ∧ fs.lookup x = some v ∧ Dq K H v r :=
  let ⟨dx, vo, h1, h2, _, _⟩ := h
  let ⟨v, e1, e2⟩ := hx vo h2
  ⟨dx, _, v, h1, e1, e2⟩
def SpBest (P : Program) (w : World) (K : PySem.W.Frag) (n : Nat) : Sp := fun vs H Q _ => ∃ (a ab ac : Addr) (b : Bk) (rows : List Cw) (s : Int) (os : List Opp) (d : Addr) (L : Int) (N : Nat) (p : Int × Int), DqAll K H vs [.v (.ref a), .d (.int n), .d (plD p)] ∧ ChsAt K H a ab ac b rows s os d ∧ Rk b rows s os L N ∧ n ≤ N ∧ InBk b p ∧ MemoG P w K b rows s os d H ∧
  ∀ v H', RXS [d] (MemoG P w K b rows s os d) H H' → Dp K H' v (bvD (bestM b rows s os n p)) → Q v H'
def fM (b : Bk) (rows : List Cw) (s : Int) (os : List Opp) (n : Nat) (p : Int × Int) (o : Opp) : Fr := meanM (fun q => (bestM b rows s os n q).1) (endsM b rows p s o.1 o.2)
def SpMean (P : Program) (w : World) (K : PySem.W.Frag) (n : Nat) : Sp := fun vs H Q _ => ∃ (a ab ac : Addr) (b : Bk) (rows : List Cw) (s : Int) (os : List Opp) (d : Addr) (L : Int) (N : Nat) (p : Int × Int) (i : Nat) (o : Opp), DqAll K H vs [.v (.ref a), .d (.int ((n + 1 : Nat) : Int)), .d (plD p), .d (.int i)] ∧ ChsAt K H a ab ac b rows s os d ∧ Rk b rows s os L N ∧ n + 1 ≤ N ∧ InBk b p ∧ os[i]? = some o ∧ MemoG P w K b rows s os d H ∧
  ∀ v H', RXS [d] (MemoG P w K b rows s os d) H H' → Dp K H' v (pr (fM b rows s os n p o)) → Q v H'
theorem mean_part {b : Bk} {rows : List Cw} {s : Int} {os : List Opp} {L : Int} {N n : Nat} (rk : Rk b rows s os L N) {p : Int × Int} (hp : InBk b p) {o : Opp} (ho : o ∈ os) (i : Nat) :
    OkF (meanM (fun q => (bestM b rows s os n q).1) ((endsM b rows p s o.1 o.2).take i)) ∧ Dv (L ^ (n + 1)) (val (meanM (fun q => (bestM b rows s os n q).1) ((endsM b rows p s o.1 o.2).take i))) := by
  have hl : L ^ (n + 1) = L * L ^ n := by rw [Int.pow_succ, Int.mul_comm]
  rw [hl]
  have z := mean_bd (V := fun q => (bestM b rows s os n q).1) (L := L) (M := L ^ n) ((endsM b rows p s o.1 o.2).take i) (0, 1) (okI 0) (dv_up (dvI 0)) ?_
  · exact z
  intro e he
  obtain ⟨h1, h2⟩ := ends_mem rk.bk hp (rk.op.all o ho).1 (List.mem_of_mem_take he)
  obtain ⟨c1, _, _, c4⟩ := rk.ch o ho e.1 h1
  obtain ⟨e1, e2⟩ := best_bd rk n e.2 h2
  exact ⟨c1, c4, e1, e2⟩
theorem ok_chmeanwith (T : Tx K mg) (n k : Nat) (hk7 : 7 ≤ k) (hb : MethOk P w K mg base (He.ga K "Chooser") "best" k (SpBest P w K n)) : MethOk P w K mg base (He.ga K "Chooser") "mean_with" (k + 1) (SpMean P w K n) := by
  have C1 := ok_endsof (P := P) (w := w) (base := base) T
  have C2 := ok_added (P := P) (w := w) (base := base) T
  have C3 := ok_multiplied (P := P) (w := w) (base := base) T
  obtain ⟨fd, F⟩ := D_chmeanwith T
  refine meth_of F (fn_ok F sc_chmeanwith (fun vs H Q E ⟨_, _, _, _, _, _, _, _, _, _, _, _, _, d, _⟩ => by rw [DqAll.length d]; rfl) ?_) (cl_Chooser T) (me_chmeanwith T) (fun _ _ _ _ _ _ us hl => match us, hl with | [_, _, _, _], _ => rfl)
  rintro cdv A outer st H vs Q E hr ⟨a, ab, ac, b, rows, s, os, d, L, N, p, i, o, dq, hc, rk, hn, hp, ho, hg, hQ⟩
  have kp := kp_rxs (K := K) (S := [d]) (gok_memo (P := P) (w := w) (K := K) (b := b) (rows := rows) (s := s) (os := os) (d := d))
  have ok := body_ok (P := P) (w := w) (K := K) (mg := mg) (base := base) (N := n_chmeanwith) (cdv := cdv) (outer := outer) (E := E) (H := H) (R := RXS [d] (MemoG P w K b rows s os d)) kp sc_chmeanwith hr
  have hC : ∀ H', RXS [d] (MemoG P w K b rows s os d) H H' → ChsAt K H' a ab ac b rows s os d := fun H' r => hc.rx gok_memo r
  have hom := List.mem_of_getElem? ho
  obtain ⟨oi1, oi2, oi3⟩ := rk.op.all o hom
  have g : BD (bodyMo P w K mg base n_chmeanwith "Chooser.mean_with" (defScope s_chmeanwith) (He.ma K (He.ga K "Chooser") "mean_with") cdv A outer st H E (RXS [d] (MemoG P w K b rows s os d)) k) (startD n_chmeanwith [.v (.ref a), .d (.int ((n + 1 : Nat) : Int)), .d (plD p), .d (.int i)]) (defBody s_chmeanwith) { nx := fun _ H' => Q .non H', rt := Q } := by
    refine bd_unpack ok 4 5 (r := plD o.1) (r' := .int o.2) rfl rfl (ev_ixL ok (xs := os.map oppD) (x := oppD o) (ev_fld ok (cl_Chooser T) (na_Chooser_opponents T) (by walk_at "ev") (fun H' r => (hC H' r).fld fun vo h => ⟨vo, rfl, h⟩)) (by walk_at "ev") (atI_get (by rw [List.getElem?_map, ho]; rfl)) (fun _ _ => rfl)) ?_ (fun v σ H Q d q => wG_two ok 4 5 rfl rfl d q)
    refine bd_asg ok 6 (r := .d (pr (0, 1))) rfl (ev_gdat ok (g_NONE T) (dp_NONE T)) ?_
    let es := endsM b rows p s o.1 o.2
    refine bd_for2 ok 7 8 (n := es.length) (Y := fun i => pr ((es[i]?).getD ((0, 1), (0, 0))).1) (Z := fun i => plD ((es[i]?).getD ((0, 1), (0, 0))).2) rfl rfl (IV.cast (iv_listM ok (xs := es) (enc := enD) (ev_ld ok (ev_call ok C1 (Nat.le_trans (by decide) hk7) (ea_cons ok (ev_fld ok (r := .v (.ref ab)) (cl_Chooser T) (na_Chooser_book T) (by walk_at "ev") (fun H' r => (hC H' r).fld fun vo h => ⟨_, rfl, rfl⟩)) (ea_cons ok (ev_fld ok (r := .v (.ref ac)) (cl_Chooser T) (na_Chooser_chances T) (by walk_at "ev") (fun H' r => (hC H' r).fld fun vo h => ⟨_, rfl, rfl⟩)) (ea_cons ok (by walk_at "ev") (ea_cons ok (ev_fld ok (r := .d (.int s)) (cl_Chooser T) (na_Chooser_strength T) (by walk_at "ev") (fun H' r => (hC H' r).fld fun vo h => ⟨_, rfl, .int s⟩)) (ea_two ok (by walk_at "ev") (by walk_at "ev"))))))
        fun H' r => ⟨ab, ac, b, rows, p, o.1, s, o.2, rfl, let ⟨_, _, _, _, z, _⟩ := hC H' r; z, rk.bk, let ⟨_, _, _, _, _, z⟩ := hC H' r; z, rk.cc, hp, oi1, ⟨rk.s0, rk.s1⟩, ⟨oi2, oi3⟩, rfl⟩))) fun i hi => by
          have e : es[i]? = some es[i] := List.getElem?_eq_getElem hi
          rw [getD_map e, e]
          rfl) (fun j ds' => ∃ q q', ds' = [some (.v (.ref a)), some (.d (.int ((n + 1 : Nat) : Int))), some (.d (plD p)), some (.d (.int i)), some (.d (plD o.1)), some (.d (.int o.2)), some (.d (pr (meanM (fun q => (bestM b rows s os n q).1) (es.take j)))), q, q']) ⟨none, none, rfl⟩ ?_ ?_ (fun v σ H r r' Q d q => wG_two ok 7 8 rfl rfl d q)
    · rintro H1 r1 ok1 j _ hj ⟨q, q', rfl⟩
      obtain ⟨e, he⟩ : ∃ e, es[j]? = some e := ⟨_, List.getElem?_eq_getElem hj⟩
      rw [he]
      obtain ⟨m1, m2⟩ := ends_mem rk.bk hp oi1 (List.mem_of_getElem? he)
      obtain ⟨c1, c2, c3, c4⟩ := rk.ch o hom e.1 m1
      obtain ⟨v1, v2⟩ := best_bd rk n e.2 m2
      obtain ⟨t1, t2⟩ := mean_part (n := n) rk hp hom j
      have hC1 : ∀ H', RXS [d] (MemoG P w K b rows s os d) H1 H' → ChsAt K H' a ab ac b rows s os d := fun H' r => hC H' (kp.trans r1 r)
      have step : meanM (fun q => (bestM b rows s os n q).1) (es.take (j + 1)) = if e.1 = (0, 1) then meanM (fun q => (bestM b rows s os n q).1) (es.take j) else addF (meanM (fun q => (bestM b rows s os n q).1) (es.take j)) (mulF e.1 (bestM b rows s os n e.2).1) := by
        unfold meanM
        rw [List.take_add_one, he, List.foldl_append]
        rfl
      have lp : 0 < L ^ n := Int.pow_pos rk.l0
      have lp1 : 0 < L ^ (n + 1) := Int.pow_pos rk.l0
      have d1 : Dv (L ^ 1) (val e.1) := by rw [Int.pow_succ, Int.pow_zero, Int.one_mul]; exact dv_of_under c1 c4
      have dm : Dv (L ^ (n + 1)) (val (mulF e.1 (bestM b rows s os n e.2).1)) := by
        rw [val_mul c1 v1, show n + 1 = 1 + n from by omega, Int.pow_add]
        exact d1.mul v2
      have c5 : e.1.2 ≤ L := Int.le_of_dvd rk.l0 c4
      have l64 : L < 2 ^ 64 := by
        have h1 := pow_up rk.l0 (show 1 ≤ 2 * N by omega)
        have h2 := rk.ln
        rw [Int.pow_succ, Int.pow_zero, Int.one_mul] at h1
        omega
      refine bd_if ok1 (tv_ne ok1 (x := pr e.1) (y := pr (0, 1)) (by walk_at "ev") (ev_gdat ok1 (g_NONE T) (dp_NONE T)) rfl rfl) (fun h => ?_) (fun h => ?_)
      · rw [eqv_pr] at h
        have hne : ¬ e.1 = (0, 1) := by
          intro z
          rw [decide_eq_true z] at h
          cases h
        rw [if_neg hne] at step
        refine bd_asg ok1 6 (r := .d (pr (addF (meanM (fun q => (bestM b rows s os n q).1) (es.take j)) (mulF e.1 (bestM b rows s os n e.2).1)))) rfl (ev_call ok1 C2 (Nat.le_trans (by decide) hk7) (ea_two ok1 (by walk_at "ev") (ev_call ok1 C3 (Nat.le_trans (by decide) hk7) (ea_two ok1 (by walk_at "ev") (ev_ixT ok1 (xs := [pr (bestM b rows s os n e.2).1, idxD (bestM b rows s os n e.2).2]) (EX.ev ok1 (ex_meth ok1 hb (Nat.le_refl _) (by walk_at "ev") (fun H' r => let ⟨dx, vo, z, _⟩ := hC1 H' r; ⟨dx, _, z, rfl⟩) (ea_two ok1 (r := .d (.int n)) ((ev_sub ok1 (by walk_at "ev") (ev_int ok1)).cast (by congr 2; omega)) (by walk_at "ev")) fun H' vs Q r dv q => ?_)) (ev_int ok1) (atI_get (n := 0) rfl) (fun _ _ => rfl)))
          fun _ _ => ⟨e.1, (bestM b rows s os n e.2).1, rfl, two_dv c1 v1 d1 v2 (by rw [Int.pow_succ, Int.pow_zero, Int.one_mul]; exact rk.l0) lp (rk.pw (by omega)), .inl ⟨by omega, by omega⟩, rfl⟩)) fun _ _ => ⟨_, _, rfl, two_dv t1 (mul_ok c1 v1) t2 dm lp1 lp1 (rk.pw (by omega)), rfl⟩) (bd_end ?_)
        · exact ⟨a, ab, ac, b, rows, s, os, d, L, N, e.2, .cons rfl dv, hC1 H' r, rk, by omega, m2, (kp.trans r1 r).2 hg, fun v H2 r2 d2 => q v H2 r2 d2⟩
        · refine bd_nil fun σ H' hr' hs' => ⟨_, hr', ⟨some (.d (pr e.1)), some (.d (plD e.2)), ?_⟩, hs'⟩
          rw [step]
          rfl
      · rw [eqv_pr] at h
        have heq : e.1 = (0, 1) := by
          cases hd : decide (e.1 = (0, 1)) with
          | true => exact of_decide_eq_true hd
          | false => rw [hd] at h; cases h
        rw [if_pos heq] at step
        refine bd_end (bd_nil fun σ H' hr' hs' => ⟨_, hr', ⟨some (.d (pr e.1)), some (.d (plD e.2)), ?_⟩, hs'⟩)
        rw [step]
        rfl
    · rintro _ ⟨q, q', rfl⟩
      refine bd_retC ok (r' := .d (pr (fM b rows s os n p o))) (fun v H' r d => hQ v H' r d) (by walk_at "ev") ?_
      rw [List.take_length]
      rfl
  exact g (L2.start n_chmeanwith vs) H (kp.refl H) (start_sl dq)
end
/-! The chooser: best. -/
section
variable {P : Program} {w : World} {K : PySem.W.Frag} {mg : Str → Option Value} {base : Heap}
theorem pick_part {b : Bk} {rows : List Cw} {s : Int} {os : List Opp} {L : Int} {N n : Nat} (rk : Rk b rows s os L N) {p : Int × Int} (hp : InBk b p) (j : Nat) :
    OkF (pickM (fM b rows s os n p) (os.take j) 0 ((p.1, 1), none)).1 ∧ Dv (L ^ (n + 1)) (val (pickM (fM b rows s os n p) (os.take j) 0 ((p.1, 1), none)).1) := by
  refine pick_bd (R := fun f => OkF f ∧ Dv (L ^ (n + 1)) (val f)) _ 0 _ ⟨okI _, dv_up (dvI _)⟩ fun o ho => ?_
  have z := mean_part (n := n) rk hp (List.mem_of_mem_take ho) (endsM b rows p s o.1 o.2).length
  rw [List.take_length] at z
  exact z
/-- what is told behind the loop: n games left, the first j opponents tried -/
def accM (b : Bk) (rows : List Cw) (s : Int) (os : List Opp) (p : Int × Int) : Nat → Nat → Fr × Option Nat
  | 0, _ => ((p.1, 1), none)
  | n + 1, j => pickM (fM b rows s os n p) (os.take j) 0 ((p.1, 1), none)
theorem accM_best (b : Bk) (rows : List Cw) (s : Int) (os : List Opp) (p : Int × Int) (n : Nat) : accM b rows s os p n os.length = bestM b rows s os n p := by
  cases n with
  | zero => rfl
  | succ n =>
    show pickM (fM b rows s os n p) (os.take os.length) 0 ((p.1, 1), none) = _
    rw [List.take_length]
    rfl
/-- best, given mean_with for the games behind (n = 0: none is asked) -/
theorem ok_chbest_of (T : Tx K mg) (n k : Nat) (hk7 : 7 ≤ k) (hm : ∀ n', n = n' + 1 → MethOk P w K mg base (He.ga K "Chooser") "mean_with" k (SpMean P w K n')) : MethOk P w K mg base (He.ga K "Chooser") "best" (k + 1) (SpBest P w K n) := by
  have C1 := ok_isabove (P := P) (w := w) (base := base) T
  obtain ⟨fd, F⟩ := D_chbest T
  refine meth_of F (fn_ok F sc_chbest (fun vs H Q E ⟨_, _, _, _, _, _, _, _, _, _, _, d, _⟩ => by rw [DqAll.length d]; rfl) ?_) (cl_Chooser T) (me_chbest T) (fun _ _ _ _ _ _ us hl => match us, hl with | [_, _, _], _ => rfl)
  rintro cdv A outer st H vs Q E hr ⟨a, ab, ac, b, rows, s, os, d, L, N, p, dq, hc, rk, hn, hp, hg, hQ⟩
  have gk := gok_memo (P := P) (w := w) (K := K) (b := b) (rows := rows) (s := s) (os := os) (d := d)
  have kp := kp_rxs (K := K) (S := [d]) gk
  have ok := body_ok (P := P) (w := w) (K := K) (mg := mg) (base := base) (N := n_chbest) (cdv := cdv) (outer := outer) (E := E) (H := H) (R := RXS [d] (MemoG P w K b rows s os d)) kp sc_chbest hr
  have hC : ∀ H', RXS [d] (MemoG P w K b rows s os d) H H' → ChsAt K H' a ab ac b rows s os d := fun H' r => hc.rx gk r
  have hb0 := rk.bk.b
  have knownF : ∀ {H'}, RXS [d] (MemoG P w K b rows s os d) H H' → ∃ dx fs v, H' a = some (.ins (He.ga K "Chooser") dx fs) ∧ fs.lookup ("known" : Str) = some v ∧ Dq K H' v (.v (.ref d)) := fun r => (hC _ r).fld (x := "known") (r := .v (.ref d)) fun vo h => ⟨_, rfl, rfl⟩
  -- the end: the dict read
  have fin : ∀ (q3 q4 q5 : Option SV) (σ : L2.St) (H' : Hp), RXS [d] (MemoG P w K b rows s os d) H H' → Sl K H' σ [some (.v (.ref a)), some (.d (.int n)), some (.d (plD p)), q3, q4, q5] → (∃ kvs, DN P w K H' d encK kvs ∧ gAt kvs ((n : Int), p) = some (bvD (bestM b rows s os n p))) →
      wSs (bodyMo P w K mg base n_chbest "Chooser.best" (defScope s_chbest) (He.ma K (He.ga K "Chooser") "best") cdv A outer st H E (RXS [d] (MemoG P w K b rows s os d)) k).F ((defBody s_chbest).drop 1) { nx := fun _ H' => Q .non H', rt := Q } σ H' := by
    intro q3 q4 q5 σ H' r hs hk
    have ke := ok.on (kp_ex K) H'
    refine bd_retC ke (r' := .d (bvD (bestM b rows s os n p))) (fun v H2 e2 d2 => hQ v H2 (kp.trans r (RXS.of gk e2)) d2) (ev_nget ke enc_K (k := ((n : Int), p)) (ev_fld ke (cl_Chooser T) (na_Chooser_known T) (by walk_at "ev") (fun H2 e2 => knownF (kp.trans r (RXS.of gk e2)))) (ev_tup2 ke (x := .int n) (y := plD p) (by walk_at "ev") (by walk_at "ev")) fun H2 e2 => ?_) rfl σ H' (Ex.refl _) hs
    obtain ⟨kvs, h1, h2⟩ := hk
    exact ⟨kvs, h1.ex_ enc_K e2, h2⟩
  have keH := ok.on (kp_ex K) H
  obtain ⟨kvs, hd, hmm⟩ := id hg
  have hs0 := start_sl (N := n_chbest) dq
  have tst : ∀ bb, (gAt kvs ((n : Int), p)).isSome = bb → ∀ H', Ex H H' → ∃ kvs', DN P w K H' d encK kvs' ∧ (gAt kvs' ((n : Int), p)).isSome = bb := fun bb hb H' e => ⟨kvs, hd.ex_ enc_K e, hb⟩
  cases hb : (gAt kvs ((n : Int), p)).isSome with
  | true =>
    refine (bd_if0 keH (tv_nNotIn keH enc_K (k := ((n : Int), p)) (b := true) (ev_tup2 keH (x := .int n) (y := plD p) (by walk_at "ev") (by walk_at "ev")) (ev_fld keH (cl_Chooser T) (na_Chooser_known T) (by walk_at "ev") (fun H2 e2 => knownF (RXS.of gk e2))) (tst true hb)) rfl ?_) (L2.start n_chbest vs) H (Ex.refl H) hs0
    intro σ1 H1 e1 s1
    obtain ⟨x, hx⟩ := Option.isSome_iff_exists.mp hb
    exact fin none none none σ1 H1 (RXS.of gk e1) s1 ⟨kvs, hd.ex_ enc_K e1, by rw [hx, hmm.at_ hx]⟩
  | false =>
    refine (bd_if keH (tv_nNotIn keH enc_K (k := ((n : Int), p)) (b := false) (ev_tup2 keH (x := .int n) (y := plD p) (by walk_at "ev") (by walk_at "ev")) (ev_fld keH (cl_Chooser T) (na_Chooser_known T) (by walk_at "ev") (fun H2 e2 => knownF (RXS.of gk e2))) (tst false hb)) (fun _ => ?_) (fun h => by cases h)) (L2.start n_chbest vs) H (Ex.refl H) hs0
    refine bd_asg keH 3 (r := .d (bvD ((p.1, 1), none))) rfl (ev_tup2 keH (x := pr (p.1, 1)) (y := .none) (ev_tup2 keH (x := .int p.1) (y := .int 1) (ev_ixT keH (xs := [.int p.1, .int p.2]) (by walk_at "ev") (ev_int keH) (atI_get (n := 0) rfl) (fun _ _ => rfl)) (ev_int keH)) (ev_non keH)) ?_
    intro σ1 H1 e1 s1
    have r1 : RXS [d] (MemoG P w K b rows s os d) H H1 := RXS.of gk e1
    have ok1 := ok.at_ H1
    have lo := rk.op.len
    have hC1 : ∀ H', RXS [d] (MemoG P w K b rows s os d) H1 H' → ChsAt K H' a ab ac b rows s os d := fun H' r => hC H' (kp.trans r1 r)
    let nn : Int := if decide (0 < (n : Int)) = true then (os.length : Nat) else 0
    have hnn : -1000 ≤ nn ∧ nn ≤ 1000 := by
      show -1000 ≤ (if decide (0 < (n : Int)) = true then ((os.length : Nat) : Int) else 0) ∧ (if decide (0 < (n : Int)) = true then ((os.length : Nat) : Int) else 0) ≤ 1000
      split <;> omega
    refine (bd_for1 ok1 4 rfl (iv_range1 ok1 (n := nn) (b_range T) (ev_ifI ok1 (tv_gt ok1 (by walk_at "ev") (ev_int ok1)) ((ev_lenL ok1 (xs := os.map oppD) (b_len T) (ev_fld ok1 (r := .d (.list (os.map oppD))) (cl_Chooser T) (na_Chooser_opponents T) (by walk_at "ev") (fun H' r => (hC1 H' r).fld fun vo h => ⟨vo, rfl, h⟩))).cast (by rw [List.length_map])) (ev_int ok1)) hnn) (fun j ds' => ∃ q4 q5, ds' = [some (.v (.ref a)), some (.d (.int n)), some (.d (plD p)), some (.d (bvD (accM b rows s os p n j))), q4, q5]) ⟨none, none, by cases n <;> rfl⟩ ?_ ?_) σ1 H1 (kp.refl H1) s1
    · rintro H2 r2 ok2 j _ hj ⟨q4, q5, rfl⟩
      have hn0 : 0 < n := by
        rcases Nat.eq_zero_or_pos n with e | e
        · subst e
          have : nn = 0 := rfl
          rw [this] at hj
          omega
        · exact e
      obtain ⟨n', rfl⟩ : ∃ n', n = n' + 1 := ⟨n - 1, by omega⟩
      have hj2 : j < os.length := by
        have : nn = (os.length : Nat) := if_pos (decide_eq_true (by omega))
        rw [this] at hj
        omega
      obtain ⟨o, ho⟩ : ∃ o, os[j]? = some o := ⟨_, List.getElem?_eq_getElem hj2⟩
      have hom := List.mem_of_getElem? ho
      have hC2 : ∀ H', RXS [d] (MemoG P w K b rows s os d) H2 H' → ChsAt K H' a ab ac b rows s os d := fun H' r => hC H' (kp.trans r1 (kp.trans r2 r))
      have f12 := mean_part (n := n') rk hp hom (endsM b rows p s o.1 o.2).length
      rw [List.take_length] at f12
      obtain ⟨f1, f2⟩ := f12
      obtain ⟨a1, a2⟩ := pick_part (n := n') rk hp j
      have lp1 : 0 < L ^ (n' + 1) := Int.pow_pos rk.l0
      have step : accM b rows s os p (n' + 1) (j + 1) = if aboveF (fM b rows s os n' p o) (accM b rows s os p (n' + 1) j).1 = true then (fM b rows s os n' p o, some j) else accM b rows s os p (n' + 1) j := by
        show pickM (fM b rows s os n' p) (os.take (j + 1)) 0 ((p.1, 1), none) = _
        have lt : (os.take j).length = j := by rw [List.length_take]; omega
        rw [List.take_add_one, ho]
        show pickM (fM b rows s os n' p) (os.take j ++ [o]) 0 ((p.1, 1), none) = _
        rw [pick_snoc, lt, Nat.zero_add]
        rfl
      refine bd_asg ok2 5 (r := .d (pr (fM b rows s os n' p o))) rfl (EX.ev ok2 (ex_meth ok2 (hm n' rfl) (Nat.le_refl _) (by walk_at "ev") (fun H' r => let ⟨dx, vo, z, _⟩ := hC2 H' r; ⟨dx, _, z, rfl⟩) (ea_cons ok2 (by walk_at "ev") (ea_two ok2 (by walk_at "ev") (by walk_at "ev"))) fun H' vs Q r dv q => ?_)) ?_
      · exact ⟨a, ab, ac, b, rows, s, os, d, L, N, p, j, o, .cons rfl dv, hC2 H' r, rk, hn, hp, ho, (kp.trans r1 (kp.trans r2 r)).2 hg, fun v H3 r3 d3 => q v H3 r3 d3⟩
      refine bd_if ok2 (b := aboveF (fM b rows s os n' p o) (accM b rows s os p (n' + 1) j).1) (tv_val ok2 (ev_call ok2 C1 (Nat.le_trans (by decide) hk7) (ea_two ok2 (by walk_at "ev") (ev_ixT ok2 (xs := [pr (accM b rows s os p (n' + 1) j).1, idxD (accM b rows s os p (n' + 1) j).2]) (by walk_at "ev") (ev_int ok2) (atI_get (n := 0) rfl) (fun _ _ => rfl))) fun _ _ => ⟨_, _, rfl, two_dv f1 a1 f2 a2 lp1 lp1 (rk.pw (by omega)), rfl⟩)) (fun h => ?_) (fun h => ?_)
      · rw [if_pos h] at step
        refine bd_asg ok2 3 (r := .d (bvD (fM b rows s os n' p o, some j))) rfl (ev_tup2 ok2 (x := pr (fM b rows s os n' p o)) (y := .int j) (by walk_at "ev") (by walk_at "ev")) (bd_end (bd_nil fun σ H' hr' hs' => ⟨_, hr', ⟨some (.d (.int j)), some (.d (pr (fM b rows s os n' p o))), ?_⟩, hs'⟩))
        rw [step]
        rfl
      · rw [if_neg (by rw [h]; decide)] at step
        refine bd_end (bd_nil fun σ H' hr' hs' => ⟨_, hr', ⟨some (.d (.int j)), some (.d (pr (fM b rows s os n' p o))), ?_⟩, hs'⟩)
        rw [step]
        rfl
    · rintro _ ⟨q4, q5, rfl⟩
      intro σ2 H2 r2 s2
      have hacc : accM b rows s os p n nn.toNat = bestM b rows s os n p := by
        cases n with
        | zero => rfl
        | succ n' =>
          have : nn = (os.length : Nat) := if_pos (decide_eq_true (by omega))
          rw [this, Int.toNat_natCast]
          exact accM_best b rows s os p (n' + 1)
      rw [hacc] at s2
      have r12 := kp.trans r1 r2
      have ke2 := ok.on (kp_ex K) H2
      obtain ⟨kvs2, hd2, hm2⟩ := r12.2 hg
      refine ws_nput ke2 enc_K (k := ((n : Int), p)) (z := bvD (bestM b rows s os n p)) (Pk := MemoOk b rows s os) (Ex.refl H2) s2 (by walk_at "ev") (ev_fld ke2 (cl_Chooser T) (na_Chooser_known T) (by walk_at "ev") (fun H3 e3 => knownF (kp.trans r12 (RXS.of gk e3)))) (ev_tup2 ke2 (x := .int n) (y := plD p) (by walk_at "ev") (by walk_at "ev")) (noL_bvD _) (fun H3 e3 => ⟨kvs2, hd2.ex_ enc_K e3, by have := hm2.len hb0; omega, hm2⟩) fun H3 kvs3 o0 o3 e3 hm3 hd3 e0 hd4 s4 => ?_
      have hm4 := hm3.put (n := n) (p := p) (by have := rk.n13; omega) hp
      have r4 : RXS [d] (MemoG P w K b rows s os d) H (upd H3 d (exO d o3)) := kp.trans r12 (kp.trans (RXS.of gk e3) (RXS.upd (by simp) e0 (fun _ _ _ h => h) fun _ => ⟨_, hd4, hm4⟩))
      refine wSs_nil (fin _ _ _ σ2 _ r4 s4 ⟨_, hd4, ?_⟩)
      rw [gAt_put, if_pos rfl]
theorem ok_chbest (T : Tx K mg) : ∀ n : Nat, MethOk P w K mg base (He.ga K "Chooser") "best" (8 + 2 * n) (SpBest P w K n)
  | 0 => ok_chbest_of T 0 7 (Nat.le_refl _) fun _ e => nomatch e
  | n + 1 => by
    have ih := ok_chbest T n
    have h1 := ok_chmeanwith T n (8 + 2 * n) (by omega) ih
    exact ok_chbest_of T (n + 1) (8 + 2 * n + 1) (by omega) fun n' e => by
      obtain rfl : n = n' := by omega
      exact h1
end
/-! greatest_mean. -/
theorem chsArgs_inj {ab ac ab' ac' : Addr} {s s' : Int} {os os' : List Opp} (h : chsArgs ab ac s os = chsArgs ab' ac' s' os') : ab = ab' ∧ ac = ac' ∧ s = s' ∧ os = os' := by
  unfold chsArgs at h
  simp only [List.cons.injEq, SV.v.injEq, V.ref.injEq, SV.d.injEq, PyData.int.injEq, PyData.list.injEq, and_true] at h
  exact ⟨h.1, h.2.1, h.2.2.1, map_inj (fun _ _ => oppD_inj) h.2.2.2⟩
section
variable {ι : Type} {m : Mo ι} {ds : Sd} {pos : Pos}
/-- Chooser(..).best(n, p) -/
theorem ev_choose (ok : m.Ok) (T : Tx m.S.K m.S.mg) (hRE : ∀ {H H'}, m.R H H' → Ex H H') {n : Nat} (hk : 8 + 2 * n ≤ m.k) {e e2 : Expr} {es es2 : List Expr} {p0 p1 p2 : Pos} {ab ac : Addr} {b : Bk} {rows : List Cw} {s : Int} {os : List Opp} {L : Int} {N : Nat} {p : Int × Int} (ha : EA m ds (e :: es) (chsArgs ab ac s os)) (ha2 : EA m ds (e2 :: es2) [.d (.int n), .d (plD p)])
    (hb : ∀ H, m.R m.H0 H → BookAt m.S.K H ab b) (hc : ∀ H, m.R m.H0 H → ChAt m.S.K H ac rows) (rk : Rk b rows s os L N) (hn : n ≤ N) (hp : InBk b p)
    (hg : ∀ i, Gl (m.F i) "Chooser" := by intro _; rfl)
    (he : ∀ i, starEach (e :: es) (m.F i).env = (false, eval e (m.F i).env) :: starEach es (m.F i).env := by intro _; rfl) (hpl : ∀ i, (backTo p1 (starEach es (m.F i).env)).any (·.1) = false := by intro _; rfl)
    {pl : ι → Sem Bool} (he2 : ∀ i, starEach (e2 :: es2) (m.F i).env = (false, eval e2 (m.F i).env) :: starEach es2 (m.F i).env := by intro _; rfl) (hpl2 : ∀ i, (backTo pos (starEach es2 (m.F i).env)).any (·.1) = false := by intro _; rfl)
    (ht : ∀ i, eval (.Call (.Attribute (.Call (.Name "Chooser" p0) (e :: es) [] p1) "best" p2) (e2 :: es2) [] pos) (m.F i).env = (do
      let ov ← eval (.Call (.Name "Chooser" p0) (e :: es) [] p1) (m.F i).env
      standAt p2.atName
      let (f, first) ← holding [ov] (getMethod ov "best" (pl i))
      callWith pos f first (backTo pos (starEach (e2 :: es2) (m.F i).env)) (backToKw pos (keywordEach [] (m.F i).env))) := by intro _; rfl) :
    EV m ds (.Call (.Attribute (.Call (.Name "Chooser" p0) (e :: es) [] p1) "best" p2) (e2 :: es2) [] pos) (.d (bvD (bestM b rows s os n p))) := fun σ H hr hs Q q => by
  obtain ⟨⟨f, fd, ps, F, hm, bd⟩, cl⟩ := ok_chbest (P := m.S.P) (w := m.S.w) (base := m.S.base) T n
  obtain ⟨f', fd', ps', ds', M, F', hm', bd', hd'⟩ := (make_chooser (P := m.S.P) (w := m.S.w) (base := m.S.base) T).ex
  refine wE_of (t := tMeth (He.ga m.S.K "Chooser") "best" (SpBest m.S.P m.S.w m.S.K n) [] E0 (tMake (He.ga m.S.K "Chooser") (SpInit m.S.K (He.ga m.S.K "Chooser") preChs (postChs m.S.P m.S.w m.S.K)) [] E0 (wA m.F (e :: es))) (wA m.F (e2 :: es2)))
    (fun i => pe_meth (pe_make (by rw [ok.hK i]; exact M) (by rw [ok.hp i, ok.hw i, ok.hK i, ok.hm i, ok.hb i]; exact F') ((ok.room i).mono (by omega)) (hg i) (by rw [ok.hm i]; exact hm') (by rw [ok.hK i]; exact bd') hd' pass0 (wA_ok i) (by decide) (he i) (hpl i))
      (by rw [ok.hK i]; exact cl) (by rw [ok.hK i]; exact hm) (by rw [ok.hp i, ok.hw i, ok.hK i, ok.hm i, ok.hb i]; exact F) ((ok.room i).mono hk) (by rw [ok.hK i]; exact bd) .nil pass0 (wA_ok i) (he2 i) (hpl2 i) (ht i)) ?_
  refine ha σ H hr hs _ fun vs H1 r1 d1 a dx na nd ne => ?_
  have e1 : Ex H1 (upd (upd H1 dx (.own a)) a (.ins (He.ga m.S.K "Chooser") dx [])) := (Ex.new nd).trans (Ex.new (by rw [upd_ne (Ne.symm ne)]; exact na))
  refine ⟨a, dx, vs ++ [], chsArgs ab ac s os, rfl, upd_same, by rw [List.append_nil]; exact ok.dqs (ok.ex e1) d1, ⟨ab, ac, s, os, rfl⟩, fun H' e' hpo => ⟨rfl, ?_⟩⟩
  have e2 : Ex H1 H' := fun c o hc => e' c o (ne_of_none hc na) (e1 c o hc)
  obtain ⟨ab', ac', s', os', d, vo, z, hi, hvo, hdn, hfr⟩ := hpo
  obtain ⟨rfl, rfl, rfl, rfl⟩ := chsArgs_inj z
  have r2 := ok.trans r1 (ok.ex e2)
  refine ⟨a, dx, _, rfl, hi, rfl, ha2 σ H' (ok.trans hr r2) (ok.sl r2 hs) _ fun vs2 H3 r3 d3 => ?_⟩
  have r03 := ok.trans hr (ok.trans r2 r3)
  have e3 := hRE r3
  refine ⟨a, ab, ac, b, rows, s, os, d, L, N, p, by rw [List.append_nil]; exact (show DqAll m.S.K H3 (V.ref a :: vs2) _ from .cons rfl d3), ⟨dx, vo, e3 _ _ hi, ok.dp r3 hvo, hb H3 r03, hc H3 r03⟩, rk, hn, hp, ⟨[], hdn.ex_ enc_K e3, ⟨List.nodup_nil, fun _ z => nomatch z⟩⟩, fun v H4 r4 d4 => q v H4 (ok.ex fun c o hcz => ?_) d4⟩
  have h1 := hRE r1 _ _ hcz
  have nd' : c ≠ d := by
    rintro rfl
    have := e1 _ _ h1
    rw [hfr] at this
    cases this
  exact r4.1 c o (e3 _ _ (e2 _ _ h1)) fun hm => absurd (by simpa using hm) nd'
end
section
variable {P : Program} {w : World} {K : PySem.W.Frag} {mg : Str → Option Value} {base : Heap}
def gmArgs (ab ac : Addr) (p : Int × Int) (s : Int) (os : List Opp) (n : Nat) : List SV := [.v (.ref ab), .v (.ref ac), .d (plD p), .d (.int s), .d (.list (os.map oppD)), .d (.int n)]
structure GmPre (K : PySem.W.Frag) (H : Hp) (ab ac : Addr) (b : Bk) (rows : List Cw) (p : Int × Int) (s : Int) (os : List Opp) (n : Nat) (L : Int) (N : Nat) : Prop where
  bk : BookAt K H ab b
  ch : ChAt K H ac rows
  rk : Rk b rows s os L N
  nN : n ≤ N
  n12 : n ≤ 12
  hp : InBk b p
def rGreatest (K : PySem.W.Frag) (rs : List SV) (H : Hp) (r : SV) : Prop := ∃ ab ac b rows p s os n L N, rs = gmArgs ab ac p s os n ∧ GmPre K H ab ac b rows p s os n L N ∧ r = .d (pr (bestM b rows s os n p).1)
theorem ok_greatestmean (T : Tx K mg) : CallOk P w K mg base "greatest_mean" 40 (SpR K (rGreatest K)) := by
  have C1 := ok_checkchoice (P := P) (w := w) (base := base) T
  obtain ⟨fd, F⟩ := D_greatestmean T
  refine call_of F (fn_pure F sc_greatestmean (fun rs H r ⟨_, _, _, _, _, _, _, _, _, _, e, _⟩ => by rw [e]; rfl) ?_) (g_greatestmean T) (fun _ _ _ _ _ _ us hl => match us, hl with | [_, _, _, _, _, _], _ => rfl)
  rintro cdv A outer st H E Q rs r hr ⟨ab, ac, b, rows, p, s, os, n, L, N, rfl, ⟨hb, hc, rk, hnN, hn, hp⟩, rfl⟩ ok hQ
  refine bd_expr ok (ev_call ok C1 (Nat.le_of_ble_eq_true rfl) (ea_cons ok (by walk_at "ev") (ea_cons ok (by walk_at "ev") (ea_cons ok (by walk_at "ev") (ea_two ok (by walk_at "ev") (by walk_at "ev"))))) fun H' e => ⟨ab, b, p, s, os, n, rfl, hb.ex e, hp, rk.op, ⟨rk.s0, rk.s1⟩, by omega, rfl⟩) ?_
  refine bd_retC ok hQ (ev_ixT ok (xs := [pr (bestM b rows s os n p).1, idxD (bestM b rows s os n p).2]) (ev_choose ok T (fun h => h) (by show 8 + 2 * n ≤ 39; omega) (ea_cons ok (by walk_at "ev") (ea_cons ok (by walk_at "ev") (ea_two ok (by walk_at "ev") (by walk_at "ev")))) (ea_two ok (by walk_at "ev") (by walk_at "ev")) (fun H' e => hb.ex e) (fun H' e => hc.ex e) rk hnN hp) (ev_int ok) (atI_get (n := 0) rfl) (fun _ _ => rfl)) rfl
end
/-! {k: v for x in it}, the keys nested tuples. -/
section
variable {κ : Type} [DecidableEq κ] {enc : κ → PyData}
/-- the reading: D the new dict, told by DN -/
def tDcN (P : Program) (w : World) (K : PySem.W.Frag) (enc : κ → PyData) (wi : TI) (g : TG) (tk tv : TE) (vs : List Nat) : TE := fun σ H Q => wi σ H fun J H1 => ∀ D, H1 D = none → DN P w K (upd H1 D (exO D emptyD)) D enc [] → ∃ W : Nat → Nat → Hp → Prop, (∃ m, W 0 m (upd H1 D (exO D emptyD))) ∧
  ∀ i m H, W i m H → (J.stop i H ∧ Q (.ref D) H) ∨ (J.go i H ∧ ∃ Nx : Hp → Prop, (∀ H', Nx H' → ∃ m', m' < m ∧ W (i + 1) m' H') ∧ ∀ x H', J.yld i H x H' → g x (wipe σ vs) H' fun σ2 H2 => wipe σ2 vs = wipe σ vs ∧
    tk σ2 H2 fun y H4 => tv σ2 H4 fun z H5 => ∃ kvs k d, DN P w K H5 D enc kvs ∧ Dp K H5 y (enc k) ∧ Dp K H5 z d ∧ noL d = true ∧ kvs.length < 100000 ∧ ∀ o, DN P w K (upd H5 D (exO D o)) D enc (gPut kvs k d) → Nx (upd H5 D (exO D o)))
theorem dictSet_n {X : Cx} {k0 : Nat} {pl : List (Addr × Obj)} {σ : L2.St} {H : Hp} {s : Shared} {E : Value → Shared → Prop} {D : Addr} {kvs : List (κ × PyData)} {k : κ} {d : PyData} {y z : V} {u r : Value} {Q : Unit → Shared → Prop} (he : Enc enc) (hr : Room k0 X.A) (I : Inv X pl σ H s) (hd : DN X.prog X.w X.K H D enc kvs) (hz : kvs.length < 100000)
    (dk : Dp X.K H y (enc k)) (dz : Dp X.K H z d) (nz : noL d = true) (ry : RelV y u) (rz : RelV z r) (h : ∀ s' o, Inv X pl σ (upd H D (exO D o)) s' → DN X.prog X.w X.K (upd H D (exO D o)) D enc (gPut kvs k d) → Q () s') : wpAny (model X.prog X.w) X.A (dictSet D u r) Q E s := by
  obtain ⟨b, rfl, rfl, hk⟩ := key_nk I he dk ry
  obtain ⟨xs, dd, nr, nd⟩ := hd.obj I he
  have lx := nr.len
  have r0 : (nestedKind X.prog X.w).room X.A := by
    have := hr.un
    show X.A.units + 8 < cLine
    omega
  refine wpAny_dictSet_heap (hsz := by rw [← lx]; exact Nat.le_trans (Nat.le_of_lt hz) (by decide)) r0 hk dd fun h' dd' sb => ?_
  have hl2 := gPut_len k d kvs
  obtain ⟨o', I4, hd4⟩ := hd.put (t' := s.toks + (nestedKind X.prog X.w).draws (nk (enc k))) he I dd' sb (nr.put he dk rz dz nd) (by omega) (gPut_vals nz hd.vals)
  exact h _ o' I4 hd4
variable {X : Cx} {k0 : Nat}
theorem dcn_core {pl : List (Addr × Obj)} {sA : Shared} {σ : L2.St} {H : Hp} {Q : VK} {kx vx tg src : Expr} {scope : Scope} {own : List (Str × Nat)} {pos pos' : Pos} {wi : TI} {g : TG} {tk tv : TE} {use : Option (Value → Sem Unit)} {Qf : Value → Shared → Prop}
    (hen : Enc enc) (hroom : Room k0 X.A) (hcalm : X.calm = true) (hnd : X.N.Nodup) (IA : Inv X pl σ H sA) (hsrc : PI X tg src wi) (bok : BlkOk X.N X.env.scope scope own)
    (hgt : ∀ (s : Shared) (H : Hp) (C : Addr) (cl : List (Str × Addr)) (fp : List Addr), PG (X.blk s H scope (compEnvC scope cl C X.env) fp) tg g)
    (hkx : ∀ (s : Shared) (H : Hp) (C : Addr) (cl : List (Str × Addr)) (fp : List Addr), PE (X.blk s H scope (compEnvC scope cl C X.env) fp) kx tk)
    (hvx : ∀ (s : Shared) (H : Hp) (C : Addr) (cl : List (Str × Addr)) (fp : List Addr), PE (X.blk s H scope (compEnvC scope cl C X.env) fp) vx tv)
    (hfold : ∀ x, foldedSetIterable src X.env x = pure x) (h : tDcN X.prog X.w X.K enc wi g tk tv (own.map (·.2)) σ H Q)
    (hend : ∀ D C s' m H', Inv X pl σ H' s' → Q (.ref D) H' → s'.heap.Ns C m → FpOk X pl H' C → compPost (model X.prog X.w) X.A X.xe use Qf (.ref D) C (.ok .next) s') :
    wpAny (model X.prog X.w) X.A (comprehension (.DictComp kx vx [⟨tg, src, [], 0⟩] scope pos) scope X.env pos' newDict false (eval src X.env) use) Qf X.xe sA := by
  have hcl : ∀ y ∈ scope.names, y.2 = .free → ∃ c, X.env.cells.lookup y.1 = some c := fun y hy e => (bok.free y hy e).elim (fun z => IA.ok.has _ (.inl z)) fun z => IA.ok.has _ (.inr z)
  refine wpAny_comprehension_free (use := use) rfl hfold (closure_ok hcl) bok.kind (fun y hy e => (bok.uniq y hy).trans (congrArg some e)) (thn (hsrc.run pl sA σ H _ IA h) fun xv sB hx => thn hx fun itv sC hC => ?_)
  obtain ⟨itr, fps, turnst, J, HB, eit, IC, TT, stC, fpC, hq⟩ := hC
  subst eit
  refine wpAny_newObj_type (newEnv_comp ?_)
  have hDnone : HB sC.heap.objs.size = none := IC.hok.fresh (Nat.le_refl _)
  obtain ⟨W, ⟨mm, wst⟩, turn⟩ := hq _ hDnone (dn_new IC)
  have ID := inv_newD IC
  generalize hDD : sC.heap.objs.size = D at hDnone turn wst ID
  generalize hsD : ({ sC with heap := sC.heap.push emptyD } : Shared) = sD at ID
  have hheap : sD.heap = sC.heap.push emptyD := by rw [← hsD]
  have small : ∀ b ∈ fps, b < sC.heap.objs.size := fun b hb => let ⟨o, e, _⟩ := TT.obj _ _ stC b hb; Heap.lt_size e
  have fpD : ∀ b ∈ fps, FpOk X pl (upd HB D (exO D emptyD)) b ∧ b < sD.heap.objs.size := fun b hb => by
    have lt := small b hb
    refine ⟨⟨?_, (fpC b hb).2⟩, by rw [hheap, Heap.size_push]; exact Nat.lt_succ_of_lt lt⟩
    rw [upd_ne (by rw [← hDD]; exact Nat.ne_of_lt lt)]
    exact (fpC b hb).1
  have stD : turnst 0 sD.heap := TT.keep _ _ _ stC fun b _ o e => by rw [hheap]; exact Heap.get?_push_of_some _ e
  have IE := block_start ID bok hnd fpD
  have pgt := hgt sD (upd HB D (exO D emptyD)) sD.heap.objs.size (cellsFrom (sD.heap.objs.size + 1) scope.names (cloFrom X.env.cells scope.names [])) fps
  have pkx := hkx sD (upd HB D (exO D emptyD)) sD.heap.objs.size (cellsFrom (sD.heap.objs.size + 1) scope.names (cloFrom X.env.cells scope.names [])) fps
  have pvx := hvx sD (upd HB D (exO D emptyD)) sD.heap.objs.size (cellsFrom (sD.heap.objs.size + 1) scope.names (cloFrom X.env.cells scope.names [])) fps
  show codeAny _ _ (.compStart (.DictComp kx vx [⟨tg, src, [], 0⟩] scope pos) 0 (.ref itr) (.ref D) (compEnvC scope (cellsFrom (sD.heap.objs.size + 1) scope.names (cloFrom X.env.cells scope.names [])) sD.heap.objs.size X.env))
    (compPost (model X.prog X.w) X.A X.xe use Qf (.ref D) sD.heap.objs.size) { sD with heap := pushCells (sD.heap.push emptyD) scope.names }
  have free0 : ∀ b ∈ fps, (upd HB D (exO D emptyD)) b = none := fun b hb => (fpD b hb).1.1
  generalize hce : compEnvC scope (cellsFrom (sD.heap.objs.size + 1) scope.names (cloFrom X.env.cells scope.names [])) sD.heap.objs.size X.env = ce at IE pgt pkx pvx ⊢
  have locs : ce.locals = sD.heap.objs.size := by subst hce; rfl
  generalize hHD : upd HB D (exO D emptyD) = HD at ID IE pgt pkx pvx wst free0 fpD
  generalize hsE : ({ sD with heap := pushCells (sD.heap.push emptyD) scope.names } : Shared) = sE at IE ⊢
  have stE : turnst 0 sE.heap := TT.keep _ _ _ stD fun b _ o e => by
    rw [← hsE]
    exact pushCells_keeps _ _ _ _ (Heap.get?_push_of_some _ e)
  have pinOk : ∀ {σ' : L2.St} {H' : Hp} {s' : Shared}, Inv (X.blk sD HD scope ce fps) [] σ' H' s' → (∀ b ∈ fps, H' b = none) → ∀ b ∈ fps, FpOk (X.blk sD HD scope ce fps) [] H' b := fun {σ' H' s'} I' hn b hb =>
    ⟨hn b hb, (I'.ok.exf b hb).1, I'.ok.exfs b hb, .inl hb, fun x c e => (I'.ok.exf b hb).2 x c e, fun p hp => nomatch (show p ∈ ([] : List (Addr × Obj)) from hp)⟩
  have loop : codeAny (model X.prog X.w) X.A (.compLoop (.DictComp kx vx [⟨tg, src, [], 0⟩] scope pos) 0 (.ref itr) (.ref D) ce) (compPost (model X.prog X.w) X.A X.xe use Qf (.ref D) sD.heap.objs.size) sE := by
    refine compLoop_anyD (fun n s' => ∃ i H', Inv (X.blk sD HD scope ce fps) [] (wipe σ (own.map (·.2))) H' s' ∧ turnst i s'.heap ∧ (∀ b ∈ fps, H' b = none) ∧ W i n H') (fun n s5 hI => ?_) mm ⟨0, HD, IE, stE, free0, wst⟩
    obtain ⟨i, H5, I5, st5, n5, w5⟩ := hI
    rcases turn i n H5 w5 with ⟨stops, qD⟩ | ⟨goes, Nx, hNx, step⟩
    · refine thnF (TT.done (X.blk sD HD scope ce fps) rfl rfl rfl hcalm i [] s5 _ H5 (fun _ _ => False) I5 (pinOk I5 n5) st5 stops) fun r s6 hr => ?_
      obtain ⟨rfl, I6⟩ := hr
      have I7 : Inv X pl σ H5 s6 := ID.call' (ch := fps) I6.os I6.base I6.hok I6.bare fun b hb => let z := (fpD b hb).1; ⟨z.2.2.2.1, z.2.1, z.2.2.2.2.1, z.2.2.2.2.2⟩
      have nC : H5 sD.heap.objs.size = none := by
        have z : H5 ce.locals = none := I6.free
        rwa [locs] at z
      obtain ⟨nsm, hns, _⟩ := I6.loc
      have hns2 : s6.heap.Ns ce.locals nsm := hns
      rw [locs] at hns2
      exact hend D sD.heap.objs.size s6 nsm H5 I7 qD hns2 (ID.fpOk (Nat.le_refl _) nC)
    · refine thnF (TT.item (X.blk sD HD scope ce fps) rfl rfl rfl hcalm i [] s5 _ H5 (fun _ _ => False) I5 (pinOk I5 n5) st5 goes) fun r s6 hr => ?_
      obtain ⟨u, rfl, h6⟩ := hr
      refine thnF h6 fun _ s7 h7 => ?_
      obtain ⟨x, H7, I7, r7, y7, st7, n7⟩ := h7
      refine thnF (pgt.run _ s7 _ H7 x u _ (I7.pinned (pinOk I7 n7) (TT.obj _ _ st7)) r7 (step x H7 y7)) fun _ s8 h8 => ?_
      obtain ⟨σ8, H8, I8, hw8, q8⟩ := h8
      refine thnF ((pts_nil (X := X.blk sD HD scope ce fps)).run _ s8 σ8 H8 (fun bb H' => bb = true ∧ H' = H8) I8 ⟨rfl, rfl⟩) fun bb s9 h9 => ?_
      obtain ⟨H9, I9, rfl, rfl⟩ := h9
      simp only [if_true]
      refine thnF (pkx.run _ s9 σ8 H9 _ I9 q8) fun kv s10 h10 => ?_
      obtain ⟨yk, H10, I10, r10, q10⟩ := h10
      refine thnF (pvx.run _ s10 σ8 H10 _ I10 q10) fun vv s11 h11 => ?_
      obtain ⟨yv, H11, I11, r11, kvs, kk, d, hdn, dk, dz, nz, hz, nx⟩ := h11
      refine dictSet_n (X := X.blk sD HD scope ce fps) hen hroom I11 hdn hz dk dz nz r10 r11 fun s12 o I12 hd12 => ?_
      obtain ⟨m', hm', w'⟩ := hNx _ (nx o hd12)
      have still : ∀ b ∈ fps, ∀ o2, s7.heap.get? b = some o2 → s12.heap.get? b = some o2 ∧ (upd H11 D (exO D o)) b = none := fun b hb o2 e =>
        let z := I12.pin (b, o2) (List.mem_append_right _ (List.mem_append_right _ (mem_pinsAt hb e)))
        ⟨z.1, z.2.1⟩
      refine ⟨m', hm', i + 1, _, (I12.unpinned (pins := [])).weak (by rw [← hw8, wipe_length]) (fun j v e => ?_), TT.keep _ _ _ st7 fun b hb o2 e => (still b hb o2 e).1, fun b hb => ?_, w'⟩
      · rw [← hw8] at e
        exact (wipe_some e).1
      · obtain ⟨o2, e, _⟩ := TT.obj _ _ st7 b hb
        exact (still b hb o2 e).2
  exact codeAny_compStart_dict loop (TT.self X.A 0 _ _ _ stE loop)
theorem pe_dcN {kx vx tg src : Expr} {scope : Scope} {own : List (Str × Nat)} {pos : Pos} {wi : TI} {g : TG} {tk tv : TE} (hen : Enc enc) (hroom : Room k0 X.A) (hcalm : X.calm = true) (hnd : X.N.Nodup) (hsrc : PI X tg src wi) (bok : BlkOk X.N X.env.scope scope own)
    (hgt : ∀ (s : Shared) (H : Hp) (C : Addr) (cl : List (Str × Addr)) (fp : List Addr), PG (X.blk s H scope (compEnvC scope cl C X.env) fp) tg g)
    (hkx : ∀ (s : Shared) (H : Hp) (C : Addr) (cl : List (Str × Addr)) (fp : List Addr), PE (X.blk s H scope (compEnvC scope cl C X.env) fp) kx tk)
    (hvx : ∀ (s : Shared) (H : Hp) (C : Addr) (cl : List (Str × Addr)) (fp : List Addr), PE (X.blk s H scope (compEnvC scope cl C X.env) fp) vx tv)
    (hfold : ∀ x, foldedSetIterable src X.env x = pure x) : PE X (.DictComp kx vx [⟨tg, src, [], 0⟩] scope pos) (tDcN X.prog X.w X.K enc wi g tk tv (own.map (·.2))) := by
  refine ⟨fun pl s σ H Q I h => ?_⟩
  rw [arm_eval_DictComp]
  refine dcn_core hen hroom hcalm hnd I hsrc bok hgt hkx hvx hfold h fun D C s' nsm H' I' q hn f => ⟨nsm, hn, fun h'' sb => ⟨.ref D, H', ?_, rfl, q⟩⟩
  exact I'.turned (t' := s'.toks) (fun b o hb e => (sb.2 b hb).trans e) f.1 f.2.1 f.2.2.2.1 f.2.2.2.2.1 f.2.2.2.2.2
end
/-! The comprehension of a dict with nested keys, at the level of families. -/
section
variable {ι : Type} {m : Mo ι} {ds : Sd} {pos : Pos} {κ : Type} [DecidableEq κ] {enc : κ → PyData}
theorem gAt_none {β : Type} {k : κ} : ∀ {kvs : List (κ × β)}, k ∉ kvs.map (·.1) → gAt kvs k = none
  | [], _ => rfl
  | p :: r, h => by
    show (if p.1 = k then some p.2 else gAt r k) = none
    rw [List.map_cons, List.mem_cons] at h
    rw [if_neg fun e => h (.inl e.symm)]
    exact gAt_none fun z => h (.inr z)
theorem gAt_map {β : Type} (f : κ → β) {k : κ} : ∀ {xs : List κ}, k ∈ xs → gAt (xs.map fun k => (k, f k)) k = some (f k)
  | x :: xs, h => by
    show (if x = k then some (f x) else gAt (xs.map fun k => (k, f k)) k) = _
    by_cases e : x = k
    · rw [if_pos e, e]
    · rw [if_neg e]
      exact gAt_map f ((List.mem_cons.mp h).elim (fun z => absurd z.symm e) id)
theorem ex_dcN (ok : m.Ok) (he : Enc enc) (j : Nat) {x : Str} {kx vx src : Expr} {scope : Scope} {p : Pos} (xs : List κ) (f : κ → PyData) (hN : m.S.N[j]? = some x) (hnd : xs.Nodup) (hz : xs.length ≤ 1000) (hf : ∀ k, noL (f k) = true) (hi : IV m ds (.Name x p) src xs.length fun i => (xs.map enc).getD i .none)
    (hkeep : ∀ {H1 H2 D kvs}, (∃ H, m.R m.H0 H ∧ H D = none) → m.R H1 H2 → DN m.S.P m.S.w m.S.K H1 D enc kvs → DN m.S.P m.S.w m.S.K H2 D enc kvs)
    (hup : ∀ {H1 H5 D o u}, m.R m.H0 H1 → H1 D = none → m.R H1 H5 → H5 D = some (exO D o) → m.R H1 (upd H5 D u))
    (hk : ∀ H1, m.R m.H0 H1 → ((m.blk scope).at_ H1).Ok → ∀ k ∈ xs, EV ((m.blk scope).at_ H1) ((ds.set j none).set j (some (.d (enc k)))) kx (.d (enc k)) ∧ EV ((m.blk scope).at_ H1) ((ds.set j none).set j (some (.d (enc k)))) vx (.d (f k)))
    (hb : ∀ i, blkC m.S.N (m.F i).env.scope scope [(x, j)] = true := by intro _; kernel_rfl)
    (hl : ∀ z, Loc ((m.blk scope).F z).env.scope x := by intro _; first | exact Or.inl rfl | exact Or.inr rfl)
    (hfn : ∀ z, ((m.blk scope).F z).fn x = true ∨ ((m.blk scope).F z).env.scope.names.lookup x = some .local := by intro _; first | exact Or.inl rfl | exact Or.inr rfl)
    (hfs : ∀ i, ∀ x, foldedSetIterable src (m.F i).env x = pure x := by intro _ _; rfl) : EX m ds (.DictComp kx vx [⟨.Name x p, src, [], 0⟩] scope pos) (fun v H => ∃ D, v = .ref D ∧ DN m.S.P m.S.w m.S.K H D enc (xs.map fun k => (k, f k))) := fun σ H hr hs Q q => by
  have okb : ∀ H1, ((m.blk scope).at_ H1).Ok := fun H1 => (ok.blk scope).at_ H1
  refine wE_of (t := tDcN m.S.P m.S.w m.S.K enc (wI m.F (.Name x p) src) (wG (m.blk scope).F (.Name x p)) (wE (m.blk scope).F kx) (wE (m.blk scope).F vx) ([(x, j)].map (·.2))) (fun i => by
    rw [← ok.hp i, ← ok.hw i, ← ok.hK i]
    exact pe_dcN he (ok.room i) (ok.calm i) (by rw [ok.hN i]; exact ok.nd) (wI_ok i) (blkOk_by (by rw [ok.hN i]; exact hb i)) (fun s H C cl fp => wG_ok (F := (m.blk scope).F) (i, s, H, C, cl, fp)) (fun s H C cl fp => wE_ok (F := (m.blk scope).F) (i, s, H, C, cl, fp)) (fun s H C cl fp => wE_ok (F := (m.blk scope).F) (i, s, H, C, cl, fp)) (hfs i)) ?_
  refine hi σ H hr hs _ fun J H1 G r1 hG w D nD dn0 => ?_
  have r01 := ok.trans hr r1
  have hfr : ∃ H, m.R m.H0 H ∧ H D = none := ⟨H1, r01, nD⟩
  have wi : Sl m.S.K H1 (σ.set j none) (ds.set j none) := (ok.sl r1 hs).none j
  have e0 : m.R H1 (upd H1 D (exO D emptyD)) := ok.new nD
  refine ⟨fun i k H' => k = xs.length - i ∧ i ≤ xs.length ∧ m.R H1 H' ∧ DN m.S.P m.S.w m.S.K H' D enc ((xs.take i).map fun k => (k, f k)), ⟨xs.length, by simp, Nat.zero_le _, e0, dn0⟩, ?_⟩
  rintro i k H' ⟨rfl, hin, k1, k2⟩
  by_cases hlt : i < xs.length
  case neg =>
    have e : i = xs.length := by omega
    subst e
    rw [List.take_length] at k2
    exact .inl ⟨w.stops H' (hG H' k1), q _ H' (ok.trans r1 k1) ⟨D, rfl, k2⟩⟩
  refine .inr ⟨w.goes i H' hlt (hG H' k1), fun H'' => m.R H1 H'' ∧ DN m.S.P m.S.w m.S.K H'' D enc ((xs.take (i + 1)).map fun k => (k, f k)), fun H'' ⟨z1, z2⟩ => ⟨xs.length - (i + 1), by omega, rfl, hlt, z1, z2⟩, fun v H2 hv => ?_⟩
  obtain ⟨e1, dv⟩ := w.yields i H' v H2 hlt (hG H' k1) hv
  have k1' := ok.trans k1 (ok.ex e1)
  obtain ⟨kk, hkk⟩ : ∃ kk, xs[i]? = some kk := ⟨_, List.getElem?_eq_getElem hlt⟩
  have dv2 : Dp m.S.K H2 v (enc kk) := by
    have z : Dp m.S.K H2 v ((xs.map enc).getD i .none) := dv k1
    rw [getD_map hkk] at z
    exact z
  obtain ⟨g1, g2⟩ := hk H1 r01 (okb H1) kk (List.mem_of_getElem? hkk)
  refine wG_name (ok.blk scope) j hN ⟨?_, ?_⟩ hl hfn
  · show ((σ.set j none).set j (some v)).set j none = σ.set j none
    rw [List.set_set, List.set_set]
  have s2 : Sl m.S.K H2 ((σ.set j none).set j (some v)) ((ds.set j none).set j (some (.d (enc kk)))) := (ok.sl k1' wi).set (r := .d (enc kk)) j dv2
  refine g1 _ H2 k1' s2 _ fun y H3 r3 d3 => g2 _ H3 (ok.trans k1' r3) (ok.sl r3 s2) _ fun z H4 r4 d4 => ?_
  have r24 := ok.trans r3 r4
  have hn4 : DN m.S.P m.S.w m.S.K H4 D enc ((xs.take i).map fun k => (k, f k)) := hkeep hfr (ok.trans (ok.ex e1) r24) k2
  have r14 := ok.trans k1' r24
  obtain ⟨o4, _, _, _, e4, _⟩ := hn4.ex
  refine ⟨_, kk, f kk, hn4, ok.dp r4 d3, d4, hf kk, by rw [List.length_map, List.length_take]; omega, fun o hd => ⟨hup r01 nD r14 e4, ?_⟩⟩
  have hnew : gAt ((xs.take i).map fun k => (k, f k)) kk = none := gAt_none (by
    rw [List.map_map]
    intro hm
    obtain ⟨a, ha, e⟩ := List.mem_map.mp hm
    have e : a = kk := e
    subst e
    obtain ⟨n, hn⟩ := List.mem_iff_getElem?.mp ha
    rw [List.getElem?_take] at hn
    split at hn
    · rename_i hni
      obtain ⟨h5, h6⟩ := List.getElem?_eq_some_iff.mp hn
      obtain ⟨h7, h8⟩ := List.getElem?_eq_some_iff.mp hkk
      have := (List.getElem_inj (h₀ := h5) (h₁ := h7) hnd).mp (h6.trans h8.symm)
      omega
    · cases hn)
  rw [gPut_new hnew] at hd
  rw [List.take_add_one, hkk, List.map_append]
  exact hd
end
/-! best_plan. -/
theorem all2_nodup {α : Type} {g : Nat → Nat → α} {n1 : Nat} : ∀ n, (∀ i j i' j', i < n → j < n1 → i' < n → j' < n1 → g i j = g i' j' → i = i' ∧ j = j') → (all2 g n1 n).Nodup
  | 0, _ => List.nodup_nil
  | n + 1, h => by
    show (all2 g n1 n ++ (List.range n1).map (g n)).Nodup
    rw [List.nodup_append]
    refine ⟨all2_nodup n fun i j i' j' a b c d e => h i j i' j' (by omega) b (by omega) d e, ?_, fun a ha b hb e => ?_⟩
    · rw [List.nodup_iff_pairwise_ne, List.pairwise_map]
      refine List.Pairwise.imp_of_mem (fun {a b} ha hb hab e => ?_) (List.nodup_iff_pairwise_ne.mp List.nodup_range)
      exact hab (h n a n b (by omega) (List.mem_range.mp ha) (by omega) (List.mem_range.mp hb) e).2
    · obtain ⟨i, j, hi, hj, rfl⟩ := mem_all2.mp ha
      obtain ⟨j', hj', rfl⟩ := List.mem_map.mp hb
      have := (h i j n j' (by omega) hj (by omega) (List.mem_range.mp hj') e).1
      omega
theorem spots_nodup (b : Bk) : b.spots.Nodup := all2_nodup _ fun i j i' j' _ _ _ _ e => by
  have h1 := congrArg Prod.fst e
  have h2 := congrArg Prod.snd e
  simp only at h1 h2
  omega
theorem spots_in {b : Bk} {p : Int × Int} (h : p ∈ b.spots) : InBk b p := by
  obtain ⟨i, j, hi, hj, rfl⟩ := mem_all2.mp h
  exact ⟨by show b.low ≤ b.low + i; omega, by show b.low + i ≤ b.high; omega, by show (0 : Int) ≤ j; omega, by show (j : Int) ≤ b.last; omega⟩
theorem in_spots {b : Bk} {p : Int × Int} (h : InBk b p) : p ∈ b.spots := by
  obtain ⟨h1, h2, h3, h4⟩ := h
  refine mem_all2.mpr ⟨(p.1 - b.low).toNat, p.2.toNat, by omega, by omega, ?_⟩
  obtain ⟨a, c⟩ := p
  show (a, c) = (b.low + ((a - b.low).toNat : Int), ((c.toNat : Nat) : Int))
  congr 1
  · omega
  · omega
def keysM (b : Bk) (n : Nat) : List (Int × (Int × Int)) := all2 (fun i j => (1 + (i : Int), b.spots.getD j (0, 0))) b.spots.length n
theorem mem_keysM {b : Bk} {n : Nat} {k : Int × (Int × Int)} : k ∈ keysM b n ↔ ∃ i, i < n ∧ k.1 = 1 + (i : Int) ∧ InBk b k.2 := by
  unfold keysM
  rw [mem_all2]
  constructor
  · rintro ⟨i, j, hi, hj, rfl⟩
    refine ⟨i, hi, rfl, ?_⟩
    show InBk b (b.spots.getD j (0, 0))
    rw [List.getD_eq_getElem?_getD, List.getElem?_eq_getElem hj]
    exact spots_in (List.getElem_mem hj)
  · rintro ⟨i, hi, h1, h2⟩
    obtain ⟨j, hj⟩ := List.mem_iff_getElem?.mp (in_spots h2)
    refine ⟨i, j, hi, (List.getElem?_eq_some_iff.mp hj).1, ?_⟩
    obtain ⟨a, c⟩ := k
    show (a, c) = (1 + (i : Int), b.spots.getD j (0, 0))
    rw [List.getD_eq_getElem?_getD, hj]
    exact congrArg (fun z => (z, c)) h1
theorem keysM_nodup (b : Bk) (n : Nat) : (keysM b n).Nodup := all2_nodup _ fun i j i' j' _ hj _ hj' e => by
  have h1 := congrArg Prod.fst e
  have h2 := congrArg Prod.snd e
  simp only [List.getD_eq_getElem?_getD, List.getElem?_eq_getElem hj, List.getElem?_eq_getElem hj', Option.getD_some] at h1 h2
  have := (List.getElem_inj (h₀ := hj) (h₁ := hj') (spots_nodup b)).mp h2
  exact ⟨by omega, this⟩
def planF (b : Bk) (rows : List Cw) (s : Int) (os : List Opp) (k : Int × (Int × Int)) : PyData := idxD (bestM b rows s os k.1.toNat k.2).2
def planM (b : Bk) (rows : List Cw) (s : Int) (os : List Opp) (n : Nat) : List ((Int × (Int × Int)) × PyData) := (keysM b n).map fun k => (k, planF b rows s os k)
theorem noL_idxD (i : Option Nat) : noL (idxD i) = true := by cases i <;> rfl
section
variable {ι : Type} {m : Mo ι} {ds : Sd}
theorem EX.run (_ : m.Ok) {e : Expr} {Post : V → Hp → Prop} {σ : L2.St} {H : Hp} {Q : VK} (h : EX m ds e Post) (hr : m.R m.H0 H) (hs : Sl m.S.K H σ ds) (q : ∀ v H2, m.R H H2 → Post v H2 → Q v H2) : wE m.F e σ H Q := h σ H hr hs Q q
end
section
variable {P : Program} {w : World} {K : PySem.W.Frag} {mg : Str → Option Value} {base : Heap}
def SpPlan (P : Program) (w : World) (K : PySem.W.Frag) : Sp := fun vs H Q _ => ∃ ab ac b rows p s os n L N, DqAll K H vs (gmArgs ab ac p s os n) ∧ GmPre K H ab ac b rows p s os n L N ∧ ∀ H' D, Ex H H' → DN P w K H' D encK (planM b rows s os n) → Q (.ref D) H'
theorem spots_len {b : Bk} (hk : BkOk b) : b.spots.length ≤ 24 := by
  unfold Bk.spots
  rw [all2_len]
  exact hk.many
theorem ok_bestplan (T : Tx K mg) : CallOk P w K mg base "best_plan" 40 (SpPlan P w K) := by
  have C1 := ok_checkchoice (P := P) (w := w) (base := base) T
  have C2 := make_chooser (P := P) (w := w) (base := base) T
  have C3 := ok_bkplacesF (P := P) (w := w) (base := base) T
  obtain ⟨fd, F⟩ := D_bestplan T
  refine call_of F (fn_ok F sc_bestplan (fun vs H Q E ⟨_, _, _, _, _, _, _, _, _, _, d, _⟩ => by rw [DqAll.length d]; rfl) ?_) (g_bestplan T) (fun _ _ _ _ _ _ us hl => match us, hl with | [_, _, _, _, _, _], _ => rfl)
  rintro cdv A outer st H vs Q E hr ⟨ab, ac, b, rows, p, s, os, n, L, N, dq, ⟨hb, hc, rk, hnN, hn, hp⟩, hQ⟩
  have ok := body_ok (P := P) (w := w) (K := K) (mg := mg) (base := base) (N := n_bestplan) (cdv := cdv) (outer := outer) (E := E) (H := H) (R := Ex) (kp_ex K) sc_bestplan hr
  have hlen := spots_len rk.bk
  have g : BD (bodyMo P w K mg base n_bestplan "best_plan" (defScope s_bestplan) (He.ga K "best_plan") cdv A outer st H E Ex 39) (startD n_bestplan (gmArgs ab ac p s os n)) (defBody s_bestplan) { nx := fun _ H' => Q .non H', rt := Q } := by
    refine bd_expr ok (ev_call ok C1 (Nat.le_of_ble_eq_true rfl) (ea_cons ok (by walk_at "ev") (ea_cons ok (by walk_at "ev") (ea_cons ok (by walk_at "ev") (ea_two ok (by walk_at "ev") (by walk_at "ev"))))) fun H' e => ⟨ab, b, p, s, os, n, rfl, hb.ex e, hp, rk.op, ⟨rk.s0, rk.s1⟩, by omega, rfl⟩) ?_
    refine bd_asgX ok 6 rfl (ex_make ok C2 (Nat.le_of_ble_eq_true rfl) (rs := chsArgs ab ac s os) (rs2 := []) (ea_cons ok (by walk_at "ev") (ea_cons ok (by walk_at "ev") (ea_two ok (by walk_at "ev") (by walk_at "ev")))) (fun _ => .nil) (fun _ _ _ z => z) fun _ _ => ⟨ab, ac, s, os, rfl⟩) fun v H1 e1 ⟨a, dx, Hs, ev, eHs, hpo⟩ ok1 => ?_
    obtain ⟨ab', ac', s', os', d, vo, z, hi, hvo, hdn, hfr⟩ := hpo
    rw [List.append_nil] at z
    obtain ⟨rfl, rfl, rfl, rfl⟩ := chsArgs_inj z
    subst ev
    have hd0 : H d = none := none_of_ex eHs hfr
    refine ⟨.v (.ref a), rfl, ?_⟩
    refine bd_setLc22 ok1 (fun H2 D e h => none_of_ex e h) 7 8 9 (n := n) (b.spots.map plD) (fun i j => encK (1 + (i : Int), b.spots.getD j (0, 0))) rfl rfl rfl (by decide) ((iv_range2 ok1 (b_range T) (ev_int ok1) (ev_add ok1 (x := n) (by walk_at "ev") (ev_int ok1)) (by omega)).len (by omega)) (by omega) (by rw [List.length_map]; omega) (noLs_of fun x hx => by obtain ⟨q, _, rfl⟩ := List.mem_map.mp hx; rfl) (fun i hi => rfl)
      (fun H2 r2 okb i hi σ H3 D nD hD r3 s2 s3 Q q => ?_) (fun H2 r2 okb i k z hi hz => ?_) (q := fun v H2 e2 hv => ?_)
    · have ok3 := okb.at_ H3
      obtain ⟨acc, hD⟩ := hD
      refine EX.run ok3 (Post := fun v H4 => ∃ A vs, v = V.ref A ∧ H3 A = none ∧ H4 A = some (.lst vs) ∧ DpAll K H4 vs (b.spots.map plD)) (ex_meth0 ok3 C3 (Nat.le_of_ble_eq_true rfl) (by walk_at "ev") (fun H' e => (hb.ex (e1.trans (r2.trans (r3.trans e)))).at_ fun _ => rfl) (fun H' Q e k => ?_)) (Ex.refl _) s3 fun v H4 e4 ⟨A, vs, ev, hA, h4, h5⟩ => ?_
      · refine ⟨[.v (.ref ab)], b.spots.map plD, (show DqAll K H' [V.ref ab] _ from .cons rfl .nil), ⟨ab, b, rfl, hb.ex (e1.trans (r2.trans (r3.trans e))), rk.bk.b, rfl⟩, fun v H5 e5 dl ⟨A, ev, hA⟩ => k v H5 e5 ?_⟩
        obtain ⟨A', vs, ev', x1, x2⟩ := dl
        have : A' = A := V.ref.inj (ev'.symm.trans ev)
        subst this
        exact ⟨A', vs, ev, none_of_ex e hA, x1, x2⟩
      · subst ev
        refine q A vs H4 e4 (fun e => ?_) (SqL.of h4) h5
        rw [e, hD] at hA
        cases hA
    · have hz2 : ∃ q, b.spots[k]? = some q ∧ z = plD q := by
        rw [List.getElem?_map] at hz
        cases h2 : b.spots[k]? with
        | none => rw [h2] at hz; cases hz
        | some q => rw [h2] at hz; exact ⟨q, rfl, (Option.some.inj hz).symm⟩
      obtain ⟨q, hq, rfl⟩ := hz2
      refine ⟨?_, rfl⟩
      rw [List.getD_eq_getElem?_getD, hq]
      exact ev_tup2 okb (x := .int (1 + (i : Int))) (y := plD q) (by walk_at "ev") (by walk_at "ev")
    · have e5 : (keysM b n).map encK = all2 (fun i j => encK (1 + (i : Int), b.spots.getD j (0, 0))) (b.spots.map plD).length n := by
        unfold keysM
        rw [all2_map, List.length_map]
      rw [← e5]
      intro σ3 H3 e3 s3
      have gk := gok_memo (P := P) (w := w) (K := K) (b := b) (rows := rows) (s := s) (os := os) (d := d)
      have kp := kp_rxs (K := K) (S := [d]) gk
      have okx := ok.on kp H3
      have e13 := e2.trans e3
      have hg3 : MemoG P w K b rows s os d H3 := ⟨[], hdn.ex_ enc_K e13, ⟨List.nodup_nil, fun _ z => nomatch z⟩⟩
      have hC3 : ChsAt K H3 a ab ac b rows s os d := ⟨dx, vo, e13 _ _ hi, ok.dp e13 hvo, hb.ex (e1.trans e13), hc.ex (e1.trans e13)⟩
      have dOf : ∀ {H'}, RXS [d] (MemoG P w K b rows s os d) H3 H' → ∃ o, H' d = some (exO d o) := fun r => by
        obtain ⟨kvs, h1, _⟩ := r.2 hg3
        obtain ⟨o, _, _, _, h2, _⟩ := h1.ex
        exact ⟨o, h2⟩
      have kl : (keysM b n).length ≤ 1000 := by
        unfold keysM
        rw [all2_len]
        exact Nat.le_trans (Nat.mul_le_mul hn hlen) (by decide)
      refine bd_retX okx (ex_dcN okx enc_K 10 (keysM b n) (planF b rows s os) rfl (keysM_nodup b n) kl (fun k => noL_idxD _) (iv_listM okx (ev_ld okx (by walk_at "ev"))) (fun {H1 H2 D kvs} ⟨Hf, rf, hf⟩ r h => ?_) (fun {H1 H5 D o u} r01 nD r h => ?_) (fun H4 r4 okb k hk => ?_)) (fun v H' r ⟨D, ev, hd⟩ => ?_) σ3 H3 (kp.refl H3) s3
      · have ne : D ≠ d := by
          rintro rfl
          obtain ⟨o, ho⟩ := dOf rf
          rw [ho] at hf
          cases hf
        exact h.rx enc_K gk r (by simpa using ne)
      · have ne : d ≠ D := by
          rintro rfl
          obtain ⟨o, ho⟩ := dOf r01
          rw [ho] at nD
          cases nD
        refine ⟨fun c v hc nc => ?_, fun hgz => ?_⟩
        · rw [upd_ne (ne_of_none hc nD)]
          exact r.1 c v hc nc
        · obtain ⟨kvs, h1, h2⟩ := r.2 hgz
          exact ⟨kvs, h1.upd enc_K h ne, h2⟩
      · obtain ⟨i, hi', hk1, hk2⟩ := mem_keysM.mp hk
        have hk3 : ((k.1.toNat : Nat) : Int) = k.1 := by omega
        have M := ok_chbest (P := P) (w := w) (base := base) T k.1.toNat
        refine ⟨by walk_at "ev", ?_⟩
        refine ev_ixT okb (xs := [pr (bestM b rows s os k.1.toNat k.2).1, idxD (bestM b rows s os k.1.toNat k.2).2]) (EX.ev okb (ex_meth okb M (by show 8 + 2 * k.1.toNat ≤ 39; omega) (by walk_at "ev") (fun H' r => let ⟨dx, vo, z, _⟩ := hC3.rx gk (kp.trans r4 r); ⟨dx, _, z, rfl⟩) (ea_two okb (r := .d (.int ((k.1.toNat : Nat) : Int))) (s := .d (plD k.2)) ((ev_ixT okb (xs := [.int k.1, plD k.2]) (by walk_at "ev") (ev_int okb) (atI_get (n := 0) rfl) (fun _ _ => rfl)).cast (by rw [hk3])) (ev_ixT okb (xs := [.int k.1, plD k.2]) (by walk_at "ev") (ev_int okb) (atI_get (n := 1) rfl) (fun _ _ => rfl))) fun H' vs Q r dv q => ?_)) (ev_int okb) (atI_get (n := 1) rfl) (fun _ _ => rfl)
        exact ⟨a, ab, ac, b, rows, s, os, d, L, N, k.2, .cons rfl dv, hC3.rx gk (kp.trans r4 r), rk, by omega, hk2, (kp.trans r4 r).2 hg3, fun v H5 r5 d5 => q v H5 r5 d5⟩
      · subst ev
        refine hQ H' D (fun c o hcz => ?_) hd
        have nd' : c ≠ d := ne_of_none hcz hd0
        exact r.1 c o (e13 _ _ (e1 _ _ hcz)) fun hm => absurd (by simpa using hm) nd'
  exact g (L2.start n_bestplan vs) H (Ex.refl H) (start_sl dq)
end
/-! check_plan. -/
def rIsiD (K : PySem.W.Frag) : List V → Hp → VK → Prop := fun xs H Q => ∃ (d : Addr) (o : Obj) (n : String) (b : Bool), xs = [.ref d, .ty n] ∧ H d = some (exO d o) ∧ o.cls = .type "dict" ∧ PySem.W.kitOne K (.type "dict") (.type n) = some b ∧ Q (.bl b) H
theorem call_isiD {X : Cx} : CallR X (.builtin "isinstance") (rIsiD X.K) := by
  intro pins s σ H xs us Q I r h
  obtain ⟨d, o, n, b, rfl, hd, hc, hk, q⟩ := h
  obtain ⟨u1, u2, rfl, r1, r2⟩ := vals2 r
  obtain rfl : u1 = Value.ref d := r1
  obtain rfl : u2 = Value.type n := r2
  exact PySem.W.kia_one PySem.W.kitx_dict I.kIn ⟨o, exO_get I.hok hd, hc⟩ hk (fun z => nomatch z) fun tk => ⟨.bl b, H, I.tok tk, rfl, q⟩
section
variable {ι : Type} {m : Mo ι} {ds : Sd} {pos : Pos}
theorem ev_isiD (ok : m.Ok) {e : Expr} {d : Addr} {y : Str} {Tn : String} {b : Bool} {p p' : Pos} (hm : m.S.mg "isinstance" = none) (hmT : m.S.mg y = none) (hbT : bootBuiltins y = some (.type Tn)) (hk : PySem.W.kitOne m.S.K (.type "dict") (.type Tn) = some b) (h : EV m ds e (.v (.ref d))) (hd : ∀ H, m.R m.H0 H → ∃ o, H d = some (exO d o) ∧ o.cls = .type "dict")
    (hg : ∀ i, Gl (m.F i) "isinstance" := by intro _; rfl) (hgT : ∀ i, Gl (m.F i) y := by intro _; rfl) (hy : y ≠ "__name__" := by decide) (hyd : (y == ("__debug__" : Str)) = false := by decide)
    (he : ∀ i, starEach [e, .Name y p'] (m.F i).env = (false, eval e (m.F i).env) :: starEach [.Name y p'] (m.F i).env := by intro _; rfl) (he2 : ∀ i, starEach [.Name y p'] (m.F i).env = (false, eval (.Name y p') (m.F i).env) :: starEach [] (m.F i).env := by intro _; rfl) (hpl : ∀ i, (backTo pos (starEach [.Name y p'] (m.F i).env)).any (·.1) = false := by intro _; rfl) :
    EV m ds (.Call (.Name "isinstance" p) [e, .Name y p'] [] pos) (.d (.bool b)) := by
  have ety : EV m ds (.Name y p') (.v (.ty Tn)) := fun σ H hr hs Q k => wE_of (fun i => pe_bltn (hgT i) (by rw [ok.hm i]; exact hmT) hbT (v := .ty Tn) rfl hy hyd) (k _ H (ok.refl H) rfl)
  refine ex_callB ok (id := "isinstance") (r := rIsiD m.S.K) (fun i => by rw [← ok.hK i]; exact call_isiD) hm (by decide +kernel) (ea_two ok h ety he he2) (fun H vs Q hr hv q => ?_) hg (by decide) (by decide) he hpl
  obtain ⟨v, v', rfl, e1, e2⟩ := dqa2 hv
  obtain rfl : v = V.ref d := e1
  obtain rfl : v' = V.ty Tn := e2
  obtain ⟨o, h1, h2⟩ := hd H hr
  exact ⟨d, o, Tn, b, rfl, h1, h2, hk, q _ H (ok.refl H) (.bl _)⟩
end
theorem pick_idx {f : Opp → Fr} {M : Nat} : ∀ (os : List Opp) (i : Nat) (acc : Fr × Option Nat), i + os.length ≤ M → (∀ j, acc.2 = some j → j < M) → ∀ j, (pickM f os i acc).2 = some j → j < M
  | [], _, acc, _, h, j, e => h j e
  | o :: os, i, acc, hl, h, j, e => by
    rw [List.length_cons] at hl
    refine pick_idx os (i + 1) _ (by omega) (fun j' e' => ?_) j e
    split at e'
    · cases e'
      omega
    · exact h j' e'
theorem best_idx {b : Bk} {rows : List Cw} {s : Int} {os : List Opp} {n : Nat} {p : Int × Int} {j : Nat} (h : (bestM b rows s os n p).2 = some j) : j < os.length := by
  cases n with
  | zero => cases h
  | succ n => exact pick_idx os 0 _ (by omega) (fun j e => by cases e) j h
section
variable {P : Program} {w : World} {K : PySem.W.Frag} {mg : Str → Option Value} {base : Heap}
def rCheckPlan (P : Program) (w : World) (K : PySem.W.Frag) (rs : List SV) (H : Hp) (r : SV) : Prop := ∃ (ab d : Addr) (b : Bk) (rows : List Cw) (s : Int) (os : List Opp) (n : Nat), rs = [.v (.ref ab), .d (.list (os.map oppD)), .d (.int n), .v (.ref d)] ∧ BookAt K H ab b ∧ BkOk b ∧ n ≤ 12 ∧ os.length ≤ 10 ∧ DN P w K H d encK (planM b rows s os n) ∧ r = .d .none
theorem ok_checkplan (T : Tx K mg) : CallOk P w K mg base "check_plan" 4 (SpR K (rCheckPlan P w K)) := by
  have C1 := ok_bkplaces (P := P) (w := w) (base := base) T
  have C2 := ok_isinteger (P := P) (w := w) (base := base) T
  obtain ⟨fd, F⟩ := D_checkplan T
  refine call_of F (fn_pure F sc_checkplan (fun rs H r ⟨_, _, _, _, _, _, _, e, _⟩ => by rw [e]; rfl) ?_) (g_checkplan T) (fun _ _ _ _ _ _ us hl => match us, hl with | [_, _, _, _], _ => rfl)
  rintro cdv A outer st H E Q rs r hr ⟨ab, d, b, rows, s, os, n, rfl, hb, hk, hn, hos, hd, rfl⟩ ok hQ
  have hD : ∀ H', Ex H H' → DN P w K H' d encK (planM b rows s os n) := fun H' e => hd.ex_ enc_K e
  have hlen := spots_len hk
  refine bd_if0 ok (tv_not ok (b := true) (tv_val ok (ev_isiD ok (Tn := "dict") (b_isinstance T) (b_dict T) (by decide +kernel) (kit_ty (a := "dict") (b := "dict") (r := true) (by decide +kernel)) (by walk_at "ev") fun H' e => let ⟨o, _, _, _, h1, h2, _⟩ := (hD H' e).ex; ⟨o, h1, h2.1⟩))) rfl ?_
  refine bd_for1 ok 4 rfl ((iv_range2 ok (b_range T) (ev_int ok) (ev_add ok (x := n) (by walk_at "ev") (ev_int ok)) (by omega)).len (n' := n) (by omega)) (fun i ds' => ∃ q4 q5 q6, ds' = [some (.v (.ref ab)), some (.d (.list (os.map oppD))), some (.d (.int n)), some (.v (.ref d)), q4, q5, q6]) ⟨none, none, none, rfl⟩ ?_ ?_
  · rintro H1 r1 ok1 i _ hi ⟨q4, q5, q6, rfl⟩
    refine bd_for1 ok1 5 rfl (iv_listM ok1 (xs := b.spots) (enc := plD) (ev_ld ok1 (ev_meth0 ok1 C1 (Nat.le_of_ble_eq_true rfl) (by walk_at "ev") (fun H' e => (hb.ex (r1.trans e)).at_ fun _ => rfl) fun H' e => ⟨_, ⟨ab, b, rfl, hb.ex (r1.trans e), hk.b, rfl⟩, rfl⟩))) (fun j ds' => ∃ q5 q6, ds' = [some (.v (.ref ab)), some (.d (.list (os.map oppD))), some (.d (.int n)), some (.v (.ref d)), some (.d (.int (1 + (i : Int)))), q5, q6]) ⟨q5, q6, rfl⟩ ?_ ?_
    · rintro H2 r2 ok2 j _ hj ⟨q5, q6, rfl⟩
      obtain ⟨p, hp⟩ : ∃ p, b.spots[j]? = some p := ⟨_, List.getElem?_eq_getElem hj⟩
      rw [getD_map hp]
      have hkey : ((1 + (i : Int)), p) ∈ keysM b n := mem_keysM.mpr ⟨i, hi, rfl, spots_in (List.mem_of_getElem? hp)⟩
      have hga : gAt (planM b rows s os n) ((1 + (i : Int)), p) = some (planF b rows s os ((1 + (i : Int)), p)) := gAt_map (planF b rows s os) hkey
      refine bd_asg ok2 6 (r := .d (planF b rows s os ((1 + (i : Int)), p))) rfl (ev_ngetOr ok2 enc_K (k := ((1 + (i : Int)), p)) (z := .int (-1)) (by walk_at "ev") (ev_tup2 ok2 (x := .int (1 + (i : Int))) (y := plD p) (by walk_at "ev") (by walk_at "ev")) (ev_neg ok2 (ev_int ok2)) fun H' e => ⟨_, hD H' (r1.trans (r2.trans e)), by rw [hga]; rfl⟩) ?_
      have fin : ∀ {DD : Ends}, DD.nx = Nx ((bodyMo P w K mg base n_checkplan "check_plan" (defScope s_checkplan) (He.ga K "check_plan") cdv A outer st H E Ex 3).at_ H1 |>.at_ H2) (fun d' _ => ∃ q5 q6, d' = [some (.v (.ref ab)), some (.d (.list (os.map oppD))), some (.d (.int n)), some (.v (.ref d)), some (.d (.int (1 + (i : Int)))), q5, q6]) → BD ((bodyMo P w K mg base n_checkplan "check_plan" (defScope s_checkplan) (He.ga K "check_plan") cdv A outer st H E Ex 3).at_ H1 |>.at_ H2) ([some (.v (.ref ab)), some (.d (.list (os.map oppD))), some (.d (.int n)), some (.v (.ref d)), some (.d (.int (1 + (i : Int)))), some (.d (plD p)), some (.d (planF b rows s os ((1 + (i : Int)), p)))]) [] DD := fun {DD} hnx => bd_nil fun σ H' hr' hs' => by rw [hnx]; exact ⟨_, hr', ⟨_, _, rfl⟩, hs'⟩
      cases hix : (bestM b rows s os (1 + (i : Int)).toNat p).2 with
      | none =>
        have e1 : planF b rows s os ((1 + (i : Int)), p) = .none := by unfold planF; rw [hix]; rfl
        rw [e1] at fin ⊢
        exact bd_if0 ok2 (tv_w ok2 (wv_and ok2 (b := false) (b' := false) (tv_notN ok2 (x := .none) (by walk_at "ev")) fun h => by cases h)) rfl (fin rfl)
      | some jj =>
        have e1 : planF b rows s os ((1 + (i : Int)), p) = .int jj := by unfold planF; rw [hix]; rfl
        have hjj := best_idx hix
        rw [e1] at fin ⊢
        refine bd_if0 ok2 (tv_w ok2 (wv_and ok2 (b := true) (b' := false) (tv_notN ok2 (x := .int jj) (by walk_at "ev")) fun h => wv_and1 ok2 (tv_not ok2 (b := true) (tv_val ok2 (ev_call ok2 C2 (Nat.le_of_ble_eq_true rfl) (ea_cons ok2 (by walk_at "ev") (ea_two ok2 (ev_int ok2) (ev_sub ok2 (ev_lenL ok2 (xs := os.map oppD) (b_len T) (by walk_at "ev")) (ev_int ok2)))) fun _ _ => ⟨jj, 0, ((os.map oppD).length : Nat) - 1, rfl, ?_⟩))))) rfl (fin rfl)
        rw [List.length_map, decide_eq_true (by omega), decide_eq_true (by omega)]
        rfl
    · rintro _ ⟨q5, q6, rfl⟩
      exact bd_nil fun σ H' hr' hs' => ⟨_, hr', ⟨_, _, _, rfl⟩, hs'⟩
  · rintro _ ⟨q4, q5, q6, rfl⟩
    exact bd_nil fun σ H' e _ => hQ _ H' e .non
end
/-! for k, v in d.items(), d with nested keys. -/
section
variable {κ : Type} [DecidableEq κ] {enc : κ → PyData}
def ItN (K : PySem.W.Frag) (enc : κ → PyData) (d : Addr) (o : Obj) (kvs : List (κ × PyData)) (xs : List (NestedKey × Addr × Value)) : It :=
  ⟨fun i H => i < kvs.length ∧ H d = some (exO d o) ∧ NR K H enc kvs xs,
    fun i H v H' => ∃ T x z p, kvs[i]? = some p ∧ v = .ref T ∧ H T = none ∧ H' = upd H T (.tup [x, z]) ∧ Dp K H x (enc p.1) ∧ Dp K H z p.2,
    fun i H => i = kvs.length ∧ H d = some (exO d o)⟩
theorem NR.get {K : PySem.W.Frag} {H : Hp} {kvs : List (κ × PyData)} {xs : List (NestedKey × Addr × Value)} (r : NR K H enc kvs xs) : ∀ {i : Nat} {p : κ × PyData}, kvs[i]? = some p → ∃ q, xs[i]? = some q ∧ Dp K H (.ref q.2.1) (enc p.1) ∧ ∃ v, RelV v q.2.2 ∧ Dp K H v p.2 := by
  induction r with
  | nil => intro i p e; cases e
  | @cons a b as bs h t ih =>
    intro i p e
    cases i with
    | zero =>
      cases e
      exact ⟨b, rfl, h.2.1, h.2.2⟩
    | succ i => exact ih (i := i) (by simpa using e)
theorem turn_itN {P : Program} {w : World} {K : PySem.W.Frag} {elts : List Expr} {kk : Nat} {tpos : Pos} {d it : Addr} {o : Obj} {es : Array DictEntry} {ep : Nat} {kvs : List (κ × PyData)} {xs : List (NestedKey × Addr × Value)} (hex : o.ExactDict) (hdat : o.data = .dict es ep) (hes : es.toList = xs.map (entryOfKey (nestedKind P w))) (hl : es.size = kvs.length) :
    Turn P w K (.Tuple elts kk tpos) (ItN K enc d o kvs xs) [it] it (fun i h => ∃ ok ov, IsItemIter h it d i es.size ep ok ov) where
  mem := List.mem_singleton.mpr rfl
  obj := fun i h ⟨a, b, e⟩ c hc => by
    rw [List.mem_singleton.mp hc]
    exact ⟨_, e, fun v z => nomatch z⟩
  keep := fun i h h' ⟨a, b, e⟩ k => ⟨a, b, k it (List.mem_singleton.mpr rfl) _ e⟩
  item := by
    intro X hP hw hK hc i pl s σ H E I hf ⟨ok, ov, hit⟩ ⟨hi, hd, nr⟩
    subst hP hw hK
    have f := hf it (List.mem_singleton.mpr rfl)
    have hne : d ≠ it := ne_of_none hd f.1
    have raw : s.heap.DictRaw d es ep := ⟨o, exO_get I.hok hd, hex, hdat⟩
    have WT := WalksT.rawItems (prog := X.prog) (w := X.w) (A := X.A) (I.ok.hd hc) it d hne es ep
    refine WT.item i s _ E (by rw [hl]; exact hi) ⟨⟨ok, ov, hit⟩, raw⟩ fun T vals h' tk hv hT hTup hmid hk => ⟨.ref T, rfl, ?_⟩
    obtain ⟨hi2, rfl⟩ := hv
    refine WT.go elts kk tpos i T _ _ E hmid fun h'' hst hk2 => ?_
    obtain ⟨p, hp⟩ : ∃ p, kvs[i]? = some p := ⟨_, List.getElem?_eq_getElem hi⟩
    obtain ⟨q, hq, dk, v, rv, dv⟩ := nr.get hp
    have he : es[i]? = some (entryOfKey (nestedKind X.prog X.w) q) := by
      rw [entry_at hes, hq]
      rfl
    obtain ⟨_, he2⟩ := Array.getElem?_eq_some_iff.mp he
    have hTn : H T = none := I.hok.fresh hT
    have hTit : T ≠ it := fun e => WT.apart i T h' hmid (by rw [e]; exact List.mem_singleton.mpr rfl)
    obtain ⟨ot, ht1, ht2, n, ht3⟩ := hTup
    have hr1 : RelV (V.ref q.2.1) es[i].key := by rw [he2]; rfl
    have hr2 : RelV v es[i].val := by rw [he2]; exact rv
    have new : ObjOk X.prog X.w (upd H T (.tup [V.ref q.2.1, v])) h'' T (.tup [V.ref q.2.1, v]) := ⟨by show 2 ≤ sizeLine; decide, [es[i].key, es[i].val], .cons hr1 (.cons hr2 .nil), ot, hk2 T ot (fun z => hTit (List.mem_singleton.mp z)) ht1, ht2, n, ht3⟩
    have I2 : Inv X pl σ (upd H T (.tup [V.ref q.2.1, v])) { s with heap := h'', toks := tk } := I.turnedNew (ch := [it]) (fun c oc hc e => hk2 c oc hc (hk c oc hc e)) hf hT new
    refine ⟨.ref T, _, I2, rfl, ⟨T, _, v, p, hp, rfl, hTn, rfl, dk, dv⟩, hst.1, fun c hcm => ?_⟩
    rw [List.mem_singleton.mp hcm, upd_ne (Ne.symm hTit)]
    exact f.1
  done := by
    intro X hP hw hK hc i pl s σ H E I hf ⟨ok, ov, hit⟩ ⟨hi, hd⟩
    subst hP hw hK
    have f := hf it (List.mem_singleton.mpr rfl)
    have WT := WalksT.rawItems (prog := X.prog) (w := X.w) (A := X.A) (I.ok.hd hc) it d (ne_of_none hd f.1) es ep
    refine WT.done s _ E ⟨⟨ok, ov, by rw [show i = es.size from hi.trans hl.symm] at hit; exact hit⟩, ⟨o, exO_get I.hok hd, hex, hdat⟩⟩ fun h' tk hk => ⟨rfl, ?_⟩
    exact I.turnedL (ch := [it]) hk hf
  self := fun A i s Q E ⟨a, b, hit⟩ hq => wpAny_pyIter_itemiter hit hq
def iItN (P : Program) (w : World) (K : PySem.W.Frag) (enc : κ → PyData) (td : TE) : TI := fun σ H R => td σ H fun x H1 => ∃ d kvs, x = .ref d ∧ DN P w K H1 d enc kvs ∧ ∀ o xs, H1 d = some (exO d o) → NR K H1 enc kvs xs → R (ItN K enc d o kvs xs) H1
theorem pi_itN {X : Cx} (he : Enc enc) {o : Expr} {td : TE} {apos cpos tpos : Pos} {elts : List Expr} {kk : Nat} (ho : PE X o td) (hbase : attributeBase o "items" X.env (eval o X.env) = eval o X.env) (hline : (apos.endLine == cpos.line) = true) :
    PI X (.Tuple elts kk tpos) (.Call (.Attribute o "items" apos) [] [] cpos) (iItN X.prog X.w X.K enc td) := by
  refine ⟨fun pl s σ H R I h => ?_⟩
  refine wpAny_Call_method (T := "dict") (id := "dict.items") hbase rfl hline PySem.F.plainAttrs_dict PySem.F.slot_dict_items PySem.F.type_dict_items (thn (ho.run pl s σ H _ I h) fun u s1 ⟨x, H1, I1, rx, d, kvs, ex, hd, q⟩ => ?_)
  subst ex
  obtain rfl : u = Value.ref d := rx
  obtain ⟨t1, t2⟩ := hd.isD he I1
  obtain ⟨oo, es, ep, xs, e1, e2, e3, e4, e5, e6⟩ := hd.ex
  have raw : s1.heap.DictRaw d es ep := ⟨oo, exO_get I1.hok e1, e2, e3⟩
  have hl : es.size = kvs.length := by rw [size_of_entries e4, e6.len]
  refine ⟨t1, t2, ?_⟩
  have I2 : Inv X pl σ H1 { s1 with heap := s1.heap.push { cls := .type "dict_items", data := .fields #[.ref d] } } := I1.kept (t' := s1.toks) fun b ob q => Heap.get?_push_of_some _ q
  have fin : wpAny (model X.prog X.w) X.A (pyIter (.ref s1.heap.objs.size)) (PIE X pl σ (.Tuple elts kk tpos) R) X.xe { s1 with heap := s1.heap.push { cls := .type "dict_items", data := .fields #[.ref d] } } := by
    refine wpAny_pyIter_items_raw (d := d) ⟨_, Heap.get?_push_size _ rfl, rfl, rfl⟩ (raw.push _) (pi_one (tk := s1.toks) I2 _ (turn_itN e2 e3 e4 hl) ⟨.none, .none, ?_⟩ (q oo xs e1 e6))
    exact Heap.get?_push_size _ rfl
  show wpAny _ _ (callWith cpos (.builtin "dict.items") [.ref d] [] []) _ X.xe s1
  exact method_meetsIn PySem.F.slot_dict_items PySem.F.entry_dict_items rfl (PySem.evalArgs_none ⟨rfl, t1, PySem.F.args_dict_items_1 _, _, meets_dict_items_raw d hd.sm, ⟨es, ep, raw⟩, fin⟩)
end
section
variable {ι : Type} {m : Mo ι} {ds : Sd} {pos : Pos} {κ : Type} [DecidableEq κ] {enc : κ → PyData} {R' : Hp → Hp → Prop}
def itY (enc : κ → PyData) (kvs : List (κ × PyData)) (i : Nat) : PyData := match kvs[i]? with
  | some p => .tuple [enc p.1, p.2]
  | none => .none
theorem ivr_items (ok : m.Ok) (kp : Kp m.S.K R') (he : Enc enc) {o : Expr} {d : Addr} {kvs : List (κ × PyData)} {apos tpos : Pos} {elts : List Expr} {kk : Nat} (ho : EV m ds o (.v (.ref d))) (hd : ∀ H, m.R m.H0 H → DN m.S.P m.S.w m.S.K H d enc kvs) (hkeep : ∀ {H1 H2 o}, R' H1 H2 → H1 d = some (exO d o) → H2 d = some (exO d o))
    (hbase : ∀ i, attributeBase o "items" (m.F i).env (eval o (m.F i).env) = eval o (m.F i).env := by intro _; rfl) (hline : (apos.endLine == pos.line) = true := by rfl) :
    IVR m R' ds (.Tuple elts kk tpos) (.Call (.Attribute o "items" apos) [] [] pos) kvs.length (itY enc kvs) := fun σ H hr hs Q q => by
  refine wI_of (t := iItN m.S.P m.S.w m.S.K enc (wE m.F o)) (fun i => by rw [← ok.hp i, ← ok.hw i, ← ok.hK i]; exact pi_itN he (wE_ok i) (hbase i) hline) (ho σ H hr hs _ fun v H1 r1 d1 => ?_)
  have hd1 := hd H1 (ok.trans hr r1)
  refine ⟨d, kvs, d1, hd1, fun oo xs e1 nr => ?_⟩
  have nrAt : ∀ H2, R' H1 H2 → NR m.S.K H2 enc kvs xs := fun H2 r2 => nr.map (fun v x d _ => dp_of (fun _ _ => kp.sl_ r2) (fun _ _ => kp.st_ r2) d) he hd1.vals
  refine q _ H1 (fun H2 => H2 d = some (exO d oo) ∧ NR m.S.K H2 enc kvs xs) r1 (fun H2 r2 => ⟨hkeep r2 e1, nrAt H2 r2⟩) ?_
  refine ⟨fun i H hi g => ⟨hi, g.1, g.2⟩, fun H g => ⟨rfl, g.1⟩, fun i H v H' hi g y => ?_⟩
  obtain ⟨T, x, z, p, hp, rfl, hT, rfl, dx, dz⟩ := y
  refine ⟨Ex.new hT, fun r => ?_⟩
  unfold itY
  rw [hp]
  have e2 : Ex H (upd H T (.tup [x, z])) := Ex.new hT
  exact .tup (SqT.of upd_same) (.cons (dp_of (fun _ _ => (kp_ex _).sl_ e2) (fun _ _ => (kp_ex _).st_ e2) dx) (.cons (dp_of (fun _ _ => (kp_ex _).sl_ e2) (fun _ _ => (kp_ex _).st_ e2) dz) .nil))
end
/-! mean_of, in plain words. -/
abbrev Sh := List ((Int × Int) × Fr)
section
variable (b : Bk) (rows : List Cw) (s : Int) (os : List Opp)
def putM (lt : Sh) (share : Fr) (e : Fr × (Int × Int)) : Sh := gPut lt e.2 (addF ((gAt lt e.2).getD (0, 1)) (mulF share e.1))
def oneM (left : Nat) (st : Sh × Fr) (e : (Int × Int) × Fr) : Sh × Fr := match (bestM b rows s os left e.1).2 with
  | none => (st.1, addF st.2 (mulF e.2 (e.1.1, 1)))
  | some i => match os[i]? with
    | none => st
    | some o => ((endsM b rows e.1 s o.1 o.2).foldl (fun lt x => putM lt e.2 x) st.1, st.2)
def stM (g : Nat) (p : Int × Int) : Nat → Sh × Fr
  | 0 => ([(p, (1, 1))], (0, 1))
  | j + 1 => (stM g p j).1.foldl (oneM b rows s os (g - j)) ([], (stM g p j).2)
def endM (g : Nat) (p : Int × Int) : Fr := (stM b rows s os g p g).1.foldl (fun t e => addF t (mulF e.2 (norm e.1.1 1))) (stM b rows s os g p g).2
end
theorem norm_one (r : Int) : norm r 1 = (r, 1) := by
  unfold norm
  rw [Int.gcd_one_right]
  show (r / 1, (1 : Int) / 1) = (r, 1)
  rw [Int.ediv_one]
  rfl
/-- the shares' worth -/
def wsum (V : Int × Int → Rat) : Sh → Rat
  | [] => 0
  | e :: r => val e.2 * V e.1 + wsum V r
theorem wsum_put (V : Int × Int → Rat) (k : Int × Int) (f : Fr) : ∀ lt : Sh, wsum V (gPut lt k f) = wsum V lt + (val f - (match gAt lt k with | none => 0 | some x => val x)) * V k
  | [] => by
    show val f * V k + wsum V [] = wsum V [] + (val f - 0) * V k
    grind
  | e :: r => by
    have ih := wsum_put V k f r
    unfold gPut gAt
    by_cases h : e.1 = k
    · rw [if_pos h, if_pos h]
      show val f * V k + wsum V r = (val e.2 * V e.1 + wsum V r) + (val f - val e.2) * V k
      rw [h]
      grind
    · rw [if_neg h, if_neg h]
      show val e.2 * V e.1 + wsum V (gPut r k f) = (val e.2 * V e.1 + wsum V r) + _
      rw [ih]
      grind
structure ShOk (b : Bk) (M : Int) (lt : Sh) : Prop where
  nd : (lt.map (·.1)).Nodup
  ok : ∀ e ∈ lt, InBk b e.1 ∧ OkF e.2 ∧ Dv M (val e.2)
theorem ShOk.getD {b : Bk} {M : Int} {lt : Sh} (h : ShOk b M lt) (k : Int × Int) : OkF ((gAt lt k).getD (0, 1)) ∧ Dv M (val ((gAt lt k).getD (0, 1))) := by
  cases hk : gAt lt k with
  | none => exact ⟨okI 0, dv_up (dvI 0)⟩
  | some x => exact (h.ok _ (gAt_mem hk)).2
theorem putM_ok {b : Bk} {L M : Int} {lt : Sh} {share : Fr} {e : Fr × (Int × Int)} (h : ShOk b (M * L) lt) (hs : OkF share) (ds : Dv M (val share)) (he : OkF e.1) (de : Dv L (val e.1)) (hp : InBk b e.2) : ShOk b (M * L) (putM lt share e) := by
  obtain ⟨g1, g2⟩ := h.getD e.2
  have m1 := mul_ok hs he
  refine ⟨gPut_nodup h.nd, fun x hx => ?_⟩
  rcases gPut_mem hx with rfl | hx
  · refine ⟨hp, add_ok g1 m1, ?_⟩
    show Dv (M * L) (val (addF _ _))
    rw [val_add g1 m1, val_mul hs he]
    exact g2.add (ds.mul de)
  · exact h.ok x hx
theorem putM_sum {b : Bk} {M : Int} {lt : Sh} {share : Fr} {e : Fr × (Int × Int)} (V : Int × Int → Rat) (h : ShOk b M lt) (hs : OkF share) (he : OkF e.1) : wsum V (putM lt share e) = wsum V lt + val share * (val e.1 * V e.2) := by
  obtain ⟨g1, _⟩ := h.getD e.2
  unfold putM
  rw [wsum_put, val_add g1 (mul_ok hs he), val_mul hs he]
  cases hk : gAt lt e.2 with
  | none =>
    rw [show ((none : Option Fr).getD (0, 1)) = (0, 1) from rfl, valI]
    show _ + ((((0 : Int) : Rat) + val share * val e.1) - 0) * V e.2 = _
    rw [show (((0 : Int) : Rat)) = 0 from rfl]
    grind
  | some x =>
    rw [show ((some x).getD (0, 1)) = x from rfl]
    show _ + ((val x + val share * val e.1) - val x) * V e.2 = _
    grind
def esum (V : Int × Int → Rat) : List (Fr × (Int × Int)) → Rat
  | [] => 0
  | e :: r => val e.1 * V e.2 + esum V r
theorem puts_ok {b : Bk} {L M : Int} {share : Fr} (hs : OkF share) (ds : Dv M (val share)) (V : Int × Int → Rat) : ∀ (es : List (Fr × (Int × Int))) (lt : Sh), ShOk b (M * L) lt → (∀ e ∈ es, OkF e.1 ∧ Dv L (val e.1) ∧ InBk b e.2) →
    ShOk b (M * L) (es.foldl (fun lt x => putM lt share x) lt) ∧ wsum V (es.foldl (fun lt x => putM lt share x) lt) = wsum V lt + val share * esum V es
  | [], lt, h, _ => ⟨h, by show wsum V lt = wsum V lt + val share * 0; grind⟩
  | e :: es, lt, h, he => by
    obtain ⟨e1, e2, e3⟩ := he e List.mem_cons_self
    have h1 := putM_ok h hs ds e1 e2 e3
    obtain ⟨i1, i2⟩ := puts_ok hs ds V es _ h1 fun x hx => he x (List.mem_cons_of_mem _ hx)
    rw [List.foldl_cons]
    refine ⟨i1, ?_⟩
    rw [i2, putM_sum V h hs e1]
    show _ = wsum V lt + val share * (val e.1 * V e.2 + esum V es)
    grind
theorem mean_val {V : Int × Int → Fr} : ∀ (es : List (Fr × (Int × Int))) (t : Fr), OkF t → (∀ e ∈ es, OkF e.1 ∧ OkF (V e.2)) →
    val (es.foldl (fun t e => if e.1 = (0, 1) then t else addF t (mulF e.1 (V e.2))) t) = val t + esum (fun q => val (V q)) es
  | [], t, _, _ => by show val t = val t + 0; grind
  | e :: es, t, h, he => by
    obtain ⟨e1, e2⟩ := he e List.mem_cons_self
    have hr := fun x hx => he x (List.mem_cons_of_mem e hx)
    rw [List.foldl_cons]
    show _ = val t + (val e.1 * val (V e.2) + esum (fun q => val (V q)) es)
    by_cases hz : e.1 = (0, 1)
    · rw [if_pos hz, mean_val es t h hr, hz, valI, show (((0 : Int) : Rat)) = 0 from rfl]
      grind
    · rw [if_neg hz, mean_val es _ (add_ok h (mul_ok e1 e2)) hr, val_add h (mul_ok e1 e2), val_mul e1 e2]
      grind
theorem pick_what {f : Opp → Fr} {os0 : List Opp} {a0 : Fr} : ∀ (os : List Opp) (i : Nat) (acc : Fr × Option Nat), os = os0.drop i → ((acc.2 = none ∧ acc.1 = a0) ∨ ∃ j o, acc.2 = some j ∧ os0[j]? = some o ∧ acc.1 = f o) →
    ((pickM f os i acc).2 = none ∧ (pickM f os i acc).1 = a0) ∨ ∃ j o, (pickM f os i acc).2 = some j ∧ os0[j]? = some o ∧ (pickM f os i acc).1 = f o
  | [], _, _, _, h => h
  | o :: os, i, acc, e, h => by
    have e1 : os0[i]? = some o := by
      have z : (os0.drop i)[0]? = some o := by rw [← e]; rfl
      rw [List.getElem?_drop] at z
      exact z
    have e2 : os = os0.drop (i + 1) := by
      have z := congrArg (List.drop 1) e
      rw [List.drop_drop] at z
      exact z
    unfold pickM
    refine pick_what os (i + 1) _ e2 ?_
    split
    · exact .inr ⟨i, o, rfl, e1, rfl⟩
    · exact h
theorem best_what (b : Bk) (rows : List Cw) (s : Int) (os : List Opp) (n : Nat) (p : Int × Int) : ((bestM b rows s os (n + 1) p).2 = none ∧ (bestM b rows s os (n + 1) p).1 = (p.1, 1)) ∨ ∃ j o, (bestM b rows s os (n + 1) p).2 = some j ∧ os[j]? = some o ∧ (bestM b rows s os (n + 1) p).1 = fM b rows s os n p o :=
  pick_what (os0 := os) os 0 _ rfl (.inl ⟨rfl, rfl⟩)
/-! mean_of, in plain words: it is the greatest mean. -/
section
variable {b : Bk} {rows : List Cw} {s : Int} {os : List Opp} {L : Int} {N : Nat}
def bV (b : Bk) (rows : List Cw) (s : Int) (os : List Opp) (n : Nat) (q : Int × Int) : Rat := val (bestM b rows s os n q).1
theorem Rk.dv (rk : Rk b rows s os L N) {p : Int × Int} (hp : InBk b p) {o : Opp} (ho : o ∈ os) : ∀ e ∈ endsM b rows p s o.1 o.2, OkF e.1 ∧ Dv L (val e.1) ∧ InBk b e.2 := fun e he => by
  obtain ⟨h1, h2⟩ := ends_mem rk.bk hp (rk.op.all o ho).1 he
  obtain ⟨c1, _, _, c4⟩ := rk.ch o ho e.1 h1
  exact ⟨c1, dv_of_under c1 c4, h2⟩
theorem fM_val (rk : Rk b rows s os L N) {p : Int × Int} (hp : InBk b p) {o : Opp} (ho : o ∈ os) (n : Nat) : val (fM b rows s os n p o) = esum (bV b rows s os n) (endsM b rows p s o.1 o.2) := by
  have z := mean_val (V := fun q => (bestM b rows s os n q).1) (endsM b rows p s o.1 o.2) (0, 1) (okI 0) fun e he => by
    obtain ⟨h1, _, h3⟩ := rk.dv hp ho e he
    exact ⟨h1, (best_bd rk n e.2 h3).1⟩
  show val (meanM _ _) = _
  unfold meanM
  rw [z, valI, show (((0 : Int) : Rat)) = 0 from rfl]
  show (0 : Rat) + esum (bV b rows s os n) _ = _
  grind
/-- what holds between: shares for one more game, ends -/
structure StOk (b : Bk) (M : Int) (st : Sh × Fr) : Prop where
  sh : ShOk b M st.1
  en : OkF st.2
  dv : Dv M (val st.2)
theorem one_ok (rk : Rk b rows s os L N) {M : Int} {st : Sh × Fr} {n : Nat} {e : (Int × Int) × Fr} (h : StOk b (M * L) st) (hp : InBk b e.1) (he : OkF e.2) (de : Dv M (val e.2)) :
    StOk b (M * L) (oneM b rows s os (n + 1) st e) ∧ val (oneM b rows s os (n + 1) st e).2 + wsum (bV b rows s os n) (oneM b rows s os (n + 1) st e).1 = val st.2 + wsum (bV b rows s os n) st.1 + val e.2 * bV b rows s os (n + 1) e.1 := by
  have ml : ∀ {x : Rat}, Dv M x → Dv (M * L) x := fun d => d.of_dvd (Int.dvd_mul_right M L)
  rcases best_what b rows s os n e.1 with ⟨h1, h2⟩ | ⟨j, o, h1, h2, h3⟩
  · have e1 : oneM b rows s os (n + 1) st e = (st.1, addF st.2 (mulF e.2 (e.1.1, 1))) := by
      unfold oneM
      rw [h1]
    rw [e1]
    have m1 := mul_ok he (okI e.1.1)
    have dvm : Dv M (val (mulF e.2 (e.1.1, 1))) := by
      rw [val_mul he (okI _)]
      have z := de.mul (dvI e.1.1)
      rw [Int.mul_one] at z
      exact z
    refine ⟨⟨h.sh, add_ok h.en m1, ?_⟩, ?_⟩
    · show Dv (M * L) (val (addF _ _))
      rw [val_add h.en m1]
      exact h.dv.add (ml dvm)
    · show val (addF st.2 (mulF e.2 (e.1.1, 1))) + wsum _ st.1 = _
      unfold bV
      rw [val_add h.en m1, val_mul he (okI _), h2]
      grind
  · have ho := List.mem_of_getElem? h2
    have e1 : oneM b rows s os (n + 1) st e = ((endsM b rows e.1 s o.1 o.2).foldl (fun lt x => putM lt e.2 x) st.1, st.2) := by
      unfold oneM
      rw [h1]
      show (match os[j]? with | none => st | some o => _) = _
      rw [h2]
    rw [e1]
    obtain ⟨p1, p2⟩ := puts_ok (L := L) he de (bV b rows s os n) (endsM b rows e.1 s o.1 o.2) st.1 h.sh (rk.dv hp ho)
    refine ⟨⟨p1, h.en, h.dv⟩, ?_⟩
    show val st.2 + wsum _ (List.foldl _ _ _) = _
    rw [p2, ← fM_val rk hp ho n, ← h3]
    show _ = _ + val e.2 * val (bestM b rows s os (n + 1) e.1).1
    grind
theorem turn_ok (rk : Rk b rows s os L N) {M : Int} {n : Nat} : ∀ (es : Sh) (st : Sh × Fr), StOk b (M * L) st → (∀ e ∈ es, InBk b e.1 ∧ OkF e.2 ∧ Dv M (val e.2)) →
    StOk b (M * L) (es.foldl (oneM b rows s os (n + 1)) st) ∧ val (es.foldl (oneM b rows s os (n + 1)) st).2 + wsum (bV b rows s os n) (es.foldl (oneM b rows s os (n + 1)) st).1 = val st.2 + wsum (bV b rows s os n) st.1 + wsum (bV b rows s os (n + 1)) es
  | [], st, h, _ => ⟨h, by show _ = _ + (0 : Rat); grind⟩
  | e :: es, st, h, he => by
    obtain ⟨a1, a2, a3⟩ := he e List.mem_cons_self
    obtain ⟨o1, o2⟩ := one_ok rk (n := n) h a1 a2 a3
    obtain ⟨t1, t2⟩ := turn_ok rk (n := n) es _ o1 fun x hx => he x (List.mem_cons_of_mem _ hx)
    rw [List.foldl_cons]
    refine ⟨t1, ?_⟩
    rw [t2, o2]
    show _ = _ + (val e.2 * bV b rows s os (n + 1) e.1 + wsum _ es)
    grind
theorem st_ok (rk : Rk b rows s os L N) {g : Nat} {p : Int × Int} (hp : InBk b p) : ∀ j, j ≤ g → StOk b (L ^ j) (stM b rows s os g p j) ∧ val (stM b rows s os g p j).2 + wsum (bV b rows s os (g - j)) (stM b rows s os g p j).1 = bV b rows s os g p
  | 0, _ => by
    refine ⟨⟨⟨by show ([p] : List (Int × Int)).Nodup; simp, fun e he => ?_⟩, okI 0, dv_up (dvI 0)⟩, ?_⟩
    · rw [List.mem_singleton.mp he]
      exact ⟨hp, okI 1, dv_up (dvI 1)⟩
    · show val (0, 1) + (val (1, 1) * bV b rows s os g p + 0) = _
      rw [valI, valI, show (((0 : Int) : Rat)) = 0 from rfl, show (((1 : Int) : Rat)) = 1 from rfl]
      grind
  | j + 1, hj => by
    obtain ⟨i1, i2⟩ := st_ok rk (g := g) hp j (by omega)
    have hl : L ^ (j + 1) = L ^ j * L := Int.pow_succ ..
    have hn : g - j = (g - (j + 1)) + 1 := by omega
    rw [hl]
    show StOk b (L ^ j * L) ((stM b rows s os g p j).1.foldl (oneM b rows s os (g - j)) ([], (stM b rows s os g p j).2)) ∧ _
    have h0 : StOk b (L ^ j * L) ([], (stM b rows s os g p j).2) := ⟨⟨List.nodup_nil, fun _ z => nomatch z⟩, i1.en, i1.dv.of_dvd (Int.dvd_mul_right ..)⟩
    obtain ⟨t1, t2⟩ := turn_ok rk (n := g - (j + 1)) (stM b rows s os g p j).1 ([], (stM b rows s os g p j).2) h0 i1.sh.ok
    rw [← hn] at t1 t2
    refine ⟨t1, ?_⟩
    show val ((stM b rows s os g p j).1.foldl (oneM b rows s os (g - j)) ([], (stM b rows s os g p j).2)).2 + wsum _ ((stM b rows s os g p j).1.foldl (oneM b rows s os (g - j)) ([], (stM b rows s os g p j).2)).1 = _
    rw [t2, ← i2]
    show _ + (0 : Rat) + _ = _
    grind
/-- the last sum, from the left -/
theorem end_ok {M : Int} : ∀ (es : Sh) (t : Fr), OkF t → Dv M (val t) → (∀ e ∈ es, InBk b e.1 ∧ OkF e.2 ∧ Dv M (val e.2)) →
    OkF (es.foldl (fun t e => addF t (mulF e.2 (norm e.1.1 1))) t) ∧ Dv M (val (es.foldl (fun t e => addF t (mulF e.2 (norm e.1.1 1))) t)) ∧ val (es.foldl (fun t e => addF t (mulF e.2 (norm e.1.1 1))) t) = val t + wsum (bV b rows s os 0) es
  | [], t, h1, h2, _ => ⟨h1, h2, by show val t = val t + 0; grind⟩
  | e :: es, t, h1, h2, he => by
    obtain ⟨_, a2, a3⟩ := he e List.mem_cons_self
    have m1 := mul_ok a2 (okI e.1.1)
    have dvm : Dv M (val (mulF e.2 (e.1.1, 1))) := by
      rw [val_mul a2 (okI _)]
      have z := a3.mul (dvI e.1.1)
      rw [Int.mul_one] at z
      exact z
    rw [List.foldl_cons, norm_one]
    obtain ⟨i1, i2, i3⟩ := end_ok es _ (add_ok h1 m1) (by rw [val_add h1 m1]; exact h2.add dvm) fun x hx => he x (List.mem_cons_of_mem _ hx)
    refine ⟨i1, i2, ?_⟩
    rw [i3, val_add h1 m1, val_mul a2 (okI _)]
    show _ = val t + (val e.2 * val (e.1.1, 1) + wsum _ es)
    grind
theorem endM_best (rk : Rk b rows s os L N) {g : Nat} {p : Int × Int} (hp : InBk b p) : endM b rows s os g p = (bestM b rows s os g p).1 := by
  obtain ⟨i1, i2⟩ := st_ok rk (g := g) hp g (Nat.le_refl _)
  obtain ⟨e1, _, e3⟩ := end_ok (b := b) (rows := rows) (s := s) (os := os) (stM b rows s os g p g).1 _ i1.en i1.dv i1.sh.ok
  refine val_inj e1 (best_bd rk g p hp).1 ?_
  rw [Nat.sub_self] at i2
  exact e3.trans i2
end
/-! mean_of: the walk. -/
def encS (kvs : Sh) : List ((Int × Int) × PyData) := kvs.map fun e => (e.1, pr e.2)
theorem gAt_S (k : Int × Int) : ∀ kvs : Sh, gAt (encS kvs) k = (gAt kvs k).map pr
  | [] => rfl
  | e :: r => by
    show (if e.1 = k then some (pr e.2) else gAt (encS r) k) = Option.map pr (if e.1 = k then some e.2 else gAt r k)
    by_cases h : e.1 = k
    · rw [if_pos h, if_pos h]; rfl
    · rw [if_neg h, if_neg h]; exact gAt_S k r
theorem gPut_S (k : Int × Int) (f : Fr) : ∀ kvs : Sh, gPut (encS kvs) k (pr f) = encS (gPut kvs k f)
  | [] => rfl
  | e :: r => by
    show (if e.1 = k then (k, pr f) :: encS r else (e.1, pr e.2) :: gPut (encS r) k (pr f)) = encS (if e.1 = k then (k, f) :: r else e :: gPut r k f)
    by_cases h : e.1 = k
    · rw [if_pos h, if_pos h]; rfl
    · rw [if_neg h, if_neg h, gPut_S k f r]; rfl
theorem ShOk.len {b : Bk} {M : Int} {lt : Sh} (h : ShOk b M lt) (hb : BkOk b) : lt.length ≤ 24 := by
  have z := nodup_len (L := b.spots) h.nd fun x hx => by
    obtain ⟨e, he, rfl⟩ := List.mem_map.mp hx
    exact in_spots (h.ok e he).1
  rw [List.length_map] at z
  exact Nat.le_trans z (spots_len hb)
section
variable {P : Program} {w : World} {K : PySem.W.Frag} {mg : Str → Option Value} {base : Heap}
theorem itY_S {kvs : Sh} {i : Nat} {e : (Int × Int) × Fr} (h : kvs[i]? = some e) : itY encP (encS kvs) i = .tuple [plD e.1, pr e.2] := by
  unfold itY encS
  rw [List.getElem?_map, h]
  rfl
/-- later[behind] = added(later.get(behind, NONE), multiplied(share, chance)), over the ends of a game -/
theorem ok_dn_ne {H : Hp} {d d' : Addr} {κ : Type} [DecidableEq κ] {enc : κ → PyData} {kvs : List (κ × PyData)} (h : DN P w K H d enc kvs) (hn : H d' = none) : d ≠ d' := by
  rintro rfl
  obtain ⟨o, _, _, _, e, _⟩ := h.ex
  rw [hn] at e
  cases e
def rMeanOf (P : Program) (w : World) (K : PySem.W.Frag) (rs : List SV) (H : Hp) (r : SV) : Prop := ∃ ab ac b rows p s os n L N dp, rs = gmArgs ab ac p s os n ++ [.v (.ref dp)] ∧ GmPre K H ab ac b rows p s os n L N ∧ DN P w K H dp encK (planM b rows s os n) ∧ r = .d (pr (bestM b rows s os n p).1)
theorem ok_meanof (T : Tx K mg) : CallOk P w K mg base "mean_of" 10 (SpR K (rMeanOf P w K)) := by
  have C1 := ok_checkchoice (P := P) (w := w) (base := base) T
  have C2 := ok_checkplan (P := P) (w := w) (base := base) T
  have C3 := ok_added (P := P) (w := w) (base := base) T
  have C4 := ok_multiplied (P := P) (w := w) (base := base) T
  have C5 := ok_endsof (P := P) (w := w) (base := base) T
  have C6 := ok_fraction (P := P) (w := w) (base := base) T
  obtain ⟨fd, F⟩ := D_meanof T
  refine call_of F (fn_pure F sc_meanof (fun rs H r ⟨_, _, _, _, _, _, _, _, _, _, _, e, _⟩ => by rw [e]; rfl) ?_) (g_meanof T) (fun _ _ _ _ _ _ us hl => match us, hl with | [_, _, _, _, _, _, _], _ => rfl)
  rintro cdv A outer st H E Q rs r hr ⟨ab, ac, b, rows, p, s, os, n, L, N, dp, rfl, ⟨hb, hc, rk, hnN, hn, hp⟩, hpl, rfl⟩ ok hQ
  have gk := gok_true
  refine bd_expr ok (ev_call ok C1 (Nat.le_of_ble_eq_true rfl) (ea_cons ok (by walk_at "ev") (ea_cons ok (by walk_at "ev") (ea_cons ok (by walk_at "ev") (ea_two ok (by walk_at "ev") (by walk_at "ev"))))) fun H' e => ⟨ab, b, p, s, os, n, rfl, hb.ex e, hp, rk.op, ⟨rk.s0, rk.s1⟩, by omega, rfl⟩) ?_
  refine bd_expr ok (ev_call ok C2 (Nat.le_of_ble_eq_true rfl) (ea_cons ok (by walk_at "ev") (ea_cons ok (by walk_at "ev") (ea_two ok (by walk_at "ev") (by walk_at "ev")))) fun H' e => ⟨ab, dp, b, rows, s, os, n, rfl, hb.ex e, rk.bk, hn, rk.op.len, hpl.ex_ enc_K e, rfl⟩) ?_
  refine bd_asgX ok 7 rfl (ex_nOne ok enc_P (kk := p) (z := pr (1, 1)) (by walk_at "ev") (ev_gdat ok (g_ALL T) (dp_ALL T)) rfl (fun e d kvs h => h.ex_ enc_P e) (fun {H1 H2 d u} e hd u' c o hc => by
    have ne := ne_of_none hc hd
    rw [upd_ne ne]
    exact e c o (by rw [upd_ne ne]; exact hc))) fun v H1 e1 ⟨d0, ev, hd0⟩ ok1 => ⟨.v (.ref d0), ev, ?_⟩
  refine bd_asg ok1 8 (r := .d (pr (0, 1))) rfl (ev_gdat ok1 (g_NONE T) (dp_NONE T)) ?_
  intro σ2 H2 e2 s2
  have ok2 := ok.at_ H2
  have e02 : Ex H H2 := e1.trans e2
  let M0 := bodyMo P w K mg base n_meanof "mean_of" (defScope s_meanof) (He.ga K "mean_of") cdv A outer st H E Ex 9
  let SL : Addr → Fr → List (Option SV) → Sd := fun dsh en q => [some (.v (.ref ab)), some (.v (.ref ac)), some (.d (plD p)), some (.d (.int s)), some (.d (.list (os.map oppD))), some (.d (.int n)), some (.v (.ref dp)), some (.v (.ref dsh)), some (.d (pr en))] ++ q
  refine ws_for ok2 (Ex.refl H2) s2 (iv_down ok2 (hi := n) (lo := 0) (b_range T) (by walk_at "ev") (ev_int ok2) (ev_neg ok2 (ev_int ok2)) (by omega)) (fun j ds' H' => ∃ dsh q9 q10 q11 q12 q13 q14 q15 q16 q17, ds' = SL dsh (stM b rows s os n p j).2 [q9, q10, q11, q12, q13, q14, q15, q16, q17] ∧ DN P w K H' dsh encP (encS (stM b rows s os n p j).1))
    (fun j ds' Ha Hb e ⟨dsh, q9, q10, q11, q12, q13, q14, q15, q16, q17, h1, h2⟩ => ⟨dsh, q9, q10, q11, q12, q13, q14, q15, q16, q17, h1, h2.ex_ enc_P e⟩) (fun H3 e3 => ⟨d0, none, none, none, none, none, none, none, none, none, rfl, hd0.ex_ enc_P (e2.trans e3)⟩) ?_ ?_
  · rintro H3 e3 ok3 j v _ σ4 H4 hj e4 ⟨dsh, q9, q10, q11, q12, q13, q14, q15, q16, q17, rfl, hds⟩ s4 dv
    have e04 : Ex H H4 := e02.trans (e3.trans e4)
    have hjn : j < n := by omega
    obtain ⟨k1, k2⟩ := st_ok rk (g := n) hp j (by omega)
    refine wG_name ok 9 rfl ?_
    have s5 := s4.set (r := .d (.int ((n : Int) - j))) 9 dv
    refine ws_nnew (ok.at_ H4) encP 10 rfl s5 fun dl ol hnl hdl s6 => ?_
    have ne1 := ok_dn_ne hds hnl
    have ne2 : dp ≠ dl := ok_dn_ne (hpl.ex_ enc_K e04) hnl
    have e5 : Ex H4 (upd H4 dl (exO dl ol)) := Ex.new hnl
    have ok5 := ok.at_ (upd H4 dl (exO dl ol))
    have kp := kp_rxs (K := K) (S := [dl]) gk
    let es : Sh := (stM b rows s os n p j).1
    let en0 : Fr := (stM b rows s os n p j).2
    let sti : Nat → Sh × Fr := fun i => (es.take i).foldl (oneM b rows s os (n - j)) ([], en0)
    have hlf : n - j = (n - (j + 1)) + 1 := by omega
    have pre : ∀ i, StOk b (L ^ j * L) (sti i) := fun i => by
      have h0 : StOk b (L ^ j * L) ([], en0) := ⟨⟨List.nodup_nil, fun _ z => nomatch z⟩, k1.en, k1.dv.of_dvd (Int.dvd_mul_right ..)⟩
      have z := (turn_ok rk (n := n - (j + 1)) (es.take i) ([], en0) h0 fun e he => k1.sh.ok e (List.mem_of_mem_take he)).1
      rw [← hlf] at z
      exact z
    have lp : 0 < L ^ j := Int.pow_pos rk.l0
    have lj1 : L ^ j * L = L ^ (j + 1) := (Int.pow_succ ..).symm
    have lp1 : 0 < L ^ (j + 1) := Int.pow_pos rk.l0
    refine ws_forR ok5 kp (Ex.refl _) s6 (ivr_items ok5 kp enc_P (d := dsh) (kvs := encS es) (by walk_at "ev") (fun H' e => (hds.ex_ enc_P e5).ex_ enc_P e) (fun r h => r.1 _ _ h fun z => absurd (by simpa using z) ne1)) (fun i ds' H' => ∃ q11 q12 q13 q14 q15 q16 q17, ds' = SL dsh (sti i).2 [some (.d (.int ((n : Int) - j))), some (.v (.ref dl)), q11, q12, q13, q14, q15, q16, q17] ∧ DN P w K H' dl encP (encS (sti i).1))
      (fun i ds' Ha Hb e ⟨q11, q12, q13, q14, q15, q16, q17, h1, h2⟩ => ⟨q11, q12, q13, q14, q15, q16, q17, h1, h2.ex_ enc_P e⟩) (fun H6 e6 => ⟨_, _, _, _, _, _, _, rfl, hdl.ex_ enc_P e6⟩) ?_ ?_
    · rintro H6 e6 ok6 i v _ σ7 H7 hi r7 ⟨q11, q12, q13, q14, q15, q16, q17, rfl, hdl7⟩ s7 dv7
      have hi2 : i < es.length := by
        have z : (encS es).length = es.length := List.length_map ..
        omega
      obtain ⟨e, he⟩ : ∃ e, es[i]? = some e := ⟨_, List.getElem?_eq_getElem hi2⟩
      rw [itY_S he] at dv7
      obtain ⟨x1, x2, x3⟩ := k1.sh.ok e (List.mem_of_getElem? he)
      have hst1 : sti (i + 1) = oneM b rows s os (n - j) (sti i) e := by
        show (es.take (i + 1)).foldl _ _ = _
        rw [List.take_add_one, he, List.foldl_append]
        rfl
      have hb7 : BookAt K H7 ab b := (((hb.ex e04).ex e5).ex e6).rx gk r7
      have hc7 : ChAt K H7 ac rows := (((hc.ex e04).ex e5).ex e6).rx gk r7
      have hp7 : DN P w K H7 dp encK (planM b rows s os n) := (((hpl.ex_ enc_K e04).ex_ enc_K e5).ex_ enc_K e6).rx enc_K gk r7 (by simpa using ne2)
      refine wG_two (m := M0) ok 11 12 rfl rfl dv7 fun u u' d1 d2 => ?_
      have s8 := (s7.set (r := .d (plD e.1)) 11 d1).set (r := .d (pr e.2)) 12 d2
      have okE := ok.at_ H7
      have hkey : (((n : Int) - j), e.1) ∈ keysM b n := mem_keysM.mpr ⟨n - 1 - j, by omega, by show (n : Int) - j = 1 + ((n - 1 - j : Nat) : Int); omega, x1⟩
      have hga : gAt (planM b rows s os n) (((n : Int) - j), e.1) = some (planF b rows s os (((n : Int) - j), e.1)) := gAt_map (planF b rows s os) hkey
      have htn : ((n : Int) - j).toNat = n - j := by omega
      obtain ⟨pi1, pi2, pi3⟩ := pre i
      rw [lj1] at pi1 pi3
      refine (bd_asg okE 13 (r := .d (planF b rows s os (((n : Int) - j), e.1))) rfl (ev_nget okE enc_K (k := (((n : Int) - j), e.1)) (by walk_at "ev") (ev_tup2 okE (x := .int ((n : Int) - j)) (y := plD e.1) (by walk_at "ev") (by walk_at "ev")) fun H' e' => ⟨_, hp7.ex_ enc_K e', hga⟩) ?_) _ H7 (Ex.refl H7) s8
      cases hix : (bestM b rows s os (n - j) e.1).2 with
      | none =>
        have ep : planF b rows s os (((n : Int) - j), e.1) = .none := by
          unfold planF
          rw [htn, hix]
          rfl
        rw [ep]
        have ho1 : oneM b rows s os (n - j) (sti i) e = ((sti i).1, addF (sti i).2 (mulF e.2 (e.1.1, 1))) := by
          unfold oneM
          rw [hix]
        have m1 := mul_ok x2 (okI e.1.1)
        have dvm : Dv (L ^ j) (val (mulF e.2 (e.1.1, 1))) := by
          rw [val_mul x2 (okI _)]
          have z := x3.mul (dvI e.1.1)
          rw [Int.mul_one] at z
          exact z
        have hr0 := x1.r0
        have hr1 := x1.r1
        have bl0 := rk.bk.l0
        have bh1 := rk.bk.h1
        refine bd_if okE (tv_isN okE (x := .none) (by walk_at "ev")) (fun _ => bd_asg okE 8 (r := .d (pr (addF (sti i).2 (mulF e.2 (e.1.1, 1))))) rfl (ev_call okE C3 (Nat.le_of_ble_eq_true rfl) (ea_two okE (by walk_at "ev") (ev_call okE C4 (Nat.le_of_ble_eq_true rfl) (ea_two okE (by walk_at "ev") (ev_tup2 okE (x := .int e.1.1) (y := .int 1) (ev_ixT okE (xs := [.int e.1.1, .int e.1.2]) (by walk_at "ev") (ev_int okE) (atI_get (n := 0) rfl) (fun _ _ => rfl)) (ev_int okE)))
          fun _ _ => ⟨e.2, (e.1.1, 1), rfl, two_dv x2 (okI _) x3 (dvI _) lp (by decide) (by have := rk.pw (x := j) (y := 0) (by omega); rw [Int.pow_zero] at this; exact this), .inr ⟨by show -(2 ^ 64) < e.1.1; omega, by show e.1.1 < 2 ^ 64; omega⟩, rfl⟩)) fun _ _ => ⟨_, _, rfl, two_dv pi2 m1 pi3 dvm lp1 lp (rk.pw (by omega)), rfl⟩) (bd_end (bd_nil fun σ H' e' hs' => ⟨_, kp.trans r7 (RXS.of gk e'), ⟨some (.d (plD e.1)), some (.d (pr e.2)), some (.d .none), q14, q15, q16, q17, ?_, ?_⟩, hs'⟩))) (fun h => by cases h)
        · rw [hst1, ho1]
          rfl
        · rw [hst1, ho1]
          exact hdl7.ex_ enc_P e'
      | some jj =>
        have ep : planF b rows s os (((n : Int) - j), e.1) = .int jj := by
          unfold planF
          rw [htn, hix]
          rfl
        rw [ep]
        obtain ⟨o, ho⟩ : ∃ o, os[jj]? = some o := ⟨_, List.getElem?_eq_getElem (best_idx hix)⟩
        have hom := List.mem_of_getElem? ho
        obtain ⟨oi1, oi2, oi3⟩ := rk.op.all o hom
        have ho1 : oneM b rows s os (n - j) (sti i) e = ((endsM b rows e.1 s o.1 o.2).foldl (fun lt x => putM lt e.2 x) (sti i).1, (sti i).2) := by
          unfold oneM
          rw [hix]
          show (match os[jj]? with | none => sti i | some o => _) = _
          rw [ho]
        refine bd_if okE (tv_isN okE (x := .int jj) (by walk_at "ev")) (fun h => by cases h) (fun _ => ?_)
        refine bd_unpack okE 14 15 (r := plD o.1) (r' := .int o.2) rfl rfl (ev_ixL okE (xs := os.map oppD) (x := oppD o) (by walk_at "ev") (by walk_at "ev") (atI_get (by rw [List.getElem?_map, ho]; rfl)) (fun _ _ => rfl)) ?_ (fun v σ H Q d q => wG_two okE 14 15 rfl rfl d q)
        intro σ9 H9 e9 s9
        have ok9 := ok.at_ H9
        let fs := endsM b rows e.1 s o.1 o.2
        let lt : Nat → Sh := fun k => (fs.take k).foldl (fun lt x => putM lt e.2 x) (sti i).1
        have fok := rk.dv x1 hom
        have lts : ∀ k, ShOk b (L ^ j * L) (lt k) := fun k => (puts_ok (L := L) x2 x3 (bV b rows s os 0) (fs.take k) (sti i).1 (pre i).sh fun z hz => fok z (List.mem_of_mem_take hz)).1
        let SM : List (Option SV) → Sd := fun q => SL dsh (sti i).2 ([some (.d (.int ((n : Int) - j))), some (.v (.ref dl)), some (.d (plD e.1)), some (.d (pr e.2)), some (.d (.int jj)), some (.d (plD o.1)), some (.d (.int o.2))] ++ q)
        refine ws_forR ok9 kp (Ex.refl H9) s9 (ivr_list ok9 kp (xs := fs.map enD) (ev_ld ok9 (ev_call ok9 C5 (Nat.le_of_ble_eq_true rfl) (ea_cons ok9 (by walk_at "ev") (ea_cons ok9 (by walk_at "ev") (ea_cons ok9 (by walk_at "ev") (ea_cons ok9 (by walk_at "ev") (ea_two ok9 (by walk_at "ev") (by walk_at "ev")))))) fun H' e' => ⟨ab, ac, b, rows, e.1, o.1, s, o.2, rfl, (hb7.ex e9).ex e', rk.bk, (hc7.ex e9).ex e', rk.cc, x1, oi1, ⟨rk.s0, rk.s1⟩, ⟨oi2, oi3⟩, rfl⟩)))
          (fun k ds' H' => ∃ q16 q17, ds' = SM [q16, q17] ∧ DN P w K H' dl encP (encS (lt k))) (fun k ds' Ha Hb e ⟨q16, q17, h1, h2⟩ => ⟨q16, q17, h1, h2.ex_ enc_P e⟩) (fun H10 e10 => ⟨q16, q17, rfl, (hdl7.ex_ enc_P e9).ex_ enc_P e10⟩) ?_ ?_
        · rintro H10 e10 ok10 k v _ σ11 H11 hk r11 ⟨q16, q17, rfl, hdl11⟩ s11 dv11
          rw [List.length_map] at hk
          obtain ⟨x, hx⟩ : ∃ x, fs[k]? = some x := ⟨_, List.getElem?_eq_getElem hk⟩
          have dv12 : Dp K H11 v ((fs.map enD).getD k .none) := dv11
          rw [getD_map hx] at dv12
          obtain ⟨c1, c2, c3⟩ := fok x (List.mem_of_getElem? hx)
          obtain ⟨m1, m2⟩ := ends_mem rk.bk x1 oi1 (List.mem_of_getElem? hx)
          obtain ⟨_, c4, c5, c6⟩ := rk.ch o hom x.1 m1
          have c7 : x.1.2 ≤ L := Int.le_of_dvd rk.l0 c6
          have l64 : L < 2 ^ 64 := by
            have h1 := pow_up rk.l0 (show 1 ≤ 2 * N by omega)
            have h2 := rk.ln
            rw [Int.pow_succ, Int.pow_zero, Int.one_mul] at h1
            omega
          have hlt1 : lt (k + 1) = putM (lt k) e.2 x := by
            show (fs.take (k + 1)).foldl _ _ = _
            rw [List.take_add_one, hx, List.foldl_append]
            rfl
          obtain ⟨g1, g2⟩ := (lts k).getD x.2
          rw [lj1] at g2
          have mm := mul_ok x2 c1
          have dm : Dv (L ^ (j + 1)) (val (mulF e.2 x.1)) := by
            rw [val_mul x2 c1, ← lj1]
            exact x3.mul c2
          refine wG_two (m := M0) ok 16 17 rfl rfl dv12 fun u u' d1 d2 => ?_
          have s12 := (s11.set (r := .d (pr x.1)) 16 d1).set (r := .d (plD x.2)) 17 d2
          have okF := ok.at_ H11
          have d1' : Dv (L ^ 1) (val x.1) := by rw [Int.pow_succ, Int.pow_zero, Int.one_mul]; exact c2
          refine ws_nput okF enc_P (k := x.2) (z := pr (addF ((gAt (lt k) x.2).getD (0, 1)) (mulF e.2 x.1))) (Pk := fun kv => kv = encS (lt k)) (Ex.refl H11) s12 (ev_call okF C3 (Nat.le_of_ble_eq_true rfl) (ea_two okF (ev_ngetOr okF enc_P (k := x.2) (z := pr (0, 1)) (r := pr ((gAt (lt k) x.2).getD (0, 1))) (by walk_at "ev") (ev_var okF 17 rfl rfl (by walk_at "vis")) (ev_gdat okF (g_NONE T) (dp_NONE T)) fun H' e' => ⟨_, hdl11.ex_ enc_P e', by rw [gAt_S]; cases gAt (lt k) x.2 <;> rfl⟩)
            (ev_call okF C4 (Nat.le_of_ble_eq_true rfl) (ea_two okF (by walk_at "ev") (by walk_at "ev")) fun _ _ => ⟨e.2, x.1, rfl, two_dv x2 c1 x3 d1' lp (by rw [Int.pow_succ, Int.pow_zero, Int.one_mul]; exact rk.l0) (rk.pw (by omega)), .inr ⟨by omega, by omega⟩, rfl⟩)) fun _ _ => ⟨_, _, rfl, two_dv g1 mm g2 dm lp1 lp1 (rk.pw (by omega)), rfl⟩) (by walk_at "ev") (ev_var okF 17 rfl rfl (by walk_at "vis")) rfl
            (fun H' e' => ⟨_, hdl11.ex_ enc_P e', by unfold encS; rw [List.length_map]; have := (lts k).len rk.bk; omega, rfl⟩) fun H12 kvs o0 o' e12 hpk hd12 e0 hd13 s13 => ?_
          subst hpk
          refine wSs_nil ⟨_, kp.trans r11 (kp.trans (RXS.of gk e12) (RXS.upd (by simp) e0 (fun _ _ _ h => h) id)), ⟨some (.d (pr x.1)), some (.d (plD x.2)), rfl, ?_⟩, s13⟩
          rw [gPut_S] at hd13
          rw [hlt1]
          exact hd13
        · rintro H10 _ σ11 H11 e10 r11 ⟨q16', q17', rfl, hdl11⟩ s11
          rw [List.length_map] at hdl11
          have hlt : lt fs.length = (sti (i + 1)).1 := by
            rw [hst1, ho1]
            show (fs.take fs.length).foldl _ _ = _
            rw [List.take_length]
          refine wSs_nil (wSs_nil ⟨_, kp.trans r7 (kp.trans (RXS.of gk e9) (kp.trans (RXS.of gk e10) r11)), ⟨some (.d (plD e.1)), some (.d (pr e.2)), some (.d (.int jj)), some (.d (plD o.1)), some (.d (.int o.2)), q16', q17', ?_, ?_⟩, s11⟩)
          · rw [hst1, ho1]
            rfl
          · rw [← hlt]
            exact hdl11
    · rintro H6 _ σ7 H7 e6 r7 ⟨q11, q12, q13, q14, q15, q16, q17, rfl, hdl7⟩ s7
      have hlen : (encS es).length = es.length := List.length_map ..
      have hst : sti (encS es).length = stM b rows s os n p (j + 1) := by
        rw [hlen]
        show (es.take es.length).foldl _ _ = _
        rw [List.take_length]
        rfl
      rw [hst] at s7 hdl7
      have ok7 := ok.at_ H7
      refine (bd_asg ok7 7 (r := .v (.ref dl)) rfl (by walk_at "ev") ?_) σ7 H7 (Ex.refl H7) s7
      refine bd_nil fun σ H' e' hs' => ⟨_, ?_, ⟨dl, some (.d (.int ((n : Int) - j))), some (.v (.ref dl)), q11, q12, q13, q14, q15, q16, q17, rfl, hdl7.ex_ enc_P e'⟩, hs'⟩
      show Ex H3 H'
      refine Ex.trans (fun c z hcz => ?_) e'
      have h4 := e4 c z hcz
      have nc := ne_of_none h4 hnl
      exact r7.1 c z (e6 _ _ (e5 _ _ h4)) fun hm => absurd (by simpa using hm) nc
  · rintro H3 _ σ4 H4 e3 e4 ⟨dsh, q9, q10, q11, q12, q13, q14, q15, q16, q17, rfl, hds⟩ s4
    have hnn : ((n : Int) - 0).toNat = n := by omega
    rw [hnn] at s4 hds
    obtain ⟨k1, k2⟩ := st_ok rk (g := n) hp n (Nat.le_refl n)
    let es : Sh := (stM b rows s os n p n).1
    have ok4 := ok.at_ H4
    let en : Nat → Fr := fun i => (es.take i).foldl (fun t e => addF t (mulF e.2 (norm e.1.1 1))) (stM b rows s os n p n).2
    have lp : 0 < L ^ n := Int.pow_pos rk.l0
    refine ws_forR ok4 (kp_ex K) (Ex.refl H4) s4 (ivr_items ok4 (kp_ex K) enc_P (d := dsh) (kvs := encS es) (by walk_at "ev") (fun H' e => hds.ex_ enc_P e) (fun r h => r _ _ h)) (fun i ds' H' => ∃ q11 q12, ds' = SL dsh (en i) [q9, q10, q11, q12, q13, q14, q15, q16, q17]) (fun i ds' Ha Hb e h => h) (fun H6 e6 => ⟨_, _, rfl⟩) ?_ ?_
    · rintro H6 e6 ok6 i v _ σ7 H7 hi r7 ⟨q11, q12, rfl⟩ s7 dv7
      have hi2 : i < es.length := by
        have z : (encS es).length = es.length := List.length_map ..
        omega
      obtain ⟨e, he⟩ : ∃ e, es[i]? = some e := ⟨_, List.getElem?_eq_getElem hi2⟩
      rw [itY_S he] at dv7
      obtain ⟨x1, x2, x3⟩ := k1.sh.ok e (List.mem_of_getElem? he)
      obtain ⟨y1, y2, _⟩ := end_ok (b := b) (rows := rows) (s := s) (os := os) (es.take i) _ k1.en k1.dv fun z hz => k1.sh.ok z (List.mem_of_mem_take hz)
      have hen : en (i + 1) = addF (en i) (mulF e.2 (norm e.1.1 1)) := by
        show (es.take (i + 1)).foldl _ _ = _
        rw [List.take_add_one, he, List.foldl_append]
        rfl
      refine wG_two (m := M0) ok 11 12 rfl rfl dv7 fun u u' d1 d2 => ?_
      have s8 := (s7.set (r := .d (plD e.1)) 11 d1).set (r := .d (pr e.2)) 12 d2
      have okE := ok.at_ H7
      have no := norm_ok (o := e.1.1) (u := 1) (by decide)
      have m1 := mul_ok x2 no
      have hr0 := x1.r0
      have hr1 := x1.r1
      have bl0 := rk.bk.l0
      have bh1 := rk.bk.h1
      have dn1 : Dv 1 (val (norm e.1.1 1)) := by rw [norm_one]; exact dvI _
      have dvm : Dv (L ^ n) (val (mulF e.2 (norm e.1.1 1))) := by
        rw [val_mul x2 no]
        have z := x3.mul dn1
        rw [Int.mul_one] at z
        exact z
      refine (bd_asg okE 8 (r := .d (pr (addF (en i) (mulF e.2 (norm e.1.1 1))))) rfl (ev_call okE C3 (Nat.le_of_ble_eq_true rfl) (ea_two okE (by walk_at "ev") (ev_call okE C4 (Nat.le_of_ble_eq_true rfl) (ea_two okE (by walk_at "ev") (ev_call okE C6 (Nat.le_of_ble_eq_true rfl) (ea_two okE (ev_ixT okE (xs := [.int e.1.1, .int e.1.2]) (by walk_at "ev") (ev_int okE) (atI_get (n := 0) rfl) (fun _ _ => rfl)) (ev_int okE)) fun _ _ => ⟨e.1.1, 1, rfl, by decide, by decide, rfl⟩))
        fun _ _ => ⟨e.2, norm e.1.1 1, rfl, two_dv x2 no x3 dn1 lp (by decide) (by have := rk.pw (x := n) (y := 0) (by omega); rw [Int.pow_zero] at this; exact this), .inr (by rw [norm_one]; exact ⟨by show -(2 ^ 64) < e.1.1; omega, by show e.1.1 < 2 ^ 64; omega⟩), rfl⟩)) fun _ _ => ⟨_, _, rfl, two_dv y1 m1 y2 dvm lp lp (rk.pw (by omega)), rfl⟩) ?_) _ H7 (Ex.refl H7) s8
      refine bd_nil fun σ H' e' hs' => ⟨_, Ex.trans r7 e', ⟨some (.d (plD e.1)), some (.d (pr e.2)), ?_⟩, hs'⟩
      rw [hen]
      rfl
    · rintro H6 _ σ7 H7 e6 r7 ⟨q11, q12, rfl⟩ s7
      have ok7 := ok.at_ H7
      have hlen : (encS es).length = es.length := List.length_map ..
      have hend : en (encS es).length = (bestM b rows s os n p).1 := by
        rw [hlen, ← endM_best rk hp]
        show (es.take es.length).foldl _ _ = _
        rw [List.take_length]
        rfl
      rw [hend] at s7
      refine bd_retC ok7 (r' := .d (pr (bestM b rows s os n p).1)) (fun v H' e' d' => hQ v H' (e02.trans (e3.trans (e4.trans (e6.trans (r7.trans e'))))) d') (by walk_at "ev") rfl σ7 H7 (Ex.refl H7) s7
end
/-! The law's fractions: _law_small, _law_plus, _law_times, _law_over. -/
def stp (z : Nat × Nat) : Nat × Nat := if 0 < z.2 then (z.2, z.1 % z.2) else z
def eun (z : Nat × Nat) : Nat → Nat × Nat
  | 0 => z
  | i + 1 => stp (eun z i)
theorem eun_add (z : Nat × Nat) (i : Nat) : ∀ j, eun z (i + j) = eun (eun z i) j
  | 0 => rfl
  | j + 1 => congrArg stp (eun_add z i j)
theorem eun_zero (x : Nat) : ∀ j, eun (x, 0) j = (x, 0)
  | 0 => rfl
  | j + 1 => by
    show stp (eun (x, 0) j) = _
    rw [eun_zero x j]
    rfl
theorem eun_gcd (z : Nat × Nat) : ∀ j, Nat.gcd (eun z j).1 (eun z j).2 = Nat.gcd z.1 z.2
  | 0 => rfl
  | j + 1 => by
    have ih := eun_gcd z j
    show Nat.gcd (stp (eun z j)).1 (stp (eun z j)).2 = _
    rw [← ih]
    unfold stp
    split
    · show Nat.gcd (eun z j).2 ((eun z j).1 % (eun z j).2) = _
      rw [Nat.gcd_comm (eun z j).1, Nat.gcd_rec (eun z j).2 (eun z j).1, Nat.gcd_comm]
    · rfl
theorem eun_end : ∀ (k x y : Nat), y < 2 ^ k → (eun (x, y) (2 * k)).2 = 0
  | 0, x, y, h => by
    show y = 0
    have : (2 : Nat) ^ 0 = 1 := rfl
    omega
  | k + 1, x, y, h => by
    rcases Nat.eq_zero_or_pos y with e | hy
    · rw [e, eun_zero]
    · have s1 : eun (x, y) 1 = (y, x % y) := by
        show stp (x, y) = _
        unfold stp
        rw [if_pos (show 0 < (x, y).2 from hy)]
      have hr : x % y < y := Nat.mod_lt _ hy
      rw [show 2 * (k + 1) = 1 + (2 * k + 1) from by omega, eun_add, s1]
      rcases Nat.eq_zero_or_pos (x % y) with e | hp
      · rw [e, eun_zero]
      · have s2 : eun (y, x % y) 1 = (x % y, y % (x % y)) := by
          show stp (y, x % y) = _
          unfold stp
          rw [if_pos (show 0 < (y, x % y).2 from hp)]
        rw [show 2 * k + 1 = 1 + 2 * k from by omega, eun_add, s2]
        refine eun_end k _ _ ?_
        have h1 : y % (x % y) < x % y := Nat.mod_lt _ hp
        have h2 : y % (x % y) ≤ y - x % y := by
          rw [Nat.mod_eq_sub_mod (Nat.le_of_lt hr)]
          exact Nat.mod_le _ _
        rw [Nat.pow_succ] at h
        omega
theorem eun_ge {x y m : Nat} (h : y < 2 ^ 64) (hm : 128 ≤ m) : eun (x, y) m = (Nat.gcd x y, 0) := by
  obtain ⟨c, hc⟩ : ∃ c, c = 2 * 64 := ⟨_, rfl⟩
  have h1 := eun_end 64 x y h
  rw [← hc] at h1
  have h2 := eun_gcd (x, y) c
  obtain ⟨d, rfl⟩ : ∃ d, m = c + d := ⟨m - c, by omega⟩
  rw [h1, Nat.gcd_zero_right] at h2
  have e1 : eun (x, y) c = (Nat.gcd x y, 0) := Prod.ext h2 h1
  rw [eun_add, e1, eun_zero]
section
variable {P : Program} {w : World} {K : PySem.W.Frag} {mg : Str → Option Value} {base : Heap}
theorem ok_zsmall (T : Tx K mg) : CallOk P w K mg base "_law_small" 1 (SpR K rFraction) := by
  obtain ⟨fd, F⟩ := D_zsmall T
  refine call_of F (fn_pure F sc_zsmall (fun rs H r ⟨_, _, e, _⟩ => by rw [e]; rfl) ?_) (g_zsmall T) (fun _ _ _ _ _ _ us hl => match us, hl with | [_, _], _ => rfl)
  rintro cdv A outer s H E Q rs r hr ⟨o, u, rfl, h0, h1, rfl⟩ ok hQ
  refine bd_par ok 2 3 (r := .d (.int (o.natAbs : Int))) (r' := .d (.int (u.natAbs : Int))) rfl rfl (by decide) ((ev_abs ok (b_abs T) (by walk_at "ev")).cast (by rw [absI_nat])) ((ev_abs ok (b_abs T) (by walk_at "ev")).cast (by rw [absI_nat])) ?_
  obtain ⟨m, hm⟩ : ∃ m : Nat, m = 400 := ⟨_, rfl⟩
  refine bd_for1 ok 4 rfl ((iv_range1 ok (b_range T) (ev_int ok) (by decide)).len (n' := m) (by rw [hm]; rfl)) (fun i ds' => ∃ q, ds' = [some (.d (.int o)), some (.d (.int u)), some (.d (.int ((eun (o.natAbs, u.natAbs) i).1 : Int))), some (.d (.int ((eun (o.natAbs, u.natAbs) i).2 : Int))), q]) ⟨none, rfl⟩ ?_ ?_
  · rintro H1 r1 ok1 i _ hi ⟨q, rfl⟩
    generalize hz : eun (o.natAbs, u.natAbs) i = z
    have hstep : eun (o.natAbs, u.natAbs) (i + 1) = stp z := by rw [← hz]; rfl
    rw [hstep]
    refine bd_if ok1 (tv_gt ok1 (by walk_at "ev") (ev_int ok1)) (fun h => ?_) (fun h => ?_)
    · have h := of_decide_eq_true h
      have hs : stp z = (z.2, z.1 % z.2) := by unfold stp; rw [if_pos (by omega)]
      rw [hs]
      refine bd_par ok1 2 3 (r := .d (.int (z.2 : Int))) (r' := .d (.int ((z.1 % z.2 : Nat) : Int))) rfl rfl (by decide) (by walk_at "ev") ((ev_mod ok1 (x := (z.1 : Int)) (y := (z.2 : Int)) (ev_intI ok1 (b_int T) (by walk_at "ev")) (ev_intI ok1 (b_int T) (by walk_at "ev")) h).cast (by rw [Int.natCast_emod])) (bd_end (bd_nil fun σ H' hr' hs' => ⟨_, hr', ⟨some (.d (.int i)), rfl⟩, hs'⟩))
    · have h := of_decide_eq_false h
      have hs : stp z = z := by unfold stp; rw [if_neg (by omega)]
      rw [hs]
      exact bd_end (bd_nil fun σ H' hr' hs' => ⟨_, hr', ⟨some (.d (.int i)), rfl⟩, hs'⟩)
  · rintro _ ⟨q, rfl⟩
    rw [eun_ge (by omega) (by omega)]
    obtain ⟨c1, c2⟩ := gcd_div h0 h1 (o := o)
    refine bd_retC ok hQ (ev_tup2 ok (x := .int (o / (Int.gcd o u : Int))) (y := .int (u / (Int.gcd o u : Int))) (ev_div ok (by walk_at "ev") (by walk_at "ev") c1) (ev_div ok (by walk_at "ev") (by walk_at "ev") c2)) rfl
end
/-! The law's sums. -/
section
variable {P : Program} {w : World} {K : PySem.W.Frag} {mg : Str → Option Value} {base : Heap}
theorem ok_zplus (T : Tx K mg) : CallOk P w K mg base "_law_plus" 2 (SpR K rAdded) := by
  have C1 := ok_zsmall (P := P) (w := w) (base := base) T
  obtain ⟨fd, F⟩ := D_zplus T
  refine call_of F (fn_pure F sc_zplus (fun rs H r ⟨_, _, e, _⟩ => by rw [e]; rfl) ?_) (g_zplus T) (fun _ _ _ _ _ _ us hl => match us, hl with | [_, _], _ => rfl)
  rintro cdv A outer s H E Q rs r hr ⟨a, b, rfl, t, rfl⟩ ok hQ
  obtain ⟨a0, a1, b0, b1, ab⟩ := t
  have m1 : CMul a.1 b.2 := .inr ⟨by omega, b1⟩
  have m2 : CMul b.1 a.2 := .inr ⟨by omega, a1⟩
  have m3 : CMul a.2 b.2 := .inr ⟨by omega, b1⟩
  exact bd_retC ok hQ (ev_call ok C1 (Nat.le_of_ble_eq_true rfl) (ea_two ok (by walk_at "ev") (by walk_at "ev")) fun _ _ => ⟨_, _, rfl, Int.mul_pos a0 b0, ab, rfl⟩) rfl
theorem ok_ztimes (T : Tx K mg) : CallOk P w K mg base "_law_times" 2 (SpR K rMultiplied) := by
  have C1 := ok_zsmall (P := P) (w := w) (base := base) T
  obtain ⟨fd, F⟩ := D_ztimes T
  refine call_of F (fn_pure F sc_ztimes (fun rs H r ⟨_, _, e, _⟩ => by rw [e]; rfl) ?_) (g_ztimes T) (fun _ _ _ _ _ _ us hl => match us, hl with | [_, _], _ => rfl)
  rintro cdv A outer s H E Q rs r hr ⟨a, b, rfl, t, m1, rfl⟩ ok hQ
  obtain ⟨a0, a1, b0, b1, ab⟩ := t
  have m1 : CMul a.1 b.1 := m1
  have m3 : CMul a.2 b.2 := .inr ⟨by omega, b1⟩
  exact bd_retC ok hQ (ev_call ok C1 (Nat.le_of_ble_eq_true rfl) (ea_two ok (by walk_at "ev") (by walk_at "ev")) fun _ _ => ⟨_, _, rfl, Int.mul_pos a0 b0, ab, rfl⟩) rfl
theorem ok_zover (T : Tx K mg) : CallOk P w K mg base "_law_over" 1 (SpR K rAbove) := by
  obtain ⟨fd, F⟩ := D_zover T
  refine call_of F (fn_pure F sc_zover (fun rs H r ⟨_, _, e, _⟩ => by rw [e]; rfl) ?_) (g_zover T) (fun _ _ _ _ _ _ us hl => match us, hl with | [_, _], _ => rfl)
  rintro cdv A outer s H E Q rs r hr ⟨a, b, rfl, t, rfl⟩ ok hQ
  obtain ⟨a0, a1, b0, b1, ab⟩ := t
  have m1 : CMul a.1 b.2 := .inr ⟨by omega, b1⟩
  have m2 : CMul b.1 a.2 := .inr ⟨by omega, a1⟩
  exact bd_retC ok hQ (by walk_at "ev") rfl
end
/-! The law's dict with text keys: read. -/
section
variable {ι : Type} {m : Mo ι} {ds : Sd} {pos : Pos}
theorem ev_mget (ok : m.Ok) {o i : Expr} {a : Addr} {key : Str} {r : SV} (ho : EV m ds o (.v (.ref a))) (hi : EV m ds i (.d (.str key))) (hd : ∀ H, m.R m.H0 H → ∃ kvs v, H a = some (.dK kvs) ∧ valV kvs (.inr key) = some v ∧ Dq m.S.K H v r) (hs : NoSl i := by intro _ _; rfl) : EV m ds (.Subscript o i pos) r := fun σ H hr hsl Q q => by
  refine wE_of (t := tDGet (wE m.F o) (wE m.F i)) (fun j => pe_dget (by have := (ok.room j).un; omega) (wE_ok j) (wE_ok j) hs) (ho σ H hr hsl _ fun x H1 r1 d1 => hi σ H1 (ok.trans hr r1) (ok.sl r1 hsl) _ fun y H2 r2 d2 => ?_)
  have r12 := ok.trans r1 r2
  obtain ⟨kvs, v, h1, h2, h3⟩ := hd H2 (ok.trans hr r12)
  obtain rfl := Dp.str_inv d2
  refine ⟨a, v, d1, ?_, q v H2 r12 h3⟩
  have z : DGet H2 a (kV (.inr key)) (valV kvs (.inr key)) := DGet.k h1
  rw [h2] at z
  exact z
end
/-- the law's model of a book, as it stands -/
def mFs (b : Bk) (vt : V) : List (Key × V) := [(.inr "low", .int b.low), (.inr "high", .int b.high), (.inr "table", vt), (.inr "fresh", .int b.fresh), (.inr "times", .int b.times), (.inr "bonus", .int b.bonus)]
def MAt (K : PySem.W.Frag) (H : Hp) (a : Addr) (b : Bk) : Prop := ∃ vt, H a = some (.dK (mFs b vt)) ∧ Dp K H vt (.list (b.rows.map rwD))
theorem MAt.ex {K : PySem.W.Frag} {H H' : Hp} {a : Addr} {b : Bk} (h : MAt K H a b) (e : Ex H H') : MAt K H' a b :=
  let ⟨vt, h1, h2⟩ := h
  ⟨vt, e _ _ h1, dp_of (fun _ _ => (kp_ex K).sl_ e) (fun _ _ => (kp_ex K).st_ e) h2⟩
section
variable {ι : Type} {m : Mo ι} {ds : Sd} {pos : Pos}
theorem ev_mI (ok : m.Ok) {o i : Expr} {a : Addr} {b : Bk} {key : Str} {n : Int} (ho : EV m ds o (.v (.ref a))) (hi : EV m ds i (.d (.str key))) (hd : ∀ H, m.R m.H0 H → MAt m.S.K H a b) (hl : ∀ vt, valV (mFs b vt) (.inr key) = some (.int n)) (hs : NoSl i := by intro _ _; rfl) : EV m ds (.Subscript o i pos) (.d (.int n)) :=
  ev_mget ok ho hi (fun H hr => let ⟨vt, h1, _⟩ := hd H hr; ⟨_, _, h1, hl vt, .int n⟩) hs
theorem ev_mT (ok : m.Ok) {o i : Expr} {a : Addr} {b : Bk} (ho : EV m ds o (.v (.ref a))) (hi : EV m ds i (.d (.str "table"))) (hd : ∀ H, m.R m.H0 H → MAt m.S.K H a b) (hs : NoSl i := by intro _ _; rfl) : EV m ds (.Subscript o i pos) (.d (.list (b.rows.map rwD))) :=
  ev_mget ok ho hi (fun H hr => let ⟨vt, h1, h2⟩ := hd H hr; ⟨_, vt, h1, rfl, h2⟩) hs
end
section
variable {P : Program} {w : World} {K : PySem.W.Frag} {mg : Str → Option Value} {base : Heap}
def cutM (b : Bk) (r : Int) : Int := minI b.high (maxI b.low r)
def rCut (K : PySem.W.Frag) (rs : List SV) (H : Hp) (r : SV) : Prop := ∃ a b x, rs = [.v (.ref a), .d (.int x)] ∧ MAt K H a b ∧ r = .d (.int (cutM b x))
theorem ok_zcut (T : Tx K mg) : CallOk P w K mg base "_law_cut" 1 (SpR K (rCut K)) := by
  obtain ⟨fd, F⟩ := D_zcut T
  refine call_of F (fn_pure F sc_zcut (fun rs H r ⟨_, _, _, e, _⟩ => by rw [e]; rfl) ?_) (g_zcut T) (fun _ _ _ _ _ _ us hl => match us, hl with | [_, _], _ => rfl)
  rintro cdv A outer s H E Q rs r hr ⟨a, b, x, rfl, hb, rfl⟩ ok hQ
  exact bd_retC ok hQ (ev_min ok (b_min T) (ev_intI ok (b_int T) (ev_mI ok (by walk_at "ev") (ev_str ok) (fun H' e => hb.ex e) (fun _ => rfl))) (ev_max ok (b_max T) (ev_intI ok (b_int T) (ev_mI ok (by walk_at "ev") (ev_str ok) (fun H' e => hb.ex e) (fun _ => rfl))) (ev_intI ok (b_int T) (by walk_at "ev")))) rfl
end
/-! The law's game: _law_one, _law_game, _law_mine. -/
section
variable {P : Program} {w : World} {K : PySem.W.Frag} {mg : Str → Option Value} {base : Heap}
def rOne (K : PySem.W.Frag) (rs : List SV) (H : Hp) (r : SV) : Prop := ∃ a b p c won, rs = [.v (.ref a), .d (plD p), .d (.int c), .d (.bool won)] ∧ MAt K H a b ∧ BkOk b ∧ r = .d (plD (movedM b p c won))
theorem ok_zone (T : Tx K mg) : CallOk P w K mg base "_law_one" 2 (SpR K (rOne K)) := by
  have C1 := ok_zcut (P := P) (w := w) (base := base) T
  obtain ⟨fd, F⟩ := D_zone T
  refine call_of F (fn_pure F sc_zone (fun rs H r ⟨_, _, _, _, _, e, _⟩ => by rw [e]; rfl) ?_) (g_zone T) (fun _ _ _ _ _ _ us hl => match us, hl with | [_, _, _, _], _ => rfl)
  rintro cdv A outer s H E Q rs r hr ⟨a, b, p, c, won, rfl, hb, hk, rfl⟩ ok hQ
  have hB : ∀ H', Ex H H' → MAt K H' a b := fun H' e => hb.ex e
  have t0 := hk.t0
  have t1 := hk.t1
  refine bd_unpack ok 4 5 (r := .int p.1) (r' := .int p.2) rfl rfl (by walk_at "ev") ?_ (fun v σ H Q d q => wG_two ok 4 5 rfl rfl d q)
  refine bd_ifr ok (tv_gt ok (ev_mI ok (n := b.fresh) (by walk_at "ev") (ev_str ok) hB (fun _ => rfl)) (ev_int ok)) (fun h => ?_) (fun h => ?_)
  · have h := of_decide_eq_true h
    refine bd_retC ok hQ (ev_tup2 ok (x := .int (cutM b (p.1 + c * (if decide (0 < p.2) = true then b.times else 1)))) (y := .int (maxI 0 (p.2 - 1))) (ev_call ok C1 (Nat.le_of_ble_eq_true rfl) (ea_two ok (by walk_at "ev") (ev_add ok (by walk_at "ev") (ev_mul ok (by walk_at "ev") (ev_ifI ok (tv_gt ok (by walk_at "ev") (ev_int ok)) (ev_mI ok (n := b.times) (by walk_at "ev") (ev_str ok) hB (fun _ => rfl)) (ev_int ok)) (.inr ⟨by split <;> omega, by split at t1 <;> split <;> omega⟩)))) fun H' e => ⟨a, b, _, rfl, hB H' e, rfl⟩) (ev_max ok (b_max T) (ev_int ok) (by walk_at "ev"))) ?_
    unfold movedM cutM
    rw [if_pos h]
    simp only [decide_eq_true_eq]
    by_cases h2 : 0 < p.2
    · rw [if_pos h2, if_pos h2]
      rfl
    · rw [if_neg h2, if_neg h2, Int.mul_one]
      rfl
  · have h := of_decide_eq_false h
    refine bd_asg ok 6 rfl (ev_ifI ok (tv_w ok (wv_and ok (b := won) (tv_val ok (by walk_at "ev")) fun _ => wv_and1 ok (tv_gt ok (by walk_at "ev") (ev_int ok)))) (ev_mI ok (n := b.bonus) (by walk_at "ev") (ev_str ok) hB (fun _ => rfl)) (ev_int ok)) ?_
    refine bd_retC ok hQ (ev_tup2 ok (x := .int (cutM b (p.1 + c + if (won && decide (0 < p.2)) = true then b.bonus else 0))) (ev_call ok C1 (Nat.le_of_ble_eq_true rfl) (ea_two ok (by walk_at "ev") (ev_add ok (ev_add ok (by walk_at "ev") (by walk_at "ev")) (by walk_at "ev"))) fun H' e => ⟨a, b, _, rfl, hB H' e, rfl⟩) (ev_intB ok (b_int T) (ev_and ok (by walk_at "ev") fun _ => ev_one ok (ev_gt ok (ev_mI ok (n := b.bonus) (by walk_at "ev") (ev_str ok) hB (fun _ => rfl)) (ev_int ok))))) ?_
    unfold movedM cutM
    rw [if_neg h]
    by_cases h2 : (won && decide (0 < p.2)) = true
    · rw [if_pos h2, if_pos h2, Int.add_assoc]
      rfl
    · rw [if_neg h2, if_neg h2, Int.add_zero]
      rfl
end
/-! The law's game: _law_game. -/
section
variable {P : Program} {w : World} {K : PySem.W.Frag} {mg : Str → Option Value} {base : Heap}
def rGameL (K : PySem.W.Frag) (rs : List SV) (H : Hp) (r : SV) : Prop := ∃ (a : Addr) (b : Bk) (u l : Int × Int) (j : Nat) (z : Str), rs = [.v (.ref a), .d (plD u), .d (plD l), .d (.str z)] ∧ MAt K H a b ∧ BkOk b ∧ l.1 ≤ u.1 ∧ names3[j]? = some z ∧ r = .d (gameD (gameM b u l j))
theorem ok_zgame (T : Tx K mg) : CallOk P w K mg base "_law_game" 3 (SpR K (rGameL K)) := by
  have C4 := ok_zone (P := P) (w := w) (base := base) T
  obtain ⟨fd, F⟩ := D_zgame T
  refine call_of F (fn_pure F sc_zgame (fun rs H r ⟨_, _, _, _, _, _, e, _⟩ => by rw [e]; rfl) ?_) (g_zgame T) (fun _ _ _ _ _ _ us hl => match us, hl with | [_, _, _, _], _ => rfl)
  rintro cdv A outer s H E Q rs r hr ⟨a, b, u, l, j, z, rfl, hb, hk, hle, hz, rfl⟩ ok hQ
  have hB : ∀ H', Ex H H' → MAt K H' a b := fun H' e => hb.ex e
  have hj : j < 3 := (List.getElem?_eq_some_iff.mp hz).1
  obtain ⟨x, hx⟩ := rowAt_some hk.tab (show 0 ≤ u.1 - l.1 by omega)
  have hlen := hk.tab.len1
  have hej : ∃ e, x.es[j]? = some e := by
    match j, hj with
    | 0, _ => exact ⟨_, rfl⟩
    | 1, _ => exact ⟨_, rfl⟩
    | 2, _ => exact ⟨_, rfl⟩
  obtain ⟨e, he⟩ := hej
  have hg : gameM b u l j = e.bind fun c => some (movedM b u c.1 (decide (j = 0)), movedM b l c.2 (decide (j = 2))) := by
    unfold gameM
    rw [hx]
    show (x.es[j]?.bind fun e => _) = _
    rw [he]
    rfl
  refine bd_asg ok 4 (r := .d (rwD x)) rfl (ev_ixL ok (ev_ld ok (ev_lc1M ok 4 b.rows rwD rwD (fun r => decide (r.b ≤ u.1 - l.1)) rfl (iv_listM ok (ev_mT ok (by walk_at "ev") (ev_str ok) hB)) (by omega) fun H1 r1 okb c hc => ⟨pv_one okb (tv_le okb (x := c.b) (ev_ixT okb (xs := .int c.b :: c.es.map entD) (by walk_at "ev") (ev_int okb) (atI_get (n := 0) rfl) (fun _ _ => rfl)) (ev_sub okb (ev_ixT okb (xs := [.int u.1, .int u.2]) (by walk_at "ev") (ev_int okb) (atI_get (n := 0) rfl) (fun _ _ => rfl)) (ev_ixT okb (xs := [.int l.1, .int l.2]) (by walk_at "ev") (ev_int okb) (atI_get (n := 0) rfl) (fun _ _ => rfl)))), fun _ => ⟨by walk_at "ev", noL_rwD c⟩⟩)) (ev_neg ok (ev_int ok)) (atI_last (x := rwD x) ?_) (fun _ _ => rfl)) ?_
  · rw [List.getLast?_map, show (b.rows.filter fun r => decide (r.b ≤ u.1 - l.1)).getLast? = some x from hx]
    rfl
  refine bd_asg ok 5 (r := .d (entD e)) rfl (ev_ixT ok (xs := .int x.b :: x.es.map entD) (i := 1 + (j : Int)) (by walk_at "ev") (ev_add ok (ev_int ok) (ev_lIx ok names3 j (ev_lst ok (xs := names3.map PyData.str) (ea_cons ok (ev_str ok) (ea_two ok (ev_str ok) (ev_str ok))) (by decide)) (by walk_at "ev") hz (nodup_before (by decide) hz))) ?_ (fun _ _ => rfl)) ?_
  · have z1 := atI_get (xs := .int x.b :: x.es.map entD) (n := j + 1) (x := entD e) (by rw [List.getElem?_cons_succ, List.getElem?_map, he]; rfl)
    rw [show (1 + (j : Int)) = ((j + 1 : Nat) : Int) from by omega]
    exact z1
  refine bd_ifr ok (tv_isN ok (by walk_at "ev")) (fun h => ?_) (fun h => ?_)
  · cases e with
    | some c => cases h
    | none => exact bd_retC ok hQ (by walk_at "ev") (by rw [hg]; rfl)
  · cases e with
    | none => cases h
    | some c =>
      refine bd_retC ok hQ (ev_tup2 ok (x := plD (movedM b u c.1 (decide (j = 0)))) (y := plD (movedM b l c.2 (decide (j = 2)))) (ev_call ok C4 (Nat.le_of_ble_eq_true rfl) (ea_cons ok (by walk_at "ev") (ea_cons ok (by walk_at "ev") (ea_two ok (ev_ixT ok (xs := [.int c.1, .int c.2]) (by walk_at "ev") (ev_int ok) (atI_get (n := 0) rfl) (fun _ _ => rfl)) (ev_eqS ok (by walk_at "ev") (ev_str ok))))) fun H' e => ⟨a, b, u, c.1, _, rfl, hB H' e, hk, ?_⟩)
        (ev_call ok C4 (Nat.le_of_ble_eq_true rfl) (ea_cons ok (by walk_at "ev") (ea_cons ok (by walk_at "ev") (ea_two ok (ev_ixT ok (xs := [.int c.1, .int c.2]) (by walk_at "ev") (ev_int ok) (atI_get (n := 1) rfl) (fun _ _ => rfl)) (ev_eqS ok (by walk_at "ev") (ev_str ok))))) fun H' e => ⟨a, b, l, c.2, _, rfl, hB H' e, hk, ?_⟩)) (by rw [hg]; rfl)
      · have : decide (z = ("upper" : Str)) = decide (j = 0) := by
          match j, hj, hz with
          | 0, _, h => cases h; rfl
          | 1, _, h => cases h; rfl
          | 2, _, h => cases h; rfl
        rw [this]
      · have : decide (z = ("lower" : Str)) = decide (j = 2) := by
          match j, hj, hz with
          | 0, _, h => cases h; rfl
          | 1, _, h => cases h; rfl
          | 2, _, h => cases h; rfl
        rw [this]
end
/-! {text: text, ..}[text]. -/
section
variable {ι : Type} {m : Mo ι} {ds : Sd} {pos : Pos}
theorem ev_disp3 (ok : m.Ok) {k1 k2 k3 v1 v2 v3 z y : Str} {j1 j2 j3 l1 l2 l3 : Nat} {p1 p2 p3 q1 q2 q3 p0 : Pos} {i : Expr} (hi : ∀ H, EV (m.at_ H) ds i (.d (.str z))) (hst : ∀ {H H' : Hp} {a : Addr} {kvs}, m.R H H' → H a = some (.dK kvs) → H' a = some (.dK kvs)) (hz : valV (mergeK [] [((.inr k1 : Key), V.str v1), (.inr k2, .str v2), (.inr k3, .str v3)]) (.inr z) = some (.str y)) (hs : NoSl i := by intro _ _; rfl) :
    EV m ds (.Subscript (.Dict [some (.Constant (.str k1) j1 p1), some (.Constant (.str k2) j2 p2), some (.Constant (.str k3) j3 p3)] [.Constant (.str v1) l1 q1, .Constant (.str v2) l2 q2, .Constant (.str v3) l3 q3] p0) i pos) (.d (.str y)) := fun σ H hr hsl Q q => by
  refine wE_of (t := tDGet (tDisp [(_, _), (_, _), (_, _)]) (wE m.F i)) (fun j => pe_dget (by have := (ok.room j).un; omega) (pe_disp (pps_cons pe_str pe_str (pps_cons pe_str pe_str (pps_cons pe_str pe_str pps_nil))) rfl rfl (fun z => nomatch z) (by show 3 ≤ 15; decide)) (wE_ok j) hs) ?_
  intro p hp
  refine ⟨upd_same, [((.inr k1 : Key), V.str v1), (.inr k2, .str v2), (.inr k3, .str v3)], rfl, by show 3 ≤ 15; decide, ?_⟩
  rw [upd_upd]
  have e1 := ok.new (o := HO.dK (mergeK [] [((.inr k1 : Key), V.str v1), (.inr k2, .str v2), (.inr k3, .str v3)])) hp
  refine hi (upd H p (.dK (mergeK [] [((.inr k1 : Key), V.str v1), (.inr k2, .str v2), (.inr k3, .str v3)]))) σ _ (ok.refl _) (ok.sl e1 hsl) _ fun u H2 r2 d2 => ?_
  obtain rfl := Dp.str_inv d2
  refine ⟨p, .str y, rfl, ?_, q _ H2 (ok.trans e1 r2) (.str y)⟩
  have w1 : DGet H2 p (kV (.inr z)) (valV (mergeK [] [((.inr k1 : Key), V.str v1), (.inr k2, .str v2), (.inr k3, .str v3)]) (.inr z)) := DGet.k (hst r2 upd_same)
  rw [hz] at w1
  exact w1
end
/-! The law's game: _law_mine. -/
section
variable {P : Program} {w : World} {K : PySem.W.Frag} {mg : Str → Option Value} {base : Heap}
def rMine (K : PySem.W.Frag) (rs : List SV) (H : Hp) (r : SV) : Prop := ∃ (a : Addr) (b : Bk) (p o : Int × Int) (j : Nat) (z : Str), rs = [.v (.ref a), .d (plD p), .d (plD o), .d (.str z)] ∧ MAt K H a b ∧ BkOk b ∧ resN[j]? = some z ∧ r = .d (plD (mineM b p o j))
theorem ok_zmine (T : Tx K mg) : CallOk P w K mg base "_law_mine" 4 (SpR K (rMine K)) := by
  have C1 := ok_zgame (P := P) (w := w) (base := base) T
  obtain ⟨fd, F⟩ := D_zmine T
  refine call_of F (fn_pure F sc_zmine (fun rs H r ⟨_, _, _, _, _, _, e, _⟩ => by rw [e]; rfl) ?_) (g_zmine T) (fun _ _ _ _ _ _ us hl => match us, hl with | [_, _, _, _], _ => rfl)
  rintro cdv A outer s H E Q rs r hr ⟨a, b, p, o, j, z, rfl, hb, hk, hz, rfl⟩ ok hQ
  have hB : ∀ H', Ex H H' → MAt K H' a b := fun H' e => hb.ex e
  have hj : j < 3 := (List.getElem?_eq_some_iff.mp hz).1
  have hst : ∀ {H1 H2 : Hp} {c kvs}, Ex H1 H2 → H1 c = some (.dK kvs) → H2 c = some (.dK kvs) := fun e h => e _ _ h
  refine bd_ifr ok (tv_ge ok (x := p.1) (y := o.1) (ev_ixT ok (xs := [.int p.1, .int p.2]) (by walk_at "ev") (ev_int ok) (atI_get (n := 0) rfl) (fun _ _ => rfl)) (ev_ixT ok (xs := [.int o.1, .int o.2]) (by walk_at "ev") (ev_int ok) (atI_get (n := 0) rfl) (fun _ _ => rfl))) (fun h => ?_) (fun h => ?_)
  · have hle := of_decide_eq_true h
    obtain ⟨y, hy⟩ : ∃ y, names3[j]? = some y := ⟨_, List.getElem?_eq_getElem (by exact hj)⟩
    have hM : mineM b p o j = (match gameM b p o j with | none => p | some q => q.1) := by
      unfold mineM
      rw [if_pos hle] <;> (cases gameM b p o j <;> rfl)
    refine bd_asg ok 4 (r := .d (gameD (gameM b p o j))) rfl (ev_call ok C1 (Nat.le_of_ble_eq_true rfl) (ea_cons ok (by walk_at "ev") (ea_cons ok (by walk_at "ev") (ea_two ok (by walk_at "ev") (ev_disp3 ok (y := y) (fun H1 => have okz := ok.at_ H1; by walk_at "ev") hst (by match j, hj, hz, hy with | 0, _, h1, h2 => cases h1; cases h2; rfl | 1, _, h1, h2 => cases h1; cases h2; rfl | 2, _, h1, h2 => cases h1; cases h2; rfl))))) fun H' e => ⟨a, b, p, o, j, y, rfl, hB H' e, hk, hle, hy, rfl⟩) ?_
    cases hg : gameM b p o j with
    | none =>
      rw [hg] at hM
      exact bd_retC ok hQ (ev_ifR ok (b := true) (r := .d (plD p)) (tv_isN ok (x := .none) (by walk_at "ev")) (fun _ => by walk_at "ev") (fun h => by cases h)) (by rw [hM])
    | some q =>
      rw [hg] at hM
      exact bd_retC ok hQ (ev_ifR ok (b := false) (r := .d (plD q.1)) (tv_isN ok (x := .tuple [plD q.1, plD q.2]) (by walk_at "ev")) (fun h => by cases h) (fun _ => ev_ixT ok (xs := [plD q.1, plD q.2]) (by walk_at "ev") (ev_int ok) (atI_get (n := 0) rfl) (fun _ _ => rfl))) (by rw [hM])
  · have hle := of_decide_eq_false h
    obtain ⟨y, hy⟩ : ∃ y, names3[2 - j]? = some y := ⟨_, List.getElem?_eq_getElem (by show 2 - j < 3; omega)⟩
    have hM : mineM b p o j = (match gameM b o p (2 - j) with | none => p | some q => q.2) := by
      unfold mineM
      rw [if_neg hle] <;> (cases gameM b o p (2 - j) <;> rfl)
    refine bd_asg ok 4 (r := .d (gameD (gameM b o p (2 - j)))) rfl (ev_call ok C1 (Nat.le_of_ble_eq_true rfl) (ea_cons ok (by walk_at "ev") (ea_cons ok (by walk_at "ev") (ea_two ok (by walk_at "ev") (ev_disp3 ok (y := y) (fun H1 => have okz := ok.at_ H1; by walk_at "ev") hst (by match j, hj, hz, hy with | 0, _, h1, h2 => cases h1; cases h2; rfl | 1, _, h1, h2 => cases h1; cases h2; rfl | 2, _, h1, h2 => cases h1; cases h2; rfl))))) fun H' e => ⟨a, b, o, p, 2 - j, y, rfl, hB H' e, hk, by omega, hy, rfl⟩) ?_
    cases hg : gameM b o p (2 - j) with
    | none =>
      rw [hg] at hM
      exact bd_retC ok hQ (ev_ifR ok (b := true) (r := .d (plD p)) (tv_isN ok (x := .none) (by walk_at "ev")) (fun _ => by walk_at "ev") (fun h => by cases h)) (by rw [hM])
    | some q =>
      rw [hg] at hM
      exact bd_retC ok hQ (ev_ifR ok (b := false) (r := .d (plD q.2)) (tv_isN ok (x := .tuple [plD q.1, plD q.2]) (by walk_at "ev")) (fun h => by cases h) (fun _ => ev_ixT ok (xs := [plD q.1, plD q.2]) (by walk_at "ev") (ev_int ok) (atI_get (n := 1) rfl) (fun _ _ => rfl))) (by rw [hM])
end
/-! The law's chances: _law_chance. -/
theorem half_eq {f : Fr} (h : OkF f) : norm (f.2 - f.1) (2 * f.2) = halfF f := by
  have hp := h.pos
  have h1 : OkF (1, 1) := okI 1
  have h2 : OkF (1, 2) := ⟨by show (0 : Int) < 2; decide, by decide⟩
  refine val_inj (norm_ok (by omega)) (mul_ok (less_ok h1 h) h2) ?_
  unfold halfF
  rw [val_norm (by omega), val_mul (less_ok h1 h) h2, val_less h1 h, valI]
  have hne := h.ne
  show ((f.2 - f.1 : Int) : Rat) / ((2 * f.2 : Int) : Rat) = (((1 : Int) : Rat) - (f.1 : Rat) / (f.2 : Rat)) * (((1 : Int) : Rat) / ((2 : Int) : Rat))
  rw [Rat.intCast_sub, Rat.intCast_mul, show ((1 : Int) : Rat) = 1 from rfl, show ((2 : Int) : Rat) = 2 from rfl]
  grind
section
variable {P : Program} {w : World} {K : PySem.W.Frag} {mg : Str → Option Value} {base : Heap}
def rChance (rs : List SV) (_ : Hp) (r : SV) : Prop := ∃ (rows : List Cw) (s o : Int), rs = [.d (.list (rows.map cwD)), .d (.int s), .d (.int o)] ∧ CcOk rows ∧ r = .d (.tuple ((chM rows s o).map pr))
theorem ok_zchance (T : Tx K mg) : CallOk P w K mg base "_law_chance" 2 (SpR K rChance) := by
  have C1 := ok_zsmall (P := P) (w := w) (base := base) T
  obtain ⟨fd, F⟩ := D_zchance T
  refine call_of F (fn_pure F sc_zchance (fun rs H r ⟨_, _, _, e, _⟩ => by rw [e]; rfl) ?_) (g_zchance T) (fun _ _ _ _ _ _ us hl => match us, hl with | [_, _, _], _ => rfl)
  rintro cdv A outer st H E Q rs r hr ⟨rows, s, o, rfl, hk, rfl⟩ ok hQ
  have ha0 : 0 ≤ absI (s - o) := by unfold absI; split <;> omega
  obtain ⟨x, hx⟩ := cwAt_some hk ha0
  have hxo := hk.all x (cwAt_mem hx)
  have hlen := hk.len1
  have hM : chM rows s o = if s = o then [halfF x.f1, x.f1, halfF x.f1] else if o < s then [x.f0, x.f1, x.f2] else [x.f2, x.f1, x.f0] := by
    unfold chM
    rw [hx]
  have h1 := hxo.fs x.f1 (by simp [Cw.fs])
  refine bd_asg ok 3 (r := .d (cwD x)) rfl (ev_ixL ok (ev_ld ok (ev_lc1M ok 3 rows cwD cwD (fun r => decide (r.b ≤ absI (s - o))) rfl (iv_listM ok (by walk_at "ev")) (by omega) fun H1 r1 okb b hb => ⟨pv_one okb (tv_le okb (cx_b okb (x := b) (by walk_at "ev")) (ev_abs okb (b_abs T) (by walk_at "ev"))), fun _ => ⟨by walk_at "ev", noL_cwD b⟩⟩)) (ev_neg ok (ev_int ok)) (atI_last (x := cwD x) ?_) (fun _ _ => rfl)) ?_
  · rw [List.getLast?_map, show (rows.filter fun r => decide (r.b ≤ absI (s - o))).getLast? = some x from hx]
    rfl
  refine bd_ifr ok (tv_eqI ok (by walk_at "ev") (by walk_at "ev")) (fun h => ?_) (fun h => ?_)
  · have h := of_decide_eq_true h
    have p1 := h1.ok.pos
    have sm := h1.sm
    have m1 : CMul 2 x.f1.2 := .inr ⟨by omega, by omega⟩
    refine bd_asg ok 4 (r := .d (pr (halfF x.f1))) rfl ((ev_call ok C1 (Nat.le_of_ble_eq_true rfl) (ea_two ok (r := .d (.int (x.f1.2 - x.f1.1))) (s := .d (.int (2 * x.f1.2))) (ev_sub ok (ev_ixT ok (xs := [.int x.f1.1, .int x.f1.2]) (cx_f ok (n := 1) (f := x.f1) (by walk_at "ev") rfl) (ev_int ok) (atI_get (n := 1) rfl) (fun _ _ => rfl)) (ev_ixT ok (xs := [.int x.f1.1, .int x.f1.2]) (cx_f ok (n := 1) (f := x.f1) (by walk_at "ev") rfl) (ev_int ok) (atI_get (n := 0) rfl) (fun _ _ => rfl)))
      (ev_mul ok (ev_int ok) (ev_ixT ok (xs := [.int x.f1.1, .int x.f1.2]) (cx_f ok (n := 1) (f := x.f1) (by walk_at "ev") rfl) (ev_int ok) (atI_get (n := 1) rfl) (fun _ _ => rfl)) m1)) fun _ _ => ⟨x.f1.2 - x.f1.1, 2 * x.f1.2, rfl, by omega, by omega, rfl⟩).cast (by rw [half_eq h1.ok])) ?_
    refine bd_retC ok hQ (ev_tup3 ok (x := pr (halfF x.f1)) (y := pr x.f1) (z := pr (halfF x.f1)) (by walk_at "ev") (cx_f ok (n := 1) (f := x.f1) (by walk_at "ev") rfl) (by walk_at "ev")) ?_
    rw [hM, if_pos h]
    rfl
  · have h := of_decide_eq_false h
    refine bd_retC ok hQ (ev_if ok (tv_gt ok (by walk_at "ev") (by walk_at "ev")) (ev_tup3 ok (cx_f ok (n := 0) (f := x.f0) (by walk_at "ev") rfl) (cx_f ok (n := 1) (f := x.f1) (by walk_at "ev") rfl) (cx_f ok (n := 2) (f := x.f2) (by walk_at "ev") rfl)) (ev_tup3 ok (cx_f ok (n := 2) (f := x.f2) (by walk_at "ev") rfl) (cx_f ok (n := 1) (f := x.f1) (by walk_at "ev") rfl) (cx_f ok (n := 0) (f := x.f0) (by walk_at "ev") rfl))) ?_
    rw [hM, if_neg h]
    by_cases h2 : o < s
    · rw [if_pos h2, if_pos (decide_eq_true h2)]
      rfl
    · rw [if_neg h2, if_neg (by rw [decide_eq_false h2]; decide)]
      rfl
end
/-! zip of a tuple and a list. -/
def ItTL (K : PySem.W.Frag) (a b : Addr) (xs ys : List V) : It :=
  ⟨fun i H => i < min xs.length ys.length ∧ SqT K H a xs ∧ SqL K H b ys,
    fun i H v H' => ∃ T x z, v = .ref T ∧ H T = none ∧ H' = upd H T (.tup [x, z]) ∧ xs[i]? = some x ∧ ys[i]? = some z,
    fun i H => i = min xs.length ys.length ∧ SqT K H a xs ∧ SqL K H b ys⟩
theorem turn_TL {P : Program} {w : World} {K : PySem.W.Frag} {elts : List Expr} {kk : Nat} {tpos : Pos} {a b z TI TO i1 i2 : Addr} {xs ys : List V} (S : ZipSep2 z TI TO i1 i2 [i1, a] [i2, b]) (ha : a ≠ i1) (hb : b ≠ i2) :
    Turn P w K (.Tuple elts kk tpos) (ItTL K a b xs ys) [z, TI, TO, i1, i2] z (fun i h => IsZip h z TI TO .none ∧ IsTupOf2 h TI (.ref i1) (.ref i2) ∧ (∃ a1 a2, IsTupOf2 h TO a1 a2) ∧ h.IsTupleIter i1 a i ∧ h.IsListIter i2 b i) where
  mem := List.mem_cons_self
  obj := fun i h ⟨hz, hTI, ⟨a1, a2, hTO⟩, h1, h2⟩ c hc => by
    simp only [List.mem_cons, List.not_mem_nil, or_false] at hc
    rcases hc with rfl | rfl | rfl | rfl | rfl
    · exact ⟨_, hz, fun v q => nomatch q⟩
    · exact ⟨_, hTI, fun v q => nomatch q⟩
    · exact ⟨_, hTO, fun v q => nomatch q⟩
    · obtain ⟨o1, e1, _, d1⟩ := h1
      exact ⟨o1, e1, fun v q => by rw [d1] at q; cases q⟩
    · obtain ⟨o2, e2, _, d2⟩ := h2
      exact ⟨o2, e2, fun v q => by rw [d2] at q; cases q⟩
  keep := fun i h h' ⟨hz, hTI, ⟨a1, a2, hTO⟩, h1, h2⟩ k => ⟨k z (by simp) _ hz, k TI (by simp) _ hTI, ⟨a1, a2, k TO (by simp) _ hTO⟩, h1.at fun o q => k i1 (by simp) o q, h2.at fun o q => k i2 (by simp) o q⟩
  item := by
    intro X hP hw hK hc i pl s σ H E I hf st ⟨hi, hqx, hqy⟩
    subst hP hw hK
    obtain ⟨hz, hTI, hTO, h1, h2⟩ := st
    obtain ⟨us, rv, p1, _⟩ := I.tuple hqx
    obtain ⟨ws, rv2, p2, _⟩ := I.list hqy
    have l1 := rv.length
    have l2 := rv2.length
    have WT := WalksT.zipD2 S (Draws.tuple (prog := X.prog) (w := X.w) (A := X.A.in1) (I.ok.hd hc) i1 a ha us.toArray) (Draws.list (prog := X.prog) (w := X.w) (A := X.A.in1) (I.ok.hd hc) i2 b hb ws.toArray)
    refine WT.item i s _ E (by simp only [List.size_toArray]; omega) ⟨hz, hTI, hTO, ⟨h1, p1⟩, ⟨h2, p2.isList⟩⟩ fun T vals h' tk hv hT hTup hmid hk => ⟨.ref T, rfl, ?_⟩
    obtain ⟨x1, x2, e1, e2, rfl⟩ := hv
    refine WT.go elts kk tpos i T _ _ E hmid fun h'' hst hk2 => ?_
    obtain ⟨hz', hTI', hTO', ⟨h1', _⟩, ⟨h2', _⟩⟩ := hst
    obtain ⟨x, hx⟩ : ∃ x, xs[i]? = some x := ⟨_, List.getElem?_eq_getElem (by omega)⟩
    obtain ⟨y, hy⟩ : ∃ y, ys[i]? = some y := ⟨_, List.getElem?_eq_getElem (by omega)⟩
    obtain ⟨u, hu, ru⟩ := rv.get hx
    obtain ⟨u2, hu2, ru2⟩ := rv2.get hy
    have e1' : us[i]? = some x1 := by simpa using e1
    have e2' : ws[i]? = some x2 := by simpa using e2
    rw [hu] at e1'
    rw [hu2] at e2'
    obtain rfl := Option.some.inj e1'
    obtain rfl := Option.some.inj e2'
    have hTn : H T = none := I.hok.fresh hT
    have hTw : T ∉ [z, TO, i1, i2] := WT.apart i T h' hmid
    obtain ⟨ot, ht1, ht2, n, ht3⟩ := hTup
    have new : ObjOk X.prog X.w (upd H T (.tup [x, y])) h'' T (.tup [x, y]) := ⟨by show 2 ≤ sizeLine; decide, [u, u2], .cons ru (.cons ru2 .nil), ot, hk2 T ot hTw ht1, ht2, n, ht3⟩
    have sub : ∀ c, c ∉ [z, TI, TO, i1, i2] → c ∉ [z, TO, i1, i2] := fun c hn hm => hn (by simp only [List.mem_cons, List.not_mem_nil, or_false] at hm ⊢; rcases hm with h | h | h | h <;> simp [h])
    have I2 : Inv X pl σ (upd H T (.tup [x, y])) { s with heap := h'', toks := tk } := I.turnedNew (ch := [z, TI, TO, i1, i2]) (fun c oc hc e => hk2 c oc (sub c hc) (hk c oc (sub c hc) e)) hf hT new
    refine ⟨.ref T, _, I2, rfl, ⟨T, x, y, rfl, hTn, rfl, hx, hy⟩, ⟨hz', hTI', hTO', h1', h2'⟩, fun c hcm => ?_⟩
    have hlt : c < s.heap.objs.size := by
      simp only [List.mem_cons, List.not_mem_nil, or_false] at hcm
      rcases hcm with rfl | rfl | rfl | rfl | rfl
      · exact Heap.lt_size hz
      · exact Heap.lt_size hTI
      · obtain ⟨_, _, q⟩ := hTO; exact Heap.lt_size q
      · obtain ⟨_, q, _⟩ := h1; exact Heap.lt_size q
      · obtain ⟨_, q, _⟩ := h2; exact Heap.lt_size q
    rw [upd_ne (Nat.ne_of_lt (Nat.lt_of_lt_of_le hlt hT))]
    exact (hf c hcm).1
  done := by
    intro X hP hw hK hc i pl s σ H E I hf st ⟨hi, hqx, hqy⟩
    subst hP hw hK
    obtain ⟨hz, hTI, hTO, h1, h2⟩ := st
    obtain ⟨us, rv, p1, _⟩ := I.tuple hqx
    obtain ⟨ws, rv2, p2, _⟩ := I.list hqy
    have l1 := rv.length
    have l2 := rv2.length
    have WT := WalksT.zipD2 S (Draws.tuple (prog := X.prog) (w := X.w) (A := X.A.in1) (I.ok.hd hc) i1 a ha us.toArray) (Draws.list (prog := X.prog) (w := X.w) (A := X.A.in1) (I.ok.hd hc) i2 b hb ws.toArray)
    have ei : i = min us.toArray.size ws.toArray.size := by simp only [List.size_toArray]; omega
    have sub : ∀ c, c ∉ [z, TI, TO, i1, i2] → c ∉ [z, TO, i1, i2] := fun c hn hm => hn (by simp only [List.mem_cons, List.not_mem_nil, or_false] at hm ⊢; rcases hm with h | h | h | h <;> simp [h])
    refine WT.done s _ E ⟨hz, hTI, hTO, ⟨by rw [← ei]; exact h1, p1⟩, ⟨by rw [← ei]; exact h2, p2.isList⟩⟩ fun h' tk hk => ⟨rfl, ?_⟩
    exact I.turnedL (ch := [z, TI, TO, i1, i2]) (fun c oc hc e => hk c oc (sub c hc) e) hf
  self := fun A i s Q E st h => wpAny_pyIter_zip st.1 h
/-! zip of a tuple and a list: what a for walks. -/
def iZipTL (K : PySem.W.Frag) (ta : TA) : TI := fun σ H R => ta σ H fun vs H1 => ∃ a b xs ys, vs = [.ref a, .ref b] ∧ SqT K H1 a xs ∧ SqL K H1 b ys ∧ R (ItTL K a b xs ys) H1
theorem pi_zipTL {X : Cx} {e e2 : Expr} {ta : TA} {p pos tpos : Pos} {elts : List Expr} {kk : Nat} (hg : Gl X "zip") (hm : X.mg "zip" = none) (ha : PA X [e, e2] ta)
    (hsp : starEach [e, e2] X.env = (false, eval e X.env) :: starEach [e2] X.env := by rfl) (hpl : (backTo pos (starEach [e2] X.env)).any (·.1) = false := by rfl) :
    PI X (.Tuple elts kk tpos) (.Call (.Name "zip" p) [e, e2] [] pos) (iZipTL X.K ta) := by
  refine ⟨fun pins st σ H R Iv hh => Call_ (ld_blt Iv hg hm PyProof.Rows.boot_zip (PyProof.Rows.callWith_type1 (thn (ha.run pos pins st σ H _ Iv hh) fun us s1 z => ?_) hsp hpl))⟩
  obtain ⟨vs, H1, I1, r1, a, b, xs, ys, ex, hqx, hqy, q⟩ := z
  subst ex
  cases r1 with
  | cons ra rr =>
    cases rr with
    | cons rb rr =>
      cases rr
      cases ra
      cases rb
      obtain ⟨ia, va, pa, _⟩ := I1.tuple hqx
      obtain ⟨ib, vb, pb, _⟩ := I1.list hqy
      obtain ⟨oa, hoa, _⟩ := id pa
      have la : a < s1.heap.objs.size := Heap.lt_size hoa
      have lb : b < s1.heap.objs.size := pb.lt
      have fr : ∀ c, c ∈ [s1.heap.objs.size + 4, s1.heap.objs.size + 2, s1.heap.objs.size + 3, s1.heap.objs.size, s1.heap.objs.size + 1] → FpOk X pins H1 c := fun c hcm => by
        have hle : s1.heap.objs.size ≤ c := by
          simp only [List.mem_cons, List.not_mem_nil, or_false] at hcm
          omega
        exact I1.fpOk hle (I1.hok.fresh hle)
      refine zip_begins2 (begins_tuple a ia.toArray) (begins_list b ib.toArray) pa pb.isList fun h' hz hTI hTO h1 h2 hsz hk => wpAny_pyIter_zip hz ?_
      have I2 : Inv X pins σ H1 { s1 with heap := h' } := I1.kept (t' := s1.toks) hk
      have S : ZipSep2 (s1.heap.objs.size + 4) (s1.heap.objs.size + 2) (s1.heap.objs.size + 3) s1.heap.objs.size (s1.heap.objs.size + 1) [s1.heap.objs.size, a] [s1.heap.objs.size + 1, b] := zip_sep2 (fp1 := [a]) (fp2 := [b]) (by simpa using la) (by simpa using lb)
      exact ⟨s1.heap.objs.size + 4, [s1.heap.objs.size + 4, s1.heap.objs.size + 2, s1.heap.objs.size + 3, s1.heap.objs.size, s1.heap.objs.size + 1], _, _, H1, rfl, I2, turn_TL S (Nat.ne_of_lt la) (Nat.ne_of_lt (Nat.lt_succ_of_lt lb)), ⟨hz, hTI, ⟨_, _, hTO⟩, ⟨_, h1, rfl, rfl⟩, ⟨_, h2, rfl, rfl⟩⟩, fr, q⟩
theorem walk_TL {K : PySem.W.Frag} {a b : Addr} {xs ys : List V} : Walk (ItTL K a b xs ys) (min xs.length ys.length) (fun H => SqT K H a xs ∧ SqL K H b ys) (YPair (fun i => xs[i]?) (fun i => ys[i]?)) :=
  ⟨fun i _ hi q => ⟨hi, q.1, q.2⟩, fun _ q => ⟨rfl, q.1, q.2⟩, fun i H v H' _ q y => y⟩
section
variable {ι : Type} {m : Mo ι} {ds : Sd} {pos : Pos}
theorem iv_zipTL (ok : m.Ok) {e f : Expr} {xs ys : List PyData} {p tpos : Pos} {elts : List Expr} {kk : Nat} (hm : m.S.mg "zip" = none) (h : EV m ds e (.d (.tuple xs))) (h' : EV m ds f (.d (.list ys))) (hg : ∀ i, Gl (m.F i) "zip" := by intro _; rfl)
    (he : ∀ i, starEach [e, f] (m.F i).env = (false, eval e (m.F i).env) :: starEach [f] (m.F i).env := by intro _; rfl) (he2 : ∀ i, starEach [f] (m.F i).env = (false, eval f (m.F i).env) :: starEach [] (m.F i).env := by intro _; rfl) (hpl : ∀ i, (backTo pos (starEach [f] (m.F i).env)).any (·.1) = false := by intro _; rfl) :
    IV m ds (.Tuple elts kk tpos) (.Call (.Name "zip" p) [e, f] [] pos) (min xs.length ys.length) fun i => .tuple [xs.getD i .none, ys.getD i .none] := fun σ H hr hs Q q => by
  refine wI_of (t := iZipTL m.S.K (wA m.F [e, f])) (fun i => by rw [← ok.hK i]; exact pi_zipTL (hg i) (by rw [ok.hm i]; exact hm) (wA_ok i) (he i) (hpl i)) (ea_two ok h h' he he2 σ H hr hs _ fun vs H1 r1 q1 => ?_)
  obtain ⟨v, v', rfl, d, d'⟩ := dqa2 q1
  obtain ⟨a, us, rfl, hq, hv⟩ := Dp.tup_inv d
  obtain ⟨b, ws, rfl, hq', hv'⟩ := Dp.lst_inv d'
  refine ⟨a, b, us, ws, rfl, hq, hq', q _ H1 (fun H => SqT m.S.K H a us ∧ SqL m.S.K H b ws) r1 (fun H2 r2 => ⟨ok.st_ r2 hq, ok.sl_ r2 hq'⟩) ?_⟩
  have w := walk_TL (K := m.S.K) (a := a) (b := b) (xs := us) (ys := ws)
  rw [dpa_len hv, dpa_len hv'] at w
  exact w.mono (fun _ z => z) fun i H v H' hi _ y => pair_dp ok hv hv' y
end
/-! The law's best: _law_best. -/
def oAt (os : List Opp) (i : Nat) : Opp := os.getD i ((0, 0), 0)
theorem oAt_some {os : List Opp} {i : Nat} {o : Opp} (h : os[i]? = some o) : oAt os i = o := by
  unfold oAt
  rw [List.getD_eq_getElem?_getD, h]
  rfl
section
variable {P : Program} {w : World} {K : PySem.W.Frag} {mg : Str → Option Value} {base : Heap}
def rBestL (K : PySem.W.Frag) (n : Nat) (rs : List SV) (H : Hp) (r : SV) : Prop := ∃ (a : Addr) (b : Bk) (rows : List Cw) (s : Int) (os : List Opp) (L : Int) (N : Nat) (p : Int × Int), rs = [.v (.ref a), .d (.list (rows.map cwD)), .d (.int s), .d (.list (os.map oppD)), .d (plD p), .d (.int n)] ∧ MAt K H a b ∧ Rk b rows s os L N ∧ n ≤ N ∧ os.length ≤ 3 ∧ InBk b p ∧ r = .d (pr (bestM b rows s os n p).1)
theorem ok_zbest_of (T : Tx K mg) (n k : Nat) (hk : 4 ≤ k) (hrec : ∀ n', n = n' + 1 → CallOk P w K mg base "_law_best" k (SpR K (rBestL K n'))) : CallOk P w K mg base "_law_best" (k + 1) (SpR K (rBestL K n)) := by
  have C1 := ok_zchance (P := P) (w := w) (base := base) T
  have C2 := ok_zmine (P := P) (w := w) (base := base) T
  have C3 := ok_zplus (P := P) (w := w) (base := base) T
  have C4 := ok_ztimes (P := P) (w := w) (base := base) T
  have C5 := ok_zover (P := P) (w := w) (base := base) T
  obtain ⟨fd, F⟩ := D_zbest T
  refine call_of F (fn_pure F sc_zbest (fun rs H r ⟨_, _, _, _, _, _, _, _, e, _⟩ => by rw [e]; rfl) ?_) (g_zbest T) (fun _ _ _ _ _ _ us hl => match us, hl with | [_, _, _, _, _, _], _ => rfl)
  rintro cdv A outer st H E Q rs r hr ⟨a, b, rows, s, os, L, N, p, rfl, hm, rk, hn, hos, hp, rfl⟩ ok hQ
  have hB : ∀ H', Ex H H' → MAt K H' a b := fun H' e => hm.ex e
  refine bd_asg ok 6 (r := .d (pr (p.1, 1))) rfl (ev_tup2 ok (x := .int p.1) (y := .int 1) (ev_ixT ok (xs := [.int p.1, .int p.2]) (by walk_at "ev") (ev_int ok) (atI_get (n := 0) rfl) (fun _ _ => rfl)) (ev_int ok)) ?_
  obtain ⟨kk, hkk⟩ : ∃ kk : Nat, kk = if n = 0 then 0 else 3 := ⟨_, rfl⟩
  have hkI : (3 : Int) * b2z (decide (0 < (n : Int))) = (kk : Int) := by
    rw [hkk]
    unfold b2z
    by_cases h : n = 0
    · subst h; rfl
    · rw [if_pos (decide_eq_true (by omega)), if_neg h]; rfl
  have hacc0 : accM b rows s os p n 0 = ((p.1, 1), none) := by cases n <;> rfl
  have htk : n ≠ 0 → os.take kk = os := fun h => by
    rw [hkk, if_neg h]
    exact List.take_of_length_le hos
  refine bd_for2 ok 7 8 (n := (os.take kk).length) (Y := fun i => plD (oAt os i).1) (Z := fun i => .int (oAt os i).2) rfl rfl ((iv_listM ok (xs := os.take kk) (enc := oppD) ((ev_takeL ok (xs := os.map oppD) (k := kk) (by walk_at "ev") ((ev_mul ok (ev_int ok) (ev_intB ok (b_int T) (by walk_at "ev")) (.inl ⟨by decide, by decide⟩)).cast (by rw [hkI]))).cast (by rw [List.map_take]))).cast fun i hi => ?_)
    (fun j ds' => ∃ q7 q8 q9 q10 q11 q12, ds' = [some (.v (.ref a)), some (.d (.list (rows.map cwD))), some (.d (.int s)), some (.d (.list (os.map oppD))), some (.d (plD p)), some (.d (.int n)), some (.d (pr (accM b rows s os p n j).1)), q7, q8, q9, q10, q11, q12]) ⟨none, none, none, none, none, none, by rw [hacc0]; rfl⟩ ?_ ?_ (fun v σ H r r' Q d q => wG_two ok 7 8 rfl rfl d q)
  · have ho : (os.take kk)[i]? = some (os.take kk)[i] := List.getElem?_eq_getElem hi
    have ho2 : os[i]? = some (os.take kk)[i] := by
      rw [List.getElem?_take] at ho
      split at ho
      · exact ho
      · cases ho
    rw [getD_map ho, oAt_some ho2]
    rfl
  · rintro H1 r1 ok1 j _ hj ⟨q7, q8, q9, q10, q11, q12, rfl⟩
    have hn0 : n ≠ 0 := fun h => by
      rw [hkk, if_pos h] at hj
      simp at hj
    obtain ⟨n', rfl⟩ : ∃ n', n = n' + 1 := ⟨n - 1, by omega⟩
    rw [htk hn0] at hj
    obtain ⟨o, ho⟩ : ∃ o, os[j]? = some o := ⟨_, List.getElem?_eq_getElem hj⟩
    have hom := List.mem_of_getElem? ho
    obtain ⟨oi1, oi2, oi3⟩ := rk.op.all o hom
    rw [oAt_some ho]
    let es := endsM b rows p s o.1 o.2
    have hel : es.length = 3 := by
      show ((chM rows s o.2).zip [_, _, _]).length = 3
      rw [List.length_zip, chM_len rk.cc]
      rfl
    have hB1 : ∀ H', Ex H1 H' → MAt K H' a b := fun H' e => hB H' (r1.trans e)
    refine bd_asg ok1 9 (r := .d (pr (0, 1))) rfl (ev_tup2 ok1 (x := .int 0) (y := .int 1) (ev_int ok1) (ev_int ok1)) ?_
    refine bd_for2 ok1 10 11 (n := 3) (Y := fun i => ((chM rows s o.2).map pr).getD i .none) (Z := fun i => ((["win", "draw", "loss"] : List Str).map PyData.str).getD i .none) rfl rfl ((iv_zipTL ok1 (b_zip T) (ev_call ok1 C1 (Nat.le_trans (by decide) hk) (ea_cons ok1 (by walk_at "ev") (ea_two ok1 (by walk_at "ev") (by walk_at "ev"))) fun H' e => ⟨rows, s, o.2, rfl, rk.cc, rfl⟩) (ev_lst ok1 (xs := (["win", "draw", "loss"] : List Str).map PyData.str) (ea_cons ok1 (ev_str ok1) (ea_two ok1 (ev_str ok1) (ev_str ok1))) (by decide))).len (by rw [List.length_map, chM_len rk.cc]; rfl))
      (fun i ds' => ∃ q10 q11 q12, ds' = [some (.v (.ref a)), some (.d (.list (rows.map cwD))), some (.d (.int s)), some (.d (.list (os.map oppD))), some (.d (plD p)), some (.d (.int ((n' + 1 : Nat) : Int))), some (.d (pr (accM b rows s os p (n' + 1) j).1)), some (.d (plD o.1)), some (.d (.int o.2)), some (.d (pr (meanM (fun q => (bestM b rows s os n' q).1) (es.take i)))), q10, q11, q12]) ⟨q10, q11, q12, rfl⟩ ?_ ?_ (fun v σ H r r' Q d q => wG_two ok1 10 11 rfl rfl d q)
    · rintro H2 r2 ok2 i _ hi ⟨q10, q11, q12, rfl⟩
      obtain ⟨e, he⟩ : ∃ e, es[i]? = some e := ⟨_, List.getElem?_eq_getElem (by omega)⟩
      obtain ⟨m1, m2⟩ := ends_mem rk.bk hp oi1 (List.mem_of_getElem? he)
      obtain ⟨c1, c2, c3, c4⟩ := rk.ch o hom e.1 m1
      obtain ⟨v1, v2⟩ := best_bd rk n' e.2 m2
      obtain ⟨t1, t2⟩ := mean_part (n := n') rk hp hom i
      obtain ⟨y, hy⟩ : ∃ y, resN[i]? = some y := ⟨_, List.getElem?_eq_getElem (by exact hi)⟩
      have hz := List.getElem?_zip_eq_some.mp (show ((chM rows s o.2).zip [mineM b p o.1 0, mineM b p o.1 1, mineM b p o.1 2])[i]? = some e from he)
      have he2 : e.2 = mineM b p o.1 i := by
        have h2 := hz.2
        match i, hi, h2 with
        | 0, _, h => exact (Option.some.inj h).symm
        | 1, _, h => exact (Option.some.inj h).symm
        | 2, _, h => exact (Option.some.inj h).symm
      rw [getD_map hz.1, show ((["win", "draw", "loss"] : List Str).map PyData.str).getD i .none = .str y from getD_map hy]
      have step : meanM (fun q => (bestM b rows s os n' q).1) (es.take (i + 1)) = if e.1 = (0, 1) then meanM (fun q => (bestM b rows s os n' q).1) (es.take i) else addF (meanM (fun q => (bestM b rows s os n' q).1) (es.take i)) (mulF e.1 (bestM b rows s os n' e.2).1) := by
        unfold meanM
        rw [List.take_add_one, he, List.foldl_append]
        rfl
      have lp : 0 < L ^ n' := Int.pow_pos rk.l0
      have lp1 : 0 < L ^ (n' + 1) := Int.pow_pos rk.l0
      have d1 : Dv (L ^ 1) (val e.1) := by rw [Int.pow_succ, Int.pow_zero, Int.one_mul]; exact dv_of_under c1 c4
      have dm : Dv (L ^ (n' + 1)) (val (mulF e.1 (bestM b rows s os n' e.2).1)) := by
        rw [val_mul c1 v1, show n' + 1 = 1 + n' from by omega, Int.pow_add]
        exact d1.mul v2
      have c5 : e.1.2 ≤ L := Int.le_of_dvd rk.l0 c4
      have l64 : L < 2 ^ 64 := by
        have h1 := pow_up rk.l0 (show 1 ≤ 2 * N by omega)
        have h2 := rk.ln
        rw [Int.pow_succ, Int.pow_zero, Int.one_mul] at h1
        omega
      have hB2 : ∀ H', Ex H2 H' → MAt K H' a b := fun H' e => hB1 H' (r2.trans e)
      refine bd_if ok2 (tv_ne ok2 (x := pr e.1) (y := pr (0, 1)) (by walk_at "ev") (ev_tup2 ok2 (x := .int 0) (y := .int 1) (ev_int ok2) (ev_int ok2)) rfl rfl) (fun h => ?_) (fun h => ?_)
      · rw [eqv_pr] at h
        have hne : ¬ e.1 = (0, 1) := by
          intro z
          rw [decide_eq_true z] at h
          cases h
        rw [if_neg hne] at step
        refine bd_asg ok2 12 (r := .d (pr (bestM b rows s os n' e.2).1)) rfl (ev_call ok2 (hrec n' rfl) (Nat.le_refl _) (ea_cons ok2 (by walk_at "ev") (ea_cons ok2 (by walk_at "ev") (ea_cons ok2 (by walk_at "ev") (ea_cons ok2 (by walk_at "ev") (ea_two ok2 (ev_call ok2 C2 (Nat.le_trans (by decide) hk) (ea_cons ok2 (by walk_at "ev") (ea_cons ok2 (by walk_at "ev") (ea_two ok2 (by walk_at "ev") (by walk_at "ev")))) fun H' e' => ⟨a, b, p, o.1, i, y, rfl, hB2 H' e', rk.bk, hy, by rw [← he2]⟩) ((ev_sub ok2 (by walk_at "ev") (ev_int ok2)).cast (by congr 2; omega)))))))
          fun H' e' => ⟨a, b, rows, s, os, L, N, e.2, rfl, hB2 H' e', rk, by omega, hos, m2, rfl⟩) ?_
        refine bd_asg ok2 9 (r := .d (pr (addF (meanM (fun q => (bestM b rows s os n' q).1) (es.take i)) (mulF e.1 (bestM b rows s os n' e.2).1)))) rfl (ev_call ok2 C3 (Nat.le_trans (by decide) hk) (ea_two ok2 (by walk_at "ev") (ev_call ok2 C4 (Nat.le_trans (by decide) hk) (ea_two ok2 (by walk_at "ev") (by walk_at "ev"))
          fun _ _ => ⟨e.1, (bestM b rows s os n' e.2).1, rfl, two_dv c1 v1 d1 v2 (by rw [Int.pow_succ, Int.pow_zero, Int.one_mul]; exact rk.l0) lp (rk.pw (by omega)), .inl ⟨by omega, by omega⟩, rfl⟩)) fun _ _ => ⟨_, _, rfl, two_dv t1 (mul_ok c1 v1) t2 dm lp1 lp1 (rk.pw (by omega)), rfl⟩) (bd_end ?_)
        refine bd_nil fun σ H' hr' hs' => ⟨_, hr', ⟨some (.d (pr e.1)), some (.d (.str y)), some (.d (pr (bestM b rows s os n' e.2).1)), ?_⟩, hs'⟩
        rw [step]
        rfl
      · rw [eqv_pr] at h
        have heq : e.1 = (0, 1) := by
          cases hd : decide (e.1 = (0, 1)) with
          | true => exact of_decide_eq_true hd
          | false => rw [hd] at h; cases h
        rw [if_pos heq] at step
        refine bd_end (bd_nil fun σ H' hr' hs' => ⟨_, hr', ⟨some (.d (pr e.1)), some (.d (.str y)), q12, ?_⟩, hs'⟩)
        rw [step]
        rfl
    · rintro _ ⟨q10, q11, q12, rfl⟩
      have hfin : meanM (fun q => (bestM b rows s os n' q).1) (es.take 3) = fM b rows s os n' p o := by
        rw [List.take_of_length_le (by omega)]
        rfl
      rw [hfin]
      have f12 := mean_part (n := n') rk hp hom es.length
      rw [List.take_length] at f12
      obtain ⟨f1, f2⟩ := f12
      obtain ⟨a1, a2⟩ := pick_part (n := n') rk hp j
      have lp1 : 0 < L ^ (n' + 1) := Int.pow_pos rk.l0
      have step : accM b rows s os p (n' + 1) (j + 1) = if aboveF (fM b rows s os n' p o) (accM b rows s os p (n' + 1) j).1 = true then (fM b rows s os n' p o, some j) else accM b rows s os p (n' + 1) j := by
        show pickM (fM b rows s os n' p) (os.take (j + 1)) 0 ((p.1, 1), none) = _
        have lt : (os.take j).length = j := by rw [List.length_take]; omega
        rw [List.take_add_one, ho]
        show pickM (fM b rows s os n' p) (os.take j ++ [o]) 0 ((p.1, 1), none) = _
        rw [pick_snoc, lt, Nat.zero_add]
        rfl
      refine bd_asg ok1 6 (r := .d (pr (accM b rows s os p (n' + 1) (j + 1)).1)) rfl (ev_ifR ok1 (b := aboveF (fM b rows s os n' p o) (accM b rows s os p (n' + 1) j).1) (tv_val ok1 (ev_call ok1 C5 (Nat.le_trans (by decide) hk) (ea_two ok1 (by walk_at "ev") (by walk_at "ev")) fun _ _ => ⟨_, _, rfl, two_dv f1 a1 f2 a2 lp1 lp1 (rk.pw (by omega)), rfl⟩)) (fun h => by rw [step, if_pos h]; walk_at "ev") (fun h => by rw [step, if_neg (by rw [h]; decide)]; walk_at "ev")) (bd_nil fun σ H' hr' hs' => ⟨_, hr', ⟨_, _, _, _, _, _, rfl⟩, hs'⟩)
  · rintro _ ⟨q7, q8, q9, q10, q11, q12, rfl⟩
    have hacc : accM b rows s os p n (os.take kk).length = bestM b rows s os n p := by
      cases n with
      | zero => rfl
      | succ n' => rw [htk (by omega)]; exact accM_best b rows s os p (n' + 1)
    rw [hacc]
    exact bd_retC ok hQ (by walk_at "ev") rfl
theorem ok_zbest (T : Tx K mg) : ∀ n : Nat, CallOk P w K mg base "_law_best" (5 + n) (SpR K (rBestL K n))
  | 0 => ok_zbest_of T 0 4 (Nat.le_refl _) fun _ e => nomatch e
  | n + 1 => ok_zbest_of T (n + 1) (5 + n) (by omega) fun n' e => by
    obtain rfl : n = n' := by omega
    exact ok_zbest T n
end
/-! What is drawn: expressions of which only a property is told; the pool. -/
section
variable {ι : Type} {m : Mo ι} {ds : Sd} {pos : Pos}
def EP (m : Mo ι) (ds : Sd) (e : Expr) (P : SV → Prop) : Prop := EX m ds e fun v H => ∃ r, P r ∧ Dq m.S.K H v r
def EAP (m : Mo ι) (ds : Sd) (es : List Expr) (P : List SV → Prop) : Prop := ∀ σ H, m.R m.H0 H → Sl m.S.K H σ ds → ∀ Q : List V → Hp → Prop, (∀ vs H2 rs, m.R H H2 → P rs → DqAll m.S.K H2 vs rs → Q vs H2) → wA m.F es σ H Q
theorem EV.ep (_ : m.Ok) {e : Expr} {r : SV} {P : SV → Prop} (h : EV m ds e r) (hp : P r) : EP m ds e P := fun σ H hr hs Q k => h σ H hr hs Q fun v H2 r2 d => k v H2 r2 ⟨_, hp, d⟩
theorem EP.imp {e : Expr} {P P' : SV → Prop} (h : EP m ds e P) (q : ∀ r, P r → P' r) : EP m ds e P' := fun σ H hr hs Q k => h σ H hr hs Q fun v H2 r2 ⟨r, p, d⟩ => k v H2 r2 ⟨r, q r p, d⟩
theorem EA.eap {es : List Expr} {rs : List SV} {P : List SV → Prop} (h : EA m ds es rs) (hp : P rs) : EAP m ds es P := fun σ H hr hs Q k => h σ H hr hs Q fun vs H2 r2 d => k vs H2 rs r2 hp d
theorem eap_nil (ok : m.Ok) : EAP m ds [] (fun rs => rs = []) := fun σ H hr hs Q k => wA_of (fun _ => pa_nil) (k [] H [] (ok.refl H) rfl .nil)
theorem eap_cons (ok : m.Ok) {e : Expr} {es : List Expr} {P : SV → Prop} {P' : List SV → Prop} (h : EP m ds e P) (h' : EAP m ds es P') (hs : ∀ i, starEach (e :: es) (m.F i).env = (false, eval e (m.F i).env) :: starEach es (m.F i).env := by intro _; rfl) : EAP m ds (e :: es) (fun rs => ∃ r rs', rs = r :: rs' ∧ P r ∧ P' rs') := fun σ H hr hl Q k =>
  wA_of (fun i => pa_cons (wE_ok i) (wA_ok i) (hs i)) (h σ H hr hl _ fun v H1 r1 ⟨r, p1, d1⟩ => h' σ H1 (ok.trans hr r1) (ok.sl r1 hl) _ fun vs H2 rs r2 p2 d2 => k (v :: vs) H2 (r :: rs) (ok.trans r1 r2) ⟨r, rs, rfl, p1, p2⟩ (.cons (ok.dq r2 d1) d2))
theorem ep_tup (ok : m.Ok) {es : List Expr} {Ps : List SV → Prop} {P : SV → Prop} {kk : Nat} (h : EAP m ds es Ps) (hx : ∀ rs, Ps rs → ∃ xs : List PyData, rs = xs.map SV.d ∧ xs.length ≤ 100 ∧ P (.d (.tuple xs))) : EP m ds (.Tuple es kk pos) P := fun σ H hr hs Q k => by
  refine wE_of (fun i => pe_tup (wA_ok i)) (h σ H hr hs _ fun vs H1 rs r1 p1 q1 => ?_)
  obtain ⟨xs, rfl, hz, hp⟩ := hx rs p1
  have l := DqAll.length q1
  rw [List.length_map] at l
  refine ⟨Nat.le_trans (by omega : vs.length ≤ 100) (by decide), fun p np => ?_⟩
  have e := ok.new (o := HO.tup vs) np
  exact k _ _ (ok.trans r1 e) ⟨_, hp, .tup (SqT.of upd_same) (DqAll.dp (ok.dqs e q1))⟩
theorem ep_lstL (ok : m.Ok) {es : List Expr} {Ps : List SV → Prop} {P : SV → Prop} (h : EAP m ds es Ps) (hx : ∀ rs, Ps rs → ∃ xs : List PyData, rs = xs.map SV.d ∧ xs.length ≤ 100 ∧ P (.l xs)) : EP m ds (.List es pos) P := fun σ H hr hs Q k => by
  refine wE_of (fun i => pe_lst (wA_ok i)) (h σ H hr hs _ fun vs H1 rs r1 p1 q1 => ?_)
  obtain ⟨xs, rfl, hz, hp⟩ := hx rs p1
  have l := DqAll.length q1
  rw [List.length_map] at l
  refine ⟨Nat.le_trans (by omega : vs.length ≤ 100) (by decide), fun p np => ?_⟩
  have e := ok.new (o := HO.lst vs) np
  exact k _ _ (ok.trans r1 e) ⟨_, hp, p, vs, rfl, upd_same, DqAll.dp (ok.dqs e q1)⟩
/-- an int of which A holds -/
def isI (A : Int → Prop) (r : SV) : Prop := ∃ i, r = .d (.int i) ∧ A i
theorem ep_opI0 (ok : m.Ok) {a b : Expr} {op : Operator} {A B : Int → Prop} {g : Int → Int → Int} (ho : ∀ i, OpR (m.F i) (binaryOp op) (rI0 fun i j => .int (g i j))) (ha : EP m ds a (isI A)) (hb : EP m ds b (isI B)) :
    EP m ds (.BinOp a op b pos) (isI fun n => ∃ i j, A i ∧ B j ∧ n = g i j) := fun σ H hr hs Q k => by
  refine wE_op ok ho (ha σ H hr hs _ fun v H1 r1 ⟨_, ⟨i, e1, a1⟩, q1⟩ => hb σ H1 (ok.trans hr r1) (ok.sl r1 hs) _ fun u H2 r2 ⟨_, ⟨j, e2, b1⟩, q2⟩ => ?_)
  subst e1 e2
  rw [Dp.int_inv q1, Dp.int_inv q2]
  exact ⟨i, j, rfl, rfl, k _ H2 (ok.trans r1 r2) ⟨_, ⟨_, rfl, i, j, a1, b1, rfl⟩, .int _⟩⟩
theorem ep_add (ok : m.Ok) {a b : Expr} {A B : Int → Prop} (ha : EP m ds a (isI A)) (hb : EP m ds b (isI B)) : EP m ds (.BinOp a .Add b pos) (isI fun n => ∃ i j, A i ∧ B j ∧ n = i + j) := ep_opI0 ok (fun _ => op_add) ha hb
theorem ep_sub (ok : m.Ok) {a b : Expr} {A B : Int → Prop} (ha : EP m ds a (isI A)) (hb : EP m ds b (isI B)) : EP m ds (.BinOp a .Sub b pos) (isI fun n => ∃ i j, A i ∧ B j ∧ n = i - j) := ep_opI0 ok (fun _ => op_sub) ha hb
theorem ep_cat (ok : m.Ok) {a b : Expr} {A B : List PyData → Prop} (ha : EP m ds a (fun r => ∃ xs, r = .l xs ∧ A xs)) (hb : EP m ds b (fun r => ∃ ys, r = .l ys ∧ B ys)) (hz : ∀ xs ys, A xs → B ys → xs.length + ys.length ≤ 10000) : EP m ds (.BinOp a .Add b pos) (fun r => ∃ xs ys, r = .l (xs ++ ys) ∧ A xs ∧ B ys) := fun σ H hr hs Q q => by
  refine wE_op ok (r := rCat) (fun i => op_cat) (ha σ H hr hs _ fun v H1 r1 ⟨_, ⟨xs, e1, a1⟩, d1⟩ => hb σ H1 (ok.trans hr r1) (ok.sl r1 hs) _ fun v' H2 r2 ⟨_, ⟨ys, e2, b1⟩, d2⟩ => ?_)
  subst e1 e2
  obtain ⟨p, us, rfl, h1, h1'⟩ := ok.dq (r := .l xs) r2 d1
  obtain ⟨p', ws, rfl, h2, h2'⟩ := d2
  have l1 := dpa_len h1'
  have l2 := dpa_len h2'
  have l3 := hz xs ys a1 b1
  refine ⟨p, p', us, ws, rfl, rfl, h1, h2, Nat.le_trans (show us.length + ws.length ≤ 10000 by omega) (by decide), fun l nl => ?_⟩
  have e' := ok.new (o := HO.lst (us ++ ws)) nl
  exact q _ _ (ok.trans r1 (ok.trans r2 e')) ⟨_, ⟨xs, ys, rfl, a1, b1⟩, l, _, rfl, upd_same, dpa_app (ok.dpa e' h1') (ok.dpa e' h2')⟩
theorem ep_rep (ok : m.Ok) {a b : Expr} {A : List PyData → Prop} {B : Int → Prop} (ha : EP m ds a (fun r => ∃ xs, r = .l xs ∧ A xs)) (hb : EP m ds b (isI B)) (hA : ∀ xs, A xs → xs.length ≤ 10) (hB : ∀ i, B i → 0 ≤ i ∧ i ≤ 100) : EP m ds (.BinOp a .Mult b pos) (fun r => ∃ xs n, r = .l (List.replicate n xs).flatten ∧ A xs ∧ B (n : Nat)) := fun σ H hr hs Q q => by
  refine wE_op ok (r := rRep) (fun i => op_rep) (ha σ H hr hs _ fun v H1 r1 ⟨_, ⟨xs, e1, a1⟩, d1⟩ => hb σ H1 (ok.trans hr r1) (ok.sl r1 hs) _ fun v' H2 r2 ⟨_, ⟨i, e2, b1⟩, d2⟩ => ?_)
  subst e1 e2
  obtain ⟨b2, b3⟩ := hB i b1
  obtain ⟨n, rfl⟩ : ∃ n : Nat, i = n := ⟨i.toNat, by omega⟩
  obtain ⟨p, us, rfl, h1, h1'⟩ := ok.dq (r := .l xs) r2 d1
  have l1 := dpa_len h1'
  have l2 := hA xs a1
  refine ⟨p, n, us, rfl, Dp.int_inv d2, h1, by omega, by omega, ?_, fun l nl => ?_⟩
  · rw [Int.toNat_natCast]
    exact Nat.le_trans (Nat.mul_le_mul (show us.length ≤ 10 by omega) (show n ≤ 100 by omega)) (by decide)
  · rw [Int.toNat_natCast]
    have e' := ok.new (o := HO.lst (List.replicate n us).flatten) nl
    exact q _ _ (ok.trans r1 (ok.trans r2 e')) ⟨_, ⟨xs, n, rfl, a1, b1⟩, l, _, rfl, upd_same, dpa_rep (ok.dpa e' h1') n⟩
theorem ep_ixL (ok : m.Ok) {a b : Expr} {xs : List PyData} (ha : EV m ds a (.d (.list xs))) (hb : EP m ds b (isI fun k => 0 ≤ k ∧ k < xs.length)) (hp : PlainIx b) : EP m ds (.Subscript a b pos) (fun r => ∃ x, x ∈ xs ∧ r = .d x) := fun σ H hr hs Q k => by
  refine wE_of (t := tOp (rIxL m.S.K) (wE m.F a) (wE m.F b)) (fun i => pe_ix (by rw [← ok.hK i]; exact ix_list) (wE_ok i) (wE_ok i) hp) (ha σ H hr hs _ fun v H1 r1 q1 => hb σ H1 (ok.trans hr r1) (ok.sl r1 hs) _ fun u H2 r2 ⟨_, ⟨i, e2, b1, b2⟩, q2⟩ => ?_)
  subst e2
  obtain ⟨p, vs, e1, hq, hd⟩ := Dp.lst_inv (ok.dp r2 q1)
  obtain ⟨n, rfl⟩ : ∃ n : Nat, i = n := ⟨i.toNat, by omega⟩
  have hx : xs[n]? = some xs[n] := List.getElem?_eq_getElem (by omega)
  obtain ⟨z, hz, dz⟩ := dpa_at hd (atI_get hx)
  exact ⟨p, vs, n, z, e1, Dp.int_inv q2, hq, hz, k _ H2 (ok.trans r1 r2) ⟨_, ⟨_, List.getElem_mem (by omega), rfl⟩, dz⟩⟩
theorem ep_takeL (ok : m.Ok) {e hi : Expr} {xs : List PyData} {B : Int → Prop} {p2 : Pos} (h : EV m ds e (.d (.list xs))) (hl : EP m ds hi (isI B)) (hB : ∀ i, B i → 0 ≤ i) : EP m ds (.Subscript e (.Slice none (some hi) none p2) pos) (fun r => ∃ n : Nat, B n ∧ r = .d (.list (xs.take n))) := fun σ H hr hs Q q => by
  refine wE_of (t := tSl (rSlL m.S.K) (wE m.F e) tNoPart (tPart (wE m.F hi))) (fun i => pe_slice (by rw [← ok.hK i]; exact sl_list) (wE_ok i) po_none (po_some (wE_ok i))) (h σ H hr hs _ fun v H1 r1 q1 => hl σ H1 (ok.trans hr r1) (ok.sl r1 hs) _ fun u H2 r2 ⟨_, ⟨i, e2, b1⟩, q2⟩ => ?_)
  subst e2
  obtain ⟨n, rfl⟩ : ∃ n : Nat, i = n := ⟨i.toNat, by have := hB i b1; omega⟩
  refine ⟨n, Dp.int_inv q2, ?_⟩
  obtain ⟨a, vs, rfl, hq, hv⟩ := Dp.lst_inv (ok.dp r2 q1)
  refine ⟨a, vs, rfl, hq, fun p np => ?_⟩
  rw [cut_to]
  have e' := ok.new (o := HO.lst (vs.take n)) np
  exact q _ _ (ok.trans r1 (ok.trans r2 e')) ⟨_, ⟨n, b1, rfl⟩, .lst (SqL.of upd_same) (ok.dpa e' (dpa_take n hv))⟩
/-- a test of which nothing is told -/
def TP (m : Mo ι) (ds : Sd) (e : Expr) : Prop := ∀ σ H, m.R m.H0 H → Sl m.S.K H σ ds → ∀ Q : Bool → Hp → Prop, (∀ b H2, m.R H H2 → Q b H2) → wT m.F e σ H Q
theorem tp_eqI (ok : m.Ok) {a b : Expr} {A : Int → Prop} {y : Int} (ha : EP m ds a (isI A)) (hb : EV m ds b (.d (.int y))) : TP m ds (.Compare a [.Eq] [b] pos) := fun σ H hr hs Q k => by
  refine wT_cmp ok (r := rEqD m.S.K) (fun i => by rw [← ok.hK i]; exact op_eqD (ok.room i).units) (nomark _) (ha σ H hr hs _ fun v H1 r1 ⟨_, ⟨i, e1, _⟩, q1⟩ => hb σ H1 (ok.trans hr r1) (ok.sl r1 hs) _ fun u H2 r2 q2 => ?_)
  subst e1
  exact ⟨.int i, .int y, ok.dp r2 q1, q2, rfl, rfl, _, rfl, k _ H2 (ok.trans r1 r2)⟩
theorem bd_ifP (ok : m.Ok) {c : Expr} {as bs rest : List Stmt} {D : Ends} (h : TP m ds c) (h1 : BD m ds as { D with nx := fun σ H => wSs m.F rest D σ H }) (h2 : BD m ds bs { D with nx := fun σ H => wSs m.F rest D σ H }) : BD m ds (.If c as bs pos :: rest) D := fun σ H hr hs => by
  refine wSs_cons (wS_of (t := tIfS (wT m.F c) (wSs m.F as) (wSs m.F bs)) (fun i => ps_if (wT_ok i) (wSs_ok i) (wSs_ok i)) (h σ H hr hs _ fun b H1 r1 => ?_))
  cases b with
  | true =>
    rw [if_pos rfl]
    exact h1 σ H1 (ok.trans hr r1) (ok.sl r1 hs)
  | false =>
    rw [if_neg Bool.false_ne_true]
    exact h2 σ H1 (ok.trans hr r1) (ok.sl r1 hs)
theorem bd_asgP (ok : m.Ok) (j : Nat) {x : Str} {e : Expr} {P : SV → Prop} {rest : List Stmt} {D : Ends} {p : Pos} (hN : m.S.N[j]? = some x) (h : EP m ds e P) (q : ∀ r, P r → BD m (ds.set j (some r)) rest D)
    (hl : ∀ i, Loc (m.F i).env.scope x := by intro _; first | exact Or.inl rfl | exact Or.inr rfl) (hsw : ∀ i, swapsWith e (some (.Name x p)) pos.line (m.F i).env = pure false := by intro _; rfl)
    (hf : ∀ i, (m.F i).fn x = true ∨ (m.F i).env.scope.names.lookup x = some .local := by intro _; first | exact Or.inl rfl | exact Or.inr rfl) : BD m ds (.Assign [.Name x p] e pos :: rest) D :=
  bd_asgX ok j hN h (fun v H hr ⟨r, hp, d⟩ _ => ⟨r, d, (q r hp).at_ ok hr⟩) hl hsw hf
/-! #### arguments of which something is told -/
def EAX (m : Mo ι) (ds : Sd) (es : List Expr) (P : List V → Hp → Prop) : Prop := ∀ σ H, m.R m.H0 H → Sl m.S.K H σ ds → ∀ Q : List V → Hp → Prop, (∀ vs H2, m.R H H2 → P vs H2 → Q vs H2) → wA m.F es σ H Q
theorem eax_nil (ok : m.Ok) : EAX m ds [] (fun vs _ => vs = []) := fun σ H hr hs Q k => wA_of (fun _ => pa_nil) (k [] H (ok.refl H) rfl)
theorem eax_cons (ok : m.Ok) {e : Expr} {es : List Expr} {P : V → Hp → Prop} {P' : List V → Hp → Prop} (h : EX m ds e P) (hst : ∀ v H H', m.R H H' → P v H → P v H') (h' : EAX m ds es P') (hs : ∀ i, starEach (e :: es) (m.F i).env = (false, eval e (m.F i).env) :: starEach es (m.F i).env := by intro _; rfl) : EAX m ds (e :: es) (fun vs H => ∃ v vs', vs = v :: vs' ∧ P v H ∧ P' vs' H) := fun σ H hr hl Q k =>
  wA_of (fun i => pa_cons (wE_ok i) (wA_ok i) (hs i)) (h σ H hr hl _ fun v H1 r1 p1 => h' σ H1 (ok.trans hr r1) (ok.sl r1 hl) _ fun vs H2 r2 p2 => k (v :: vs) H2 (ok.trans r1 r2) ⟨v, vs, rfl, hst v H1 H2 r2 p1, p2⟩)
theorem ep_stay (ok : m.Ok) {P : SV → Prop} : ∀ v H H', m.R H H' → (∃ r, P r ∧ Dq m.S.K H v r) → ∃ r, P r ∧ Dq m.S.K H' v r := fun v H H' r ⟨x, p, d⟩ => ⟨x, p, ok.dq r d⟩
theorem bd_parX (ok : m.Ok) (j l : Nat) {x y : Str} {e f : Expr} {P : List V → Hp → Prop} {rest : List Stmt} {D : Ends} {px py pt pt2 : Pos} {kt k2 : Nat} (hx : m.S.N[j]? = some x) (hy : m.S.N[l]? = some y) (hjl : j ≠ l) (h : EAX m ds [e, f] P) (q : ∀ vs H, m.R m.H0 H → P vs H → ∃ v v' r r', vs = [v, v'] ∧ Dq m.S.K H v r ∧ Dq m.S.K H v' r' ∧ BD (m.at_ H) ((ds.set j (some r)).set l (some r')) rest D)
    (hlx : ∀ i, (m.F i).env.scope.names.lookup x = some .local := by intro _; rfl) (hly : ∀ i, (m.F i).env.scope.names.lookup y = some .local := by intro _; rfl)
    (hw : ∀ i, swappedStores [.Tuple [.Name x px, .Name y py] kt pt] (.Tuple [e, f] k2 pt2) (m.F i).env = pure (some [x, y]) := by intro _; rfl) (hsw : ∀ i, swapsWithSole [.Tuple [.Name x px, .Name y py] kt pt] (.Tuple [e, f] k2 pt2) pos.line (m.F i).env = pure false := by intro _; rfl) :
    BD m ds (.Assign [.Tuple [.Name x px, .Name y py] kt pt] (.Tuple [e, f] k2 pt2) pos :: rest) D := fun σ H hr hs => by
  refine wSs_cons (wS_of (t := tPar j l (wA m.F [e, f])) (fun i => ps_par (ok.calm i) (by rw [ok.hN i]; exact ok.nd) (by rw [ok.hN i]; exact hx) (by rw [ok.hN i]; exact hy) hjl (hlx i) (hly i) (wA_ok i) (hw i) (hsw i)) ?_)
  refine h σ H hr hs _ fun vs H1 r1 p1 => ?_
  obtain ⟨v, v', r, r', rfl, d, d', b⟩ := q vs H1 (ok.trans hr r1) p1
  exact ⟨v, v', rfl, b _ H1 (ok.refl H1) (((ok.sl r1 hs).set j d).set l d')⟩
theorem bd_par3X (ok : m.Ok) (j l n : Nat) {x y z : Str} {e f g : Expr} {P : List V → Hp → Prop} {rest : List Stmt} {D : Ends} {px py pz pt pt2 : Pos} {kt k2 : Nat} (hx : m.S.N[j]? = some x) (hy : m.S.N[l]? = some y) (hz : m.S.N[n]? = some z) (hjl : j ≠ l) (hjn : j ≠ n) (hln : l ≠ n) (h : EAX m ds [e, f, g] P)
    (q : ∀ vs H, m.R m.H0 H → P vs H → ∃ v v' v'' r r' r'', vs = [v, v', v''] ∧ Dq m.S.K H v r ∧ Dq m.S.K H v' r' ∧ Dq m.S.K H v'' r'' ∧ BD (m.at_ H) (((ds.set j (some r)).set l (some r')).set n (some r'')) rest D)
    (hlx : ∀ i, (m.F i).env.scope.names.lookup x = some .local := by intro _; rfl) (hly : ∀ i, (m.F i).env.scope.names.lookup y = some .local := by intro _; rfl) (hlz : ∀ i, (m.F i).env.scope.names.lookup z = some .local := by intro _; rfl)
    (hw : ∀ i, swappedStores [.Tuple [.Name x px, .Name y py, .Name z pz] kt pt] (.Tuple [e, f, g] k2 pt2) (m.F i).env = pure (some [x, y, z]) := by intro _; rfl) (hsw : ∀ i, swapsWithSole [.Tuple [.Name x px, .Name y py, .Name z pz] kt pt] (.Tuple [e, f, g] k2 pt2) pos.line (m.F i).env = pure false := by intro _; rfl) :
    BD m ds (.Assign [.Tuple [.Name x px, .Name y py, .Name z pz] kt pt] (.Tuple [e, f, g] k2 pt2) pos :: rest) D := fun σ H hr hs => by
  refine wSs_cons (wS_of (t := tPar3 j l n (wA m.F [e, f, g])) (fun i => ps_par3 (ok.calm i) (by rw [ok.hN i]; exact ok.nd) (by rw [ok.hN i]; exact hx) (by rw [ok.hN i]; exact hy) (by rw [ok.hN i]; exact hz) hjl hjn hln (hlx i) (hly i) (hlz i) (wA_ok i) (hw i) (hsw i)) ?_)
  refine h σ H hr hs _ fun vs H1 r1 p1 => ?_
  obtain ⟨v, v', v'', r, r', r'', rfl, d, d', d'', b⟩ := q vs H1 (ok.trans hr r1) p1
  exact ⟨v, v', v'', rfl, b _ H1 (ok.refl H1) ((((ok.sl r1 hs).set j d).set l d').set n d'')⟩
end
/-! The pool: _law_pool, _law_draw. -/
theorem wE_tag {ι : Type} {F : ι → Cx} {e : Expr} {a : Addr} {σ : L2.St} {H : Hp} {Q : VK} (h : wE F e σ H fun v H1 => ∃ vs, H1 a = some (.lst vs) ∧ ∀ o, LX vs o → Q v (upd H1 a (exO a o))) : wE F e σ H Q := by
  obtain ⟨t, ht, q⟩ := h
  refine ⟨fun σ H Q => t σ H fun v H1 => ∃ vs, H1 a = some (.lst vs) ∧ ∀ o, LX vs o → Q v (upd H1 a (exO a o)), fun i => ⟨fun pins st σ H Q Iv hh => ?_⟩, q⟩
  refine thn ((ht i).run pins st σ H _ Iv hh) fun u s1 ⟨v, H1, I1, r1, vs, e1, q1⟩ => ?_
  obtain ⟨z, its, n, r, e2⟩ := I1.hok a _ e1
  have I2 : Inv (F i) pins σ (upd H1 a (exO a { cls := .type "list", data := .seq its.toArray n })) s1 := I1.write (h' := s1.heap) (t' := s1.toks) (x := a) (e := a) (by rw [e1]; trivial) (.inl rfl) (fun _ _ _ z => z) ⟨_, e2⟩ (exO_ok e2)
  exact ⟨v, _, I2, r1, q1 _ ⟨⟨its, n, rfl, r⟩, z⟩⟩
section
variable {ι : Type} {m : Mo ι} {ds : Sd} {pos : Pos}
/-- o[i] = e, o a list that stands by itself -/
theorem bd_putL (ok : m.Ok) {a : Addr} {o i value : Expr} {xs : List V} {k : Int} {j : Nat} {z : PyData} {rest : List Stmt} {D : Ends} {pos' : Pos} (hv : EV m ds value (.d z)) (ho : EV m ds o (.v (.ref a))) (hi : EV m ds i (.d (.int k))) (hx : ∀ H, m.R m.H0 H → H a = some (.lst xs)) (hj : ixN xs.length k = some j) (hsi : simpS ds = true) (nz : noL z = true)
    (q : ∀ H u, m.R m.H0 H → Dp m.S.K (upd H a (.lst (xs.set j u))) u z → (m.at_ (upd H a (.lst (xs.set j u)))).Ok → BD (m.at_ (upd H a (.lst (xs.set j u)))) ds rest D)
    (hsw : ∀ i', swapsWithSole [.Subscript o i pos'] value pos.line (m.F i').env = pure false := by intro _; rfl) (hw : ∀ i', swappedStores [.Subscript o i pos'] value (m.F i').env = pure none := by intro _; rfl)
    (h1 : ∀ i', (assignEach [.Subscript o i pos'] (m.F i').env).map (·.2) = [assign (.Subscript o i pos') (m.F i').env] := by intro _; rfl)
    (hpg : ∀ z, PG (m.F z) (.Subscript o i pos') (gSub (wE m.F o) (wE m.F i) rSetL) := by intro z; exact pg_sub (wE_ok z) (wE_ok z) set_list) : BD m ds (.Assign [.Subscript o i pos'] value pos :: rest) D := fun σ H hr hs => by
  refine wSs_cons (wS_of (t := tAsg (wE m.F value) (gSub (wE m.F o) (wE m.F i) rSetL)) (fun z => ps_asg (wE_ok z) (hpg z) (hsw z) (hw z) (h1 z)) ?_)
  refine hv σ H hr hs _ fun u H1 r1 d1 => ho σ H1 (ok.trans hr r1) (ok.sl r1 hs) _ fun y H2 r2 d2 => hi σ H2 (ok.trans hr (ok.trans r1 r2)) (ok.sl (ok.trans r1 r2) hs) _ fun t H3 r3 d3 => ?_
  have r13 := ok.trans r1 (ok.trans r2 r3)
  have e3 := hx H3 (ok.trans hr r13)
  obtain rfl : y = V.ref a := d2
  refine ⟨a, xs, k, j, rfl, Dp.int_inv d3, e3, hj, ?_⟩
  have st := fun b zs (w : SqT m.S.K H3 b zs) => sqt_any (u := HO.lst (xs.set j u)) e3 b zs w
  exact q H3 u (ok.trans hr r13) (dp_noT st (ok.dp (ok.trans r2 r3) d1) nz) (ok.at_ _) σ _ (ok.refl _) (simp_sl (ok.sl r13 hs) hsi st)
end
/-- return e, the list at a kept exact from then on -/
theorem bd_retT {ι : Type} {m : Mo ι} {ds : Sd} {pos : Pos} (ok : m.Ok) {a : Addr} {vs : List V} {e : Expr} {r : SV} {rest : List Stmt} {D : Ends} (h : EV m ds e r) (hx : ∀ H, m.R m.H0 H → H a = some (.lst vs)) (q : ∀ v H o, m.R m.H0 H → Dq m.S.K H v r → LX vs o → D.rt v (upd H a (exO a o))) : BD m ds (.Return (some e) pos :: rest) D := fun σ H hr hs =>
  wSs_cons (wS_of (fun i => ps_ret (wE_ok i)) (wE_tag (a := a) (h σ H hr hs _ fun v H1 r1 d1 => ⟨vs, hx H1 (ok.trans hr r1), fun o lo => q v H1 o (ok.trans hr r1) d1 lo⟩)))
/-- the pool: two numbers, as an exact object -/
def PX (a : Addr) (H : Hp) : Prop := ∃ (o : Obj) (x y : Int), H a = some (exO a o) ∧ LX [.int x, .int y] o ∧ 0 ≤ x ∧ 0 ≤ y
theorem gok_px {a : Addr} : Gok (PX a) := ⟨fun e ⟨o, x, y, h, z⟩ => ⟨o, x, y, e _ _ h, z⟩, fun hc ⟨o, x, y, h, z⟩ => ⟨o, x, y, by rw [upd_ne (by rintro rfl; rw [hc] at h; cases h)]; exact h, z⟩⟩
abbrev RP (a : Addr) : Hp → Hp → Prop := RXS [a] (PX a)
/-- a promise of a def whose first argument is the pool -/
def SpP (K : PySem.W.Frag) (pre : List SV → Hp → Prop) (post : List SV → V → Hp → Prop) : Sp := fun vs H Q _ => ∃ a rs, DqAll K H vs (.v (.ref a) :: rs) ∧ PX a H ∧ pre rs H ∧ ∀ v H', RP a H H' → post rs v H' → Q v H'
section
variable {ι : Type} {m : Mo ι} {ds : Sd} {pos : Pos}
theorem ex_callP (ok : m.Ok) {x : Str} {k : Nat} {pre : List SV → Hp → Prop} {post : List SV → V → Hp → Prop} (C : m.S.call x k (SpP m.S.K pre post)) (hk : k ≤ m.k) {a : Addr} {e : Expr} {es : List Expr} {P : List SV → Prop} {p : Pos} (hR : ∀ {H H'}, RP a H H' → m.R H H') (hP : ∀ H, m.R m.H0 H → PX a H) (ha : EAP m ds (e :: es) P)
    (hpre : ∀ rs H, m.R m.H0 H → P rs → ∃ rs', rs = .v (.ref a) :: rs' ∧ pre rs' H)
    (hg : ∀ i, Gl (m.F i) x := by intro _; rfl) (hdb : (x == ("__debug__" : Str)) = false := by decide)
    (he : ∀ i, starEach (e :: es) (m.F i).env = (false, eval e (m.F i).env) :: starEach es (m.F i).env := by intro _; rfl) (hpl : ∀ i, (backTo pos (starEach es (m.F i).env)).any (·.1) = false := by intro _; rfl) :
    EX m ds (.Call (.Name x p) (e :: es) [] pos) (fun v H => ∃ rs', P (.v (.ref a) :: rs') ∧ post rs' v H) := fun σ H hr hs Q q => by
  obtain ⟨f, fd, ps, F, hm, kp, b⟩ := C.ex
  refine wE_of (t := tCall (SpP m.S.K pre post) [] E0 (wA m.F (e :: es))) (fun i => pe_call (by rw [ok.hp i, ok.hw i, ok.hK i, ok.hm i, ok.hb i]; exact F) ((ok.room i).mono hk) (hg i) (by rw [ok.hm i]; exact hm) (by rw [ok.hK i]; exact kp) (by rw [ok.hK i]; exact b) .nil pass0 (wA_ok i) hdb (he i) (hpl i))
    (ha σ H hr hs _ fun vs H1 rs r1 p1 d1 => ?_)
  obtain ⟨rs', rfl, h1⟩ := hpre rs H1 (ok.trans hr r1) p1
  rw [List.append_nil]
  exact ⟨a, rs', d1, hP H1 (ok.trans hr r1), h1, fun v H' r' po => q v H' (ok.trans r1 (hR r')) ⟨rs', p1, po⟩⟩
end
section
variable {P : Program} {w : World} {K : PySem.W.Frag} {mg : Str → Option Value} {base : Heap} {x qual : Str} {params : Arguments} {body : List Stmt} {scope : Scope} {dvs : List V} {kws : List (Str × V)} {f : Addr} {fd : FuncData} {N ps : List Str} {k : Nat}
theorem fn_pool {pre : List SV → Hp → Prop} {post : List SV → V → Hp → Prop} (F : FunD K x qual params body scope dvs kws f fd) (S : FnScope N ps scope) (len : ∀ rs H, pre rs H → rs.length + 1 = ps.length)
    (h : ∀ (cdv : Value) (A : Around) (outer : List Env) (s : Shared) (H : Hp) (E : XK) (Q : VK) (rs : List SV) (a : Addr), Room k (A.deeper (envOfC qual scope s.heap.objs.size f cdv)) → pre rs H → PX a H → (bodyMo P w K mg base N qual scope f cdv A outer s H E (RP a) k).Ok → (∀ v H', RP a H H' → post rs v H' → Q v H') →
      BD (bodyMo P w K mg base N qual scope f cdv A outer s H E (RP a) k) (startD N (.v (.ref a) :: rs)) body { nx := fun _ H' => Q .non H', rt := Q }) : FnOk P w K mg base CX0 (k + 1) f fd ps (SpP K pre post) :=
  fn_ok F S (fun vs H Q E ⟨a, rs, d, _, p, _⟩ => (DqAll.length d).trans (len rs H p)) fun cdv A outer s H vs Q E hr ⟨a, rs, d, hp, p, hQ⟩ =>
    h cdv A outer s H E Q rs a hr p hp (body_ok (kp_rxs gok_px) S hr) hQ (L2.start N vs) H ((kp_rxs (K := K) gok_px).refl H) (start_sl d)
end
section
variable {P : Program} {w : World} {K : PySem.W.Frag} {mg : Str → Option Value} {base : Heap}
/-- how large the script's number is, and its mixture -/
def zSize (ns : List Int) : Int := match ns with
  | [] => 7
  | n :: _ => maxI n (-1 - n)
def zMixed (ns : List Int) : Int := (zSize ns % 2147483629 + 104729 * (0 + 1)) * 48271 % 2147483629 + 1
def zPool (ns : List Int) : List PyData := [.int (zSize ns * b2z (decide (1000000000000000000 ≤ zSize ns))), .int (zMixed ns * zMixed ns % 2147483629)]
theorem zSize_nn (ns : List Int) : 0 ≤ zSize ns := by
  cases ns with
  | nil => decide
  | cons n r =>
    show 0 ≤ maxI n (-1 - n)
    unfold maxI
    split <;> omega
def rPool (rs : List SV) (_ : Hp) (r : SV) : Prop := ∃ ns : List Int, rs = [.d (.list (ns.map PyData.int)), .d (.int 0)] ∧ r = .l (zPool ns)
theorem ok_zpool (T : Tx K mg) : CallOk P w K mg base "_law_pool" 1 (SpR K rPool) := by
  obtain ⟨fd, F⟩ := D_zpool T
  refine call_of F (fn_pure F sc_zpool (fun rs H r ⟨_, e, _⟩ => by rw [e]; rfl) ?_) (g_zpool T) (fun _ _ _ _ _ _ us hl => match us, hl with | [_, _], _ => rfl)
  rintro cdv A outer st H E Q rs r hr ⟨ns, rfl, rfl⟩ ok hQ
  have h0 := zSize_nn ns
  have h1 : 0 ≤ zMixed ns ∧ zMixed ns ≤ 2147483629 := by
    unfold zMixed
    omega
  refine bd_asg ok 2 (r := .d (.int (zSize ns))) rfl (ev_ifR ok (tv_lt ok (x := 0) (by walk_at "ev") (ev_lenL ok (xs := ns.map PyData.int) (b_len T) (by walk_at "ev"))) (fun h => ?_) (fun h => ?_)) ?_
  · have h := of_decide_eq_true h
    rw [List.length_map] at h
    cases ns with
    | nil => simp at h
    | cons n r =>
      exact ev_max ok (b_max T) (ev_intI ok (b_int T) (ev_ixL ok (xs := (n :: r).map PyData.int) (by walk_at "ev") (by walk_at "ev") (atI_get (n := 0) rfl) (fun _ _ => rfl))) (ev_intI ok (b_int T) (ev_sub ok (x := -1) (by walk_at "ev") (ev_ixL ok (xs := (n :: r).map PyData.int) (by walk_at "ev") (by walk_at "ev") (atI_get (n := 0) rfl) (fun _ _ => rfl))))
  · have h := of_decide_eq_false h
    rw [List.length_map] at h
    cases ns with
    | nil => exact ev_int ok
    | cons n r => exact absurd (show (0 : Int) < ((n :: r).length : Nat) by rw [List.length_cons]; omega) h
  have m1 : CMul 104729 ((0 : Int) + 1) := .inr ⟨by decide, by decide⟩
  have m2 : CMul (zSize ns % 2147483629 + 104729 * (0 + 1)) 48271 := .inr ⟨by decide, by decide⟩
  refine bd_asg ok 3 (r := .d (.int (zMixed ns))) rfl (ev_add ok (ev_mod ok (ev_intI ok (b_int T) (ev_mul ok (ev_add ok (ev_mod ok (ev_intI ok (b_int T) (by walk_at "ev")) (ev_int ok) (by decide)) (by walk_at "ev")) (ev_int ok) m2)) (ev_int ok) (by decide)) (ev_int ok)) ?_
  have m3 : CMul (zSize ns) (b2z (decide (1000000000000000000 ≤ zSize ns))) := .inr (by unfold b2z; split <;> decide)
  have m4 : CMul (zMixed ns) (zMixed ns) := .inr ⟨by omega, by omega⟩
  refine bd_retC ok hQ (ev_lstL ok (xs := zPool ns) (ea_two ok (r := .d (.int (zSize ns * b2z (decide (1000000000000000000 ≤ zSize ns))))) (ev_mul ok (by walk_at "ev") (ev_intB ok (b_int T) (ev_ge ok (y := 1000000000000000000) (by walk_at "ev") ((ev_pow ok (x := 10) (y := 18) (ev_int ok) (ev_int ok) ⟨by decide, by decide, by decide⟩).cast (congrArg (fun z : Int => SV.d (.int z)) (by decide))))) m3) (ev_mod ok (ev_intI ok (b_int T) (by walk_at "ev")) (ev_int ok) (by decide))) (by show 2 ≤ 100; decide)) rfl
theorem ev_ixR {ι : Type} {m : Mo ι} {ds : Sd} {pos : Pos} (ok : m.Ok) {o b : Expr} {a : Addr} {vs : List V} {i z : Int} (ho : EV m ds o (.v (.ref a))) (hb : EV m ds b (.d (.int i))) (hx : ∀ H, m.R m.H0 H → H a = some (.lst vs)) (hv : L2.atI vs i = some (.int z)) (hp : PlainIx b) : EV m ds (.Subscript o b pos) (.d (.int z)) := fun σ H hr hs Q k => by
  refine wE_of (t := tOp (rIxL m.S.K) (wE m.F o) (wE m.F b)) (fun i => pe_ix (by rw [← ok.hK i]; exact ix_list) (wE_ok i) (wE_ok i) hp) (ho σ H hr hs _ fun v H1 r1 q1 => hb σ H1 (ok.trans hr r1) (ok.sl r1 hs) _ fun u H2 r2 q2 => ?_)
  have r12 := ok.trans r1 r2
  exact ⟨a, vs, i, .int z, q1, Dp.int_inv q2, SqL.of (hx H2 (ok.trans hr r12)), hv, k _ H2 r12 (.int z)⟩
def preDraw (rs : List SV) (_ : Hp) : Prop := ∃ n : Int, rs = [.d (.int n)] ∧ 0 < n ∧ n ≤ 1000
def postDraw (rs : List SV) (v : V) (_ : Hp) : Prop := ∃ n k : Int, rs = [.d (.int n)] ∧ v = .int k ∧ 0 ≤ k ∧ k < n
theorem ok_zdraw (T : Tx K mg) : CallOk P w K mg base "_law_draw" 1 (SpP K preDraw postDraw) := by
  obtain ⟨fd, F⟩ := D_zdraw T
  refine call_of F (fn_pool F sc_zdraw (fun rs H ⟨_, e, _⟩ => by rw [e]; rfl) ?_) (g_zdraw T) (fun _ _ _ _ _ _ us hl => match us, hl with | [_, _], _ => rfl)
  rintro cdv A outer st H E Q rs a hr ⟨n, rfl, n0, n1⟩ ⟨ob, x, y, hob, lx, hx, hy⟩ ok hQ
  intro σ H1 r1 s1
  obtain ⟨ob1, x1, y1, hob1, lx1, hx1, hy1⟩ := r1.2 ⟨ob, x, y, hob, lx, hx, hy⟩
  refine ws_untag hob1 lx1 ?_
  have kx := kp_ex K
  have okE := ok.on kx (upd H1 a (.lst [.int x1, .int y1]))
  have s2 : Sl K (upd H1 a (.lst [.int x1, .int y1])) σ (startD n_zdraw [.v (.ref a), .d (.int n)]) := opq_slots hob1 opq_exO s1
  have fin : ∀ (v : V) (H' : Hp) (x' y' : Int) (o : Obj), (∃ k : Int, v = .int k ∧ 0 ≤ k ∧ k < n) → (∀ b u, b ≠ a → H1 b = some u → H' b = some u) → LX [.int x', .int y'] o → 0 ≤ x' → 0 ≤ y' → Q v (upd H' a (exO a o)) := fun v H' x' y' o ⟨k, e, k0, k1⟩ hst lo h1 h2 =>
    hQ v _ ((kp_rxs (K := K) gok_px).trans r1 (RXS.upd (by simp) hob1 hst fun _ => ⟨o, x', y', upd_same, lo, h1, h2⟩)) ⟨n, k, rfl, e, k0, k1⟩
  have here : ∀ H', Ex (upd H1 a (.lst [.int x1, .int y1])) H' → H' a = some (.lst [.int x1, .int y1]) := fun H' e => e _ _ upd_same
  have c1 : CDivW x1 n := wide_div n0 (b := 64) (by omega) (by decide) (by decide)
  refine (bd_ifr okE (tv_gt okE (x := x1) (y := 0) (ev_ixR okE (by walk_at "ev") (ev_int okE) here rfl (fun _ _ => rfl)) (ev_int okE)) (fun h => ?_) (fun h => ?_)) σ _ (Ex.refl _) s2
  · refine bd_asg okE 2 (r := .d (.int (x1 % n))) rfl (ev_mod okE (ev_intI okE (b_int T) (ev_ixR okE (by walk_at "ev") (ev_int okE) here rfl (fun _ _ => rfl))) (by walk_at "ev") n0) ?_
    refine bd_putL okE (a := a) (k := 0) (j := 0) (z := .int (x1 / n)) (ev_div okE (ev_ixR okE (by walk_at "ev") (ev_int okE) here rfl (fun _ _ => rfl)) (by walk_at "ev") c1) (by walk_at "ev") (ev_int okE) here rfl rfl rfl fun H2 u r2 du ok2 => ?_
    obtain rfl := Dp.int_inv du
    have g1 : 0 ≤ x1 % n := Int.emod_nonneg _ (by omega)
    have g2 : x1 % n < n := Int.emod_lt_of_pos _ n0
    have g3 : 0 ≤ x1 / n := Int.ediv_nonneg hx1 (by omega)
    exact bd_retT ok2 (a := a) (vs := [.int (x1 / n), .int y1]) (r := .d (.int (x1 % n))) (by walk_at "ev") (fun H' e => e _ _ upd_same) fun v H4 o r4 d4 lo => fin v H4 (x1 / n) y1 o ⟨_, Dp.int_inv d4, g1, g2⟩ (fun b z nb hb => r4 _ _ ((upd_ne nb).trans (r2 _ _ ((upd_ne nb).trans hb)))) lo g3 hy1
  · have m1 : CMul y1 48271 := .inr ⟨by decide, by decide⟩
    refine bd_putL okE (a := a) (k := 1) (j := 1) (z := .int ((y1 * 48271 + 11) % 2147483647)) (ev_mod okE (ev_intI okE (b_int T) (ev_add okE (ev_mul okE (ev_ixR okE (by walk_at "ev") (ev_int okE) here rfl (fun _ _ => rfl)) (ev_int okE) m1) (ev_int okE))) (ev_int okE) (by decide)) (by walk_at "ev") (ev_int okE) here rfl rfl rfl fun H2 u r2 du ok2 => ?_
    obtain rfl := Dp.int_inv du
    generalize hy2 : (y1 * 48271 + 11) % 2147483647 = y2 at *
    have b0 : 0 ≤ y2 ∧ y2 < 2147483647 := by omega
    have m2 : CMul y2 y2 := .inr ⟨by omega, by omega⟩
    have here2 : ∀ H', Ex (upd H2 a (.lst ([.int x1, .int y1].set 1 (.int y2)))) H' → H' a = some (.lst [.int x1, .int y2]) := fun H' e => e _ _ upd_same
    have g1 : 0 ≤ y2 * y2 % 2147483629 / 16 % n := Int.emod_nonneg _ (by omega)
    have g2 : y2 * y2 % 2147483629 / 16 % n < n := Int.emod_lt_of_pos _ n0
    have c2 : CDivW (y2 * y2 % 2147483629) 16 := wide_div (by decide) (b := 64) (by decide) (by decide) (by decide)
    exact bd_retT ok2 (a := a) (vs := [.int x1, .int y2]) (ev_mod ok2 (ev_intI ok2 (b_int T) (ev_div ok2 (ev_mod ok2 (ev_intI ok2 (b_int T) (ev_mul ok2 (ev_ixR ok2 (a := a) (by walk_at "ev") (ev_int ok2) here2 rfl (fun _ _ => rfl)) (ev_ixR ok2 (a := a) (by walk_at "ev") (ev_int ok2) here2 rfl (fun _ _ => rfl)) m2)) (ev_int ok2) (by decide)) (ev_int ok2) c2)) (by walk_at "ev") n0) here2 fun v H4 o r4 d4 lo => fin v H4 x1 y2 o ⟨_, Dp.int_inv d4, g1, g2⟩ (fun b z nb hb => r4 _ _ ((upd_ne nb).trans (r2 _ _ ((upd_ne nb).trans hb)))) lo hx1 b0.1
end
section
variable {ι : Type} {m : Mo ι} {ds : Sd} {pos : Pos}
/-- _law_draw(pool, many) -/
theorem ep_draw (ok : m.Ok) (T : Tx m.S.K m.S.mg) (hk : 1 ≤ m.k) {a : Addr} {e f : Expr} {n : Int} {p : Pos} (hR : ∀ {H H'}, RP a H H' → m.R H H') (hP : ∀ H, m.R m.H0 H → PX a H) (he : EV m ds e (.v (.ref a))) (hf : EV m ds f (.d (.int n))) (h0 : 0 < n) (h1 : n ≤ 1000)
    (hg : ∀ i, Gl (m.F i) "_law_draw" := by intro _; rfl)
    (hs : ∀ i, starEach [e, f] (m.F i).env = (false, eval e (m.F i).env) :: starEach [f] (m.F i).env := by intro _; rfl) (hs2 : ∀ i, starEach [f] (m.F i).env = (false, eval f (m.F i).env) :: starEach [] (m.F i).env := by intro _; rfl) (hpl : ∀ i, (backTo pos (starEach [f] (m.F i).env)).any (·.1) = false := by intro _; rfl) :
    EP m ds (.Call (.Name "_law_draw" p) [e, f] [] pos) (isI fun k => 0 ≤ k ∧ k < n) := fun σ H hr hl Q q =>
  ex_callP ok (ok_zdraw (P := m.S.P) (w := m.S.w) (base := m.S.base) T) hk hR hP (P := fun rs => rs = [.v (.ref a), .d (.int n)]) (EA.eap (ea_two ok he hf hs hs2) rfl) (fun rs H _ e => ⟨_, e, n, rfl, h0, h1⟩) hg (by decide) hs hpl σ H hr hl Q fun v H2 r2 ⟨rs', e1, n', k, e2, ev, k0, k1⟩ => by
    rw [e2] at e1
    simp only [List.cons.injEq, SV.d.injEq, PyData.int.injEq, and_true, true_and] at e1
    subst e1 ev
    exact q _ H2 r2 ⟨_, ⟨k, rfl, k0, k1⟩, .int k⟩
end
/-! Loops over what is drawn; appends of what is drawn; the small defs that draw. -/
section
variable {ι : Type} {m : Mo ι} {ds : Sd} {pos : Pos} {R' : Hp → Hp → Prop}
/-- what a for walks that is told by some z alone -/
def IVRP (m : Mo ι) (R' : Hp → Hp → Prop) (ds : Sd) (tg iter : Expr) {α : Type} (P : α → Prop) (n : α → Nat) (Y : α → Nat → PyData) : Prop := ∀ σ H, m.R m.H0 H → Sl m.S.K H σ ds → ∀ Q : It → Hp → Prop,
  (∀ J H1 (G : Hp → Prop) z, P z → m.R H H1 → (∀ H2, R' H1 H2 → G H2) → Walk J (n z) G (fun i H v H' => Ex H H' ∧ (R' H1 H → Dp m.S.K H' v (Y z i))) → Q J H1) → wI m.F tg iter σ H Q
theorem ivrp_list (ok : m.Ok) (kp : Kp m.S.K R') {tg iter : Expr} {P : List PyData → Prop} (h : EP m ds iter (fun r => ∃ xs, r = .d (.list xs) ∧ P xs)) : IVRP m R' ds tg iter P List.length fun xs i => xs.getD i .none := fun σ H hr hs Q q => by
  refine wI_of (t := iList m.S.K (wE m.F iter)) (fun i => by rw [← ok.hK i]; exact pi_list (wE_ok i)) (h σ H hr hs _ fun v H1 r1 ⟨_, ⟨xs, e1, p1⟩, q1⟩ => ?_)
  subst e1
  obtain ⟨a, vs, rfl, hq, hv⟩ := Dp.lst_inv q1
  refine ⟨a, rfl, ⟨vs, hq⟩, q _ H1 (fun H => SqL m.S.K H a vs) xs p1 r1 (fun H2 r2 => kp.sl_ r2 hq) ?_⟩
  rw [← dpa_len hv]
  refine walk_list.mono (fun _ z => z) fun i H v H' hi _ y => ⟨by rw [y.1]; exact Ex.refl H, fun r => ?_⟩
  obtain ⟨x, hx, dx⟩ := dpa_get' (kp_dpa kp r hv) y.2
  show Dp m.S.K H' v (xs.getD i .none)
  rw [y.1, List.getD_eq_getElem?_getD, hx]
  exact dx
theorem ivrp_range1 (ok : m.Ok) {tg e : Expr} {P : Int → Prop} {p : Pos} (hm : m.S.mg "range" = none) (h : EP m ds e (isI P)) (hn : ∀ n, P n → -1000 ≤ n ∧ n ≤ 1000) (hg : ∀ i, Gl (m.F i) "range" := by intro _; rfl)
    (he : ∀ i, starEach [e] (m.F i).env = (false, eval e (m.F i).env) :: starEach [] (m.F i).env := by intro _; rfl) : IVRP m R' ds tg (.Call (.Name "range" p) [e] [] pos) P Int.toNat fun _ i => .int i := fun σ H hr hs Q q => by
  refine wI_of (t := iRng1 (wA m.F [e])) (fun i => pi_range1 (hg i) (by rw [ok.hm i]; exact hm) (wA_ok i) (by rw [he i]; rfl)) (wA_of (fun i => pa_cons (wE_ok i) pa_nil (he i)) (h σ H hr hs _ fun v H1 r1 ⟨_, ⟨n, e1, p1⟩, q1⟩ => ?_))
  subst e1
  have hn := hn n p1
  refine ⟨n, by rw [Dp.int_inv q1], by omega, by omega, q _ H1 (fun _ => True) n p1 r1 (fun _ _ => trivial) ?_⟩
  refine walk_range.mono (fun _ z => z) fun i H v H' hi _ y => ⟨by rw [y.1]; exact Ex.refl H, fun r => ?_⟩
  rw [y.2]
  show Dp m.S.K H' (.int (0 + (i : Int))) (.int i)
  rw [Int.zero_add]
  exact .int _
theorem ws_forRP (ok : m.Ok) (kp : Kp m.S.K R') {tg iter : Expr} {body rest : List Stmt} {D : Ends} {α : Type} {P : α → Prop} {n : α → Nat} {Y : α → Nat → PyData} {σ : L2.St} {H : Hp} (hr : m.R m.H0 H) (hs : Sl m.S.K H σ ds) (hi : IVRP m R' ds tg iter P n Y) (I : α → Nat → Sd → Hp → Prop) (hst : ∀ z i ds' H H', Ex H H' → I z i ds' H → I z i ds' H') (h0 : ∀ z H1, P z → m.R H H1 → I z 0 ds H1)
    (ht : ∀ z H1, P z → m.R H H1 → (m.on R' H1).Ok → ∀ i v ds' σ' H', i < n z → R' H1 H' → I z i ds' H' → Sl m.S.K H' σ' ds' → Dp m.S.K H' v (Y z i) → wG m.F tg v σ' H' fun σ2 H2 => wSs m.F body { D with nx := Nx (m.on R' H1) (I z (i + 1)), ct := Nx (m.on R' H1) (I z (i + 1)), bk := fun σ H => wSs m.F rest D σ H } σ2 H2)
    (hd : ∀ z H1 ds' σ' H', P z → m.R H H1 → R' H1 H' → I z (n z) ds' H' → Sl m.S.K H' σ' ds' → wSs m.F rest D σ' H')
    (hp : ∀ i, PassesOwn (model (m.F i).prog (m.F i).w) (m.F i).A (m.F i).env (m.F i).xe := by intro _; exact PassesOwn.never) (hf : ∀ i, ∀ x, foldedSetIterable iter (m.F i).env x = pure x := by intro _ _; rfl) : wSs m.F (.For tg iter body [] pos :: rest) D σ H := by
  refine wSs_cons (wS_of (t := tFor (wI m.F tg iter) (wG m.F tg) (wSs m.F body)) (fun i => ps_for (hp i) (ok.calm i) (wI_ok i) (wG_ok i) (wSs_ok i) (hf i)) (hi σ H hr hs _ fun J H1 G z pz r1 hG w => ?_))
  have ok2 := ok.on kp H1
  refine for_it w (Nx (m.on R' H1) <| I z ·) ⟨ds, kp.refl H1, h0 z H1 pz r1, ok.sl r1 hs⟩ (fun i σ' H' _ ⟨ds', k1, _⟩ => hG H' k1) (fun i x σ' H' H'' hi' ⟨ds', k1, k2, k3⟩ y => ?_) (fun σ' H' ⟨ds', k1, k2, k3⟩ => hd z H1 ds' σ' H' pz r1 k1 k2 k3)
  have e := y.1
  exact ht z H1 pz r1 ok2 i x ds' σ' H'' hi' (kp.trans k1 (kp.ex e)) (hst z i ds' H' H'' e k2) (ok2.sl (kp.ex e) k3) (y.2 k1)
/-- x.append(e), x an exact list, of e something is told -/
theorem ws_appXP (ok : m.Ok) (j : Nat) {x : Str} {e : Expr} {a : Addr} {xs : List PyData} {A : PyData → Prop} {rest : List Stmt} {D : Ends} {p1 ap cp : Pos} {σ : L2.St} {H : Hp} (hN : m.S.N[j]? = some x) (hd : ds[j]? = some (some (.v (.ref a)))) (hs : Sl m.S.K H σ ds) (hsi : simpS ds = true) (hX : AccX m.S.K H a xs) (hxs : noL.noLs xs = true) (hz : xs.length ≤ 10000)
    (he : ∀ vs, EP (m.at_ (upd H a (.lst vs))) ds e (fun r => ∃ y, r = .d y ∧ noL y = true ∧ A y))
    (q : ∀ vs H2 o y, A y → m.R (upd H a (.lst vs)) H2 → AccX m.S.K (upd H2 a (exO a o)) a (xs ++ [y]) → Sl m.S.K (upd H2 a (exO a o)) σ ds → wSs m.F rest D σ (upd H2 a (exO a o)))
    (hv : ∀ i, Vis (m.F i).env.scope x) (h1 : (x == ("__debug__" : Str)) = false := by decide) (h2 : (x == ("__classdict__" : Str)) = false := by decide)
    (hbase : ∀ i, attributeBase (.Name x p1) "append" (m.F i).env (eval (.Name x p1) (m.F i).env) = eval (.Name x p1) (m.F i).env := by intro _; rfl)
    (hfew : ∀ i, ((backTo cp (starEach [e] (m.F i).env)).all (fun x => !x.1) && (backToKw cp (keywordEach [] (m.F i).env)).all (fun x => x.1.isSome) && decide ([e].length + ([] : List Keyword).length + (if ([] : List Keyword).isEmpty then 0 else 1) < 30)) = true := by intro _; rfl)
    (hline : (ap.endLine == cp.line) = true := by rfl) (hst : ∀ i, starEach [e] (m.F i).env = (false, eval e (m.F i).env) :: starEach [] (m.F i).env := by intro _; rfl) (hplain : ∀ i, (backTo cp (starEach [] (m.F i).env)).any (·.1) = false := by intro _; rfl)
    (hsw : ∀ i, swapsWith (.Call (.Attribute (.Name x p1) "append" ap) [e] [] cp) none pos.line (m.F i).env = pure false := by intro _; rfl) :
    wSs m.F (.Expr (.Call (.Attribute (.Name x p1) "append" ap) [e] [] cp) pos :: rest) D σ H := by
  obtain ⟨o, vs, hX1, hX2, hX3⟩ := hX
  refine ws_untag hX1 hX2 ?_
  have sl1 : Sl m.S.K (upd H a (.lst vs)) σ ds := opq_slots hX1 opq_exO hs
  have d1 : DpAll m.S.K (upd H a (.lst vs)) vs xs := opq_dpa hX1 opq_exO hX3
  refine wSs_cons (wS_of (t := tDrop (tBM m.S.K "list" rAppend (wE m.F (.Name x p1)) (wA m.F [e]))) (fun i => ps_expr (by rw [← ok.hK i]; exact pe_bm (es := []) PySem.F.plainAttrs_list PySem.F.slot_list_append PySem.F.type_list_append mt_append (wE_ok i) (wA_ok i) (hbase i) (hfew i) hline (hst i) (hplain i)) (hsw i)) ?_)
  refine ev_var (ok.at_ (upd H a (.lst vs))) j hN hd hv h1 h2 σ _ (ok.refl _) sl1 _ fun v H1 r1 dv => ?_
  obtain rfl : v = V.ref a := dv
  have e1 : H1 a = some (.lst vs) := ok.lk r1 upd_same
  refine ⟨.inl ⟨rfl, _, SqL.of e1⟩, wA_of (fun i => pa_cons (wE_ok i) pa_nil (hst i)) (he vs σ H1 r1 (ok.sl r1 sl1) _ fun u H2 r2 ⟨_, ⟨y, ey, ny, ay⟩, du⟩ => ?_)⟩
  subst ey
  have r12 := ok.trans r1 r2
  have e2 : H2 a = some (.lst vs) := ok.lk r2 e1
  have dl := dpa_len d1
  refine ⟨a, vs, u, rfl, rfl, e2, Nat.lt_of_lt_of_le (show vs.length < 20000 by omega) (by decide), ?_⟩
  refine ws_tag (a := a) upd_same fun o' lo => ?_
  rw [upd_upd]
  have st := fun b zs (z : SqT m.S.K H2 b zs) => sqt_any (u := exO a o') e2 b zs z
  refine q vs H2 o' y ay r12 ⟨o', vs ++ [u], upd_same, lo, ?_⟩ (simp_sl (ok.sl r12 sl1) hsi st)
  exact dpa_snoc (dpa_noT st (ok.dpa r12 d1) hxs) (dp_noT st du ny)
/-- x = [e, ..], kept exact -/
theorem ws_lstX (ok : m.Ok) (j : Nat) {x : Str} {es : List Expr} {Ps : List SV → Prop} {A : List PyData → Prop} {rest : List Stmt} {D : Ends} {p p2 : Pos} {σ : L2.St} {H : Hp} (hN : m.S.N[j]? = some x) (hr : m.R m.H0 H) (hs : Sl m.S.K H σ ds) (h : EAP m ds es Ps) (hx : ∀ rs, Ps rs → ∃ xs : List PyData, rs = xs.map SV.d ∧ xs.length ≤ 100 ∧ A xs)
    (q : ∀ H1 a o xs, m.R H H1 → H1 a = none → A xs → AccX m.S.K (upd H1 a (exO a o)) a xs → Sl m.S.K (upd H1 a (exO a o)) (σ.set j (some (.ref a))) (ds.set j (some (.v (.ref a)))) → wSs m.F rest D (σ.set j (some (.ref a))) (upd H1 a (exO a o)))
    (hl : ∀ i, Loc (m.F i).env.scope x := by intro _; first | exact Or.inl rfl | exact Or.inr rfl) (hsw : ∀ i, swapsWith (.List es p2) (some (.Name x p)) pos.line (m.F i).env = pure false := by intro _; rfl)
    (hf : ∀ i, (m.F i).fn x = true ∨ (m.F i).env.scope.names.lookup x = some .local := by intro _; first | exact Or.inl rfl | exact Or.inr rfl) : wSs m.F (.Assign [.Name x p] (.List es p2) pos :: rest) D σ H := by
  refine wSs_cons (wS_of (t := tAsg (wE m.F (.List es p2)) (gName j)) (fun i => ps_set (by rw [ok.hN i]; exact ok.nd) (by rw [ok.hN i]; exact hN) (hl i) (wE_ok i) (hsw i) (hf i)) ?_)
  refine wE_of (fun i => pe_lst (wA_ok i)) (h σ H hr hs _ fun vs H1 rs r1 p1 q1 => ?_)
  obtain ⟨xs, rfl, hz, hp⟩ := hx rs p1
  have l := DqAll.length q1
  rw [List.length_map] at l
  refine ⟨Nat.le_trans (by omega : vs.length ≤ 100) (by decide), fun a na => ?_⟩
  refine ws_tag (a := a) upd_same fun o lo => ?_
  rw [upd_upd]
  have e1 : Ex H1 (upd H1 a (exO a o)) := Ex.new na
  exact q H1 a o xs r1 na hp ⟨o, vs, upd_same, lo, DqAll.dp (ok.dqs (ok.ex e1) q1)⟩ ((ok.sl (ok.trans r1 (ok.ex e1)) hs).set (r := .v (.ref a)) j rfl)
end
/-- the pool's relation, a list a kept exact beside it -/
abbrev RP2 (a b : Addr) : Hp → Hp → Prop := RXS [a, b] (PX a)
theorem rp_rp2 {a b : Addr} {H H' : Hp} (r : RP a H H') : RP2 a b H H' := ⟨fun c o h n => r.1 c o h fun m => n (by simp at m ⊢; exact .inl m), r.2⟩
theorem px_upd {a b : Addr} {H : Hp} {u : HO} (ne : a ≠ b) (h : PX a H) : PX a (upd H b u) := let ⟨o, x, y, e, z⟩ := h; ⟨o, x, y, by rw [upd_ne ne]; exact e, z⟩
/-- behind an append -/
theorem rp2_app {a b : Addr} {H H2 : Hp} {o : Obj} {vs : List V} {u : HO} (ne : a ≠ b) (hb : H b = some (exO b o)) (r : RP2 a b (upd H b (.lst vs)) H2) : RP2 a b H (upd H2 b u) := by
  refine ⟨fun c v hc nc => ?_, fun g => px_upd ne (r.2 (px_upd ne g))⟩
  by_cases e : c = b
  · subst e
    rw [hb] at hc
    cases hc
    exact absurd trivial (nc (by simp))
  · rw [upd_ne e]
    exact r.1 c v (by rw [upd_ne e]; exact hc) nc
theorem rp_none {a : Addr} {H H' : Hp} {D : Addr} (r : RP a H H') (hp : PX a H) (h : H' D = none) : H D = none := by
  cases e : H D with
  | none => rfl
  | some o =>
    by_cases ed : D = a
    · subst ed
      obtain ⟨o', _, _, e', _⟩ := r.2 hp
      rw [e'] at h
      cases h
    · rw [r.1 D o e fun m => absurd (by simpa using m) ed] at h
      cases h
/-- a relation back to the pool's alone, of a list that is new -/
theorem rp_back {a b : Addr} {H H1 H2 : Hp} (hn : H b = none) (r1 : ∀ c o, c ≠ b → H c = some o → (c ∈ [a] → ¬ IsExt o) → H1 c = some o) (g1 : PX a H → PX a H1) (r2 : RP2 a b H1 H2) : RP a H H2 :=
  ⟨fun c o h n => r2.1 c o (r1 c o (ne_of_none h hn) h n) fun m => n (by
    simp only [List.mem_cons, List.not_mem_nil, or_false] at m ⊢
    exact m.resolve_right (ne_of_none h hn)), fun g => r2.2 (g1 g)⟩
section
variable {P : Program} {w : World} {K : PySem.W.Frag} {mg : Str → Option Value} {base : Heap}
def prePick (rs : List SV) (_ : Hp) : Prop := ∃ xs : List PyData, rs = [.d (.list xs)] ∧ 0 < xs.length ∧ xs.length ≤ 1000
def postPick (K : PySem.W.Frag) (rs : List SV) (v : V) (H : Hp) : Prop := ∃ (xs : List PyData) (x : PyData), rs = [.d (.list xs)] ∧ x ∈ xs ∧ Dp K H v x
theorem ok_zpick (T : Tx K mg) : CallOk P w K mg base "_law_pick" 2 (SpP K prePick (postPick K)) := by
  obtain ⟨fd, F⟩ := D_zpick T
  refine call_of F (fn_pool F sc_zpick (fun rs H ⟨_, e, _⟩ => by rw [e]; rfl) ?_) (g_zpick T) (fun _ _ _ _ _ _ us hl => match us, hl with | [_, _], _ => rfl)
  rintro cdv A outer st H E Q rs a hr ⟨xs, rfl, n0, n1⟩ hp ok hQ
  refine bd_retX ok (ep_ixL ok (xs := xs) (by walk_at "ev") (ep_draw ok T (Nat.le_refl _) (a := a) (fun h => h) (fun H' r => r.2 hp) (by walk_at "ev") (ev_lenL ok (xs := xs) (b_len T) (by walk_at "ev")) (by omega) (by omega)) (fun _ _ => rfl)) fun v H' r ⟨_, ⟨x, hx, e⟩, d⟩ => ?_
  subst e
  exact hQ v H' r ⟨xs, x, rfl, hx, d⟩
def preEnt (rs : List SV) (_ : Hp) : Prop := ∃ n : Int, rs = [.d (.int n)] ∧ 0 ≤ n ∧ n ≤ 9
def postEnt (K : PySem.W.Frag) (_ : List SV) (v : V) (H : Hp) : Prop := ∃ e, EntOk e ∧ Dp K H v (entD e)
theorem ok_zentry (T : Tx K mg) : CallOk P w K mg base "_law_entry" 2 (SpP K preEnt (postEnt K)) := by
  obtain ⟨fd, F⟩ := D_zentry T
  refine call_of F (fn_pool F sc_zentry (fun rs H ⟨_, e, _⟩ => by rw [e]; rfl) ?_) (g_zentry T) (fun _ _ _ _ _ _ us hl => match us, hl with | [_, _], _ => rfl)
  rintro cdv A outer st H E Q rs a hr ⟨n, rfl, n0, n1⟩ hp ok hQ
  have hP : ∀ H', RP a H H' → PX a H' := fun H' r => r.2 hp
  have m1 : CMul 2 n := .inl ⟨by decide, by decide⟩
  refine bd_ifP ok (tp_eqI ok (ep_draw ok T (Nat.le_refl _) (a := a) (fun h => h) hP (by walk_at "ev") (ev_int ok) (by decide) (by decide)) (ev_int ok)) ?_ ?_
  · exact bd_ret ok (ev_non ok) fun v H' r d => hQ v H' r ⟨none, (by intro p z; cases z), d⟩
  · refine bd_end (bd_retX ok (ep_tup ok (P := fun r => ∃ e, EntOk e ∧ r = .d (entD e)) (eap_cons ok (ep_sub ok (ep_draw ok T (Nat.le_refl _) (a := a) (n := 2 * n + 1) (fun h => h) hP (by walk_at "ev") (by walk_at "ev") (by omega) (by omega)) (EV.ep ok (P := isI (· = n)) (by walk_at "ev") ⟨_, rfl, rfl⟩)) (eap_cons ok (ep_sub ok (ep_draw ok T (Nat.le_refl _) (a := a) (n := 2 * n + 1) (fun h => h) hP (by walk_at "ev") (by walk_at "ev") (by omega) (by omega)) (EV.ep ok (P := isI (· = n)) (by walk_at "ev") ⟨_, rfl, rfl⟩)) (eap_nil ok))) fun rs h => ?_) fun v H' r ⟨_, ⟨e, he, e1⟩, d⟩ => ?_)
    · obtain ⟨_, _, rfl, ⟨i, rfl, i1, i2, i3, i4, rfl⟩, _, _, rfl, ⟨j, rfl, j1, j2, j3, j4, rfl⟩, rfl⟩ := h
      refine ⟨[.int (i1 - i2), .int (j1 - j2)], rfl, by show 2 ≤ 100; decide, some (i1 - i2, j1 - j2), fun p e => ?_, rfl⟩
      cases e
      show (-9 ≤ i1 - i2 ∧ i1 - i2 ≤ 9) ∧ -9 ≤ j1 - j2 ∧ j1 - j2 ≤ 9
      omega
    · subst e1
      exact hQ v H' r ⟨e, he, d⟩
end
/-! The law's rows of chances: _law_row, _law_rows. -/
structure CwS (x : Cw) : Prop where
  fs : ∀ f ∈ x.fs, OkF f ∧ 0 ≤ f.1 ∧ f.1 ≤ f.2 ∧ f.2 ∣ 60
  sum : addF (addF x.f0 x.f1) x.f2 = (1, 1)
theorem norm_part {o u : Int} (h0 : 0 ≤ o) (h1 : o ≤ u) (hu : 0 < u) (h6 : u ≤ 6) : OkF (norm o u) ∧ 0 ≤ (norm o u).1 ∧ (norm o u).1 ≤ (norm o u).2 ∧ (norm o u).2 ∣ 60 := by
  have g := gcd_pos (o := o) hu
  refine ⟨norm_ok hu, Int.ediv_nonneg h0 (Int.le_of_lt g), Int.ediv_le_ediv g h1, ?_⟩
  have d : (norm o u).2 ∣ u := ⟨(Int.gcd o u : Int), (Int.ediv_mul_cancel (Int.gcd_dvd_right ..)).symm⟩
  refine Int.dvd_trans d ?_
  have : u = 1 ∨ u = 2 ∨ u = 3 ∨ u = 4 ∨ u = 5 ∨ u = 6 := by omega
  rcases this with rfl | rfl | rfl | rfl | rfl | rfl <;> decide
theorem row_s {a b u : Int} (bd : Int) (ha : 0 ≤ a) (hb : 0 ≤ b) (hab : a + b ≤ u) (hu : 0 < u) (h6 : u ≤ 6) : CwS ⟨bd, norm a u, norm b u, norm (u - a - b) u⟩ := by
  refine ⟨fun f hf => ?_, ?_⟩
  · simp only [Cw.fs, List.mem_cons, List.not_mem_nil, or_false] at hf
    rcases hf with rfl | rfl | rfl
    · exact norm_part ha (by omega) hu h6
    · exact norm_part hb (by omega) hu h6
    · exact norm_part (by omega) (by omega) hu h6
  · have k1 := norm_ok (o := a) hu
    have k2 := norm_ok (o := b) hu
    have k3 := norm_ok (o := u - a - b) hu
    refine val_inj (add_ok (add_ok k1 k2) k3) (okI 1) ?_
    rw [val_add (add_ok k1 k2) k3, val_add k1 k2, val_norm hu, val_norm hu, val_norm hu, valI]
    have hne : (u : Rat) ≠ 0 := cast_ne (by omega)
    rw [Rat.intCast_sub, Rat.intCast_sub, show ((1 : Int) : Rat) = 1 from rfl]
    grind
def bOk (i : Nat) (b : Int) : Prop := (i = 0 → b = 0) ∧ (i = 1 → 3 ≤ b ∧ b ≤ 5) ∧ (i = 2 → 20 ≤ b ∧ b ≤ 22)
structure RowsOk (rows : List Cw) : Prop where
  len : rows.length ≤ 3
  all : ∀ (i : Nat) (x : Cw), rows[i]? = some x → bOk i x.b ∧ CwS x
theorem RowsOk.snoc {rows : List Cw} {x : Cw} (h : RowsOk rows) (hl : rows.length ≤ 2) (hb : bOk rows.length x.b) (hx : CwS x) : RowsOk (rows ++ [x]) := by
  refine ⟨by rw [List.length_append, List.length_singleton]; omega, fun i y hy => ?_⟩
  by_cases hi : i < rows.length
  · rw [List.getElem?_append_left hi] at hy
    exact h.all i y hy
  · rw [List.getElem?_append_right (by omega)] at hy
    have e : i = rows.length := by
      have := (List.getElem?_eq_some_iff.mp hy).1
      rw [List.length_singleton] at this
      omega
    subst e
    rw [Nat.sub_self] at hy
    cases hy
    exact ⟨hb, hx⟩
theorem RowsOk.cs {rows : List Cw} (h : RowsOk rows) : ∀ x ∈ rows, CwS x := fun x hx => by
  obtain ⟨i, hi⟩ := List.mem_iff_getElem?.mp hx
  exact (h.all i x hi).2
theorem RowsOk.cc {rows : List Cw} (h : RowsOk rows) (h1 : 1 ≤ rows.length) : CcOk rows := by
  have hlen := h.len
  refine ⟨h1, by omega, ?_, fun x hx => ?_, fun i r r' e e' => ?_⟩
  · cases rows with
    | nil => simp at h1
    | cons r rs => exact ⟨r, rs, rfl, (h.all 0 r rfl).1.1 rfl⟩
  · obtain ⟨i, hi⟩ := List.mem_iff_getElem?.mp hx
    obtain ⟨⟨b0, b1, b2⟩, s⟩ := h.all i x hi
    have hl := (List.getElem?_eq_some_iff.mp hi).1
    have hb : 0 ≤ x.b ∧ x.b ≤ 99 := by
      have : i = 0 ∨ i = 1 ∨ i = 2 := by omega
      rcases this with rfl | rfl | rfl
      · have := b0 rfl; omega
      · have := b1 rfl; omega
      · have := b2 rfl; omega
    refine ⟨hb.1, hb.2, fun f hf => ?_, s.sum⟩
    obtain ⟨f1, f2, f3, f4⟩ := s.fs f hf
    exact ⟨f1, f2, Int.le_trans (Int.le_of_dvd (by decide) f4) (by decide)⟩
  · obtain ⟨⟨b0, b1, b2⟩, _⟩ := h.all i r e
    obtain ⟨⟨c0, c1, c2⟩, _⟩ := h.all (i + 1) r' e'
    have hl := (List.getElem?_eq_some_iff.mp e').1
    have : i = 0 ∨ i = 1 := by omega
    rcases this with rfl | rfl
    · have := b0 rfl; have := c1 rfl; omega
    · have := b1 rfl; have := c2 rfl; omega
section
variable {K : PySem.W.Frag}
theorem AccX.rp {H H' : Hp} {a b : Addr} {xs : List PyData} (h : AccX K H b xs) (r : RP a H H') (ne : b ≠ a) : AccX K H' b xs :=
  let ⟨o, vs, h1, h2, h3⟩ := h
  ⟨o, vs, r.1 _ _ h1 fun m => absurd (by simpa using m) ne, h2, dpa_of (fun _ _ => (kp_rxs gok_px).sl_ r) (fun _ _ => (kp_rxs gok_px).st_ r) h3⟩
theorem rp_updN {H H' : Hp} {a b : Addr} {u : HO} (ne : a ≠ b) (hn : H b = none) (r : RP a H H') : RP a H (upd H' b u) :=
  ⟨fun c o h n => by rw [upd_ne (ne_of_none h hn)]; exact r.1 c o h n, fun g => px_upd ne (r.2 g)⟩
theorem px_ne {H : Hp} {a b : Addr} (h : PX a H) (hn : H b = none) : a ≠ b := by
  rintro rfl
  obtain ⟨o, _, _, e, _⟩ := h
  rw [e] at hn
  cases hn
end
section
variable {P : Program} {w : World} {K : PySem.W.Frag} {mg : Str → Option Value} {base : Heap}
def preRow (rs : List SV) (_ : Hp) : Prop := ∃ b : Int, rs = [.d (.int b)]
def postRow (K : PySem.W.Frag) (rs : List SV) (v : V) (H : Hp) : Prop := ∃ x : Cw, rs = [.d (.int x.b)] ∧ CwS x ∧ Dp K H v (cwD x)
theorem ok_zrow (T : Tx K mg) : CallOk P w K mg base "_law_row" 2 (SpP K preRow (postRow K)) := by
  have C1 := ok_zsmall (P := P) (w := w) (base := base) T
  obtain ⟨fd, F⟩ := D_zrow T
  refine call_of F (fn_pool F sc_zrow (fun rs H ⟨_, e⟩ => by rw [e]; rfl) ?_) (g_zrow T) (fun _ _ _ _ _ _ us hl => match us, hl with | [_, _], _ => rfl)
  rintro cdv A outer st H E Q rs a hr ⟨bd, rfl⟩ hp ok hQ
  have hP : ∀ H', RP a H H' → PX a H' := fun H' r => r.2 hp
  refine bd_asgP ok 2 rfl (ep_add ok (EV.ep ok (P := isI (· = 1)) (ev_int ok) ⟨_, rfl, rfl⟩) (ep_draw ok T (Nat.le_refl _) (a := a) (fun h => h) hP (by walk_at "ev") (ev_int ok) (by decide) (by decide))) fun r hu => ?_
  obtain ⟨u, rfl, i, j, hi, ⟨j0, j1⟩, hu⟩ := hu
  have u1 : 1 ≤ u ∧ u ≤ 6 := by omega
  clear hu hi j0 j1
  refine bd_asgP ok 3 rfl (ep_draw ok T (Nat.le_refl _) (a := a) (n := u + 1) (fun h => h) hP (by walk_at "ev") (by walk_at "ev") (by omega) (by omega)) fun r hx => ?_
  obtain ⟨x, rfl, x0, x1⟩ := hx
  refine bd_asgP ok 4 rfl (ep_draw ok T (Nat.le_refl _) (a := a) (n := u - x + 1) (fun h => h) hP (by walk_at "ev") (by walk_at "ev") (by omega) (by omega)) fun r hy => ?_
  obtain ⟨y, rfl, y0, y1⟩ := hy
  refine bd_asg ok 5 (r := .d (.list [pr (norm x u), pr (norm y u), pr (norm (u - x - y) u)])) rfl (ev_lst ok (xs := [pr (norm x u), pr (norm y u), pr (norm (u - x - y) u)]) (ea_cons ok (ev_call ok C1 (Nat.le_refl _) (ea_two ok (by walk_at "ev") (by walk_at "ev")) fun _ _ => ⟨x, u, rfl, by omega, by omega, rfl⟩) (ea_two ok (ev_call ok C1 (Nat.le_refl _) (ea_two ok (by walk_at "ev") (by walk_at "ev")) fun _ _ => ⟨y, u, rfl, by omega, by omega, rfl⟩) (ev_call ok C1 (Nat.le_refl _) (ea_two ok (by walk_at "ev") (by walk_at "ev")) fun _ _ => ⟨u - x - y, u, rfl, by omega, by omega, rfl⟩))) (by show 3 ≤ 100; decide)) ?_
  refine bd_ret ok (ev_tup ok (xs := [.int bd, pr (norm x u), pr (norm y u), pr (norm (u - x - y) u)]) (ea_cons ok (by walk_at "ev") (ea_cons ok (ev_ixL ok (xs := [pr (norm x u), pr (norm y u), pr (norm (u - x - y) u)]) (by walk_at "ev") (ev_int ok) (atI_get (n := 0) rfl) (fun _ _ => rfl)) (ea_two ok (ev_ixL ok (xs := [pr (norm x u), pr (norm y u), pr (norm (u - x - y) u)]) (by walk_at "ev") (ev_int ok) (atI_get (n := 1) rfl) (fun _ _ => rfl)) (ev_ixL ok (xs := [pr (norm x u), pr (norm y u), pr (norm (u - x - y) u)]) (by walk_at "ev") (ev_int ok) (atI_get (n := 2) rfl) (fun _ _ => rfl))))) (by show 4 ≤ 100; decide)) fun v H' r d => ?_
  exact hQ v H' r ⟨⟨bd, norm x u, norm y u, norm (u - x - y) u⟩, rfl, row_s bd x0 y0 (by omega) (by omega) u1.2, d⟩
end
section
variable {ι : Type} {m : Mo ι} {ds : Sd} {pos : Pos}
theorem ep_row (ok : m.Ok) (T : Tx m.S.K m.S.mg) (hk : 2 ≤ m.k) {a : Addr} {e f : Expr} {B : Int → Prop} {p : Pos} (hR : ∀ {H H'}, RP a H H' → m.R H H') (hP : ∀ H, m.R m.H0 H → PX a H) (he : EV m ds e (.v (.ref a))) (hf : EP m ds f (isI B))
    (hg : ∀ i, Gl (m.F i) "_law_row" := by intro _; rfl)
    (hs : ∀ i, starEach [e, f] (m.F i).env = (false, eval e (m.F i).env) :: starEach [f] (m.F i).env := by intro _; rfl) (hs2 : ∀ i, starEach [f] (m.F i).env = (false, eval f (m.F i).env) :: starEach [] (m.F i).env := by intro _; rfl) (hpl : ∀ i, (backTo pos (starEach [f] (m.F i).env)).any (·.1) = false := by intro _; rfl) :
    EP m ds (.Call (.Name "_law_row" p) [e, f] [] pos) (fun r => ∃ y, r = .d y ∧ noL y = true ∧ ∃ x : Cw, y = cwD x ∧ CwS x ∧ B x.b) := fun σ H hr hsl Q q =>
  ex_callP ok (ok_zrow (P := m.S.P) (w := m.S.w) (base := m.S.base) T) hk hR hP (eap_cons ok (EV.ep ok (P := (· = .v (.ref a))) he rfl) (eap_cons ok hf (eap_nil ok) hs2) hs) (fun rs H _ h => by
    obtain ⟨r, rs', rfl, rfl, r2, rs2, rfl, ⟨i, rfl, _⟩, rfl⟩ := h
    exact ⟨_, rfl, i, rfl⟩) hg (by decide) hs hpl σ H hr hsl Q fun v H2 r2 ⟨rs', h, x, e2, hx, d⟩ => by
    obtain ⟨r, rs3, e3, _, r4, rs4, e4, ⟨i, e5, hb⟩, e6⟩ := h
    subst e2 e6 e5
    simp only [List.cons.injEq] at e3
    obtain ⟨_, e7⟩ := e3
    rw [← e7] at e4
    simp only [List.cons.injEq, SV.d.injEq, PyData.int.injEq, and_true] at e4
    subst e4
    exact q v H2 r2 ⟨_, ⟨_, rfl, noL_cwD x, x, rfl, hx, hb⟩, d⟩
end
/-! The law's rows of chances: _law_rows. -/
section
variable {P : Program} {w : World} {K : PySem.W.Frag} {mg : Str → Option Value} {base : Heap}
def preRows (rs : List SV) (_ : Hp) : Prop := rs = []
def postRows (K : PySem.W.Frag) (_ : List SV) (v : V) (H : Hp) : Prop := ∃ rows : List Cw, RowsOk rows ∧ 1 ≤ rows.length ∧ Dp K H v (.list (rows.map cwD))
theorem noLs_cw (rows : List Cw) : noL.noLs (rows.map cwD) = true := noLs_of fun x hx => by
  obtain ⟨c, _, rfl⟩ := List.mem_map.mp hx
  exact noL_cwD c
theorem ok_zrows (T : Tx K mg) : CallOk P w K mg base "_law_rows" 3 (SpP K preRows (postRows K)) := by
  obtain ⟨fd, F⟩ := D_zrows T
  refine call_of F (fn_pool F sc_zrows (fun rs H e => by rw [show rs = [] from e]; rfl) ?_) (g_zrows T) (fun _ _ _ _ _ _ us hl => match us, hl with | [_], _ => rfl)
  rintro cdv A outer st H E Q rs a hr e0 hp ok hQ
  obtain rfl : rs = [] := e0
  have hP : ∀ H', RP a H H' → PX a H' := fun H' r => r.2 hp
  have kp1 := kp_rxs (K := K) (gok_px (a := a)) (S := [a])
  intro σ H1 r1 s1
  refine ws_lstX ok 1 rfl r1 s1 (A := fun xs => ∃ rows : List Cw, RowsOk rows ∧ rows.length = 1 ∧ xs = rows.map cwD) (eap_cons ok (ep_row ok T (Nat.le_refl _) (a := a) (B := (· = 0)) (fun h => h) hP (by walk_at "ev") (EV.ep ok (P := isI (· = 0)) (ev_int ok) ⟨_, rfl, rfl⟩)) (eap_nil ok)) (fun rs h => ?_) fun H2 af o xs r2 nf hA hX s2 => ?_
  · obtain ⟨_, _, rfl, ⟨_, rfl, _, x, rfl, hx, hb⟩, rfl⟩ := h
    refine ⟨[cwD x], rfl, by show 1 ≤ 100; decide, [x], ⟨by show 1 ≤ 3; decide, fun i y hy => ?_⟩, rfl, rfl⟩
    have hi := (List.getElem?_eq_some_iff.mp hy).1
    have : i = 0 := by
      rw [List.length_singleton] at hi
      omega
    subst this
    cases hy
    exact ⟨⟨fun _ => hb, fun z => (by omega), fun z => (by omega)⟩, hx⟩
  obtain ⟨rows0, hr0, hl0, rfl⟩ := hA
  have r12 : RP a H H2 := kp1.trans r1 r2
  have p2 : PX a H2 := hP H2 r12
  have ne : a ≠ af := px_ne p2 nf
  have hn : H af = none := rp_none r12 hp nf
  generalize hH3 : upd H2 af (exO af o) = H3 at hX s2 ⊢
  have r13 : RP a H H3 := by rw [← hH3]; exact rp_updN ne hn r12
  have p3 : PX a H3 := hP H3 r13
  have ok3 := ok.at_ H3
  have kp2 := kp_rxs (K := K) (gok_px (a := a)) (S := [a, af])
  refine ws_forRP ok3 kp2 (kp1.refl H3) s2 (ivrp_list ok3 kp2 (P := fun xs => ∃ n : Nat, n ≤ 2 ∧ xs = ([.int 3, .int 20] : List PyData).take n) (EP.imp (ep_takeL ok3 (xs := [.int 3, .int 20]) (ev_lst ok3 (xs := [.int 3, .int 20]) (ea_two ok3 (ev_int ok3) (ev_int ok3)) (by show 2 ≤ 100; decide)) (ep_draw ok3 T (by show 1 ≤ 2; decide) (a := a) (n := 3) (fun h => h) (fun H' r => r.2 p3) (by walk_at "ev") (ev_int ok3) (by decide) (by decide)) fun i h => h.1) fun r ⟨n, hn2, e⟩ => ⟨_, e, n, by omega, rfl⟩))
    (fun _ i ds' H' => ∃ (q : Option SV) (rows : List Cw), ds' = [some (.v (.ref a)), some (.v (.ref af)), q] ∧ AccX K H' af (rows.map cwD) ∧ RowsOk rows ∧ rows.length = i + 1) (fun _ i ds' Ha Hb e ⟨q, rows, h1, h2, h3⟩ => ⟨q, rows, h1, h2.ex e, h3⟩) (fun _ H4 _ r4 => ⟨none, rows0, rfl, hX.rp r4 ne.symm, hr0, hl0⟩) ?_ ?_
  · rintro xs H4 ⟨n, hn2, rfl⟩ r4 ok4 i v _ σ5 H5 hi r5 ⟨q, rows, rfl, hX5, hro, hlr⟩ s5 dv
    have hlen : (([.int 3, .int 20] : List PyData).take n).length = n := by
      rw [List.length_take]
      show min n 2 = n
      omega
    have hbd : ∃ bd : Int, (([.int 3, .int 20] : List PyData).take n).getD i .none = .int bd ∧ (i = 0 → bd = 3) ∧ (i = 1 → bd = 20) := by
      have hin : i < n := by omega
      have : (([.int 3, .int 20] : List PyData).take n).getD i .none = ([.int 3, .int 20] : List PyData).getD i .none := by
        rw [List.getD_eq_getElem?_getD, List.getD_eq_getElem?_getD, List.getElem?_take_of_lt hin]
      rw [this]
      have : i = 0 ∨ i = 1 := by omega
      rcases this with rfl | rfl
      · exact ⟨3, rfl, fun _ => rfl, fun z => by omega⟩
      · exact ⟨20, rfl, fun z => by omega, fun _ => rfl⟩
    obtain ⟨bd, hbd, hb0, hb1⟩ := hbd
    rw [hbd] at dv
    have p4 : PX a H4 := r4.2 p3
    have p5 : PX a H5 := r5.2 p4
    refine wG_name ok 2 rfl ?_
    have ok5 := ok4.at_ H5
    obtain ⟨o5, vs5, x1, x2, x3⟩ := id hX5
    refine ws_appXP ok5 1 (a := af) (A := fun y => ∃ x : Cw, y = cwD x ∧ CwS x ∧ bOk (i + 1) x.b) rfl rfl (s5.set (r := .d (.int bd)) 2 dv) rfl hX5 (noLs_cw rows) (by rw [List.length_map]; omega) (fun vs => ?_) (fun vs H6 o' y hy r6 hX6 s6 => ?_) (by walk_at "vis")
    · have ok6 := ok5.at_ (upd H5 af (.lst vs))
      have p6 : PX a (upd H5 af (.lst vs)) := px_upd ne p5
      refine EP.imp (ep_row ok6 T (by show 2 ≤ 2; decide) (a := a) rp_rp2 (fun H' r => r.2 p6) (by walk_at "ev") (ep_add ok6 (EV.ep ok6 (P := isI (· = bd)) (by walk_at "ev") ⟨_, rfl, rfl⟩) (ep_draw ok6 T (by show 1 ≤ 2; decide) (a := a) (n := 3) rp_rp2 (fun H' r => r.2 p6) (by walk_at "ev") (ev_int ok6) (by decide) (by decide)))) fun r ⟨y, e, ny, x, ex, hx, k1, k2, e1, ⟨e2, e3⟩, e4⟩ => ⟨y, e, ny, x, ex, hx, ?_⟩
      have : i = 0 ∨ i = 1 := by omega
      rcases this with rfl | rfl
      · have := hb0 rfl
        exact ⟨fun z => by omega, fun _ => by omega, fun z => by omega⟩
      · have := hb1 rfl
        exact ⟨fun z => by omega, fun z => by omega, fun _ => by omega⟩
    · obtain ⟨x, rfl, hx, hb⟩ := hy
      refine wSs_nil ⟨_, kp2.trans r5 (rp2_app ne x1 r6), ⟨some (.d (.int bd)), rows ++ [x], rfl, ?_, hro.snoc (by omega) (by rw [hlr]; exact hb) hx, by rw [List.length_append, hlr]; rfl⟩, s6⟩
      rw [List.map_append]
      exact hX6
  · rintro xs H4 _ σ5 H5 _ r4 r5 ⟨q, rows, rfl, hX5, hro, hlr⟩ s5
    obtain ⟨o5, vs5, x1, x2, x3⟩ := hX5
    refine ws_untag x1 x2 ?_
    have r14 : RP a H H4 := kp1.trans r13 r4
    have r15 : RP a H H5 := rp_back hn (fun c o _ h n => r14.1 c o h n) r14.2 r5
    have r16 : RP a H (upd H5 af (.lst vs5)) := rp_updN ne hn r15
    have ok6 := ok.at_ (upd H5 af (.lst vs5))
    have s6 : Sl K (upd H5 af (.lst vs5)) σ5 [some (.v (.ref a)), some (.v (.ref af)), q] := opq_slots x1 opq_exO s5
    have d6 : DpAll K (upd H5 af (.lst vs5)) vs5 (rows.map cwD) := opq_dpa x1 opq_exO x3
    refine bd_ret ok6 (r := .v (.ref af)) (by walk_at "ev") (fun v H7 r7 d7 => ?_) σ5 _ (kp1.refl _) s6
    obtain rfl : v = V.ref af := d7
    exact hQ _ H7 (kp1.trans r16 r7) ⟨rows, hro, by omega, .lst (SqL.of (kp1.lk r7 upd_same)) (ok.dpa r7 d6)⟩
end
/-! Stores into a dict with text keys; the law's model made. -/
section
variable {K : PySem.W.Frag} {H : Hp} {d : Addr} {kvs : List (Key × V)} {u : HO}
theorem dk_lst {b : Addr} {xs : List V} (h : H d = some (.dK kvs)) (q : SqL K H b xs) : SqL K (upd H d u) b xs := by
  rcases q with (q | ⟨z, q⟩) | q
  · exact .inl (.inl (by rw [upd_ne (ne_of q h (by intro z; cases z))]; exact q))
  · exact .inl (.inr ⟨z, by rw [upd_ne (ne_of q h (by intro z; cases z))]; exact q⟩)
  · exact .inr q
theorem dk_tup {b : Addr} {xs : List V} (h : H d = some (.dK kvs)) (q : SqT K H b xs) : SqT K (upd H d u) b xs := by
  rcases q with (q | ⟨z, q⟩) | q
  · exact .inl (.inl (by rw [upd_ne (ne_of q h (by intro z; cases z))]; exact q))
  · exact .inl (.inr ⟨z, by rw [upd_ne (ne_of q h (by intro z; cases z))]; exact q⟩)
  · exact .inr q
theorem dk_dp {v : V} {x : PyData} (h : H d = some (.dK kvs)) (q : Dp K H v x) : Dp K (upd H d u) v x := dp_of (fun _ _ => dk_lst h) (fun _ _ => dk_tup h) q
theorem dk_slots {σ : L2.St} {ds : Sd} (h : H d = some (.dK kvs)) (q : Sl K H σ ds) : Sl K (upd H d u) σ ds := ⟨q.1, fun i r e => by
  obtain ⟨v, x, y⟩ := q.2 i r e
  refine ⟨v, x, ?_⟩
  cases r with
  | d x => exact dk_dp h y
  | v w => exact y
  | l xs =>
    obtain ⟨b, vs, e1, h1, h2⟩ := y
    exact ⟨b, vs, e1, by rw [upd_ne (ne_of h1 h (by intro z; cases z))]; exact h1, dpa_of (fun _ _ => dk_lst h) (fun _ _ => dk_tup h) h2⟩⟩
end
theorem rp_upd {H H' : Hp} {a b : Addr} {u : HO} (hn : H b = none) (r : RP a H H') : RP a H (upd H' b u) := ⟨fun c o h n => by rw [upd_ne (ne_of_none h hn)]; exact r.1 c o h n, fun g => px_upd (px_ne g hn) (r.2 g)⟩
section
variable {ι : Type} {m : Mo ι} {ds : Sd} {pos : Pos}
/-- d["key"] = e -/
theorem bd_putD (ok : m.Ok) {d : Addr} {o i value : Expr} {kvs : List (Key × V)} {key : Str} {B : Int → Prop} {rest : List Stmt} {D : Ends} {pos' : Pos} (hv : EP m ds value (isI B)) (ho : EV m ds o (.v (.ref d))) (hi : EV m ds i (.d (.str key))) (hd : ∀ H, m.R m.H0 H → H d = some (.dK kvs)) (hl : kvs.length ≤ 100)
    (q : ∀ H n, m.R m.H0 H → B n → (m.at_ (upd H d (.dK (putK kvs (.inr key) (.int n))))).Ok → BD (m.at_ (upd H d (.dK (putK kvs (.inr key) (.int n))))) ds rest D)
    (hsw : ∀ j, swapsWith value (some (.Subscript o i pos')) pos.line (m.F j).env = pure false := by intro _; rfl) : BD m ds (.Assign [.Subscript o i pos'] value pos :: rest) D := fun σ H hr hs => by
  refine wSs_cons (wS_of (t := sDPut (wE m.F o) (wE m.F i) (wE m.F value)) (fun j => ps_dput (by have := (ok.room j).un; omega) (wE_ok j) (wE_ok j) (wE_ok j) (hsw j)) ?_)
  refine hv σ H hr hs _ fun u H1 r1 ⟨_, ⟨n, e1, bn⟩, d1⟩ => ho σ H1 (ok.trans hr r1) (ok.sl r1 hs) _ fun y H2 r2 d2 => hi σ H2 (ok.trans hr (ok.trans r1 r2)) (ok.sl (ok.trans r1 r2) hs) _ fun t H3 r3 d3 => ?_
  subst e1
  have r13 := ok.trans r1 (ok.trans r2 r3)
  have e3 := hd H3 (ok.trans hr r13)
  obtain rfl : y = V.ref d := d2
  obtain rfl := Dp.str_inv d3
  obtain rfl := Dp.int_inv d1
  exact ⟨d, _, rfl, DPut.k (k := .inr key) e3 (Nat.lt_of_le_of_lt hl (by decide)), q H3 n (ok.trans hr r13) bn (ok.at_ _) σ _ (ok.refl _) (dk_slots e3 (ok.sl r13 hs))⟩
/-- d["key"], d["key2"] = e, f -/
theorem bd_put2D (ok : m.Ok) {d : Addr} {o i o2 i2 e f : Expr} {kvs : List (Key × V)} {key key2 : Str} {B B2 : Int → Prop} {rest : List Stmt} {D : Ends} {p1 p2 tp tp2 : Pos} {kk kk2 : Nat} (hv : EAP m ds [e, f] (fun rs => ∃ r rs', rs = r :: rs' ∧ isI B r ∧ ∃ r2 rs2, rs' = r2 :: rs2 ∧ isI B2 r2 ∧ rs2 = [])) (ho : EV m ds o (.v (.ref d))) (hi : EV m ds i (.d (.str key))) (hd : ∀ H, m.R m.H0 H → H d = some (.dK kvs)) (hl : kvs.length ≤ 100)
    (ho2 : ∀ H, EV (m.at_ H) ds o2 (.v (.ref d))) (hi2 : ∀ H, EV (m.at_ H) ds i2 (.d (.str key2))) (hdk : ∀ {H H' : Hp} {kv}, m.R H H' → H d = some (.dK kv) → H' d = some (.dK kv))
    (q : ∀ H n n2, m.R m.H0 H → B n → B2 n2 → ∀ H2, m.R (upd H d (.dK (putK kvs (.inr key) (.int n)))) H2 → BD (m.at_ (upd H2 d (.dK (putK (putK kvs (.inr key) (.int n)) (.inr key2) (.int n2))))) ds rest D)
    (hpg : ∀ z, PG (m.F z) (.Tuple [.Subscript o i p1, .Subscript o2 i2 p2] kk tp) (gTup m.S.K 2 (gCons (gSub (wE m.F o) (wE m.F i) rSetD) (gCons (gSub (wE m.F o2) (wE m.F i2) rSetD) gNil))))
    (hsw : ∀ z, swapsWithSole [.Tuple [.Subscript o i p1, .Subscript o2 i2 p2] kk tp] (.Tuple [e, f] kk2 tp2) pos.line (m.F z).env = pure false := by intro _; rfl) (hw : ∀ z, swappedStores [.Tuple [.Subscript o i p1, .Subscript o2 i2 p2] kk tp] (.Tuple [e, f] kk2 tp2) (m.F z).env = pure none := by intro _; rfl)
    (h1 : ∀ z, (assignEach [.Tuple [.Subscript o i p1, .Subscript o2 i2 p2] kk tp] (m.F z).env).map (·.2) = [assign (.Tuple [.Subscript o i p1, .Subscript o2 i2 p2] kk tp) (m.F z).env] := by intro _; rfl) : BD m ds (.Assign [.Tuple [.Subscript o i p1, .Subscript o2 i2 p2] kk tp] (.Tuple [e, f] kk2 tp2) pos :: rest) D := fun σ H hr hs => by
  refine wSs_cons (wS_of (t := tAsg (tTup (wA m.F [e, f])) (gTup m.S.K 2 (gCons (gSub (wE m.F o) (wE m.F i) rSetD) (gCons (gSub (wE m.F o2) (wE m.F i2) rSetD) gNil)))) (fun z => ps_asg (pe_tup (wA_ok z)) (hpg z) (hsw z) (hw z) (h1 z)) ?_)
  refine hv σ H hr hs _ fun vs H1 rs r1 p1 d1 => ?_
  obtain ⟨_, _, rfl, ⟨n, rfl, bn⟩, _, _, rfl, ⟨n2, rfl, bn2⟩, rfl⟩ := p1
  obtain ⟨u, u2, rfl, du, du2⟩ := dqa2 d1
  obtain rfl := Dp.int_inv du
  obtain rfl := Dp.int_inv du2
  refine ⟨by show 2 ≤ sizeLine; decide, fun p hp => ⟨p, _, rfl, SqT.of upd_same, rfl, _, _, rfl, ?_⟩⟩
  have r2 := ok.trans r1 (ok.new (o := HO.tup [V.int n, V.int n2]) hp)
  refine ho σ _ (ok.trans hr r2) (ok.sl r2 hs) _ fun y H3 r3 d3 => hi σ H3 (ok.trans hr (ok.trans r2 r3)) (ok.sl (ok.trans r2 r3) hs) _ fun t H4 r4 d4 => ?_
  have r14 := ok.trans r2 (ok.trans r3 r4)
  have e4 := hd H4 (ok.trans hr r14)
  obtain rfl : y = V.ref d := d3
  obtain rfl := Dp.str_inv d4
  refine ⟨d, _, rfl, DPut.k (k := .inr key) e4 (Nat.lt_of_le_of_lt hl (by decide)), _, _, rfl, ?_⟩
  have s4 : Sl m.S.K (upd H4 d (.dK (putK kvs (.inr key) (.int n)))) σ ds := dk_slots e4 (ok.sl r14 hs)
  refine ho2 (upd H4 d (.dK (putK kvs (.inr key) (.int n)))) σ _ (ok.refl _) s4 _ fun y5 H5 r5 d5 => hi2 (upd H4 d (.dK (putK kvs (.inr key) (.int n)))) σ H5 r5 (ok.sl r5 s4) _ fun t6 H6 r6 d6 => ?_
  have r56 := ok.trans r5 r6
  have e6 := hdk r56 upd_same
  obtain rfl : y5 = V.ref d := d5
  obtain rfl := Dp.str_inv d6
  have hl2 : (putK kvs (.inr key) (.int n)).length ≤ 101 := by
    unfold putK
    split
    · rw [List.length_map]; omega
    · rw [List.length_append, List.length_singleton]; omega
  exact ⟨d, _, rfl, DPut.k (k := .inr key2) e6 (Nat.lt_of_le_of_lt hl2 (by decide)), rfl, q H4 n n2 (ok.trans hr r14) bn bn2 H6 r56 σ _ (ok.refl _) (dk_slots e6 (ok.sl r56 s4))⟩
/-- the dict of the law's model, displayed -/
theorem ex_mdict (ok : m.Ok) {v1 v2 v3 v4 v5 v6 : Expr} {low f t g : Int} {B : Int → Prop} {tb : V} {j1 j2 j3 j4 j5 j6 : Nat} {p1 p2 p3 p4 p5 p6 : Pos} (h1 : EV m ds v1 (.d (.int low))) (h2 : EP m ds v2 (isI B)) (h3 : EV m ds v3 (.v tb)) (h4 : EV m ds v4 (.d (.int f))) (h5 : EV m ds v5 (.d (.int t))) (h6 : EV m ds v6 (.d (.int g)))
    (hdk : ∀ {H H' : Hp} {p kv}, m.R H H' → H p = some (.dK kv) → H' p = some (.dK kv)) (hup : ∀ {H H2 : Hp} {p : Addr} {u : HO}, H p = none → m.R H H2 → m.R H (upd H2 p u)) :
    EX m ds (.Dict [some (.Constant (.str "low") j1 p1), some (.Constant (.str "high") j2 p2), some (.Constant (.str "table") j3 p3), some (.Constant (.str "fresh") j4 p4), some (.Constant (.str "times") j5 p5), some (.Constant (.str "bonus") j6 p6)] [v1, v2, v3, v4, v5, v6] pos)
      (fun v H => ∃ p hi Hs, v = .ref p ∧ m.R m.H0 Hs ∧ Hs p = none ∧ B hi ∧ H p = some (.dK [(.inr "low", .int low), (.inr "high", .int hi), (.inr "table", tb), (.inr "fresh", .int f), (.inr "times", .int t), (.inr "bonus", .int g)])) := fun σ H hr hs Q q => by
  refine wE_of (t := tDisp [(_, wE m.F v1), (_, wE m.F v2), (_, wE m.F v3), (_, wE m.F v4), (_, wE m.F v5), (_, wE m.F v6)]) (fun j => pe_disp (pps_cons pe_str (wE_ok j) (pps_cons pe_str (wE_ok j) (pps_cons pe_str (wE_ok j) (pps_cons pe_str (wE_ok j) (pps_cons pe_str (wE_ok j) (pps_cons pe_str (wE_ok j) pps_nil)))))) rfl rfl (fun z => nomatch z) (by show 6 ≤ 15; decide)) ?_
  intro p hp
  have e0 : m.R H (upd H p (.dK [])) := ok.new hp
  refine h1 σ _ (ok.trans hr e0) (ok.sl e0 hs) _ fun u1 H1 r1 d1 => ?_
  have q1 := ok.trans e0 r1
  refine h2 σ H1 (ok.trans hr q1) (ok.sl q1 hs) _ fun u2 H2 r2 ⟨_, ⟨hi, ei, bi⟩, d2⟩ => ?_
  subst ei
  have q2 := ok.trans q1 r2
  refine h3 σ H2 (ok.trans hr q2) (ok.sl q2 hs) _ fun u3 H3 r3 d3 => ?_
  have q3 := ok.trans q2 r3
  refine h4 σ H3 (ok.trans hr q3) (ok.sl q3 hs) _ fun u4 H4 r4 d4 => ?_
  have q4 := ok.trans q3 r4
  refine h5 σ H4 (ok.trans hr q4) (ok.sl q4 hs) _ fun u5 H5 r5 d5 => ?_
  have q5 := ok.trans q4 r5
  refine h6 σ H5 (ok.trans hr q5) (ok.sl q5 hs) _ fun u6 H6 r6 d6 => ?_
  have q6 := ok.trans q5 r6
  obtain rfl := Dp.int_inv d1
  obtain rfl := Dp.int_inv d2
  obtain rfl : u3 = tb := d3
  obtain rfl := Dp.int_inv d4
  obtain rfl := Dp.int_inv d5
  obtain rfl := Dp.int_inv d6
  refine ⟨hdk (ok.trans r1 (ok.trans r2 (ok.trans r3 (ok.trans r4 (ok.trans r5 r6))))) upd_same, [(.inr "low", .int low), (.inr "high", .int hi), (.inr "table", u3), (.inr "fresh", .int f), (.inr "times", .int t), (.inr "bonus", .int g)], rfl, by show 6 ≤ 15; decide, ?_⟩
  exact q _ _ (hup hp q6) ⟨p, hi, H, rfl, hr, hp, bi, upd_same⟩
end
theorem mPut_ft (b : Bk) (vt : V) (x y : Int) : putK (putK (mFs b vt) (.inr "fresh") (.int x)) (.inr "times") (.int y) = mFs { b with fresh := x, times := y } vt := rfl
theorem mPut_b (b : Bk) (vt : V) (x : Int) : putK (mFs b vt) (.inr "bonus") (.int x) = mFs { b with bonus := x } vt := rfl
/-! The law's model: _law_model. -/
theorem Sl.fgt {K : PySem.W.Frag} {H : Hp} {σ : L2.St} {ds : Sd} (q : Sl K H σ ds) (j : Nat) : Sl K H σ (ds.set j Option.none) := q.drop (List.length_set ..) fun i r e => by
  by_cases h : j = i
  · subst h
    rw [List.getElem?_set] at e
    split at e
    · split at e <;> cases e
    · rename_i h
      exact absurd rfl h
  · rw [List.getElem?_set_ne h] at e
    exact e
def tOk (i : Nat) (b : Int) : Prop := (i = 0 → b = 0) ∧ (i = 1 → 1 ≤ b ∧ b ≤ 2)
structure TabR (rows : List Rw) : Prop where
  len : rows.length ≤ 2
  all : ∀ (i : Nat) (x : Rw), rows[i]? = some x → tOk i x.b ∧ ∀ e ∈ x.es, EntOk e
theorem TabR.snoc {rows : List Rw} {x : Rw} (h : TabR rows) (hl : rows.length ≤ 1) (hb : tOk rows.length x.b) (hx : ∀ e ∈ x.es, EntOk e) : TabR (rows ++ [x]) := by
  refine ⟨by rw [List.length_append, List.length_singleton]; omega, fun i y hy => ?_⟩
  by_cases hi : i < rows.length
  · rw [List.getElem?_append_left hi] at hy
    exact h.all i y hy
  · rw [List.getElem?_append_right (by omega)] at hy
    have e : i = rows.length := by
      have := (List.getElem?_eq_some_iff.mp hy).1
      rw [List.length_singleton] at this
      omega
    subst e
    rw [Nat.sub_self] at hy
    cases hy
    exact ⟨hb, hx⟩
theorem TabR.ok {rows : List Rw} (h : TabR rows) (h1 : 1 ≤ rows.length) : TabOk rows := by
  have hlen := h.len
  refine ⟨h1, by omega, ?_, fun x hx => ?_, fun i r r' e e' => ?_⟩
  · cases rows with
    | nil => simp at h1
    | cons r rs => exact ⟨r, rs, rfl, (h.all 0 r rfl).1.1 rfl⟩
  · obtain ⟨i, hi⟩ := List.mem_iff_getElem?.mp hx
    obtain ⟨⟨b0, b1⟩, s⟩ := h.all i x hi
    have hl := (List.getElem?_eq_some_iff.mp hi).1
    have hb : 0 ≤ x.b ∧ x.b ≤ 23 := by
      have : i = 0 ∨ i = 1 := by omega
      rcases this with rfl | rfl
      · have := b0 rfl; omega
      · have := b1 rfl; omega
    exact ⟨hb.1, hb.2, s⟩
  · obtain ⟨⟨b0, b1⟩, _⟩ := h.all i r e
    obtain ⟨⟨c0, c1⟩, _⟩ := h.all (i + 1) r' e'
    have hl := (List.getElem?_eq_some_iff.mp e').1
    have : i = 0 := by omega
    subst this
    have := b0 rfl
    have := c1 rfl
    omega
/-- a book as the law draws it -/
structure BkS (b : Bk) : Prop where
  ok : BkOk b
  sp : b.high ≤ b.low + 2
  lo : b.low ≤ 1
theorem bks_of {b : Bk} (h1 : 0 ≤ b.low ∧ b.low ≤ 1) (h2 : b.low + 1 ≤ b.high ∧ b.high ≤ b.low + 2) (ht : TabOk b.rows) (h : (b.fresh = 0 ∧ b.times = 1 ∧ 0 ≤ b.bonus ∧ b.bonus ≤ 2) ∨ ((1 ≤ b.fresh ∧ b.fresh ≤ 2) ∧ (1 ≤ b.times ∧ b.times ≤ 3) ∧ b.bonus = 0)) : BkS b := by
  have hl : 0 ≤ b.last ∧ b.last ≤ 2 := by
    unfold Bk.last b2z
    split
    · omega
    · split <;> omega
  refine ⟨⟨by omega, by omega, by omega, ht, by omega, by omega, by omega, ?_, by omega, ?_, ?_⟩, by omega, h1.2⟩
  · rcases h with h | h
    · rw [if_neg (by omega)]; omega
    · rw [if_pos (by omega)]; omega
  · rcases h with h | h
    · rw [if_pos (by omega)]; omega
    · rw [if_neg (by omega)]; omega
  · exact Nat.le_trans (Nat.mul_le_mul (show (b.high + 1 - b.low).toNat ≤ 3 by omega) (show (b.last + 1).toNat ≤ 3 by omega)) (by decide)
section
variable {ι : Type} {m : Mo ι} {ds : Sd} {pos : Pos}
theorem ep_entry (ok : m.Ok) (T : Tx m.S.K m.S.mg) (hk : 2 ≤ m.k) {a : Addr} {e f : Expr} {n : Int} {p : Pos} (hR : ∀ {H H'}, RP a H H' → m.R H H') (hP : ∀ H, m.R m.H0 H → PX a H) (he : EV m ds e (.v (.ref a))) (hf : EV m ds f (.d (.int n))) (h0 : 0 ≤ n) (h1 : n ≤ 9)
    (hg : ∀ i, Gl (m.F i) "_law_entry" := by intro _; rfl)
    (hs : ∀ i, starEach [e, f] (m.F i).env = (false, eval e (m.F i).env) :: starEach [f] (m.F i).env := by intro _; rfl) (hs2 : ∀ i, starEach [f] (m.F i).env = (false, eval f (m.F i).env) :: starEach [] (m.F i).env := by intro _; rfl) (hpl : ∀ i, (backTo pos (starEach [f] (m.F i).env)).any (·.1) = false := by intro _; rfl) :
    EP m ds (.Call (.Name "_law_entry" p) [e, f] [] pos) (fun r => ∃ e, r = .d (entD e) ∧ EntOk e) := fun σ H hr hsl Q q =>
  ex_callP ok (ok_zentry (P := m.S.P) (w := m.S.w) (base := m.S.base) T) hk hR hP (P := fun rs => rs = [.v (.ref a), .d (.int n)]) (EA.eap (ea_two ok he hf hs hs2) rfl) (fun rs H _ e => ⟨_, e, n, rfl, h0, h1⟩) hg (by decide) hs hpl σ H hr hsl Q fun v H2 r2 ⟨rs', e1, e, he, d⟩ => q v H2 r2 ⟨_, ⟨e, rfl, he⟩, d⟩
end
theorem noLs_rw (rows : List Rw) : noL.noLs (rows.map rwD) = true := noLs_of fun x hx => by
  obtain ⟨c, _, rfl⟩ := List.mem_map.mp hx
  exact noL_rwD c
section
variable {P : Program} {w : World} {K : PySem.W.Frag} {mg : Str → Option Value} {base : Heap}
def preModel (rs : List SV) (_ : Hp) : Prop := rs = [.d (.int 2), .d (.int 2)]
def postModel (K : PySem.W.Frag) (_ : List SV) (v : V) (H : Hp) : Prop := ∃ am b, v = .ref am ∧ MAt K H am b ∧ BkS b
theorem ok_zmodel (T : Tx K mg) : CallOk P w K mg base "_law_model" 3 (SpP K preModel (postModel K)) := by
  obtain ⟨fd, F⟩ := D_zmodel T
  refine call_of F (fn_pool F sc_zmodel (fun rs H e => by rw [show rs = _ from e]; rfl) ?_) (g_zmodel T) (fun _ _ _ _ _ _ us hl => match us, hl with | [_, _, _], _ => rfl)
  rintro cdv A outer st H E Q rs a hr e0 hp ok hQ
  obtain rfl : rs = [.d (.int 2), .d (.int 2)] := e0
  have hP : ∀ H', RP a H H' → PX a H' := fun H' r => r.2 hp
  have kp1 := kp_rxs (K := K) (gok_px (a := a)) (S := [a])
  have lit : ∀ {m : Mo Unit} {ds : Sd} (okm : m.Ok) {i : Int} {j p}, EP m ds (.Constant (.int i) j p) (isI (· = i)) := fun {m ds} okm {i j p} => EV.ep okm (ev_int okm) ⟨_, rfl, rfl⟩
  refine bd_parX ok 3 4 rfl rfl (by decide) (eax_cons ok (ep_draw ok T (by show 1 ≤ 2; decide) (a := a) (n := 2) (fun h => h) hP (by walk_at "ev") (ev_int ok) (by decide) (by decide)) (ep_stay ok) (eax_cons ok (ep_cat ok (A := (· = [.int 0])) (B := fun ys => ∃ (n : Nat) (b : Int), n ≤ 1 ∧ (1 ≤ b ∧ b ≤ 2) ∧ ys = (List.replicate n [.int b]).flatten) (EV.ep ok (ev_lstL ok (xs := [.int 0]) (ea_one ok (ev_int ok)) (by show 1 ≤ 100; decide)) ⟨_, rfl, rfl⟩)
    (EP.imp (ep_rep ok (A := fun xs => ∃ b : Int, (1 ≤ b ∧ b ≤ 2) ∧ xs = [.int b]) (ep_lstL ok (eap_cons ok (ep_add ok (lit ok) (ep_draw ok T (by show 1 ≤ 2; decide) (a := a) (n := 2) (fun h => h) hP (by walk_at "ev") (ev_int ok) (by decide) (by decide))) (eap_nil ok)) (fun rs h => ?_)) (ep_draw ok T (by show 1 ≤ 2; decide) (a := a) (n := 2) (fun h => h) hP (by walk_at "ev") (ev_int ok) (by decide) (by decide)) (fun xs ⟨b, _, e⟩ => by rw [e]; show 1 ≤ 10; decide) (fun i h => by omega)) fun r ⟨xs, n, e, ⟨b, hb, e2⟩, hn⟩ => ⟨_, e, n, b, by omega, hb, by rw [e2]⟩) (fun xs ys e1 ⟨n, b, hn, _, e2⟩ => ?_)) (ep_stay ok) (eax_nil ok))) fun vs H1 r1 hvs => ?_
  · obtain ⟨_, _, rfl, ⟨n, rfl, i, j, hi, hj, hn⟩, rfl⟩ := h
    exact ⟨[.int n], rfl, by show 1 ≤ 100; decide, _, rfl, n, by omega, rfl⟩
  · subst e1 e2
    have : n = 0 ∨ n = 1 := by omega
    rcases this with rfl | rfl
    · show 1 + 0 ≤ 10000; decide
    · show 1 + 1 ≤ 10000; decide
  obtain ⟨v1, _, rfl, ⟨_, ⟨low, rfl, l0, l1⟩, dlow⟩, v2, _, rfl, ⟨_, ⟨_, ys, rfl, rfl, n, bb, hn, hbb, rfl⟩, dbs⟩, rfl⟩ := hvs
  have hbs : ∃ bs : List Int, [PyData.int 0] ++ (List.replicate n [PyData.int bb]).flatten = bs.map PyData.int ∧ 1 ≤ bs.length ∧ bs.length ≤ 2 ∧ ∀ (i : Nat) (x : Int), bs[i]? = some x → tOk i x := by
    have : n = 0 ∨ n = 1 := by omega
    rcases this with rfl | rfl
    · refine ⟨[0], rfl, by decide, by decide, fun i x h => ?_⟩
      have hi := (List.getElem?_eq_some_iff.mp h).1
      have : i = 0 := by
        rw [List.length_singleton] at hi
        omega
      subst this
      cases h
      exact ⟨fun _ => rfl, fun z => by omega⟩
    · refine ⟨[0, bb], rfl, by show 1 ≤ 2; decide, by show 2 ≤ 2; decide, fun i x h => ?_⟩
      have hi : i < 2 := (List.getElem?_eq_some_iff.mp h).1
      have : i = 0 ∨ i = 1 := by omega
      rcases this with rfl | rfl
      · cases h
        exact ⟨fun _ => rfl, fun z => by omega⟩
      · cases h
        exact ⟨fun z => by omega, fun _ => hbb⟩
  obtain ⟨bs, ebs, hb1, hb2, hbt⟩ := hbs
  rw [ebs] at dbs
  obtain ⟨ab, us, rfl, hab, dab⟩ := dbs
  refine ⟨v1, .ref ab, _, .d (.list (bs.map PyData.int)), rfl, dlow, .lst (SqL.of hab) dab, ?_⟩
  intro σ2 H2 r2 s2
  have r12 : RP a H H2 := kp1.trans r1 r2
  have p2 := hP H2 r12
  refine ws_newX (ok.at_ H2) 5 rfl s2 fun H3 at_ o e3 nt hX eH3 s3 => ?_
  have ne : a ≠ at_ := px_ne p2 nt
  have hnt : H at_ = none := rp_none r12 hp nt
  have r13 : RP a H H3 := kp1.trans r12 (RXS.of gok_px e3)
  have p3 := hP H3 r13
  have ok3 := ok.at_ H3
  have kp2 := kp_rxs (K := K) (gok_px (a := a)) (S := [a, at_])
  refine ws_forR ok3 kp2 (kp1.refl H3) s3 (ivr_list ok3 kp2 (xs := bs.map PyData.int) (by walk_at "ev")) (fun i ds' H' => ∃ (q4 q : Option SV) (rows : List Rw), ds' = [some (.v (.ref a)), some (.d (.int 2)), some (.d (.int 2)), some (.d (.int low)), q4, some (.v (.ref at_)), q, none, none] ∧ AccX K H' at_ (rows.map rwD) ∧ TabR rows ∧ rows.length = i)
    (fun i ds' Ha Hb e ⟨q4, q, rows, h1, h2, h3⟩ => ⟨q4, q, rows, h1, h2.ex e, h3⟩) (fun H4 r4 => ⟨_, none, [], rfl, hX.rp r4 ne.symm, ⟨by show 0 ≤ 2; decide, fun i x h => by simp at h⟩, rfl⟩) ?_ ?_
  · rintro H4 r4 ok4 i v _ σ5 H5 hi r5 ⟨q4, q, rows, rfl, hX5, hro, hlr⟩ s5 dv
    rw [List.length_map] at hi
    obtain ⟨bd, hbd⟩ : ∃ bd, bs[i]? = some bd := ⟨_, List.getElem?_eq_getElem hi⟩
    have dv : Dp K H5 v ((bs.map PyData.int).getD i .none) := dv
    rw [getD_map hbd] at dv
    have p4 : PX a H4 := r4.2 p3
    have p5 : PX a H5 := r5.2 p4
    refine wG_name ok 6 rfl ?_
    have ok5 := ok4.at_ H5
    obtain ⟨o5, vs5, x1, x2, x3⟩ := id hX5
    have s7 : Sl K H5 (σ5.set 6 (some v)) [some (.v (.ref a)), some (.d (.int 2)), some (.d (.int 2)), some (.d (.int low)), none, some (.v (.ref at_)), some (.d (.int bd)), none, none] := (s5.set (r := .d (.int bd)) 6 dv).fgt 4
    refine ws_appXP ok5 5 (a := at_) (A := fun y => ∃ x : Rw, y = rwD x ∧ x.b = bd ∧ ∀ e ∈ x.es, EntOk e) rfl rfl s7 rfl hX5 (noLs_rw rows) (by rw [List.length_map]; omega) (fun vs => ?_) (fun vs H6 o' y hy r6 hX6 s6 => ?_) (by walk_at "vis")
    · have ok6 := ok5.at_ (upd H5 at_ (.lst vs))
      have p6 : PX a (upd H5 at_ (.lst vs)) := px_upd ne p5
      refine ep_tup ok6 (eap_cons ok6 (EV.ep ok6 (P := (· = .d (.int bd))) (by walk_at "ev") rfl) (eap_cons ok6 (ep_entry ok6 T (Nat.le_refl _) (a := a) (n := 2) rp_rp2 (fun H' r => r.2 p6) (by walk_at "ev") (by walk_at "ev") (by decide) (by decide)) (eap_cons ok6 (ep_entry ok6 T (Nat.le_refl _) (a := a) (n := 2) rp_rp2 (fun H' r => r.2 p6) (by walk_at "ev") (by walk_at "ev") (by decide) (by decide)) (eap_cons ok6 (ep_entry ok6 T (Nat.le_refl _) (a := a) (n := 2) rp_rp2 (fun H' r => r.2 p6) (by walk_at "ev") (by walk_at "ev") (by decide) (by decide)) (eap_nil ok6))))) fun rs h => ?_
      obtain ⟨_, _, rfl, rfl, _, _, rfl, ⟨e0, rfl, h0⟩, _, _, rfl, ⟨e1, rfl, h1⟩, _, _, rfl, ⟨e2, rfl, h2⟩, rfl⟩ := h
      refine ⟨[.int bd, entD e0, entD e1, entD e2], rfl, by show 4 ≤ 100; decide, _, rfl, noL_rwD ⟨bd, e0, e1, e2⟩, ⟨bd, e0, e1, e2⟩, rfl, rfl, fun e he => ?_⟩
      simp only [Rw.es, List.mem_cons, List.not_mem_nil, or_false] at he
      rcases he with rfl | rfl | rfl
      · exact h0
      · exact h1
      · exact h2
    · obtain ⟨x, rfl, hx, he⟩ := hy
      refine wSs_nil ⟨_, kp2.trans r5 (rp2_app ne x1 r6), ⟨none, some (.d (.int bd)), rows ++ [x], rfl, ?_, hro.snoc (by omega) (by rw [hlr, hx]; exact hbt i bd hbd) he, by rw [List.length_append, hlr]; rfl⟩, s6⟩
      rw [List.map_append]
      exact hX6
  rintro H4 _ σ5 H5 r4 r5 ⟨q4, q, rows, rfl, hX5, hro, hlr⟩ s5
  rw [List.length_map] at hlr
  obtain ⟨o5, vs5, x1, x2, x3⟩ := hX5
  refine ws_untag x1 x2 ?_
  have r14 : RP a H H4 := kp1.trans r13 r4
  have r15 : RP a H H5 := rp_back hnt (fun c o _ h n => r14.1 c o h n) r14.2 r5
  have r16 : RP a H (upd H5 at_ (.lst vs5)) := rp_updN ne hnt r15
  generalize hH6 : upd H5 at_ (.lst vs5) = H6 at r16
  have e6 : H6 at_ = some (.lst vs5) := by rw [← hH6]; exact upd_same
  have d6 : DpAll K H6 vs5 (rows.map rwD) := by rw [← hH6]; exact opq_dpa x1 opq_exO x3
  have s6 : Sl K H6 σ5 [some (.v (.ref a)), some (.d (.int 2)), some (.d (.int 2)), some (.d (.int low)), none, some (.v (.ref at_)), q, none, none] := by rw [← hH6]; exact (opq_slots x1 opq_exO s5).fgt 4
  have p6 := hP H6 r16
  have ok6 := ok.at_ H6
  have tb : TabOk rows := hro.ok (by omega)
  refine (bd_asgX ok6 7 rfl (ex_mdict ok6 (low := low) (f := 0) (t := 1) (g := 0) (B := fun hi => low + 1 ≤ hi ∧ hi ≤ low + 2) (tb := .ref at_) (by walk_at "ev") (EP.imp (ep_add ok6 (ep_add ok6 (EV.ep ok6 (P := isI (· = low)) (by walk_at "ev") ⟨_, rfl, rfl⟩) (lit ok6)) (ep_draw ok6 T (by show 1 ≤ 2; decide) (a := a) (n := 2) (fun h => h) (fun H' r => r.2 p6) (by walk_at "ev") (by walk_at "ev") (by decide) (by decide))) fun r ⟨n, e, i, j, ⟨i1, i2, e1, e2, e3⟩, hj, hn⟩ => ⟨n, e, by omega⟩) (by walk_at "ev") (ev_int ok6) (ev_int ok6) (ev_int ok6) (fun r h => r.1 _ _ h fun _ => id) rp_upd) fun v H7 r7 ⟨am, hi, Hs, ev, rs, hs, hb, hm⟩ ok7 => ⟨.v (.ref am), ev, ?_⟩) σ5 H6 (kp1.refl H6) s6
  have ham : H am = none := rp_none (kp1.trans r16 rs) hp hs
  have r17 : RP a H H7 := kp1.trans r16 r7
  have p7 := hP H7 r17
  have d7 : Dp K H7 (.ref at_) (.list (rows.map rwD)) := .lst (SqL.of (kp1.lk r7 e6)) (ok.dpa r7 d6)
  have dkS : ∀ {Ha Hb : Hp} {p : Addr} {kv}, RP a Ha Hb → Ha p = some (.dK kv) → Hb p = some (.dK kv) := fun r h => r.1 _ _ h fun _ => id
  refine bd_asgP ok7 8 rfl (ep_draw ok7 T (by show 1 ≤ 2; decide) (a := a) (n := 4) (fun h => h) (fun H' r => r.2 p7) (by walk_at "ev") (ev_int ok7) (by decide) (by decide)) fun r hw => ?_
  obtain ⟨way, rfl, w0, w1⟩ := hw
  -- from behind the first if
  have tail : ∀ (Hc : Hp) (b : Bk), RP a H Hc → Hc am = some (.dK (mFs b (.ref at_))) → Dp K Hc (.ref at_) (.list (b.rows.map rwD)) → b.rows = rows → (0 ≤ b.low ∧ b.low ≤ 1) → (b.low + 1 ≤ b.high ∧ b.high ≤ b.low + 2) → b.bonus = 0 → (way = 1 → b.fresh = 0 ∧ b.times = 1) → ((b.fresh = 0 ∧ b.times = 1) ∨ ((1 ≤ b.fresh ∧ b.fresh ≤ 2) ∧ 1 ≤ b.times ∧ b.times ≤ 3)) →
      BD ((bodyMo P w K mg base n_zmodel "_law_model" (defScope s_zmodel) (He.ga K "_law_model") cdv A outer st H E (RP a) 2).at_ Hc) [some (.v (.ref a)), some (.d (.int 2)), some (.d (.int 2)), some (.d (.int low)), none, some (.v (.ref at_)), q, some (.v (.ref am)), some (.d (.int way))] ((defBody s_zmodel).drop 6) { nx := fun _ H' => Q .non H', rt := Q } := by
    intro Hc b rc hc dc hrows k1 k2 k3 k4 k5
    have okc := ok.at_ Hc
    have pc := hP Hc rc
    have fin : ∀ (Hd : Hp) (b' : Bk), RP a H Hd → Hd am = some (.dK (mFs b' (.ref at_))) → Dp K Hd (.ref at_) (.list (b'.rows.map rwD)) → BkS b' → BD ((bodyMo P w K mg base n_zmodel "_law_model" (defScope s_zmodel) (He.ga K "_law_model") cdv A outer st H E (RP a) 2).at_ Hd) [some (.v (.ref a)), some (.d (.int 2)), some (.d (.int 2)), some (.d (.int low)), none, some (.v (.ref at_)), q, some (.v (.ref am)), some (.d (.int way))] ((defBody s_zmodel).drop 7) { nx := fun _ H' => Q .non H', rt := Q } := by
      intro Hd b' rd hd dd hb'
      have okd := ok.at_ Hd
      exact bd_ret okd (r := .v (.ref am)) (by walk_at "ev") fun v He re de => hQ v He (kp1.trans rd re) ⟨am, b', de, ⟨_, dkS re hd, ok.dp re dd⟩, hb'⟩
    refine bd_if okc (tv_eqI okc (by walk_at "ev") (ev_int okc)) (fun h => ?_) (fun h => ?_)
    · have h := of_decide_eq_true h
      obtain ⟨k6, k7⟩ := k4 h
      refine bd_putD okc (d := am) (kvs := mFs b (.ref at_)) (key := "bonus") (B := fun n => 1 ≤ n ∧ n ≤ 2) (EP.imp (ep_add okc (lit okc) (ep_draw okc T (by show 1 ≤ 2; decide) (a := a) (n := 2) (fun h => h) (fun H' r => r.2 pc) (by walk_at "ev") (ev_int okc) (by decide) (by decide))) fun r ⟨n, e, i, j, hi, hj, hn⟩ => ⟨n, e, by omega⟩) (by walk_at "ev") (ev_str okc) (fun H' r => dkS r hc) (by show 6 ≤ 100; decide) fun Hd n rd hn _ => bd_end ?_
      rw [mPut_b]
      have hd := dkS rd hc
      exact fin _ { b with bonus := n } (rp_upd ham (kp1.trans rc rd)) upd_same (dk_dp hd (ok.dp rd dc)) (bks_of k1 k2 (by show TabOk b.rows; rw [hrows]; exact tb) (.inl ⟨k6, k7, by show 0 ≤ n; omega, by show n ≤ 2; omega⟩))
    · refine bd_end (fin Hc b rc hc dc (bks_of k1 k2 (by rw [hrows]; exact tb) ?_))
      rcases k5 with k5 | k5
      · exact .inl ⟨k5.1, k5.2, by omega, by omega⟩
      · exact .inr ⟨k5.1, k5.2, k3⟩
  have hb0 : H7 am = some (.dK (mFs ⟨low, hi, rows, 0, 1, 0⟩ (.ref at_))) := hm
  refine bd_if ok7 (tv_eqI ok7 (by walk_at "ev") (ev_int ok7)) (fun h => ?_) (fun h => ?_)
  · have h := of_decide_eq_true h
    refine bd_put2D ok7 (d := am) (kvs := mFs ⟨low, hi, rows, 0, 1, 0⟩ (.ref at_)) (key := "fresh") (key2 := "times") (B := fun n => 1 ≤ n ∧ n ≤ 2) (B2 := fun n => 1 ≤ n ∧ n ≤ 3) (eap_cons ok7 (EP.imp (ep_add ok7 (lit ok7) (ep_draw ok7 T (by show 1 ≤ 2; decide) (a := a) (n := 2) (fun h => h) (fun H' r => r.2 p7) (by walk_at "ev") (ev_int ok7) (by decide) (by decide))) fun r ⟨n, e, i, j, hi, hj, hn⟩ => ⟨n, e, by omega⟩) (eap_cons ok7 (EP.imp (ep_add ok7 (lit ok7) (ep_draw ok7 T (by show 1 ≤ 2; decide) (a := a) (n := 3) (fun h => h) (fun H' r => r.2 p7) (by walk_at "ev") (ev_int ok7) (by decide) (by decide))) fun r ⟨n, e, i, j, hi, hj, hn⟩ => ⟨n, e, by omega⟩) (eap_nil ok7)))
      (by walk_at "ev") (ev_str ok7) (fun H' r => dkS r hb0) (by show 6 ≤ 100; decide) (fun Hz => have okz := ok7.at_ Hz; by walk_at "ev") (fun Hz => ev_str (ok7.at_ Hz)) dkS (fun H8 n n2 r8 hn hn2 H9 r9 => bd_end ?_) (fun z => pg_tup rfl (pgs_cons (pg_sub (wE_ok z) (wE_ok z) (set_dict (by have := (ok7.room z).un; omega))) (pgs_cons (pg_sub (wE_ok z) (wE_ok z) (set_dict (by have := (ok7.room z).un; omega))) pgs_nil)))
    have h8 := dkS r8 hb0
    have r18 : RP a H (upd H8 am (.dK (putK (mFs ⟨low, hi, rows, 0, 1, 0⟩ (.ref at_)) (.inr "fresh") (.int n)))) := rp_upd ham (kp1.trans r17 r8)
    have h9 := dkS (Ha := upd H8 am (.dK (putK (mFs ⟨low, hi, rows, 0, 1, 0⟩ (.ref at_)) (.inr "fresh") (.int n)))) r9 upd_same
    rw [mPut_ft]
    exact tail _ ⟨low, hi, rows, n, n2, 0⟩ (rp_upd ham (kp1.trans r18 r9)) upd_same (dk_dp h9 (ok.dp r9 (dk_dp h8 (ok.dp r8 d7)))) rfl (by show 0 ≤ low ∧ low ≤ 1; omega) (by show low + 1 ≤ hi ∧ hi ≤ low + 2; omega) rfl (fun z => by omega) (.inr ⟨hn, hn2⟩)
  · have h := of_decide_eq_false h
    exact bd_end (tail H7 ⟨low, hi, rows, 0, 1, 0⟩ r17 hb0 d7 rfl (by show 0 ≤ low ∧ low ≤ 1; omega) (by show low + 1 ≤ hi ∧ hi ≤ low + 2; omega) rfl (fun _ => ⟨rfl, rfl⟩) (.inl ⟨rfl, rfl⟩))
end
/-! The law's book made, the law's spots. -/
theorem got_range (g : Nat → PyData) : ∀ n, got (fun _ => true) g n = (List.range n).map g
  | 0 => rfl
  | n + 1 => by
    show (if true = true then got (fun _ => true) g n ++ [g n] else got (fun _ => true) g n) = _
    rw [if_pos rfl, got_range g n, List.range_succ, List.map_append]
    rfl
section
variable {P : Program} {w : World} {K : PySem.W.Frag} {mg : Str → Option Value} {base : Heap}
def SpMade (K : PySem.W.Frag) : Sp := fun vs H Q _ => ∃ am b, DqAll K H vs [.v (.ref am)] ∧ MAt K H am b ∧ BkOk b ∧ ∀ ab H', Ex H H' → BookAt K H' ab b → Q (.ref ab) H'
theorem ok_zmade (T : Tx K mg) : CallOk P w K mg base "_law_made" 8 (SpMade K) := by
  obtain ⟨fd, F⟩ := D_zmade T
  refine call_of F (fn_ok F sc_zmade (fun vs H Q E ⟨_, _, d, _⟩ => by rw [DqAll.length d]; rfl) ?_) (g_zmade T) (fun _ _ _ _ _ _ us hl => match us, hl with | [_], _ => rfl)
  rintro cdv A outer st H vs Q E hr ⟨am, b, dq, hb, hk, hQ⟩
  have ok := body_ok (P := P) (w := w) (K := K) (mg := mg) (base := base) (N := n_zmade) (cdv := cdv) (outer := outer) (E := E) (H := H) (R := Ex) (kp_ex K) sc_zmade hr
  have hB : ∀ H', Ex H H' → MAt K H' am b := fun H' e => hb.ex e
  have g : BD (bodyMo P w K mg base n_zmade "_law_made" (defScope s_zmade) (He.ga K "_law_made") cdv A outer st H E Ex 7) (startD n_zmade [.v (.ref am)]) (defBody s_zmade) { nx := fun _ H' => Q .non H', rt := Q } := by
    refine bd_retX ok (ex_bookK (mgT := T) ok (Nat.le_refl _) (b := b) (rs1 := [.d (.int b.low), .d (.int b.high), .d (.list (b.rows.map rwD))]) (rs2 := [.d (.int b.fresh), .d (.int b.times), .d (.int b.bonus)]) (ea_cons ok (ev_mI ok (by walk_at "ev") (ev_str ok) hB (fun _ => rfl)) (ea_two ok (ev_mI ok (by walk_at "ev") (ev_str ok) hB (fun _ => rfl)) (ev_mT ok (by walk_at "ev") (ev_str ok) hB)))
      (ek_cons ok (ev_mI ok (by walk_at "ev") (ev_str ok) hB (fun _ => rfl)) (ek_cons ok (ev_mI ok (by walk_at "ev") (ev_str ok) hB (fun _ => rfl)) (ek_cons ok (ev_mI ok (by walk_at "ev") (ev_str ok) hB (fun _ => rfl)) (ek_nil ok)))) rfl rfl rfl hk) fun v H' e ⟨ab, ev, hat⟩ => ?_
    subst ev
    exact hQ ab H' e hat
  exact g (L2.start n_zmade vs) H (Ex.refl H) (start_sl dq)
def rSpots (K : PySem.W.Frag) (rs : List SV) (H : Hp) (r : SV) : Prop := ∃ a b, rs = [.v (.ref a)] ∧ MAt K H a b ∧ BkB b ∧ r = .l (b.spots.map plD)
theorem ok_zspots (T : Tx K mg) : CallOk P w K mg base "_law_spots" 1 (SpR K (rSpots K)) := by
  obtain ⟨fd, F⟩ := D_zspots T
  refine call_of F (fn_pure F sc_zspots (fun rs H r ⟨_, _, e, _⟩ => by rw [e]; rfl) ?_) (g_zspots T) (fun _ _ _ _ _ _ us hl => match us, hl with | [_], _ => rfl)
  rintro cdv A outer st H E Q rs r hr ⟨a, b, rfl, hb, hk, rfl⟩ ok hQ
  have hB : ∀ H', Ex H H' → MAt K H' a b := fun H' e => hb.ex e
  obtain ⟨b1, b2, b3, b4, b5⟩ := hk
  refine bd_asg ok 1 (r := .d (.int b.last)) rfl ((ev_ifI ok (tv_gt ok (ev_mI ok (n := b.fresh) (by walk_at "ev") (ev_str ok) hB (fun _ => rfl)) (ev_int ok)) (ev_mI ok (n := b.fresh) (by walk_at "ev") (ev_str ok) hB (fun _ => rfl)) (ev_intB ok (b_int T) (ev_gt ok (ev_mI ok (n := b.bonus) (by walk_at "ev") (ev_str ok) hB (fun _ => rfl)) (ev_int ok)))).cast ?_) ?_
  · unfold Bk.last
    by_cases h : 0 < b.fresh
    · rw [if_pos h, if_pos (decide_eq_true h)]
    · rw [if_neg h, if_neg (by rw [decide_eq_false h]; decide)]
  refine bd_asg ok 2 (r := .l []) rfl (ev_lstL ok (xs := []) (ea_nil ok) (by decide)) ?_
  let g : Nat → Nat → PyData := fun i j => plD (b.low + i, (j : Int))
  refine bd_for1 ok 3 rfl (iv_range2 ok (lo := b.low) (n := b.high + 1) (b_range T) (ev_mI ok (by walk_at "ev") (ev_str ok) hB (fun _ => rfl)) (ev_add ok (ev_mI ok (n := b.high) (by walk_at "ev") (ev_str ok) hB (fun _ => rfl)) (ev_int ok)) (by omega)) (fun i ds' => ∃ q, ds' = [some (.v (.ref a)), some (.d (.int b.last)), some (.l (all2 g (b.last + 1).toNat i)), q, none]) ⟨none, rfl⟩ ?_ ?_
  · rintro H1 r1 ok1 i _ hi ⟨q, rfl⟩
    have n1 : (b.last + 1).toNat ≤ 3 := by omega
    have i1 : i * (b.last + 1).toNat ≤ 30 * 3 := Nat.mul_le_mul (by omega) n1
    refine bd_asg ok1 2 (r := .l (all2 g (b.last + 1).toNat (i + 1))) rfl (ev_cat ok1 (ys := (List.range (b.last + 1).toNat).map (g i)) (by walk_at "ev") ?_ ?_) (bd_nil fun σ H' hr' hs' => ⟨_, hr', ⟨_, rfl⟩, hs'⟩)
    · rw [← got_range]
      refine ev_lc1L ok1 4 (fun _ => true) (g i) rfl (iv_range1 ok1 (n := b.last + 1) (b_range T) (ev_add ok1 (by walk_at "ev") (ev_int ok1)) (by omega)) (by omega) fun H2 r2 okb j hj => ⟨pv_nil okb, fun _ => ⟨ev_tup2 okb (x := .int (b.low + i)) (y := .int j) (by walk_at "ev") (by walk_at "ev"), rfl⟩⟩
    · rw [all2_len, List.length_map, List.length_range]
      omega
  · rintro _ ⟨q, rfl⟩
    refine bd_retC ok hQ (by walk_at "ev") ?_
    show SV.l (all2 g (b.last + 1).toNat (b.high + 1 - b.low).toNat) = .l (b.spots.map plD)
    unfold Bk.spots
    rw [all2_map]
end
/-! Texts sorted; str of a tuple; a dict with nested keys walked, its length. -/
def leS (x y : Str) : Prop := x.cps.toList ≤ y.cps.toList
theorem rising_pw : ∀ (l : List Str) (p : Str), risingS p l = true → (p :: l).Pairwise leS
  | [], p, _ => List.pairwise_singleton ..
  | x :: r, p, h => by
    have h' : (!ltCps x.cps.toList p.cps.toList && risingS x r) = true := h
    rw [Bool.and_eq_true, ltCps_eq] at h'
    have h1 : leS p x := by
      have z := h'.1
      rw [Bool.not_eq_true', decide_eq_false_iff_not] at z
      exact List.not_lt.mp z
    have ih := rising_pw r x h'.2
    refine List.pairwise_cons.mpr ⟨fun y hy => ?_, ih⟩
    rcases List.mem_cons.mp hy with rfl | hy
    · exact h1
    · exact List.le_trans h1 (List.rel_of_pairwise_cons ih hy)
theorem sorted_pw : ∀ (l : List Str), sortedS l = true → l.Pairwise leS
  | [], _ => List.Pairwise.nil
  | x :: r, h => rising_pw r x h
theorem leS_antisymm {x y : Str} (h : leS x y) (h' : leS y x) : x = y := by
  have e := List.le_antisymm h h'
  obtain ⟨⟨a⟩⟩ := x
  obtain ⟨⟨b⟩⟩ := y
  have e : a = b := e
  rw [e]
theorem sorted_one {xs ys zs : List Str} (h1 : ys.Perm xs) (h2 : sortedS ys = true) (h3 : zs.Perm xs) (h4 : sortedS zs = true) : ys = zs :=
  List.Perm.eq_of_pairwise (fun _ _ _ _ a b => leS_antisymm a b) (sorted_pw ys h2) (sorted_pw zs h4) (h1.trans h3.symm)
open Classical in
/-- the texts, sorted -/
noncomputable def srt (xs : List Str) : List Str := if h : ∃ ys : List Str, ys.Perm xs ∧ sortedS ys = true then h.choose else []
theorem srt_eq {xs ys : List Str} (h1 : ys.Perm xs) (h2 : sortedS ys = true) : ys = srt xs := by
  have h : ∃ ys : List Str, ys.Perm xs ∧ sortedS ys = true := ⟨ys, h1, h2⟩
  unfold srt
  rw [dif_pos h]
  exact sorted_one h1 h2 h.choose_spec.1 h.choose_spec.2
theorem dpa_ofStrs {K : PySem.W.Frag} {H : Hp} : ∀ ss : List Str, DpAll K H (ss.map V.str) (ss.map PyData.str)
  | [] => .nil
  | x :: ss => .cons (.str x) (dpa_ofStrs ss)
section
variable {ι : Type} {m : Mo ι} {ds : Sd} {pos : Pos}
theorem ev_sortedS (ok : m.Ok) {e : Expr} {ss : List Str} {p : Pos} (hm : m.S.mg "sorted" = none) (h : EV m ds e (.d (.list (ss.map PyData.str)))) (hz : ss.length < 64) (hg : ∀ i, Gl (m.F i) "sorted" := by intro _; rfl) (he : ∀ i, starEach [e] (m.F i).env = (false, eval e (m.F i).env) :: starEach [] (m.F i).env := by intro _; rfl) (hpl : ∀ i, (backTo pos (starEach [] (m.F i).env)).any (·.1) = false := by intro _; rfl) :
    EV m ds (.Call (.Name "sorted" p) [e] [] pos) (.d (.list ((srt ss).map PyData.str))) :=
  ex_callB ok (id := "sorted") (r := rSortedS m.S.K) (fun i => by rw [← ok.hK i]; exact cr_sortedS) hm (by decide +kernel) (ea_one ok h he) (fun H vs Q hr hd q => by
    obtain ⟨v, rfl, d⟩ := dqa1 hd
    obtain ⟨a, us, rfl, hq, ha⟩ := Dp.lst_inv d
    obtain rfl := dpa_strs ha
    refine ⟨a, ss, rfl, hq, hz, fun ys p h1 h2 np => q _ _ (ok.new np) ?_⟩
    rw [← srt_eq h1 h2]
    exact .lst (SqL.of upd_same) (dpa_ofStrs ys)) hg (by decide) (by decide) he hpl
/-! #### str of a tuple, where no other repr is under way -/
def rStrT (K : PySem.W.Frag) : List V → Hp → VK → Prop := fun xs H Q => ∃ v d, xs = [v] ∧ Dp K H v d ∧ (∃ ys, d = .tuple ys) ∧ d.showable = true ∧ d.hasDict = false ∧ d.shown.length ≤ sizeLine ∧ d.depth ≤ 8 ∧ Q (.str d.shown) H
theorem call_strT {X : Cx} {k : Nat} (hg : X.A.guards = some []) (hr : Room k X.A) : CallR X (.type "str") (rStrT X.K) := by
  intro pins st σ H xs us Q Iv r h
  obtain ⟨v, d, rfl, hd, ⟨ys, rfl⟩, h1, h2, h3, h4, q⟩ := h
  obtain ⟨u, rfl, ru⟩ := vals1 r
  obtain ⟨a, vs, rfl, hq, hds⟩ := Dp.tup_inv hd
  obtain rfl : u = Value.ref a := ru
  obtain ⟨as, rd⟩ := Dp.reads Iv _ _ _ hd (show RelV (V.ref a) (Value.ref a) from rfl)
  have hun := hr.un
  exact str_of_reads rd h1 (PyData.noDict_hsm h2) hg (by omega) (fun b o e => e) (fun h' u tk hk => ⟨.str _, H, Iv.kept (t' := tk) hk, ⟨_, rfl⟩, q⟩) h3
theorem ev_strT (ok : m.Ok) (hgd : ∀ i, (m.F i).A.guards = some []) {e : Expr} {ys : List PyData} {p : Pos} (hm : m.S.mg "str" = none) (h : EV m ds e (.d (.tuple ys))) (h1 : (PyData.tuple ys).showable = true) (h2 : (PyData.tuple ys).hasDict = false) (h3 : (PyData.tuple ys).shown.length ≤ sizeLine) (h4 : (PyData.tuple ys).depth ≤ 8)
    (hg : ∀ i, Gl (m.F i) "str" := by intro _; rfl) (he : ∀ i, starEach [e] (m.F i).env = (false, eval e (m.F i).env) :: starEach [] (m.F i).env := by intro _; rfl) (hpl : ∀ i, (backTo pos (starEach [] (m.F i).env)).any (·.1) = false := by intro _; rfl) :
    EV m ds (.Call (.Name "str" p) [e] [] pos) (.d (.str (PyData.tuple ys).shown)) :=
  ex_callTy ok (T := "str") (r := rStrT m.S.K) (fun i => by rw [← ok.hK i]; exact call_strT (hgd i) (ok.room i)) hm (by decide +kernel) (ea_one ok h he) (fun H vs Q hr hd q => by
    obtain ⟨v, rfl, d⟩ := dqa1 hd
    exact ⟨v, _, rfl, d, ⟨ys, rfl⟩, h1, h2, h3, h4, q _ H (ok.refl H) (.str _)⟩) hg (by decide) (by decide) he hpl
end
/-! #### a dict with nested keys: its keys walked, its length -/
section
variable {κ : Type} [DecidableEq κ] {enc : κ → PyData}
def ItKN (K : PySem.W.Frag) (enc : κ → PyData) (d : Addr) (o : Obj) (kvs : List (κ × PyData)) (xs : List (NestedKey × Addr × Value)) : It :=
  ⟨fun i H => i < kvs.length ∧ H d = some (exO d o) ∧ NR K H enc kvs xs, fun i H v H' => H' = H ∧ ∃ p, kvs[i]? = some p ∧ Dp K H v (enc p.1), fun i H => i = kvs.length ∧ H d = some (exO d o)⟩
theorem turn_kN {P : Program} {w : World} {K : PySem.W.Frag} {tg : Expr} {d it : Addr} {o : Obj} {es : Array DictEntry} {ep : Nat} {kvs : List (κ × PyData)} {xs : List (NestedKey × Addr × Value)} (hex : o.ExactDict) (hdat : o.data = .dict es ep) (hes : es.toList = xs.map (entryOfKey (nestedKind P w))) (hl : es.size = kvs.length) :
    Turn P w K tg (ItKN K enc d o kvs xs) [it] it (fun i h => h.IsKeyIter it d i es.size ep) where
  mem := List.mem_singleton.mpr rfl
  obj := fun i h hst c hc => by
    obtain ⟨oi, e, _, dd⟩ := hst
    rw [List.mem_singleton.mp hc]
    exact ⟨oi, e, fun v z => by rw [dd] at z; cases z⟩
  keep := fun i h h' hst k => hst.at fun oi e => k it (List.mem_singleton.mpr rfl) oi e
  item := by
    intro X hP hw hK hc i pl s σ H E Iv hf hst ⟨hi, hd, nr⟩
    subst hP hw hK
    have f := hf it (List.mem_singleton.mpr rfl)
    obtain ⟨f0, f1, _, f3, f4, f5⟩ := f
    have raw : s.heap.DictRaw d es ep := ⟨o, exO_get Iv.hok hd, hex, hdat⟩
    obtain ⟨p, hp⟩ : ∃ p, kvs[i]? = some p := ⟨_, List.getElem?_eq_getElem hi⟩
    obtain ⟨q, hq, dk, v, rv, dv⟩ := nr.get hp
    have he : es[i]? = some (entryOfKey (nestedKind X.prog X.w) q) := by
      rw [entry_at hes, hq]
      rfl
    obtain ⟨_, he2⟩ := Array.getElem?_eq_some_iff.mp he
    refine wpAny_pyNext_keys_item_raw hst raw (by rw [hl]; exact hi) fun h' hst' sb => ?_
    have I2 : Inv X pl σ H { s with heap := h' } := Iv.turned (t' := s.toks) (fun b ob hb e => (sb.2 b hb).trans e) f0 f1 f3 f4 f5
    obtain ⟨oi, e, c, dd⟩ := id hst'
    refine ⟨_, rfl, go_of (s := { s with heap := h' }) e c dd (by decide) ⟨.ref q.2.1, H, I2, ?_, ⟨rfl, p, hp, dk⟩, hst', fun b hb => (hf b hb).1⟩⟩
    show RelV (V.ref q.2.1) es[i].key
    rw [he2]
    rfl
  done := by
    intro X hP hw hK hc i pl s σ H E Iv hf hst ⟨hi, hd⟩
    subst hP hw hK
    obtain ⟨f0, f1, _, f3, f4, f5⟩ := hf it (List.mem_singleton.mpr rfl)
    exact wpAny_pyNext_keys_end_raw (Iv.ok.hd hc) hst ⟨o, exO_get Iv.hok hd, hex, hdat⟩ (by rw [hl, hi]; exact Nat.le_refl _) fun h' eb => ⟨rfl, Iv.turned (t' := s.toks) (fun b ob hb e => eb b ob hb e) f0 f1 f3 f4 f5⟩
  self := fun A i s Q E hst hq => wpAny_pyIter_keyiter hst hq
def iKN (P : Program) (w : World) (K : PySem.W.Frag) (enc : κ → PyData) (td : TE) : TI := fun σ H R => td σ H fun x H1 => ∃ d kvs, x = .ref d ∧ DN P w K H1 d enc kvs ∧ ∀ o xs, H1 d = some (exO d o) → NR K H1 enc kvs xs → R (ItKN K enc d o kvs xs) H1
theorem pi_kN {X : Cx} {tg o : Expr} {td : TE} (ho : PE X o td) : PI X tg o (iKN X.prog X.w X.K enc td) := by
  refine ⟨fun pl s σ H R Iv hh => thn (ho.run pl s σ H _ Iv hh) fun u s1 ⟨x, H1, I1, rx, d, kvs, ex, hd, q⟩ => ?_⟩
  subst ex
  obtain rfl : u = Value.ref d := rx
  obtain ⟨oo, es, ep, xs, e1, e2, e3, e4, e5, e6⟩ := hd.ex
  have raw : s1.heap.DictRaw d es ep := ⟨oo, exO_get I1.hok e1, e2, e3⟩
  have hl : es.size = kvs.length := by rw [size_of_entries e4, e6.len]
  exact wpAny_pyIter_dict_raw hd.sm raw (pi_one (tk := s1.toks) I1 _ (turn_kN e2 e3 e4 hl) ⟨_, Heap.get?_push_size _ rfl, rfl, rfl⟩ (q oo xs e1 e6))
def rLenN (P : Program) (w : World) (K : PySem.W.Frag) (enc : κ → PyData) : List V → Hp → VK → Prop := fun vs H Q => ∃ d kvs, vs = [.ref d] ∧ DN P w K H d enc kvs ∧ Q (.int ((kvs.length : Nat) : Int)) H
theorem call_lenN {X : Cx} (he : Enc enc) : CallR X (.builtin "len") (rLenN X.prog X.w X.K enc) := by
  intro pins st σ H vs us Q Iv r h
  obtain ⟨d, kvs, rfl, hd, q⟩ := h
  obtain ⟨u, rfl, ru⟩ := vals1 r
  obtain rfl : u = Value.ref d := ru
  obtain ⟨xs, dd, nr, _⟩ := hd.obj Iv he
  have hl := nr.len
  have sz := hd.sz
  refine call_len_dictH hd.sm dd (by omega) ?_
  rw [← hl]
  exact ⟨.int ((kvs.length : Nat) : Int), H, Iv.tok _, ⟨_, rfl⟩, q⟩
end
section
variable {ι : Type} {m : Mo ι} {ds : Sd} {pos : Pos} {κ : Type} [DecidableEq κ] {enc : κ → PyData}
theorem ev_lenN (ok : m.Ok) (he : Enc enc) {e : Expr} {d : Addr} {n : Nat} {p : Pos} (hm : m.S.mg "len" = none) (h : EV m ds e (.v (.ref d))) (hd : ∀ H, m.R m.H0 H → ∃ kvs, DN m.S.P m.S.w m.S.K H d enc kvs ∧ kvs.length = n) (hg : ∀ i, Gl (m.F i) "len" := by intro _; rfl) (hst : ∀ i, starEach [e] (m.F i).env = (false, eval e (m.F i).env) :: starEach [] (m.F i).env := by intro _; rfl) (hpl : ∀ i, (backTo pos (starEach [] (m.F i).env)).any (·.1) = false := by intro _; rfl) :
    EV m ds (.Call (.Name "len" p) [e] [] pos) (.d (.int n)) :=
  ex_callB ok (id := "len") (r := rLenN m.S.P m.S.w m.S.K enc) (fun i => by rw [← ok.hp i, ← ok.hw i, ← ok.hK i]; exact call_lenN he) hm (by decide +kernel) (ea_one ok h hst) (fun H vs Q hr hdq q => by
    obtain ⟨v, rfl, dv⟩ := dqa1 hdq
    obtain rfl : v = V.ref d := dv
    obtain ⟨kvs, h1, h2⟩ := hd H hr
    exact ⟨d, kvs, rfl, h1, q _ H (ok.refl H) (by rw [h2]; exact .int _)⟩) hg (by decide) (by decide) hst hpl
theorem iv_kN (ok : m.Ok) (he : Enc enc) {tg o : Expr} {d : Addr} {kvs : List (κ × PyData)} (ho : EV m ds o (.v (.ref d))) (hd : ∀ H, m.R m.H0 H → DN m.S.P m.S.w m.S.K H d enc kvs) (hkeep : ∀ {H1 H2 o}, m.R H1 H2 → H1 d = some (exO d o) → H2 d = some (exO d o)) :
    IV m ds tg o (kvs.map (·.1)).length fun i => ((kvs.map (·.1)).map enc).getD i .none := fun σ H hr hs Q q => by
  refine wI_of (t := iKN m.S.P m.S.w m.S.K enc (wE m.F o)) (fun i => by rw [← ok.hp i, ← ok.hw i, ← ok.hK i]; exact pi_kN (wE_ok i)) (ho σ H hr hs _ fun v H1 r1 d1 => ?_)
  have hd1 := hd H1 (ok.trans hr r1)
  refine ⟨d, kvs, d1, hd1, fun oo xs e1 nr => ?_⟩
  have nrAt : ∀ H2, m.R H1 H2 → NR m.S.K H2 enc kvs xs := fun H2 r2 => nr.map (fun v x d _ => dp_of (fun _ _ => ok.sl_ r2) (fun _ _ => ok.st_ r2) d) he hd1.vals
  refine q _ H1 (fun H2 => H2 d = some (exO d oo) ∧ NR m.S.K H2 enc kvs xs) r1 (fun H2 r2 => ⟨hkeep r2 e1, nrAt H2 r2⟩) ?_
  rw [List.length_map]
  refine ⟨fun i H hi g => ⟨hi, g.1, g.2⟩, fun H g => ⟨rfl, g.1⟩, fun i H v H' hi g y => ?_⟩
  obtain ⟨rfl, p, hp, dx⟩ := y
  refine ⟨Ex.refl _, fun r => ?_⟩
  show Dp m.S.K H' v (((kvs.map (·.1)).map enc).getD i .none)
  rw [getD_map (by rw [List.getElem?_map, hp]; rfl)]
  exact dx
end
/-! Plain laws: a game more is never less; the twelve games; the bounds of what is drawn. -/
theorem step_mono {x x' a a' : Fr} {α : Type} {u u' : α} {v v' : α} (hx : OkF x) (hx' : OkF x') (ha : OkF a) (ha' : OkF a') (h1 : val x ≤ val x') (h2 : val a ≤ val a') : val (if aboveF x a = true then (x, u) else (a, v)).1 ≤ val (if aboveF x' a' = true then (x', u') else (a', v')).1 := by
  by_cases h : aboveF x a = true
  · rw [if_pos h]
    by_cases h' : aboveF x' a' = true
    · rw [if_pos h']; exact h1
    · rw [if_neg h']
      have n : ¬ val a' < val x' := fun z => h' ((above_iff hx' ha').mpr z)
      show val x ≤ val a'
      exact Rat.le_trans h1 (Rat.not_lt.mp n)
  · rw [if_neg h]
    by_cases h' : aboveF x' a' = true
    · rw [if_pos h']
      exact Rat.le_trans h2 (Rat.le_of_lt ((above_iff hx' ha').mp h'))
    · rw [if_neg h']; exact h2
theorem pick_mono {f g : Opp → Fr} : ∀ (os : List Opp) (i j : Nat) (a a' : Fr × Option Nat), OkF a.1 → OkF a'.1 → (∀ o ∈ os, OkF (f o) ∧ OkF (g o) ∧ val (f o) ≤ val (g o)) → val a.1 ≤ val a'.1 → val (pickM f os i a).1 ≤ val (pickM g os j a').1
  | [], _, _, _, _, _, _, _, h => h
  | o :: os, i, j, a, a', k1, k2, hf, h => by
    obtain ⟨f1, f2, f3⟩ := hf o List.mem_cons_self
    unfold pickM
    refine pick_mono os _ _ _ _ ?_ ?_ (fun o' ho' => hf o' (List.mem_cons_of_mem _ ho')) ?_
    · split
      · exact f1
      · exact k1
    · split
      · exact f2
      · exact k2
    · exact step_mono f1 f2 k1 k2 f3 h
theorem pick_ge {f : Opp → Fr} : ∀ (os : List Opp) (i : Nat) (a : Fr × Option Nat), OkF a.1 → (∀ o ∈ os, OkF (f o)) → val a.1 ≤ val (pickM f os i a).1
  | [], _, _, _, _ => Rat.le_refl
  | o :: os, i, a, k1, hf => by
    have f1 := hf o List.mem_cons_self
    unfold pickM
    by_cases h : aboveF (f o) a.1 = true
    · rw [if_pos h]
      exact Rat.le_trans (Rat.le_of_lt ((above_iff f1 k1).mp h)) (pick_ge os _ (f o, some i) f1 fun o' ho' => hf o' (List.mem_cons_of_mem _ ho'))
    · rw [if_neg h]
      exact pick_ge os _ a k1 fun o' ho' => hf o' (List.mem_cons_of_mem _ ho')
theorem val_nn {f : Fr} (h : OkF f) (h0 : 0 ≤ f.1) : 0 ≤ val f := by
  unfold val
  have h1 := cast_pos h.pos
  refine Rat.not_lt.mp fun z => ?_
  rw [Rat.div_lt_iff h1, Rat.zero_mul] at z
  have z2 : (f.1 : Rat) < ((0 : Int) : Rat) := z
  rw [Rat.intCast_lt_intCast] at z2
  omega
theorem mean_mono {V V' : Int × Int → Fr} : ∀ (es : List (Fr × (Int × Int))) (t t' : Fr), OkF t → OkF t' → (∀ e ∈ es, OkF e.1 ∧ 0 ≤ e.1.1 ∧ OkF (V e.2) ∧ OkF (V' e.2) ∧ val (V e.2) ≤ val (V' e.2)) → val t ≤ val t' →
    val (es.foldl (fun t e => if e.1 = (0, 1) then t else addF t (mulF e.1 (V e.2))) t) ≤ val (es.foldl (fun t e => if e.1 = (0, 1) then t else addF t (mulF e.1 (V' e.2))) t')
  | [], _, _, _, _, _, h => h
  | e :: es, t, t', k1, k2, hf, h => by
    obtain ⟨a1, a2, a3, a4, a5⟩ := hf e List.mem_cons_self
    rw [List.foldl_cons, List.foldl_cons]
    refine mean_mono es _ _ ?_ ?_ (fun e' he' => hf e' (List.mem_cons_of_mem _ he')) ?_
    · split
      · exact k1
      · exact add_ok k1 (mul_ok a1 a3)
    · split
      · exact k2
      · exact add_ok k2 (mul_ok a1 a4)
    · split
      · exact h
      · rw [val_add k1 (mul_ok a1 a3), val_add k2 (mul_ok a1 a4), val_mul a1 a3, val_mul a1 a4]
        have z := Rat.mul_le_mul_of_nonneg_left a5 (val_nn a1 a2)
        grind
theorem fM_ok {b : Bk} {rows : List Cw} {s : Int} {os : List Opp} {L : Int} {N n : Nat} (rk : Rk b rows s os L N) {p : Int × Int} (hp : InBk b p) {o : Opp} (ho : o ∈ os) : OkF (fM b rows s os n p o) := by
  have z := mean_part (n := n) rk hp ho (endsM b rows p s o.1 o.2).length
  rw [List.take_length] at z
  exact z.1
theorem best_mono {b : Bk} {rows : List Cw} {s : Int} {os : List Opp} {L : Int} {N : Nat} (rk : Rk b rows s os L N) : ∀ (n : Nat) (p : Int × Int), InBk b p → val (bestM b rows s os n p).1 ≤ val (bestM b rows s os (n + 1) p).1
  | 0, p, hp => pick_ge os 0 ((p.1, 1), none) (okI _) fun o ho => fM_ok (n := 0) rk hp ho
  | n + 1, p, hp => by
    refine pick_mono os 0 0 _ _ (okI _) (okI _) (fun o ho => ⟨fM_ok (n := n) rk hp ho, fM_ok (n := n + 1) rk hp ho, ?_⟩) Rat.le_refl
    refine mean_mono (V := fun q => (bestM b rows s os n q).1) (V' := fun q => (bestM b rows s os (n + 1) q).1) _ (0, 1) (0, 1) (okI 0) (okI 0) (fun e he => ?_) Rat.le_refl
    obtain ⟨m1, m2⟩ := ends_mem rk.bk hp (rk.op.all o ho).1 he
    obtain ⟨c1, c2, _, _⟩ := rk.ch o ho e.1 m1
    exact ⟨c1, c2, (best_bd rk n e.2 m2).1, (best_bd rk (n + 1) e.2 m2).1, best_mono rk n e.2 m2⟩
theorem best_over {b : Bk} {rows : List Cw} {s : Int} {os : List Opp} {L : Int} {N : Nat} (rk : Rk b rows s os L N) (n : Nat) {p : Int × Int} (hp : InBk b p) : aboveF (bestM b rows s os n p).1 (bestM b rows s os (n + 1) p).1 = false := by
  cases h : aboveF (bestM b rows s os n p).1 (bestM b rows s os (n + 1) p).1 with
  | false => rfl
  | true =>
    have z := (above_iff (best_bd rk n p hp).1 (best_bd rk (n + 1) p hp).1).mp h
    exact absurd (best_mono rk n p hp) (Rat.not_le.mpr z)
theorem best_none {b : Bk} {rows : List Cw} {s : Int} (n : Nat) (p : Int × Int) : (bestM b rows s [] n p).1 = (p.1, 1) := by cases n <;> rfl
/-! #### what is drawn is within the bounds -/
theorem half_s {f : Fr} (h : OkF f) (h0 : 0 ≤ f.1) (h1 : f.1 ≤ f.2) (h2 : f.2 ∣ 60) : OkF (halfF f) ∧ 0 ≤ (halfF f).1 ∧ (halfF f).1 ≤ (halfF f).2 ∧ (halfF f).2 ∣ 120 := by
  rw [← half_eq h]
  have hp := h.pos
  have hu : 0 < 2 * f.2 := by omega
  have g := gcd_pos (o := f.2 - f.1) hu
  refine ⟨norm_ok hu, Int.ediv_nonneg (by omega) (Int.le_of_lt g), Int.ediv_le_ediv g (by omega), ?_⟩
  have d : (norm (f.2 - f.1) (2 * f.2)).2 ∣ 2 * f.2 := ⟨(Int.gcd (f.2 - f.1) (2 * f.2) : Int), (Int.ediv_mul_cancel (Int.gcd_dvd_right ..)).symm⟩
  refine Int.dvd_trans d ?_
  obtain ⟨c, hc⟩ := h2
  exact ⟨c, by rw [Int.mul_assoc, ← hc]; rfl⟩
theorem ch_s {rows : List Cw} (hr : ∀ x ∈ rows, CwS x) (s o : Int) : ∀ c ∈ chM rows s o, OkF c ∧ 0 ≤ c.1 ∧ c.1 ≤ c.2 ∧ c.2 ∣ 120 := by
  intro c hc
  unfold chM at hc
  cases hx : cwAt rows (absI (s - o)) with
  | none => rw [hx] at hc; cases hc
  | some x =>
    rw [hx] at hc
    have hs := (hr x (cwAt_mem hx)).fs
    have up : ∀ f ∈ x.fs, OkF f ∧ 0 ≤ f.1 ∧ f.1 ≤ f.2 ∧ f.2 ∣ 120 := fun f hf => by
      obtain ⟨f1, f2, f3, f4⟩ := hs f hf
      exact ⟨f1, f2, f3, Int.dvd_trans f4 (by decide)⟩
    have m0 : x.f0 ∈ x.fs := by simp [Cw.fs]
    have m1 : x.f1 ∈ x.fs := by simp [Cw.fs]
    have m2 : x.f2 ∈ x.fs := by simp [Cw.fs]
    obtain ⟨f1, f2, f3, f4⟩ := hs x.f1 m1
    have hh := half_s f1 f2 f3 f4
    have hc : c ∈ (if s = o then [halfF x.f1, x.f1, halfF x.f1] else if o < s then [x.f0, x.f1, x.f2] else [x.f2, x.f1, x.f0]) := hc
    split at hc
    · simp only [List.mem_cons, List.not_mem_nil, or_false] at hc
      rcases hc with rfl | rfl | rfl
      · exact hh
      · exact up _ m1
      · exact hh
    · split at hc
      · simp only [List.mem_cons, List.not_mem_nil, or_false] at hc
        rcases hc with rfl | rfl | rfl
        · exact up _ m0
        · exact up _ m1
        · exact up _ m2
      · simp only [List.mem_cons, List.not_mem_nil, or_false] at hc
        rcases hc with rfl | rfl | rfl
        · exact up _ m2
        · exact up _ m1
        · exact up _ m0
theorem rk_s {b : Bk} {rows : List Cw} {s : Int} {os : List Opp} (hb : BkS b) (hr : RowsOk rows) (h1 : 1 ≤ rows.length) (s0 : 0 ≤ s) (s1 : s ≤ 99) (ho : OppOk b os) : Rk b rows s os 120 4 :=
  ⟨hb.ok, hr.cc h1, ho, s0, s1, by decide, by decide, by decide, fun o _ c hc => ch_s hr.cs s o.2 c hc⟩
/-! The twelve games: what is reckoned. -/
def bk12 : Bk := ⟨0, 20, [⟨0, some (1, -1), some (0, 0), some (-1, 1)⟩], 0, 1, 0⟩
def cc12 : List Cw := [⟨0, (1, 1), (0, 1), (0, 1)⟩]
theorem bk12_ok : BkOk bk12 := by
  refine ⟨by decide, by decide, by decide, ⟨by decide, by decide, ⟨_, _, rfl, rfl⟩, fun r hr => ?_, fun i r r' e e' => ?_⟩, by decide, by decide, by decide, by decide, by decide, by decide, by decide⟩
  · have : r = ⟨0, some (1, -1), some (0, 0), some (-1, 1)⟩ := List.mem_singleton.mp hr
    subst this
    refine ⟨by decide, by decide, fun e he => ?_⟩
    simp only [Rw.es, List.mem_cons, List.not_mem_nil, or_false] at he
    rcases he with rfl | rfl | rfl <;> (intro p hp; cases hp; decide)
  · have h : i + 1 < 1 := (List.getElem?_eq_some_iff.mp e').1
    omega
theorem cc12_ok : CcOk cc12 := by
  refine ⟨by decide, by decide, ⟨_, _, rfl, rfl⟩, fun r hr => ?_, fun i r r' e e' => ?_⟩
  · have : r = ⟨0, (1, 1), (0, 1), (0, 1)⟩ := List.mem_singleton.mp hr
    subst this
    refine ⟨by decide, by decide, fun f hf => ?_, by decide⟩
    simp only [Cw.fs, List.mem_cons, List.not_mem_nil, or_false] at hf
    rcases hf with rfl | rfl | rfl
    · exact ⟨okI 1, by decide, by decide⟩
    · exact ⟨okI 0, by decide, by decide⟩
    · exact ⟨okI 0, by decide, by decide⟩
  · have h : i + 1 < 1 := (List.getElem?_eq_some_iff.mp e').1
    omega
theorem last12 : bk12.last = 0 := by decide
theorem in12 {i : Int} (h0 : 0 ≤ i) (h1 : i ≤ 20) : InBk bk12 (i, 0) := ⟨h0, h1, Int.le_refl 0, (by rw [last12]; exact Int.le_refl 0)⟩
theorem row12 {d : Int} (h : 0 ≤ d) : rowAt bk12.rows d = some ⟨0, some (1, -1), some (0, 0), some (-1, 1)⟩ := by
  unfold rowAt bk12
  rw [List.filter_cons, if_pos (by exact decide_eq_true h)]
  rfl
theorem moved12 (i c : Int) (won : Bool) : movedM bk12 (i, 0) c won = (minI 20 (maxI 0 (i + c)), 0) := by
  unfold movedM
  rw [if_neg (by decide)]
  cases won <;> rfl
theorem game12 {u l : Int} (j : Nat) (h : l ≤ u) : gameM bk12 (u, 0) (l, 0) j = (([some (1, -1), some (0, 0), some (-1, 1)] : List (Option (Int × Int)))[j]?).bind fun e => e.bind fun c => some ((minI 20 (maxI 0 (u + c.1)), 0), (minI 20 (maxI 0 (l + c.2)), 0)) := by
  unfold gameM
  rw [row12 (show 0 ≤ ((u, (0 : Int)) : Int × Int).1 - ((l, (0 : Int)) : Int × Int).1 by show 0 ≤ u - l; omega)]
  simp only [moved12]
  rfl
theorem mine12 {i x : Int} (h0 : 0 ≤ i) (h1 : i ≤ 20) : mineM bk12 (i, 0) (x, 0) 0 = (minI 20 (i + 1), 0) ∧ mineM bk12 (i, 0) (x, 0) 2 = (maxI 0 (i - 1), 0) := by
  have a1 : minI 20 (maxI 0 (i + 1)) = minI 20 (i + 1) := by unfold minI maxI; (repeat' split) <;> omega
  have a2 : minI 20 (maxI 0 (i + -1)) = maxI 0 (i - 1) := by unfold minI maxI; (repeat' split) <;> omega
  unfold mineM
  by_cases h : x ≤ i
  · rw [if_pos (show ((x, (0 : Int)) : Int × Int).1 ≤ ((i, (0 : Int)) : Int × Int).1 from h), if_pos (show ((x, (0 : Int)) : Int × Int).1 ≤ ((i, (0 : Int)) : Int × Int).1 from h), game12 0 h, game12 2 h]
    exact ⟨by rw [← a1]; rfl, by rw [← a2]; rfl⟩
  · rw [if_neg (show ¬ ((x, (0 : Int)) : Int × Int).1 ≤ ((i, (0 : Int)) : Int × Int).1 from h), if_neg (show ¬ ((x, (0 : Int)) : Int × Int).1 ≤ ((i, (0 : Int)) : Int × Int).1 from h), game12 (2 - 0) (by omega), game12 (2 - 2) (by omega)]
    exact ⟨by rw [← a1]; rfl, by rw [← a2]; rfl⟩
theorem norm_1 (k : Int) : norm k 1 = (k, 1) := by
  have h := norm_one k
  exact h
theorem one_add (k : Int) : addF (0, 1) (mulF (1, 1) (k, 1)) = (k, 1) := by
  have h1 : mulF (1, 1) (k, 1) = (k, 1) := by
    show norm (1 * k) (1 * 1) = _
    rw [Int.one_mul]
    exact norm_1 k
  rw [h1]
  show norm (0 * 1 + k * 1) (1 * 1) = _
  rw [Int.zero_mul, Int.zero_add, Int.mul_one]
  exact norm_1 k
def mst (V : Int × Int → Fr) (t : Fr) (e : Fr × (Int × Int)) : Fr := if e.1 = (0, 1) then t else addF t (mulF e.1 (V e.2))
theorem mst0 {V : Int × Int → Fr} {t : Fr} {q : Int × Int} : mst V t ((0, 1), q) = t := if_pos rfl
theorem mst1 {V : Int × Int → Fr} {t : Fr} {q : Int × Int} : mst V t ((1, 1), q) = addF t (mulF (1, 1) (V q)) := if_neg (show ¬ ((1, 1) : Fr) = (0, 1) by decide)
theorem mean3 {V : Int × Int → Fr} {a b c : Fr × (Int × Int)} : meanM V [a, b, c] = mst V (mst V (mst V (0, 1) a) b) c := rfl
/-- an opponent who is beaten, one who is not -/
theorem mean40 {V : Int × Int → Fr} {i x k : Int} (h0 : 0 ≤ i) (h1 : i ≤ 20) (hv : V (minI 20 (i + 1), 0) = (k, 1)) : meanM V (endsM bk12 cc12 (i, 0) 50 (x, 0) 40) = (k, 1) := by
  obtain ⟨m1, m2⟩ := mine12 (x := x) h0 h1
  have e : endsM bk12 cc12 (i, 0) 50 (x, 0) 40 = [((1, 1), mineM bk12 (i, 0) (x, 0) 0), ((0, 1), mineM bk12 (i, 0) (x, 0) 1), ((0, 1), mineM bk12 (i, 0) (x, 0) 2)] := rfl
  rw [e, m1, mean3, mst1, mst0, mst0, hv]
  exact one_add k
theorem mean60 {V : Int × Int → Fr} {i x k : Int} (h0 : 0 ≤ i) (h1 : i ≤ 20) (hv : V (maxI 0 (i - 1), 0) = (k, 1)) : meanM V (endsM bk12 cc12 (i, 0) 50 (x, 0) 60) = (k, 1) := by
  obtain ⟨m1, m2⟩ := mine12 (x := x) h0 h1
  have e : endsM bk12 cc12 (i, 0) 50 (x, 0) 60 = [((0, 1), mineM bk12 (i, 0) (x, 0) 0), ((0, 1), mineM bk12 (i, 0) (x, 0) 1), ((1, 1), mineM bk12 (i, 0) (x, 0) 2)] := rfl
  rw [e, m2, mean3, mst0, mst0, mst1, hv]
  exact one_add k
def pst (x : Fr) (i : Nat) (a : Fr × Option Nat) : Fr × Option Nat := if aboveF x a.1 = true then (x, some i) else a
theorem pst_1 {x y : Int} {i : Nat} {u : Option Nat} : (pst (x, 1) i ((y, 1), u)).1 = (if y < x then x else y, 1) := by
  unfold pst aboveF
  by_cases h : y < x
  · rw [if_pos (decide_eq_true (show y * 1 < x * 1 by omega)), if_pos h]
  · rw [if_neg (by rw [decide_eq_true_eq]; show ¬ y * 1 < x * 1; omega), if_neg h]
theorem pst_2 {x y : Int} {i : Nat} {a : Fr × Option Nat} (h : a.1 = (y, 1)) : (pst (x, 1) i a).1 = (if y < x then x else y, 1) := by
  obtain ⟨f, u⟩ := a
  obtain rfl : f = (y, 1) := h
  exact pst_1
theorem pick2 {f : Opp → Fr} {o o' : Opp} {i w l : Int} (h1 : i ≤ w) (h2 : l ≤ w) (h : (f o = (w, 1) ∧ f o' = (l, 1)) ∨ (f o = (l, 1) ∧ f o' = (w, 1))) : (pickM f [o, o'] 0 ((i, 1), none)).1 = (w, 1) := by
  have e : pickM f [o, o'] 0 ((i, 1), none) = pst (f o') 1 (pst (f o) 0 ((i, 1), none)) := rfl
  rw [e]
  rcases h with ⟨e1, e2⟩ | ⟨e1, e2⟩
  · rw [e1, e2, pst_2 pst_1]
    congr 1
    (repeat' split) <;> omega
  · rw [e1, e2, pst_2 pst_1]
    congr 1
    (repeat' split) <;> omega
theorem best12 {o o' : Opp} (ho : o.1.2 = 0 ∧ o'.1.2 = 0) (h : (o.2 = 40 ∧ o'.2 = 60) ∨ (o.2 = 60 ∧ o'.2 = 40)) : ∀ (n : Nat) (i : Int), 0 ≤ i → i ≤ 20 → (bestM bk12 cc12 50 [o, o'] n (i, 0)).1 = (minI 20 (i + n), 1)
  | 0, i, h0, h1 => by
    show ((i, (1 : Int)) : Fr) = (minI 20 (i + (0 : Nat)), 1)
    have : minI 20 (i + (0 : Nat)) = i := by unfold minI; split <;> omega
    rw [this]
  | n + 1, i, h0, h1 => by
    have a1 : 0 ≤ minI 20 (i + 1) ∧ minI 20 (i + 1) ≤ 20 := by unfold minI; split <;> omega
    have a2 : 0 ≤ maxI 0 (i - 1) ∧ maxI 0 (i - 1) ≤ 20 := by unfold maxI; split <;> omega
    have v1 := best12 ho h n (minI 20 (i + 1)) a1.1 a1.2
    have v2 := best12 ho h n (maxI 0 (i - 1)) a2.1 a2.2
    have e1 : minI 20 (minI 20 (i + 1) + n) = minI 20 (i + (n + 1 : Nat)) := by unfold minI; (repeat' split) <;> omega
    have e2 : i ≤ minI 20 (i + (n + 1 : Nat)) := by unfold minI; split <;> omega
    have e3 : minI 20 (maxI 0 (i - 1) + n) ≤ minI 20 (i + (n + 1 : Nat)) := by unfold minI maxI; (repeat' split) <;> omega
    rw [e1] at v1
    obtain ⟨⟨ox, oy⟩, os⟩ := o
    obtain ⟨⟨ox', oy'⟩, os'⟩ := o'
    obtain ⟨rfl, rfl⟩ : oy = 0 ∧ oy' = 0 := ho
    refine pick2 e2 e3 ?_
    rcases h with ⟨h, h'⟩ | ⟨h, h'⟩
    · obtain rfl : os = 40 := h
      obtain rfl : os' = 60 := h'
      exact .inl ⟨mean40 h0 h1 v1, mean60 h0 h1 v2⟩
    · obtain rfl : os = 60 := h
      obtain rfl : os' = 40 := h'
      exact .inr ⟨mean60 h0 h1 v2, mean40 h0 h1 v1⟩
theorem ch12 (o : Int) (h : o = 40 ∨ o = 60) : ∀ c ∈ chM cc12 50 o, OkF c ∧ 0 ≤ c.1 ∧ c.1 ≤ c.2 ∧ c.2 ∣ 1 := by
  have e : chM cc12 50 o = [(1, 1), (0, 1), (0, 1)] ∨ chM cc12 50 o = [(0, 1), (0, 1), (1, 1)] := by
    rcases h with rfl | rfl
    · exact .inl rfl
    · exact .inr rfl
  have k0 : OkF (0, 1) ∧ (0 : Int) ≤ ((0, 1) : Fr).1 ∧ ((0, 1) : Fr).1 ≤ ((0, 1) : Fr).2 ∧ ((0, 1) : Fr).2 ∣ 1 := ⟨okI 0, by decide, by decide, by decide⟩
  have k1 : OkF (1, 1) ∧ (0 : Int) ≤ ((1, 1) : Fr).1 ∧ ((1, 1) : Fr).1 ≤ ((1, 1) : Fr).2 ∧ ((1, 1) : Fr).2 ∣ 1 := ⟨okI 1, by decide, by decide, by decide⟩
  intro c hc
  rcases e with e | e <;> rw [e] at hc <;> simp only [List.mem_cons, List.not_mem_nil, or_false] at hc
  · rcases hc with rfl | rfl | rfl
    · exact k1
    · exact k0
    · exact k0
  · rcases hc with rfl | rfl | rfl
    · exact k0
    · exact k0
    · exact k1
theorem rk12 {o o' : Opp} (ho : InBk bk12 o.1 ∧ InBk bk12 o'.1) (h : (o.2 = 40 ∧ o'.2 = 60) ∨ (o.2 = 60 ∧ o'.2 = 40)) : Rk bk12 cc12 50 [o, o'] 1 12 := by
  have hs : ∀ x ∈ [o, o'], x.2 = 40 ∨ x.2 = 60 := fun x hx => by
    simp only [List.mem_cons, List.not_mem_nil, or_false] at hx
    rcases hx with rfl | rfl <;> omega
  refine ⟨bk12_ok, cc12_ok, ⟨by show 2 ≤ 10; decide, fun x hx => ?_⟩, by decide, by decide, by decide, by decide, by decide, fun x hx c hc => ch12 x.2 (hs x hx) c hc⟩
  have h2 := hs x hx
  simp only [List.mem_cons, List.not_mem_nil, or_false] at hx
  rcases hx with rfl | rfl
  · exact ⟨ho.1, by omega, by omega⟩
  · exact ⟨ho.2, by omega, by omega⟩
/-! _law_twelve_right. -/
section
variable {P : Program} {w : World} {K : PySem.W.Frag} {mg : Str → Option Value} {base : Heap}
def rTwelve (rs : List SV) (_ : Hp) (r : SV) : Prop := rs = [] ∧ r = boolD true
theorem eqv_same (a : Fr) : PyData.eqv (pr a) (pr a) = true := by rw [eqv_pr]; exact decide_eq_true rfl
theorem len12 (s : Int) (os : List Opp) : (planM bk12 cc12 s os 12).length = 252 := by
  unfold planM keysM
  rw [List.length_map, all2_len]
  rfl
theorem ok_ztwelve (T : Tx K mg) : CallOk P w K mg base "_law_twelve_right" 41 (SpR K rTwelve) := by
  have C1 := make_book0 (P := P) (w := w) (base := base) T
  have C2 := make_chances (P := P) (w := w) (base := base) T
  have C3 := ok_greatestmean (P := P) (w := w) (base := base) T
  have C4 := ok_bestplan (P := P) (w := w) (base := base) T
  have C5 := ok_meanof (P := P) (w := w) (base := base) T
  obtain ⟨fd, F⟩ := D_ztwelveright T
  refine call_of F (fn_pure F sc_ztwelveright (fun rs H r ⟨e, _⟩ => by rw [e]; rfl) ?_) (g_ztwelveright T) (fun _ _ _ _ _ _ us hl => match us, hl with | [], _ => rfl)
  rintro cdv A outer st H E Q rs r hr ⟨rfl, rfl⟩ ok hQ
  refine bd_parX ok 0 1 rfl rfl (by decide) (eax_cons ok (P := fun v H => ∃ a, v = .ref a ∧ BookAt K H a bk12) (EX.imp ok (ex_make ok C1 (Nat.le_of_ble_eq_true rfl) (rs := [.d (.int 0), .d (.int 20), .d (.list (bk12.rows.map rwD))]) (rs2 := [.d (.int 0), .d (.int 1), .d (.int 0)]) (ea_cons ok (by walk_at "ev") (ea_two ok (by walk_at "ev") (ev_lst ok (xs := bk12.rows.map rwD) (ea_one ok (ev_tup ok (xs := [.int 0, .tuple [.int 1, .int (-1)], .tuple [.int 0, .int 0], .tuple [.int (-1), .int 1]]) (ea_cons ok (by walk_at "ev") (ea_cons ok (by walk_at "ev") (ea_two ok (by walk_at "ev") (by walk_at "ev")))) (by show 4 ≤ 100; decide))) (by show 1 ≤ 100; decide)))) (fun H => .cons (.int 0) (.cons (.int 1) (.cons (.int 0) .nil))) (fun _ _ _ z => z) (fun _ _ => ⟨bk12, rfl, bk12_ok⟩)) fun v H1 e1 ⟨a, dx, Hs, ev, _, b, hb, hat⟩ => ⟨a, ev, by rw [bkArgs_inj (b := bk12) (b' := b) hb]; exact hat⟩) (fun v Ha Hb e ⟨a, ev, h⟩ => ⟨a, ev, h.ex e⟩)
    (eax_cons ok (P := fun v H => ∃ a, v = .ref a ∧ ChAt K H a cc12) (EX.imp ok (ex_make ok C2 (Nat.le_of_ble_eq_true rfl) (rs := [.d (.list (cc12.map cwD))]) (rs2 := []) (ea_one ok (ev_lst ok (xs := cc12.map cwD) (ea_one ok (ev_tup ok (xs := [.int 0, pr (1, 1), pr (0, 1), pr (0, 1)]) (ea_cons ok (by walk_at "ev") (ea_cons ok (ev_tup2 ok (x := .int 1) (y := .int 1) (by walk_at "ev") (by walk_at "ev")) (ea_two ok (ev_tup2 ok (x := .int 0) (y := .int 1) (by walk_at "ev") (by walk_at "ev")) (ev_tup2 ok (x := .int 0) (y := .int 1) (by walk_at "ev") (by walk_at "ev"))))) (by show 4 ≤ 100; decide))) (by show 1 ≤ 100; decide))) (fun H => .nil) (fun _ _ _ z => z) (fun _ _ => ⟨cc12, rfl, cc12_ok⟩)) fun v H1 e1 ⟨a, dx, Hs, ev, _, rows, hr, hat⟩ => ⟨a, ev, ?_⟩) (fun v Ha Hb e ⟨a, ev, h⟩ => ⟨a, ev, h.ex e⟩) (eax_nil ok))) fun vs H1 e1 hvs => ?_
  · rw [List.append_nil] at hr
    simp only [List.cons.injEq, SV.d.injEq, PyData.list.injEq, and_true] at hr
    rw [show cc12 = rows from map_inj (fun _ _ => cwD_inj) hr]
    exact hat
  obtain ⟨_, _, rfl, ⟨ab, rfl, hb⟩, _, _, rfl, ⟨ac, rfl, hc⟩, rfl⟩ := hvs
  refine ⟨_, _, .v (.ref ab), .v (.ref ac), rfl, rfl, rfl, ?_⟩
  have ok1 := ok.at_ H1
  refine bd_for1 ok1 2 rfl (iv_listM ok1 (xs := ([0, 5, 10] : List Int)) (enc := PyData.int) (ev_lst ok1 (xs := ([0, 5, 10] : List Int).map PyData.int) (ea_cons ok1 (by walk_at "ev") (ea_two ok1 (by walk_at "ev") (by walk_at "ev"))) (by show 3 ≤ 100; decide))) (fun i ds' => ∃ q, ds' = [some (.v (.ref ab)), some (.v (.ref ac)), q, none]) ⟨none, rfl⟩ ?_ ?_
  · rintro H2 r2 ok2 i _ hi ⟨q, rfl⟩
    obtain ⟨x, hx⟩ : ∃ x, ([0, 5, 10] : List Int)[i]? = some x := ⟨_, List.getElem?_eq_getElem hi⟩
    have hx2 : 0 ≤ x ∧ x ≤ 20 := by
      have := List.mem_of_getElem? hx
      simp only [List.mem_cons, List.not_mem_nil, or_false] at this
      omega
    rw [getD_map hx]
    have hv := best12 (o := ((x, 0), 40)) (o' := ((0, 0), 60)) ⟨rfl, rfl⟩ (.inl ⟨rfl, rfl⟩) 12 x hx2.1 hx2.2
    have rk := rk12 (o := ((x, 0), 40)) (o' := ((0, 0), 60)) ⟨in12 hx2.1 hx2.2, in12 (by decide) (by decide)⟩ (.inl ⟨rfl, rfl⟩)
    refine bd_if0 ok2 (tv_ne ok2 (x := pr (bestM bk12 cc12 50 [((x, 0), 40), ((0, 0), 60)] 12 (x, 0)).1) (y := pr (minI 20 (x + 12), 1)) (ev_call ok2 C3 (Nat.le_refl _) (ea_cons ok2 (by walk_at "ev") (ea_cons ok2 (by walk_at "ev") (ea_cons ok2 (r := .d (plD (x, 0))) (ev_tup2 ok2 (x := .int x) (y := .int 0) (by walk_at "ev") (by walk_at "ev")) (ea_cons ok2 (by walk_at "ev") (ea_two ok2 (r := .d (.list ([((x, 0), 40), ((0, 0), 60)].map oppD))) (s := .d (.int ((12 : Nat) : Int))) (ev_lst ok2 (xs := [((x, 0), 40), ((0, 0), 60)].map oppD) (ea_two ok2 (r := .d (oppD ((x, 0), 40))) (s := .d (oppD ((0, 0), 60))) (ev_tup2 ok2 (x := plD (x, 0)) (y := .int 40) (ev_tup2 ok2 (x := .int x) (y := .int 0) (by walk_at "ev") (by walk_at "ev")) (by walk_at "ev")) (ev_tup2 ok2 (x := plD (0, 0)) (y := .int 60) (ev_tup2 ok2 (x := .int 0) (y := .int 0) (by walk_at "ev") (by walk_at "ev")) (by walk_at "ev"))) (by show 2 ≤ 100; decide)) (ev_int ok2)))))) fun H' e' => ⟨ab, ac, bk12, cc12, (x, 0), 50, [((x, 0), 40), ((0, 0), 60)], 12, 1, 12, rfl, ⟨(hb.ex r2).ex e', (hc.ex r2).ex e', rk, Nat.le_refl _, Nat.le_refl _, in12 hx2.1 hx2.2⟩, rfl⟩)
      (ev_tup2 ok2 (x := .int (minI 20 (x + 12))) (y := .int 1) (ev_min ok2 (b_min T) (by walk_at "ev") (by walk_at "ev")) (by walk_at "ev")) rfl rfl) ?_ (bd_nil fun σ H' hr' hs' => ⟨_, hr', ⟨_, rfl⟩, hs'⟩)
    rw [hv]
    show (!PyData.eqv (pr (minI 20 (x + 12), 1)) (pr (minI 20 (x + 12), 1))) = false
    rw [eqv_same]
    rfl
  · rintro _ ⟨q, rfl⟩
    have hv := best12 (o := ((0, 0), 60)) (o' := ((3, 0), 40)) ⟨rfl, rfl⟩ (.inr ⟨rfl, rfl⟩) 12 0 (by decide) (by decide)
    have rk := rk12 (o := ((0, 0), 60)) (o' := ((3, 0), 40)) ⟨in12 (by decide) (by decide), in12 (by decide) (by decide)⟩ (.inr ⟨rfl, rfl⟩)
    refine bd_asgX ok1 3 rfl (ex_call ok1 C4 (Nat.le_refl _) (Post := fun v H => ∃ D, v = .ref D ∧ DN P w K H D encK (planM bk12 cc12 50 [((0, 0), 60), ((3, 0), 40)] 12)) (ea_cons ok1 (by walk_at "ev") (ea_cons ok1 (by walk_at "ev") (ea_cons ok1 (r := .d (plD (0, 0))) (ev_tup2 ok1 (x := .int 0) (y := .int 0) (by walk_at "ev") (by walk_at "ev")) (ea_cons ok1 (by walk_at "ev") (ea_two ok1 (r := .d (.list ([((0, 0), 60), ((3, 0), 40)].map oppD))) (s := .d (.int ((12 : Nat) : Int))) (ev_lst ok1 (xs := [((0, 0), 60), ((3, 0), 40)].map oppD) (ea_two ok1 (r := .d (oppD ((0, 0), 60))) (s := .d (oppD ((3, 0), 40))) (ev_tup2 ok1 (x := plD (0, 0)) (y := .int 60) (ev_tup2 ok1 (x := .int 0) (y := .int 0) (by walk_at "ev") (by walk_at "ev")) (by walk_at "ev")) (ev_tup2 ok1 (x := plD (3, 0)) (y := .int 40) (ev_tup2 ok1 (x := .int 3) (y := .int 0) (by walk_at "ev") (by walk_at "ev")) (by walk_at "ev"))) (by show 2 ≤ 100; decide)) (ev_int ok1)))))) fun H' vs Q' e' dv q => ⟨ab, ac, bk12, cc12, (0, 0), 50, [((0, 0), 60), ((3, 0), 40)], 12, 1, 12, dv, ⟨hb.ex e', hc.ex e', rk, Nat.le_refl _, Nat.le_refl _, in12 (by decide) (by decide)⟩, fun H'' D e'' h => q _ H'' e'' ⟨D, rfl, h⟩⟩) fun v H2 r2 ⟨D, ev, hD⟩ ok2 => ⟨.v (.ref D), ev, ?_⟩
    have m1 : CMul 12 21 := .inl ⟨by decide, by decide⟩
    refine bd_retC ok2 (r' := boolD true) (fun v H' e' d => hQ v H' (e1.trans (r2.trans e')) d) (ev_and ok2 (ev_eqI ok2 (ev_lenN ok2 enc_K (d := D) (n := 252) (b_len T) (by walk_at "ev") fun H' e' => ⟨_, hD.ex_ enc_K e', len12 _ _⟩) (by walk_at "ev")) fun _ => ev_one ok2 (ev_eq ok2 (x := pr (bestM bk12 cc12 50 [((0, 0), 60), ((3, 0), 40)] 12 (0, 0)).1) (y := pr (12, 1)) (ev_call ok2 C5 (Nat.le_of_ble_eq_true rfl) (ea_cons ok2 (by walk_at "ev") (ea_cons ok2 (by walk_at "ev") (ea_cons ok2 (r := .d (plD (0, 0))) (ev_tup2 ok2 (x := .int 0) (y := .int 0) (by walk_at "ev") (by walk_at "ev")) (ea_cons ok2 (by walk_at "ev") (ea_cons ok2 (r := .d (.list ([((0, 0), 60), ((3, 0), 40)].map oppD))) (ev_lst ok2 (xs := [((0, 0), 60), ((3, 0), 40)].map oppD) (ea_two ok2 (r := .d (oppD ((0, 0), 60))) (s := .d (oppD ((3, 0), 40))) (ev_tup2 ok2 (x := plD (0, 0)) (y := .int 60) (ev_tup2 ok2 (x := .int 0) (y := .int 0) (by walk_at "ev") (by walk_at "ev")) (by walk_at "ev")) (ev_tup2 ok2 (x := plD (3, 0)) (y := .int 40) (ev_tup2 ok2 (x := .int 3) (y := .int 0) (by walk_at "ev") (by walk_at "ev")) (by walk_at "ev"))) (by show 2 ≤ 100; decide)) (ea_two ok2 (r := .d (.int ((12 : Nat) : Int))) (ev_int ok2) (by walk_at "ev")))))))
      fun H' e' => ⟨ab, ac, bk12, cc12, (0, 0), 50, [((0, 0), 60), ((3, 0), 40)], 12, 1, 12, D, rfl, ⟨(hb.ex r2).ex e', (hc.ex r2).ex e', rk, Nat.le_refl _, Nat.le_refl _, in12 (by decide) (by decide)⟩, hD.ex_ enc_K e', rfl⟩) (ev_tup2 ok2 (x := .int 12) (y := .int 1) (by walk_at "ev") (by walk_at "ev")) rfl rfl)) ?_
    rw [hv]
    rfl
end
/-! What the law's own def needs. -/
theorem depth_strs : ∀ ss : List Str, PyData.depthAll (ss.map PyData.str) ≤ 1
  | [] => by simp [PyData.depthAll]
  | x :: ss => by
    have ih := depth_strs ss
    simp only [List.map_cons, PyData.depthAll, PyData.depth]
    omega
theorem lay_strs : ∀ ss : List Str, (∀ x ∈ ss, PyData.strOk x = true) → PyData.canLayAll0 (ss.map PyData.str) = true
  | [], _ => rfl
  | x :: ss, h => by
    have ih := lay_strs ss fun y hy => h y (List.mem_cons_of_mem _ hy)
    simp only [List.map_cons, PyData.canLayAll0, PyData.canLay0, Bool.and_eq_true]
    exact ⟨h x List.mem_cons_self, ih⟩
theorem lay_strL {ss : List Str} (h : ∀ x ∈ ss, PyData.strOk x = true) : (PyData.list (ss.map PyData.str)).canLay0 = true := by
  simp only [PyData.canLay0]
  exact lay_strs ss h
theorem shaped_strs {ss : List Str} (h : ∀ x ∈ ss, PyData.strOk x = true) : SeqAt.shaped (.list (ss.map PyData.str)) = true := by
  unfold SeqAt.shaped
  rw [lay_strL h, Bool.true_and, decide_eq_true_eq]
  have h := depth_strs ss
  simp only [PyData.depth]
  omega
theorem eqv_strs {ss : List Str} (h : ∀ x ∈ ss, PyData.strOk x = true) : PyData.eqv (.list (ss.map PyData.str)) (.list (ss.map PyData.str)) = true := SeqAt.eqv_refl _ (lay_strL h)
theorem srt_mem {xs : List Str} {x : Str} (h : x ∈ srt xs) : x ∈ xs := by
  unfold srt at h
  split at h
  · rename_i hx
    exact hx.choose_spec.1.mem_iff.mp h
  · cases h
def fewKeys : List (Int × (Int × Int)) := all2 (fun i j => ((i : Int), ((j / 3 : Nat) : Int), ((j % 3 : Nat) : Int))) 12 5
theorem mem_fewKeys {n : Nat} {p : Int × Int} (hn : n ≤ 4) (h0 : 0 ≤ p.1) (h1 : p.1 ≤ 3) (h2 : 0 ≤ p.2) (h3 : p.2 ≤ 2) : ((n : Int), p) ∈ fewKeys := by
  obtain ⟨a, b⟩ := p
  unfold fewKeys
  rw [mem_all2]
  refine ⟨n, a.toNat * 3 + b.toNat, by omega, by show a.toNat * 3 + b.toNat < 12; omega, ?_⟩
  show ((n : Int), a, b) = ((n : Int), (((a.toNat * 3 + b.toNat) / 3 : Nat) : Int), (((a.toNat * 3 + b.toNat) % 3 : Nat) : Int))
  congr 2
  · omega
  · omega
theorem fewKeys_ok : (fewKeys.all fun k => (encK k).showable && (!(encK k).hasDict && (decide ((encK k).shown.length ≤ 100) && (decide ((encK k).depth ≤ 8) && PyData.strOk (encK k).shown)))) = true := by decide +kernel
theorem key_ok {k : Int × (Int × Int)} (h : k ∈ fewKeys) : (encK k).showable = true ∧ (encK k).hasDict = false ∧ (encK k).shown.length ≤ sizeLine ∧ (encK k).depth ≤ 8 ∧ PyData.strOk (encK k).shown = true := by
  have z := List.all_eq_true.mp fewKeys_ok k h
  simp only [Bool.and_eq_true, Bool.not_eq_true', decide_eq_true_eq] at z
  exact ⟨z.1, z.2.1, Nat.le_trans z.2.2.1 (by decide), z.2.2.2.1, z.2.2.2.2⟩
theorem keysM_few {b : Bk} (hb : BkS b) {n : Nat} (hn : n ≤ 3) : ∀ k ∈ keysM b n, k ∈ fewKeys := by
  intro k hk
  obtain ⟨i, hi, h1, h2⟩ := mem_keysM.mp hk
  obtain ⟨k1, k2⟩ := k
  have h1 : k1 = 1 + (i : Int) := h1
  have b0 := hb.ok.l0
  have b1 := hb.sp
  have hl := hb.lo
  have p1 := hb.ok.b.p1
  have r1 : k2.1 ≤ b.high := h2.r1
  have z := mem_fewKeys (n := 1 + i) (p := k2) (by omega) (Int.le_trans b0 h2.r0) (by omega) h2.p0 (Int.le_trans h2.p1 p1)
  rw [h1]
  have e : ((1 + i : Nat) : Int) = 1 + (i : Int) := by omega
  rw [← e]
  exact z
theorem plan_keys (b : Bk) (rows : List Cw) (s : Int) (os : List Opp) (n : Nat) : (planM b rows s os n).map (·.1) = keysM b n := by
  unfold planM
  rw [List.map_map]
  exact List.map_id _
theorem spots_s {b : Bk} (hb : BkS b) : b.spots.length ≤ 9 := by
  have h1 := hb.ok.lh
  have h2 := hb.sp
  have h3 := hb.ok.b.p0
  have h4 := hb.ok.b.p1
  unfold Bk.spots
  rw [all2_len]
  exact Nat.mul_le_mul (show (b.high + 1 - b.low).toNat ≤ 3 by omega) (show (b.last + 1).toNat ≤ 3 by omega)
theorem spots_pos {b : Bk} (hb : BkOk b) : 0 < b.spots.length := by
  have h1 := hb.lh
  have h3 := hb.b.p0
  unfold Bk.spots
  rw [all2_len]
  exact Nat.mul_pos (by omega) (by omega)
theorem map_rangeD {α : Type} (d : α) (xs : List α) (k : α → PyData) : (List.range xs.length).map (fun j => k (xs.getD j d)) = xs.map k := by
  refine List.ext_getElem? fun i => ?_
  rw [List.getElem?_map, List.getElem?_map]
  by_cases h : i < xs.length
  · rw [List.getElem?_range h, List.getElem?_eq_getElem h]
    show some (k (xs.getD i d)) = some (k xs[i])
    rw [List.getD_eq_getElem?_getD, List.getElem?_eq_getElem h]
    rfl
  · rw [List.getElem?_eq_none (by rw [List.length_range]; omega), List.getElem?_eq_none (by omega)]
    rfl
theorem MAt.rx {K : PySem.W.Frag} {H H' : Hp} {a : Addr} {b : Bk} {S : List Addr} {G : Hp → Prop} (h : MAt K H a b) (g : Gok G) (r : RXS S G H H') : MAt K H' a b :=
  let ⟨vt, h1, h2⟩ := h
  ⟨vt, r.1 _ _ h1 fun _ => id, dp_of (fun _ _ => (kp_rxs g).sl_ r) (fun _ _ => (kp_rxs g).st_ r) h2⟩
/-- a list's slot as a plain value -/
theorem Sl.toV {K : PySem.W.Frag} {H : Hp} {σ : L2.St} {ds : Sd} {j : Nat} {r : SV} (q : Sl K H σ ds) (h : ds[j]? = some (some r)) : ∃ v, Dq K H v r ∧ Sl K H σ (ds.set j (some (.v v))) := by
  obtain ⟨v, e, d⟩ := q.2 j r h
  refine ⟨v, d, by rw [List.length_set]; exact q.1, fun i r' e' => ?_⟩
  by_cases hij : j = i
  · subst hij
    have hl : j < ds.length := by
      rcases Nat.lt_or_ge j ds.length with z | z
      · exact z
      · rw [List.getElem?_eq_none z] at h; cases h
    rw [List.getElem?_set_self hl] at e'
    cases e'
    exact ⟨v, e, rfl⟩
  · rw [List.getElem?_set_ne hij] at e'
    exact q.2 i r' e'
section
variable {ι : Type} {m : Mo ι} {ds : Sd} {pos : Pos}
theorem ev_varD (ok : m.Ok) {e : Expr} {u : V} {r : SV} (h : EV m ds e (.v u)) (hd : ∀ H, m.R m.H0 H → Dq m.S.K H u r) : EV m ds e r := fun σ H hr hs Q k => h σ H hr hs Q fun v H2 r2 d => by
  obtain rfl : v = u := d
  exact k v H2 r2 (hd H2 (ok.trans hr r2))
theorem ev_call0 (ok : m.Ok) {x : Str} {k : Nat} {rel : List SV → Hp → SV → Prop} (C : m.S.call x k (SpR m.S.K rel)) (hk : k ≤ m.k) {r : SV} {p : Pos} (hrel : ∀ H, m.R m.H0 H → rel [] H r)
    (hg : ∀ i, Gl (m.F i) x := by intro _; rfl) (hdb : (x == ("__debug__" : Str)) = false := by decide) : EV m ds (.Call (.Name x p) [] [] pos) r := fun σ H hr hs Q q => by
  obtain ⟨f, fd, ps, F, hm, kp, b⟩ := C.ex
  refine wE_of (t := tCall (SpR m.S.K rel) [] E0 tNil) (fun i => pe_call0 (by rw [ok.hp i, ok.hw i, ok.hK i, ok.hm i, ok.hb i]; exact F) ((ok.room i).mono hk) (hg i) (by rw [ok.hm i]; exact hm) (by rw [ok.hK i]; exact kp) (by rw [ok.hK i]; exact b) .nil pass0 hdb) ?_
  exact ⟨[], r, .nil, hrel H hr, fun v H' e' d => q v H' (ok.ex e') d⟩
/-- [], new -/
theorem ex_nilF (ok : m.Ok) (hfr : ∀ H D, m.R m.H0 H → H D = none → m.H0 D = none) : EX m ds (.List [] pos) (fun v H => ∃ D, v = .ref D ∧ H D = some (.lst []) ∧ m.H0 D = none) := fun σ H hr hs Q q =>
  wE_of (fun i => pe_lst (wA_ok i)) (wA_of (fun _ => pa_nil) ⟨Nat.zero_le _, fun a na => q _ _ (ok.new na) ⟨a, rfl, upd_same, hfr H a hr na⟩⟩)
theorem ws_par3X (ok : m.Ok) (j l n : Nat) {x y z : Str} {e f g : Expr} {P : List V → Hp → Prop} {rest : List Stmt} {D : Ends} {px py pz pt pt2 : Pos} {kt k2 : Nat} {σ : L2.St} {H : Hp} (hr : m.R m.H0 H) (hs : Sl m.S.K H σ ds) (hx : m.S.N[j]? = some x) (hy : m.S.N[l]? = some y) (hz : m.S.N[n]? = some z) (hjl : j ≠ l) (hjn : j ≠ n) (hln : l ≠ n) (h : EAX m ds [e, f, g] P)
    (q : ∀ vs H1, m.R H H1 → P vs H1 → ∃ v v' v'', vs = [v, v', v''] ∧ wSs m.F rest D (((σ.set j (some v)).set l (some v')).set n (some v'')) H1)
    (hlx : ∀ i, (m.F i).env.scope.names.lookup x = some .local := by intro _; rfl) (hly : ∀ i, (m.F i).env.scope.names.lookup y = some .local := by intro _; rfl) (hlz : ∀ i, (m.F i).env.scope.names.lookup z = some .local := by intro _; rfl)
    (hw : ∀ i, swappedStores [.Tuple [.Name x px, .Name y py, .Name z pz] kt pt] (.Tuple [e, f, g] k2 pt2) (m.F i).env = pure (some [x, y, z]) := by intro _; rfl) (hsw : ∀ i, swapsWithSole [.Tuple [.Name x px, .Name y py, .Name z pz] kt pt] (.Tuple [e, f, g] k2 pt2) pos.line (m.F i).env = pure false := by intro _; rfl) :
    wSs m.F (.Assign [.Tuple [.Name x px, .Name y py, .Name z pz] kt pt] (.Tuple [e, f, g] k2 pt2) pos :: rest) D σ H := by
  refine wSs_cons (wS_of (t := tPar3 j l n (wA m.F [e, f, g])) (fun i => ps_par3 (ok.calm i) (by rw [ok.hN i]; exact ok.nd) (by rw [ok.hN i]; exact hx) (by rw [ok.hN i]; exact hy) (by rw [ok.hN i]; exact hz) hjl hjn hln (hlx i) (hly i) (hlz i) (wA_ok i) (hw i) (hsw i)) ?_)
  refine h σ H hr hs _ fun vs H1 r1 p1 => ?_
  obtain ⟨v, v', v'', rfl, b⟩ := q vs H1 r1 p1
  exact ⟨v, v', v'', rfl, b⟩
theorem ep_pick (ok : m.Ok) (T : Tx m.S.K m.S.mg) (hk : 2 ≤ m.k) {a : Addr} {e f : Expr} {xs : List PyData} {p : Pos} (hR : ∀ {H H'}, RP a H H' → m.R H H') (hP : ∀ H, m.R m.H0 H → PX a H) (he : EV m ds e (.v (.ref a))) (hf : EV m ds f (.d (.list xs))) (h0 : 0 < xs.length) (h1 : xs.length ≤ 1000)
    (hg : ∀ i, Gl (m.F i) "_law_pick" := by intro _; rfl)
    (hs : ∀ i, starEach [e, f] (m.F i).env = (false, eval e (m.F i).env) :: starEach [f] (m.F i).env := by intro _; rfl) (hs2 : ∀ i, starEach [f] (m.F i).env = (false, eval f (m.F i).env) :: starEach [] (m.F i).env := by intro _; rfl) (hpl : ∀ i, (backTo pos (starEach [f] (m.F i).env)).any (·.1) = false := by intro _; rfl) :
    EP m ds (.Call (.Name "_law_pick" p) [e, f] [] pos) (fun r => ∃ x, x ∈ xs ∧ r = .d x) := fun σ H hr hsl Q q =>
  ex_callP ok (ok_zpick (P := m.S.P) (w := m.S.w) (base := m.S.base) T) hk hR hP (P := fun rs => rs = [.v (.ref a), .d (.list xs)]) (EA.eap (ea_two ok he hf hs hs2) rfl) (fun rs H _ e => ⟨_, e, xs, rfl, h0, h1⟩) hg (by decide) hs hpl σ H hr hsl Q fun v H2 r2 ⟨rs', e1, ys, x, e2, hx, d⟩ => by
    rw [e2] at e1
    simp only [List.cons.injEq, SV.d.injEq, PyData.list.injEq, and_true, true_and] at e1
    subst e1
    exact q v H2 r2 ⟨_, ⟨x, hx, rfl⟩, d⟩
end
/-! The law's own def. -/
theorem dpa_ofInts {K : PySem.W.Frag} {H : Hp} : ∀ ns : List Int, DpAll K H (ns.map V.int) (ns.map PyData.int)
  | [] => .nil
  | x :: ns => .cons (.int x) (dpa_ofInts ns)
theorem noLs_opp (os : List Opp) : noL.noLs (os.map oppD) = true := noLs_of fun x hx => by
  obtain ⟨o, _, rfl⟩ := List.mem_map.mp hx
  rfl
@[irreducible] def keyT (k : Int × (Int × Int)) : Str := (encK k).shown
theorem keyT_eq (k : Int × (Int × Int)) : keyT k = (PyData.tuple [.int k.1, plD k.2]).shown := by
  unfold keyT
  rfl
theorem keyT_ok {ks : List (Int × (Int × Int))} (few : ∀ k ∈ ks, k ∈ fewKeys) : ∀ x ∈ srt (ks.map keyT), PyData.strOk x = true := fun x hx => by
  obtain ⟨k, hk, rfl⟩ := List.mem_map.mp (srt_mem hx)
  have z := (key_ok (few k hk)).2.2.2.2
  unfold keyT
  exact z
section
variable {ι : Type} {m : Mo ι} {ds : Sd} {pos : Pos}
theorem iv_plan (ok : m.Ok) {tg o : Expr} {d : Addr} {b : Bk} {rows : List Cw} {s : Int} {os : List Opp} {n : Nat} (ho : EV m ds o (.v (.ref d))) (hd : ∀ H, m.R m.H0 H → DN m.S.P m.S.w m.S.K H d encK (planM b rows s os n)) (hkeep : ∀ {H1 H2 o}, m.R H1 H2 → H1 d = some (exO d o) → H2 d = some (exO d o)) : IV m ds tg o (keysM b n).length fun i => ((keysM b n).map encK).getD i .none := by
  have z := iv_kN (tg := tg) ok enc_K ho hd hkeep
  rw [plan_keys] at z
  exact z
/-- sorted([str(key) for key in iter]) -/
theorem ev_strKeys (ok : m.Ok) (T : Tx m.S.K m.S.mg) (hgd : ∀ i, (m.F i).A.guards = some []) (j : Nat) {x : Str} {iter : Expr} {scope : Scope} {p pn p1 p2 lpos cpos : Pos} (ks : List (Int × (Int × Int))) (few : ∀ k ∈ ks, k ∈ fewKeys) (hl : ks.length < 64) (hj : j < ds.length) (hN : m.S.N[j]? = some x) (hi : IV m ds (.Name x p) iter ks.length fun i => (ks.map encK).getD i .none)
    (hv : ∀ z, Vis ((m.blk scope).F z).env.scope x) (hx1 : (x == ("__debug__" : Str)) = false) (hx2 : (x == ("__classdict__" : Str)) = false)
    (hb : ∀ i, blkC m.S.N (m.F i).env.scope scope [(x, j)] = true := by intro _; kernel_rfl)
    (hlo : ∀ z, Loc ((m.blk scope).F z).env.scope x := by intro _; first | exact Or.inl rfl | exact Or.inr rfl)
    (hfn : ∀ z, ((m.blk scope).F z).fn x = true ∨ ((m.blk scope).F z).env.scope.names.lookup x = some .local := by intro _; first | exact Or.inl rfl | exact Or.inr rfl)
    (hfs : ∀ i, ∀ x, foldedSetIterable iter (m.F i).env x = pure x := by intro _ _; rfl)
    (g1 : ∀ z, Gl ((m.blk scope).F z) "str" := by intro _; rfl) (g2 : ∀ z, starEach [.Name x pn] ((m.blk scope).F z).env = (false, eval (.Name x pn) ((m.blk scope).F z).env) :: starEach [] ((m.blk scope).F z).env := by intro _; rfl) (g3 : ∀ z, (backTo cpos (starEach [] ((m.blk scope).F z).env)).any (·.1) = false := by intro _; rfl)
    (g4 : ∀ i, Gl (m.F i) "sorted" := by intro _; rfl) (g5 : ∀ i, starEach [.ListComp (.Call (.Name "str" p1) [.Name x pn] [] cpos) [⟨.Name x p, iter, [], 0⟩] scope lpos] (m.F i).env = (false, eval (.ListComp (.Call (.Name "str" p1) [.Name x pn] [] cpos) [⟨.Name x p, iter, [], 0⟩] scope lpos) (m.F i).env) :: starEach [] (m.F i).env := by intro _; rfl) (g6 : ∀ i, (backTo pos (starEach [] (m.F i).env)).any (·.1) = false := by intro _; rfl) :
    EV m ds (.Call (.Name "sorted" p2) [.ListComp (.Call (.Name "str" p1) [.Name x pn] [] cpos) [⟨.Name x p, iter, [], 0⟩] scope lpos] [] pos) (.d (.list ((srt (ks.map keyT)).map PyData.str))) := by
  have e : (ks.filter fun _ => true).map (fun k => PyData.str (keyT k)) = (ks.map keyT).map PyData.str := by
    rw [filter_true, List.map_map]
    rfl
  refine ev_sortedS ok (b_sorted T) (ev_ld ok ((ev_lc1M ok j ks encK (fun k => .str (keyT k)) (fun _ => true) hN hi (by omega) (fun H1 r1 okb k hk => ⟨pv_nil okb, fun _ => ⟨?_, rfl⟩⟩) hb hlo hfn hfs).cast (by rw [e]))) (by rw [List.length_map]; exact hl) g4 g5 g6
  obtain ⟨k1, k2, k3, k4, _⟩ := key_ok (few k hk)
  have z : EV ((m.blk scope).at_ H1) ((ds.set j none).set j (some (.d (encK k)))) (.Name x pn) (.d (.tuple [.int k.1, plD k.2])) := ev_var okb j hN (by rw [List.getElem?_set_self (by rw [List.length_set]; exact hj)]; rfl) hv hx1 hx2
  refine (ev_strT okb (fun z => hgd z.1) (b_str T) z k1 k2 k3 k4 g1 g2 g3).cast ?_
  rw [keyT_eq]
end
section
variable {P : Program} {w : World} {K : PySem.W.Frag} {mg : Str → Option Value} {base : Heap}
def bodyOf : Stmt → List Stmt
  | .For _ _ b _ _ => b
  | _ => []
abbrev lawSl (q1 q10 q12 q13 q14 q15 : Option SV) (am ab ac : Addr) (b : Bk) (rows : List Cw) (s : Int) (gn : Nat) (os : List Opp) (ks : Option SV) : Sd := [none, q1, some (.v (.ref am)), some (.d (.list (rows.map cwD))), some (.v (.ref ab)), some (.v (.ref ac)), some (.d (.list (b.spots.map plD))), some (.d (.list (os.map oppD))), some (.d (.int s)), some (.d (.int gn)), q10, ks, q12, q13, q14, q15, none]
/-- one spot -/
theorem law_turn (T : Tx K mg) {A : Around} {cdv : Value} {outer : List Env} {st : Shared} {H : Hp} {E : XK} {D : Ends} (hgd : A.guards = some []) (hr : Room 41 (A.deeper (envOfC "law" (defScope s_law) st.heap.objs.size (He.ga K "law") cdv)))
    {am ab ac : Addr} {b : Bk} {rows : List Cw} {s : Int} {gn : Nat} {os : List Opp} {q1 q10 q12 q14 q15 : Option SV} {H1 : Hp} {p : Int × Int} (hm : MAt K H1 am b) (hb : BkS b) (hbk : BookAt K H1 ab b) (hch : ChAt K H1 ac rows) (rk : Rk b rows s os 120 4) (rk0 : Rk b rows s [] 120 4) (hg : gn ≤ 3) (hos3 : os.length ≤ 3) (hp : InBk b p)
    (hN : ∀ σ H' q12 q13 q14 q15, Ex H1 H' → Sl K H' σ (lawSl q1 q10 q12 q13 q14 q15 am ab ac b rows s gn os (some (.l ((keysM b gn).map encK)))) → D.nx σ H') :
    BD ((bodyMo P w K mg base n_law "law" (defScope s_law) (He.ga K "law") cdv A outer st H E Ex 41).at_ H1) (lawSl q1 q10 q12 (some (.d (plD p))) q14 q15 am ab ac b rows s gn os (some (.l ((keysM b gn).map encK)))) (bodyOf ((defBody s_law).getD 8 (.Pass ⟨0, 0, 0, 0⟩))) D := by
  have C1 := ok_zbest (P := P) (w := w) (base := base) T gn
  have C2 := ok_greatestmean (P := P) (w := w) (base := base) T
  have C3 := ok_bestplan (P := P) (w := w) (base := base) T
  have C4 := ok_meanof (P := P) (w := w) (base := base) T
  have C5 := ok_zover (P := P) (w := w) (base := base) T
  have ok0 := body_ok (P := P) (w := w) (K := K) (mg := mg) (base := base) (N := n_law) (cdv := cdv) (outer := outer) (E := E) (H := H) (R := Ex) (kp_ex K) sc_law hr
  have ok1 := ok0.at_ H1
  have hsp := spots_s hb
  have kl : (keysM b gn).length < 64 := by
    unfold keysM
    rw [all2_len]
    exact Nat.lt_of_le_of_lt (Nat.mul_le_mul hg hsp) (by decide)
  have few := keysM_few hb hg
  have hts := keyT_ok few
  have hm1 : ∀ H', Ex H1 H' → MAt K H' am b := fun H' e => hm.ex e
  have hB1 : ∀ H', Ex H1 H' → BookAt K H' ab b := fun H' e => hbk.ex e
  have hC1 : ∀ H', Ex H1 H' → ChAt K H' ac rows := fun H' e => hch.ex e
  refine bd_asg ok1 14 (r := .d (pr (bestM b rows s os gn p).1)) rfl (ev_call ok1 C1 (by show 5 + gn ≤ 41; omega) (ea_cons ok1 (by walk_at "ev") (ea_cons ok1 (by walk_at "ev") (ea_cons ok1 (by walk_at "ev") (ea_cons ok1 (by walk_at "ev") (ea_two ok1 (by walk_at "ev") (by walk_at "ev")))))) fun H' e => ⟨am, b, rows, s, os, 120, 4, p, rfl, hm1 H' e, rk, by omega, hos3, hp, rfl⟩) ?_
  refine bd_if0 ok1 (tv_ne ok1 (x := pr (bestM b rows s os gn p).1) (y := pr (bestM b rows s os gn p).1) (ev_call ok1 C2 (Nat.le_of_ble_eq_true rfl) (ea_cons ok1 (by walk_at "ev") (ea_cons ok1 (by walk_at "ev") (ea_cons ok1 (by walk_at "ev") (ea_cons ok1 (by walk_at "ev") (ea_two ok1 (by walk_at "ev") (by walk_at "ev")))))) fun H' e => ⟨ab, ac, b, rows, p, s, os, gn, 120, 4, rfl, ⟨hB1 H' e, hC1 H' e, rk, by omega, by omega, hp⟩, rfl⟩) (by walk_at "ev") rfl rfl) (by rw [eqv_same]; rfl) ?_
  refine bd_asgX ok1 15 rfl (ex_call ok1 C3 (Nat.le_of_ble_eq_true rfl) (Post := fun v H => ∃ D, v = .ref D ∧ DN P w K H D encK (planM b rows s os gn)) (ea_cons ok1 (by walk_at "ev") (ea_cons ok1 (by walk_at "ev") (ea_cons ok1 (by walk_at "ev") (ea_cons ok1 (by walk_at "ev") (ea_two ok1 (by walk_at "ev") (by walk_at "ev")))))) fun H' vs Q' e dv q => ⟨ab, ac, b, rows, p, s, os, gn, 120, 4, dv, ⟨hB1 H' e, hC1 H' e, rk, by omega, by omega, hp⟩, fun H'' D e'' h => q _ H'' e'' ⟨D, rfl, h⟩⟩) fun v H2 r2 ⟨D, ev, hD⟩ ok2 => ⟨.v (.ref D), ev, ?_⟩
  have hD2 : ∀ H', Ex H2 H' → DN P w K H' D encK (planM b rows s os gn) := fun H' e => hD.ex_ enc_K e
  have hB2 : ∀ H', Ex H2 H' → BookAt K H' ab b := fun H' e => hB1 H' (r2.trans e)
  have hC2 : ∀ H', Ex H2 H' → ChAt K H' ac rows := fun H' e => hC1 H' (r2.trans e)
  refine bd_if0 ok2 (tv_ne ok2 (x := .list ((srt ((keysM b gn).map keyT)).map PyData.str)) (y := .list ((srt ((keysM b gn).map keyT)).map PyData.str)) (ev_strKeys ok2 T (fun _ => hgd) 16 (keysM b gn) few kl (by show 16 < 17; decide) rfl (iv_plan ok2 (by walk_at "ev") hD2 (fun r h => r _ _ h)) (by walk_at "vis") (by decide) (by decide))
    (ev_strKeys ok2 T (fun _ => hgd) 16 (keysM b gn) few kl (by show 16 < 17; decide) rfl (iv_listM ok2 (ev_ld ok2 (by walk_at "ev"))) (by walk_at "vis") (by decide) (by decide)) (shaped_strs hts) (shaped_strs hts)) (by rw [eqv_strs hts]; rfl) ?_
  refine bd_if0 ok2 (tv_ne ok2 (x := pr (bestM b rows s os gn p).1) (y := pr (bestM b rows s os gn p).1) (ev_call ok2 C4 (Nat.le_of_ble_eq_true rfl) (ea_cons ok2 (by walk_at "ev") (ea_cons ok2 (by walk_at "ev") (ea_cons ok2 (by walk_at "ev") (ea_cons ok2 (by walk_at "ev") (ea_cons ok2 (by walk_at "ev") (ea_two ok2 (by walk_at "ev") (by walk_at "ev"))))))) fun H' e => ⟨ab, ac, b, rows, p, s, os, gn, 120, 4, D, rfl, ⟨hB2 H' e, hC2 H' e, rk, by omega, by omega, hp⟩, hD2 H' e, rfl⟩) (by walk_at "ev") rfl rfl) (by rw [eqv_same]; rfl) ?_
  have k1 := best_bd rk gn p hp
  have k2 := best_bd rk (gn + 1) p hp
  refine bd_if0 ok2 (tv_val ok2 (ev_call ok2 C5 (Nat.le_of_ble_eq_true rfl) (ea_two ok2 (by walk_at "ev") (ev_call ok2 C2 (Nat.le_of_ble_eq_true rfl) (ea_cons ok2 (by walk_at "ev") (ea_cons ok2 (by walk_at "ev") (ea_cons ok2 (by walk_at "ev") (ea_cons ok2 (by walk_at "ev") (ea_two ok2 (s := .d (.int ((gn + 1 : Nat) : Int))) (by walk_at "ev") ((ev_add ok2 (x := (gn : Int)) (y := 1) (by walk_at "ev") (ev_int ok2)).cast (congrArg (fun z : Int => SV.d (.int z)) (show (gn : Int) + 1 = ((gn + 1 : Nat) : Int) by omega)))))))) fun H' e => ⟨ab, ac, b, rows, p, s, os, gn + 1, 120, 4, rfl, ⟨hB2 H' e, hC2 H' e, rk, by omega, by omega, hp⟩, rfl⟩)) fun _ _ => ⟨_, _, rfl, two_dv k1.1 k2.1 k1.2 k2.2 (Int.pow_pos rk.l0) (Int.pow_pos rk.l0) (rk.pw (by omega)), rfl⟩)) (best_over rk gn hp) ?_
  refine bd_if0 ok2 (tv_ne ok2 (x := pr (bestM b rows s [] gn p).1) (y := pr (p.1, 1)) (ev_call ok2 C2 (Nat.le_of_ble_eq_true rfl) (ea_cons ok2 (by walk_at "ev") (ea_cons ok2 (by walk_at "ev") (ea_cons ok2 (by walk_at "ev") (ea_cons ok2 (by walk_at "ev") (ea_two ok2 (r := .d (.list (([] : List Opp).map oppD))) (ev_lst ok2 (xs := []) (ea_nil ok2) (by decide)) (by walk_at "ev")))))) fun H' e => ⟨ab, ac, b, rows, p, s, [], gn, 120, 4, rfl, ⟨hB2 H' e, hC2 H' e, rk0, by omega, by omega, hp⟩, rfl⟩) (ev_tup2 ok2 (x := .int p.1) (y := .int 1) (ev_ixT ok2 (xs := [.int p.1, .int p.2]) (by walk_at "ev") (ev_int ok2) (atI_get (n := 0) rfl) (fun _ _ => rfl)) (ev_int ok2)) rfl rfl) (by rw [best_none, eqv_same]; rfl) ?_
  exact bd_nil fun σ H' hr' hs' => hN σ H' _ _ _ _ (Ex.trans r2 hr') hs'
/-- from behind the draws: the keys, the spots -/
theorem law_rest (T : Tx K mg) {A : Around} {cdv : Value} {outer : List Env} {st : Shared} {H : Hp} {E : XK} {Q : VK} (hgd : A.guards = some []) (hr : Room 41 (A.deeper (envOfC "law" (defScope s_law) st.heap.objs.size (He.ga K "law") cdv))) (hQ : ∀ H', Q (.bl true) H')
    {am ab ac : Addr} {b : Bk} {rows : List Cw} {s : Int} {gn : Nat} {os : List Opp} {q1 q10 : Option SV} {σ : L2.St} {H10 : Hp} (hm : MAt K H10 am b) (hb : BkS b) (hbk : BookAt K H10 ab b) (hch : ChAt K H10 ac rows) (hro : RowsOk rows) (hl1 : 1 ≤ rows.length) (s0 : 0 ≤ s) (s1 : s ≤ 99) (hg : gn ≤ 3) (hos : OppOk b os) (hos3 : os.length ≤ 3)
    (hs : Sl K H10 σ [none, q1, some (.v (.ref am)), some (.d (.list (rows.map cwD))), some (.v (.ref ab)), some (.v (.ref ac)), some (.d (.list (b.spots.map plD))), some (.d (.list (os.map oppD))), some (.d (.int s)), some (.d (.int gn)), q10, none, none, none, none, none, none]) :
    wSs (bodyMo P w K mg base n_law "law" (defScope s_law) (He.ga K "law") cdv A outer st H E Ex 41).F ((defBody s_law).drop 6) { nx := fun _ H' => Q .non H', rt := Q } σ H10 := by
  have ok0 := body_ok (P := P) (w := w) (K := K) (mg := mg) (base := base) (N := n_law) (cdv := cdv) (outer := outer) (E := E) (H := H) (R := Ex) (kp_ex K) sc_law hr
  have okE := ok0.at_ H10
  have rk := rk_s hb hro hl1 s0 s1 hos
  have rk0 : Rk b rows s [] 120 4 := rk_s hb hro hl1 s0 s1 ⟨by decide, fun o ho => by cases ho⟩
  have hsp := spots_s hb
  let gk : Nat → Nat → PyData := fun i j => encK (1 + (i : Int), b.spots.getD j (0, 0))
  refine (bd_asg okE 11 (r := .l []) rfl (ev_lstL okE (xs := []) (ea_nil okE) (by decide)) ?_) σ H10 (Ex.refl _) hs
  refine bd_for1 okE 12 rfl ((iv_range2 okE (lo := 1) (n := gn + 1) (b_range T) (ev_int okE) (ev_add okE (by walk_at "ev") (ev_int okE)) (by omega)).len (n' := gn) (by omega)) (fun i ds' => ∃ q12, ds' = [none, q1, some (.v (.ref am)), some (.d (.list (rows.map cwD))), some (.v (.ref ab)), some (.v (.ref ac)), some (.d (.list (b.spots.map plD))), some (.d (.list (os.map oppD))), some (.d (.int s)), some (.d (.int gn)), q10, some (.l (all2 gk b.spots.length i)), q12, none, none, none, none]) ⟨none, rfl⟩ ?_ ?_
  · rintro H1 r1 ok1 i _ hi ⟨q12, rfl⟩
    have i1 : i * b.spots.length ≤ 3 * 9 := Nat.mul_le_mul (by omega) hsp
    refine bd_asg ok1 11 (r := .l (all2 gk b.spots.length (i + 1))) rfl (ev_cat ok1 (ys := (List.range b.spots.length).map (gk i)) (by walk_at "ev") ?_ ?_) (bd_nil fun σ H' hr' hs' => ⟨_, hr', ⟨_, rfl⟩, hs'⟩)
    · have e1 : (List.range b.spots.length).map (gk i) = (b.spots.filter fun _ => true).map (fun p => encK (1 + (i : Int), p)) := by
        rw [filter_true]
        exact map_rangeD (0, 0) b.spots fun p => encK (1 + (i : Int), p)
      rw [e1]
      exact ev_lc1M ok1 13 b.spots plD (fun p => encK (1 + (i : Int), p)) (fun _ => true) rfl (iv_listM ok1 (by walk_at "ev")) (by omega) fun H2 r2 okb p hp => ⟨pv_nil okb, fun _ => ⟨ev_tup2 okb (x := .int (1 + (i : Int))) (y := plD p) (by walk_at "ev") (by walk_at "ev"), rfl⟩⟩
    · rw [all2_len, List.length_map, List.length_range]
      omega
  · rintro _ ⟨q12, rfl⟩
    have ek : all2 gk b.spots.length gn = (keysM b gn).map encK := by
      unfold keysM
      rw [all2_map]
    rw [ek]
    refine bd_for1 okE 13 rfl ((iv_listM okE (xs := b.spots.take 3) (enc := plD) ((ev_takeL okE (xs := b.spots.map plD) (k := 3) (by walk_at "ev") (ev_int okE)).cast (by rw [List.map_take])))) (fun i ds' => ∃ q12 q13 q14 q15, ds' = [none, q1, some (.v (.ref am)), some (.d (.list (rows.map cwD))), some (.v (.ref ab)), some (.v (.ref ac)), some (.d (.list (b.spots.map plD))), some (.d (.list (os.map oppD))), some (.d (.int s)), some (.d (.int gn)), q10, some (.l ((keysM b gn).map encK)), q12, q13, q14, q15, none]) ⟨q12, none, none, none, rfl⟩ ?_ ?_
    · rintro H1 r1 ok1 i _ hi ⟨q12, q13, q14, q15, rfl⟩
      have hpx : (b.spots.take 3)[i]? = some (b.spots.take 3)[i] := List.getElem?_eq_getElem hi
      generalize (b.spots.take 3)[i] = p at hpx
      have hp : InBk b p := spots_in (List.mem_of_mem_take (List.mem_of_getElem? hpx))
      rw [getD_map hpx]
      exact law_turn T hgd hr (hm.ex r1) hb (hbk.ex r1) (hch.ex r1) rk rk0 hg hos3 hp fun σ H' q12 q13 q14 q15 e hs => ⟨_, e, ⟨q12, q13, q14, q15, rfl⟩, hs⟩
    · rintro _ ⟨q12, q13, q14, q15, rfl⟩
      exact bd_ret okE (ev_bl okE) fun v H' r d => by
        obtain rfl := Dp.bl_inv d
        exact hQ H'
end
/-! The law's own def: the draws, the whole. -/
section
variable {P : Program} {w : World} {K : PySem.W.Frag} {mg : Str → Option Value} {base : Heap}
theorem law_mates (T : Tx K mg) {A : Around} {cdv : Value} {outer : List Env} {st : Shared} {H : Hp} {E : XK} {Q : VK} (hgd : A.guards = some []) (hr : Room 41 (A.deeper (envOfC "law" (defScope s_law) st.heap.objs.size (He.ga K "law") cdv))) (hQ : ∀ H', Q (.bl true) H')
    {ap am ab ac : Addr} {b : Bk} {rows : List Cw} {σ : L2.St} {H5 : Hp} (hm : MAt K H5 am b) (hb : BkS b) (hbk : BookAt K H5 ab b) (hch : ChAt K H5 ac rows) (hro : RowsOk rows) (hl1 : 1 ≤ rows.length) (p5 : PX ap H5)
    (hs : Sl K H5 σ [none, some (.v (.ref ap)), some (.v (.ref am)), some (.d (.list (rows.map cwD))), some (.v (.ref ab)), some (.v (.ref ac)), some (.d (.list (b.spots.map plD))), none, none, none, none, none, none, none, none, none, none]) :
    wSs (bodyMo P w K mg base n_law "law" (defScope s_law) (He.ga K "law") cdv A outer st H E (RP ap) 41).F ((defBody s_law).drop 4) { nx := fun _ H' => Q .non H', rt := Q } σ H5 := by
  have kp1 := kp_rxs (K := K) (gok_px (a := ap)) (S := [ap])
  have ok0 := body_ok (P := P) (w := w) (K := K) (mg := mg) (base := base) (N := n_law) (cdv := cdv) (outer := outer) (E := E) (H := H) (R := RP ap) kp1 sc_law hr
  have ok5 := ok0.at_ H5
  have hsp := spots_s hb
  have hsp0 := spots_pos hb.ok
  obtain ⟨vr, dr5, s6⟩ := hs.toV (j := 3) rfl
  obtain ⟨vsp, dsp5, s7⟩ := s6.toV (j := 6) rfl
  have s7 : Sl K H5 σ [none, some (.v (.ref ap)), some (.v (.ref am)), some (.v vr), some (.v (.ref ab)), some (.v (.ref ac)), some (.v vsp), none, none, none, none, none, none, none, none, none, none] := s7
  refine ws_par3X ok5 7 8 9 (kp1.refl H5) s7 rfl rfl rfl (by decide) (by decide) (by decide) (eax_cons ok5 (ex_nilF ok5 fun H' D r h => rp_none r p5 h) (fun v Ha Hb r ⟨D, e, h1, h2⟩ => ⟨D, e, kp1.lk r h1, h2⟩) (eax_cons ok5 (ep_draw ok5 T (by show 1 ≤ 41; decide) (a := ap) (n := 100) (fun h => h) (fun H' r => r.2 p5) (by walk_at "ev") (ev_int ok5) (by decide) (by decide)) (ep_stay ok5) (eax_cons ok5 (ep_draw ok5 T (by show 1 ≤ 41; decide) (a := ap) (n := 4) (fun h => h) (fun H' r => r.2 p5) (by walk_at "ev") (ev_int ok5) (by decide) (by decide)) (ep_stay ok5) (eax_nil ok5)))) fun vs H6 r6 hvs => ?_
  obtain ⟨_, _, rfl, ⟨D, rfl, hD, hDn⟩, v8, _, rfl, ⟨_, ⟨s, rfl, s0, s1⟩, d8⟩, v9, _, rfl, ⟨_, ⟨g, rfl, g0, g1⟩, d9⟩, rfl⟩ := hvs
  refine ⟨_, _, _, rfl, ?_⟩
  have hDn : H5 D = none := hDn
  obtain ⟨gn, rfl⟩ : ∃ gn : Nat, g = gn := ⟨g.toNat, by omega⟩
  have s8 : Sl K H6 (((σ.set 7 (some (.ref D))).set 8 (some v8)).set 9 (some v9)) [none, some (.v (.ref ap)), some (.v (.ref am)), some (.v vr), some (.v (.ref ab)), some (.v (.ref ac)), some (.v vsp), some (.v (.ref D)), some (.d (.int s)), some (.d (.int gn)), none, none, none, none, none, none, none] := (((ok5.sl r6 s7).set (r := .v (.ref D)) 7 rfl).set (r := .d (.int s)) 8 d8).set (r := .d (.int gn)) 9 d9
  generalize ((σ.set 7 (some (.ref D))).set 8 (some v8)).set 9 (some v9) = σ8 at s8 ⊢
  refine ws_tag hD fun oD lo => ?_
  have ne : ap ≠ D := px_ne p5 hDn
  have r57 : RP ap H5 (upd H6 D (exO D oD)) := rp_updN ne hDn r6
  have hX : AccX K (upd H6 D (exO D oD)) D (([] : List Opp).map oppD) := ⟨oD, [], upd_same, lo, .nil⟩
  have s9 := simp_sl (H' := upd H6 D (exO D oD)) s8 rfl fun c xs z => sqt_any hD c xs z
  generalize upd H6 D (exO D oD) = H7 at r57 hX s9 ⊢
  have p7 : PX ap H7 := r57.2 p5
  have ok7 := ok0.at_ H7
  have kp2 := kp_rxs (K := K) (gok_px (a := ap)) (S := [ap, D])
  refine ws_forRP ok7 kp2 (kp1.refl H7) s9 (ivrp_range1 ok7 (P := fun n => 1 ≤ n ∧ n ≤ 2) (b_range T) (EP.imp (ep_add ok7 (EV.ep ok7 (P := isI (· = 1)) (ev_int ok7) ⟨_, rfl, rfl⟩) (ep_draw ok7 T (by show 1 ≤ 41; decide) (a := ap) (n := 2) (fun h => h) (fun H' r => r.2 p7) (by walk_at "ev") (ev_int ok7) (by decide) (by decide))) fun r ⟨n, e, i, j, hi, hj, hn⟩ => ⟨n, e, by omega⟩) (fun n hn => by omega))
    (fun _ i ds' H' => ∃ (q : Option SV) (os : List Opp), ds' = [none, some (.v (.ref ap)), some (.v (.ref am)), some (.v vr), some (.v (.ref ab)), some (.v (.ref ac)), some (.v vsp), some (.v (.ref D)), some (.d (.int s)), some (.d (.int gn)), q, none, none, none, none, none, none] ∧ AccX K H' D (os.map oppD) ∧ os.length = i ∧ ∀ o ∈ os, InBk b o.1 ∧ 0 ≤ o.2 ∧ o.2 ≤ 99)
    (fun _ i ds' Ha Hb e ⟨q, os, h1, h2, h3⟩ => ⟨q, os, h1, h2.ex e, h3⟩) (fun _ H8 _ r8 => ⟨none, [], rfl, hX.rp r8 ne.symm, rfl, fun o ho => by cases ho⟩) ?_ ?_
  · rintro n H8 hn r8 ok8 i v _ σ9 H9 hi r9 ⟨q, os, rfl, hX9, hol, hoa⟩ s10 dv
    have r58 : RP ap H5 H8 := kp1.trans r57 r8
    have r59 : RP ap H5 H9 := rp_back hDn (fun c o _ h n => r58.1 c o h n) r58.2 r9
    have p9 : PX ap H9 := r59.2 p5
    refine wG_name ok7 10 rfl ?_
    have ok9 := ok8.at_ H9
    obtain ⟨o9, vs9, x1, x2, x3⟩ := id hX9
    refine ws_appXP ok9 7 (a := D) (A := fun y => ∃ o : Opp, y = oppD o ∧ InBk b o.1 ∧ 0 ≤ o.2 ∧ o.2 ≤ 99) rfl rfl (s10.set (r := .d (.int i)) 10 dv) rfl hX9 (noLs_opp os) (by rw [List.length_map]; omega) (fun vs => ?_) (fun vs Hb o' y hy rb hXb sb => ?_) (by walk_at "vis")
    · have okU := ok9.at_ (upd H9 D (.lst vs))
      have pU : PX ap (upd H9 D (.lst vs)) := px_upd ne p9
      have rU : RP ap H5 (upd H9 D (.lst vs)) := rp_updN ne hDn r59
      refine ep_tup okU (eap_cons okU (ep_pick okU T (by show 2 ≤ 41; decide) (a := ap) (xs := b.spots.map plD) rp_rp2 (fun H' r => r.2 pU) (by walk_at "ev") (ev_varD okU (u := vsp) (by walk_at "ev") fun H' r => ok5.dq (rp_back hDn (fun c o _ h n => rU.1 c o h n) rU.2 r) dsp5) (by rw [List.length_map]; exact hsp0) (by rw [List.length_map]; omega)) (eap_cons okU (ep_draw okU T (by show 1 ≤ 41; decide) (a := ap) (n := 100) rp_rp2 (fun H' r => r.2 pU) (by walk_at "ev") (ev_int okU) (by decide) (by decide)) (eap_nil okU))) fun rs h => ?_
      obtain ⟨_, _, rfl, ⟨x, hx, rfl⟩, _, _, rfl, ⟨k, rfl, k0, k1⟩, rfl⟩ := h
      obtain ⟨pp, hpp, rfl⟩ := List.mem_map.mp hx
      exact ⟨[plD pp, .int k], rfl, by show 2 ≤ 100; decide, _, rfl, rfl, (pp, k), rfl, spots_in hpp, k0, by show k ≤ 99; omega⟩
    · obtain ⟨o, rfl, ho⟩ := hy
      refine wSs_nil ⟨_, kp2.trans r9 (rp2_app ne x1 rb), ⟨some (.d (.int i)), os ++ [o], rfl, ?_, by rw [List.length_append, hol]; rfl, fun z hz => ?_⟩, sb⟩
      · rw [List.map_append]
        exact hXb
      · rcases List.mem_append.mp hz with hz | hz
        · exact hoa z hz
        · rw [List.mem_singleton.mp hz]
          exact ho
  · rintro n H8 _ σ9 H9 hn r8 r9 ⟨q, os, rfl, hX9, hol, hoa⟩ s10
    obtain ⟨o9, vs9, x1, x2, x3⟩ := hX9
    refine ws_untag x1 x2 ?_
    have r58 : RP ap H5 H8 := kp1.trans r57 r8
    have r59 : RP ap H5 H9 := rp_back hDn (fun c o _ h n => r58.1 c o h n) r58.2 r9
    have rU : RP ap H5 (upd H9 D (.lst vs9)) := rp_updN ne hDn r59
    have sU := opq_slots (o' := .lst vs9) x1 opq_exO s10
    have dU : Dp K (upd H9 D (.lst vs9)) (.ref D) (.list (os.map oppD)) := .lst (SqL.of upd_same) (opq_dpa x1 opq_exO x3)
    have sV := ((sl_as (r := .d (.list (rows.map cwD))) sU (j := 3) rfl (ok5.dq rU dr5)))
    have sW := (sl_as (r := .d (.list (b.spots.map plD))) sV (j := 6) rfl (ok5.dq rU dsp5))
    have sX := (sl_as (r := .d (.list (os.map oppD))) sW (j := 7) rfl dU)
    exact law_rest T hgd hr hQ (hm.rx gok_px rU) hb (hbk.rx gok_px rU) (hch.rx gok_px rU) hro hl1 s0 (by omega) (by omega) ⟨by omega, hoa⟩ (by omega) sX
theorem law_body (T : Tx K mg) {A : Around} {cdv : Value} {outer : List Env} {st : Shared} {H : Hp} {E : XK} {Q : VK} (hgd : A.guards = some []) (hr : Room 41 (A.deeper (envOfC "law" (defScope s_law) st.heap.objs.size (He.ga K "law") cdv))) (hQ : ∀ H', Q (.bl true) H')
    {a : Addr} {ns : List Int} (hS : SqL K H a (ns.map V.int)) :
    wSs (bodyMo P w K mg base n_law "law" (defScope s_law) (He.ga K "law") cdv A outer st H E Ex 41).F (defBody s_law) { nx := fun _ H' => Q .non H', rt := Q } (L2.start n_law [.ref a]) H := by
  have C0 := ok_ztwelve (P := P) (w := w) (base := base) T
  have C1 := ok_zpool (P := P) (w := w) (base := base) T
  have C2 := ok_zmodel (P := P) (w := w) (base := base) T
  have C3 := ok_zrows (P := P) (w := w) (base := base) T
  have C4 := ok_zmade (P := P) (w := w) (base := base) T
  have C5 := make_chances (P := P) (w := w) (base := base) T
  have C6 := ok_zspots (P := P) (w := w) (base := base) T
  have ok := body_ok (P := P) (w := w) (K := K) (mg := mg) (base := base) (N := n_law) (cdv := cdv) (outer := outer) (E := E) (H := H) (R := Ex) (kp_ex K) sc_law hr
  refine (bd_if0 ok (tv_not ok (tv_val ok (ev_call0 ok C0 (Nat.le_refl _) fun _ _ => ⟨rfl, rfl⟩))) rfl (bd_asg ok 1 (r := .l (zPool ns)) rfl (ev_call ok C1 (Nat.le_of_ble_eq_true rfl) (ea_two ok (by walk_at "ev") (ev_int ok)) fun _ _ => ⟨ns, rfl, rfl⟩) ?_)) _ H (Ex.refl H) (start_sl (rs := [.d (.list (ns.map PyData.int))]) (.cons (.lst hS (dpa_ofInts ns)) .nil))
  intro σ1 H1 r1 s1
  obtain ⟨ap, pvs, e1, hap, dap, sP⟩ := sl_one (H' := H1) (σ' := σ1) (j := 1) s1 rfl rfl rfl
  have hpv : ∃ x y : Int, pvs = [.int x, .int y] ∧ 0 ≤ x ∧ 0 ≤ y := by
    have z0 := zSize_nn ns
    have z1 : 0 ≤ zSize ns * b2z (decide (1000000000000000000 ≤ zSize ns)) := Int.mul_nonneg z0 (by unfold b2z; split <;> decide)
    have z2 : 0 ≤ zMixed ns * zMixed ns % 2147483629 := Int.emod_nonneg _ (by decide)
    have dap : DpAll K H1 pvs [.int (zSize ns * b2z (decide (1000000000000000000 ≤ zSize ns))), .int (zMixed ns * zMixed ns % 2147483629)] := dap
    cases dap with
    | cons d1 t =>
      cases t with
      | cons d2 t =>
        cases t
        obtain rfl := Dp.int_inv d1
        obtain rfl := Dp.int_inv d2
        exact ⟨_, _, rfl, z1, z2⟩
  obtain ⟨x, y, rfl, hx, hy⟩ := hpv
  refine ws_tag hap fun o lo => ?_
  have s2 := simp_sl (H' := upd H1 ap (exO ap o)) sP rfl fun c xs z => sqt_any hap c xs z
  have p2 : PX ap (upd H1 ap (exO ap o)) := ⟨o, x, y, upd_same, lo, hx, hy⟩
  generalize upd H1 ap (exO ap o) = H2 at s2 p2 ⊢
  have kp1 := kp_rxs (K := K) (gok_px (a := ap)) (S := [ap])
  have okR := body_ok (P := P) (w := w) (K := K) (mg := mg) (base := base) (N := n_law) (cdv := cdv) (outer := outer) (E := E) (H := H) (R := RP ap) kp1 sc_law hr
  have ok2 := okR.at_ H2
  have hP2 : ∀ H', RP ap H2 H' → PX ap H' := fun H' r => r.2 p2
  have s2 : Sl K H2 σ1 [none, some (.v (.ref ap)), none, none, none, none, none, none, none, none, none, none, none, none, none, none, none] := s2
  refine (bd_parX ok2 2 3 rfl rfl (by decide) (eax_cons ok2 (P := fun v H => ∃ am b, v = .ref am ∧ MAt K H am b ∧ BkS b) (EX.imp ok2 (ex_callP ok2 C2 (by show 3 ≤ 41; decide) (a := ap) (fun h => h) hP2 (P := fun rs => rs = [.v (.ref ap), .d (.int 2), .d (.int 2)]) (EA.eap (ea_cons ok2 (by walk_at "ev") (ea_two ok2 (by walk_at "ev") (by walk_at "ev"))) rfl) (fun rs H' _ e => ⟨_, e, rfl⟩)) fun v H' r ⟨_, _, z⟩ => z) (fun v Ha Hb r ⟨am, b, e, h1, h2⟩ => ⟨am, b, e, h1.rx gok_px r, h2⟩)
    (eax_cons ok2 (P := fun v H => ∃ rows : List Cw, RowsOk rows ∧ 1 ≤ rows.length ∧ Dp K H v (.list (rows.map cwD))) (EX.imp ok2 (ex_callP ok2 C3 (by show 3 ≤ 41; decide) (a := ap) (fun h => h) hP2 (P := fun rs => rs = [.v (.ref ap)]) (EA.eap (ea_one ok2 (by walk_at "ev")) rfl) (fun rs H' _ e => ⟨_, e, rfl⟩)) fun v H' r ⟨_, _, z⟩ => z) (fun v Ha Hb r ⟨rows, h1, h2, h3⟩ => ⟨rows, h1, h2, ok2.dp r h3⟩) (eax_nil ok2))) fun vs H3 r3 hvs => ?_) σ1 H2 (kp1.refl H2) s2
  obtain ⟨_, _, rfl, ⟨am, b, rfl, hm, hb⟩, _, _, rfl, ⟨rows, hro, hl1, drows⟩, rfl⟩ := hvs
  refine ⟨_, _, .v (.ref am), .d (.list (rows.map cwD)), rfl, rfl, drows, ?_⟩
  have ok3 := okR.at_ H3
  have p3 := hP2 H3 r3
  refine bd_par3X ok3 4 5 6 rfl rfl rfl (by decide) (by decide) (by decide) (eax_cons ok3 (P := fun v H => ∃ ab, v = .ref ab ∧ BookAt K H ab b) (ex_call ok3 C4 (by show 8 ≤ 41; decide) (ea_one ok3 (by walk_at "ev")) fun H' vs Q' r dv q => ⟨am, b, dv, hm.rx gok_px r, hb.ok, fun ab H'' e h => q _ H'' (RXS.of gok_px e) ⟨ab, rfl, h⟩⟩) (fun v Ha Hb r ⟨ab, e, h⟩ => ⟨ab, e, h.rx gok_px r⟩)
    (eax_cons ok3 (P := fun v H => ∃ ac, v = .ref ac ∧ ChAt K H ac rows) (EX.imp ok3 (ex_make ok3 C5 (by show 6 ≤ 41; decide) (rs := [.d (.list (rows.map cwD))]) (rs2 := []) (ea_one ok3 (by walk_at "ev")) (fun H => .nil) (fun _ _ _ z => z) (fun _ _ => ⟨rows, rfl, hro.cc hl1⟩)) fun v H' r ⟨ac, dx, Hs, ev, _, rows', hr', hat⟩ => ⟨ac, ev, ?_⟩) (fun v Ha Hb r ⟨ac, e, h⟩ => ⟨ac, e, h.rx gok_px r⟩)
    (eax_cons ok3 (P := fun v H => Dq K H v (.l (b.spots.map plD))) (ev_call ok3 C6 (by show 1 ≤ 41; decide) (ea_one ok3 (by walk_at "ev")) fun H' r => ⟨am, b, rfl, hm.rx gok_px r, hb.ok.b, rfl⟩) (fun v Ha Hb r h => ok3.dq r h) (eax_nil ok3)))) fun vs H4 r4 hvs => ?_
  · rw [List.append_nil] at hr'
    simp only [List.cons.injEq, SV.d.injEq, PyData.list.injEq, and_true] at hr'
    rw [show rows = rows' from map_inj (fun _ _ => cwD_inj) hr']
    exact hat
  obtain ⟨_, _, rfl, ⟨ab, rfl, hbk⟩, _, _, rfl, ⟨ac, rfl, hch⟩, vsp, _, rfl, ⟨asp, us, rfl, hsp, dsp⟩, rfl⟩ := hvs
  refine ⟨_, _, _, .v (.ref ab), .v (.ref ac), .d (.list (b.spots.map plD)), rfl, rfl, rfl, .lst (SqL.of hsp) dsp, ?_⟩
  intro σ5 H5 r5 s5
  have r35 : RP ap H3 H5 := kp1.trans r4 r5
  exact law_mates T hgd hr hQ (hm.rx gok_px r35) hb (hbk.rx gok_px r5) (hch.rx gok_px r5) hro hl1 (r35.2 p3) s5
end
/-! The end: the law's def called from the caller itself (no repr under way there). -/
section
variable {P : Program} {w : World} {K : PySem.W.Frag} {mg : Str → Option Value} {base : Heap} {x qual : Str} {params : Arguments} {body : List Stmt} {scope : Scope} {f : Addr} {fd : FuncData} {N ps : List Str} {k : Nat}
/-- a def's call at ONE surrounding A (the rule for defs speaks of all) -/
theorem run_at {A : Around} {outer : List Env} {st : Shared} {H : Hp} {args : Args} {us : List Value} {vs : List V} {Q : VK} {E : XK} (F : FunD K x qual params body scope [] [] f fd) (S : FnScope N ps scope) (hl : vs.length = ps.length) (hr : Room (k + 1) A) (e0 : Env0 P w K mg base A outer st H) (hb : BindsTo st fd args (ps.zip us)) (hv : Vals vs us)
    (hbody : ∀ cdv : Value, Room k (A.deeper (envOfC qual scope st.heap.objs.size f cdv)) → wSs (bodyMo P w K mg base N qual scope f cdv A outer st H E Ex k).F body { nx := fun _ H' => Q .non H', rt := Q } (L2.start N vs) H) : codeAny (model P w) A (.call (.ref f) args) (CR CX0 outer P w H st Q E) st := by
  obtain ⟨oc, od, dV, kV, doc, pm, an, cdv, ct, osl, rfl, lk, hcd, _, _⟩ := F.ex
  have Kin : K.In st.heap := e0.mod.kin.keeps fun c o e => (e0.bs c o e).1
  have nol : st.heap.NoLimit := e0.mod.nolimit.keeps fun c o e => (e0.bs c o e).1
  refine codeAny_call_function hr.depth (Kin _ _ lk) rfl S.co S.gen rfl (PySem.W.codeRec_of Kin hcd) (hb _ _ _ _ ?_)
  refine wpAny_newFunctionEnv_cells S.kind (fun ⟨y, u⟩ hy => ?_) fun en he s1 ic => ?_
  · rcases S.par y (List.of_mem_zip hy).1 with z | z
    · exact .inl z
    · exact .inr ⟨z, PySem.W.cellsFrom_some _ _ _ (.inl z)⟩
  subst he
  obtain ⟨t, ht, hq⟩ := hbody cdv (hr.deeper _)
  have Iv := inv_start (CX := CX0) (E := E) S hr.hd e0 hl hv ic
  refine ⟨nol.keeps ic.toInCall.keep, codeAny_func (wpAny_mono ((ht ()).nox.run [] s1 (L2.start N vs) H _ Iv hq) (fun fl s2 h2 => ?_) fun _ _ h2 => h2)⟩
  cases fl with
  | next =>
    obtain ⟨_, H2, J, q⟩ := h2
    exact ⟨.non, H2, J.os, J.bare, J.base, J.hok, rfl, q⟩
  | ret u =>
    obtain ⟨v, _, H2, J, rv, q⟩ := h2
    exact ⟨v, H2, J.os, J.bare, J.base, J.hok, rv, q⟩
  | brk =>
    obtain ⟨_, _, _, q⟩ := h2
    exact False.elim q
  | cont =>
    obtain ⟨_, _, _, q⟩ := h2
    exact False.elim q
end
section
variable {P : Program} {w : World} {K : PySem.W.Frag} {mg mb : Str → Option Value}
/-- the law called, over a heap in which at most the script is tracked -/
theorem law_from (T : Tx K mg) {H : Hp} {s₁ : Shared} {a : Addr} {vs : List Value} {ns : List Int} (Kin : K.In s₁.heap) (n1 : s₁.heap.Ns mainGlobals mg) (n2 : s₁.heap.Ns builtinsNs mb) (n3 : ∀ x : Str, x ≠ "__name__" → mb x = bootBuiltins x) (n4 : s₁.heap.NoLimit) (n5 : s₁.gens = #[])
    (hobj : s₁.heap.get? a = some { cls := .type "list", data := .seq vs.toArray }) (hH : ∀ c u, H c = some u → c = a ∧ K.lookup a = none ∧ ∃ o xs, u = .frz o (.lst xs)) (hS : SqL K H a (ns.map V.int)) (hok : HOk P w H s₁.heap) :
    codeAny (model P w) callerA (.call (.ref (He.ga K "law")) ⟨[.ref a], []⟩) (fun r s' => r = .ok (.ret (.bool true)) ∧ OldK s₁.heap s'.heap ∧ s'.os = s₁.os ∧ AllBare s'.gens) s₁ := by
  have free : ∀ {c : Addr} {o : Obj} {es : Array DictEntry} {ep : Nat}, s₁.heap.get? c = some o → o.data = .dict es ep → H c = none := fun {c o es ep} e d => by
    cases z : H c with
    | none => rfl
    | some u =>
      obtain ⟨rfl, _⟩ := hH c u z
      rw [hobj] at e
      cases e
      exact nomatch (show Data.seq vs.toArray _ = Data.dict es ep from d)
  have nsB : ∀ {c : Addr} {mm : Str → Option Value}, s₁.heap.Ns c mm → (hidT s₁.heap H).Ns c mm := fun {c mm} ⟨o, es, ep, e, d, z⟩ => ⟨o, es, ep, hidT_get e (free e d), d, z⟩
  have KB : K.In (hidT s₁.heap H) := fun c o e => hidT_get (Kin c o e) (by
    cases z : H c with
    | none => rfl
    | some u =>
      obtain ⟨rfl, no, _⟩ := hH c u z
      rw [no] at e
      cases e)
  have e0 : Env0 P w K mg (hidT s₁.heap H) callerA [] s₁ H := by
    refine ⟨rfl, ⟨KB, nsB n1, ⟨mb, nsB n2, n3⟩, ?_⟩, fun c o e => of_hidT e, Nat.le_of_eq (hidT_size _ _), trivial, fun c hc => absurd (show c ∈ ([] : List Addr) from hc) (by simp), hok, .of_eq n5⟩
    obtain ⟨mc, k1, k2⟩ := n4
    exact ⟨mc, nsB k1, k2⟩
  obtain ⟨fd, F⟩ := D_law T
  have hb : BindsTo s₁ fd ⟨[.ref a], []⟩ ((["_law_script"] : List Str).zip [.ref a]) := FunD.bindsA (ps := ["_law_script"]) F (fun _ _ _ _ _ _ us hl => match us, hl with | [_], _ => rfl) s₁ [.ref a] rfl
  refine codeAny_mono (run_at (k := 41) (Q := fun v _ => v = .bl true) (E := fun _ _ _ => False) (vs := [.ref a]) F sc_law rfl ⟨rfl, by decide, by decide⟩ e0 hb (.cons rfl .nil) fun cdv hr => law_body (Q := fun v _ => v = V.bl true) T rfl hr (fun _ => rfl) hS) fun r s2 h2 => ?_
  cases r with
  | error e => exact False.elim h2
  | ok fl =>
    cases fl with
    | ret u =>
      obtain ⟨v, H2, k1, k2, un, hok2, rv, q⟩ := h2
      obtain rfl : v = V.bl true := q
      obtain rfl : u = Value.bool true := rv
      refine ⟨rfl, OldK.of_keep fun c o e => ?_, k1, k2⟩
      cases z : H c with
      | none => exact un.keep c o e z (fun m => absurd (show c ∈ ([] : List Addr) from m) (by simp)) (by simp)
      | some u =>
        obtain ⟨_, _, ob, xs, rfl⟩ := hH c u z
        have g1 := (hok c _ z).1
        have g2 := (hok2 c _ (un.frzs c ob _ z)).1
        rw [e] at g1
        cases g1
        exact g2
    | next => exact False.elim h2
    | brk => exact False.elim h2
    | cont => exact False.elim h2
/-- the law called -/
theorem law_at (T : Tx K mg) {s₁ : Shared} {a : Addr} {vs : List Value} {ns : List Int} (Kin : K.In s₁.heap) (n1 : s₁.heap.Ns mainGlobals mg) (n2 : s₁.heap.Ns builtinsNs mb) (n3 : ∀ x : Str, x ≠ "__name__" → mb x = bootBuiltins x) (n4 : s₁.heap.NoLimit) (n5 : s₁.gens = #[])
    (hobj : s₁.heap.get? a = some { cls := .type "list", data := .seq vs.toArray }) (hi : IntsAre vs ns) (hl : ns.length ≤ sizeLine) :
    codeAny (model P w) callerA (.call (.ref (He.ga K "law")) ⟨[.ref a], []⟩) (fun r s' => r = .ok (.ret (.bool true)) ∧ OldK s₁.heap s'.heap ∧ s'.os = s₁.os ∧ AllBare s'.gens) s₁ := by
  have rv := vals_ints hi
  have len := hi.length
  cases z : K.lookup a with
  | some o =>
    have e := Kin a o z
    rw [hobj] at e
    cases e
    exact law_from (H := fun _ => none) T Kin n1 n2 n3 n4 n5 hobj (fun c u h => nomatch (show (none : Option HO) = some u from h)) (.inr ⟨_, vs.toArray, _, z, rfl, rfl, rfl, by rw [List.size_toArray, len]; exact hl, by simpa using rv⟩) (fun c u h => nomatch (show (none : Option HO) = some u from h))
  | none =>
    let u0 : HO := .frz { cls := .type "list", data := .seq vs.toArray } (.lst (ns.map V.int))
    refine law_from (H := upd (fun _ => none) a u0) T Kin n1 n2 n3 n4 n5 hobj (fun c u h => ?_) (.inl (.inr ⟨{ cls := .type "list", data := .seq vs.toArray }, upd_same⟩)) (fun c u h => ?_)
    · by_cases e : c = a
      · subst e
        have h2 : (upd (fun _ => none) c u0) c = some u := h
        rw [upd_same] at h2
        exact ⟨rfl, z, _, _, (Option.some.inj h2).symm⟩
      · rw [upd_ne e] at h
        cases h
    · by_cases e : c = a
      · subst e
        rw [upd_same] at h
        cases h
        exact ⟨hobj, by rw [List.length_map]; exact hl, vs, _, rv, hobj⟩
      · rw [upd_ne e] at h
        cases h
end
end Gm
set_option maxHeartbeats 0
open PySem PySem.W PySem.Calls PyProof.Rows
theorem PySem.Challenge.cw_liftedladders_k65_whole_greatest_means_holds : PySem.Challenge.rw_liftedladders_k65_whole_greatest_means.Holds := by
  w_on; o_law
  refine HandSHeadRun.head_any (r := Gm.RR) (q := view Gm.RR.prog [73]) (H := Gm.hk) (ob := Gm.obs) (M := 6000) (loose := Gm.loose) (d := HandSHeadRun.topDef Gm.RR.prog 73) (kwd := []) Gm.obs_eq
    (by kernel_rfl) (fun s => by kernel_rfl) Gm.run (by kernel_rfl) (by kernel_rfl) (by kernel_rfl) (by rfl) (by first | assumption | decide +kernel) (by decide +kernel) ⟨rfl, rfl, rfl, rfl, rfl, by decide +kernel⟩ ?hw ?hc
  case hw => w_witness2
  case hc =>
    refine Att.attach_call (n := 63) rfl (by kernel_rfl) fun w s₀ s₁ mg mb fa o pm cd doc a vs ns G Y ho hd hcd hmg hobj hints hlen hg => ?_
    obtain ⟨K, Kin, c⟩ := Y
    have T : Gm.Tx K mg := ⟨⟨_, Kin, G.T.g⟩, c.t.d, c.more⟩
    have e1 : (HandSHeadRun.topDef Gm.RR.prog 73).name = ("law" : PySem.Str) := by kernel_rfl
    rw [e1, Gm.g_law T] at hmg
    obtain rfl : fa = _ := (Value.ref.inj (Option.some.inj hmg)).symm
    exact Gm.law_at T Kin G.T.g G.T.b G.T.builtins G.T.nolimit hg hobj hints (Nat.le_trans hlen (by decide))
