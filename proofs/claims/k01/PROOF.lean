import PyProof.Rows.All
import Wide.All
import OpenK.AllK
import Wide.FinOn
import HandS.ForMost
import HandS.ForExc
import HandS.IsInst
import HandS.Deep
import HandS.Style
import HandS.TupAny
import HandS.Conv
import HandS.Walk
import PySem.Challenge.RW_pilerun_k01_rules_and_spots
/-! ## Fw0.lean -/
set_option Elab.async false
set_option linter.all false
set_option maxRecDepth 100000
set_option maxHeartbeats 4000000
namespace Pr
open PySem PySem.Spec PyProof.Rows L2

/-! ### canonical readings: what the judgements say, as transformers -/
structure WE' (X : Cx) (e : Expr) (σ : L2.St) (H : Hp) (Q : VK) : Prop where
  go : ∀ (pins : List (Addr × Obj)) (s : Shared), Inv X pins σ H s → wpAny (model X.prog X.w) X.A (eval e X.env) (EP X pins σ Q) X.xe s
def WE (X : Cx) (e : Expr) : TE := fun σ H Q => WE' X e σ H Q
structure WT' (X : Cx) (e : Expr) (σ : L2.St) (H : Hp) (Q : Bool → Hp → Prop) : Prop where
  go : ∀ (pins : List (Addr × Obj)) (s : Shared), Inv X pins σ H s → wpAny (model X.prog X.w) X.A (isTrue e X.env (eval e X.env)) (TP X pins σ Q) X.xe s
def WT (X : Cx) (e : Expr) : TT := fun σ H Q => WT' X e σ H Q
structure WW' (X : Cx) (e : Expr) (σ : L2.St) (H : Hp) (Q : Bool → Hp → Prop) : Prop where
  go : ∀ (whole : Sem Value) (pins : List (Addr × Obj)) (s : Shared), Inv X pins σ H s → wpAny (model X.prog X.w) X.A (isTrue e X.env whole) (TP X pins σ Q) X.xe s
def WW (X : Cx) (e : Expr) : TT := fun σ H Q => WW' X e σ H Q
structure WA' (X : Cx) (es : List Expr) (σ : L2.St) (H : Hp) (Q : List V → Hp → Prop) : Prop where
  go : ∀ (pos : Pos) (pins : List (Addr × Obj)) (s : Shared), Inv X pins σ H s → wpAny (model X.prog X.w) X.A (spliced (backTo pos (starEach es X.env))) (AP X pins σ Q) X.xe s
def WA (X : Cx) (es : List Expr) : TA := fun σ H Q => WA' X es σ H Q
structure WI' (X : Cx) (tg it : Expr) (σ : L2.St) (H : Hp) (R : It → Hp → Prop) : Prop where
  go : ∀ (pins : List (Addr × Obj)) (s : Shared), Inv X pins σ H s → wpAny (model X.prog X.w) X.A (eval it X.env) (fun v s1 => wpAny (model X.prog X.w) X.A (pyIter v) (PIE X pins σ tg R) X.xe s1) X.xe s
def WI (X : Cx) (tg it : Expr) : TI := fun σ H R => WI' X tg it σ H R
structure W1' (X : Cx) (st : Stmt) (D : Ends) (σ : L2.St) (H : Hp) : Prop where
  go : ∀ (pins : List (Addr × Obj)) (s : Shared), Inv X pins σ H s → wpAny (model X.prog X.w) X.A (exec st X.env) (SP X pins D) X.xe s
def W1 (X : Cx) (st : Stmt) : TS := fun D σ H => W1' X st D σ H
structure WS' (X : Cx) (sts : List Stmt) (D : Ends) (σ : L2.St) (H : Hp) : Prop where
  go : ∀ (pins : List (Addr × Obj)) (s : Shared), Inv X pins σ H s → wpAny (model X.prog X.w) X.A (execs sts X.env) (SP X pins D) X.xe s
def WS (X : Cx) (sts : List Stmt) : TS := fun D σ H => WS' X sts D σ H
structure WG' (X : Cx) (tg : Expr) (v : V) (σ : L2.St) (H : Hp) (Q : L2.St → Hp → Prop) : Prop where
  go : ∀ (pins : List (Addr × Obj)) (s : Shared) (u : Value), Inv X pins σ H s → RelV v u → wpAny (model X.prog X.w) X.A (assign tg X.env u) (fun _ s' => ∃ σ' H', Inv X pins σ' H' s' ∧ Q σ' H') X.xe s
def WG (X : Cx) (tg : Expr) : TG := fun v σ H Q => WG' X tg v σ H Q
section
variable {X : Cx} {e tg it : Expr} {es : List Expr} {st : Stmt} {sts : List Stmt} {σ : L2.St} {H : Hp}
theorem pe_w : PE X e (WE X e) := ⟨fun pins s _ _ _ I h => h.go pins s I⟩
theorem pt_w : PT X e (WT X e) := ⟨fun pins s _ _ _ I h => h.go pins s I⟩
theorem pw_w : PW X e (WW X e) := ⟨fun w pins s _ _ _ I h => h.go w pins s I⟩
theorem pa_w : PA X es (WA X es) := ⟨fun pos pins s _ _ _ I h => h.go pos pins s I⟩
theorem pi_w : PI X tg it (WI X tg it) := ⟨fun pins s _ _ _ I h => h.go pins s I⟩
theorem ps_w : PS X st (W1 X st) := ⟨fun pins s _ _ _ I h => h.go pins s I⟩
theorem pss_w : PSs X sts (WS X sts) := ⟨fun pins s _ _ _ I h => h.go pins s I⟩
theorem pg_w : PG X tg (WG X tg) := ⟨fun pins s _ _ _ _ _ I r h => h.go pins s _ I r⟩
theorem we {t : TE} {Q : VK} (h : PE X e t) (q : t σ H Q) : WE X e σ H Q := ⟨fun pins s I => h.run pins s σ H Q I q⟩
theorem wt {t : TT} {Q : Bool → Hp → Prop} (h : PT X e t) (q : t σ H Q) : WT X e σ H Q := ⟨fun pins s I => h.run pins s σ H Q I q⟩
theorem ww {t : TT} {Q : Bool → Hp → Prop} (h : PW X e t) (q : t σ H Q) : WW X e σ H Q := ⟨fun w pins s I => h.run w pins s σ H Q I q⟩
theorem wa {t : TA} {Q : List V → Hp → Prop} (h : PA X es t) (q : t σ H Q) : WA X es σ H Q := ⟨fun pos pins s I => h.run pos pins s σ H Q I q⟩
theorem wi {t : TI} {R : It → Hp → Prop} (h : PI X tg it t) (q : t σ H R) : WI X tg it σ H R := ⟨fun pins s I => h.run pins s σ H R I q⟩
theorem w1 {t : TS} {D : Ends} (h : PS X st t) (q : t D σ H) : W1 X st D σ H := ⟨fun pins s I => h.run pins s σ H D I q⟩
theorem ws {t : TS} {D : Ends} (h : PSs X sts t) (q : t D σ H) : WS X sts D σ H := ⟨fun pins s I => h.run pins s σ H D I q⟩
theorem wg {t : TG} {v : V} {Q : L2.St → Hp → Prop} (h : PG X tg t) (q : t v σ H Q) : WG X tg v σ H Q := ⟨fun pins s u I r => h.run pins s σ H v u Q I r q⟩
theorem we_mono {Q Q' : VK} (h : WE X e σ H Q) (k : ∀ v H', Q v H' → Q' v H') : WE X e σ H Q' := ⟨fun pins s I =>
  thn (h.go pins s I) fun _ _ ⟨v, H', I', r, q⟩ => ⟨v, H', I', r, k v H' q⟩⟩
theorem wt_mono {Q Q' : Bool → Hp → Prop} (h : WT X e σ H Q) (k : ∀ v H', Q v H' → Q' v H') : WT X e σ H Q' := ⟨fun pins s I =>
  thn (h.go pins s I) fun b _ ⟨H', I', q⟩ => ⟨H', I', k b H' q⟩⟩
theorem wa_mono {Q Q' : List V → Hp → Prop} (h : WA X es σ H Q) (k : ∀ v H', Q v H' → Q' v H') : WA X es σ H Q' := ⟨fun pos pins s I =>
  thn (h.go pos pins s I) fun _ _ ⟨v, H', I', r, q⟩ => ⟨v, H', I', r, k v H' q⟩⟩
/-- the ends of a statement, one after another -/
structure Ends.le (D D' : Ends) : Prop where
  nx : ∀ σ H, D.nx σ H → D'.nx σ H
  rt : ∀ v H, D.rt v H → D'.rt v H
  bk : ∀ σ H, D.bk σ H → D'.bk σ H
  ct : ∀ σ H, D.ct σ H → D'.ct σ H
theorem sp_le {pins : List (Addr × Obj)} {D D' : Ends} (l : Ends.le D D') {f : Flow} {s : Shared} (h : SP X pins D f s) : SP X pins D' f s := by
  cases f with
  | next => obtain ⟨σ', H', I, q⟩ := h; exact ⟨σ', H', I, l.nx _ _ q⟩
  | brk => obtain ⟨σ', H', I, q⟩ := h; exact ⟨σ', H', I, l.bk _ _ q⟩
  | cont => obtain ⟨σ', H', I, q⟩ := h; exact ⟨σ', H', I, l.ct _ _ q⟩
  | ret u => obtain ⟨v, σ', H', I, r, q⟩ := h; exact ⟨v, σ', H', I, r, l.rt _ _ q⟩
theorem ws_le {D D' : Ends} (h : WS X sts D σ H) (l : Ends.le D D') : WS X sts D' σ H := ⟨fun pins s I => thn (h.go pins s I) fun _ _ q => sp_le l q⟩
theorem ws_nil {D : Ends} (h : D.nx σ H) : WS X [] D σ H := ws pss_nil h
theorem ws_cons {D : Ends} (h : W1 X st { D with nx := WS X sts D } σ H) : WS X (st :: sts) D σ H := ws (pss_cons ps_w pss_w) h
theorem ws_one {D : Ends} (h : W1 X st D σ H) : WS X [st] D σ H := ws (pss_one ps_w) h
end

/-! ### data -/
mutual
/-- tuples of immutables, and those -/
def imm : PyData → Bool
  | .none => true
  | .bool _ => true
  | .int _ => true
  | .str _ => true
  | .list _ => false
  | .tuple ds => immAll ds
  | .dict _ => false
def immAll : List PyData → Bool
  | [] => true
  | d :: ds => imm d && immAll ds
end
theorem immAll_of {ds : List PyData} (h : ∀ d ∈ ds, imm d = true) : immAll ds = true := by
  induction ds with
  | nil => rfl
  | cons d ds ih =>
    unfold immAll
    rw [h d List.mem_cons_self, ih fun e he => h e (List.mem_cons_of_mem _ he)]
    rfl
mutual
/-- data at a value: as Dp, the tuples tracked -/
inductive Dq (K : PySem.W.Frag) (H : Hp) : V → PyData → Prop
  | non : Dq K H .non .none
  | bl (b : Bool) : Dq K H (.bl b) (.bool b)
  | int (i : Int) : Dq K H (.int i) (.int i)
  | str (x : Str) : Dq K H (.str x) (.str x)
  | lst {a : Addr} {xs : List V} {ds : List PyData} : SqL K H a xs → DqAll K H xs ds → Dq K H (.ref a) (.list ds)
  | tup {a : Addr} {xs : List V} {ds : List PyData} : H a = some (.tup xs) → DqAll K H xs ds → Dq K H (.ref a) (.tuple ds)
  /-- some dict: what it holds is not told -/
  | dct {a : Addr} {kvs : List (Key × V)} : H a = some (.dK kvs) → Dq K H (.ref a) (.dict [])
inductive DqAll (K : PySem.W.Frag) (H : Hp) : List V → List PyData → Prop
  | nil : DqAll K H [] []
  | cons {v : V} {vs : List V} {d : PyData} {ds : List PyData} : Dq K H v d → DqAll K H vs ds → DqAll K H (v :: vs) (d :: ds)
end
mutual
theorem Dq.dp {K : PySem.W.Frag} {H : Hp} : ∀ {v : V} {d : PyData}, Dq K H v d → d.canLay0 = true → Dp K H v d
  | _, _, .non, _ => .non
  | _, _, .bl b, _ => .bl b
  | _, _, .int i, _ => .int i
  | _, _, .str x, _ => .str x
  | _, _, .lst s h, c => .lst s (DqAll.dp h (by simpa only [PyData.canLay0] using c))
  | _, _, .tup s h, c => .tup (SqT.of s) (DqAll.dp h (by simpa only [PyData.canLay0] using c))
  | _, _, .dct _, c => by simp [PyData.canLay0] at c
theorem DqAll.dp {K : PySem.W.Frag} {H : Hp} : ∀ {v : List V} {d : List PyData}, DqAll K H v d → PyData.canLayAll0 d = true → DpAll K H v d
  | _, _, .nil, _ => .nil
  | _, _, .cons h t, c => by
    simp only [PyData.canLayAll0, Bool.and_eq_true] at c
    exact .cons (Dq.dp h c.1) (DqAll.dp t c.2)
end
/-- tuples stay -/
def Lt (H H' : Hp) : Prop := ∀ a xs, H a = some (.tup xs) → H' a = some (.tup xs)
theorem Lt.refl (H : Hp) : Lt H H := fun _ _ h => h
theorem Lt.trans {H H1 H2 : Hp} (a : Lt H H1) (b : Lt H1 H2) : Lt H H2 := fun x o h => b x o (a x o h)
theorem _root_.L2.Same.rd {H H' : Hp} (e : Same H H') {a : Addr} {u : HO} (h : Rd H a u) : Rd H' a u := by
  rcases h with h | ⟨o, h⟩
  · exact .inl (e _ _ h)
  · exact .inr ⟨o, e _ _ h⟩
theorem _root_.L2.Same.lt {H H' : Hp} (e : Same H H') : Lt H H' := fun _ _ h => e _ _ h
theorem _root_.L2.Same.new {H : Hp} {p : Addr} {o : HO} (h : H p = none) : Same H (upd H p o) := fun a u e => by
  rw [upd_ne (ne_of_none e h)]
  exact e
theorem _root_.L2.Same.mut {H H' : Hp} {p : Addr} {o : HO} (e : Same H H') (h : H p = none) : Same H (upd H' p o) := fun a u ha => by
  rw [upd_ne (ne_of_none ha h)]
  exact e a u ha
/-- what stands at p may be written: no tuple -/
def Wr (H : Hp) (p : Addr) : Prop := ∀ xs, H p ≠ some (.tup xs)
theorem Wr.none {H : Hp} {p : Addr} (h : H p = none) : Wr H p := fun xs r => by rw [h] at r; cases r
theorem Wr.lst {H : Hp} {p : Addr} {xs : List V} (h : H p = some (.lst xs)) : Wr H p := fun ys r => by rw [h] at r; cases r
theorem Wr.dK {H : Hp} {p : Addr} {xs : List (Key × V)} (h : H p = some (.dK xs)) : Wr H p := fun ys r => by rw [h] at r; cases r
theorem Wr.dT {H : Hp} {p : Addr} {xs : List (List Key × V)} (h : H p = some (.dT xs)) : Wr H p := fun ys r => by rw [h] at r; cases r
theorem Wr.ins {H : Hp} {p C dx : Addr} {fs : List (Str × V)} (h : H p = some (.ins C dx fs)) : Wr H p := fun ys r => by rw [h] at r; cases r
theorem Wr.frzK {H : Hp} {p : Addr} {ob : Obj} {xs : List (Key × V)} (h : H p = some (.frz ob (.dK xs))) : Wr H p := fun ys r => by rw [h] at r; cases r
theorem Wr.frzT {H : Hp} {p : Addr} {ob : Obj} {xs : List (List Key × V)} (h : H p = some (.frz ob (.dT xs))) : Wr H p := fun ys r => by rw [h] at r; cases r
theorem Lt.upd {H : Hp} {p : Addr} {o : HO} (h : Wr H p) : Lt H (upd H p o) := fun a xs r => by
  have ne : a ≠ p := fun z => by subst z; exact h xs r
  rw [upd_ne ne]
  exact r
mutual
theorem dq_same {K : PySem.W.Frag} {H H' : Hp} (e : Same H H') : ∀ {v : V} {d : PyData}, Dq K H v d → Dq K H' v d
  | _, _, .non => .non
  | _, _, .bl b => .bl b
  | _, _, .int i => .int i
  | _, _, .str x => .str x
  | _, _, .lst s h => .lst (e.seq s) (dqAll_same e h)
  | _, _, .tup s h => .tup (e _ _ s) (dqAll_same e h)
  | _, _, .dct s => .dct (e _ _ s)
theorem dqAll_same {K : PySem.W.Frag} {H H' : Hp} (e : Same H H') : ∀ {v : List V} {d : List PyData}, DqAll K H v d → DqAll K H' v d
  | _, _, .nil => .nil
  | _, _, .cons h t => .cons (dq_same e h) (dqAll_same e t)
end
mutual
theorem dq_lt {K : PySem.W.Frag} {H H' : Hp} (e : Lt H H') : ∀ {v : V} {d : PyData}, Dq K H v d → imm d = true → Dq K H' v d
  | _, _, .non, _ => .non
  | _, _, .bl b, _ => .bl b
  | _, _, .int i, _ => .int i
  | _, _, .str x, _ => .str x
  | _, _, .lst s h, i => by
    unfold imm at i
    cases i
  | _, _, .tup s h, i => .tup (e _ _ s) (dqAll_lt e h (by unfold imm at i; exact i))
  | _, _, .dct s, i => by
    unfold imm at i
    cases i
theorem dqAll_lt {K : PySem.W.Frag} {H H' : Hp} (e : Lt H H') : ∀ {v : List V} {d : List PyData}, DqAll K H v d → immAll d = true → DqAll K H' v d
  | _, _, .nil, _ => .nil
  | _, _, .cons h t, i => by
    unfold immAll at i
    have j := Bool.and_eq_true_iff.mp i
    exact .cons (dq_lt e h j.1) (dqAll_lt e t j.2)
end
section
variable {K : PySem.W.Frag} {H : Hp}
theorem DqAll.len : ∀ {vs : List V} {ds : List PyData}, DqAll K H vs ds → vs.length = ds.length
  | _, _, .nil => rfl
  | _, _, .cons _ t => by rw [List.length_cons, List.length_cons, DqAll.len t]
theorem DqAll.get : ∀ {vs : List V} {ds : List PyData} {i : Nat} {v : V}, DqAll K H vs ds → vs[i]? = some v → ∃ d, ds[i]? = some d ∧ Dq K H v d
  | _, _, 0, _, .cons h _, e => ⟨_, rfl, by simp at e; subst e; exact h⟩
  | _, _, i + 1, v, .cons _ t, e => by
    obtain ⟨d, h1, h2⟩ := DqAll.get (i := i) (v := v) t (by simpa using e)
    exact ⟨d, by simpa using h1, h2⟩
  | _, _, _, _, .nil, e => by simp at e
theorem DqAll.getD : ∀ {vs : List V} {ds : List PyData} {i : Nat} {d : PyData}, DqAll K H vs ds → ds[i]? = some d → ∃ v, vs[i]? = some v ∧ Dq K H v d
  | _, _, 0, _, .cons h _, e => ⟨_, rfl, by simp at e; subst e; exact h⟩
  | _, _, i + 1, d, .cons _ t, e => by
    obtain ⟨v, h1, h2⟩ := DqAll.getD (i := i) (d := d) t (by simpa using e)
    exact ⟨v, by simpa using h1, h2⟩
  | _, _, _, _, .nil, e => by simp at e
theorem DqAll.app : ∀ {vs ws : List V} {ds es : List PyData}, DqAll K H vs ds → DqAll K H ws es → DqAll K H (vs ++ ws) (ds ++ es)
  | _, _, _, _, .nil, s => s
  | _, _, _, _, .cons r t, s => .cons r (DqAll.app t s)
theorem DqAll.drop : ∀ {vs : List V} {ds : List PyData} (n : Nat), DqAll K H vs ds → DqAll K H (vs.drop n) (ds.drop n)
  | _, _, 0, r => r
  | _, _, n + 1, .nil => .nil
  | _, _, n + 1, .cons _ t => DqAll.drop n t
theorem DqAll.take : ∀ {vs : List V} {ds : List PyData} (n : Nat), DqAll K H vs ds → DqAll K H (vs.take n) (ds.take n)
  | _, _, 0, _ => .nil
  | _, _, n + 1, .nil => .nil
  | _, _, n + 1, .cons h t => .cons h (DqAll.take n t)
theorem DqAll.snoc {vs : List V} {ds : List PyData} {v : V} {d : PyData} (h : DqAll K H vs ds) (h2 : Dq K H v d) : DqAll K H (vs ++ [v]) (ds ++ [d]) := DqAll.app h (.cons h2 .nil)
theorem DqAll.rev : ∀ {vs : List V} {ds : List PyData}, DqAll K H vs ds → DqAll K H vs.reverse ds.reverse
  | _, _, .nil => .nil
  | _, _, .cons h t => by
    rw [List.reverse_cons, List.reverse_cons]
    exact DqAll.snoc (DqAll.rev t) h
/-- ints and texts as they are -/
theorem dqAll_ints : ∀ (ns : List Int), DqAll K H (ns.map V.int) (ns.map PyData.int)
  | [] => .nil
  | n :: ns => .cons (.int n) (dqAll_ints ns)
theorem dq_int {v : V} {i : Int} (h : Dq K H v (.int i)) : v = .int i := by cases h; rfl
theorem dq_str {v : V} {x : Str} (h : Dq K H v (.str x)) : v = .str x := by cases h; rfl
theorem dq_bl {v : V} {b : Bool} (h : Dq K H v (.bool b)) : v = .bl b := by cases h; rfl
theorem dq_non {v : V} (h : Dq K H v .none) : v = .non := by cases h; rfl
theorem dq_tup {v : V} {ds : List PyData} (h : Dq K H v (.tuple ds)) : ∃ a xs, v = .ref a ∧ H a = some (.tup xs) ∧ DqAll K H xs ds := by
  cases h with
  | tup s h => exact ⟨_, _, rfl, s, h⟩
theorem dq_lst {v : V} {ds : List PyData} (h : Dq K H v (.list ds)) : ∃ a xs, v = .ref a ∧ SqL K H a xs ∧ DqAll K H xs ds := by
  cases h with
  | lst s h => exact ⟨_, _, rfl, s, h⟩
theorem dqAll_ints' : ∀ {xs : List V} {ns : List Int}, DqAll K H xs (ns.map PyData.int) → xs = ns.map V.int
  | _, [], h => by cases h; rfl
  | _, n :: ns, h => by
    cases h with
    | cons h t =>
      rw [dq_int h, dqAll_ints' t]
      rfl
theorem dqAll_strs' : ∀ {xs : List V} {ns : List Str}, DqAll K H xs (ns.map PyData.str) → xs = ns.map V.str
  | _, [], h => by cases h; rfl
  | _, n :: ns, h => by
    cases h with
    | cons h t =>
      rw [dq_str h, dqAll_strs' t]
      rfl
theorem dqAll_bls' : ∀ {xs : List V} {ns : List Bool}, DqAll K H xs (ns.map PyData.bool) → xs = ns.map V.bl
  | _, [], h => by cases h; rfl
  | _, n :: ns, h => by
    cases h with
    | cons h t =>
      rw [dq_bl h, dqAll_bls' t]
      rfl
end

/-! ### what the slots hold -/
inductive Sl where
  /-- anything -/
  | x
  /-- just this value -/
  | v (v : V)
  /-- data of tuples alone -/
  | d (d : PyData)
  /-- data that stood at the base -/
  | o (d : PyData)
def SlOk (K : PySem.W.Frag) (B H : Hp) : Option V → Sl → Prop
  | _, .x => True
  | ov, .v w => ov = some w
  | ov, .d d => ∃ w, ov = some w ∧ Dq K H w d ∧ imm d = true
  | ov, .o d => ∃ w, ov = some w ∧ Dq K B w d
inductive En (K : PySem.W.Frag) (B H : Hp) : L2.St → List Sl → Prop
  | nil : Same B H → En K B H [] []
  | cons {ov : Option V} {s : Sl} {σ : L2.St} {ρ : List Sl} : SlOk K B H ov s → En K B H σ ρ → En K B H (ov :: σ) (s :: ρ)
section
variable {K : PySem.W.Frag} {B B' H H' : Hp} {σ : L2.St} {ρ : List Sl}
theorem En.same (g : En K B H σ ρ) : Same B H := by
  induction g with
  | nil h => exact h
  | cons _ _ ih => exact ih
theorem En.len (g : En K B H σ ρ) : σ.length = ρ.length := by
  induction g with
  | nil h => rfl
  | cons _ _ ih => rw [List.length_cons, List.length_cons, ih]
theorem SlOk.step {ov : Option V} {s : Sl} (h : SlOk K B H ov s) (l : Lt H H') : SlOk K B H' ov s := by
  cases s with
  | x => exact h
  | v w => exact h
  | d d => obtain ⟨w, e, q, i⟩ := h; exact ⟨w, e, dq_lt l q i, i⟩
  | o d => exact h
theorem SlOk.base {ov : Option V} {s : Sl} (h : SlOk K B H ov s) (l : Same B B') : SlOk K B' H ov s := by
  cases s with
  | x => exact h
  | v w => exact h
  | d d => exact h
  | o d => obtain ⟨w, e, q⟩ := h; exact ⟨w, e, dq_same l q⟩
/-- the heap goes on; what stood at the base stands -/
theorem En.go (g : En K B H σ ρ) (e : Same B H') (l : Lt H H') : En K B H' σ ρ := by
  induction g with
  | nil h => exact .nil e
  | cons h _ ih => exact .cons (h.step l) ih
theorem En.mono (g : En K B H σ ρ) (e : Same H H') : En K B H' σ ρ := g.go (g.same.trans e) (Same.lt e)
/-- another base -/
theorem En.re (g : En K B H σ ρ) (e : Same B B') (e' : Same B' H) : En K B' H σ ρ := by
  induction g with
  | nil h => exact .nil e'
  | cons h _ ih => exact .cons (h.base e) ih
theorem En.now (g : En K B H σ ρ) : En K H H σ ρ := g.re g.same (Same.refl H)
theorem En.get (g : En K B H σ ρ) {i : Nat} {s : Sl} (h : ρ[i]? = some s) : ∃ ov, σ[i]? = some ov ∧ SlOk K B H ov s := by
  induction g generalizing i with
  | nil _ => simp at h
  | @cons ov s' σ ρ q _ ih =>
    cases i with
    | zero => simp at h; subst h; exact ⟨ov, rfl, q⟩
    | succ i =>
      obtain ⟨ov', e, q'⟩ := ih (i := i) (by simpa using h)
      exact ⟨ov', by simpa using e, q'⟩
theorem En.set (g : En K B H σ ρ) {v : V} {s : Sl} (i : Nat) (h : SlOk K B H (some v) s) : En K B H (σ.set i (some v)) (ρ.set i s) := by
  induction g generalizing i with
  | nil e => exact .nil e
  | @cons ov s' σ ρ q g ih =>
    cases i with
    | zero => exact .cons h g
    | succ i => exact .cons q (ih i)
theorem En.getD (g : En K B H σ ρ) {i : Nat} {d : PyData} (h : ρ[i]? = some (.d d)) : ∃ v, σ[i]? = some (some v) ∧ Dq K H v d := by
  obtain ⟨ov, e, w, rfl, q, _⟩ := g.get h
  exact ⟨w, e, q⟩
theorem En.getO (g : En K B H σ ρ) {i : Nat} {d : PyData} (h : ρ[i]? = some (.o d)) : ∃ v, σ[i]? = some (some v) ∧ Dq K B v d := by
  obtain ⟨ov, e, w, rfl, q⟩ := g.get h
  exact ⟨w, e, q⟩
theorem En.getV (g : En K B H σ ρ) {i : Nat} {v : V} (h : ρ[i]? = some (.v v)) : σ[i]? = some (some v) := by
  obtain ⟨ov, e, rfl⟩ := g.get h
  exact e
/-- an object that the base does not know is written -/
theorem En.write (g : En K B H σ ρ) {p : Addr} {o : HO} (hb : B p = none) (hw : Wr H p) : En K B (upd H p o) σ ρ := g.go (Same.mut g.same hb) (Lt.upd hw)
/-- forgetting -/
theorem En.weak (g : En K B H σ ρ) {ρ' : List Sl} (hl : ρ'.length = ρ.length) (h : ∀ (i : Nat) s, ρ'[i]? = some s → s = .x ∨ ρ[i]? = some s) : En K B H σ ρ' := by
  induction g generalizing ρ' with
  | nil e =>
    cases ρ' with
    | nil => exact .nil e
    | cons _ _ => simp at hl
  | @cons ov s' σ ρ q g ih =>
    cases ρ' with
    | nil => simp at hl
    | cons s'' ρ' =>
      refine .cons ?_ (ih (by simpa using hl) fun i s e => ?_)
      · rcases h 0 s'' rfl with e | e
        · subst e; exact True.intro
        · simp at e; subst e; exact q
      · have := h (i + 1) s (by simpa using e)
        simpa using this
end
end Pr

/-! ## Fw1.lean -/
set_option Elab.async false
set_option linter.all false
set_option maxRecDepth 100000
set_option maxHeartbeats 4000000
namespace Pr
open PySem PySem.Spec PyProof.Rows L2

/-- where the code stands -/
structure Wh (X : Cx) (N : List Str) (sc : Scope) (k : Nat) : Prop where
  n : X.N = N
  nd : N.Nodup
  se : X.env.scope = sc
  cl : X.calm = true
  rm : Room k X.A
/-- a def's own body: every cell is its own; what flies out of a loop flies on -/
structure Wd (X : Cx) : Prop where
  fn : ∀ x, X.fn x = true
  po : PassesOwn (model X.prog X.w) X.A X.env X.xe

inductive Ar where
  | d (d : PyData)
  | v (v : V)
def ArOk (K : PySem.W.Frag) (H : Hp) (w : V) : Ar → Prop
  | .d d => Dq K H w d
  | .v v => w = v
abbrev ArsOk (K : PySem.W.Frag) (H : Hp) : List V → List Ar → Prop := Paired (ArOk K H)
theorem ArOk.same {K : PySem.W.Frag} {H H' : Hp} (e : Same H H') {w : V} {a : Ar} (h : ArOk K H w a) : ArOk K H' w a := by
  cases a with
  | d d => exact dq_same e h
  | v v => exact h
theorem ArsOk.same {K : PySem.W.Frag} {H H' : Hp} (e : Same H H') {ws : List V} {as : List Ar} (h : ArsOk K H ws as) : ArsOk K H' ws as := Paired.mapP h fun _ _ q => ArOk.same e q

section
variable (X : Cx) (B : Hp) (ρ : List Sl) (H : Hp)
/-- e gives a value of which P says what (P: the heap ahead, the value, the heap behind); nothing that stood changes -/
structure XP (e : Expr) (P : Hp → V → Hp → Prop) : Prop where
  go : ∀ σ H1, Same H H1 → En X.K B H1 σ ρ → ∀ Q : VK, (∀ v H2, Same H1 H2 → P H1 v H2 → Q v H2) → WE X e σ H1 Q
instance {e : Expr} {P : Hp → V → Hp → Prop} : CoeFun (XP X B ρ H e P) fun _ => (∀ σ H1, Same H H1 → En X.K B H1 σ ρ → ∀ Q : VK, (∀ v H2, Same H1 H2 → P H1 v H2 → Q v H2) → WE X e σ H1 Q) := ⟨XP.go⟩
/-- data -/
def XD (e : Expr) (d : PyData) : Prop := XP X B ρ H e fun _ v H2 => Dq X.K H2 v d
/-- just this value -/
def XV (e : Expr) (w : V) : Prop := XP X B ρ H e fun _ v _ => v = w
/-- a new list of such data -/
def XF (e : Expr) (ds : List PyData) : Prop := XP X B ρ H e fun H1 v H2 => ∃ p xs, v = .ref p ∧ H1 p = none ∧ H2 p = some (.lst xs) ∧ DqAll X.K H2 xs ds
def XR (e : Expr) (a : Ar) : Prop := XP X B ρ H e fun _ v H2 => ArOk X.K H2 v a
instance {e : Expr} {d : PyData} : CoeFun (XD X B ρ H e d) fun _ => (∀ σ H1, Same H H1 → En X.K B H1 σ ρ → ∀ Q : VK, (∀ v H2, Same H1 H2 → (Dq X.K H2 v d) → Q v H2) → WE X e σ H1 Q) := ⟨fun h => XP.go h⟩
instance {e : Expr} {d : V} : CoeFun (XV X B ρ H e d) fun _ => (∀ σ H1, Same H H1 → En X.K B H1 σ ρ → ∀ Q : VK, (∀ v H2, Same H1 H2 → (v = d) → Q v H2) → WE X e σ H1 Q) := ⟨fun h => XP.go h⟩
instance {e : Expr} {d : List PyData} : CoeFun (XF X B ρ H e d) fun _ => (∀ σ H1, Same H H1 → En X.K B H1 σ ρ → ∀ Q : VK, (∀ v H2, Same H1 H2 → (∃ p xs, v = .ref p ∧ H1 p = none ∧ H2 p = some (.lst xs) ∧ DqAll X.K H2 xs d) → Q v H2) → WE X e σ H1 Q) := ⟨fun h => XP.go h⟩
instance {e : Expr} {d : Ar} : CoeFun (XR X B ρ H e d) fun _ => (∀ σ H1, Same H H1 → En X.K B H1 σ ρ → ∀ Q : VK, (∀ v H2, Same H1 H2 → (ArOk X.K H2 v d) → Q v H2) → WE X e σ H1 Q) := ⟨fun h => XP.go h⟩
structure XA (es : List Expr) (as : List Ar) : Prop where
  go : ∀ σ H1, Same H H1 → En X.K B H1 σ ρ → ∀ Q : List V → Hp → Prop, (∀ vs H2, Same H1 H2 → ArsOk X.K H2 vs as → Q vs H2) → WA X es σ H1 Q
instance {es : List Expr} {as : List Ar} : CoeFun (XA X B ρ H es as) fun _ => (∀ σ H1, Same H H1 → En X.K B H1 σ ρ → ∀ Q : List V → Hp → Prop, (∀ vs H2, Same H1 H2 → ArsOk X.K H2 vs as → Q vs H2) → WA X es σ H1 Q) := ⟨XA.go⟩
structure XT (e : Expr) (b : Bool) : Prop where
  go : ∀ σ H1, Same H H1 → En X.K B H1 σ ρ → ∀ Q : Bool → Hp → Prop, (∀ H2, Same H1 H2 → Q b H2) → WT X e σ H1 Q
instance {e : Expr} {b : Bool} : CoeFun (XT X B ρ H e b) fun _ => (∀ σ H1, Same H H1 → En X.K B H1 σ ρ → ∀ Q : Bool → Hp → Prop, (∀ H2, Same H1 H2 → Q b H2) → WT X e σ H1 Q) := ⟨XT.go⟩
structure XW (e : Expr) (b : Bool) : Prop where
  go : ∀ σ H1, Same H H1 → En X.K B H1 σ ρ → ∀ Q : Bool → Hp → Prop, (∀ H2, Same H1 H2 → Q b H2) → WW X e σ H1 Q
instance {e : Expr} {b : Bool} : CoeFun (XW X B ρ H e b) fun _ => (∀ σ H1, Same H H1 → En X.K B H1 σ ρ → ∀ Q : Bool → Hp → Prop, (∀ H2, Same H1 H2 → Q b H2) → WW X e σ H1 Q) := ⟨XW.go⟩
end

section
variable {X : Cx} {N : List Str} {sc : Scope} {k : Nat} {B : Hp} {ρ : List Sl} {H H' : Hp} {e e' : Expr} {es : List Expr} {d : PyData} {w : V} {ds : List PyData} {pos p2 p3 : Pos}
theorem XP.mono {P : Hp → V → Hp → Prop} (s : Same H H') (h : XP X B ρ H e P) : XP X B ρ H' e P := XP.mk fun σ H1 a => h σ H1 (s.trans a)
theorem XP.imp {P P' : Hp → V → Hp → Prop} (h : XP X B ρ H e P) (k : ∀ H1 v H2, Same H H1 → Same H1 H2 → P H1 v H2 → P' H1 v H2) : XP X B ρ H e P' := XP.mk fun σ H1 a g Q q => h σ H1 a g Q fun v H2 b p => q v H2 b (k H1 v H2 a b p)
theorem XD.mono (s : Same H H') (h : XD X B ρ H e d) : XD X B ρ H' e d := XP.mono s h
theorem XF.toD (h : XF X B ρ H e ds) : XD X B ρ H e (.list ds) := XP.imp h fun _ _ _ _ _ ⟨p, xs, e1, _, e2, q⟩ => by subst e1; exact .lst (SqL.of e2) q
theorem XD.toA (h : XD X B ρ H e d) : XR X B ρ H e (.d d) := XP.imp h fun _ _ _ _ _ q => q
theorem XV.toA (h : XV X B ρ H e w) : XR X B ρ H e (.v w) := XP.imp h fun _ _ _ _ _ q => q
theorem XD.eq {d' : PyData} (h : XD X B ρ H e d) (q : d = d') : XD X B ρ H e d' := q ▸ h
theorem XT.eq {b b' : Bool} (h : XT X B ρ H e b) (q : b = b') : XT X B ρ H e b' := q ▸ h
theorem XT.mono {b : Bool} (s : Same H H') (h : XT X B ρ H e b) : XT X B ρ H' e b := XT.mk fun σ H1 a => h σ H1 (s.trans a)
/-- from a reading -/
theorem xp_of {t : TE} {P : Hp → V → Hp → Prop} (h : PE X e t) (q : ∀ σ H1, Same H H1 → En X.K B H1 σ ρ → ∀ Q : VK, (∀ v H2, Same H1 H2 → P H1 v H2 → Q v H2) → t σ H1 Q) : XP X B ρ H e P := XP.mk fun σ H1 a g Q r => we h (q σ H1 a g Q r)

/-! ### names, constants -/
theorem xd_d {x : Str} (C : Wh X N sc k) {i : Nat} (hN : N[i]? = some x) (hv : Vis sc x) (hr : ρ[i]? = some (.d d)) (hd : (x == ("__debug__" : Str)) = false := by decide) (hcd : (x == ("__classdict__" : Str)) = false := by decide) : XD X B ρ H (.Name x pos) d :=
  xp_of (pe_var (i := i) (by rw [C.n]; exact hN) (by rw [C.se]; exact hv) hd hcd) fun σ H1 a g Q q => by
    obtain ⟨v, e1, h1⟩ := g.getD hr
    exact ⟨v, e1, q v H1 (Same.refl _) h1⟩
theorem xd_o {x : Str} (C : Wh X N sc k) {i : Nat} (hN : N[i]? = some x) (hv : Vis sc x) (hr : ρ[i]? = some (.o d)) (hd : (x == ("__debug__" : Str)) = false := by decide) (hcd : (x == ("__classdict__" : Str)) = false := by decide) : XD X B ρ H (.Name x pos) d :=
  xp_of (pe_var (i := i) (by rw [C.n]; exact hN) (by rw [C.se]; exact hv) hd hcd) fun σ H1 a g Q q => by
    obtain ⟨v, e1, h1⟩ := g.getO hr
    exact ⟨v, e1, q v H1 (Same.refl _) (dq_same g.same h1)⟩
theorem xv_v {x : Str} (C : Wh X N sc k) {i : Nat} (hN : N[i]? = some x) (hv : Vis sc x) (hr : ρ[i]? = some (.v w)) (hd : (x == ("__debug__" : Str)) = false := by decide) (hcd : (x == ("__classdict__" : Str)) = false := by decide) : XV X B ρ H (.Name x pos) w :=
  xp_of (pe_var (i := i) (by rw [C.n]; exact hN) (by rw [C.se]; exact hv) hd hcd) fun σ H1 a g Q q => ⟨w, g.getV hr, q w H1 (Same.refl _) rfl⟩
theorem xd_v {x : Str} (C : Wh X N sc k) {i : Nat} (hN : N[i]? = some x) (hv : Vis sc x) (hr : ρ[i]? = some (.v w)) (hw : Dq X.K H w d) (hd : (x == ("__debug__" : Str)) = false := by decide) (hcd : (x == ("__classdict__" : Str)) = false := by decide) : XD X B ρ H (.Name x pos) d :=
  xp_of (pe_var (i := i) (by rw [C.n]; exact hN) (by rw [C.se]; exact hv) hd hcd) fun σ H1 a g Q q => ⟨w, g.getV hr, q w H1 (Same.refl _) (dq_same a hw)⟩
theorem xd_int {i : Int} {j : Nat} : XD X B ρ H (.Constant (.int i) j pos) (.int i) := xp_of pe_int fun σ H1 a g Q q => q _ H1 (Same.refl _) (.int i)
theorem xd_bl {b : Bool} {j : Nat} : XD X B ρ H (.Constant (.bool b) j pos) (.bool b) := xp_of pe_bl fun σ H1 a g Q q => q _ H1 (Same.refl _) (.bl b)
theorem xd_non {j : Nat} : XD X B ρ H (.Constant .none j pos) .none := xp_of pe_non fun σ H1 a g Q q => q _ H1 (Same.refl _) .non
theorem xd_str {x : Str} {j : Nat} : XD X B ρ H (.Constant (.str x) j pos) (.str x) := xp_of pe_str fun σ H1 a g Q q => q _ H1 (Same.refl _) (.str x)
theorem xd_gint {x : Str} {i : Int} {t : Tok} (C : Wh X N sc k) (hg : sc.names.lookup x = some .globalImplicit) (hm : X.mg x = some (.int i t)) (hd : (x == ("__debug__" : Str)) = false := by decide) : XD X B ρ H (.Name x pos) (.int i) :=
  xp_of (pe_glob (v := .int i) (by show X.env.scope.names.lookup x = _; rw [C.se]; exact hg) hm ⟨t, rfl⟩ hd) fun σ H1 a g Q q => q _ H1 (Same.refl _) (.int i)
theorem xd_gstr {x : Str} {i : Str} {t : Tok} (C : Wh X N sc k) (hg : sc.names.lookup x = some .globalImplicit) (hm : X.mg x = some (.str i t)) (hd : (x == ("__debug__" : Str)) = false := by decide) : XD X B ρ H (.Name x pos) (.str i) :=
  xp_of (pe_glob (v := .str i) (by show X.env.scope.names.lookup x = _; rw [C.se]; exact hg) hm ⟨t, rfl⟩ hd) fun σ H1 a g Q q => q _ H1 (Same.refl _) (.str i)

/-! ### two values -/
theorem xp_two {r : R2} {P1 P2 P : Hp → V → Hp → Prop} (h : ∀ {ta tb : TE}, PE X e ta → PE X e' tb → PE X (p : Expr) (tOp r ta tb)) (h1 : XP X B ρ H e P1) (h2 : XP X B ρ H e' P2)
    (q : ∀ H1 x H2 y H3, Same H H1 → Same H1 H2 → Same H2 H3 → P1 H1 x H2 → P2 H2 y H3 → ∀ Q : VK, (∀ v H4, Same H3 H4 → P H1 v H4 → Q v H4) → r x y H3 Q) : XP X B ρ H p P :=
  xp_of (h pe_w pe_w) fun σ H1 a g Q k => h1 σ H1 a g _ fun x H2 a2 p1 => h2 σ H2 (a.trans a2) (g.mono a2) _ fun y H3 a3 p2 => q H1 x H2 y H3 a a2 a3 p1 p2 Q fun v H4 a4 p4 => k v H4 ((a2.trans a3).trans a4) p4
/-- data, data -/
theorem xd_two {r : R2} {d1 d2 d3 : PyData} {p : Expr} (h : ∀ {ta tb : TE}, PE X e ta → PE X e' tb → PE X p (tOp r ta tb)) (h1 : XD X B ρ H e d1) (h2 : XD X B ρ H e' d2)
    (q : ∀ x y H3, Dq X.K H3 x d1 → Dq X.K H3 y d2 → ∀ Q : VK, (∀ v H4, Same H3 H4 → Dq X.K H4 v d3 → Q v H4) → r x y H3 Q) : XD X B ρ H p d3 :=
  xp_two h h1 h2 fun H1 x H2 y H3 _ _ a3 p1 p2 Q k => q x y H3 (dq_same a3 p1) p2 Q k
theorem xd_int2 {f : Int → Int → V} {i j : Int} {d3 : PyData} {p : Expr} (h : ∀ {ta tb : TE}, PE X e ta → PE X e' tb → PE X p (tOp (rI0 f) ta tb)) (h1 : XD X B ρ H e (.int i)) (h2 : XD X B ρ H e' (.int j)) (hf : ∀ H, Dq X.K H (f i j) d3) : XD X B ρ H p d3 :=
  xd_two h h1 h2 fun x y H3 a b Q k => ⟨i, j, dq_int a, dq_int b, k _ H3 (Same.refl _) (hf H3)⟩
theorem xd_int2C {c : Int → Int → Prop} {f : Int → Int → V} {i j : Int} {d3 : PyData} {p : Expr} (h : ∀ {ta tb : TE}, PE X e ta → PE X e' tb → PE X p (tOp (rI c f) ta tb)) (h1 : XD X B ρ H e (.int i)) (h2 : XD X B ρ H e' (.int j)) (hc : c i j) (hf : ∀ H, Dq X.K H (f i j) d3) : XD X B ρ H p d3 :=
  xd_two h h1 h2 fun x y H3 a b Q k => ⟨i, j, dq_int a, dq_int b, hc, k _ H3 (Same.refl _) (hf H3)⟩
variable {i j : Int} {x y : List Nat}
theorem xd_add (h1 : XD X B ρ H e (.int i)) (h2 : XD X B ρ H e' (.int j)) : XD X B ρ H (.BinOp e .Add e' pos) (.int (i + j)) := xd_int2 (fun a b => pe_op op_add a b) h1 h2 fun _ => .int _
theorem xd_sub (h1 : XD X B ρ H e (.int i)) (h2 : XD X B ρ H e' (.int j)) : XD X B ρ H (.BinOp e .Sub e' pos) (.int (i - j)) := xd_int2 (fun a b => pe_op op_sub a b) h1 h2 fun _ => .int _
theorem xd_mul (h1 : XD X B ρ H e (.int i)) (h2 : XD X B ρ H e' (.int j)) (hc : CMul i j) : XD X B ρ H (.BinOp e .Mult e' pos) (.int (i * j)) := xd_int2C (fun a b => pe_op op_mul a b) h1 h2 hc fun _ => .int _
theorem xd_div (h1 : XD X B ρ H e (.int i)) (h2 : XD X B ρ H e' (.int j)) (hc : CDiv i j) : XD X B ρ H (.BinOp e .FloorDiv e' pos) (.int (i / j)) := xd_int2C (fun a b => pe_op op_fdiv a b) h1 h2 hc fun _ => .int _
theorem xd_mod (h1 : XD X B ρ H e (.int i)) (h2 : XD X B ρ H e' (.int j)) (hc : 0 < j) : XD X B ρ H (.BinOp e .Mod e' pos) (.int (i % j)) := xd_int2C (fun a b => pe_op op_mod a b) h1 h2 hc fun _ => .int _
theorem xd_pow (h1 : XD X B ρ H e (.int i)) (h2 : XD X B ρ H e' (.int j)) (hc : CPow i j) : XD X B ρ H (.BinOp e .Pow e' pos) (.int (i ^ j.toNat)) := xd_int2C (fun a b => pe_op op_pow a b) h1 h2 hc fun _ => .int _
theorem xd_neg (h1 : XD X B ρ H e (.int i)) : XD X B ρ H (.UnaryOp .USub e pos) (.int (-i)) := xp_of (pe_un un_neg pe_w) fun σ H1 a g Q q => h1 σ H1 a g _ fun v H2 a2 p => ⟨i, dq_int p, q _ H2 a2 (.int _)⟩
/-- == and != of data -/
theorem Wh.u64 (C : Wh X N sc k) : X.A.units + 64 < cLine := C.rm.units
theorem Wh.u65 (C : Wh X N sc k) : X.A.units + 65 < cLine := by
  have := C.rm.un
  omega
theorem Wh.u1 (C : Wh X N sc k) : X.A.units + 1 < cLine := by
  have := C.rm.un
  omega
/-- a comparison of data by data -/
structure OpD (X : Cx) (op : CmpOp) (d1 d2 : PyData) (b : Bool) : Prop where
  ex : ∃ r, OpR X (compareOp op) r ∧ ∀ x y H3, Dq X.K H3 x d1 → Dq X.K H3 y d2 → ∀ Q : VK, (∀ H4, Same H3 H4 → Q (.bl b) H4) → r x y H3 Q
theorem xd_cmp {op : CmpOp} {d1 d2 : PyData} {b : Bool} (o : OpD X op d1 d2 b) (h1 : XD X B ρ H e d1) (h2 : XD X B ρ H e' d2) (hm : behindInMarks op e' = false) : XD X B ρ H (.Compare e [op] [e'] pos) (.bool b) := by
  obtain ⟨r, ho, hr⟩ := o
  exact xd_two (fun a b => pe_cmpR ho a b hm) h1 h2 fun x y H3 a b Q k => hr x y H3 a b Q fun H4 a4 => k _ H4 a4 (.bl _)
theorem xt_cmp {op : CmpOp} {d1 d2 : PyData} {b : Bool} (o : OpD X op d1 d2 b) (h1 : XD X B ρ H e d1) (h2 : XD X B ρ H e' d2) (hm : behindInMarks op e' = false) : XT X B ρ H (.Compare e [op] [e'] pos) b := by
  obtain ⟨r, ho, hr⟩ := o
  exact XT.mk fun σ H1 a g Q q => wt (pt_cmpR ho pe_w pe_w hm) (h1 σ H1 a g _ fun x H2 a2 p1 => h2 σ H2 (a.trans a2) (g.mono a2) _ fun y H3 a3 p2 => hr x y H3 (dq_same a3 p1) p2 _ fun H4 a4 => ⟨b, rfl, q H4 ((a2.trans a3).trans a4)⟩)
theorem od_int {op : CmpOp} {f : Int → Int → Bool} (ho : OpR X (compareOp op) (rI0 fun i j => .bl (f i j))) : OpD X op (.int i) (.int j) (f i j) :=
  ⟨_, ho, fun x y H3 a b Q k => ⟨i, j, dq_int a, dq_int b, k H3 (Same.refl _)⟩⟩
theorem od_lt : OpD X .Lt (.int i) (.int j) (decide (i < j)) := od_int op_lt
theorem od_le : OpD X .LtE (.int i) (.int j) (decide (i ≤ j)) := od_int op_le
theorem od_gt : OpD X .Gt (.int i) (.int j) (decide (j < i)) := od_int op_gt
theorem od_ge : OpD X .GtE (.int i) (.int j) (decide (j ≤ i)) := od_int op_ge
theorem can_of {d : PyData} (h : SeqAt.shaped d = true) : d.canLay0 = true := by
  unfold SeqAt.shaped at h
  exact (Bool.and_eq_true _ _ ▸ h).1
theorem od_eq {d1 d2 : PyData} (C : Wh X N sc k) (s1 : SeqAt.shaped d1 = true) (s2 : SeqAt.shaped d2 = true) : OpD X .Eq d1 d2 (PyData.eqv d1 d2) :=
  ⟨_, op_eqD C.u64, fun x y H3 a b Q k => ⟨d1, d2, a.dp (can_of s1), b.dp (can_of s2), s1, s2, k H3 (Same.refl _)⟩⟩
theorem od_ne {d1 d2 : PyData} (C : Wh X N sc k) (s1 : SeqAt.shaped d1 = true) (s2 : SeqAt.shaped d2 = true) : OpD X .NotEq d1 d2 (!PyData.eqv d1 d2) :=
  ⟨_, op_neD C.u64, fun x y H3 a b Q k => ⟨d1, d2, a.dp (can_of s1), b.dp (can_of s2), s1, s2, k H3 (Same.refl _)⟩⟩
theorem od_in {d1 : PyData} (C : Wh X N sc k) (s1 : SeqAt.shaped d1 = true) (s2 : SeqAt.shaped (.list ds) = true) : OpD X .In d1 (.list ds) (ds.any fun z => PyData.eqv z d1) :=
  ⟨_, op_inD C.u65, fun x y H3 a b Q k => ⟨d1, ds, a.dp (can_of s1), b.dp (can_of s2), s1, s2, k H3 (Same.refl _)⟩⟩
theorem od_nin {d1 : PyData} (C : Wh X N sc k) (s1 : SeqAt.shaped d1 = true) (s2 : SeqAt.shaped (.list ds) = true) : OpD X .NotIn d1 (.list ds) (!ds.any fun z => PyData.eqv z d1) :=
  ⟨_, op_notInD C.u65, fun x y H3 a b Q k => ⟨d1, ds, a.dp (can_of s1), b.dp (can_of s2), s1, s2, k H3 (Same.refl _)⟩⟩
/-- is None -/
def isN : PyData → Bool
  | .none => true
  | _ => false
theorem isN_of {K : PySem.W.Frag} {H : Hp} {v : V} {d : PyData} (h : Dq K H v d) : decide (v = .non) = isN d := by
  cases h <;> simp [isN]
theorem od_isN {d1 : PyData} : OpD X .Is d1 .none (isN d1) := ⟨_, op_isN, fun x y H3 a b Q k => ⟨dq_non b, by rw [isN_of a]; exact k H3 (Same.refl _)⟩⟩
theorem od_notN {d1 : PyData} : OpD X .IsNot d1 .none (!isN d1) := ⟨_, op_notN, fun x y H3 a b Q k => ⟨dq_non b, by rw [isN_of a]; exact k H3 (Same.refl _)⟩⟩
theorem od_isB {b c : Bool} : OpD X .Is (.bool b) (.bool c) (decide (b = c)) := ⟨_, op_isBl, fun x y H3 a' b' Q k => ⟨b, c, dq_bl a', dq_bl b', k H3 (Same.refl _)⟩⟩
theorem od_notB {b c : Bool} : OpD X .IsNot (.bool b) (.bool c) (!decide (b = c)) := ⟨_, op_notBl, fun x y H3 a' b' Q k => ⟨b, c, dq_bl a', dq_bl b', k H3 (Same.refl _)⟩⟩
/-- a < b < c, a <= b < c .. of ints -/
theorem xd_chain {op op' : CmpOp} {d1 d2 d3 : PyData} {b c : Bool} {e3 : Expr} (o : OpD X op d1 d2 b) (o' : b = true → OpD X op' d2 d3 c) (h1 : XD X B ρ H e d1) (h2 : XD X B ρ H e' d2) (h3 : XD X B ρ H e3 d3)
    (hm : lastMarks [op, op'] [e', e3] = false := by with_unfolding_all rfl) : XD X B ρ H (.Compare e [op, op'] [e', e3] pos) (.bool (b && c)) := by
  obtain ⟨r, ho, hr⟩ := o
  cases b with
  | true =>
    obtain ⟨r', ho', hr'⟩ := o' rfl
    exact xp_of (pe_chain ho ho' pe_w pe_w pe_w hm) fun σ H1 a g' Q q => h1 σ H1 a g' _ fun x H2 a2 p => h2 σ H2 (a.trans a2) (g'.mono a2) _ fun y H3 a3 p2 => hr x y H3 (dq_same a3 p) p2 _ fun H4 a4 =>
      ⟨true, rfl, h3 σ H4 (((a.trans a2).trans a3).trans a4) (((g'.mono a2).mono a3).mono a4) _ fun z H5 a5 p5 => hr' y z H5 (dq_same (a4.trans a5) p2) p5 _ fun H6 a6 => q _ H6 ((((a2.trans a3).trans a4).trans a5).trans a6) (by rw [Bool.true_and]; exact .bl _)⟩
  | false =>
    exact xp_of (pe_chain (r' := fun _ _ _ _ => False) ho (fun _ _ _ _ _ _ _ _ _ _ _ _ z => z.elim) pe_w pe_w pe_w hm) fun σ H1 a g' Q q => h1 σ H1 a g' _ fun x H2 a2 p => h2 σ H2 (a.trans a2) (g'.mono a2) _ fun y H3 a3 p2 => hr x y H3 (dq_same a3 p) p2 _ fun H4 a4 =>
      ⟨false, rfl, q _ H4 ((a2.trans a3).trans a4) (.bl _)⟩
theorem xt_chain {op op' : CmpOp} {d1 d2 d3 : PyData} {b c : Bool} {e3 : Expr} (o : OpD X op d1 d2 b) (o' : b = true → OpD X op' d2 d3 c) (h1 : XD X B ρ H e d1) (h2 : XD X B ρ H e' d2) (h3 : XD X B ρ H e3 d3)
    (hm : lastMarks [op, op'] [e', e3] = false := by with_unfolding_all rfl) : XT X B ρ H (.Compare e [op, op'] [e', e3] pos) (b && c) := by
  obtain ⟨r, ho, hr⟩ := o
  cases b with
  | true =>
    obtain ⟨r', ho', hr'⟩ := o' rfl
    exact XT.mk fun σ H1 a g' Q q => wt (pt_chain ho ho' pe_w pe_w pe_w hm) (h1 σ H1 a g' _ fun x H2 a2 p => h2 σ H2 (a.trans a2) (g'.mono a2) _ fun y H3 a3 p2 => hr x y H3 (dq_same a3 p) p2 _ fun H4 a4 =>
      ⟨true, rfl, h3 σ H4 (((a.trans a2).trans a3).trans a4) (((g'.mono a2).mono a3).mono a4) _ fun z H5 a5 p5 => hr' y z H5 (dq_same (a4.trans a5) p2) p5 _ fun H6 a6 => ⟨c, rfl, q H6 ((((a2.trans a3).trans a4).trans a5).trans a6)⟩⟩)
  | false =>
    exact XT.mk fun σ H1 a g' Q q => wt (pt_chain (r' := fun _ _ _ _ => False) ho (fun _ _ _ _ _ _ _ _ _ _ _ _ z => z.elim) pe_w pe_w pe_w hm) (h1 σ H1 a g' _ fun x H2 a2 p => h2 σ H2 (a.trans a2) (g'.mono a2) _ fun y H3 a3 p2 => hr x y H3 (dq_same a3 p) p2 _ fun H4 a4 =>
      ⟨false, rfl, ⟨false, rfl, q H4 ((a2.trans a3).trans a4)⟩⟩)

/-! ### and, or, not as values -/
theorem xd_and1 {op : BoolOp} {b : PyData} (h : XD X B ρ H e b) : XD X B ρ H (.BoolOp op [e] pos) b := xp_of (pe_one pe_w) fun σ H1 a g Q q => h σ H1 a g Q q
theorem xd_and {b c : Bool} (h1 : XD X B ρ H e (.bool b)) (h2 : b = true → XD X B ρ H (.BoolOp .And (e' :: es) pos) (.bool c)) : XD X B ρ H (.BoolOp .And (e :: e' :: es) pos) (.bool (b && c)) :=
  xp_of (pe_and pe_w pe_w) fun σ H1 a g Q q => h1 σ H1 a g _ fun v H2 a2 p => ⟨b, dq_bl p, by
    cases b with
    | true => exact h2 rfl σ H2 (a.trans a2) (g.mono a2) Q fun v H3 a3 p3 => q v H3 (a2.trans a3) p3
    | false => exact q _ H2 a2 (.bl _)⟩
theorem xd_or {b c : Bool} (h1 : XD X B ρ H e (.bool b)) (h2 : b = false → XD X B ρ H (.BoolOp .Or (e' :: es) pos) (.bool c)) : XD X B ρ H (.BoolOp .Or (e :: e' :: es) pos) (.bool (b || c)) :=
  xp_of (pe_or pe_w pe_w) fun σ H1 a g Q q => h1 σ H1 a g _ fun v H2 a2 p => ⟨b, dq_bl p, by
    cases b with
    | true => exact q _ H2 a2 (.bl _)
    | false => exact h2 rfl σ H2 (a.trans a2) (g.mono a2) Q fun v H3 a3 p3 => q v H3 (a2.trans a3) p3⟩
theorem xd_not {b : Bool} (h1 : XD X B ρ H e (.bool b)) : XD X B ρ H (.UnaryOp .Not e pos) (.bool (!b)) := xp_of (pe_not pe_w) fun σ H1 a g Q q => h1 σ H1 a g _ fun v H2 a2 p => ⟨b, dq_bl p, q _ H2 a2 (.bl _)⟩

/-! ### tests -/
theorem xt_val {b : Bool} (h : XD X B ρ H e (.bool b)) (he : ∀ whole, isTrue e X.env whole = (do let v ← whole; standAt e.pos; holding [v] (truthy v)) := by intro _; rfl) : XT X B ρ H e b := XT.mk fun σ H1 a g Q q =>
  wt (pt_val pe_w he) (h σ H1 a g _ fun v H2 a2 p => ⟨b, dq_bl p, q H2 a2⟩)
theorem xt_not {b : Bool} (h : XT X B ρ H e b) : XT X B ρ H (.UnaryOp .Not e pos) (!b) := XT.mk fun σ H1 a g Q q => wt (pt_not pt_w) (h σ H1 a g _ fun H2 a2 => q H2 a2)
theorem xw_t {b : Bool} (h : XW X B ρ H e b) : XT X B ρ H e b := XT.mk fun σ H1 a g Q q => wt (PW.pt pw_w) (h σ H1 a g Q q)
theorem xw_and1 {b : Bool} (h : XT X B ρ H e b) : XW X B ρ H (.BoolOp .And [e] pos) b := XW.mk fun σ H1 a g Q q => ww (pw_and1 pt_w) (h σ H1 a g Q q)
theorem xw_or1 {b : Bool} (h : XT X B ρ H e b) : XW X B ρ H (.BoolOp .Or [e] pos) b := XW.mk fun σ H1 a g Q q => ww (pw_or1 pt_w) (h σ H1 a g Q q)
theorem xw_and {b c : Bool} (h1 : XT X B ρ H e b) (h2 : b = true → XW X B ρ H (.BoolOp .And (e' :: es) pos) c) : XW X B ρ H (.BoolOp .And (e :: e' :: es) pos) (b && c) := XW.mk fun σ H1 a g Q q =>
  ww (pw_and pt_w pw_w) (h1 σ H1 a g _ fun H2 a2 => by
    cases b with
    | true => exact h2 rfl σ H2 (a.trans a2) (g.mono a2) Q fun H3 a3 => q H3 (a2.trans a3)
    | false => exact q H2 a2)
theorem xw_or {b c : Bool} (h1 : XT X B ρ H e b) (h2 : b = false → XW X B ρ H (.BoolOp .Or (e' :: es) pos) c) : XW X B ρ H (.BoolOp .Or (e :: e' :: es) pos) (b || c) := XW.mk fun σ H1 a g Q q =>
  ww (pw_or pt_w pw_w) (h1 σ H1 a g _ fun H2 a2 => by
    cases b with
    | true => exact q H2 a2
    | false => exact h2 rfl σ H2 (a.trans a2) (g.mono a2) Q fun H3 a3 => q H3 (a2.trans a3))
end
end Pr

/-! ## Fw2.lean -/
set_option Elab.async false
set_option linter.all false
set_option maxRecDepth 100000
set_option maxHeartbeats 4000000
namespace Pr
open PySem PySem.Spec PyProof.Rows L2

/-! ### texts by their codes -/
abbrev S (l : List Nat) : Str := ⟨l.toArray⟩
theorem S_len (a : List Nat) : (S a).length = a.length := by simp [S, Str.length]
theorem S_cat (a b : List Nat) : S a ++ S b = S (a ++ b) := TL.ext_tl (TL.tl_append (S a) (S b))
theorem S_inj {a b : List Nat} (h : S a = S b) : a = b := congrArg (fun x : Str => x.cps.toList) h
theorem S_toList (a : List Nat) : (S a).cps.toList = a := by simp [S]
def cutA {α : Type} (xs : List α) (lo hi : Option Int) : List α := (xs.drop (HT.sIx xs.length 0 lo)).take (HT.sIx xs.length xs.length hi - HT.sIx xs.length 0 lo)
theorem cutS_S (l : List Nat) (lo hi : Option Int) : cutS (S l) lo hi = S (cutA l lo hi) := by
  unfold cutS cutA
  rw [S_toList, S_len]
theorem cutV_A (l : List V) (lo hi : Option Int) : cutV l lo hi = cutA l lo hi := rfl
theorem cutA_whole {α : Type} {xs : List α} {lo hi : Option Int} (h : HT.sIx xs.length 0 lo = 0 ∧ HT.sIx xs.length xs.length hi = xs.length) : cutA xs lo hi = xs := by
  unfold cutA
  rw [h.1, h.2, List.drop_zero, Nat.sub_zero, List.take_length]
theorem cutA_from {α : Type} (xs : List α) (n : Nat) : cutA xs (some (n : Int)) none = xs.drop n := by
  unfold cutA
  show (xs.drop (HT.sIx xs.length 0 (some (n : Int)))).take (xs.length - HT.sIx xs.length 0 (some (n : Int))) = _
  rw [HT.sIx_nat]
  by_cases h : n ≤ xs.length
  · rw [Nat.min_eq_left h, List.take_of_length_le]
    rw [List.length_drop]
    omega
  · rw [Nat.min_eq_right (by omega), List.drop_of_length_le (by omega : xs.length ≤ n), List.drop_length, List.take_nil]
theorem cutA_to {α : Type} (xs : List α) (n : Nat) : cutA xs none (some (n : Int)) = xs.take n := by
  unfold cutA
  show (xs.drop 0).take (HT.sIx xs.length xs.length (some (n : Int)) - 0) = _
  rw [HT.sIx_nat, List.drop_zero, Nat.sub_zero]
  by_cases h : n ≤ xs.length
  · rw [Nat.min_eq_left h]
  · rw [Nat.min_eq_right (by omega), List.take_of_length_le (by omega : xs.length ≤ n), List.take_length]
theorem DqAll.cut {K : PySem.W.Frag} {H : Hp} {xs : List V} {ds : List PyData} (h : DqAll K H xs ds) (lo hi : Option Int) : DqAll K H (cutA xs lo hi) (cutA ds lo hi) := by
  unfold cutA
  rw [h.len]
  exact (h.drop _).take _

section
variable {X : Cx} {N : List Str} {sc : Scope} {k : Nat} {B : Hp} {ρ : List Sl} {H H' : Hp} {e e' : Expr} {es : List Expr} {d : PyData} {w : V} {ds : List PyData} {pos p2 p3 : Pos} {i j : Int} {x y : List Nat}

theorem xd_strS {z : Str} {l : List Nat} {j : Nat} (h : z = S l) : XD X B ρ H (.Constant (.str z) j pos) (.str (S l)) := by
  subst h
  exact xd_str
theorem xd_cat (h1 : XD X B ρ H e (.str (S x))) (h2 : XD X B ρ H e' (.str (S y))) (hz : x.length + y.length ≤ 1000000) : XD X B ρ H (.BinOp e .Add e' pos) (.str (S (x ++ y))) :=
  xd_two (fun a b => pe_op op_add_str a b) h1 h2 fun v w H3 a b Q q => ⟨S x, S y, dq_str a, dq_str b, by rw [S_len, S_len]; exact Nat.le_trans hz (by decide), by rw [S_cat]; exact q _ H3 (Same.refl _) (.str _)⟩

/-! ### subscripts -/
theorem atI_len {α β : Type} {xs : List α} {ys : List β} (h : xs.length = ys.length) {i : Int} {y : β} (hy : atI ys i = some y) : ∃ j : Nat, ys[j]? = some y ∧ ∀ x, xs[j]? = some x → atI xs i = some x := by
  unfold atI at hy ⊢
  rw [h]
  cases e : ixN ys.length i with
  | none => rw [e] at hy; cases hy
  | some j =>
    rw [e] at hy
    exact ⟨j, hy, fun x hx => hx⟩
theorem DqAll.at {K : PySem.W.Frag} {H : Hp} {xs : List V} (h : DqAll K H xs ds) (ha : atI ds i = some d) : ∃ v, atI xs i = some v ∧ Dq K H v d := by
  obtain ⟨j, h1, h2⟩ := atI_len h.len ha
  obtain ⟨v, h3, h4⟩ := h.getD h1
  exact ⟨v, h2 v h3, h4⟩
theorem xd_ixT (h1 : XD X B ρ H e (.tuple ds)) (h2 : XD X B ρ H e' (.int i)) (ha : atI ds i = some d) (hs : PlainIx e' := by intro _ _; rfl) : XD X B ρ H (.Subscript e e' pos) d :=
  xd_two (fun a b => pe_ix ix_tup a b hs) h1 h2 fun v w H3 a b Q q => by
    obtain ⟨p, xs, rfl, hp, hx⟩ := dq_tup a
    obtain ⟨u, h3, h4⟩ := hx.at ha
    exact ⟨p, xs, i, u, rfl, dq_int b, SqT.of hp, h3, q _ H3 (Same.refl _) h4⟩
theorem xd_ixL (h1 : XD X B ρ H e (.list ds)) (h2 : XD X B ρ H e' (.int i)) (ha : atI ds i = some d) (hs : PlainIx e' := by intro _ _; rfl) : XD X B ρ H (.Subscript e e' pos) d :=
  xd_two (fun a b => pe_ix ix_list a b hs) h1 h2 fun v w H3 a b Q q => by
    obtain ⟨p, xs, rfl, hp, hx⟩ := dq_lst a
    obtain ⟨u, h3, h4⟩ := hx.at ha
    exact ⟨p, xs, i, u, rfl, dq_int b, hp, h3, q _ H3 (Same.refl _) h4⟩
theorem xd_ixS {c : Nat} (h1 : XD X B ρ H e (.str (S x))) (h2 : XD X B ρ H e' (.int i)) (ha : atI x i = some c) (hz : x.length ≤ 1000000) (hs : PlainIx e' := by intro _ _; rfl) : XD X B ρ H (.Subscript e e' pos) (.str (S [c])) :=
  xd_two (fun a b => pe_ix ix_str a b hs) h1 h2 fun v w H3 a b Q q => ⟨S x, i, c, dq_str a, dq_int b, by rw [S_len]; exact Nat.le_trans hz (by decide), by rw [S_toList]; exact ha, q _ H3 (Same.refl _) (.str _)⟩

/-! ### slices -/
def XO (X : Cx) (B : Hp) (ρ : List Sl) (H : Hp) (e : Option Expr) (o : Option Int) : Prop := ∃ t, PO X e t ∧ ∀ σ H1, Same H H1 → En X.K B H1 σ ρ → ∀ Q : Option Int → Hp → Prop, (∀ H2, Same H1 H2 → Q o H2) → t σ H1 Q
theorem xo_none : XO X B ρ H none none := ⟨_, po_none, fun σ H1 a g Q q => q H1 (Same.refl _)⟩
theorem xo_some (h : XD X B ρ H e (.int i)) : XO X B ρ H (some e) (some i) := ⟨_, po_some pe_w, fun σ H1 a g Q q => h σ H1 a g _ fun v H2 a2 p => ⟨i, dq_int p, q H2 a2⟩⟩
theorem xp_slice {r : V → Option Int → Option Int → Hp → VK → Prop} {lo hi : Option Expr} {l u : Option Int} {P : Hp → V → Hp → Prop} (hr : SlR X r) (h : XD X B ρ H e d) (hl : XO X B ρ H lo l) (hh : XO X B ρ H hi u)
    (q : ∀ H1 x H2, Same H H1 → Same H1 H2 → Dq X.K H2 x d → ∀ Q : VK, (∀ v H3, Same H2 H3 → P H1 v H3 → Q v H3) → r x l u H2 Q) : XP X B ρ H (.Subscript e (.Slice lo hi none p2) pos) P := by
  obtain ⟨tl, pl, ql⟩ := hl
  obtain ⟨th, ph, qh⟩ := hh
  exact xp_of (pe_slice hr pe_w pl ph) fun σ H1 a g Q k => h σ H1 a g _ fun v H2 a2 p => ql σ H2 (a.trans a2) (g.mono a2) _ fun H3 a3 => qh σ H3 ((a.trans a2).trans a3) ((g.mono a2).mono a3) _ fun H4 a4 =>
    q H1 v H4 a ((a2.trans a3).trans a4) (dq_same (a3.trans a4) p) Q fun w H5 a5 p5 => k w H5 (((a2.trans a3).trans a4).trans a5) p5
theorem xd_slS {lo hi : Option Expr} {l u : Option Int} (h : XD X B ρ H e (.str (S x))) (hl : XO X B ρ H lo l) (hh : XO X B ρ H hi u) (hz : x.length ≤ 1000000) : XD X B ρ H (.Subscript e (.Slice lo hi none p2) pos) (.str (S (cutA x l u))) :=
  xp_slice sl_str h hl hh fun H1 v H2 _ a2 p Q q => ⟨S x, dq_str p, by rw [S_len]; exact Nat.le_trans hz (by decide), by rw [cutS_S]; exact q _ H2 (Same.refl _) (.str _)⟩
/-- s[i:], s[:i] -/
theorem cutA_fromI {α : Type} (xs : List α) {i : Int} (h : 0 ≤ i) : cutA xs (some i) none = xs.drop i.toNat := by
  have := cutA_from xs i.toNat
  rwa [Int.toNat_of_nonneg h] at this
theorem cutA_toI {α : Type} (xs : List α) {i : Int} (h : 0 ≤ i) : cutA xs none (some i) = xs.take i.toNat := by
  have := cutA_to xs i.toNat
  rwa [Int.toNat_of_nonneg h] at this
theorem xd_slSf (h : XD X B ρ H e (.str (S x))) (h2 : XD X B ρ H e' (.int i)) (h0 : 0 ≤ i) (hz : x.length ≤ 1000000) : XD X B ρ H (.Subscript e (.Slice (some e') none none p2) pos) (.str (S (x.drop i.toNat))) := by
  rw [← cutA_fromI x h0]
  exact xd_slS h (xo_some h2) xo_none hz
theorem xd_slSt (h : XD X B ρ H e (.str (S x))) (h2 : XD X B ρ H e' (.int i)) (h0 : 0 ≤ i) (hz : x.length ≤ 1000000) : XD X B ρ H (.Subscript e (.Slice none (some e') none p2) pos) (.str (S (x.take i.toNat))) := by
  rw [← cutA_toI x h0]
  exact xd_slS h xo_none (xo_some h2) hz
theorem xd_slT {lo hi : Option Expr} {l u : Option Int} (h : XD X B ρ H e (.tuple ds)) (hl : XO X B ρ H lo l) (hh : XO X B ρ H hi u) : XD X B ρ H (.Subscript e (.Slice lo hi none p2) pos) (.tuple (cutA ds l u)) :=
  xp_slice sl_tupA h hl hh fun H1 v H2 _ a2 p Q q => by
    obtain ⟨b, xs, rfl, hb, hx⟩ := dq_tup p
    refine ⟨b, xs, rfl, SqT.of hb, fun hw => ?_, fun _ c hc => ?_⟩
    · rw [hx.len] at hw
      rw [cutA_whole hw] at q
      exact q _ H2 (Same.refl _) (.tup hb hx)
    · exact q _ _ (Same.new hc) (.tup upd_same (dqAll_same (Same.new hc) (hx.cut l u)))
theorem xf_slL {lo hi : Option Expr} {l u : Option Int} (h : XD X B ρ H e (.list ds)) (hl : XO X B ρ H lo l) (hh : XO X B ρ H hi u) : XF X B ρ H (.Subscript e (.Slice lo hi none p2) pos) (cutA ds l u) :=
  xp_slice sl_list h hl hh fun H1 v H2 a1 a2 p Q q => by
    obtain ⟨b, xs, rfl, hb, hx⟩ := dq_lst p
    exact ⟨b, xs, rfl, hb, fun c hc => q _ _ (Same.new hc) ⟨c, _, rfl, a2.free hc, upd_same, dqAll_same (Same.new hc) (hx.cut l u)⟩⟩
/-- xs[::-1] -/
theorem xf_revL {n : Nat} {p4 : Pos} (h : XD X B ρ H e (.list ds)) : XF X B ρ H (.Subscript e (.Slice none none (some (.UnaryOp .USub (.Constant (.int 1) n p2) p3)) p4) pos) ds.reverse :=
  xp_of (pe_revL pe_w) fun σ H1 a g Q q => h σ H1 a g _ fun v H2 a2 p => by
    obtain ⟨b, xs, rfl, hb, hx⟩ := dq_lst p
    exact ⟨b, xs, rfl, hb, fun c hc => q _ _ (a2.trans (Same.new hc)) ⟨c, _, rfl, a2.free hc, upd_same, dqAll_same (Same.new hc) hx.rev⟩⟩

/-! ### argument lists, displays -/
structure XL (X : Cx) (B : Hp) (ρ : List Sl) (H : Hp) (es : List Expr) (ds : List PyData) : Prop where
  go : ∀ σ H1, Same H H1 → En X.K B H1 σ ρ → ∀ Q : List V → Hp → Prop, (∀ vs H2, Same H1 H2 → DqAll X.K H2 vs ds → Q vs H2) → WA X es σ H1 Q
instance {X : Cx} {B : Hp} {ρ : List Sl} {H : Hp} {es : List Expr} {ds : List PyData} : CoeFun (XL X B ρ H es ds) fun _ => (∀ σ H1, Same H H1 → En X.K B H1 σ ρ → ∀ Q : List V → Hp → Prop, (∀ vs H2, Same H1 H2 → DqAll X.K H2 vs ds → Q vs H2) → WA X es σ H1 Q) := ⟨XL.go⟩
theorem xl_nil : XL X B ρ H [] [] := XL.mk fun σ H1 a g Q q => wa pa_nil (q [] H1 (Same.refl _) .nil)
theorem xl_cons (h : XD X B ρ H e d) (t : XL X B ρ H es ds) (hs : starEach (e :: es) X.env = (false, eval e X.env) :: starEach es X.env := by rfl) : XL X B ρ H (e :: es) (d :: ds) := XL.mk fun σ H1 a g Q q =>
  wa (pa_cons pe_w pa_w hs) (h σ H1 a g _ fun v H2 a2 p => t σ H2 (a.trans a2) (g.mono a2) _ fun vs H3 a3 ps => q _ H3 (a2.trans a3) (.cons (dq_same a3 p) ps))
theorem xa_nil : XA X B ρ H [] [] := XA.mk fun σ H1 a g Q q => wa pa_nil (q [] H1 (Same.refl _) .nil)
theorem xa_cons {b : Ar} {bs : List Ar} (h : XR X B ρ H e b) (t : XA X B ρ H es bs) (hs : starEach (e :: es) X.env = (false, eval e X.env) :: starEach es X.env := by rfl) : XA X B ρ H (e :: es) (b :: bs) := XA.mk fun σ H1 a g Q q =>
  wa (pa_cons pe_w pa_w hs) (h σ H1 a g _ fun v H2 a2 p => t σ H2 (a.trans a2) (g.mono a2) _ fun vs H3 a3 ps => q _ H3 (a2.trans a3) (.cons (ArOk.same a3 p) ps))
theorem DqAll.ars {K : PySem.W.Frag} {H : Hp} : ∀ {vs : List V} {ds : List PyData}, DqAll K H vs ds → ArsOk K H vs (ds.map Ar.d)
  | _, _, .nil => .nil
  | _, _, .cons h t => .cons h (DqAll.ars t)
theorem XL.toA (h : XL X B ρ H es ds) : XA X B ρ H es (ds.map Ar.d) := XA.mk fun σ H1 a g Q q => h σ H1 a g Q fun vs H2 a2 p => q vs H2 a2 p.ars
theorem xd_tup {n : Nat} (h : XL X B ρ H es ds) (hz : ds.length ≤ 1000) : XD X B ρ H (.Tuple es n pos) (.tuple ds) :=
  xp_of (pe_tup pa_w) fun σ H1 a g Q q => h σ H1 a g _ fun vs H2 a2 p => ⟨by rw [p.len]; exact Nat.le_trans hz (by decide), fun c hc => q _ _ (a2.trans (Same.new hc)) (.tup upd_same (dqAll_same (Same.new hc) p))⟩
theorem xf_lst (h : XL X B ρ H es ds) (hz : ds.length ≤ 1000) : XF X B ρ H (.List es pos) ds :=
  xp_of (pe_lst pa_w) fun σ H1 a g Q q => h σ H1 a g _ fun vs H2 a2 p => ⟨by rw [p.len]; exact Nat.le_trans hz (by decide), fun c hc => q _ _ (a2.trans (Same.new hc)) ⟨c, _, rfl, a2.free hc, upd_same, dqAll_same (Same.new hc) p⟩⟩
/-- t + u of tuples -/
theorem xd_catT {es' : List PyData} (h1 : XD X B ρ H e (.tuple ds)) (h2 : XD X B ρ H e' (.tuple es')) (hz : ds.length + es'.length ≤ 1000) : XD X B ρ H (.BinOp e .Add e' pos) (.tuple (ds ++ es')) :=
  xd_two (fun a b => pe_op op_catA a b) h1 h2 fun v w H3 a b Q q => by
    obtain ⟨p, xs, rfl, hp, hx⟩ := dq_tup a
    obtain ⟨r, ys, rfl, hr, hy⟩ := dq_tup b
    have l1 := hx.len
    have l2 := hy.len
    refine ⟨p, r, xs, ys, rfl, rfl, SqT.of hp, SqT.of hr, by rw [l1, l2]; exact Nat.le_trans hz (by decide), fun e1 => ?_, fun _ e2 => ?_, fun _ _ c hc => ?_⟩
    · subst e1
      cases hx
      exact q _ H3 (Same.refl _) (.tup hr hy)
    · subst e2
      cases hy
      rw [List.append_nil] at q
      exact q _ H3 (Same.refl _) (.tup hp hx)
    · exact q _ _ (Same.new hc) (.tup upd_same (dqAll_same (Same.new hc) (hx.app hy)))
/-- xs + ys of lists, both of this def's own making or tracked -/
theorem xf_cat {es' : List PyData} {p r : Addr} {xs ys : List V} (h1 : XV X B ρ H e (.ref p)) (h2 : XV X B ρ H e' (.ref r)) (hp : H p = some (.lst xs)) (hr : H r = some (.lst ys)) (hx : DqAll X.K H xs ds) (hy : DqAll X.K H ys es') (hz : ds.length + es'.length ≤ 100000) :
    XF X B ρ H (.BinOp e .Add e' pos) (ds ++ es') :=
  xp_of (pe_op op_cat pe_w pe_w) fun σ H1 a g Q q => h1 σ H1 a g _ fun v H2 a2 p1 => h2 σ H2 (a.trans a2) (g.mono a2) _ fun w H3 a3 p3 => by
    subst p1 p3
    have s3 := (a.trans a2).trans a3
    refine ⟨p, r, xs, ys, rfl, rfl, s3 _ _ hp, s3 _ _ hr, by rw [hx.len, hy.len]; exact Nat.le_trans hz (by decide), fun c hc => q _ _ ((a2.trans a3).trans (Same.new hc)) ⟨c, _, rfl, (a2.trans a3).free hc, upd_same, dqAll_same (s3.trans (Same.new hc)) (hx.app hy)⟩⟩

/-! ### calls of built-ins -/
/-- a name of the built-ins -/
structure Bi (X : Cx) (sc : Scope) (x : Str) : Prop where
  gl : sc.names.lookup x = some .globalImplicit
  mg : X.mg x = none
theorem Bi.g (C : Wh X N sc k) {x : Str} (b : Bi X sc x) : Gl X x := by
  show X.env.scope.names.lookup x = _
  rw [C.se]
  exact b.gl
theorem xp_cb {x : Str} {f : Value} {r : List V → Hp → VK → Prop} {P : Hp → V → Hp → Prop} (h : ∀ {t : TA}, PA X es t → PE X (.Call (.Name x p2) es [] pos) (tCB r t)) (ha : XL X B ρ H es ds)
    (q : ∀ H1 vs H2, Same H H1 → Same H1 H2 → DqAll X.K H2 vs ds → ∀ Q : VK, (∀ v H3, Same H2 H3 → P H1 v H3 → Q v H3) → r vs H2 Q) : XP X B ρ H (.Call (.Name x p2) es [] pos) P :=
  xp_of (h pa_w) fun σ H1 a g Q k => ha σ H1 a g _ fun vs H2 a2 p => q H1 vs H2 a a2 p Q fun v H3 a3 p3 => k v H3 (a2.trans a3) p3
theorem xl_one {v : List V} {K : PySem.W.Frag} (h : DqAll K H v [d]) : ∃ x, v = [x] ∧ Dq K H x d := by
  cases h with
  | cons h t => cases t; exact ⟨_, rfl, h⟩
theorem xl_two {v : List V} {K : PySem.W.Frag} {d' : PyData} (h : DqAll K H v [d, d']) : ∃ x y, v = [x, y] ∧ Dq K H x d ∧ Dq K H y d' := by
  cases h with
  | cons h t =>
    obtain ⟨y, rfl, hy⟩ := xl_one t
    exact ⟨_, _, rfl, h, hy⟩
/-- len -/
theorem xd_lenW {n : Nat} (C : Wh X N sc k) (b : Bi X sc "len") (h : XD X B ρ H e d) (hn : ∀ (H : Hp) v, Dq X.K H v d → LenV X.K v H n) (he : starEach [e] X.env = [(false, eval e X.env)] := by rfl) : XD X B ρ H (.Call (.Name "len" p2) [e] [] pos) (.int n) :=
  xp_cb (f := .builtin "len") (fun a => pe_callB call_len (b.g C) b.mg PySem.boot_len a (by decide) (by decide) he rfl) (xl_cons h xl_nil he) fun H1 vs H2 _ _ p Q q => by
    obtain ⟨x, rfl, hx⟩ := xl_one p
    exact ⟨x, n, rfl, hn _ _ hx, q _ H2 (Same.refl _) (.int _)⟩
theorem xd_lenS (C : Wh X N sc k) (b : Bi X sc "len") (h : XD X B ρ H e (.str (S x))) (hz : x.length ≤ 1000000) (he : starEach [e] X.env = [(false, eval e X.env)] := by rfl) : XD X B ρ H (.Call (.Name "len" p2) [e] [] pos) (.int x.length) :=
  xd_lenW C b h (fun H v q => by
    rw [dq_str q]
    exact ⟨by rw [S_len]; exact Nat.le_trans hz (by decide), (S_len x).symm⟩) he
theorem xd_lenL (C : Wh X N sc k) (b : Bi X sc "len") (h : XD X B ρ H e (.list ds)) (he : starEach [e] X.env = [(false, eval e X.env)] := by rfl) : XD X B ρ H (.Call (.Name "len" p2) [e] [] pos) (.int ds.length) :=
  xd_lenW C b h (fun H v q => by
    obtain ⟨p, xs, rfl, hp, hx⟩ := dq_lst q
    exact .inl ⟨_, hp, hx.len.symm⟩) he
theorem xd_lenT (C : Wh X N sc k) (b : Bi X sc "len") (h : XD X B ρ H e (.tuple ds)) (he : starEach [e] X.env = [(false, eval e X.env)] := by rfl) : XD X B ρ H (.Call (.Name "len" p2) [e] [] pos) (.int ds.length) :=
  xd_lenW C b h (fun H v q => by
    obtain ⟨p, xs, rfl, hp, hx⟩ := dq_tup q
    exact .inr ⟨_, SqT.of hp, hx.len.symm⟩) he
/-- isinstance(x, T), T a built-in class -/
def tyD : PyData → String
  | .none => "NoneType"
  | .bool _ => "bool"
  | .int _ => "int"
  | .str _ => "str"
  | .list _ => "list"
  | .tuple _ => "tuple"
  | .dict _ => "dict"
theorem tyX_of {K : PySem.W.Frag} {v : V} (h : Dq K H v d) : TyX K H v (.type (tyD d)) := by
  cases h with
  | non => exact .base .non
  | bl b => exact .base (.bl b)
  | int i => exact .base (.int i)
  | str x => exact .base (.str x)
  | lst s hx =>
    rcases s with (s | ⟨o, s⟩) | s
    · exact .base (.lst s)
    · exact .base (.frz s)
    · obtain ⟨o, its, n, s1, s2, _⟩ := s
      exact .kList s1 s2
  | tup s hx => exact .base (.tup s)
  | dct s => exact .base (.dK s)
theorem xd_isi {T : Str} {U : String} {b : Bool} (C : Wh X N sc k) (bi : Bi X sc "isinstance") (bt : Bi X sc T) (hT : bootBuiltins T = some (.type U)) (h : XD X B ρ H e d) (hk : kitB (tyD d) U = some b) (hn : T ≠ "__name__" := by decide) (hd : (T == ("__debug__" : Str)) = false := by decide)
    (he : ∀ t, starEach [e, .Name T t] X.env = [(false, eval e X.env), (false, eval (.Name T t) X.env)] := by intro t; rfl) : XD X B ρ H (.Call (.Name "isinstance" p2) [e, .Name T p3] [] pos) (.bool b) :=
  xp_of (pe_callB call_isi (bi.g C) bi.mg PyProof.Rows.boot_isinstance (pa_cons pe_w (pa_cons (pe_bltn (v := .ty U) (bt.g C) bt.mg hT rfl hn hd) pa_nil) (he p3)) (by decide) (by decide) (he p3) rfl) fun σ H1 a g Q q =>
    h σ H1 a g _ fun v H2 a2 p => ⟨v, .ty U, _, _, b, rfl, .ty U, tyX_of p, kit_ty hk, q _ H2 a2 (.bl _)⟩
end
end Pr

/-! ## Fw3.lean -/
set_option Elab.async false
set_option linter.all false
set_option maxRecDepth 100000
set_option maxHeartbeats 4000000
namespace Pr
open PySem PySem.Spec PyProof.Rows L2

/-! ### own defs -/
def Cl (P : Program) (w : World) (K : PySem.W.Frag) (mg : Str → Option Value) (base : Heap) (j : Nat) (nm : Str) (ps : List Str) (sp : Sp) : Prop :=
  ∃ (f : Addr) (fd : FuncData), FnOk P w K mg base CX0 j f fd ps sp ∧ mg nm = some (.ref f) ∧ PySem.W.keepIn K (.ref f) = true ∧ Binds K fd ps []
/-- data in, data out; nothing that stood changes -/
def spD (K : PySem.W.Frag) (R : List PyData → PyData → Prop) : Sp := fun vs H Q _ => ∃ ds r, DqAll K H vs ds ∧ R ds r ∧ ∀ v H', Same H H' → Dq K H' v r → Q v H'
/-- data in, a new list of data out -/
def spF (K : PySem.W.Frag) (R : List PyData → List PyData → Prop) : Sp := fun vs H Q _ => ∃ ds rs, DqAll K H vs ds ∧ R ds rs ∧ ∀ p xs H', H p = none → Same H H' → H' p = some (.lst xs) → DqAll K H' xs rs → Q (.ref p) H'
theorem spD_len {K : PySem.W.Frag} {R : List PyData → PyData → Prop} {n : Nat} (h : ∀ ds r, R ds r → ds.length = n) (vs : List V) (H : Hp) (Q : VK) (E : XK) (q : spD K R vs H Q E) : vs.length = n := by
  obtain ⟨ds, r, a, b, _⟩ := q
  rw [a.len, h ds r b]
theorem spF_len {K : PySem.W.Frag} {R : List PyData → List PyData → Prop} {n : Nat} (h : ∀ ds r, R ds r → ds.length = n) (vs : List V) (H : Hp) (Q : VK) (E : XK) (q : spF K R vs H Q E) : vs.length = n := by
  obtain ⟨ds, r, a, b, _⟩ := q
  rw [a.len, h ds r b]
section
variable {X : Cx} {N : List Str} {sc : Scope} {k : Nat} {B : Hp} {ρ : List Sl} {H H' : Hp} {e e' : Expr} {es : List Expr} {d : PyData} {w : V} {ds : List PyData} {pos p2 p3 : Pos} {i j : Int} {x y : List Nat}
theorem xp_call {nm : Str} {ps : List Str} {sp : Sp} {j : Nat} {as : List Ar} {P : Hp → V → Hp → Prop} (C : Wh X N sc k) (c : Cl X.prog X.w X.K X.mg X.base j nm ps sp) (hj : j ≤ k) (hg : sc.names.lookup nm = some .globalImplicit) (ha : XA X B ρ H (e :: es) as)
    (q : ∀ H1 vs H2, Same H H1 → Same H1 H2 → ArsOk X.K H2 vs as → ∀ Q : VK, (∀ v H3, Same H2 H3 → P H1 v H3 → Q v H3) → sp vs H2 Q E0) (hdb : (nm == ("__debug__" : Str)) = false := by decide)
    (he : starEach (e :: es) X.env = (false, eval e X.env) :: starEach es X.env := by rfl) (hpl : (backTo pos (starEach es X.env)).any (·.1) = false := by rfl) : XP X B ρ H (.Call (.Name nm p2) (e :: es) [] pos) P := by
  obtain ⟨f, fd, F, hm, hk, hb⟩ := c
  exact xp_of (pe_call F (C.rm.mono hj) (by show X.env.scope.names.lookup nm = _; rw [C.se]; exact hg) hm hk hb .nil pass0 pa_w hdb he hpl) fun σ H1 a g Q r => ha σ H1 a g _ fun vs H2 a2 p => by
    rw [List.append_nil]
    exact q H1 vs H2 a a2 p Q fun v H3 a3 p3 => r v H3 (a2.trans a3) p3
theorem XL.args (h : XL X B ρ H es ds) : XA X B ρ H es (ds.map Ar.d) := h.toA
theorem ars_dq {K : PySem.W.Frag} {H : Hp} : ∀ {vs : List V} {ds : List PyData}, ArsOk K H vs (ds.map Ar.d) → DqAll K H vs ds
  | _, [], .nil => .nil
  | _, _ :: _, .cons h t => .cons h (ars_dq t)
theorem xd_call {nm : Str} {ps : List Str} {R : List PyData → PyData → Prop} {r : PyData} {j : Nat} (C : Wh X N sc k) (c : Cl X.prog X.w X.K X.mg X.base j nm ps (spD X.K R)) (hj : j ≤ k) (hg : sc.names.lookup nm = some .globalImplicit) (ha : XL X B ρ H (e :: es) ds) (hR : R ds r)
    (hdb : (nm == ("__debug__" : Str)) = false := by decide) (he : starEach (e :: es) X.env = (false, eval e X.env) :: starEach es X.env := by rfl) (hpl : (backTo pos (starEach es X.env)).any (·.1) = false := by rfl) : XD X B ρ H (.Call (.Name nm p2) (e :: es) [] pos) r :=
  xp_call C c hj hg ha.toA (fun H1 vs H2 _ a2 p Q q => ⟨ds, r, ars_dq p, hR, fun v H3 a3 h3 => q v H3 a3 h3⟩) hdb he hpl
theorem xf_call {nm : Str} {ps : List Str} {R : List PyData → List PyData → Prop} {r : List PyData} {j : Nat} (C : Wh X N sc k) (c : Cl X.prog X.w X.K X.mg X.base j nm ps (spF X.K R)) (hj : j ≤ k) (hg : sc.names.lookup nm = some .globalImplicit) (ha : XL X B ρ H (e :: es) ds) (hR : R ds r)
    (hdb : (nm == ("__debug__" : Str)) = false := by decide) (he : starEach (e :: es) X.env = (false, eval e X.env) :: starEach es X.env := by rfl) (hpl : (backTo pos (starEach es X.env)).any (·.1) = false := by rfl) : XF X B ρ H (.Call (.Name nm p2) (e :: es) [] pos) r :=
  xp_call C c hj hg ha.toA (fun H1 vs H2 _ a2 p Q q => ⟨ds, r, ars_dq p, hR, fun c xs H3 hc a3 h3 hx => q _ H3 a3 ⟨c, xs, rfl, a2.free hc, h3, hx⟩⟩) hdb he hpl

/-! ### what is walked: xs, the i-th as f says; it goes while the heap holds what Bh holds -/
structure Jok (K : PySem.W.Frag) (J : It) (Bh : Hp) {α : Type} (xs : List α) (f : α → PyData) : Prop where
  go : ∀ i H, Same Bh H → i < xs.length → J.go i H
  stop : ∀ H, Same Bh H → J.stop xs.length H
  yld : ∀ i v H H', Same Bh H → i < xs.length → J.yld i H v H' → Same H H' ∧ ∃ a, xs[i]? = some a ∧ Dq K Bh v (f a)
theorem Jok.mono {K : PySem.W.Frag} {J : It} {Bh Bh' : Hp} {α : Type} {xs : List α} {f : α → PyData} (h : Jok K J Bh xs f) (s : Same Bh Bh') : Jok K J Bh' xs f :=
  ⟨fun i H a => h.go i H (s.trans a), fun H a => h.stop H (s.trans a), fun i v H H' a hi y =>
    let ⟨c1, b, c2, c3⟩ := h.yld i v H H' (s.trans a) hi y
    ⟨c1, b, c2, dq_same s c3⟩⟩
/-- the heap that a walk leans on: that behind its start (none), or the base (some) -/
structure XI (X : Cx) (B : Hp) (ρ : List Sl) (H : Hp) (tg it : Expr) (Bf : Hp → Hp) {α : Type} (xs : List α) (f : α → PyData) : Prop where
  go : ∀ σ H1, Same H H1 → En X.K B H1 σ ρ → ∀ R : It → Hp → Prop, (∀ J H2, Same H1 H2 → Same (Bf H2) H2 → Jok X.K J (Bf H2) xs f → R J H2) → WI X tg it σ H1 R
instance {X : Cx} {B : Hp} {ρ : List Sl} {H : Hp} {tg it : Expr} {Bf : Hp → Hp} {α : Type} {xs : List α} {f : α → PyData} : CoeFun (XI X B ρ H tg it Bf xs f) fun _ => (∀ σ H1, Same H H1 → En X.K B H1 σ ρ → ∀ R : It → Hp → Prop, (∀ J H2, Same H1 H2 → Same (Bf H2) H2 → Jok X.K J (Bf H2) xs f → R J H2) → WI X tg it σ H1 R) := ⟨XI.go⟩
theorem jok_list {K : PySem.W.Frag} {H : Hp} {a : Addr} {vs : List V} {α : Type} {xs : List α} {f : α → PyData} (h : SqL K H a vs) (q : DqAll K H vs (xs.map f)) : Jok K (Itl K a) H xs f := by
  have hl : vs.length = xs.length := by rw [q.len, List.length_map]
  refine ⟨fun i H' s hi => ⟨vs, vs[i]'(by omega), s.seq h, by simp [hl, hi]⟩, fun H' s => ⟨vs, s.seq h, by omega⟩, fun i v H' H'' s hi y => ?_⟩
  obtain ⟨rfl, y⟩ := y
  have e := y vs (s.seq h)
  obtain ⟨d, hd, hv⟩ := q.get e
  rw [List.getElem?_map] at hd
  cases e2 : xs[i]? with
  | none => rw [e2] at hd; cases hd
  | some b =>
    rw [e2] at hd
    cases hd
    exact ⟨Same.refl _, b, rfl, hv⟩
theorem xi_list {tg it : Expr} {α : Type} {xs : List α} {f : α → PyData} (h : XD X B ρ H it (.list (xs.map f))) : XI X B ρ H tg it (fun H => H) xs f := XI.mk fun σ H1 a g R r =>
  wi (pi_list pe_w) (h σ H1 a g _ fun v H2 a2 p => by
    obtain ⟨b, vs, rfl, hb, hv⟩ := dq_lst p
    exact ⟨b, rfl, ⟨vs, hb⟩, r _ H2 a2 (Same.refl _) (jok_list hb hv)⟩)
/-- over a list that stood at the base, by its name -/
theorem xi_base {tg : Expr} {nm : Str} {n : Nat} {α : Type} {xs : List α} {f : α → PyData} (C : Wh X N sc k) (hN : N[n]? = some nm) (hv : Vis sc nm) (hr : ρ[n]? = some (.o (.list (xs.map f)))) (hd : (nm == ("__debug__" : Str)) = false := by decide) (hcd : (nm == ("__classdict__" : Str)) = false := by decide) :
    XI X B ρ H tg (.Name nm pos) (fun _ => B) xs f := XI.mk fun σ H1 a g R r =>
  wi (pi_list (pe_var (i := n) (by rw [C.n]; exact hN) (by rw [C.se]; exact hv) hd hcd)) (by
    obtain ⟨v, e1, h1⟩ := g.getO hr
    obtain ⟨b, vs, rfl, hb, hv⟩ := dq_lst h1
    exact ⟨_, e1, b, rfl, ⟨vs, g.same.seq hb⟩, r _ H1 (Same.refl _) g.same (jok_list hb hv)⟩)
theorem xi_tup {tg it : Expr} {α : Type} {xs : List α} {f : α → PyData} (h : XD X B ρ H it (.tuple (xs.map f))) : XI X B ρ H tg it (fun H => H) xs f := XI.mk fun σ H1 a g R r =>
  wi (pi_tup pe_w) (h σ H1 a g _ fun v H2 a2 p => by
    obtain ⟨b, vs, rfl, hb, q⟩ := dq_tup p
    have hl : vs.length = xs.length := by rw [q.len, List.length_map]
    refine ⟨b, rfl, ⟨vs, SqT.of hb⟩, r _ H2 a2 (Same.refl _) ⟨fun i H' s hi => ⟨vs, vs[i]'(by omega), SqT.of (s _ _ hb), by simp [hl, hi]⟩, fun H' s => ⟨vs, SqT.of (s _ _ hb), by omega⟩, fun i v H' H'' s hi y => ?_⟩⟩
    obtain ⟨rfl, y⟩ := y
    have e := y vs (SqT.of (s _ _ hb))
    obtain ⟨d, hd, hv⟩ := q.get e
    rw [List.getElem?_map] at hd
    cases e2 : xs[i]? with
    | none => rw [e2] at hd; cases hd
    | some b =>
      rw [e2] at hd
      cases hd
      exact ⟨Same.refl _, b, rfl, hv⟩)
/-- a text, sign by sign; any base -/
theorem xi_str {tg it : Expr} (h : XD X B ρ H it (.str (S x))) : XI X B ρ H tg it (fun _ => B) x (fun c => .str (S [c])) := XI.mk fun σ H1 a g R r =>
  wi (pi_str pe_w) (h σ H1 a g _ fun v H2 a2 p => by
    refine ⟨S x, dq_str p, r _ H2 a2 (g.same.trans a2) ⟨fun i H' _ hi => by show i < (S x).cps.size; simpa [S] using hi, fun H' _ => by show (S x).cps.size ≤ x.length; simp [S], fun i v H' H'' _ hi y => ?_⟩⟩
    obtain ⟨rfl, c, hc, rfl⟩ := y
    refine ⟨Same.refl _, c, by simpa [S] using hc, ?_⟩
    exact .str _)
/-- range(n) -/
theorem xi_range1 {tg : Expr} {n : Int} (C : Wh X N sc k) (b : Bi X sc "range") (h : XD X B ρ H e (.int n)) (h1 : -100000 ≤ n) (h2 : n ≤ 100000) (hs : starEach [e] X.env = [(false, eval e X.env)] := by rfl) :
    XI X B ρ H tg (.Call (.Name "range" p2) [e] [] pos) (fun _ => B) (List.range n.toNat) (fun i => .int (i : Int)) := XI.mk fun σ H1 a g R r =>
  wi (pi_range1 (b.g C) b.mg (pa_cons pe_w pa_nil hs) hs) (h σ H1 a g _ fun v H2 a2 p => by
    refine ⟨n, by rw [dq_int p], by omega, by omega, r _ H2 a2 (g.same.trans a2) ⟨fun i H' _ hi => by show i < n.toNat; rw [List.length_range] at hi; exact hi, fun H' _ => by show n.toNat ≤ (List.range n.toNat).length; simp, fun i v H' H'' _ hi y => ?_⟩⟩
    obtain ⟨rfl, rfl⟩ := y
    rw [List.length_range] at hi
    refine ⟨Same.refl _, i, by simp [hi], ?_⟩
    rw [Int.zero_add]
    exact .int _)
/-- range(m, n) -/
theorem xi_range2 {tg : Expr} {m n : Int} (C : Wh X N sc k) (b : Bi X sc "range") (h : XD X B ρ H e (.int m)) (h' : XD X B ρ H e' (.int n)) (h1 : -100000 ≤ m ∧ m ≤ 100000) (h2 : -100000 ≤ n ∧ n ≤ 100000)
    (hs : starEach [e, e'] X.env = [(false, eval e X.env), (false, eval e' X.env)] := by rfl) (hs3 : starEach [e, e'] X.env = (false, eval e X.env) :: starEach [e'] X.env := by rfl) (hs2 : starEach [e'] X.env = [(false, eval e' X.env)] := by rfl) :
    XI X B ρ H tg (.Call (.Name "range" p2) [e, e'] [] pos) (fun _ => B) (List.range (n - m).toNat) (fun i => .int (m + (i : Int))) := XI.mk fun σ H1 a g R r =>
  wi (pi_range2 (b.g C) b.mg (pa_cons pe_w (pa_cons pe_w pa_nil hs2) hs3) hs hs2) (h σ H1 a g _ fun v H2 a2 p => h' σ H2 (a.trans a2) (g.mono a2) _ fun u H3 a3 p3 => by
    refine ⟨m, n, by rw [dq_int p, dq_int p3], ⟨by omega, by omega, by omega, by omega⟩, r _ H3 (a2.trans a3) (g.same.trans (a2.trans a3)) ⟨fun i H' _ hi => by show i < (n - m).toNat; rw [List.length_range] at hi; exact hi, fun H' _ => by show (n - m).toNat ≤ (List.range (n - m).toNat).length; simp, fun i v H' H'' _ hi y => ?_⟩⟩
    obtain ⟨rfl, rfl⟩ := y
    rw [List.length_range] at hi
    exact ⟨Same.refl _, i, by simp [hi], .int _⟩)
/-- reversed(list) -/
theorem xi_rev {tg : Expr} {α : Type} {xs : List α} {f : α → PyData} (C : Wh X N sc k) (b : Bi X sc "reversed") (h : XD X B ρ H e (.list (xs.map f))) (hs : starEach [e] X.env = [(false, eval e X.env)] := by rfl) :
    XI X B ρ H tg (.Call (.Name "reversed" p2) [e] [] pos) (fun H => H) xs.reverse f := XI.mk fun σ H1 a g R r =>
  wi (pi_reversed (b.g C) b.mg (pa_cons pe_w pa_nil hs) hs) (h σ H1 a g _ fun v H2 a2 p => by
    obtain ⟨b, vs, rfl, hb, q⟩ := dq_lst p
    have hl : vs.length = xs.length := by rw [q.len, List.length_map]
    refine ⟨b, vs, rfl, hb, r _ H2 a2 (Same.refl _) ⟨fun i H' s hi => ?_, fun H' s => ?_, fun i v H' H'' s hi y => ?_⟩⟩
    · rw [List.length_reverse] at hi
      exact ⟨by omega, vs, vs[vs.length - 1 - i]'(by omega), s.seq hb, by simp [show vs.length - 1 - i < vs.length by omega]⟩
    · show vs.length ≤ xs.reverse.length
      rw [List.length_reverse]; omega
    · rw [List.length_reverse] at hi
      obtain ⟨rfl, y⟩ := y
      have e := y vs (s.seq hb)
      obtain ⟨d, hd, hv⟩ := q.get e
      rw [List.getElem?_map] at hd
      cases e2 : xs[vs.length - 1 - i]? with
      | none => rw [e2] at hd; cases hd
      | some b =>
        rw [e2] at hd
        cases hd
        refine ⟨Same.refl _, b, ?_, hv⟩
        rw [List.getElem?_reverse hi, ← hl]
        exact e2)

/-! ### list comprehensions of one clause, its target a name -/
abbrev Xb (X : Cx) (s : Shared) (H : Hp) (scope : Scope) (C : Addr) (cl : List (Str × Addr)) (fp : List Addr) : Cx := X.blk s H scope (compEnvC scope cl C X.env) fp
theorem Wh.blk (C : Wh X N sc k) (s : Shared) (H0 : Hp) (scope : Scope) (Ca : Addr) (cl : List (Str × Addr)) (fp : List Addr) : Wh (Xb X s H0 scope Ca cl fp) N (relS scope sc) k :=
  ⟨C.n, C.nd, by rw [← C.se]; rfl, C.cl, C.rm⟩
def XTs (X : Cx) (B : Hp) (ρ : List Sl) (H : Hp) (ifs : List Expr) (b : Bool) : Prop := ∃ t, PTs X ifs t ∧ ∀ σ H1, Same H H1 → En X.K B H1 σ ρ → ∀ Q : Bool → Hp → Prop, (∀ H2, Same H1 H2 → Q b H2) → t σ H1 Q
theorem xts_nil : XTs X B ρ H [] true := ⟨_, pts_nil, fun σ H1 a g Q q => q H1 (Same.refl _)⟩
theorem xts_one {b : Bool} (h : XT X B ρ H e b) : XTs X B ρ H [e] b := ⟨_, pts_one pt_w, fun σ H1 a g Q q => h σ H1 a g Q q⟩
/-- the reading that all tests have -/
structure WTs' (X : Cx) (ifs : List Expr) (σ : L2.St) (H : Hp) (Q : Bool → Hp → Prop) : Prop where
  go : ∀ (pins : List (Addr × Obj)) (s : Shared), Inv X pins σ H s → wpAny (model X.prog X.w) X.A (forIn ifs true fun c r => if r = true then do let ok ← isTrue c X.env (eval c X.env); pure (ForInStep.yield ok) else pure (ForInStep.yield r)) (TP X pins σ Q) X.xe s
def WTs (X : Cx) (ifs : List Expr) : TT := fun σ H Q => WTs' X ifs σ H Q
theorem pts_w {ifs : List Expr} : PTs X ifs (WTs X ifs) := ⟨fun pins s σ H Q I h => h.go pins s I⟩
theorem wts {ifs : List Expr} {t : TT} {σ : L2.St} {Q : Bool → Hp → Prop} (h : PTs X ifs t) (q : t σ H Q) : WTs X ifs σ H Q := ⟨fun pins s I => h.run pins s σ H Q I q⟩
theorem En.wipe {K : PySem.W.Frag} {B H : Hp} {σ : L2.St} {ρ : List Sl} (g : En K B H σ ρ) (i : Nat) : En K B H (σ.set i none) (ρ.set i .x) := by
  induction g generalizing i with
  | nil e => exact .nil e
  | @cons ov s' σ ρ q g ih =>
    cases i with
    | zero => exact .cons True.intro g
    | succ i => exact .cons q (ih i)
theorem blk_set {ρ : List Sl} (i : Nat) (s s' : Sl) : (ρ.set i s).set i s' = ρ.set i s' := List.set_set s
theorem wipe1 (σ : L2.St) (i : Nat) (v : Option V) : (σ.set i none).set i v = σ.set i v := List.set_set none
/-- the heap without D -/
def hid (D : Addr) (H : Hp) : Hp := fun b => if b = D then none else H b
theorem hid_ne {D b : Addr} {H : Hp} (h : b ≠ D) : hid D H b = H b := by unfold hid; rw [if_neg h]
theorem hid_self {D : Addr} {H : Hp} : hid D H D = none := by unfold hid; rw [if_pos rfl]
theorem hid_upd {D : Addr} {H : Hp} {o : HO} : hid D (upd H D o) = hid D H := by
  funext b
  unfold hid upd
  split <;> rfl
theorem hid_le {D : Addr} {H : Hp} : Same (hid D H) H := fun b o e => by
  by_cases h : b = D
  · rw [h, hid_self] at e; cases e
  · rw [hid_ne h] at e; exact e
theorem hid_mono {D : Addr} {H H' : Hp} (s : Same H H') : Same (hid D H) (hid D H') := fun b o e => by
  by_cases h : b = D
  · rw [h, hid_self] at e; cases e
  · rw [hid_ne h] at e ⊢; exact s _ _ e
theorem _root_.L2.Same.hid {D : Addr} {H H' : Hp} (s : Same H H') (h : H D = none) : Same H (hid D H') := fun b o e => by
  rw [hid_ne (ne_of_none e h)]
  exact s _ _ e
/-- D holds no list and no tuple: data is told without it -/
def NoSeq (H : Hp) (D : Addr) : Prop := (∀ xs, H D ≠ some (.tup xs)) ∧ (∀ xs, ¬ Rd H D (.lst xs)) ∧ ∀ xs, H D ≠ some (.dK xs)
theorem NoSeq.ext {H : Hp} {D : Addr} {φ : Heap → Prop} (e : H D = some (.ext φ)) : NoSeq H D := by
  refine ⟨?_, ?_, fun xs h => by rw [e] at h; cases h⟩
  · intro xs h
    rw [e] at h
    cases h
  · intro xs h
    rcases h with h | ⟨o, h⟩
    · rw [e] at h
      cases h
    · rw [e] at h
      cases h
mutual
theorem dq_hid {K : PySem.W.Frag} {H : Hp} {D : Addr} (n : NoSeq H D) : ∀ {v : V} {d : PyData}, Dq K H v d → Dq K (hid D H) v d
  | _, _, .non => .non
  | _, _, .bl b => .bl b
  | _, _, .int i => .int i
  | _, _, .str x => .str x
  | _, _, .lst s h => .lst (by
      rename_i a xs ds
      rcases s with s | s
      · have ne : a ≠ D := fun z => by subst z; exact n.2.1 _ s
        rcases s with s | ⟨o, s⟩
        · exact .inl (.inl (by rw [hid_ne ne]; exact s))
        · exact .inl (.inr ⟨o, by rw [hid_ne ne]; exact s⟩)
      · exact .inr s) (dqAll_hid n h)
  | _, _, .tup s h => .tup (by
      rename_i a xs ds
      have ne : a ≠ D := fun z => by subst z; exact n.1 _ s
      rw [hid_ne ne]
      exact s) (dqAll_hid n h)
  | _, _, .dct s => .dct (by
      rename_i a xs
      have ne : a ≠ D := fun z => by subst z; exact n.2.2 _ s
      rw [hid_ne ne]
      exact s)
theorem dqAll_hid {K : PySem.W.Frag} {H : Hp} {D : Addr} (n : NoSeq H D) : ∀ {v : List V} {d : List PyData}, DqAll K H v d → DqAll K (hid D H) v d
  | _, _, .nil => .nil
  | _, _, .cons h t => .cons (dq_hid n h) (dqAll_hid n t)
end
/-- an expression's run while the list at D is hidden -/
def tHideE (t : TE) : TE := fun σ H Q => ∃ D ys, H D = some (.lst ys) ∧ ∀ φ, t σ (upd H D (.ext φ)) fun v H' => H' D = some (.ext φ) ∧ Q v (upd H' D (.lst ys))
theorem pe_hide {t : TE} (h : PE X e t) : PE X e (tHideE t) := by
  refine ⟨fun pins s σ H Q I hw => ?_⟩
  obtain ⟨D, ys, hd, hw⟩ := hw
  obtain ⟨hz, its, n, hv, hg⟩ := I.hok D _ hd
  have mu : Mut (H D) := by rw [hd]; exact True.intro
  have I1 : Inv X pins σ (upd H D (.ext fun h' => h'.get? D = some { cls := .type "list", data := .seq its.toArray n })) s :=
    I.write (x := D) (e := D) (t' := s.toks) (h' := s.heap) mu (.inl rfl) (fun b v _ q => q) ⟨_, hg⟩ ⟨hg, ⟨_, hg⟩, fun h1 h2 q k => k _ q⟩
  refine thn (h.run pins s σ _ _ I1 (hw _)) fun v s1 ⟨x, H1, I2, r, e2, q⟩ => ?_
  obtain ⟨hg2, _⟩ := I2.hok D _ e2
  exact ⟨x, _, I2.write (x := D) (e := D) (o := .lst ys) (t' := s1.toks) (h' := s1.heap) (by rw [e2]; exact True.intro) (.inl rfl) (fun b v _ q => q) ⟨_, hg2⟩ ⟨hz, its, n, hv, hg2⟩, r, q⟩
theorem lc_read {nm : Str} {n : Nat} {elt iter : Expr} {ifs : List Expr} {scope : Scope} {Bf : Hp → Hp} {α : Type} {xs : List α} {f : α → PyData} (kp : α → Bool) (vl : α → PyData) (C : Wh X N sc k) (hi : XI X B ρ H (.Name nm p3) iter Bf xs f) (hz : xs.length ≤ 100000)
    (ok : blkC N sc scope [(nm, n)] = true) (hx : (relS scope sc).names.lookup nm = some .local) (hN : N[n]? = some nm)
    (ht : ∀ s H0 Ca cl fp H2, Same H H2 → ∀ a ∈ xs, XTs (Xb X s H0 scope Ca cl fp) H2 (ρ.set n (.o (f a))) H2 ifs (kp a))
    (he : ∀ s H0 Ca cl fp H2, Same H H2 → ∀ a ∈ xs, kp a = true → XD (Xb X s H0 scope Ca cl fp) H2 (ρ.set n (.o (f a))) H2 elt (vl a))
    {σ : L2.St} {H1 : Hp} (a : Same H H1) (g : En X.K B H1 σ ρ) {Q : VK} (q : ∀ v H2, Same H1 H2 → (∃ p zs, v = .ref p ∧ H1 p = none ∧ H2 p = some (.lst zs) ∧ DqAll X.K H2 zs ((xs.filter kp).map vl)) → Q v H2) :
    tLc (WI X (.Name nm p3) iter) (gName n) (fun σ H Q => ∀ s H0 Ca cl fp, WTs (Xb X s H0 scope Ca cl fp) ifs σ H Q) (tHideE fun σ H Q => ∀ s H0 Ca cl fp, WE (Xb X s H0 scope Ca cl fp) elt σ H Q) [n] σ H1 Q := by
  refine hi σ H1 a g _ fun J H2 a2 bs jk => ?_
  intro D hD
  have jk2 := jk.mono bs
  refine ⟨fun m n' H' => n' = xs.length - m ∧ m ≤ xs.length ∧ Same H2 H' ∧ ∃ ys, H' D = some (.lst ys) ∧ DqAll X.K (hid D H') ys (((xs.take m).filter kp).map vl), ⟨xs.length, by simp, Nat.zero_le _, Same.new hD, [], upd_same, .nil⟩, ?_⟩
  rintro m n' H' ⟨rfl, hm, s2, ys, hys, hq⟩
  by_cases hlt : m < xs.length
  · refine .inr ⟨jk2.go m H' s2 hlt, fun H3 => m + 1 ≤ xs.length ∧ Same H2 H3 ∧ ∃ ys, H3 D = some (.lst ys) ∧ DqAll X.K (hid D H3) ys (((xs.take (m + 1)).filter kp).map vl), fun H3 ⟨c1, c2, zs, c3, c4⟩ => ⟨xs.length - (m + 1), by omega, rfl, c1, c2, zs, c3, c4⟩, fun v H3 y => ?_⟩
    obtain ⟨s3, b, hb, hv⟩ := jk2.yld m v H' H3 s2 hlt y
    have hbm : b ∈ xs := List.mem_of_getElem? hb
    show wipe ((wipe σ [n]).set n (some v)) [n] = wipe σ [n] ∧ _
    have hw : wipe σ [n] = σ.set n none := rfl
    refine ⟨by show ((σ.set n none).set n (some v)).set n none = σ.set n none; rw [wipe1, List.set_set], ?_⟩
    have etk : xs.take (m + 1) = xs.take m ++ [b] := by
      rw [List.take_add_one, hb]
      rfl
    have g2 : En X.K H2 H2 ((wipe σ [n]).set n (some v)) (ρ.set n (.o (f b))) := by
      have g1 : En X.K H2 H2 σ ρ := (g.mono a2).now
      rw [hw, wipe1]
      exact g1.set n ⟨v, rfl, hv⟩
    have hh : Same H H2 := a.trans a2
    have eD : H3 D = some (.lst ys) := s3 _ _ hys
    have q3 : DqAll X.K (hid D H3) ys (((xs.take m).filter kp).map vl) := dqAll_same (hid_mono s3) hq
    have b3 : Same H2 H3 := s2.trans s3
    intro s H0 Ca cl fp
    obtain ⟨t, ht1, ht2⟩ := ht s H0 Ca cl fp H2 hh b hbm
    refine wts ht1 (ht2 _ H3 b3 (g2.mono b3) _ fun H4 a4 => ?_)
    have e4 : H4 D = some (.lst ys) := a4 _ _ eD
    have b4 : Same H2 H4 := b3.trans a4
    cases hk : kp b with
    | false =>
      refine iteF ?_
      refine ⟨hlt, b4, ys, e4, ?_⟩
      rw [etk, List.filter_append, List.filter_cons, if_neg (by rw [hk]; decide), List.filter_nil, List.append_nil]
      exact dqAll_same (hid_mono a4) q3
    | true =>
      refine iteT ?_
      refine ⟨D, ys, e4, fun φ => ?_⟩
      intro s H0 Ca cl fp
      have b5 : Same H2 (upd H4 D (.ext φ)) := b4.mut hD
      refine he s H0 Ca cl fp H2 hh b hbm hk _ (upd H4 D (.ext φ)) b5 (g2.mono b5) _ fun v5 H5 a5 p5 => ?_
      have e5 : H5 D = some (.ext φ) := a5 _ _ upd_same
      refine ⟨e5, ys, upd_same, ?_, hlt, (b5.trans a5).mut hD |>.mut hD, ys ++ [v5], upd_same, ?_⟩
      · have e1 := q3.len
        rw [List.length_map] at e1
        have := List.length_filter_le kp (xs.take m)
        rw [List.length_take] at this
        exact Nat.lt_of_le_of_lt (show ys.length ≤ 100000 by omega) (by decide)
      · rw [hid_upd, hid_upd, etk, List.filter_append, List.filter_cons, if_pos hk, List.filter_nil, List.map_append]
        have n5 : NoSeq H5 D := NoSeq.ext e5
        refine DqAll.snoc (dqAll_same ?_ q3) (dq_hid n5 p5)
        intro c o ec
        by_cases hc : c = D
        · rw [hc, hid_self] at ec; cases ec
        · rw [hid_ne hc] at ec ⊢
          exact a5 _ _ (by rw [upd_ne hc]; exact a4 _ _ ec)
  · have em : m = xs.length := by omega
    subst em
    rw [List.take_length] at hq
    exact .inl ⟨jk2.stop H' s2, q _ H' (a2.trans s2) ⟨D, ys, rfl, a2.free hD, hys, dqAll_same hid_le hq⟩⟩

section
variable {nm : Str} {n : Nat} {elt iter : Expr} {ifs : List Expr} {scope : Scope}
theorem lc_g (C : Wh X N sc k) (hx : (relS scope sc).names.lookup nm = some .local) (hN : N[n]? = some nm) (s : Shared) (H0 : Hp) (Ca : Addr) (cl : List (Str × Addr)) (fp : List Addr) : PG (Xb X s H0 scope Ca cl fp) (.Name nm p3) (gName n) :=
  pg_name (X := Xb X s H0 scope Ca cl fp) (by show X.N.Nodup; rw [C.n]; exact C.nd) (by show X.N[n]? = some nm; rw [C.n]; exact hN) (.inl (by rw [(C.blk s H0 scope Ca cl fp).se]; exact hx)) (.inr (by rw [(C.blk s H0 scope Ca cl fp).se]; exact hx))
end
theorem xf_lc {nm : Str} {n : Nat} {elt iter : Expr} {ifs : List Expr} {scope : Scope} {Bf : Hp → Hp} {α : Type} {xs : List α} {f : α → PyData} (kp : α → Bool) (vl : α → PyData) (C : Wh X N sc k) (hi : XI X B ρ H (.Name nm p3) iter Bf xs f) (hz : xs.length ≤ 100000)
    (ok : blkC N sc scope [(nm, n)] = true) (hx : (relS scope sc).names.lookup nm = some .local) (hN : N[n]? = some nm)
    (ht : ∀ s H0 Ca cl fp H2, Same H H2 → ∀ a ∈ xs, XTs (Xb X s H0 scope Ca cl fp) H2 (ρ.set n (.o (f a))) H2 ifs (kp a))
    (he : ∀ s H0 Ca cl fp H2, Same H H2 → ∀ a ∈ xs, kp a = true → XD (Xb X s H0 scope Ca cl fp) H2 (ρ.set n (.o (f a))) H2 elt (vl a))
    (hs : ∀ y, foldedSetIterable iter X.env y = pure y := by intro _; rfl) : XF X B ρ H (.ListComp elt [⟨.Name nm p3, iter, ifs, 0⟩] scope pos) ((xs.filter kp).map vl)  :=
  xp_of (pe_lc (own := [(nm, n)]) (g := gName n) (tt := fun σ H Q => ∀ s H0 Ca cl fp, WTs (Xb X s H0 scope Ca cl fp) ifs σ H Q) (te := tHideE fun σ H Q => ∀ s H0 Ca cl fp, WE (Xb X s H0 scope Ca cl fp) elt σ H Q) C.cl (by rw [C.n]; exact C.nd) pi_w (by rw [C.n, C.se]; exact blkOk_by ok)
    (lc_g C hx hN) (fun s H0 Ca cl fp => ⟨fun pins s' σ' H' Q I h => (h s H0 Ca cl fp).go pins s' I⟩) (fun s H0 Ca cl fp => pe_hide ⟨fun pins s' σ' H' Q I h => (h s H0 Ca cl fp).go pins s' I⟩) hs) fun σ H1 a g Q q =>
    lc_read kp vl C hi hz ok hx hN ht he a g q
end
end Pr

/-! ## Fw4.lean -/
set_option Elab.async false
set_option linter.all false
set_option maxRecDepth 100000
set_option maxHeartbeats 4000000
namespace Pr
open PySem PySem.Spec PyProof.Rows L2

section
variable {X : Cx} {N : List Str} {sc : Scope} {k : Nat} {B : Hp} {ρ : List Sl} {H H' : Hp} {e e' : Expr} {es : List Expr} {d : PyData} {w : V} {ds : List PyData} {pos p2 p3 : Pos} {D : Ends} {rest body : List Stmt} {σ : L2.St}

theorem w1_le {st : Stmt} {D' : Ends} (h : W1 X st D σ H) (l : Ends.le D D') : W1 X st D' σ H := ⟨fun pins s I => thn (h.go pins s I) fun _ _ q => sp_le l q⟩
theorem ws_cut {st : Stmt} (M : L2.St → Hp → Prop) (h : W1 X st { D with nx := M } σ H) (q : ∀ σ' H', M σ' H' → WS X rest D σ' H') : WS X (st :: rest) D σ H :=
  ws_cons (w1_le h ⟨fun σ H z => q σ H z, fun _ _ z => z, fun _ _ z => z, fun _ _ z => z⟩)

/-! ### name = e -/
theorem ws_set {x : Str} {i : Nat} {P : Hp → V → Hp → Prop} (C : Wh X N sc k) (W : Wd X) (hN : N[i]? = some x) (hl : L2.Loc sc x) (h : XP X B ρ H e P) (g : En X.K B H σ ρ)
    (q : ∀ v H', Same H H' → P H v H' → WS X rest D (σ.set i (some v)) H') (hs : swapsWith e (some (.Name x p2)) pos.line X.env = pure false := by rfl) : WS X (.Assign [.Name x p2] e pos :: rest) D σ H :=
  ws_cons (w1 (ps_set (by rw [C.n]; exact C.nd) (by rw [C.n]; exact hN) (by rw [C.se]; exact hl) pe_w hs (.inl (W.fn x))) (h σ H (Same.refl _) g _ fun v H2 a p => q v H2 a p))
/-- data of tuples alone -/
theorem ws_d {x : Str} {i : Nat} (C : Wh X N sc k) (W : Wd X) (hN : N[i]? = some x) (hl : L2.Loc sc x) (h : XD X B ρ H e d) (hi : imm d = true) (g : En X.K B H σ ρ)
    (q : ∀ σ' H', Same H H' → En X.K B H' σ' (ρ.set i (.d d)) → WS X rest D σ' H') (hs : swapsWith e (some (.Name x p2)) pos.line X.env = pure false := by rfl) : WS X (.Assign [.Name x p2] e pos :: rest) D σ H :=
  ws_set C W hN hl h g (fun v H' a p => q _ H' a ((g.mono a).set i ⟨v, rfl, p, hi⟩)) hs
/-- any data; the base moves on -/
theorem ws_o {x : Str} {i : Nat} (C : Wh X N sc k) (W : Wd X) (hN : N[i]? = some x) (hl : L2.Loc sc x) (h : XD X B ρ H e d) (g : En X.K B H σ ρ)
    (q : ∀ σ' H', Same H H' → En X.K H' H' σ' (ρ.set i (.o d)) → WS X rest D σ' H') (hs : swapsWith e (some (.Name x p2)) pos.line X.env = pure false := by rfl) : WS X (.Assign [.Name x p2] e pos :: rest) D σ H :=
  ws_set C W hN hl h g (fun v H' a p => q _ H' a ((g.mono a).now.set i ⟨v, rfl, p⟩)) hs
/-- a new list, to be changed later -/
theorem ws_f {x : Str} {i : Nat} (C : Wh X N sc k) (W : Wd X) (hN : N[i]? = some x) (hl : L2.Loc sc x) (h : XF X B ρ H e ds) (g : En X.K B H σ ρ)
    (q : ∀ p xs σ' H', H p = none → Same H H' → H' p = some (.lst xs) → DqAll X.K H' xs ds → En X.K B H' σ' (ρ.set i (.v (.ref p))) → WS X rest D σ' H') (hs : swapsWith e (some (.Name x p2)) pos.line X.env = pure false := by rfl) : WS X (.Assign [.Name x p2] e pos :: rest) D σ H :=
  ws_set C W hN hl h g (fun v H' a ⟨p, xs, e1, hp, hx, hq⟩ => by subst e1; exact q p xs _ H' hp a hx hq ((g.mono a).set i rfl)) hs
/-- just this value -/
theorem ws_v {x : Str} {i : Nat} (C : Wh X N sc k) (W : Wd X) (hN : N[i]? = some x) (hl : L2.Loc sc x) (h : XV X B ρ H e w) (g : En X.K B H σ ρ)
    (q : ∀ σ' H', Same H H' → En X.K B H' σ' (ρ.set i (.v w)) → WS X rest D σ' H') (hs : swapsWith e (some (.Name x p2)) pos.line X.env = pure false := by rfl) : WS X (.Assign [.Name x p2] e pos :: rest) D σ H :=
  ws_set C W hN hl h g (fun v H' a p => by subst p; exact q _ H' a ((g.mono a).set i rfl)) hs
/-- name = [elt for ..], on one line, the name a local -/
theorem ws_lc {y : Str} {i : Nat} {nm : Str} {n : Nat} {elt iter : Expr} {ifs : List Expr} {scope : Scope} {p4 p5 : Pos} {Bf : Hp → Hp} {α : Type} {xs : List α} {f : α → PyData} (kp : α → Bool) (vl : α → PyData) (C : Wh X N sc k) (W : Wd X) (hy : N[i]? = some y) (hyl : sc.names.lookup y = some .local)
    (hi : XI X B ρ H (.Name nm p3) iter Bf xs f) (hz : xs.length ≤ 100000)
    (ok : blkC N sc scope [(nm, n)] = true) (hx : (relS scope sc).names.lookup nm = some .local) (hN : N[n]? = some nm) (g : En X.K B H σ ρ)
    (ht : ∀ s H0 Ca cl fp H2, Same H H2 → ∀ a ∈ xs, XTs (Xb X s H0 scope Ca cl fp) H2 (ρ.set n (.o (f a))) H2 ifs (kp a))
    (he : ∀ s H0 Ca cl fp H2, Same H H2 → ∀ a ∈ xs, kp a = true → XD (Xb X s H0 scope Ca cl fp) H2 (ρ.set n (.o (f a))) H2 elt (vl a))
    (q : ∀ p zs σ' H', H p = none → Same H H' → H' p = some (.lst zs) → DqAll X.K H' zs ((xs.filter kp).map vl) → En X.K B H' σ' (ρ.set i (.v (.ref p))) → WS X rest D σ' H')
    (hline : (p4.line == p5.line) = true := by rfl) (hne : (scope.names.any fun (n, k) => n == y && (k == .local || k == .cell)) = false := by decide +kernel) (hk : sc.kind = .function := by rfl)
    (hs : ∀ y, foldedSetIterable iter X.env y = pure y := by intro _; rfl) (hsw : (pos.line == p5.line) = true := by rfl) : WS X (.Assign [.Name y p4] (.ListComp elt [⟨.Name nm p3, iter, ifs, 0⟩] scope p5) pos :: rest) D σ H :=
  ws_cons (w1 (ps_setLc (i := i) (own := [(nm, n)]) (g := gName n) (tt := fun σ H Q => ∀ s H0 Ca cl fp, WTs (Xb X s H0 scope Ca cl fp) ifs σ H Q) (te := tHideE fun σ H Q => ∀ s H0 Ca cl fp, WE (Xb X s H0 scope Ca cl fp) elt σ H Q) C.cl (by rw [C.n]; exact C.nd) (by rw [C.n]; exact hy) (by rw [C.se]; exact hyl)
    (sw_true (by rw [C.se]; exact hk) (by rw [C.se]; exact hyl) hline hne) pi_w (by rw [C.n, C.se]; exact blkOk_by ok)
    (lc_g C hx hN) (fun s H0 Ca cl fp => ⟨fun pins s' σ' H' Q I h => (h s H0 Ca cl fp).go pins s' I⟩) (fun s H0 Ca cl fp => pe_hide ⟨fun pins s' σ' H' Q I h => (h s H0 Ca cl fp).go pins s' I⟩) hs)
    (lc_read kp vl C hi hz ok hx hN ht he (Same.refl _) g fun v H2 a ⟨p, zs, e1, h1, h2, h3⟩ => by subst e1; exact q p zs _ H2 h1 a h2 h3 ((g.mono a).set i rfl)))

/-! ### return, an expression, if -/
theorem ws_ret {P : Hp → V → Hp → Prop} (h : XP X B ρ H e P) (g : En X.K B H σ ρ) (q : ∀ v H', Same H H' → P H v H' → D.rt v H') : WS X (.Return (some e) pos :: rest) D σ H :=
  ws_cons (w1 (ps_ret pe_w) (h σ H (Same.refl _) g _ fun v H2 a p => q v H2 a p))
theorem ws_retN (q : D.rt .non H) : WS X (.Return none pos :: rest) D σ H := ws_cons (w1 ps_retN q)
theorem ws_expr {P : Hp → V → Hp → Prop} (h : XP X B ρ H e P) (g : En X.K B H σ ρ) (q : ∀ v H', Same H H' → P H v H' → WS X rest D σ H') (hs : swapsWith e none pos.line X.env = pure false := by rfl) : WS X (.Expr e pos :: rest) D σ H :=
  ws_cons (w1 (ps_expr pe_w hs) (h σ H (Same.refl _) g _ fun v H2 a p => q v H2 a p))
theorem ws_if {c : Expr} {a b : List Stmt} {v : Bool} (h : XT X B ρ H c v) (g : En X.K B H σ ρ) (q1 : v = true → ∀ H', Same H H' → En X.K B H' σ ρ → WS X a { D with nx := WS X rest D } σ H') (q2 : v = false → ∀ H', Same H H' → En X.K B H' σ ρ → WS X b { D with nx := WS X rest D } σ H') :
    WS X (.If c a b pos :: rest) D σ H :=
  ws_cons (w1 (ps_if pt_w pss_w pss_w) (h σ H (Same.refl _) g _ fun H2 a2 => by
    cases v with
    | true => exact q1 rfl H2 a2 (g.mono a2)
    | false => exact q2 rfl H2 a2 (g.mono a2)))
/-- if without else -/
theorem ws_when {c : Expr} {a : List Stmt} {v : Bool} (h : XT X B ρ H c v) (g : En X.K B H σ ρ) (q1 : v = true → ∀ H', Same H H' → En X.K B H' σ ρ → WS X a { D with nx := WS X rest D } σ H') (q2 : v = false → ∀ H', Same H H' → En X.K B H' σ ρ → WS X rest D σ H') :
    WS X (.If c a [] pos :: rest) D σ H :=
  ws_if h g q1 fun e H' a2 g' => ws_nil (q2 e H' a2 g')

/-! ### list methods as statements -/
/-- xs.append(e) -/
theorem ws_app {p : Addr} {xs : List V} {o : Expr} {apos : Pos} {P : Hp → V → Hp → Prop} (ho : XV X B ρ H o (.ref p)) (h : XP X B ρ H e P) (g : En X.K B H σ ρ) (hp : H p = some (.lst xs)) (hz : xs.length ≤ 1000000)
    (q : ∀ v H1 H', Same H H1 → Same H1 H' → P H1 v H' → WS X rest D σ (upd H' p (.lst (xs ++ [v]))))
    (hs : swapsWith (.Call (.Attribute o "append" apos) [e] [] p2) none pos.line X.env = pure false := by rfl) (hbase : attributeBase o "append" X.env (eval o X.env) = eval o X.env := by rfl)
    (hfew : ((backTo p2 (starEach [e] X.env)).all (fun x => !x.1) && (backToKw p2 (keywordEach [] X.env)).all (fun x => x.1.isSome)
      && decide ([e].length + ([] : List Keyword).length + (if ([] : List Keyword).isEmpty then 0 else 1) < 30)) = true := by rfl)
    (hline : (apos.endLine == p2.line) = true := by rfl) (hst : starEach [e] X.env = (false, eval e X.env) :: starEach [] X.env := by rfl) : WS X (.Expr (.Call (.Attribute o "append" apos) [e] [] p2) pos :: rest) D σ H :=
  ws_cons (w1 (ps_expr (pe_bm PySem.F.plainAttrs_list PySem.F.slot_list_append PySem.F.type_list_append mt_append pe_w (pa_cons pe_w pa_nil hst) hbase hfew hline hst rfl) hs)
    (ho σ H (Same.refl _) g _ fun v H2 a2 ev => by
      subst ev
      refine ⟨.inl ⟨rfl, xs, SqL.of (a2 _ _ hp)⟩, ?_⟩
      refine h σ H2 a2 (g.mono a2) _ fun v H3 a3 pv => ?_
      exact ⟨p, xs, v, rfl, rfl, a3 _ _ (a2 _ _ hp), Nat.lt_of_le_of_lt hz (by decide), q v H2 H3 a2 a3 pv⟩))
/-- a list of immutables, as data -/
def HL (K : PySem.W.Frag) (H : Hp) (p : Addr) (ds : List PyData) : Prop := ∃ xs, H p = some (.lst xs) ∧ DqAll K H xs ds ∧ immAll ds = true
theorem HL.mono {K : PySem.W.Frag} {p : Addr} (h : HL K H p ds) (s : Same H H') : HL K H' p ds := let ⟨xs, a, b, c⟩ := h; ⟨xs, s _ _ a, dqAll_same s b, c⟩
theorem immAll_app : ∀ {ds es : List PyData}, immAll (ds ++ es) = (immAll ds && immAll es)
  | [], es => by simp [immAll]
  | d :: ds, es => by simp [immAll, immAll_app (ds := ds), Bool.and_assoc]
theorem HL.snoc {K : PySem.W.Frag} {p : Addr} {xs : List V} {v : V} (hp : H p = some (.lst xs)) (hx : DqAll K H xs ds) (hi : immAll ds = true) (hv : Dq K H v d) (hd : imm d = true) : HL K (upd H p (.lst (xs ++ [v]))) p (ds ++ [d]) := by
  refine ⟨xs ++ [v], upd_same, ?_, by rw [immAll_app, hi]; simp [immAll, hd]⟩
  have l : Lt H (upd H p (.lst (xs ++ [v]))) := Lt.upd (Wr.lst hp)
  exact (dqAll_lt l hx hi).snoc (dq_lt l hv hd)
/-- xs.append(e), xs a list of immutables that the base does not know -/
theorem ws_appD {p : Addr} {o : Expr} {apos : Pos} (ho : XV X B ρ H o (.ref p)) (h : XD X B ρ H e d) (hd : imm d = true) (g : En X.K B H σ ρ) (hb : B p = none) (hp : HL X.K H p ds) (hz : ds.length ≤ 1000000)
    (q : ∀ H1 H', Same H H1 → H' = (fun a => if a = p then H' p else H1 a) → En X.K B H' σ ρ → HL X.K H' p (ds ++ [d]) → WS X rest D σ H')
    (hs : swapsWith (.Call (.Attribute o "append" apos) [e] [] p2) none pos.line X.env = pure false := by rfl) (hbase : attributeBase o "append" X.env (eval o X.env) = eval o X.env := by rfl)
    (hfew : ((backTo p2 (starEach [e] X.env)).all (fun x => !x.1) && (backToKw p2 (keywordEach [] X.env)).all (fun x => x.1.isSome)
      && decide ([e].length + ([] : List Keyword).length + (if ([] : List Keyword).isEmpty then 0 else 1) < 30)) = true := by rfl)
    (hline : (apos.endLine == p2.line) = true := by rfl) (hst : starEach [e] X.env = (false, eval e X.env) :: starEach [] X.env := by rfl) : WS X (.Expr (.Call (.Attribute o "append" apos) [e] [] p2) pos :: rest) D σ H := by
  obtain ⟨xs, hp, hx, hi⟩ := hp
  refine ws_app ho h g hp (by rw [hx.len]; exact hz) (fun v H1 H2 a1 a2 pv => ?_) hs hbase hfew hline hst
  have a := a1.trans a2
  have hp2 := a _ _ hp
  refine q H2 _ a (by funext b; unfold upd; by_cases hb : b = p <;> simp [hb]) ((g.mono a).write hb (Wr.lst hp2)) (HL.snoc hp2 (dqAll_same a hx) hi pv hd)

/-! ### loops -/
theorem ws_for {nm : Str} {j : Nat} {it : Expr} {Bf : Hp → Hp} {α : Type} {xs : List α} {f : α → PyData} (C : Wh X N sc k) (W : Wd X) (hN : N[j]? = some nm) (hl : L2.Loc sc nm) (h : XI X B ρ H (.Name nm p2) it Bf xs f) (g : En X.K B H σ ρ)
    (Iv : Hp → Nat → L2.St → Hp → Prop) (h0 : ∀ H2, Same H H2 → Same (Bf H2) H2 → Iv H2 0 σ H2) (hb : ∀ H2 m σ' H', m ≤ xs.length → Iv H2 m σ' H' → Same (Bf H2) H')
    (turn : ∀ H2 m a v (σ' : L2.St) H' H'', Same H H2 → xs[m]? = some a → Iv H2 m σ' H' → Same H' H'' → Dq X.K (Bf H2) v (f a) → WS X body { D with nx := Iv H2 (m + 1), ct := Iv H2 (m + 1), bk := WS X rest D } (σ'.set j (some v)) H'')
    (after : ∀ H2 σ' H', Same H H2 → Iv H2 xs.length σ' H' → WS X rest D σ' H') (hs : ∀ y, foldedSetIterable it X.env y = pure y := by intro _; rfl) : WS X (.For (.Name nm p2) it body [] pos :: rest) D σ H := by
  refine ws_cons (w1 (ps_for W.po C.cl pi_w (pg_name (i := j) (by rw [C.n]; exact C.nd) (by rw [C.n]; exact hN) (by rw [C.se]; exact hl) (.inl (W.fn nm))) pss_w (hs := hs)) ?_)
  refine h σ H (Same.refl _) g _ fun J H2 a2 bs jk => ?_
  refine ⟨fun m n' σ' H' => n' = xs.length - m ∧ m ≤ xs.length ∧ Iv H2 m σ' H', ⟨xs.length, by simp, Nat.zero_le _, h0 H2 a2 bs⟩, ?_⟩
  rintro m n' σ' H' ⟨rfl, hm, iv⟩
  have sb := hb H2 m σ' H' hm iv
  by_cases hlt : m < xs.length
  · refine .inr ⟨jk.go m H' sb hlt, Iv H2 (m + 1), fun σ3 H3 z => ⟨xs.length - (m + 1), by omega, rfl, hlt, z⟩, fun v H3 y => ?_⟩
    obtain ⟨s3, b, hb, hv⟩ := jk.yld m v H' H3 sb hlt y
    exact turn H2 m b v σ' H' H3 a2 hb iv s3 hv
  · have em : m = xs.length := by omega
    subst em
    exact .inl ⟨jk.stop H' sb, after H2 σ' H' a2 iv⟩
/-- forgetting, slot by slot -/
def Wk : List Sl → List Sl → Prop
  | [], [] => True
  | s :: ρ, s' :: ρ' => (s' = s ∨ s' = .x) ∧ Wk ρ ρ'
  | _, _ => False
theorem En.wk {K : PySem.W.Frag} (g : En K B H σ ρ) : ∀ {ρ' : List Sl}, Wk ρ ρ' → En K B H σ ρ' := by
  induction g with
  | nil e =>
    intro ρ' h
    cases ρ' with
    | nil => exact .nil e
    | cons _ _ => exact h.elim
  | @cons ov s σ ρ q g ih =>
    intro ρ' h
    cases ρ' with
    | nil => exact h.elim
    | cons s' ρ' =>
      obtain ⟨h1, h2⟩ := h
      refine .cons ?_ (ih h2)
      rcases h1 with h1 | h1
      · rw [h1]; exact q
      · rw [h1]; exact True.intro
/-- by the slots' word and a word of the heap -/
theorem ws_forE {nm : Str} {j : Nat} {it : Expr} {Bf : Hp → Hp} {α : Type} {xs : List α} {f : α → PyData} (C : Wh X N sc k) (W : Wd X) (hN : N[j]? = some nm) (hl : L2.Loc sc nm) (h : XI X B ρ H (.Name nm p2) it Bf xs f) (g : En X.K B H σ ρ)
    (Bx : Hp → Hp) (R : Nat → List Sl) (Ex : Hp → Nat → Hp → Prop) (hx : ∀ H2, Same H H2 → Same (Bf H2) H2 → Same (Bf H2) (Bx H2) ∧ En X.K (Bx H2) H2 σ (R 0) ∧ Ex H2 0 H2)
    (turn : ∀ H2 m a v (σ' : L2.St) H' H'', Same H H2 → xs[m]? = some a → En X.K (Bx H2) H' σ' (R m) → Ex H2 m H' → Same H' H'' → Dq X.K (Bx H2) v (f a) → En X.K (Bx H2) H'' (σ'.set j (some v)) ((R m).set j (.o (f a))) →
      WS X body { D with nx := fun σ H => En X.K (Bx H2) H σ (R (m + 1)) ∧ Ex H2 (m + 1) H, ct := fun σ H => En X.K (Bx H2) H σ (R (m + 1)) ∧ Ex H2 (m + 1) H, bk := WS X rest D } (σ'.set j (some v)) H'')
    (after : ∀ H2 σ' H', Same H H2 → En X.K (Bx H2) H' σ' (R xs.length) → Ex H2 xs.length H' → WS X rest D σ' H') (hs : ∀ y, foldedSetIterable it X.env y = pure y := by intro _; rfl) : WS X (.For (.Name nm p2) it body [] pos :: rest) D σ H :=
  ws_for C W hN hl h g (fun H2 m σ' H' => Same H H2 ∧ Same (Bf H2) (Bx H2) ∧ En X.K (Bx H2) H' σ' (R m) ∧ Ex H2 m H') (fun H2 a b => ⟨a, hx H2 a b⟩) (fun H2 m σ' H' _ z => z.2.1.trans z.2.2.1.same)
    (fun H2 m a v σ' H' H'' s0 ha ⟨z0, z1, z2, z3⟩ s hv => ws_le (turn H2 m a v σ' H' H'' s0 ha z2 z3 s (dq_same z1 hv) ((z2.mono s).set j ⟨v, rfl, dq_same z1 hv⟩)) ⟨fun _ _ z => ⟨z0, z1, z.1, z.2⟩, fun _ _ z => z, fun _ _ z => z, fun _ _ z => ⟨z0, z1, z.1, z.2⟩⟩)
    (fun H2 σ' H' s0 ⟨_, _, z2, z3⟩ => after H2 σ' H' s0 z2 z3) hs
/-- while, by a word that falls -/
theorem ws_while {c : Expr} (W : Wd X) (Iv : Nat → L2.St → Hp → Prop) (m0 : Nat) (h0 : Iv m0 σ H)
    (turn : ∀ m σ' H', Iv m σ' H' → WT X c σ' H' fun b H1 => if b = true then WS X body { D with nx := fun σ2 H2 => ∃ m', m' < m ∧ Iv m' σ2 H2, ct := fun σ2 H2 => ∃ m', m' < m ∧ Iv m' σ2 H2, bk := WS X rest D } σ' H1 else WS X rest D σ' H1) :
    WS X (.While c body [] pos :: rest) D σ H :=
  ws_cons (w1 (ps_while W.po pt_w pss_w) ⟨Iv, ⟨m0, h0⟩, fun m σ' H' iv => wt (pt_w) ⟨fun pins s I => thn ((turn m σ' H' iv).go pins s I) fun b s' ⟨H1, I1, q⟩ => ⟨H1, I1, by
    cases b with
    | true => exact ⟨_, fun _ _ z => z, q⟩
    | false => exact q⟩⟩⟩)

/-! ### targets of two names -/
/-- a, b = e -/
theorem ws_two {x y : Str} {i j n : Nat} {d1 d2 : PyData} {p4 : Pos} (C : Wh X N sc k) (W : Wd X) (hi : N[i]? = some x) (hj : N[j]? = some y) (hx : L2.Loc sc x) (hy : L2.Loc sc y) (h : XD X B ρ H e (.tuple [d1, d2])) (g : En X.K B H σ ρ)
    (q : ∀ v1 v2 H', Same H H' → Dq X.K H' v1 d1 → Dq X.K H' v2 d2 → WS X rest D ((σ.set i (some v1)).set j (some v2)) H')
    (hs : swapsWithSole [.Tuple [.Name x p2, .Name y p3] n p4] e pos.line X.env = pure false := by rfl) (hw : swappedStores [.Tuple [.Name x p2, .Name y p3] n p4] e X.env = pure none := by rfl) : WS X (.Assign [.Tuple [.Name x p2, .Name y p3] n p4] e pos :: rest) D σ H :=
  ws_cons (w1 (ps_asg pe_w (pg_tup C.cl (pgs_cons (pg_name (i := i) (by rw [C.n]; exact C.nd) (by rw [C.n]; exact hi) (by rw [C.se]; exact hx) (.inl (W.fn x))) (pgs_cons (pg_name (i := j) (by rw [C.n]; exact C.nd) (by rw [C.n]; exact hj) (by rw [C.se]; exact hy) (.inl (W.fn y))) pgs_nil))) hs hw)
    (h σ H (Same.refl _) g _ fun v H2 a p => by
      obtain ⟨b, xs, rfl, hb, hx⟩ := dq_tup p
      obtain ⟨v1, v2, rfl, h1, h2⟩ := xl_two hx
      exact ⟨b, _, rfl, SqT.of hb, rfl, v1, _, rfl, v2, _, rfl, rfl, q v1 v2 H2 a h1 h2⟩))
/-- what is walked in pairs -/
structure Jok2 (K : PySem.W.Frag) (J : It) (Bh : Hp) {α : Type} (xs : List α) (f1 f2 : α → PyData) : Prop where
  go : ∀ i H, Same Bh H → i < xs.length → J.go i H
  stop : ∀ H, Same Bh H → J.stop xs.length H
  yld : ∀ i v H H', Same Bh H → i < xs.length → J.yld i H v H' → Same H H' ∧ ∃ a T v1 v2, xs[i]? = some a ∧ v = .ref T ∧ H' T = some (.tup [v1, v2]) ∧ Dq K Bh v1 (f1 a) ∧ Dq K Bh v2 (f2 a)
structure XI2 (X : Cx) (B : Hp) (ρ : List Sl) (H : Hp) (tg it : Expr) (Bf : Hp → Hp) {α : Type} (xs : List α) (f1 f2 : α → PyData) : Prop where
  go : ∀ σ H1, Same H H1 → En X.K B H1 σ ρ → ∀ R : It → Hp → Prop, (∀ J H2, Same H1 H2 → Same (Bf H2) H2 → Jok2 X.K J (Bf H2) xs f1 f2 → R J H2) → WI X tg it σ H1 R
instance {X : Cx} {B : Hp} {ρ : List Sl} {H : Hp} {tg it : Expr} {Bf : Hp → Hp} {α : Type} {xs : List α} {f1 f2 : α → PyData} : CoeFun (XI2 X B ρ H tg it Bf xs f1 f2) fun _ => (∀ σ H1, Same H H1 → En X.K B H1 σ ρ → ∀ R : It → Hp → Prop, (∀ J H2, Same H1 H2 → Same (Bf H2) H2 → Jok2 X.K J (Bf H2) xs f1 f2 → R J H2) → WI X tg it σ H1 R) := ⟨XI2.go⟩
/-- a list of pairs -/
theorem xi2_of {tg it : Expr} {Bf : Hp → Hp} {α : Type} {xs : List α} {f1 f2 : α → PyData} (h : XI X B ρ H tg it Bf xs fun a => .tuple [f1 a, f2 a]) : XI2 X B ρ H tg it Bf xs f1 f2 := XI2.mk fun σ H1 a g R r =>
  h σ H1 a g R fun J H2 a2 bs jk => r J H2 a2 bs ⟨jk.go, jk.stop, fun i v H H' s hi y => by
    obtain ⟨s1, b, hb, hv⟩ := jk.yld i v H H' s hi y
    obtain ⟨T, xs, rfl, hT, hx⟩ := dq_tup hv
    obtain ⟨v1, v2, rfl, h1, h2⟩ := xl_two hx
    exact ⟨s1, b, T, v1, v2, hb, rfl, s1 _ _ (s _ _ hT), h1, h2⟩⟩
theorem jok2_enum {K : PySem.W.Frag} {Bh : Hp} {b : Addr} {vs : List V} {α : Type} {xs : List α} {f : α → PyData} (hb : SqL K Bh b vs) (q : DqAll K Bh vs (xs.map f)) : Jok2 K (Ite K b) Bh xs.zipIdx (fun a => .int (a.2 : Int)) (fun a => f a.1) := by
  have hl : vs.length = xs.length := by rw [q.len, List.length_map]
  refine ⟨fun i H' s hi => ?_, fun H' s => ?_, fun i v H' H'' s hi y => ?_⟩
  · rw [List.length_zipIdx] at hi
    exact ⟨vs, vs[i]'(by omega), s.seq hb, by simp [hl, hi]⟩
  · rw [List.length_zipIdx]
    exact ⟨vs, s.seq hb, by omega⟩
  · rw [List.length_zipIdx] at hi
    obtain ⟨T, x, rfl, hT, rfl, y⟩ := y
    have e := y vs (s.seq hb)
    obtain ⟨d, hd, hv⟩ := q.get e
    rw [List.getElem?_map] at hd
    cases e2 : xs[i]? with
    | none => rw [e2] at hd; cases hd
    | some c =>
      rw [e2] at hd
      cases hd
      refine ⟨Same.new hT, (c, i), T, .int i, x, ?_, rfl, upd_same, .int _, hv⟩
      rw [List.getElem?_zipIdx, e2]
      simp
/-- enumerate(list) -/
theorem xi2_enum {α : Type} {xs : List α} {f : α → PyData} {elts : List Expr} {kk : Nat} {tpos : Pos} (C : Wh X N sc k) (b : Bi X sc "enumerate") (h : XD X B ρ H e (.list (xs.map f))) (hs : starEach [e] X.env = [(false, eval e X.env)] := by rfl) :
    XI2 X B ρ H (.Tuple elts kk tpos) (.Call (.Name "enumerate" p2) [e] [] pos) (fun H => H) xs.zipIdx (fun a => .int (a.2 : Int)) (fun a => f a.1) := XI2.mk fun σ H1 a g R r =>
  wi (pi_enum (b.g C) b.mg (pa_cons pe_w pa_nil hs) hs) (h σ H1 a g _ fun v H2 a2 p => by
    obtain ⟨b, vs, rfl, hb, q⟩ := dq_lst p
    exact ⟨b, vs, rfl, hb, r _ H2 a2 (Same.refl _) (jok2_enum hb q)⟩)
/-- enumerate of a list that stood at the base, by its name -/
theorem xi2_enumB {α : Type} {xs : List α} {f : α → PyData} {elts : List Expr} {kk n : Nat} {tpos : Pos} {nm : Str} (C : Wh X N sc k) (b : Bi X sc "enumerate") (hN : N[n]? = some nm) (hv : Vis sc nm) (hr : ρ[n]? = some (.o (.list (xs.map f)))) (hd : (nm == ("__debug__" : Str)) = false := by decide) (hcd : (nm == ("__classdict__" : Str)) = false := by decide) :
    XI2 X B ρ H (.Tuple elts kk tpos) (.Call (.Name "enumerate" p2) [.Name nm p3] [] pos) (fun _ => B) xs.zipIdx (fun a => .int (a.2 : Int)) (fun a => f a.1) := XI2.mk fun σ H1 a g R r =>
  wi (pi_enum (b.g C) b.mg (pa_cons (pe_var (i := n) (by rw [C.n]; exact hN) (by rw [C.se]; exact hv) hd hcd) pa_nil)) (by
    obtain ⟨v, e1, h1⟩ := g.getO hr
    obtain ⟨b, vs, rfl, hb, q⟩ := dq_lst h1
    exact ⟨_, e1, b, vs, rfl, g.same.seq hb, r _ H1 (Same.refl _) g.same (jok2_enum hb q)⟩)
/-- zip of two lists -/
theorem xi2_zip {α β : Type} {xs : List α} {ys : List β} {f : α → PyData} {f' : β → PyData} {elts : List Expr} {kk : Nat} {tpos : Pos} (C : Wh X N sc k) (b : Bi X sc "zip") (h : XD X B ρ H e (.list (xs.map f))) (h' : XD X B ρ H e' (.list (ys.map f')))
    (hs : starEach [e, e'] X.env = [(false, eval e X.env), (false, eval e' X.env)] := by rfl) (hs3 : starEach [e, e'] X.env = (false, eval e X.env) :: starEach [e'] X.env := by rfl) (hs2 : starEach [e'] X.env = [(false, eval e' X.env)] := by rfl) (hpl : (backTo pos (starEach [e'] X.env)).any (·.1) = false := by rfl) :
    XI2 X B ρ H (.Tuple elts kk tpos) (.Call (.Name "zip" p2) [e, e'] [] pos) (fun H => H) (xs.zip ys) (fun a => f a.1) (fun a => f' a.2) := XI2.mk fun σ H1 a g R r =>
  wi (pi_zip (b.g C) b.mg (pa_cons pe_w (pa_cons pe_w pa_nil hs2) hs3) hs3 hpl) (h σ H1 a g _ fun v H2 a2 p => h' σ H2 (a.trans a2) (g.mono a2) _ fun u H3 a3 p3 => by
    obtain ⟨b1, vs, rfl, hb, q⟩ := dq_lst p
    obtain ⟨b2, us, rfl, hu, q'⟩ := dq_lst p3
    have hl : vs.length = xs.length := by rw [q.len, List.length_map]
    have hl' : us.length = ys.length := by rw [q'.len, List.length_map]
    refine ⟨b1, b2, vs, us, rfl, a3.seq hb, hu, r _ H3 (a2.trans a3) (Same.refl _) ⟨fun i H' s hi => ?_, fun H' s => ?_, fun i v H' H'' s hi y => ?_⟩⟩
    · rw [List.length_zip] at hi
      exact ⟨vs, us, vs[i]'(by omega), us[i]'(by omega), (a3.trans s).seq hb, s.seq hu, by simp, by simp⟩
    · rw [List.length_zip]
      exact ⟨vs, us, (a3.trans s).seq hb, s.seq hu, by omega⟩
    · rw [List.length_zip] at hi
      obtain ⟨T, x, z, rfl, hT, rfl, y1, y2⟩ := y
      have e1 := y1 vs ((a3.trans s).seq hb)
      have e2 := y2 us (s.seq hu)
      obtain ⟨d, hd, hv⟩ := q.get e1
      obtain ⟨d', hd', hv'⟩ := q'.get e2
      rw [List.getElem?_map] at hd hd'
      cases e3 : xs[i]? with
      | none => rw [e3] at hd; cases hd
      | some c =>
        cases e4 : ys[i]? with
        | none => rw [e4] at hd'; cases hd'
        | some c' =>
          rw [e3] at hd
          rw [e4] at hd'
          cases hd
          cases hd'
          refine ⟨Same.new hT, (c, c'), T, x, z, ?_, rfl, upd_same, dq_same a3 hv, hv'⟩
          rw [List.getElem?_zip_eq_some]
          exact ⟨e3, e4⟩)
theorem ws_for2 {x y : Str} {i j n : Nat} {it : Expr} {p4 : Pos} {Bf : Hp → Hp} {α : Type} {xs : List α} {f1 f2 : α → PyData} (C : Wh X N sc k) (W : Wd X) (hi : N[i]? = some x) (hj : N[j]? = some y) (hx : L2.Loc sc x) (hy : L2.Loc sc y) (hij : i ≠ j)
    (h : XI2 X B ρ H (.Tuple [.Name x p2, .Name y p3] n p4) it Bf xs f1 f2) (g : En X.K B H σ ρ)
    (Bx : Hp → Hp) (R : Nat → List Sl) (Ex : Hp → Nat → Hp → Prop) (h0 : ∀ H2, Same H H2 → Same (Bf H2) H2 → Same (Bf H2) (Bx H2) ∧ En X.K (Bx H2) H2 σ (R 0) ∧ Ex H2 0 H2)
    (turn : ∀ H2 m a v v2 (σ' : L2.St) H' H'', Same H H2 → xs[m]? = some a → Ex H2 m H' → Same H' H'' → En X.K (Bx H2) H'' ((σ'.set i (some v)).set j (some v2)) (((R m).set i (.o (f1 a))).set j (.o (f2 a))) →
      WS X body { D with nx := fun σ H => En X.K (Bx H2) H σ (R (m + 1)) ∧ Ex H2 (m + 1) H, ct := fun σ H => En X.K (Bx H2) H σ (R (m + 1)) ∧ Ex H2 (m + 1) H, bk := WS X rest D } ((σ'.set i (some v)).set j (some v2)) H'')
    (after : ∀ H2 σ' H', Same H H2 → En X.K (Bx H2) H' σ' (R xs.length) → Ex H2 xs.length H' → WS X rest D σ' H') (hs : ∀ y, foldedSetIterable it X.env y = pure y := by intro _; rfl) : WS X (.For (.Tuple [.Name x p2, .Name y p3] n p4) it body [] pos :: rest) D σ H := by
  refine ws_cons (w1 (ps_for W.po C.cl pi_w (pg_tup C.cl (pgs_cons (pg_name (i := i) (by rw [C.n]; exact C.nd) (by rw [C.n]; exact hi) (by rw [C.se]; exact hx) (.inl (W.fn x))) (pgs_cons (pg_name (i := j) (by rw [C.n]; exact C.nd) (by rw [C.n]; exact hj) (by rw [C.se]; exact hy) (.inl (W.fn y))) pgs_nil))) pss_w (hs := hs)) ?_)
  refine h σ H (Same.refl _) g _ fun J H2 a2 bs jk => ?_
  obtain ⟨z1, z2, z3⟩ := h0 H2 a2 bs
  refine ⟨fun m n' σ' H' => n' = xs.length - m ∧ m ≤ xs.length ∧ En X.K (Bx H2) H' σ' (R m) ∧ Ex H2 m H', ⟨xs.length, by simp, Nat.zero_le _, z2, z3⟩, ?_⟩
  rintro m n' σ' H' ⟨rfl, hm, g', ex⟩
  have sb := z1.trans g'.same
  by_cases hlt : m < xs.length
  · refine .inr ⟨jk.go m H' sb hlt, fun σ H => En X.K (Bx H2) H σ (R (m + 1)) ∧ Ex H2 (m + 1) H, fun σ3 H3 z => ⟨xs.length - (m + 1), by omega, rfl, hlt, z⟩, fun v H3 y => ?_⟩
    obtain ⟨s3, b, T, v1, v2, hb, rfl, hT, q1, q2⟩ := jk.yld m v H' H3 sb hlt y
    refine ⟨T, _, rfl, SqT.of hT, rfl, v1, _, rfl, v2, _, rfl, rfl, ?_⟩
    exact turn H2 m b v1 v2 σ' H' H3 a2 hb ex s3 (En.set (s := .o (f2 b)) (En.set (s := .o (f1 b)) (g'.mono s3) i ⟨v1, rfl, dq_same z1 q1⟩) j ⟨v2, rfl, dq_same z1 q2⟩)
  · have em : m = xs.length := by omega
    subst em
    exact .inl ⟨jk.stop H' sb, after H2 σ' H' a2 g' ex⟩
end

/-! ### a def's walk -/
section
variable {P : Program} {w : World} {K : PySem.W.Frag} {mg : Str → Option Value} {base : Heap}
/-- a def that lets nothing out -/
theorem fun_go {x qual : Str} {st : Stmt} {f : Addr} {fd : FuncData} {N ps : List Str} {k : Nat} {sp : Sp} (F : Fun K x qual st f fd) (S : FnScope N ps (defScope st)) (len : ∀ vs H Q E, sp vs H Q E → vs.length = ps.length)
    (h : ∀ (X : Cx) (H : Hp) (vs : List V) (Q : VK) (E : XK), X.prog = P → X.w = w → X.K = K → X.mg = mg → X.base = base → Wh X N (defScope st) k → Wd X → sp vs H Q E → WS X (defBody st) { nx := fun _ H' => Q .non H', rt := Q } (start N vs) H) : FnOk P w K mg base CX0 (k + 1) f fd ps sp :=
  F.ok S len fun cdv A outer s H vs Q E hr hs => ⟨_, pss_w, h (cxOf CX0 P w K mg base N qual (defScope st) f cdv A outer s H E).nox H vs Q E rfl rfl rfl rfl rfl ⟨rfl, S.nd, rfl, rfl, hr⟩ ⟨fun _ => rfl, PassesOwn.never⟩ hs⟩
theorem cl_go {x : Str} {st : Stmt} {f : Addr} {fd : FuncData} {N ps : List Str} {k : Nat} {sp : Sp} (F : Fun K x x st f fd) (hm : mg x = some (.ref f)) (hb : Binds K fd ps []) (S : FnScope N ps (defScope st)) (len : ∀ vs H Q E, sp vs H Q E → vs.length = ps.length)
    (h : ∀ (X : Cx) (H : Hp) (vs : List V) (Q : VK) (E : XK), X.prog = P → X.w = w → X.K = K → X.mg = mg → X.base = base → Wh X N (defScope st) k → Wd X → sp vs H Q E → WS X (defBody st) { nx := fun _ H' => Q .non H', rt := Q } (start N vs) H) : Cl P w K mg base (k + 1) x ps sp :=
  ⟨f, fd, fun_go F S len h, hm, F.kp, hb⟩
end
end Pr

/-! ## Fw5.lean -/
set_option Elab.async false
set_option linter.all false
set_option maxRecDepth 100000
set_option maxHeartbeats 4000000
namespace Pr
open PySem PySem.Spec PyProof.Rows L2

/-! ### data that == may look at -/
def okT (l : List Nat) : Prop := ∀ c ∈ l, c < 128
theorem okT.nil : okT [] := fun _ h => nomatch h
theorem okT.cons {c : Nat} {l : List Nat} (h : c < 128) (t : okT l) : okT (c :: l) := fun x hx => by
  rcases List.mem_cons.mp hx with e | e
  · rw [e]; exact h
  · exact t x e
theorem okT.app {l m : List Nat} (h : okT l) (t : okT m) : okT (l ++ m) := fun x hx => (List.mem_append.mp hx).elim (h x) (t x)
theorem okT.drop {l : List Nat} (h : okT l) (n : Nat) : okT (l.drop n) := fun x hx => h x (List.mem_of_mem_drop hx)
theorem okT.take {l : List Nat} (h : okT l) (n : Nat) : okT (l.take n) := fun x hx => h x (List.mem_of_mem_take hx)
inductive Lv : Nat → PyData → Prop
  | none {n : Nat} : Lv n .none
  | bool {n : Nat} {b : Bool} : Lv n (.bool b)
  | int {n : Nat} {i : Int} : Lv n (.int i)
  | str {n : Nat} {l : List Nat} (h : okT l) : Lv n (.str (S l))
  | list {n : Nat} {ds : List PyData} (h : ∀ d ∈ ds, Lv n d) : Lv (n + 1) (.list ds)
  | tuple {n : Nat} {ds : List PyData} (h : ∀ d ∈ ds, Lv n d) : Lv (n + 1) (.tuple ds)
theorem canAll {ds : List PyData} (h : ∀ d ∈ ds, d.canLay0 = true) : PyData.canLayAll0 ds = true := by
  induction ds with
  | nil => simp [PyData.canLayAll0]
  | cons d ds ih => simp [PyData.canLayAll0, h d List.mem_cons_self, ih fun e he => h e (List.mem_cons_of_mem _ he)]
theorem depAll {ds : List PyData} {n : Nat} (h : ∀ d ∈ ds, d.depth ≤ n) : PyData.depthAll ds ≤ n := by
  induction ds with
  | nil => simp [PyData.depthAll]
  | cons d ds ih =>
    have h1 := h d List.mem_cons_self
    have h2 := ih fun e he => h e (List.mem_cons_of_mem _ he)
    simp only [PyData.depthAll]
    omega
theorem Lv.ok {n : Nat} {d : PyData} (h : Lv n d) : d.canLay0 = true ∧ d.depth ≤ n := by
  induction h with
  | none => exact ⟨by simp [PyData.canLay0], by simp [PyData.depth]⟩
  | bool => exact ⟨by simp [PyData.canLay0], by simp [PyData.depth]⟩
  | int => exact ⟨by simp [PyData.canLay0], by simp [PyData.depth]⟩
  | str h =>
    refine ⟨?_, by simp [PyData.depth]⟩
    simp only [PyData.canLay0, PyData.strOk, S]
    rw [Array.all_eq_true']
    intro x hx
    have := h x (by simpa using hx)
    simp only [decide_eq_true_eq]
    omega
  | list h ih => exact ⟨by simp only [PyData.canLay0]; exact canAll fun d hd => (ih d hd).1, by
      have := depAll fun d hd => (ih d hd).2
      simp only [PyData.depth]
      omega⟩
  | tuple h ih => exact ⟨by simp only [PyData.canLay0]; exact canAll fun d hd => (ih d hd).1, by
      have := depAll fun d hd => (ih d hd).2
      simp only [PyData.depth]
      omega⟩
theorem Lv.shaped {n : Nat} {d : PyData} (h : Lv n d) (hn : n ≤ 64 := by decide) : SeqAt.shaped d = true := by
  unfold SeqAt.shaped
  rw [h.ok.1, decide_eq_true (Nat.le_trans h.ok.2 hn)]
  rfl
theorem Lv.succ {n : Nat} {d : PyData} (h : Lv n d) : Lv (n + 1) d := by
  induction h with
  | none => exact .none
  | bool => exact .bool
  | int => exact .int
  | str h => exact .str h
  | list h ih => exact .list ih
  | tuple h ih => exact .tuple ih

section
variable {X : Cx} {N : List Str} {sc : Scope} {k : Nat} {B : Hp} {ρ : List Sl} {H H' : Hp} {e e' : Expr} {es : List Expr} {d : PyData} {w : V} {ds : List PyData} {pos p2 p3 : Pos} {D : Ends} {rest body : List Stmt} {σ : L2.St} {i j : Int} {x y : List Nat}
/-! ### == of scalars -/
theorem od_eqI : OpD X .Eq (.int i) (.int j) (decide (i = j)) := ⟨_, op_eq, fun v w H3 a b Q q => by
  rw [dq_int a, dq_int b]
  refine ⟨rfl, ?_⟩
  have e : decide (V.int i = V.int j) = decide (i = j) := by simp
  rw [e]
  exact q H3 (Same.refl _)⟩
theorem od_neI : OpD X .NotEq (.int i) (.int j) (!decide (i = j)) := ⟨_, op_ne, fun v w H3 a b Q q => by
  rw [dq_int a, dq_int b]
  refine ⟨rfl, ?_⟩
  have e : decide (V.int i = V.int j) = decide (i = j) := by simp
  rw [e]
  exact q H3 (Same.refl _)⟩
theorem dec_S : decide (V.str (S x) = V.str (S y)) = decide (x = y) := by
  by_cases h : x = y
  · subst h; simp
  · rw [decide_eq_false h, decide_eq_false fun z => h (S_inj (V.str.inj z))]
theorem od_eqS : OpD X .Eq (.str (S x)) (.str (S y)) (decide (x = y)) := ⟨_, op_eq, fun v w H3 a b Q q => by
  rw [dq_str a, dq_str b]
  refine ⟨rfl, ?_⟩
  rw [dec_S]
  exact q H3 (Same.refl _)⟩
theorem od_neS : OpD X .NotEq (.str (S x)) (.str (S y)) (!decide (x = y)) := ⟨_, op_ne, fun v w H3 a b Q q => by
  rw [dq_str a, dq_str b]
  refine ⟨rfl, ?_⟩
  rw [dec_S]
  exact q H3 (Same.refl _)⟩
theorem od_eqB {a b : Bool} : OpD X .Eq (.bool a) (.bool b) (decide (a = b)) := ⟨_, op_eq, fun v w H3 c d Q q => by
  rw [dq_bl c, dq_bl d]
  refine ⟨rfl, ?_⟩
  have e : decide (V.bl a = V.bl b) = decide (a = b) := by simp
  rw [e]
  exact q H3 (Same.refl _)⟩
theorem od_neB {a b : Bool} : OpD X .NotEq (.bool a) (.bool b) (!decide (a = b)) := ⟨_, op_ne, fun v w H3 c d Q q => by
  rw [dq_bl c, dq_bl d]
  refine ⟨rfl, ?_⟩
  have e : decide (V.bl a = V.bl b) = decide (a = b) := by simp
  rw [e]
  exact q H3 (Same.refl _)⟩
/-- one sign in a text, not in one -/
theorem od_inC {c : Nat} : OpD X .In (.str (S [c])) (.str (S y)) (decide (c ∈ y)) := ⟨_, op_in_sign, fun v w H3 a b Q q => ⟨c, S y, dq_str a, dq_str b, by rw [S_toList]; exact q H3 (Same.refl _)⟩⟩
theorem od_ninC {c : Nat} : OpD X .NotIn (.str (S [c])) (.str (S y)) (!decide (c ∈ y)) := ⟨_, op_notIn_sign, fun v w H3 a b Q q => ⟨c, S y, dq_str a, dq_str b, by rw [S_toList]; exact q H3 (Same.refl _)⟩⟩

/-! ### calls that make sequences, sums -/
theorem xf_list (C : Wh X N sc k) (b : Bi X sc "list") (h : XD X B ρ H e (.list ds)) (he : starEach [e] X.env = [(false, eval e X.env)] := by rfl) : XF X B ρ H (.Call (.Name "list" p2) [e] [] pos) ds :=
  xp_cb (f := .type "list") (fun a => pe_callTy call_list_of (b.g C) b.mg PyProof.Rows.boot_list a (by decide) (by decide) he rfl) (xl_cons h xl_nil he) fun H1 vs H2 _ a2 p Q q => by
    obtain ⟨v, rfl, hv⟩ := xl_one p
    obtain ⟨r, xs, rfl, hr, hx⟩ := dq_lst hv
    exact ⟨r, xs, rfl, .inl hr, fun c hc => q _ _ (Same.new hc) ⟨c, xs, rfl, a2.free hc, upd_same, dqAll_same (Same.new hc) hx⟩⟩
theorem xf_listT (C : Wh X N sc k) (b : Bi X sc "list") (h : XD X B ρ H e (.tuple ds)) (he : starEach [e] X.env = [(false, eval e X.env)] := by rfl) : XF X B ρ H (.Call (.Name "list" p2) [e] [] pos) ds :=
  xp_cb (f := .type "list") (fun a => pe_callTy call_list_of (b.g C) b.mg PyProof.Rows.boot_list a (by decide) (by decide) he rfl) (xl_cons h xl_nil he) fun H1 vs H2 _ a2 p Q q => by
    obtain ⟨v, rfl, hv⟩ := xl_one p
    obtain ⟨r, xs, rfl, hr, hx⟩ := dq_tup hv
    exact ⟨r, xs, rfl, .inr (SqT.of hr), fun c hc => q _ _ (Same.new hc) ⟨c, xs, rfl, a2.free hc, upd_same, dqAll_same (Same.new hc) hx⟩⟩
theorem xd_tuple (C : Wh X N sc k) (b : Bi X sc "tuple") (h : XD X B ρ H e (.list ds)) (he : starEach [e] X.env = [(false, eval e X.env)] := by rfl) : XD X B ρ H (.Call (.Name "tuple" p2) [e] [] pos) (.tuple ds) :=
  xp_cb (f := .type "tuple") (fun a => pe_callTy call_tuple_of (b.g C) b.mg PyProof.Rows.boot_tuple a (by decide) (by decide) he rfl) (xl_cons h xl_nil he) fun H1 vs H2 _ a2 p Q q => by
    obtain ⟨v, rfl, hv⟩ := xl_one p
    obtain ⟨r, xs, rfl, hr, hx⟩ := dq_lst hv
    exact ⟨r, xs, rfl, .inl ⟨hr, fun c hc => q _ _ (Same.new hc) (.tup upd_same (dqAll_same (Same.new hc) hx))⟩⟩
theorem xd_intB {b : Bool} (C : Wh X N sc k) (bi : Bi X sc "int") (h : XD X B ρ H e (.bool b)) (he : starEach [e] X.env = [(false, eval e X.env)] := by rfl) : XD X B ρ H (.Call (.Name "int" p2) [e] [] pos) (.int (if b then 1 else 0)) :=
  xp_cb (f := .type "int") (fun a => pe_callTy call_int1 (bi.g C) bi.mg PyProof.Rows.boot_int a (by decide) (by decide) he rfl) (xl_cons h xl_nil he) fun H1 vs H2 _ a2 p Q q => by
    obtain ⟨v, rfl, hv⟩ := xl_one p
    rw [dq_bl hv]
    exact .inr ⟨b, rfl, q _ H2 (Same.refl _) (.int _)⟩
theorem xd_sum {ns : List Int} (C : Wh X N sc k) (bi : Bi X sc "sum") (h : XD X B ρ H e (.list (ns.map PyData.int))) (he : starEach [e] X.env = [(false, eval e X.env)] := by rfl) : XD X B ρ H (.Call (.Name "sum" p2) [e] [] pos) (.int ns.sum) :=
  xp_cb (f := .builtin "sum") (fun a => pe_callB (cr_sum C.cl) (bi.g C) bi.mg PyProof.Rows.boot_sum a (by decide) (by decide) he rfl) (xl_cons h xl_nil he) fun H1 vs H2 _ a2 p Q q => by
    obtain ⟨v, rfl, hv⟩ := xl_one p
    obtain ⟨r, xs, rfl, hr, hx⟩ := dq_lst hv
    rw [dqAll_ints' hx] at hr
    exact ⟨r, ns, rfl, hr, q _ H2 (Same.refl _) (.int _)⟩
/-- the least of some ints -/
def minL : List Int → Int
  | [] => 0
  | [n] => n
  | n :: ns => min n (minL ns)
theorem minL_mem : ∀ {ns : List Int}, ns ≠ [] → minL ns ∈ ns
  | [], h => absurd rfl h
  | [n], _ => by simp [minL]
  | n :: m :: ns, _ => by
    have ih := minL_mem (ns := m :: ns) (by simp)
    show min n (minL (m :: ns)) ∈ n :: m :: ns
    by_cases h : n ≤ minL (m :: ns)
    · rw [Int.min_eq_left h]; exact List.mem_cons_self
    · rw [Int.min_eq_right (by omega)]; exact List.mem_cons_of_mem _ ih
theorem minL_le : ∀ {ns : List Int} {y : Int}, y ∈ ns → minL ns ≤ y
  | [n], y, h => by
    rw [List.mem_singleton] at h
    subst h
    exact Int.le_refl _
  | n :: m :: ns, y, h => by
    show min n (minL (m :: ns)) ≤ y
    rcases List.mem_cons.mp h with e | e
    · rw [e]; exact Int.min_le_left _ _
    · exact Int.le_trans (Int.min_le_right _ _) (minL_le e)
theorem minL_eq {ns : List Int} {m : Int} (h : m ∈ ns) (l : ∀ y ∈ ns, m ≤ y) : m = minL ns := by
  have hn : ns ≠ [] := fun z => by rw [z] at h; cases h
  have a := l _ (minL_mem hn)
  have b := minL_le h
  omega
theorem xd_min {ns : List Int} (C : Wh X N sc k) (bi : Bi X sc "min") (h : XD X B ρ H e (.list (ns.map PyData.int))) (hn : ns ≠ []) (he : starEach [e] X.env = [(false, eval e X.env)] := by rfl) : XD X B ρ H (.Call (.Name "min" p2) [e] [] pos) (.int (minL ns)) :=
  xp_cb (f := .builtin "min") (fun a => pe_callB (cr_min C.cl) (bi.g C) bi.mg PyProof.Rows.boot_min a (by decide) (by decide) he rfl) (xl_cons h xl_nil he) fun H1 vs H2 _ a2 p Q q => by
    obtain ⟨v, rfl, hv⟩ := xl_one p
    obtain ⟨r, xs, rfl, hr, hx⟩ := dq_lst hv
    rw [dqAll_ints' hx] at hr
    refine ⟨r, ns, rfl, hr, List.length_pos_iff.mpr hn, fun m hm hl => ?_⟩
    rw [minL_eq hm hl]
    exact q _ H2 (Same.refl _) (.int _)
theorem xd_min2 (C : Wh X N sc k) (bi : Bi X sc "min") (h : XD X B ρ H e (.int i)) (h' : XD X B ρ H e' (.int j)) (he : starEach [e, e'] X.env = (false, eval e X.env) :: starEach [e'] X.env := by rfl) (he2 : starEach [e'] X.env = (false, eval e' X.env) :: starEach [] X.env := by rfl)
    (hpl : (backTo pos (starEach [e'] X.env)).any (·.1) = false := by rfl) : XD X B ρ H (.Call (.Name "min" p2) [e, e'] [] pos) (.int (if j < i then j else i)) :=
  xp_cb (f := .builtin "min") (fun a => pe_callB (call_min2 C.cl) (bi.g C) bi.mg PyProof.Rows.boot_min a (by decide) (by decide) he hpl) (xl_cons h (xl_cons h' xl_nil he2) he) fun H1 vs H2 _ a2 p Q q => by
    obtain ⟨v, u, rfl, hv, hu⟩ := xl_two p
    rw [dq_int hv, dq_int hu]
    exact ⟨i, j, rfl, q _ H2 (Same.refl _) (.int _)⟩
theorem xd_max2 (C : Wh X N sc k) (bi : Bi X sc "max") (h : XD X B ρ H e (.int i)) (h' : XD X B ρ H e' (.int j)) (he : starEach [e, e'] X.env = (false, eval e X.env) :: starEach [e'] X.env := by rfl) (he2 : starEach [e'] X.env = (false, eval e' X.env) :: starEach [] X.env := by rfl)
    (hpl : (backTo pos (starEach [e'] X.env)).any (·.1) = false := by rfl) : XD X B ρ H (.Call (.Name "max" p2) [e, e'] [] pos) (.int (if j > i then j else i)) :=
  xp_cb (f := .builtin "max") (fun a => pe_callB (call_max2 C.cl) (bi.g C) bi.mg PyProof.Rows.boot_max a (by decide) (by decide) he hpl) (xl_cons h (xl_cons h' xl_nil he2) he) fun H1 vs H2 _ a2 p Q q => by
    obtain ⟨v, u, rfl, hv, hu⟩ := xl_two p
    rw [dq_int hv, dq_int hu]
    exact ⟨i, j, rfl, q _ H2 (Same.refl _) (.int _)⟩
/-! ### join -/
theorem join_S0 : ∀ (ls : List (List Nat)), Txt.join (S []) (ls.map S) = S ls.flatten := by
  intro ls
  apply TL.ext_tl
  rw [TL.join_eq, TL.tl_join]
  have e1 : (ls.map S).map TL.tl = ls := by
    rw [List.map_map]
    exact (List.map_congr_left fun l _ => S_toList l).trans (List.map_id ls)
  rw [e1]
  have e2 : ∀ ms : List (List Nat), TL.joinL [] ms = ms.flatten := by
    intro ms
    induction ms with
    | nil => rfl
    | cons p r ih =>
      cases r with
      | nil => simp [TL.joinL]
      | cons q r =>
        show p ++ ([] ++ TL.joinL [] (q :: r)) = _
        rw [ih]
        simp
  show TL.joinL (TL.tl (S [])) ls = TL.tl (S ls.flatten)
  rw [show TL.tl (S []) = [] from S_toList [], e2]
theorem xd_join0 {α : Type} {xs : List α} {f : α → List Nat} {apos : Pos} {j : Nat} {z : Str} (hz : z = S []) (h : XD X B ρ H e (.list (xs.map fun a => .str (S (f a))))) (hl : (xs.map fun a => (f a).length).sum ≤ 1000000)
    (hst : starEach [e] X.env = (false, eval e X.env) :: starEach [] X.env := by rfl) (hbase : attributeBase (.Constant (.str z) j p3) "join" X.env (eval (.Constant (.str z) j p3) X.env) = eval (.Constant (.str z) j p3) X.env := by rfl)
    (hfew : ((backTo p2 (starEach [e] X.env)).all (fun x => !x.1) && (backToKw p2 (keywordEach [] X.env)).all (fun x => x.1.isSome)
      && decide ([e].length + ([] : List Keyword).length + (if ([] : List Keyword).isEmpty then 0 else 1) < 30)) = true := by rfl)
    (hline : (apos.endLine == p2.line) = true := by rfl) : XD X B ρ H (.Call (.Attribute (.Constant (.str z) j p3) "join" apos) [e] [] p2) (.str (S (xs.map f).flatten)) :=
  xp_of (pe_bm (T := "str") PySem.F.plainAttrs_str PySem.F.slot_str_join PySem.F.type_str_join mt_join pe_str (pa_cons pe_w pa_nil hst) hbase hfew hline hst rfl) fun σ H1 a g Q q => by
    refine ⟨rfl, h σ H1 a g _ fun v H2 a2 p => ?_⟩
    obtain ⟨r, vs, rfl, hr, hx⟩ := dq_lst p
    have e1 : (xs.map fun a => PyData.str (S (f a))) = ((xs.map f).map S).map PyData.str := by simp
    rw [e1] at hx
    rw [dqAll_strs' hx] at hr
    refine ⟨z, r, (xs.map f).map S, rfl, rfl, .inl hr, ?_, ?_⟩
    · have e2 : (((xs.map f).map S).map (·.length)).sum = (xs.map fun a => (f a).length).sum := by simp [S_len, Function.comp_def]
      rw [e2, hz, S_len, List.length_nil, Nat.mul_zero]
      omega
    · rw [hz, join_S0]
      exact q _ H2 a2 (.str _)
theorem flat1 {α : Type} (g : α → Nat) : ∀ xs : List α, (xs.map fun a => [g a]).flatten = xs.map g
  | [] => rfl
  | a :: xs => by simp [flat1 g xs]
theorem sum1 {α : Type} (g : α → Nat) : ∀ xs : List α, (xs.map fun a => ([g a] : List Nat).length).sum = xs.length
  | [] => rfl
  | a :: xs => by
    have := sum1 g xs
    simp at this ⊢
    omega
/-- ''.join of single signs -/
theorem xd_join1 {α : Type} {xs : List α} {g : α → Nat} {apos : Pos} {j : Nat} {z : Str} (hz : z = S []) (h : XD X B ρ H e (.list (xs.map fun a => .str (S [g a])))) (hl : xs.length ≤ 1000000)
    (hst : starEach [e] X.env = (false, eval e X.env) :: starEach [] X.env := by rfl) (hbase : attributeBase (.Constant (.str z) j p3) "join" X.env (eval (.Constant (.str z) j p3) X.env) = eval (.Constant (.str z) j p3) X.env := by rfl)
    (hfew : ((backTo p2 (starEach [e] X.env)).all (fun x => !x.1) && (backToKw p2 (keywordEach [] X.env)).all (fun x => x.1.isSome)
      && decide ([e].length + ([] : List Keyword).length + (if ([] : List Keyword).isEmpty then 0 else 1) < 30)) = true := by rfl)
    (hline : (apos.endLine == p2.line) = true := by rfl) : XD X B ρ H (.Call (.Attribute (.Constant (.str z) j p3) "join" apos) [e] [] p2) (.str (S (xs.map g))) := by
  have q := xd_join0 (f := fun a => [g a]) hz h (by rw [sum1]; exact hl) hst hbase hfew hline
  rwa [flat1] at q
/-! ### cut short -/
theorem xw_orT {b : Bool} (h1 : XT X B ρ H e b) (hb : b = true) : XW X B ρ H (.BoolOp .Or (e :: e' :: es) pos) true := by
  subst hb
  exact xw_or (c := false) h1 fun h => nomatch h
theorem xw_andF {b : Bool} (h1 : XT X B ρ H e b) (hb : b = false) : XW X B ρ H (.BoolOp .And (e :: e' :: es) pos) false := by
  subst hb
  exact xw_and (c := true) h1 fun h => nomatch h
theorem xd_orT {b : Bool} (h1 : XD X B ρ H e (.bool b)) (hb : b = true) : XD X B ρ H (.BoolOp .Or (e :: e' :: es) pos) (.bool true) := by
  subst hb
  exact xd_or (c := false) h1 fun h => nomatch h
theorem xd_andF {b : Bool} (h1 : XD X B ρ H e (.bool b)) (hb : b = false) : XD X B ρ H (.BoolOp .And (e :: e' :: es) pos) (.bool false) := by
  subst hb
  exact xd_and (c := true) h1 fun h => nomatch h
end
end Pr

/-! ## LawM.lean -/
set_option Elab.async false
set_option linter.all false
set_option maxRecDepth 100000
set_option maxHeartbeats 4000000
namespace Pr
open PySem PySem.Spec PyProof.Rows L2

/-! ### rules, spots, steps -/
structure Rl where
  s : Int
  c : Nat
  t : Int
  p : List Nat
  deriving DecidableEq
abbrev dR (r : Rl) : PyData := .tuple [.int r.s, .str (S [r.c]), .int r.t, .str (S r.p)]
abbrev Spt := Int × List Nat
abbrev dSp (z : Spt) : PyData := .tuple [.int z.1, .str (S z.2)]
def dO {α : Type} (f : α → PyData) : Option α → PyData
  | none => .none
  | some a => f a
/-- one rule at a spot -/
def stepM (r : Rl) (z : Spt) : Option Spt := match z.2 with
  | [] => none
  | c :: p => if r.s = z.1 ∧ r.c = c then some (r.t, r.p ++ p) else none
/-- a rule of letters -/
structure RlOk (r : Rl) : Prop where
  c : r.c < 128
  p : okT r.p
  l : r.p.length ≤ 2
theorem stepM_len {r : Rl} {z z' : Spt} (h : stepM r z = some z') (hr : r.p.length ≤ 2) : z'.2.length ≤ z.2.length + 1 := by
  unfold stepM at h
  split at h
  · cases h
  · rename_i c p e
    split at h
    · cases h
      rw [e]
      simp
      omega
    · cases h
theorem stepM_ok {r : Rl} {z z' : Spt} (h : stepM r z = some z') (hr : okT r.p) (hz : okT z.2) : okT z'.2 := by
  unfold stepM at h
  split at h
  · cases h
  · rename_i c p e
    split at h
    · cases h
      rw [e] at hz
      exact hr.app fun x hx => hz x (List.mem_cons_of_mem _ hx)
    · cases h
theorem lv_dR {r : Rl} {n : Nat} (h : RlOk r) : Lv (n + 1) (dR r) := .tuple (List.forall_mem_cons.mpr ⟨.int, List.forall_mem_cons.mpr ⟨.str (okT.cons h.c okT.nil), List.forall_mem_cons.mpr ⟨.int, List.forall_mem_cons.mpr ⟨.str h.p, List.forall_mem_nil _⟩⟩⟩⟩)
theorem lv_dSp {z : Spt} {n : Nat} (h : okT z.2) : Lv (n + 1) (dSp z) := .tuple (List.forall_mem_cons.mpr ⟨.int, List.forall_mem_cons.mpr ⟨.str h, List.forall_mem_nil _⟩⟩)
theorem lv_dO {α : Type} {f : α → PyData} {o : Option α} {n : Nat} (h : ∀ a, o = some a → Lv n (f a)) : Lv n (dO f o) := by
  cases o with
  | none => exact .none
  | some a => exact h a rfl
theorem imm_dR (r : Rl) : imm (dR r) = true := by simp [imm, immAll]
theorem imm_dSp (z : Spt) : imm (dSp z) = true := by simp [imm, immAll]

/-! ### == on these -/
theorem eqv_S (x y : List Nat) : PyData.eqv (.str (S x)) (.str (S y)) = decide (x = y) := by
  simp only [PyData.eqv]
  by_cases h : x = y
  · subst h; simp
  · rw [decide_eq_false h]
    exact beq_eq_false_iff_ne.mpr fun z => h (S_inj z)
theorem eqv_I (i j : Int) : PyData.eqv (.int i) (.int j) = decide (i = j) := by
  simp only [PyData.eqv]
  rfl
theorem eqv_dSp (z z' : Spt) : PyData.eqv (dSp z) (dSp z') = decide (z = z') := by
  obtain ⟨s, p⟩ := z
  obtain ⟨s', p'⟩ := z'
  simp only [dSp, PyData.eqv, PyData.eqvAll, Bool.and_true]
  have e1 : (s == s') = decide (s = s') := rfl
  have e2 : (S p == S p') = decide (p = p') := by
    have := eqv_S p p'
    simpa only [PyData.eqv] using this
  rw [e1, e2]
  by_cases h : s = s' <;> by_cases h2 : p = p' <;> simp [h, h2]
theorem eqv_dR (r r' : Rl) : PyData.eqv (dR r) (dR r') = decide (r = r') := by
  obtain ⟨s, c, t, p⟩ := r
  obtain ⟨s', c', t', p'⟩ := r'
  simp only [dR, PyData.eqv, PyData.eqvAll, Bool.and_true]
  have e1 : (s == s') = decide (s = s') := rfl
  have e2 : ((S [c]) == (S [c'])) = decide (c = c') := by
    have := eqv_S [c] [c']
    simp only [PyData.eqv] at this
    rw [this]
    simp
  have e3 : ((S p) == (S p')) = decide (p = p') := by
    have := eqv_S p p'
    simpa only [PyData.eqv] using this
  rw [e2, e3]
  by_cases h1 : s = s' <;> by_cases h2 : c = c' <;> by_cases h3 : t = t' <;> by_cases h4 : p = p' <;> simp [h1, h2, h3, h4]
theorem eqvAll_map {α : Type} [DecidableEq α] {f : α → PyData} (h : ∀ a b, PyData.eqv (f a) (f b) = decide (a = b)) : ∀ (xs ys : List α), PyData.eqvAll (xs.map f) (ys.map f) = decide (xs = ys)
  | [], [] => by simp [PyData.eqvAll]
  | [], y :: ys => by simp [PyData.eqvAll]
  | x :: xs, [] => by simp [PyData.eqvAll]
  | x :: xs, y :: ys => by
    simp only [List.map_cons, PyData.eqvAll, h x y, eqvAll_map h xs ys]
    by_cases e1 : x = y <;> by_cases e2 : xs = ys <;> simp [e1, e2]
theorem eqv_list {α : Type} [DecidableEq α] {f : α → PyData} (h : ∀ a b, PyData.eqv (f a) (f b) = decide (a = b)) (xs ys : List α) : PyData.eqv (.list (xs.map f)) (.list (ys.map f)) = decide (xs = ys) := by
  simp only [PyData.eqv]
  exact eqvAll_map h xs ys
theorem eqv_dO {α : Type} [DecidableEq α] {f : α → PyData} (h : ∀ a b, PyData.eqv (f a) (f b) = decide (a = b)) (hn : ∀ a, PyData.eqv (f a) .none = false ∧ PyData.eqv .none (f a) = false) (x y : Option α) : PyData.eqv (dO f x) (dO f y) = decide (x = y) := by
  cases x with
  | none =>
    cases y with
    | none => simp [dO, PyData.eqv]
    | some b => simp only [dO, (hn b).2]; simp
  | some a =>
    cases y with
    | none => simp only [dO, (hn a).1]; simp
    | some b => simp only [dO, h a b]; simp

/-! ### what the laws draw -/
def cellAt (ns : List Int) (k : Int) : Int := if k < ns.length then ns.getD k.toNat 0 else 0
def letters : List Nat := (List.range 26).map (97 + ·)
theorem letters_S : ("abcdefghijklmnopqrstuvwxyz" : Str) = S letters := by decide +kernel
theorem str_nil : ("" : Str) = S [] := rfl
def letter (i : Int) : Nat := 97 + (i % 26).toNat
theorem letter_lt (i : Int) : 97 ≤ letter i ∧ letter i < 123 := by
  unfold letter
  have h1 := Int.emod_nonneg i (by decide : (26 : Int) ≠ 0)
  have h2 := Int.emod_lt_of_pos i (by decide : (0 : Int) < 26)
  omega
theorem atI_mod {α : Type} {xs : List α} {i : Int} {n : Nat} (hn : 0 < n) (h : xs.length = n) (a0 : α) : atI xs (i % (n : Int)) = some (xs.getD (i % (n : Int)).toNat a0) := by
  have h1 := Int.emod_nonneg i (by omega : ((n : Nat) : Int) ≠ 0)
  have h2 := Int.emod_lt_of_pos i (by omega : (0 : Int) < (n : Int))
  obtain ⟨j, hj⟩ : ∃ j : Nat, i % (n : Int) = (j : Int) := ⟨(i % (n : Int)).toNat, by omega⟩
  rw [hj]
  have hjn : j < xs.length := by omega
  rw [Int.toNat_natCast]
  have e : xs[j]? = some (xs.getD j a0) := by
    rw [List.getD_eq_getElem?_getD, List.getElem?_eq_getElem hjn]
    rfl
  exact atI_nat e
theorem atI_letters (i : Int) : atI letters (i % 26) = some (letter i) := by
  have h := atI_mod (xs := letters) (i := i) (n := 26) (by decide) (by decide) 0
  rw [show ((26 : Nat) : Int) = 26 from rfl] at h
  rw [h]
  have h1 := Int.emod_nonneg i (by decide : (26 : Int) ≠ 0)
  have h2 := Int.emod_lt_of_pos i (by decide : (0 : Int) < 26)
  unfold letter letters
  rw [List.getD_eq_getElem?_getD, List.getElem?_map, List.getElem?_range (by omega)]
  rfl
/-- the three signs -/
def signsM (c : Int) : List Nat := [c, c + 1 + c / 26 % 12, c + 13 + c / 312 % 12].map letter
theorem signsM_len (c : Int) : (signsM c).length = 3 := rfl
theorem signsM_lt {c : Int} {x : Nat} (h : x ∈ signsM c) : 97 ≤ x ∧ x < 123 := by
  unfold signsM at h
  obtain ⟨i, _, rfl⟩ := List.mem_map.mp h
  exact letter_lt i
theorem signsM_nd (c : Int) : (signsM c).Nodup := by
  have h1 := Int.emod_nonneg (c / 26) (by decide : (12 : Int) ≠ 0)
  have h2 := Int.emod_lt_of_pos (c / 26) (by decide : (0 : Int) < 12)
  have h3 := Int.emod_nonneg (c / 312) (by decide : (12 : Int) ≠ 0)
  have h4 := Int.emod_lt_of_pos (c / 312) (by decide : (0 : Int) < 12)
  generalize ha : c / 26 % 12 = a at *
  generalize hb : c / 312 % 12 = b at *
  unfold signsM
  rw [ha, hb]
  have li : ∀ i j : Int, letter i = letter j → (i - j) % 26 = 0 := fun i j e => by
    unfold letter at e
    have h1 := Int.emod_nonneg i (by decide : (26 : Int) ≠ 0)
    have h2 := Int.emod_nonneg j (by decide : (26 : Int) ≠ 0)
    omega
  simp only [List.map_cons, List.map_nil, List.nodup_cons, List.mem_cons, List.not_mem_nil, or_false, not_or, not_false_eq_true, and_true, List.nodup_nil]
  refine ⟨⟨fun e => ?_, fun e => ?_⟩, fun e => ?_⟩
  · have := li _ _ e; omega
  · have := li _ _ e; omega
  · have := li _ _ e; omega
def mixed (c k : Int) : Int := (c + 7919 * k * k + 104729 * k) * 48271 % 2147483647 * 69621 % 2147483629
def some5 (sg : List Nat) : List Nat := [sg.getD 0 0, sg.getD 0 0, sg.getD 1 0, sg.getD 1 0, sg.getD 2 0]
def sizes8 : List Int := [0, 0, 1, 1, 1, 2, 2, 2]
def ruleM (c many : Int) (sg : List Nat) : Rl :=
  ⟨c % many, (some5 sg).getD (c / 5 % 5).toNat 0, c / 25 % many, (List.range (sizes8.getD (c / 125 % 8).toNat 0).toNat).map fun (k : Nat) => (some5 sg).getD (c / (1000 + 4000 * (k : Int)) % 5).toNat 0⟩
theorem some5_lt {sg : List Nat} (h : ∀ x ∈ sg, x < 128) (i : Nat) : (some5 sg).getD i 0 < 128 := by
  have g : ∀ j, sg.getD j 0 < 128 := fun j => by
    rw [List.getD_eq_getElem?_getD]
    cases e : sg[j]? with
    | none => decide
    | some y => exact h y (List.mem_of_getElem? e)
  rw [List.getD_eq_getElem?_getD]
  cases e : (some5 sg)[i]? with
  | none => decide
  | some y =>
    have := List.mem_of_getElem? e
    simp only [some5, List.mem_cons, List.not_mem_nil, or_false] at this
    rcases this with e | e | e | e | e <;> (rw [e]; exact g _)
theorem sizes8_le (i : Int) : 0 ≤ sizes8.getD (i % 8).toNat 0 ∧ sizes8.getD (i % 8).toNat 0 ≤ 2 := by
  have h1 := Int.emod_nonneg i (by decide : (8 : Int) ≠ 0)
  have h2 := Int.emod_lt_of_pos i (by decide : (0 : Int) < 8)
  have h3 : ∀ j : Nat, j < 8 → 0 ≤ sizes8.getD j 0 ∧ sizes8.getD j 0 ≤ 2 := by decide
  exact h3 _ (by omega)
theorem ruleM_ok (c many : Int) {sg : List Nat} (h : ∀ x ∈ sg, x < 128) : RlOk (ruleM c many sg) := by
  refine ⟨some5_lt h _, fun x hx => ?_, ?_⟩
  · obtain ⟨k, _, rfl⟩ := List.mem_map.mp hx
    exact some5_lt h _
  · unfold ruleM
    rw [List.length_map, List.length_range]
    have := sizes8_le (c / 125)
    omega
theorem ruleM_st (c many : Int) (sg : List Nat) (h : 0 < many) : (0 ≤ (ruleM c many sg).s ∧ (ruleM c many sg).s < many) ∧ 0 ≤ (ruleM c many sg).t ∧ (ruleM c many sg).t < many :=
  ⟨⟨Int.emod_nonneg _ (by omega), Int.emod_lt_of_pos _ h⟩, Int.emod_nonneg _ (by omega), Int.emod_lt_of_pos _ h⟩

/-! ### where a def stands -/
def Df (K : PySem.W.Frag) (mg : Str → Option Value) (nm : Str) (st : Stmt) (ps : List Str) : Prop := ∃ (f : Addr) (fd : FuncData), Fun K nm nm st f fd ∧ mg nm = some (.ref f) ∧ Binds K fd ps []
theorem loc_vis {sc : Scope} {x : Str} (h : L2.Loc sc x) : L2.Vis sc x := by
  rcases h with h | h
  · exact .inl h
  · exact .inr (.inl h)
theorem en_start {K : PySem.W.Frag} {H : Hp} {N : List Str} {vs : List V} {ds : List PyData} (h : DqAll K H vs ds) : En K H H (L2.start N vs) (ds.map Sl.o ++ List.replicate (N.length - ds.length) .x) := by
  unfold L2.start
  rw [h.len]
  generalize N.length - ds.length = n
  have hr : ∀ n, En K H H (List.replicate n (none : Option V)) (List.replicate n .x) := fun n => by
    induction n with
    | zero => exact .nil (Same.refl _)
    | succ n ih =>
      rw [List.replicate_succ, List.replicate_succ]
      exact .cons True.intro ih
  induction ds generalizing vs with
  | nil => cases h; exact hr n
  | cons d ds ih =>
    cases h with
    | cons h1 h2 => exact .cons ⟨_, rfl, h1⟩ (ih h2)
section
variable {P : Program} {w : World} {K : PySem.W.Frag} {mg : Str → Option Value} {base : Heap}
/-- the def's world, by name -/
structure At (X : Cx) (P : Program) (w : World) (K : PySem.W.Frag) (mg : Str → Option Value) (base : Heap) : Prop where
  p : X.prog = P
  w : X.w = w
  k : X.K = K
  m : X.mg = mg
  b : X.base = base
theorem At.blk {X : Cx} (A : At X P w K mg base) (s : Shared) (H0 : Hp) (scope : Scope) (Ca : Addr) (cl : List (Str × Addr)) (fp : List Addr) : At (Xb X s H0 scope Ca cl fp) P w K mg base := ⟨A.p, A.w, A.k, A.m, A.b⟩
theorem bi_of {X : Cx} {sc : Scope} {x : Str} (A : At X P w K mg base) (h : sc.names.lookup x = some .globalImplicit) (hm : mg x = none) : Bi X sc x := ⟨h, by rw [A.m]; exact hm⟩
theorem cl_at {X : Cx} {j : Nat} {nm : Str} {ps : List Str} {sp : Sp} (A : At X P w K mg base) (c : Cl P w K mg base j nm ps sp) : Cl X.prog X.w X.K X.mg X.base j nm ps sp := by
  obtain ⟨rfl, rfl, rfl, rfl, rfl⟩ := A
  exact c
theorem spD_k {X : Cx} (A : At X P w K mg base) (R : List PyData → PyData → Prop) : spD K R = spD X.K R := by rw [A.k]
theorem spF_k {X : Cx} (A : At X P w K mg base) (R : List PyData → List PyData → Prop) : spF K R = spF X.K R := by rw [A.k]
section
variable {X : Cx} {N : List Str} {sc : Scope} {k : Nat} {B : Hp} {ρ : List Sl} {H H' : Hp} {e e' : Expr} {es : List Expr} {d : PyData} {wv : V} {ds : List PyData} {pos p2 p3 : Pos} {D : Ends} {rest body : List Stmt} {σ : L2.St}
theorem xd_callA {nm : Str} {ps : List Str} {R : List PyData → PyData → Prop} {r : PyData} {j : Nat} (C : Wh X N sc k) (A : At X P w K mg base) (c : Cl P w K mg base j nm ps (spD K R)) (hj : j ≤ k) (hg : sc.names.lookup nm = some .globalImplicit) (ha : XL X B ρ H (e :: es) ds) (hR : R ds r)
    (hd : (nm == ("__debug__" : Str)) = false := by decide) (he : starEach (e :: es) X.env = (false, eval e X.env) :: starEach es X.env := by rfl) (hpl : (backTo pos (starEach es X.env)).any (·.1) = false := by rfl) : XD X B ρ H (.Call (.Name nm p2) (e :: es) [] pos) r :=
  xd_call (R := R) (ps := ps) C (cl_at A ((spD_k A R) ▸ c)) hj hg ha hR hd he hpl
theorem xf_callA {nm : Str} {ps : List Str} {R : List PyData → List PyData → Prop} {r : List PyData} {j : Nat} (C : Wh X N sc k) (A : At X P w K mg base) (c : Cl P w K mg base j nm ps (spF K R)) (hj : j ≤ k) (hg : sc.names.lookup nm = some .globalImplicit) (ha : XL X B ρ H (e :: es) ds) (hR : R ds r)
    (hd : (nm == ("__debug__" : Str)) = false := by decide) (he : starEach (e :: es) X.env = (false, eval e X.env) :: starEach es X.env := by rfl) (hpl : (backTo pos (starEach es X.env)).any (·.1) = false := by rfl) : XF X B ρ H (.Call (.Name nm p2) (e :: es) [] pos) r :=
  xf_call (R := R) (ps := ps) C (cl_at A ((spF_k A R) ▸ c)) hj hg ha hR hd he hpl
/-- name = [elt for ..] -/
theorem ws_lcA {y : Str} {i : Nat} {nm : Str} {n : Nat} {elt iter : Expr} {ifs : List Expr} {scope : Scope} {p4 p5 : Pos} {Bf : Hp → Hp} {α : Type} {xs : List α} {f : α → PyData} (kp : α → Bool) (vl : α → PyData) (C : Wh X N sc k) (A : At X P w K mg base) (W : Wd X) (hy : N[i]? = some y) (hyl : sc.names.lookup y = some .local)
    (hi : XI X B ρ H (.Name nm p3) iter Bf xs f) (hz : xs.length ≤ 100000)
    (ok : blkC N sc scope [(nm, n)] = true) (hx : (relS scope sc).names.lookup nm = some .local) (hN : N[n]? = some nm) (g : En X.K B H σ ρ)
    (ht : ∀ X', At X' P w K mg base → Wh X' N (relS scope sc) k → ∀ H2, ∀ a ∈ xs, XTs X' H2 (ρ.set n (.o (f a))) H2 ifs (kp a))
    (he : ∀ X', At X' P w K mg base → Wh X' N (relS scope sc) k → ∀ H2, ∀ a ∈ xs, kp a = true → XD X' H2 (ρ.set n (.o (f a))) H2 elt (vl a))
    (q : ∀ p zs σ' H', H p = none → Same H H' → H' p = some (.lst zs) → DqAll X.K H' zs ((xs.filter kp).map vl) → En X.K B H' σ' (ρ.set i (.v (.ref p))) → WS X rest D σ' H')
    (hline : (p4.line == p5.line) = true := by rfl) (hne : (scope.names.any fun (n, k) => n == y && (k == .local || k == .cell)) = false := by decide +kernel) (hk : sc.kind = .function := by rfl)
    (hs : ∀ y, foldedSetIterable iter X.env y = pure y := by intro _; rfl) (hsw : (pos.line == p5.line) = true := by rfl) : WS X (.Assign [.Name y p4] (.ListComp elt [⟨.Name nm p3, iter, ifs, 0⟩] scope p5) pos :: rest) D σ H :=
  ws_lc kp vl C W hy hyl hi hz ok hx hN g (fun s H0 Ca cl fp H2 _ a ha => ht _ (A.blk s H0 scope Ca cl fp) (C.blk s H0 scope Ca cl fp) H2 a ha) (fun s H0 Ca cl fp H2 _ a ha hk => he _ (A.blk s H0 scope Ca cl fp) (C.blk s H0 scope Ca cl fp) H2 a ha hk) q hline hne hk hs hsw
theorem xf_lcA {nm : Str} {n : Nat} {elt iter : Expr} {ifs : List Expr} {scope : Scope} {Bf : Hp → Hp} {α : Type} {xs : List α} {f : α → PyData} (kp : α → Bool) (vl : α → PyData) (C : Wh X N sc k) (A : At X P w K mg base) (hi : XI X B ρ H (.Name nm p3) iter Bf xs f) (hz : xs.length ≤ 100000)
    (ok : blkC N sc scope [(nm, n)] = true) (hx : (relS scope sc).names.lookup nm = some .local) (hN : N[n]? = some nm)
    (ht : ∀ X', At X' P w K mg base → Wh X' N (relS scope sc) k → ∀ H2, ∀ a ∈ xs, XTs X' H2 (ρ.set n (.o (f a))) H2 ifs (kp a))
    (he : ∀ X', At X' P w K mg base → Wh X' N (relS scope sc) k → ∀ H2, ∀ a ∈ xs, kp a = true → XD X' H2 (ρ.set n (.o (f a))) H2 elt (vl a))
    (hs : ∀ y, foldedSetIterable iter X.env y = pure y := by intro _; rfl) : XF X B ρ H (.ListComp elt [⟨.Name nm p3, iter, ifs, 0⟩] scope pos) ((xs.filter kp).map vl) :=
  xf_lc kp vl C hi hz ok hx hN (fun s H0 Ca cl fp H2 _ a ha => ht _ (A.blk s H0 scope Ca cl fp) (C.blk s H0 scope Ca cl fp) H2 a ha) (fun s H0 Ca cl fp H2 _ a ha hk => he _ (A.blk s H0 scope Ca cl fp) (C.blk s H0 scope Ca cl fp) H2 a ha hk) hs
/-- all of them -/
theorem xf_all {nm : Str} {n : Nat} {elt iter : Expr} {scope : Scope} {Bf : Hp → Hp} {α : Type} {xs : List α} {f : α → PyData} (vl : α → PyData) (C : Wh X N sc k) (A : At X P w K mg base) (hi : XI X B ρ H (.Name nm p3) iter Bf xs f) (hz : xs.length ≤ 100000)
    (ok : blkC N sc scope [(nm, n)] = true) (hx : (relS scope sc).names.lookup nm = some .local) (hN : N[n]? = some nm)
    (he : ∀ X', At X' P w K mg base → Wh X' N (relS scope sc) k → ∀ H2, ∀ a ∈ xs, XD X' H2 (ρ.set n (.o (f a))) H2 elt (vl a))
    (hs : ∀ y, foldedSetIterable iter X.env y = pure y := by intro _; rfl) : XF X B ρ H (.ListComp elt [⟨.Name nm p3, iter, [], 0⟩] scope pos) (xs.map vl) := by
  have h := xf_lcA (pos := pos) (ρ := ρ) (kp := fun _ => true) (vl := vl) C A hi hz ok hx hN (ifs := []) (fun _ _ _ _ _ _ => xts_nil) (fun X' a c H2 x hx _ => he X' a c H2 x hx) hs
  rwa [List.filter_eq_self.mpr (fun _ _ => rfl)] at h
theorem nn {H H' : Hp} {p : Addr} (s : Same H H') (h : H' p = none) : H p = none := by
  cases e : H p with
  | none => rfl
  | some o => rw [s p o e] at h; cases h
/-- return of a new list -/
theorem ws_retF (h : XF X B ρ H e ds) (g : En X.K B H σ ρ) (q : ∀ p xs H', H p = none → Same H H' → H' p = some (.lst xs) → DqAll X.K H' xs ds → D.rt (.ref p) H') : WS X (.Return (some e) pos :: rest) D σ H :=
  ws_ret h g fun v H' a ⟨p, xs, e1, hp, hx, hq⟩ => by subst e1; exact q p xs H' hp a hx hq
end
theorem df_go {x : Str} {st : Stmt} {N ps : List Str} {k : Nat} {sp : Sp} (F : Df K mg x st ps) (S : FnScope N ps (defScope st)) (len : ∀ vs H Q E, sp vs H Q E → vs.length = ps.length)
    (h : ∀ (X : Cx) (H : Hp) (vs : List V) (Q : VK) (E : XK), At X P w K mg base → Wh X N (defScope st) k → Wd X → sp vs H Q E → WS X (defBody st) { nx := fun _ H' => Q .non H', rt := Q } (L2.start N vs) H) : Cl P w K mg base (k + 1) x ps sp := by
  obtain ⟨f, fd, F, hm, hb⟩ := F
  exact cl_go F hm hb S len fun X H vs Q E e1 e2 e3 e4 e5 => h X H vs Q E ⟨e1, e2, e3, e4, e5⟩
/-- data in, data out -/
theorem df_D {x : Str} {st : Stmt} {N ps : List Str} {k : Nat} {R : List PyData → PyData → Prop} (F : Df K mg x st ps) (S : FnScope N ps (defScope st)) (len : ∀ ds r, R ds r → ds.length = ps.length)
    (h : ∀ (X : Cx) (H : Hp) (ds : List PyData) (r : PyData) (σ : L2.St) (D : Ends), At X P w K mg base → Wh X N (defScope st) k → Wd X → R ds r → En X.K H H σ (ds.map Sl.o ++ List.replicate (N.length - ds.length) .x) →
      (∀ v H', Same H H' → Dq X.K H' v r → D.rt v H') → (∀ σ H', Same H H' → r = .none → D.nx σ H') → WS X (defBody st) D σ H) : Cl P w K mg base (k + 1) x ps (spD K R) :=
  df_go F S (spD_len len) fun X H vs Q E A C W hs => by
    obtain ⟨ds, r, hv, hR, q⟩ := hs
    exact h X H ds r _ _ A C W hR (en_start (by rw [A.k]; exact hv)) (fun v H' s d => q v H' s (by rw [← A.k]; exact d)) (fun _ H' s e => q _ H' s (by rw [e]; exact .non))
theorem df_F {x : Str} {st : Stmt} {N ps : List Str} {k : Nat} {R : List PyData → List PyData → Prop} (F : Df K mg x st ps) (S : FnScope N ps (defScope st)) (len : ∀ ds r, R ds r → ds.length = ps.length)
    (h : ∀ (X : Cx) (H : Hp) (ds : List PyData) (r : List PyData) (σ : L2.St) (D : Ends), At X P w K mg base → Wh X N (defScope st) k → Wd X → R ds r → En X.K H H σ (ds.map Sl.o ++ List.replicate (N.length - ds.length) .x) →
      (∀ p xs H', H p = none → Same H H' → H' p = some (.lst xs) → DqAll X.K H' xs r → D.rt (.ref p) H') → (∀ p H', H p = none → Same H H' → HL X.K H' p r → D.rt (.ref p) H') → WS X (defBody st) D σ H) : Cl P w K mg base (k + 1) x ps (spF K R) :=
  df_go F S (spF_len len) fun X H vs Q E A C W hs => by
    obtain ⟨ds, r, hv, hR, q⟩ := hs
    have q' : ∀ p xs H', H p = none → Same H H' → H' p = some (.lst xs) → DqAll X.K H' xs r → Q (.ref p) H' := fun p xs H' hp s hx d => q p xs H' hp s hx (by rw [← A.k]; exact d)
    exact h X H ds r _ _ A C W hR (en_start (by rw [A.k]; exact hv)) q' (fun p H' hp s ⟨xs, a, b, _⟩ => q' p xs H' hp s a b)
end
end Pr

/-! ## Fw6.lean -/
set_option Elab.async false
set_option linter.all false
set_option maxRecDepth 100000
set_option maxHeartbeats 4000000
namespace Pr
open PySem PySem.Spec PyProof.Rows L2
section
variable {X : Cx} {N : List Str} {sc : Scope} {k : Nat} {B : Hp} {ρ : List Sl} {H H' : Hp} {e e' : Expr} {es : List Expr} {d : PyData} {w : V} {ds : List PyData} {pos p2 p3 : Pos} {D : Ends} {rest body : List Stmt} {σ : L2.St}
theorem set_own {α : Type} {l : List α} {i : Nat} {a : α} (h : l[i]? = some a) : l.set i a = l := by
  induction l generalizing i with
  | nil => rfl
  | cons b l ih =>
    cases i with
    | zero => simp at h; rw [h]; rfl
    | succ i => rw [List.set_cons_succ, ih (by simpa using h)]
theorem En.frz {K : PySem.W.Frag} (g : En K B H σ ρ) {i : Nat} {v : V} (h : ρ[i]? = some (.v v)) (q : Dq K H v d) : En K H H σ (ρ.set i (.o d)) := by
  have e := g.getV h
  have r := g.now.set (v := v) (s := .o d) i ⟨v, rfl, q⟩
  rwa [set_own e] at r
/-- all but one stay -/
def But (p : Addr) (H H' : Hp) : Prop := ∀ b, b ≠ p → ∀ o, H b = some o → H' b = some o
theorem HL.but {K : PySem.W.Frag} {p q : Addr} (h : HL K H q ds) (l : Lt H H') (o : But p H H') (n : q ≠ p) : HL K H' q ds := by
  obtain ⟨xs, h1, h2, h3⟩ := h
  exact ⟨xs, o q n _ h1, dqAll_lt l h2 h3, h3⟩
theorem but_upd {p : Addr} {ho : HO} (a : Same H H') : But p H (upd H' p ho) := fun b n o e => by
  unfold upd
  rw [if_neg n]
  exact a b o e
theorem HL.dq {K : PySem.W.Frag} {p : Addr} (h : HL K H p ds) : Dq K H (.ref p) (.list ds) := by
  obtain ⟨xs, h1, h2, _⟩ := h
  exact .lst (SqL.of h1) h2
theorem HL.of {K : PySem.W.Frag} {p : Addr} {xs : List V} (h : H p = some (.lst xs)) (q : DqAll K H xs ds) (i : immAll ds = true) : HL K H p ds := ⟨xs, h, q, i⟩
theorem HL.ne {K : PySem.W.Frag} {p q : Addr} (h : HL K H q ds) (n : H p = none) : q ≠ p := fun e => by
  obtain ⟨xs, h1, _⟩ := h
  rw [e, n] at h1
  cases h1
/-- xs.clear() -/
theorem ws_clear {p : Addr} {o : Expr} {apos : Pos} (ho : XV X B ρ H o (.ref p)) (g : En X.K B H σ ρ) (hp : HL X.K H p ds) (hb : B p = none)
    (q : ∀ H', HL X.K H' p [] → Lt H H' → But p H H' → En X.K B H' σ ρ → WS X rest D σ H')
    (hs : swapsWith (.Call (.Attribute o "clear" apos) [] [] p2) none pos.line X.env = pure false := by rfl) (hbase : attributeBase o "clear" X.env (eval o X.env) = eval o X.env := by rfl)
    (hline : (apos.endLine == p2.line) = true := by rfl) : WS X (.Expr (.Call (.Attribute o "clear" apos) [] [] p2) pos :: rest) D σ H :=
  ws_cons (w1 (ps_expr (pe_bm0 PySem.F.plainAttrs_list PySem.F.slot_list_clear PySem.F.type_list_clear mt_clear pe_w hbase hline) hs)
    (ho σ H (Same.refl _) g _ fun v H2 a2 ev => by
      subst ev
      obtain ⟨xs, hp, _⟩ := hp
      refine ⟨.inl ⟨rfl, xs, SqL.of (a2 _ _ hp)⟩, ?_⟩
      exact ⟨p, xs, rfl, rfl, a2 _ _ hp, q _ ⟨[], upd_same, .nil, rfl⟩ ((Same.lt a2).trans (Lt.upd (Wr.lst (a2 _ _ hp)))) (but_upd a2) ((g.mono a2).write hb (Wr.lst (a2 _ _ hp)))⟩))
/-- xs.append(e), told by what stays -/
theorem ws_appE {p : Addr} {o : Expr} {apos : Pos} (ho : XV X B ρ H o (.ref p)) (h : XD X B ρ H e d) (hd : imm d = true) (g : En X.K B H σ ρ) (hb : B p = none) (hp : HL X.K H p ds) (hz : ds.length ≤ 1000000)
    (q : ∀ H', HL X.K H' p (ds ++ [d]) → Lt H H' → But p H H' → En X.K B H' σ ρ → WS X rest D σ H')
    (hs : swapsWith (.Call (.Attribute o "append" apos) [e] [] p2) none pos.line X.env = pure false := by rfl) (hbase : attributeBase o "append" X.env (eval o X.env) = eval o X.env := by rfl)
    (hfew : ((backTo p2 (starEach [e] X.env)).all (fun x => !x.1) && (backToKw p2 (keywordEach [] X.env)).all (fun x => x.1.isSome)
      && decide ([e].length + ([] : List Keyword).length + (if ([] : List Keyword).isEmpty then 0 else 1) < 30)) = true := by rfl)
    (hline : (apos.endLine == p2.line) = true := by rfl) (hst : starEach [e] X.env = (false, eval e X.env) :: starEach [] X.env := by rfl) : WS X (.Expr (.Call (.Attribute o "append" apos) [e] [] p2) pos :: rest) D σ H := by
  obtain ⟨xs, hp, hx, hi⟩ := hp
  refine ws_app ho h g hp (by rw [hx.len]; exact hz) (fun v H1 H2 a1 a2 pv => ?_) hs hbase hfew hline hst
  have a := a1.trans a2
  have hp2 := a _ _ hp
  exact q _ (HL.snoc hp2 (dqAll_same a hx) hi pv hd) ((Same.lt a).trans (Lt.upd (Wr.lst hp2))) (but_upd a) ((g.mono a).write hb (Wr.lst hp2))
theorem But.same {p : Addr} (s : Same H H') : But p H H' := fun b _ o e => s b o e
/-- return of just this value -/
theorem ws_retV (h : XV X B ρ H e w) (g : En X.K B H σ ρ) (q : ∀ H', Same H H' → D.rt w H') : WS X (.Return (some e) pos :: rest) D σ H :=
  ws_ret h g fun v H' a e => by subst e; exact q H' a
theorem immAll_map {α : Type} {f : α → PyData} (h : ∀ a, imm (f a) = true) : ∀ xs : List α, immAll (xs.map f) = true
  | [] => rfl
  | a :: xs => by rw [List.map_cons, immAll, h a, immAll_map h xs]; rfl
theorem take_snoc {α : Type} {xs : List α} {m : Nat} {a : α} (h : xs[m]? = some a) : xs.take (m + 1) = xs.take m ++ [a] := by
  rw [List.take_add_one, h]
  rfl
end
section
variable {P : Program} {w : World} {K : PySem.W.Frag} {mg : Str → Option Value} {base : Heap}
/-- what the law is asked: a list of ints, at most 63 -/
def spL (K : PySem.W.Frag) : Sp := fun vs H Q _ => ∃ (a : Addr) (ns : List Int), vs = [.ref a] ∧ SqL K H a (ns.map V.int) ∧ ns.length ≤ 63 ∧ ∀ H', Q (.bl true) H'
theorem df_L {x : Str} {st : Stmt} {N ps : List Str} {k : Nat} {f : Addr} {fd : FuncData} (F : Fun K x x st f fd) (S : FnScope N ps (defScope st)) (hps : ps.length = 1)
    (h : ∀ (X : Cx) (H : Hp) (ns : List Int) (σ : L2.St) (D : Ends), At X P w K mg base → Wh X N (defScope st) k → Wd X → ns.length ≤ 63 → En X.K H H σ ([Sl.o (.list (ns.map .int))] ++ List.replicate (N.length - 1) .x) →
      (∀ v H', Same H H' → Dq X.K H' v (.bool true) → D.rt v H') → WS X (defBody st) D σ H) : FnOk P w K mg base CX0 (k + 1) f fd ps (spL K) :=
  fun_go F S (fun vs H Q E ⟨a, ns, e, _⟩ => by rw [e, hps]; rfl) fun X H vs Q E e1 e2 e3 e4 e5 C W ⟨a, ns, e, hs, hl, q⟩ => by
    subst e
    have g := en_start (K := X.K) (N := N) (vs := [.ref a]) (ds := [.list (ns.map PyData.int)]) (.cons (.lst (by rw [e3]; exact hs) (dqAll_ints ns)) .nil)
    exact h X H ns _ _ ⟨e1, e2, e3, e4, e5⟩ C W hl g fun v H' s d => by rw [dq_bl d]; exact q H'
theorem df_of {x : Str} {st : Stmt} {f : Addr} {fd : FuncData} {ps : List Str} (F : Fun K x x st f fd) (hm : mg x = some (.ref f)) (hb : Binds K fd ps []) : Df K mg x st ps := ⟨f, fd, F, hm, hb⟩
theorem walk_law {l : PySem.W.OpenLaw} {k : Nat} {q : Program} {loose : List Str} {XP : (Str → Option Value) → Heap → Prop} {YP : World → Heap → Prop} {d : DefRec} {K : Params → PySem.W.Frag} (hk : Room k callerA) (hn : l.most = some 63) (hdf : d.params.defaults = [])
    (hY : ∀ (w : World) (h : Heap), YP w h → (K w.params).In h)
    (F : ∀ (w : World) (mg : Str → Option Value) (fa : Addr) (h : Heap), (K w.params).In h → h.Ns mainGlobals mg → mg d.name = some (.ref fa) →
      ∃ fd : FuncData, (∀ (s : Shared) (u : Value), BindsTo s fd ⟨[u], []⟩ [("_law_script", u)]) ∧ ∀ base : Heap, (K w.params).In base → base.Ns mainGlobals mg → FnOk l.prog w (K w.params) mg base CX0 k fa fd ["_law_script"] (spL (K w.params))) :
    PySem.W.WalkO q loose XP YP l.row.toRowW d [] (fun f vs => PySem.call f vs) :=
  L2.walk_of (n := 63) (k := k) (x := "_law_script") (CX := fun _ => CX0) (sp := fun w => spL (K w.params)) hn (by decide) hdf hk hY F (fun _ _ a ns hl _ hS => ⟨a, ns, rfl, hS, hl, fun _ => rfl⟩) fun _ _ _ _ _ z => z
end
end Pr

/-! ## Fw7.lean -/
set_option Elab.async false
set_option linter.all false
set_option maxRecDepth 100000
set_option maxHeartbeats 4000000
namespace Pr
open PySem PySem.Spec PyProof.Rows L2
section
variable {X : Cx} {N : List Str} {sc : Scope} {k : Nat} {B : Hp} {ρ : List Sl} {H H' : Hp} {e e' : Expr} {es : List Expr} {d : PyData} {w : V} {ds : List PyData} {pos p2 p3 p4 : Pos} {D : Ends} {rest body : List Stmt} {σ : L2.St} {i j : Int}
/-- {} -/
theorem xd_dict0 : XD X B ρ H (.Dict [] [] pos) (.dict []) :=
  xp_of pe_dnewK fun σ H1 a g Q q p hp => q _ _ (Same.new hp) (.dct upd_same)
/-- {i: e} -/
theorem xd_dict1 {t : Nat} (h : XD X B ρ H e d) : XD X B ρ H (.Dict [some (.Constant (.int i) t p2)] [e] pos) (.dict []) :=
  xp_of (pe_disp (pps_cons pe_int pe_w pps_nil) rfl rfl (by simp) (by simp)) fun σ H1 a g Q q p hp =>
    h σ _ (a.trans (Same.new hp)) (g.mono (Same.new hp)) _ fun v H2 a2 dq => ⟨a2 _ _ upd_same, [(.inl i, v)], rfl, by simp, q _ _ (Same.mut ((Same.new hp).trans a2) hp) (.dct upd_same)⟩
/-- the constant sums and powers of a text -/
theorem xd_powC {a b : Int} (h1 : XD X B ρ H e (.int a)) (h2 : XD X B ρ H e' (.int b)) (hc : CPow a b) : XD X B ρ H (.BinOp e .Pow e' pos) (.int (a ^ b.toNat)) := xd_pow h1 h2 hc
/-! ### one way at a time -/
section
variable {op : Operator} {uop : UnaryOp} {bop : BoolOp} {d1 d2 d' : PyData} {f : Expr} {ops : List CmpOp} {b : Bool} {c : Const} {jj : Nat} {att : Str} {P : Hp → V → Hp → Prop}
theorem tDict (h : XD X B ρ H e d) : XP X B ρ H e fun _ v H2 => Dq X.K H2 v d := h
theorem viaBin (h1 : XD X B ρ H e d1) (h2 : XD X B ρ H e' d2) (h : XD X B ρ H e d1 → XD X B ρ H e' d2 → XD X B ρ H (.BinOp e op e' pos) d) : XD X B ρ H (.BinOp e op e' pos) d := h h1 h2
theorem viaUn (h1 : XD X B ρ H e d1) (h : XD X B ρ H e d1 → XD X B ρ H (.UnaryOp uop e pos) d) : XD X B ρ H (.UnaryOp uop e pos) d := h h1
theorem viaSub (h1 : XD X B ρ H e d1) (h : XD X B ρ H e d1 → XD X B ρ H (.Subscript e e' pos) d) : XD X B ρ H (.Subscript e e' pos) d := h h1
theorem viaLen (h1 : XD X B ρ H e d1) (h : XD X B ρ H e d1 → XD X B ρ H (.Call (.Name "len" p2) [e] [] pos) d) : XD X B ρ H (.Call (.Name "len" p2) [e] [] pos) d := h h1
theorem tName {x : Str} (h : XD X B ρ H (.Name x pos) d) : XD X B ρ H (.Name x pos) d := h
theorem tCmp (h : XD X B ρ H (.Compare e ops es pos) d) : XD X B ρ H (.Compare e ops es pos) d := h
theorem tBool (h : XD X B ρ H (.BoolOp bop es pos) d) : XD X B ρ H (.BoolOp bop es pos) d := h
theorem tCall (h : XD X B ρ H (.Call f es [] pos) d) : XD X B ρ H (.Call f es [] pos) d := h
theorem tTCmp (h : XT X B ρ H (.Compare e ops es pos) b) : XT X B ρ H (.Compare e ops es pos) b := h
theorem tTBool (h : XW X B ρ H (.BoolOp bop es pos) b) : XT X B ρ H (.BoolOp bop es pos) b := xw_t h
theorem xt_vN {x : Str} (h : XD X B ρ H (.Name x pos) (.bool b)) : XT X B ρ H (.Name x pos) b := xt_val h
theorem xt_vC (h : XD X B ρ H (.Call f es [] pos) (.bool b)) : XT X B ρ H (.Call f es [] pos) b := xt_val h
theorem xt_vK (h : XD X B ρ H (.Constant c jj pos) (.bool b)) : XT X B ρ H (.Constant c jj pos) b := xt_val h
theorem xt_vS (h : XD X B ρ H (.Subscript e e' pos) (.bool b)) : XT X B ρ H (.Subscript e e' pos) b := xt_val h
end
/-! ### slices of tuples and lists from or to a place -/
theorem xd_slTf (h : XD X B ρ H e (.tuple ds)) (h2 : XD X B ρ H e' (.int i)) (h0 : 0 ≤ i) : XD X B ρ H (.Subscript e (.Slice (some e') none none p2) pos) (.tuple (ds.drop i.toNat)) := by
  rw [← cutA_fromI ds h0]
  exact xd_slT h (xo_some h2) xo_none
theorem xd_slTt (h : XD X B ρ H e (.tuple ds)) (h2 : XD X B ρ H e' (.int i)) (h0 : 0 ≤ i) : XD X B ρ H (.Subscript e (.Slice none (some e') none p2) pos) (.tuple (ds.take i.toNat)) := by
  rw [← cutA_toI ds h0]
  exact xd_slT h xo_none (xo_some h2)
theorem xf_slLf (h : XD X B ρ H e (.list ds)) (h2 : XD X B ρ H e' (.int i)) (h0 : 0 ≤ i) : XF X B ρ H (.Subscript e (.Slice (some e') none none p2) pos) (ds.drop i.toNat) := by
  rw [← cutA_fromI ds h0]
  exact xf_slL h (xo_some h2) xo_none
theorem xf_slLt (h : XD X B ρ H e (.list ds)) (h2 : XD X B ρ H e' (.int i)) (h0 : 0 ≤ i) : XF X B ρ H (.Subscript e (.Slice none (some e') none p2) pos) (ds.take i.toNat) := by
  rw [← cutA_toI ds h0]
  exact xf_slL h xo_none (xo_some h2)
theorem cutA_last {α : Type} (xs : List α) : cutA xs none (some (-1)) = xs.dropLast := by
  unfold cutA
  rw [List.dropLast_eq_take]
  cases xs with
  | nil => rfl
  | cons x xs =>
    have h0 : HT.sIx (x :: xs).length 0 none = 0 := rfl
    have h1 : HT.sIx (x :: xs).length (x :: xs).length (some (-1)) = (x :: xs).length - 1 := by
      simp only [HT.sIx, List.length_cons]
      split <;> omega
    rw [h0, h1, List.drop_zero, Nat.sub_zero]
theorem xd_slT1 {n : Nat} (h : XD X B ρ H e (.tuple ds)) : XD X B ρ H (.Subscript e (.Slice none (some (.UnaryOp .USub (.Constant (.int 1) n p2) p3)) none p4) pos) (.tuple ds.dropLast) := by
  rw [← cutA_last]
  exact xd_slT h xo_none (xo_some (xd_neg xd_int))
theorem xf_slL1 {n : Nat} (h : XD X B ρ H e (.list ds)) : XF X B ρ H (.Subscript e (.Slice none (some (.UnaryOp .USub (.Constant (.int 1) n p2) p3)) none p4) pos) ds.dropLast := by
  rw [← cutA_last]
  exact xf_slL h xo_none (xo_some (xd_neg xd_int))
theorem atI_m {α : Type} {xs : List α} {n : Int} (i : Int) (a0 : α) (h0 : 0 < n) (h : (xs.length : Int) = n) : atI xs (i % n) = some (xs.getD (i % n).toNat a0) := by
  subst h
  exact atI_mod (by omega) rfl a0
/-- a, b = e: of immutables -/
theorem ws_twoD {x y : Str} {i j n : Nat} {d1 d2 : PyData} (C : Wh X N sc k) (W : Wd X) (hi : N[i]? = some x) (hj : N[j]? = some y) (hx : L2.Loc sc x) (hy : L2.Loc sc y) (h : XD X B ρ H e (.tuple [d1, d2])) (h1 : imm d1 = true) (h2 : imm d2 = true) (g : En X.K B H σ ρ)
    (q : ∀ σ' H', Same H H' → En X.K B H' σ' ((ρ.set i (.d d1)).set j (.d d2)) → WS X rest D σ' H')
    (hs : swapsWithSole [.Tuple [.Name x p2, .Name y p3] n p4] e pos.line X.env = pure false := by rfl) (hw : swappedStores [.Tuple [.Name x p2, .Name y p3] n p4] e X.env = pure none := by rfl) : WS X (.Assign [.Tuple [.Name x p2, .Name y p3] n p4] e pos :: rest) D σ H :=
  ws_two C W hi hj hx hy h g (fun v1 v2 H' a q1 q2 => q _ H' a (En.set (s := .d d2) (En.set (s := .d d1) (g.mono a) i ⟨v1, rfl, q1, h1⟩) j ⟨v2, rfl, q2, h2⟩)) hs hw
/-! ### isinstance, without unfolding -/
structure Boot (T : Str) (U : String) : Prop where
  out : bootBuiltins T = some (.type U)
structure Isi (d : PyData) (U : String) (b : Bool) : Prop where
  out : kitB (tyD d) U = some b
theorem boot_int : Boot "int" "int" := ⟨PyProof.Rows.boot_int⟩
theorem boot_str : Boot "str" "str" := ⟨PyProof.Rows.boot_str⟩
theorem boot_bool : Boot "bool" "bool" := ⟨PyProof.Rows.boot_bool⟩
theorem boot_tuple : Boot "tuple" "tuple" := ⟨PyProof.Rows.boot_tuple⟩
theorem boot_list : Boot "list" "list" := ⟨PyProof.Rows.boot_list⟩
theorem boot_dict : Boot "dict" "dict" := ⟨PyProof.Rows.boot_dict⟩
theorem isi_none_int : Isi .none "int" false := ⟨show kitB "NoneType" "int" = some false from by decide +kernel⟩
theorem isi_none_str : Isi .none "str" false := ⟨show kitB "NoneType" "str" = some false from by decide +kernel⟩
theorem isi_none_bool : Isi .none "bool" false := ⟨show kitB "NoneType" "bool" = some false from by decide +kernel⟩
theorem isi_none_tuple : Isi .none "tuple" false := ⟨show kitB "NoneType" "tuple" = some false from by decide +kernel⟩
theorem isi_none_list : Isi .none "list" false := ⟨show kitB "NoneType" "list" = some false from by decide +kernel⟩
theorem isi_none_dict : Isi .none "dict" false := ⟨show kitB "NoneType" "dict" = some false from by decide +kernel⟩
theorem isi_bool_int {x : Bool} : Isi (.bool x) "int" true := ⟨show kitB "bool" "int" = some true from by decide +kernel⟩
theorem isi_bool_str {x : Bool} : Isi (.bool x) "str" false := ⟨show kitB "bool" "str" = some false from by decide +kernel⟩
theorem isi_bool_bool {x : Bool} : Isi (.bool x) "bool" true := ⟨show kitB "bool" "bool" = some true from by decide +kernel⟩
theorem isi_bool_tuple {x : Bool} : Isi (.bool x) "tuple" false := ⟨show kitB "bool" "tuple" = some false from by decide +kernel⟩
theorem isi_bool_list {x : Bool} : Isi (.bool x) "list" false := ⟨show kitB "bool" "list" = some false from by decide +kernel⟩
theorem isi_bool_dict {x : Bool} : Isi (.bool x) "dict" false := ⟨show kitB "bool" "dict" = some false from by decide +kernel⟩
theorem isi_int_int {x : Int} : Isi (.int x) "int" true := ⟨show kitB "int" "int" = some true from by decide +kernel⟩
theorem isi_int_str {x : Int} : Isi (.int x) "str" false := ⟨show kitB "int" "str" = some false from by decide +kernel⟩
theorem isi_int_bool {x : Int} : Isi (.int x) "bool" false := ⟨show kitB "int" "bool" = some false from by decide +kernel⟩
theorem isi_int_tuple {x : Int} : Isi (.int x) "tuple" false := ⟨show kitB "int" "tuple" = some false from by decide +kernel⟩
theorem isi_int_list {x : Int} : Isi (.int x) "list" false := ⟨show kitB "int" "list" = some false from by decide +kernel⟩
theorem isi_int_dict {x : Int} : Isi (.int x) "dict" false := ⟨show kitB "int" "dict" = some false from by decide +kernel⟩
theorem isi_str_int {x : Str} : Isi (.str x) "int" false := ⟨show kitB "str" "int" = some false from by decide +kernel⟩
theorem isi_str_str {x : Str} : Isi (.str x) "str" true := ⟨show kitB "str" "str" = some true from by decide +kernel⟩
theorem isi_str_bool {x : Str} : Isi (.str x) "bool" false := ⟨show kitB "str" "bool" = some false from by decide +kernel⟩
theorem isi_str_tuple {x : Str} : Isi (.str x) "tuple" false := ⟨show kitB "str" "tuple" = some false from by decide +kernel⟩
theorem isi_str_list {x : Str} : Isi (.str x) "list" false := ⟨show kitB "str" "list" = some false from by decide +kernel⟩
theorem isi_str_dict {x : Str} : Isi (.str x) "dict" false := ⟨show kitB "str" "dict" = some false from by decide +kernel⟩
theorem isi_list_int {x : List PyData} : Isi (.list x) "int" false := ⟨show kitB "list" "int" = some false from by decide +kernel⟩
theorem isi_list_str {x : List PyData} : Isi (.list x) "str" false := ⟨show kitB "list" "str" = some false from by decide +kernel⟩
theorem isi_list_bool {x : List PyData} : Isi (.list x) "bool" false := ⟨show kitB "list" "bool" = some false from by decide +kernel⟩
theorem isi_list_tuple {x : List PyData} : Isi (.list x) "tuple" false := ⟨show kitB "list" "tuple" = some false from by decide +kernel⟩
theorem isi_list_list {x : List PyData} : Isi (.list x) "list" true := ⟨show kitB "list" "list" = some true from by decide +kernel⟩
theorem isi_list_dict {x : List PyData} : Isi (.list x) "dict" false := ⟨show kitB "list" "dict" = some false from by decide +kernel⟩
theorem isi_tuple_int {x : List PyData} : Isi (.tuple x) "int" false := ⟨show kitB "tuple" "int" = some false from by decide +kernel⟩
theorem isi_tuple_str {x : List PyData} : Isi (.tuple x) "str" false := ⟨show kitB "tuple" "str" = some false from by decide +kernel⟩
theorem isi_tuple_bool {x : List PyData} : Isi (.tuple x) "bool" false := ⟨show kitB "tuple" "bool" = some false from by decide +kernel⟩
theorem isi_tuple_tuple {x : List PyData} : Isi (.tuple x) "tuple" true := ⟨show kitB "tuple" "tuple" = some true from by decide +kernel⟩
theorem isi_tuple_list {x : List PyData} : Isi (.tuple x) "list" false := ⟨show kitB "tuple" "list" = some false from by decide +kernel⟩
theorem isi_tuple_dict {x : List PyData} : Isi (.tuple x) "dict" false := ⟨show kitB "tuple" "dict" = some false from by decide +kernel⟩
theorem isi_dict_int {x : List (PyData × PyData)} : Isi (.dict x) "int" false := ⟨show kitB "dict" "int" = some false from by decide +kernel⟩
theorem isi_dict_str {x : List (PyData × PyData)} : Isi (.dict x) "str" false := ⟨show kitB "dict" "str" = some false from by decide +kernel⟩
theorem isi_dict_bool {x : List (PyData × PyData)} : Isi (.dict x) "bool" false := ⟨show kitB "dict" "bool" = some false from by decide +kernel⟩
theorem isi_dict_tuple {x : List (PyData × PyData)} : Isi (.dict x) "tuple" false := ⟨show kitB "dict" "tuple" = some false from by decide +kernel⟩
theorem isi_dict_list {x : List (PyData × PyData)} : Isi (.dict x) "list" false := ⟨show kitB "dict" "list" = some false from by decide +kernel⟩
theorem isi_dict_dict {x : List (PyData × PyData)} : Isi (.dict x) "dict" true := ⟨show kitB "dict" "dict" = some true from by decide +kernel⟩
theorem xd_isiA {T : Str} {U : String} {b : Bool} (C : Wh X N sc k) (bi : Bi X sc "isinstance") (bt : Bi X sc T) (hT : Boot T U) (h : XD X B ρ H e d) (hk : Isi d U b) (hn : T ≠ "__name__" := by decide) (hd : (T == ("__debug__" : Str)) = false := by decide)
    (he : ∀ t, starEach [e, .Name T t] X.env = [(false, eval e X.env), (false, eval (.Name T t) X.env)] := by intro t; rfl) : XD X B ρ H (.Call (.Name "isinstance" p2) [e, .Name T p3] [] pos) (.bool b) := xd_isi C bi bt hT.out h hk.out hn hd he
/-- a constant of the top -/
theorem xd_gstrA {P : Program} {w : World} {K : PySem.W.Frag} {mg : Str → Option Value} {base : Heap} {x z : Str} {l : List Nat} (C : Wh X N sc k) (A : At X P w K mg base) (hg : sc.names.lookup x = some .globalImplicit) (hm : ∃ t, mg x = some (.str z t)) (hz : z = S l) (hd : (x == ("__debug__" : Str)) = false := by decide) : XD X B ρ H (.Name x pos) (.str (S l)) := by
  obtain ⟨t, hm⟩ := hm
  subst hz
  exact xd_gstr C hg (by rw [A.m]; exact hm) hd
theorem xd_gintA {P : Program} {w : World} {K : PySem.W.Frag} {mg : Str → Option Value} {base : Heap} {x : Str} {i : Int} (C : Wh X N sc k) (A : At X P w K mg base) (hg : sc.names.lookup x = some .globalImplicit) (hm : ∃ t, mg x = some (.int i t)) (hd : (x == ("__debug__" : Str)) = false := by decide) : XD X B ρ H (.Name x pos) (.int i) := by
  obtain ⟨t, hm⟩ := hm
  exact xd_gint C hg (by rw [A.m]; exact hm) hd
/-- the code points of a text -/
def tl (s : Str) : List Nat := s.cps.toList
theorem tl_S (l : List Nat) : tl (S l) = l := by simp [tl, S]
theorem S_tl (s : Str) : S (tl s) = s := by
  obtain ⟨a⟩ := s
  simp [tl, S]
end
/-! ### what is a state, a pile, a spot, a rule -/
def wholeD : PyData → Bool
  | .int _ => true
  | _ => false
def stateD (many : Int) : PyData → Bool
  | .int i => decide (0 ≤ i) && decide (i < many)
  | _ => false
def allL (l : List Nat) : Bool := l.all fun c => decide (c ∈ letters)
def pileD : PyData → Bool
  | .str s => allL (tl s)
  | _ => false
def spotD (many : Int) : PyData → Bool
  | .tuple [a, b] => stateD many a && pileD b
  | _ => false
def lenD : PyData → Nat
  | .str s => (tl s).length
  | _ => 0
def ruleD (many : Int) : PyData → Bool
  | .tuple [a, b, c, e] => pileD b && pileD e && decide (lenD b = 1) && decide (lenD e ≤ 2) && (stateD many a && stateD many c)
  | _ => false
inductive R_whole : List PyData → PyData → Prop
  | mk (d : PyData) : R_whole [d] (.bool (wholeD d))
inductive R_state : List PyData → PyData → Prop
  | mk (d : PyData) (many : Int) : R_state [d, .int many] (.bool (stateD many d))
inductive R_pile : List PyData → PyData → Prop
  | mk (d : PyData) : R_pile [d] (.bool (pileD d))
inductive R_isspot : List PyData → PyData → Prop
  | mk (d : PyData) (many : Int) : R_isspot [d, .int many] (.bool (spotD many d))
inductive R_isrule : List PyData → PyData → Prop
  | mk (d : PyData) (many : Int) (h : ∀ ds, d = .tuple ds → ∀ z ∈ ds, lenD z ≤ 1000000) : R_isrule [d, .int many] (.bool (ruleD many d))
/-! ### the laws' common words -/
inductive R_cell : List PyData → PyData → Prop
  | mk (ns : List Int) (k : Int) (h : 0 ≤ k) : R_cell [.list (ns.map .int), .int k] (.int (cellAt ns k))
theorem cellAt0 (ns : List Int) (i : Nat) : R_cell [.list (ns.map .int), .int i] (.int (cellAt ns i)) := .mk ns i (by omega)
theorem atI_cell {ns : List Int} {k : Int} (hk : 0 ≤ k) (hv : k < ns.length) : atI (ns.map PyData.int) k = some (.int (cellAt ns k)) := by
  obtain ⟨j, rfl⟩ : ∃ j : Nat, k = (j : Int) := ⟨k.toNat, by omega⟩
  have hj : j < ns.length := by omega
  refine atI_nat ?_
  unfold cellAt
  rw [if_pos hv, Int.toNat_natCast, List.getElem?_map, List.getElem?_eq_getElem hj, List.getD_eq_getElem?_getD, List.getElem?_eq_getElem hj]
  rfl
theorem mod_lt (i : Int) {n : Int} (h : 0 < n) : 0 ≤ i % n ∧ i % n < n := ⟨Int.emod_nonneg _ (by omega), Int.emod_lt_of_pos _ h⟩
/-- by place, among any data -/
theorem atI_mod' {xs : List PyData} (n : Nat) (hn : 0 < n) (h : xs.length = n) (i : Int) (a0 : PyData) : atI xs (i % (n : Int)) = some (xs.getD (i % (n : Int)).toNat a0) := atI_mod hn h a0
theorem atI_ints {xs : List Int} {n : Nat} (hn : 0 < n) (h : xs.length = n) (i : Int) : atI (xs.map PyData.int) (i % (n : Int)) = some (.int (xs.getD (i % (n : Int)).toNat 0)) := by
  have h1 := atI_mod (xs := xs.map PyData.int) (i := i) hn (by rw [List.length_map]; exact h) (.int 0)
  rw [h1, List.getD_eq_getElem?_getD, List.getD_eq_getElem?_getD, List.getElem?_map]
  cases xs[(i % (n : Int)).toNat]? <;> rfl
theorem atI_signs {xs : List Nat} {n : Nat} (hn : 0 < n) (h : xs.length = n) (i : Int) : atI (xs.map fun x => PyData.str (S [x])) (i % (n : Int)) = some (.str (S [xs.getD (i % (n : Int)).toNat 0])) := by
  have h1 := atI_mod (xs := xs.map fun x => PyData.str (S [x])) (i := i) hn (by rw [List.length_map]; exact h) (.str (S [0]))
  rw [h1, List.getD_eq_getElem?_getD, List.getD_eq_getElem?_getD, List.getElem?_map]
  cases xs[(i % (n : Int)).toNat]? <;> rfl
theorem getD_of {α : Type} {p : α → Prop} {xs : List α} (h : ∀ x ∈ xs, p x) {a : α} (ha : p a) (i : Nat) : p (xs.getD i a) := by
  rw [List.getD_eq_getElem?_getD]
  cases e : xs[i]? with
  | none => exact ha
  | some y => exact h y (List.mem_of_getElem? e)
end Pr

/-! ## LawA.lean -/
set_option Elab.async false
set_option linter.all false
set_option maxRecDepth 100000
set_option maxHeartbeats 4000000
namespace Pr
open PySem PySem.Spec PyProof.Rows L2
/-! ### what the first law draws -/
def textM (c n : Int) : List Nat := (List.range n.toNat).map fun (k : Nat) => letter (c / (1 + (k : Int)) + 7 * (k : Int))
def farOf (c : Int) : Int := c / 8 % 10 ^ (Int.toNat 30)
def oddState (c many : Int) : PyData := [PyData.int (-1), .int many, .int (many + farOf c), .int (-1 - farOf c), .bool true, .bool false, .none, .str (S [48]), .list [.int 0], .tuple [.int 1]].getD (c % 10).toNat .none
def someOdd : List Nat := [65, 66, 90, 123, 96, 48, 32, 57, 47, 95, 10, 45, 64]
theorem someOdd_S : ("ABZ{`0 9/_\n-@" : Str) = S someOdd := by decide +kernel
def oddOf (c : Int) (x : List Nat) : List Nat := x.take (c / 8 % ((x.length : Int) + 1)).toNat ++ [someOdd.getD (c / 64 % 13).toNat 0] ++ x.drop (c / 8 % ((x.length : Int) + 1)).toNat
def oddText (c : Int) (x : List Nat) : PyData := [PyData.str (S (oddOf c x)), .none, .int 5, .list [.str (S x)], .tuple [.str (S x)], .str (S (oddOf c x)), .dict [], .str (S (oddOf c x))].getD (c % 8).toNat .none
def spoiltF (row : List PyData) (cell many : Int) : PyData :=
  if cell % 7 = 0 then .tuple row
  else if cell % 7 = 1 then [PyData.list row, .tuple row.dropLast, .tuple (row ++ [.int 0]), .none, .int 7, .dict [], .str (S [97, 98]), .tuple []].getD (cell / 49 % 8).toNat .none
  else
    let at_ := (cell / 7 % (row.length : Int)).toNat
    let part := match row.getD at_ .none with
      | .str s => [oddText (cell / 49) (tl s), .str (S (tl s ++ textM (cell / 49) (1 + cell / 49 % 3))), .str (S [])].getD (cell % 3).toNat .none
      | _ => oddState (cell / 49) many
    .tuple (row.take at_ ++ [part] ++ row.drop (at_ + 1))
/-- texts of ASCII, not long -/
def OkS : PyData → Prop
  | .str s => okT (tl s) ∧ (tl s).length ≤ 1000
  | _ => True
def OkD (d : PyData) : Prop := OkS d ∧ ∀ ds, d = .tuple ds → ∀ z ∈ ds, OkS z
theorem okS_str {x : List Nat} (h : okT x) (hl : x.length ≤ 1000) : OkS (.str (S x)) := by
  show okT (tl (S x)) ∧ (tl (S x)).length ≤ 1000
  rw [tl_S]
  exact ⟨h, hl⟩
theorem letter_ok (i : Int) : letter i < 128 := by have := letter_lt i; omega
theorem letter_mem (i : Int) : letter i ∈ letters := by
  have h := atI_letters i
  have h1 := Int.emod_nonneg i (by decide : (26 : Int) ≠ 0)
  have h2 := Int.emod_lt_of_pos i (by decide : (0 : Int) < 26)
  unfold letter letters
  exact List.mem_map.mpr ⟨(i % 26).toNat, List.mem_range.mpr (by omega), rfl⟩
theorem textM_len (c n : Int) : (textM c n).length = n.toNat := by rw [textM, List.length_map, List.length_range]
theorem textM_mem {c n : Int} {x : Nat} (h : x ∈ textM c n) : x ∈ letters := by
  obtain ⟨k, _, rfl⟩ := List.mem_map.mp h
  exact letter_mem _
theorem letters_ok {x : Nat} (h : x ∈ letters) : x < 128 := by
  obtain ⟨k, hk, rfl⟩ := List.mem_map.mp h
  have := List.mem_range.mp hk
  omega
theorem textM_ok (c n : Int) : okT (textM c n) := fun x hx => letters_ok (textM_mem hx)
theorem oddOf_ok {c : Int} {x : List Nat} (h : okT x) : okT (oddOf c x) := by
  refine okT.app (okT.app (h.take _) (okT.cons ?_ okT.nil)) (h.drop _)
  have : ∀ y ∈ someOdd, y < 128 := by decide
  exact getD_of this (by decide) _
theorem oddOf_len (c : Int) (x : List Nat) : (oddOf c x).length = x.length + 1 := by
  unfold oddOf
  have h1 := mod_lt (c / 8) (by omega : (0 : Int) < (x.length : Int) + 1)
  rw [List.length_append, List.length_append, List.length_take, List.length_drop]
  simp
  omega
theorem okS_oddText {c : Int} {x : List Nat} (h : okT x) (hl : x.length ≤ 900) : OkS (oddText c x) := by
  unfold oddText
  refine getD_of (p := OkS) (a := PyData.none) ?_ True.intro _
  have ho : OkS (.str (S (oddOf c x))) := okS_str (oddOf_ok h) (by rw [oddOf_len]; omega)
  intro z hz
  simp only [List.mem_cons, List.not_mem_nil, or_false] at hz
  rcases hz with rfl | rfl | rfl | rfl | rfl | rfl | rfl | rfl
  · exact ho
  · trivial
  · trivial
  · trivial
  · trivial
  · exact ho
  · trivial
  · exact ho
theorem okS_oddState (c many : Int) : OkS (oddState c many) := by
  unfold oddState
  refine getD_of (p := OkS) (a := PyData.none) ?_ True.intro _
  intro z hz
  simp only [List.mem_cons, List.not_mem_nil, or_false] at hz
  rcases hz with rfl | rfl | rfl | rfl | rfl | rfl | rfl | rfl | rfl | rfl
  all_goals first | exact okS_str (okT.cons (by decide) okT.nil) (by decide) | exact True.intro
theorem okD_spoilt {row : List PyData} {cell many : Int} (h : ∀ z ∈ row, OkS z ∧ lenD z ≤ 900) : OkD (spoiltF row cell many) := by
  unfold spoiltF
  split
  · exact ⟨True.intro, fun ds e z hz => by cases e; exact (h z hz).1⟩
  split
  · refine getD_of (p := OkD) (a := PyData.none) ?_ ⟨True.intro, fun ds e => nomatch e⟩ _
    intro z hz
    simp only [List.mem_cons, List.not_mem_nil, or_false] at hz
    rcases hz with rfl | rfl | rfl | rfl | rfl | rfl | rfl | rfl
    · exact ⟨True.intro, fun ds e => nomatch e⟩
    · exact ⟨True.intro, fun ds e z hz => by cases e; exact (h z (List.dropLast_subset _ hz)).1⟩
    · refine ⟨True.intro, fun ds e z hz => ?_⟩
      cases e
      rcases List.mem_append.mp hz with hz | hz
      · exact (h z hz).1
      · simp at hz; subst hz; trivial
    · exact ⟨True.intro, fun ds e => nomatch e⟩
    · exact ⟨True.intro, fun ds e => nomatch e⟩
    · exact ⟨True.intro, fun ds e => nomatch e⟩
    · exact ⟨okS_str (okT.cons (by decide) (okT.cons (by decide) okT.nil)) (by decide), fun ds e => nomatch e⟩
    · exact ⟨True.intro, fun ds e z hz => by cases e; cases hz⟩
  · refine ⟨True.intro, fun ds e z hz => ?_⟩
    cases e
    rcases List.mem_append.mp hz with hz | hz
    · rcases List.mem_append.mp hz with hz | hz
      · exact (h z (List.mem_of_mem_take hz)).1
      · simp at hz
        subst hz
        have hx := getD_of (p := fun z => OkS z ∧ lenD z ≤ 900) h (a := PyData.none) ⟨True.intro, by decide⟩ (cell / 7 % (row.length : Int)).toNat
        rw [List.getD_eq_getElem?_getD] at hx
        split
        · rename_i s hs
          rw [hs] at hx
          refine getD_of (p := OkS) (a := PyData.none) ?_ True.intro _
          intro z hz
          simp only [List.mem_cons, List.not_mem_nil, or_false] at hz
          have hl : (tl s).length ≤ 900 := hx.2
          rcases hz with rfl | rfl | rfl
          · exact okS_oddText hx.1.1 hl
          · refine okS_str (okT.app hx.1.1 (textM_ok _ _)) ?_
            rw [List.length_append, textM_len]
            have := mod_lt (cell / 49) (by decide : (0 : Int) < 3)
            omega
          · exact okS_str okT.nil (by decide)
        · exact okS_oddState _ _
    · exact (h z (List.mem_of_mem_drop hz)).1
end Pr

/-! ## H01.lean -/
set_option Elab.async false
set_option linter.all false
set_option maxRecDepth 100000
set_option maxHeartbeats 4000000
namespace Pr
open PySem PySem.Spec PyProof.Rows L2
/-! ### the text by places -/
def top (i : Nat) : Stmt := PySem.Challenge.pw_pilerun_k01_rules_and_spots.main.body.getD i (.Pass ⟨0, 0, 0, 0⟩)
abbrev s_is_whole : Stmt := top 3
abbrev N_is_whole : List Str := ["thing"]
theorem f_is_whole : FnScope N_is_whole ["thing"] (defScope s_is_whole) := ⟨rfl, rfl, rfl, by decide +kernel, rfl, by decide +kernel, by decide +kernel⟩
theorem v_is_whole : L2.Loc (defScope s_is_whole) "thing" := by unfold L2.Loc; decide +kernel
theorem g_is_whole : (defScope s_is_whole).names.lookup ("isinstance" : Str) = some .globalImplicit ∧ (defScope s_is_whole).names.lookup ("int" : Str) = some .globalImplicit ∧ (defScope s_is_whole).names.lookup ("bool" : Str) = some .globalImplicit := by decide +kernel
abbrev s_is_state : Stmt := top 4
abbrev N_is_state : List Str := ["thing", "many"]
theorem f_is_state : FnScope N_is_state ["thing", "many"] (defScope s_is_state) := ⟨rfl, rfl, rfl, by decide +kernel, rfl, by decide +kernel, by decide +kernel⟩
theorem v_is_state : L2.Loc (defScope s_is_state) "thing" ∧ L2.Loc (defScope s_is_state) "many" := by unfold L2.Loc; decide +kernel
theorem g_is_state : (defScope s_is_state).names.lookup ("is_whole" : Str) = some .globalImplicit := by decide +kernel
abbrev s_is_pile : Stmt := top 5
abbrev N_is_pile : List Str := ["thing", "sign"]
theorem f_is_pile : FnScope N_is_pile ["thing"] (defScope s_is_pile) := ⟨rfl, rfl, rfl, by decide +kernel, rfl, by decide +kernel, by decide +kernel⟩
theorem v_is_pile : L2.Loc (defScope s_is_pile) "thing" ∧ L2.Loc (defScope s_is_pile) "sign" := by unfold L2.Loc; decide +kernel
theorem g_is_pile : (defScope s_is_pile).names.lookup ("isinstance" : Str) = some .globalImplicit ∧ (defScope s_is_pile).names.lookup ("str" : Str) = some .globalImplicit ∧ (defScope s_is_pile).names.lookup ("LETTERS" : Str) = some .globalImplicit := by decide +kernel
abbrev s_is_spot : Stmt := top 6
abbrev N_is_spot : List Str := ["thing", "many"]
theorem f_is_spot : FnScope N_is_spot ["thing", "many"] (defScope s_is_spot) := ⟨rfl, rfl, rfl, by decide +kernel, rfl, by decide +kernel, by decide +kernel⟩
theorem v_is_spot : L2.Loc (defScope s_is_spot) "thing" ∧ L2.Loc (defScope s_is_spot) "many" := by unfold L2.Loc; decide +kernel
theorem g_is_spot : (defScope s_is_spot).names.lookup ("isinstance" : Str) = some .globalImplicit ∧ (defScope s_is_spot).names.lookup ("tuple" : Str) = some .globalImplicit ∧ (defScope s_is_spot).names.lookup ("len" : Str) = some .globalImplicit ∧ (defScope s_is_spot).names.lookup ("is_state" : Str) = some .globalImplicit ∧ (defScope s_is_spot).names.lookup ("is_pile" : Str) = some .globalImplicit := by decide +kernel
abbrev s_is_rule : Stmt := top 7
abbrev N_is_rule : List Str := ["thing", "many"]
theorem f_is_rule : FnScope N_is_rule ["thing", "many"] (defScope s_is_rule) := ⟨rfl, rfl, rfl, by decide +kernel, rfl, by decide +kernel, by decide +kernel⟩
theorem v_is_rule : L2.Loc (defScope s_is_rule) "thing" ∧ L2.Loc (defScope s_is_rule) "many" := by unfold L2.Loc; decide +kernel
theorem g_is_rule : (defScope s_is_rule).names.lookup ("isinstance" : Str) = some .globalImplicit ∧ (defScope s_is_rule).names.lookup ("tuple" : Str) = some .globalImplicit ∧ (defScope s_is_rule).names.lookup ("len" : Str) = some .globalImplicit ∧ (defScope s_is_rule).names.lookup ("is_pile" : Str) = some .globalImplicit ∧ (defScope s_is_rule).names.lookup ("MOST_PUSH" : Str) = some .globalImplicit ∧ (defScope s_is_rule).names.lookup ("is_state" : Str) = some .globalImplicit := by decide +kernel
abbrev s_l_cell_at : Stmt := top 9
abbrev N_l_cell_at : List Str := ["_law_script", "_law_k"]
theorem f_l_cell_at : FnScope N_l_cell_at ["_law_script", "_law_k"] (defScope s_l_cell_at) := ⟨rfl, rfl, rfl, by decide +kernel, rfl, by decide +kernel, by decide +kernel⟩
theorem v_l_cell_at : L2.Loc (defScope s_l_cell_at) "_law_script" ∧ L2.Loc (defScope s_l_cell_at) "_law_k" := by unfold L2.Loc; decide +kernel
theorem g_l_cell_at : (defScope s_l_cell_at).names.lookup ("len" : Str) = some .globalImplicit := by decide +kernel
abbrev s_l_sign : Stmt := top 10
abbrev N_l_sign : List Str := ["_law_cell"]
theorem f_l_sign : FnScope N_l_sign ["_law_cell"] (defScope s_l_sign) := ⟨rfl, rfl, rfl, by decide +kernel, rfl, by decide +kernel, by decide +kernel⟩
theorem v_l_sign : L2.Loc (defScope s_l_sign) "_law_cell" := by unfold L2.Loc; decide +kernel
abbrev s_l_text : Stmt := top 11
abbrev N_l_text : List Str := ["_law_cell", "_law_size", "_law_k"]
theorem f_l_text : FnScope N_l_text ["_law_cell", "_law_size"] (defScope s_l_text) := ⟨rfl, rfl, rfl, by decide +kernel, rfl, by decide +kernel, by decide +kernel⟩
theorem v_l_text : L2.Loc (defScope s_l_text) "_law_cell" ∧ L2.Loc (defScope s_l_text) "_law_size" := by unfold L2.Loc; decide +kernel
theorem g_l_text : (defScope s_l_text).names.lookup ("range" : Str) = some .globalImplicit := by decide +kernel
abbrev s_l_odd_state : Stmt := top 12
abbrev N_l_odd_state : List Str := ["_law_cell", "_law_many", "_law_far"]
theorem f_l_odd_state : FnScope N_l_odd_state ["_law_cell", "_law_many"] (defScope s_l_odd_state) := ⟨rfl, rfl, rfl, by decide +kernel, rfl, by decide +kernel, by decide +kernel⟩
theorem v_l_odd_state : L2.Loc (defScope s_l_odd_state) "_law_cell" ∧ L2.Loc (defScope s_l_odd_state) "_law_many" ∧ L2.Loc (defScope s_l_odd_state) "_law_far" := by unfold L2.Loc; decide +kernel
abbrev s_l_odd_text : Stmt := top 13
abbrev N_l_odd_text : List Str := ["_law_cell", "_law_text_here", "_law_some", "_law_at", "_law_odd"]
theorem f_l_odd_text : FnScope N_l_odd_text ["_law_cell", "_law_text_here"] (defScope s_l_odd_text) := ⟨rfl, rfl, rfl, by decide +kernel, rfl, by decide +kernel, by decide +kernel⟩
theorem v_l_odd_text : L2.Loc (defScope s_l_odd_text) "_law_cell" ∧ L2.Loc (defScope s_l_odd_text) "_law_text_here" ∧ L2.Loc (defScope s_l_odd_text) "_law_some" ∧ L2.Loc (defScope s_l_odd_text) "_law_at" ∧ L2.Loc (defScope s_l_odd_text) "_law_odd" := by unfold L2.Loc; decide +kernel
theorem g_l_odd_text : (defScope s_l_odd_text).names.lookup ("len" : Str) = some .globalImplicit := by decide +kernel
abbrev s_l_state_good : Stmt := top 14
abbrev N_l_state_good : List Str := ["_law_thing", "_law_many"]
theorem f_l_state_good : FnScope N_l_state_good ["_law_thing", "_law_many"] (defScope s_l_state_good) := ⟨rfl, rfl, rfl, by decide +kernel, rfl, by decide +kernel, by decide +kernel⟩
theorem v_l_state_good : L2.Loc (defScope s_l_state_good) "_law_thing" ∧ L2.Loc (defScope s_l_state_good) "_law_many" := by unfold L2.Loc; decide +kernel
theorem g_l_state_good : (defScope s_l_state_good).names.lookup ("isinstance" : Str) = some .globalImplicit ∧ (defScope s_l_state_good).names.lookup ("int" : Str) = some .globalImplicit ∧ (defScope s_l_state_good).names.lookup ("bool" : Str) = some .globalImplicit := by decide +kernel
abbrev s_l_pile_good : Stmt := top 15
abbrev N_l_pile_good : List Str := ["_law_thing", "_law_sign_here"]
theorem f_l_pile_good : FnScope N_l_pile_good ["_law_thing"] (defScope s_l_pile_good) := ⟨rfl, rfl, rfl, by decide +kernel, rfl, by decide +kernel, by decide +kernel⟩
theorem v_l_pile_good : L2.Loc (defScope s_l_pile_good) "_law_thing" := by unfold L2.Loc; decide +kernel
theorem g_l_pile_good : (defScope s_l_pile_good).names.lookup ("isinstance" : Str) = some .globalImplicit ∧ (defScope s_l_pile_good).names.lookup ("str" : Str) = some .globalImplicit := by decide +kernel
abbrev s_l_rule_good : Stmt := top 16
abbrev N_l_rule_good : List Str := ["_law_thing", "_law_many"]
theorem f_l_rule_good : FnScope N_l_rule_good ["_law_thing", "_law_many"] (defScope s_l_rule_good) := ⟨rfl, rfl, rfl, by decide +kernel, rfl, by decide +kernel, by decide +kernel⟩
theorem v_l_rule_good : L2.Loc (defScope s_l_rule_good) "_law_thing" ∧ L2.Loc (defScope s_l_rule_good) "_law_many" := by unfold L2.Loc; decide +kernel
theorem g_l_rule_good : (defScope s_l_rule_good).names.lookup ("isinstance" : Str) = some .globalImplicit ∧ (defScope s_l_rule_good).names.lookup ("tuple" : Str) = some .globalImplicit ∧ (defScope s_l_rule_good).names.lookup ("len" : Str) = some .globalImplicit ∧ (defScope s_l_rule_good).names.lookup ("_law_pile_good" : Str) = some .globalImplicit ∧ (defScope s_l_rule_good).names.lookup ("_law_state_good" : Str) = some .globalImplicit := by decide +kernel
abbrev s_l_spot_good : Stmt := top 17
abbrev N_l_spot_good : List Str := ["_law_thing", "_law_many"]
theorem f_l_spot_good : FnScope N_l_spot_good ["_law_thing", "_law_many"] (defScope s_l_spot_good) := ⟨rfl, rfl, rfl, by decide +kernel, rfl, by decide +kernel, by decide +kernel⟩
theorem v_l_spot_good : L2.Loc (defScope s_l_spot_good) "_law_thing" ∧ L2.Loc (defScope s_l_spot_good) "_law_many" := by unfold L2.Loc; decide +kernel
theorem g_l_spot_good : (defScope s_l_spot_good).names.lookup ("isinstance" : Str) = some .globalImplicit ∧ (defScope s_l_spot_good).names.lookup ("tuple" : Str) = some .globalImplicit ∧ (defScope s_l_spot_good).names.lookup ("len" : Str) = some .globalImplicit ∧ (defScope s_l_spot_good).names.lookup ("_law_state_good" : Str) = some .globalImplicit ∧ (defScope s_l_spot_good).names.lookup ("_law_pile_good" : Str) = some .globalImplicit := by decide +kernel
abbrev s_l_spoilt : Stmt := top 18
abbrev N_l_spoilt : List Str := ["_law_row", "_law_cell", "_law_many", "_law_at", "_law_more", "_law_long", "_law_part"]
theorem f_l_spoilt : FnScope N_l_spoilt ["_law_row", "_law_cell", "_law_many"] (defScope s_l_spoilt) := ⟨rfl, rfl, rfl, by decide +kernel, rfl, by decide +kernel, by decide +kernel⟩
theorem v_l_spoilt : L2.Loc (defScope s_l_spoilt) "_law_row" ∧ L2.Loc (defScope s_l_spoilt) "_law_cell" ∧ L2.Loc (defScope s_l_spoilt) "_law_many" ∧ L2.Loc (defScope s_l_spoilt) "_law_at" ∧ L2.Loc (defScope s_l_spoilt) "_law_more" ∧ L2.Loc (defScope s_l_spoilt) "_law_long" ∧ L2.Loc (defScope s_l_spoilt) "_law_part" := by unfold L2.Loc; decide +kernel
theorem g_l_spoilt : (defScope s_l_spoilt).names.lookup ("len" : Str) = some .globalImplicit ∧ (defScope s_l_spoilt).names.lookup ("list" : Str) = some .globalImplicit ∧ (defScope s_l_spoilt).names.lookup ("isinstance" : Str) = some .globalImplicit ∧ (defScope s_l_spoilt).names.lookup ("str" : Str) = some .globalImplicit ∧ (defScope s_l_spoilt).names.lookup ("_law_text" : Str) = some .globalImplicit ∧ (defScope s_l_spoilt).names.lookup ("_law_odd_text" : Str) = some .globalImplicit ∧ (defScope s_l_spoilt).names.lookup ("_law_odd_state" : Str) = some .globalImplicit := by decide +kernel
abbrev s_l_signs_refused : Stmt := top 19
abbrev N_l_signs_refused : List Str := ["_law_rule", "_law_spot", "_law_cell", "_law_many", "_law_state", "_law_pile", "_law_at", "_law_sign_here"]
theorem f_l_signs_refused : FnScope N_l_signs_refused ["_law_rule", "_law_spot", "_law_cell", "_law_many"] (defScope s_l_signs_refused) := ⟨rfl, rfl, rfl, by decide +kernel, rfl, by decide +kernel, by decide +kernel⟩
theorem v_l_signs_refused : L2.Loc (defScope s_l_signs_refused) "_law_rule" ∧ L2.Loc (defScope s_l_signs_refused) "_law_spot" ∧ L2.Loc (defScope s_l_signs_refused) "_law_cell" ∧ L2.Loc (defScope s_l_signs_refused) "_law_many" ∧ L2.Loc (defScope s_l_signs_refused) "_law_state" ∧ L2.Loc (defScope s_l_signs_refused) "_law_pile" ∧ L2.Loc (defScope s_l_signs_refused) "_law_at" ∧ L2.Loc (defScope s_l_signs_refused) "_law_sign_here" := by unfold L2.Loc; decide +kernel
theorem g_l_signs_refused : (defScope s_l_signs_refused).names.lookup ("len" : Str) = some .globalImplicit ∧ (defScope s_l_signs_refused).names.lookup ("is_spot" : Str) = some .globalImplicit ∧ (defScope s_l_signs_refused).names.lookup ("is_rule" : Str) = some .globalImplicit := by decide +kernel
abbrev s_l_same : Stmt := top 20
abbrev N_l_same : List Str := ["_law_found", "_law_due"]
theorem f_l_same : FnScope N_l_same ["_law_found", "_law_due"] (defScope s_l_same) := ⟨rfl, rfl, rfl, by decide +kernel, rfl, by decide +kernel, by decide +kernel⟩
theorem v_l_same : L2.Loc (defScope s_l_same) "_law_found" ∧ L2.Loc (defScope s_l_same) "_law_due" := by unfold L2.Loc; decide +kernel
theorem g_l_same : (defScope s_l_same).names.lookup ("isinstance" : Str) = some .globalImplicit ∧ (defScope s_l_same).names.lookup ("bool" : Str) = some .globalImplicit := by decide +kernel
abbrev s_law : Stmt := top 21
abbrev N_law : List Str := ["_law_script", "_law_many", "_law_states", "_law_push", "_law_rule", "_law_size", "_law_spot", "_law_thing"]
theorem f_law : FnScope N_law ["_law_script"] (defScope s_law) := ⟨rfl, rfl, rfl, by decide +kernel, rfl, by decide +kernel, by decide +kernel⟩
theorem v_law : L2.Loc (defScope s_law) "_law_script" ∧ L2.Loc (defScope s_law) "_law_many" ∧ L2.Loc (defScope s_law) "_law_states" ∧ L2.Loc (defScope s_law) "_law_push" ∧ L2.Loc (defScope s_law) "_law_rule" ∧ L2.Loc (defScope s_law) "_law_size" ∧ L2.Loc (defScope s_law) "_law_spot" ∧ L2.Loc (defScope s_law) "_law_thing" := by unfold L2.Loc; decide +kernel
theorem g_law : (defScope s_law).names.lookup ("_law_cell_at" : Str) = some .globalImplicit ∧ (defScope s_law).names.lookup ("_law_text" : Str) = some .globalImplicit ∧ (defScope s_law).names.lookup ("_law_sign" : Str) = some .globalImplicit ∧ (defScope s_law).names.lookup ("_law_spoilt" : Str) = some .globalImplicit ∧ (defScope s_law).names.lookup ("_law_same" : Str) = some .globalImplicit ∧ (defScope s_law).names.lookup ("is_rule" : Str) = some .globalImplicit ∧ (defScope s_law).names.lookup ("_law_rule_good" : Str) = some .globalImplicit ∧ (defScope s_law).names.lookup ("is_spot" : Str) = some .globalImplicit ∧ (defScope s_law).names.lookup ("_law_spot_good" : Str) = some .globalImplicit ∧ (defScope s_law).names.lookup ("_law_signs_refused" : Str) = some .globalImplicit := by decide +kernel

end Pr

/-! ## K01a.lean -/
set_option Elab.async false
set_option linter.all false
set_option maxRecDepth 100000
set_option maxHeartbeats 4000000
namespace Pr
open PySem PySem.Spec PyProof.Rows L2
/-! ### searching for the rules -/
local macro_rules | `(tactic| fail "x:ix") => `(tactic| first | exact atI_letters _ | with_reducible assumption | exact atI_nat rfl)
local macro_rules | `(tactic| fail "x:sd") => `(tactic| first | with_reducible assumption | omega | decide | exact ⟨by decide, by decide⟩ | (simp only [List.length_cons, List.length_nil, List.length_append, List.length_map, List.length_range, List.length_drop, List.length_take]; omega) | (simp at *; omega))
local macro_rules | `(tactic| fail "x:isi") => `(tactic| first | exact isi_none_int | exact isi_bool_int | exact isi_int_int | exact isi_str_int | exact isi_list_int | exact isi_tuple_int | exact isi_dict_int | exact isi_none_str | exact isi_bool_str | exact isi_int_str | exact isi_str_str | exact isi_list_str | exact isi_tuple_str | exact isi_dict_str | exact isi_none_bool | exact isi_bool_bool | exact isi_int_bool | exact isi_str_bool | exact isi_list_bool | exact isi_tuple_bool | exact isi_dict_bool | exact isi_none_tuple | exact isi_bool_tuple | exact isi_int_tuple | exact isi_str_tuple | exact isi_list_tuple | exact isi_tuple_tuple | exact isi_dict_tuple | exact isi_none_list | exact isi_bool_list | exact isi_int_list | exact isi_str_list | exact isi_list_list | exact isi_tuple_list | exact isi_dict_list | exact isi_none_dict | exact isi_bool_dict | exact isi_int_dict | exact isi_str_dict | exact isi_list_dict | exact isi_tuple_dict | exact isi_dict_dict)
local macro_rules | `(tactic| fail "x:gl") => `(tactic| first | with_reducible assumption | decide +kernel)
local macro_rules | `(tactic| fail "x:lo") => `(tactic| first | with_reducible assumption | (unfold L2.Loc; decide +kernel))
local macro_rules | `(tactic| fail "x:vi") => `(tactic| first | exact loc_vis (by with_reducible assumption) | (unfold L2.Vis; decide +kernel))
local macro_rules | `(tactic| fail "x:bi") => `(tactic| exact bi_of (by with_reducible assumption) (by fail "x:gl") (by with_reducible assumption))
local macro_rules | `(tactic| fail "x:lv") => `(tactic| first
  | exact Lv.int | exact Lv.none | exact Lv.bool | with_reducible assumption
  | (refine' Lv.str ?h; (case h => first | with_reducible assumption | exact okT.nil | simp [okT]))
  | (refine' Lv.tuple ?h; (case h => fail "x:lvs")) | (refine' Lv.list ?h; (case h => fail "x:lvs")) | (refine' Lv.succ _; with_reducible assumption))
local macro_rules | `(tactic| fail "x:lvs") => `(tactic| first
  | exact List.forall_mem_nil _
  | (refine' List.forall_mem_cons.mpr ⟨_, _⟩ <;> first | fail "x:lvs" | fail "x:lv")
  | with_reducible assumption)
local macro_rules | `(tactic| fail "x:n") => `(tactic| first
  | (refine' xd_d (by with_reducible assumption) (by with_reducible assumption) ?h (by rfl); (case h => fail "x:vi"))
  | (refine' xd_o (by with_reducible assumption) (by with_reducible assumption) ?h (by rfl); (case h => fail "x:vi"))
  | (refine' xd_v (by with_reducible assumption) (by with_reducible assumption) ?h (by rfl) (by with_reducible assumption); (case h => fail "x:vi")))
local macro_rules | `(tactic| fail "x:v") => `(tactic| (refine' xv_v (by with_reducible assumption) (by with_reducible assumption) ?h (by rfl); (case h => fail "x:vi")))
local macro_rules | `(tactic| fail "x:od") => `(tactic| first
  | exact od_lt | exact od_le | exact od_gt | exact od_ge | exact od_eqI | exact od_neI | exact od_eqS | exact od_neS | exact od_isN | exact od_notN | exact od_isB | exact od_notB | exact od_eqB | exact od_neB | exact od_inC | exact od_ninC
  | exact od_eq (by with_reducible assumption) (Lv.shaped (n := 4) (by fail "x:lv")) (Lv.shaped (n := 4) (by fail "x:lv"))
  | exact od_ne (by with_reducible assumption) (Lv.shaped (n := 4) (by fail "x:lv")) (Lv.shaped (n := 4) (by fail "x:lv"))
  | exact od_in (by with_reducible assumption) (Lv.shaped (n := 4) (by fail "x:lv")) (Lv.shaped (n := 4) (by fail "x:lv"))
  | exact od_nin (by with_reducible assumption) (Lv.shaped (n := 4) (by fail "x:lv")) (Lv.shaped (n := 4) (by fail "x:lv")))
local macro_rules | `(tactic| fail "x:t") => `(tactic| first
  | (refine' tTBool ?h; (case h => fail "x:w"))
  | (refine' xt_not ?h; (case h => fail "x:t"))
  | (refine' tTCmp ?h; (case h => first
    | (refine' xt_cmp ?od ?h1 ?h2 ?hm; (case h1 => fail "x:d"); (case h2 => fail "x:d"); (case od => fail "x:od"); (case hm => first | exact nomark _ | rfl))
    | (refine' xt_chain ?od ?od2 ?h1 ?h2 ?h3; (case h1 => fail "x:d"); (case h2 => fail "x:d"); (case h3 => fail "x:d"); (case od => fail "x:od"); (case od2 => intro _; fail "x:od"))))
  | (refine' xt_vC ?h; (case h => fail "x:d"))
  | (refine' xt_vN ?h; (case h => fail "x:d"))
  | (refine' xt_vS ?h; (case h => fail "x:d"))
  | (refine' xt_vK ?h; (case h => fail "x:d")))
local macro_rules | `(tactic| fail "x:w") => `(tactic| first
  | (refine' xw_or1 ?h; (case h => fail "x:t")) | (refine' xw_and1 ?h; (case h => fail "x:t"))
  | (refine' xw_or ?h1 ?h2; (case h1 => fail "x:t"); (case h2 => intro hz; fail "x:w"))
  | (refine' xw_and ?h1 ?h2; (case h1 => fail "x:t"); (case h2 => intro hz; fail "x:w")))
local macro_rules | `(tactic| fail "x:l") => `(tactic| first
  | exact xl_nil
  | (refine' xl_cons ?h ?t; (case h => fail "x:d"); (case t => fail "x:l")))
local macro_rules | `(tactic| fail "x:o") => `(tactic| first | exact xo_none | (refine' xo_some ?h; (case h => fail "x:d")))
local macro_rules | `(tactic| fail "x:f") => `(tactic| first
  | (refine' xf_slL ?h ?a ?b; (case h => fail "x:d"); (case a => fail "x:o"); (case b => fail "x:o"))
  | (refine' xf_lst ?h ?z; (case h => fail "x:l"); (case z => fail "x:sd"))
  | (refine' xf_list ?c ?b ?h; (case c => with_reducible assumption); (case b => fail "x:bi"); (case h => fail "x:d"))
  | (refine' xf_listT ?c ?b ?h; (case c => with_reducible assumption); (case b => fail "x:bi"); (case h => fail "x:d"))
  | (refine' xf_callA ?c ?ca ?cl ?hj ?hg ?ha ?hR; (case c => with_reducible assumption); (case ca => with_reducible assumption); (case cl => with_reducible assumption); (case hj => decide); (case hg => fail "x:gl"); (case ha => fail "x:l"); (case hR => first | with_reducible assumption | (constructor <;> fail "x:sd")))
  | (refine' xf_revL ?h; (case h => fail "x:d")))
local macro_rules | `(tactic| fail "x:dB") => `(tactic| first
  | exact xd_add (by with_reducible assumption) (by with_reducible assumption)
  | exact xd_sub (by with_reducible assumption) (by with_reducible assumption)
  | (refine' xd_mul (by with_reducible assumption) (by with_reducible assumption) ?hz; (case hz => first | exact .inr ⟨by decide, by decide⟩ | exact .inl ⟨by decide, by decide⟩ | exact .inr ⟨by omega, by omega⟩ | exact .inl ⟨by omega, by omega⟩))
  | (refine' xd_div (by with_reducible assumption) (by with_reducible assumption) ?hz; (case hz => first | exact ⟨by decide, by decide⟩ | exact ⟨by omega, by omega⟩))
  | (refine' xd_mod (by with_reducible assumption) (by with_reducible assumption) ?hz; (case hz => fail "x:sd"))
  | (refine' xd_cat (by with_reducible assumption) (by with_reducible assumption) ?hz; (case hz => fail "x:sd"))
  | (refine' xd_catT (by with_reducible assumption) (by with_reducible assumption) ?hz; (case hz => fail "x:sd"))
  | (refine' xd_pow (by with_reducible assumption) (by with_reducible assumption) ?hz; (case hz => fail "x:sd")))
local macro_rules | `(tactic| fail "x:dS") => `(tactic| first
  | (refine' xd_ixT (by with_reducible assumption) ?h2 ?hz; (case h2 => fail "x:d"); (case hz => first | rfl | fail "x:ix"))
  | (refine' xd_ixL (by with_reducible assumption) ?h2 ?hz; (case h2 => fail "x:d"); (case hz => first | rfl | fail "x:ix"))
  | (refine' xd_ixS (by with_reducible assumption) ?h2 ?hz ?hl; (case h2 => fail "x:d"); (case hz => first | rfl | fail "x:ix"); (case hl => fail "x:sd"))
  | (refine' xd_slSf (by with_reducible assumption) ?a ?b ?hz; (case a => fail "x:d"); (case b => fail "x:sd"); (case hz => fail "x:sd"))
  | (refine' xd_slSt (by with_reducible assumption) ?a ?b ?hz; (case a => fail "x:d"); (case b => fail "x:sd"); (case hz => fail "x:sd"))
  | (refine' xd_slS (by with_reducible assumption) ?a ?b ?hz; (case a => fail "x:o"); (case b => fail "x:o"); (case hz => fail "x:sd"))
  | exact xd_slT1 (by with_reducible assumption)
  | (refine' xd_slTf (by with_reducible assumption) ?a ?b; (case a => fail "x:d"); (case b => fail "x:sd"))
  | (refine' xd_slTt (by with_reducible assumption) ?a ?b; (case a => fail "x:d"); (case b => fail "x:sd"))
  | (refine' xd_slT (by with_reducible assumption) ?a ?b; (case a => fail "x:o"); (case b => fail "x:o"))
  | exact XF.toD (xf_slL1 (by with_reducible assumption))
  | (refine' XF.toD (xf_slLf (by with_reducible assumption) ?a ?b); (case a => fail "x:d"); (case b => fail "x:sd"))
  | (refine' XF.toD (xf_slLt (by with_reducible assumption) ?a ?b); (case a => fail "x:d"); (case b => fail "x:sd"))
  | (refine' XF.toD ?h; (case h => (refine' xf_slL (by with_reducible assumption) ?a ?b; (case a => fail "x:o"); (case b => fail "x:o"))))
  | (refine' XF.toD ?h; (case h => (refine' xf_revL (by with_reducible assumption)))))
local macro_rules | `(tactic| fail "x:dC") => `(tactic| first
  | (refine' viaLen ?h1 ?k; (case h1 => fail "x:d"); (case k => intro hvia; first
    | (refine' xd_lenL ?c ?b hvia; (case c => with_reducible assumption); (case b => fail "x:bi"))
    | (refine' xd_lenS ?c ?b hvia ?z; (case c => with_reducible assumption); (case b => fail "x:bi"); (case z => fail "x:sd"))
    | (refine' xd_lenT ?c ?b hvia; (case c => with_reducible assumption); (case b => fail "x:bi"))))
  | (refine' xd_isiA ?c ?b ?b2 ?hT ?h ?hk; (case c => with_reducible assumption); (case b => fail "x:bi"); (case b2 => fail "x:bi"); (case hT => first | exact boot_int | exact boot_tuple | exact boot_str | exact boot_bool | exact boot_list | exact boot_dict); (case h => fail "x:d"); (case hk => fail "x:isi"))
  | (refine' xd_intB ?c ?b ?h; (case c => with_reducible assumption); (case b => fail "x:bi"); (case h => fail "x:d"))
  | (refine' xd_callA ?c ?ca ?cl ?hj ?hg ?ha ?hR; (case c => with_reducible assumption); (case ca => with_reducible assumption); (case cl => with_reducible assumption); (case hj => decide); (case hg => fail "x:gl"); (case ha => fail "x:l"); (case hR => first | with_reducible assumption | (constructor <;> fail "x:sd"))))
local macro_rules | `(tactic| fail "x:d") => `(tactic| first
  | exact xd_int | exact xd_bl | exact xd_non
  | (refine' tName ?h; (case h => fail "x:n"))
  | fail "x:more"
  | (refine' xd_strS ?h; (case h => first | exact str_nil | exact letters_S | rfl))
  | (refine' viaSub ?h1 ?k; (case h1 => fail "x:d"); (case k => intro hvia; fail "x:dS"))
  | (refine' viaBin ?h1 ?h2 ?k; (case h1 => fail "x:d"); (case h2 => fail "x:d"); (case k => intro hvia hvia2; fail "x:dB"))
  | (refine' tCall ?h; (case h => first | fail "x:dC" | (refine' XF.toD ?h; (case h => fail "x:f"))))
  | (refine' tCmp ?h; (case h => first
    | (refine' xd_cmp ?od ?h1 ?h2 ?hm; (case h1 => fail "x:d"); (case h2 => fail "x:d"); (case od => fail "x:od"); (case hm => first | exact nomark _ | rfl))
    | (refine' xd_chain ?od ?od2 ?h1 ?h2 ?h3; (case h1 => fail "x:d"); (case h2 => fail "x:d"); (case h3 => fail "x:d"); (case od => fail "x:od"); (case od2 => intro _; fail "x:od"))))
  | (refine' tBool ?h; (case h => first
    | (refine' xd_and1 ?h1; (case h1 => fail "x:d"))
    | (refine' xd_and ?h1 ?h2; (case h1 => fail "x:d"); (case h2 => intro hz; fail "x:d"))
    | (refine' xd_or ?h1 ?h2; (case h1 => fail "x:d"); (case h2 => intro hz; fail "x:d"))))
  | (refine' viaUn ?h1 ?k; (case h1 => fail "x:d"); (case k => intro hvia; first | exact xd_neg hvia | exact xd_not hvia))
  | (refine' xd_tup ?h ?z; (case h => fail "x:l"); (case z => fail "x:sd"))
  | exact xd_dict0
  | (refine' xd_dict1 ?h; (case h => fail "x:d"))
  | (refine' XF.toD ?h; (case h => fail "x:f")))

local macro_rules | `(tactic| fail "x:more") => `(tactic| fail "no")
section
variable {P : Program} {w : World} {K : PySem.W.Frag} {mg : Str → Option Value} {base : Heap}
/-! #### is_whole, is_state, is_pile, is_spot, is_rule -/
theorem ok_whole (F : Df K mg "is_whole" s_is_whole ["thing"]) (b1 : mg "isinstance" = none) (b2 : mg "int" = none) (b3 : mg "bool" = none) : Cl P w K mg base 1 "is_whole" ["thing"] (spD K R_whole) := by
  refine df_D F f_is_whole (fun _ _ h => by cases h; rfl) fun X H ds r σ D A C W hR g ret nxt => ?_
  obtain ⟨d⟩ := hR
  have n0 : N_is_whole[0]? = some ("thing" : Str) := rfl
  obtain l0 := v_is_whole
  obtain ⟨g_isinstance, g_int, g_bool⟩ := g_is_whole
  cases d with
  | none | str | list | tuple | dict => refine ws_ret (xd_andF (by fail "x:d") rfl) g fun v H1 a1 p => ret v H1 a1 p
  | bool | int => refine ws_ret (by fail "x:d") g fun v H1 a1 p => ret v H1 a1 p
theorem ok_state (F : Df K mg "is_state" s_is_state ["thing", "many"]) (c1 : Cl P w K mg base 1 "is_whole" ["thing"] (spD K R_whole)) : Cl P w K mg base 2 "is_state" ["thing", "many"] (spD K R_state) := by
  refine df_D F f_is_state (fun _ _ h => by cases h; rfl) fun X H ds r σ D A C W hR g ret nxt => ?_
  obtain ⟨d, many⟩ := hR
  have n0 : N_is_state[0]? = some ("thing" : Str) := rfl
  have n1 : N_is_state[1]? = some ("many" : Str) := rfl
  obtain ⟨l0, l1⟩ := v_is_state
  obtain g_is_whole := g_is_state
  cases d with
  | none | str | list | tuple | dict | bool => refine ws_ret (xd_andF (by fail "x:d") rfl) g fun v H1 a1 p => ret v H1 a1 p
  | int => refine ws_ret (by fail "x:d") g fun v H1 a1 p => ret v H1 a1 (by simpa [wholeD, stateD] using p)
theorem ok_pile (F : Df K mg "is_pile" s_is_pile ["thing"]) (b1 : mg "isinstance" = none) (b2 : mg "str" = none) (mL : ∃ t, mg "LETTERS" = some (.str "abcdefghijklmnopqrstuvwxyz" t)) : Cl P w K mg base 1 "is_pile" ["thing"] (spD K R_pile) := by
  refine df_D F f_is_pile (fun _ _ h => by cases h; rfl) fun X H ds r σ D A C W hR g ret nxt => ?_
  obtain ⟨d⟩ := hR
  have n0 : N_is_pile[0]? = some ("thing" : Str) := rfl
  have n1 : N_is_pile[1]? = some ("sign" : Str) := rfl
  obtain ⟨l0, l1⟩ := v_is_pile
  obtain ⟨g_isinstance, g_str, g_LETTERS⟩ := g_is_pile
  cases d with
  | none | list | tuple | dict | bool | int =>
    refine ws_when (by fail "x:t") g (fun hv H1 a1 g1 => ?_) (fun hv => by cases hv)
    refine ws_ret (by fail "x:d") g1 fun v H2 a2 p => ret v H2 (a1.trans a2) p
  | str s =>
    rw [← S_tl s] at g ret nxt
    generalize tl s = x at g ret nxt
    refine ws_when (by fail "x:t") g (fun hv => by cases hv) (fun hv H1 a1 g1 => ?_)
    refine ws_forE (xs := x) C W n1 l1 (xi_str (by fail "x:d")) g1 (fun _ => H) (fun _ => [.o (.str (S x)), .x]) (fun _ m _ => allL (x.take m) = true) (fun H2 a b => ⟨Same.refl _, g1.mono a, rfl⟩) ?_ ?_
    · intro H2 m c v σ' H' H'' a2 ha g2 ex s hv g3
      refine ws_when (xt_cmp od_ninC (by fail "x:d") (xd_gstrA C A g_LETTERS mL letters_S) rfl) g3 (fun hv H3 a3 g4 => ?_) (fun hv H3 a3 g4 => ?_)
      · refine ws_ret (by fail "x:d") g4 fun v H4 a4 p => ret v H4 (g4.same.trans a4) ?_
        have : allL x = false := by
          rw [allL, List.all_eq_false]
          exact ⟨c, List.mem_of_getElem? ha, by simpa using hv⟩
        rw [pileD, tl_S, this]
        exact p
      · refine ws_nil ⟨g4.wk (by simp [Wk]), ?_⟩
        rw [take_snoc ha, allL, List.all_append, ← allL, ex]
        simpa using hv
    · intro H2 σ' H' a2 g2 ex
      rw [List.take_length] at ex
      refine ws_ret (by fail "x:d") g2 fun v H3 a3 p => ret v H3 (g2.same.trans a3) ?_
      rw [pileD, tl_S, ex]
      exact p
theorem ok_isspot (F : Df K mg "is_spot" s_is_spot ["thing", "many"]) (c1 : Cl P w K mg base 2 "is_state" ["thing", "many"] (spD K R_state)) (c2 : Cl P w K mg base 1 "is_pile" ["thing"] (spD K R_pile)) (b1 : mg "isinstance" = none) (b2 : mg "tuple" = none) (b3 : mg "len" = none) : Cl P w K mg base 3 "is_spot" ["thing", "many"] (spD K R_isspot) := by
  refine df_D F f_is_spot (fun _ _ h => by cases h; rfl) fun X H ds r σ D A C W hR g ret nxt => ?_
  obtain ⟨d, many⟩ := hR
  have n0 : N_is_spot[0]? = some ("thing" : Str) := rfl
  have n1 : N_is_spot[1]? = some ("many" : Str) := rfl
  obtain ⟨l0, l1⟩ := v_is_spot
  obtain ⟨g_isinstance, g_tuple, g_len, g_is_state, g_is_pile⟩ := g_is_spot
  cases d with
  | none | list | dict | bool | int | str =>
    refine ws_when (xw_t (xw_orT (by fail "x:t") (by rfl))) g (fun hv H1 a1 g1 => ?_) (fun hv => by cases hv)
    refine ws_ret (by fail "x:d") g1 fun v H2 a2 p => ret v H2 (a1.trans a2) p
  | tuple ds =>
    refine ws_when (by fail "x:t") g (fun hv H1 a1 g1 => ?_) (fun hv H1 a1 g1 => ?_)
    · have hv : ds.length ≠ 2 := by
        intro h
        rw [h] at hv
        simp at hv
      refine ws_ret (by fail "x:d") g1 fun v H2 a2 p => ret v H2 (a1.trans a2) ?_
      have e : spotD many (.tuple ds) = false := by
        match ds, hv with
        | [], _ | [_], _ | _ :: _ :: _ :: _, _ => rfl
        | [_, _], h => exact absurd rfl h
      rw [e]
      exact p
    · have hv : ds.length = 2 := by
        simp at hv
        omega
      match ds, hv with
      | [a, b], _ =>
        refine ws_ret (by fail "x:d") g1 fun v H2 a2 p => ret v H2 (a1.trans a2) p
theorem ok_isrule (F : Df K mg "is_rule" s_is_rule ["thing", "many"]) (c1 : Cl P w K mg base 2 "is_state" ["thing", "many"] (spD K R_state)) (c2 : Cl P w K mg base 1 "is_pile" ["thing"] (spD K R_pile)) (b1 : mg "isinstance" = none) (b2 : mg "tuple" = none) (b3 : mg "len" = none) (mM : ∃ t, mg "MOST_PUSH" = some (.int 2 t)) : Cl P w K mg base 3 "is_rule" ["thing", "many"] (spD K R_isrule) := by
  refine df_D F f_is_rule (fun _ _ h => by cases h; rfl) fun X H ds r σ D A C W hR g ret nxt => ?_
  obtain ⟨d, many, hzz⟩ := hR
  have n0 : N_is_rule[0]? = some ("thing" : Str) := rfl
  have n1 : N_is_rule[1]? = some ("many" : Str) := rfl
  obtain ⟨l0, l1⟩ := v_is_rule
  obtain ⟨g_isinstance, g_tuple, g_len, g_is_pile, g_MOST_PUSH, g_is_state⟩ := g_is_rule
  cases d with
  | none | list | dict | bool | int | str =>
    refine ws_when (xw_t (xw_orT (by fail "x:t") (by rfl))) g (fun hv H1 a1 g1 => ?_) (fun hv => by cases hv)
    refine ws_ret (by fail "x:d") g1 fun v H2 a2 p => ret v H2 (a1.trans a2) p
  | tuple ds =>
    by_cases hl : ds.length = 4
    · match ds, hl with
      | [a, b, c, e], _ =>
        refine ws_when (by fail "x:t") g (fun hv H1 a1 g1 => ?_) (fun hv H1 a1 g1 => ?_)
        · refine ws_ret (by fail "x:d") g1 fun v H2 a2 p => ret v H2 (a1.trans a2) ?_
          have e : ruleD many (.tuple [a, b, c, e]) = false := by
            simp at hv
            rw [ruleD]
            cases h1 : pileD b <;> cases h2 : pileD e <;> simp [h1, h2] at hv ⊢
          rw [e]
          exact p
        · have hv : pileD b = true ∧ pileD e = true := by simpa using hv
          cases b with
          | none | list | dict | bool | int | tuple => cases hv.1
          | str x =>
            cases e with
            | none | list | dict | bool | int | tuple => cases hv.2
            | str y =>
              have hx : (tl x).length ≤ 1000000 := hzz _ rfl (.str x) (by simp)
              have hy : (tl y).length ≤ 1000000 := hzz _ rfl (.str y) (by simp)
              clear hzz
              rw [← S_tl x, ← S_tl y] at g1 ret nxt hv
              generalize tl x = x at g1 ret nxt hv hx
              generalize tl y = y at g1 ret nxt hv hy
              refine ws_when (xw_t (xw_or (by fail "x:t") fun _ => xw_or1 (xt_cmp od_gt (by fail "x:d") (xd_gintA C A g_MOST_PUSH mM) (nomark _)))) g1 (fun hw H2 a2 g2 => ?_) (fun hw H2 a2 g2 => ?_)
              · refine ws_ret (by fail "x:d") g2 fun v H3 a3 p => ret v H3 ((a1.trans a2).trans a3) ?_
                have e : ruleD many (.tuple [a, .str (S x), c, .str (S y)]) = false := by
                  simp at hw
                  rw [ruleD, lenD, lenD, tl_S, tl_S]
                  rcases hw with hw | hw
                  · have : ¬ (x.length = 1) := by omega
                    simp [this]
                  · have : ¬ (y.length ≤ 2) := by omega
                    simp [this]
                rw [e]
                exact p
              · have hw : x.length = 1 ∧ y.length ≤ 2 := by
                  simp at hw
                  omega
                refine ws_ret (by fail "x:d") g2 fun v H3 a3 p => ret v H3 ((a1.trans a2).trans a3) ?_
                rw [ruleD, hv.1, hv.2, lenD, lenD, tl_S, tl_S, decide_eq_true hw.1, decide_eq_true hw.2]
                exact p
    · refine ws_when (xw_t (xw_or (by fail "x:t") fun _ => xw_orT (by fail "x:t") (by simp; omega))) g (fun hv H1 a1 g1 => ?_) (fun hv => by cases hv)
      refine ws_ret (by fail "x:d") g1 fun v H2 a2 p => ret v H2 (a1.trans a2) ?_
      have e : ruleD many (.tuple ds) = false := by
        match ds, hl with
        | [], _ | [_], _ | [_, _], _ | [_, _, _], _ | _ :: _ :: _ :: _ :: _ :: _, _ => rfl
        | [_, _, _, _], h => exact absurd rfl h
      rw [e]
      exact p
end
end Pr

/-! ## K01b.lean -/
set_option Elab.async false
set_option linter.all false
set_option maxRecDepth 100000
set_option maxHeartbeats 4000000
namespace Pr
open PySem PySem.Spec PyProof.Rows L2
/-! ### searching for the rules -/
local macro_rules | `(tactic| fail "x:ix") => `(tactic| first | exact atI_letters _ | with_reducible assumption | exact atI_nat rfl)
local macro_rules | `(tactic| fail "x:sd") => `(tactic| first | with_reducible assumption | omega | decide | exact ⟨by decide, by decide⟩ | (simp only [List.length_cons, List.length_nil, List.length_append, List.length_map, List.length_range, List.length_drop, List.length_take]; omega) | (simp at *; omega))
local macro_rules | `(tactic| fail "x:isi") => `(tactic| first | exact isi_none_int | exact isi_bool_int | exact isi_int_int | exact isi_str_int | exact isi_list_int | exact isi_tuple_int | exact isi_dict_int | exact isi_none_str | exact isi_bool_str | exact isi_int_str | exact isi_str_str | exact isi_list_str | exact isi_tuple_str | exact isi_dict_str | exact isi_none_bool | exact isi_bool_bool | exact isi_int_bool | exact isi_str_bool | exact isi_list_bool | exact isi_tuple_bool | exact isi_dict_bool | exact isi_none_tuple | exact isi_bool_tuple | exact isi_int_tuple | exact isi_str_tuple | exact isi_list_tuple | exact isi_tuple_tuple | exact isi_dict_tuple | exact isi_none_list | exact isi_bool_list | exact isi_int_list | exact isi_str_list | exact isi_list_list | exact isi_tuple_list | exact isi_dict_list | exact isi_none_dict | exact isi_bool_dict | exact isi_int_dict | exact isi_str_dict | exact isi_list_dict | exact isi_tuple_dict | exact isi_dict_dict)
local macro_rules | `(tactic| fail "x:gl") => `(tactic| first | with_reducible assumption | decide +kernel)
local macro_rules | `(tactic| fail "x:lo") => `(tactic| first | with_reducible assumption | (unfold L2.Loc; decide +kernel))
local macro_rules | `(tactic| fail "x:vi") => `(tactic| first | exact loc_vis (by with_reducible assumption) | (unfold L2.Vis; decide +kernel))
local macro_rules | `(tactic| fail "x:bi") => `(tactic| exact bi_of (by with_reducible assumption) (by fail "x:gl") (by with_reducible assumption))
local macro_rules | `(tactic| fail "x:lv") => `(tactic| first
  | exact Lv.int | exact Lv.none | exact Lv.bool | with_reducible assumption
  | (refine' Lv.str ?h; (case h => first | with_reducible assumption | exact okT.nil | simp [okT]))
  | (refine' Lv.tuple ?h; (case h => fail "x:lvs")) | (refine' Lv.list ?h; (case h => fail "x:lvs")) | (refine' Lv.succ _; with_reducible assumption))
local macro_rules | `(tactic| fail "x:lvs") => `(tactic| first
  | exact List.forall_mem_nil _
  | (refine' List.forall_mem_cons.mpr ⟨_, _⟩ <;> first | fail "x:lvs" | fail "x:lv")
  | with_reducible assumption)
local macro_rules | `(tactic| fail "x:n") => `(tactic| first
  | (refine' xd_d (by with_reducible assumption) (by with_reducible assumption) ?h (by rfl); (case h => fail "x:vi"))
  | (refine' xd_o (by with_reducible assumption) (by with_reducible assumption) ?h (by rfl); (case h => fail "x:vi"))
  | (refine' xd_v (by with_reducible assumption) (by with_reducible assumption) ?h (by rfl) (by with_reducible assumption); (case h => fail "x:vi")))
local macro_rules | `(tactic| fail "x:v") => `(tactic| (refine' xv_v (by with_reducible assumption) (by with_reducible assumption) ?h (by rfl); (case h => fail "x:vi")))
local macro_rules | `(tactic| fail "x:od") => `(tactic| first
  | exact od_lt | exact od_le | exact od_gt | exact od_ge | exact od_eqI | exact od_neI | exact od_eqS | exact od_neS | exact od_isN | exact od_notN | exact od_isB | exact od_notB | exact od_eqB | exact od_neB | exact od_inC | exact od_ninC
  | exact od_eq (by with_reducible assumption) (Lv.shaped (n := 4) (by fail "x:lv")) (Lv.shaped (n := 4) (by fail "x:lv"))
  | exact od_ne (by with_reducible assumption) (Lv.shaped (n := 4) (by fail "x:lv")) (Lv.shaped (n := 4) (by fail "x:lv"))
  | exact od_in (by with_reducible assumption) (Lv.shaped (n := 4) (by fail "x:lv")) (Lv.shaped (n := 4) (by fail "x:lv"))
  | exact od_nin (by with_reducible assumption) (Lv.shaped (n := 4) (by fail "x:lv")) (Lv.shaped (n := 4) (by fail "x:lv")))
local macro_rules | `(tactic| fail "x:t") => `(tactic| first
  | (refine' tTBool ?h; (case h => fail "x:w"))
  | (refine' xt_not ?h; (case h => fail "x:t"))
  | (refine' tTCmp ?h; (case h => first
    | (refine' xt_cmp ?od ?h1 ?h2 ?hm; (case h1 => fail "x:d"); (case h2 => fail "x:d"); (case od => fail "x:od"); (case hm => first | exact nomark _ | rfl))
    | (refine' xt_chain ?od ?od2 ?h1 ?h2 ?h3; (case h1 => fail "x:d"); (case h2 => fail "x:d"); (case h3 => fail "x:d"); (case od => fail "x:od"); (case od2 => intro _; fail "x:od"))))
  | (refine' xt_vC ?h; (case h => fail "x:d"))
  | (refine' xt_vN ?h; (case h => fail "x:d"))
  | (refine' xt_vS ?h; (case h => fail "x:d"))
  | (refine' xt_vK ?h; (case h => fail "x:d")))
local macro_rules | `(tactic| fail "x:w") => `(tactic| first
  | (refine' xw_or1 ?h; (case h => fail "x:t")) | (refine' xw_and1 ?h; (case h => fail "x:t"))
  | (refine' xw_or ?h1 ?h2; (case h1 => fail "x:t"); (case h2 => intro hz; fail "x:w"))
  | (refine' xw_and ?h1 ?h2; (case h1 => fail "x:t"); (case h2 => intro hz; fail "x:w")))
local macro_rules | `(tactic| fail "x:l") => `(tactic| first
  | exact xl_nil
  | (refine' xl_cons ?h ?t; (case h => fail "x:d"); (case t => fail "x:l")))
local macro_rules | `(tactic| fail "x:o") => `(tactic| first | exact xo_none | (refine' xo_some ?h; (case h => fail "x:d")))
local macro_rules | `(tactic| fail "x:f") => `(tactic| first
  | (refine' xf_slL ?h ?a ?b; (case h => fail "x:d"); (case a => fail "x:o"); (case b => fail "x:o"))
  | (refine' xf_lst ?h ?z; (case h => fail "x:l"); (case z => fail "x:sd"))
  | (refine' xf_list ?c ?b ?h; (case c => with_reducible assumption); (case b => fail "x:bi"); (case h => fail "x:d"))
  | (refine' xf_listT ?c ?b ?h; (case c => with_reducible assumption); (case b => fail "x:bi"); (case h => fail "x:d"))
  | (refine' xf_callA ?c ?ca ?cl ?hj ?hg ?ha ?hR; (case c => with_reducible assumption); (case ca => with_reducible assumption); (case cl => with_reducible assumption); (case hj => decide); (case hg => fail "x:gl"); (case ha => fail "x:l"); (case hR => first | with_reducible assumption | (constructor <;> fail "x:sd")))
  | (refine' xf_revL ?h; (case h => fail "x:d")))
local macro_rules | `(tactic| fail "x:dB") => `(tactic| first
  | exact xd_add (by with_reducible assumption) (by with_reducible assumption)
  | exact xd_sub (by with_reducible assumption) (by with_reducible assumption)
  | (refine' xd_mul (by with_reducible assumption) (by with_reducible assumption) ?hz; (case hz => first | exact .inr ⟨by decide, by decide⟩ | exact .inl ⟨by decide, by decide⟩ | exact .inr ⟨by omega, by omega⟩ | exact .inl ⟨by omega, by omega⟩))
  | (refine' xd_div (by with_reducible assumption) (by with_reducible assumption) ?hz; (case hz => first | exact ⟨by decide, by decide⟩ | exact ⟨by omega, by omega⟩))
  | (refine' xd_mod (by with_reducible assumption) (by with_reducible assumption) ?hz; (case hz => fail "x:sd"))
  | (refine' xd_cat (by with_reducible assumption) (by with_reducible assumption) ?hz; (case hz => fail "x:sd"))
  | (refine' xd_catT (by with_reducible assumption) (by with_reducible assumption) ?hz; (case hz => fail "x:sd"))
  | (refine' xd_pow (by with_reducible assumption) (by with_reducible assumption) ?hz; (case hz => fail "x:sd")))
local macro_rules | `(tactic| fail "x:dS") => `(tactic| first
  | (refine' xd_ixT (by with_reducible assumption) ?h2 ?hz; (case h2 => fail "x:d"); (case hz => first | rfl | fail "x:ix"))
  | (refine' xd_ixL (by with_reducible assumption) ?h2 ?hz; (case h2 => fail "x:d"); (case hz => first | rfl | fail "x:ix"))
  | (refine' xd_ixS (by with_reducible assumption) ?h2 ?hz ?hl; (case h2 => fail "x:d"); (case hz => first | rfl | fail "x:ix"); (case hl => fail "x:sd"))
  | (refine' xd_slSf (by with_reducible assumption) ?a ?b ?hz; (case a => fail "x:d"); (case b => fail "x:sd"); (case hz => fail "x:sd"))
  | (refine' xd_slSt (by with_reducible assumption) ?a ?b ?hz; (case a => fail "x:d"); (case b => fail "x:sd"); (case hz => fail "x:sd"))
  | (refine' xd_slS (by with_reducible assumption) ?a ?b ?hz; (case a => fail "x:o"); (case b => fail "x:o"); (case hz => fail "x:sd"))
  | exact xd_slT1 (by with_reducible assumption)
  | (refine' xd_slTf (by with_reducible assumption) ?a ?b; (case a => fail "x:d"); (case b => fail "x:sd"))
  | (refine' xd_slTt (by with_reducible assumption) ?a ?b; (case a => fail "x:d"); (case b => fail "x:sd"))
  | (refine' xd_slT (by with_reducible assumption) ?a ?b; (case a => fail "x:o"); (case b => fail "x:o"))
  | exact XF.toD (xf_slL1 (by with_reducible assumption))
  | (refine' XF.toD (xf_slLf (by with_reducible assumption) ?a ?b); (case a => fail "x:d"); (case b => fail "x:sd"))
  | (refine' XF.toD (xf_slLt (by with_reducible assumption) ?a ?b); (case a => fail "x:d"); (case b => fail "x:sd"))
  | (refine' XF.toD ?h; (case h => (refine' xf_slL (by with_reducible assumption) ?a ?b; (case a => fail "x:o"); (case b => fail "x:o"))))
  | (refine' XF.toD ?h; (case h => (refine' xf_revL (by with_reducible assumption)))))
local macro_rules | `(tactic| fail "x:dC") => `(tactic| first
  | (refine' viaLen ?h1 ?k; (case h1 => fail "x:d"); (case k => intro hvia; first
    | (refine' xd_lenL ?c ?b hvia; (case c => with_reducible assumption); (case b => fail "x:bi"))
    | (refine' xd_lenS ?c ?b hvia ?z; (case c => with_reducible assumption); (case b => fail "x:bi"); (case z => fail "x:sd"))
    | (refine' xd_lenT ?c ?b hvia; (case c => with_reducible assumption); (case b => fail "x:bi"))))
  | (refine' xd_isiA ?c ?b ?b2 ?hT ?h ?hk; (case c => with_reducible assumption); (case b => fail "x:bi"); (case b2 => fail "x:bi"); (case hT => first | exact boot_int | exact boot_tuple | exact boot_str | exact boot_bool | exact boot_list | exact boot_dict); (case h => fail "x:d"); (case hk => fail "x:isi"))
  | (refine' xd_intB ?c ?b ?h; (case c => with_reducible assumption); (case b => fail "x:bi"); (case h => fail "x:d"))
  | (refine' xd_callA ?c ?ca ?cl ?hj ?hg ?ha ?hR; (case c => with_reducible assumption); (case ca => with_reducible assumption); (case cl => with_reducible assumption); (case hj => decide); (case hg => fail "x:gl"); (case ha => fail "x:l"); (case hR => first | with_reducible assumption | (constructor <;> fail "x:sd"))))
local macro_rules | `(tactic| fail "x:d") => `(tactic| first
  | exact xd_int | exact xd_bl | exact xd_non
  | (refine' tName ?h; (case h => fail "x:n"))
  | fail "x:more"
  | (refine' xd_strS ?h; (case h => first | exact str_nil | exact letters_S | rfl))
  | (refine' viaSub ?h1 ?k; (case h1 => fail "x:d"); (case k => intro hvia; fail "x:dS"))
  | (refine' viaBin ?h1 ?h2 ?k; (case h1 => fail "x:d"); (case h2 => fail "x:d"); (case k => intro hvia hvia2; fail "x:dB"))
  | (refine' tCall ?h; (case h => first | fail "x:dC" | (refine' XF.toD ?h; (case h => fail "x:f"))))
  | (refine' tCmp ?h; (case h => first
    | (refine' xd_cmp ?od ?h1 ?h2 ?hm; (case h1 => fail "x:d"); (case h2 => fail "x:d"); (case od => fail "x:od"); (case hm => first | exact nomark _ | rfl))
    | (refine' xd_chain ?od ?od2 ?h1 ?h2 ?h3; (case h1 => fail "x:d"); (case h2 => fail "x:d"); (case h3 => fail "x:d"); (case od => fail "x:od"); (case od2 => intro _; fail "x:od"))))
  | (refine' tBool ?h; (case h => first
    | (refine' xd_and1 ?h1; (case h1 => fail "x:d"))
    | (refine' xd_and ?h1 ?h2; (case h1 => fail "x:d"); (case h2 => intro hz; fail "x:d"))
    | (refine' xd_or ?h1 ?h2; (case h1 => fail "x:d"); (case h2 => intro hz; fail "x:d"))))
  | (refine' viaUn ?h1 ?k; (case h1 => fail "x:d"); (case k => intro hvia; first | exact xd_neg hvia | exact xd_not hvia))
  | (refine' xd_tup ?h ?z; (case h => fail "x:l"); (case z => fail "x:sd"))
  | exact xd_dict0
  | (refine' xd_dict1 ?h; (case h => fail "x:d"))
  | (refine' XF.toD ?h; (case h => fail "x:f")))

local macro_rules | `(tactic| fail "x:more") => `(tactic| fail "no")
section
variable {P : Program} {w : World} {K : PySem.W.Frag} {mg : Str → Option Value} {base : Heap}
theorem ok_cell (F : Df K mg "_law_cell_at" s_l_cell_at ["_law_script", "_law_k"]) (bl : mg "len" = none) : Cl P w K mg base 1 "_law_cell_at" ["_law_script", "_law_k"] (spD K R_cell) := by
  refine df_D F f_l_cell_at (fun _ _ h => by cases h; rfl) fun X H ds r σ D A C W hR g ret nxt => ?_
  obtain ⟨ns, k, hk⟩ := hR
  have n0 : N_l_cell_at[0]? = some ("_law_script" : Str) := rfl
  have n1 : N_l_cell_at[1]? = some ("_law_k" : Str) := rfl
  obtain ⟨l0, l1⟩ := v_l_cell_at
  obtain g_len := g_l_cell_at
  refine ws_when (by fail "x:t") g (fun hv H1 a1 g1 => ?_) (fun hv H1 a1 g1 => ?_)
  · have hv := of_decide_eq_true hv
    rw [List.length_map] at hv
    have e := atI_cell hk hv
    refine ws_ret (xd_ixL (by fail "x:d") (by fail "x:d") e) g1 fun v H2 a2 p => ret v H2 (a1.trans a2) p
  · have hv := of_decide_eq_false hv
    rw [List.length_map] at hv
    refine ws_ret (by fail "x:d") g1 fun v H2 a2 p => ret v H2 (a1.trans a2) ?_
    unfold cellAt
    rw [if_neg hv]
    exact p
inductive R_sign : List PyData → PyData → Prop
  | mk (c : Int) : R_sign [.int c] (.str (S [letter c]))
theorem ok_sign (F : Df K mg "_law_sign" s_l_sign ["_law_cell"]) : Cl P w K mg base 1 "_law_sign" ["_law_cell"] (spD K R_sign) := by
  refine df_D F f_l_sign (fun _ _ h => by cases h; rfl) fun X H ds r σ D A C W hR g ret nxt => ?_
  obtain ⟨c⟩ := hR
  have n0 : N_l_sign[0]? = some ("_law_cell" : Str) := rfl
  obtain l0 := v_l_sign
  refine ws_ret (by fail "x:d") g fun v H1 a1 p => ret v H1 a1 p
inductive R_text : List PyData → PyData → Prop
  | mk (c n : Int) (h : 0 ≤ n) (h2 : n ≤ 1000) : R_text [.int c, .int n] (.str (S (textM c n)))
theorem ok_text (F : Df K mg "_law_text" s_l_text ["_law_cell", "_law_size"]) (c1 : Cl P w K mg base 1 "_law_sign" ["_law_cell"] (spD K R_sign)) (b1 : mg "range" = none) : Cl P w K mg base 2 "_law_text" ["_law_cell", "_law_size"] (spD K R_text) := by
  refine df_D F f_l_text (fun _ _ h => by cases h; rfl) fun X H ds r σ D A C W hR g ret nxt => ?_
  obtain ⟨c, n, h, h2⟩ := hR
  have n0 : N_l_text[0]? = some ("_law_cell" : Str) := rfl
  have n1 : N_l_text[1]? = some ("_law_size" : Str) := rfl
  have n2 : N_l_text[2]? = some ("_law_k" : Str) := rfl
  obtain ⟨l0, l1⟩ := v_l_text
  obtain g_range := g_l_text
  refine ws_ret (xd_join1 (g := fun (k : Nat) => letter (c / (1 + (k : Int)) + 7 * (k : Int))) rfl (XF.toD (xf_all (xs := List.range _) (fun k => .str (S [letter (c / (1 + (k : Int)) + 7 * (k : Int))])) C A (xi_range1 C (by fail "x:bi") (by fail "x:d") (by omega) (by omega)) (by rw [List.length_range]; omega) (by decide +kernel) (by decide +kernel) n2
    (fun X' A' C' H' a ha => by
      have ha := List.mem_range.mp ha
      fail "x:d"))) (by rw [List.length_range]; omega)) g fun v H1 a1 p => ret v H1 a1 p
inductive R_oddS : List PyData → PyData → Prop
  | mk (c many : Int) : R_oddS [.int c, .int many] (oddState c many)
theorem ok_oddS (F : Df K mg "_law_odd_state" s_l_odd_state ["_law_cell", "_law_many"]) : Cl P w K mg base 1 "_law_odd_state" ["_law_cell", "_law_many"] (spD K R_oddS) := by
  refine df_D F f_l_odd_state (fun _ _ h => by cases h; rfl) fun X H ds r σ D A C W hR g ret nxt => ?_
  obtain ⟨c, many⟩ := hR
  have n0 : N_l_odd_state[0]? = some ("_law_cell" : Str) := rfl
  have n1 : N_l_odd_state[1]? = some ("_law_many" : Str) := rfl
  have n2 : N_l_odd_state[2]? = some ("_law_far" : Str) := rfl
  obtain ⟨l0, l1, l2⟩ := v_l_odd_state
  have h10 : (0 : Int) < 10 ^ (Int.toNat 30) := Int.pow_pos (by decide)
  have g : En X.K H H σ [.o (.int c), .o (.int many), .x] := g
  refine ws_d C W n2 l2 (d := .int (farOf c)) (xd_mod (i := c / 8) (j := 10 ^ (Int.toNat 30)) (by fail "x:d") (xd_pow (i := 10) (j := 30) xd_int xd_int ⟨by decide, by decide, by decide⟩) h10) rfl g fun σ1 H1 a1 g1 => ?_
  refine ws_ret (xd_ixL (ds := [PyData.int (-1), .int many, .int (many + farOf c), .int (-1 - farOf c), .bool true, .bool false, .none, .str (S [48]), .list [.int 0], .tuple [.int 1]]) (by fail "x:d") (by fail "x:d") (atI_m (n := 10) c PyData.none (by decide) rfl)) g1 fun v H2 a2 p => ret v H2 (a1.trans a2) p
inductive R_oddT : List PyData → PyData → Prop
  | mk (c : Int) (x : List Nat) (h : x.length ≤ 1000) : R_oddT [.int c, .str (S x)] (oddText c x)
theorem ok_oddT (F : Df K mg "_law_odd_text" s_l_odd_text ["_law_cell", "_law_text_here"]) (b1 : mg "len" = none) : Cl P w K mg base 1 "_law_odd_text" ["_law_cell", "_law_text_here"] (spD K R_oddT) := by
  refine df_D F f_l_odd_text (fun _ _ h => by cases h; rfl) fun X H ds r σ D A C W hR g ret nxt => ?_
  obtain ⟨c, x, hx⟩ := hR
  have n0 : N_l_odd_text[0]? = some ("_law_cell" : Str) := rfl
  have n1 : N_l_odd_text[1]? = some ("_law_text_here" : Str) := rfl
  have n2 : N_l_odd_text[2]? = some ("_law_some" : Str) := rfl
  have n3 : N_l_odd_text[3]? = some ("_law_at" : Str) := rfl
  have n4 : N_l_odd_text[4]? = some ("_law_odd" : Str) := rfl
  obtain ⟨l0, l1, l2, l3, l4⟩ := v_l_odd_text
  obtain g_len := g_l_odd_text
  refine ws_d C W n2 l2 (xd_strS someOdd_S) rfl g fun σ1 H1 a1 g1 => ?_
  have hm := mod_lt (c / 8) (by omega : (0 : Int) < (x.length : Int) + 1)
  refine ws_d C W n3 l3 (d := .int (c / 8 % ((x.length : Int) + 1))) (by fail "x:d") rfl g1 fun σ2 H2 a2 g2 => ?_
  have hi : atI someOdd (c / 64 % (someOdd.length : Int)) = some (someOdd.getD (c / 64 % 13).toNat 0) := atI_m (n := 13) (c / 64) 0 (by decide) rfl
  refine ws_d C W n4 l4 (d := .str (S (oddOf c x))) (by unfold oddOf; fail "x:d") rfl g2 fun σ3 H3 a3 g3 => ?_
  refine ws_ret (xd_ixL (ds := [PyData.str (S (oddOf c x)), .none, .int 5, .list [.str (S x)], .tuple [.str (S x)], .str (S (oddOf c x)), .dict [], .str (S (oddOf c x))]) (by fail "x:d") (by fail "x:d") (atI_m (n := 8) c PyData.none (by decide) rfl)) g3 fun v H4 a4 p => ret v H4 (((a1.trans a2).trans a3).trans a4) p
theorem ok_stateg (F : Df K mg "_law_state_good" s_l_state_good ["_law_thing", "_law_many"]) (b1 : mg "isinstance" = none) (b2 : mg "int" = none) (b3 : mg "bool" = none) : Cl P w K mg base 1 "_law_state_good" ["_law_thing", "_law_many"] (spD K R_state) := by
  refine df_D F f_l_state_good (fun _ _ h => by cases h; rfl) fun X H ds r σ D A C W hR g ret nxt => ?_
  obtain ⟨d, many⟩ := hR
  have n0 : N_l_state_good[0]? = some ("_law_thing" : Str) := rfl
  have n1 : N_l_state_good[1]? = some ("_law_many" : Str) := rfl
  obtain ⟨l0, l1⟩ := v_l_state_good
  obtain ⟨g_isinstance, g_int, g_bool⟩ := g_l_state_good
  cases d with
  | none | str | list | tuple | dict => refine ws_ret (xd_andF (by fail "x:d") rfl) g fun v H1 a1 p => ret v H1 a1 p
  | bool => refine ws_ret (xd_and (b := true) (by fail "x:d") fun _ => xd_andF (b := false) (by fail "x:d") rfl) g fun v H1 a1 p => ret v H1 a1 p
  | int => refine ws_ret (by fail "x:d") g fun v H1 a1 p => ret v H1 a1 p
inductive R_pg : List PyData → PyData → Prop
  | mk (d : PyData) (h : OkS d) : R_pg [d] (.bool (pileD d))
inductive R_sg : List PyData → PyData → Prop
  | mk (d : PyData) (many : Int) (h : OkD d) : R_sg [d, .int many] (.bool (spotD many d))
theorem ok_pileg (F : Df K mg "_law_pile_good" s_l_pile_good ["_law_thing"]) (b1 : mg "isinstance" = none) (b2 : mg "str" = none) : Cl P w K mg base 1 "_law_pile_good" ["_law_thing"] (spD K R_pg) := by
  refine df_D F f_l_pile_good (fun _ _ h => by cases h; rfl) fun X H ds r σ D A C W hR g ret nxt => ?_
  obtain ⟨d, hd⟩ := hR
  have n0 : N_l_pile_good[0]? = some ("_law_thing" : Str) := rfl
  have n1 : N_l_pile_good[1]? = some ("_law_sign_here" : Str) := rfl
  obtain l0 := v_l_pile_good
  obtain ⟨g_isinstance, g_str⟩ := g_l_pile_good
  cases d with
  | none | list | tuple | dict | bool | int =>
    refine ws_when (by fail "x:t") g (fun hv H1 a1 g1 => ?_) (fun hv => by cases hv)
    refine ws_ret (by fail "x:d") g1 fun v H2 a2 p => ret v H2 (a1.trans a2) p
  | str s =>
    have hd : okT (tl s) ∧ (tl s).length ≤ 1000 := hd
    rw [← S_tl s] at g ret nxt
    generalize tl s = x at g ret nxt hd
    refine ws_when (by fail "x:t") g (fun hv => by cases hv) (fun hv H1 a1 g1 => ?_)
    have hL : Lv 4 (.list ((x.filter fun c => !decide (c ∈ letters)).map fun c => .str (S [c]))) := .list fun d hd2 => by
      obtain ⟨c, hc, rfl⟩ := List.mem_map.mp hd2
      exact .str (okT.cons (hd.1 c (List.mem_filter.mp hc).1) okT.nil)
    refine ws_ret (xd_cmp (b := decide (x.filter (fun c => !decide (c ∈ letters)) = [])) ?od (XF.toD (xf_lcA (fun c => !decide (c ∈ letters)) (fun c => .str (S [c])) C A (xi_str (by fail "x:d")) (by have := hd.2; omega) (by decide +kernel) (by decide +kernel) n1
      (fun X' A' C' H' c hc => xts_one (by fail "x:t")) (fun X' A' C' H' c hc _ => by fail "x:d"))) (XF.toD (xf_lst xl_nil (by decide))) rfl) g1 fun v H2 a2 p => ret v H2 (a1.trans a2) ?_
    case od =>
      have o := od_eq (X := X) C (Lv.shaped hL) (Lv.shaped (n := 4) (d := .list []) (.list (List.forall_mem_nil _)))
      have e : PyData.eqv (.list ((x.filter fun c => !decide (c ∈ letters)).map fun c => .str (S [c]))) (.list []) = decide (x.filter (fun c => !decide (c ∈ letters)) = []) := by
        cases x.filter (fun c => !decide (c ∈ letters)) <;> simp [PyData.eqv, PyData.eqvAll]
      rw [e] at o
      exact o
    have e : decide (x.filter (fun c => !decide (c ∈ letters)) = []) = pileD (.str (S x)) := by
      rw [pileD, tl_S, allL, Bool.eq_iff_iff]
      simp [List.filter_eq_nil_iff]
    rw [← e]
    exact p
inductive R_rg : List PyData → PyData → Prop
  | mk (d : PyData) (many : Int) (h : OkD d) : R_rg [d, .int many] (.bool (ruleD many d))
theorem ok_ruleg (F : Df K mg "_law_rule_good" s_l_rule_good ["_law_thing", "_law_many"]) (c1 : Cl P w K mg base 1 "_law_state_good" ["_law_thing", "_law_many"] (spD K R_state)) (c2 : Cl P w K mg base 1 "_law_pile_good" ["_law_thing"] (spD K R_pg)) (b1 : mg "isinstance" = none) (b2 : mg "tuple" = none) (b3 : mg "len" = none) : Cl P w K mg base 2 "_law_rule_good" ["_law_thing", "_law_many"] (spD K R_rg) := by
  refine df_D F f_l_rule_good (fun _ _ h => by cases h; rfl) fun X H ds r σ D A C W hR g ret nxt => ?_
  obtain ⟨d, many, hd⟩ := hR
  have n0 : N_l_rule_good[0]? = some ("_law_thing" : Str) := rfl
  have n1 : N_l_rule_good[1]? = some ("_law_many" : Str) := rfl
  obtain ⟨l0, l1⟩ := v_l_rule_good
  obtain ⟨g_isinstance, g_tuple, g_len, g_law_pile_good, g_law_state_good⟩ := g_l_rule_good
  cases d with
  | none | list | dict | bool | int | str =>
    refine ws_when (xw_t (xw_orT (by fail "x:t") (by rfl))) g (fun hv H1 a1 g1 => ?_) (fun hv => by cases hv)
    refine ws_ret (by fail "x:d") g1 fun v H2 a2 p => ret v H2 (a1.trans a2) p
  | tuple ds =>
    by_cases hl : ds.length = 4
    · match ds, hl with
      | [a, b, c, e], _ =>
        refine ws_when (by fail "x:t") g (fun hv H1 a1 g1 => ?_) (fun hv H1 a1 g1 => ?_)
        · simp at hv
        have pb : R_pg [b] (.bool (pileD b)) := .mk b (hd.2 _ rfl b (by simp))
        have pe : R_pg [e] (.bool (pileD e)) := .mk e (hd.2 _ rfl e (by simp))
        refine ws_when (by fail "x:t") g1 (fun hv H2 a2 g2 => ?_) (fun hv H2 a2 g2 => ?_)
        · refine ws_ret (by fail "x:d") g2 fun v H3 a3 p => ret v H3 ((a1.trans a2).trans a3) ?_
          have e : ruleD many (.tuple [a, b, c, e]) = false := by
            simp at hv
            rw [ruleD]
            cases h1 : pileD b <;> cases h2 : pileD e <;> simp [h1, h2] at hv ⊢
          rw [e]
          exact p
        · have hv : pileD b = true ∧ pileD e = true := by simpa using hv
          cases b with
          | none | list | dict | bool | int | tuple => cases hv.1
          | str x =>
            cases e with
            | none | list | dict | bool | int | tuple => cases hv.2
            | str y =>
              have hx : (tl x).length ≤ 1000 := (hd.2 _ rfl (.str x) (by simp)).2
              have hy : (tl y).length ≤ 1000 := (hd.2 _ rfl (.str y) (by simp)).2
              clear hd pb pe
              rw [← S_tl x, ← S_tl y] at g2 ret nxt hv
              generalize tl x = x at g2 ret nxt hv hx
              generalize tl y = y at g2 ret nxt hv hy
              refine ws_when (by fail "x:t") g2 (fun hw H3 a3 g3 => ?_) (fun hw H3 a3 g3 => ?_)
              · refine ws_ret (by fail "x:d") g3 fun v H4 a4 p => ret v H4 (((a1.trans a2).trans a3).trans a4) ?_
                have e : ruleD many (.tuple [a, .str (S x), c, .str (S y)]) = false := by
                  simp at hw
                  rw [ruleD, lenD, lenD, tl_S, tl_S]
                  rcases hw with hw | hw
                  · have : ¬ (x.length = 1) := by omega
                    simp [this]
                  · have : ¬ (y.length ≤ 2) := by omega
                    simp [this]
                rw [e]
                exact p
              · have hw : x.length = 1 ∧ y.length ≤ 2 := by
                  simp at hw
                  omega
                refine ws_ret (by fail "x:d") g3 fun v H4 a4 p => ret v H4 (((a1.trans a2).trans a3).trans a4) ?_
                rw [ruleD, hv.1, hv.2, lenD, lenD, tl_S, tl_S, decide_eq_true hw.1, decide_eq_true hw.2]
                exact p
    · refine ws_when (xw_t (xw_or (by fail "x:t") fun _ => xw_or1 (by fail "x:t"))) g (fun hv H1 a1 g1 => ?_) (fun hv H1 a1 g1 => ?_)
      · refine ws_ret (by fail "x:d") g1 fun v H2 a2 p => ret v H2 (a1.trans a2) ?_
        have e : ruleD many (.tuple ds) = false := by
          match ds, hl with
          | [], _ | [_], _ | [_, _], _ | [_, _, _], _ | _ :: _ :: _ :: _ :: _ :: _, _ => rfl
          | [_, _, _, _], h => exact absurd rfl h
        rw [e]
        exact p
      · simp at hv
        omega
theorem ok_spotg (F : Df K mg "_law_spot_good" s_l_spot_good ["_law_thing", "_law_many"]) (c1 : Cl P w K mg base 1 "_law_state_good" ["_law_thing", "_law_many"] (spD K R_state)) (c2 : Cl P w K mg base 1 "_law_pile_good" ["_law_thing"] (spD K R_pg)) (b1 : mg "isinstance" = none) (b2 : mg "tuple" = none) (b3 : mg "len" = none) : Cl P w K mg base 2 "_law_spot_good" ["_law_thing", "_law_many"] (spD K R_sg) := by
  refine df_D F f_l_spot_good (fun _ _ h => by cases h; rfl) fun X H ds r σ D A C W hR g ret nxt => ?_
  obtain ⟨d, many, hd⟩ := hR
  have n0 : N_l_spot_good[0]? = some ("_law_thing" : Str) := rfl
  have n1 : N_l_spot_good[1]? = some ("_law_many" : Str) := rfl
  obtain ⟨l0, l1⟩ := v_l_spot_good
  obtain ⟨g_isinstance, g_tuple, g_len, g_law_state_good, g_law_pile_good⟩ := g_l_spot_good
  cases d with
  | none | list | dict | bool | int | str =>
    refine ws_when (xw_t (xw_orT (by fail "x:t") (by rfl))) g (fun hv H1 a1 g1 => ?_) (fun hv => by cases hv)
    refine ws_ret (by fail "x:d") g1 fun v H2 a2 p => ret v H2 (a1.trans a2) p
  | tuple ds =>
    refine ws_when (by fail "x:t") g (fun hv H1 a1 g1 => ?_) (fun hv H1 a1 g1 => ?_)
    · have hv : ds.length ≠ 2 := by
        intro h
        rw [h] at hv
        simp at hv
      refine ws_ret (by fail "x:d") g1 fun v H2 a2 p => ret v H2 (a1.trans a2) ?_
      have e : spotD many (.tuple ds) = false := by
        match ds, hv with
        | [], _ | [_], _ | _ :: _ :: _ :: _, _ => rfl
        | [_, _], h => exact absurd rfl h
      rw [e]
      exact p
    · have hv : ds.length = 2 := by
        simp at hv
        omega
      match ds, hv with
      | [a, b], _ =>
        have pb : R_pg [b] (.bool (pileD b)) := .mk b (hd.2 _ rfl b (by simp))
        refine ws_ret (by fail "x:d") g1 fun v H2 a2 p => ret v H2 (a1.trans a2) p
inductive R_same : List PyData → PyData → Prop
  | mk (a b : Bool) : R_same [.bool a, .bool b] (.bool (decide (a = b)))
theorem ok_same (F : Df K mg "_law_same" s_l_same ["_law_found", "_law_due"]) (b1 : mg "isinstance" = none) (b2 : mg "bool" = none) : Cl P w K mg base 1 "_law_same" ["_law_found", "_law_due"] (spD K R_same) := by
  refine df_D F f_l_same (fun _ _ h => by cases h; rfl) fun X H ds r σ D A C W hR g ret nxt => ?_
  obtain ⟨a, b⟩ := hR
  have n0 : N_l_same[0]? = some ("_law_found" : Str) := rfl
  have n1 : N_l_same[1]? = some ("_law_due" : Str) := rfl
  obtain ⟨l0, l1⟩ := v_l_same
  obtain ⟨g_isinstance, g_bool⟩ := g_l_same
  refine ws_ret (by fail "x:d") g fun v H2 a2 p => ret v H2 a2 p
end
end Pr

/-! ## K01c.lean -/
set_option Elab.async false
set_option linter.all false
set_option maxRecDepth 100000
set_option maxHeartbeats 4000000
namespace Pr
open PySem PySem.Spec PyProof.Rows L2
/-! ### searching for the rules -/
local macro_rules | `(tactic| fail "x:ix") => `(tactic| first | exact atI_letters _ | with_reducible assumption | exact atI_nat rfl)
local macro_rules | `(tactic| fail "x:sd") => `(tactic| first | with_reducible assumption | omega | decide | exact ⟨by decide, by decide⟩ | (simp only [List.length_cons, List.length_nil, List.length_append, List.length_map, List.length_range, List.length_drop, List.length_take]; omega) | (simp at *; omega))
local macro_rules | `(tactic| fail "x:isi") => `(tactic| first | exact isi_none_int | exact isi_bool_int | exact isi_int_int | exact isi_str_int | exact isi_list_int | exact isi_tuple_int | exact isi_dict_int | exact isi_none_str | exact isi_bool_str | exact isi_int_str | exact isi_str_str | exact isi_list_str | exact isi_tuple_str | exact isi_dict_str | exact isi_none_bool | exact isi_bool_bool | exact isi_int_bool | exact isi_str_bool | exact isi_list_bool | exact isi_tuple_bool | exact isi_dict_bool | exact isi_none_tuple | exact isi_bool_tuple | exact isi_int_tuple | exact isi_str_tuple | exact isi_list_tuple | exact isi_tuple_tuple | exact isi_dict_tuple | exact isi_none_list | exact isi_bool_list | exact isi_int_list | exact isi_str_list | exact isi_list_list | exact isi_tuple_list | exact isi_dict_list | exact isi_none_dict | exact isi_bool_dict | exact isi_int_dict | exact isi_str_dict | exact isi_list_dict | exact isi_tuple_dict | exact isi_dict_dict)
local macro_rules | `(tactic| fail "x:gl") => `(tactic| first | with_reducible assumption | decide +kernel)
local macro_rules | `(tactic| fail "x:lo") => `(tactic| first | with_reducible assumption | (unfold L2.Loc; decide +kernel))
local macro_rules | `(tactic| fail "x:vi") => `(tactic| first | exact loc_vis (by with_reducible assumption) | (unfold L2.Vis; decide +kernel))
local macro_rules | `(tactic| fail "x:bi") => `(tactic| exact bi_of (by with_reducible assumption) (by fail "x:gl") (by with_reducible assumption))
local macro_rules | `(tactic| fail "x:lv") => `(tactic| first
  | exact Lv.int | exact Lv.none | exact Lv.bool | with_reducible assumption
  | (refine' Lv.str ?h; (case h => first | with_reducible assumption | exact okT.nil | simp [okT]))
  | (refine' Lv.tuple ?h; (case h => fail "x:lvs")) | (refine' Lv.list ?h; (case h => fail "x:lvs")) | (refine' Lv.succ _; with_reducible assumption))
local macro_rules | `(tactic| fail "x:lvs") => `(tactic| first
  | exact List.forall_mem_nil _
  | (refine' List.forall_mem_cons.mpr ⟨_, _⟩ <;> first | fail "x:lvs" | fail "x:lv")
  | with_reducible assumption)
local macro_rules | `(tactic| fail "x:n") => `(tactic| first
  | (refine' xd_d (by with_reducible assumption) (by with_reducible assumption) ?h (by rfl); (case h => fail "x:vi"))
  | (refine' xd_o (by with_reducible assumption) (by with_reducible assumption) ?h (by rfl); (case h => fail "x:vi"))
  | (refine' xd_v (by with_reducible assumption) (by with_reducible assumption) ?h (by rfl) (by with_reducible assumption); (case h => fail "x:vi")))
local macro_rules | `(tactic| fail "x:v") => `(tactic| (refine' xv_v (by with_reducible assumption) (by with_reducible assumption) ?h (by rfl); (case h => fail "x:vi")))
local macro_rules | `(tactic| fail "x:od") => `(tactic| first
  | exact od_lt | exact od_le | exact od_gt | exact od_ge | exact od_eqI | exact od_neI | exact od_eqS | exact od_neS | exact od_isN | exact od_notN | exact od_isB | exact od_notB | exact od_eqB | exact od_neB | exact od_inC | exact od_ninC
  | exact od_eq (by with_reducible assumption) (Lv.shaped (n := 4) (by fail "x:lv")) (Lv.shaped (n := 4) (by fail "x:lv"))
  | exact od_ne (by with_reducible assumption) (Lv.shaped (n := 4) (by fail "x:lv")) (Lv.shaped (n := 4) (by fail "x:lv"))
  | exact od_in (by with_reducible assumption) (Lv.shaped (n := 4) (by fail "x:lv")) (Lv.shaped (n := 4) (by fail "x:lv"))
  | exact od_nin (by with_reducible assumption) (Lv.shaped (n := 4) (by fail "x:lv")) (Lv.shaped (n := 4) (by fail "x:lv")))
local macro_rules | `(tactic| fail "x:t") => `(tactic| first
  | (refine' tTBool ?h; (case h => fail "x:w"))
  | (refine' xt_not ?h; (case h => fail "x:t"))
  | (refine' tTCmp ?h; (case h => first
    | (refine' xt_cmp ?od ?h1 ?h2 ?hm; (case h1 => fail "x:d"); (case h2 => fail "x:d"); (case od => fail "x:od"); (case hm => first | exact nomark _ | rfl))
    | (refine' xt_chain ?od ?od2 ?h1 ?h2 ?h3; (case h1 => fail "x:d"); (case h2 => fail "x:d"); (case h3 => fail "x:d"); (case od => fail "x:od"); (case od2 => intro _; fail "x:od"))))
  | (refine' xt_vC ?h; (case h => fail "x:d"))
  | (refine' xt_vN ?h; (case h => fail "x:d"))
  | (refine' xt_vS ?h; (case h => fail "x:d"))
  | (refine' xt_vK ?h; (case h => fail "x:d")))
local macro_rules | `(tactic| fail "x:w") => `(tactic| first
  | (refine' xw_or1 ?h; (case h => fail "x:t")) | (refine' xw_and1 ?h; (case h => fail "x:t"))
  | (refine' xw_or ?h1 ?h2; (case h1 => fail "x:t"); (case h2 => intro hz; fail "x:w"))
  | (refine' xw_and ?h1 ?h2; (case h1 => fail "x:t"); (case h2 => intro hz; fail "x:w")))
local macro_rules | `(tactic| fail "x:l") => `(tactic| first
  | exact xl_nil
  | (refine' xl_cons ?h ?t; (case h => fail "x:d"); (case t => fail "x:l")))
local macro_rules | `(tactic| fail "x:o") => `(tactic| first | exact xo_none | (refine' xo_some ?h; (case h => fail "x:d")))
local macro_rules | `(tactic| fail "x:f") => `(tactic| first
  | (refine' xf_slL ?h ?a ?b; (case h => fail "x:d"); (case a => fail "x:o"); (case b => fail "x:o"))
  | (refine' xf_lst ?h ?z; (case h => fail "x:l"); (case z => fail "x:sd"))
  | (refine' xf_list ?c ?b ?h; (case c => with_reducible assumption); (case b => fail "x:bi"); (case h => fail "x:d"))
  | (refine' xf_listT ?c ?b ?h; (case c => with_reducible assumption); (case b => fail "x:bi"); (case h => fail "x:d"))
  | (refine' xf_callA ?c ?ca ?cl ?hj ?hg ?ha ?hR; (case c => with_reducible assumption); (case ca => with_reducible assumption); (case cl => with_reducible assumption); (case hj => decide); (case hg => fail "x:gl"); (case ha => fail "x:l"); (case hR => first | with_reducible assumption | (constructor <;> fail "x:sd")))
  | (refine' xf_revL ?h; (case h => fail "x:d")))
local macro_rules | `(tactic| fail "x:dB") => `(tactic| first
  | exact xd_add (by with_reducible assumption) (by with_reducible assumption)
  | exact xd_sub (by with_reducible assumption) (by with_reducible assumption)
  | (refine' xd_mul (by with_reducible assumption) (by with_reducible assumption) ?hz; (case hz => first | exact .inr ⟨by decide, by decide⟩ | exact .inl ⟨by decide, by decide⟩ | exact .inr ⟨by omega, by omega⟩ | exact .inl ⟨by omega, by omega⟩))
  | (refine' xd_div (by with_reducible assumption) (by with_reducible assumption) ?hz; (case hz => first | exact ⟨by decide, by decide⟩ | exact ⟨by omega, by omega⟩))
  | (refine' xd_mod (by with_reducible assumption) (by with_reducible assumption) ?hz; (case hz => fail "x:sd"))
  | (refine' xd_cat (by with_reducible assumption) (by with_reducible assumption) ?hz; (case hz => fail "x:sd"))
  | (refine' xd_catT (by with_reducible assumption) (by with_reducible assumption) ?hz; (case hz => fail "x:sd"))
  | (refine' xd_pow (by with_reducible assumption) (by with_reducible assumption) ?hz; (case hz => fail "x:sd")))
local macro_rules | `(tactic| fail "x:dS") => `(tactic| first
  | (refine' xd_ixT (by with_reducible assumption) ?h2 ?hz; (case h2 => fail "x:d"); (case hz => first | rfl | fail "x:ix"))
  | (refine' xd_ixL (by with_reducible assumption) ?h2 ?hz; (case h2 => fail "x:d"); (case hz => first | rfl | fail "x:ix"))
  | (refine' xd_ixS (by with_reducible assumption) ?h2 ?hz ?hl; (case h2 => fail "x:d"); (case hz => first | rfl | fail "x:ix"); (case hl => fail "x:sd"))
  | (refine' xd_slSf (by with_reducible assumption) ?a ?b ?hz; (case a => fail "x:d"); (case b => fail "x:sd"); (case hz => fail "x:sd"))
  | (refine' xd_slSt (by with_reducible assumption) ?a ?b ?hz; (case a => fail "x:d"); (case b => fail "x:sd"); (case hz => fail "x:sd"))
  | (refine' xd_slS (by with_reducible assumption) ?a ?b ?hz; (case a => fail "x:o"); (case b => fail "x:o"); (case hz => fail "x:sd"))
  | exact xd_slT1 (by with_reducible assumption)
  | (refine' xd_slTf (by with_reducible assumption) ?a ?b; (case a => fail "x:d"); (case b => fail "x:sd"))
  | (refine' xd_slTt (by with_reducible assumption) ?a ?b; (case a => fail "x:d"); (case b => fail "x:sd"))
  | (refine' xd_slT (by with_reducible assumption) ?a ?b; (case a => fail "x:o"); (case b => fail "x:o"))
  | exact XF.toD (xf_slL1 (by with_reducible assumption))
  | (refine' XF.toD (xf_slLf (by with_reducible assumption) ?a ?b); (case a => fail "x:d"); (case b => fail "x:sd"))
  | (refine' XF.toD (xf_slLt (by with_reducible assumption) ?a ?b); (case a => fail "x:d"); (case b => fail "x:sd"))
  | (refine' XF.toD ?h; (case h => (refine' xf_slL (by with_reducible assumption) ?a ?b; (case a => fail "x:o"); (case b => fail "x:o"))))
  | (refine' XF.toD ?h; (case h => (refine' xf_revL (by with_reducible assumption)))))
local macro_rules | `(tactic| fail "x:dC") => `(tactic| first
  | (refine' viaLen ?h1 ?k; (case h1 => fail "x:d"); (case k => intro hvia; first
    | (refine' xd_lenL ?c ?b hvia; (case c => with_reducible assumption); (case b => fail "x:bi"))
    | (refine' xd_lenS ?c ?b hvia ?z; (case c => with_reducible assumption); (case b => fail "x:bi"); (case z => fail "x:sd"))
    | (refine' xd_lenT ?c ?b hvia; (case c => with_reducible assumption); (case b => fail "x:bi"))))
  | (refine' xd_isiA ?c ?b ?b2 ?hT ?h ?hk; (case c => with_reducible assumption); (case b => fail "x:bi"); (case b2 => fail "x:bi"); (case hT => first | exact boot_int | exact boot_tuple | exact boot_str | exact boot_bool | exact boot_list | exact boot_dict); (case h => fail "x:d"); (case hk => fail "x:isi"))
  | (refine' xd_intB ?c ?b ?h; (case c => with_reducible assumption); (case b => fail "x:bi"); (case h => fail "x:d"))
  | (refine' xd_callA ?c ?ca ?cl ?hj ?hg ?ha ?hR; (case c => with_reducible assumption); (case ca => with_reducible assumption); (case cl => with_reducible assumption); (case hj => decide); (case hg => fail "x:gl"); (case ha => fail "x:l"); (case hR => first | with_reducible assumption | (constructor <;> fail "x:sd"))))
local macro_rules | `(tactic| fail "x:d") => `(tactic| first
  | exact xd_int | exact xd_bl | exact xd_non
  | (refine' tName ?h; (case h => fail "x:n"))
  | fail "x:more"
  | (refine' xd_strS ?h; (case h => first | exact str_nil | exact letters_S | rfl))
  | (refine' viaSub ?h1 ?k; (case h1 => fail "x:d"); (case k => intro hvia; fail "x:dS"))
  | (refine' viaBin ?h1 ?h2 ?k; (case h1 => fail "x:d"); (case h2 => fail "x:d"); (case k => intro hvia hvia2; fail "x:dB"))
  | (refine' tCall ?h; (case h => first | fail "x:dC" | (refine' XF.toD ?h; (case h => fail "x:f"))))
  | (refine' tCmp ?h; (case h => first
    | (refine' xd_cmp ?od ?h1 ?h2 ?hm; (case h1 => fail "x:d"); (case h2 => fail "x:d"); (case od => fail "x:od"); (case hm => first | exact nomark _ | rfl))
    | (refine' xd_chain ?od ?od2 ?h1 ?h2 ?h3; (case h1 => fail "x:d"); (case h2 => fail "x:d"); (case h3 => fail "x:d"); (case od => fail "x:od"); (case od2 => intro _; fail "x:od"))))
  | (refine' tBool ?h; (case h => first
    | (refine' xd_and1 ?h1; (case h1 => fail "x:d"))
    | (refine' xd_and ?h1 ?h2; (case h1 => fail "x:d"); (case h2 => intro hz; fail "x:d"))
    | (refine' xd_or ?h1 ?h2; (case h1 => fail "x:d"); (case h2 => intro hz; fail "x:d"))))
  | (refine' viaUn ?h1 ?k; (case h1 => fail "x:d"); (case k => intro hvia; first | exact xd_neg hvia | exact xd_not hvia))
  | (refine' xd_tup ?h ?z; (case h => fail "x:l"); (case z => fail "x:sd"))
  | exact xd_dict0
  | (refine' xd_dict1 ?h; (case h => fail "x:d"))
  | (refine' XF.toD ?h; (case h => fail "x:f")))

local macro_rules | `(tactic| fail "x:more") => `(tactic| fail "no")
section
variable {P : Program} {w : World} {K : PySem.W.Frag} {mg : Str → Option Value} {base : Heap}
inductive R_spoilt : List PyData → PyData → Prop
  | mk (row : List PyData) (cell many : Int) (h : ∀ z ∈ row, (∃ i, z = .int i) ∨ ∃ x, z = .str (S x) ∧ x.length ≤ 900) (h0 : 0 < row.length) (h1 : row.length ≤ 10) : R_spoilt [.tuple row, .int cell, .int many] (spoiltF row cell many)
theorem ok_spoilt (F : Df K mg "_law_spoilt" s_l_spoilt ["_law_row", "_law_cell", "_law_many"]) (c1 : Cl P w K mg base 2 "_law_text" ["_law_cell", "_law_size"] (spD K R_text)) (c2 : Cl P w K mg base 1 "_law_odd_state" ["_law_cell", "_law_many"] (spD K R_oddS)) (c3 : Cl P w K mg base 1 "_law_odd_text" ["_law_cell", "_law_text_here"] (spD K R_oddT))
    (b1 : mg "isinstance" = none) (b2 : mg "str" = none) (b3 : mg "len" = none) (b4 : mg "list" = none) : Cl P w K mg base 3 "_law_spoilt" ["_law_row", "_law_cell", "_law_many"] (spD K R_spoilt) := by
  refine df_D F f_l_spoilt (fun _ _ h => by cases h; rfl) fun X H ds r σ D A C W hR g ret nxt => ?_
  obtain ⟨row, cell, many, h, h0, h1⟩ := hR
  have n0 : N_l_spoilt[0]? = some ("_law_row" : Str) := rfl
  have n1 : N_l_spoilt[1]? = some ("_law_cell" : Str) := rfl
  have n2 : N_l_spoilt[2]? = some ("_law_many" : Str) := rfl
  have n3 : N_l_spoilt[3]? = some ("_law_at" : Str) := rfl
  have n4 : N_l_spoilt[4]? = some ("_law_more" : Str) := rfl
  have n5 : N_l_spoilt[5]? = some ("_law_long" : Str) := rfl
  have n6 : N_l_spoilt[6]? = some ("_law_part" : Str) := rfl
  obtain ⟨l0, l1, l2, l3, l4, l5, l6⟩ := v_l_spoilt
  obtain ⟨g_len, g_list, g_isinstance, g_str, g_law_text, g_law_odd_text, g_law_odd_state⟩ := g_l_spoilt
  have hl : (0 : Int) < (row.length : Int) := by omega
  have hm := mod_lt (cell / 7) hl
  refine ws_d C W n3 l3 (d := .int (cell / 7 % (row.length : Int))) (by fail "x:d") rfl g fun σ1 H1 a1 g1 => ?_
  refine ws_d C W n4 l4 (d := .int (cell / 49)) (by fail "x:d") rfl g1 fun σ2 H2 a2 g2 => ?_
  have s2 := a1.trans a2
  refine ws_when (by fail "x:t") g2 (fun hv H3 a3 g3 => ?_) (fun hv H3 a3 g3 => ?_)
  · refine ws_ret (by fail "x:d") g3 fun v H4 a4 p => ret v H4 (s2.trans (a3.trans a4)) ?_
    rw [spoiltF, if_pos (by simpa using hv)]
    exact p
  have e0 : ¬ cell % 7 = 0 := by simpa using hv
  refine ws_when (by fail "x:t") g3 (fun hv H4 a4 g4 => ?_) (fun hv H4 a4 g4 => ?_)
  · refine ws_ret (xd_ixL (ds := [PyData.list row, .tuple row.dropLast, .tuple (row ++ [.int 0]), .none, .int 7, .dict [], .str (S [97, 98]), .tuple []]) (by fail "x:d") (by fail "x:d") (atI_m (n := 8) (cell / 49) PyData.none (by decide) rfl)) g4 fun v H5 a5 p => ret v H5 ((s2.trans (a3.trans a4)).trans a5) ?_
    rw [spoiltF, if_neg e0, if_pos (by simpa using hv)]
    exact p
  have e1 : ¬ cell % 7 = 1 := by simpa using hv
  have hz : atI row (cell / 7 % (row.length : Int)) = some (row.getD (cell / 7 % (row.length : Int)).toNat .none) := atI_m (cell / 7) PyData.none hl rfl
  have hzm : row.getD (cell / 7 % (row.length : Int)).toNat .none ∈ row := by
    rw [List.getD_eq_getElem?_getD, List.getElem?_eq_getElem (by omega)]
    exact List.getElem_mem _
  have hh := h _ hzm
  have ret : ∀ v H', Same H H' → Dq X.K H' v (.tuple (row.take (cell / 7 % (row.length : Int)).toNat ++ [match row.getD (cell / 7 % (row.length : Int)).toNat .none with
      | .str s => [oddText (cell / 49) (tl s), .str (S (tl s ++ textM (cell / 49) (1 + cell / 49 % 3))), .str (S [])].getD (cell % 3).toNat .none
      | _ => oddState (cell / 49) many] ++ row.drop ((cell / 7 % (row.length : Int)).toNat + 1))) → D.rt v H' := fun v H' s q => ret v H' s (by
    rw [spoiltF, if_neg e0, if_neg e1]
    exact q)
  have ed : (cell / 7 % (row.length : Int) + 1).toNat = (cell / 7 % (row.length : Int)).toNat + 1 := by omega
  generalize row.getD (cell / 7 % (row.length : Int)).toNat .none = z at hz hzm hh ret
  rcases hh with ⟨i, rfl⟩ | ⟨x, rfl, hx⟩
  · refine ws_if (by fail "x:t") g4 (fun hv => by cases hv) (fun hv H5 a5 g5 => ?_)
    refine ws_o C W n6 l6 (d := oddState (cell / 49) many) (by fail "x:d") g5 fun σ6 H6 a6 g6 => ?_
    refine ws_nil (ws_ret (by fail "x:d") g6 fun v H7 a7 p => ret v H7 ((s2.trans (a3.trans a4)).trans (a5.trans (a6.trans a7))) ?_)
    rw [ed] at p
    exact p
  · refine ws_if (by fail "x:t") g4 (fun hv H5 a5 g5 => ?_) (fun hv => by cases hv)
    have m3 := mod_lt (cell / 49) (by decide : (0 : Int) < 3)
    have ht := textM_len (cell / 49) (1 + cell / 49 % 3)
    refine ws_d C W n5 l5 (d := .str (S (x ++ textM (cell / 49) (1 + cell / 49 % 3)))) (by fail "x:d") rfl g5 fun σ6 H6 a6 g6 => ?_
    refine ws_o C W n6 l6 (xd_ixL (ds := [oddText (cell / 49) x, .str (S (x ++ textM (cell / 49) (1 + cell / 49 % 3))), .str (S [])]) (by fail "x:d") (by fail "x:d") (atI_m (n := 3) cell PyData.none (by decide) rfl)) g6 fun σ7 H7 a7 g7 => ?_
    refine ws_nil (ws_ret (by fail "x:d") g7 fun v H8 a8 p => ret v H8 ((s2.trans (a3.trans a4)).trans (a5.trans (a6.trans (a7.trans a8)))) ?_)
    rw [ed] at p
    simp only [tl_S]
    exact p
def bads : List Nat := [65, 66, 77, 90, 123, 96, 125, 124, 126, 32, 48, 49, 53, 57, 47, 95, 10, 9, 45, 64, 91, 93]
theorem bads_S : ("ABMZ{`}|~ 0159/_\n\t-\x40[]" : Str) = S bads := by decide +kernel
theorem bads_no : ∀ c ∈ bads, c ∉ letters := by decide
theorem allL_bad {x y : List Nat} {c : Nat} (h : c ∈ bads) : allL (x ++ [c] ++ y) = false := by
  rw [allL, List.all_eq_false]
  exact ⟨c, by simp, by simpa using bads_no c h⟩
inductive R_ref : List PyData → PyData → Prop
  | mk (r : Rl) (z : Spt) (cell many : Int) (hr : r.p.length ≤ 2) (hz : z.2.length ≤ 200) : R_ref [dR r, dSp z, .int cell, .int many] (.bool true)
theorem ok_ref (F : Df K mg "_law_signs_refused" s_l_signs_refused ["_law_rule", "_law_spot", "_law_cell", "_law_many"]) (c1 : Cl P w K mg base 3 "is_spot" ["thing", "many"] (spD K R_isspot)) (c2 : Cl P w K mg base 3 "is_rule" ["thing", "many"] (spD K R_isrule)) (b1 : mg "len" = none) : Cl P w K mg base 4 "_law_signs_refused" ["_law_rule", "_law_spot", "_law_cell", "_law_many"] (spD K R_ref) := by
  refine df_D F f_l_signs_refused (fun _ _ h => by cases h; rfl) fun X H ds r σ D A C W hR g ret nxt => ?_
  obtain ⟨r, ⟨s, x⟩, cell, many, hr, hz⟩ := hR
  have n0 : N_l_signs_refused[0]? = some ("_law_rule" : Str) := rfl
  have n1 : N_l_signs_refused[1]? = some ("_law_spot" : Str) := rfl
  have n2 : N_l_signs_refused[2]? = some ("_law_cell" : Str) := rfl
  have n3 : N_l_signs_refused[3]? = some ("_law_many" : Str) := rfl
  have n4 : N_l_signs_refused[4]? = some ("_law_state" : Str) := rfl
  have n5 : N_l_signs_refused[5]? = some ("_law_pile" : Str) := rfl
  have n6 : N_l_signs_refused[6]? = some ("_law_at" : Str) := rfl
  have n7 : N_l_signs_refused[7]? = some ("_law_sign_here" : Str) := rfl
  obtain ⟨l0, l1, l2, l3, l4, l5, l6, l7⟩ := v_l_signs_refused
  obtain ⟨g_len, g_is_spot, g_is_rule⟩ := g_l_signs_refused
  have hz : x.length ≤ 200 := hz
  refine ws_twoD (d1 := .int s) (d2 := .str (S x)) C W n4 n5 l4 l5 (by fail "x:d") rfl rfl g fun σ1 H1 a1 g1 => ?_
  have hm := mod_lt cell (by omega : (0 : Int) < (x.length : Int) + 1)
  refine ws_d C W n6 l6 (d := .int (cell % ((x.length : Int) + 1))) (by fail "x:d") rfl g1 fun σ2 H2 a2 g2 => ?_
  generalize cell % ((x.length : Int) + 1) = at_ at hm g2
  have g2 : En X.K H H2 σ2 [.o (dR r), .o (dSp (s, x)), .o (.int cell), .o (.int many), .d (.int s), .d (.str (S x)), .d (.int at_), .x] := g2
  refine ws_forE (xs := bads) C W n7 l7 (xi_str (xd_strS bads_S)) g2 (fun _ => H) (fun _ => [.o (dR r), .o (dSp (s, x)), .o (.int cell), .o (.int many), .d (.int s), .d (.str (S x)), .d (.int at_), .x]) (fun _ _ _ => True) (fun H3 a b => ⟨Same.refl _, g2.mono a, True.intro⟩) ?_ ?_
  · intro H3 m c v σ' H' H'' a3 ha g3 _ s3 hv g4
    have hc := List.mem_of_getElem? ha
    have hal : allL (x.take at_.toNat ++ [c] ++ x.drop at_.toNat) = false := allL_bad hc
    have hcl : allL [c] = false := allL_bad (x := []) (y := []) hc
    have hpl : allL (r.p.take 1 ++ [c]) = false := by
      have := allL_bad (x := r.p.take 1) (y := []) hc
      rwa [List.append_nil] at this
    have e1 : spotD many (.tuple [.int s, .str (S (x.take at_.toNat ++ [c] ++ x.drop at_.toNat))]) = false := by
      rw [spotD, pileD, tl_S, hal, Bool.and_false]
    refine ws_when (by fail "x:t") g4 (fun hw H4 a4 g5 => ?_) (fun hw H4 a4 g5 => ?_)
    · rw [e1] at hw
      simp at hw
    have p2 : R_isrule [.tuple [.int r.s, .str (S [c]), .int r.t, .str (S r.p)], .int many] (.bool false) := by
      have e2 : ruleD many (.tuple [.int r.s, .str (S [c]), .int r.t, .str (S r.p)]) = false := by
        rw [ruleD, pileD, tl_S, hcl]
        simp
      rw [← e2]
      refine .mk _ _ fun ds e z hz => ?_
      cases e
      simp only [List.mem_cons, List.not_mem_nil, or_false] at hz
      rcases hz with rfl | rfl | rfl | rfl <;> simp [lenD, tl_S] <;> omega
    have p3 : R_isrule [.tuple [.int r.s, .str (S [r.c]), .int r.t, .str (S (r.p.take (Int.toNat 1) ++ [c]))], .int many] (.bool false) := by
      have e2 : ruleD many (.tuple [.int r.s, .str (S [r.c]), .int r.t, .str (S (r.p.take (Int.toNat 1) ++ [c]))]) = false := by
        have hpl : allL (r.p.take (Int.toNat 1) ++ [c]) = false := hpl
        rw [ruleD, pileD, pileD, tl_S, tl_S, hpl]
        simp
      rw [← e2]
      refine .mk _ _ fun ds e z hz => ?_
      cases e
      simp only [List.mem_cons, List.not_mem_nil, or_false] at hz
      rcases hz with rfl | rfl | rfl | rfl <;> simp [lenD, tl_S] <;> omega
    refine ws_when (by fail "x:t") g5 (fun hw H5 a5 g6 => ?_) (fun hw H5 a5 g6 => ?_)
    · simp at hw
    refine ws_when (by fail "x:t") g6 (fun hw H6 a6 g7 => ?_) (fun hw H6 a6 g7 => ?_)
    · simp at hw
    exact ws_nil ⟨g7.wk (by simp [Wk]), True.intro⟩
  · intro H3 σ' H' a3 g3 _
    refine ws_ret (by fail "x:d") g3 fun v H4 a4 p => ret v H4 (g3.same.trans a4) p
end
end Pr

/-! ## K01d.lean -/
set_option Elab.async false
set_option linter.all false
set_option maxRecDepth 100000
set_option maxHeartbeats 4000000
namespace Pr
open PySem PySem.Spec PyProof.Rows L2
/-! ### searching for the rules -/
local macro_rules | `(tactic| fail "x:ix") => `(tactic| first | exact atI_letters _ | with_reducible assumption | exact atI_nat rfl)
local macro_rules | `(tactic| fail "x:sd") => `(tactic| first | with_reducible assumption | omega | decide | exact ⟨by decide, by decide⟩ | (simp only [List.length_cons, List.length_nil, List.length_append, List.length_map, List.length_range, List.length_drop, List.length_take]; omega) | (simp at *; omega))
local macro_rules | `(tactic| fail "x:isi") => `(tactic| first | exact isi_none_int | exact isi_bool_int | exact isi_int_int | exact isi_str_int | exact isi_list_int | exact isi_tuple_int | exact isi_dict_int | exact isi_none_str | exact isi_bool_str | exact isi_int_str | exact isi_str_str | exact isi_list_str | exact isi_tuple_str | exact isi_dict_str | exact isi_none_bool | exact isi_bool_bool | exact isi_int_bool | exact isi_str_bool | exact isi_list_bool | exact isi_tuple_bool | exact isi_dict_bool | exact isi_none_tuple | exact isi_bool_tuple | exact isi_int_tuple | exact isi_str_tuple | exact isi_list_tuple | exact isi_tuple_tuple | exact isi_dict_tuple | exact isi_none_list | exact isi_bool_list | exact isi_int_list | exact isi_str_list | exact isi_list_list | exact isi_tuple_list | exact isi_dict_list | exact isi_none_dict | exact isi_bool_dict | exact isi_int_dict | exact isi_str_dict | exact isi_list_dict | exact isi_tuple_dict | exact isi_dict_dict)
local macro_rules | `(tactic| fail "x:gl") => `(tactic| first | with_reducible assumption | decide +kernel)
local macro_rules | `(tactic| fail "x:lo") => `(tactic| first | with_reducible assumption | (unfold L2.Loc; decide +kernel))
local macro_rules | `(tactic| fail "x:vi") => `(tactic| first | exact loc_vis (by with_reducible assumption) | (unfold L2.Vis; decide +kernel))
local macro_rules | `(tactic| fail "x:bi") => `(tactic| exact bi_of (by with_reducible assumption) (by fail "x:gl") (by with_reducible assumption))
local macro_rules | `(tactic| fail "x:lv") => `(tactic| first
  | exact Lv.int | exact Lv.none | exact Lv.bool | with_reducible assumption
  | (refine' Lv.str ?h; (case h => first | with_reducible assumption | exact okT.nil | simp [okT]))
  | (refine' Lv.tuple ?h; (case h => fail "x:lvs")) | (refine' Lv.list ?h; (case h => fail "x:lvs")) | (refine' Lv.succ _; with_reducible assumption))
local macro_rules | `(tactic| fail "x:lvs") => `(tactic| first
  | exact List.forall_mem_nil _
  | (refine' List.forall_mem_cons.mpr ⟨_, _⟩ <;> first | fail "x:lvs" | fail "x:lv")
  | with_reducible assumption)
local macro_rules | `(tactic| fail "x:n") => `(tactic| first
  | (refine' xd_d (by with_reducible assumption) (by with_reducible assumption) ?h (by rfl); (case h => fail "x:vi"))
  | (refine' xd_o (by with_reducible assumption) (by with_reducible assumption) ?h (by rfl); (case h => fail "x:vi"))
  | (refine' xd_v (by with_reducible assumption) (by with_reducible assumption) ?h (by rfl) (by with_reducible assumption); (case h => fail "x:vi")))
local macro_rules | `(tactic| fail "x:v") => `(tactic| (refine' xv_v (by with_reducible assumption) (by with_reducible assumption) ?h (by rfl); (case h => fail "x:vi")))
local macro_rules | `(tactic| fail "x:od") => `(tactic| first
  | exact od_lt | exact od_le | exact od_gt | exact od_ge | exact od_eqI | exact od_neI | exact od_eqS | exact od_neS | exact od_isN | exact od_notN | exact od_isB | exact od_notB | exact od_eqB | exact od_neB | exact od_inC | exact od_ninC
  | exact od_eq (by with_reducible assumption) (Lv.shaped (n := 4) (by fail "x:lv")) (Lv.shaped (n := 4) (by fail "x:lv"))
  | exact od_ne (by with_reducible assumption) (Lv.shaped (n := 4) (by fail "x:lv")) (Lv.shaped (n := 4) (by fail "x:lv"))
  | exact od_in (by with_reducible assumption) (Lv.shaped (n := 4) (by fail "x:lv")) (Lv.shaped (n := 4) (by fail "x:lv"))
  | exact od_nin (by with_reducible assumption) (Lv.shaped (n := 4) (by fail "x:lv")) (Lv.shaped (n := 4) (by fail "x:lv")))
local macro_rules | `(tactic| fail "x:t") => `(tactic| first
  | (refine' tTBool ?h; (case h => fail "x:w"))
  | (refine' xt_not ?h; (case h => fail "x:t"))
  | (refine' tTCmp ?h; (case h => first
    | (refine' xt_cmp ?od ?h1 ?h2 ?hm; (case h1 => fail "x:d"); (case h2 => fail "x:d"); (case od => fail "x:od"); (case hm => first | exact nomark _ | rfl))
    | (refine' xt_chain ?od ?od2 ?h1 ?h2 ?h3; (case h1 => fail "x:d"); (case h2 => fail "x:d"); (case h3 => fail "x:d"); (case od => fail "x:od"); (case od2 => intro _; fail "x:od"))))
  | (refine' xt_vC ?h; (case h => fail "x:d"))
  | (refine' xt_vN ?h; (case h => fail "x:d"))
  | (refine' xt_vS ?h; (case h => fail "x:d"))
  | (refine' xt_vK ?h; (case h => fail "x:d")))
local macro_rules | `(tactic| fail "x:w") => `(tactic| first
  | (refine' xw_or1 ?h; (case h => fail "x:t")) | (refine' xw_and1 ?h; (case h => fail "x:t"))
  | (refine' xw_or ?h1 ?h2; (case h1 => fail "x:t"); (case h2 => intro hz; fail "x:w"))
  | (refine' xw_and ?h1 ?h2; (case h1 => fail "x:t"); (case h2 => intro hz; fail "x:w")))
local macro_rules | `(tactic| fail "x:l") => `(tactic| first
  | exact xl_nil
  | (refine' xl_cons ?h ?t; (case h => fail "x:d"); (case t => fail "x:l")))
local macro_rules | `(tactic| fail "x:o") => `(tactic| first | exact xo_none | (refine' xo_some ?h; (case h => fail "x:d")))
local macro_rules | `(tactic| fail "x:f") => `(tactic| first
  | (refine' xf_slL ?h ?a ?b; (case h => fail "x:d"); (case a => fail "x:o"); (case b => fail "x:o"))
  | (refine' xf_lst ?h ?z; (case h => fail "x:l"); (case z => fail "x:sd"))
  | (refine' xf_list ?c ?b ?h; (case c => with_reducible assumption); (case b => fail "x:bi"); (case h => fail "x:d"))
  | (refine' xf_listT ?c ?b ?h; (case c => with_reducible assumption); (case b => fail "x:bi"); (case h => fail "x:d"))
  | (refine' xf_callA ?c ?ca ?cl ?hj ?hg ?ha ?hR; (case c => with_reducible assumption); (case ca => with_reducible assumption); (case cl => with_reducible assumption); (case hj => decide); (case hg => fail "x:gl"); (case ha => fail "x:l"); (case hR => first | with_reducible assumption | (constructor <;> fail "x:sd")))
  | (refine' xf_revL ?h; (case h => fail "x:d")))
local macro_rules | `(tactic| fail "x:dB") => `(tactic| first
  | exact xd_add (by with_reducible assumption) (by with_reducible assumption)
  | exact xd_sub (by with_reducible assumption) (by with_reducible assumption)
  | (refine' xd_mul (by with_reducible assumption) (by with_reducible assumption) ?hz; (case hz => first | exact .inr ⟨by decide, by decide⟩ | exact .inl ⟨by decide, by decide⟩ | exact .inr ⟨by omega, by omega⟩ | exact .inl ⟨by omega, by omega⟩))
  | (refine' xd_div (by with_reducible assumption) (by with_reducible assumption) ?hz; (case hz => first | exact ⟨by decide, by decide⟩ | exact ⟨by omega, by omega⟩))
  | (refine' xd_mod (by with_reducible assumption) (by with_reducible assumption) ?hz; (case hz => fail "x:sd"))
  | (refine' xd_cat (by with_reducible assumption) (by with_reducible assumption) ?hz; (case hz => fail "x:sd"))
  | (refine' xd_catT (by with_reducible assumption) (by with_reducible assumption) ?hz; (case hz => fail "x:sd"))
  | (refine' xd_pow (by with_reducible assumption) (by with_reducible assumption) ?hz; (case hz => fail "x:sd")))
local macro_rules | `(tactic| fail "x:dS") => `(tactic| first
  | (refine' xd_ixT (by with_reducible assumption) ?h2 ?hz; (case h2 => fail "x:d"); (case hz => first | rfl | fail "x:ix"))
  | (refine' xd_ixL (by with_reducible assumption) ?h2 ?hz; (case h2 => fail "x:d"); (case hz => first | rfl | fail "x:ix"))
  | (refine' xd_ixS (by with_reducible assumption) ?h2 ?hz ?hl; (case h2 => fail "x:d"); (case hz => first | rfl | fail "x:ix"); (case hl => fail "x:sd"))
  | (refine' xd_slSf (by with_reducible assumption) ?a ?b ?hz; (case a => fail "x:d"); (case b => fail "x:sd"); (case hz => fail "x:sd"))
  | (refine' xd_slSt (by with_reducible assumption) ?a ?b ?hz; (case a => fail "x:d"); (case b => fail "x:sd"); (case hz => fail "x:sd"))
  | (refine' xd_slS (by with_reducible assumption) ?a ?b ?hz; (case a => fail "x:o"); (case b => fail "x:o"); (case hz => fail "x:sd"))
  | exact xd_slT1 (by with_reducible assumption)
  | (refine' xd_slTf (by with_reducible assumption) ?a ?b; (case a => fail "x:d"); (case b => fail "x:sd"))
  | (refine' xd_slTt (by with_reducible assumption) ?a ?b; (case a => fail "x:d"); (case b => fail "x:sd"))
  | (refine' xd_slT (by with_reducible assumption) ?a ?b; (case a => fail "x:o"); (case b => fail "x:o"))
  | exact XF.toD (xf_slL1 (by with_reducible assumption))
  | (refine' XF.toD (xf_slLf (by with_reducible assumption) ?a ?b); (case a => fail "x:d"); (case b => fail "x:sd"))
  | (refine' XF.toD (xf_slLt (by with_reducible assumption) ?a ?b); (case a => fail "x:d"); (case b => fail "x:sd"))
  | (refine' XF.toD ?h; (case h => (refine' xf_slL (by with_reducible assumption) ?a ?b; (case a => fail "x:o"); (case b => fail "x:o"))))
  | (refine' XF.toD ?h; (case h => (refine' xf_revL (by with_reducible assumption)))))
local macro_rules | `(tactic| fail "x:dC") => `(tactic| first
  | (refine' viaLen ?h1 ?k; (case h1 => fail "x:d"); (case k => intro hvia; first
    | (refine' xd_lenL ?c ?b hvia; (case c => with_reducible assumption); (case b => fail "x:bi"))
    | (refine' xd_lenS ?c ?b hvia ?z; (case c => with_reducible assumption); (case b => fail "x:bi"); (case z => fail "x:sd"))
    | (refine' xd_lenT ?c ?b hvia; (case c => with_reducible assumption); (case b => fail "x:bi"))))
  | (refine' xd_isiA ?c ?b ?b2 ?hT ?h ?hk; (case c => with_reducible assumption); (case b => fail "x:bi"); (case b2 => fail "x:bi"); (case hT => first | exact boot_int | exact boot_tuple | exact boot_str | exact boot_bool | exact boot_list | exact boot_dict); (case h => fail "x:d"); (case hk => fail "x:isi"))
  | (refine' xd_intB ?c ?b ?h; (case c => with_reducible assumption); (case b => fail "x:bi"); (case h => fail "x:d"))
  | (refine' xd_callA ?c ?ca ?cl ?hj ?hg ?ha ?hR; (case c => with_reducible assumption); (case ca => with_reducible assumption); (case cl => with_reducible assumption); (case hj => decide); (case hg => fail "x:gl"); (case ha => fail "x:l"); (case hR => first | with_reducible assumption | (constructor <;> fail "x:sd"))))
local macro_rules | `(tactic| fail "x:d") => `(tactic| first
  | exact xd_int | exact xd_bl | exact xd_non
  | (refine' tName ?h; (case h => fail "x:n"))
  | fail "x:more"
  | (refine' xd_strS ?h; (case h => first | exact str_nil | exact letters_S | rfl))
  | (refine' viaSub ?h1 ?k; (case h1 => fail "x:d"); (case k => intro hvia; fail "x:dS"))
  | (refine' viaBin ?h1 ?h2 ?k; (case h1 => fail "x:d"); (case h2 => fail "x:d"); (case k => intro hvia hvia2; fail "x:dB"))
  | (refine' tCall ?h; (case h => first | fail "x:dC" | (refine' XF.toD ?h; (case h => fail "x:f"))))
  | (refine' tCmp ?h; (case h => first
    | (refine' xd_cmp ?od ?h1 ?h2 ?hm; (case h1 => fail "x:d"); (case h2 => fail "x:d"); (case od => fail "x:od"); (case hm => first | exact nomark _ | rfl))
    | (refine' xd_chain ?od ?od2 ?h1 ?h2 ?h3; (case h1 => fail "x:d"); (case h2 => fail "x:d"); (case h3 => fail "x:d"); (case od => fail "x:od"); (case od2 => intro _; fail "x:od"))))
  | (refine' tBool ?h; (case h => first
    | (refine' xd_and1 ?h1; (case h1 => fail "x:d"))
    | (refine' xd_and ?h1 ?h2; (case h1 => fail "x:d"); (case h2 => intro hz; fail "x:d"))
    | (refine' xd_or ?h1 ?h2; (case h1 => fail "x:d"); (case h2 => intro hz; fail "x:d"))))
  | (refine' viaUn ?h1 ?k; (case h1 => fail "x:d"); (case k => intro hvia; first | exact xd_neg hvia | exact xd_not hvia))
  | (refine' xd_tup ?h ?z; (case h => fail "x:l"); (case z => fail "x:sd"))
  | exact xd_dict0
  | (refine' xd_dict1 ?h; (case h => fail "x:d"))
  | (refine' XF.toD ?h; (case h => fail "x:f")))

local macro_rules | `(tactic| fail "x:more") => `(tactic| fail "no")
section
variable {P : Program} {w : World} {K : PySem.W.Frag} {mg : Str → Option Value} {base : Heap}
theorem okD_isrule {d : PyData} (h : OkD d) (many : Int) : R_isrule [d, .int many] (.bool (ruleD many d)) := by
  refine .mk d many fun ds e z hz => ?_
  have := h.2 ds e z hz
  cases z with
  | str s => exact Nat.le_trans this.2 (by decide)
  | none | bool | int | list | tuple | dict => exact Nat.zero_le _
theorem ok_law {f : Addr} {fd : FuncData} (F : Fun K "law" "law" s_law f fd)
    (c1 : Cl P w K mg base 1 "_law_cell_at" ["_law_script", "_law_k"] (spD K R_cell)) (c2 : Cl P w K mg base 1 "_law_sign" ["_law_cell"] (spD K R_sign)) (c3 : Cl P w K mg base 2 "_law_text" ["_law_cell", "_law_size"] (spD K R_text))
    (c4 : Cl P w K mg base 3 "_law_spoilt" ["_law_row", "_law_cell", "_law_many"] (spD K R_spoilt)) (c5 : Cl P w K mg base 4 "_law_signs_refused" ["_law_rule", "_law_spot", "_law_cell", "_law_many"] (spD K R_ref)) (c6 : Cl P w K mg base 1 "_law_same" ["_law_found", "_law_due"] (spD K R_same))
    (c7 : Cl P w K mg base 3 "is_rule" ["thing", "many"] (spD K R_isrule)) (c8 : Cl P w K mg base 3 "is_spot" ["thing", "many"] (spD K R_isspot)) (c9 : Cl P w K mg base 2 "_law_rule_good" ["_law_thing", "_law_many"] (spD K R_rg)) (c10 : Cl P w K mg base 2 "_law_spot_good" ["_law_thing", "_law_many"] (spD K R_sg))
    : FnOk P w K mg base CX0 5 f fd ["_law_script"] (spL K) := by
  refine df_L F f_law rfl fun X H ns σ D A C W hlen g ret => ?_
  have n0 : N_law[0]? = some ("_law_script" : Str) := rfl
  have n1 : N_law[1]? = some ("_law_many" : Str) := rfl
  have n2 : N_law[2]? = some ("_law_states" : Str) := rfl
  have n3 : N_law[3]? = some ("_law_push" : Str) := rfl
  have n4 : N_law[4]? = some ("_law_rule" : Str) := rfl
  have n5 : N_law[5]? = some ("_law_size" : Str) := rfl
  have n6 : N_law[6]? = some ("_law_spot" : Str) := rfl
  have n7 : N_law[7]? = some ("_law_thing" : Str) := rfl
  obtain ⟨l0, l1, l2, l3, l4, l5, l6, l7⟩ := v_law
  obtain ⟨g_law_cell_at, g_law_text, g_law_sign, g_law_spoilt, g_law_same, g_is_rule, g_law_rule_good, g_is_spot, g_law_spot_good, g_law_signs_refused⟩ := g_law
  have m0 := mod_lt (cellAt ns 0) (by decide : (0 : Int) < 5)
  refine ws_d C W n1 l1 (d := .int (1 + cellAt ns 0 % 5)) (by fail "x:d") rfl g fun σ1 H1 a1 g1 => ?_
  generalize hmany : 1 + cellAt ns 0 % 5 = many at g1
  have hm0 : 0 < many := by omega
  refine ws_o C W n2 l2 (d := .list [.int (cellAt ns 1 % many), .int (cellAt ns 1 / 5 % many)]) (by fail "x:d") g1 fun σ2 H2 a2 g2 => ?_
  have m3 := mod_lt (cellAt ns 3) (by decide : (0 : Int) < 3)
  refine ws_d C W n3 l3 (d := .str (S (textM (cellAt ns 3) (cellAt ns 3 % 3)))) (by fail "x:d") rfl g2 fun σ3 H3 a3 g3 => ?_
  refine ws_d C W n4 l4 (d := dR ⟨cellAt ns 1 % many, letter (cellAt ns 2), cellAt ns 1 / 5 % many, textM (cellAt ns 3) (cellAt ns 3 % 3)⟩) (by fail "x:d") rfl g3 fun σ4 H4 a4 g4 => ?_
  have hrl : (textM (cellAt ns 3) (cellAt ns 3 % 3)).length ≤ 2 := by rw [textM_len]; omega
  have hro : okT (textM (cellAt ns 3) (cellAt ns 3 % 3)) := textM_ok _ _
  have hrc : letter (cellAt ns 2) < 128 := letter_ok _
  generalize hr : (⟨cellAt ns 1 % many, letter (cellAt ns 2), cellAt ns 1 / 5 % many, textM (cellAt ns 3) (cellAt ns 3 % 3)⟩ : Rl) = r at g4
  have hrl : r.p.length ≤ 2 := by rw [← hr]; exact hrl
  have hro : okT r.p := by rw [← hr]; exact hro
  have hrc : r.c < 128 := by rw [← hr]; exact hrc
  have m8 := mod_lt (cellAt ns 4) (by decide : (0 : Int) < 8)
  have m70 := mod_lt (cellAt ns 4 / 8) (by decide : (0 : Int) < 70)
  have hsz : atI [PyData.int (cellAt ns 4 % 8), .int (cellAt ns 4 / 8 % 70)] (cellAt ns 4 % 2) = some (.int (([cellAt ns 4 % 8, cellAt ns 4 / 8 % 70] : List Int).getD (cellAt ns 4 % 2).toNat 0)) := atI_ints (xs := [cellAt ns 4 % 8, cellAt ns 4 / 8 % 70]) (n := 2) (by decide) rfl (cellAt ns 4)
  have hbd := getD_of (p := fun x => 0 ≤ x ∧ x ≤ 70) (xs := [cellAt ns 4 % 8, cellAt ns 4 / 8 % 70]) (by
    intro x hx
    simp only [List.mem_cons, List.not_mem_nil, or_false] at hx
    omega) (a := 0) (by omega) (cellAt ns 4 % 2).toNat
  generalize ([cellAt ns 4 % 8, cellAt ns 4 / 8 % 70] : List Int).getD (cellAt ns 4 % 2).toNat 0 = sz at hsz hbd
  refine ws_d C W n5 l5 (d := .int sz) (xd_ixL (by fail "x:d") (by fail "x:d") hsz) rfl g4 fun σ5 H5 a5 g5 => ?_
  refine ws_d C W n6 l6 (d := dSp (cellAt ns 1 / 5 % many, textM (cellAt ns 5) sz)) (by fail "x:d") rfl g5 fun σ6 H6 a6 g6 => ?_
  have hzl : (textM (cellAt ns 5) sz).length ≤ 70 := by rw [textM_len]; omega
  have hzo : okT (textM (cellAt ns 5) sz) := textM_ok _ _
  generalize textM (cellAt ns 5) sz = x at g6 hzl hzo
  generalize cellAt ns 1 / 5 % many = s at g6
  have s6 : Same H H6 := (a1.trans a2).trans g6.same
  have g6 : En X.K H2 H6 σ6 [.o (.list (ns.map .int)), .d (.int many), .x, .x, .d (dR r), .x, .d (dSp (s, x)), .x] := g6.wk (by simp [Wk])
  have oR : OkD (dR r) := ⟨True.intro, fun ds e z hz => by
    cases e
    simp only [List.mem_cons, List.not_mem_nil, or_false] at hz
    rcases hz with rfl | rfl | rfl | rfl
    · trivial
    · exact okS_str (okT.cons hrc okT.nil) (by simp)
    · trivial
    · exact okS_str hro (by omega)⟩
  have oS : OkD (dSp (s, x)) := ⟨True.intro, fun ds e z hz => by
    cases e
    simp only [List.mem_cons, List.not_mem_nil, or_false] at hz
    rcases hz with rfl | rfl
    · trivial
    · exact okS_str hzo (by show x.length ≤ 1000; omega)⟩
  have pR : ∀ c, R_spoilt [dR r, .int c, .int many] (spoiltF [.int r.s, .str (S [r.c]), .int r.t, .str (S r.p)] c many) := fun c => .mk _ _ _ (by
    intro z hz
    simp only [List.mem_cons, List.not_mem_nil, or_false] at hz
    rcases hz with rfl | rfl | rfl | rfl
    · exact .inl ⟨_, rfl⟩
    · exact .inr ⟨_, rfl, by simp⟩
    · exact .inl ⟨_, rfl⟩
    · exact .inr ⟨_, rfl, by omega⟩) (by simp) (by simp)
  have pS : ∀ c, R_spoilt [dSp (s, x), .int c, .int many] (spoiltF [.int s, .str (S x)] c many) := fun c => .mk _ _ _ (by
    intro z hz
    simp only [List.mem_cons, List.not_mem_nil, or_false] at hz
    rcases hz with rfl | rfl
    · exact .inl ⟨_, rfl⟩
    · exact .inr ⟨_, rfl, by omega⟩) (by simp) (by simp)
  have oR2 : ∀ c, OkD (spoiltF [.int r.s, .str (S [r.c]), .int r.t, .str (S r.p)] c many) := fun c => okD_spoilt fun z hz => by
    simp only [List.mem_cons, List.not_mem_nil, or_false] at hz
    rcases hz with rfl | rfl | rfl | rfl
    · exact ⟨True.intro, by simp [lenD]⟩
    · exact ⟨okS_str (okT.cons hrc okT.nil) (by simp), by simp [lenD, tl_S]⟩
    · exact ⟨True.intro, by simp [lenD]⟩
    · exact ⟨okS_str hro (by omega), by simp [lenD, tl_S]; omega⟩
  have oS2 : ∀ c, OkD (spoiltF [.int s, .str (S x)] c many) := fun c => okD_spoilt fun z hz => by
    simp only [List.mem_cons, List.not_mem_nil, or_false] at hz
    rcases hz with rfl | rfl
    · exact ⟨True.intro, by simp [lenD]⟩
    · exact ⟨okS_str hzo (by show x.length ≤ 1000; omega), by simp [lenD, tl_S]; omega⟩
  have pR6 := pR (cellAt ns 6)
  have pS7 := pS (cellAt ns 7)
  have oR6 := oR2 (cellAt ns 6)
  have oS7 := oS2 (cellAt ns 7)
  generalize spoiltF [.int r.s, .str (S [r.c]), .int r.t, .str (S r.p)] (cellAt ns 6) many = dr at pR6 oR6
  generalize spoiltF [.int s, .str (S x)] (cellAt ns 7) many = dz at pS7 oS7
  clear pR pS oR2 oS2
  refine ws_forE (xs := [dR r, dr]) (f := fun d => d) C W n7 l7 (xi_list (show XD X H2 _ H6 _ (.list [dR r, dr]) from by fail "x:d")) g6 (fun H2 => H2) (fun _ => [.o (.list (ns.map .int)), .d (.int many), .x, .x, .d (dR r), .x, .d (dSp (s, x)), .x]) (fun _ _ _ => True) (fun H3 a b => ⟨Same.refl _, (g6.mono a).now, True.intro⟩) ?_ ?_
  · intro H3 m d v σ' H' H'' a3 ha g3 _ s3 hv g4
    have od : OkD d := by
      have := List.mem_of_getElem? ha
      simp only [List.mem_cons, List.not_mem_nil, or_false] at this
      rcases this with rfl | rfl
      · exact oR
      · exact oR6
    have q1 := okD_isrule od many
    have q2 : R_rg [d, .int many] (.bool (ruleD many d)) := .mk _ _ od
    have q3 : R_isspot [d, .int many] (.bool (spotD many d)) := .mk _ _
    have q4 : R_sg [d, .int many] (.bool (spotD many d)) := .mk _ _ od
    refine ws_when (by fail "x:t") g4 (fun hw H4 a4 g5 => ?_) (fun hw H4 a4 g5 => ?_)
    · simp at hw
    refine ws_when (by fail "x:t") g5 (fun hw H5 a5 g6 => ?_) (fun hw H5 a5 g6 => ?_)
    · simp at hw
    exact ws_nil ⟨g6.wk (by simp [Wk]), True.intro⟩
  intro H3 σ3 H4 a3 g3 _
  have pF : R_ref [dR r, dSp (s, x), .int (cellAt ns 7), .int many] (.bool true) := .mk _ _ _ _ hrl (by show x.length ≤ 200; omega)
  refine ws_when (by fail "x:t") g3 (fun hw H5 a5 g5 => ?_) (fun hw H5 a5 g5 => ?_)
  · simp at hw
  have s7 : Same H H5 := s6.trans (a3.trans g5.same)
  refine ws_forE (xs := [dSp (s, x), dz]) (f := fun d => d) C W n7 l7 (xi_list (show XD X H3 _ H5 _ (.list [dSp (s, x), dz]) from by fail "x:d")) g5 (fun H2 => H2) (fun _ => [.o (.list (ns.map .int)), .d (.int many), .x, .x, .d (dR r), .x, .d (dSp (s, x)), .x]) (fun _ _ _ => True) (fun H3 a b => ⟨Same.refl _, ((g5.mono a).now).wk (by simp [Wk]), True.intro⟩) ?_ ?_
  · intro H6 m d v σ' H' H'' a3 ha g3 _ s3 hv g4
    have od : OkD d := by
      have := List.mem_of_getElem? ha
      simp only [List.mem_cons, List.not_mem_nil, or_false] at this
      rcases this with rfl | rfl
      · exact oS
      · exact oS7
    have q1 := okD_isrule od many
    have q2 : R_rg [d, .int many] (.bool (ruleD many d)) := .mk _ _ od
    have q3 : R_isspot [d, .int many] (.bool (spotD many d)) := .mk _ _
    have q4 : R_sg [d, .int many] (.bool (spotD many d)) := .mk _ _ od
    refine ws_when (by fail "x:t") g4 (fun hw H4 a4 g5 => ?_) (fun hw H4 a4 g5 => ?_)
    · simp at hw
    refine ws_when (by fail "x:t") g5 (fun hw H5 a5 g6 => ?_) (fun hw H5 a5 g6 => ?_)
    · simp at hw
    exact ws_nil ⟨g6.wk (by simp [Wk]), True.intro⟩
  intro H6 σ6 H7 a6 g6 _
  refine ws_ret (by fail "x:d") g6 fun v H8 a8 p => ret v H8 (s7.trans (a6.trans (g6.same.trans a8))) p
end
end Pr

/-! ## E01.lean -/
set_option Elab.async false
set_option linter.all false
set_option maxRecDepth 100000
set_option maxHeartbeats 4000000
namespace Pr
open PySem PySem.Spec PyProof.Rows L2
theorem all_mk {l : PySem.W.OpenLaw} {w : World} {K : PySem.W.Frag} {h : Heap} {mg : Str → Option Value} {fa f0 f1 f2 f3 f4 f5 f6 f7 f8 f9 f10 f11 f12 f13 f14 f15 f16 f17 : Addr} (X : K.In h) (G : h.Ns mainGlobals mg) (hfa : mg "law" = some (.ref fa))
    {od0 an0 od1 an1 od2 an2 od3 an3 od4 an4 od5 an5 od6 an6 od7 an7 od8 an8 od9 an9 od10 an10 od11 an11 od12 an12 od13 an13 od14 an14 od15 an15 od16 an16 od17 an17 : Option Addr} {sl0 sl1 sl2 sl3 sl4 sl5 sl6 sl7 sl8 sl9 sl10 sl11 sl12 sl13 sl14 sl15 sl16 sl17 : Array (Option Value)} {oc0 kV0 dc0 pm0 cd0 ct0 oc1 kV1 dc1 pm1 cd1 ct1 oc2 kV2 dc2 pm2 cd2 ct2 oc3 kV3 dc3 pm3 cd3 ct3 oc4 kV4 dc4 pm4 cd4 ct4 oc5 kV5 dc5 pm5 cd5 ct5 oc6 kV6 dc6 pm6 cd6 ct6 oc7 kV7 dc7 pm7 cd7 ct7 oc8 kV8 dc8 pm8 cd8 ct8 oc9 kV9 dc9 pm9 cd9 ct9 oc10 kV10 dc10 pm10 cd10 ct10 oc11 kV11 dc11 pm11 cd11 ct11 oc12 kV12 dc12 pm12 cd12 ct12 oc13 kV13 dc13 pm13 cd13 ct13 oc14 kV14 dc14 pm14 cd14 ct14 oc15 kV15 dc15 pm15 cd15 ct15 oc16 kV16 dc16 pm16 cd16 ct16 oc17 kV17 dc17 pm17 cd17 ct17 : Value}
    (a0 : PySem.W.nsIn K mainGlobals "is_whole" = some (some (.ref f0))) (l0 : K.lookup f0 = some ⟨oc0, od0, .func (PySem.W.fnOf "is_whole" "is_whole" (defArgs s_is_whole) (defBody s_is_whole) (defScope s_is_whole) .none kV0 dc0 pm0 an0 cd0 ct0), sl0⟩) (c0 : PySem.W.codeIn K cd0 "is_whole" = true) (k0 : PySem.W.keepIn K (.ref f0) = true)
    (a1 : PySem.W.nsIn K mainGlobals "is_state" = some (some (.ref f1))) (l1 : K.lookup f1 = some ⟨oc1, od1, .func (PySem.W.fnOf "is_state" "is_state" (defArgs s_is_state) (defBody s_is_state) (defScope s_is_state) .none kV1 dc1 pm1 an1 cd1 ct1), sl1⟩) (c1 : PySem.W.codeIn K cd1 "is_state" = true) (k1 : PySem.W.keepIn K (.ref f1) = true)
    (a2 : PySem.W.nsIn K mainGlobals "is_pile" = some (some (.ref f2))) (l2 : K.lookup f2 = some ⟨oc2, od2, .func (PySem.W.fnOf "is_pile" "is_pile" (defArgs s_is_pile) (defBody s_is_pile) (defScope s_is_pile) .none kV2 dc2 pm2 an2 cd2 ct2), sl2⟩) (c2 : PySem.W.codeIn K cd2 "is_pile" = true) (k2 : PySem.W.keepIn K (.ref f2) = true)
    (a3 : PySem.W.nsIn K mainGlobals "is_spot" = some (some (.ref f3))) (l3 : K.lookup f3 = some ⟨oc3, od3, .func (PySem.W.fnOf "is_spot" "is_spot" (defArgs s_is_spot) (defBody s_is_spot) (defScope s_is_spot) .none kV3 dc3 pm3 an3 cd3 ct3), sl3⟩) (c3 : PySem.W.codeIn K cd3 "is_spot" = true) (k3 : PySem.W.keepIn K (.ref f3) = true)
    (a4 : PySem.W.nsIn K mainGlobals "is_rule" = some (some (.ref f4))) (l4 : K.lookup f4 = some ⟨oc4, od4, .func (PySem.W.fnOf "is_rule" "is_rule" (defArgs s_is_rule) (defBody s_is_rule) (defScope s_is_rule) .none kV4 dc4 pm4 an4 cd4 ct4), sl4⟩) (c4 : PySem.W.codeIn K cd4 "is_rule" = true) (k4 : PySem.W.keepIn K (.ref f4) = true)
    (a5 : PySem.W.nsIn K mainGlobals "_law_cell_at" = some (some (.ref f5))) (l5 : K.lookup f5 = some ⟨oc5, od5, .func (PySem.W.fnOf "_law_cell_at" "_law_cell_at" (defArgs s_l_cell_at) (defBody s_l_cell_at) (defScope s_l_cell_at) .none kV5 dc5 pm5 an5 cd5 ct5), sl5⟩) (c5 : PySem.W.codeIn K cd5 "_law_cell_at" = true) (k5 : PySem.W.keepIn K (.ref f5) = true)
    (a6 : PySem.W.nsIn K mainGlobals "_law_sign" = some (some (.ref f6))) (l6 : K.lookup f6 = some ⟨oc6, od6, .func (PySem.W.fnOf "_law_sign" "_law_sign" (defArgs s_l_sign) (defBody s_l_sign) (defScope s_l_sign) .none kV6 dc6 pm6 an6 cd6 ct6), sl6⟩) (c6 : PySem.W.codeIn K cd6 "_law_sign" = true) (k6 : PySem.W.keepIn K (.ref f6) = true)
    (a7 : PySem.W.nsIn K mainGlobals "_law_text" = some (some (.ref f7))) (l7 : K.lookup f7 = some ⟨oc7, od7, .func (PySem.W.fnOf "_law_text" "_law_text" (defArgs s_l_text) (defBody s_l_text) (defScope s_l_text) .none kV7 dc7 pm7 an7 cd7 ct7), sl7⟩) (c7 : PySem.W.codeIn K cd7 "_law_text" = true) (k7 : PySem.W.keepIn K (.ref f7) = true)
    (a8 : PySem.W.nsIn K mainGlobals "_law_odd_state" = some (some (.ref f8))) (l8 : K.lookup f8 = some ⟨oc8, od8, .func (PySem.W.fnOf "_law_odd_state" "_law_odd_state" (defArgs s_l_odd_state) (defBody s_l_odd_state) (defScope s_l_odd_state) .none kV8 dc8 pm8 an8 cd8 ct8), sl8⟩) (c8 : PySem.W.codeIn K cd8 "_law_odd_state" = true) (k8 : PySem.W.keepIn K (.ref f8) = true)
    (a9 : PySem.W.nsIn K mainGlobals "_law_odd_text" = some (some (.ref f9))) (l9 : K.lookup f9 = some ⟨oc9, od9, .func (PySem.W.fnOf "_law_odd_text" "_law_odd_text" (defArgs s_l_odd_text) (defBody s_l_odd_text) (defScope s_l_odd_text) .none kV9 dc9 pm9 an9 cd9 ct9), sl9⟩) (c9 : PySem.W.codeIn K cd9 "_law_odd_text" = true) (k9 : PySem.W.keepIn K (.ref f9) = true)
    (a10 : PySem.W.nsIn K mainGlobals "_law_state_good" = some (some (.ref f10))) (l10 : K.lookup f10 = some ⟨oc10, od10, .func (PySem.W.fnOf "_law_state_good" "_law_state_good" (defArgs s_l_state_good) (defBody s_l_state_good) (defScope s_l_state_good) .none kV10 dc10 pm10 an10 cd10 ct10), sl10⟩) (c10 : PySem.W.codeIn K cd10 "_law_state_good" = true) (k10 : PySem.W.keepIn K (.ref f10) = true)
    (a11 : PySem.W.nsIn K mainGlobals "_law_pile_good" = some (some (.ref f11))) (l11 : K.lookup f11 = some ⟨oc11, od11, .func (PySem.W.fnOf "_law_pile_good" "_law_pile_good" (defArgs s_l_pile_good) (defBody s_l_pile_good) (defScope s_l_pile_good) .none kV11 dc11 pm11 an11 cd11 ct11), sl11⟩) (c11 : PySem.W.codeIn K cd11 "_law_pile_good" = true) (k11 : PySem.W.keepIn K (.ref f11) = true)
    (a12 : PySem.W.nsIn K mainGlobals "_law_rule_good" = some (some (.ref f12))) (l12 : K.lookup f12 = some ⟨oc12, od12, .func (PySem.W.fnOf "_law_rule_good" "_law_rule_good" (defArgs s_l_rule_good) (defBody s_l_rule_good) (defScope s_l_rule_good) .none kV12 dc12 pm12 an12 cd12 ct12), sl12⟩) (c12 : PySem.W.codeIn K cd12 "_law_rule_good" = true) (k12 : PySem.W.keepIn K (.ref f12) = true)
    (a13 : PySem.W.nsIn K mainGlobals "_law_spot_good" = some (some (.ref f13))) (l13 : K.lookup f13 = some ⟨oc13, od13, .func (PySem.W.fnOf "_law_spot_good" "_law_spot_good" (defArgs s_l_spot_good) (defBody s_l_spot_good) (defScope s_l_spot_good) .none kV13 dc13 pm13 an13 cd13 ct13), sl13⟩) (c13 : PySem.W.codeIn K cd13 "_law_spot_good" = true) (k13 : PySem.W.keepIn K (.ref f13) = true)
    (a14 : PySem.W.nsIn K mainGlobals "_law_spoilt" = some (some (.ref f14))) (l14 : K.lookup f14 = some ⟨oc14, od14, .func (PySem.W.fnOf "_law_spoilt" "_law_spoilt" (defArgs s_l_spoilt) (defBody s_l_spoilt) (defScope s_l_spoilt) .none kV14 dc14 pm14 an14 cd14 ct14), sl14⟩) (c14 : PySem.W.codeIn K cd14 "_law_spoilt" = true) (k14 : PySem.W.keepIn K (.ref f14) = true)
    (a15 : PySem.W.nsIn K mainGlobals "_law_signs_refused" = some (some (.ref f15))) (l15 : K.lookup f15 = some ⟨oc15, od15, .func (PySem.W.fnOf "_law_signs_refused" "_law_signs_refused" (defArgs s_l_signs_refused) (defBody s_l_signs_refused) (defScope s_l_signs_refused) .none kV15 dc15 pm15 an15 cd15 ct15), sl15⟩) (c15 : PySem.W.codeIn K cd15 "_law_signs_refused" = true) (k15 : PySem.W.keepIn K (.ref f15) = true)
    (a16 : PySem.W.nsIn K mainGlobals "_law_same" = some (some (.ref f16))) (l16 : K.lookup f16 = some ⟨oc16, od16, .func (PySem.W.fnOf "_law_same" "_law_same" (defArgs s_l_same) (defBody s_l_same) (defScope s_l_same) .none kV16 dc16 pm16 an16 cd16 ct16), sl16⟩) (c16 : PySem.W.codeIn K cd16 "_law_same" = true) (k16 : PySem.W.keepIn K (.ref f16) = true)
    (a17 : PySem.W.nsIn K mainGlobals "law" = some (some (.ref f17))) (l17 : K.lookup f17 = some ⟨oc17, od17, .func (PySem.W.fnOf "law" "law" (defArgs s_law) (defBody s_law) (defScope s_law) .none kV17 dc17 pm17 an17 cd17 ct17), sl17⟩) (c17 : PySem.W.codeIn K cd17 "law" = true) (k17 : PySem.W.keepIn K (.ref f17) = true)
    {t_MOST_PUSH : Tok} (y_MOST_PUSH : PySem.W.nsIn K mainGlobals "MOST_PUSH" = some (some (.int 2 t_MOST_PUSH)))
    {t_LETTERS : Tok} (y_LETTERS : PySem.W.nsIn K mainGlobals "LETTERS" = some (some (.str "abcdefghijklmnopqrstuvwxyz" t_LETTERS)))
    (z_isinstance : PySem.W.nsIn K mainGlobals "isinstance" = some none)
    (z_int : PySem.W.nsIn K mainGlobals "int" = some none)
    (z_bool : PySem.W.nsIn K mainGlobals "bool" = some none)
    (z_str : PySem.W.nsIn K mainGlobals "str" = some none)
    (z_tuple : PySem.W.nsIn K mainGlobals "tuple" = some none)
    (z_len : PySem.W.nsIn K mainGlobals "len" = some none)
    (z_range : PySem.W.nsIn K mainGlobals "range" = some none)
    (z_list : PySem.W.nsIn K mainGlobals "list" = some none)
    : ∃ fd : FuncData, (∀ (s : Shared) (v : Value), BindsTo s fd ⟨[v], []⟩ [("_law_script", v)]) ∧ ∀ base : Heap, K.In base → base.Ns mainGlobals mg → FnOk l.prog w K mg base CX0 5 fa fd ["_law_script"] (spL K) := by
  have e := hfa.symm.trans (PySem.W.mg_of X G a17)
  cases e
  have F_is_whole := fun_mk (st := s_is_whole) l0 c0 k0
  have D_is_whole : Df K mg "is_whole" s_is_whole ["thing"] := df_of F_is_whole (PySem.W.mg_of X G a0) (F_is_whole.binds (ps := ["thing"]) fun _ _ _ _ _ _ us hl => match us, hl with | [_], _ => rfl)
  have F_is_state := fun_mk (st := s_is_state) l1 c1 k1
  have D_is_state : Df K mg "is_state" s_is_state ["thing", "many"] := df_of F_is_state (PySem.W.mg_of X G a1) (F_is_state.binds (ps := ["thing", "many"]) fun _ _ _ _ _ _ us hl => match us, hl with | [_, _], _ => rfl)
  have F_is_pile := fun_mk (st := s_is_pile) l2 c2 k2
  have D_is_pile : Df K mg "is_pile" s_is_pile ["thing"] := df_of F_is_pile (PySem.W.mg_of X G a2) (F_is_pile.binds (ps := ["thing"]) fun _ _ _ _ _ _ us hl => match us, hl with | [_], _ => rfl)
  have F_is_spot := fun_mk (st := s_is_spot) l3 c3 k3
  have D_is_spot : Df K mg "is_spot" s_is_spot ["thing", "many"] := df_of F_is_spot (PySem.W.mg_of X G a3) (F_is_spot.binds (ps := ["thing", "many"]) fun _ _ _ _ _ _ us hl => match us, hl with | [_, _], _ => rfl)
  have F_is_rule := fun_mk (st := s_is_rule) l4 c4 k4
  have D_is_rule : Df K mg "is_rule" s_is_rule ["thing", "many"] := df_of F_is_rule (PySem.W.mg_of X G a4) (F_is_rule.binds (ps := ["thing", "many"]) fun _ _ _ _ _ _ us hl => match us, hl with | [_, _], _ => rfl)
  have F_l_cell_at := fun_mk (st := s_l_cell_at) l5 c5 k5
  have D_l_cell_at : Df K mg "_law_cell_at" s_l_cell_at ["_law_script", "_law_k"] := df_of F_l_cell_at (PySem.W.mg_of X G a5) (F_l_cell_at.binds (ps := ["_law_script", "_law_k"]) fun _ _ _ _ _ _ us hl => match us, hl with | [_, _], _ => rfl)
  have F_l_sign := fun_mk (st := s_l_sign) l6 c6 k6
  have D_l_sign : Df K mg "_law_sign" s_l_sign ["_law_cell"] := df_of F_l_sign (PySem.W.mg_of X G a6) (F_l_sign.binds (ps := ["_law_cell"]) fun _ _ _ _ _ _ us hl => match us, hl with | [_], _ => rfl)
  have F_l_text := fun_mk (st := s_l_text) l7 c7 k7
  have D_l_text : Df K mg "_law_text" s_l_text ["_law_cell", "_law_size"] := df_of F_l_text (PySem.W.mg_of X G a7) (F_l_text.binds (ps := ["_law_cell", "_law_size"]) fun _ _ _ _ _ _ us hl => match us, hl with | [_, _], _ => rfl)
  have F_l_odd_state := fun_mk (st := s_l_odd_state) l8 c8 k8
  have D_l_odd_state : Df K mg "_law_odd_state" s_l_odd_state ["_law_cell", "_law_many"] := df_of F_l_odd_state (PySem.W.mg_of X G a8) (F_l_odd_state.binds (ps := ["_law_cell", "_law_many"]) fun _ _ _ _ _ _ us hl => match us, hl with | [_, _], _ => rfl)
  have F_l_odd_text := fun_mk (st := s_l_odd_text) l9 c9 k9
  have D_l_odd_text : Df K mg "_law_odd_text" s_l_odd_text ["_law_cell", "_law_text_here"] := df_of F_l_odd_text (PySem.W.mg_of X G a9) (F_l_odd_text.binds (ps := ["_law_cell", "_law_text_here"]) fun _ _ _ _ _ _ us hl => match us, hl with | [_, _], _ => rfl)
  have F_l_state_good := fun_mk (st := s_l_state_good) l10 c10 k10
  have D_l_state_good : Df K mg "_law_state_good" s_l_state_good ["_law_thing", "_law_many"] := df_of F_l_state_good (PySem.W.mg_of X G a10) (F_l_state_good.binds (ps := ["_law_thing", "_law_many"]) fun _ _ _ _ _ _ us hl => match us, hl with | [_, _], _ => rfl)
  have F_l_pile_good := fun_mk (st := s_l_pile_good) l11 c11 k11
  have D_l_pile_good : Df K mg "_law_pile_good" s_l_pile_good ["_law_thing"] := df_of F_l_pile_good (PySem.W.mg_of X G a11) (F_l_pile_good.binds (ps := ["_law_thing"]) fun _ _ _ _ _ _ us hl => match us, hl with | [_], _ => rfl)
  have F_l_rule_good := fun_mk (st := s_l_rule_good) l12 c12 k12
  have D_l_rule_good : Df K mg "_law_rule_good" s_l_rule_good ["_law_thing", "_law_many"] := df_of F_l_rule_good (PySem.W.mg_of X G a12) (F_l_rule_good.binds (ps := ["_law_thing", "_law_many"]) fun _ _ _ _ _ _ us hl => match us, hl with | [_, _], _ => rfl)
  have F_l_spot_good := fun_mk (st := s_l_spot_good) l13 c13 k13
  have D_l_spot_good : Df K mg "_law_spot_good" s_l_spot_good ["_law_thing", "_law_many"] := df_of F_l_spot_good (PySem.W.mg_of X G a13) (F_l_spot_good.binds (ps := ["_law_thing", "_law_many"]) fun _ _ _ _ _ _ us hl => match us, hl with | [_, _], _ => rfl)
  have F_l_spoilt := fun_mk (st := s_l_spoilt) l14 c14 k14
  have D_l_spoilt : Df K mg "_law_spoilt" s_l_spoilt ["_law_row", "_law_cell", "_law_many"] := df_of F_l_spoilt (PySem.W.mg_of X G a14) (F_l_spoilt.binds (ps := ["_law_row", "_law_cell", "_law_many"]) fun _ _ _ _ _ _ us hl => match us, hl with | [_, _, _], _ => rfl)
  have F_l_signs_refused := fun_mk (st := s_l_signs_refused) l15 c15 k15
  have D_l_signs_refused : Df K mg "_law_signs_refused" s_l_signs_refused ["_law_rule", "_law_spot", "_law_cell", "_law_many"] := df_of F_l_signs_refused (PySem.W.mg_of X G a15) (F_l_signs_refused.binds (ps := ["_law_rule", "_law_spot", "_law_cell", "_law_many"]) fun _ _ _ _ _ _ us hl => match us, hl with | [_, _, _, _], _ => rfl)
  have F_l_same := fun_mk (st := s_l_same) l16 c16 k16
  have D_l_same : Df K mg "_law_same" s_l_same ["_law_found", "_law_due"] := df_of F_l_same (PySem.W.mg_of X G a16) (F_l_same.binds (ps := ["_law_found", "_law_due"]) fun _ _ _ _ _ _ us hl => match us, hl with | [_, _], _ => rfl)
  have F_law := fun_mk (st := s_law) l17 c17 k17
  have b_isinstance := PySem.W.mg_none_of X G z_isinstance
  have b_int := PySem.W.mg_none_of X G z_int
  have b_bool := PySem.W.mg_none_of X G z_bool
  have b_str := PySem.W.mg_none_of X G z_str
  have b_tuple := PySem.W.mg_none_of X G z_tuple
  have b_len := PySem.W.mg_none_of X G z_len
  have b_range := PySem.W.mg_none_of X G z_range
  have b_list := PySem.W.mg_none_of X G z_list
  have m_MOST_PUSH := PySem.W.mg_of X G y_MOST_PUSH
  have m_LETTERS := PySem.W.mg_of X G y_LETTERS
  refine ⟨PySem.W.fnOf "law" "law" (defArgs s_law) (defBody s_law) (defScope s_law) .none kV17 dc17 pm17 an17 cd17 ct17, fun s v => .of_eq rfl, fun base _ _ => ?_⟩
  have p1 := ok_whole (P := l.prog) (w := w) (base := base) D_is_whole b_isinstance b_int b_bool
  have p2 := ok_state (P := l.prog) (w := w) (base := base) D_is_state p1
  have p3 := ok_pile (P := l.prog) (w := w) (base := base) D_is_pile b_isinstance b_str ⟨_, m_LETTERS⟩
  have p4 := ok_isspot (P := l.prog) (w := w) (base := base) D_is_spot p2 p3 b_isinstance b_tuple b_len
  have p5 := ok_isrule (P := l.prog) (w := w) (base := base) D_is_rule p2 p3 b_isinstance b_tuple b_len ⟨_, m_MOST_PUSH⟩
  have c1 := ok_cell (P := l.prog) (w := w) (base := base) D_l_cell_at b_len
  have c2 := ok_sign (P := l.prog) (w := w) (base := base) D_l_sign
  have c3 := ok_text (P := l.prog) (w := w) (base := base) D_l_text c2 b_range
  have c4 := ok_oddS (P := l.prog) (w := w) (base := base) D_l_odd_state
  have c5 := ok_oddT (P := l.prog) (w := w) (base := base) D_l_odd_text b_len
  have c6 := ok_stateg (P := l.prog) (w := w) (base := base) D_l_state_good b_isinstance b_int b_bool
  have c7 := ok_pileg (P := l.prog) (w := w) (base := base) D_l_pile_good b_isinstance b_str
  have c8 := ok_ruleg (P := l.prog) (w := w) (base := base) D_l_rule_good c6 c7 b_isinstance b_tuple b_len
  have c9 := ok_spotg (P := l.prog) (w := w) (base := base) D_l_spot_good c6 c7 b_isinstance b_tuple b_len
  have c10 := ok_spoilt (P := l.prog) (w := w) (base := base) D_l_spoilt c3 c4 c5 b_isinstance b_str b_len b_list
  have c11 := ok_ref (P := l.prog) (w := w) (base := base) D_l_signs_refused p4 p5 b_len
  have c12 := ok_same (P := l.prog) (w := w) (base := base) D_l_same b_isinstance b_bool
  exact ok_law F_law c1 c2 c3 c10 c11 c12 p5 p4 c8 c9
end Pr

open PySem PySem.W PyProof.Rows in
set_option maxRecDepth 100000 in
set_option maxHeartbeats 0 in
theorem PySem.Challenge.cw_pilerun_k01_rules_and_spots_holds : PySem.Challenge.rw_pilerun_k01_rules_and_spots.Holds := by
  w_on; o_law; k_head; (case hw => w_witness2)
  k_fill
  refine Pr.walk_law (l := PySem.Challenge.rw_pilerun_k01_rules_and_spots) (k := 5) ⟨rfl, by decide, by decide⟩ rfl rfl (fun w h Y => PySem.W.kIn_of Y) ?F
  case F =>
    intro w mg fa h KX G hmg
    refine' Pr.all_mk KX G hmg ?a0 ?l0 ?c0 ?k0 ?a1 ?l1 ?c1 ?k1 ?a2 ?l2 ?c2 ?k2 ?a3 ?l3 ?c3 ?k3 ?a4 ?l4 ?c4 ?k4 ?a5 ?l5 ?c5 ?k5 ?a6 ?l6 ?c6 ?k6 ?a7 ?l7 ?c7 ?k7 ?a8 ?l8 ?c8 ?k8 ?a9 ?l9 ?c9 ?k9 ?a10 ?l10 ?c10 ?k10 ?a11 ?l11 ?c11 ?k11 ?a12 ?l12 ?c12 ?k12 ?a13 ?l13 ?c13 ?k13 ?a14 ?l14 ?c14 ?k14 ?a15 ?l15 ?c15 ?k15 ?a16 ?l16 ?c16 ?k16 ?a17 ?l17 ?c17 ?k17 ?y_MOST_PUSH ?y_LETTERS ?z_isinstance ?z_int ?z_bool ?z_str ?z_tuple ?z_len ?z_range ?z_list
    (case a0 => k_is)
    (case l0 => k_is)
    (case c0 => k_is)
    (case k0 => k_is)
    (case a1 => k_is)
    (case l1 => k_is)
    (case c1 => k_is)
    (case k1 => k_is)
    (case a2 => k_is)
    (case l2 => k_is)
    (case c2 => k_is)
    (case k2 => k_is)
    (case a3 => k_is)
    (case l3 => k_is)
    (case c3 => k_is)
    (case k3 => k_is)
    (case a4 => k_is)
    (case l4 => k_is)
    (case c4 => k_is)
    (case k4 => k_is)
    (case a5 => k_is)
    (case l5 => k_is)
    (case c5 => k_is)
    (case k5 => k_is)
    (case a6 => k_is)
    (case l6 => k_is)
    (case c6 => k_is)
    (case k6 => k_is)
    (case a7 => k_is)
    (case l7 => k_is)
    (case c7 => k_is)
    (case k7 => k_is)
    (case a8 => k_is)
    (case l8 => k_is)
    (case c8 => k_is)
    (case k8 => k_is)
    (case a9 => k_is)
    (case l9 => k_is)
    (case c9 => k_is)
    (case k9 => k_is)
    (case a10 => k_is)
    (case l10 => k_is)
    (case c10 => k_is)
    (case k10 => k_is)
    (case a11 => k_is)
    (case l11 => k_is)
    (case c11 => k_is)
    (case k11 => k_is)
    (case a12 => k_is)
    (case l12 => k_is)
    (case c12 => k_is)
    (case k12 => k_is)
    (case a13 => k_is)
    (case l13 => k_is)
    (case c13 => k_is)
    (case k13 => k_is)
    (case a14 => k_is)
    (case l14 => k_is)
    (case c14 => k_is)
    (case k14 => k_is)
    (case a15 => k_is)
    (case l15 => k_is)
    (case c15 => k_is)
    (case k15 => k_is)
    (case a16 => k_is)
    (case l16 => k_is)
    (case c16 => k_is)
    (case k16 => k_is)
    (case a17 => k_is)
    (case l17 => k_is)
    (case c17 => k_is)
    (case k17 => k_is)
    (case y_MOST_PUSH => k_is)
    (case y_LETTERS => k_is)
    (case z_isinstance => k_is)
    (case z_int => k_is)
    (case z_bool => k_is)
    (case z_str => k_is)
    (case z_tuple => k_is)
    (case z_len => k_is)
    (case z_range => k_is)
    (case z_list => k_is)
