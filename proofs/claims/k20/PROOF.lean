import PyProof.Rows.All
import Wide.All
import OpenK.AllK
import Wide.FinOn
import HandS.ForMost
import HandS.Deep
import HandS.Wide
import HandS.IsInst
import HandS.Style
import HandS.NoneIn
import HandS.More
import HandS.Evl
import HandS.EndBits
import KE.DataMinMax
import KE.SortData
import PySem.Challenge.RW_touchcontest_k20_whole_verdicts_seen_oth
import KE.KDictItemsList
import KE.KDictZip
import PyProof.ListNew
import PyProof.EnumMake
import HandS.Exc
import HandS.ExcValue
import PyProof.CollectIter
import PyProof.WalksMore
import HandS.Small
set_option Elab.async false
set_option linter.all false
set_option maxRecDepth 100000
set_option maxHeartbeats 4000000
namespace K20
open PySem PySem.Spec PyProof.Rows L2 Evl
section
variable {X : Cx}
def WE (X : Cx) (e : Expr) : TE := fun σ H Q => ∀ (pins : List (Addr × Obj)) (s : Shared), Inv X pins σ H s → wpAny (model X.prog X.w) X.A (eval e X.env) (EP X pins σ Q) X.xe s
def WT (X : Cx) (e : Expr) : TT := fun σ H Q => ∀ (pins : List (Addr × Obj)) (s : Shared), Inv X pins σ H s → wpAny (model X.prog X.w) X.A (isTrue e X.env (eval e X.env)) (TP X pins σ Q) X.xe s
def WA (X : Cx) (es : List Expr) : TA := fun σ H Q => ∀ (pos : Pos) (pins : List (Addr × Obj)) (s : Shared), Inv X pins σ H s → wpAny (model X.prog X.w) X.A (spliced (backTo pos (starEach es X.env))) (AP X pins σ Q) X.xe s
def WS (X : Cx) (st : Stmt) : TS := fun D σ H => ∀ (pins : List (Addr × Obj)) (s : Shared), Inv X pins σ H s → wpAny (model X.prog X.w) X.A (exec st X.env) (SP X pins D) X.xe s
def WSs (X : Cx) (st : List Stmt) : TS := fun D σ H => ∀ (pins : List (Addr × Obj)) (s : Shared), Inv X pins σ H s → wpAny (model X.prog X.w) X.A (execs st X.env) (SP X pins D) X.xe s
def WG (X : Cx) (tg : Expr) : TG := fun v σ H Q => ∀ (pins : List (Addr × Obj)) (s : Shared) (u : Value), Inv X pins σ H s → RelV v u → wpAny (model X.prog X.w) X.A (assign tg X.env u) (fun _ s' => ∃ σ' H', Inv X pins σ' H' s' ∧ Q σ' H') X.xe s
def WGs (X : Cx) (ts : List Expr) : TGs := fun vs σ H Q => ∀ (pins : List (Addr × Obj)) (s : Shared) (us : List Value), Inv X pins σ H s → Vals vs us → wpAny (model X.prog X.w) X.A (assignInOrder ((assignEach ts X.env).map (·.2)) us) (fun _ s' => ∃ σ' H', Inv X pins σ' H' s' ∧ Q σ' H') X.xe s
def WC (X : Cx) (op : CmpOp) (a b : Expr) : TE := fun σ H Q => ∀ (pins : List (Addr × Obj)) (s : Shared), Inv X pins σ H s →
  wpAny (model X.prog X.w) X.A (eval a X.env) (fun v s₁ => wpAny (model X.prog X.w) X.A (eval b X.env) (fun u s₂ => wpAny (model X.prog X.w) X.A (compareOp op v u) (EP X pins σ Q) X.xe s₂) X.xe s₁) X.xe s
theorem pe_we {e : Expr} : PE X e (WE X e) := ⟨fun pins s _ _ _ I h => h pins s I⟩
theorem pt_we {e : Expr} : PT X e (WT X e) := ⟨fun pins s _ _ _ I h => h pins s I⟩
theorem pa_we {es : List Expr} : PA X es (WA X es) := ⟨fun pos pins s _ _ _ I h => h pos pins s I⟩
theorem ps_we {st : Stmt} : PS X st (WS X st) := ⟨fun pins s _ _ _ I h => h pins s I⟩
theorem pss_we {st : List Stmt} : PSs X st (WSs X st) := ⟨fun pins s _ _ _ I h => h pins s I⟩
theorem pg_we {e : Expr} : PG X e (WG X e) := ⟨fun pins s _ _ _ u _ I r h => h pins s u I r⟩
theorem pgs_we {es : List Expr} : PGs X es (WGs X es) := ⟨fun pins s _ _ _ us _ I r h => h pins s us I r⟩
theorem pc_we {op : CmpOp} {a b : Expr} : PC X op a b (WC X op a b) := ⟨fun pins s _ _ _ I h => h pins s I⟩
variable {σ : L2.St} {H : Hp}
theorem we_of {e : Expr} {t : TE} {Q : VK} (h : PE X e t) (q : t σ H Q) : WE X e σ H Q := fun pins s I => h.run pins s σ H Q I q
theorem wt_of {e : Expr} {t : TT} {Q : Bool → Hp → Prop} (h : PT X e t) (q : t σ H Q) : WT X e σ H Q := fun pins s I => h.run pins s σ H Q I q
theorem wa_of {es : List Expr} {t : TA} {Q : List V → Hp → Prop} (h : PA X es t) (q : t σ H Q) : WA X es σ H Q := fun pos pins s I => h.run pos pins s σ H Q I q
theorem ws_of {st : Stmt} {t : TS} {D : Ends} (h : PS X st t) (q : t D σ H) : WS X st D σ H := fun pins s I => h.run pins s σ H D I q
theorem wss_of {st : List Stmt} {t : TS} {D : Ends} (h : PSs X st t) (q : t D σ H) : WSs X st D σ H := fun pins s I => h.run pins s σ H D I q
theorem wg_of {e : Expr} {t : TG} {v : V} {Q : L2.St → Hp → Prop} (h : PG X e t) (q : t v σ H Q) : WG X e v σ H Q := fun pins s u I r => h.run pins s σ H v u Q I r q
theorem wgs_of {es : List Expr} {t : TGs} {vs : List V} {Q : L2.St → Hp → Prop} (h : PGs X es t) (q : t vs σ H Q) : WGs X es vs σ H Q := fun pins s us I r => h.run pins s σ H vs us Q I r q
theorem wc_of {op : CmpOp} {a b : Expr} {t : TE} {Q : VK} (h : PC X op a b t) (q : t σ H Q) : WC X op a b σ H Q := fun pins s I => h.run pins s σ H Q I q
theorem SP.mono {pins : List (Addr × Obj)} {D D' : Ends} {f : Flow} {s : Shared} (h : SP X pins D f s) (h1 : ∀ σ H, D.nx σ H → D'.nx σ H) (h2 : ∀ v H, D.rt v H → D'.rt v H) (h3 : ∀ σ H, D.bk σ H → D'.bk σ H) (h4 : ∀ σ H, D.ct σ H → D'.ct σ H) : SP X pins D' f s := by
  cases f with
  | next => obtain ⟨σ', H', I, q⟩ := h; exact ⟨σ', H', I, h1 _ _ q⟩
  | brk => obtain ⟨σ', H', I, q⟩ := h; exact ⟨σ', H', I, h3 _ _ q⟩
  | cont => obtain ⟨σ', H', I, q⟩ := h; exact ⟨σ', H', I, h4 _ _ q⟩
  | ret u => obtain ⟨v, σ', H', I, r, q⟩ := h; exact ⟨v, σ', H', I, r, h2 _ _ q⟩
theorem wss_mono {st : List Stmt} {D D' : Ends} (h : WSs X st D σ H) (h1 : ∀ σ H, D.nx σ H → D'.nx σ H) (h2 : ∀ v H, D.rt v H → D'.rt v H) (h3 : ∀ σ H, D.bk σ H → D'.bk σ H) (h4 : ∀ σ H, D.ct σ H → D'.ct σ H) : WSs X st D' σ H :=
  fun pins s I => wpAny_mono (h pins s I) (fun _ _ q => SP.mono q h1 h2 h3 h4) fun _ _ z => z
theorem ws_mono {st : Stmt} {D D' : Ends} (h : WS X st D σ H) (h1 : ∀ σ H, D.nx σ H → D'.nx σ H) (h2 : ∀ v H, D.rt v H → D'.rt v H) (h3 : ∀ σ H, D.bk σ H → D'.bk σ H) (h4 : ∀ σ H, D.ct σ H → D'.ct σ H) : WS X st D' σ H :=
  fun pins s I => wpAny_mono (h pins s I) (fun _ _ q => SP.mono q h1 h2 h3 h4) fun _ _ z => z
theorem we_mono {e : Expr} {Q Q' : VK} (h : WE X e σ H Q) (k : ∀ v H, Q v H → Q' v H) : WE X e σ H Q' :=
  fun pins s I => wpAny_mono (h pins s I) (fun _ _ ⟨v, H', I', r, q⟩ => ⟨v, H', I', r, k v H' q⟩) fun _ _ z => z
end
mutual
inductive Dq (G : Hp) : V → PyData → Prop
  | non : Dq G .non .none
  | bl (b : Bool) : Dq G (.bl b) (.bool b)
  | int (i : Int) : Dq G (.int i) (.int i)
  | str (x : Str) : Dq G (.str x) (.str x)
  | lst {a : Addr} {xs : List V} {ds : List PyData} : G a = some (.lst xs) → DqAll G xs ds → Dq G (.ref a) (.list ds)
  | tup {a : Addr} {xs : List V} {ds : List PyData} : G a = some (.tup xs) → DqAll G xs ds → Dq G (.ref a) (.tuple ds)
inductive DqAll (G : Hp) : List V → List PyData → Prop
  | nil : DqAll G [] []
  | cons {v : V} {vs : List V} {d : PyData} {ds : List PyData} : Dq G v d → DqAll G vs ds → DqAll G (v :: vs) (d :: ds)
end
mutual
theorem Dq.mono {G G' : Hp} (e : Ex G G') : ∀ {d : PyData} {v : V}, Dq G v d → Dq G' v d
  | .none, _, h => by cases h; exact .non
  | .bool b, _, h => by cases h; exact .bl b
  | .int i, _, h => by cases h; exact .int i
  | .str x, _, h => by cases h; exact .str x
  | .list ds, _, h => by
    cases h with
    | lst h1 h2 => exact .lst (e _ _ h1) (DqAll.mono e h2)
  | .tuple ds, _, h => by
    cases h with
    | tup h1 h2 => exact .tup (e _ _ h1) (DqAll.mono e h2)
  | .dict _, _, h => by cases h
theorem DqAll.mono {G G' : Hp} (e : Ex G G') : ∀ {ds : List PyData} {vs : List V}, DqAll G vs ds → DqAll G' vs ds
  | [], _, h => by cases h; exact .nil
  | d :: ds, _, h => by
    cases h with
    | cons h1 h2 => exact .cons (Dq.mono e h1) (DqAll.mono e h2)
end
mutual
theorem Dq.dp {K : PySem.W.Frag} {G : Hp} : ∀ {d : PyData} {v : V}, Dq G v d → Dp K G v d
  | .none, _, h => by cases h; exact .non
  | .bool b, _, h => by cases h; exact .bl b
  | .int i, _, h => by cases h; exact .int i
  | .str x, _, h => by cases h; exact .str x
  | .list ds, _, h => by
    cases h with
    | lst h1 h2 => exact .lst (SqL.of h1) (DqAll.dp h2)
  | .tuple ds, _, h => by
    cases h with
    | tup h1 h2 => exact .tup (SqT.of h1) (DqAll.dp h2)
  | .dict _, _, h => by cases h
theorem DqAll.dp {K : PySem.W.Frag} {G : Hp} : ∀ {ds : List PyData} {vs : List V}, DqAll G vs ds → DpAll K G vs ds
  | [], _, h => by cases h; exact .nil
  | d :: ds, _, h => by
    cases h with
    | cons h1 h2 => exact .cons (Dq.dp h1) (DqAll.dp h2)
end
theorem DqAll.len {G : Hp} : ∀ {ds : List PyData} {vs : List V}, DqAll G vs ds → vs.length = ds.length
  | [], _, h => by cases h; rfl
  | d :: ds, _, h => by
    cases h with
    | cons h1 h2 => show _ + 1 = _ + 1; rw [DqAll.len h2]
theorem DqAll.get {G : Hp} : ∀ {ds : List PyData} {vs : List V} {i : Nat} {d : PyData}, DqAll G vs ds → ds[i]? = some d → ∃ v, vs[i]? = some v ∧ Dq G v d
  | [], _, i, d, h, e => by simp at e
  | d :: ds, _, i, d', h, e => by
    cases h with
    | cons h1 h2 =>
      cases i with
      | zero => simp at e; subst e; exact ⟨_, rfl, h1⟩
      | succ i => obtain ⟨v, a, b⟩ := DqAll.get (i := i) h2 (by simpa using e); exact ⟨v, by simpa using a, b⟩
theorem DqAll.get' {G : Hp} : ∀ {ds : List PyData} {vs : List V} {i : Nat} {v : V}, DqAll G vs ds → vs[i]? = some v → ∃ d, ds[i]? = some d ∧ Dq G v d
  | [], _, i, d, h, e => by cases h; simp at e
  | d :: ds, _, i, v', h, e => by
    cases h with
    | cons h1 h2 =>
      cases i with
      | zero => simp at e; subst e; exact ⟨_, rfl, h1⟩
      | succ i => obtain ⟨v, a, b⟩ := DqAll.get' (i := i) h2 (by simpa using e); exact ⟨v, by simpa using a, b⟩
theorem DqAll.append {G : Hp} : ∀ {ds es : List PyData} {vs ws : List V}, DqAll G vs ds → DqAll G ws es → DqAll G (vs ++ ws) (ds ++ es)
  | [], _, _, _, h, k => by cases h; exact k
  | d :: ds, _, _, _, h, k => by
    cases h with
    | cons h1 h2 => exact .cons h1 (DqAll.append h2 k)
theorem DqAll.drop {G : Hp} : ∀ {ds : List PyData} {vs : List V} (n : Nat), DqAll G vs ds → DqAll G (vs.drop n) (ds.drop n)
  | _, _, 0, h => h
  | [], _, n + 1, h => by cases h; exact .nil
  | d :: ds, _, n + 1, h => by
    cases h with
    | cons h1 h2 => exact DqAll.drop n h2
theorem DqAll.take {G : Hp} : ∀ {ds : List PyData} {vs : List V} (n : Nat), DqAll G vs ds → DqAll G (vs.take n) (ds.take n)
  | _, _, 0, h => .nil
  | [], _, n + 1, h => by cases h; exact .nil
  | d :: ds, _, n + 1, h => by
    cases h with
    | cons h1 h2 => exact .cons h1 (DqAll.take n h2)
theorem DqAll.one {G : Hp} {v : V} {d : PyData} (h : Dq G v d) : DqAll G [v] [d] := .cons h .nil
inductive Slot where
  | dat (d : PyData) | own (p : Addr) | scr (K : PySem.W.Frag) (ns : List Int)
abbrev Gam := List (Option Slot)
inductive OC where
  | lst (ds : List PyData) | dct (m : Int → Option PyData) (n : Nat) | reel (n : Nat)
abbrev Ow := Addr → Option OC
def ow0 : Ow := fun _ => none
def setO (ω : Ow) (p : Addr) (c : OC) : Ow := fun b => if b = p then some c else ω b
def delO (ω : Ow) (p : Addr) : Ow := fun b => if b = p then none else ω b
theorem setO_same {ω : Ow} {p : Addr} {c : OC} : setO ω p c p = some c := by unfold setO; rw [if_pos rfl]
theorem setO_ne {ω : Ow} {p b : Addr} {c : OC} (h : b ≠ p) : setO ω p c b = ω b := by unfold setO; rw [if_neg h]
theorem setO_setO {ω : Ow} {p : Addr} {c c' : OC} : setO (setO ω p c) p c' = setO ω p c' := by funext b; unfold setO; split <;> rfl
theorem delO_ne {ω : Ow} {p b : Addr} (h : b ≠ p) : delO ω p b = ω b := by unfold delO; rw [if_neg h]
theorem delO_same {ω : Ow} {p : Addr} : delO ω p p = none := by unfold delO; rw [if_pos rfl]
def OptD (G : Hp) : Option V → Option PyData → Prop
  | some v, some d => Dq G v d
  | none, none => True
  | _, _ => False
theorem OptD.mono {G G' : Hp} (e : Ex G G') {v : Option V} {d : Option PyData} (h : OptD G v d) : OptD G' v d := by
  cases v <;> cases d <;> first | exact Dq.mono e h | exact h
def reelB : Int := 10 ^ 43
def OwnOk (G H : Hp) (p : Addr) : OC → Prop
  | .lst ds => ∃ xs, H p = some (.lst xs) ∧ DqAll G xs ds
  | .dct m n => ∃ vs : List (Key × V), H p = some (.dK vs) ∧ vs.length ≤ n ∧ ∀ k : Int, OptD G (valV vs (Sum.inl k)) (m k)
  | .reel n => ∃ a b c : Int, H p = some (.lst [.int a, .int b, .int c]) ∧ 0 ≤ b ∧ b < reelB ∧ 0 ≤ c ∧ c ≤ (n : Int)
def SlotOk (G : Hp) : Slot → V → Prop
  | .dat d, v => Dq G v d
  | .own p, v => v = .ref p
  | .scr K ns, v => ∃ a, v = .ref a ∧ ∀ G', Ex G G' → SqL K G' a (ns.map V.int)
structure Bs where
  G : Hp
  Hk : Hp
structure SD (B : Bs) (G H : Hp) (σ : L2.St) (Γ : Gam) (ω : Ow) : Prop where
  ex : Ex B.G G
  vis : ∀ b o, G b = some o → B.G b = some o ∨ B.Hk b = none
  kept : ∀ b o, B.Hk b = some o → H b = some o
  ownk : ∀ b c, ω b = some c → B.Hk b = none
  sub : Ex G H
  len : σ.length = Γ.length
  slot : ∀ (i : Nat) s, Γ[i]? = some (some s) → ∃ v, σ[i]? = some (some v) ∧ SlotOk G s v
  own : ∀ p c, ω p = some c → G p = none ∧ OwnOk G H p c
def reB (G H : Hp) (ω : Ow) : Bs := ⟨G, fun b => if (ω b).isSome = true then none else H b⟩
theorem OwnOk.mono {G G' H H' : Hp} {p : Addr} {c : OC} (h : OwnOk G H p c) (e : Ex G G') (k : ∀ o, H p = some o → H' p = some o) : OwnOk G' H' p c := by
  cases c with
  | lst ds => obtain ⟨xs, a, b⟩ := h; exact ⟨xs, k _ a, b.mono e⟩
  | dct m n => obtain ⟨vs, a, b, c⟩ := h; exact ⟨vs, k _ a, b, fun i => (c i).mono e⟩
  | reel n => obtain ⟨x, y, z, a, b⟩ := h; exact ⟨x, y, z, k _ a, b⟩
theorem OwnOk.there {G H : Hp} {p : Addr} {c : OC} (h : OwnOk G H p c) : ∃ o, H p = some o := by
  cases c with
  | lst ds => obtain ⟨xs, a, b⟩ := h; exact ⟨_, a⟩
  | dct m n => obtain ⟨vs, a, b⟩ := h; exact ⟨_, a⟩
  | reel n => obtain ⟨x, y, z, a, b⟩ := h; exact ⟨_, a⟩
theorem SlotOk.mono {G G' : Hp} (e : Ex G G') {s : Slot} {v : V} (h : SlotOk G s v) : SlotOk G' s v := by
  cases s with
  | dat d => exact Dq.mono e h
  | own p => exact h
  | scr K ns =>
    obtain ⟨a, h1, h2⟩ := h
    exact ⟨a, h1, fun G2 e2 => h2 G2 (e.trans e2)⟩
def gain (G H H2 : Hp) : Hp := fun b => match H b with
  | none => H2 b
  | some _ => G b
theorem gain_ex {G H H2 : Hp} (h : Ex G H) : Ex G (gain G H H2) := fun a o e => by
  unfold gain; rw [h a o e]; exact e
theorem gain_new {G H H2 : Hp} {p : Addr} (h : H p = none) : gain G H H2 p = H2 p := by unfold gain; rw [h]
theorem gain_old {G H H2 : Hp} {p : Addr} {o : HO} (h : H p = some o) : gain G H H2 p = G p := by unfold gain; rw [h]
section
variable {B : Bs} {G H H2 : Hp} {σ : L2.St} {Γ : Gam} {ω : Ow}
theorem SD.re (S : SD B G H σ Γ ω) : SD (reB G H ω) G H σ Γ ω where
  ex := Ex.refl _
  vis := fun b o e => .inl e
  kept := fun b o e => by
    have e' : (if (ω b).isSome = true then none else H b) = some o := e
    split at e'
    · cases e'
    · exact e'
  ownk := fun b c e => by
    show (if (ω b).isSome = true then none else H b) = none
    rw [e]; rfl
  sub := S.sub
  len := S.len
  slot := S.slot
  own := S.own
theorem SD.trans {G2 : Hp} {σ2 : L2.St} {Γ2 : Gam} {ω2 : Ow} (S : SD B G H σ Γ ω) (S2 : SD (reB G H ω) G2 H2 σ2 Γ2 ω2) : SD B G2 H2 σ2 Γ2 ω2 := by
  have hk : ∀ b, (reB G H ω).Hk b = none → B.Hk b = none := fun b e => by
    cases ew : ω b with
    | some c => exact S.ownk b c ew
    | none =>
      have e' : (if (ω b).isSome = true then none else H b) = none := e
      rw [ew] at e'
      have e2 : H b = none := e'
      cases q : B.Hk b with
      | none => rfl
      | some o => rw [S.kept b o q] at e2; cases e2
  refine ⟨S.ex.trans S2.ex, fun b o e => ?_, fun b o e => ?_, fun b c e => hk b (S2.ownk b c e), S2.sub, S2.len, S2.slot, S2.own⟩
  · rcases S2.vis b o e with h | h
    · exact S.vis b o h
    · exact .inr (hk b h)
  · refine S2.kept b o ?_
    show (if (ω b).isSome = true then none else H b) = some o
    cases ew : ω b with
    | some c => rw [S.ownk b c ew] at e; cases e
    | none => exact S.kept b o e
theorem SD.pure (S : SD B G H σ Γ ω) (e : Ex H H2) : SD B (gain G H H2) H2 σ Γ ω where
  ex := S.ex.trans (gain_ex S.sub)
  vis := fun b o q => by
    cases h : H b with
    | none =>
      refine .inr ?_
      cases r : B.Hk b with
      | none => rfl
      | some u => rw [S.kept b u r] at h; cases h
    | some u =>
      rw [gain_old h] at q
      exact S.vis b o q
  kept := fun b o q => e b o (S.kept b o q)
  ownk := S.ownk
  sub := fun b o q => by
    cases h : H b with
    | none => rw [gain_new h] at q; exact q
    | some u => rw [gain_old h] at q; exact e b o (S.sub b o q)
  len := S.len
  slot := fun i s q => by
    obtain ⟨v, a, b⟩ := S.slot i s q
    exact ⟨v, a, b.mono (gain_ex S.sub)⟩
  own := fun p c q => by
    obtain ⟨a, b⟩ := S.own p c q
    obtain ⟨o, h⟩ := b.there
    exact ⟨by rw [gain_old h]; exact a, b.mono (gain_ex S.sub) (e p)⟩
theorem SD.free (S : SD B G H σ Γ ω) {p : Addr} (h : H p = none) : G p = none ∧ ω p = none ∧ B.Hk p = none := by
  refine ⟨?_, ?_, ?_⟩
  · cases q : G p with
    | none => rfl
    | some o => rw [S.sub p o q] at h; cases h
  · cases q : ω p with
    | none => rfl
    | some c =>
      obtain ⟨o, r⟩ := (S.own p c q).2.there
      rw [r] at h; cases h
  · cases q : B.Hk p with
    | none => rfl
    | some o => rw [S.kept p o q] at h; cases h
theorem SD.set (S : SD B G H σ Γ ω) {i : Nat} {v : V} {s : Slot} (h : SlotOk G s v) (hi : i < σ.length) : SD B G H (σ.set i (some v)) (Γ.set i (some s)) ω where
  ex := S.ex
  vis := S.vis
  kept := S.kept
  ownk := S.ownk
  sub := S.sub
  len := by rw [List.length_set, List.length_set]; exact S.len
  slot := fun j t q => by
    by_cases e : i = j
    · subst e
      rw [List.getElem?_set_self (by rw [← S.len]; exact hi)] at q
      cases q
      exact ⟨v, by rw [List.getElem?_set_self hi], h⟩
    · rw [List.getElem?_set_ne e] at q
      obtain ⟨w, a, b⟩ := S.slot j t q
      exact ⟨w, by rw [List.getElem?_set_ne e]; exact a, b⟩
  own := S.own
theorem SD.newown (S : SD B G H σ Γ ω) {p : Addr} {o : HO} {c : OC} (hp : H p = none) (hc : OwnOk G (upd H p o) p c) : SD B G (upd H p o) σ Γ (setO ω p c) where
  ex := S.ex
  vis := S.vis
  kept := fun b u q => by rw [upd_ne (ne_of_none (S.kept b u q) hp)]; exact S.kept b u q
  ownk := fun b c' q => by
    by_cases e : b = p
    · rw [e]; exact (S.free hp).2.2
    · rw [setO_ne e] at q; exact S.ownk b c' q
  sub := fun b u q => by rw [upd_ne (ne_of_none (S.sub b u q) hp)]; exact S.sub b u q
  len := S.len
  slot := S.slot
  own := fun b c' q => by
    by_cases e : b = p
    · subst e
      rw [setO_same] at q; cases q
      exact ⟨(S.free hp).1, hc⟩
    · rw [setO_ne e] at q
      obtain ⟨a, k⟩ := S.own b c' q
      exact ⟨a, k.mono (Ex.refl _) fun u r => by rw [upd_ne e]; exact r⟩
theorem SD.setown (S : SD B G H σ Γ ω) {p : Addr} {o : HO} {c c' : OC} (hp : ω p = some c) (hc : OwnOk G (upd H p o) p c') : SD B G (upd H p o) σ Γ (setO ω p c') where
  ex := S.ex
  vis := S.vis
  kept := fun b u q => by
    have : b ≠ p := fun e => by subst e; rw [S.ownk b c hp] at q; cases q
    rw [upd_ne this]; exact S.kept b u q
  ownk := fun b c1 q => by
    by_cases e : b = p
    · rw [e]; exact S.ownk p c hp
    · rw [setO_ne e] at q; exact S.ownk b c1 q
  sub := fun b u q => by
    have : b ≠ p := fun e => by subst e; rw [(S.own b c hp).1] at q; cases q
    rw [upd_ne this]; exact S.sub b u q
  len := S.len
  slot := S.slot
  own := fun b c1 q => by
    by_cases e : b = p
    · subst e
      rw [setO_same] at q; cases q
      exact ⟨(S.own b c hp).1, hc⟩
    · rw [setO_ne e] at q
      obtain ⟨a, k⟩ := S.own b c1 q
      exact ⟨a, k.mono (Ex.refl _) fun u r => by rw [upd_ne e]; exact r⟩
theorem SD.release (S : SD B G H σ Γ ω) {p : Addr} {ds : List PyData} (hp : ω p = some (.lst ds)) : ∃ G2, SD B G2 H σ Γ (delO ω p) ∧ Ex G G2 ∧ Dq G2 (.ref p) (.list ds) := by
  obtain ⟨gp, xs, hx, hd⟩ := S.own p _ hp
  have e : Ex G (upd G p (.lst xs)) := Ex.new gp
  refine ⟨upd G p (.lst xs), ⟨S.ex.trans e, fun b o q => ?_, S.kept, fun b c q => ?_, fun b o q => ?_, S.len, fun i s q => ?_, fun b c q => ?_⟩, e, .lst upd_same (hd.mono e)⟩
  · by_cases h : b = p
    · rw [h]; exact .inr (S.ownk p _ hp)
    · rw [upd_ne h] at q; exact S.vis b o q
  · by_cases h : b = p
    · rw [h, delO_same] at q; cases q
    · rw [delO_ne h] at q; exact S.ownk b c q
  · by_cases h : b = p
    · subst h; rw [upd_same] at q; cases q; exact hx
    · rw [upd_ne h] at q; exact S.sub b o q
  · obtain ⟨v, a, k⟩ := S.slot i s q
    exact ⟨v, a, k.mono e⟩
  · by_cases h : b = p
    · rw [h, delO_same] at q; cases q
    · rw [delO_ne h] at q
      obtain ⟨a, k⟩ := S.own b c q
      exact ⟨by rw [upd_ne h]; exact a, k.mono e fun _ r => r⟩
end
end K20
set_option maxRecDepth 100000
set_option maxHeartbeats 4000000
namespace K20
open PySem PySem.Spec PyProof.Rows L2 Evl
def DE (X : Cx) (e : Expr) (Γ : Gam) (ω : Ow) (P : PyData → Ow → Prop) : Prop := ∀ (B : Bs) (σ : L2.St) (G H : Hp), SD B G H σ Γ ω → ∀ Q : VK, (∀ d v G2 H2 ω2, P d ω2 → SD B G2 H2 σ Γ ω2 → Ex G G2 → Dq G2 v d → Q v H2) → WE X e σ H Q
def NL (X : Cx) (e : Expr) (Γ : Gam) (ω : Ow) (P : List PyData → Ow → Prop) : Prop := ∀ (B : Bs) (σ : L2.St) (G H : Hp), SD B G H σ Γ ω → ∀ Q : VK,
  (∀ ds p xs G1 H1 ω1, P ds ω1 → SD B G1 H1 σ Γ ω1 → Ex G G1 → H1 p = none → DqAll G1 xs ds → Q (.ref p) (upd H1 p (.lst xs))) → WE X e σ H Q
def DT (X : Cx) (e : Expr) (Γ : Gam) (ω : Ow) (P : Bool → Ow → Prop) : Prop := ∀ (B : Bs) (σ : L2.St) (G H : Hp), SD B G H σ Γ ω → ∀ Q : Bool → Hp → Prop, (∀ b G2 H2 ω2, P b ω2 → SD B G2 H2 σ Γ ω2 → Ex G G2 → Q b H2) → WT X e σ H Q
def DA (X : Cx) (es : List Expr) (Γ : Gam) (ω : Ow) (P : List PyData → Ow → Prop) : Prop := ∀ (B : Bs) (σ : L2.St) (G H : Hp), SD B G H σ Γ ω → ∀ Q : List V → Hp → Prop,
  (∀ ds vs G2 H2 ω2, P ds ω2 → SD B G2 H2 σ Γ ω2 → Ex G G2 → DqAll G2 vs ds → Q vs H2) → WA X es σ H Q
def DC (X : Cx) (op : CmpOp) (a b : Expr) (Γ : Gam) (ω : Ow) (P : PyData → Ow → Prop) : Prop := ∀ (B : Bs) (σ : L2.St) (G H : Hp), SD B G H σ Γ ω → ∀ Q : VK, (∀ d v G2 H2 ω2, P d ω2 → SD B G2 H2 σ Γ ω2 → Ex G G2 → Dq G2 v d → Q v H2) → WC X op a b σ H Q
abbrev S1 (X : Cx) (a : Expr) (es : List Expr) : Prop := starEach (a :: es) X.env = (false, eval a X.env) :: starEach es X.env
section
variable {X : Cx} {Γ : Gam} {ω : Ow} {P : PyData → Ow → Prop} {a b c e : Expr} {pos : Pos}
theorem DE.mono {P' : PyData → Ow → Prop} (h : DE X e Γ ω P) (k : ∀ d ω, P d ω → P' d ω) : DE X e Γ ω P' := fun B σ G H S Q q => h B σ G H S Q fun d v G2 H2 ω2 p => q d v G2 H2 ω2 (k d ω2 p)
theorem NL.de {P : List PyData → Ow → Prop} {P' : PyData → Ow → Prop} (h : NL X e Γ ω P) (k : ∀ ds ω, P ds ω → P' (.list ds) ω) : DE X e Γ ω P' := fun B σ G H S Q q =>
  h B σ G H S Q fun ds p xs G1 H1 ω1 hp S1 e1 hf hx => by
    have hex : Ex H1 (upd H1 p (.lst xs)) := Ex.new hf
    exact q (.list ds) (.ref p) _ _ ω1 (k ds ω1 hp) (S1.pure hex) (e1.trans (gain_ex S1.sub)) (.lst (by rw [gain_new hf]; exact upd_same) (hx.mono (gain_ex S1.sub)))
theorem de2 {P2 : PyData → PyData → Ow → Prop} (h : DE X a Γ ω fun x ω1 => DE X b Γ ω1 fun y ω2 => P2 x y ω2) (B : Bs) (σ : L2.St) (G H : Hp) (S : SD B G H σ Γ ω) (R : V → V → Hp → Prop)
    (hr : ∀ d1 d2 v1 v2 G3 H3 ω3, P2 d1 d2 ω3 → SD B G3 H3 σ Γ ω3 → Ex G G3 → Dq G3 v1 d1 → Dq G3 v2 d2 → R v1 v2 H3) : WE X a σ H fun v1 H1 => WE X b σ H1 fun v2 H2 => R v1 v2 H2 :=
  h B σ G H S _ fun d1 v1 G2 H2 ω2 h2 S2 e2 q1 => h2 B σ G2 H2 S2 _ fun d2 v2 G3 H3 ω3 h3 S3 e3 q2 => hr d1 d2 v1 v2 G3 H3 ω3 h3 S3 (e2.trans e3) (q1.mono e3) q2
theorem de_name {i : Nat} {x : Str} {d : PyData} (hN : X.N[i]? = some x) (hv : Vis X.env.scope x) (h : Γ[i]? = some (some (.dat d))) (p : P d ω) (hd : (x == ("__debug__" : Str)) = false := by decide) (hcd : (x == ("__classdict__" : Str)) = false := by decide) : DE X (.Name x pos) Γ ω P := fun B σ G H S Q q => by
  obtain ⟨v, hv', hq⟩ := S.slot i _ h
  exact we_of (pe_var hN hv hd hcd) ⟨v, hv', q d v G H ω p S (Ex.refl G) hq⟩
theorem de_own {i : Nat} {x : Str} {p : Addr} {ds : List PyData} (hN : X.N[i]? = some x) (hv : Vis X.env.scope x) (h : Γ[i]? = some (some (.own p))) (ho : ω p = some (.lst ds)) (hp : P (.list ds) (delO ω p)) (hd : (x == ("__debug__" : Str)) = false := by decide) (hcd : (x == ("__classdict__" : Str)) = false := by decide) : DE X (.Name x pos) Γ ω P := fun B σ G H S Q q => by
  obtain ⟨v, hv', hq⟩ := S.slot i _ h
  obtain ⟨G2, S2, e2, q2⟩ := S.release ho
  have hq' : v = .ref p := hq
  subst hq'
  exact we_of (pe_var hN hv hd hcd) ⟨_, hv', q _ _ G2 H _ hp S2 e2 q2⟩
theorem de_int {i : Int} {j} (p : P (.int i) ω) : DE X (.Constant (.int i) j pos) Γ ω P := fun B σ G H S Q q => we_of pe_int (q _ _ G H ω p S (Ex.refl G) (.int i))
theorem de_str {x : Str} {j} (p : P (.str x) ω) : DE X (.Constant (.str x) j pos) Γ ω P := fun B σ G H S Q q => we_of pe_str (q _ _ G H ω p S (Ex.refl G) (.str x))
theorem de_non {j} (p : P .none ω) : DE X (.Constant .none j pos) Γ ω P := fun B σ G H S Q q => we_of pe_non (q _ _ G H ω p S (Ex.refl G) .non)
theorem de_bl {k : Bool} {j} (p : P (.bool k) ω) : DE X (.Constant (.bool k) j pos) Γ ω P := fun B σ G H S Q q => we_of pe_bl (q _ _ G H ω p S (Ex.refl G) (.bl k))
theorem de_globI {x : Str} {i : Int} {u : Value} (hg : Gl X x) (hm : X.mg x = some u) (hu : RelV (.int i) u) (p : P (.int i) ω) (hd : (x == ("__debug__" : Str)) = false := by decide) : DE X (.Name x pos) Γ ω P :=
  fun B σ G H S Q q => we_of (pe_glob hg hm hu hd) (q _ _ G H ω p S (Ex.refl G) (.int i))
theorem de_I0 {op : Operator} {g : Int → Int → Int} (ho : OpR X (binaryOp op) (rI0 fun i j => .int (g i j))) (h : DE X a Γ ω fun x ω1 => DE X b Γ ω1 fun y ω2 => ∃ i j, x = .int i ∧ y = .int j ∧ P (.int (g i j)) ω2) : DE X (.BinOp a op b pos) Γ ω P := fun B σ G H S Q q =>
  we_of (pe_op ho pe_we pe_we) (de2 h B σ G H S _ fun d1 d2 v1 v2 G3 H3 ω3 h3 S3 e3 q1 q2 => by
    obtain ⟨i, j, rfl, rfl, hp⟩ := h3
    cases q1
    cases q2
    exact ⟨i, j, rfl, rfl, q _ _ G3 H3 ω3 hp S3 e3 (.int _)⟩)
theorem de_I {op : Operator} {C : Int → Int → Prop} {g : Int → Int → Int} (ho : OpR X (binaryOp op) (rI C fun i j => .int (g i j))) (h : DE X a Γ ω fun x ω1 => DE X b Γ ω1 fun y ω2 => ∃ i j, x = .int i ∧ y = .int j ∧ C i j ∧ P (.int (g i j)) ω2) : DE X (.BinOp a op b pos) Γ ω P := fun B σ G H S Q q =>
  we_of (pe_op ho pe_we pe_we) (de2 h B σ G H S _ fun d1 d2 v1 v2 G3 H3 ω3 h3 S3 e3 q1 q2 => by
    obtain ⟨i, j, rfl, rfl, hc, hp⟩ := h3
    cases q1
    cases q2
    exact ⟨i, j, rfl, rfl, hc, q _ _ G3 H3 ω3 hp S3 e3 (.int _)⟩)
theorem de_add (h : DE X a Γ ω fun x ω1 => DE X b Γ ω1 fun y ω2 => ∃ i j, x = .int i ∧ y = .int j ∧ P (.int (i + j)) ω2) : DE X (.BinOp a .Add b pos) Γ ω P := de_I0 op_add h
theorem de_sub (h : DE X a Γ ω fun x ω1 => DE X b Γ ω1 fun y ω2 => ∃ i j, x = .int i ∧ y = .int j ∧ P (.int (i - j)) ω2) : DE X (.BinOp a .Sub b pos) Γ ω P := de_I0 op_sub h
theorem de_mul (h : DE X a Γ ω fun x ω1 => DE X b Γ ω1 fun y ω2 => ∃ i j, x = .int i ∧ y = .int j ∧ CMulW i j ∧ P (.int (i * j)) ω2) : DE X (.BinOp a .Mult b pos) Γ ω P := de_I op_mulW h
theorem de_mod (h : DE X a Γ ω fun x ω1 => DE X b Γ ω1 fun y ω2 => ∃ i j, x = .int i ∧ y = .int j ∧ 0 < j ∧ P (.int (i % j)) ω2) : DE X (.BinOp a .Mod b pos) Γ ω P := de_I op_mod h
theorem de_fdiv (h : DE X a Γ ω fun x ω1 => DE X b Γ ω1 fun y ω2 => ∃ i j, x = .int i ∧ y = .int j ∧ CDivW i j ∧ P (.int (i / j)) ω2) : DE X (.BinOp a .FloorDiv b pos) Γ ω P := de_I op_fdivW h
def CPowW (i j : Int) : Prop := 0 ≤ j ∧ (Builtin.Int.intBits i : Int) * j ≤ 2 ^ 27
theorem op_powW : OpR X (binaryOp .Pow) (rI CPowW fun i j => .int (i ^ j.toNat)) := opI fun _ _ _ _ _ _ _ hc q => pow_int hc.1 hc.2 q
theorem de_pow (h : DE X a Γ ω fun x ω1 => DE X b Γ ω1 fun y ω2 => ∃ i j, x = .int i ∧ y = .int j ∧ CPowW i j ∧ P (.int (i ^ j.toNat)) ω2) : DE X (.BinOp a .Pow b pos) Γ ω P := de_I op_powW h
theorem de_neg (h : DE X a Γ ω fun x ω1 => ∃ i, x = .int i ∧ P (.int (-i)) ω1) : DE X (.UnaryOp .USub a pos) Γ ω P := fun B σ G H S Q q =>
  we_of (pe_un un_neg pe_we) (h B σ G H S _ fun d v G2 H2 ω2 h2 S2 e2 q1 => by
    obtain ⟨i, rfl, hp⟩ := h2
    cases q1
    exact ⟨i, rfl, q _ _ G2 H2 ω2 hp S2 e2 (.int _)⟩)
theorem pc_R {op : CmpOp} {r : R2} {ta tb : TE} (ho : OpR X (compareOp op) r) (ha : PE X a ta) (hb : PE X b tb) : PC X op a b (tOp r ta tb) :=
  ⟨fun pins s σ H Q I h => binT ha hb I (R := fun x y H2 => r x y H2 Q) h fun v u s2 x y H2 I2 rx ry q => ho pins s2 σ H2 x y v u Q I2 rx ry q⟩
theorem de_cmp {op : CmpOp} (h : DC X op a b Γ ω P) (hm : behindInMarks op b = false := by first | exact nobehind _ (by decide) (by decide) | rfl) : DE X (.Compare a [op] [b] pos) Γ ω P := fun B σ G H S Q q =>
  we_of (pe_cmp pc_we hm) (h B σ G H S Q q)
theorem dt_cmp {op : CmpOp} {P : Bool → Ow → Prop} (h : DC X op a b Γ ω fun d ω1 => ∃ k, d = .bool k ∧ P k ω1) (hm : behindInMarks op b = false := by first | exact nobehind _ (by decide) (by decide) | rfl) : DT X (.Compare a [op] [b] pos) Γ ω P := fun B σ G H S Q q =>
  wt_of (pt_cmp pc_we hm) (h B σ G H S _ fun d v G2 H2 ω2 h2 S2 e2 q1 => by
    obtain ⟨k, rfl, hp⟩ := h2
    cases q1
    exact ⟨k, rfl, q k G2 H2 ω2 hp S2 e2⟩)
theorem dt_val {P : Bool → Ow → Prop} (h : DE X e Γ ω fun d ω1 => ∃ k, d = .bool k ∧ P k ω1) (he : ∀ whole, isTrue e X.env whole = (do let v ← whole; standAt e.pos; holding [v] (truthy v)) := by intro _; rfl) : DT X e Γ ω P := fun B σ G H S Q q =>
  wt_of (pt_val pe_we he) (h B σ G H S _ fun d v G2 H2 ω2 h2 S2 e2 q1 => by
    obtain ⟨k, rfl, hp⟩ := h2
    cases q1
    exact ⟨k, rfl, q k G2 H2 ω2 hp S2 e2⟩)
theorem dc_I {op : CmpOp} {g : Int → Int → Bool} (ho : OpR X (compareOp op) (rI0 fun i j => .bl (g i j))) (h : DE X a Γ ω fun x ω1 => DE X b Γ ω1 fun y ω2 => ∃ i j, x = .int i ∧ y = .int j ∧ P (.bool (g i j)) ω2) : DC X op a b Γ ω P := fun B σ G H S Q q =>
  wc_of (pc_R ho pe_we pe_we) (de2 h B σ G H S _ fun d1 d2 v1 v2 G3 H3 ω3 h3 S3 e3 q1 q2 => by
    obtain ⟨i, j, rfl, rfl, hp⟩ := h3
    cases q1
    cases q2
    exact ⟨i, j, rfl, rfl, q _ _ G3 H3 ω3 hp S3 e3 (.bl _)⟩)
theorem dc_lt (h : DE X a Γ ω fun x ω1 => DE X b Γ ω1 fun y ω2 => ∃ i j, x = .int i ∧ y = .int j ∧ P (.bool (decide (i < j))) ω2) : DC X .Lt a b Γ ω P := dc_I op_lt h
theorem dc_le (h : DE X a Γ ω fun x ω1 => DE X b Γ ω1 fun y ω2 => ∃ i j, x = .int i ∧ y = .int j ∧ P (.bool (decide (i ≤ j))) ω2) : DC X .LtE a b Γ ω P := dc_I op_le h
theorem dc_gt (h : DE X a Γ ω fun x ω1 => DE X b Γ ω1 fun y ω2 => ∃ i j, x = .int i ∧ y = .int j ∧ P (.bool (decide (j < i))) ω2) : DC X .Gt a b Γ ω P := dc_I op_gt h
theorem dc_ge (h : DE X a Γ ω fun x ω1 => DE X b Γ ω1 fun y ω2 => ∃ i j, x = .int i ∧ y = .int j ∧ P (.bool (decide (j ≤ i))) ω2) : DC X .GtE a b Γ ω P := dc_I op_ge h
def scD : PyData → Option V
  | .int i => some (.int i)
  | .str x => some (.str x)
  | .bool k => some (.bl k)
  | _ => none
theorem Dq.sc {G : Hp} {v w : V} {d : PyData} (h : Dq G v d) (e : scD d = some w) : v = w := by
  cases h <;> simp [scD] at e <;> exact e
theorem dc_eqS (h : DE X a Γ ω fun x ω1 => DE X b Γ ω1 fun y ω2 => ∃ v w, scD x = some v ∧ scD y = some w ∧ scal v w = true ∧ P (.bool (decide (v = w))) ω2) : DC X .Eq a b Γ ω P := fun B σ G H S Q q =>
  wc_of (pc_R op_eq pe_we pe_we) (de2 h B σ G H S _ fun d1 d2 v1 v2 G3 H3 ω3 h3 S3 e3 q1 q2 => by
    obtain ⟨v, w, ev, ew, hs, hp⟩ := h3
    rw [q1.sc ev, q2.sc ew]
    exact ⟨hs, q _ _ G3 H3 ω3 hp S3 e3 (.bl _)⟩)
theorem dc_neS (h : DE X a Γ ω fun x ω1 => DE X b Γ ω1 fun y ω2 => ∃ v w, scD x = some v ∧ scD y = some w ∧ scal v w = true ∧ P (.bool (!decide (v = w))) ω2) : DC X .NotEq a b Γ ω P := fun B σ G H S Q q =>
  wc_of (pc_R op_ne pe_we pe_we) (de2 h B σ G H S _ fun d1 d2 v1 v2 G3 H3 ω3 h3 S3 e3 q1 q2 => by
    obtain ⟨v, w, ev, ew, hs, hp⟩ := h3
    rw [q1.sc ev, q2.sc ew]
    exact ⟨hs, q _ _ G3 H3 ω3 hp S3 e3 (.bl _)⟩)
theorem dc_eqI (h : DE X a Γ ω fun x ω1 => DE X b Γ ω1 fun y ω2 => ∃ i j, x = .int i ∧ y = .int j ∧ P (.bool (decide (i = j))) ω2) : DC X .Eq a b Γ ω P :=
  dc_eqS (h.mono fun x ω1 h1 => h1.mono fun y ω2 ⟨i, j, e1, e2, hp⟩ => ⟨.int i, .int j, by rw [e1]; rfl, by rw [e2]; rfl, rfl, by
    have : decide (V.int i = V.int j) = decide (i = j) := by simp
    rw [this]; exact hp⟩)
theorem dc_neI (h : DE X a Γ ω fun x ω1 => DE X b Γ ω1 fun y ω2 => ∃ i j, x = .int i ∧ y = .int j ∧ P (.bool (!decide (i = j))) ω2) : DC X .NotEq a b Γ ω P :=
  dc_neS (h.mono fun x ω1 h1 => h1.mono fun y ω2 ⟨i, j, e1, e2, hp⟩ => ⟨.int i, .int j, by rw [e1]; rfl, by rw [e2]; rfl, rfl, by
    have : decide (V.int i = V.int j) = decide (i = j) := by simp
    rw [this]; exact hp⟩)
theorem dc_eqT (h : DE X a Γ ω fun x ω1 => DE X b Γ ω1 fun y ω2 => ∃ i j, x = .str i ∧ y = .str j ∧ P (.bool (decide (i = j))) ω2) : DC X .Eq a b Γ ω P :=
  dc_eqS (h.mono fun x ω1 h1 => h1.mono fun y ω2 ⟨i, j, e1, e2, hp⟩ => ⟨.str i, .str j, by rw [e1]; rfl, by rw [e2]; rfl, rfl, by
    have : decide (V.str i = V.str j) = decide (i = j) := by simp
    rw [this]; exact hp⟩)
theorem dc_neT (h : DE X a Γ ω fun x ω1 => DE X b Γ ω1 fun y ω2 => ∃ i j, x = .str i ∧ y = .str j ∧ P (.bool (!decide (i = j))) ω2) : DC X .NotEq a b Γ ω P :=
  dc_neS (h.mono fun x ω1 h1 => h1.mono fun y ω2 ⟨i, j, e1, e2, hp⟩ => ⟨.str i, .str j, by rw [e1]; rfl, by rw [e2]; rfl, rfl, by
    have : decide (V.str i = V.str j) = decide (i = j) := by simp
    rw [this]; exact hp⟩)
theorem dc_neB (h : DE X a Γ ω fun x ω1 => DE X b Γ ω1 fun y ω2 => ∃ i j, x = .bool i ∧ y = .bool j ∧ P (.bool (!decide (i = j))) ω2) : DC X .NotEq a b Γ ω P :=
  dc_neS (h.mono fun x ω1 h1 => h1.mono fun y ω2 ⟨i, j, e1, e2, hp⟩ => ⟨.bl i, .bl j, by rw [e1]; rfl, by rw [e2]; rfl, rfl, by
    have : decide (V.bl i = V.bl j) = decide (i = j) := by simp
    rw [this]; exact hp⟩)
theorem dc_eqB (h : DE X a Γ ω fun x ω1 => DE X b Γ ω1 fun y ω2 => ∃ i j, x = .bool i ∧ y = .bool j ∧ P (.bool (decide (i = j))) ω2) : DC X .Eq a b Γ ω P :=
  dc_eqS (h.mono fun x ω1 h1 => h1.mono fun y ω2 ⟨i, j, e1, e2, hp⟩ => ⟨.bl i, .bl j, by rw [e1]; rfl, by rw [e2]; rfl, rfl, by
    have : decide (V.bl i = V.bl j) = decide (i = j) := by simp
    rw [this]; exact hp⟩)
theorem dc_eqD (hu : X.A.units + 64 < cLine) (h : DE X a Γ ω fun x ω1 => DE X b Γ ω1 fun y ω2 => SeqAt.shaped x = true ∧ SeqAt.shaped y = true ∧ P (.bool (PyData.eqv x y)) ω2) : DC X .Eq a b Γ ω P := fun B σ G H S Q q =>
  wc_of (pc_R (op_eqD hu) pe_we pe_we) (de2 h B σ G H S _ fun d1 d2 v1 v2 G3 H3 ω3 h3 S3 e3 q1 q2 =>
    ⟨d1, d2, (q1.mono S3.sub).dp, (q2.mono S3.sub).dp, h3.1, h3.2.1, q _ _ G3 H3 ω3 h3.2.2 S3 e3 (.bl _)⟩)
theorem dc_neD (hu : X.A.units + 64 < cLine) (h : DE X a Γ ω fun x ω1 => DE X b Γ ω1 fun y ω2 => SeqAt.shaped x = true ∧ SeqAt.shaped y = true ∧ P (.bool (!PyData.eqv x y)) ω2) : DC X .NotEq a b Γ ω P := fun B σ G H S Q q =>
  wc_of (pc_R (op_neD hu) pe_we pe_we) (de2 h B σ G H S _ fun d1 d2 v1 v2 G3 H3 ω3 h3 S3 e3 q1 q2 =>
    ⟨d1, d2, (q1.mono S3.sub).dp, (q2.mono S3.sub).dp, h3.1, h3.2.1, q _ _ G3 H3 ω3 h3.2.2 S3 e3 (.bl _)⟩)
theorem dc_inD (hu : X.A.units + 65 < cLine) (h : DE X a Γ ω fun x ω1 => DE X b Γ ω1 fun y ω2 => ∃ ds, y = .list ds ∧ SeqAt.shaped x = true ∧ SeqAt.shaped (.list ds) = true ∧ P (.bool (ds.any fun z => PyData.eqv z x)) ω2) : DC X .In a b Γ ω P := fun B σ G H S Q q =>
  wc_of (pc_R (op_inD hu) pe_we pe_we) (de2 h B σ G H S _ fun d1 d2 v1 v2 G3 H3 ω3 h3 S3 e3 q1 q2 => by
    obtain ⟨ds, rfl, s1, s2, hp⟩ := h3
    exact ⟨d1, ds, (q1.mono S3.sub).dp, (q2.mono S3.sub).dp, s1, s2, q _ _ G3 H3 ω3 hp S3 e3 (.bl _)⟩)
def isNon : PyData → Bool
  | .none => true
  | _ => false
theorem Dq.isNon {G : Hp} {v : V} {d : PyData} (h : Dq G v d) : decide (v = .non) = K20.isNon d := by
  cases h <;> simp [K20.isNon]
theorem dc_isN {j pos'} (h : DE X a Γ ω fun x ω1 => P (.bool (isNon x)) ω1) : DC X .Is a (.Constant .none j pos') Γ ω P := fun B σ G H S Q q =>
  wc_of (pc_isN pe_we) (h B σ G H S _ fun d v G2 H2 ω2 h2 S2 e2 q1 => by
    rw [q1.isNon]
    exact q _ _ G2 H2 ω2 h2 S2 e2 (.bl _))
theorem dc_notN {j pos'} (h : DE X a Γ ω fun x ω1 => P (.bool (!isNon x)) ω1) : DC X .IsNot a (.Constant .none j pos') Γ ω P := fun B σ G H S Q q =>
  wc_of (pc_notN pe_we) (h B σ G H S _ fun d v G2 H2 ω2 h2 S2 e2 q1 => by
    rw [q1.isNon]
    exact q _ _ G2 H2 ω2 h2 S2 e2 (.bl _))
def rLtA (K : PySem.W.Frag) (A : Around) : R2 := fun x y H Q => ∃ d e, Dp K H x d ∧ Dp K H y e ∧ PySem.W.alike d e = true ∧ d ≠ .none ∧ A.units + min d.depth e.depth < cLine ∧ Q (.bl (PySem.W.dataLt d e)) H
def rGtA (K : PySem.W.Frag) (A : Around) : R2 := fun x y H Q => ∃ d e, Dp K H x d ∧ Dp K H y e ∧ PySem.W.alike d e = true ∧ d ≠ .none ∧ A.units + min d.depth e.depth < cLine ∧ Q (.bl (PySem.W.dataLt e d)) H
theorem op_ltA : OpR X (compareOp .Lt) (rLtA X.K X.A) := by
  intro pins s σ H x y v u Q I rx ry h
  obtain ⟨d, e, hd, he, al, hn, hu, q⟩ := h
  obtain ⟨as, r1⟩ := Dp.reads I d x v hd rx
  obtain ⟨bs, r2⟩ := Dp.reads I e y u he ry
  exact PySem.W.rcLt_alike d e X.A s v u as bs r1 r2 al hn hu X.prog X.w X.xe _ ⟨.bl _, H, I, rfl, q⟩
theorem op_gtA : OpR X (compareOp .Gt) (rGtA X.K X.A) := by
  intro pins s σ H x y v u Q I rx ry h
  obtain ⟨d, e, hd, he, al, hn, hu, q⟩ := h
  obtain ⟨as, r1⟩ := Dp.reads I d x v hd rx
  obtain ⟨bs, r2⟩ := Dp.reads I e y u he ry
  exact PySem.W.rcGt_alike d e X.A s v u as bs r1 r2 al hn hu X.prog X.w X.xe _ ⟨.bl _, H, I, rfl, q⟩
theorem dc_ltA (h : DE X a Γ ω fun x ω1 => DE X b Γ ω1 fun y ω2 => PySem.W.alike x y = true ∧ x ≠ .none ∧ X.A.units + min x.depth y.depth < cLine ∧ P (.bool (PySem.W.dataLt x y)) ω2) : DC X .Lt a b Γ ω P := fun B σ G H S Q q =>
  wc_of (pc_R op_ltA pe_we pe_we) (de2 h B σ G H S _ fun d1 d2 v1 v2 G3 H3 ω3 h3 S3 e3 q1 q2 =>
    ⟨d1, d2, (q1.mono S3.sub).dp, (q2.mono S3.sub).dp, h3.1, h3.2.1, h3.2.2.1, q _ _ G3 H3 ω3 h3.2.2.2 S3 e3 (.bl _)⟩)
theorem dc_gtA (h : DE X a Γ ω fun x ω1 => DE X b Γ ω1 fun y ω2 => PySem.W.alike x y = true ∧ x ≠ .none ∧ X.A.units + min x.depth y.depth < cLine ∧ P (.bool (PySem.W.dataLt y x)) ω2) : DC X .Gt a b Γ ω P := fun B σ G H S Q q =>
  wc_of (pc_R op_gtA pe_we pe_we) (de2 h B σ G H S _ fun d1 d2 v1 v2 G3 H3 ω3 h3 S3 e3 q1 q2 =>
    ⟨d1, d2, (q1.mono S3.sub).dp, (q2.mono S3.sub).dp, h3.1, h3.2.1, h3.2.2.1, q _ _ G3 H3 ω3 h3.2.2.2 S3 e3 (.bl _)⟩)
section
variable {P : Bool → Ow → Prop}
theorem DT.mono {P' : Bool → Ow → Prop} (h : DT X e Γ ω P) (k : ∀ d ω, P d ω → P' d ω) : DT X e Γ ω P' := fun B σ G H S Q q => h B σ G H S Q fun d G2 H2 ω2 p => q d G2 H2 ω2 (k d ω2 p)
theorem dt_not (h : DT X a Γ ω fun k ω1 => P (!k) ω1) : DT X (.UnaryOp .Not a pos) Γ ω P := fun B σ G H S Q q =>
  wt_of (pt_not pt_we) (h B σ G H S _ fun k G2 H2 ω2 h2 S2 e2 => q _ G2 H2 ω2 h2 S2 e2)
theorem dt_and (h : DT X a Γ ω fun k ω1 => if k = true then DT X b Γ ω1 P else P false ω1) : DT X (.BoolOp .And [a, b] pos) Γ ω P := fun B σ G H S Q q =>
  wt_of (PW.pt (pw_and pt_we (pw_and1 pt_we))) (h B σ G H S _ fun k G2 H2 ω2 h2 S2 e2 => by
    cases k with
    | true => exact iteT (h2 B σ G2 H2 S2 _ fun k G3 H3 ω3 h3 S3 e3 => q k G3 H3 ω3 h3 S3 (e2.trans e3))
    | false => exact iteF (q false G2 H2 ω2 h2 S2 e2))
theorem dt_or (h : DT X a Γ ω fun k ω1 => if k = true then P true ω1 else DT X b Γ ω1 P) : DT X (.BoolOp .Or [a, b] pos) Γ ω P := fun B σ G H S Q q =>
  wt_of (PW.pt (pw_or pt_we (pw_or1 pt_we))) (h B σ G H S _ fun k G2 H2 ω2 h2 S2 e2 => by
    cases k with
    | true => exact iteT (q true G2 H2 ω2 h2 S2 e2)
    | false => exact iteF (h2 B σ G2 H2 S2 _ fun k G3 H3 ω3 h3 S3 e3 => q k G3 H3 ω3 h3 S3 (e2.trans e3)))
theorem dt_or3 (h : DT X a Γ ω fun k ω1 => if k = true then P true ω1 else DT X b Γ ω1 fun k ω2 => if k = true then P true ω2 else DT X c Γ ω2 P) : DT X (.BoolOp .Or [a, b, c] pos) Γ ω P := fun B σ G H S Q q =>
  wt_of (PW.pt (pw_or pt_we (pw_or pt_we (pw_or1 pt_we)))) (h B σ G H S _ fun k G2 H2 ω2 h2 S2 e2 => by
    cases k with
    | true => exact iteT (q true G2 H2 ω2 h2 S2 e2)
    | false =>
      refine iteF (h2 B σ G2 H2 S2 _ fun k G3 H3 ω3 h3 S3 e3 => ?_)
      cases k with
      | true => exact iteT (q true G3 H3 ω3 h3 S3 (e2.trans e3))
      | false => exact iteF (h3 B σ G3 H3 S3 _ fun k G4 H4 ω4 h4 S4 e4 => q k G4 H4 ω4 h4 S4 (e2.trans (e3.trans e4))))
end
theorem de_not (h : DE X a Γ ω fun x ω1 => ∃ k, x = .bool k ∧ P (.bool (!k)) ω1) : DE X (.UnaryOp .Not a pos) Γ ω P := fun B σ G H S Q q =>
  we_of (pe_not pe_we) (h B σ G H S _ fun d v G2 H2 ω2 h2 S2 e2 q1 => by
    obtain ⟨k, rfl, hp⟩ := h2
    cases q1
    exact ⟨k, rfl, q _ _ G2 H2 ω2 hp S2 e2 (.bl _)⟩)
theorem de_and (h : DE X a Γ ω fun x ω1 => ∃ k, x = .bool k ∧ if k = true then DE X b Γ ω1 P else P (.bool false) ω1) : DE X (.BoolOp .And [a, b] pos) Γ ω P := fun B σ G H S Q q =>
  we_of (pe_and pe_we (pe_one pe_we)) (h B σ G H S _ fun d v G2 H2 ω2 h2 S2 e2 q1 => by
    obtain ⟨k, rfl, hp⟩ := h2
    cases q1
    refine ⟨k, rfl, ?_⟩
    cases k with
    | true => exact iteT (hp B σ G2 H2 S2 _ fun d v G3 H3 ω3 h3 S3 e3 => q d v G3 H3 ω3 h3 S3 (e2.trans e3))
    | false => exact iteF (q _ _ G2 H2 ω2 hp S2 e2 (.bl _)))
theorem de_and3 (h : DE X a Γ ω fun x ω1 => ∃ k, x = .bool k ∧ if k = true then DE X b Γ ω1 (fun y ω2 => ∃ k, y = .bool k ∧ if k = true then DE X c Γ ω2 P else P (.bool false) ω2) else P (.bool false) ω1) : DE X (.BoolOp .And [a, b, c] pos) Γ ω P := fun B σ G H S Q q =>
  we_of (pe_and pe_we (pe_and pe_we (pe_one pe_we))) (h B σ G H S _ fun d v G2 H2 ω2 h2 S2 e2 q1 => by
    obtain ⟨k, rfl, hp⟩ := h2
    cases q1
    refine ⟨k, rfl, ?_⟩
    cases k with
    | true =>
      refine iteT (hp B σ G2 H2 S2 _ fun d v G3 H3 ω3 h3 S3 e3 q2 => ?_)
      obtain ⟨k, rfl, hp3⟩ := h3
      cases q2
      refine ⟨k, rfl, ?_⟩
      cases k with
      | true => exact iteT (hp3 B σ G3 H3 S3 _ fun d v G4 H4 ω4 h4 S4 e4 => q d v G4 H4 ω4 h4 S4 (e2.trans (e3.trans e4)))
      | false => exact iteF (q _ _ G3 H3 ω3 hp3 S3 (e2.trans e3) (.bl _))
    | false => exact iteF (q _ _ G2 H2 ω2 hp S2 e2 (.bl _)))
theorem de_or (h : DE X a Γ ω fun x ω1 => ∃ k, x = .bool k ∧ if k = true then P (.bool true) ω1 else DE X b Γ ω1 P) : DE X (.BoolOp .Or [a, b] pos) Γ ω P := fun B σ G H S Q q =>
  we_of (pe_or pe_we (pe_one pe_we)) (h B σ G H S _ fun d v G2 H2 ω2 h2 S2 e2 q1 => by
    obtain ⟨k, rfl, hp⟩ := h2
    cases q1
    refine ⟨k, rfl, ?_⟩
    cases k with
    | true => exact iteT (q _ _ G2 H2 ω2 hp S2 e2 (.bl _))
    | false => exact iteF (hp B σ G2 H2 S2 _ fun d v G3 H3 ω3 h3 S3 e3 => q d v G3 H3 ω3 h3 S3 (e2.trans e3)))
theorem de_or3 (h : DE X a Γ ω fun x ω1 => ∃ k, x = .bool k ∧ if k = true then P (.bool true) ω1 else DE X b Γ ω1 (fun y ω2 => ∃ k, y = .bool k ∧ if k = true then P (.bool true) ω2 else DE X c Γ ω2 P)) : DE X (.BoolOp .Or [a, b, c] pos) Γ ω P := fun B σ G H S Q q =>
  we_of (pe_or pe_we (pe_or pe_we (pe_one pe_we))) (h B σ G H S _ fun d v G2 H2 ω2 h2 S2 e2 q1 => by
    obtain ⟨k, rfl, hp⟩ := h2
    cases q1
    refine ⟨k, rfl, ?_⟩
    cases k with
    | true => exact iteT (q _ _ G2 H2 ω2 hp S2 e2 (.bl _))
    | false =>
      refine iteF (hp B σ G2 H2 S2 _ fun d v G3 H3 ω3 h3 S3 e3 q2 => ?_)
      obtain ⟨k, rfl, hp3⟩ := h3
      cases q2
      refine ⟨k, rfl, ?_⟩
      cases k with
      | true => exact iteT (q _ _ G3 H3 ω3 hp3 S3 (e2.trans e3) (.bl _))
      | false => exact iteF (hp3 B σ G3 H3 S3 _ fun d v G4 H4 ω4 h4 S4 e4 => q d v G4 H4 ω4 h4 S4 (e2.trans (e3.trans e4))))
theorem de_if {t : Expr} (h : DT X t Γ ω fun k ω1 => if k = true then DE X a Γ ω1 P else DE X b Γ ω1 P) : DE X (.IfExp t a b pos) Γ ω P := fun B σ G H S Q q =>
  we_of (pe_ifExp pt_we pe_we pe_we) (h B σ G H S _ fun k G2 H2 ω2 h2 S2 e2 => by
    cases k with
    | true => exact iteT (h2 B σ G2 H2 S2 _ fun d v G3 H3 ω3 h3 S3 e3 => q d v G3 H3 ω3 h3 S3 (e2.trans e3))
    | false => exact iteF (h2 B σ G2 H2 S2 _ fun d v G3 H3 ω3 h3 S3 e3 => q d v G3 H3 ω3 h3 S3 (e2.trans e3)))
theorem de_ifS {t : Expr} {s1 s2 : Str} {j1 j2 : Nat} {p1 p2 : Pos} (h : DT X t Γ ω fun k ω1 => P (.str (if k = true then s1 else s2)) ω1) : DE X (.IfExp t (.Constant (.str s1) j1 p1) (.Constant (.str s2) j2 p2) pos) Γ ω P :=
  de_if (h.mono fun k ω1 hp => by
    cases k with
    | true => exact iteT (de_str hp)
    | false => exact iteF (de_str hp))
section
variable {P : List PyData → Ow → Prop} {es : List Expr}
theorem DA.mono {P' : List PyData → Ow → Prop} (h : DA X es Γ ω P) (k : ∀ d ω, P d ω → P' d ω) : DA X es Γ ω P' := fun B σ G H S Q q => h B σ G H S Q fun d v G2 H2 ω2 p => q d v G2 H2 ω2 (k d ω2 p)
theorem da_nil (p : P [] ω) : DA X [] Γ ω P := fun B σ G H S Q q => wa_of pa_nil (q [] [] G H ω p S (Ex.refl G) .nil)
theorem da_cons (h : DE X e Γ ω fun x ω1 => DA X es Γ ω1 fun ds ω2 => P (x :: ds) ω2) (hs : starEach (e :: es) X.env = (false, eval e X.env) :: starEach es X.env := by rfl) : DA X (e :: es) Γ ω P := fun B σ G H S Q q =>
  wa_of (pa_cons pe_we pa_we hs) (h B σ G H S _ fun d v G2 H2 ω2 h2 S2 e2 q1 => h2 B σ G2 H2 S2 _ fun ds vs G3 H3 ω3 h3 S3 e3 q2 => q _ _ G3 H3 ω3 h3 S3 (e2.trans e3) (.cons (q1.mono e3) q2))
theorem nl_lst (h : DA X es Γ ω fun ds ω1 => ds.length ≤ 100000 ∧ P ds ω1) : NL X (.List es pos) Γ ω P := fun B σ G H S Q q =>
  we_of (pe_lst pa_we) (h B σ G H S _ fun ds vs G2 H2 ω2 h2 S2 e2 q1 => ⟨sz_of (by rw [q1.len]; exact h2.1), fun p hp => q ds p vs G2 H2 ω2 h2.2 S2 e2 hp q1⟩)
end
theorem de_lst {es : List Expr} (h : DA X es Γ ω fun ds ω1 => ds.length ≤ 100000 ∧ P (.list ds) ω1) : DE X (.List es pos) Γ ω P := (nl_lst (P := fun ds ω1 => P (.list ds) ω1) h).de fun _ _ p => p
theorem de_tup {es : List Expr} {k : Nat} (h : DA X es Γ ω fun ds ω1 => ds.length ≤ 100000 ∧ P (.tuple ds) ω1) : DE X (.Tuple es k pos) Γ ω P := fun B σ G H S Q q =>
  we_of (pe_tup pa_we) (h B σ G H S _ fun ds vs G2 H2 ω2 h2 S2 e2 q1 => ⟨sz_of (by rw [q1.len]; exact h2.1), fun p hp => by
    have hex : Ex H2 (upd H2 p (.tup vs)) := Ex.new hp
    exact q _ _ _ _ ω2 h2.2 (S2.pure hex) (e2.trans (gain_ex S2.sub)) (.tup (by rw [gain_new hp]; exact upd_same) (q1.mono (gain_ex S2.sub)))⟩)
def atD (ds : List PyData) (i : Int) : Option PyData := atI ds i
theorem DqAll.atI {G : Hp} {ds : List PyData} {vs : List V} {i : Int} {d : PyData} (h : DqAll G vs ds) (e : atD ds i = some d) : ∃ v, L2.atI vs i = some v ∧ Dq G v d := by
  unfold atD L2.atI at e
  unfold L2.atI
  rw [h.len]
  cases q : ixN ds.length i with
  | none => rw [q] at e; cases e
  | some j =>
    rw [q] at e
    exact h.get e
theorem de_ixL (h : DE X a Γ ω fun x ω1 => DE X b Γ ω1 fun y ω2 => ∃ ds i d, x = .list ds ∧ y = .int i ∧ atD ds i = some d ∧ P d ω2) (hs : PlainIx b := by exact fun _ _ => rfl) : DE X (.Subscript a b pos) Γ ω P := fun B σ G H S Q q =>
  we_of (pe_ix ix_list pe_we pe_we hs) (de2 h B σ G H S _ fun d1 d2 v1 v2 G3 H3 ω3 h3 S3 e3 q1 q2 => by
    obtain ⟨ds, i, d, rfl, rfl, ha, hp⟩ := h3
    cases q2
    cases q1 with
    | lst hx hd =>
      obtain ⟨v, hv, hq⟩ := hd.atI ha
      exact ⟨_, _, i, v, rfl, rfl, SqL.of (S3.sub _ _ hx), hv, q d v G3 H3 ω3 hp S3 e3 hq⟩)
theorem de_ixT (h : DE X a Γ ω fun x ω1 => DE X b Γ ω1 fun y ω2 => ∃ ds i d, x = .tuple ds ∧ y = .int i ∧ atD ds i = some d ∧ P d ω2) (hs : PlainIx b := by exact fun _ _ => rfl) : DE X (.Subscript a b pos) Γ ω P := fun B σ G H S Q q =>
  we_of (pe_ix ix_tup pe_we pe_we hs) (de2 h B σ G H S _ fun d1 d2 v1 v2 G3 H3 ω3 h3 S3 e3 q1 q2 => by
    obtain ⟨ds, i, d, rfl, rfl, ha, hp⟩ := h3
    cases q2
    cases q1 with
    | tup hx hd =>
      obtain ⟨v, hv, hq⟩ := hd.atI ha
      exact ⟨_, _, i, v, rfl, rfl, SqT.of (S3.sub _ _ hx), hv, q d v G3 H3 ω3 hp S3 e3 hq⟩)
theorem de_ix (h : DE X a Γ ω fun x ω1 => DE X b Γ ω1 fun y ω2 => ∃ ds i d, (x = .list ds ∨ x = .tuple ds) ∧ y = .int i ∧ atD ds i = some d ∧ P d ω2) (hs : PlainIx b := by exact fun _ _ => rfl) : DE X (.Subscript a b pos) Γ ω P := fun B σ G H S Q q =>
  we_of (pe_ix ix_seq pe_we pe_we hs) (de2 h B σ G H S _ fun d1 d2 v1 v2 G3 H3 ω3 h3 S3 e3 q1 q2 => by
    obtain ⟨ds, i, d, hx, rfl, ha, hp⟩ := h3
    cases q2
    rcases hx with rfl | rfl
    · cases q1 with
      | lst hx hd =>
        obtain ⟨v, hv, hq⟩ := hd.atI ha
        exact .inl ⟨_, _, i, v, rfl, rfl, SqL.of (S3.sub _ _ hx), hv, q d v G3 H3 ω3 hp S3 e3 hq⟩
    · cases q1 with
      | tup hx hd =>
        obtain ⟨v, hv, hq⟩ := hd.atI ha
        exact .inr (.inl ⟨_, _, i, v, rfl, rfl, SqT.of (S3.sub _ _ hx), hv, q d v G3 H3 ω3 hp S3 e3 hq⟩))
def DO (X : Cx) (e : Option Expr) (Γ : Gam) (ω : Ow) (P : Option Int → Ow → Prop) : Prop := match e with
  | none => P none ω
  | some e => DE X e Γ ω fun d ω1 => ∃ i, d = .int i ∧ P (some i) ω1
def cutD (ds : List PyData) (lo hi : Option Int) : List PyData := (ds.drop (HT.sIx ds.length 0 lo)).take (HT.sIx ds.length ds.length hi - HT.sIx ds.length 0 lo)
theorem DqAll.cut {G : Hp} {ds : List PyData} {vs : List V} (h : DqAll G vs ds) (lo hi : Option Int) : DqAll G (cutV vs lo hi) (cutD ds lo hi) := by
  unfold cutV cutD
  rw [h.len]
  exact (h.drop _).take _
def WO (X : Cx) (e : Option Expr) : TO := match e with
  | none => tNoPart
  | some e => tPart (WE X e)
theorem po_we : ∀ {e : Option Expr}, PO X e (WO X e)
  | none => po_none
  | some _ => po_some pe_we
theorem do_run {o : Option Expr} {P : Option Int → Ow → Prop} (h : DO X o Γ ω P) (B : Bs) (σ : L2.St) (G H : Hp) (S : SD B G H σ Γ ω) (Q : Option Int → Hp → Prop) (q : ∀ i G2 H2 ω2, P i ω2 → SD B G2 H2 σ Γ ω2 → Ex G G2 → Q i H2) : WO X o σ H Q := by
  cases o with
  | none => exact q none G H ω h S (Ex.refl G)
  | some e =>
    refine h B σ G H S (fun x H1 => ∃ i, x = .int i ∧ Q (some i) H1) fun d v G2 H2 ω2 h2 S2 e2 q1 => ?_
    obtain ⟨i, rfl, hp⟩ := h2
    cases q1
    exact ⟨i, rfl, q _ G2 H2 ω2 hp S2 e2⟩
theorem nl_sl {lo hi : Option Expr} {p2 : Pos} {P : List PyData → Ow → Prop} (h : DE X a Γ ω fun x ω1 => DO X lo Γ ω1 fun l ω2 => DO X hi Γ ω2 fun u ω3 => ∃ ds, x = .list ds ∧ P (cutD ds l u) ω3) : NL X (.Subscript a (.Slice lo hi none p2) pos) Γ ω P := fun B σ G H S Q q =>
  we_of (pe_slice sl_list pe_we po_we po_we) (h B σ G H S _ fun d v G2 H2 ω2 h2 S2 e2 q1 =>
    do_run h2 B σ G2 H2 S2 _ fun l G3 H3 ω3 h3 S3 e3 => do_run h3 B σ G3 H3 S3 _ fun u G4 H4 ω4 h4 S4 e4 => by
      obtain ⟨ds, rfl, hp⟩ := h4
      have q2 := q1.mono (e3.trans e4)
      cases q2 with
      | lst hx hd => exact ⟨_, _, rfl, SqL.of (S4.sub _ _ hx), fun p hp' => q _ p _ G4 H4 ω4 hp S4 (e2.trans (e3.trans e4)) hp' (hd.cut l u)⟩)
theorem de_slL {lo hi : Option Expr} {p2 : Pos} (h : DE X a Γ ω fun x ω1 => DO X lo Γ ω1 fun l ω2 => DO X hi Γ ω2 fun u ω3 => ∃ ds, x = .list ds ∧ P (.list (cutD ds l u)) ω3) : DE X (.Subscript a (.Slice lo hi none p2) pos) Γ ω P :=
  (nl_sl (P := fun ds ω1 => P (.list ds) ω1) h).de fun _ _ p => p
theorem de_slT {lo hi : Option Expr} {p2 : Pos} (h : DE X a Γ ω fun x ω1 => DO X lo Γ ω1 fun l ω2 => DO X hi Γ ω2 fun u ω3 => ∃ ds, x = .tuple ds ∧ ¬ (HT.sIx ds.length 0 l = 0 ∧ HT.sIx ds.length ds.length u = ds.length) ∧ P (.tuple (cutD ds l u)) ω3) : DE X (.Subscript a (.Slice lo hi none p2) pos) Γ ω P := fun B σ G H S Q q =>
  we_of (pe_slice sl_tup pe_we po_we po_we) (h B σ G H S _ fun d v G2 H2 ω2 h2 S2 e2 q1 =>
    do_run h2 B σ G2 H2 S2 _ fun l G3 H3 ω3 h3 S3 e3 => do_run h3 B σ G3 H3 S3 _ fun u G4 H4 ω4 h4 S4 e4 => by
      obtain ⟨ds, rfl, hw, hp⟩ := h4
      have q2 := q1.mono (e3.trans e4)
      cases q2 with
      | @tup p0 xs _ hx hd =>
        refine ⟨_, _, rfl, SqT.of (S4.sub _ _ hx), by rw [hd.len]; exact hw, fun p hp' => ?_⟩
        have hex : Ex H4 (upd H4 p (.tup (cutV xs l u))) := Ex.new hp'
        exact q _ _ _ _ ω4 hp (S4.pure hex) ((e2.trans (e3.trans e4)).trans (gain_ex S4.sub)) (.tup (by rw [gain_new hp']; exact upd_same) ((hd.cut l u).mono (gain_ex S4.sub))))
theorem nl_cat {P : List PyData → Ow → Prop} (h : DE X a Γ ω fun x ω1 => DE X b Γ ω1 fun y ω2 => ∃ ds es, x = .list ds ∧ y = .list es ∧ ds.length + es.length ≤ 100000 ∧ P (ds ++ es) ω2) : NL X (.BinOp a .Add b pos) Γ ω P := fun B σ G H S Q q =>
  we_of (pe_op op_cat pe_we pe_we) (de2 h B σ G H S _ fun d1 d2 v1 v2 G3 H3 ω3 h3 S3 e3 q1 q2 => by
    obtain ⟨ds, es, rfl, rfl, hl, hp⟩ := h3
    cases q1 with
    | lst hx hd =>
      cases q2 with
      | lst hy he => exact ⟨_, _, _, _, rfl, rfl, S3.sub _ _ hx, S3.sub _ _ hy, sz_of (by rw [hd.len, he.len]; exact hl), fun p hp' => q _ p _ G3 H3 ω3 hp S3 e3 hp' (hd.append he)⟩)
theorem de_cat (h : DE X a Γ ω fun x ω1 => DE X b Γ ω1 fun y ω2 => ∃ ds es, x = .list ds ∧ y = .list es ∧ ds.length + es.length ≤ 100000 ∧ P (.list (ds ++ es)) ω2) : DE X (.BinOp a .Add b pos) Γ ω P :=
  (nl_cat (P := fun ds ω1 => P (.list ds) ω1) h).de fun _ _ p => p
theorem de_catT (h : DE X a Γ ω fun x ω1 => DE X b Γ ω1 fun y ω2 => ∃ ds es, x = .tuple ds ∧ y = .tuple es ∧ ds ≠ [] ∧ ds.length + es.length ≤ 100000 ∧ P (.tuple (ds ++ es)) ω2) : DE X (.BinOp a .Add b pos) Γ ω P := fun B σ G H S Q q =>
  we_of (pe_op op_catT pe_we pe_we) (de2 h B σ G H S _ fun d1 d2 v1 v2 G3 H3 ω3 h3 S3 e3 q1 q2 => by
    obtain ⟨ds, es, rfl, rfl, hne, hl, hp⟩ := h3
    cases q1 with
    | @tup p0 xs _ hx hd =>
      cases q2 with
      | @tup p1 ys _ hy he =>
        refine ⟨_, _, _, _, rfl, rfl, SqT.of (S3.sub _ _ hx), SqT.of (S3.sub _ _ hy), fun z => ?_, sz_of (by rw [hd.len, he.len]; exact hl), fun z => ?_, fun z p hp' => ?_⟩
        · have := hd.len
          rw [z] at this
          exact hne (List.eq_nil_of_length_eq_zero this.symm)
        · have := he.len
          rw [z] at this
          have : es = [] := List.eq_nil_of_length_eq_zero this.symm
          subst this
          rw [List.append_nil] at hp
          exact q _ _ G3 H3 ω3 hp S3 e3 (.tup hx hd)
        · have hex : Ex H3 (upd H3 p (.tup (xs ++ ys))) := Ex.new hp'
          exact q _ _ _ _ ω3 hp (S3.pure hex) (e3.trans (gain_ex S3.sub)) (.tup (by rw [gain_new hp']; exact upd_same) ((hd.append he).mono (gain_ex S3.sub))))
theorem de_rep (h : DE X a Γ ω fun x ω1 => DE X b Γ ω1 fun y ω2 => ∃ ds k, x = .list ds ∧ y = .int k ∧ 0 ≤ k ∧ k ≤ 1 ∧ ds.length ≤ 1000 ∧ P (.list (if k = 0 then [] else ds)) ω2) : DE X (.BinOp a .Mult b pos) Γ ω P := fun B σ G H S Q q =>
  we_of (pe_op op_rep pe_we pe_we) (de2 h B σ G H S _ fun d1 d2 v1 v2 G3 H3 ω3 h3 S3 e3 q1 q2 => by
    obtain ⟨ds, k, rfl, rfl, k0, k1, hl, hp⟩ := h3
    cases q2
    cases q1 with
    | @lst p1 xs _ hx hd =>
      have hk : k.toNat ≤ 1 := by omega
      refine ⟨_, k, _, rfl, rfl, S3.sub _ _ hx, by omega, by omega, sz_of ?_, fun p hp' => ?_⟩
      · rw [hd.len]
        have := Nat.mul_le_mul hl hk
        omega
      · have hex : Ex H3 (upd H3 p (.lst (List.replicate k.toNat xs).flatten)) := Ex.new hp'
        have e : DqAll G3 (List.replicate k.toNat xs).flatten (if k = 0 then [] else ds) := by
          by_cases z : k = 0
          · rw [if_pos z, z]; exact .nil
          · rw [if_neg z, show k.toNat = 1 by omega]
            simpa using hd
        exact q _ _ _ _ ω3 hp (S3.pure hex) (e3.trans (gain_ex S3.sub)) (.lst (by rw [gain_new hp']; exact upd_same) (e.mono (gain_ex S3.sub))))
theorem de_abs {p : Pos} (hg : Gl X "abs") (hm : X.mg "abs" = none) (h : DE X a Γ ω fun x ω1 => ∃ i, x = .int i ∧ P (.int (if i < 0 then -i else i)) ω1) (s1 : S1 X a [] := by rfl) : DE X (.Call (.Name "abs" p) [a] [] pos) Γ ω P := fun B σ G H S Q q =>
  we_of (pe_callB call_abs hg hm (by decide +kernel) (pa_cons pe_we pa_nil s1) (he := s1)) (h B σ G H S _ fun d v G2 H2 ω2 h2 S2 e2 q1 => by
    obtain ⟨i, rfl, hp⟩ := h2
    cases q1
    exact ⟨i, rfl, q _ _ G2 H2 ω2 hp S2 e2 (.int _)⟩)
theorem de_intI {p : Pos} (hg : Gl X "int") (hm : X.mg "int" = none) (h : DE X a Γ ω fun x ω1 => (∃ i, x = .int i ∧ P (.int i) ω1) ∨ ∃ k : Bool, x = .bool k ∧ P (.int (if k then 1 else 0)) ω1) (s1 : S1 X a [] := by rfl) : DE X (.Call (.Name "int" p) [a] [] pos) Γ ω P := fun B σ G H S Q q =>
  we_of (pe_callTy call_int1 hg hm (by decide +kernel) (pa_cons pe_we pa_nil s1) (he := s1)) (h B σ G H S _ fun d v G2 H2 ω2 h2 S2 e2 q1 => by
    rcases h2 with ⟨i, rfl, hp⟩ | ⟨k, rfl, hp⟩
    · cases q1
      exact .inl ⟨i, rfl, q _ _ G2 H2 ω2 hp S2 e2 (.int _)⟩
    · cases q1
      exact .inr ⟨k, rfl, q _ _ G2 H2 ω2 hp S2 e2 (.int _)⟩)
theorem de_len {p : Pos} (hg : Gl X "len") (hm : X.mg "len" = none) (h : DE X a Γ ω fun x ω1 => ∃ ds, (x = .list ds ∨ x = .tuple ds) ∧ P (.int ds.length) ω1) (s1 : S1 X a [] := by rfl) : DE X (.Call (.Name "len" p) [a] [] pos) Γ ω P := fun B σ G H S Q q =>
  we_of (pe_callB call_len_seq hg hm PySem.boot_len (pa_cons pe_we pa_nil s1) (he := s1)) (h B σ G H S _ fun d v G2 H2 ω2 h2 S2 e2 q1 => by
    obtain ⟨ds, hx, hp⟩ := h2
    rcases hx with rfl | rfl
    · cases q1 with
      | lst hx hd => exact ⟨_, _, rfl, .inl (SqL.of (S2.sub _ _ hx)), by rw [hd.len]; exact q _ _ G2 H2 ω2 hp S2 e2 (.int _)⟩
    · cases q1 with
      | tup hx hd => exact ⟨_, _, rfl, .inr (SqT.of (S2.sub _ _ hx)), by rw [hd.len]; exact q _ _ G2 H2 ω2 hp S2 e2 (.int _)⟩)
theorem de_max2 {p : Pos} (hc : X.calm = true) (hg : Gl X "max") (hm : X.mg "max" = none) (h : DE X a Γ ω fun x ω1 => DE X b Γ ω1 fun y ω2 => ∃ i j, x = .int i ∧ y = .int j ∧ P (.int (if j > i then j else i)) ω2) (s1 : S1 X a [b] := by rfl) (s2 : S1 X b [] := by rfl) : DE X (.Call (.Name "max" p) [a, b] [] pos) Γ ω P := fun B σ G H S Q q =>
  we_of (pe_callB (call_max2 hc) hg hm (by decide +kernel) (pa_cons pe_we (pa_cons pe_we pa_nil s2) s1) (he := s1) (hpl := by rw [s2]; rfl)) (de2 h B σ G H S (fun v1 v2 H3 => ∃ i j, [v1, v2] = [.int i, .int j] ∧ Q (.int (if j > i then j else i)) H3) fun d1 d2 v1 v2 G3 H3 ω3 h3 S3 e3 q1 q2 => by
    obtain ⟨i, j, rfl, rfl, hp⟩ := h3
    cases q1
    cases q2
    exact ⟨i, j, rfl, q _ _ G3 H3 ω3 hp S3 e3 (.int _)⟩)
theorem de_min2 {p : Pos} (hc : X.calm = true) (hg : Gl X "min") (hm : X.mg "min" = none) (h : DE X a Γ ω fun x ω1 => DE X b Γ ω1 fun y ω2 => ∃ i j, x = .int i ∧ y = .int j ∧ P (.int (if j < i then j else i)) ω2) (s1 : S1 X a [b] := by rfl) (s2 : S1 X b [] := by rfl) : DE X (.Call (.Name "min" p) [a, b] [] pos) Γ ω P := fun B σ G H S Q q =>
  we_of (pe_callB (call_min2 hc) hg hm (by decide +kernel) (pa_cons pe_we (pa_cons pe_we pa_nil s2) s1) (he := s1) (hpl := by rw [s2]; rfl)) (de2 h B σ G H S (fun v1 v2 H3 => ∃ i j, [v1, v2] = [.int i, .int j] ∧ Q (.int (if j < i then j else i)) H3) fun d1 d2 v1 v2 G3 H3 ω3 h3 S3 e3 q1 q2 => by
    obtain ⟨i, j, rfl, rfl, hp⟩ := h3
    cases q1
    cases q2
    exact ⟨i, j, rfl, q _ _ G3 H3 ω3 hp S3 e3 (.int _)⟩)
theorem ints_of {G : Hp} : ∀ {vs : List V} {ns : List Int}, DqAll G vs (ns.map PyData.int) → vs = ns.map V.int
  | _, [], h => by cases h; rfl
  | _, n :: ns, h => by
    cases h with
    | cons h1 h2 => cases h1; rw [ints_of h2]; rfl
theorem bls_of {G : Hp} : ∀ {vs : List V} {ns : List Bool}, DqAll G vs (ns.map PyData.bool) → vs = ns.map V.bl
  | _, [], h => by cases h; rfl
  | _, n :: ns, h => by
    cases h with
    | cons h1 h2 => cases h1; rw [bls_of h2]; rfl
theorem de_maxL {p : Pos} (hc : X.calm = true) (hg : Gl X "max") (hm : X.mg "max" = none) (h : DE X a Γ ω fun x ω1 => ∃ ns : List Int, x = .list (ns.map .int) ∧ ns ≠ [] ∧ ∀ m, m ∈ ns → (∀ y ∈ ns, y ≤ m) → P (.int m) ω1) (s1 : S1 X a [] := by rfl) : DE X (.Call (.Name "max" p) [a] [] pos) Γ ω P := fun B σ G H S Q q =>
  we_of (pe_callB (cr_max hc) hg hm (by decide +kernel) (pa_cons pe_we pa_nil s1) (he := s1)) (h B σ G H S _ fun d v G2 H2 ω2 h2 S2 e2 q1 => by
    obtain ⟨ns, rfl, hne, hp⟩ := h2
    cases q1 with
    | lst hx hd =>
      have e := ints_of hd
      subst e
      exact ⟨_, ns, rfl, SqL.of (S2.sub _ _ hx), List.length_pos_iff.mpr hne, fun m h1 h2 => q _ _ G2 H2 ω2 (hp m h1 h2) S2 e2 (.int m)⟩)
theorem de_all {p : Pos} (hc : X.calm = true) (hg : Gl X "all") (hm : X.mg "all" = none) (h : DE X a Γ ω fun x ω1 => ∃ ks : List Bool, x = .list (ks.map .bool) ∧ P (.bool (ks.all id)) ω1) (s1 : S1 X a [] := by rfl) : DE X (.Call (.Name "all" p) [a] [] pos) Γ ω P := fun B σ G H S Q q =>
  we_of (pe_callB (cr_all hc) hg hm (by decide +kernel) (pa_cons pe_we pa_nil s1) (he := s1)) (h B σ G H S _ fun d v G2 H2 ω2 h2 S2 e2 q1 => by
    obtain ⟨ks, rfl, hp⟩ := h2
    cases q1 with
    | lst hx hd =>
      have e := bls_of hd
      subst e
      exact ⟨_, ks, rfl, SqL.of (S2.sub _ _ hx), q _ _ G2 H2 ω2 hp S2 e2 (.bl _)⟩)
theorem de_tupleL {p : Pos} (hg : Gl X "tuple") (hm : X.mg "tuple" = none) (h : DE X a Γ ω fun x ω1 => ∃ ds, x = .list ds ∧ P (.tuple ds) ω1) (s1 : S1 X a [] := by rfl) : DE X (.Call (.Name "tuple" p) [a] [] pos) Γ ω P := fun B σ G H S Q q =>
  we_of (pe_callTy call_tuple_of hg hm (by decide +kernel) (pa_cons pe_we pa_nil s1) (he := s1)) (h B σ G H S _ fun d v G2 H2 ω2 h2 S2 e2 q1 => by
    obtain ⟨ds, rfl, hp⟩ := h2
    cases q1 with
    | @lst p0 xs _ hx hd =>
      refine ⟨_, _, rfl, .inl ⟨SqL.of (S2.sub _ _ hx), fun l hl => ?_⟩⟩
      have hex : Ex H2 (upd H2 l (.tup xs)) := Ex.new hl
      exact q _ _ _ _ ω2 hp (S2.pure hex) (e2.trans (gain_ex S2.sub)) (.tup (by rw [gain_new hl]; exact upd_same) (hd.mono (gain_ex S2.sub))))
end
end K20
set_option maxRecDepth 100000
set_option maxHeartbeats 4000000
namespace K20
open PySem PySem.Spec PyProof.Rows L2 Evl
structure DN where
  nx : Gam → Ow → Prop
  rt : PyData → Ow → Prop
  bk : Gam → Ow → Prop := fun _ _ => False
  ct : Gam → Ow → Prop := fun _ _ => False
def lift (B : Bs) (D : DN) : Ends where
  nx := fun σ H => ∃ G Γ ω, SD B G H σ Γ ω ∧ D.nx Γ ω
  rt := fun v H => ∃ G σ Γ ω d, SD B G H σ Γ ω ∧ Dq G v d ∧ D.rt d ω
  bk := fun σ H => ∃ G Γ ω, SD B G H σ Γ ω ∧ D.bk Γ ω
  ct := fun σ H => ∃ G Γ ω, SD B G H σ Γ ω ∧ D.ct Γ ω
def DS (X : Cx) (st : Stmt) (D : DN) (Γ : Gam) (ω : Ow) : Prop := ∀ (B : Bs) (σ : L2.St) (G H : Hp), SD B G H σ Γ ω → WS X st (lift B D) σ H
def DSs (X : Cx) (st : List Stmt) (D : DN) (Γ : Gam) (ω : Ow) : Prop := ∀ (B : Bs) (σ : L2.St) (G H : Hp), SD B G H σ Γ ω → WSs X st (lift B D) σ H
def DG (X : Cx) (tg : Expr) (d : PyData) (Γ : Gam) (P : Gam → Prop) : Prop := ∀ (B : Bs) (σ : L2.St) (G H : Hp) (ω : Ow) (v : V), SD B G H σ Γ ω → Dq G v d → ∀ Q : L2.St → Hp → Prop, (∀ σ' Γ', P Γ' → SD B G H σ' Γ' ω → Q σ' H) → WG X tg v σ H Q
def DGs (X : Cx) (ts : List Expr) (ds : List PyData) (Γ : Gam) (P : Gam → Prop) : Prop := ∀ (B : Bs) (σ : L2.St) (G H : Hp) (ω : Ow) (vs : List V), SD B G H σ Γ ω → DqAll G vs ds → ∀ Q : L2.St → Hp → Prop, (∀ σ' Γ', P Γ' → SD B G H σ' Γ' ω → Q σ' H) → WGs X ts vs σ H Q
section
variable {X : Cx} {Γ : Gam} {ω : Ow} {D : DN} {e a b : Expr} {st : Stmt} {sts : List Stmt} {pos : Pos}
theorem DSs.mono {D' : DN} (h : DSs X sts D Γ ω) (h1 : ∀ Γ ω, D.nx Γ ω → D'.nx Γ ω) (h2 : ∀ d ω, D.rt d ω → D'.rt d ω) (h3 : ∀ Γ ω, D.bk Γ ω → D'.bk Γ ω) (h4 : ∀ Γ ω, D.ct Γ ω → D'.ct Γ ω) : DSs X sts D' Γ ω := fun B σ G H S =>
  wss_mono (h B σ G H S) (fun _ _ ⟨G, Γ, ω, a, b⟩ => ⟨G, Γ, ω, a, h1 _ _ b⟩) (fun _ _ ⟨G, σ, Γ, ω, d, a, q, b⟩ => ⟨G, σ, Γ, ω, d, a, q, h2 _ _ b⟩) (fun _ _ ⟨G, Γ, ω, a, b⟩ => ⟨G, Γ, ω, a, h3 _ _ b⟩) (fun _ _ ⟨G, Γ, ω, a, b⟩ => ⟨G, Γ, ω, a, h4 _ _ b⟩)
theorem dss_nil (h : D.nx Γ ω) : DSs X [] D Γ ω := fun B σ G H S => wss_of pss_nil ⟨G, Γ, ω, S, h⟩
theorem dss_cons (h : DS X st { D with nx := fun Γ' ω' => DSs X sts D Γ' ω' } Γ ω) : DSs X (st :: sts) D Γ ω := fun B σ G H S =>
  wss_of (pss_cons ps_we pss_we) (ws_mono (h B σ G H S) (fun σ' H' ⟨G', Γ', ω', S', h'⟩ => h' B σ' G' H' S') (fun _ _ q => q) (fun _ _ q => q) fun _ _ q => q)
theorem dss_one (h : DS X st D Γ ω) : DSs X [st] D Γ ω := fun B σ G H S => wss_of (pss_one ps_we) (h B σ G H S)
theorem dss_cut {PL : Gam → Ow → Prop} (h : DS X st { D with nx := PL } Γ ω) (k : ∀ Γ' ω', PL Γ' ω' → DSs X sts D Γ' ω') : DSs X (st :: sts) D Γ ω := fun B σ G H S =>
  wss_of (pss_cons ps_we pss_we) (ws_mono (h B σ G H S) (fun σ' H' ⟨G', Γ', ω', S', h'⟩ => k Γ' ω' h' B σ' G' H' S') (fun _ _ q => q) (fun _ _ q => q) fun _ _ q => q)
theorem ds_ret (h : DE X e Γ ω D.rt) : DS X (.Return (some e) pos) D Γ ω := fun B σ G H S =>
  ws_of (ps_ret pe_we) (h B σ G H S _ fun d v G2 H2 ω2 h2 S2 e2 q => ⟨G2, σ, Γ, ω2, d, S2, q, h2⟩)
theorem ds_pass (h : D.nx Γ ω) : DS X (.Pass pos) D Γ ω := fun B σ G H S => ws_of ps_pass ⟨G, Γ, ω, S, h⟩
theorem ds_break (h : D.bk Γ ω) : DS X (.Break pos) D Γ ω := fun B σ G H S => ws_of ps_break ⟨G, Γ, ω, S, h⟩
theorem ds_if {t : Expr} {s1 s2 : List Stmt} (h : DT X t Γ ω fun k ω1 => if k = true then DSs X s1 D Γ ω1 else DSs X s2 D Γ ω1) : DS X (.If t s1 s2 pos) D Γ ω := fun B σ G H S =>
  ws_of (ps_if pt_we pss_we pss_we) (h B σ G H S _ fun k G2 H2 ω2 h2 S2 e2 => by
    cases k with
    | true => exact iteT (h2 B σ G2 H2 S2)
    | false => exact iteF (h2 B σ G2 H2 S2))
theorem glt {α : Type} {l : List α} {i : Nat} (h : ∃ o, l[i]? = some o) : i < l.length := by
  obtain ⟨o, e⟩ := h
  exact (List.getElem?_eq_some_iff.mp e).1
theorem SD.ilt {B : Bs} {G H : Hp} {σ : L2.St} (S : SD B G H σ Γ ω) {i : Nat} (h : i < Γ.length) : i < σ.length := by rw [S.len]; exact h
theorem ds_set {i : Nat} {x : Str} {pos' : Pos} (hN : X.N.Nodup) (hi : X.N[i]? = some x) (hx : Loc X.env.scope x) (hl : ∃ o, Γ[i]? = some o) (h : DE X e Γ ω fun d ω1 => D.nx (Γ.set i (some (.dat d))) ω1)
    (hs : swapsWith e (some (.Name x pos')) pos.line X.env = pure false := by rfl) (hf : X.fn x = true ∨ X.env.scope.names.lookup x = some .local := by first | exact .inl rfl | exact .inr rfl | assumption) : DS X (.Assign [.Name x pos'] e pos) D Γ ω := fun B σ G H S =>
  ws_of (ps_set hN hi hx pe_we hs hf) (h B σ G H S _ fun d v G2 H2 ω2 h2 S2 e2 q => ⟨G2, _, ω2, S2.set (s := .dat d) q (S2.ilt (glt hl)), h2⟩)
theorem ds_setO {i : Nat} {x : Str} {pos' : Pos} (hN : X.N.Nodup) (hi : X.N[i]? = some x) (hx : Loc X.env.scope x) (hl : ∃ o, Γ[i]? = some o) (h : NL X e Γ ω fun ds ω1 => ∀ p, ω1 p = none → D.nx (Γ.set i (some (.own p))) (setO ω1 p (.lst ds)))
    (hs : swapsWith e (some (.Name x pos')) pos.line X.env = pure false := by rfl) (hf : X.fn x = true ∨ X.env.scope.names.lookup x = some .local := by first | exact .inl rfl | exact .inr rfl | assumption) : DS X (.Assign [.Name x pos'] e pos) D Γ ω := fun B σ G H S =>
  ws_of (ps_set hN hi hx pe_we hs hf) (h B σ G H S _ fun ds p xs G2 H2 ω2 h2 S2 e2 hp q =>
    ⟨G2, _, _, (S2.newown (c := .lst ds) hp ⟨xs, upd_same, q⟩).set (s := .own p) rfl (S2.ilt (glt hl)), h2 p (S2.free hp).2.1⟩)
theorem dg_name {i : Nat} {x : Str} {d : PyData} {P : Gam → Prop} (hN : X.N.Nodup) (hi : X.N[i]? = some x) (hx : Loc X.env.scope x) (hl : ∃ o, Γ[i]? = some o) (h : P (Γ.set i (some (.dat d))))
    (hf : X.fn x = true ∨ X.env.scope.names.lookup x = some .local := by first | exact .inl rfl | exact .inr rfl | assumption) : DG X (.Name x pos) d Γ P := fun B σ G H ω v S q Q k =>
  wg_of (pg_name hN hi hx hf) (k _ _ h (S.set (s := .dat d) q (S.ilt (glt hl))))
theorem dgs_nil {P : Gam → Prop} (h : P Γ) : DGs X [] [] Γ P := fun B σ G H ω vs S q Q k => by
  cases q
  exact wgs_of pgs_nil ⟨rfl, k σ Γ h S⟩
theorem dgs_cons {t : Expr} {ts : List Expr} {d : PyData} {ds : List PyData} {P : Gam → Prop} (h : DG X t d Γ fun Γ' => DGs X ts ds Γ' P) (hs : (assignEach (t :: ts) X.env).map (·.2) = assign t X.env :: (assignEach ts X.env).map (·.2) := by rfl) : DGs X (t :: ts) (d :: ds) Γ P := fun B σ G H ω vs S q Q k => by
  cases q with
  | cons q1 q2 => exact wgs_of (pgs_cons pg_we pgs_we hs) ⟨_, _, rfl, h B σ G H ω _ S q1 _ fun σ' Γ' h' S' => h' B σ' G H ω _ S' q2 Q k⟩
theorem dg_tup {ts : List Expr} {k n : Nat} {ds : List PyData} {P : Gam → Prop} (hc : X.calm = true) (hl : ds.length = n) (h : DGs X ts ds Γ P) (hn : (assignEach ts X.env).length = n := by rfl) (hst : (assignEach ts X.env).findIdx? (·.1) = none := by rfl) : DG X (.Tuple ts k pos) (.tuple ds) Γ P := fun B σ G H ω v S q Q kk => by
  cases q with
  | tup hx hd => exact wg_of (pg_tup hc pgs_we hn hst) ⟨_, _, rfl, SqT.of (S.sub _ _ hx), by rw [hd.len]; exact hl, h B σ G H ω _ S hd Q kk⟩
theorem ds_asg {tg : Expr} (h : DE X e Γ ω fun d ω1 => DG X tg d Γ fun Γ' => D.nx Γ' ω1) (hs : swapsWithSole [tg] e pos.line X.env = pure false := by rfl) (hw : swappedStores [tg] e X.env = pure none := by rfl)
    (h1 : (assignEach [tg] X.env).map (·.2) = [assign tg X.env] := by rfl) : DS X (.Assign [tg] e pos) D Γ ω := fun B σ G H S =>
  ws_of (ps_asg pe_we pg_we hs hw h1) (h B σ G H S _ fun d v G2 H2 ω2 h2 S2 e2 q => h2 B σ G2 H2 ω2 v S2 q _ fun σ' Γ' h' S' => ⟨G2, Γ', ω2, S', h'⟩)
theorem ds_par {i j : Nat} {x y : Str} {px py pt pt2 : Pos} {kt k2 : Nat} (hc : X.calm = true) (hN : X.N.Nodup) (hi : X.N[i]? = some x) (hj : X.N[j]? = some y) (hij : i ≠ j)
    (hx : X.env.scope.names.lookup x = some .local) (hy : X.env.scope.names.lookup y = some .local) (hli : ∃ o, Γ[i]? = some o) (hlj : ∃ o, Γ[j]? = some o) (h : DE X a Γ ω fun d1 ω1 => DE X b Γ ω1 fun d2 ω2 => D.nx ((Γ.set i (some (.dat d1))).set j (some (.dat d2))) ω2)
    (hw : swappedStores [.Tuple [.Name x px, .Name y py] kt pt] (.Tuple [a, b] k2 pt2) X.env = pure (some [x, y]) := by rfl)
    (hs : swapsWithSole [.Tuple [.Name x px, .Name y py] kt pt] (.Tuple [a, b] k2 pt2) pos.line X.env = pure false := by rfl) (s1 : S1 X a [b] := by rfl) (s2 : S1 X b [] := by rfl) : DS X (.Assign [.Tuple [.Name x px, .Name y py] kt pt] (.Tuple [a, b] k2 pt2) pos) D Γ ω := fun B σ G H S =>
  ws_of (ps_par hc hN hi hj hij hx hy (pa_cons pe_we (pa_cons pe_we pa_nil s2) s1) hw hs) (de2 h B σ G H S (fun v1 v2 H3 => ∃ v w, [v1, v2] = [v, w] ∧ (lift B D).nx ((σ.set i (some v)).set j (some w)) H3) fun d1 d2 v1 v2 G3 H3 ω3 h3 S3 e3 q1 q2 =>
    ⟨v1, v2, rfl, G3, _, ω3, (S3.set (s := .dat d1) q1 (S3.ilt (glt hli))).set (s := .dat d2) q2 (by rw [List.length_set]; exact S3.ilt (glt hlj)), h3⟩)
theorem ds_parO {i j : Nat} {x y : Str} {px py pt pt2 : Pos} {kt k2 : Nat} (hc : X.calm = true) (hN : X.N.Nodup) (hi : X.N[i]? = some x) (hj : X.N[j]? = some y) (hij : i ≠ j)
    (hx : X.env.scope.names.lookup x = some .local) (hy : X.env.scope.names.lookup y = some .local) (hli : ∃ o, Γ[i]? = some o) (hlj : ∃ o, Γ[j]? = some o) (h : DE X a Γ ω fun d1 ω1 => NL X b Γ ω1 fun ds ω2 => ∀ p, ω2 p = none → D.nx ((Γ.set i (some (.dat d1))).set j (some (.own p))) (setO ω2 p (.lst ds)))
    (hw : swappedStores [.Tuple [.Name x px, .Name y py] kt pt] (.Tuple [a, b] k2 pt2) X.env = pure (some [x, y]) := by rfl)
    (hs : swapsWithSole [.Tuple [.Name x px, .Name y py] kt pt] (.Tuple [a, b] k2 pt2) pos.line X.env = pure false := by rfl) (s1 : S1 X a [b] := by rfl) (s2 : S1 X b [] := by rfl) : DS X (.Assign [.Tuple [.Name x px, .Name y py] kt pt] (.Tuple [a, b] k2 pt2) pos) D Γ ω := fun B σ G H S =>
  ws_of (ps_par hc hN hi hj hij hx hy (pa_cons pe_we (pa_cons pe_we pa_nil s2) s1) hw hs) (h B σ G H S _ fun d1 v1 G2 H2 ω2 h2 S2 e2 q1 => h2 B σ G2 H2 S2 _ fun ds p xs G3 H3 ω3 h3 S3 e3 hp q2 =>
    ⟨v1, .ref p, rfl, G3, _, _, (((S3.newown (c := .lst ds) hp ⟨xs, upd_same, q2⟩).set (s := .dat d1) (q1.mono e3) (S3.ilt (glt hli))).set (s := .own p) rfl (by rw [List.length_set]; exact S3.ilt (glt hlj))), h3 p (S3.free hp).2.1⟩)
theorem ds_parO1 {i j : Nat} {x y : Str} {px py pt pt2 : Pos} {kt k2 : Nat} (hc : X.calm = true) (hN : X.N.Nodup) (hi : X.N[i]? = some x) (hj : X.N[j]? = some y) (hij : i ≠ j)
    (hx : X.env.scope.names.lookup x = some .local) (hy : X.env.scope.names.lookup y = some .local) (hli : ∃ o, Γ[i]? = some o) (hlj : ∃ o, Γ[j]? = some o) (h : NL X a Γ ω fun ds ω1 => ∀ p, ω1 p = none → DE X b Γ (setO ω1 p (.lst ds)) fun d2 ω2 => D.nx ((Γ.set i (some (.own p))).set j (some (.dat d2))) ω2)
    (hw : swappedStores [.Tuple [.Name x px, .Name y py] kt pt] (.Tuple [a, b] k2 pt2) X.env = pure (some [x, y]) := by rfl)
    (hs : swapsWithSole [.Tuple [.Name x px, .Name y py] kt pt] (.Tuple [a, b] k2 pt2) pos.line X.env = pure false := by rfl) (s1 : S1 X a [b] := by rfl) (s2 : S1 X b [] := by rfl) : DS X (.Assign [.Tuple [.Name x px, .Name y py] kt pt] (.Tuple [a, b] k2 pt2) pos) D Γ ω := fun B σ G H S =>
  ws_of (ps_par hc hN hi hj hij hx hy (pa_cons pe_we (pa_cons pe_we pa_nil s2) s1) hw hs) (h B σ G H S _ fun ds p xs G2 H2 ω2 h2 S2 e2 hp q1 => h2 p (S2.free hp).2.1 B σ G2 _ (S2.newown (c := .lst ds) hp ⟨xs, upd_same, q1⟩) _ fun d2 v2 G3 H3 ω3 h3 S3 e3 q2 =>
    ⟨.ref p, v2, rfl, G3, _, _, (S3.set (s := .own p) rfl (S3.ilt (glt hli))).set (s := .dat d2) q2 (by rw [List.length_set]; exact S3.ilt (glt hlj)), h3⟩)
theorem ds_parO2 {i j : Nat} {x y : Str} {px py pt pt2 : Pos} {kt k2 : Nat} (hc : X.calm = true) (hN : X.N.Nodup) (hi : X.N[i]? = some x) (hj : X.N[j]? = some y) (hij : i ≠ j)
    (hx : X.env.scope.names.lookup x = some .local) (hy : X.env.scope.names.lookup y = some .local) (hli : ∃ o, Γ[i]? = some o) (hlj : ∃ o, Γ[j]? = some o) (h : NL X a Γ ω fun ds ω1 => ∀ p, ω1 p = none → NL X b Γ (setO ω1 p (.lst ds)) fun ds2 ω2 => ∀ p2, ω2 p2 = none → D.nx ((Γ.set i (some (.own p))).set j (some (.own p2))) (setO ω2 p2 (.lst ds2)))
    (hw : swappedStores [.Tuple [.Name x px, .Name y py] kt pt] (.Tuple [a, b] k2 pt2) X.env = pure (some [x, y]) := by rfl)
    (hs : swapsWithSole [.Tuple [.Name x px, .Name y py] kt pt] (.Tuple [a, b] k2 pt2) pos.line X.env = pure false := by rfl) (s1 : S1 X a [b] := by rfl) (s2 : S1 X b [] := by rfl) : DS X (.Assign [.Tuple [.Name x px, .Name y py] kt pt] (.Tuple [a, b] k2 pt2) pos) D Γ ω := fun B σ G H S =>
  ws_of (ps_par hc hN hi hj hij hx hy (pa_cons pe_we (pa_cons pe_we pa_nil s2) s1) hw hs) (h B σ G H S _ fun ds p xs G2 H2 ω2 h2 S2 e2 hp q1 => h2 p (S2.free hp).2.1 B σ G2 _ (S2.newown (c := .lst ds) hp ⟨xs, upd_same, q1⟩) _ fun ds2 p2 xs2 G3 H3 ω3 h3 S3 e3 hp2 q2 =>
    ⟨.ref p, .ref p2, rfl, G3, _, _, ((S3.newown (c := .lst ds2) hp2 ⟨xs2, upd_same, q2⟩).set (s := .own p) rfl (S3.ilt (glt hli))).set (s := .own p2) rfl (by rw [List.length_set]; exact S3.ilt (glt hlj)), h3 p2 (S3.free hp2).2.1⟩)
theorem ds_append {i : Nat} {x : Str} {p : Addr} {p1 p2 pos2 : Pos} (hN : X.N[i]? = some x) (hv : Vis X.env.scope x) (hΓ : Γ[i]? = some (some (.own p))) (h : DE X e Γ ω fun d ω1 => ∃ ds, ω1 p = some (.lst ds) ∧ ds.length < 100000 ∧ D.nx Γ (setO ω1 p (.lst (ds ++ [d])))) {ds0 : List PyData} (ho : ω p = some (.lst ds0))
    (hd : (x == ("__debug__" : Str)) = false := by decide) (hcd : (x == ("__classdict__" : Str)) = false := by decide) (s1 : S1 X e [] := by rfl)
    (hbase : attributeBase (.Name x p1) "append" X.env (eval (.Name x p1) X.env) = eval (.Name x p1) X.env := by rfl)
    (hfew : ((backTo pos2 (starEach [e] X.env)).all (fun x => !x.1) && (backToKw pos2 (keywordEach [] X.env)).all (fun x => x.1.isSome)
      && decide (([e] : List Expr).length + ([] : List Keyword).length + (if ([] : List Keyword).isEmpty then 0 else 1) < 30)) = true := by rfl)
    (hline : (p2.endLine == pos2.line) = true := by rfl) (hsw : swapsWith (.Call (.Attribute (.Name x p1) "append" p2) [e] [] pos2) none pos.line X.env = pure false := by rfl) : DS X (.Expr (.Call (.Attribute (.Name x p1) "append" p2) [e] [] pos2) pos) D Γ ω := fun B σ G H S => by
  refine ws_of (ps_expr (pe_bm PySem.F.plainAttrs_list PySem.F.slot_list_append PySem.F.type_list_append mt_append (pe_var hN hv hd hcd) (pa_cons pe_we pa_nil s1) hbase hfew hline s1) hsw) ?_
  obtain ⟨v, hv', hq⟩ := S.slot i _ hΓ
  have hq' : v = .ref p := hq
  subst hq'
  obtain ⟨_, xs0, hx0, _⟩ := S.own p _ ho
  refine ⟨_, hv', .inl ⟨rfl, xs0, SqL.of hx0⟩, h B σ G H S _ fun d v G2 H2 ω2 h2 S2 e2 q => ?_⟩
  obtain ⟨ds, e1, hl, hnx⟩ := h2
  obtain ⟨_, xs, hx, hdx⟩ := S2.own p _ e1
  exact ⟨p, xs, v, rfl, rfl, hx, sz_lt (by rw [hdx.len]; exact hl), G2, Γ, _, S2.setown (c' := .lst (ds ++ [d])) e1 ⟨_, upd_same, hdx.append (.cons q .nil)⟩, hnx⟩
theorem ds_extend {i : Nat} {x : Str} {p : Addr} {p1 p2 pos2 : Pos} (hN : X.N[i]? = some x) (hv : Vis X.env.scope x) (hΓ : Γ[i]? = some (some (.own p))) (h : DE X e Γ ω fun d ω1 => ∃ ds es, d = .list es ∧ ω1 p = some (.lst ds) ∧ ds.length + es.length < 100000 ∧ D.nx Γ (setO ω1 p (.lst (ds ++ es)))) {ds0 : List PyData} (ho : ω p = some (.lst ds0))
    (hd : (x == ("__debug__" : Str)) = false := by decide) (hcd : (x == ("__classdict__" : Str)) = false := by decide) (s1 : S1 X e [] := by rfl)
    (hbase : attributeBase (.Name x p1) "extend" X.env (eval (.Name x p1) X.env) = eval (.Name x p1) X.env := by rfl)
    (hfew : ((backTo pos2 (starEach [e] X.env)).all (fun x => !x.1) && (backToKw pos2 (keywordEach [] X.env)).all (fun x => x.1.isSome)
      && decide (([e] : List Expr).length + ([] : List Keyword).length + (if ([] : List Keyword).isEmpty then 0 else 1) < 30)) = true := by rfl)
    (hline : (p2.endLine == pos2.line) = true := by rfl) (hsw : swapsWith (.Call (.Attribute (.Name x p1) "extend" p2) [e] [] pos2) none pos.line X.env = pure false := by rfl) : DS X (.Expr (.Call (.Attribute (.Name x p1) "extend" p2) [e] [] pos2) pos) D Γ ω := fun B σ G H S => by
  refine ws_of (ps_expr (pe_bm PySem.F.plainAttrs_list PySem.F.slot_list_extend PySem.F.type_list_extend mt_extend (pe_var hN hv hd hcd) (pa_cons pe_we pa_nil s1) hbase hfew hline s1) hsw) ?_
  obtain ⟨v, hv', hq⟩ := S.slot i _ hΓ
  have hq' : v = .ref p := hq
  subst hq'
  obtain ⟨_, xs0, hx0, _⟩ := S.own p _ ho
  refine ⟨_, hv', .inl ⟨rfl, xs0, SqL.of hx0⟩, h B σ G H S _ fun d v G2 H2 ω2 h2 S2 e2 q => ?_⟩
  obtain ⟨ds, es, rfl, e1, hl, hnx⟩ := h2
  obtain ⟨_, xs, hx, hdx⟩ := S2.own p _ e1
  cases q with
  | lst hy hdy => exact ⟨p, _, xs, _, rfl, rfl, hx, S2.sub _ _ hy, sz_of (by rw [hdx.len, hdy.len]; omega), G2, Γ, _, S2.setown (c' := .lst (ds ++ es)) e1 ⟨_, upd_same, hdx.append hdy⟩, hnx⟩
theorem rebase_lift {B : Bs} {G H : Hp} {σ : L2.St} (S : SD B G H σ Γ ω) {D : DN} {G2 H2 : Hp} {σ2 : L2.St} {Γ2 : Gam} {ω2 : Ow} (S2 : SD (reB G H ω) G2 H2 σ2 Γ2 ω2) : SD B G2 H2 σ2 Γ2 ω2 := S.trans S2
theorem ds_forL {tg iter : Expr} {body : List Stmt} (hp : PassesOwn (model X.prog X.w) X.A X.env X.xe) (hc : X.calm = true) (h : DE X iter Γ ω fun x ω1 => ∃ ds, x = .list ds ∧ ∃ Pv : Nat → Gam → Ow → Prop, Pv 0 Γ ω1 ∧
      (∀ i d Γ' ω', ds[i]? = some d → Pv i Γ' ω' → DG X tg d Γ' fun Γ2 => DSs X body { D with nx := Pv (i + 1), ct := Pv (i + 1), bk := D.nx } Γ2 ω') ∧ ∀ Γ' ω', Pv ds.length Γ' ω' → D.nx Γ' ω')
    (hs : ∀ x, foldedSetIterable iter X.env x = pure x := by intro _; rfl) : DS X (.For tg iter body [] pos) D Γ ω := fun B σ G H S => by
  refine ws_of (ps_for hp hc (pi_list pe_we) pg_we pss_we hs) (h B σ G H S _ fun d v G2 H2 ω2 h2 S2 e2 q => ?_)
  obtain ⟨ds, rfl, Pv, h0, hstep, hend⟩ := h2
  cases q with
  | @lst a xs _ hx hd =>
    refine ⟨a, rfl, ⟨xs, SqL.of (S2.sub _ _ hx)⟩, for_list (K := X.K) (xs := xs) (fun i σ' H' => ∃ G' Γ' ω', SD (reB G2 H2 ω2) G' H' σ' Γ' ω' ∧ Pv i Γ' ω') ⟨G2, Γ, ω2, S2.re, h0⟩ (fun i σ' H' _ ⟨G', Γ', ω', S', _⟩ => SqL.of (S'.sub _ _ (S'.ex _ _ hx))) ?_ ?_⟩
    · rintro i x σ' H' hi ⟨G', Γ', ω', S', hPv⟩
      obtain ⟨dd, hdd, hq⟩ := hd.get' hi
      refine hstep i dd Γ' ω' hdd hPv _ σ' G' H' ω' x S' (hq.mono S'.ex) _ fun σ3 Γ3 h3 S3 => ?_
      refine wss_mono (h3 _ σ3 G' H' S3) (fun σ4 H4 ⟨G4, Γ4, ω4, S4, q4⟩ => ⟨G4, Γ4, ω4, S4, q4⟩) (fun v H4 ⟨G4, σ4, Γ4, ω4, d4, S4, q4, r4⟩ => ⟨G4, σ4, Γ4, ω4, d4, S2.trans S4, q4, r4⟩) (fun σ4 H4 ⟨G4, Γ4, ω4, S4, q4⟩ => ⟨G4, Γ4, ω4, S2.trans S4, q4⟩) (fun σ4 H4 ⟨G4, Γ4, ω4, S4, q4⟩ => ⟨G4, Γ4, ω4, S4, q4⟩)
    · rintro σ' H' ⟨G', Γ', ω', S', hPv⟩
      rw [hd.len] at hPv
      exact ⟨G', Γ', ω', S2.trans S', hend Γ' ω' hPv⟩
theorem ds_forR1 {tg n : Expr} {body : List Stmt} {p pos2 : Pos} (hp : PassesOwn (model X.prog X.w) X.A X.env X.xe) (hc : X.calm = true) (hg : Gl X "range") (hm : X.mg "range" = none) (h : DE X n Γ ω fun x ω1 => ∃ j : Int, x = .int j ∧ j ≤ 100000 ∧ -100000 ≤ j ∧ ∃ Pv : Nat → Gam → Ow → Prop, Pv 0 Γ ω1 ∧
      (∀ (i : Nat) Γ' ω', (i : Int) < j → Pv i Γ' ω' → DG X tg (.int i) Γ' fun Γ2 => DSs X body { D with nx := Pv (i + 1), ct := Pv (i + 1), bk := D.nx } Γ2 ω') ∧ ∀ Γ' ω', Pv j.toNat Γ' ω' → D.nx Γ' ω')
    (s1 : S1 X n [] := by rfl) (s2 : starEach [n] X.env = [(false, eval n X.env)] := by rfl) (hs : ∀ x, foldedSetIterable (.Call (.Name "range" p) [n] [] pos2) X.env x = pure x := by intro _; rfl) : DS X (.For tg (.Call (.Name "range" p) [n] [] pos2) body [] pos) D Γ ω := fun B σ G H S => by
  refine ws_of (ps_for hp hc (pi_range1 hg hm (pa_cons pe_we pa_nil s1) s2) pg_we pss_we hs) (h B σ G H S _ fun d v G2 H2 ω2 h2 S2 e2 q => ?_)
  obtain ⟨j, rfl, hj1, hj2, Pv, h0, hstep, hend⟩ := h2
  cases q
  refine ⟨j, rfl, by omega, by omega, for_range (lo := 0) (n := j.toNat) (fun i σ' H' => ∃ G' Γ' ω', SD (reB G2 H2 ω2) G' H' σ' Γ' ω' ∧ Pv i Γ' ω') ⟨G2, Γ, ω2, S2.re, h0⟩ ?_ ?_⟩
  · rintro i σ' H' hi ⟨G', Γ', ω', S', hPv⟩
    have e0 : (0 : Int) + (i : Int) = (i : Int) := Int.zero_add _
    rw [e0]
    refine hstep i Γ' ω' (by omega) hPv _ σ' G' H' ω' _ S' (.int _) _ fun σ3 Γ3 h3 S3 => ?_
    refine wss_mono (h3 _ σ3 G' H' S3) (fun σ4 H4 ⟨G4, Γ4, ω4, S4, q4⟩ => ⟨G4, Γ4, ω4, S4, q4⟩) (fun v H4 ⟨G4, σ4, Γ4, ω4, d4, S4, q4, r4⟩ => ⟨G4, σ4, Γ4, ω4, d4, S2.trans S4, q4, r4⟩) (fun σ4 H4 ⟨G4, Γ4, ω4, S4, q4⟩ => ⟨G4, Γ4, ω4, S2.trans S4, q4⟩) (fun σ4 H4 ⟨G4, Γ4, ω4, S4, q4⟩ => ⟨G4, Γ4, ω4, S4, q4⟩)
  · rintro σ' H' ⟨G', Γ', ω', S', hPv⟩
    exact ⟨G', Γ', ω', S2.trans S', hend Γ' ω' hPv⟩
theorem ds_forR2 {tg m n : Expr} {body : List Stmt} {p pos2 : Pos} (hp : PassesOwn (model X.prog X.w) X.A X.env X.xe) (hc : X.calm = true) (hg : Gl X "range") (hm : X.mg "range" = none) (h : DE X m Γ ω fun x ω1 => DE X n Γ ω1 fun y ω2 => ∃ lo j : Int, x = .int lo ∧ y = .int j ∧ j ≤ 100000 ∧ -100000 ≤ j ∧ lo ≤ 100000 ∧ -100000 ≤ lo ∧ ∃ Pv : Nat → Gam → Ow → Prop, Pv 0 Γ ω2 ∧
      (∀ (i : Nat) Γ' ω', lo + (i : Int) < j → Pv i Γ' ω' → DG X tg (.int (lo + i)) Γ' fun Γ2 => DSs X body { D with nx := Pv (i + 1), ct := Pv (i + 1), bk := D.nx } Γ2 ω') ∧ ∀ Γ' ω', Pv (j - lo).toNat Γ' ω' → D.nx Γ' ω')
    (s1 : S1 X m [n] := by rfl) (s2 : S1 X n [] := by rfl) (s3 : starEach [m, n] X.env = [(false, eval m X.env), (false, eval n X.env)] := by rfl) (s4 : starEach [n] X.env = [(false, eval n X.env)] := by rfl) (hs : ∀ x, foldedSetIterable (.Call (.Name "range" p) [m, n] [] pos2) X.env x = pure x := by intro _; rfl) : DS X (.For tg (.Call (.Name "range" p) [m, n] [] pos2) body [] pos) D Γ ω := fun B σ G H S => by
  refine ws_of (ps_for hp hc (pi_range2 hg hm (pa_cons pe_we (pa_cons pe_we pa_nil s2) s1) s3 s4) pg_we pss_we hs) (h B σ G H S _ fun d v G2 H2 ω2 h2 S2 e2 q => h2 B σ G2 H2 S2 _ fun d' v' G3 H3 ω3 h3 S3 e3 q' => ?_)
  obtain ⟨lo, j, rfl, rfl, hj1, hj2, hl1, hl2, Pv, h0, hstep, hend⟩ := h3
  cases q
  cases q'
  refine ⟨lo, j, rfl, ⟨by omega, by omega, by omega, by omega⟩, for_range (lo := lo) (n := (j - lo).toNat) (fun i σ' H' => ∃ G' Γ' ω', SD (reB G3 H3 ω3) G' H' σ' Γ' ω' ∧ Pv i Γ' ω') ⟨G3, Γ, ω3, S3.re, h0⟩ ?_ ?_⟩
  · rintro i σ' H' hi ⟨G', Γ', ω', S', hPv⟩
    refine hstep i Γ' ω' (by omega) hPv _ σ' G' H' ω' _ S' (.int _) _ fun σ3 Γ3 h3 S4 => ?_
    refine wss_mono (h3 _ σ3 G' H' S4) (fun σ4 H4 ⟨G4, Γ4, ω4, S4, q4⟩ => ⟨G4, Γ4, ω4, S4, q4⟩) (fun v H4 ⟨G4, σ4, Γ4, ω4, d4, S4, q4, r4⟩ => ⟨G4, σ4, Γ4, ω4, d4, S3.trans S4, q4, r4⟩) (fun σ4 H4 ⟨G4, Γ4, ω4, S4, q4⟩ => ⟨G4, Γ4, ω4, S3.trans S4, q4⟩) (fun σ4 H4 ⟨G4, Γ4, ω4, S4, q4⟩ => ⟨G4, Γ4, ω4, S4, q4⟩)
  · rintro σ' H' ⟨G', Γ', ω', S', hPv⟩
    exact ⟨G', Γ', ω', S3.trans S', hend Γ' ω' hPv⟩
end
def spP (R : List PyData → PyData → Prop) : Sp := fun vs H Q _ => ∃ G ds d, Ex G H ∧ DqAll G vs ds ∧ R ds d ∧ ∀ v H', Ex H H' → Dq (gain G H H') v d → Q v H'
def LIM : Nat := 1000000
def spR (R : List PyData → Nat → (PyData → Prop) → Prop) : Sp := fun vs H Q _ => ∃ r vs' n G ds k Pd, vs = .ref r :: vs' ∧ Ex G H ∧ G r = none ∧ OwnOk G H r (.reel n) ∧ DqAll G vs' ds ∧ R ds k Pd ∧ n + k ≤ LIM ∧
  ∀ d v H', Pd d → (∀ b o, H b = some o → b ≠ r → H' b = some o) → OwnOk G H' r (.reel (n + k)) → Dq (gain G H H') v d → Q v H'
def Cal (P : Program) (w : World) (K : PySem.W.Frag) (mg : Str → Option Value) (base : Heap) (k : Nat) (x : Str) (sp : Sp) : Prop := ∃ f fd ps, FnOk P w K mg base CX0 k f fd ps sp ∧ mg x = some (.ref f) ∧ PySem.W.keepIn K (.ref f) = true ∧ Binds K fd ps []
section
variable {X : Cx} {Γ : Gam} {ω : Ow} {P : PyData → Ow → Prop} {e : Expr} {es : List Expr} {pos : Pos} {x : Str} {k : Nat}
theorem de_call {R : List PyData → PyData → Prop} {p : Pos} (C : Cal X.prog X.w X.K X.mg X.base k x (spP R)) (hr : Room k X.A) (hg : Gl X x) (h : DA X (e :: es) Γ ω fun ds ω1 => ∃ d, R ds d ∧ P d ω1) (hdb : (x == ("__debug__" : Str)) = false := by decide)
    (he : starEach (e :: es) X.env = (false, eval e X.env) :: starEach es X.env := by rfl) (hpl : (backTo pos (starEach es X.env)).any (·.1) = false := by rfl) (hx : ∀ e s, X.xe e s ↔ False := by exact fun _ _ => Iff.rfl) : DE X (.Call (.Name x p) (e :: es) [] pos) Γ ω P := fun B σ G H S Q q => by
  obtain ⟨f, fd, ps, F, hm, hk, hb⟩ := C
  refine we_of (pe_call F hr hg hm hk hb .nil (pass0 (X := X)) pa_we hdb he hpl) (h B σ G H S _ fun ds vs G2 H2 ω2 h2 S2 e2 q1 => ?_)
  obtain ⟨d, hR, hp⟩ := h2
  refine ⟨G2, ds, d, S2.sub, by rw [List.append_nil]; exact q1, hR, fun v H' e' q' => ?_⟩
  exact q d v _ H' ω2 hp (S2.pure e') (e2.trans (gain_ex S2.sub)) q'
theorem SD.draw {B : Bs} {G H H2 : Hp} {σ : L2.St} (S : SD B G H σ Γ ω) {r : Addr} {n m : Nat} (hr : ω r = some (.reel n)) (keep : ∀ b o, H b = some o → b ≠ r → H2 b = some o) (ho : OwnOk G H2 r (.reel m)) : SD B (gain G H H2) H2 σ Γ (setO ω r (.reel m)) where
  ex := S.ex.trans (gain_ex S.sub)
  vis := fun b o q => by
    cases h : H b with
    | none =>
      refine .inr ?_
      cases r : B.Hk b with
      | none => rfl
      | some u => rw [S.kept b u r] at h; cases h
    | some u =>
      rw [gain_old h] at q
      exact S.vis b o q
  kept := fun b o q => by
    have : b ≠ r := fun e => by subst e; rw [S.ownk b _ hr] at q; cases q
    exact keep b o (S.kept b o q) this
  ownk := fun b c q => by
    by_cases e : b = r
    · rw [e]; exact S.ownk r _ hr
    · rw [setO_ne e] at q; exact S.ownk b c q
  sub := fun b o q => by
    cases h : H b with
    | none => rw [gain_new h] at q; exact q
    | some u =>
      rw [gain_old h] at q
      have : b ≠ r := fun e => by subst e; rw [(S.own b _ hr).1] at q; cases q
      exact keep b o (S.sub b o q) this
  len := S.len
  slot := fun i s q => by
    obtain ⟨v, a, b⟩ := S.slot i s q
    exact ⟨v, a, b.mono (gain_ex S.sub)⟩
  own := fun p c q => by
    by_cases e : p = r
    · subst e
      rw [setO_same] at q; cases q
      obtain ⟨o, h⟩ := (S.own p _ hr).2.there
      exact ⟨by rw [gain_old h]; exact (S.own p _ hr).1, ho.mono (gain_ex S.sub) fun _ z => z⟩
    · rw [setO_ne e] at q
      obtain ⟨a, b⟩ := S.own p c q
      obtain ⟨o, h⟩ := b.there
      exact ⟨by rw [gain_old h]; exact a, b.mono (gain_ex S.sub) fun o z => keep p o z e⟩
theorem de_callR {R : List PyData → Nat → (PyData → Prop) → Prop} {p pr : Pos} {i : Nat} {y : Str} {r : Addr} (C : Cal X.prog X.w X.K X.mg X.base k x (spR R)) (hr : Room k X.A) (hg : Gl X x) (hN : X.N[i]? = some y) (hv : Vis X.env.scope y) (hΓ : Γ[i]? = some (some (.own r)))
    (h : DA X es Γ ω fun ds ω1 => ∃ n k Pd, ω1 r = some (.reel n) ∧ R ds k Pd ∧ n + k ≤ LIM ∧ ∀ d, Pd d → P d (setO ω1 r (.reel (n + k)))) (hdb : (x == ("__debug__" : Str)) = false := by decide) (hd : (y == ("__debug__" : Str)) = false := by decide) (hcd : (y == ("__classdict__" : Str)) = false := by decide)
    (he : starEach (.Name y pr :: es) X.env = (false, eval (.Name y pr) X.env) :: starEach es X.env := by rfl) (hpl : (backTo pos (starEach es X.env)).any (·.1) = false := by rfl) : DE X (.Call (.Name x p) (.Name y pr :: es) [] pos) Γ ω P := fun B σ G H S Q q => by
  obtain ⟨f, fd, ps, F, hm, hk, hb⟩ := C
  obtain ⟨v, hv', hq⟩ := S.slot i _ hΓ
  have hq' : v = .ref r := hq
  subst hq'
  refine we_of (pe_call F hr hg hm hk hb .nil (pass0 (X := X)) (pa_cons (pe_var hN hv hd hcd) pa_we he) hdb he hpl) ⟨_, hv', h B σ G H S _ fun ds vs G2 H2 ω2 h2 S2 e2 q1 => ?_⟩
  obtain ⟨n, k, Pd, hn, hR, hl, hp⟩ := h2
  obtain ⟨gr, ho⟩ := S2.own r _ hn
  refine ⟨r, vs, n, G2, ds, k, Pd, by simp, S2.sub, gr, ho, q1, hR, hl, fun d v H' hpd keep ho' q' => ?_⟩
  exact q d v _ H' _ (hp d hpd) (S2.draw hn keep ho') (e2.trans (gain_ex S2.sub)) q'
end
def startG (N : List Str) (ds : List Slot) : Gam := ds.map some ++ List.replicate (N.length - ds.length) none
theorem sd_start {G H Hk : Hp} {N : List Str} {vs : List V} {ss : List Slot} {ω : Ow} (hl : vs.length = ss.length) (hs : ∀ (i : Nat) (s : Slot), ss[i]? = some s → ∃ v, vs[i]? = some v ∧ SlotOk G s v) (sub : Ex G H) (hk : ∀ b o, Hk b = some o → H b = some o) (hω : ∀ b c, ω b = some c → Hk b = none ∧ G b = none ∧ OwnOk G H b c) :
    SD ⟨G, Hk⟩ G H (start N vs) (startG N ss) ω where
  ex := Ex.refl _
  vis := fun b o e => .inl e
  kept := hk
  ownk := fun b c e => (hω b c e).1
  sub := sub
  len := by
    unfold L2.start startG
    simp [hl]
  slot := fun i s e => by
    unfold startG at e
    by_cases h : i < ss.length
    · rw [List.getElem?_append_left (by simpa using h), List.getElem?_map] at e
      cases q : ss[i]? with
      | none => rw [q] at e; cases e
      | some t =>
        rw [q] at e
        have e' : t = s := by simpa using e
        subst e'
        obtain ⟨v, hv, hq⟩ := hs i t q
        refine ⟨v, ?_, hq⟩
        unfold L2.start
        rw [List.getElem?_append_left (by simpa [hl] using h), List.getElem?_map, hv]; rfl
    · rw [List.getElem?_append_right (by simpa using h), List.getElem?_replicate] at e
      split at e <;> cases e
  own := fun p c e => (hω p c e).2
section
variable {P : Program} {w : World} {K : PySem.W.Frag} {mg : Str → Option Value} {base : Heap}
theorem fnP {x qual : Str} {st : Stmt} {f : Addr} {fd : FuncData} {N ps : List Str} {k : Nat} {R : List PyData → PyData → Prop} (F : Fun K x qual st f fd) (S : FnScope N ps (defScope st)) (hlen : ∀ ds d, R ds d → ds.length = ps.length)
    (hbody : ∀ (cdv : Value) (A : Around) (outer : List Env) (s : Shared) (H : Hp) (E : XK), Room k (A.deeper (envOfC qual (defScope st) s.heap.objs.size f cdv)) → ∀ ds d, R ds d →
      DSs (cxOf CX0 P w K mg base N qual (defScope st) f cdv A outer s H E).nox (defBody st) { nx := fun _ _ => d = .none, rt := fun d' _ => d' = d } (startG N (ds.map .dat)) ow0) : FnOk P w K mg base CX0 (k + 1) f fd ps (spP R) := by
  refine F.ok S (fun vs H Q E h => ?_) (fun cdv A outer s H vs Q E hr h => ?_)
  · obtain ⟨G, ds, d, _, hd, hR, _⟩ := h
    rw [hd.len]; exact hlen ds d hR
  · obtain ⟨G, ds, d, sub, hd, hR, q⟩ := h
    refine ⟨_, pss_we, ?_⟩
    have S0 : SD ⟨G, H⟩ G H (start N vs) (startG N (ds.map .dat)) ow0 := sd_start (by rw [List.length_map]; exact hd.len) (fun i s e => by
      rw [List.getElem?_map] at e
      cases r : ds[i]? with
      | none => rw [r] at e; cases e
      | some d' =>
        rw [r] at e
        have e' : Slot.dat d' = s := by simpa using e
        subst e'
        obtain ⟨v, hv, hq⟩ := hd.get r
        exact ⟨v, hv, hq⟩) sub (fun _ _ e => e) (fun _ _ e => by cases e)
    have fin : ∀ {G' H' : Hp} {σ' : L2.St} {Γ' : Gam} {ω' : Ow} {v : V} {d' : PyData}, SD ⟨G, H⟩ G' H' σ' Γ' ω' → Dq G' v d' → d' = d → Q v H' := fun {G' H' σ' Γ' ω' v d'} S' q' e => by
      subst e
      refine q v H' (fun b o e => S'.kept b o e) (q'.mono fun b o e => ?_)
      cases hb : H b with
      | none => rw [gain_new hb]; exact S'.sub b o e
      | some u =>
        rw [gain_old hb]
        rcases S'.vis b o e with z | z
        · exact z
        · have z' : H b = none := z
          rw [hb] at z'; cases z'
    refine wss_mono (hbody cdv A outer s H E hr ds d hR ⟨G, H⟩ _ G H S0) (fun σ' H' ⟨G', Γ', ω', S', e⟩ => ?_) (fun v H' ⟨G', σ', Γ', ω', d', S', q', e⟩ => fin S' q' e) (fun _ _ ⟨_, _, _, _, z⟩ => z.elim) (fun _ _ ⟨_, _, _, _, z⟩ => z.elim)
    exact fin S' (v := .non) (d' := .none) .non e.symm
theorem fnR {x qual : Str} {st : Stmt} {f : Addr} {fd : FuncData} {N ps : List Str} {k : Nat} {R : List PyData → Nat → (PyData → Prop) → Prop} (F : Fun K x qual st f fd) (S : FnScope N ps (defScope st)) (hlen : ∀ ds m Pd, R ds m Pd → ds.length + 1 = ps.length)
    (hbody : ∀ (cdv : Value) (A : Around) (outer : List Env) (s : Shared) (H : Hp) (E : XK), Room k (A.deeper (envOfC qual (defScope st) s.heap.objs.size f cdv)) → ∀ ds m Pd r n, R ds m Pd → n + m ≤ LIM →
      DSs (cxOf CX0 P w K mg base N qual (defScope st) f cdv A outer s H E).nox (defBody st) { nx := fun _ _ => False, rt := fun d' ω' => Pd d' ∧ ∃ n', n' ≤ n + m ∧ ω' r = some (.reel n') } (startG N (.own r :: ds.map .dat)) (setO ow0 r (.reel n))) : FnOk P w K mg base CX0 (k + 1) f fd ps (spR R) := by
  refine F.ok S (fun vs H Q E h => ?_) (fun cdv A outer s H vs Q E hr h => ?_)
  · obtain ⟨r, vs', n, G, ds, m, Pd, rfl, _, _, _, hd, hR, _⟩ := h
    rw [List.length_cons, hd.len]; exact hlen ds m Pd hR
  · obtain ⟨r, vs', n, G, ds, m, Pd, rfl, sub, gr, ho, hd, hR, hl, q⟩ := h
    refine ⟨_, pss_we, ?_⟩
    have S0 : SD ⟨G, fun b => if b = r then none else H b⟩ G H (start N (.ref r :: vs')) (startG N (.own r :: ds.map .dat)) (setO ow0 r (.reel n)) := sd_start (by rw [List.length_cons, List.length_cons, List.length_map, hd.len]) (fun i s e => by
      cases i with
      | zero =>
        have e' : Slot.own r = s := by simpa using e
        subst e'
        exact ⟨_, rfl, rfl⟩
      | succ i =>
        rw [List.getElem?_cons_succ, List.getElem?_map] at e
        cases hq : ds[i]? with
        | none => rw [hq] at e; cases e
        | some d' =>
          rw [hq] at e
          have e' : Slot.dat d' = s := by simpa using e
          subst e'
          obtain ⟨v, hv, hq⟩ := hd.get hq
          exact ⟨v, by rw [List.getElem?_cons_succ]; exact hv, hq⟩) sub (fun b o e => by
        have e' : (if b = r then none else H b) = some o := e
        split at e'
        · cases e'
        · exact e') (fun b c e => by
        by_cases hb : b = r
        · subst hb
          rw [setO_same] at e; cases e
          exact ⟨if_pos rfl, gr, ho⟩
        · rw [setO_ne hb] at e; cases e)
    refine wss_mono (hbody cdv A outer s H E hr ds m Pd r n hR hl _ _ G H S0) (fun σ' H' ⟨G', Γ', ω', S', e⟩ => e.elim) (fun v H' ⟨G', σ', Γ', ω', d', S', q', hpd, n', hn', hω'⟩ => ?_) (fun _ _ ⟨_, _, _, _, z⟩ => z.elim) (fun _ _ ⟨_, _, _, _, z⟩ => z.elim)
    obtain ⟨gr', x1, x2, x3, a1, a2, a3, a4, a5⟩ := S'.own r _ hω'
    refine q d' v H' hpd (fun b o e hb => S'.kept b o (by show (if b = r then none else H b) = some o; rw [if_neg hb]; exact e)) ⟨x1, x2, x3, a1, a2, a3, a4, by omega⟩ (q'.mono fun b o e => ?_)
    cases hb : H b with
    | none => rw [gain_new hb]; exact S'.sub b o e
    | some u =>
      rw [gain_old hb]
      rcases S'.vis b o e with z | z
      · exact z
      · have z' : (if b = r then none else H b) = none := z
        by_cases hbr : b = r
        · subst hbr; rw [gr'] at e; cases e
        · rw [if_neg hbr, hb] at z'; cases z'
end
end K20
set_option maxRecDepth 100000
set_option maxHeartbeats 4000000
namespace K20
open PySem PySem.Spec PyProof.Rows L2 Evl
def hideB (B : Bs) (H : Hp) (p : Addr) : Bs := ⟨B.G, fun b => if b = p then H p else B.Hk b⟩
section
variable {B : Bs} {G H : Hp} {σ : L2.St} {Γ : Gam} {ω : Ow} {p : Addr} {c : OC}
theorem SD.hide (S : SD B G H σ Γ (setO ω p c)) (hp : ω p = none) : SD (hideB B H p) G H σ Γ ω where
  ex := S.ex
  vis := fun b o e => by
    have hb : b ≠ p := fun z => by
      subst z
      rw [(S.own b c setO_same).1] at e; cases e
    rcases S.vis b o e with h | h
    · exact .inl h
    · refine .inr ?_
      show (if b = p then H p else B.Hk b) = none
      rw [if_neg hb]; exact h
  kept := fun b o e => by
    have e' : (if b = p then H p else B.Hk b) = some o := e
    by_cases hb : b = p
    · rw [if_pos hb] at e'; rw [hb]; exact e'
    · rw [if_neg hb] at e'; exact S.kept b o e'
  ownk := fun b c' e => by
    have hb : b ≠ p := fun z => by rw [z, hp] at e; cases e
    show (if b = p then H p else B.Hk b) = none
    rw [if_neg hb]
    exact S.ownk b c' (by rw [setO_ne hb]; exact e)
  sub := S.sub
  len := S.len
  slot := S.slot
  own := fun b c' e => by
    have hb : b ≠ p := fun z => by rw [z, hp] at e; cases e
    exact S.own b c' (by rw [setO_ne hb]; exact e)
theorem SD.unhide {G2 H2 : Hp} {σ2 : L2.St} {Γ2 : Gam} {ω2 : Ow} (S : SD B G H σ Γ (setO ω p c)) (hp : ω p = none) (S2 : SD (hideB B H p) G2 H2 σ2 Γ2 ω2) (e : Ex G G2) : ω2 p = none ∧ H2 p = H p ∧ SD B G2 H2 σ2 Γ2 (setO ω2 p c) := by
  obtain ⟨gp, oc⟩ := S.own p c setO_same
  obtain ⟨o, ho⟩ := oc.there
  have hHk : (hideB B H p).Hk p = some o := by
    show (if p = p then H p else B.Hk p) = some o
    rw [if_pos rfl]; exact ho
  have h1 : ω2 p = none := by
    cases q : ω2 p with
    | none => rfl
    | some c' => rw [S2.ownk p c' q] at hHk; cases hHk
  have h2 : H2 p = H p := by rw [ho]; exact S2.kept p o hHk
  have g2 : G2 p = none := by
    cases q : G2 p with
    | none => rfl
    | some u =>
      rcases S2.vis p u q with z | z
      · have : G p = some u := S.ex p u z
        rw [gp] at this; cases this
      · rw [z] at hHk; cases hHk
  have bk : B.Hk p = none := S.ownk p c setO_same
  refine ⟨h1, h2, S2.ex, fun b u q => ?_, fun b u q => ?_, fun b c' q => ?_, S2.sub, S2.len, S2.slot, fun b c' q => ?_⟩
  · have hb : b ≠ p := fun z => by rw [z, g2] at q; cases q
    rcases S2.vis b u q with z | z
    · exact .inl z
    · have z' : (if b = p then H p else B.Hk b) = none := z
      rw [if_neg hb] at z'
      exact .inr z'
  · have hb : b ≠ p := fun z => by rw [z, bk] at q; cases q
    refine S2.kept b u ?_
    show (if b = p then H p else B.Hk b) = some u
    rw [if_neg hb]; exact q
  · by_cases hb : b = p
    · rw [hb]; exact bk
    · rw [setO_ne hb] at q
      have z : (if b = p then H p else B.Hk b) = none := S2.ownk b c' q
      rw [if_neg hb] at z
      exact z
  · by_cases hb : b = p
    · subst hb
      rw [setO_same] at q; cases q
      exact ⟨g2, oc.mono e fun u r => by rw [h2]; exact r⟩
    · rw [setO_ne hb] at q
      exact S2.own b c' q
theorem SD.drop (S : SD B G H σ Γ (setO ω p c)) (hp : ω p = none) : SD B G H σ Γ ω where
  ex := S.ex
  vis := S.vis
  kept := S.kept
  ownk := fun b c' e => by
    have hb : b ≠ p := fun z => by rw [z, hp] at e; cases e
    exact S.ownk b c' (by rw [setO_ne hb]; exact e)
  sub := S.sub
  len := S.len
  slot := S.slot
  own := fun b c' e => by
    have hb : b ≠ p := fun z => by rw [z, hp] at e; cases e
    exact S.own b c' (by rw [setO_ne hb]; exact e)
end
section
variable {X : Cx} {Γ : Gam} {ω : Ow} {P : PyData → Ow → Prop} {a b c e : Expr} {pos : Pos}
theorem de_aside {p : Addr} {oc : OC} (h : DE X e Γ ω P) (hp : ω p = none) (B : Bs) (σ : L2.St) (G H : Hp) (S : SD B G H σ Γ (setO ω p oc)) (Q : VK)
    (q : ∀ d v G2 H2 ω2, P d ω2 → ω2 p = none → H2 p = H p → SD B G2 H2 σ Γ (setO ω2 p oc) → Ex G G2 → Dq G2 v d → Q v H2) : WE X e σ H Q :=
  h (hideB B H p) σ G H (S.hide hp) Q fun d v G2 H2 ω2 h2 S2 e2 q2 => by
    obtain ⟨a1, a2, a3⟩ := S.unhide hp S2 e2
    exact q d v G2 H2 ω2 h2 a1 a2 a3 e2 q2
theorem dt_aside {P : Bool → Ow → Prop} {p : Addr} {oc : OC} (h : DT X e Γ ω P) (hp : ω p = none) (B : Bs) (σ : L2.St) (G H : Hp) (S : SD B G H σ Γ (setO ω p oc)) (Q : Bool → Hp → Prop)
    (q : ∀ k G2 H2 ω2, P k ω2 → ω2 p = none → H2 p = H p → SD B G2 H2 σ Γ (setO ω2 p oc) → Ex G G2 → Q k H2) : WT X e σ H Q :=
  h (hideB B H p) σ G H (S.hide hp) Q fun k G2 H2 ω2 h2 S2 e2 => by
    obtain ⟨a1, a2, a3⟩ := S.unhide hp S2 e2
    exact q k G2 H2 ω2 h2 a1 a2 a3 e2
theorem de_pick3 {k1 k2 k3 : Str} {j1 j2 j3 : Nat} {p1 p2 p3 pd : Pos} (hu : X.A.units + 1 < cLine) (h : DE X a Γ ω fun x1 ω1 => DE X b Γ ω1 fun x2 ω2 => DE X c Γ ω2 fun x3 ω3 => DE X e Γ ω3 fun y ω4 => ∃ s d, y = .str s ∧ (if s = k3 then some x3 else if s = k2 then some x2 else if s = k1 then some x1 else none) = some d ∧ P d ω4)
    (hs : NoSl e := by exact fun _ _ => rfl) : DE X (.Subscript (.Dict [some (.Constant (.str k1) j1 p1), some (.Constant (.str k2) j2 p2), some (.Constant (.str k3) j3 p3)] [a, b, c] pd) e pos) Γ ω P := fun B σ G H S Q q => by
  refine we_of (pe_dget hu (pe_disp (pps_cons pe_str pe_we (pps_cons pe_str pe_we (pps_cons pe_str pe_we pps_nil))) rfl rfl (by simp) (by simp)) pe_we hs) ?_
  intro p hp
  have w0 : ω p = none := (S.free hp).2.1
  have S1 : SD B G (upd H p (.dK [])) σ Γ (setO ω p (.dct (fun _ => none) 0)) := S.newown hp ⟨[], upd_same, Nat.le_refl _, fun k => by rw [valV_nil]; trivial⟩
  refine de_aside h w0 B σ G _ S1 _ fun x1 v1 G2 H2 ω1 h1 w1 e1 S2 ex1 q1 => ?_
  refine de_aside h1 w1 B σ G2 _ S2 _ fun x2 v2 G3 H3 ω2 h2 w2 e2 S3 ex2 q2 => ?_
  refine de_aside h2 w2 B σ G3 _ S3 _ fun x3 v3 G4 H4 ω3 h3 w3 e3 S4 ex3 q3 => ?_
  have hH4 : H4 p = some (.dK []) := by rw [e3, e2, e1]; exact upd_same
  refine ⟨hH4, [(Sum.inr k1, v1), (Sum.inr k2, v2), (Sum.inr k3, v3)], rfl, by simp, ?_⟩
  have S5 : SD B G4 (upd H4 p (.dK (mergeK [] [(Sum.inr k1, v1), (Sum.inr k2, v2), (Sum.inr k3, v3)]))) σ Γ (setO (setO ω3 p (.dct (fun _ => none) 0)) p (.dct (fun _ => none) 3)) := S4.setown setO_same ⟨_, upd_same, length_mergeK _ _, fun k => by
    show OptD G4 (valV (putK (putK (putK [] (Sum.inr k1) v1) (Sum.inr k2) v2) (Sum.inr k3) v3) (Sum.inl k)) none
    rw [valV_put, if_neg (fun z => nomatch z), valV_put, if_neg (fun z => nomatch z), valV_put, if_neg (fun z => nomatch z), valV_nil]
    trivial⟩
  rw [setO_setO] at S5
  refine de_aside h3 w3 B σ G4 _ S5 _ fun y v G5 H5 ω4 h4 w4 e4 S6 ex4 q4 => ?_
  obtain ⟨s, d, rfl, hd, hP⟩ := h4
  cases q4
  have hH5 : H5 p = some (.dK (mergeK [] [(Sum.inr k1, v1), (Sum.inr k2, v2), (Sum.inr k3, v3)])) := by rw [e4]; exact upd_same
  have hv : valV (mergeK [] [((Sum.inr k1 : Key), v1), (Sum.inr k2, v2), (Sum.inr k3, v3)]) (Sum.inr s : Key) = if s = k3 then some v3 else if s = k2 then some v2 else if s = k1 then some v1 else none := by
    show valV (putK (putK (putK [] (Sum.inr k1) v1) (Sum.inr k2) v2) (Sum.inr k3) v3) (Sum.inr s) = _
    rw [valV_put, valV_put, valV_put, valV_nil]
    simp only [Sum.inr.injEq]
  have key : ∃ v, (if s = k3 then some v3 else if s = k2 then some v2 else if s = k1 then some v1 else none) = some v ∧ Dq G5 v d := by
    by_cases h3 : s = k3
    · rw [if_pos h3] at hd ⊢; cases hd; exact ⟨v3, rfl, q3.mono ex4⟩
    · rw [if_neg h3] at hd ⊢
      by_cases h2 : s = k2
      · rw [if_pos h2] at hd ⊢; cases hd; exact ⟨v2, rfl, q2.mono (ex3.trans ex4)⟩
      · rw [if_neg h2] at hd ⊢
        by_cases h1 : s = k1
        · rw [if_pos h1] at hd ⊢; cases hd; exact ⟨v1, rfl, q1.mono (ex2.trans (ex3.trans ex4))⟩
        · rw [if_neg h1] at hd; cases hd
  obtain ⟨v, ev, qv⟩ := key
  exact ⟨p, v, rfl, .inl ⟨_, Sum.inr s, .inl hH5, rfl, by rw [hv, ev]⟩, q d v G5 H5 ω4 hP (S6.drop w4) (ex1.trans (ex2.trans (ex3.trans ex4))) qv⟩
theorem canLay_mem : ∀ {ds : List PyData} {d : PyData}, PyData.canLayAll0 ds = true → d ∈ ds → d.canLay0 = true
  | [], d, _, h => by cases h
  | e :: ds, d, h, hm => by
    have h' : e.canLay0 = true ∧ PyData.canLayAll0 ds = true := by
      rw [PyData.canLayAll0, Bool.and_eq_true] at h; exact h
    rcases List.mem_cons.mp hm with rfl | hm
    · exact h'.1
    · exact canLay_mem h'.2 hm
theorem minD_mem (x : PyData) (xs : List PyData) : PySem.W.minD x xs ∈ x :: xs := by
  unfold PySem.W.minD
  induction xs generalizing x with
  | nil => exact List.mem_cons_self
  | cons y ys ih =>
    rw [List.foldl_cons]
    have := ih (if PySem.W.dataLt y x = true then y else x)
    rcases List.mem_cons.mp this with h | h
    · rw [h]
      split
      · exact List.mem_cons_of_mem _ List.mem_cons_self
      · exact List.mem_cons_self
    · exact List.mem_cons_of_mem _ (List.mem_cons_of_mem _ h)
def rMinD (K : PySem.W.Frag) (A : Around) : List V → Hp → VK → Prop := fun vs H Q => ∃ (a : Addr) (xs : List V) (x : PyData) (ds : List PyData), vs = [.ref a] ∧ SqL K H a xs ∧ DpAll K H xs (x :: ds) ∧ PySem.W.AlikeAll (x :: ds) ∧ PyData.canLayAll0 (x :: ds) = true ∧ A.units + 1 + PyData.depthAll (x :: ds) < cLine ∧
  ∀ (i : Nat) v, xs[i]? = some v → (x :: ds)[i]? = some (PySem.W.minD x ds) → Q v H
theorem cr_minD (hc : X.calm = true) : CallR X (.builtin "min") (rMinD X.K X.A) := by
  intro pins s σ H vs us Q I r h
  obtain ⟨a, xs, x, ds, rfl, hs, hd, hal, hcl, hu, q⟩ := h
  obtain ⟨its, rv, hl, hz⟩ := I.list hs
  rw [Vals.ref1 r]
  obtain ⟨as, hr⟩ := Dp.readsAll I (x :: ds) xs its hd rv
  refine PySem.W.min_list_data (I.ok.hd hc) hl.isList (by simpa using hr) hal hu fun i v h' tk bs hv hrd hk => ?_
  have hv' : its[i]? = some v := by simpa using hv
  have hmap := SeqAt.readsAll_map (x :: ds) its as hcl hr
  have hi : i < its.length := (List.getElem?_eq_some_iff.mp hv').1
  obtain ⟨w', hw', hrw⟩ : ∃ w', xs[i]? = some w' ∧ RelV w' v := by
    have hil : i < xs.length := by rw [rv.length]; exact hi
    obtain ⟨u, hu', ru⟩ := rv.get (List.getElem?_eq_getElem hil)
    rw [hv'] at hu'; cases hu'
    exact ⟨xs[i], List.getElem?_eq_getElem hil, ru⟩
  have hd2 : (x :: ds)[i]? = some (SeqAt.readOf s.heap v) := by rw [← hmap, List.getElem?_map, hv']; rfl
  obtain ⟨as2, hrd2⟩ : ∃ as2, Reads s.heap v (SeqAt.readOf s.heap v) as2 := by
    have hmem : SeqAt.readOf s.heap v ∈ x :: ds := List.mem_of_getElem? hd2
    have all : ∀ (es : List PyData) (us : List V) (ws : List Value), DpAll X.K H us es → Vals us ws → ∀ (j : Nat) (e : PyData) (u : Value), es[j]? = some e → ws[j]? = some u → ∃ bs, Reads s.heap u e bs := by
      intro es
      induction es with
      | nil => intro us ws _ _ j e u h1 _; simp at h1
      | cons e0 es ih =>
        intro us ws h1 h2 j e u h3 h4
        cases h1 with
        | cons a1 a2 =>
          cases h2 with
          | cons b1 b2 =>
            cases j with
            | zero =>
              simp at h3 h4
              subst h3 h4
              exact Dp.reads I e0 _ _ a1 b1
            | succ j => exact ih _ _ a2 b2 j e u (by simpa using h3) (by simpa using h4)
    exact all _ _ _ hd rv i _ v hd2 hv'
  have e1 : SeqAt.readOf h' v = PySem.W.minD x ds := SeqAt.readOf_eq (canLay_mem hcl (minD_mem x ds)) hrd
  have e2 : SeqAt.readOf h' v = SeqAt.readOf s.heap v := SeqAt.readOf_eq (canLay_mem hcl (List.mem_of_getElem? hd2)) (PyProof.Rows.Reads.keeps hk hrd2)
  exact ⟨w', H, I.kept hk, hrw, q i w' hw' (by rw [hd2, ← e2, e1])⟩
theorem de_minD {p : Pos} (hc : X.calm = true) (hg : Gl X "min") (hm : X.mg "min" = none) (h : DE X a Γ ω fun y ω1 => ∃ x ds, y = .list (x :: ds) ∧ PySem.W.AlikeAll (x :: ds) ∧ PyData.canLayAll0 (x :: ds) = true ∧ X.A.units + 1 + PyData.depthAll (x :: ds) < cLine ∧ P (PySem.W.minD x ds) ω1) (s1 : S1 X a [] := by rfl) : DE X (.Call (.Name "min" p) [a] [] pos) Γ ω P := fun B σ G H S Q q =>
  we_of (pe_callB (cr_minD hc) hg hm (by decide +kernel) (pa_cons pe_we pa_nil s1) (he := s1)) (h B σ G H S _ fun d v G2 H2 ω2 h2 S2 e2 q1 => by
    obtain ⟨x, ds, rfl, hal, hcl, hu, hp⟩ := h2
    cases q1 with
    | lst hx hd =>
      refine ⟨_, _, x, ds, rfl, SqL.of (S2.sub _ _ hx), (hd.mono S2.sub).dp, hal, hcl, hu, fun i v hv hd' => ?_⟩
      obtain ⟨v', hv', hq⟩ := hd.get hd'
      rw [hv] at hv'; cases hv'
      exact q _ v G2 H2 ω2 hp S2 e2 hq)
def rSortD (K : PySem.W.Frag) (A : Around) : List V → Hp → VK → Prop := fun vs H Q => ∃ (a : Addr) (xs : List V) (ds : List PyData) (W : V → PyData → Prop), vs = [.ref a] ∧ SqL K H a xs ∧ DpAll K H xs ds ∧ PySem.W.EachIs W xs ds ∧ PySem.W.AllAlike ds ∧ PySem.W.Sortable ds ∧ (∀ d ∈ ds, A.units + 2 + d.depth < cLine) ∧
  ∀ (p : Addr) (ys : List V), H p = none → PySem.W.EachIs W ys (ds.mergeSort (PySem.W.dataLe false id)) → Q (.ref p) (upd H p (.lst ys))
theorem each_back {W : V → PyData → Prop} : ∀ {out : List Value} {ds : List PyData}, PySem.W.EachIs (fun v d => ∃ x, RelV x v ∧ W x d) out ds → ∃ ys, Vals ys out ∧ PySem.W.EachIs W ys ds
  | _, _, .nil => ⟨[], .nil, .nil⟩
  | _, _, .cons h t => by
    obtain ⟨x, r, w⟩ := h
    obtain ⟨ys, a, b⟩ := each_back t
    exact ⟨x :: ys, .cons r a, .cons w b⟩
theorem each_fwd {W : V → PyData → Prop} : ∀ {xs : List V} {us : List Value} {ds : List PyData}, Vals xs us → PySem.W.EachIs W xs ds → PySem.W.EachIs (fun v d => ∃ x, RelV x v ∧ W x d) us ds
  | _, _, _, .nil, .nil => .nil
  | _, _, _, .cons r t, .cons w u => .cons ⟨_, r, w⟩ (each_fwd t u)
theorem each_reads {X : Cx} {pins : List (Addr × Obj)} {σ : L2.St} {H : Hp} {s : Shared} (I : Inv X pins σ H s) : ∀ {ds : List PyData} {xs : List V} {us : List Value}, DpAll X.K H xs ds → Vals xs us → PySem.W.EachIs (fun v b => ∃ as, Reads s.heap v (id b) as) us ds
  | [], _, _, h, r => by
    cases h
    cases r
    exact .nil
  | d :: ds, _, _, h, r => by
    cases h with
    | cons h1 h2 =>
      cases r with
      | cons r1 r2 => exact .cons (Dp.reads I d _ _ h1 r1) (each_reads I h2 r2)
theorem DqAll.each {G : Hp} : ∀ {ds : List PyData} {vs : List V}, DqAll G vs ds → PySem.W.EachIs (Dq G) vs ds
  | [], _, h => by cases h; exact .nil
  | d :: ds, _, h => by
    cases h with
    | cons h1 h2 => exact .cons h1 (DqAll.each h2)
theorem DqAll.of_each {G : Hp} : ∀ {ds : List PyData} {vs : List V}, PySem.W.EachIs (Dq G) vs ds → DqAll G vs ds
  | _, _, .nil => .nil
  | _, _, .cons h t => .cons h (DqAll.of_each t)
theorem cr_sortD : CallR X (.builtin "sorted") (rSortD X.K X.A) := by
  intro pins s σ H vs us Q I r h
  obtain ⟨a, xs, ds, W, rfl, hs, hd, hw, hal, hso, hu, q⟩ := h
  obtain ⟨its, rv, hl, hz⟩ := I.list hs
  rw [Vals.ref1 r]
  refine PySem.W.sorted_data (β := PyData) (enc := id) (R := fun v d => ∃ x, RelV x v ∧ W x d) (bs := ds) hl.isList (each_fwd rv hw) (each_reads I hd rv) (by rw [List.map_id]; exact hal) (by rw [List.map_id]; exact hso) ?_ hu fun out hlen he => ?_
  · have := (each_reads I hd rv).length
    have h2 := rv.length
    omega
  · obtain ⟨ys, h1, h2⟩ := each_back he
    obtain ⟨ep, he'⟩ := PyProof.Rows.sortedAll_at s.heap its out.toArray
    have hlen2 : ys.length ≤ sizeLine := by
      have h3 := h1.length
      have h4 := (each_reads I hd rv).length
      have h5 := rv.length
      omega
    exact ⟨.ref _, upd H (s.heap.objs.size + 1) (.lst ys), I.laid (t' := s.toks) (fun _ _ => PyProof.Rows.sortedAll_old) (Nat.le_succ _) ⟨hlen2, out, ep, h1, he'⟩, rfl, q _ _ (I.hok.fresh (Nat.le_succ _)) h2⟩
theorem nl_sorted {p : Pos} {P : List PyData → Ow → Prop} (hg : Gl X "sorted") (hm : X.mg "sorted" = none) (h : DE X a Γ ω fun y ω1 => ∃ ds, y = .list ds ∧ PySem.W.AllAlike ds ∧ PySem.W.Sortable ds ∧ (∀ d ∈ ds, X.A.units + 2 + d.depth < cLine) ∧ P (ds.mergeSort (PySem.W.dataLe false id)) ω1) (s1 : S1 X a [] := by rfl) : NL X (.Call (.Name "sorted" p) [a] [] pos) Γ ω P := fun B σ G H S Q q =>
  we_of (pe_callB cr_sortD hg hm (by decide +kernel) (pa_cons pe_we pa_nil s1) (he := s1)) (h B σ G H S _ fun d v G2 H2 ω2 h2 S2 e2 q1 => by
    obtain ⟨ds, rfl, hal, hso, hu, hp⟩ := h2
    cases q1 with
    | lst hx hd => exact ⟨_, _, ds, Dq G2, rfl, SqL.of (S2.sub _ _ hx), (hd.mono S2.sub).dp, hd.each, hal, hso, hu, fun p ys hp' he => q _ p ys G2 H2 ω2 hp S2 e2 hp' (DqAll.of_each he)⟩)
end
abbrev AllB (X : Cx) (scope : Scope) (F : Cx → Prop) : Prop := ∀ (s : Shared) (H : Hp) (C : Addr) (cl : List (Str × Addr)) (fp : List Addr), F (X.blk s H scope (compEnvC scope cl C X.env) fp)
def DGw (X : Cx) (tg : Expr) (is : List Nat) (d : PyData) (Γ : Gam) (P : Gam → Prop) : Prop := ∀ (B : Bs) (σ : L2.St) (G H : Hp) (ω : Ow) (v : V), SD B G H σ Γ ω → Dq G v d → ∀ Q : L2.St → Hp → Prop, (∀ σ' Γ', P Γ' → SD B G H σ' Γ' ω → (σ'.length = σ.length ∧ ∀ j, j ∉ is → σ'[j]? = σ[j]?) → Q σ' H) → WG X tg v σ H Q
def DGsw (X : Cx) (ts : List Expr) (is : List Nat) (ds : List PyData) (Γ : Gam) (P : Gam → Prop) : Prop := ∀ (B : Bs) (σ : L2.St) (G H : Hp) (ω : Ow) (vs : List V), SD B G H σ Γ ω → DqAll G vs ds → ∀ Q : L2.St → Hp → Prop, (∀ σ' Γ', P Γ' → SD B G H σ' Γ' ω → (σ'.length = σ.length ∧ ∀ j, j ∉ is → σ'[j]? = σ[j]?) → Q σ' H) → WGs X ts vs σ H Q
section
variable {X : Cx} {Γ : Gam} {ω : Ow} {is : List Nat} {pos : Pos}
theorem dgw_name {i : Nat} {x : Str} {d : PyData} {P : Gam → Prop} (hN : X.N.Nodup) (hi : X.N[i]? = some x) (hx : Loc X.env.scope x) (hl : ∃ o, Γ[i]? = some o) (hm : i ∈ is) (h : P (Γ.set i (some (.dat d))))
    (hf : X.fn x = true ∨ X.env.scope.names.lookup x = some .local := by first | exact .inl rfl | exact .inr rfl | assumption) : DGw X (.Name x pos) is d Γ P := fun B σ G H ω v S q Q k =>
  wg_of (pg_name hN hi hx hf) (k _ _ h (S.set (s := .dat d) q (S.ilt (glt hl))) ⟨List.length_set, fun j hj => List.getElem?_set_ne fun e => hj (by rw [← e]; exact hm)⟩)
theorem dgsw_nil {P : Gam → Prop} (h : P Γ) : DGsw X [] is [] Γ P := fun B σ G H ω vs S q Q k => by
  cases q
  exact wgs_of pgs_nil ⟨rfl, k σ Γ h S ⟨rfl, fun _ _ => rfl⟩⟩
theorem dgsw_cons {t : Expr} {ts : List Expr} {d : PyData} {ds : List PyData} {P : Gam → Prop} (h : DGw X t is d Γ fun Γ' => DGsw X ts is ds Γ' P) (hs : (assignEach (t :: ts) X.env).map (·.2) = assign t X.env :: (assignEach ts X.env).map (·.2) := by rfl) : DGsw X (t :: ts) is (d :: ds) Γ P := fun B σ G H ω vs S q Q k => by
  cases q with
  | cons q1 q2 => exact wgs_of (pgs_cons pg_we pgs_we hs) ⟨_, _, rfl, h B σ G H ω _ S q1 _ fun σ' Γ' h' S' hj => h' B σ' G H ω _ S' q2 Q fun σ2 Γ2 h2 S2 hj2 => k σ2 Γ2 h2 S2 ⟨hj2.1.trans hj.1, fun j hm => (hj2.2 j hm).trans (hj.2 j hm)⟩⟩
theorem dgw_tup {ts : List Expr} {k n : Nat} {ds : List PyData} {P : Gam → Prop} (hc : X.calm = true) (hl : ds.length = n) (h : DGsw X ts is ds Γ P) (hn : (assignEach ts X.env).length = n := by rfl) (hst : (assignEach ts X.env).findIdx? (·.1) = none := by rfl) : DGw X (.Tuple ts k pos) is (.tuple ds) Γ P := fun B σ G H ω v S q Q kk => by
  cases q with
  | tup hx hd => exact wg_of (pg_tup hc pgs_we hn hst) ⟨_, _, rfl, SqT.of (S.sub _ _ hx), by rw [hd.len]; exact hl, h B σ G H ω _ S hd Q kk⟩
end
def wipeG (Γ : Gam) : List Nat → Gam
  | [] => Γ
  | v :: vs => (wipeG Γ vs).set v none
theorem wipe_get {σ : L2.St} {j : Nat} : ∀ {vs : List Nat}, (wipe σ vs)[j]? = if j ∈ vs then (if j < σ.length then some none else none) else σ[j]?
  | [] => by simp [wipe]
  | v :: vs => by
    unfold wipe
    rw [List.getElem?_set, wipe_length]
    by_cases h : v = j
    · subst h
      rw [if_pos rfl, if_pos List.mem_cons_self]
    · rw [if_neg h, wipe_get (vs := vs)]
      have : j ∈ v :: vs ↔ j ∈ vs := by
        rw [List.mem_cons]
        exact ⟨fun z => z.resolve_left fun e => h e.symm, .inr⟩
      simp only [this]
theorem wipe_eq {σ σ' : L2.St} {vs : List Nat} (hl : σ'.length = σ.length) (h : ∀ j, j ∉ vs → σ'[j]? = σ[j]?) : wipe σ' vs = wipe σ vs := by
  refine List.ext_getElem? fun j => ?_
  rw [wipe_get, wipe_get, hl]
  by_cases hj : j ∈ vs
  · rw [if_pos hj, if_pos hj]
  · rw [if_neg hj, if_neg hj, h j hj]
theorem wipeG_get {Γ : Gam} {j : Nat} : ∀ {vs : List Nat}, (wipeG Γ vs)[j]? = if j ∈ vs then (if j < Γ.length then some none else none) else Γ[j]?
  | [] => by simp [wipeG]
  | v :: vs => by
    have hl : ∀ vs : List Nat, (wipeG Γ vs).length = Γ.length := by
      intro vs
      induction vs with
      | nil => rfl
      | cons a vs ih => unfold wipeG; rw [List.length_set, ih]
    unfold wipeG
    rw [List.getElem?_set, hl]
    by_cases h : v = j
    · subst h
      rw [if_pos rfl, if_pos List.mem_cons_self]
    · rw [if_neg h, wipeG_get (vs := vs)]
      have : j ∈ v :: vs ↔ j ∈ vs := by
        rw [List.mem_cons]
        exact ⟨fun z => z.resolve_left fun e => h e.symm, .inr⟩
      simp only [this]
theorem wipeG_length {Γ : Gam} : ∀ vs : List Nat, (wipeG Γ vs).length = Γ.length
  | [] => rfl
  | v :: vs => by unfold wipeG; rw [List.length_set, wipeG_length vs]
theorem SD.wipe {B : Bs} {G H : Hp} {σ : L2.St} {Γ : Gam} {ω : Ow} (S : SD B G H σ Γ ω) (vs : List Nat) : SD B G H (L2.wipe σ vs) (wipeG Γ vs) ω where
  ex := S.ex
  vis := S.vis
  kept := S.kept
  ownk := S.ownk
  sub := S.sub
  len := by rw [wipe_length, wipeG_length]; exact S.len
  slot := fun i s e => by
    rw [wipeG_get] at e
    by_cases h : i ∈ vs
    · rw [if_pos h] at e
      split at e <;> cases e
    · rw [if_neg h] at e
      obtain ⟨v, a, b⟩ := S.slot i s e
      exact ⟨v, by rw [wipe_get, if_neg h]; exact a, b⟩
  own := S.own
theorem SD.back {B B' : Bs} {G H G2 H2 : Hp} {σ σ2 : L2.St} {Γ Γ2 : Gam} {ω ω2 : Ow} (S : SD B G H σ Γ ω) (S2 : SD B' G2 H2 σ2 Γ2 ω2) (e : Ex G G2) : SD B' G2 H2 σ Γ ω2 where
  ex := S2.ex
  vis := S2.vis
  kept := S2.kept
  ownk := S2.ownk
  sub := S2.sub
  len := S.len
  slot := fun i s q => by
    obtain ⟨v, a, b⟩ := S.slot i s q
    exact ⟨v, a, b.mono e⟩
  own := S2.own
def WTs (X : Cx) (ifs : List Expr) : TT := match ifs with
  | [c] => WT X c
  | _ => tYes
section
variable {X : Cx} {Γ : Gam} {ω : Ow} {elt tg iter : Expr} {scope : Scope} {own : List (Str × Nat)} {pos : Pos}
def DTs (X : Cx) (ifs : List Expr) (Γ : Gam) (ω : Ow) (P : Bool → Ow → Prop) : Prop := match ifs with
  | [] => P true ω
  | [c] => DT X c Γ ω P
  | _ => False
def bG (X : Cx) (scope : Scope) (tg : Expr) : TG := fun v σ H Q => AllB X scope fun Y => WG Y tg v σ H Q
def bT (X : Cx) (scope : Scope) (ifs : List Expr) : TT := fun σ H Q => AllB X scope fun Y => WTs Y ifs σ H Q
def bE (X : Cx) (scope : Scope) (elt : Expr) : TE := fun σ H Q => AllB X scope fun Y => WE Y elt σ H Q
def Turn1 (X : Cx) (scope : Scope) (tg : Expr) (ifs : List Expr) (elt : Expr) (vs : List Nat) (Γ : Gam) (d : PyData) (acc : List PyData) (ω : Ow) (R : List PyData → Ow → Prop) : Prop :=
  AllB X scope fun Y => DGw Y tg vs d (wipeG Γ vs) fun Γ2 => AllB X scope fun Y => DTs Y ifs Γ2 ω fun k ω2 => if k = true then AllB X scope fun Y => DE Y elt Γ2 ω2 fun y ω3 => R (acc ++ [y]) ω3 else R acc ω2
theorem turn_run {ifs : List Expr} {vs : List Nat} {d : PyData} {acc : List PyData} {R : List PyData → Ow → Prop} {Dl : Addr} (ht : Turn1 X scope tg ifs elt vs Γ d acc ω R) (h0 : ω Dl = none) (hacc : acc.length < 100000)
    (B : Bs) (σ : L2.St) (G H : Hp) (S : SD B G H σ Γ (setO ω Dl (.lst acc))) (x : V) (hx : Dq G x d) (Nx : Hp → Prop) (hn : ∀ acc' G2 H2 ω2, R acc' ω2 → ω2 Dl = none → acc'.length ≤ acc.length + 1 → SD B G2 H2 σ Γ (setO ω2 Dl (.lst acc')) → Ex G G2 → Nx H2) :
    bG X scope tg x (wipe σ vs) H fun σ2 H2 => wipe σ2 vs = wipe σ vs ∧ bT X scope ifs σ2 H2 fun b H3 => if b = true then bE X scope elt σ2 H3 fun y H4 => ∃ acc, H4 Dl = some (.lst acc) ∧ acc.length < sizeLine ∧ Nx (upd H4 Dl (.lst (acc ++ [y]))) else Nx H3 := by
  intro s0 H0 C0 cl0 fp0
  refine ht s0 H0 C0 cl0 fp0 B _ G H _ x (S.wipe vs) hx _ fun σ2 Γ2 h2 S2 hσ => ⟨?_, ?_⟩
  · have e1 : wipe σ2 vs = wipe (wipe σ vs) vs := wipe_eq hσ.1 hσ.2
    have e2 : wipe (wipe σ vs) vs = wipe σ vs := wipe_eq (wipe_length σ vs) fun j hj => by rw [wipe_get, if_neg hj]
    rw [e1, e2]
  · intro s1 H1 C1 cl1 fp1
    have ht2 := h2 s1 H1 C1 cl1 fp1
    have elem : ∀ (G3 H3 : Hp) (ω3 : Ow), ω3 Dl = none → SD B G3 H3 σ2 Γ2 (setO ω3 Dl (.lst acc)) → Ex G G3 → (AllB X scope fun Y => DE Y elt Γ2 ω3 fun y ω3 => R (acc ++ [y]) ω3) →
        bE X scope elt σ2 H3 fun y H4 => ∃ acc, H4 Dl = some (.lst acc) ∧ acc.length < sizeLine ∧ Nx (upd H4 Dl (.lst (acc ++ [y]))) := by
      intro G3 H3 ω3 w3 S3 e3 h3 s2 H2' C2 cl2 fp2
      refine de_aside (h3 s2 H2' C2 cl2 fp2) w3 B σ2 G3 H3 S3 _ fun y v G4 H4 ω4 h4 w4 eq4 S4 e4 q4 => ?_
      obtain ⟨_, xs, hxs, hdx⟩ := S4.own Dl _ setO_same
      refine ⟨xs, hxs, sz_lt (by rw [hdx.len]; exact hacc), ?_⟩
      have S5 : SD B G4 (upd H4 Dl (.lst (xs ++ [v]))) σ2 Γ2 (setO (setO ω4 Dl (.lst acc)) Dl (.lst (acc ++ [y]))) := S4.setown setO_same ⟨_, upd_same, hdx.append (.cons q4 .nil)⟩
      rw [setO_setO] at S5
      exact hn (acc ++ [y]) G4 _ ω4 h4 w4 (by rw [List.length_append]; exact Nat.le_refl _) (S.back S5 (e3.trans e4)) (e3.trans e4)
    cases ifs with
    | nil =>
      have ht2 : (if true = true then AllB X scope fun Y => DE Y elt Γ2 ω fun y ω3 => R (acc ++ [y]) ω3 else R acc ω) := ht2
      rw [if_pos rfl] at ht2
      exact iteT (B := Nx H) (elem G H ω h0 S2 (Ex.refl G) ht2)
    | cons c r =>
      cases r with
      | cons _ _ => exact ht2.elim
      | nil =>
        refine dt_aside (X := X.blk s1 H1 scope (compEnvC scope cl1 C1 X.env) fp1) (e := c) ht2 h0 B σ2 G H S2 _ fun k G3 H3 ω3 h3 w3 eq3 S3 e3 => ?_
        cases k with
        | true =>
          have h3 : AllB X scope fun Y => DE Y elt Γ2 ω3 fun y ω3 => R (acc ++ [y]) ω3 := h3
          exact iteT (elem G3 H3 ω3 w3 S3 e3 h3)
        | false =>
          have h3 : R acc ω3 := h3
          exact iteF (hn acc G3 H3 ω3 h3 w3 (Nat.le_succ _) (S.back S3 e3) e3)
theorem lc_run {ifs : List Expr} {vs : List Nat} {P : List PyData → Ow → Prop} (h : DE X iter Γ ω fun x ω1 => ∃ ds, x = .list ds ∧ ds.length ≤ 10000 ∧ ∃ Pv : Nat → List PyData → Ow → Prop, Pv 0 [] ω1 ∧
      (∀ i d acc ω', ds[i]? = some d → Pv i acc ω' → Turn1 X scope tg ifs elt vs Γ d acc ω' (Pv (i + 1))) ∧ ∀ acc ω', Pv ds.length acc ω' → P acc ω')
    (B : Bs) (σ : L2.St) (G H : Hp) (S : SD B G H σ Γ ω) (Q : VK) (q : ∀ ds v G2 H2 ω2, P ds ω2 → SD B G2 H2 σ Γ ω2 → Ex G G2 → Dq G2 v (.list ds) → Q v H2) : tLc (iList X.K (WE X iter)) (bG X scope tg) (bT X scope ifs) (bE X scope elt) vs σ H Q := by
  refine h B σ G H S _ fun d v G1 H1 ω1 h1 S1 e1 q1 => ?_
  obtain ⟨ds, rfl, hlen, Pv, h0, hstep, hend⟩ := h1
  cases q1 with
  | @lst a xs _ hx hd =>
    refine ⟨a, rfl, ⟨xs, SqL.of (S1.sub _ _ hx)⟩, fun Dl hDl => ?_⟩
    have S2 : SD B G1 (upd H1 Dl (.lst [])) σ Γ (setO ω1 Dl (.lst [])) := S1.newown hDl ⟨[], upd_same, .nil⟩
    refine lc_list (K := X.K) (a := a) (xs := xs) (fun i H' => ∃ G' ω' acc, ω' Dl = none ∧ acc.length ≤ i ∧ SD B G' H' σ Γ (setO ω' Dl (.lst acc)) ∧ Ex G1 G' ∧ Pv i acc ω') ⟨G1, ω1, [], (S1.free hDl).2.1, Nat.le_refl _, S2, Ex.refl _, h0⟩ (fun i H' _ ⟨G', ω', acc, _, _, S', e', _⟩ => SqL.of (S'.sub _ _ (e' _ _ hx))) ?_ ?_
    · rintro i x H' hi ⟨G', ω', acc, w', hacc, S', e', hPv⟩
      obtain ⟨dd, hdd, hq⟩ := hd.get' hi
      have hil : i < ds.length := (List.getElem?_eq_some_iff.mp hdd).1
      exact turn_run (hstep i dd acc ω' hdd hPv) w' (by omega) B σ G' H' S' x (hq.mono e') _ fun acc' G2 H2 ω2 hR w2 hl S2' e2 => ⟨G2, ω2, acc', w2, by omega, S2', e'.trans e2, hR⟩
    · rintro H' ⟨G', ω', acc, w', hacc, S', e', hPv⟩
      rw [hd.len] at hPv
      obtain ⟨G2, S3, e3, q3⟩ := S'.release setO_same
      have S4 : SD B G2 H' σ Γ ω' := by
        have : delO (setO ω' Dl (.lst acc)) Dl = ω' := by
          funext b
          by_cases hb : b = Dl
          · rw [hb, delO_same, w']
          · rw [delO_ne hb, setO_ne hb]
        rw [this] at S3
        exact S3
      exact q acc (.ref Dl) G2 H' ω' (hend acc ω' hPv) S4 (e1.trans (e'.trans e3)) q3
theorem lc_runT {ifs : List Expr} {vs : List Nat} {P : List PyData → Ow → Prop} (h : DE X iter Γ ω fun x ω1 => ∃ ds, x = .tuple ds ∧ ds.length ≤ 10000 ∧ ∃ Pv : Nat → List PyData → Ow → Prop, Pv 0 [] ω1 ∧
      (∀ i d acc ω', ds[i]? = some d → Pv i acc ω' → Turn1 X scope tg ifs elt vs Γ d acc ω' (Pv (i + 1))) ∧ ∀ acc ω', Pv ds.length acc ω' → P acc ω')
    (B : Bs) (σ : L2.St) (G H : Hp) (S : SD B G H σ Γ ω) (Q : VK) (q : ∀ ds v G2 H2 ω2, P ds ω2 → SD B G2 H2 σ Γ ω2 → Ex G G2 → Dq G2 v (.list ds) → Q v H2) : tLc (iTup X.K (WE X iter)) (bG X scope tg) (bT X scope ifs) (bE X scope elt) vs σ H Q := by
  refine h B σ G H S _ fun d v G1 H1 ω1 h1 S1 e1 q1 => ?_
  obtain ⟨ds, rfl, hlen, Pv, h0, hstep, hend⟩ := h1
  cases q1 with
  | @tup a xs _ hx hd =>
    refine ⟨a, rfl, ⟨xs, SqT.of (S1.sub _ _ hx)⟩, fun Dl hDl => ?_⟩
    have S2 : SD B G1 (upd H1 Dl (.lst [])) σ Γ (setO ω1 Dl (.lst [])) := S1.newown hDl ⟨[], upd_same, .nil⟩
    refine lc_tup (K := X.K) (a := a) (xs := xs) (fun i H' => ∃ G' ω' acc, ω' Dl = none ∧ acc.length ≤ i ∧ SD B G' H' σ Γ (setO ω' Dl (.lst acc)) ∧ Ex G1 G' ∧ Pv i acc ω') ⟨G1, ω1, [], (S1.free hDl).2.1, Nat.le_refl _, S2, Ex.refl _, h0⟩ (fun i H' _ ⟨G', ω', acc, _, _, S', e', _⟩ => SqT.of (S'.sub _ _ (e' _ _ hx))) ?_ ?_
    · rintro i x H' hi ⟨G', ω', acc, w', hacc, S', e', hPv⟩
      obtain ⟨dd, hdd, hq⟩ := hd.get' hi
      have hil : i < ds.length := (List.getElem?_eq_some_iff.mp hdd).1
      exact turn_run (hstep i dd acc ω' hdd hPv) w' (by omega) B σ G' H' S' x (hq.mono e') _ fun acc' G2 H2 ω2 hR w2 hl S2' e2 => ⟨G2, ω2, acc', w2, by omega, S2', e'.trans e2, hR⟩
    · rintro H' ⟨G', ω', acc, w', hacc, S', e', hPv⟩
      rw [hd.len] at hPv
      obtain ⟨G2, S3, e3, q3⟩ := S'.release setO_same
      have S4 : SD B G2 H' σ Γ ω' := by
        have : delO (setO ω' Dl (.lst acc)) Dl = ω' := by
          funext b
          by_cases hb : b = Dl
          · rw [hb, delO_same, w']
          · rw [delO_ne hb, setO_ne hb]
        rw [this] at S3
        exact S3
      exact q acc (.ref Dl) G2 H' ω' (hend acc ω' hPv) S4 (e1.trans (e'.trans e3)) q3
theorem lc_runR {ifs : List Expr} {vs : List Nat} {P : List PyData → Ow → Prop} {n : Expr} (h : DE X n Γ ω fun x ω1 => ∃ j : Int, x = .int j ∧ 0 ≤ j ∧ j ≤ 10000 ∧ ∃ Pv : Nat → List PyData → Ow → Prop, Pv 0 [] ω1 ∧
      (∀ (i : Nat) acc ω', (i : Int) < j → Pv i acc ω' → Turn1 X scope tg ifs elt vs Γ (.int i) acc ω' (Pv (i + 1))) ∧ ∀ acc ω', Pv j.toNat acc ω' → P acc ω')
    (B : Bs) (σ : L2.St) (G H : Hp) (S : SD B G H σ Γ ω) (Q : VK) (q : ∀ ds v G2 H2 ω2, P ds ω2 → SD B G2 H2 σ Γ ω2 → Ex G G2 → Dq G2 v (.list ds) → Q v H2) : tLc (iRng1 (tCons (WE X n) tNil)) (bG X scope tg) (bT X scope ifs) (bE X scope elt) vs σ H Q := by
  refine h B σ G H S _ fun d v G1 H1 ω1 h1 S1 e1 q1 => ?_
  obtain ⟨j, rfl, hj0, hj1, Pv, h0, hstep, hend⟩ := h1
  cases q1
  refine ⟨j, rfl, by omega, by omega, fun Dl hDl => ?_⟩
  have S2 : SD B G1 (upd H1 Dl (.lst [])) σ Γ (setO ω1 Dl (.lst [])) := S1.newown hDl ⟨[], upd_same, .nil⟩
  refine lc_range (lo := 0) (n := j.toNat) (fun i H' => ∃ G' ω' acc, ω' Dl = none ∧ acc.length ≤ i ∧ SD B G' H' σ Γ (setO ω' Dl (.lst acc)) ∧ Ex G1 G' ∧ Pv i acc ω') ⟨G1, ω1, [], (S1.free hDl).2.1, Nat.le_refl _, S2, Ex.refl _, h0⟩ ?_ ?_
  · rintro i H' hi ⟨G', ω', acc, w', hacc, S', e', hPv⟩
    have e0 : (0 : Int) + (i : Int) = (i : Int) := Int.zero_add _
    rw [e0]
    exact turn_run (hstep i acc ω' (by omega) hPv) w' (by omega) B σ G' H' S' _ (.int _) _ fun acc' G2 H2 ω2 hR w2 hl S2' e2 => ⟨G2, ω2, acc', w2, by omega, S2', e'.trans e2, hR⟩
  · rintro H' ⟨G', ω', acc, w', hacc, S', e', hPv⟩
    obtain ⟨G2, S3, e3, q3⟩ := S'.release setO_same
    have S4 : SD B G2 H' σ Γ ω' := by
      have : delO (setO ω' Dl (.lst acc)) Dl = ω' := by
        funext b
        by_cases hb : b = Dl
        · rw [hb, delO_same, w']
        · rw [delO_ne hb, setO_ne hb]
      rw [this] at S3
      exact S3
    exact q acc (.ref Dl) G2 H' ω' (hend acc ω' hPv) S4 (e1.trans (e'.trans e3)) q3
theorem pts_we {ifs : List Expr} (hl : ifs.length ≤ 1) : PTs X ifs (WTs X ifs) := by
  cases ifs with
  | nil => exact pts_nil
  | cons c r =>
    cases r with
    | nil => exact pts_one pt_we
    | cons _ _ => simp at hl
theorem b_g : ∀ (s : Shared) (H : Hp) (C : Addr) (cl : List (Str × Addr)) (fp : List Addr), PG (X.blk s H scope (compEnvC scope cl C X.env) fp) tg (bG X scope tg) := fun s H C cl fp => ⟨fun pins s' σ H' v u Q I r h => h s H C cl fp pins s' u I r⟩
theorem b_e : ∀ (s : Shared) (H : Hp) (C : Addr) (cl : List (Str × Addr)) (fp : List Addr), PE (X.blk s H scope (compEnvC scope cl C X.env) fp) elt (bE X scope elt) := fun s H C cl fp => ⟨fun pins s' σ H' Q I h => h s H C cl fp pins s' I⟩
theorem b_t {ifs : List Expr} (hl : ifs.length ≤ 1) : ∀ (s : Shared) (H : Hp) (C : Addr) (cl : List (Str × Addr)) (fp : List Addr), PTs (X.blk s H scope (compEnvC scope cl C X.env) fp) ifs (bT X scope ifs) := fun s H C cl fp =>
  ⟨fun pins s' σ H' Q I h => (pts_we hl).run pins s' σ H' Q I (h s H C cl fp)⟩
theorem de_lcL {ifs : List Expr} {P : PyData → Ow → Prop} (hc : X.calm = true) (hN : X.N.Nodup) (ok : BlkOk X.N X.env.scope scope own) (hl : ifs.length ≤ 1) (h : DE X iter Γ ω fun x ω1 => ∃ ds, x = .list ds ∧ ds.length ≤ 10000 ∧ ∃ Pv : Nat → List PyData → Ow → Prop, Pv 0 [] ω1 ∧
      (∀ i d acc ω', ds[i]? = some d → Pv i acc ω' → Turn1 X scope tg ifs elt (own.map (·.2)) Γ d acc ω' (Pv (i + 1))) ∧ ∀ acc ω', Pv ds.length acc ω' → P (.list acc) ω')
    (hs : ∀ x, foldedSetIterable iter X.env x = pure x := by intro _; rfl) : DE X (.ListComp elt [⟨tg, iter, ifs, 0⟩] scope pos) Γ ω P := fun B σ G H S Q q =>
  we_of (pe_lc hc hN (pi_list pe_we) ok b_g (b_t hl) b_e hs) (lc_run (P := fun acc ω' => P (.list acc) ω') h B σ G H S Q fun ds v G2 H2 ω2 h2 S2 e2 q2 => q _ v G2 H2 ω2 h2 S2 e2 q2)
theorem de_lcR {ifs : List Expr} {P : PyData → Ow → Prop} {n : Expr} {p pos2 : Pos} (hc : X.calm = true) (hN : X.N.Nodup) (ok : BlkOk X.N X.env.scope scope own) (hl : ifs.length ≤ 1) (hg : Gl X "range") (hm : X.mg "range" = none) (h : DE X n Γ ω fun x ω1 => ∃ j : Int, x = .int j ∧ 0 ≤ j ∧ j ≤ 10000 ∧ ∃ Pv : Nat → List PyData → Ow → Prop, Pv 0 [] ω1 ∧
      (∀ (i : Nat) acc ω', (i : Int) < j → Pv i acc ω' → Turn1 X scope tg ifs elt (own.map (·.2)) Γ (.int i) acc ω' (Pv (i + 1))) ∧ ∀ acc ω', Pv j.toNat acc ω' → P (.list acc) ω')
    (s1 : S1 X n [] := by rfl) (s2 : starEach [n] X.env = [(false, eval n X.env)] := by rfl) (hs : ∀ x, foldedSetIterable (.Call (.Name "range" p) [n] [] pos2) X.env x = pure x := by intro _; rfl) : DE X (.ListComp elt [⟨tg, .Call (.Name "range" p) [n] [] pos2, ifs, 0⟩] scope pos) Γ ω P := fun B σ G H S Q q =>
  we_of (pe_lc hc hN (pi_range1 hg hm (pa_cons pe_we pa_nil s1) s2) ok b_g (b_t hl) b_e hs) (lc_runR (P := fun acc ω' => P (.list acc) ω') h B σ G H S Q fun ds v G2 H2 ω2 h2 S2 e2 q2 => q _ v G2 H2 ω2 h2 S2 e2 q2)
theorem ds_setLcL {ifs : List Expr} {D : DN} {i : Nat} {y : Str} {py spos : Pos} (hc : X.calm = true) (hN : X.N.Nodup) (hy : X.N[i]? = some y) (hyl : X.env.scope.names.lookup y = some .local) (hli : ∃ o, Γ[i]? = some o) (ok : BlkOk X.N X.env.scope scope own) (hl : ifs.length ≤ 1)
    (hsw : swapsWith (.ListComp elt [⟨tg, iter, ifs, 0⟩] scope pos) (some (.Name y py)) spos.line X.env = pure true) (h : DE X iter Γ ω fun x ω1 => ∃ ds, x = .list ds ∧ ds.length ≤ 10000 ∧ ∃ Pv : Nat → List PyData → Ow → Prop, Pv 0 [] ω1 ∧
      (∀ i d acc ω', ds[i]? = some d → Pv i acc ω' → Turn1 X scope tg ifs elt (own.map (·.2)) Γ d acc ω' (Pv (i + 1))) ∧ ∀ acc ω', Pv ds.length acc ω' → D.nx (Γ.set i (some (.dat (.list acc)))) ω')
    (hs : ∀ x, foldedSetIterable iter X.env x = pure x := by intro _; rfl) : DS X (.Assign [.Name y py] (.ListComp elt [⟨tg, iter, ifs, 0⟩] scope pos) spos) D Γ ω := fun B σ G H S =>
  ws_of (ps_setLc hc hN hy hyl hsw (pi_list pe_we) ok b_g (b_t hl) b_e hs) (lc_run (P := fun acc ω' => D.nx (Γ.set i (some (.dat (.list acc)))) ω') h B σ G H S _ fun ds v G2 H2 ω2 h2 S2 e2 q2 => ⟨G2, _, ω2, S2.set (s := .dat (.list ds)) q2 (S2.ilt (glt hli)), h2⟩)
theorem ds_setLcT {ifs : List Expr} {D : DN} {i : Nat} {y : Str} {py spos : Pos} (hc : X.calm = true) (hN : X.N.Nodup) (hy : X.N[i]? = some y) (hyl : X.env.scope.names.lookup y = some .local) (hli : ∃ o, Γ[i]? = some o) (ok : BlkOk X.N X.env.scope scope own) (hl : ifs.length ≤ 1)
    (hsw : swapsWith (.ListComp elt [⟨tg, iter, ifs, 0⟩] scope pos) (some (.Name y py)) spos.line X.env = pure true) (h : DE X iter Γ ω fun x ω1 => ∃ ds, x = .tuple ds ∧ ds.length ≤ 10000 ∧ ∃ Pv : Nat → List PyData → Ow → Prop, Pv 0 [] ω1 ∧
      (∀ i d acc ω', ds[i]? = some d → Pv i acc ω' → Turn1 X scope tg ifs elt (own.map (·.2)) Γ d acc ω' (Pv (i + 1))) ∧ ∀ acc ω', Pv ds.length acc ω' → D.nx (Γ.set i (some (.dat (.list acc)))) ω')
    (hs : ∀ x, foldedSetIterable iter X.env x = pure x := by intro _; rfl) : DS X (.Assign [.Name y py] (.ListComp elt [⟨tg, iter, ifs, 0⟩] scope pos) spos) D Γ ω := fun B σ G H S =>
  ws_of (ps_setLc hc hN hy hyl hsw (pi_tup pe_we) ok b_g (b_t hl) b_e hs) (lc_runT (P := fun acc ω' => D.nx (Γ.set i (some (.dat (.list acc)))) ω') h B σ G H S _ fun ds v G2 H2 ω2 h2 S2 e2 q2 => ⟨G2, _, ω2, S2.set (s := .dat (.list ds)) q2 (S2.ilt (glt hli)), h2⟩)
theorem ds_setLcR {ifs : List Expr} {D : DN} {i : Nat} {y : Str} {py spos : Pos} {n : Expr} {p pos2 : Pos} (hc : X.calm = true) (hN : X.N.Nodup) (hy : X.N[i]? = some y) (hyl : X.env.scope.names.lookup y = some .local) (hli : ∃ o, Γ[i]? = some o) (ok : BlkOk X.N X.env.scope scope own) (hl : ifs.length ≤ 1)
    (hg : Gl X "range") (hm : X.mg "range" = none) (hsw : swapsWith (.ListComp elt [⟨tg, .Call (.Name "range" p) [n] [] pos2, ifs, 0⟩] scope pos) (some (.Name y py)) spos.line X.env = pure true) (h : DE X n Γ ω fun x ω1 => ∃ j : Int, x = .int j ∧ 0 ≤ j ∧ j ≤ 10000 ∧ ∃ Pv : Nat → List PyData → Ow → Prop, Pv 0 [] ω1 ∧
      (∀ (i : Nat) acc ω', (i : Int) < j → Pv i acc ω' → Turn1 X scope tg ifs elt (own.map (·.2)) Γ (.int i) acc ω' (Pv (i + 1))) ∧ ∀ acc ω', Pv j.toNat acc ω' → D.nx (Γ.set i (some (.dat (.list acc)))) ω')
    (s1 : S1 X n [] := by rfl) (s2 : starEach [n] X.env = [(false, eval n X.env)] := by rfl) (hs : ∀ x, foldedSetIterable (.Call (.Name "range" p) [n] [] pos2) X.env x = pure x := by intro _; rfl) : DS X (.Assign [.Name y py] (.ListComp elt [⟨tg, .Call (.Name "range" p) [n] [] pos2, ifs, 0⟩] scope pos) spos) D Γ ω := fun B σ G H S =>
  ws_of (ps_setLc hc hN hy hyl hsw (pi_range1 hg hm (pa_cons pe_we pa_nil s1) s2) ok b_g (b_t hl) b_e hs) (lc_runR (P := fun acc ω' => D.nx (Γ.set i (some (.dat (.list acc)))) ω') h B σ G H S _ fun ds v G2 H2 ω2 h2 S2 e2 q2 => ⟨G2, _, ω2, S2.set (s := .dat (.list ds)) q2 (S2.ilt (glt hli)), h2⟩)
theorem t1_name {i : Nat} {x : Str} {px : Pos} {vs : List Nat} {d : PyData} {acc : List PyData} {R : List PyData → Ow → Prop} (hN : X.N.Nodup) (hi : X.N[i]? = some x) (hx : scope.names.lookup x = some .local) (hl : ∃ o, (wipeG Γ vs)[i]? = some o) (hm : i ∈ vs)
    (h : AllB X scope fun Y => DE Y elt ((wipeG Γ vs).set i (some (.dat d))) ω fun y ω3 => R (acc ++ [y]) ω3) : Turn1 X scope (.Name x px) [] elt vs Γ d acc ω R := fun s0 H0 C0 cl0 fp0 =>
  dgw_name (X := X.blk s0 H0 scope (compEnvC scope cl0 C0 X.env) fp0) hN hi (.inl (lookup_relabel_local hx)) hl hm (fun s1 H1 C1 cl1 fp1 => iteT (B := R acc ω) h) (hf := .inr (lookup_relabel_local hx))
theorem t1_nameT {i : Nat} {x : Str} {px : Pos} {c : Expr} {vs : List Nat} {d : PyData} {acc : List PyData} {R : List PyData → Ow → Prop} (hN : X.N.Nodup) (hi : X.N[i]? = some x) (hx : scope.names.lookup x = some .local) (hl : ∃ o, (wipeG Γ vs)[i]? = some o) (hm : i ∈ vs)
    (h : AllB X scope fun Y => DT Y c ((wipeG Γ vs).set i (some (.dat d))) ω fun k ω2 => if k = true then AllB X scope fun Y => DE Y elt ((wipeG Γ vs).set i (some (.dat d))) ω2 fun y ω3 => R (acc ++ [y]) ω3 else R acc ω2) : Turn1 X scope (.Name x px) [c] elt vs Γ d acc ω R := fun s0 H0 C0 cl0 fp0 =>
  dgw_name (X := X.blk s0 H0 scope (compEnvC scope cl0 C0 X.env) fp0) hN hi (.inl (lookup_relabel_local hx)) hl hm (fun s1 H1 C1 cl1 fp1 => h s1 H1 C1 cl1 fp1) (hf := .inr (lookup_relabel_local hx))
end
end K20
namespace TC
inductive Way where | down | move | up
  deriving DecidableEq
structure Ev where
  t : Int
  f : Int
  w : Way
  x : Int
  y : Int
  deriving DecidableEq
abbrev Row := Int × Ev
abbrev Mom := Int × Int
abbrev Pl := Int × Int
def Ev.p (e : Ev) : Pl := (e.x, e.y)
def mom (r : Row) : Mom := (r.2.t, r.1)
def mlt (a b : Mom) : Bool := decide (a.1 < b.1) || (decide (a.1 = b.1) && decide (a.2 < b.2))
theorem mlt_iff {a b : Mom} : mlt a b = true ↔ (a.1 < b.1 ∨ (a.1 = b.1 ∧ a.2 < b.2)) := by
  simp [mlt]
theorem mlt_niff {a b : Mom} : mlt a b = false ↔ ¬ (a.1 < b.1 ∨ (a.1 = b.1 ∧ a.2 < b.2)) := by
  rw [← mlt_iff]; simp
theorem mlt_irrefl (a : Mom) : mlt a a = false := by rw [mlt_niff]; omega
theorem mlt_trans {a b c : Mom} (h : mlt a b = true) (k : mlt b c = true) : mlt a c = true := by
  rw [mlt_iff] at *; omega
theorem mlt_asymm {a b : Mom} (h : mlt a b = true) : mlt b a = false := by
  rw [mlt_niff]; rw [mlt_iff] at h; omega
theorem mlt_of_nl {a b c : Mom} (h : mlt b a = false) (k : mlt b c = true) : mlt a c = true := by
  rw [mlt_niff] at h; rw [mlt_iff] at *; omega
theorem mlt_of_ln {a b c : Mom} (h : mlt a b = true) (k : mlt c b = false) : mlt a c = true := by
  rw [mlt_niff] at k; rw [mlt_iff] at *; omega
theorem mlt_tri {a b : Mom} (h : mlt a b = false) (k : mlt b a = false) : a = b := by
  rw [mlt_niff] at h k
  obtain ⟨a1, a2⟩ := a
  obtain ⟨b1, b2⟩ := b
  simp only at h k
  have h1 : a1 = b1 := by omega
  have h2 : a2 = b2 := by omega
  rw [h1, h2]
def iabs (i : Int) : Int := if i < 0 then -i else i
def imax (i j : Int) : Int := if j > i then j else i
def imin (i j : Int) : Int := if j < i then j else i
def dist (p q : Pl) : Int := imax (iabs (p.1 - q.1)) (iabs (p.2 - q.2))
def diff (p q : Pl) : Pl := (p.1 - q.1, p.2 - q.2)
inductive Axis where | x | y | any
  deriving DecidableEq
def far (a : Axis) (p q : Pl) : Int := match a with
  | .x => iabs (p.1 - q.1)
  | .y => iabs (p.2 - q.2)
  | .any => dist p q
def isDown (r : Row) : Bool := decide (r.2.w = .down)
def pressOf (f : Int) : List Row → List Row
  | [] => []
  | r :: rs => if r.2.f = f then (if r.2.w = .up then [r] else r :: pressOf f rs) else pressOf f rs
def nxt : List Row → List Row
  | [] => []
  | r :: rs => if r.2.w = .down then r :: rs else nxt rs
def upMom (press : List Row) : Option Mom := match press.getLast? with
  | some r => if r.2.w = .up then some (mom r) else none
  | none => none
def beyond (a : Axis) (slop : Int) (press : List Row) : List Mom := match press with
  | [] => []
  | d :: _ => (press.filter fun r => decide (r.2.w = .move) && decide (far a r.2.p d.2.p > slop)).map mom
def minM : List Mom → Mom
  | [] => (0, 0)
  | a :: l => l.foldl (fun m x => if mlt x m = true then x else m) a
def heads (s : List Row) : List Mom := match s with
  | [] => []
  | q :: _ => [mom q]
def held (s : List Row) (time slop : Int) : Mom × Bool := match s with
  | [] => ((0, 0), false)
  | d :: r =>
    let press := pressOf d.2.f (d :: r)
    let first := minM (beyond .any slop press ++ [(d.2.t + time, -1)] ++ heads (nxt r))
    match upMom press with
    | some u => if mlt u first = true then (u, true) else (first, false)
    | none => (first, false)
abbrev Verd := Option (Bool × Mom)
def tapV (s : List Row) (time slop : Int) : Verd := some ((held s time slop).2, (held s time slop).1)
def tapsV (time gap slop : Int) : Nat → List Row → Verd
  | 0, _ => none
  | k + 1, s =>
    let m := (held s time slop).1
    if (held s time slop).2 = true then
      if k = 0 then some (true, m) else
      match s, nxt s.tail with
      | d :: _, q :: qs => if mlt (m.1 + gap, -1) (mom q) = true then some (false, (m.1 + gap, -1)) else if dist q.2.p d.2.p > slop then some (false, mom q) else tapsV time gap slop k (q :: qs)
      | _, _ => some (false, (m.1 + gap, -1))
    else some (false, m)
def clockOf (s : List Row) (time : Int) : Mom := match s with
  | [] => (0, 0)
  | d :: _ => (d.2.t + time, -1)
def longV (s : List Row) (time slop : Int) : Verd := some (decide ((held s time slop).1 = clockOf s time), (held s time slop).1)
def firstWord (claims : List Mom) (up : Option Mom) : Verd := match claims.head?, up with
  | none, none => none
  | some c, none => some (true, c)
  | none, some u => some (false, u)
  | some c, some u => if mlt u c = true then some (false, u) else some (true, c)
def dragV (s : List Row) (a : Axis) (slop : Int) : Verd := match s with
  | [] => none
  | d :: r => firstWord (beyond a slop (pressOf d.2.f (d :: r))) (upMom (pressOf d.2.f (d :: r)))
def sortR (l : List Row) : List Row := l.mergeSort fun a b => decide (a.1 ≤ b.1)
def pinchLoop (first : List Row) (slop : Int) (begin : Mom) (base : Pl) : Pl → Pl → List Row → List Mom
  | _, _, [] => []
  | here, there, r :: rs =>
    if r.2.w = .move ∧ mlt begin (mom r) = true then
      if r ∈ first then
        (if dist (diff there r.2.p) base > slop then [mom r] else []) ++ pinchLoop first slop begin base r.2.p there rs
      else (if dist (diff r.2.p here) base > slop then [mom r] else []) ++ pinchLoop first slop begin base here r.2.p rs
    else pinchLoop first slop begin base here there rs
def ult (u : Option Mom) (m : Mom) : Bool := match u with
  | some u => mlt u m
  | none => false
def upOf (up more : Option Mom) : Option Mom := match more with
  | none => up
  | some m => match up with
    | none => some m
    | some u => if mlt m u = true then some m else some u
def hereOf (first : List Row) (begin : Mom) : Pl := ((first.filter fun r => mlt (mom r) begin).map (·.2.p)).getLastD (0, 0)
def pinchV (s : List Row) (slop : Int) : Verd := match s with
  | [] => none
  | d :: r =>
    let first := pressOf d.2.f (d :: r)
    let up := upMom first
    match nxt r with
    | [] => firstWord [] up
    | q :: qs =>
      if ult up (mom q) = true then firstWord [] up else
        let second := pressOf q.2.f (q :: qs)
        let here := hereOf first (mom q)
        firstWord (pinchLoop first slop (mom q) (diff q.2.p here) here q.2.p (sortR (first ++ second))) (upOf up (upMom second))
inductive Kind where
  | touch | tap (time slop : Int) | taps (count time gap slop : Int) | long (time slop : Int) | drag (axis : Axis) (slop : Int) | pinch (slop : Int)
def touchV (s : List Row) : Verd := match s with
  | [] => none
  | d :: _ => some (true, mom d)
def wordMom (k : Kind) (s : List Row) : Verd := match k with
  | .touch => touchV s
  | .tap time slop => tapV s time slop
  | .taps count time gap slop => tapsV time gap slop count.toNat s
  | .long time slop => longV s time slop
  | .drag a slop => dragV s a slop
  | .pinch slop => pinchV s slop
def enumR : Int → List Ev → List Row
  | _, [] => []
  | k, e :: es => (k, e) :: enumR (k + 1) es
def finish : Verd → Option (Bool × Int × Option Int) := Option.map fun v => (v.1, v.2.1, if v.2.2 = -1 then none else some v.2.2)
def verdict (k : Kind) (rec : List Ev) : Option (Bool × Int × Option Int) := finish (wordMom k (enumR 0 rec))
theorem foldl_min_spec : ∀ (l : List Mom) (a : Mom), (l.foldl (fun m x => if mlt x m = true then x else m) a = a ∨ l.foldl (fun m x => if mlt x m = true then x else m) a ∈ l) ∧
    mlt a (l.foldl (fun m x => if mlt x m = true then x else m) a) = false ∧ ∀ x ∈ l, mlt x (l.foldl (fun m x => if mlt x m = true then x else m) a) = false
  | [], a => ⟨.inl rfl, mlt_irrefl a, fun _ h => nomatch h⟩
  | b :: l, a => by
    rw [List.foldl_cons]
    by_cases h : mlt b a = true
    · rw [if_pos h]
      obtain ⟨h1, h2, h3⟩ := foldl_min_spec l b
      refine ⟨.inr ?_, ?_, ?_⟩
      · rcases h1 with h1 | h1
        · rw [h1]; exact List.mem_cons_self
        · exact List.mem_cons_of_mem _ h1
      · cases e : mlt a (l.foldl (fun m x => if mlt x m = true then x else m) b) with
        | false => rfl
        | true => rw [mlt_trans h e] at h2; cases h2
      · intro x hx
        rcases List.mem_cons.mp hx with rfl | hx
        · exact h2
        · exact h3 x hx
    · rw [if_neg h]
      obtain ⟨h1, h2, h3⟩ := foldl_min_spec l a
      refine ⟨?_, h2, ?_⟩
      · rcases h1 with h1 | h1
        · exact .inl h1
        · exact .inr (List.mem_cons_of_mem _ h1)
      · intro x hx
        rcases List.mem_cons.mp hx with rfl | hx
        · have h' : mlt x a = false := by simpa using h
          rw [mlt_niff] at *
          omega
        · exact h3 x hx
theorem minM_mem {l : List Mom} (h : l ≠ []) : minM l ∈ l := by
  cases l with
  | nil => exact absurd rfl h
  | cons a l =>
    obtain ⟨h1, _, _⟩ := foldl_min_spec l a
    show l.foldl _ a ∈ a :: l
    rcases h1 with h1 | h1
    · rw [h1]; exact List.mem_cons_self
    · exact List.mem_cons_of_mem _ h1
theorem minM_le {l : List Mom} {x : Mom} (h : x ∈ l) : mlt x (minM l) = false := by
  cases l with
  | nil => exact nomatch h
  | cons a l =>
    obtain ⟨_, h2, h3⟩ := foldl_min_spec l a
    rcases List.mem_cons.mp h with rfl | h
    · exact h2
    · exact h3 x h
theorem minM_eq {l : List Mom} {m : Mom} (h : m ∈ l) (k : ∀ x ∈ l, mlt x m = false) : minM l = m :=
  mlt_tri (k _ (minM_mem (fun e => by rw [e] at h; cases h))) (minM_le h)
end TC
namespace TC
theorem pressOf_mem {f : Int} : ∀ {l : List Row} {r : Row}, r ∈ pressOf f l → r ∈ l ∧ r.2.f = f
  | [], r, h => by cases h
  | a :: l, r, h => by
    unfold pressOf at h
    split at h
    · rename_i hf
      split at h
      · rw [List.mem_singleton] at h
        subst h
        exact ⟨List.mem_cons_self, hf⟩
      · rcases List.mem_cons.mp h with rfl | h
        · exact ⟨List.mem_cons_self, hf⟩
        · exact ⟨List.mem_cons_of_mem _ (pressOf_mem h).1, (pressOf_mem h).2⟩
    · exact ⟨List.mem_cons_of_mem _ (pressOf_mem h).1, (pressOf_mem h).2⟩
theorem pressOf_sub {f : Int} : ∀ {l : List Row}, (pressOf f l).Sublist l
  | [] => List.Sublist.slnil
  | a :: l => by
    unfold pressOf
    split
    · split
      · exact List.Sublist.cons_cons a (List.nil_sublist l)
      · exact List.Sublist.cons_cons a pressOf_sub
    · exact List.Sublist.cons a pressOf_sub
theorem pressOf_head {d : Row} {l : List Row} : ∃ l', pressOf d.2.f (d :: l) = d :: l' := by
  unfold pressOf
  rw [if_pos rfl]
  split
  · exact ⟨[], rfl⟩
  · exact ⟨_, rfl⟩
theorem upMom_nil : upMom [] = none := rfl
theorem upMom_cons {r : Row} {l : List Row} (h : r.2.w ≠ .up ∨ l ≠ []) : upMom (r :: l) = upMom l := by
  unfold upMom
  cases l with
  | nil =>
    rcases h with h | h
    · show (if r.2.w = .up then some (mom r) else none) = none
      rw [if_neg h]
    · exact absurd rfl h
  | cons a l => rw [List.getLast?_cons_cons]
theorem upMom_app {P S : List Row} (h : S ≠ []) : upMom (P ++ S) = upMom S := by
  induction P with
  | nil => rfl
  | cons a P ih => rw [List.cons_append, upMom_cons (.inr (by simp [h])), ih]
theorem upMom_some {P : List Row} {u : Mom} (h : upMom P = some u) : ∃ r ∈ P, mom r = u ∧ r.2.w = .up := by
  unfold upMom at h
  split at h
  · rename_i r hr
    split at h
    · rename_i hw
      exact ⟨r, List.mem_of_getLast? hr, Option.some.inj h, hw⟩
    · cases h
  · cases h
theorem pressOf_app (f : Int) : ∀ A Z : List Row, (∃ u, upMom (pressOf f A) = some u ∧ pressOf f (A ++ Z) = pressOf f A) ∨ (upMom (pressOf f A) = none ∧ pressOf f (A ++ Z) = pressOf f A ++ pressOf f Z)
  | [], Z => .inr ⟨rfl, rfl⟩
  | r :: A, Z => by
    have p1 : ∀ l, pressOf f (r :: l) = if r.2.f = f then (if r.2.w = .up then [r] else r :: pressOf f l) else pressOf f l := fun _ => rfl
    rw [List.cons_append, p1, p1]
    by_cases hf : r.2.f = f
    · rw [if_pos hf, if_pos hf]
      by_cases hw : r.2.w = .up
      · rw [if_pos hw, if_pos hw]
        exact .inl ⟨mom r, by show (if r.2.w = .up then some (mom r) else none) = _; rw [if_pos hw], rfl⟩
      · rw [if_neg hw, if_neg hw]
        rcases pressOf_app f A Z with ⟨u, h1, h2⟩ | ⟨h1, h2⟩
        · exact .inl ⟨u, by rw [upMom_cons (.inl hw), h1], by rw [h2]⟩
        · exact .inr ⟨by rw [upMom_cons (.inl hw), h1], by rw [h2, List.cons_append]⟩
    · rw [if_neg hf, if_neg hf]
      exact pressOf_app f A Z
theorem nxt_app : ∀ A Z : List Row, nxt (A ++ Z) = if nxt A = [] then nxt Z else nxt A ++ Z
  | [], Z => by simp [nxt]
  | r :: A, Z => by
    have p1 : ∀ l, nxt (r :: l) = if r.2.w = .down then r :: l else nxt l := fun _ => rfl
    rw [List.cons_append, p1, p1]
    by_cases h : r.2.w = .down
    · rw [if_pos h, if_pos h, if_neg (by simp), List.cons_append]
    · rw [if_neg h, if_neg h]
      exact nxt_app A Z
theorem nxt_suffix : ∀ l : List Row, ∃ pre, l = pre ++ nxt l
  | [] => ⟨[], rfl⟩
  | r :: l => by
    unfold nxt
    split
    · exact ⟨[], rfl⟩
    · obtain ⟨p, e⟩ := nxt_suffix l
      exact ⟨r :: p, by rw [List.cons_append, ← e]⟩
theorem nxt_down {l q qs} (h : nxt l = q :: qs) : q.2.w = .down := by
  induction l with
  | nil => cases h
  | cons r l ih =>
    unfold nxt at h
    split at h
    · rename_i hw
      injection h with h1 h2
      rw [← h1]; exact hw
    · exact ih h
abbrev Asc (l : List Row) : Prop := l.Pairwise fun a b => mlt (mom a) (mom b) = true
abbrev Bel (B : Mom) (l : List Row) : Prop := ∀ r ∈ l, mlt (mom r) B = true
abbrev Abv (B : Mom) (l : List Row) : Prop := ∀ r ∈ l, mlt (mom r) B = false
theorem beyond_app {a : Axis} {slop : Int} {P S : List Row} (h : P ≠ []) : ∃ X, beyond a slop (P ++ S) = beyond a slop P ++ X ∧ ∀ x ∈ X, ∃ r ∈ S, mom r = x := by
  cases P with
  | nil => exact absurd rfl h
  | cons d P =>
    refine ⟨(S.filter fun r => decide (r.2.w = .move) && decide (far a r.2.p d.2.p > slop)).map mom, ?_, fun x hx => ?_⟩
    · show ((d :: P ++ S).filter _).map mom = ((d :: P).filter _).map mom ++ _
      rw [List.filter_append, List.map_append]
    · obtain ⟨r, hr, e⟩ := List.mem_map.mp hx
      exact ⟨r, (List.mem_filter.mp hr).1, e⟩
theorem beyond_mem {a : Axis} {slop : Int} {P : List Row} {x : Mom} (h : x ∈ beyond a slop P) : ∃ r ∈ P, mom r = x ∧ r.2.w = .move := by
  cases P with
  | nil => cases h
  | cons d P =>
    obtain ⟨r, hr, e⟩ := List.mem_map.mp h
    obtain ⟨h1, h2⟩ := List.mem_filter.mp hr
    rw [Bool.and_eq_true] at h2
    exact ⟨r, h1, e, of_decide_eq_true h2.1⟩
def URel (B : Mom) (U U' : Option Mom) : Prop := match U' with
  | some u => U = some u ∧ mlt u B = true
  | none => match U with
    | none => True
    | some u => mlt u B = false
theorem press_cut {B : Mom} {d : Row} {A Z : List Row} (hA : Bel B (d :: A)) (hZ : Abv B Z) :
    (∃ S, (∀ r ∈ S, mlt (mom r) B = false) ∧ pressOf d.2.f (d :: A ++ Z) = pressOf d.2.f (d :: A) ++ S) ∧ URel B (upMom (pressOf d.2.f (d :: A ++ Z))) (upMom (pressOf d.2.f (d :: A))) := by
  rcases pressOf_app d.2.f (d :: A) Z with ⟨u, h1, h2⟩ | ⟨h1, h2⟩
  · refine ⟨⟨[], fun _ h => (nomatch h), by rw [h2, List.append_nil]⟩, ?_⟩
    rw [h2, h1]
    obtain ⟨r, hr, e, _⟩ := upMom_some h1
    exact ⟨rfl, by rw [← e]; exact hA r (pressOf_mem hr).1⟩
  · refine ⟨⟨_, fun r h => hZ r (pressOf_mem h).1, h2⟩, ?_⟩
    rw [h1, h2]
    unfold URel
    show match upMom (pressOf d.2.f (d :: A) ++ pressOf d.2.f Z) with | none => True | some u => mlt u B = false
    cases e : pressOf d.2.f Z with
    | nil => rw [List.append_nil, h1]; trivial
    | cons a l =>
      rw [upMom_app (by simp)]
      cases e2 : upMom (a :: l) with
      | none => trivial
      | some u =>
        obtain ⟨r, hr, e3, _⟩ := upMom_some e2
        show mlt u B = false
        rw [← e3]
        exact hZ r (pressOf_mem (f := d.2.f) (by rw [e]; exact hr)).1
theorem press_ne {d : Row} {l : List Row} : pressOf d.2.f (d :: l) ≠ [] := by
  obtain ⟨l', e⟩ := pressOf_head (d := d) (l := l)
  rw [e]; simp
theorem firstWord_cut {B : Mom} {c X : List Mom} {U U' : Option Mom} (hX : ∀ x ∈ X, mlt x B = false) (hU : URel B U U') :
    (∀ w M, firstWord (c ++ X) U = some (w, M) → mlt M B = true → firstWord c U' = some (w, M)) ∧ (firstWord (c ++ X) U = none → firstWord c U' = none) := by
  cases c with
  | nil =>
    rw [List.nil_append]
    cases X with
    | nil =>
      cases U' with
      | some u =>
        obtain ⟨rfl, h⟩ := hU
        exact ⟨fun _ _ e _ => e, fun e => e⟩
      | none =>
        cases U with
        | none => exact ⟨fun _ _ e _ => e, fun e => e⟩
        | some u =>
          have hu : mlt u B = false := hU
          refine ⟨fun w M e hM => ?_, fun e => rfl⟩
          have e' : some (false, u) = some (w, M) := e
          cases e'
          rw [hu] at hM; cases hM
    | cons x X =>
      have hx : mlt x B = false := hX x List.mem_cons_self
      cases U' with
      | some u =>
        obtain ⟨rfl, h⟩ := hU
        have hux : mlt u x = true := mlt_of_ln h hx
        have e0 : firstWord (x :: X) (some u) = some (false, u) := by
          show (if mlt u x = true then some (false, u) else some (true, x)) = _
          rw [if_pos hux]
        rw [e0]
        exact ⟨fun _ _ e _ => e, fun e => by cases e⟩
      | none =>
        refine ⟨fun w M e hM => ?_, fun _ => rfl⟩
        cases U with
        | none =>
          have e' : some (true, x) = some (w, M) := e
          cases e'
          rw [hx] at hM; cases hM
        | some u =>
          have hu : mlt u B = false := hU
          have e' : (if mlt u x = true then some (false, u) else some (true, x)) = some (w, M) := e
          split at e'
          · cases e'; rw [hu] at hM; cases hM
          · cases e'; rw [hx] at hM; cases hM
  | cons a c =>
    rw [List.cons_append]
    cases U' with
    | some u =>
      obtain ⟨rfl, h⟩ := hU
      exact ⟨fun _ _ e _ => e, fun e => e⟩
    | none =>
      cases U with
      | none => exact ⟨fun _ _ e _ => e, fun e => e⟩
      | some u =>
        have hu : mlt u B = false := hU
        refine ⟨fun w M e hM => ?_, fun e => ?_⟩
        · have e' : (if mlt u a = true then some (false, u) else some (true, a)) = some (w, M) := e
          split at e'
          · cases e'; rw [hu] at hM; cases hM
          · exact e'
        · have e' : (if mlt u a = true then some (false, u) else some (true, a)) = none := e
          split at e' <;> cases e'
theorem drag_cut {B : Mom} {d : Row} {A Z : List Row} {a : Axis} {slop : Int} (hA : Bel B (d :: A)) (hZ : Abv B Z) :
    (∀ w M, dragV (d :: A ++ Z) a slop = some (w, M) → mlt M B = true → dragV (d :: A) a slop = some (w, M)) ∧ (dragV (d :: A ++ Z) a slop = none → dragV (d :: A) a slop = none) := by
  obtain ⟨⟨S, hS, e⟩, hU⟩ := press_cut hA hZ
  obtain ⟨X, e2, hX⟩ := beyond_app (a := a) (slop := slop) (P := pressOf d.2.f (d :: A)) (S := S) press_ne
  have e3 : dragV (d :: A ++ Z) a slop = firstWord (beyond a slop (pressOf d.2.f (d :: A)) ++ X) (upMom (pressOf d.2.f (d :: A ++ Z))) := by
    rw [← e2, ← e]
    rfl
  rw [e3]
  exact firstWord_cut (fun x hx => by obtain ⟨r, hr, q⟩ := hX x hx; rw [← q]; exact hS r hr) hU
theorem held_eq {d : Row} {r : List Row} {time slop : Int} : held (d :: r) time slop =
    (match upMom (pressOf d.2.f (d :: r)) with
    | some u => if mlt u (minM (beyond .any slop (pressOf d.2.f (d :: r)) ++ [(d.2.t + time, -1)] ++ heads (nxt r))) = true then (u, true) else (minM (beyond .any slop (pressOf d.2.f (d :: r)) ++ [(d.2.t + time, -1)] ++ heads (nxt r)), false)
    | none => (minM (beyond .any slop (pressOf d.2.f (d :: r)) ++ [(d.2.t + time, -1)] ++ heads (nxt r)), false)) := rfl
theorem heads_cut {B : Mom} {A Z : List Row} (hZ : Abv B Z) : ∃ Y, heads (nxt (A ++ Z)) = heads (nxt A) ++ Y ∧ ∀ x ∈ Y, mlt x B = false := by
  rw [nxt_app]
  by_cases h : nxt A = []
  · rw [if_pos h, h]
    refine ⟨heads (nxt Z), rfl, fun x hx => ?_⟩
    obtain ⟨pre, e⟩ := nxt_suffix Z
    cases e2 : nxt Z with
    | nil => rw [e2] at hx; cases hx
    | cons q qs =>
      rw [e2] at hx
      have : x = mom q := List.mem_singleton.mp hx
      rw [this]
      exact hZ q (by rw [e, e2]; simp)
  · rw [if_neg h]
    cases e : nxt A with
    | nil => exact absurd e h
    | cons q qs => exact ⟨[], by rw [List.append_nil]; rfl, fun _ hx => nomatch hx⟩
theorem minM_cut {B : Mom} {l l' : List Mom} (hsub : ∀ x ∈ l', x ∈ l) (hrest : ∀ x ∈ l, x ∈ l' ∨ mlt x B = false) (hl' : l' ≠ []) :
    mlt (minM l) (minM l') = true ∨ minM l' = minM l ∧ True := by
  have hl : l ≠ [] := fun e => by
    cases l' with
    | nil => exact hl' rfl
    | cons a t => have := hsub a List.mem_cons_self; rw [e] at this; cases this
  cases e : mlt (minM l) (minM l') with
  | true => exact .inl rfl
  | false => exact .inr ⟨mlt_tri (minM_le (hsub _ (minM_mem hl'))) e, trivial⟩
theorem minM_cut2 {B : Mom} {l l' : List Mom} (hsub : ∀ x ∈ l', x ∈ l) (hrest : ∀ x ∈ l, x ∈ l' ∨ mlt x B = false) (hl' : l' ≠ []) (hB : mlt (minM l) B = true) : minM l' = minM l := by
  have hl : l ≠ [] := fun e => by
    cases l' with
    | nil => exact hl' rfl
    | cons a t => have := hsub a List.mem_cons_self; rw [e] at this; cases this
  rcases hrest _ (minM_mem hl) with h | h
  · exact minM_eq h fun x hx => minM_le (hsub x hx)
  · rw [h] at hB; cases hB
theorem held_cut {B : Mom} {d : Row} {A Z : List Row} {time slop : Int} (hA : Bel B (d :: A)) (hZ : Abv B Z) (h : mlt (held (d :: A ++ Z) time slop).1 B = true) :
    held (d :: A) time slop = held (d :: A ++ Z) time slop := by
  obtain ⟨⟨S, hS, e⟩, hU⟩ := press_cut hA hZ
  obtain ⟨X, e2, hX⟩ := beyond_app (a := .any) (slop := slop) (P := pressOf d.2.f (d :: A)) (S := S) press_ne
  obtain ⟨Y, e3, hY⟩ := heads_cut (A := A) hZ
  rw [List.cons_append] at h e hU ⊢
  rw [held_eq] at h
  rw [held_eq, held_eq]
  rw [e3] at h ⊢
  rw [e] at hU
  rw [e] at h ⊢
  rw [e2] at h ⊢
  have hX' : ∀ x ∈ X, mlt x B = false := fun x hx => by obtain ⟨r, hr, q⟩ := hX x hx; rw [← q]; exact hS r hr
  generalize hP : pressOf d.2.f (d :: A) = P at *
  generalize hL : beyond .any slop P ++ X ++ [(d.2.t + time, -1)] ++ (heads (nxt A) ++ Y) = L at *
  generalize hL' : beyond .any slop P ++ [(d.2.t + time, -1)] ++ heads (nxt A) = L' at *
  have sub : ∀ x ∈ L', x ∈ L := by
    intro x hx
    rw [← hL'] at hx
    rw [← hL]
    simp only [List.mem_append] at hx ⊢
    rcases hx with (hx | hx) | hx
    · exact .inl (.inl (.inl hx))
    · exact .inl (.inr hx)
    · exact .inr (.inl hx)
  have res : ∀ x ∈ L, x ∈ L' ∨ mlt x B = false := by
    intro x hx
    rw [← hL] at hx
    rw [← hL']
    simp only [List.mem_append] at hx ⊢
    rcases hx with ((hx | hx) | hx) | (hx | hx)
    · exact .inl (.inl (.inl hx))
    · exact .inr (hX' x hx)
    · exact .inl (.inl (.inr hx))
    · exact .inl (.inr hx)
    · exact .inr (hY x hx)
  have ne : L' ≠ [] := by rw [← hL']; simp
  cases eU : upMom P with
  | some u =>
    rw [eU] at hU
    obtain ⟨eF, hu⟩ := hU
    rw [eF] at h ⊢
    simp only at h ⊢
    by_cases hc : mlt u (minM L) = true
    · rw [if_pos hc]
      have : mlt u (minM L') = true := by
        rcases minM_cut sub res ne with q | ⟨q, _⟩
        · exact mlt_trans hc q
        · rw [q]; exact hc
      rw [if_pos this]
    · rw [if_neg hc] at h ⊢
      rw [minM_cut2 sub res ne h, if_neg hc]
  | none =>
    rw [eU] at hU
    cases eF : upMom (P ++ S) with
    | none =>
      rw [eF] at h
      simp only at h ⊢
      rw [minM_cut2 sub res ne h]
    | some u =>
      rw [eF] at h hU
      have hu : mlt u B = false := hU
      simp only at h ⊢
      by_cases hc : mlt u (minM L) = true
      · rw [if_pos hc] at h
        rw [hu] at h; cases h
      · rw [if_neg hc] at h ⊢
        rw [minM_cut2 sub res ne h]
theorem held_ge {d : Row} {r : List Row} {time slop : Int} (ha : Asc (d :: r)) (ht : 0 < time) : mlt (held (d :: r) time slop).1 (mom d) = false := by
  have hd : ∀ q ∈ d :: r, mlt (mom q) (mom d) = false := fun q hq => by
    rcases List.mem_cons.mp hq with rfl | hq
    · exact mlt_irrefl _
    · exact mlt_asymm ((List.pairwise_cons.mp ha).1 q hq)
  have hm : mlt (minM (beyond .any slop (pressOf d.2.f (d :: r)) ++ [(d.2.t + time, -1)] ++ heads (nxt r))) (mom d) = false := by
    have := minM_mem (l := beyond .any slop (pressOf d.2.f (d :: r)) ++ [(d.2.t + time, -1)] ++ heads (nxt r)) (by simp)
    simp only [List.mem_append] at this
    rcases this with (hx | hx) | hx
    · obtain ⟨q, hq, e, _⟩ := beyond_mem hx
      simp only [List.append_assoc] at e ⊢
      rw [← e]
      exact hd q (pressOf_mem hq).1
    · rw [List.mem_singleton] at hx
      simp only [List.append_assoc] at hx ⊢
      rw [hx, mlt_niff]
      show ¬ (d.2.t + time < d.2.t ∨ d.2.t + time = d.2.t ∧ (-1 : Int) < d.1)
      omega
    · obtain ⟨pre, e⟩ := nxt_suffix r
      cases e2 : nxt r with
      | nil => rw [e2] at hx; cases hx
      | cons q qs =>
        have hx' : minM (beyond .any slop (pressOf d.2.f (d :: r)) ++ [(d.2.t + time, -1)] ++ heads (nxt r)) ∈ heads (q :: qs) := by
          rw [← e2]
          exact hx
        have hx2 := List.mem_singleton.mp hx'
        rw [e2] at hx2
        rw [hx2]
        exact hd q (List.mem_cons_of_mem _ (by rw [e, e2]; simp))
  rw [held_eq]
  cases eU : upMom (pressOf d.2.f (d :: r)) with
  | none => exact hm
  | some u =>
    simp only
    split
    · obtain ⟨q, hq, e, _⟩ := upMom_some eU
      show mlt u (mom d) = false
      rw [← e]
      exact hd q (pressOf_mem hq).1
    · exact hm
theorem held_up {d q : Row} {r qs : List Row} {time slop : Int} (h : (held (d :: r) time slop).2 = true) (hn : nxt r = q :: qs) : mlt (held (d :: r) time slop).1 (mom q) = true := by
  rw [held_eq] at h ⊢
  have hle : mlt (mom q) (minM (beyond .any slop (pressOf d.2.f (d :: r)) ++ [(d.2.t + time, -1)] ++ heads (nxt r))) = false := minM_le (by
    rw [hn]
    simp [heads])
  cases eU : upMom (pressOf d.2.f (d :: r)) with
  | none => rw [eU] at h; cases h
  | some u =>
    rw [eU] at h
    simp only at h ⊢
    split
    · rename_i hc
      exact mlt_of_ln hc hle
    · rename_i hc
      rw [if_neg hc] at h; cases h
end TC
namespace TC
theorem Asc.tail {d : Row} {r : List Row} (h : Asc (d :: r)) : Asc r := (List.pairwise_cons.mp h).2
theorem Asc.lt {d q : Row} {r : List Row} (h : Asc (d :: r)) (hq : q ∈ r) : mlt (mom d) (mom q) = true := (List.pairwise_cons.mp h).1 q hq
theorem nxt_mem {l : List Row} {q : Row} (h : q ∈ nxt l) : q ∈ l := by
  obtain ⟨p, e⟩ := nxt_suffix l
  rw [e]; exact List.mem_append_right _ h
theorem nxt_asc {l : List Row} (h : Asc l) : Asc (nxt l) := by
  obtain ⟨p, e⟩ := nxt_suffix l
  rw [e] at h
  exact (List.pairwise_append.mp h).2.1
theorem tapsV_eq {time gap slop : Int} {k : Nat} {d : Row} {r : List Row} : tapsV time gap slop (k + 1) (d :: r) =
    if (held (d :: r) time slop).2 = true then
      if k = 0 then some (true, (held (d :: r) time slop).1) else
      match nxt r with
      | q :: qs => if mlt ((held (d :: r) time slop).1.1 + gap, -1) (mom q) = true then some (false, ((held (d :: r) time slop).1.1 + gap, -1)) else if dist q.2.p d.2.p > slop then some (false, mom q) else tapsV time gap slop k (q :: qs)
      | [] => some (false, ((held (d :: r) time slop).1.1 + gap, -1))
    else some (false, (held (d :: r) time slop).1) := by
  show (if (held (d :: r) time slop).2 = true then _ else _) = _
  split
  · split
    · rfl
    · have e : (d :: r).tail = r := rfl
      rw [e]
      cases nxt r <;> rfl
  · rfl
theorem le_late {a b : Mom} {gap : Int} (h : mlt a b = false) (hg : 0 < gap) : mlt (a.1 + gap, -1) b = false := by
  rw [mlt_niff] at *
  show ¬ (a.1 + gap < b.1 ∨ a.1 + gap = b.1 ∧ (-1 : Int) < b.2)
  omega
theorem lt_late {a : Mom} {gap : Int} (hg : 0 < gap) : mlt a (a.1 + gap, -1) = true := by
  rw [mlt_iff]
  show a.1 < a.1 + gap ∨ a.1 = a.1 + gap ∧ a.2 < -1
  omega
theorem nl_trans {a b c : Mom} (h : mlt a b = false) (k : mlt b c = false) : mlt a c = false := by
  rw [mlt_niff] at *; omega
theorem tapsV_ge {time gap slop : Int} (ht : 0 < time) (hg : 0 < gap) : ∀ (k : Nat) (d : Row) (r : List Row) (w : Bool) (M : Mom), Asc (d :: r) → tapsV time gap slop k (d :: r) = some (w, M) → mlt M (mom d) = false
  | 0, d, r, w, M, ha, h => by cases h
  | k + 1, d, r, w, M, ha, h => by
    have g := held_ge (slop := slop) ha ht
    rw [tapsV_eq] at h
    split at h
    · split at h
      · cases h; exact g
      · split at h
        · rename_i q qs hn
          have hq : mlt (mom d) (mom q) = true := ha.lt (nxt_mem (by rw [hn]; exact List.mem_cons_self))
          split at h
          · cases h; exact le_late g hg
          · split at h
            · cases h; exact mlt_asymm hq
            · have ih := tapsV_ge ht hg k q qs w M (by rw [← hn]; exact nxt_asc ha.tail) h
              exact nl_trans ih (mlt_asymm hq)
        · cases h; exact le_late g hg
    · cases h; exact g
theorem taps_cut {B : Mom} {time gap slop : Int} (ht : 0 < time) (hg : 0 < gap) : ∀ (k : Nat) (d : Row) (A Z : List Row) (w : Bool) (M : Mom), Asc (d :: A ++ Z) → Bel B (d :: A) → Abv B Z →
    tapsV time gap slop k (d :: A ++ Z) = some (w, M) → mlt M B = true → tapsV time gap slop k (d :: A) = some (w, M)
  | 0, d, A, Z, w, M, ha, hA, hZ, h, hM => by cases h
  | k + 1, d, A, Z, w, M, ha, hA, hZ, h, hM => by
    have cut := held_cut (time := time) (slop := slop) hA hZ
    rw [List.cons_append] at ha h cut
    rw [tapsV_eq] at h
    rw [tapsV_eq]
    by_cases hup : (held (d :: (A ++ Z)) time slop).2 = true
    · rw [if_pos hup] at h
      by_cases hk : k = 0
      · rw [if_pos hk] at h
        cases h
        rw [cut hM, if_pos hup, if_pos hk]
      · rw [if_neg hk] at h
        cases hn : nxt (A ++ Z) with
        | nil =>
          rw [hn] at h
          have h' : some (false, ((held (d :: (A ++ Z)) time slop).1.1 + gap, (-1 : Int))) = some (w, M) := h
          cases h'
          rw [cut (mlt_trans (lt_late hg) hM), if_pos hup, if_neg hk]
          have e : nxt A = [] := by
            rw [nxt_app] at hn
            cases e : nxt A with
            | nil => rfl
            | cons q qs => rw [e, if_neg (by simp)] at hn; cases hn
          rw [e]
        | cons q qs =>
          rw [hn] at h
          have h' : (if mlt ((held (d :: (A ++ Z)) time slop).1.1 + gap, -1) (mom q) = true then some (false, ((held (d :: (A ++ Z)) time slop).1.1 + gap, -1)) else if dist q.2.p d.2.p > slop then some (false, mom q) else tapsV time gap slop k (q :: qs)) = some (w, M) := h
          clear h
          by_cases hl : mlt ((held (d :: (A ++ Z)) time slop).1.1 + gap, -1) (mom q) = true
          · rw [if_pos hl] at h'
            cases h'
            rw [cut (mlt_trans (lt_late hg) hM), if_pos hup, if_neg hk]
            cases e : nxt A with
            | nil => rfl
            | cons q' qs' =>
              rw [nxt_app, e, if_neg (by simp)] at hn
              have hn' : q' :: (qs' ++ Z) = q :: qs := hn
              cases hn'
              show (if _ then _ else _) = _
              rw [if_pos hl]
          · rw [if_neg hl] at h'
            have hMq : mlt M (mom q) = false := by
              by_cases hd : dist q.2.p d.2.p > slop
              · rw [if_pos hd] at h'
                cases h'; exact mlt_irrefl _
              · rw [if_neg hd] at h'
                exact tapsV_ge ht hg k q qs w M (by rw [← hn]; exact nxt_asc ha.tail) h'
            have hqB : mlt (mom q) B = true := by
              cases e : mlt (mom q) B with
              | true => rfl
              | false =>
                have := nl_trans hMq e
                rw [this] at hM; cases hM
            have hmB : mlt (held (d :: (A ++ Z)) time slop).1 B = true := mlt_trans (held_up hup hn) hqB
            rw [cut hmB, if_pos hup, if_neg hk]
            cases e : nxt A with
            | nil =>
              exfalso
              rw [nxt_app, e, if_pos rfl] at hn
              have hqZ : q ∈ Z := nxt_mem (by rw [hn]; exact List.mem_cons_self)
              rw [hZ q hqZ] at hqB; cases hqB
            | cons q' qs' =>
              rw [nxt_app, e, if_neg (by simp)] at hn
              have hn' : q' :: (qs' ++ Z) = q :: qs := hn
              cases hn'
              show (if _ then _ else _) = _
              rw [if_neg hl]
              by_cases hd : dist q.2.p d.2.p > slop
              · rw [if_pos hd] at h' ⊢; exact h'
              · rw [if_neg hd] at h' ⊢
                refine taps_cut ht hg k q qs' Z w M ?_ ?_ hZ h' hM
                · have := nxt_asc ha.tail
                  rw [nxt_app, e, if_neg (by simp)] at this
                  exact this
                · intro x hx
                  exact hA x (List.mem_cons_of_mem _ (nxt_mem (by rw [e]; exact hx)))
    · rw [if_neg hup] at h
      cases h
      rw [cut hM, if_neg hup]
theorem sortR_perm (l : List Row) : (sortR l).Perm l := List.mergeSort_perm _ _
theorem sortR_asc (l : List Row) : (sortR l).Pairwise fun a b => a.1 ≤ b.1 := by
  have := List.pairwise_mergeSort (le := fun a b : Row => decide (a.1 ≤ b.1)) (fun a b c h k => by simp at *; omega) (fun a b => by simp; omega) l
  exact this.imp fun h => by simpa using h
abbrev Tell (l : List Row) : Prop := ∀ a ∈ l, ∀ b ∈ l, a.1 = b.1 → a = b
theorem sortR_unique {l m : List Row} (ht : Tell l) (hp : m.Perm l) (hs : m.Pairwise fun a b => a.1 ≤ b.1) : sortR l = m :=
  List.Perm.eq_of_pairwise (le := fun a b : Row => a.1 ≤ b.1) (fun a b ha hb h k => ht a ((sortR_perm l).mem_iff.mp ha) b (hp.mem_iff.mp hb) (by omega)) (sortR_asc l) hs ((sortR_perm l).trans hp.symm)
abbrev Num (l : List Row) : Prop := l.Pairwise fun a b => a.1 < b.1
theorem Num.tell : ∀ {l : List Row}, Num l → Tell l
  | [], _ => fun _ h => nomatch h
  | d :: l, h => by
    obtain ⟨h1, h2⟩ := List.pairwise_cons.mp h
    intro a ha b hb e
    rcases List.mem_cons.mp ha with rfl | ha
    · rcases List.mem_cons.mp hb with rfl | hb
      · rfl
      · have := h1 b hb; omega
    · rcases List.mem_cons.mp hb with rfl | hb
      · have := h1 a (by assumption); omega
      · exact Num.tell h2 a ha b hb e
theorem sortR_app {P S X : List Row} (hn : Tell (P ++ S)) (h : ∀ a ∈ P, ∀ b ∈ S, a.1 ≤ b.1) (hX : (P ++ S).Perm X) : sortR X = sortR P ++ sortR S := by
  refine sortR_unique (fun a ha b hb => hn a (hX.mem_iff.mpr ha) b (hX.mem_iff.mpr hb)) ?_ ?_
  · exact ((sortR_perm P).append (sortR_perm S)).trans hX
  · rw [List.pairwise_append]
    exact ⟨sortR_asc P, sortR_asc S, fun a ha b hb => h a ((sortR_perm P).mem_iff.mp ha) b ((sortR_perm S).mem_iff.mp hb)⟩
theorem pinchLoop_mem {first : List Row} {slop : Int} {begin : Mom} {base : Pl} : ∀ {l : List Row} {here there : Pl} {x : Mom}, x ∈ pinchLoop first slop begin base here there l → ∃ r ∈ l, mom r = x ∧ mlt begin x = true
  | [], _, _, x, h => by cases h
  | r :: l, here, there, x, h => by
    unfold pinchLoop at h
    split at h
    · rename_i hc
      split at h
      · rcases List.mem_append.mp h with h | h
        · split at h
          · rw [List.mem_singleton] at h
            exact ⟨r, List.mem_cons_self, h.symm, by rw [h]; exact hc.2⟩
          · cases h
        · obtain ⟨q, h1, h2⟩ := pinchLoop_mem h
          exact ⟨q, List.mem_cons_of_mem _ h1, h2⟩
      · rcases List.mem_append.mp h with h | h
        · split at h
          · rw [List.mem_singleton] at h
            exact ⟨r, List.mem_cons_self, h.symm, by rw [h]; exact hc.2⟩
          · cases h
        · obtain ⟨q, h1, h2⟩ := pinchLoop_mem h
          exact ⟨q, List.mem_cons_of_mem _ h1, h2⟩
    · obtain ⟨q, h1, h2⟩ := pinchLoop_mem h
      exact ⟨q, List.mem_cons_of_mem _ h1, h2⟩
theorem pinchLoop_app {first first' : List Row} {slop : Int} {begin : Mom} {base : Pl} : ∀ (l Z : List Row) (here there : Pl), (∀ r ∈ l, (r ∈ first ↔ r ∈ first')) →
    ∃ X, pinchLoop first slop begin base here there (l ++ Z) = pinchLoop first' slop begin base here there l ++ X ∧ ∀ x ∈ X, ∃ r ∈ Z, mom r = x
  | [], Z, here, there, _ => ⟨pinchLoop first slop begin base here there Z, rfl, fun x hx => by
      obtain ⟨r, h1, h2, _⟩ := pinchLoop_mem hx
      exact ⟨r, h1, h2⟩⟩
  | r :: l, Z, here, there, hm => by
    have hm' : ∀ r ∈ l, (r ∈ first ↔ r ∈ first') := fun q hq => hm q (List.mem_cons_of_mem _ hq)
    have hr := hm r List.mem_cons_self
    rw [List.cons_append]
    unfold pinchLoop
    by_cases hc : r.2.w = .move ∧ mlt begin (mom r) = true
    · rw [if_pos hc, if_pos hc]
      by_cases hf : r ∈ first'
      · rw [if_pos hf, if_pos (hr.mpr hf)]
        obtain ⟨X, e, hX⟩ := pinchLoop_app l Z r.2.p there hm'
        exact ⟨X, by rw [e, List.append_assoc], hX⟩
      · rw [if_neg hf, if_neg (fun z => hf (hr.mp z))]
        obtain ⟨X, e, hX⟩ := pinchLoop_app l Z here r.2.p hm'
        exact ⟨X, by rw [e, List.append_assoc], hX⟩
    · rw [if_neg hc, if_neg hc]
      exact pinchLoop_app l Z here there hm'
theorem upOf_cut {B : Mom} {U U' M M' : Option Mom} (h : URel B U U') (k : URel B M M') : URel B (upOf U M) (upOf U' M') := by
  cases M' with
  | some m =>
    obtain ⟨rfl, hm⟩ := k
    cases U' with
    | some u =>
      obtain ⟨rfl, hu⟩ := h
      show URel B (if mlt m u = true then some m else some u) (if mlt m u = true then some m else some u)
      split
      · exact ⟨rfl, hm⟩
      · exact ⟨rfl, hu⟩
    | none =>
      cases U with
      | none => exact ⟨rfl, hm⟩
      | some u =>
        have hu : mlt u B = false := h
        show URel B (if mlt m u = true then some m else some u) (some m)
        rw [if_pos (mlt_of_ln hm hu)]
        exact ⟨rfl, hm⟩
  | none =>
    cases M with
    | none => exact h
    | some m =>
      have hm : mlt m B = false := k
      cases U' with
      | some u =>
        obtain ⟨rfl, hu⟩ := h
        show URel B (if mlt m u = true then some m else some u) (some u)
        rw [if_neg (by rw [mlt_asymm (mlt_of_ln hu hm)]; simp)]
        exact ⟨rfl, hu⟩
      | none =>
        cases U with
        | none => exact hm
        | some u =>
          have hu : mlt u B = false := h
          show match (if mlt m u = true then some m else some u) with | none => True | some u => mlt u B = false
          split
          · rename_i e; split at e <;> cases e
          · rename_i e
            split at e
            · cases e; exact hm
            · cases e; exact hu
theorem ult_cut {B m : Mom} {U U' : Option Mom} (h : URel B U U') (hm : mlt m B = true) : ult U m = ult U' m := by
  cases U' with
  | some u => obtain ⟨rfl, _⟩ := h; rfl
  | none =>
    cases U with
    | none => rfl
    | some u =>
      have hu : mlt u B = false := h
      show mlt u m = false
      exact mlt_asymm (mlt_of_ln hm hu)
theorem pinchV_eq {d : Row} {r : List Row} {slop : Int} : pinchV (d :: r) slop = (match nxt r with
    | [] => firstWord [] (upMom (pressOf d.2.f (d :: r)))
    | q :: qs =>
      if ult (upMom (pressOf d.2.f (d :: r))) (mom q) = true then firstWord [] (upMom (pressOf d.2.f (d :: r))) else
        firstWord (pinchLoop (pressOf d.2.f (d :: r)) slop (mom q) (diff q.2.p (hereOf (pressOf d.2.f (d :: r)) (mom q))) (hereOf (pressOf d.2.f (d :: r)) (mom q)) q.2.p (sortR (pressOf d.2.f (d :: r) ++ pressOf q.2.f (q :: qs)))) (upOf (upMom (pressOf d.2.f (d :: r))) (upMom (pressOf q.2.f (q :: qs))))) := rfl
theorem firstWord_ge {B : Mom} {c : List Mom} {U : Option Mom} (hc : ∀ x ∈ c, mlt x B = false) (hU : ∀ u, U = some u → mlt u B = false) {w M} (h : firstWord c U = some (w, M)) : mlt M B = false := by
  cases c with
  | nil =>
    cases U with
    | none => cases h
    | some u =>
      have h' : some (false, u) = some (w, M) := h
      cases h'; exact hU _ rfl
  | cons a c =>
    have ha := hc a List.mem_cons_self
    cases U with
    | none =>
      have h' : some (true, a) = some (w, M) := h
      cases h'; exact ha
    | some u =>
      have h' : (if mlt u a = true then some (false, u) else some (true, a)) = some (w, M) := h
      split at h'
      · cases h'; exact hU _ rfl
      · cases h'; exact ha
theorem firstWord_none {c : List Mom} {U : Option Mom} (h : firstWord c U = none) : c = [] ∧ U = none := by
  cases c with
  | nil =>
    cases U with
    | none => exact ⟨rfl, rfl⟩
    | some u => cases h
  | cons a c =>
    cases U with
    | none => cases h
    | some u =>
      have h' : (if mlt u a = true then some (false, u) else some (true, a)) = none := h
      split at h' <;> cases h'
theorem num_le {l : List Row} (hn : Num l) (ha : Asc l) : ∀ a ∈ l, ∀ b ∈ l, mlt (mom a) (mom b) = true → a.1 < b.1 := by
  induction l with
  | nil => exact fun _ h => nomatch h
  | cons d l ih =>
    obtain ⟨h1, h2⟩ := List.pairwise_cons.mp hn
    obtain ⟨k1, k2⟩ := List.pairwise_cons.mp ha
    intro a ha b hb h
    rcases List.mem_cons.mp ha with rfl | ha
    · rcases List.mem_cons.mp hb with rfl | hb
      · rw [mlt_irrefl] at h; cases h
      · exact h1 b hb
    · rcases List.mem_cons.mp hb with rfl | hb
      · rw [mlt_asymm (k1 a (by assumption))] at h; cases h
      · exact ih h2 k2 a ha b hb h
theorem pinch_cut {B : Mom} {d : Row} {A Z : List Row} {slop : Int} (hn : Num (d :: A ++ Z)) (hasc : Asc (d :: A ++ Z)) (hA : Bel B (d :: A)) (hZ : Abv B Z) :
    (∀ w M, pinchV (d :: A ++ Z) slop = some (w, M) → mlt M B = true → pinchV (d :: A) slop = some (w, M)) ∧ (pinchV (d :: A ++ Z) slop = none → pinchV (d :: A) slop = none) := by
  obtain ⟨⟨S, hS, e⟩, hU⟩ := press_cut hA hZ
  have nle := num_le hn hasc
  have tell := hn.tell
  have memF : ∀ r ∈ pressOf d.2.f (d :: A ++ Z), r ∈ d :: A ++ Z := fun r hr => (pressOf_mem hr).1
  rw [List.cons_append] at *
  rw [pinchV_eq, pinchV_eq]
  generalize hP : pressOf d.2.f (d :: A) = P at *
  rw [e] at hU memF ⊢
  generalize hU1 : upMom (P ++ S) = U at *
  generalize hU2 : upMom P = U' at *
  have fw0 := firstWord_cut (c := []) (X := []) (fun _ h => nomatch h) hU
  rw [List.append_nil] at fw0
  cases hnx : nxt (A ++ Z) with
  | nil =>
    have eA : nxt A = [] := by
      rw [nxt_app] at hnx
      cases e : nxt A with
      | nil => rfl
      | cons q qs => rw [e, if_neg (by simp)] at hnx; cases hnx
    rw [eA]
    exact fw0
  | cons q qs =>
    have hqm : q ∈ A ++ Z := nxt_mem (by rw [hnx]; exact List.mem_cons_self)
    cases eA : nxt A with
    | nil =>
      rw [nxt_app, eA, if_pos rfl] at hnx
      have hqB : mlt (mom q) B = false := hZ q (nxt_mem (by rw [hnx]; exact List.mem_cons_self))
      simp only
      by_cases hc : ult U (mom q) = true
      · rw [if_pos hc]
        exact fw0
      · rw [if_neg hc]
        have hu : ∀ u, U = some u → mlt u B = false := fun u eu => by
          rw [eu] at hc
          have : mlt u (mom q) = false := by
            have hc' : ¬ mlt u (mom q) = true := hc
            simpa using hc'
          exact nl_trans this hqB
        have hmore : ∀ m, upMom (pressOf q.2.f (q :: qs)) = some m → mlt m B = false := fun m em => by
          obtain ⟨r, hr, er, _⟩ := upMom_some em
          have hr' := (pressOf_mem hr).1
          rw [← hnx] at hr'
          rw [← er]
          exact hZ r (nxt_mem hr')
        have hall : ∀ u, upOf U (upMom (pressOf q.2.f (q :: qs))) = some u → mlt u B = false := fun u eu => by
          cases em : upMom (pressOf q.2.f (q :: qs)) with
          | none => rw [em] at eu; exact hu u eu
          | some m =>
            rw [em] at eu
            cases eU : U with
            | none => rw [eU] at eu; cases eu; exact hmore _ em
            | some v =>
              rw [eU] at eu
              have eu' : (if mlt m v = true then some m else some v) = some u := eu
              split at eu'
              · cases eu'; exact hmore _ em
              · cases eu'; exact hu _ eU
        refine ⟨fun w M h hM => ?_, fun h => ?_⟩
        · have := firstWord_ge (B := B) (fun x hx => ?_) hall h
          · rw [this] at hM; cases hM
          · obtain ⟨r, _, er, hb⟩ := pinchLoop_mem hx
            exact nl_trans (mlt_asymm hb) hqB
        · obtain ⟨_, h2⟩ := firstWord_none h
          have : U = none := by
            cases eU : U with
            | none => rfl
            | some u =>
              rw [eU] at h2
              cases em : upMom (pressOf q.2.f (q :: qs)) with
              | none => rw [em] at h2; cases h2
              | some m =>
                rw [em] at h2
                have h2' : (if mlt m u = true then some m else some u) = none := h2
                split at h2' <;> cases h2'
          rw [this] at hU
          cases eU' : U' with
          | none => rfl
          | some u => rw [eU'] at hU; obtain ⟨z, _⟩ := hU; cases z
    | cons q' qs' =>
      rw [nxt_app, eA, if_neg (by simp)] at hnx
      have hnx' : q' :: (qs' ++ Z) = q :: qs := hnx
      cases hnx'
      have subA : ∀ r ∈ q :: qs', r ∈ A := fun r hr => nxt_mem (by rw [eA]; exact hr)
      have hqB : mlt (mom q) B = true := hA q (List.mem_cons_of_mem _ (subA q List.mem_cons_self))
      simp only
      rw [ult_cut hU hqB]
      by_cases hc : ult U' (mom q) = true
      · rw [if_pos hc, if_pos hc]
        exact fw0
      · rw [if_neg hc, if_neg hc]
        obtain ⟨⟨T, hT, e2⟩, hV⟩ := press_cut (d := q) (A := qs') (Z := Z) (B := B) (fun r hr => hA r (List.mem_cons_of_mem _ (subA r hr))) hZ
        have memT : ∀ r ∈ pressOf q.2.f (q :: qs' ++ Z), r ∈ d :: (A ++ Z) := fun r hr => by
          rcases List.mem_append.mp (pressOf_mem hr).1 with h | h
          · exact List.mem_cons_of_mem _ (List.mem_append_left _ (subA r h))
          · exact List.mem_cons_of_mem _ (List.mem_append_right _ h)
        have memQ : ∀ r ∈ pressOf q.2.f (q :: qs'), mlt (mom r) B = true := fun r hr => hA r (List.mem_cons_of_mem _ (subA r (pressOf_mem hr).1))
        have memP : ∀ r ∈ P, mlt (mom r) B = true := fun r hr => hA r (pressOf_mem (f := d.2.f) (by rw [hP]; exact hr)).1
        rw [List.cons_append] at *
        generalize hQ : pressOf q.2.f (q :: qs') = Q at *
        rw [e2] at hV memT ⊢
        have hH : hereOf (P ++ S) (mom q) = hereOf P (mom q) := by
          unfold hereOf
          have : (S.filter fun r => mlt (mom r) (mom q)) = [] := by
            rw [List.filter_eq_nil_iff]
            intro r hr
            have := mlt_asymm (mlt_of_ln hqB (hS r hr))
            rw [this]; simp
          rw [List.filter_append, this, List.append_nil]
        rw [hH]
        have perm : ((P ++ Q) ++ (S ++ T)).Perm ((P ++ S) ++ (Q ++ T)) := by
          rw [List.append_assoc, List.append_assoc]
          refine List.Perm.append_left P ?_
          rw [← List.append_assoc, ← List.append_assoc]
          exact List.Perm.append_right T List.perm_append_comm
        have memAll : ∀ r ∈ (P ++ Q) ++ (S ++ T), r ∈ d :: (A ++ Z) := fun r hr => by
          simp only [List.mem_append] at hr
          rcases hr with (hr | hr) | (hr | hr)
          · exact memF r (List.mem_append_left _ hr)
          · exact memT r (List.mem_append_left _ hr)
          · exact memF r (List.mem_append_right _ hr)
          · exact memT r (List.mem_append_right _ hr)
        have loB : ∀ r ∈ P ++ Q, mlt (mom r) B = true := fun r hr => by
          rcases List.mem_append.mp hr with hr | hr
          · exact memP r hr
          · exact memQ r hr
        have hiB : ∀ r ∈ S ++ T, mlt (mom r) B = false := fun r hr => by
          rcases List.mem_append.mp hr with hr | hr
          · exact hS r hr
          · exact hT r hr
        have es : sortR ((P ++ S) ++ (Q ++ T)) = sortR (P ++ Q) ++ sortR (S ++ T) := by
          refine sortR_app (fun a ha b hb => tell a (memAll a ha) b (memAll b hb)) (fun a ha b hb => ?_) perm
          have := nle a (memAll a (List.mem_append_left _ ha)) b (memAll b (List.mem_append_right _ hb)) (mlt_of_ln (loB a ha) (hiB b hb))
          omega
        rw [es]
        obtain ⟨X, eX, hX⟩ := pinchLoop_app (first := P ++ S) (first' := P) (slop := slop) (begin := mom q) (base := diff q.2.p (hereOf P (mom q))) (sortR (P ++ Q)) (sortR (S ++ T)) (hereOf P (mom q)) q.2.p (fun r hr => by
          have hr' := loB r ((sortR_perm _).mem_iff.mp hr)
          rw [List.mem_append]
          refine ⟨fun h => ?_, fun h => .inl h⟩
          rcases h with h | h
          · exact h
          · rw [hS r h] at hr'; cases hr')
        rw [eX]
        exact firstWord_cut (fun x hx => by
          obtain ⟨r, hr, er⟩ := hX x hx
          rw [← er]
          exact hiB r ((sortR_perm _).mem_iff.mp hr)) (upOf_cut hU hV)
end TC
namespace TC
def Kind.Ok : Kind → Prop
  | .touch => True
  | .tap t s => 1 ≤ t ∧ t ≤ 1000000000 ∧ 0 ≤ s ∧ s ≤ 1000000000
  | .taps c t g s => (c = 2 ∨ c = 3) ∧ 1 ≤ t ∧ t ≤ 1000000000 ∧ 1 ≤ g ∧ g ≤ 1000000000 ∧ 0 ≤ s ∧ s ≤ 1000000000
  | .long t s => 1 ≤ t ∧ t ≤ 1000000000 ∧ 0 ≤ s ∧ s ≤ 1000000000
  | .drag _ s => 0 ≤ s ∧ s ≤ 1000000000
  | .pinch s => 0 ≤ s ∧ s ≤ 1000000000
abbrev Up (l : List Ev) : Prop := l.Pairwise fun a b => a.t ≤ b.t
theorem enumR_app : ∀ (k : Int) (a b : List Ev), enumR k (a ++ b) = enumR k a ++ enumR (k + a.length) b
  | k, [], b => by simp [enumR]
  | k, e :: a, b => by
    have h := enumR_app (k + 1) a b
    show (k, e) :: enumR (k + 1) (a ++ b) = (k, e) :: (enumR (k + 1) a ++ enumR (k + ((a.length + 1 : Nat) : Int)) b)
    rw [h]
    have : k + 1 + (a.length : Int) = k + ((a.length + 1 : Nat) : Int) := by omega
    rw [this]
theorem enumR_mem : ∀ {k : Int} {l : List Ev} {r : Row}, r ∈ enumR k l → k ≤ r.1 ∧ r.1 < k + l.length ∧ r.2 ∈ l
  | k, [], r, h => by cases h
  | k, e :: l, r, h => by
    rcases List.mem_cons.mp (show r ∈ (k, e) :: enumR (k + 1) l from h) with rfl | h
    · exact ⟨Int.le_refl _, by show k < k + ((l.length + 1 : Nat) : Int); omega, List.mem_cons_self⟩
    · obtain ⟨h1, h2, h3⟩ := enumR_mem h
      refine ⟨by omega, ?_, List.mem_cons_of_mem _ h3⟩
      show r.1 < k + ((l.length + 1 : Nat) : Int)
      omega
theorem enumR_num : ∀ (k : Int) (l : List Ev), Num (enumR k l)
  | k, [] => List.Pairwise.nil
  | k, e :: l => List.pairwise_cons.mpr ⟨fun r hr => by have := (enumR_mem hr).1; show k < r.1; omega, enumR_num (k + 1) l⟩
theorem enumR_asc : ∀ (k : Int) (l : List Ev), Up l → Asc (enumR k l)
  | k, [], _ => List.Pairwise.nil
  | k, e :: l, h => by
    obtain ⟨h1, h2⟩ := List.pairwise_cons.mp h
    refine List.pairwise_cons.mpr ⟨fun r hr => ?_, enumR_asc (k + 1) l h2⟩
    obtain ⟨h3, _, h4⟩ := enumR_mem hr
    have := h1 r.2 h4
    rw [mlt_iff]
    show e.t < r.2.t ∨ e.t = r.2.t ∧ k < r.1
    omega
theorem enumR_len : ∀ (k : Int) (l : List Ev), (enumR k l).length = l.length
  | k, [] => rfl
  | k, e :: l => by show (enumR (k + 1) l).length + 1 = l.length + 1; rw [enumR_len]
theorem word_cut {B : Mom} {k : Kind} (hk : k.Ok) {d : Row} {A Z : List Row} (hn : Num (d :: A ++ Z)) (hasc : Asc (d :: A ++ Z)) (hA : Bel B (d :: A)) (hZ : Abv B Z) :
    (∀ w M, wordMom k (d :: A ++ Z) = some (w, M) → mlt M B = true → wordMom k (d :: A) = some (w, M)) ∧ (wordMom k (d :: A ++ Z) = none → wordMom k (d :: A) = none) := by
  cases k with
  | touch => exact ⟨fun w M h _ => h, fun h => h⟩
  | tap t s =>
    refine ⟨fun w M h hM => ?_, fun h => by cases h⟩
    have h' : some ((held (d :: A ++ Z) t s).2, (held (d :: A ++ Z) t s).1) = some (w, M) := h
    cases h'
    show some ((held (d :: A) t s).2, (held (d :: A) t s).1) = _
    rw [held_cut hA hZ hM]
  | taps c t g s =>
    refine ⟨fun w M h hM => taps_cut (by have := hk.2.1; omega) (by have := hk.2.2.2.1; omega) _ d A Z w M hasc hA hZ h hM, fun h => ?_⟩
    obtain ⟨hc, _⟩ := hk
    exfalso
    have hsome : ∀ (n : Nat) (r : Row) (l : List Row), tapsV t g s (n + 1) (r :: l) ≠ none := by
      intro n
      induction n with
      | zero =>
        intro r l e
        rw [tapsV_eq] at e
        split at e
        · rw [if_pos rfl] at e; cases e
        · cases e
      | succ n ih =>
        intro r l e
        rw [tapsV_eq] at e
        split at e
        · split at e
          · cases e
          · split at e
            · split at e
              · cases e
              · split at e
                · cases e
                · exact ih _ _ e
            · cases e
        · cases e
    have h' : tapsV t g s c.toNat (d :: (A ++ Z)) = none := h
    rcases hc with rfl | rfl
    · exact hsome 1 d (A ++ Z) h'
    · exact hsome 2 d (A ++ Z) h'
  | long t s =>
    refine ⟨fun w M h hM => ?_, fun h => by cases h⟩
    have h' : some (decide ((held (d :: A ++ Z) t s).1 = (d.2.t + t, -1)), (held (d :: A ++ Z) t s).1) = some (w, M) := h
    cases h'
    show some (decide ((held (d :: A) t s).1 = (d.2.t + t, -1)), (held (d :: A) t s).1) = _
    rw [held_cut hA hZ hM]
  | drag a s => exact drag_cut hA hZ
  | pinch s => exact pinch_cut hn hasc hA hZ
abbrev At (s : List Row) (M : Mom) : Prop := M.2 = -1 ∨ ∃ r ∈ s, mom r = M
theorem At.mono {s s' : List Row} {M : Mom} (h : At s M) (k : ∀ r ∈ s, r ∈ s') : At s' M := h.imp id fun ⟨r, a, b⟩ => ⟨r, k r a, b⟩
theorem held_at {d : Row} {r : List Row} {time slop : Int} : At (d :: r) (held (d :: r) time slop).1 := by
  have hm : At (d :: r) (minM (beyond .any slop (pressOf d.2.f (d :: r)) ++ [(d.2.t + time, -1)] ++ heads (nxt r))) := by
    have hx := minM_mem (l := beyond .any slop (pressOf d.2.f (d :: r)) ++ [(d.2.t + time, -1)] ++ heads (nxt r)) (by simp)
    generalize minM (beyond .any slop (pressOf d.2.f (d :: r)) ++ [(d.2.t + time, -1)] ++ heads (nxt r)) = x at *
    simp only [List.mem_append] at hx
    rcases hx with (hx | hx) | hx
    · obtain ⟨q, hq, e, _⟩ := beyond_mem hx
      exact .inr ⟨q, (pressOf_mem hq).1, e⟩
    · rw [List.mem_singleton] at hx
      exact .inl (by rw [hx])
    · cases e2 : nxt r with
      | nil => rw [e2] at hx; cases hx
      | cons q qs =>
        rw [e2] at hx
        exact .inr ⟨q, List.mem_cons_of_mem _ (nxt_mem (by rw [e2]; exact List.mem_cons_self)), (List.mem_singleton.mp hx).symm⟩
  rw [held_eq]
  cases eU : upMom (pressOf d.2.f (d :: r)) with
  | none => exact hm
  | some u =>
    simp only
    split
    · obtain ⟨q, hq, e, _⟩ := upMom_some eU
      exact .inr ⟨q, (pressOf_mem hq).1, e⟩
    · exact hm
theorem firstWord_at {s : List Row} {c : List Mom} {U : Option Mom} (hc : ∀ x ∈ c, At s x) (hU : ∀ u, U = some u → At s u) {w M} (h : firstWord c U = some (w, M)) : At s M := by
  cases c with
  | nil =>
    cases U with
    | none => cases h
    | some u =>
      have h' : some (false, u) = some (w, M) := h
      cases h'; exact hU _ rfl
  | cons a c =>
    have ha := hc a List.mem_cons_self
    cases U with
    | none =>
      have h' : some (true, a) = some (w, M) := h
      cases h'; exact ha
    | some u =>
      have h' : (if mlt u a = true then some (false, u) else some (true, a)) = some (w, M) := h
      split at h'
      · cases h'; exact hU _ rfl
      · cases h'; exact ha
theorem upMom_at {f : Int} {s : List Row} : ∀ u, upMom (pressOf f s) = some u → At s u := fun u e => by
  obtain ⟨q, hq, e, _⟩ := upMom_some e
  exact .inr ⟨q, (pressOf_mem hq).1, e⟩
theorem tapsV_at {time gap slop : Int} : ∀ (k : Nat) (d : Row) (r : List Row) (w : Bool) (M : Mom), tapsV time gap slop k (d :: r) = some (w, M) → At (d :: r) M
  | 0, d, r, w, M, h => by cases h
  | k + 1, d, r, w, M, h => by
    have g := held_at (d := d) (r := r) (time := time) (slop := slop)
    rw [tapsV_eq] at h
    split at h
    · split at h
      · cases h; exact g
      · split at h
        · rename_i q qs hn
          have sub : ∀ x ∈ q :: qs, x ∈ d :: r := fun x hx => List.mem_cons_of_mem _ (nxt_mem (by rw [hn]; exact hx))
          split at h
          · cases h; exact .inl rfl
          · split at h
            · cases h; exact .inr ⟨q, sub q List.mem_cons_self, rfl⟩
            · exact (tapsV_at k q qs w M h).mono sub
        · cases h; exact .inl rfl
    · cases h; exact g
theorem word_at {k : Kind} {d : Row} {r : List Row} {w : Bool} {M : Mom} (h : wordMom k (d :: r) = some (w, M)) : At (d :: r) M := by
  cases k with
  | touch =>
    have h' : some (true, mom d) = some (w, M) := h
    cases h'; exact .inr ⟨d, List.mem_cons_self, rfl⟩
  | tap t s =>
    have h' : some ((held (d :: r) t s).2, (held (d :: r) t s).1) = some (w, M) := h
    cases h'; exact held_at
  | taps c t g s => exact tapsV_at _ d r w M h
  | long t s =>
    have h' : some (decide ((held (d :: r) t s).1 = (d.2.t + t, -1)), (held (d :: r) t s).1) = some (w, M) := h
    cases h'; exact held_at
  | drag a s =>
    refine firstWord_at (fun x hx => ?_) upMom_at h
    obtain ⟨q, hq, e, _⟩ := beyond_mem hx
    exact .inr ⟨q, (pressOf_mem hq).1, e⟩
  | pinch s =>
    have h' : pinchV (d :: r) s = some (w, M) := h
    rw [pinchV_eq] at h'
    split at h'
    · exact firstWord_at (fun _ h => by cases h) upMom_at h'
    · rename_i q qs hn
      have sub : ∀ x ∈ q :: qs, x ∈ d :: r := fun x hx => List.mem_cons_of_mem _ (nxt_mem (by rw [hn]; exact hx))
      split at h'
      · exact firstWord_at (fun _ h => by cases h) upMom_at h'
      · refine firstWord_at (fun x hx => ?_) (fun u hu => ?_) h'
        · obtain ⟨p, hp, e, _⟩ := pinchLoop_mem hx
          have hp' := (sortR_perm _).mem_iff.mp hp
          rcases List.mem_append.mp hp' with z | z
          · exact .inr ⟨p, (pressOf_mem z).1, e⟩
          · exact .inr ⟨p, sub p (pressOf_mem z).1, e⟩
        · have h1 := upMom_at (f := d.2.f) (s := d :: r)
          have h2 := upMom_at (f := q.2.f) (s := q :: qs)
          cases em : upMom (pressOf q.2.f (q :: qs)) with
          | none => rw [em] at hu; exact h1 u hu
          | some m =>
            rw [em] at hu
            cases eU : upMom (pressOf d.2.f (d :: r)) with
            | none => rw [eU] at hu; cases hu; exact (h2 _ em).mono sub
            | some v =>
              rw [eU] at hu
              have hu' : (if mlt m v = true then some m else some v) = some u := hu
              split at hu'
              · cases hu'; exact (h2 _ em).mono sub
              · cases hu'; exact h1 _ eU
theorem kept {k : Kind} (hk : k.Ok) {a : List Ev} {b : Ev} {z : List Ev} (ha : a ≠ []) (hup : Up (a ++ b :: z)) :
    (∀ w t o, verdict k (a ++ b :: z) = some (w, t, o) → (match o with | some i => i < (a.length : Int) | none => t ≤ b.t) → verdict k a = some (w, t, o)) ∧ (verdict k (a ++ b :: z) = none → verdict k a = none) := by
  cases a with
  | nil => exact absurd rfl ha
  | cons d A =>
    have e : enumR 0 (d :: A ++ b :: z) = (0, d) :: enumR 1 A ++ enumR (0 + (d :: A).length) (b :: z) := by rw [enumR_app]; rfl
    have hn := enumR_num 0 (d :: A ++ b :: z)
    have hasc := enumR_asc 0 _ hup
    have eA : enumR 0 (d :: A) = (0, d) :: enumR 1 A := rfl
    obtain ⟨h1, h2, h3⟩ := List.pairwise_append.mp hup
    obtain ⟨h4, _⟩ := List.pairwise_cons.mp h2
    have key := word_cut (B := (b.t, ((d :: A).length : Int))) hk (d := (0, d)) (A := enumR 1 A) (Z := enumR (0 + (d :: A).length) (b :: z)) (by rw [← e]; exact hn) (by rw [← e]; exact hasc)
      (fun r hr => by
        rw [← eA] at hr
        obtain ⟨q1, q2, q3⟩ := enumR_mem hr
        have := h3 r.2 q3 b List.mem_cons_self
        rw [mlt_iff]
        show r.2.t < b.t ∨ r.2.t = b.t ∧ r.1 < _
        omega)
      (fun r hr => by
        obtain ⟨q1, q2, q3⟩ := enumR_mem hr
        have : b.t ≤ r.2.t := by
          rcases List.mem_cons.mp q3 with z | z
          · rw [z]; exact Int.le_refl _
          · exact h4 _ z
        rw [mlt_niff]
        show ¬ (r.2.t < b.t ∨ r.2.t = b.t ∧ r.1 < _)
        omega)
    unfold verdict
    rw [e, eA]
    refine ⟨fun w t o h ho => ?_, fun h => ?_⟩
    · cases hw : wordMom k ((0, d) :: enumR 1 A ++ enumR (0 + (d :: A).length) (b :: z)) with
      | none => rw [hw] at h; cases h
      | some v =>
        obtain ⟨w', t', n'⟩ := v
        rw [hw] at h
        have h' : some (w', t', if n' = -1 then none else some n') = some (w, t, o) := h
        have hM : mlt (t', n') (b.t, ((d :: A).length : Int)) = true := by
          rw [mlt_iff]
          show t' < b.t ∨ t' = b.t ∧ n' < _
          by_cases hn1 : n' = -1
          · rw [if_pos hn1] at h'
            injection h' with h'
            injection h' with h5 h6
            injection h6 with h6 h7
            rw [← h7] at ho
            have : t ≤ b.t := ho
            omega
          · rw [if_neg hn1] at h'
            injection h' with h'
            injection h' with h5 h6
            injection h6 with h6 h7
            rw [← h7] at ho
            have hlt : n' < ((d :: A).length : Int) := ho
            have hat : At ((0, d) :: (enumR 1 A ++ enumR (0 + (d :: A).length) (b :: z))) (t', n') := word_at hw
            rcases hat with q | ⟨r, hr, q⟩
            · exact absurd q hn1
            · injection q with q1 q2
              have hr' : r ∈ enumR 0 (d :: A) ++ enumR (0 + (d :: A).length) (b :: z) := hr
              rcases List.mem_append.mp hr' with hr' | hr'
              · have := h3 r.2 (enumR_mem hr').2.2 b List.mem_cons_self
                omega
              · have := (enumR_mem hr').1
                omega
        rw [key.1 w' (t', n') hw hM]
        exact h
    · cases hw : wordMom k ((0, d) :: enumR 1 A ++ enumR (0 + (d :: A).length) (b :: z)) with
      | none => rw [key.2 hw]; rfl
      | some v => rw [hw] at h; cases h
end TC
namespace TC
structure Tr where
  m : Int
  c : Int
  φ : Int → Int
  π : Pl → Pl
def Tr.ev (T : Tr) (e : Ev) : Ev := ⟨T.m * e.t + T.c, T.φ e.f, e.w, (T.π e.p).1, (T.π e.p).2⟩
def Tr.r (T : Tr) (r : Row) : Row := (r.1, T.ev r.2)
def Tr.M (T : Tr) (M : Mom) : Mom := (T.m * M.1 + T.c, M.2)
section
variable {T : Tr}
theorem Tr.mom (r : Row) : mom (T.r r) = T.M (mom r) := rfl
theorem Tr.p (r : Row) : (T.r r).2.p = T.π r.2.p := rfl
theorem Tr.mlt (h : 0 < T.m) (a b : Mom) : mlt (T.M a) (T.M b) = mlt a b := by
  have e1 : (T.m * a.1 + T.c < T.m * b.1 + T.c) ↔ a.1 < b.1 := by
    rw [Int.add_lt_add_iff_right]
    exact Int.mul_lt_mul_left h
  have e2 : (T.m * a.1 + T.c = T.m * b.1 + T.c) ↔ a.1 = b.1 := by
    have e0 : (T.m * a.1 + T.c = T.m * b.1 + T.c) ↔ T.m * a.1 = T.m * b.1 := by omega
    rw [e0]
    exact Int.mul_eq_mul_left_iff (by omega)
  show (decide (T.m * a.1 + T.c < T.m * b.1 + T.c) || (decide (T.m * a.1 + T.c = T.m * b.1 + T.c) && decide (a.2 < b.2))) = _
  simp only [e1, e2]
  rfl
abbrev Tr.Fin (T : Tr) (l : List Row) : Prop := ∀ a ∈ l, ∀ b ∈ l, (T.φ a.2.f = T.φ b.2.f ↔ a.2.f = b.2.f)
theorem pressOf_tr {f : Int} : ∀ {l : List Row}, (∀ r ∈ l, (T.φ r.2.f = T.φ f ↔ r.2.f = f)) → pressOf (T.φ f) (l.map T.r) = (pressOf f l).map T.r
  | [], _ => rfl
  | a :: l, h => by
    have ih := pressOf_tr (f := f) (l := l) fun r hr => h r (List.mem_cons_of_mem _ hr)
    have ha := h a List.mem_cons_self
    show (if T.φ a.2.f = T.φ f then (if a.2.w = .up then [T.r a] else T.r a :: pressOf (T.φ f) (l.map T.r)) else pressOf (T.φ f) (l.map T.r)) = ((if a.2.f = f then (if a.2.w = .up then [a] else a :: pressOf f l) else pressOf f l)).map T.r
    by_cases hf : a.2.f = f
    · rw [if_pos hf, if_pos (ha.mpr hf)]
      by_cases hw : a.2.w = .up
      · rw [if_pos hw, if_pos hw]; rfl
      · rw [if_neg hw, if_neg hw, ih]; rfl
    · rw [if_neg hf, if_neg (fun z => hf (ha.mp z)), ih]
theorem nxt_tr : ∀ l : List Row, nxt (l.map T.r) = (nxt l).map T.r
  | [] => rfl
  | a :: l => by
    show (if a.2.w = .down then T.r a :: l.map T.r else nxt (l.map T.r)) = (if a.2.w = .down then a :: l else nxt l).map T.r
    split
    · rfl
    · exact nxt_tr l
theorem upMom_tr (l : List Row) : upMom (l.map T.r) = (upMom l).map T.M := by
  unfold upMom
  rw [List.getLast?_map]
  cases l.getLast? with
  | none => rfl
  | some r =>
    show (if r.2.w = .up then some (T.M (TC.mom r)) else none) = (if r.2.w = .up then some (TC.mom r) else none).map T.M
    split <;> rfl
theorem beyond_tr {a a' : Axis} {s s' : Int} (h : ∀ p q, far a' (T.π p) (T.π q) > s' ↔ far a p q > s) (l : List Row) : beyond a' s' (l.map T.r) = (beyond a s l).map T.M := by
  cases l with
  | nil => rfl
  | cons d l =>
    show (((d :: l).map T.r).filter fun r => decide (r.2.w = .move) && decide (far a' r.2.p (T.π d.2.p) > s')).map TC.mom = (((d :: l).filter fun r => decide (r.2.w = .move) && decide (far a r.2.p d.2.p > s)).map TC.mom).map T.M
    rw [List.filter_map, List.map_map, List.map_map]
    have e : ((fun r : Row => decide (r.2.w = .move) && decide (far a' r.2.p (T.π d.2.p) > s')) ∘ T.r) = fun r : Row => decide (r.2.w = .move) && decide (far a r.2.p d.2.p > s) := by
      funext r
      show (decide (r.2.w = .move) && decide (far a' (T.π r.2.p) (T.π d.2.p) > s')) = _
      simp only [h]
    rw [e]
    rfl
theorem heads_tr (l : List Row) : heads (l.map T.r) = (heads l).map T.M := by cases l <;> rfl
theorem minM_tr (h : 0 < T.m) {l : List Mom} (hl : l ≠ []) : minM (l.map T.M) = T.M (minM l) := by
  refine minM_eq (List.mem_map_of_mem (minM_mem hl)) fun x hx => ?_
  obtain ⟨y, hy, rfl⟩ := List.mem_map.mp hx
  rw [T.mlt h]
  exact minM_le hy
theorem held_tr (h : 0 < T.m) {d : Row} {r : List Row} {time s s' : Int} (hf : T.Fin (d :: r)) (hs : ∀ p q, dist (T.π p) (T.π q) > s' ↔ dist p q > s) :
    held (T.r d :: r.map T.r) (T.m * time) s' = (T.M (held (d :: r) time s).1, (held (d :: r) time s).2) := by
  have e1 : pressOf (T.r d).2.f (T.r d :: r.map T.r) = (pressOf d.2.f (d :: r)).map T.r := pressOf_tr (l := d :: r) (f := d.2.f) fun q hq => hf q hq d List.mem_cons_self
  have e2 : (T.r d).2.t + T.m * time = T.m * (d.2.t + time) + T.c := by
    show T.m * d.2.t + T.c + T.m * time = _
    rw [Int.mul_add]; omega
  rw [held_eq, held_eq, e1, upMom_tr, beyond_tr (a := .any) hs, nxt_tr, heads_tr, e2]
  have e3 : (beyond .any s (pressOf d.2.f (d :: r))).map T.M ++ [(T.m * (d.2.t + time) + T.c, (-1 : Int))] ++ (heads (nxt r)).map T.M = (beyond .any s (pressOf d.2.f (d :: r)) ++ [(d.2.t + time, -1)] ++ heads (nxt r)).map T.M := by
    rw [List.map_append, List.map_append]; rfl
  rw [e3, minM_tr h (by simp)]
  cases upMom (pressOf d.2.f (d :: r)) with
  | none => rfl
  | some u =>
    show (if TC.mlt (T.M u) (T.M _) = true then _ else _) = _
    rw [T.mlt h]
    simp only
    split <;> rfl
def Tr.V (T : Tr) : Verd → Verd := Option.map fun v => (v.1, T.M v.2)
theorem firstWord_tr (h : 0 < T.m) (c : List Mom) (U : Option Mom) : firstWord (c.map T.M) (U.map T.M) = T.V (firstWord c U) := by
  cases c with
  | nil => cases U <;> rfl
  | cons a c =>
    cases U with
    | none => rfl
    | some u =>
      show (if TC.mlt (T.M u) (T.M a) = true then some (false, T.M u) else some (true, T.M a)) = T.V (if TC.mlt u a = true then some (false, u) else some (true, a))
      rw [T.mlt h]
      split <;> rfl
theorem tapsV_tr (h : 0 < T.m) {time gap s s' : Int} (hs : ∀ p q, dist (T.π p) (T.π q) > s' ↔ dist p q > s) : ∀ (k : Nat) (d : Row) (r : List Row), T.Fin (d :: r) →
    tapsV (T.m * time) (T.m * gap) s' k (T.r d :: r.map T.r) = T.V (tapsV time gap s k (d :: r))
  | 0, d, r, _ => rfl
  | k + 1, d, r, hf => by
    rw [tapsV_eq, tapsV_eq, held_tr h hf hs]
    simp only
    split
    · split
      · rfl
      · rw [nxt_tr]
        have e : ∀ M : Mom, ((T.M M).1 + T.m * gap, (-1 : Int)) = T.M (M.1 + gap, -1) := fun M => by
          show (T.m * M.1 + T.c + T.m * gap, (-1 : Int)) = (T.m * (M.1 + gap) + T.c, -1)
          rw [Int.mul_add]
          have : T.m * M.1 + T.c + T.m * gap = T.m * M.1 + T.m * gap + T.c := by omega
          rw [this]
        cases hn : nxt r with
        | nil => simp only [List.map_nil]; rw [e]; rfl
        | cons q qs =>
          simp only [List.map_cons]
          rw [e, T.mom, T.mlt h, T.p, T.p]
          have sub : ∀ x ∈ q :: qs, x ∈ d :: r := fun x hx => List.mem_cons_of_mem _ (nxt_mem (by rw [hn]; exact hx))
          split
          · rfl
          · by_cases hd : dist q.2.p d.2.p > s
            · rw [if_pos hd, if_pos ((hs _ _).mpr hd)]; rfl
            · rw [if_neg hd, if_neg (fun z => hd ((hs _ _).mp z))]
              exact tapsV_tr h hs k q qs fun a ha b hb => hf a (sub a ha) b (sub b hb)
    · rfl
theorem dragV_tr (h : 0 < T.m) {a a' : Axis} {s s' : Int} (hs : ∀ p q, far a' (T.π p) (T.π q) > s' ↔ far a p q > s) {d : Row} {r : List Row} (hf : T.Fin (d :: r)) :
    dragV (T.r d :: r.map T.r) a' s' = T.V (dragV (d :: r) a s) := by
  have e1 : pressOf (T.r d).2.f (T.r d :: r.map T.r) = (pressOf d.2.f (d :: r)).map T.r := pressOf_tr (l := d :: r) (f := d.2.f) fun q hq => hf q hq d List.mem_cons_self
  show firstWord (beyond a' s' (pressOf (T.r d).2.f (T.r d :: r.map T.r))) (upMom (pressOf (T.r d).2.f (T.r d :: r.map T.r))) = T.V (firstWord _ _)
  rw [e1, upMom_tr, beyond_tr hs, firstWord_tr h]
theorem sortR_tr (l : List Row) : sortR (l.map T.r) = (sortR l).map T.r := by
  unfold sortR
  rw [List.map_mergeSort]
  intro a _ b _
  rfl
theorem pinchLoop_tr (h : 0 < T.m) {first : List Row} {s s' : Int} {begin : Mom} {bt bh : Pl} (hs : ∀ a b c d, dist (diff (T.π a) (T.π b)) (diff (T.π c) (T.π d)) > s' ↔ dist (diff a b) (diff c d) > s) :
    ∀ (l : List Row) (here there : Pl), (∀ r ∈ l, (T.r r ∈ first.map T.r ↔ r ∈ first)) →
    pinchLoop (first.map T.r) s' (T.M begin) (diff (T.π bt) (T.π bh)) (T.π here) (T.π there) (l.map T.r) = (pinchLoop first s begin (diff bt bh) here there l).map T.M
  | [], _, _, _ => rfl
  | r :: l, here, there, hm => by
    have hm' : ∀ r ∈ l, (T.r r ∈ first.map T.r ↔ r ∈ first) := fun q hq => hm q (List.mem_cons_of_mem _ hq)
    have hr := hm r List.mem_cons_self
    rw [List.map_cons]
    unfold pinchLoop
    rw [T.mom, T.mlt h, T.p]
    have ew : (T.r r).2.w = r.2.w := rfl
    rw [ew]
    by_cases hc : r.2.w = .move ∧ TC.mlt begin (TC.mom r) = true
    · rw [if_pos hc, if_pos hc]
      by_cases hf : r ∈ first
      · rw [if_pos hf, if_pos (hr.mpr hf), pinchLoop_tr h hs l r.2.p there hm', List.map_append]
        congr 1
        by_cases hd : dist (diff there r.2.p) (diff bt bh) > s
        · rw [if_pos hd, if_pos ((hs _ _ _ _).mpr hd)]; rfl
        · rw [if_neg hd, if_neg (fun z => hd ((hs _ _ _ _).mp z))]; rfl
      · rw [if_neg hf, if_neg (fun z => hf (hr.mp z)), pinchLoop_tr h hs l here r.2.p hm', List.map_append]
        congr 1
        by_cases hd : dist (diff r.2.p here) (diff bt bh) > s
        · rw [if_pos hd, if_pos ((hs _ _ _ _).mpr hd)]; rfl
        · rw [if_neg hd, if_neg (fun z => hd ((hs _ _ _ _).mp z))]; rfl
    · rw [if_neg hc, if_neg hc]
      exact pinchLoop_tr h hs l here there hm'
theorem upOf_tr (h : 0 < T.m) (U M : Option Mom) : upOf (U.map T.M) (M.map T.M) = (upOf U M).map T.M := by
  cases M with
  | none => rfl
  | some m =>
    cases U with
    | none => rfl
    | some u =>
      show (if TC.mlt (T.M m) (T.M u) = true then some (T.M m) else some (T.M u)) = (if TC.mlt m u = true then some m else some u).map T.M
      rw [T.mlt h]
      split <;> rfl
theorem ult_tr (h : 0 < T.m) (U : Option Mom) (m : Mom) : ult (U.map T.M) (T.M m) = ult U m := by
  cases U with
  | none => rfl
  | some u => exact T.mlt h u m
theorem getLastD_map (l : List Pl) (hl : l ≠ []) : (l.map T.π).getLastD (0, 0) = T.π (l.getLastD (0, 0)) := by
  cases l with
  | nil => exact absurd rfl hl
  | cons a l =>
    simp only [List.map_cons, List.getLastD_cons]
    induction l generalizing a with
    | nil => rfl
    | cons b l ih => simp only [List.map_cons, List.getLastD_cons]; exact ih b (by simp)
theorem hereOf_tr (h : 0 < T.m) {P : List Row} {m : Mom} (hp : ∃ r ∈ P, TC.mlt (TC.mom r) m = true) : hereOf (P.map T.r) (T.M m) = T.π (hereOf P m) := by
  unfold hereOf
  rw [List.filter_map]
  have e : ((fun r => TC.mlt (TC.mom r) (T.M m)) ∘ T.r) = fun r : Row => TC.mlt (TC.mom r) m := by
    funext r
    exact T.mlt h (TC.mom r) m
  rw [e, List.map_map]
  obtain ⟨r, hr, hm⟩ := hp
  rw [← getLastD_map, List.map_map]
  · rfl
  · intro z
    have : r ∈ P.filter fun r => TC.mlt (TC.mom r) m := List.mem_filter.mpr ⟨hr, hm⟩
    rw [List.map_eq_nil_iff] at z
    rw [z] at this
    cases this
theorem pinchV_tr (h : 0 < T.m) {s s' : Int} (hs : ∀ a b c d, dist (diff (T.π a) (T.π b)) (diff (T.π c) (T.π d)) > s' ↔ dist (diff a b) (diff c d) > s) {d : Row} {r : List Row} (hf : T.Fin (d :: r)) (hn : Num (d :: r)) (ha : Asc (d :: r)) :
    pinchV (T.r d :: r.map T.r) s' = T.V (pinchV (d :: r) s) := by
  have e1 : pressOf (T.r d).2.f (T.r d :: r.map T.r) = (pressOf d.2.f (d :: r)).map T.r := pressOf_tr (l := d :: r) (f := d.2.f) fun q hq => hf q hq d List.mem_cons_self
  have fw0 := firstWord_tr h [] (upMom (pressOf d.2.f (d :: r)))
  rw [pinchV_eq, pinchV_eq, e1, upMom_tr, nxt_tr]
  cases hx : nxt r with
  | nil => exact fw0
  | cons q qs =>
    simp only [List.map_cons]
    rw [T.mom, ult_tr h]
    have sub : ∀ x ∈ q :: qs, x ∈ d :: r := fun x hx' => List.mem_cons_of_mem _ (nxt_mem (by rw [hx]; exact hx'))
    split
    · exact fw0
    · have e2 : pressOf (T.r q).2.f (T.r q :: qs.map T.r) = (pressOf q.2.f (q :: qs)).map T.r := pressOf_tr (l := q :: qs) (f := q.2.f) fun x hx' => hf x (sub x hx') q (sub q List.mem_cons_self)
      have hh := hereOf_tr (T := T) h (P := pressOf d.2.f (d :: r)) (m := TC.mom q) (by
        obtain ⟨l', e⟩ := pressOf_head (d := d) (l := r)
        exact ⟨d, by rw [e]; exact List.mem_cons_self, ha.lt (nxt_mem (by rw [hx]; exact List.mem_cons_self))⟩)
      rw [e2, hh, T.p, ← List.map_append, sortR_tr, pinchLoop_tr h hs, upMom_tr, upOf_tr h, firstWord_tr h]
      intro x hx'
      have hx2 := (sortR_perm _).mem_iff.mp hx'
      have hxm : x ∈ d :: r := by
        rcases List.mem_append.mp hx2 with z | z
        · exact (pressOf_mem z).1
        · exact sub x (pressOf_mem z).1
      refine ⟨fun z => ?_, fun z => List.mem_map_of_mem z⟩
      obtain ⟨y, hy, e⟩ := List.mem_map.mp z
      have : y = x := hn.tell y (pressOf_mem hy).1 x hxm (show (T.r y).1 = (T.r x).1 by rw [e])
      rw [← this]; exact hy
def KRel (T : Tr) : Kind → Kind → Prop
  | .touch, .touch => True
  | .tap t s, .tap t' s' => t' = T.m * t ∧ ∀ p q, dist (T.π p) (T.π q) > s' ↔ dist p q > s
  | .taps c t g s, .taps c' t' g' s' => c' = c ∧ t' = T.m * t ∧ g' = T.m * g ∧ ∀ p q, dist (T.π p) (T.π q) > s' ↔ dist p q > s
  | .long t s, .long t' s' => t' = T.m * t ∧ ∀ p q, dist (T.π p) (T.π q) > s' ↔ dist p q > s
  | .drag a s, .drag a' s' => ∀ p q, far a' (T.π p) (T.π q) > s' ↔ far a p q > s
  | .pinch s, .pinch s' => ∀ a b c d, dist (diff (T.π a) (T.π b)) (diff (T.π c) (T.π d)) > s' ↔ dist (diff a b) (diff c d) > s
  | _, _ => False
theorem word_tr (h : 0 < T.m) {k k' : Kind} (hk : KRel T k k') {d : Row} {r : List Row} (hf : T.Fin (d :: r)) (hn : Num (d :: r)) (ha : Asc (d :: r)) : wordMom k' (T.r d :: r.map T.r) = T.V (wordMom k (d :: r)) := by
  cases k <;> cases k' <;> first | exact hk.elim | skip
  · rfl
  · obtain ⟨rfl, hs⟩ := hk
    show some ((held (T.r d :: r.map T.r) _ _).2, (held (T.r d :: r.map T.r) _ _).1) = _
    rw [held_tr h hf hs]; rfl
  · obtain ⟨rfl, rfl, rfl, hs⟩ := hk
    exact tapsV_tr h hs _ d r hf
  · obtain ⟨rfl, hs⟩ := hk
    show some (decide ((held (T.r d :: r.map T.r) _ _).1 = (T.m * d.2.t + T.c + T.m * _, -1)), (held (T.r d :: r.map T.r) _ _).1) = _
    rw [held_tr h hf hs]
    rename_i time slop slop'
    show some (decide (T.M (held (d :: r) time slop).1 = (T.m * d.2.t + T.c + T.m * time, -1)), T.M (held (d :: r) time slop).1) = some (decide ((held (d :: r) time slop).1 = (d.2.t + time, -1)), T.M (held (d :: r) time slop).1)
    have e : T.M (held (d :: r) time slop).1 = (T.m * d.2.t + T.c + T.m * time, -1) ↔ (held (d :: r) time slop).1 = (d.2.t + time, -1) := by
      generalize (held (d :: r) time slop).1 = M
      obtain ⟨M1, M2⟩ := M
      show (T.m * M1 + T.c, M2) = (T.m * d.2.t + T.c + T.m * time, -1) ↔ _
      have e2 : T.m * d.2.t + T.c + T.m * time = T.m * (d.2.t + time) + T.c := by rw [Int.mul_add]; omega
      have e0 : (T.m * M1 + T.c = T.m * (d.2.t + time) + T.c) ↔ T.m * M1 = T.m * (d.2.t + time) := by omega
      rw [e2, Prod.mk.injEq, Prod.mk.injEq, e0, Int.mul_eq_mul_left_iff (by omega)]
    simp only [e]
  · exact dragV_tr h hk hf
  · exact pinchV_tr h hk hf hn ha
theorem enumR_map (T : Tr) : ∀ (k : Int) (l : List Ev), enumR k (l.map T.ev) = (enumR k l).map T.r
  | k, [] => rfl
  | k, e :: l => by
    show (k, T.ev e) :: enumR (k + 1) (l.map T.ev) = T.r (k, e) :: (enumR (k + 1) l).map T.r
    rw [enumR_map]; rfl
def late (m c : Int) : Option (Bool × Int × Option Int) → Option (Bool × Int × Option Int) := Option.map fun v => (v.1, m * v.2.1 + c, v.2.2)
theorem sim (T : Tr) (h : 0 < T.m) {k k' : Kind} (hk : KRel T k k') {l : List Ev} (hl : l ≠ []) (hf : ∀ a ∈ l, ∀ b ∈ l, (T.φ a.f = T.φ b.f ↔ a.f = b.f)) (hup : Up l) :
    verdict k' (l.map T.ev) = late T.m T.c (verdict k l) := by
  cases l with
  | nil => exact absurd rfl hl
  | cons e l =>
    have hw := word_tr h hk (d := (0, e)) (r := enumR 1 l) (fun a ha b hb => hf _ (enumR_mem (k := 0) (l := e :: l) ha).2.2 _ (enumR_mem (k := 0) (l := e :: l) hb).2.2) (enumR_num 0 (e :: l)) (enumR_asc 0 (e :: l) hup)
    unfold verdict
    rw [enumR_map]
    show finish (wordMom k' (T.r (0, e) :: (enumR 1 l).map T.r)) = late T.m T.c (finish (wordMom k ((0, e) :: enumR 1 l)))
    rw [hw]
    cases wordMom k ((0, e) :: enumR 1 l) with
    | none => rfl
    | some v => rfl
end
end TC
namespace TC
theorem KRel.time1 {π : Pl → Pl} {m c : Int} {φ : Int → Int} (hm : m = 1) (h1 : ∀ a p q, far a (π p) (π q) = far a p q) (h2 : ∀ a b c d, dist (diff (π a) (π b)) (diff (π c) (π d)) = dist (diff a b) (diff c d)) (k : Kind) : KRel ⟨m, c, φ, π⟩ k k := by
  subst hm
  have h0 : ∀ p q, dist (π p) (π q) = dist p q := h1 .any
  cases k with
  | touch => trivial
  | tap t s => exact ⟨by show t = 1 * t; omega, fun p q => by show dist (π p) (π q) > s ↔ _; rw [h0]⟩
  | taps c t g s => exact ⟨rfl, by show t = 1 * t; omega, by show g = 1 * g; omega, fun p q => by show dist (π p) (π q) > s ↔ _; rw [h0]⟩
  | long t s => exact ⟨by show t = 1 * t; omega, fun p q => by show dist (π p) (π q) > s ↔ _; rw [h0]⟩
  | drag a s => exact fun p q => by show far a (π p) (π q) > s ↔ _; rw [h1]
  | pinch s => exact fun a b c d => by show dist (diff (π a) (π b)) (diff (π c) (π d)) > s ↔ _; rw [h2]
def lateP (many plus : Int) : Option (Bool × Int × Option Int) → Option (Bool × Int × Option Int) := Option.map fun v => (v.1, v.2.1 * many + plus, v.2.2)
theorem late_lateP (m c : Int) (v) : late m c v = lateP m c v := by
  cases v with
  | none => rfl
  | some v => show some (v.1, m * v.2.1 + c, v.2.2) = some (v.1, v.2.1 * m + c, v.2.2); rw [Int.mul_comm]
theorem late_one (v) : late 1 0 v = v := by
  cases v with
  | none => rfl
  | some v =>
    show some (v.1, 1 * v.2.1 + 0, v.2.2) = some v
    have : 1 * v.2.1 + 0 = v.2.1 := by omega
    rw [this]
theorem law_shift (by_ : Int) (k : Kind) {l : List Ev} (hl : l ≠ []) (hup : Up l) : verdict k (l.map fun e => ⟨e.t + by_, e.f, e.w, e.x, e.y⟩) = lateP 1 by_ (verdict k l) := by
  have h := sim ⟨1, by_, id, id⟩ (show (0 : Int) < 1 by decide) (KRel.time1 rfl (fun _ _ _ => rfl) (fun _ _ _ _ => rfl) k) hl (fun _ _ _ _ => Iff.rfl) hup
  rw [← late_lateP]
  refine Eq.trans ?_ h
  congr 1
  refine List.map_congr_left fun e _ => ?_
  show (⟨e.t + by_, e.f, e.w, e.x, e.y⟩ : Ev) = ⟨1 * e.t + by_, e.f, e.w, e.x, e.y⟩
  have : e.t + by_ = 1 * e.t + by_ := by omega
  rw [this]
def slow (many : Int) : Kind → Kind
  | .tap t s => .tap (t * many) s
  | .taps c t g s => .taps c (t * many) (g * many) s
  | .long t s => .long (t * many) s
  | k => k
theorem law_slow (many t0 : Int) (hm : 0 < many) (k : Kind) {l : List Ev} (hl : l ≠ []) (hup : Up l) : verdict (slow many k) (l.map fun e => ⟨(e.t - t0) * many, e.f, e.w, e.x, e.y⟩) = lateP many (0 - many * t0) (verdict k l) := by
  have hk : KRel ⟨many, 0 - many * t0, id, id⟩ k (slow many k) := by
    cases k with
    | touch => trivial
    | tap t s => exact ⟨Int.mul_comm _ _, fun p q => Iff.rfl⟩
    | taps c t g s => exact ⟨rfl, Int.mul_comm _ _, Int.mul_comm _ _, fun p q => Iff.rfl⟩
    | long t s => exact ⟨Int.mul_comm _ _, fun p q => Iff.rfl⟩
    | drag a s => exact fun p q => Iff.rfl
    | pinch s => exact fun a b c d => Iff.rfl
  have h := sim ⟨many, 0 - many * t0, id, id⟩ hm hk hl (fun _ _ _ _ => Iff.rfl) hup
  rw [← late_lateP]
  refine Eq.trans ?_ h
  congr 1
  refine List.map_congr_left fun e _ => ?_
  show (⟨(e.t - t0) * many, e.f, e.w, e.x, e.y⟩ : Ev) = ⟨many * e.t + (0 - many * t0), e.f, e.w, e.x, e.y⟩
  have : (e.t - t0) * many = many * e.t + (0 - many * t0) := by
    rw [Int.sub_mul, Int.mul_comm e.t, Int.mul_comm t0]; omega
  rw [this]
theorem law_fingers (by_ : Int) (k : Kind) {l : List Ev} (hl : l ≠ []) (hup : Up l) (hf : ∀ e ∈ l, 0 ≤ e.f ∧ e.f ≤ 4) : verdict k (l.map fun e => ⟨e.t, (e.f + by_) % 5, e.w, e.x, e.y⟩) = verdict k l := by
  have h := sim ⟨1, 0, fun f => (f + by_) % 5, id⟩ (show (0 : Int) < 1 by decide) (KRel.time1 rfl (fun _ _ _ => rfl) (fun _ _ _ _ => rfl) k) hl (fun a ha b hb => by
    have h1 := hf a ha
    have h2 := hf b hb
    show (a.f + by_) % 5 = (b.f + by_) % 5 ↔ a.f = b.f
    omega) hup
  rw [show late (Tr.m ⟨1, 0, fun f => (f + by_) % 5, id⟩) (Tr.c ⟨1, 0, fun f => (f + by_) % 5, id⟩) (verdict k l) = verdict k l from late_one _] at h
  refine Eq.trans ?_ h
  congr 1
  refine List.map_congr_left fun e _ => ?_
  show (⟨e.t, (e.f + by_) % 5, e.w, e.x, e.y⟩ : Ev) = ⟨1 * e.t + 0, (e.f + by_) % 5, e.w, e.x, e.y⟩
  have : e.t = 1 * e.t + 0 := by omega
  rw [← this]
def place4 (way by_ : Int) (p : Pl) : Pl := if way = 0 then (by_ - p.1, p.2) else if way = 1 then (p.1, by_ - p.2) else if way = 2 then (p.2, p.1) else (p.1 + by_, p.2 - by_)
def turnA : Axis → Axis
  | .x => .y
  | .y => .x
  | .any => .any
def turnK : Kind → Kind
  | .drag a s => .drag (turnA a) s
  | k => k
theorem iabs_neg (i : Int) : iabs (-i) = iabs i := by unfold iabs; split <;> split <;> omega
theorem imax_comm (i j : Int) : imax i j = imax j i := by unfold imax; split <;> split <;> omega
theorem far_eq {a : Axis} {p q p' q' : Pl} (h1 : iabs (p.1 - q.1) = iabs (p'.1 - q'.1)) (h2 : iabs (p.2 - q.2) = iabs (p'.2 - q'.2)) : far a p q = far a p' q' := by
  cases a with
  | x => exact h1
  | y => exact h2
  | any => show imax _ _ = imax _ _; rw [h1, h2]
theorem iabs_swap {i j : Int} (h : i = -j) : iabs i = iabs j := by rw [h, iabs_neg]
theorem law_place (way by_ : Int) (k : Kind) {l : List Ev} (hl : l ≠ []) (hup : Up l) :
    verdict (if way = 2 then turnK k else k) (l.map fun e => ⟨e.t, e.f, e.w, (place4 way by_ e.p).1, (place4 way by_ e.p).2⟩) = verdict k l := by
  have fin : ∀ e : Ev, (⟨e.t, e.f, e.w, (place4 way by_ e.p).1, (place4 way by_ e.p).2⟩ : Ev) = Tr.ev ⟨1, 0, id, place4 way by_⟩ e := fun e => by
    show _ = (⟨1 * e.t + 0, e.f, e.w, (place4 way by_ e.p).1, (place4 way by_ e.p).2⟩ : Ev)
    have : e.t = 1 * e.t + 0 := by omega
    rw [← this]
  have main : ∀ k', KRel ⟨1, 0, id, place4 way by_⟩ k k' → verdict k' (l.map fun e => ⟨e.t, e.f, e.w, (place4 way by_ e.p).1, (place4 way by_ e.p).2⟩) = verdict k l := fun k' hk => by
    have h := sim ⟨1, 0, id, place4 way by_⟩ (show (0 : Int) < 1 by decide) hk hl (fun _ _ _ _ => Iff.rfl) hup
    rw [show late (Tr.m ⟨1, 0, id, place4 way by_⟩) (Tr.c ⟨1, 0, id, place4 way by_⟩) (verdict k l) = verdict k l from late_one _] at h
    refine Eq.trans ?_ h
    congr 1
    exact List.map_congr_left fun e _ => fin e
  refine main _ ?_
  by_cases w2 : way = 2
  · rw [if_pos w2]
    have e : ∀ p, place4 way by_ p = (p.2, p.1) := fun p => by
      unfold place4
      rw [if_neg (by omega), if_neg (by omega), if_pos w2]
    have hd : ∀ p q, dist (place4 way by_ p) (place4 way by_ q) = dist p q := fun p q => by
      rw [e, e]; exact imax_comm _ _
    have hdd : ∀ a b c d, dist (diff (place4 way by_ a) (place4 way by_ b)) (diff (place4 way by_ c) (place4 way by_ d)) = dist (diff a b) (diff c d) := fun a b c d => by
      rw [e, e, e, e]; exact imax_comm _ _
    cases k with
    | touch => trivial
    | tap t s => exact ⟨by show t = 1 * t; omega, fun p q => by show dist (place4 way by_ p) (place4 way by_ q) > s ↔ _; rw [hd]⟩
    | taps c t g s => exact ⟨rfl, by show t = 1 * t; omega, by show g = 1 * g; omega, fun p q => by show dist (place4 way by_ p) (place4 way by_ q) > s ↔ _; rw [hd]⟩
    | long t s => exact ⟨by show t = 1 * t; omega, fun p q => by show dist (place4 way by_ p) (place4 way by_ q) > s ↔ _; rw [hd]⟩
    | drag a s =>
      refine fun p q => ?_
      show far (turnA a) (place4 way by_ p) (place4 way by_ q) > s ↔ _
      rw [e, e]
      cases a with
      | x => exact Iff.rfl
      | y => exact Iff.rfl
      | any =>
        show imax _ _ > s ↔ imax _ _ > s
        rw [imax_comm]
    | pinch s => exact fun a b c d => by show dist (diff (place4 way by_ a) (place4 way by_ b)) (diff (place4 way by_ c) (place4 way by_ d)) > s ↔ _; rw [hdd]
  · rw [if_neg w2]
    refine KRel.time1 rfl (fun a p q => ?_) (fun a b c d => ?_) k
    · unfold place4
      split
      · exact far_eq (iabs_swap (by simp only; omega)) rfl
      · split
        · exact far_eq rfl (iabs_swap (by simp only; omega))
        · exact far_eq (by simp only; congr 1; omega) (by simp only; congr 1; omega)
    · show far .any _ _ = far .any _ _
      unfold place4
      split
      · exact far_eq (iabs_swap (by simp only [diff]; omega)) (by simp only [diff])
      · split
        · exact far_eq (by simp only [diff]) (iabs_swap (by simp only [diff]; omega))
        · exact far_eq (by simp only [diff]; congr 1; omega) (by simp only [diff]; congr 1; omega)
def wide (s' : Int) : Kind → Kind
  | .touch => .touch
  | .tap t _ => .tap t s'
  | .taps c t g _ => .taps c t g s'
  | .long t _ => .long t s'
  | .drag a _ => .drag a s'
  | .pinch _ => .pinch s'
def slopOf : Kind → Int
  | .touch => 0
  | .tap _ s => s
  | .taps _ _ _ s => s
  | .long _ s => s
  | .drag _ s => s
  | .pinch s => s
theorem iabs_mul {m : Int} (h : 0 < m) (i : Int) : iabs (i * m) = iabs i * m := by
  unfold iabs
  by_cases hi : i < 0
  · rw [if_pos hi, if_pos (by
      have := Int.mul_pos (show 0 < -i by omega) h
      rw [Int.neg_mul] at this; omega)]
    rw [Int.neg_mul]
  · rw [if_neg hi, if_neg (by
      have := Int.mul_nonneg (show 0 ≤ i by omega) (show 0 ≤ m by omega)
      omega)]
theorem imax_mul {m : Int} (h : 0 < m) (i j : Int) : imax (i * m) (j * m) = imax i j * m := by
  unfold imax
  have : j * m > i * m ↔ j > i := Int.mul_lt_mul_right h
  by_cases hj : j > i
  · rw [if_pos hj, if_pos (this.mpr hj)]
  · rw [if_neg hj, if_neg (fun z => hj (this.mp z))]
theorem scale_gt {m d s r : Int} (h : 0 < m) (h0 : 0 ≤ r) (h1 : r < m) : d * m > s * m + r ↔ d > s := by
  constructor
  · intro z
    have : s * m < d * m := by omega
    exact (Int.mul_lt_mul_right h).mp this
  · intro z
    have : (s + 1) * m ≤ d * m := Int.mul_le_mul_of_nonneg_right (by omega) (by omega)
    rw [Int.add_mul] at this
    omega
theorem law_wide (many r : Int) (hm : 0 < many) (h0 : 0 ≤ r) (h1 : r < many) (k : Kind) {l : List Ev} (hl : l ≠ []) (hup : Up l) :
    verdict (wide (slopOf k * many + r) k) (l.map fun e => ⟨e.t, e.f, e.w, e.x * many, e.y * many⟩) = verdict k l := by
  have hfar : ∀ a (p q : Pl), far a (p.1 * many, p.2 * many) (q.1 * many, q.2 * many) = far a p q * many := fun a p q => by
    have e1 : iabs (p.1 * many - q.1 * many) = iabs (p.1 - q.1) * many := by rw [← Int.sub_mul, iabs_mul hm]
    have e2 : iabs (p.2 * many - q.2 * many) = iabs (p.2 - q.2) * many := by rw [← Int.sub_mul, iabs_mul hm]
    cases a with
    | x => exact e1
    | y => exact e2
    | any => show imax _ _ = imax _ _ * many; rw [← imax_mul hm]; simp only; rw [e1, e2]
  have hs : ∀ a s (p q : Pl), far a (p.1 * many, p.2 * many) (q.1 * many, q.2 * many) > s * many + r ↔ far a p q > s := fun a s p q => by rw [hfar]; exact scale_gt hm h0 h1
  have hdiff : ∀ p q : Pl, diff (p.1 * many, p.2 * many) (q.1 * many, q.2 * many) = ((diff p q).1 * many, (diff p q).2 * many) := fun p q => by
    simp only [diff, Int.sub_mul]
  have hk : KRel ⟨1, 0, id, fun p => (p.1 * many, p.2 * many)⟩ k (wide (slopOf k * many + r) k) := by
    cases k with
    | touch => trivial
    | tap t s => exact ⟨by show t = 1 * t; omega, fun p q => hs .any s p q⟩
    | taps c t g s => exact ⟨rfl, by show t = 1 * t; omega, by show g = 1 * g; omega, fun p q => hs .any s p q⟩
    | long t s => exact ⟨by show t = 1 * t; omega, fun p q => hs .any s p q⟩
    | drag a s => exact fun p q => hs a s p q
    | pinch s =>
      refine fun a b c d => ?_
      show dist (diff (a.1 * many, a.2 * many) (b.1 * many, b.2 * many)) (diff (c.1 * many, c.2 * many) (d.1 * many, d.2 * many)) > s * many + r ↔ _
      rw [hdiff, hdiff]
      exact hs .any s (diff a b) (diff c d)
  have h := sim ⟨1, 0, id, fun p => (p.1 * many, p.2 * many)⟩ (show (0 : Int) < 1 by decide) hk hl (fun _ _ _ _ => Iff.rfl) hup
  rw [show late (Tr.m ⟨1, 0, id, fun p => (p.1 * many, p.2 * many)⟩) (Tr.c ⟨1, 0, id, fun p => (p.1 * many, p.2 * many)⟩) (verdict k l) = verdict k l from late_one _] at h
  refine Eq.trans ?_ h
  congr 1
  refine List.map_congr_left fun e _ => ?_
  show (⟨e.t, e.f, e.w, e.x * many, e.y * many⟩ : Ev) = ⟨1 * e.t + 0, e.f, e.w, e.x * many, e.y * many⟩
  have : e.t = 1 * e.t + 0 := by omega
  rw [← this]
def dragE (a : Axis) (s : Int) (press : List Ev) : Option (Bool × Int) := match press with
  | [] => none
  | d :: _ => match press.find? fun e => decide (e.w = .move) && decide (far a e.p d.p > s) with
    | some e => some (true, e.t)
    | none => match press.getLast? with
      | some u => if u.w = .up then some (false, u.t) else none
      | none => none
def pressE (f : Int) : List Ev → List Ev
  | [] => []
  | r :: rs => if r.f = f then (if r.w = .up then [r] else r :: pressE f rs) else pressE f rs
theorem pressE_of (f : Int) : ∀ l : List Row, (pressOf f l).map (·.2) = pressE f (l.map (·.2))
  | [] => rfl
  | a :: l => by
    show ((if a.2.f = f then (if a.2.w = .up then [a] else a :: pressOf f l) else pressOf f l)).map (·.2) = (if a.2.f = f then (if a.2.w = .up then [a.2] else a.2 :: pressE f (l.map (·.2))) else pressE f (l.map (·.2)))
    split
    · split
      · rfl
      · rw [List.map_cons, pressE_of]
    · exact pressE_of f l
theorem pressE_filter (f : Int) : ∀ l : List Ev, pressE f (l.filter fun e => decide (e.f = f)) = pressE f l
  | [] => rfl
  | a :: l => by
    have p1 : ∀ l, pressE f (a :: l) = (if a.f = f then (if a.w = .up then [a] else a :: pressE f l) else pressE f l) := fun _ => rfl
    by_cases h : a.f = f
    · rw [List.filter_cons_of_pos (by simpa using h), p1, p1, if_pos h, if_pos h, pressE_filter]
    · rw [List.filter_cons_of_neg (by simpa using h), p1, if_neg h, pressE_filter]
theorem enumR_map2 : ∀ (k : Int) (l : List Ev), (enumR k l).map (·.2) = l
  | k, [] => rfl
  | k, e :: l => by show e :: (enumR (k + 1) l).map (·.2) = e :: l; rw [enumR_map2]
theorem up_last {f : Int} : ∀ {l : List Row} {r : Row}, r ∈ pressOf f l → r.2.w = .up → (pressOf f l).getLast? = some r
  | [], r, h, _ => by cases h
  | a :: l, r, h, hw => by
    unfold pressOf at h ⊢
    by_cases hf : a.2.f = f
    · rw [if_pos hf] at h ⊢
      by_cases ha : a.2.w = .up
      · rw [if_pos ha] at h ⊢
        rw [List.mem_singleton] at h
        rw [h]; rfl
      · rw [if_neg ha] at h ⊢
        rcases List.mem_cons.mp h with rfl | h
        · exact absurd hw ha
        · have := up_last h hw
          cases e : pressOf f l with
          | nil => rw [e] at h; cases h
          | cons b t => rw [List.getLast?_cons_cons, ← e]; exact this
    · rw [if_neg hf] at h ⊢
      exact up_last h hw
theorem drag_events {a : Axis} {s : Int} {d : Row} {r : List Row} (hasc : Asc (d :: r)) : (dragV (d :: r) a s).map (fun v => (v.1, v.2.1)) = dragE a s (pressE d.2.f ((d :: r).map (·.2))) := by
  rw [← pressE_of]
  have hsub : (pressOf d.2.f (d :: r)).Sublist (d :: r) := pressOf_sub
  have hP : Asc (pressOf d.2.f (d :: r)) := hasc.sublist hsub
  obtain ⟨l', e⟩ := pressOf_head (d := d) (l := r)
  show (firstWord (beyond a s (pressOf d.2.f (d :: r))) (upMom (pressOf d.2.f (d :: r)))).map _ = _
  generalize hG : pressOf d.2.f (d :: r) = P at *
  subst e
  have hfind : (((d :: l').map (·.2)).find? fun e => decide (e.w = .move) && decide (far a e.p d.2.p > s)) = ((d :: l').find? fun r => decide (r.2.w = .move) && decide (far a r.2.p d.2.p > s)).map (·.2) := by
    rw [List.find?_map]; rfl
  have hbey : (beyond a s (d :: l')).head? = ((d :: l').find? fun r => decide (r.2.w = .move) && decide (far a r.2.p d.2.p > s)).map mom := by
    show (((d :: l').filter _).map mom).head? = _
    rw [List.head?_map, List.head?_filter]
  have hE : dragE a s ((d :: l').map (·.2)) = match (((d :: l').map (·.2)).find? fun e => decide (e.w = .move) && decide (far a e.p d.2.p > s)) with
    | some e => some (true, e.t)
    | none => match ((d :: l').map (·.2)).getLast? with
      | some u => if u.w = .up then some (false, u.t) else none
      | none => none := rfl
  rw [hE, hfind, List.getLast?_map]
  unfold firstWord upMom
  rw [hbey]
  cases hc : ((d :: l').find? fun r => decide (r.2.w = .move) && decide (far a r.2.p d.2.p > s)) with
  | none =>
    cases hl : (d :: l').getLast? with
    | none => rfl
    | some u =>
      simp only [Option.map_none, Option.map_some]
      by_cases hw : u.2.w = .up
      · rw [if_pos hw, if_pos hw]; rfl
      · rw [if_neg hw, if_neg hw]; rfl
  | some c =>
    have hcm : c ∈ d :: l' := List.mem_of_find?_eq_some hc
    have hcw : c.2.w = .move := by
      have h := List.find?_some hc
      rw [Bool.and_eq_true] at h
      exact of_decide_eq_true h.1
    cases hl : (d :: l').getLast? with
    | none => rfl
    | some u =>
      simp only [Option.map_some]
      by_cases hw : u.2.w = .up
      · rw [if_pos hw]
        have hne : c ≠ u := fun z => by rw [z, hw] at hcw; cases hcw
        have hcu : mlt (mom c) (mom u) = true := by
          obtain ⟨ys, hy⟩ := List.getLast?_eq_some_iff.mp hl
          rw [hy] at hP hcm
          obtain ⟨_, _, h3⟩ := List.pairwise_append.mp hP
          rcases List.mem_append.mp hcm with z | z
          · exact h3 c z u List.mem_cons_self
          · exact absurd (List.mem_singleton.mp z) hne
        simp only
        rw [if_neg (by rw [mlt_asymm hcu]; simp)]
        rfl
      · rw [if_neg hw]; rfl
def short : Option (Bool × Int × Option Int) → Option (Bool × Int) := Option.map fun v => (v.1, v.2.1)
theorem law_drag (a : Axis) (s : Int) {d : Ev} {r : List Ev} (hup : Up (d :: r)) : short (verdict (.drag a s) ((d :: r).filter fun e => decide (e.f = d.f))) = short (verdict (.drag a s) (d :: r)) := by
  have eF : (d :: r).filter (fun e => decide (e.f = d.f)) = d :: r.filter (fun e => decide (e.f = d.f)) := List.filter_cons_of_pos (by simp)
  have sh : ∀ v : Verd, short (finish v) = v.map fun v => (v.1, v.2.1) := fun v => by cases v <;> rfl
  have one : ∀ r', Up (d :: r') → short (verdict (.drag a s) (d :: r')) = dragE a s (pressE d.f (d :: r')) := fun r' hu => by
    show short (finish (dragV ((0, d) :: enumR 1 r') a s)) = _
    rw [sh, drag_events (show Asc ((0, d) :: enumR 1 r') from enumR_asc 0 (d :: r') hu)]
    show dragE a s (pressE d.f ((enumR 0 (d :: r')).map (·.2))) = _
    rw [enumR_map2]
  rw [one r hup, eF, one _ (by rw [← eF]; exact hup.sublist List.filter_sublist), ← eF, pressE_filter]
theorem law_tap (t s : Int) {l : List Ev} (hl : l ≠ []) : ∃ w1 w2 t1 t2 o1 o2, verdict (.tap t s) l = some (w1, t1, o1) ∧ verdict (.long t s) l = some (w2, t2, o2) ∧ ¬ (w1 = true ∧ w2 = true) := by
  cases l with
  | nil => exact absurd rfl hl
  | cons e l =>
    refine ⟨_, _, _, _, _, _, rfl, rfl, ?_⟩
    rintro ⟨h1, h2⟩
    have h2' := of_decide_eq_true h2
    have h1' : (held ((0, e) :: enumR 1 l) t s).2 = true := h1
    have h3 : (held ((0, e) :: enumR 1 l) t s).1 = (e.t + t, -1) := h2'
    rw [held_eq] at h1' h3
    cases eU : upMom (pressOf (0, e).2.f ((0, e) :: enumR 1 l)) with
    | none => rw [eU] at h1'; cases h1'
    | some u =>
      rw [eU] at h1' h3
      simp only at h1' h3
      split at h1'
      · rename_i hc
        rw [if_pos hc] at h3
        obtain ⟨q, hq, eq, _⟩ := upMom_some eU
        have hq' : q ∈ enumR 0 (e :: l) := (pressOf_mem hq).1
        have := (enumR_mem hq').1
        rw [← eq] at h3
        injection h3 with _ h4
        have h5 : q.1 = -1 := h4
        omega
      · cases h1'
end TC
namespace TC
abbrev FS := Int → Option Pl
def stepF (st : FS) (e : Ev) : FS := fun f => if f = e.f then (if e.w = .up then none else some e.p) else st f
def tickOk (last : Option Int) (t : Int) : Prop := match last with
  | none => True
  | some l => l ≤ t
structure EvOk (st : FS) (last : Option Int) (e : Ev) : Prop where
  tick : tickOk last e.t
  fin : 0 ≤ e.f ∧ e.f ≤ 4
  down : e.w = .down ↔ st e.f = none
  up : e.w = .up → st e.f = some e.p
def okR (st : FS) (last : Option Int) : List Ev → Prop
  | [] => True
  | e :: es => EvOk st last e ∧ okR (stepF st e) (some e.t) es
def st0 : FS := fun _ => none
structure Valid (l : List Ev) : Prop where
  ok : okR st0 none l
  len : l.length ≤ 400
theorem okR_app : ∀ {st : FS} {last : Option Int} {a b : List Ev}, okR st last (a ++ b) → okR st last a
  | st, last, [], b, _ => trivial
  | st, last, e :: a, b, h => ⟨h.1, okR_app h.2⟩
theorem Valid.take {a b : List Ev} (h : Valid (a ++ b)) : Valid a := ⟨okR_app h.ok, by have := h.len; rw [List.length_append] at this; omega⟩
theorem okR_up : ∀ {l : List Ev} {st : FS} {last : Option Int}, okR st last l → Up l ∧ ∀ e ∈ l, tickOk last e.t
  | [], st, last, _ => ⟨List.Pairwise.nil, fun _ h => nomatch h⟩
  | e :: l, st, last, h => by
    obtain ⟨h1, h2⟩ := okR_up h.2
    refine ⟨List.pairwise_cons.mpr ⟨fun b hb => h2 b hb, h1⟩, fun b hb => ?_⟩
    rcases List.mem_cons.mp hb with rfl | hb
    · exact h.1.tick
    · have h3 := h2 b hb
      have h4 := h.1.tick
      cases last with
      | none => trivial
      | some l0 =>
        have h5 : e.t ≤ b.t := h3
        have h6 : l0 ≤ e.t := h4
        show l0 ≤ b.t
        omega
theorem Valid.ups {l : List Ev} (h : Valid l) : Up l := (okR_up h.ok).1
theorem okR_fin : ∀ {l : List Ev} {st : FS} {last : Option Int}, okR st last l → ∀ e ∈ l, 0 ≤ e.f ∧ e.f ≤ 4
  | [], _, _, _ => fun _ h => nomatch h
  | e :: l, st, last, h => fun b hb => by
    rcases List.mem_cons.mp hb with rfl | hb
    · exact h.1.fin
    · exact okR_fin h.2 b hb
theorem Valid.fin {l : List Ev} (h : Valid l) : ∀ e ∈ l, 0 ≤ e.f ∧ e.f ≤ 4 := okR_fin h.ok
def stAt (st : FS) (l : List Ev) : FS := l.foldl stepF st
def lastAt (last : Option Int) : List Ev → Option Int
  | [] => last
  | e :: es => lastAt (some e.t) es
theorem okR_snoc : ∀ {a : List Ev} {st : FS} {last : Option Int} {e : Ev}, okR st last a → EvOk (stAt st a) (lastAt last a) e → okR st last (a ++ [e])
  | [], st, last, e, _, h => ⟨h, trivial⟩
  | b :: a, st, last, e, h, k => ⟨h.1, okR_snoc h.2 k⟩
theorem stAt_snoc (st : FS) (a : List Ev) (e : Ev) : stAt st (a ++ [e]) = stepF (stAt st a) e := by
  unfold stAt; rw [List.foldl_append]; rfl
theorem lastAt_snoc : ∀ (a : List Ev) (last : Option Int) (e : Ev), lastAt last (a ++ [e]) = some e.t
  | [], _, _ => rfl
  | b :: a, last, e => lastAt_snoc a (some b.t) e
theorem okR_tr {T : Tr} (hm : 0 ≤ T.m) (hφ : ∀ a b : Int, 0 ≤ a ∧ a ≤ 4 → 0 ≤ b ∧ b ≤ 4 → (T.φ a = T.φ b ↔ a = b)) (hr : ∀ a : Int, 0 ≤ a ∧ a ≤ 4 → 0 ≤ T.φ a ∧ T.φ a ≤ 4) :
    ∀ {l : List Ev} {st st' : FS} {last : Option Int}, (∀ f, 0 ≤ f ∧ f ≤ 4 → st' (T.φ f) = (st f).map T.π) → okR st last l → okR st' (last.map fun t => T.m * t + T.c) (l.map T.ev)
  | [], _, _, _, _, _ => trivial
  | e :: l, st, st', last, hs, h => by
    refine ⟨⟨?_, hr _ h.1.fin, ?_, ?_⟩, ?_⟩
    · have := h.1.tick
      cases last with
      | none => trivial
      | some l0 =>
        have h1 : l0 ≤ e.t := this
        show T.m * l0 + T.c ≤ T.m * e.t + T.c
        have := Int.mul_le_mul_of_nonneg_left h1 hm
        omega
    · show e.w = .down ↔ st' (T.φ e.f) = none
      rw [hs _ h.1.fin, h.1.down]
      cases st e.f <;> simp
    · intro hw
      show st' (T.φ e.f) = some (T.π e.p)
      rw [hs _ h.1.fin, h.1.up hw]; rfl
    · refine okR_tr hm hφ hr (last := some e.t) (fun f hf => ?_) h.2
      show (if T.φ f = T.φ e.f then (if e.w = .up then none else some (T.π e.p)) else st' (T.φ f)) = (if f = e.f then (if e.w = .up then none else some e.p) else st f).map T.π
      by_cases hfe : f = e.f
      · rw [if_pos hfe, if_pos ((hφ _ _ hf h.1.fin).mpr hfe)]
        split <;> rfl
      · rw [if_neg hfe, if_neg (fun z => hfe ((hφ _ _ hf h.1.fin).mp z)), hs f hf]
theorem Valid.tr {l : List Ev} (h : Valid l) (T : Tr) (hm : 0 ≤ T.m) (hφ : ∀ a b : Int, 0 ≤ a ∧ a ≤ 4 → 0 ≤ b ∧ b ≤ 4 → (T.φ a = T.φ b ↔ a = b)) (hr : ∀ a : Int, 0 ≤ a ∧ a ≤ 4 → 0 ≤ T.φ a ∧ T.φ a ≤ 4) : Valid (l.map T.ev) :=
  ⟨okR_tr (st := st0) (st' := st0) (last := none) hm hφ hr (fun _ _ => rfl) h.ok, by rw [List.length_map]; exact h.len⟩
theorem Valid.shift {l : List Ev} (h : Valid l) (by_ : Int) : Valid (l.map fun e => ⟨e.t + by_, e.f, e.w, e.x, e.y⟩) := by
  have := h.tr ⟨1, by_, id, id⟩ (show (0 : Int) ≤ 1 by decide) (fun _ _ _ _ => Iff.rfl) (fun _ h => h)
  rw [show (l.map fun e => (⟨e.t + by_, e.f, e.w, e.x, e.y⟩ : Ev)) = l.map (Tr.ev ⟨1, by_, id, id⟩) from List.map_congr_left fun e _ => by
    show _ = (⟨1 * e.t + by_, e.f, e.w, e.x, e.y⟩ : Ev)
    have : e.t + by_ = 1 * e.t + by_ := by omega
    rw [this]]
  exact this
theorem Valid.slow {l : List Ev} (h : Valid l) (many t0 : Int) (hm : 0 < many) : Valid (l.map fun e => ⟨(e.t - t0) * many, e.f, e.w, e.x, e.y⟩) := by
  have := h.tr ⟨many, 0 - many * t0, id, id⟩ (show (0 : Int) ≤ many by omega) (fun _ _ _ _ => Iff.rfl) (fun _ h => h)
  rw [show (l.map fun e => (⟨(e.t - t0) * many, e.f, e.w, e.x, e.y⟩ : Ev)) = l.map (Tr.ev ⟨many, 0 - many * t0, id, id⟩) from List.map_congr_left fun e _ => by
    show _ = (⟨many * e.t + (0 - many * t0), e.f, e.w, e.x, e.y⟩ : Ev)
    have : (e.t - t0) * many = many * e.t + (0 - many * t0) := by
      rw [Int.sub_mul, Int.mul_comm e.t, Int.mul_comm t0]; omega
    rw [this]]
  exact this
theorem Valid.fingers {l : List Ev} (h : Valid l) (by_ : Int) : Valid (l.map fun e => ⟨e.t, (e.f + by_) % 5, e.w, e.x, e.y⟩) := by
  have := h.tr ⟨1, 0, fun f => (f + by_) % 5, id⟩ (show (0 : Int) ≤ 1 by decide) (fun a b h1 h2 => by
    show (a + by_) % 5 = (b + by_) % 5 ↔ a = b
    omega) (fun a _ => by show 0 ≤ (a + by_) % 5 ∧ (a + by_) % 5 ≤ 4; omega)
  rw [show (l.map fun e => (⟨e.t, (e.f + by_) % 5, e.w, e.x, e.y⟩ : Ev)) = l.map (Tr.ev ⟨1, 0, fun f => (f + by_) % 5, id⟩) from List.map_congr_left fun e _ => by
    show _ = (⟨1 * e.t + 0, (e.f + by_) % 5, e.w, e.x, e.y⟩ : Ev)
    have : e.t = 1 * e.t + 0 := by omega
    rw [← this]]
  exact this
theorem Valid.place {l : List Ev} (h : Valid l) (π : Pl → Pl) : Valid (l.map fun e => ⟨e.t, e.f, e.w, (π e.p).1, (π e.p).2⟩) := by
  have := h.tr ⟨1, 0, id, π⟩ (show (0 : Int) ≤ 1 by decide) (fun _ _ _ _ => Iff.rfl) (fun _ h => h)
  rw [show (l.map fun e => (⟨e.t, e.f, e.w, (π e.p).1, (π e.p).2⟩ : Ev)) = l.map (Tr.ev ⟨1, 0, id, π⟩) from List.map_congr_left fun e _ => by
    show _ = (⟨1 * e.t + 0, e.f, e.w, (π e.p).1, (π e.p).2⟩ : Ev)
    have : e.t = 1 * e.t + 0 := by omega
    rw [← this]]
  exact this
theorem okR_filter (f : Int) : ∀ {l : List Ev} {st st' : FS} {last last' : Option Int}, st' f = st f → (∀ t, tickOk last t → tickOk last' t) → okR st last l → okR st' last' (l.filter fun e => decide (e.f = f))
  | [], _, _, _, _, _, _, _ => trivial
  | e :: l, st, st', last, last', hs, hl, h => by
    by_cases he : e.f = f
    · rw [List.filter_cons_of_pos (by simpa using he)]
      refine ⟨⟨hl _ h.1.tick, h.1.fin, by rw [h.1.down, he, hs], fun hw => by rw [he, hs, ← he]; exact h.1.up hw⟩, okR_filter f (last := some e.t) ?_ (fun _ z => z) h.2⟩
      show (if f = e.f then _ else _) = (if f = e.f then _ else _)
      rw [if_pos he.symm, if_pos he.symm]
    · rw [List.filter_cons_of_neg (by simpa using he)]
      refine okR_filter f (st := stepF st e) (last := some e.t) ?_ (fun t ht => ?_) h.2
      · show st' f = (if f = e.f then _ else st f)
        rw [if_neg (fun z => he z.symm), hs]
      · refine hl t ?_
        have h1 := h.1.tick
        cases last with
        | none => trivial
        | some l0 =>
          have h2 : l0 ≤ e.t := h1
          have h3 : e.t ≤ t := ht
          show l0 ≤ t
          omega
theorem Valid.own {l : List Ev} (h : Valid l) (f : Int) : Valid (l.filter fun e => decide (e.f = f)) :=
  ⟨okR_filter f rfl (fun _ z => z) h.ok, Nat.le_trans (List.length_filter_le _ _) h.len⟩
theorem slow_ok {k : Kind} (h : k.Ok) {many : Int} (hm : 0 < many) (ht : match k with | .tap t _ => t * many ≤ 1000000000 | .taps _ t g _ => t * many ≤ 1000000000 ∧ g * many ≤ 1000000000 | .long t _ => t * many ≤ 1000000000 | _ => True) : (slow many k).Ok := by
  have mul1 : ∀ t : Int, 1 ≤ t → 1 ≤ t * many := fun t h1 => by
    have := Int.mul_le_mul_of_nonneg_right h1 (show 0 ≤ many by omega)
    omega
  cases k with
  | touch => trivial
  | tap t s => exact ⟨mul1 _ h.1, ht, h.2.2.1, h.2.2.2⟩
  | taps c t g s => exact ⟨h.1, mul1 _ h.2.1, ht.1, mul1 _ h.2.2.2.1, ht.2, h.2.2.2.2.2⟩
  | long t s => exact ⟨mul1 _ h.1, ht, h.2.2.1, h.2.2.2⟩
  | drag a s => exact h
  | pinch s => exact h
theorem turn_ok {k : Kind} (h : k.Ok) : (turnK k).Ok := by cases k <;> exact h
theorem wide_ok {k : Kind} (h : k.Ok) {s' : Int} (h0 : 0 ≤ s') (h1 : s' ≤ 1000000000) : (wide s' k).Ok := by
  cases k with
  | touch => trivial
  | tap t s => exact ⟨h.1, h.2.1, h0, h1⟩
  | taps c t g s => exact ⟨h.1, h.2.1, h.2.2.1, h.2.2.2.1, h.2.2.2.2.1, h0, h1⟩
  | long t s => exact ⟨h.1, h.2.1, h0, h1⟩
  | drag a s => exact ⟨h0, h1⟩
  | pinch s => exact ⟨h0, h1⟩
end TC
set_option maxRecDepth 100000
set_option maxHeartbeats 4000000
namespace K20
open PySem PySem.Spec PyProof.Rows L2 Evl TC
def top (i : Nat) : Stmt := PySem.Challenge.pw_touchcontest_k20_whole_verdicts_seen_oth.main.body.getD i (.Pass ⟨0, 0, 0, 0⟩)
def wayS : Way → Str
  | .down => "down"
  | .move => "move"
  | .up => "up"
def plD (p : Pl) : PyData := .tuple [.int p.1, .int p.2]
def evD (e : Ev) : PyData := .tuple [.int e.t, .int e.f, .str (wayS e.w), plD e.p]
def rowD (r : TC.Row) : PyData := .tuple [.int r.1, evD r.2]
def momD (m : Mom) : PyData := .tuple [.int m.1, .int m.2]
def rowsD (l : List TC.Row) : PyData := .list (l.map rowD)
theorem wayS_up (w : Way) : decide (wayS w = "up") = decide (w = .up) := by cases w <;> decide +kernel
theorem wayS_down (w : Way) : decide (wayS w = "down") = decide (w = .down) := by cases w <;> decide +kernel
theorem wayS_move (w : Way) : decide (wayS w = "move") = decide (w = .move) := by cases w <;> decide +kernel
theorem atD_map {α : Type} {g : α → PyData} {l : List α} {i : Nat} {r : α} (h : l[i]? = some r) : atD (l.map g) (i : Int) = some (g r) := by
  unfold atD
  exact atI_nat (by rw [List.getElem?_map, h]; rfl)
theorem atD_last {α : Type} {g : α → PyData} {l : List α} {r : α} (h : l.getLast? = some r) : atD (l.map g) (-1) = some (g r) := by
  obtain ⟨ys, e⟩ := List.getLast?_eq_some_iff.mp h
  unfold atD
  rw [e, List.map_append]
  exact atI_last _ _
theorem cutD_drop {ds : List PyData} {i : Nat} (h : i ≤ ds.length) : cutD ds (some (i : Int)) none = ds.drop i := by
  unfold cutD
  rw [HT.sIx_nat, HT.sIx_none, Nat.min_eq_left h]
  exact List.take_of_length_le (by rw [List.length_drop]; exact Nat.le_refl _)
theorem cutD_take {ds : List PyData} {i : Nat} (h : i ≤ ds.length) : cutD ds none (some (i : Int)) = ds.take i := by
  unfold cutD
  rw [HT.sIx_nat, HT.sIx_none, Nat.min_eq_left h]
  rfl
theorem drop_cons {α : Type} {l : List α} {i : Nat} {r : α} {rest : List α} (h : l.drop i = r :: rest) : l[i]? = some r ∧ i < l.length := by
  have h1 : (l.drop i)[0]? = some r := by rw [h]; rfl
  rw [List.getElem?_drop] at h1
  have h2 : l[i]? = some r := h1
  exact ⟨h2, (List.getElem?_eq_some_iff.mp h2).1⟩
structure Txt (mg : Str → Option Value) : Prop where
  isinstance : mg "isinstance" = none
  int : mg "int" = none
  bool : mg "bool" = none
  tuple : mg "tuple" = none
  len : mg "len" = none
  all : mg "all" = none
  str : mg "str" = none
  list : mg "list" = none
  enumerate : mg "enumerate" = none
  max : mg "max" = none
  abs : mg "abs" = none
  range : mg "range" = none
  min : mg "min" = none
  sorted : mg "sorted" = none
  CLOCK : ∃ t, mg "CLOCK" = some (.int (-1) t)
  GREATEST : ∃ t, mg "GREATEST" = some (.int 1000000000 t)
  MOST : ∃ t, mg "MOST_EVENTS" = some (.int 400 t)
  LAST : ∃ t, mg "LAST_FINGER" = some (.int 4 t)
section
variable {P : Program} {w : World} {K : PySem.W.Frag} {mg : Str → Option Value} {base : Heap}
abbrev sMom : Stmt := top 20
theorem scMom : FnScope ["row", "number", "event"] ["row"] (defScope sMom) := ⟨rfl, rfl, rfl, by decide +kernel, rfl, by decide +kernel, by decide +kernel⟩
def rMom : List PyData → PyData → Prop := fun ds d => ∃ r : TC.Row, ds = [rowD r] ∧ d = momD (mom r)
theorem ok_mom {f : Addr} {fd : FuncData} (F : Fun K "moment_of" "moment_of" sMom f fd) : FnOk P w K mg base CX0 1 f fd ["row"] (spP rMom) := by
  refine fnP F scMom (by rintro ds d ⟨r, rfl, rfl⟩; rfl) (fun cdv A outer s H E hr ds d h => ?_)
  obtain ⟨r, rfl, rfl⟩ := h
  refine dss_cons (ds_asg ?_)
  refine de_name (i := 0) rfl (.inl rfl) rfl ?_
  refine dg_tup rfl rfl (dgs_cons (dg_name (i := 1) scMom.nd rfl (.inl rfl) ⟨_, rfl⟩ (dgs_cons (dg_name (i := 2) scMom.nd rfl (.inl rfl) ⟨_, rfl⟩ (dgs_nil ?_)))))
  refine dss_one (ds_ret ?_)
  refine de_tup ?_
  refine da_cons ?_
  refine de_ix ?_
  refine de_name (i := 2) rfl (.inl rfl) rfl ?_
  refine de_int ?_
  refine ⟨_, _, _, (by first | exact .inr rfl | exact .inl rfl), rfl, rfl, ?_⟩
  refine da_cons ?_
  refine de_name (i := 1) rfl (.inl rfl) rfl ?_
  refine da_nil ?_
  refine ⟨(by simp only [List.length_cons, List.length_nil]; decide), ?_⟩
  rfl
abbrev sDist : Stmt := top 21
theorem scDist : FnScope ["one", "other"] ["one", "other"] (defScope sDist) := ⟨rfl, rfl, rfl, by decide +kernel, rfl, by decide +kernel, by decide +kernel⟩
def rDist : List PyData → PyData → Prop := fun ds d => ∃ p q : Pl, ds = [plD p, plD q] ∧ d = .int (dist p q)
theorem ok_dist {f : Addr} {fd : FuncData} (T : Txt mg) (F : Fun K "distance" "distance" sDist f fd) : FnOk P w K mg base CX0 1 f fd ["one", "other"] (spP rDist) := by
  refine fnP F scDist (by rintro ds d ⟨p, q, rfl, rfl⟩; rfl) (fun cdv A outer s H E hr ds d h => ?_)
  obtain ⟨p, q, rfl, rfl⟩ := h
  refine dss_one ?_
  refine ds_ret ?_
  refine de_max2 rfl rfl T.max ?_
  refine de_abs rfl T.abs ?_
  refine de_sub ?_
  refine de_ix ?_
  refine de_name (i := 0) rfl (.inl rfl) rfl ?_
  refine de_int ?_
  refine ⟨_, _, _, (by first | exact .inr rfl | exact .inl rfl), rfl, rfl, ?_⟩
  refine de_ix ?_
  refine de_name (i := 1) rfl (.inl rfl) rfl ?_
  refine de_int ?_
  refine ⟨_, _, _, (by first | exact .inr rfl | exact .inl rfl), rfl, rfl, ?_⟩
  refine ⟨_, _, rfl, rfl, ?_⟩
  refine ⟨_, rfl, ?_⟩
  refine de_abs rfl T.abs ?_
  refine de_sub ?_
  refine de_ix ?_
  refine de_name (i := 0) rfl (.inl rfl) rfl ?_
  refine de_int ?_
  refine ⟨_, _, _, (by first | exact .inr rfl | exact .inl rfl), rfl, rfl, ?_⟩
  refine de_ix ?_
  refine de_name (i := 1) rfl (.inl rfl) rfl ?_
  refine de_int ?_
  refine ⟨_, _, _, (by first | exact .inr rfl | exact .inl rfl), rfl, rfl, ?_⟩
  refine ⟨_, _, rfl, rfl, ?_⟩
  refine ⟨_, rfl, ?_⟩
  refine ⟨_, _, rfl, rfl, ?_⟩
  rfl
abbrev sDiff : Stmt := top 22
theorem scDiff : FnScope ["one", "other"] ["one", "other"] (defScope sDiff) := ⟨rfl, rfl, rfl, by decide +kernel, rfl, by decide +kernel, by decide +kernel⟩
def rDiff : List PyData → PyData → Prop := fun ds d => ∃ p q : Pl, ds = [plD p, plD q] ∧ d = plD (diff p q)
theorem ok_diff {f : Addr} {fd : FuncData} (F : Fun K "difference" "difference" sDiff f fd) : FnOk P w K mg base CX0 1 f fd ["one", "other"] (spP rDiff) := by
  refine fnP F scDiff (by rintro ds d ⟨p, q, rfl, rfl⟩; rfl) (fun cdv A outer s H E hr ds d h => ?_)
  obtain ⟨p, q, rfl, rfl⟩ := h
  refine dss_one ?_
  refine ds_ret ?_
  refine de_tup ?_
  refine da_cons ?_
  refine de_sub ?_
  refine de_ix ?_
  refine de_name (i := 0) rfl (.inl rfl) rfl ?_
  refine de_int ?_
  refine ⟨_, _, _, (by first | exact .inr rfl | exact .inl rfl), rfl, rfl, ?_⟩
  refine de_ix ?_
  refine de_name (i := 1) rfl (.inl rfl) rfl ?_
  refine de_int ?_
  refine ⟨_, _, _, (by first | exact .inr rfl | exact .inl rfl), rfl, rfl, ?_⟩
  refine ⟨_, _, rfl, rfl, ?_⟩
  refine da_cons ?_
  refine de_sub ?_
  refine de_ix ?_
  refine de_name (i := 0) rfl (.inl rfl) rfl ?_
  refine de_int ?_
  refine ⟨_, _, _, (by first | exact .inr rfl | exact .inl rfl), rfl, rfl, ?_⟩
  refine de_ix ?_
  refine de_name (i := 1) rfl (.inl rfl) rfl ?_
  refine de_int ?_
  refine ⟨_, _, _, (by first | exact .inr rfl | exact .inl rfl), rfl, rfl, ?_⟩
  refine ⟨_, _, rfl, rfl, ?_⟩
  refine da_nil ?_
  refine ⟨(by simp only [List.length_cons, List.length_nil]; decide), ?_⟩
  rfl
abbrev sPress : Stmt := top 23
theorem scPress : FnScope ["rows", "index", "finger", "found", "row"] ["rows", "index"] (defScope sPress) := ⟨rfl, rfl, rfl, by decide +kernel, rfl, by decide +kernel, by decide +kernel⟩
def rPress : List PyData → PyData → Prop := fun ds d => ∃ (rows : List TC.Row) (i : Nat) (r : TC.Row) (rest : List TC.Row), ds = [rowsD rows, .int i] ∧ rows.length ≤ 1000 ∧ rows.drop i = r :: rest ∧ d = rowsD (pressOf r.2.f (r :: rest))
theorem pressOf_step (f : Int) {s : List TC.Row} {k : Nat} {r : TC.Row} (h : s[k]? = some r) : pressOf f (s.drop k) = if r.2.f = f then (if r.2.w = .up then [r] else r :: pressOf f (s.drop (k + 1))) else pressOf f (s.drop (k + 1)) := by
  obtain ⟨hk, e⟩ := List.getElem?_eq_some_iff.mp h
  rw [List.drop_eq_getElem_cons hk, e]
  rfl
theorem ok_press {f : Addr} {fd : FuncData} (F : Fun K "press_from" "press_from" sPress f fd) : FnOk P w K mg base CX0 1 f fd ["rows", "index"] (spP rPress) := by
  have sc := scPress
  refine fnP F scPress (by rintro ds d ⟨rows, i, r, rest, rfl, _, _, rfl⟩; rfl) (fun cdv A outer s H E hr ds d h => ?_)
  obtain ⟨rows, i, r, rest, rfl, hlen, hdrop, rfl⟩ := h
  obtain ⟨hi, hil⟩ := drop_cons hdrop
  refine dss_cons ?_
  refine ds_parO (i := 2) (j := 3) rfl sc.nd rfl rfl (by decide) rfl rfl ⟨_, rfl⟩ ⟨_, rfl⟩ ?_
  refine de_ix ?_
  refine de_ix ?_
  refine de_ix ?_
  refine de_name (i := 0) rfl (.inl rfl) rfl ?_
  refine de_name (i := 1) rfl (.inl rfl) rfl ?_
  refine ⟨_, _, _, .inl rfl, rfl, atD_map hi, ?_⟩
  refine de_int ?_
  refine ⟨_, _, _, (by first | exact .inr rfl | exact .inl rfl), rfl, rfl, ?_⟩
  refine de_int ?_
  refine ⟨_, _, _, (by first | exact .inr rfl | exact .inl rfl), rfl, rfl, ?_⟩
  refine nl_lst (da_nil ⟨by decide, fun p hp => ?_⟩)
  refine dss_cut (PL := fun Γ ω => ∃ o, Γ = [some (.dat (rowsD rows)), some (.dat (.int i)), some (.dat (.int r.2.f)), some (.own p), o] ∧ ω = setO ow0 p (.lst ((pressOf r.2.f (r :: rest)).map rowD))) ?_ ?_
  · refine ds_forL .never rfl ?_
    refine de_slL ?_
    refine de_name (i := 0) rfl (.inl rfl) rfl ?_
    refine de_name (i := 1) rfl (.inl rfl) rfl ?_
    refine ⟨_, rfl, ?_⟩
    refine ⟨_, rfl, ?_⟩
    rw [cutD_drop (by rw [List.length_map]; omega), ← List.map_drop, hdrop]
    refine ⟨_, rfl, fun k Γ ω => ∃ o acc, Γ = [some (.dat (rowsD rows)), some (.dat (.int i)), some (.dat (.int r.2.f)), some (.own p), o] ∧ ω = setO ow0 p (.lst (acc.map rowD)) ∧ acc.length ≤ k ∧ pressOf r.2.f (r :: rest) = acc ++ pressOf r.2.f ((r :: rest).drop k), ⟨none, [], rfl, rfl, Nat.le_refl _, rfl⟩, ?_, ?_⟩
    · rintro k d Γ ω hk ⟨o, acc, rfl, rfl, hacc, hpr⟩
      rw [List.getElem?_map] at hk
      cases hq : (r :: rest)[k]? with
      | none => rw [hq] at hk; cases hk
      | some q =>
        rw [hq] at hk
        have e : rowD q = d := by simpa using hk
        subst e
        have hkl : k < (r :: rest).length := (List.getElem?_eq_some_iff.mp hq).1
        have hrl : (r :: rest).length ≤ rows.length := by rw [← hdrop, List.length_drop]; omega
        have st := pressOf_step r.2.f hq
        refine dg_name (i := 4) sc.nd rfl (.inl rfl) ⟨_, rfl⟩ ?_
        refine dss_one ?_
        refine ds_if ?_
        refine dt_cmp ?_
        refine dc_eqI ?_
        refine de_ix ?_
        refine de_ix ?_
        refine de_name (i := 4) rfl (.inl rfl) rfl ?_
        refine de_int ?_
        refine ⟨_, _, _, (by first | exact .inr rfl | exact .inl rfl), rfl, rfl, ?_⟩
        refine de_int ?_
        refine ⟨_, _, _, (by first | exact .inr rfl | exact .inl rfl), rfl, rfl, ?_⟩
        refine de_name (i := 2) rfl (.inl rfl) rfl ?_
        refine ⟨_, _, rfl, rfl, ?_⟩
        refine ⟨_, rfl, ?_⟩
        refine ite2 (fun hf => ?_) (fun hf => ?_)
        · have hf' : q.2.f = r.2.f := of_decide_eq_true hf
          rw [if_pos hf'] at st
          refine dss_cons ?_
          refine ds_append (i := 3) rfl (.inl rfl) rfl ?_ setO_same
          refine de_name (i := 4) rfl (.inl rfl) rfl ?_
          refine ⟨_, setO_same, by rw [List.length_map]; omega, ?_⟩
          refine dss_one ?_
          refine ds_if ?_
          refine dt_cmp ?_
          refine dc_eqT ?_
          refine de_ix ?_
          refine de_ix ?_
          refine de_name (i := 4) rfl (.inl rfl) rfl ?_
          refine de_int ?_
          refine ⟨_, _, _, (by first | exact .inr rfl | exact .inl rfl), rfl, rfl, ?_⟩
          refine de_int ?_
          refine ⟨_, _, _, (by first | exact .inr rfl | exact .inl rfl), rfl, rfl, ?_⟩
          refine de_str ?_
          refine ⟨_, _, rfl, rfl, ?_⟩
          refine ⟨_, rfl, ?_⟩
          rw [wayS_up]
          refine ite2 (fun hw => ?_) (fun hw => ?_)
          · rw [if_pos (of_decide_eq_true hw)] at st
            refine dss_one (ds_break ?_)
            refine ⟨_, rfl, ?_⟩
            rw [setO_setO, hpr, st, List.map_append]; rfl
          · rw [if_neg (fun z => hw (decide_eq_true z))] at st
            refine dss_nil ?_
            refine ⟨_, acc ++ [q], rfl, ?_, by rw [List.length_append]; exact Nat.succ_le_succ hacc, ?_⟩
            · rw [setO_setO, List.map_append]; rfl
            · rw [hpr, st, List.append_assoc]; rfl
        · rw [if_neg (fun z => hf (decide_eq_true z))] at st
          refine dss_nil ?_
          refine ⟨_, acc, rfl, rfl, by omega, ?_⟩
          rw [hpr, st]
    · rintro Γ ω ⟨o, acc, rfl, rfl, hacc, hpr⟩
      refine ⟨o, rfl, ?_⟩
      rw [hpr, List.length_map, List.drop_length]
      show _ = setO ow0 p (.lst ((acc ++ []).map rowD))
      rw [List.append_nil]
  · rintro Γ ω ⟨o, rfl, rfl⟩
    refine dss_one (ds_ret ?_)
    exact de_own (i := 3) rfl (.inl rfl) rfl setO_same rfl
end
end K20
set_option maxRecDepth 100000
set_option maxHeartbeats 4000000
namespace K20
open PySem PySem.Spec PyProof.Rows L2 Evl TC
theorem mom_lt (a b : Mom) : PySem.W.dataLt (momD a) (momD b) = mlt a b := by
  refine (PySem.W.dataLt_ii a.1 a.2 b.1 b.2).trans ?_
  cases h : mlt a b with
  | true => exact decide_eq_true (mlt_iff.mp h)
  | false => exact decide_eq_false (mlt_niff.mp h)
theorem mom_alike (a b : Mom) : PySem.W.alike (momD a) (momD b) = true := by
  simp [momD, PySem.W.alike, PySem.W.alikeAll]
theorem mom_ne (a : Mom) : momD a ≠ .none := by intro h; cases h
theorem mom_depth (a : Mom) : (momD a).depth = 1 := by simp [momD, PyData.depth, PyData.depthAll]
theorem mom_lay (a : Mom) : (momD a).canLay0 = true := by simp [momD, PyData.canLay0, PyData.canLayAll0]
theorem mom_shaped (a : Mom) : SeqAt.shaped (momD a) = true := by
  show ((momD a).canLay0 && decide ((momD a).depth ≤ 64)) = true
  rw [mom_lay, mom_depth]; rfl
theorem mom_eqv (a b : Mom) : PyData.eqv (momD a) (momD b) = decide (a = b) := by
  obtain ⟨a1, a2⟩ := a
  obtain ⟨b1, b2⟩ := b
  simp [momD, PyData.eqv, PyData.eqvAll, Bool.beq_eq_decide_eq]
theorem depthAll_le {ds : List PyData} {n : Nat} (h : ∀ d ∈ ds, d.depth ≤ n) : PyData.depthAll ds ≤ n := by
  induction ds with
  | nil => simp [PyData.depthAll]
  | cons d ds ih =>
    have h1 := h d List.mem_cons_self
    have h2 := ih fun e he => h e (List.mem_cons_of_mem _ he)
    simp only [PyData.depthAll]
    omega
theorem canLayAll_of {ds : List PyData} (h : ∀ d ∈ ds, d.canLay0 = true) : PyData.canLayAll0 ds = true := by
  induction ds with
  | nil => simp [PyData.canLayAll0]
  | cons d ds ih =>
    simp only [PyData.canLayAll0]
    rw [h d List.mem_cons_self, ih fun e he => h e (List.mem_cons_of_mem _ he)]; rfl
theorem minD_moms (a : Mom) (l : List Mom) : PySem.W.minD (momD a) (l.map momD) = momD (minM (a :: l)) := by
  unfold PySem.W.minD
  show _ = momD (l.foldl (fun m x => if mlt x m = true then x else m) a)
  induction l generalizing a with
  | nil => rfl
  | cons b l ih =>
    rw [List.map_cons, List.foldl_cons, List.foldl_cons, mom_lt]
    by_cases h : mlt b a = true
    · rw [if_pos h, if_pos h]; exact ih b
    · rw [if_neg h, if_neg h]; exact ih a
def optMomD : Option Mom → PyData
  | none => .none
  | some m => momD m
def axS : Axis → Str
  | .x => "x"
  | .y => "y"
  | .any => "any"
def wordS : Bool → Str
  | true => "claim"
  | false => "fail"
def verdD : Verd → PyData
  | none => .none
  | some (w, m) => .tuple [.str (wordS w), momD m]
section
variable {P : Program} {w : World} {K : PySem.W.Frag} {mg : Str → Option Value} {base : Heap}
abbrev sNext : Stmt := top 24
theorem scNext : FnScope ["rows", "index", "later"] ["rows", "index"] (defScope sNext) := ⟨rfl, rfl, rfl, by decide +kernel, rfl, by decide +kernel, by decide +kernel⟩
def nextD (rows : List TC.Row) (i : Nat) : PyData := match nxt (rows.drop (i + 1)) with
  | [] => .none
  | _ :: qs => .int ((rows.length - (qs.length + 1) : Nat) : Int)
def rNext : List PyData → PyData → Prop := fun ds d => ∃ (rows : List TC.Row) (i : Nat), ds = [rowsD rows, .int i] ∧ rows.length ≤ 1000 ∧ i < rows.length ∧ d = nextD rows i
theorem ok_next {f : Addr} {fd : FuncData} (T : Txt mg) (F : Fun K "next_down" "next_down" sNext f fd) : FnOk P w K mg base CX0 1 f fd ["rows", "index"] (spP rNext) := by
  have sc := scNext
  refine fnP F scNext (by rintro ds d ⟨rows, i, rfl, _, _, rfl⟩; rfl) (fun cdv A outer s H E hr ds d h => ?_)
  obtain ⟨rows, i, rfl, hlen, hi, rfl⟩ := h
  refine dss_cut (PL := fun Γ ω => nxt (rows.drop (i + 1)) = []) ?_ ?_
  ·
    refine ds_forR2 .never rfl rfl T.range ?_
    refine de_add ?_
    refine de_name (i := 1) rfl (.inl rfl) rfl ?_
    refine de_int ?_
    refine ⟨_, _, rfl, rfl, ?_⟩
    refine de_len rfl T.len ?_
    refine de_name (i := 0) rfl (.inl rfl) rfl ?_
    refine ⟨_, .inl rfl, ?_⟩
    rw [List.length_map]
    refine ⟨_, _, rfl, rfl, by omega, by omega, by omega, by omega, fun k Γ ω => (∃ o, Γ = [some (.dat (rowsD rows)), some (.dat (.int i)), o]) ∧ nxt (rows.drop (i + 1)) = nxt (rows.drop (i + 1 + k)), ⟨⟨none, rfl⟩, rfl⟩, ?_, ?_⟩
    · rintro k Γ ω hk ⟨⟨o, rfl⟩, hn⟩
      have hkl : i + 1 + k < rows.length := by omega
      obtain ⟨q, hq⟩ : ∃ q, rows[i + 1 + k]? = some q := ⟨_, List.getElem?_eq_getElem hkl⟩
      have hdr : rows.drop (i + 1 + k) = q :: rows.drop (i + 1 + (k + 1)) := by
        obtain ⟨_, e⟩ := List.getElem?_eq_some_iff.mp hq
        rw [List.drop_eq_getElem_cons hkl, e]; rfl
      have ei : (i : Int) + 1 + (k : Int) = ((i + 1 + k : Nat) : Int) := by omega
      rw [ei]
      refine dg_name (i := 2) sc.nd rfl (.inl rfl) ⟨_, rfl⟩ ?_
      refine dss_one ?_
      refine ds_if ?_
      refine dt_cmp ?_
      refine dc_eqT ?_
      refine de_ix ?_
      refine de_ix ?_
      refine de_ix ?_
      refine de_name (i := 0) rfl (.inl rfl) rfl ?_
      refine de_name (i := 2) rfl (.inl rfl) rfl ?_
      refine ⟨_, _, _, .inl rfl, rfl, atD_map hq, ?_⟩
      refine de_int ?_
      refine ⟨_, _, _, (by first | exact .inr rfl | exact .inl rfl), rfl, rfl, ?_⟩
      refine de_int ?_
      refine ⟨_, _, _, (by first | exact .inr rfl | exact .inl rfl), rfl, rfl, ?_⟩
      refine de_str ?_
      refine ⟨_, _, rfl, rfl, ?_⟩
      refine ⟨_, rfl, ?_⟩
      rw [wayS_down]
      refine ite2 (fun hw => ?_) (fun hw => ?_)
      · refine dss_one ?_
        refine ds_ret ?_
        refine de_name (i := 2) rfl (.inl rfl) rfl ?_
        have hw' := of_decide_eq_true hw
        show PyData.int _ = nextD rows i
        unfold nextD
        have e1 : nxt (q :: rows.drop (i + 1 + (k + 1))) = q :: rows.drop (i + 1 + (k + 1)) := by
          show (if q.2.w = .down then _ else _) = _
          rw [if_pos hw']
        rw [hn, hdr, e1]
        show PyData.int _ = PyData.int ((rows.length - ((rows.drop (i + 1 + (k + 1))).length + 1) : Nat) : Int)
        rw [List.length_drop]
        congr 1
        omega
      · refine dss_nil ?_
        refine ⟨⟨_, rfl⟩, ?_⟩
        rw [hn, hdr]
        show (if q.2.w = .down then _ else _) = _
        rw [if_neg (fun z => hw (decide_eq_true z))]
    · rintro Γ ω ⟨_, hn⟩
      have : ((rows.length : Int) - ((i : Int) + 1)).toNat = rows.length - (i + 1) := by omega
      rw [this] at hn
      rw [hn, List.drop_eq_nil_of_le (by omega)]; rfl
  · rintro Γ ω hn
    refine dss_one ?_
    refine ds_ret ?_
    refine de_non ?_
    show PyData.none = nextD rows i
    unfold nextD
    rw [hn]
abbrev sUp : Stmt := top 25
theorem scUp : FnScope ["press"] ["press"] (defScope sUp) := ⟨rfl, rfl, rfl, by decide +kernel, rfl, by decide +kernel, by decide +kernel⟩
def rUp : List PyData → PyData → Prop := fun ds d => ∃ (press : List TC.Row), ds = [rowsD press] ∧ press ≠ [] ∧ d = optMomD (upMom press)
theorem ok_up {f : Addr} {fd : FuncData} (Cmom : Cal P w K mg base 1 "moment_of" (spP rMom)) (F : Fun K "up_moment" "up_moment" sUp f fd) : FnOk P w K mg base CX0 2 f fd ["press"] (spP rUp) := by
  refine fnP F scUp (by rintro ds d ⟨rows, rfl, _, rfl⟩; rfl) (fun cdv A outer s H E hr ds d h => ?_)
  obtain ⟨press, rfl, hne, rfl⟩ := h
  obtain ⟨r, hl⟩ : ∃ r, press.getLast? = some r := by
    cases e : press.getLast? with
    | some r => exact ⟨r, rfl⟩
    | none => exact absurd (List.getLast?_eq_none_iff.mp e) hne
  have hu : upMom press = if r.2.w = .up then some (mom r) else none := by unfold upMom; rw [hl]
  refine dss_one ?_
  refine ds_ret ?_
  refine de_if ?_
  refine dt_cmp ?_
  refine dc_eqT ?_
  refine de_ix ?_
  refine de_ix ?_
  refine de_ix ?_
  refine de_name (i := 0) rfl (.inl rfl) rfl ?_
  refine de_neg ?_
  refine de_int ?_
  refine ⟨_, rfl, ?_⟩
  refine ⟨_, _, _, .inl rfl, rfl, atD_last hl, ?_⟩
  refine de_int ?_
  refine ⟨_, _, _, (by first | exact .inr rfl | exact .inl rfl), rfl, rfl, ?_⟩
  refine de_int ?_
  refine ⟨_, _, _, (by first | exact .inr rfl | exact .inl rfl), rfl, rfl, ?_⟩
  refine de_str ?_
  refine ⟨_, _, rfl, rfl, ?_⟩
  refine ⟨_, rfl, ?_⟩
  rw [wayS_up]
  refine ite2 (fun hw => ?_) (fun hw => ?_)
  · refine de_call Cmom (hr.mono (by decide)) rfl ?_
    refine da_cons ?_
    refine de_ix ?_
    refine de_name (i := 0) rfl (.inl rfl) rfl ?_
    refine de_neg ?_
    refine de_int ?_
    refine ⟨_, rfl, ?_⟩
    refine ⟨_, _, _, .inl rfl, rfl, atD_last hl, ?_⟩
    refine da_nil ?_
    refine ⟨_, ⟨r, rfl, rfl⟩, ?_⟩
    show momD (mom r) = optMomD (upMom press)
    rw [hu, if_pos (of_decide_eq_true hw)]; rfl
  · refine de_non ?_
    show PyData.none = optMomD (upMom press)
    rw [hu, if_neg (fun z => hw (decide_eq_true z))]; rfl
abbrev sBey : Stmt := top 26
theorem scBey : FnScope ["press", "axis", "slop", "x", "y", "found", "row", "place", "far"] ["press", "axis", "slop"] (defScope sBey) := ⟨rfl, rfl, rfl, by decide +kernel, rfl, by decide +kernel, by decide +kernel⟩
def rBey : List PyData → PyData → Prop := fun ds d => ∃ (p0 : TC.Row) (rest : List TC.Row) (a : Axis) (slop : Int), ds = [rowsD (p0 :: rest), .str (axS a), .int slop] ∧ rest.length ≤ 1000 ∧ d = .list ((beyond a slop (p0 :: rest)).map momD)
theorem pick_far (a : Axis) (p q : Pl) : (if axS a = "any" then some (PyData.int (dist p q)) else if axS a = "y" then some (.int (iabs (p.2 - q.2))) else if axS a = "x" then some (.int (iabs (p.1 - q.1))) else none) = some (.int (far a p q)) := by
  cases a with
  | x => rw [if_neg (by decide +kernel), if_neg (by decide +kernel), if_pos (show axS .x = "x" from rfl)]; rfl
  | y => rw [if_neg (by decide +kernel), if_pos (show axS .y = "y" from rfl)]; rfl
  | any => rw [if_pos (show axS .any = "any" from rfl)]; rfl
theorem ok_bey {f : Addr} {fd : FuncData} (T : Txt mg) (Cmom : Cal P w K mg base 1 "moment_of" (spP rMom)) (Cdist : Cal P w K mg base 1 "distance" (spP rDist)) (F : Fun K "moves_beyond" "moves_beyond" sBey f fd) : FnOk P w K mg base CX0 2 f fd ["press", "axis", "slop"] (spP rBey) := by
  have sc := scBey
  refine fnP F scBey (by rintro ds d ⟨p0, rest, a, slop, rfl, _, rfl⟩; rfl) (fun cdv A outer s H E hr ds d h => ?_)
  obtain ⟨p0, rest, a, slop, rfl, hlen, rfl⟩ := h
  refine dss_cons ?_
  refine ds_asg ?_
  refine de_ix ?_
  refine de_ix ?_
  refine de_ix ?_
  refine de_name (i := 0) rfl (.inl rfl) rfl ?_
  refine de_int ?_
  refine ⟨_, _, _, .inl rfl, rfl, atD_map (i := 0) rfl, ?_⟩
  refine de_int ?_
  refine ⟨_, _, _, (by first | exact .inr rfl | exact .inl rfl), rfl, rfl, ?_⟩
  refine de_int ?_
  refine ⟨_, _, _, (by first | exact .inr rfl | exact .inl rfl), rfl, rfl, ?_⟩
  refine dg_tup rfl rfl (dgs_cons (dg_name (i := 3) sc.nd rfl (.inl rfl) ⟨_, rfl⟩ (dgs_cons (dg_name (i := 4) sc.nd rfl (.inl rfl) ⟨_, rfl⟩ (dgs_nil ?_)))))
  refine dss_cons ?_
  refine ds_setO (i := 5) sc.nd rfl (.inl rfl) ⟨_, rfl⟩ ?_
  refine nl_lst (da_nil ⟨by decide, fun p hp => ?_⟩)
  refine dss_cut (PL := fun Γ ω => ∃ o6 o7 o8, Γ = [some (.dat (rowsD (p0 :: rest))), some (.dat (.str (axS a))), some (.dat (.int slop)), some (.dat (.int p0.2.x)), some (.dat (.int p0.2.y)), some (.own p), o6, o7, o8] ∧ ω = setO ow0 p (.lst ((beyond a slop (p0 :: rest)).map momD))) ?_ ?_
  ·
    refine ds_forL .never rfl ?_
    refine de_name (i := 0) rfl (.inl rfl) rfl ?_
    refine ⟨_, rfl, fun k Γ ω => ∃ o6 o7 o8, Γ = [some (.dat (rowsD (p0 :: rest))), some (.dat (.str (axS a))), some (.dat (.int slop)), some (.dat (.int p0.2.x)), some (.dat (.int p0.2.y)), some (.own p), o6, o7, o8] ∧ ω = setO ow0 p (.lst (((((p0 :: rest).take k).filter fun r => decide (r.2.w = .move) && decide (far a r.2.p p0.2.p > slop)).map mom).map momD)), ⟨none, none, none, rfl, rfl⟩, ?_, ?_⟩
    · rintro k d Γ ω hk ⟨o6, o7, o8, rfl, rfl⟩
      rw [List.getElem?_map] at hk
      cases hq : (p0 :: rest)[k]? with
      | none => rw [hq] at hk; cases hk
      | some q =>
        rw [hq] at hk
        have e : rowD q = d := by simpa using hk
        subst e
        have hkl : k < (p0 :: rest).length := (List.getElem?_eq_some_iff.mp hq).1
        have htk : (p0 :: rest).take (k + 1) = (p0 :: rest).take k ++ [q] := by
          rw [List.take_succ, hq]; rfl
        have hacc : ((((p0 :: rest).take k).filter fun r => decide (r.2.w = .move) && decide (far a r.2.p p0.2.p > slop)).map mom).length ≤ 1001 := by
          rw [List.length_map]
          have h1 := List.length_filter_le (fun r : TC.Row => decide (r.2.w = .move) && decide (far a r.2.p p0.2.p > slop)) ((p0 :: rest).take k)
          rw [List.length_take, List.length_cons] at h1
          omega
        refine dg_name (i := 6) sc.nd rfl (.inl rfl) ⟨_, rfl⟩ ?_
        refine dss_cons ?_
        refine ds_set (i := 7) sc.nd rfl (.inl rfl) ⟨_, rfl⟩ ?_
        refine de_ix ?_
        refine de_ix ?_
        refine de_name (i := 6) rfl (.inl rfl) rfl ?_
        refine de_int ?_
        refine ⟨_, _, _, (by first | exact .inr rfl | exact .inl rfl), rfl, rfl, ?_⟩
        refine de_int ?_
        refine ⟨_, _, _, (by first | exact .inr rfl | exact .inl rfl), rfl, rfl, ?_⟩
        refine dss_cons ?_
        refine ds_set (i := 8) sc.nd rfl (.inl rfl) ⟨_, rfl⟩ ?_
        refine de_pick3 (hu_of hr) ?_
        refine de_abs rfl T.abs ?_
        refine de_sub ?_
        refine de_ix ?_
        refine de_name (i := 7) rfl (.inl rfl) rfl ?_
        refine de_int ?_
        refine ⟨_, _, _, (by first | exact .inr rfl | exact .inl rfl), rfl, rfl, ?_⟩
        refine de_name (i := 3) rfl (.inl rfl) rfl ?_
        refine ⟨_, _, rfl, rfl, ?_⟩
        refine ⟨_, rfl, ?_⟩
        refine de_abs rfl T.abs ?_
        refine de_sub ?_
        refine de_ix ?_
        refine de_name (i := 7) rfl (.inl rfl) rfl ?_
        refine de_int ?_
        refine ⟨_, _, _, (by first | exact .inr rfl | exact .inl rfl), rfl, rfl, ?_⟩
        refine de_name (i := 4) rfl (.inl rfl) rfl ?_
        refine ⟨_, _, rfl, rfl, ?_⟩
        refine ⟨_, rfl, ?_⟩
        refine de_call Cdist (hr.mono (by decide)) rfl ?_
        refine da_cons ?_
        refine de_name (i := 7) rfl (.inl rfl) rfl ?_
        refine da_cons ?_
        refine de_tup ?_
        refine da_cons ?_
        refine de_name (i := 3) rfl (.inl rfl) rfl ?_
        refine da_cons ?_
        refine de_name (i := 4) rfl (.inl rfl) rfl ?_
        refine da_nil ?_
        refine ⟨(by simp only [List.length_cons, List.length_nil]; decide), ?_⟩
        refine da_nil ?_
        refine ⟨_, ⟨q.2.p, p0.2.p, rfl, rfl⟩, ?_⟩
        refine de_name (i := 1) rfl (.inl rfl) rfl ?_
        refine ⟨_, _, rfl, pick_far a q.2.p p0.2.p, ?_⟩
        refine dss_one ?_
        refine ds_if ?_
        refine dt_and ?_
        refine dt_cmp ?_
        refine dc_eqT ?_
        refine de_ix ?_
        refine de_ix ?_
        refine de_name (i := 6) rfl (.inl rfl) rfl ?_
        refine de_int ?_
        refine ⟨_, _, _, (by first | exact .inr rfl | exact .inl rfl), rfl, rfl, ?_⟩
        refine de_int ?_
        refine ⟨_, _, _, (by first | exact .inr rfl | exact .inl rfl), rfl, rfl, ?_⟩
        refine de_str ?_
        refine ⟨_, _, rfl, rfl, ?_⟩
        refine ⟨_, rfl, ?_⟩
        rw [wayS_move]
        refine ite2 (fun hw => ?_) (fun hw => ?_)
        · refine dt_cmp ?_
          refine dc_gt ?_
          refine de_name (i := 8) rfl (.inl rfl) rfl ?_
          refine de_name (i := 2) rfl (.inl rfl) rfl ?_
          refine ⟨_, _, rfl, rfl, ?_⟩
          refine ⟨_, rfl, ?_⟩
          refine ite2 (fun hf => ?_) (fun hf => ?_)
          · refine dss_one ?_
            refine ds_append (i := 5) rfl (.inl rfl) rfl ?_ setO_same
            refine de_call Cmom (hr.mono (by decide)) rfl ?_
            refine da_cons ?_
            refine de_name (i := 6) rfl (.inl rfl) rfl ?_
            refine da_nil ?_
            refine ⟨_, ⟨q, rfl, rfl⟩, ?_⟩
            refine ⟨_, setO_same, by rw [List.length_map]; omega, ?_⟩
            refine ⟨_, _, _, rfl, ?_⟩
            rw [setO_setO, htk, List.filter_append, List.filter_cons_of_pos (by rw [hw]; exact hf), List.map_append, List.map_append]; rfl
          · refine dss_nil ?_
            refine ⟨_, _, _, rfl, ?_⟩
            rw [htk, List.filter_append, List.filter_cons_of_neg (by rw [hw]; exact hf), List.filter_nil, List.append_nil]
        · refine iteF ?_
          refine dss_nil ?_
          refine ⟨_, _, _, rfl, ?_⟩
          rw [htk, List.filter_append, List.filter_cons_of_neg (by simp only [Bool.and_eq_true]; exact fun z => hw z.1), List.filter_nil, List.append_nil]
    · rintro Γ ω ⟨o6, o7, o8, rfl, rfl⟩
      refine ⟨o6, o7, o8, rfl, ?_⟩
      rw [List.length_map, List.take_length]; rfl
  · rintro Γ ω ⟨o6, o7, o8, rfl, rfl⟩
    refine dss_one (ds_ret ?_)
    exact de_own (i := 5) rfl (.inl rfl) rfl setO_same rfl
end
end K20
set_option maxRecDepth 100000
set_option maxHeartbeats 4000000
namespace K20
open PySem PySem.Spec PyProof.Rows L2 Evl TC
theorem Room.lt {k : Nat} {A : Around} (hr : Room k A) {n : Nat} (h : n ≤ 200) : A.units + n < cLine := by
  have := hr.un
  omega
theorem alikeAll_moms (l : List Mom) : PySem.W.AlikeAll (l.map momD) :=
  ⟨fun x hx y hy => by
    obtain ⟨a, _, rfl⟩ := List.mem_map.mp hx
    obtain ⟨b, _, rfl⟩ := List.mem_map.mp hy
    exact mom_alike a b, fun x hx => by
    obtain ⟨a, _, rfl⟩ := List.mem_map.mp hx
    exact mom_ne a⟩
theorem lay_moms (l : List Mom) : PyData.canLayAll0 (l.map momD) = true := canLayAll_of fun d hd => by
  obtain ⟨a, _, rfl⟩ := List.mem_map.mp hd
  exact mom_lay a
theorem depth_moms (l : List Mom) : PyData.depthAll (l.map momD) ≤ 1 := depthAll_le fun d hd => by
  obtain ⟨a, _, rfl⟩ := List.mem_map.mp hd
  rw [mom_depth]; exact Nat.le_refl _
theorem nxt_spec {rows : List TC.Row} {i : Nat} {q : TC.Row} {qs : List TC.Row} (hi : i < rows.length) (h : nxt (rows.drop (i + 1)) = q :: qs) : rows.drop (rows.length - (qs.length + 1)) = q :: qs := by
  obtain ⟨pre, e⟩ := nxt_suffix (rows.drop (i + 1))
  rw [h] at e
  have hl : rows.length - (i + 1) = pre.length + (qs.length + 1) := by
    have := congrArg List.length e
    rw [List.length_drop, List.length_append, List.length_cons] at this
    exact this
  have e2 : rows.drop (rows.length - (qs.length + 1)) = (rows.drop (i + 1)).drop pre.length := by
    rw [List.drop_drop]
    congr 1
    omega
  rw [e2, e, List.drop_left]
theorem rest_drop {rows : List TC.Row} {i : Nat} {d : TC.Row} {r : List TC.Row} (h : rows.drop i = d :: r) : rows.drop (i + 1) = r := by
  rw [← List.drop_drop, h]; rfl
theorem nextD_nil {rows : List TC.Row} {i : Nat} (h : nxt (rows.drop (i + 1)) = []) : nextD rows i = .none := by unfold nextD; rw [h]
theorem nextD_cons {rows : List TC.Row} {i : Nat} {q : TC.Row} {qs : List TC.Row} (h : nxt (rows.drop (i + 1)) = q :: qs) : nextD rows i = .int ((rows.length - (qs.length + 1) : Nat) : Int) := by unfold nextD; rw [h]
section
variable {P : Program} {w : World} {K : PySem.W.Frag} {mg : Str → Option Value} {base : Heap}
abbrev sHeld : Stmt := top 27
theorem scHeld : FnScope ["rows", "index", "time", "slop", "press", "found", "later", "up", "first"] ["rows", "index", "time", "slop"] (defScope sHeld) := ⟨rfl, rfl, rfl, by decide +kernel, rfl, by decide +kernel, by decide +kernel⟩
def rHeld : List PyData → PyData → Prop := fun ds d => ∃ (rows : List TC.Row) (i : Nat) (d0 : TC.Row) (rest : List TC.Row) (time slop : Int), ds = [rowsD rows, .int i, .int time, .int slop] ∧ rows.length ≤ 900 ∧ rows.drop i = d0 :: rest ∧ d = .tuple [momD (held (d0 :: rest) time slop).1, .bool (held (d0 :: rest) time slop).2]
theorem ok_held {f : Addr} {fd : FuncData} (T : Txt mg) (Cmom : Cal P w K mg base 1 "moment_of" (spP rMom)) (Cpress : Cal P w K mg base 1 "press_from" (spP rPress)) (Cnext : Cal P w K mg base 1 "next_down" (spP rNext)) (Cup : Cal P w K mg base 2 "up_moment" (spP rUp)) (Cbey : Cal P w K mg base 2 "moves_beyond" (spP rBey)) (F : Fun K "held_end" "held_end" sHeld f fd) :
    FnOk P w K mg base CX0 3 f fd ["rows", "index", "time", "slop"] (spP rHeld) := by
  have sc := scHeld
  refine fnP F scHeld (by rintro ds d ⟨rows, i, d0, rest, time, slop, rfl, _, _, rfl⟩; rfl) (fun cdv A outer s H E hr ds d h => ?_)
  obtain ⟨rows, i, d0, rest, time, slop, rfl, hlen, hdrop, rfl⟩ := h
  obtain ⟨hi, hil⟩ := drop_cons hdrop
  obtain ⟨tc, hcl⟩ := T.CLOCK
  obtain ⟨pr, hpr⟩ := pressOf_head (d := d0) (l := rest)
  have hrl : (d0 :: rest).length ≤ rows.length := by rw [← hdrop, List.length_drop]; omega
  have hprl : pr.length ≤ 900 := by
    have h1 := (pressOf_sub (f := d0.2.f) (l := d0 :: rest)).length_le
    rw [hpr, List.length_cons] at h1
    omega
  have hbl : (beyond .any slop (d0 :: pr)).length ≤ 901 := by
    show (((d0 :: pr).filter _).map mom).length ≤ 901
    rw [List.length_map]
    have h1 := List.length_filter_le (fun r : TC.Row => decide (r.2.w = .move) && decide (far .any r.2.p d0.2.p > slop)) (d0 :: pr)
    rw [List.length_cons] at h1
    omega
  refine dss_cons ?_
  refine ds_set (i := 4) sc.nd rfl (.inl rfl) ⟨_, rfl⟩ ?_
  refine de_call Cpress (hr.mono (by decide)) rfl ?_
  refine da_cons ?_
  refine de_name (i := 0) rfl (.inl rfl) rfl ?_
  refine da_cons ?_
  refine de_name (i := 1) rfl (.inl rfl) rfl ?_
  refine da_nil ?_
  refine ⟨_, ⟨rows, i, d0, rest, rfl, by omega, hdrop, rfl⟩, ?_⟩
  rw [hpr]
  refine dss_cons ?_
  refine ds_setO (i := 5) sc.nd rfl (.inl rfl) ⟨_, rfl⟩ ?_
  refine nl_cat ?_
  refine de_call Cbey (hr.mono (by decide)) rfl ?_
  refine da_cons ?_
  refine de_name (i := 4) rfl (.inl rfl) rfl ?_
  refine da_cons ?_
  refine de_str ?_
  refine da_cons ?_
  refine de_name (i := 3) rfl (.inl rfl) rfl ?_
  refine da_nil ?_
  refine ⟨_, ⟨d0, pr, .any, slop, rfl, by omega, rfl⟩, ?_⟩
  refine de_lst ?_
  refine da_cons ?_
  refine de_tup ?_
  refine da_cons ?_
  refine de_add ?_
  refine de_ix ?_
  refine de_ix ?_
  refine de_ix ?_
  refine de_name (i := 0) rfl (.inl rfl) rfl ?_
  refine de_name (i := 1) rfl (.inl rfl) rfl ?_
  refine ⟨_, _, _, .inl rfl, rfl, atD_map hi, ?_⟩
  refine de_int ?_
  refine ⟨_, _, _, (by first | exact .inr rfl | exact .inl rfl), rfl, rfl, ?_⟩
  refine de_int ?_
  refine ⟨_, _, _, (by first | exact .inr rfl | exact .inl rfl), rfl, rfl, ?_⟩
  refine de_name (i := 2) rfl (.inl rfl) rfl ?_
  refine ⟨_, _, rfl, rfl, ?_⟩
  refine da_cons ?_
  refine de_globI rfl hcl ⟨_, rfl⟩ ?_
  refine da_nil ?_
  refine ⟨(by simp only [List.length_cons, List.length_nil]; decide), ?_⟩
  refine da_nil ?_
  refine ⟨(by simp only [List.length_cons, List.length_nil]; decide), ?_⟩
  refine ⟨_, _, rfl, rfl, by rw [List.length_map]; simp only [List.length_cons, List.length_nil]; omega, fun p hp => ?_⟩
  refine dss_cons ?_
  refine ds_par (i := 6) (j := 7) rfl sc.nd rfl rfl (by decide) rfl rfl ⟨_, rfl⟩ ⟨_, rfl⟩ ?_
  refine de_call Cnext (hr.mono (by decide)) rfl ?_
  refine da_cons ?_
  refine de_name (i := 0) rfl (.inl rfl) rfl ?_
  refine da_cons ?_
  refine de_name (i := 1) rfl (.inl rfl) rfl ?_
  refine da_nil ?_
  refine ⟨_, ⟨rows, i, rfl, by omega, hil, rfl⟩, ?_⟩
  refine de_call Cup (hr.mono (by decide)) rfl ?_
  refine da_cons ?_
  refine de_name (i := 4) rfl (.inl rfl) rfl ?_
  refine da_nil ?_
  refine ⟨_, ⟨d0 :: pr, rfl, by simp, rfl⟩, ?_⟩
  refine dss_cut (PL := fun Γ ω => Γ = [some (.dat (rowsD rows)), some (.dat (.int i)), some (.dat (.int time)), some (.dat (.int slop)), some (.dat (rowsD (d0 :: pr))), some (.own p), some (.dat (nextD rows i)), some (.dat (optMomD (upMom (d0 :: pr)))), none] ∧
      ω = setO ow0 p (.lst ((beyond .any slop (d0 :: pr) ++ [(d0.2.t + time, -1)] ++ heads (nxt rest)).map momD))) ?_ ?_
  · refine ds_if ?_
    refine dt_cmp ?_
    refine dc_notN ?_
    refine de_name (i := 6) rfl (.inl rfl) rfl ?_
    refine ⟨_, rfl, ?_⟩
    have hrd := rest_drop hdrop
    cases hn : nxt rest with
    | nil =>
      have e := nextD_nil (rows := rows) (i := i) (by rw [hrd]; exact hn)
      rw [e]
      refine iteF ?_
      refine dss_nil ?_
      refine ⟨rfl, ?_⟩
      show _ = setO ow0 p (.lst ((beyond .any slop (d0 :: pr) ++ [(d0.2.t + time, -1)] ++ []).map momD))
      rw [List.append_nil, List.map_append]; rfl
    | cons q qs =>
      have hn' : nxt (rows.drop (i + 1)) = q :: qs := by rw [hrd]; exact hn
      have e := nextD_cons hn'
      rw [e]
      refine iteT ?_
      refine dss_one ?_
      refine ds_append (i := 5) rfl (.inl rfl) rfl ?_ setO_same
      refine de_call Cmom (hr.mono (by decide)) rfl ?_
      refine da_cons ?_
      refine de_ix ?_
      refine de_name (i := 0) rfl (.inl rfl) rfl ?_
      refine de_name (i := 6) rfl (.inl rfl) rfl ?_
      refine ⟨_, _, _, .inl rfl, rfl, atD_map (drop_cons (nxt_spec hil hn')).1, ?_⟩
      refine da_nil ?_
      refine ⟨_, ⟨q, rfl, rfl⟩, ?_⟩
      refine ⟨_, setO_same, by rw [List.length_append, List.length_map]; simp only [List.length_cons, List.length_nil]; omega, rfl, ?_⟩
      rw [setO_setO, List.map_append, List.map_append]; rfl
  · rintro Γ ω ⟨rfl, rfl⟩
    refine dss_cons ?_
    refine ds_set (i := 8) sc.nd rfl (.inl rfl) ⟨_, rfl⟩ ?_
    refine de_minD rfl rfl T.min ?_
    refine de_own (i := 5) rfl (.inl rfl) rfl setO_same ?_
    obtain ⟨a, l, hal⟩ : ∃ a l, beyond .any slop (d0 :: pr) ++ [(d0.2.t + time, -1)] ++ heads (nxt rest) = a :: l := by
      cases e : beyond .any slop (d0 :: pr) ++ [(d0.2.t + time, -1)] ++ heads (nxt rest) with
      | nil => simp at e
      | cons a l => exact ⟨a, l, rfl⟩
    have hheld : held (d0 :: rest) time slop = (match upMom (d0 :: pr) with
        | some u => if mlt u (minM (a :: l)) = true then (u, true) else (minM (a :: l), false)
        | none => (minM (a :: l), false)) := by
      rw [held_eq, hpr, hal]
      all_goals (cases upMom (d0 :: pr) <;> rfl)
    rw [hal]
    refine ⟨_, _, rfl, alikeAll_moms (a :: l), lay_moms (a :: l), Nat.lt_of_le_of_lt (Nat.add_le_add_left (depth_moms (a :: l)) _) (Room.lt hr (n := 2) (by decide)), ?_⟩
    rw [minD_moms]
    refine dss_one ?_
    refine ds_ret ?_
    refine de_if ?_
    refine dt_and ?_
    refine dt_cmp ?_
    refine dc_notN ?_
    refine de_name (i := 7) rfl (.inl rfl) rfl ?_
    refine ⟨_, rfl, ?_⟩
    have low : ∀ P' : PyData → Ow → Prop, P' (.tuple [momD (minM (a :: l)), .bool false]) (delO (setO ow0 p (.lst ((a :: l).map momD))) p) → DE (cxOf CX0 P w K mg base ["rows", "index", "time", "slop", "press", "found", "later", "up", "first"] "held_end" (defScope sHeld) f cdv A outer s H E).nox (.Tuple [.Name "first" ⟨109, 61, 109, 66⟩, .Constant (.bool false) 0 ⟨109, 68, 109, 73⟩] 0 ⟨109, 60, 109, 74⟩)
        (([some (.dat (rowsD rows)), some (.dat (.int i)), some (.dat (.int time)), some (.dat (.int slop)), some (.dat (rowsD (d0 :: pr))), some (.own p), some (.dat (nextD rows i)), some (.dat (optMomD (upMom (d0 :: pr)))), none] : Gam).set 8 (some (.dat (momD (minM (a :: l)))))) (delO (setO ow0 p (.lst ((a :: l).map momD))) p) P' := fun P' hP => by
      refine de_tup ?_
      refine da_cons ?_
      refine de_name (i := 8) rfl (.inl rfl) rfl ?_
      refine da_cons ?_
      refine de_bl ?_
      refine da_nil ?_
      exact ⟨(by simp only [List.length_cons, List.length_nil]; decide), hP⟩
    cases hum : upMom (d0 :: pr) with
    | none =>
      rw [hum] at hheld low
      refine iteF ?_
      refine iteF ?_
      refine low _ ?_
      have hh2 : held (d0 :: rest) time slop = (minM (a :: l), false) := hheld
      rw [hh2]
    | some u =>
      rw [hum] at hheld low
      refine iteT ?_
      refine dt_cmp ?_
      refine dc_ltA ?_
      refine de_name (i := 7) rfl (.inl rfl) rfl ?_
      refine de_name (i := 8) rfl (.inl rfl) rfl ?_
      refine ⟨mom_alike u _, mom_ne u, by rw [show optMomD (some u) = momD u from rfl, mom_depth, mom_depth]; exact Room.lt hr (n := 1) (by decide), ?_⟩
      refine ⟨_, rfl, ?_⟩
      rw [show optMomD (some u) = momD u from rfl, mom_lt]
      cases hc : mlt u (minM (a :: l)) with
      | true =>
        refine iteT ?_
        refine de_tup ?_
        refine da_cons ?_
        refine de_name (i := 7) rfl (.inl rfl) rfl ?_
        refine da_cons ?_
        refine de_bl ?_
        refine da_nil ?_
        refine ⟨(by simp only [List.length_cons, List.length_nil]; decide), ?_⟩
        have hh2 : held (d0 :: rest) time slop = (u, true) := hheld.trans (if_pos hc)
        rw [hh2]
      | false =>
        refine iteF ?_
        refine low _ ?_
        have hh2 : held (d0 :: rest) time slop = (minM (a :: l), false) := hheld.trans (if_neg (by rw [hc]; exact fun z => nomatch z))
        rw [hh2]
end
end K20
set_option maxRecDepth 100000
set_option maxHeartbeats 4000000
namespace K20
open PySem PySem.Spec PyProof.Rows L2 Evl TC
section
variable {X : Cx} {Γ : Gam} {ω : Ow} {a b c e : Expr} {pos : Pos}
theorem de_cut {P : PyData → Ow → Prop} {d0 : PyData} (h : DE X e Γ ω fun d ω' => d = d0 ∧ ω' = ω) (p : P d0 ω) : DE X e Γ ω P := h.mono fun d ω' ⟨h1, h2⟩ => by rw [h1, h2]; exact p
theorem dt_cut {P : Bool → Ow → Prop} {k0 : Bool} (h : DT X e Γ ω fun d ω' => d = k0 ∧ ω' = ω) (p : P k0 ω) : DT X e Γ ω P := h.mono fun d ω' ⟨h1, h2⟩ => by rw [h1, h2]; exact p
theorem dt_andV {P : Bool → Ow → Prop} {k1 k2 : Bool} (h1 : DT X a Γ ω fun d ω' => d = k1 ∧ ω' = ω) (h2 : k1 = true → DT X b Γ ω fun d ω' => d = k2 ∧ ω' = ω) (p : P (k1 && k2) ω) : DT X (.BoolOp .And [a, b] pos) Γ ω P :=
  dt_and (dt_cut h1 (by
    cases k1 with
    | true => exact iteT (dt_cut (h2 rfl) p)
    | false => exact iteF p))
theorem dt_orV {P : Bool → Ow → Prop} {k1 k2 : Bool} (h1 : DT X a Γ ω fun d ω' => d = k1 ∧ ω' = ω) (h2 : k1 = false → DT X b Γ ω fun d ω' => d = k2 ∧ ω' = ω) (p : P (k1 || k2) ω) : DT X (.BoolOp .Or [a, b] pos) Γ ω P :=
  dt_or (dt_cut h1 (by
    cases k1 with
    | true => exact iteT p
    | false => exact iteF (dt_cut (h2 rfl) p)))
theorem dt_orV3 {P : Bool → Ow → Prop} {k1 k2 k3 : Bool} (h1 : DT X a Γ ω fun d ω' => d = k1 ∧ ω' = ω) (h2 : k1 = false → DT X b Γ ω fun d ω' => d = k2 ∧ ω' = ω) (h3 : k1 = false → k2 = false → DT X c Γ ω fun d ω' => d = k3 ∧ ω' = ω) (p : P (k1 || (k2 || k3)) ω) : DT X (.BoolOp .Or [a, b, c] pos) Γ ω P :=
  dt_or3 (dt_cut h1 (by
    cases k1 with
    | true => exact iteT p
    | false =>
      refine iteF (dt_cut (h2 rfl) ?_)
      cases k2 with
      | true => exact iteT p
      | false => exact iteF (dt_cut (h3 rfl rfl) p)))
theorem de_andV {P : PyData → Ow → Prop} {k1 k2 : Bool} (h1 : DE X a Γ ω fun d ω' => d = .bool k1 ∧ ω' = ω) (h2 : k1 = true → DE X b Γ ω fun d ω' => d = .bool k2 ∧ ω' = ω) (p : P (.bool (k1 && k2)) ω) : DE X (.BoolOp .And [a, b] pos) Γ ω P :=
  de_and (de_cut h1 ⟨k1, rfl, by
    cases k1 with
    | true => exact iteT (de_cut (h2 rfl) p)
    | false => exact iteF p⟩)
theorem de_orV {P : PyData → Ow → Prop} {k1 k2 : Bool} (h1 : DE X a Γ ω fun d ω' => d = .bool k1 ∧ ω' = ω) (h2 : k1 = false → DE X b Γ ω fun d ω' => d = .bool k2 ∧ ω' = ω) (p : P (.bool (k1 || k2)) ω) : DE X (.BoolOp .Or [a, b] pos) Γ ω P :=
  de_or (de_cut h1 ⟨k1, rfl, by
    cases k1 with
    | true => exact iteT p
    | false => exact iteF (de_cut (h2 rfl) p)⟩)
theorem de_orV3 {P : PyData → Ow → Prop} {k1 k2 k3 : Bool} (h1 : DE X a Γ ω fun d ω' => d = .bool k1 ∧ ω' = ω) (h2 : k1 = false → DE X b Γ ω fun d ω' => d = .bool k2 ∧ ω' = ω) (h3 : k1 = false → k2 = false → DE X c Γ ω fun d ω' => d = .bool k3 ∧ ω' = ω) (p : P (.bool (k1 || (k2 || k3))) ω) : DE X (.BoolOp .Or [a, b, c] pos) Γ ω P :=
  de_or3 (de_cut h1 ⟨k1, rfl, by
    cases k1 with
    | true => exact iteT p
    | false =>
      refine iteF (de_cut (h2 rfl) ⟨k2, rfl, ?_⟩)
      cases k2 with
      | true => exact iteT p
      | false => exact iteF (de_cut (h3 rfl rfl) p)⟩)
theorem de_andV3 {P : PyData → Ow → Prop} {k1 k2 k3 : Bool} (h1 : DE X a Γ ω fun d ω' => d = .bool k1 ∧ ω' = ω) (h2 : k1 = true → DE X b Γ ω fun d ω' => d = .bool k2 ∧ ω' = ω) (h3 : k1 = true → k2 = true → DE X c Γ ω fun d ω' => d = .bool k3 ∧ ω' = ω) (p : P (.bool (k1 && (k2 && k3))) ω) : DE X (.BoolOp .And [a, b, c] pos) Γ ω P :=
  de_and3 (de_cut h1 ⟨k1, rfl, by
    cases k1 with
    | false => exact iteF p
    | true =>
      refine iteT (de_cut (h2 rfl) ⟨k2, rfl, ?_⟩)
      cases k2 with
      | false => exact iteF p
      | true => exact iteT (de_cut (h3 rfl rfl) p)⟩)
end
theorem lenR (l : List TC.Row) : (l.map rowD).length = l.length := List.length_map _
def fwD (claims : List Mom) (up : Option Mom) : List PyData := (claims.take 1).map (fun m => .tuple [momD m, .str "claim"]) ++ (match up with | none => [] | some u => [.tuple [momD u, .str "fail"]])
theorem take_snoc {α : Type} {l : List α} {i : Nat} {q : α} (h : l[i]? = some q) : l.take (i + 1) = l.take i ++ [q] := by rw [List.take_add_one, h]; rfl
theorem fw_one (m : Mom) (x : Str) (hx : PyData.strOk x = true) : PySem.W.AlikeAll [PyData.tuple [momD m, .str x]] ∧ PyData.canLayAll0 [PyData.tuple [momD m, .str x]] = true ∧ PyData.depthAll [PyData.tuple [momD m, .str x]] ≤ 2 := by
  refine ⟨⟨fun a ha b hb => ?_, fun a ha => ?_⟩, ?_, ?_⟩
  · rw [List.mem_singleton.mp ha, List.mem_singleton.mp hb]; simp [PySem.W.alike, PySem.W.alikeAll, momD]
  · rw [List.mem_singleton.mp ha]; intro z; cases z
  · simp [PyData.canLayAll0, PyData.canLay0, momD, hx]
  · simp [PyData.depthAll, PyData.depth, momD]
theorem fw_two (m u : Mom) (x y : Str) (hx : PyData.strOk x = true) (hy : PyData.strOk y = true) : PySem.W.AlikeAll [PyData.tuple [momD m, .str x], PyData.tuple [momD u, .str y]] ∧ PyData.canLayAll0 [PyData.tuple [momD m, .str x], PyData.tuple [momD u, .str y]] = true ∧ PyData.depthAll [PyData.tuple [momD m, .str x], PyData.tuple [momD u, .str y]] ≤ 2 := by
  refine ⟨⟨fun a ha b hb => ?_, fun a ha => ?_⟩, ?_, ?_⟩
  · rcases List.mem_cons.mp ha with rfl | ha
    · rcases List.mem_cons.mp hb with rfl | hb
      · simp [PySem.W.alike, PySem.W.alikeAll, momD]
      · rw [List.mem_singleton.mp hb]; simp [PySem.W.alike, PySem.W.alikeAll, momD]
    · rw [List.mem_singleton.mp ha]
      rcases List.mem_cons.mp hb with rfl | hb
      · simp [PySem.W.alike, PySem.W.alikeAll, momD]
      · rw [List.mem_singleton.mp hb]; simp [PySem.W.alike, PySem.W.alikeAll, momD]
  · rcases List.mem_cons.mp ha with rfl | ha
    · intro z; cases z
    · rw [List.mem_singleton.mp ha]; intro z; cases z
  · simp [PyData.canLayAll0, PyData.canLay0, momD, hx, hy]
  · simp [PyData.depthAll, PyData.depth, momD]
theorem fw_lt (c u : Mom) : PySem.W.dataLt (.tuple [momD u, .str "fail"]) (.tuple [momD c, .str "claim"]) = mlt u c := by
  rw [PySem.W.dataLt_pair (mom_alike u c) (by simp [PySem.W.alike]), mom_eqv, mom_lt]
  by_cases h : u = c
  · rw [if_pos (decide_eq_true h), h, mlt_irrefl]; decide +kernel
  · rw [if_neg (by simp [h])]
theorem fw_law (claims : List Mom) (up : Option Mom) : (fwD claims up = [] ∧ firstWord claims up = none) ∨ ∃ x xs w m, fwD claims up = x :: xs ∧ PySem.W.minD x xs = .tuple [momD m, .str (wordS w)] ∧ firstWord claims up = some (w, m) ∧ PySem.W.AlikeAll (x :: xs) ∧ PyData.canLayAll0 (x :: xs) = true ∧ PyData.depthAll (x :: xs) ≤ 2 := by
  cases claims with
  | nil =>
    cases up with
    | none => exact .inl ⟨rfl, rfl⟩
    | some u => exact .inr ⟨_, _, false, u, rfl, rfl, rfl, fw_one u _ (by decide +kernel)⟩
  | cons c l =>
    cases up with
    | none => exact .inr ⟨_, _, true, c, rfl, rfl, rfl, fw_one c _ (by decide +kernel)⟩
    | some u =>
      refine .inr ?_
      cases h : mlt u c with
      | true =>
        refine ⟨_, _, false, u, rfl, ?_, ?_, fw_two c u _ _ (by decide +kernel) (by decide +kernel)⟩
        · show (if PySem.W.dataLt (.tuple [momD u, .str "fail"]) (.tuple [momD c, .str "claim"]) = true then _ else _) = _
          rw [fw_lt, h]; rfl
        · show (if mlt u c = true then _ else _) = _
          rw [h]; rfl
      | false =>
        refine ⟨_, _, true, c, rfl, ?_, ?_, fw_two c u _ _ (by decide +kernel) (by decide +kernel)⟩
        · show (if PySem.W.dataLt (.tuple [momD u, .str "fail"]) (.tuple [momD c, .str "claim"]) = true then _ else _) = _
          rw [fw_lt, h]; rfl
        · show (if mlt u c = true then _ else _) = _
          rw [h]; rfl
theorem shaped_list {ds : List PyData} (h : PyData.canLayAll0 ds = true) (h2 : PyData.depthAll ds ≤ 63) : SeqAt.shaped (.list ds) = true := by
  show ((PyData.list ds).canLay0 && decide ((PyData.list ds).depth ≤ 64)) = true
  have e1 : (PyData.list ds).canLay0 = true := by rw [PyData.canLay0]; exact h
  have e2 : (PyData.list ds).depth ≤ 64 := by rw [PyData.depth]; omega
  rw [e1, decide_eq_true e2]; rfl
theorem shaped_tuple {ds : List PyData} (h : PyData.canLayAll0 ds = true) (h2 : PyData.depthAll ds ≤ 63) : SeqAt.shaped (.tuple ds) = true := by
  show ((PyData.tuple ds).canLay0 && decide ((PyData.tuple ds).depth ≤ 64)) = true
  have e1 : (PyData.tuple ds).canLay0 = true := by rw [PyData.canLay0]; exact h
  have e2 : (PyData.tuple ds).depth ≤ 64 := by rw [PyData.depth]; omega
  rw [e1, decide_eq_true e2]; rfl
theorem fw_shaped (claims : List Mom) (up : Option Mom) : SeqAt.shaped (.list (fwD claims up)) = true := by
  rcases fw_law claims up with ⟨hf1, hf2⟩ | ⟨x, xs, ww, mm, hf1, hmin, hf2, hal, hcl, hdp⟩
  · rw [hf1]; decide +kernel
  · rw [hf1]; exact shaped_list hcl (by omega)
theorem held_tell {s : List TC.Row} {t sl : Int} {m : Mom} {k : Bool} (h1 : (held s t sl).1 = m) (h2 : (held s t sl).2 = k) : held s t sl = (m, k) := by rw [← h1, ← h2]
section
variable {P : Program} {w : World} {K : PySem.W.Frag} {mg : Str → Option Value} {base : Heap}
abbrev sTap : Stmt := top 28
theorem scTap : FnScope ["rows", "time", "slop", "moment", "is_up"] ["rows", "time", "slop"] (defScope sTap) := ⟨rfl, rfl, rfl, by decide +kernel, rfl, by decide +kernel, by decide +kernel⟩
def rTap : List PyData → PyData → Prop := fun ds d => ∃ (d0 : TC.Row) (rest : List TC.Row) (time slop : Int), ds = [rowsD (d0 :: rest), .int time, .int slop] ∧ (d0 :: rest).length ≤ 900 ∧ d = verdD (tapV (d0 :: rest) time slop)
theorem ok_tap {f : Addr} {fd : FuncData} (T : Txt mg) (Cheld : Cal P w K mg base 3 "held_end" (spP rHeld)) (F : Fun K "verdict_of_tap" "verdict_of_tap" sTap f fd) : FnOk P w K mg base CX0 4 f fd ["rows", "time", "slop"] (spP rTap) := by
  have sc := scTap
  refine fnP F scTap (by rintro ds d ⟨d0, rest, time, slop, rfl, _, rfl⟩; rfl) (fun cdv A outer s H E hr ds d h => ?_)
  obtain ⟨d0, rest, time, slop, rfl, hlen, rfl⟩ := h
  refine dss_cons ?_
  refine ds_asg ?_
  refine de_call Cheld (hr.mono (by decide)) rfl ?_
  refine da_cons ?_
  refine de_name (i := 0) rfl (.inl rfl) rfl ?_
  refine da_cons ?_
  refine de_int ?_
  refine da_cons ?_
  refine de_name (i := 1) rfl (.inl rfl) rfl ?_
  refine da_cons ?_
  refine de_name (i := 2) rfl (.inl rfl) rfl ?_
  refine da_nil ?_
  refine ⟨_, ⟨d0 :: rest, 0, d0, rest, time, slop, rfl, hlen, rfl, rfl⟩, ?_⟩
  refine dg_tup rfl rfl (dgs_cons (dg_name (i := 3) sc.nd rfl (.inl rfl) ⟨_, rfl⟩ (dgs_cons (dg_name (i := 4) sc.nd rfl (.inl rfl) ⟨_, rfl⟩ (dgs_nil ?_)))))
  refine dss_one ?_
  refine ds_ret ?_
  refine de_tup ?_
  refine da_cons ?_
  refine de_ifS ?_
  refine dt_val ?_
  refine de_name (i := 4) rfl (.inl rfl) rfl ?_
  refine ⟨_, rfl, ?_⟩
  refine da_cons ?_
  refine de_name (i := 3) rfl (.inl rfl) rfl ?_
  refine da_nil ?_
  refine ⟨(by simp only [List.length_cons, List.length_nil]; decide), ?_⟩
  show PyData.tuple _ = PyData.tuple [.str (wordS (held (d0 :: rest) time slop).2), momD (held (d0 :: rest) time slop).1]
  cases (held (d0 :: rest) time slop).2 <;> rfl
abbrev sLong : Stmt := top 30
theorem scLong : FnScope ["rows", "time", "slop", "moment", "is_up", "clock"] ["rows", "time", "slop"] (defScope sLong) := ⟨rfl, rfl, rfl, by decide +kernel, rfl, by decide +kernel, by decide +kernel⟩
def rLong : List PyData → PyData → Prop := fun ds d => ∃ (d0 : TC.Row) (rest : List TC.Row) (time slop : Int), ds = [rowsD (d0 :: rest), .int time, .int slop] ∧ (d0 :: rest).length ≤ 900 ∧ d = verdD (longV (d0 :: rest) time slop)
theorem ok_long {f : Addr} {fd : FuncData} (T : Txt mg) (Cheld : Cal P w K mg base 3 "held_end" (spP rHeld)) (F : Fun K "verdict_of_long" "verdict_of_long" sLong f fd) : FnOk P w K mg base CX0 4 f fd ["rows", "time", "slop"] (spP rLong) := by
  have sc := scLong
  refine fnP F scLong (by rintro ds d ⟨d0, rest, time, slop, rfl, _, rfl⟩; rfl) (fun cdv A outer s H E hr ds d h => ?_)
  obtain ⟨d0, rest, time, slop, rfl, hlen, rfl⟩ := h
  obtain ⟨tc, hcl⟩ := T.CLOCK
  refine dss_cons ?_
  refine ds_asg ?_
  refine de_call Cheld (hr.mono (by decide)) rfl ?_
  refine da_cons ?_
  refine de_name (i := 0) rfl (.inl rfl) rfl ?_
  refine da_cons ?_
  refine de_int ?_
  refine da_cons ?_
  refine de_name (i := 1) rfl (.inl rfl) rfl ?_
  refine da_cons ?_
  refine de_name (i := 2) rfl (.inl rfl) rfl ?_
  refine da_nil ?_
  refine ⟨_, ⟨d0 :: rest, 0, d0, rest, time, slop, rfl, hlen, rfl, rfl⟩, ?_⟩
  refine dg_tup rfl rfl (dgs_cons (dg_name (i := 3) sc.nd rfl (.inl rfl) ⟨_, rfl⟩ (dgs_cons (dg_name (i := 4) sc.nd rfl (.inl rfl) ⟨_, rfl⟩ (dgs_nil ?_)))))
  refine dss_cons ?_
  refine ds_set (i := 5) sc.nd rfl (.inl rfl) ⟨_, rfl⟩ ?_
  refine de_tup ?_
  refine da_cons ?_
  refine de_add ?_
  refine de_ix ?_
  refine de_ix ?_
  refine de_ix ?_
  refine de_name (i := 0) rfl (.inl rfl) rfl ?_
  refine de_int ?_
  refine ⟨_, _, _, (by first | exact .inr rfl | exact .inl rfl), rfl, atD_map (i := 0) rfl, ?_⟩
  refine de_int ?_
  refine ⟨_, _, _, (by first | exact .inr rfl | exact .inl rfl), rfl, rfl, ?_⟩
  refine de_int ?_
  refine ⟨_, _, _, (by first | exact .inr rfl | exact .inl rfl), rfl, rfl, ?_⟩
  refine de_name (i := 1) rfl (.inl rfl) rfl ?_
  refine ⟨_, _, rfl, rfl, ?_⟩
  refine da_cons ?_
  refine de_globI rfl hcl ⟨_, rfl⟩ ?_
  refine da_nil ?_
  refine ⟨(by simp only [List.length_cons, List.length_nil]; decide), ?_⟩
  refine dss_one ?_
  refine ds_ret ?_
  refine de_tup ?_
  refine da_cons ?_
  refine de_ifS ?_
  refine dt_cmp ?_
  refine dc_eqD (Room.lt hr (n := 64) (by decide)) ?_
  refine de_name (i := 3) rfl (.inl rfl) rfl ?_
  refine de_name (i := 5) rfl (.inl rfl) rfl ?_
  refine ⟨mom_shaped _, mom_shaped (d0.2.t + time, -1), ?_⟩
  refine ⟨_, rfl, ?_⟩
  refine da_cons ?_
  refine de_name (i := 3) rfl (.inl rfl) rfl ?_
  refine da_nil ?_
  refine ⟨(by simp only [List.length_cons, List.length_nil]; decide), ?_⟩
  have e : PyData.eqv (momD (held (d0 :: rest) time slop).1) (.tuple [.int (d0.2.t + time), .int (-1)]) = decide ((held (d0 :: rest) time slop).1 = clockOf (d0 :: rest) time) := mom_eqv _ (d0.2.t + time, -1)
  rw [e]
  show _ = verdD (some (decide ((held (d0 :: rest) time slop).1 = clockOf (d0 :: rest) time), (held (d0 :: rest) time slop).1))
  cases decide ((held (d0 :: rest) time slop).1 = clockOf (d0 :: rest) time) <;> rfl
abbrev sFW : Stmt := top 31
theorem scFW : FnScope ["claims", "up", "moment", "found", "word"] ["claims", "up"] (defScope sFW) := ⟨rfl, rfl, rfl, by decide +kernel, rfl, by decide +kernel, by decide +kernel⟩
def rFW : List PyData → PyData → Prop := fun ds d => ∃ (claims : List Mom) (up : Option Mom), ds = [.list (claims.map momD), optMomD up] ∧ d = verdD (firstWord claims up)
theorem ok_fw {f : Addr} {fd : FuncData} (T : Txt mg) (F : Fun K "first_word" "first_word" sFW f fd) : FnOk P w K mg base CX0 1 f fd ["claims", "up"] (spP rFW) := by
  have sc := scFW
  refine fnP F scFW (by rintro ds d ⟨c, up, rfl, rfl⟩; rfl) (fun cdv A outer s H E hr ds d h => ?_)
  obtain ⟨claims, up, rfl, rfl⟩ := h
  refine dss_cons ?_
  refine ds_set (i := 3) sc.nd rfl (.inl rfl) ⟨_, rfl⟩ ?_
  refine de_cat ?_
  refine de_lcL (own := [("moment", 2)]) rfl sc.nd (blkOk_by (own := [("moment", 2)]) (N := ["claims", "up", "moment", "found", "word"]) (sc := defScope sFW) (by decide +kernel)) (by decide) ?_
  refine de_slL ?_
  refine de_name (i := 0) rfl (.inl rfl) rfl ?_
  refine de_int ?_
  refine ⟨_, rfl, ?_⟩
  refine ⟨_, rfl, ?_⟩
  have ect : cutD (claims.map momD) none (some 1) = (claims.take 1).map momD := by
    cases claims with
    | nil => rfl
    | cons c l => rw [show (1 : Int) = ((1 : Nat) : Int) from rfl, cutD_take (by simp), List.map_take]
  rw [ect]
  have hl1 : (claims.take 1).length ≤ 1 := by rw [List.length_take]; exact Nat.min_le_left _ _
  refine ⟨_, rfl, by rw [List.length_map]; omega, fun i acc ω' => ω' = ow0 ∧ acc = ((claims.take 1).take i).map fun m => .tuple [momD m, .str "claim"], ⟨rfl, rfl⟩, ?_, ?_⟩
  · rintro i d acc ω' hi ⟨rfl, rfl⟩
    rw [List.getElem?_map] at hi
    cases hq : (claims.take 1)[i]? with
    | none => rw [hq] at hi; cases hi
    | some q =>
      rw [hq] at hi
      have e : momD q = d := by simpa using hi
      subst e
      refine t1_name (i := 2) sc.nd rfl rfl ⟨_, rfl⟩ (by decide) fun s0 H0 C0 cl0 fp0 => ?_
      refine de_tup ?_
      refine da_cons ?_
      refine de_name (i := 2) rfl (.inl rfl) rfl ?_
      refine da_cons ?_
      refine de_str ?_
      refine da_nil ?_
      refine ⟨(by simp only [List.length_cons, List.length_nil]; decide), rfl, ?_⟩
      rw [take_snoc hq, List.map_append]; rfl
  rintro acc ω' ⟨rfl, rfl⟩
  rw [List.length_map, List.take_length]
  refine de_cut (d0 := .list (match up with | none => [] | some u => [PyData.tuple [momD u, .str "fail"]])) ?_ ?_
  · skip
    refine de_if ?_
    refine dt_cmp ?_
    refine dc_notN ?_
    refine de_name (i := 1) rfl (.inl rfl) rfl ?_
    refine ⟨_, rfl, ?_⟩
    cases up with
    | some u =>
      refine iteT ?_
      refine de_lst ?_
      refine da_cons ?_
      refine de_tup ?_
      refine da_cons ?_
      refine de_name (i := 1) rfl (.inl rfl) rfl ?_
      refine da_cons ?_
      refine de_str ?_
      refine da_nil ?_
      refine ⟨(by simp only [List.length_cons, List.length_nil]; decide), ?_⟩
      refine da_nil ?_
      refine ⟨(by simp only [List.length_cons, List.length_nil]; decide), ?_⟩
      exact ⟨rfl, rfl⟩
    | none =>
      refine iteF ?_
      refine de_lst ?_
      refine da_nil ?_
      refine ⟨(by simp only [List.length_cons, List.length_nil]; decide), ?_⟩
      exact ⟨rfl, rfl⟩
  refine ⟨(claims.take 1).map (fun m => PyData.tuple [momD m, .str "claim"]), _, rfl, rfl, by cases up <;> simp only [List.length_map, List.length_take, List.length_cons, List.length_nil] <;> omega, ?_⟩
  rw [show ((claims.take 1).map (fun m => PyData.tuple [momD m, .str "claim"]) ++ (match up with | none => [] | some u => [PyData.tuple [momD u, .str "fail"]])) = fwD claims up from rfl]
  refine dss_cons ?_
  refine ds_if ?_
  refine dt_cmp ?_
  refine dc_eqD (Room.lt hr (n := 64) (by decide)) ?_
  refine de_name (i := 3) rfl (.inl rfl) rfl ?_
  refine de_lst ?_
  refine da_nil ?_
  refine ⟨(by simp only [List.length_cons, List.length_nil]; decide), ?_⟩
  refine ⟨fw_shaped claims up, by decide +kernel, ?_⟩
  refine ⟨_, rfl, ?_⟩
  rcases fw_law claims up with ⟨hf1, hf2⟩ | ⟨x, xs, ww, mm, hf1, hmin, hf2, hal, hcl, hdp⟩
  · skip
    rw [hf1]
    refine iteT ?_
    refine dss_one ?_
    refine ds_ret ?_
    refine de_non ?_
    rw [hf2]; rfl
  · skip
    rw [hf1, show PyData.eqv (.list (x :: xs)) (.list []) = false by simp [PyData.eqv, PyData.eqvAll]]
    refine iteF ?_
    refine dss_nil ?_
    refine dss_cons ?_
    refine ds_asg ?_
    refine de_minD rfl rfl T.min ?_
    refine de_name (i := 3) rfl (.inl rfl) rfl ?_
    refine ⟨x, xs, rfl, hal, hcl, Nat.lt_of_le_of_lt (Nat.add_le_add_left hdp _) (Room.lt hr (n := 3) (by decide)), ?_⟩
    rw [hmin]
    refine dg_tup rfl rfl (dgs_cons (dg_name (i := 2) sc.nd rfl (.inl rfl) ⟨_, rfl⟩ (dgs_cons (dg_name (i := 4) sc.nd rfl (.inl rfl) ⟨_, rfl⟩ (dgs_nil ?_)))))
    refine dss_one ?_
    refine ds_ret ?_
    refine de_tup ?_
    refine da_cons ?_
    refine de_name (i := 4) rfl (.inl rfl) rfl ?_
    refine da_cons ?_
    refine de_name (i := 2) rfl (.inl rfl) rfl ?_
    refine da_nil ?_
    refine ⟨(by simp only [List.length_cons, List.length_nil]; decide), ?_⟩
    rw [hf2]; rfl
abbrev sTaps : Stmt := top 29
theorem scTaps : FnScope ["rows", "count", "time", "gap", "slop", "index", "press", "moment", "is_up", "later", "late"] ["rows", "count", "time", "gap", "slop"] (defScope sTaps) := ⟨rfl, rfl, rfl, by decide +kernel, rfl, by decide +kernel, by decide +kernel⟩
def rTaps : List PyData → PyData → Prop := fun ds d => ∃ (d0 : TC.Row) (rest : List TC.Row) (n : Nat) (time gap slop : Int), ds = [rowsD (d0 :: rest), .int n, .int time, .int gap, .int slop] ∧ (d0 :: rest).length ≤ 900 ∧ n ≤ 1000 ∧ d = verdD (tapsV time gap slop n (d0 :: rest))
theorem ok_taps {f : Addr} {fd : FuncData} (T : Txt mg) (Cmom : Cal P w K mg base 1 "moment_of" (spP rMom)) (Cdist : Cal P w K mg base 1 "distance" (spP rDist)) (Cnext : Cal P w K mg base 1 "next_down" (spP rNext)) (Cheld : Cal P w K mg base 3 "held_end" (spP rHeld)) (F : Fun K "verdict_of_taps" "verdict_of_taps" sTaps f fd) : FnOk P w K mg base CX0 4 f fd ["rows", "count", "time", "gap", "slop"] (spP rTaps) := by
  have sc := scTaps
  refine fnP F scTaps (by rintro ds d ⟨d0, rest, n, time, gap, slop, rfl, _, _, rfl⟩; rfl) (fun cdv A outer s H E hr ds d h => ?_)
  obtain ⟨d0, rest, n, time, gap, slop, rfl, hlen, hn, rfl⟩ := h
  obtain ⟨tc, hcl⟩ := T.CLOCK
  obtain ⟨rows, hrows⟩ : ∃ rows, d0 :: rest = rows := ⟨_, rfl⟩
  rw [hrows] at hlen ⊢
  have h00 : rows.drop 0 = d0 :: rest := hrows.symm
  refine dss_cons ?_
  refine ds_set (i := 5) sc.nd rfl (.inl rfl) ⟨_, rfl⟩ ?_
  refine de_int ?_
  refine dss_cons ?_
  refine ds_forR1 .never rfl rfl T.range ?_
  refine de_name (i := 1) rfl (.inl rfl) rfl ?_
  refine ⟨_, rfl, by omega, by omega, fun k Γ ω => ∃ (i : Nat) (d : TC.Row) (r : List TC.Row) (o6 o7 o8 o9 o10 : Option Slot), Γ = [some (.dat (rowsD rows)), some (.dat (.int n)), some (.dat (.int time)), some (.dat (.int gap)), some (.dat (.int slop)), some (.dat (.int i)), o6, o7, o8, o9, o10] ∧ ω = ow0 ∧ rows.drop i = d :: r ∧ tapsV time gap slop n rows = tapsV time gap slop (n - k) (d :: r), ⟨0, d0, rest, none, none, none, none, none, rfl, rfl, h00, by rw [← hrows]; rfl⟩, ?_, ?_⟩
  · rintro k Γ ω hk ⟨i, d, r, o6, o7, o8, o9, o10, rfl, rfl, hdrop, htv⟩
    refine dg_name (i := 6) sc.nd rfl (.inl rfl) ⟨_, rfl⟩ ?_
    obtain ⟨hi, hil⟩ := drop_cons hdrop
    have hnk : n - k = n - (k + 1) + 1 := by omega
    have hV := tapsV_eq (time := time) (gap := gap) (slop := slop) (k := n - (k + 1)) (d := d) (r := r)
    rw [hnk] at htv
    have hrd := rest_drop hdrop
    refine dss_cons ?_
    refine ds_asg ?_
    refine de_call Cheld (hr.mono (by decide)) rfl ?_
    refine da_cons ?_
    refine de_name (i := 0) rfl (.inl rfl) rfl ?_
    refine da_cons ?_
    refine de_name (i := 5) rfl (.inl rfl) rfl ?_
    refine da_cons ?_
    refine de_name (i := 2) rfl (.inl rfl) rfl ?_
    refine da_cons ?_
    refine de_name (i := 4) rfl (.inl rfl) rfl ?_
    refine da_nil ?_
    refine ⟨_, ⟨rows, i, d, r, time, slop, rfl, hlen, hdrop, rfl⟩, ?_⟩
    refine dg_tup rfl rfl (dgs_cons (dg_name (i := 7) sc.nd rfl (.inl rfl) ⟨_, rfl⟩ (dgs_cons (dg_name (i := 8) sc.nd rfl (.inl rfl) ⟨_, rfl⟩ (dgs_nil ?_)))))
    refine dss_cons ?_
    refine ds_if ?_
    refine dt_not ?_
    refine dt_val ?_
    refine de_name (i := 8) rfl (.inl rfl) rfl ?_
    refine ⟨_, rfl, ?_⟩
    cases hu2 : (held (d :: r) time slop).2 with
    | false =>
      refine iteT ?_
      refine dss_one ?_
      refine ds_ret ?_
      refine de_tup ?_
      refine da_cons ?_
      refine de_str ?_
      refine da_cons ?_
      refine de_name (i := 7) rfl (.inl rfl) rfl ?_
      refine da_nil ?_
      refine ⟨(by simp only [List.length_cons, List.length_nil]; decide), ?_⟩
      rw [htv, hV, hu2, if_neg (by decide)]; rfl
    | true =>
      refine iteF ?_
      refine dss_nil ?_
      refine dss_cons ?_
      refine ds_if ?_
      refine dt_cmp ?_
      refine dc_eqI ?_
      refine de_name (i := 6) rfl (.inl rfl) rfl ?_
      refine de_sub ?_
      refine de_name (i := 1) rfl (.inl rfl) rfl ?_
      refine de_int ?_
      refine ⟨_, _, rfl, rfl, ?_⟩
      refine ⟨_, _, rfl, rfl, ?_⟩
      refine ⟨_, rfl, ?_⟩
      by_cases hk0 : n - (k + 1) = 0
      · skip
        rw [decide_eq_true (by omega : (k : Int) = (n : Int) - 1)]
        refine iteT ?_
        refine dss_one ?_
        refine ds_ret ?_
        refine de_tup ?_
        refine da_cons ?_
        refine de_str ?_
        refine da_cons ?_
        refine de_name (i := 7) rfl (.inl rfl) rfl ?_
        refine da_nil ?_
        refine ⟨(by simp only [List.length_cons, List.length_nil]; decide), ?_⟩
        rw [htv, hV, hu2, if_pos rfl, if_pos hk0]; rfl
      · skip
        rw [decide_eq_false (by omega : ¬ (k : Int) = (n : Int) - 1)]
        refine iteF ?_
        refine dss_nil ?_
        refine dss_cons ?_
        refine ds_par (i := 9) (j := 10) rfl sc.nd rfl rfl (by decide) rfl rfl ⟨_, rfl⟩ ⟨_, rfl⟩ ?_
        refine de_call Cnext (hr.mono (by decide)) rfl ?_
        refine da_cons ?_
        refine de_name (i := 0) rfl (.inl rfl) rfl ?_
        refine da_cons ?_
        refine de_name (i := 5) rfl (.inl rfl) rfl ?_
        refine da_nil ?_
        refine ⟨_, ⟨rows, i, rfl, by omega, hil, rfl⟩, ?_⟩
        refine de_tup ?_
        refine da_cons ?_
        refine de_add ?_
        refine de_ix ?_
        refine de_name (i := 7) rfl (.inl rfl) rfl ?_
        refine de_int ?_
        refine ⟨_, _, _, (by first | exact .inr rfl | exact .inl rfl), rfl, rfl, ?_⟩
        refine de_name (i := 3) rfl (.inl rfl) rfl ?_
        refine ⟨_, _, rfl, rfl, ?_⟩
        refine da_cons ?_
        refine de_globI rfl hcl ⟨_, rfl⟩ ?_
        refine da_nil ?_
        refine ⟨(by simp only [List.length_cons, List.length_nil]; decide), ?_⟩
        refine dss_cons ?_
        refine ds_if ?_
        cases hnx : nxt r with
        | nil =>
          have e := nextD_nil (rows := rows) (i := i) (by rw [hrd]; exact hnx)
          rw [e]
          refine dt_or ?_
          refine dt_cmp ?_
          refine dc_isN ?_
          refine de_name (i := 9) rfl (.inl rfl) rfl ?_
          refine ⟨_, rfl, ?_⟩
          refine iteT ?_
          refine iteT ?_
          refine dss_one ?_
          refine ds_ret ?_
          refine de_tup ?_
          refine da_cons ?_
          refine de_str ?_
          refine da_cons ?_
          refine de_name (i := 10) rfl (.inl rfl) rfl ?_
          refine da_nil ?_
          refine ⟨(by simp only [List.length_cons, List.length_nil]; decide), ?_⟩
          rw [htv, hV, hu2, if_pos rfl, if_neg hk0, hnx]; rfl
        | cons q qs =>
          have hn' : nxt (rows.drop (i + 1)) = q :: qs := by rw [hrd]; exact hnx
          have e := nextD_cons hn'
          rw [e]
          refine dt_or ?_
          refine dt_cmp ?_
          refine dc_isN ?_
          refine de_name (i := 9) rfl (.inl rfl) rfl ?_
          refine ⟨_, rfl, ?_⟩
          refine iteF ?_
          refine dt_cmp ?_
          refine dc_gtA ?_
          refine de_call Cmom (hr.mono (by decide)) rfl ?_
          refine da_cons ?_
          refine de_ix ?_
          refine de_name (i := 0) rfl (.inl rfl) rfl ?_
          refine de_name (i := 9) rfl (.inl rfl) rfl ?_
          refine ⟨_, _, _, (by first | exact .inr rfl | exact .inl rfl), rfl, atD_map (drop_cons (nxt_spec hil hn')).1, ?_⟩
          refine da_nil ?_
          refine ⟨_, ⟨q, rfl, rfl⟩, ?_⟩
          refine de_name (i := 10) rfl (.inl rfl) rfl ?_
          refine ⟨mom_alike (mom q) ((held (d :: r) time slop).1.1 + gap, -1), mom_ne _, (by rw [mom_depth, show (PyData.tuple [.int ((held (d :: r) time slop).1.1 + gap), .int (-1)]).depth = 1 from mom_depth (_, _)]; exact Room.lt hr (n := 1) (by decide)), ?_⟩
          refine ⟨_, rfl, ?_⟩
          rw [show PySem.W.dataLt (.tuple [.int ((held (d :: r) time slop).1.1 + gap), .int (-1)]) (momD (mom q)) = mlt ((held (d :: r) time slop).1.1 + gap, -1) (mom q) from mom_lt ((held (d :: r) time slop).1.1 + gap, -1) (mom q)]
          refine ite2 (fun hlt => ?_) (fun hlt => ?_)
          · skip
            refine dss_one ?_
            refine ds_ret ?_
            refine de_tup ?_
            refine da_cons ?_
            refine de_str ?_
            refine da_cons ?_
            refine de_name (i := 10) rfl (.inl rfl) rfl ?_
            refine da_nil ?_
            refine ⟨(by simp only [List.length_cons, List.length_nil]; decide), ?_⟩
            have hval : tapsV time gap slop n rows = some (false, ((held (d :: r) time slop).1.1 + gap, -1)) := by
              rw [htv, hV, hu2, if_pos rfl, if_neg hk0, hnx]; exact if_pos hlt
            rw [hval]; rfl
          · skip
            refine dss_nil ?_
            refine dss_cons ?_
            refine ds_if ?_
            refine dt_cmp ?_
            refine dc_gt ?_
            refine de_call Cdist (hr.mono (by decide)) rfl ?_
            refine da_cons ?_
            refine de_ix ?_
            refine de_ix ?_
            refine de_ix ?_
            refine de_name (i := 0) rfl (.inl rfl) rfl ?_
            refine de_name (i := 9) rfl (.inl rfl) rfl ?_
            refine ⟨_, _, _, (by first | exact .inr rfl | exact .inl rfl), rfl, atD_map (drop_cons (nxt_spec hil hn')).1, ?_⟩
            refine de_int ?_
            refine ⟨_, _, _, (by first | exact .inr rfl | exact .inl rfl), rfl, rfl, ?_⟩
            refine de_int ?_
            refine ⟨_, _, _, (by first | exact .inr rfl | exact .inl rfl), rfl, rfl, ?_⟩
            refine da_cons ?_
            refine de_ix ?_
            refine de_ix ?_
            refine de_ix ?_
            refine de_name (i := 0) rfl (.inl rfl) rfl ?_
            refine de_name (i := 5) rfl (.inl rfl) rfl ?_
            refine ⟨_, _, _, (by first | exact .inr rfl | exact .inl rfl), rfl, atD_map hi, ?_⟩
            refine de_int ?_
            refine ⟨_, _, _, (by first | exact .inr rfl | exact .inl rfl), rfl, rfl, ?_⟩
            refine de_int ?_
            refine ⟨_, _, _, (by first | exact .inr rfl | exact .inl rfl), rfl, rfl, ?_⟩
            refine da_nil ?_
            refine ⟨_, ⟨q.2.p, d.2.p, rfl, rfl⟩, ?_⟩
            refine de_name (i := 4) rfl (.inl rfl) rfl ?_
            refine ⟨_, _, rfl, rfl, ?_⟩
            refine ⟨_, rfl, ?_⟩
            refine ite2 (fun hfar => ?_) (fun hfar => ?_)
            · skip
              refine dss_one ?_
              refine ds_ret ?_
              refine de_tup ?_
              refine da_cons ?_
              refine de_str ?_
              refine da_cons ?_
              refine de_call Cmom (hr.mono (by decide)) rfl ?_
              refine da_cons ?_
              refine de_ix ?_
              refine de_name (i := 0) rfl (.inl rfl) rfl ?_
              refine de_name (i := 9) rfl (.inl rfl) rfl ?_
              refine ⟨_, _, _, (by first | exact .inr rfl | exact .inl rfl), rfl, atD_map (drop_cons (nxt_spec hil hn')).1, ?_⟩
              refine da_nil ?_
              refine ⟨_, ⟨q, rfl, rfl⟩, ?_⟩
              refine da_nil ?_
              refine ⟨(by simp only [List.length_cons, List.length_nil]; decide), ?_⟩
              have hval : tapsV time gap slop n rows = some (false, mom q) := by
                rw [htv, hV, hu2, if_pos rfl, if_neg hk0, hnx]; exact (if_neg hlt).trans (if_pos (of_decide_eq_true hfar))
              rw [hval]; rfl
            · skip
              refine dss_nil ?_
              refine dss_one ?_
              refine ds_set (i := 5) sc.nd rfl (.inl rfl) ⟨_, rfl⟩ ?_
              refine de_name (i := 9) rfl (.inl rfl) rfl ?_
              refine ⟨rows.length - (qs.length + 1), q, qs, _, _, _, _, _, rfl, rfl, nxt_spec hil hn', ?_⟩
              rw [htv, hV, hu2, if_pos rfl, if_neg hk0, hnx]; exact (if_neg hlt).trans (if_neg (fun z => hfar (decide_eq_true z)))
  · rintro Γ ω ⟨i, d, r, o6, o7, o8, o9, o10, rfl, rfl, hdrop, htv⟩
    rw [show n - (n : Int).toNat = 0 by omega] at htv
    refine dss_one ?_
    refine ds_ret ?_
    refine de_non ?_
    rw [htv]; rfl
end
end K20
set_option maxRecDepth 100000
set_option maxHeartbeats 4000000
namespace K20
open PySem PySem.Spec PyProof.Rows L2 Evl TC
theorem row_alike (a b : TC.Row) : PySem.W.alike (rowD a) (rowD b) = true := by
  simp [rowD, evD, plD, PySem.W.alike, PySem.W.alikeAll]
theorem wayS_inj (a b : Way) : decide (wayS a = wayS b) = decide (a = b) := by cases a <;> cases b <;> decide +kernel
theorem ev_eqv (a b : Ev) : PyData.eqv (evD a) (evD b) = decide (a = b) := by
  obtain ⟨t, f, w, x, y⟩ := a
  obtain ⟨t', f', w', x', y'⟩ := b
  have hw := wayS_inj w w'
  simp only [evD, plD, Ev.p, PyData.eqv, PyData.eqvAll, Bool.beq_eq_decide_eq, Ev.mk.injEq, hw]
  by_cases h1 : t = t' <;> by_cases h2 : f = f' <;> by_cases h3 : w = w' <;> by_cases h4 : x = x' <;> by_cases h5 : y = y' <;> simp [h1, h2, h3, h4, h5]
theorem row_eqv (a b : TC.Row) : PyData.eqv (rowD a) (rowD b) = decide (a = b) := by
  obtain ⟨n, a⟩ := a
  obtain ⟨m, b⟩ := b
  show PyData.eqv (.tuple [.int n, evD a]) (.tuple [.int m, evD b]) = _
  rw [PyData.eqv, PyData.eqvAll, PyData.eqvAll, PyData.eqvAll, ev_eqv, PyData.eqv]
  by_cases h1 : n = m <;> by_cases h2 : a = b <;> simp [h1, h2]
theorem wayS_ok (w : Way) : PyData.strOk (wayS w) = true := by cases w <;> decide +kernel
theorem row_lay (a : TC.Row) : (rowD a).canLay0 = true := by simp [rowD, evD, plD, PyData.canLay0, PyData.canLayAll0, wayS_ok]
theorem row_depth (a : TC.Row) : (rowD a).depth = 3 := by simp [rowD, evD, plD, PyData.depth, PyData.depthAll]
theorem row_shaped (a : TC.Row) : SeqAt.shaped (rowD a) = true := by
  show ((rowD a).canLay0 && decide ((rowD a).depth ≤ 64)) = true
  rw [row_lay, row_depth]; rfl
theorem rows_shaped (l : List TC.Row) : SeqAt.shaped (rowsD l) = true := by
  refine shaped_list (canLayAll_of fun d hd => ?_) (Nat.le_trans (depthAll_le (n := 3) fun d hd => ?_) (by decide))
  · obtain ⟨a, _, rfl⟩ := List.mem_map.mp hd
    exact row_lay a
  · obtain ⟨a, _, rfl⟩ := List.mem_map.mp hd
    rw [row_depth]; exact Nat.le_refl _
theorem rows_any (l : List TC.Row) (r : TC.Row) : ((l.map rowD).any fun z => PyData.eqv z (rowD r)) = decide (r ∈ l) := by
  induction l with
  | nil => simp
  | cons a l ih =>
    rw [List.map_cons, List.any_cons, ih, row_eqv]
    by_cases h : a = r
    · simp [h]
    · have h' : ¬ r = a := fun z => h z.symm
      simp [h, h']
theorem row_le {l : List TC.Row} (ht : Tell l) : ∀ a ∈ l, ∀ b ∈ l, (decide (a.1 ≤ b.1) : Bool) = PySem.W.dataLe false id (rowD a) (rowD b) := by
  intro a ha b hb
  show _ = (!PySem.W.dataLt (.tuple [.int b.1, evD b.2]) (.tuple [.int a.1, evD a.2]))
  have hal : PySem.W.alike (evD b.2) (evD a.2) = true := by simp [evD, plD, PySem.W.alike, PySem.W.alikeAll]
  rw [PySem.W.dataLt_pair (by simp [PySem.W.alike]) hal, ev_eqv, PySem.W.dataLt_int]
  by_cases e : a.1 = b.1
  · have hab : a = b := ht a ha b hb e
    subst hab
    simp [PyData.eqv]
  · have e1 : PyData.eqv (.int b.1) (.int a.1) = false := by simp [PyData.eqv]; omega
    rw [e1, if_neg (by decide)]
    by_cases h : a.1 ≤ b.1
    · rw [decide_eq_true h, decide_eq_false (by omega)]; rfl
    · rw [decide_eq_false h, decide_eq_true (by omega)]; rfl
theorem sort_rows {l : List TC.Row} (ht : Tell l) : (l.map rowD).mergeSort (PySem.W.dataLe false id) = (sortR l).map rowD := by
  unfold sortR
  exact (List.map_mergeSort (row_le ht)).symm
theorem hereOf_eq {first : List TC.Row} {m : Mom} {r : TC.Row} (h : (first.filter fun r => mlt (mom r) m).getLast? = some r) : hereOf first m = r.2.p := by
  unfold hereOf
  rw [List.getLastD_eq_getLast?, List.getLast?_map, h]; rfl
theorem pinch_step {first : List TC.Row} {slop : Int} {b : Mom} {base here there : Pl} {r : TC.Row} {rs : List TC.Row} : pinchLoop first slop b base here there (r :: rs) =
    if (decide (r.2.w = .move) && mlt b (mom r)) = true then (if dist (diff (if r ∈ first then there else r.2.p) (if r ∈ first then r.2.p else here)) base > slop then [mom r] else []) ++ pinchLoop first slop b base (if r ∈ first then r.2.p else here) (if r ∈ first then there else r.2.p) rs
    else pinchLoop first slop b base here there rs := by
  rw [pinchLoop]
  by_cases h : r.2.w = .move ∧ mlt b (mom r) = true
  · have e : (decide (r.2.w = .move) && mlt b (mom r)) = true := by rw [decide_eq_true h.1, h.2]; rfl
    rw [if_pos h, if_pos e]
    by_cases h2 : r ∈ first
    · simp only [if_pos h2]
    · simp only [if_neg h2]
  · rw [if_neg h, if_neg (fun z => h (by simpa using z))]
theorem de_sorted {X : Cx} {Γ : Gam} {ω : Ow} {P : PyData → Ow → Prop} {a : Expr} {pos p : Pos} (hg : Gl X "sorted") (hm : X.mg "sorted" = none) (h : DE X a Γ ω fun y ω1 => ∃ ds, y = .list ds ∧ PySem.W.AllAlike ds ∧ PySem.W.Sortable ds ∧ (∀ d ∈ ds, X.A.units + 2 + d.depth < cLine) ∧ P (.list (ds.mergeSort (PySem.W.dataLe false id))) ω1) (s1 : S1 X a [] := by rfl) : DE X (.Call (.Name "sorted" p) [a] [] pos) Γ ω P :=
  (nl_sorted (P := fun ds ω1 => P (.list ds) ω1) hg hm h s1).de fun _ _ p => p
theorem tell_sub {l m : List TC.Row} (h : Tell l) (k : ∀ r ∈ m, r ∈ l) : Tell m := fun a ha b hb e => h a (k a ha) b (k b hb) e
section
variable {P : Program} {w : World} {K : PySem.W.Frag} {mg : Str → Option Value} {base : Heap}
abbrev sPinch : Stmt := top 32
theorem scPinch : FnScope ["rows", "slop", "first", "later", "up", "second", "begin", "more", "row", "here", "there", "base", "claims"] ["rows", "slop"] (defScope sPinch) := ⟨rfl, rfl, rfl, by decide +kernel, rfl, by decide +kernel, by decide +kernel⟩
def rPinch : List PyData → PyData → Prop := fun ds d => ∃ (d0 : TC.Row) (rest : List TC.Row) (slop : Int), ds = [rowsD (d0 :: rest), .int slop] ∧ (d0 :: rest).length ≤ 900 ∧ Num (d0 :: rest) ∧ Asc (d0 :: rest) ∧ d = verdD (pinchV (d0 :: rest) slop)
theorem ok_pinch {f : Addr} {fd : FuncData} (T : Txt mg) (Cmom : Cal P w K mg base 1 "moment_of" (spP rMom)) (Cdist : Cal P w K mg base 1 "distance" (spP rDist)) (Cdiff : Cal P w K mg base 1 "difference" (spP rDiff)) (Cpress : Cal P w K mg base 1 "press_from" (spP rPress)) (Cnext : Cal P w K mg base 1 "next_down" (spP rNext)) (Cup : Cal P w K mg base 2 "up_moment" (spP rUp)) (Cfw : Cal P w K mg base 1 "first_word" (spP rFW)) (F : Fun K "verdict_of_pinch" "verdict_of_pinch" sPinch f fd) : FnOk P w K mg base CX0 3 f fd ["rows", "slop"] (spP rPinch) := by
  have sc := scPinch
  refine fnP F scPinch (by rintro ds d ⟨d0, rest, slop, rfl, _, _, _, rfl⟩; rfl) (fun cdv A outer s H E hr ds d h => ?_)
  obtain ⟨d0, rest, slop, rfl, hlen, hnum, hasc, rfl⟩ := h
  have hpq := pinchV_eq (d := d0) (r := rest) (slop := slop)
  obtain ⟨pr, hpr⟩ := pressOf_head (d := d0) (l := rest)
  have hd0 : d0 ∈ pressOf d0.2.f (d0 :: rest) := by rw [hpr]; exact List.mem_cons_self
  have hfl : (pressOf d0.2.f (d0 :: rest)).length ≤ 900 := Nat.le_trans (pressOf_sub (f := d0.2.f) (l := d0 :: rest)).length_le hlen
  have hfm : ∀ r ∈ pressOf d0.2.f (d0 :: rest), r ∈ d0 :: rest := fun r hr => (pressOf_mem hr).1
  have hfne : pressOf d0.2.f (d0 :: rest) ≠ [] := press_ne
  obtain ⟨rows, hrows⟩ : ∃ rows, d0 :: rest = rows := ⟨_, rfl⟩
  have h00 : rows.drop 0 = d0 :: rest := hrows.symm
  rw [hrows] at hlen hpq hd0 hfl hfm hfne ⊢
  obtain ⟨fst, hfst⟩ : ∃ fst, pressOf d0.2.f rows = fst := ⟨_, rfl⟩
  rw [hfst] at hpq hd0 hfl hfm hfne
  have hil : 0 < rows.length := by rw [← hrows]; exact Nat.succ_pos _
  refine dss_cons ?_
  refine ds_par (i := 2) (j := 3) rfl sc.nd rfl rfl (by decide) rfl rfl ⟨_, rfl⟩ ⟨_, rfl⟩ ?_
  refine de_call Cpress (hr.mono (by decide)) rfl ?_
  refine da_cons ?_
  refine de_name (i := 0) rfl (.inl rfl) rfl ?_
  refine da_cons ?_
  refine de_int ?_
  refine da_nil ?_
  refine ⟨_, ⟨rows, 0, d0, rest, rfl, by omega, h00, rfl⟩, ?_⟩
  refine de_call Cnext (hr.mono (by decide)) rfl ?_
  refine da_cons ?_
  refine de_name (i := 0) rfl (.inl rfl) rfl ?_
  refine da_cons ?_
  refine de_int ?_
  refine da_nil ?_
  refine ⟨_, ⟨rows, 0, rfl, by omega, hil, rfl⟩, ?_⟩
  rw [show pressOf d0.2.f (d0 :: rest) = fst from by rw [hrows]; exact hfst]
  refine dss_cons ?_
  refine ds_set (i := 4) sc.nd rfl (.inl rfl) ⟨_, rfl⟩ ?_
  refine de_call Cup (hr.mono (by decide)) rfl ?_
  refine da_cons ?_
  refine de_name (i := 2) rfl (.inl rfl) rfl ?_
  refine da_nil ?_
  refine ⟨_, ⟨fst, rfl, hfne, rfl⟩, ?_⟩
  refine dss_cons ?_
  refine ds_if ?_
  cases hnx : nxt rest with
  | nil =>
    rw [hnx] at hpq
    have e := nextD_nil (rows := rows) (i := 0) (by rw [rest_drop h00]; exact hnx)
    rw [e]
    refine dt_or ?_
    refine dt_cmp ?_
    refine dc_isN ?_
    refine de_name (i := 3) rfl (.inl rfl) rfl ?_
    refine ⟨_, rfl, ?_⟩
    refine iteT ?_
    refine iteT ?_
    refine dss_one ?_
    refine ds_ret ?_
    refine de_call Cfw (hr.mono (by decide)) rfl ?_
    refine da_cons ?_
    refine de_lst ?_
    refine da_nil ?_
    refine ⟨(by simp only [List.length_cons, List.length_nil]; decide), ?_⟩
    refine da_cons ?_
    refine de_name (i := 4) rfl (.inl rfl) rfl ?_
    refine da_nil ?_
    refine ⟨_, ⟨[], upMom fst, rfl, rfl⟩, ?_⟩
    rw [hpq]
  | cons q qs =>
    rw [hnx] at hpq
    have hn' : nxt (rows.drop (0 + 1)) = q :: qs := by rw [rest_drop h00]; exact hnx
    have e := nextD_cons hn'
    rw [e]
    refine dt_or ?_
    refine dt_cmp ?_
    refine dc_isN ?_
    refine de_name (i := 3) rfl (.inl rfl) rfl ?_
    refine ⟨_, rfl, ?_⟩
    refine iteF ?_
    refine dt_cut (k0 := ult (upMom fst) (mom q)) ?_ ?_
    · cases hum : upMom fst with
      | none =>
        refine dt_and ?_
        refine dt_cmp ?_
        refine dc_notN ?_
        refine de_name (i := 4) rfl (.inl rfl) rfl ?_
        refine ⟨_, rfl, ?_⟩
        refine iteF ?_
        exact ⟨rfl, rfl⟩
      | some u =>
        refine dt_and ?_
        refine dt_cmp ?_
        refine dc_notN ?_
        refine de_name (i := 4) rfl (.inl rfl) rfl ?_
        refine ⟨_, rfl, ?_⟩
        refine iteT ?_
        refine dt_cmp ?_
        refine dc_ltA ?_
        refine de_name (i := 4) rfl (.inl rfl) rfl ?_
        refine de_call Cmom (hr.mono (by decide)) rfl ?_
        refine da_cons ?_
        refine de_ix ?_
        refine de_name (i := 0) rfl (.inl rfl) rfl ?_
        refine de_name (i := 3) rfl (.inl rfl) rfl ?_
        refine ⟨_, _, _, (by first | exact .inr rfl | exact .inl rfl), rfl, atD_map (drop_cons (nxt_spec hil hn')).1, ?_⟩
        refine da_nil ?_
        refine ⟨_, ⟨q, rfl, rfl⟩, ?_⟩
        refine ⟨mom_alike u (mom q), mom_ne u, (by rw [show optMomD (some u) = momD u from rfl, mom_depth, mom_depth]; exact Room.lt hr (n := 1) (by decide)), ?_⟩
        exact ⟨_, rfl, mom_lt u (mom q), rfl⟩
    refine ite2 (fun hlt => ?_) (fun hlt => ?_)
    · skip
      refine dss_one ?_
      refine ds_ret ?_
      refine de_call Cfw (hr.mono (by decide)) rfl ?_
      refine da_cons ?_
      refine de_lst ?_
      refine da_nil ?_
      refine ⟨(by simp only [List.length_cons, List.length_nil]; decide), ?_⟩
      refine da_cons ?_
      refine de_name (i := 4) rfl (.inl rfl) rfl ?_
      refine da_nil ?_
      refine ⟨_, ⟨[], upMom fst, rfl, rfl⟩, ?_⟩
      have hval : pinchV rows slop = firstWord [] (upMom fst) := by rw [hpq]; exact if_pos hlt
      rw [hval]
    · skip
      refine dss_nil ?_
      refine dss_cons ?_
      refine ds_set (i := 5) sc.nd rfl (.inl rfl) ⟨_, rfl⟩ ?_
      refine de_call Cpress (hr.mono (by decide)) rfl ?_
      refine da_cons ?_
      refine de_name (i := 0) rfl (.inl rfl) rfl ?_
      refine da_cons ?_
      refine de_name (i := 3) rfl (.inl rfl) rfl ?_
      refine da_nil ?_
      refine ⟨_, ⟨rows, rows.length - (qs.length + 1), q, qs, rfl, by omega, nxt_spec hil hn', rfl⟩, ?_⟩
      have hdq := nxt_spec hil hn'
      have hsl : (pressOf q.2.f (q :: qs)).length ≤ 900 := by
        have h1 := (pressOf_sub (f := q.2.f) (l := q :: qs)).length_le
        have h2 : (q :: qs).length ≤ rows.length := by rw [← hdq, List.length_drop]; omega
        omega
      have hsm : ∀ r ∈ pressOf q.2.f (q :: qs), r ∈ rows := fun r hr => by
        have h1 := (pressOf_mem hr).1
        rw [← hdq] at h1
        exact List.mem_of_mem_drop h1
      have hsne : pressOf q.2.f (q :: qs) ≠ [] := press_ne
      have hq : mlt (mom d0) (mom q) = true := Asc.lt hasc (nxt_mem (by rw [hnx]; exact List.mem_cons_self))
      obtain ⟨snd, hsnd⟩ : ∃ snd, pressOf q.2.f (q :: qs) = snd := ⟨_, rfl⟩
      rw [hsnd] at hsl hsm hsne ⊢
      replace hpq : pinchV rows slop = (if ult (upMom fst) (mom q) = true then firstWord [] (upMom fst) else firstWord (pinchLoop fst slop (mom q) (diff q.2.p (hereOf fst (mom q))) (hereOf fst (mom q)) q.2.p (sortR (fst ++ snd))) (upOf (upMom fst) (upMom snd))) := by rw [hpq, ← hsnd]
      refine dss_cons ?_
      refine ds_asg ?_
      refine de_tup ?_
      refine da_cons ?_
      refine de_call Cmom (hr.mono (by decide)) rfl ?_
      refine da_cons ?_
      refine de_ix ?_
      refine de_name (i := 0) rfl (.inl rfl) rfl ?_
      refine de_name (i := 3) rfl (.inl rfl) rfl ?_
      refine ⟨_, _, _, (by first | exact .inr rfl | exact .inl rfl), rfl, atD_map (drop_cons (nxt_spec hil hn')).1, ?_⟩
      refine da_nil ?_
      refine ⟨_, ⟨q, rfl, rfl⟩, ?_⟩
      refine da_cons ?_
      refine de_call Cup (hr.mono (by decide)) rfl ?_
      refine da_cons ?_
      refine de_name (i := 5) rfl (.inl rfl) rfl ?_
      refine da_nil ?_
      refine ⟨_, ⟨snd, rfl, hsne, rfl⟩, ?_⟩
      refine da_nil ?_
      refine ⟨(by simp only [List.length_cons, List.length_nil]; decide), ?_⟩
      refine dg_tup rfl rfl (dgs_cons (dg_name (i := 6) sc.nd rfl (.inr rfl) ⟨_, rfl⟩ (dgs_cons (dg_name (i := 7) sc.nd rfl (.inl rfl) ⟨_, rfl⟩ (dgs_nil ?_)))))
      refine dss_cut (PL := fun Γ ω => Γ = [some (.dat (rowsD rows)), some (.dat (.int slop)), some (.dat (rowsD fst)), some (.dat (.int ((rows.length - (qs.length + 1) : Nat) : Int))), some (.dat (optMomD (upOf (upMom fst) (upMom snd)))), some (.dat (rowsD snd)), some (.dat (momD (mom q))), some (.dat (optMomD (upMom snd))), none, none, none, none, none] ∧ ω = ow0) ?_ ?_
      · skip
        refine ds_if ?_
        cases hmm : upMom snd with
        | none =>
          refine dt_and ?_
          refine dt_cmp ?_
          refine dc_notN ?_
          refine de_name (i := 7) rfl (.inl rfl) rfl ?_
          refine ⟨_, rfl, ?_⟩
          refine iteF ?_
          refine iteF ?_
          refine dss_nil ?_
          exact ⟨rfl, rfl⟩
        | some m =>
          refine dt_and ?_
          refine dt_cmp ?_
          refine dc_notN ?_
          refine de_name (i := 7) rfl (.inl rfl) rfl ?_
          refine ⟨_, rfl, ?_⟩
          refine iteT ?_
          refine dt_or ?_
          cases hum : upMom fst with
          | none =>
            refine dt_cmp ?_
            refine dc_isN ?_
            refine de_name (i := 4) rfl (.inl rfl) rfl ?_
            refine ⟨_, rfl, ?_⟩
            refine iteT ?_
            refine iteT ?_
            refine dss_one ?_
            refine ds_set (i := 4) sc.nd rfl (.inl rfl) ⟨_, rfl⟩ ?_
            refine de_name (i := 7) rfl (.inl rfl) rfl ?_
            exact ⟨rfl, rfl⟩
          | some u =>
            refine dt_cmp ?_
            refine dc_isN ?_
            refine de_name (i := 4) rfl (.inl rfl) rfl ?_
            refine ⟨_, rfl, ?_⟩
            refine iteF ?_
            refine dt_cmp ?_
            refine dc_ltA ?_
            refine de_name (i := 7) rfl (.inl rfl) rfl ?_
            refine de_name (i := 4) rfl (.inl rfl) rfl ?_
            refine ⟨mom_alike m u, mom_ne m, (by rw [show optMomD (some u) = momD u from rfl, show optMomD (some m) = momD m from rfl, mom_depth, mom_depth]; exact Room.lt hr (n := 1) (by decide)), ?_⟩
            refine ⟨_, rfl, ?_⟩
            rw [show PySem.W.dataLt (optMomD (some m)) (optMomD (some u)) = mlt m u from mom_lt m u]
            refine ite2 (fun hlt => ?_) (fun hlt => ?_)
            · skip
              refine dss_one ?_
              refine ds_set (i := 4) sc.nd rfl (.inl rfl) ⟨_, rfl⟩ ?_
              refine de_name (i := 7) rfl (.inl rfl) rfl ?_
              exact ⟨by rw [show upOf (some u) (some m) = some m from if_pos hlt]; rfl, rfl⟩
            · skip
              refine dss_nil ?_
              exact ⟨by rw [show upOf (some u) (some m) = some u from if_neg hlt]; rfl, rfl⟩
      · rintro Γ ω ⟨rfl, rfl⟩
        refine dss_cons ?_
        refine ds_set (i := 9) sc.nd rfl (.inl rfl) ⟨_, rfl⟩ ?_
        refine de_ix ?_
        refine de_lcL (own := [("row", 8)]) rfl sc.nd (blkOk_by (own := [("row", 8)]) (N := ["rows", "slop", "first", "later", "up", "second", "begin", "more", "row", "here", "there", "base", "claims"]) (sc := defScope sPinch) (by decide +kernel)) (by decide) ?_
        refine de_name (i := 2) rfl (.inl rfl) rfl ?_
        refine ⟨_, rfl, by rw [List.length_map]; omega, fun i acc ω' => ω' = ow0 ∧ acc = (((fst.take i).filter fun r => mlt (mom r) (mom q)).map fun r => plD r.2.p), ⟨rfl, rfl⟩, ?_, ?_⟩
        · rintro i d acc ω' hi ⟨rfl, rfl⟩
          rw [List.getElem?_map] at hi
          cases hz : fst[i]? with
          | none => rw [hz] at hi; cases hi
          | some z =>
            rw [hz] at hi
            have e : rowD z = d := by simpa using hi
            subst e
            refine t1_nameT (i := 8) sc.nd rfl rfl ⟨_, rfl⟩ (by decide) fun s0 H0 C0 cl0 fp0 => ?_
            refine dt_cmp ?_
            refine dc_ltA ?_
            refine de_call Cmom (hr.mono (by decide)) rfl ?_
            refine da_cons ?_
            refine de_name (i := 8) rfl (.inl rfl) rfl ?_
            refine da_nil ?_
            refine ⟨_, ⟨z, rfl, rfl⟩, ?_⟩
            refine de_name (i := 6) rfl (.inr (.inl rfl)) rfl ?_
            refine ⟨mom_alike (mom z) (mom q), mom_ne _, (by rw [mom_depth, mom_depth]; exact Room.lt hr (n := 1) (by decide)), ?_⟩
            refine ⟨_, rfl, ?_⟩
            rw [mom_lt]
            refine ite2 (fun hc => ?_) (fun hc => ?_)
            · intro s1 H1 C1 cl1 fp1
              refine de_ix ?_
              refine de_ix ?_
              refine de_name (i := 8) rfl (.inl rfl) rfl ?_
              refine de_int ?_
              refine ⟨_, _, _, (by first | exact .inr rfl | exact .inl rfl), rfl, rfl, ?_⟩
              refine de_int ?_
              refine ⟨_, _, _, (by first | exact .inr rfl | exact .inl rfl), rfl, rfl, ?_⟩
              refine ⟨rfl, ?_⟩
              rw [take_snoc hz, List.filter_append, List.filter_cons_of_pos (by exact hc), List.map_append]; rfl
            · refine ⟨rfl, ?_⟩
              rw [take_snoc hz, List.filter_append, List.filter_cons_of_neg (by exact hc), List.filter_nil, List.append_nil]
        rintro acc ω' ⟨rfl, rfl⟩
        rw [List.length_map, List.take_length]
        obtain ⟨hz, hlast⟩ : ∃ r, (fst.filter fun r => mlt (mom r) (mom q)).getLast? = some r := by
          cases e : (fst.filter fun r => mlt (mom r) (mom q)).getLast? with
          | some r => exact ⟨r, rfl⟩
          | none =>
            have : d0 ∈ fst.filter fun r => mlt (mom r) (mom q) := List.mem_filter.mpr ⟨hd0, hq⟩
            rw [List.getLast?_eq_none_iff.mp e] at this
            cases this
        refine de_neg ?_
        refine de_int ?_
        refine ⟨_, rfl, ?_⟩
        refine ⟨_, _, _, .inl rfl, rfl, atD_last hlast, ?_⟩
        rw [show plD hz.2.p = plD (hereOf fst (mom q)) from by rw [hereOf_eq hlast]]
        refine dss_cons ?_
        refine ds_set (i := 10) sc.nd rfl (.inl rfl) ⟨_, rfl⟩ ?_
        refine de_ix ?_
        refine de_ix ?_
        refine de_ix ?_
        refine de_name (i := 0) rfl (.inl rfl) rfl ?_
        refine de_name (i := 3) rfl (.inl rfl) rfl ?_
        refine ⟨_, _, _, (by first | exact .inr rfl | exact .inl rfl), rfl, atD_map (drop_cons (nxt_spec hil hn')).1, ?_⟩
        refine de_int ?_
        refine ⟨_, _, _, (by first | exact .inr rfl | exact .inl rfl), rfl, rfl, ?_⟩
        refine de_int ?_
        refine ⟨_, _, _, (by first | exact .inr rfl | exact .inl rfl), rfl, rfl, ?_⟩
        refine dss_cons ?_
        refine ds_parO (i := 11) (j := 12) rfl sc.nd rfl rfl (by decide) rfl rfl ⟨_, rfl⟩ ⟨_, rfl⟩ ?_
        refine de_call Cdiff (hr.mono (by decide)) rfl ?_
        refine da_cons ?_
        refine de_name (i := 10) rfl (.inl rfl) rfl ?_
        refine da_cons ?_
        refine de_name (i := 9) rfl (.inl rfl) rfl ?_
        refine da_nil ?_
        refine ⟨_, ⟨q.2.p, hereOf fst (mom q), rfl, rfl⟩, ?_⟩
        refine nl_lst (da_nil ⟨by decide, fun p hp => ?_⟩)
        refine dss_cons ?_
        refine ds_forL .never rfl ?_
        refine de_sorted rfl T.sorted ?_
        refine de_cat ?_
        refine de_name (i := 2) rfl (.inl rfl) rfl ?_
        refine de_name (i := 5) rfl (.inl rfl) rfl ?_
        refine ⟨_, _, rfl, rfl, by rw [List.length_map, List.length_map]; omega, ?_⟩
        rw [← List.map_append]
        have htell : Tell (fst ++ snd) := tell_sub (hnum.tell) fun r hr => by
          rw [hrows]
          rcases List.mem_append.mp hr with h | h
          · exact hfm r h
          · exact hsm r h
        refine ⟨_, rfl, fun a ha b hb => ?_, .inl fun a ha => ?_, fun a ha => ?_, ?_⟩
        · obtain ⟨a, _, rfl⟩ := List.mem_map.mp ha
          obtain ⟨b, _, rfl⟩ := List.mem_map.mp hb
          exact row_alike a b
        · obtain ⟨a, _, rfl⟩ := List.mem_map.mp ha
          exact ⟨_, _, rfl⟩
        · obtain ⟨a, _, rfl⟩ := List.mem_map.mp ha
          rw [row_depth]; exact Room.lt hr (n := 5) (by decide)
        rw [sort_rows htell]
        have hsl2 : (sortR (fst ++ snd)).length ≤ 1800 := by
          rw [(sortR_perm _).length_eq, List.length_append]; omega
        refine ⟨_, rfl, fun k Γ ω => ∃ (here there : Pl) (o8 : Option Slot) (acc : List Mom), Γ = [some (.dat (rowsD rows)), some (.dat (.int slop)), some (.dat (rowsD fst)), some (.dat (.int ((rows.length - (qs.length + 1) : Nat) : Int))), some (.dat (optMomD (upOf (upMom fst) (upMom snd)))), some (.dat (rowsD snd)), some (.dat (momD (mom q))), some (.dat (optMomD (upMom snd))), o8, some (.dat (plD here)), some (.dat (plD there)), some (.dat (plD (diff q.2.p (hereOf fst (mom q))))), some (.own p)] ∧ ω = setO ow0 p (.lst (acc.map momD)) ∧ acc.length ≤ k ∧ pinchLoop fst slop (mom q) (diff q.2.p (hereOf fst (mom q))) (hereOf fst (mom q)) q.2.p (sortR (fst ++ snd)) = acc ++ pinchLoop fst slop (mom q) (diff q.2.p (hereOf fst (mom q))) here there ((sortR (fst ++ snd)).drop k), ⟨hereOf fst (mom q), q.2.p, none, [], rfl, rfl, Nat.le_refl _, rfl⟩, ?_, ?_⟩
        · rintro k d Γ ω hk ⟨here, there, o8, acc, rfl, rfl, hacc, hpl⟩
          rw [List.getElem?_map] at hk
          cases hz2 : (sortR (fst ++ snd))[k]? with
          | none => rw [hz2] at hk; cases hk
          | some r =>
          rw [hz2] at hk
          have e : rowD r = d := by simpa using hk
          subst e
          have hkl : k < (sortR (fst ++ snd)).length := (List.getElem?_eq_some_iff.mp hz2).1
          have hdk : (sortR (fst ++ snd)).drop k = r :: (sortR (fst ++ snd)).drop (k + 1) := by
            obtain ⟨_, e⟩ := List.getElem?_eq_some_iff.mp hz2
            rw [List.drop_eq_getElem_cons hkl, e]
          refine dg_name (i := 8) sc.nd rfl (.inl rfl) ⟨_, rfl⟩ ?_
          refine dss_one ?_
          refine ds_if ?_
          refine dt_andV (k1 := decide (r.2.w = .move)) (k2 := mlt (mom q) (mom r)) ?_ ?_ ?_
          · skip
            refine dt_cmp ?_
            refine dc_eqT ?_
            refine de_ix ?_
            refine de_ix ?_
            refine de_name (i := 8) rfl (.inl rfl) rfl ?_
            refine de_int ?_
            refine ⟨_, _, _, (by first | exact .inr rfl | exact .inl rfl), rfl, rfl, ?_⟩
            refine de_int ?_
            refine ⟨_, _, _, (by first | exact .inr rfl | exact .inl rfl), rfl, rfl, ?_⟩
            refine de_str ?_
            refine ⟨_, _, rfl, rfl, ?_⟩
            refine ⟨_, rfl, ?_⟩
            exact ⟨wayS_move _, rfl⟩
          · intro hb
            refine dt_cmp ?_
            refine dc_gtA ?_
            refine de_call Cmom (hr.mono (by decide)) rfl ?_
            refine da_cons ?_
            refine de_name (i := 8) rfl (.inl rfl) rfl ?_
            refine da_nil ?_
            refine ⟨_, ⟨r, rfl, rfl⟩, ?_⟩
            refine de_name (i := 6) rfl (.inr (.inl rfl)) rfl ?_
            refine ⟨mom_alike (mom r) (mom q), mom_ne _, (by rw [mom_depth, mom_depth]; exact Room.lt hr (n := 1) (by decide)), ?_⟩
            refine ⟨_, rfl, ?_⟩
            exact ⟨mom_lt (mom q) (mom r), rfl⟩
          refine ite2 (fun hmv => ?_) (fun hmv => ?_)
          · skip
            refine dss_cut (PL := fun Γ ω => Γ = [some (.dat (rowsD rows)), some (.dat (.int slop)), some (.dat (rowsD fst)), some (.dat (.int ((rows.length - (qs.length + 1) : Nat) : Int))), some (.dat (optMomD (upOf (upMom fst) (upMom snd)))), some (.dat (rowsD snd)), some (.dat (momD (mom q))), some (.dat (optMomD (upMom snd))), some (.dat (rowD r)), some (.dat (plD (if r ∈ fst then r.2.p else here))), some (.dat (plD (if r ∈ fst then there else r.2.p))), some (.dat (plD (diff q.2.p (hereOf fst (mom q))))), some (.own p)] ∧ ω = setO ow0 p (.lst (acc.map momD))) ?_ ?_
            · skip
              refine ds_if ?_
              refine dt_cmp ?_
              refine dc_inD (Room.lt hr (n := 65) (by decide)) ?_
              refine de_name (i := 8) rfl (.inl rfl) rfl ?_
              refine de_name (i := 2) rfl (.inl rfl) rfl ?_
              refine ⟨_, rfl, row_shaped r, rows_shaped fst, ?_⟩
              refine ⟨_, rfl, ?_⟩
              rw [rows_any]
              by_cases hin' : r ∈ fst
              · skip
                rw [decide_eq_true hin']
                refine iteT ?_
                refine dss_one ?_
                refine ds_set (i := 9) sc.nd rfl (.inl rfl) ⟨_, rfl⟩ ?_
                refine de_ix ?_
                refine de_ix ?_
                refine de_name (i := 8) rfl (.inl rfl) rfl ?_
                refine de_int ?_
                refine ⟨_, _, _, (by first | exact .inr rfl | exact .inl rfl), rfl, rfl, ?_⟩
                refine de_int ?_
                refine ⟨_, _, _, (by first | exact .inr rfl | exact .inl rfl), rfl, rfl, ?_⟩
                exact ⟨by rw [if_pos hin', if_pos hin']; rfl, rfl⟩
              · skip
                rw [decide_eq_false hin']
                refine iteF ?_
                refine dss_one ?_
                refine ds_set (i := 10) sc.nd rfl (.inl rfl) ⟨_, rfl⟩ ?_
                refine de_ix ?_
                refine de_ix ?_
                refine de_name (i := 8) rfl (.inl rfl) rfl ?_
                refine de_int ?_
                refine ⟨_, _, _, (by first | exact .inr rfl | exact .inl rfl), rfl, rfl, ?_⟩
                refine de_int ?_
                refine ⟨_, _, _, (by first | exact .inr rfl | exact .inl rfl), rfl, rfl, ?_⟩
                exact ⟨by rw [if_neg hin', if_neg hin']; rfl, rfl⟩
            · rintro Γ ω ⟨rfl, rfl⟩
              refine dss_one ?_
              refine ds_if ?_
              refine dt_cmp ?_
              refine dc_gt ?_
              refine de_call Cdist (hr.mono (by decide)) rfl ?_
              refine da_cons ?_
              refine de_call Cdiff (hr.mono (by decide)) rfl ?_
              refine da_cons ?_
              refine de_name (i := 10) rfl (.inl rfl) rfl ?_
              refine da_cons ?_
              refine de_name (i := 9) rfl (.inl rfl) rfl ?_
              refine da_nil ?_
              refine ⟨_, ⟨(if r ∈ fst then there else r.2.p), (if r ∈ fst then r.2.p else here), rfl, rfl⟩, ?_⟩
              refine da_cons ?_
              refine de_name (i := 11) rfl (.inl rfl) rfl ?_
              refine da_nil ?_
              refine ⟨_, ⟨diff (if r ∈ fst then there else r.2.p) (if r ∈ fst then r.2.p else here), diff q.2.p (hereOf fst (mom q)), rfl, rfl⟩, ?_⟩
              refine de_name (i := 1) rfl (.inl rfl) rfl ?_
              refine ⟨_, _, rfl, rfl, ?_⟩
              refine ⟨_, rfl, ?_⟩
              refine ite2 (fun hfar => ?_) (fun hfar => ?_)
              · skip
                refine dss_one ?_
                refine ds_append (i := 12) rfl (.inl rfl) rfl ?_ setO_same
                refine de_call Cmom (hr.mono (by decide)) rfl ?_
                refine da_cons ?_
                refine de_name (i := 8) rfl (.inl rfl) rfl ?_
                refine da_nil ?_
                refine ⟨_, ⟨r, rfl, rfl⟩, ?_⟩
                refine ⟨_, setO_same, by rw [List.length_map]; omega, ?_⟩
                refine ⟨_, _, _, acc ++ [mom r], rfl, ?_, by rw [List.length_append]; exact Nat.succ_le_succ hacc, ?_⟩
                · rw [setO_setO, List.map_append]; rfl
                · rw [hpl, hdk, pinch_step, if_pos hmv, if_pos (of_decide_eq_true hfar), List.append_assoc]
              · skip
                refine dss_nil ?_
                refine ⟨_, _, _, acc, rfl, rfl, by omega, ?_⟩
                rw [hpl, hdk, pinch_step, if_pos hmv, if_neg (fun z => hfar (decide_eq_true z)), List.nil_append]
          · skip
            refine dss_nil ?_
            refine ⟨_, _, _, acc, rfl, rfl, by omega, ?_⟩
            rw [hpl, hdk, pinch_step, if_neg hmv]
        · rintro Γ ω ⟨here, there, o8, acc, rfl, rfl, hacc, hpl⟩
          rw [List.length_map, List.drop_length] at hpl
          replace hpl : pinchLoop fst slop (mom q) (diff q.2.p (hereOf fst (mom q))) (hereOf fst (mom q)) q.2.p (sortR (fst ++ snd)) = acc := hpl.trans (List.append_nil _)
          refine dss_one ?_
          refine ds_ret ?_
          refine de_call Cfw (hr.mono (by decide)) rfl ?_
          refine da_cons ?_
          refine de_own (i := 12) rfl (.inl rfl) rfl setO_same ?_
          refine da_cons ?_
          refine de_name (i := 4) rfl (.inl rfl) rfl ?_
          refine da_nil ?_
          refine ⟨_, ⟨acc, upOf (upMom fst) (upMom snd), rfl, rfl⟩, ?_⟩
          have hval : pinchV rows slop = firstWord acc (upOf (upMom fst) (upMom snd)) := by
            rw [hpq]
            show (if ult _ _ = true then _ else _) = _
            rw [if_neg hlt, hpl]
          rw [hval]
end
end K20
set_option maxRecDepth 100000
set_option maxHeartbeats 4000000
namespace K20
open PySem PySem.Spec PyProof.Rows L2 Evl TC
inductive BR (G : Hp) : List (Str × PyData) → List (Str × Value) → Prop
  | nil : BR G [] []
  | cons {n : Str} {d : PyData} {v : V} {u : Value} {l : List (Str × PyData)} {bs : List (Str × Value)} : Dq G v d → RelV v u → BR G l bs → BR G ((n, d) :: l) ((n, u) :: bs)
theorem BR.append {G : Hp} : ∀ {l m : List (Str × PyData)} {bs cs : List (Str × Value)}, BR G l bs → BR G m cs → BR G (l ++ m) (bs ++ cs)
  | _, _, _, _, .nil, k => k
  | _, _, _, _, .cons a b h, k => .cons a b (BR.append h k)
def BO (G : Hp) : Option (List (Str × PyData)) → Option (List (Str × Value)) → Prop
  | none, none => True
  | some l, some bs => BR G l bs
  | _, _ => False
def DM (X : Cx) (p : Pattern) (d : PyData) (r : Option (List (Str × PyData))) : Prop := ∀ (pins : List (Addr × Obj)) (s : Shared) (σ : L2.St) (H G : Hp) (v : V) (u : Value), Inv X pins σ H s → Ex G H → Dq G v d → RelV v u → ∀ Q : Option (List (Str × Value)) → Shared → Prop, (∀ bs s', Inv X pins σ H s' → BO G r bs → Q bs s') → wpAny (model X.prog X.w) X.A (matchPattern p X.env u) Q X.xe s
def DMs (X : Cx) (ps : List Pattern) (ds : List PyData) (r : Option (List (Str × PyData))) : Prop := ∀ (pins : List (Addr × Obj)) (s : Shared) (σ : L2.St) (H G : Hp) (vs : List V) (us : List Value), Inv X pins σ H s → Ex G H → DqAll G vs ds → Vals vs us → ∀ Q : Option (List (Str × Value)) → Shared → Prop, (∀ bs s', Inv X pins σ H s' → BO G r bs → Q bs s') → wpAny (model X.prog X.w) X.A (matchEach ps X.env us) Q X.xe s
section
variable {X : Cx} {pos pc : Pos}
theorem dm_value {x y : Str} {j : Nat} : DM X (.MatchValue (.Constant (.str y) j pc) pos) (.str x) (if x = y then some [] else none) := fun pins s σ H G v u I e q r Q k => by
  cases q
  refine wpAny_matchPattern_Value (thn ((pe_str (X := X) (x := y) (j := j) (pos := pc)).run pins s σ H (fun v' H1 => v' = .str y ∧ H1 = H) I ⟨rfl, rfl⟩) fun xv s1 ⟨v1, H1, I1, r1, e1, e2⟩ => ?_)
  subst e1 e2
  refine thn (op_eq pins s1 σ H1 (.str x) (.str y) u xv (fun v' H2 => v' = .bl (decide (V.str x = V.str y)) ∧ H2 = H1) I1 r r1 ⟨rfl, rfl, rfl⟩) fun cv s2 ⟨v2, H2, I2, r2, e3, e4⟩ => ?_
  subst e3 e4
  cases r2
  refine wpAny_truthy_bool ?_
  by_cases h : x = y
  · rw [decide_eq_true (by rw [h]), if_pos rfl]
    exact k (some []) s2 I2 (by rw [if_pos h]; exact .nil)
  · rw [decide_eq_false (by intro z; cases z; exact h rfl), if_neg (by decide)]
    exact k none s2 I2 (by rw [if_neg h]; trivial)
theorem dm_hit {x y : Str} {j : Nat} (h : x = y) : DM X (.MatchValue (.Constant (.str y) j pc) pos) (.str x) (some []) := by
  have := dm_value (X := X) (x := x) (y := y) (j := j) (pc := pc) (pos := pos)
  rw [if_pos h] at this; exact this
theorem dm_no {x y : Str} {j : Nat} (h : x ≠ y) : DM X (.MatchValue (.Constant (.str y) j pc) pos) (.str x) none := by
  have := dm_value (X := X) (x := x) (y := y) (j := j) (pc := pc) (pos := pos)
  rw [if_neg h] at this; exact this
theorem dm_cap {n : Str} {d : PyData} : DM X (.MatchAs none (some n) pos) d (some [(n, d)]) := fun pins s σ H G v u I e q r Q k =>
  wpAny_matchPattern_Capture (k _ s I (.cons q r .nil))
theorem dms_nil : DMs X [] [] (some []) := fun pins s σ H G vs us I e q r Q k => wpAny_matchEach_nil (k _ s I .nil)
theorem dms_miss {p : Pattern} {ps : List Pattern} {d : PyData} {ds : List PyData} (h : DM X p d none) (hp : p.isStar = false := by rfl) : DMs X (p :: ps) (d :: ds) none := fun pins s σ H G vs us I e q r Q k => by
  cases q with
  | cons q1 q2 =>
    cases r with
    | cons r1 r2 =>
      refine wpAny_matchEach_cons (h pins s σ H G _ _ I e q1 r1 _ fun bs s' I' b => ?_) hp
      cases bs with
      | none => exact k none s' I' trivial
      | some bs => exact b.elim
theorem dms_cons {p : Pattern} {ps : List Pattern} {d : PyData} {ds : List PyData} {l : List (Str × PyData)} {r2 : Option (List (Str × PyData))} (h : DM X p d (some l)) (h2 : DMs X ps ds r2) (hp : p.isStar = false := by rfl) : DMs X (p :: ps) (d :: ds) (r2.map (l ++ ·)) := fun pins s σ H G vs us I e q r Q k => by
  cases q with
  | cons q1 q2 =>
    cases r with
    | cons r1 rr =>
      refine wpAny_matchEach_cons (h pins s σ H G _ _ I e q1 r1 _ fun bs s' I' b => ?_) hp
      cases bs with
      | none => exact b.elim
      | some bs =>
        refine h2 pins s' σ H G _ _ I' e q2 rr _ fun bs2 s2 I2 b2 => ?_
        cases bs2 with
        | none =>
          cases r2 with
          | none => exact k none s2 I2 trivial
          | some m => exact b2.elim
        | some bs2 =>
          cases r2 with
          | none => exact b2.elim
          | some m => exact k _ s2 I2 (BR.append b b2)
theorem dm_seq {ps : List Pattern} {ds : List PyData} {r : Option (List (Str × PyData))} (hc : X.calm = true) (hl : ds.length = ps.length) (h : DMs X ps ds r)
    (hstar : ps.findIdx? (·.isStar) = none := by rfl) (hwild : (ps.all fun p => p.isWildcard || (p.isStar && p.names.isEmpty)) = false := by rfl) : DM X (.MatchSequence ps pos) (.tuple ds) r := fun pins s σ H G v u I e q rv Q k => by
  cases q with
  | tup hx hd =>
    cases rv
    obtain ⟨its, rv, ht, hz⟩ := I.tuple (SqT.of (e _ _ hx))
    have hn : its.toArray.size = ps.length := by
      have h1 := rv.length
      have h2 := hd.len
      simp only [List.size_toArray]
      omega
    have hn63 := line63
    have hlen := rv.length
    refine matchSeq_tuple_hit ht (by simp only [List.size_toArray]; omega) hn ?_ hstar hwild
    rw [← hn]
    refine unpackItems_tuple (I.ok.hd hc) ht fun h' hx' => ?_
    refine h pins _ σ H G _ _ ?_ e hd (by simpa using rv) Q k
    exact I.kept (t' := _) fun b o e => hx' b o (Nat.ne_of_lt (Heap.lt_size e)) e
theorem dm_len {ps : List Pattern} {ds : List PyData} (hl : ds.length ≠ ps.length)
    (hstar : ps.findIdx? (·.isStar) = none := by rfl) (hwild : (ps.all fun p => p.isWildcard || (p.isStar && p.names.isEmpty)) = false := by rfl) : DM X (.MatchSequence ps pos) (.tuple ds) none := fun pins s σ H G v u I e q rv Q k => by
  cases q with
  | tup hx hd =>
    cases rv
    obtain ⟨its, rv, ht, hz⟩ := I.tuple (SqT.of (e _ _ hx))
    have hn : its.toArray.size ≠ ps.length := by
      have h1 := rv.length
      have h2 := hd.len
      simp only [List.size_toArray]
      omega
    have hn63 := line63
    have hlen := rv.length
    refine matchSeq_tuple_miss ht (by simp only [List.size_toArray]; omega) hn ?_ hstar hwild
    exact k none _ (I.tok _) trivial
theorem dm_or {x a b : Str} {j1 j2 : Nat} {c1 c2 p1 p2 : Pos} : DM X (.MatchOr [.MatchValue (.Constant (.str a) j1 c1) p1, .MatchValue (.Constant (.str b) j2 c2) p2] pos) (.str x) (if x = a ∨ x = b then some [] else none) := fun pins s σ H G v u I e q r Q k => by
  refine wpAny_matchPattern_Or (wpAny_matchFirst_cons (dm_value pins s σ H G v u I e q r _ fun bs s' I' hb => ?_))
  by_cases ha : x = a
  · rw [if_pos ha] at hb
    cases bs with
    | none => exact hb.elim
    | some bs =>
      cases hb
      exact k _ s' I' (by rw [if_pos (.inl ha)]; exact .nil)
  · rw [if_neg ha] at hb
    cases bs with
    | some bs => exact hb.elim
    | none =>
      refine wpAny_matchFirst_cons (dm_value pins s' σ H G v u I' e q r _ fun bs s2 I2 hb2 => ?_)
      by_cases hb' : x = b
      · rw [if_pos hb'] at hb2
        cases bs with
        | none => exact hb2.elim
        | some bs =>
          cases hb2
          exact k _ s2 I2 (by rw [if_pos (.inr hb')]; exact .nil)
      · rw [if_neg hb'] at hb2
        cases bs with
        | some bs => exact hb2.elim
        | none => exact wpAny_matchFirst_nil (k none s2 I2 (by rw [if_neg (fun z => z.elim ha hb')]; trivial))
end
def DB (X : Cx) : List (Str × PyData) → Gam → (Gam → Prop) → Prop
  | [], Γ, P => P Γ
  | (n, d) :: l, Γ, P => ∃ i, X.N[i]? = some n ∧ X.env.scope.names.lookup n = some .local ∧ (∃ o, Γ[i]? = some o) ∧ DB X l (Γ.set i (some (.dat d))) P
def DMC (X : Cx) (cs : List MatchCase) (d : PyData) (Γ : Gam) (ω : Ow) (D : DN) : Prop := ∀ (B : Bs) (σ : L2.St) (G H : Hp), SD B G H σ Γ ω → ∀ v, Dq G v d → ∀ (pins : List (Addr × Obj)) (s : Shared) (u : Value) (first : Bool), Inv X pins σ H s → RelV v u → wpAny (model X.prog X.w) X.A (matchCases cs X.env u first) (SP X pins (lift B D)) X.xe s
section
variable {X : Cx} {Γ : Gam} {ω : Ow} {D : DN} {pos : Pos}
theorem db_run (hN : X.N.Nodup) {B : Bs} {G H : Hp} {pins : List (Addr × Obj)} {P : Gam → Prop} {R : Shared → Prop} : ∀ {l : List (Str × PyData)} {bs : List (Str × Value)} {Γ : Gam} {σ : L2.St} {s : Shared}, BR G l bs → SD B G H σ Γ ω → Inv X pins σ H s → DB X l Γ P →
    (∀ σ' Γ' s', P Γ' → SD B G H σ' Γ' ω → Inv X pins σ' H s' → R s') → wpAny (model X.prog X.w) X.A (assignInOrder (bs.map fun (n, _) => bindName X.env n) (bs.map (·.2))) (fun _ s' => R s') X.xe s
  | _, _, Γ, σ, s, .nil, S, I, h, k => wpAny_assignInOrder_none (k σ Γ s h S I)
  | _, _, Γ, σ, s, .cons q r b, S, I, ⟨i, hi, hx, hl, h⟩, k =>
    wpAny_assignInOrder_more (wpAny_bindName (store_ok I hN hi (.inl hx) r (fun s' I' => db_run hN b (S.set (s := .dat _) q (S.ilt (glt hl))) I' h k) (.inr hx)))
theorem dmc_nil {d : PyData} (h : D.nx Γ ω) : DMC X [] d Γ ω D := fun B σ G H S v q pins s u first I r => wpAny_matchCases_nil ⟨σ, H, I, G, Γ, ω, S, h⟩
theorem dmc_miss {p : Pattern} {body : List Stmt} {cs : List MatchCase} {d : PyData} (hp : DM X p d none) (h : DMC X cs d Γ ω D) : DMC X (⟨p, none, body⟩ :: cs) d Γ ω D := fun B σ G H S v q pins s u first I r =>
  wpAny_matchCases_cons (hp pins s σ H G v u I S.sub q r _ fun bs s' I' hb => by
    cases bs with
    | none => exact h B σ G H S v q pins s' u false I' r
    | some bs => exact hb.elim)
theorem dmc_hit {p : Pattern} {body : List Stmt} {cs : List MatchCase} {d : PyData} {l : List (Str × PyData)} (hN : X.N.Nodup) (hp : DM X p d (some l)) (h : DB X l Γ fun Γ' => DSs X body D Γ' ω) : DMC X (⟨p, none, body⟩ :: cs) d Γ ω D := fun B σ G H S v q pins s u first I r =>
  wpAny_matchCases_cons (hp pins s σ H G v u I S.sub q r _ fun bs s' I' hb => by
    cases bs with
    | none => exact hb.elim
    | some bs => exact db_run hN hb S I' h fun σ2 Γ2 s2 h2 S2 I2 => h2 B σ2 G H S2 pins s2 I2)
theorem db_nil {P : Gam → Prop} (h : P Γ) : DB X [] Γ P := h
theorem db_cons {P : Gam → Prop} {n : Str} {d : PyData} {l : List (Str × PyData)} (i : Nat) (hi : X.N[i]? = some n) (hx : X.env.scope.names.lookup n = some .local) (hl : ∃ o, Γ[i]? = some o) (h : DB X l (Γ.set i (some (.dat d))) P) : DB X ((n, d) :: l) Γ P := ⟨i, hi, hx, hl, h⟩
theorem ds_match {e : Expr} {cs : List MatchCase} (h : DE X e Γ ω fun d ω1 => DMC X cs d Γ ω1 D) : DS X (.Match e cs pos) D Γ ω := fun B σ G H S pins s I =>
  wpAny_Match (thn (h B σ G H S (fun v H1 => ∃ d G1 ω1, SD B G1 H1 σ Γ ω1 ∧ Dq G1 v d ∧ DMC X cs d Γ ω1 D) (fun d v G2 H2 ω2 h2 S2 e2 q => ⟨d, G2, ω2, S2, q, h2⟩) pins s I) fun u s1 ⟨v, H1, I1, r1, d, G1, ω1, S1, q1, h1⟩ => h1 B σ G1 H1 S1 v q1 pins s1 u true I1 r1)
end
end K20
set_option maxRecDepth 100000
set_option maxHeartbeats 4000000
namespace K20
open PySem PySem.Spec PyProof.Rows L2 Evl TC
theorem enum_no_len : typeLookup (.type "enumerate") "__len__" = pure none := am_miss_of_fast (by decide +kernel)
theorem enum_no_hint : typeLookup (.type "enumerate") "__length_hint__" = pure none := am_miss_of_fast (by decide +kernel)
def EnSt (h : Heap) (e it l S : Addr) (items : Array Value) (i : Nat) : Prop := h.IsListIter it l i ∧ h.IsList l items ∧ ((i = 0 ∧ ∃ old, IsEnum h e it i old) ∨ ∃ old T f oT, IsEnumHeld h e it i old T f ∧ h.get? T = some oT ∧ T ≠ e ∧ T ≠ it ∧ T ≠ S)
theorem EnSt.keep {h h' : Heap} {e it l S : Addr} {items : Array Value} {i : Nat} (x : EnSt h e it l S items i) (hl : l ≠ S) (he : e ≠ S) (hi : it ≠ S) (k : ∀ b o, b ≠ S → h.get? b = some o → h'.get? b = some o) : EnSt h' e it l S items i := by
  obtain ⟨a, b, c⟩ := x
  refine ⟨a.at fun o q => k _ o hi q, b.at fun o q => k _ o hl q, ?_⟩
  rcases c with ⟨z, old, c⟩ | ⟨old, T, f, oT, c, d, r1, r2, r3⟩
  · exact .inl ⟨z, old, k _ _ he c⟩
  · exact .inr ⟨old, T, f, oT, k _ _ he c, k _ _ r3 d, r1, r2, r3⟩
structure EnG (items : Array Value) (lo : Addr) (h : Heap) (as : List Addr) : Prop where
  rise : as.Pairwise (· < ·)
  above : ∀ a ∈ as, lo < a
  pairs : ∀ (j : Nat) (a : Addr), as[j]? = some a → ∃ v t, items[j]? = some v ∧ h.get? a = some { cls := .type "tuple", data := .seq #[.int (j : Int) t, v] }
theorem EnG.there {items : Array Value} {lo : Addr} {h : Heap} {as : List Addr} (g : EnG items lo h as) {a : Addr} (ha : a ∈ as) : a < h.objs.size := by
  obtain ⟨j, hj⟩ := List.mem_iff_getElem?.mp ha
  obtain ⟨_, _, _, e⟩ := g.pairs j a hj
  exact Heap.lt_size e
section
variable {prog : Program} {w : World} {A : Around} {s : Shared} {R : Result → Shared → Prop} {items : Array Value} {e it l S : Addr}
theorem en_item {i : Nat} {Q : Option Value → Shared → Prop} {E : Value → Shared → Prop} (hei : e ≠ it) (hle : l ≠ e) (hli : l ≠ it) (st : EnSt s.heap e it l S items i) (hS : S < s.heap.objs.size) (hi : i < items.size)
    (hQ : ∀ h' v t, EnSt h' e it l S items (i + 1) → items[i]? = some v → h'.get? s.heap.objs.size = some { cls := .type "tuple", data := .seq #[.int (i : Int) t, v] } → h'.objs.size = s.heap.objs.size + 1 →
      (∀ b o, b ≠ e → b ≠ it → s.heap.get? b = some o → h'.get? b = some o) → Q (some (.ref s.heap.objs.size)) { s with heap := h', toks := s.toks + 1 }) :
    wpAny (model prog w) A (pyNext (.ref e)) Q E s := by
  obtain ⟨hit, hl, he⟩ := st
  have ex := Array.getElem?_eq_getElem hi
  have ec : ((i + 1 : Nat) : Int) = (i : Int) + 1 := by omega
  have nit : s.heap.objs.size ≠ it := let ⟨_, x, _⟩ := hit; Nat.ne_of_gt (Heap.lt_size x)
  rcases he with ⟨_, old, he⟩ | ⟨old, T, f, oT, he, hT, r1, r2, r3⟩
  · refine wpAny_pyNext_enum_item he hit hl ex hei fun h' ho hit' hT hsz hk => ?_
    exact hQ h' _ _ ⟨hit', hl.at fun o x => hk l o hle hli x, .inr ⟨_, s.heap.objs.size, false, _, (by rw [ec]; exact ho), hT, Nat.ne_of_gt (Heap.lt_size he), nit, Nat.ne_of_gt hS⟩⟩ ex hT hsz hk
  · refine wpAny_pyNext_enum_item_held he hT r1 r2 hit hl ex hei fun h' ho hit' hT' hsz hk => ?_
    exact hQ h' _ _ ⟨hit', hl.at fun o x => hk l o hle hli x, .inr ⟨old, T, true, oT, (by rw [ec]; exact ho), hk _ _ r1 r2 hT, r1, r2, r3⟩⟩ ex hT' hsz hk
theorem en_done {Q : Option Value → Shared → Prop} {E : Value → Shared → Prop} (hh : A.handled = none) (st : EnSt s.heap e it l S items items.size)
    (hQ : ∀ h', Heap.ExtBut it s.heap h' → Q none { s with heap := h' }) : wpAny (model prog w) A (pyNext (.ref e)) Q E s := by
  obtain ⟨hit, hl, he⟩ := st
  have hx : items[items.size]? = none := Array.getElem?_eq_none (Nat.le_refl _)
  rcases he with ⟨_, old, he⟩ | ⟨old, T, f, oT, he, hT, r1, r2, r3⟩
  · exact wpAny_pyNext_enum_end hh he hit hl hx hQ
  · exact wpAny_pyNext_enum_end_held hh he hit hl hx hQ
theorem en_loop (hh : A.handled = none) (hei : e ≠ it) (hle : l ≠ e) (hli : l ≠ it) (heS : e < S) (hiS : it < S) (hlS : l ≠ S) (hn : items.size ≤ sizeLine) (res : Value) {h₁ : Heap}
    (hR : ∀ h' tk acc c as, (∀ b o, b ≠ S → b ≠ e → b ≠ it → h₁.get? b = some o → h'.get? b = some o) → h'.get? S = some { cls := .type "list", dict := none, data := .seq acc c, slots := #[] } → as.length = items.size → EnG items S h' as →
      acc.toList = as.map Value.ref → R (.ok (.ret res)) { s with heap := h', toks := tk }) :
    ∀ (k i : Nat) (h : Heap) (tk c : Nat) (acc : Array Value) (as : List Addr), items.size - i = k → i ≤ items.size → EnSt h e it l S items i → (∀ b o, b ≠ S → b ≠ e → b ≠ it → h₁.get? b = some o → h.get? b = some o) →
      h.get? S = some { cls := .type "list", dict := none, data := .seq acc c, slots := #[] } → acc.toList = as.map Value.ref → as.length = i → EnG items S h as →
      codeAny (model prog w) A (.builtin "list.extend.loop" ⟨[.ref S, .ref e, res], []⟩) R { s with heap := h, toks := tk } := by
  have hSe : S ≠ e := Nat.ne_of_gt heS
  have hSi : S ≠ it := Nat.ne_of_gt hiS
  intro k
  induction k with
  | zero =>
    intro i h tk c acc as hk hi hst hkeep hS hacc hal hG
    have hin : i = items.size := by omega
    subst hin
    refine codeAny_builtin PySem.F.entry_extend_loop ?_
    rw [Around.under_plainId PySem.F.plain_extend_loop _]
    show wpAny _ A.in1 (pyNext (.ref e) >>= _) _ _ _
    refine wpAny_bind (en_done (s := { s with heap := h, toks := tk }) (A := A.in1) hh hst fun h' he => ?_)
    refine wpAny_pure (hR h' tk acc c as (fun b o h1 h2 h3 e => he b o h3 (hkeep b o h1 h2 h3 e)) (he S _ hSi hS) hal ⟨hG.rise, hG.above, fun j a hj => ?_⟩ hacc)
    obtain ⟨v, t, hj', e3⟩ := hG.pairs j a hj
    exact ⟨v, t, hj', he a _ (Nat.ne_of_gt (Nat.lt_trans hiS (hG.above a (List.mem_of_getElem? hj)))) e3⟩
  | succ k ih =>
    intro i h tk c acc as hk hi hst hkeep hS hacc hal hG
    have hlt : i < items.size := by omega
    have hsz : acc.size = i := by rw [← Array.length_toList, hacc, List.length_map, hal]
    refine codeAny_builtin PySem.F.entry_extend_loop ?_
    rw [Around.under_plainId PySem.F.plain_extend_loop _]
    show wpAny _ A.in1 (pyNext (.ref e) >>= _) _ _ _
    refine wpAny_bind (en_item (s := { s with heap := h, toks := tk }) (S := S) hei hle hli hst (Heap.lt_size hS) hlt fun h' v t hst' hv ht hz hkp => ?_)
    dsimp only at ht hz hkp ⊢
    have hS' := hkp S _ hSe hSi hS
    have up : ∀ b o, b ≠ S → h'.get? b = some o → (h'.update S (Obj.mapSeq (·.push (Value.ref h.objs.size)))).get? b = some o := fun b o hb e => (Heap.get?_update_other _ _ (Ne.symm hb)).trans e
    have hSl : S < h.objs.size := Heap.lt_size hS
    show wpAny _ A.in1 (updateSeq S (·.push (Value.ref h.objs.size)) >>= _) _ _ _
    refine wpAny_bind ?_
    refine wpAny_updateSeq hS' rfl (wpAny_pure ⟨plainId_quiet PySem.F.plain_extend_loop _, ih (i + 1) _ _ _ (acc.push (Value.ref h.objs.size)) (as ++ [h.objs.size]) (by omega) hlt (hst'.keep hlS (Ne.symm hSe) (Ne.symm hSi) up)
      (fun b o h1 h2 h3 e => up b o h1 (hkp b o h2 h3 (hkeep b o h1 h2 h3 e))) (Heap.get?_update_self _ hS' rfl) (by rw [Array.toList_push, hacc, List.map_append]; rfl) (by rw [List.length_append, hal]; rfl) ⟨?_, ?_, ?_⟩⟩) (by rw [hsz]; omega) (by show (acc.push (Value.ref h.objs.size)).size ≤ sizeLine + 1; rw [Array.size_push, hsz]; omega)
    · refine List.pairwise_append.mpr ⟨hG.rise, List.pairwise_singleton _ _, fun a ha b hb => ?_⟩
      rw [List.mem_singleton.mp hb]
      exact hG.there ha
    · intro a ha
      rcases List.mem_append.mp ha with ha | ha
      · exact hG.above a ha
      · rw [List.mem_singleton.mp ha]; exact hSl
    · intro j b hj
      rcases Nat.lt_trichotomy j as.length with h1 | h1 | h1
      · rw [List.getElem?_append_left h1] at hj
        obtain ⟨v', t', hj', e3⟩ := hG.pairs j b hj
        have hb := hG.above b (List.mem_of_getElem? hj)
        exact ⟨v', t', hj', up b _ (Nat.ne_of_gt hb) (hkp b _ (Nat.ne_of_gt (Nat.lt_trans heS hb)) (Nat.ne_of_gt (Nat.lt_trans hiS hb)) e3)⟩
      · subst h1
        have hb : h.objs.size = b := by simpa using hj
        subst hb
        subst hal
        exact ⟨v, t, hv, up _ _ (Nat.ne_of_gt hSl) ht⟩
      · have hnone : (as ++ [h.objs.size])[j]? = none := List.getElem?_eq_none (by rw [List.length_append, List.length_singleton]; omega)
        rw [hnone] at hj; cases hj
theorem en_extend (hh : A.handled = none) (hei : e ≠ it) (hle : l ≠ e) (hli : l ≠ it) (heS : e < S) (hiS : it < S) (hlS : l ≠ S) (hn : items.size ≤ sizeLine) (res : Value) (c₀ : Nat) (st : EnSt s.heap e it l S items 0) (hS : s.heap.get? S = some { cls := .type "list", data := .seq #[] c₀ })
    (hR : ∀ h' tk acc c as, (∀ b o, b ≠ S → b ≠ e → b ≠ it → s.heap.get? b = some o → h'.get? b = some o) → h'.get? S = some { cls := .type "list", dict := none, data := .seq acc c, slots := #[] } → as.length = items.size → EnG items S h' as →
      acc.toList = as.map Value.ref → R (.ok (.ret res)) { s with heap := h', toks := tk }) :
    wpAny (model prog w) A.in1 (Builtin.List.listExtendWith (.ref S) (.ref e) res)
      (fun fin s' => match fin with | .done f => R (.ok f) s' | .again c' => c'.quiet = true ∧ codeAny (model prog w) A c' R s') (fun e s' => R (.error e) s') s := by
  obtain ⟨old, he⟩ : ∃ old, IsEnum s.heap e it (0 : Nat) old ∨ ∃ T f oT, IsEnumHeld s.heap e it (0 : Nat) old T f ∧ s.heap.get? T = some oT ∧ T ≠ e ∧ T ≠ it ∧ T ≠ S := by
    rcases st.2.2 with ⟨_, old, c⟩ | ⟨old, T, f, oT, c⟩
    · exact ⟨old, .inl c⟩
    · exact ⟨old, .inr ⟨T, f, oT, c⟩⟩
  have hT : s.TypeIs (.ref e) "enumerate" := by
    rcases he with c | ⟨T, f, oT, c, _⟩
    · exact ⟨_, c, rfl⟩
    · exact ⟨_, c, rfl⟩
  unfold Builtin.List.listExtendWith
  refine wpAny_bind (wpAny_typeOf (T := "enumerate") hT ?_)
  have h1 : Builtin.List.listSameRef (.ref S) (.ref e) = false := by simp [Builtin.List.listSameRef, Nat.ne_of_gt heS]
  have h2 : (Value.type "enumerate" == Value.type "list") = false := by decide
  have h3 : (Value.type "enumerate" == Value.type "tuple") = false := by decide
  simp only [h1, h2, h3, Bool.or_false, Bool.false_eq_true, if_false]
  have hIter : ∀ {Q : Value → Shared → Prop} {E : Value → Shared → Prop}, Q (.ref e) s → wpAny (model prog w) A.in1 (pyIter (.ref e)) Q E s := fun {Q E} h => by
    refine wpAny_pyIter_slot hT F.slot_enumerate_iter (wpAny_call_entry F.slot_enumerate_iter hT F.entry_enumerate_iter ?_ (F.args_enumerate_iter_1 _))
    show wpAny _ _ (ret (.ref e)) _ _ s
    exact wpAny_pure ⟨_, rfl, "enumerate", _, hT, F.slot_enumerate_next.lookup, h⟩
  refine wpAny_bind (hIter ?_)
  refine wpAny_bind (wpAny_holding ?_)
  unfold Builtin.List.listLengthHint
  refine wpAny_bind (wpAny_specialOf hT enum_no_len ?_)
  show wpAny _ A.in1 (specialOf (Value.ref e) (Str.ofString "__length_hint__") >>= _) _ _ _
  refine wpAny_bind (wpAny_specialOf hT enum_no_hint ?_)
  refine wpAny_pure ?_
  show wpAny _ A.in1 (rule "list.extend.makes-room" >>= fun _ => Builtin.List.listTouch (.ref S) >>= fun _ =>
    again (.builtin "list.extend.loop" ⟨[.ref S, .ref e, res], []⟩)) _ _ _
  refine wpAny_bind (wpAny_rule ?_)
  refine wpAny_bind ?_
  show wpAny _ A.in1 (updateSeq S (·.push .none) >>= fun _ => updateSeq S (·.pop)) _ _ _
  refine wpAny_bind (wpAny_updateSeq hS rfl ?_)
  have hS₂ := Heap.get?_update_self (Obj.mapSeq (·.push Value.none)) hS rfl
  refine wpAny_updateSeq (hz := by seq_fits) hS₂ rfl ?_
  have hS₃ := Heap.get?_update_self (Obj.mapSeq (·.pop)) hS₂ rfl
  have oth : ∀ b o, b ≠ S → s.heap.get? b = some o → ((s.heap.update S (Obj.mapSeq (·.push Value.none))).update S (Obj.mapSeq (·.pop))).get? b = some o :=
    fun b o hb e => (Heap.get?_update_other _ _ (Ne.symm hb)).trans ((Heap.get?_update_other _ _ (Ne.symm hb)).trans e)
  refine wpAny_pure ⟨plainId_quiet F.plain_extend_loop _, en_loop (s := s) (h₁ := s.heap) hh hei hle hli heS hiS hlS hn res hR
    items.size 0 _ s.toks _ #[] [] (Nat.sub_zero _) (Nat.zero_le _) (st.keep hlS (Nat.ne_of_lt heS) (Nat.ne_of_lt hiS) oth) (fun b o h1 _ _ x => oth b o h1 x) hS₃ rfl rfl ⟨List.Pairwise.nil, (fun _ ha => nomatch ha), (fun j a hj => by simp at hj)⟩⟩
theorem en_init (hh : A.handled = none) (hei : e ≠ it) (hle : l ≠ e) (hli : l ≠ it) (heS : e < S) (hiS : it < S) (hlS : l ≠ S) (hn : items.size ≤ sizeLine) (st : EnSt s.heap e it l S items 0) (hS : s.heap.get? S = some { cls := .type "list", data := .seq #[] })
    (hR : ∀ h' tk acc c as, (∀ b o, b ≠ S → b ≠ e → b ≠ it → s.heap.get? b = some o → h'.get? b = some o) → h'.get? S = some { cls := .type "list", dict := none, data := .seq acc c, slots := #[] } → as.length = items.size → EnG items S h' as →
      acc.toList = as.map Value.ref → R (.ok (.ret .none)) { s with heap := h', toks := tk }) :
    wpAny (model prog w) A.in1 (Builtin.«list.__init__» ⟨[.ref S, .ref e], []⟩)
      (fun fin s' => match fin with | .done f => R (.ok f) s' | .again c' => c'.quiet = true ∧ codeAny (model prog w) A c' R s') (fun e s' => R (.error e) s') s := by
  show wpAny _ _ (do let old ← Builtin.List.listItems (.ref S); Builtin.List.listUpdate (.ref S) (fun _ => #[]); letGo old.toList.reverse; Builtin.List.listExtendWith (.ref S) (.ref e) .none) _ _ s
  refine wpAny_bind ?_
  unfold Builtin.List.listItems
  refine wpAny_bind (wpAny_seqItems hS rfl (wpAny_pure ?_))
  show wpAny _ _ (updateSeq S (fun _ => #[]) >>= fun _ => letGo (#[] : Array Value).toList.reverse >>= fun _ => Builtin.List.listExtendWith (.ref S) (.ref e) .none) _ _ s
  refine wpAny_bind (wpAny_updateSeq hS rfl ?_)
  have hS₂ := Heap.get?_update_self (Obj.mapSeq (fun _ => (#[] : Array Value))) hS rfl
  have oth : ∀ b o, b ≠ S → s.heap.get? b = some o → (s.heap.update S (Obj.mapSeq (fun _ => (#[] : Array Value)))).get? b = some o :=
    fun b o hb e => (Heap.get?_update_other _ _ (Ne.symm hb)).trans e
  refine wpAny_bind (wpAny_letGo ?_)
  refine en_extend hh hei hle hli heS hiS hlS hn .none _ (st.keep hlS (Nat.ne_of_lt heS) (Nat.ne_of_lt hiS) oth) hS₂ (fun h' tk acc c as hk hS' hl hG hacc => ?_)
  exact hR h' tk acc c as (fun b o hb h2 h3 x => hk b o hb h2 h3 (oth b o hb x)) hS' hl hG hacc
theorem en_call {Q : Value → Shared → Prop} {E : Value → Shared → Prop} (hh : A.handled = none) (hei : e ≠ it) (hle : l ≠ e) (hli : l ≠ it) (hn : items.size ≤ sizeLine) (he : ∃ old, IsEnum s.heap e it 0 old) (hit : s.heap.IsListIter it l 0) (hl : s.heap.IsList l items)
    (hQ : ∀ h' tk acc c as, (∀ b o, b ≠ e → b ≠ it → s.heap.get? b = some o → h'.get? b = some o) → h'.get? s.heap.objs.size = some { cls := .type "list", dict := none, data := .seq acc c, slots := #[] } → as.length = items.size → EnG items s.heap.objs.size h' as →
      acc.toList = as.map Value.ref → Q (.ref s.heap.objs.size) { s with heap := h', toks := tk }) :
    wpAny (model prog w) A (call (.type "list") [.ref e]) Q E s := by
  refine callType_codes (Q₁ := fun obj s₁ => obj = .ref s.heap.objs.size ∧ s₁ = { s with heap := s.heap.push { cls := .type "list", data := .seq #[] } }) PySem.F.called_list (PySem.F.typeCall_list_1 _) PySem.F.entry_list_init
    (code_list_new _ ⟨rfl, rfl⟩) fun obj s₁ h₁ => ?_
  obtain ⟨rfl, rfl⟩ := h₁
  obtain ⟨old, he⟩ := he
  have hS : (s.heap.push { cls := .type "list", data := .seq #[] }).get? s.heap.objs.size = some { cls := .type "list", data := .seq #[] } := Heap.get?_push_size _ rfl
  have hei' : e < s.heap.objs.size := Heap.lt_size he
  have hii : it < s.heap.objs.size := let ⟨_, x, _⟩ := hit; Heap.lt_size x
  have hll : l < s.heap.objs.size := let ⟨_, x, _⟩ := hl; Heap.lt_size x
  have st : EnSt (s.heap.push { cls := .type "list", data := .seq #[] }) e it l s.heap.objs.size items 0 :=
    ⟨hit.at fun o x => Heap.get?_push_of_some _ x, hl.at fun o x => Heap.get?_push_of_some _ x, .inl ⟨rfl, old, Heap.get?_push_of_some _ he⟩⟩
  refine ⟨⟨_, hS, rfl⟩, PySem.F.args_list_init_2 _ _, en_init (A := A.in1) hh hei hle hli hei' hii (Nat.ne_of_lt hll) hn st hS (fun h' tk acc c as hk hS' hal hG hacc => ?_)⟩
  exact ⟨rfl, hQ h' tk acc c as (fun b o h2 h3 x => hk b o (Nat.ne_of_lt (Heap.lt_size x)) h2 h3 (Heap.get?_push_of_some _ x)) hS' hal hG hacc⟩
end
def updL (H : Hp) : List (Addr × HO) → Hp
  | [] => H
  | (a, o) :: r => updL (upd H a o) r
theorem updL_not {a : Addr} : ∀ {as : List (Addr × HO)} {H : Hp}, a ∉ as.map (·.1) → updL H as a = H a
  | [], _, _ => rfl
  | (b, o) :: r, H, h => by
    have h1 : a ≠ b := fun z => h (by rw [z]; exact List.mem_cons_self)
    have h2 : a ∉ r.map (·.1) := fun z => h (List.mem_cons_of_mem _ z)
    show updL (upd H b o) r a = H a
    rw [updL_not h2, upd_ne h1]
theorem updL_at {a : Addr} {o : HO} : ∀ {as : List (Addr × HO)} {H : Hp}, (as.map (·.1)).Nodup → (a, o) ∈ as → updL H as a = some o
  | (b, u) :: r, H, hn, h => by
    have hn' : b ∉ r.map (·.1) ∧ (r.map (·.1)).Nodup := List.nodup_cons.mp hn
    show updL (upd H b u) r a = some o
    rcases List.mem_cons.mp h with z | z
    · cases z
      rw [updL_not hn'.1, upd_same]
    · exact updL_at hn'.2 z
section
variable {X : Cx} {pins : List (Addr × Obj)} {σ : L2.St}
theorem laidL {h' : Heap} {t' : Nat} : ∀ {as : List (Addr × HO)} {H : Hp} {s : Shared}, Inv X pins σ H s → (∀ b u, s.heap.get? b = some u → h'.get? b = some u) → (as.map (·.1)).Nodup → (∀ p ∈ as, s.heap.get? p.1 = none ∧ H p.1 = none) →
    (∀ p ∈ as, ∀ (H : Hp) (h : Heap), h.get? p.1 = h'.get? p.1 → ObjOk X.prog X.w (upd H p.1 p.2) h p.1 p.2) → Inv X pins σ (updL H as) { s with heap := h', toks := t' }
  | [], H, s, I, k, _, _, _ => I.kept k
  | (a, o) :: r, H, s, I, k, hn, hf, ho => by
    have hn' : a ∉ r.map (·.1) ∧ (r.map (·.1)).Nodup := List.nodup_cons.mp hn
    obtain ⟨G, g1, g2⟩ := restrict h' fun b => (s.heap.get? b).isSome || decide (b = a)
    have ga : G.get? a = h'.get? a := g1 a (by simp)
    have I1 : Inv X pins σ (upd H a o) { s with heap := G, toks := t' } := I.laidN (fun b u e => (g1 b (by rw [e]; rfl)).trans (k b u e)) (hf (a, o) List.mem_cons_self).1 (hf (a, o) List.mem_cons_self).2 (ho (a, o) List.mem_cons_self H G ga)
    have := laidL (h' := h') (t' := t') (as := r) (H := upd H a o) (s := { s with heap := G, toks := t' }) I1 (fun b u e => by
      cases hp : ((s.heap.get? b).isSome || decide (b = a)) with
      | true => rw [← g1 b hp]; exact e
      | false =>
        have e' : G.get? b = some u := e
        rw [g2 b hp] at e'; cases e') hn'.2 (fun p hp => by
      have hne : p.1 ≠ a := fun z => hn'.1 (by rw [← z]; exact List.mem_map.mpr ⟨p, hp, rfl⟩)
      obtain ⟨q1, q2⟩ := hf p (List.mem_cons_of_mem _ hp)
      refine ⟨?_, by rw [upd_ne hne]; exact q2⟩
      show G.get? p.1 = none
      exact g2 p.1 (by rw [q1, decide_eq_false hne]; rfl)) (fun p hp => ho p (List.mem_cons_of_mem _ hp))
    exact this
def pairsOf : Nat → List Addr → List V → List (Addr × HO)
  | k, a :: as, x :: xs => (a, .tup [.int (k : Int), x]) :: pairsOf (k + 1) as xs
  | _, _, _ => []
theorem pairsOf_fst : ∀ {k : Nat} {as : List Addr} {xs : List V}, as.length = xs.length → (pairsOf k as xs).map (·.1) = as
  | _, [], [], _ => rfl
  | _, [], _ :: _, h => by simp at h
  | _, _ :: _, [], h => by simp at h
  | k, a :: as, x :: xs, h => by
    show a :: (pairsOf (k + 1) as xs).map (·.1) = a :: as
    rw [pairsOf_fst (by simpa using h)]
theorem pairsOf_mem : ∀ {k : Nat} {as : List Addr} {xs : List V} {p : Addr × HO}, p ∈ pairsOf k as xs → ∃ (j : Nat) (x : V), as[j]? = some p.1 ∧ xs[j]? = some x ∧ p.2 = .tup [.int ((k + j : Nat) : Int), x]
  | k, [], _, p, h => by simp [pairsOf] at h
  | k, _ :: _, [], p, h => by simp [pairsOf] at h
  | k, a :: as, x :: xs, p, h => by
    rcases List.mem_cons.mp h with z | z
    · subst z; exact ⟨0, x, rfl, rfl, rfl⟩
    · obtain ⟨j, y, h1, h2, h3⟩ := pairsOf_mem z
      exact ⟨j + 1, y, by simpa using h1, by simpa using h2, by rw [h3, show k + 1 + j = k + (j + 1) by omega]⟩
theorem pairsOf_at : ∀ {k : Nat} {as : List Addr} {xs : List V} {j : Nat} {a : Addr} {x : V}, as[j]? = some a → xs[j]? = some x → (a, HO.tup [.int ((k + j : Nat) : Int), x]) ∈ pairsOf k as xs
  | k, [], _, j, a, x, h, _ => by simp at h
  | k, _ :: _, [], j, a, x, _, h => by simp at h
  | k, b :: as, y :: xs, 0, a, x, h1, h2 => by
    simp at h1 h2; subst h1 h2; exact List.mem_cons_self
  | k, b :: as, y :: xs, j + 1, a, x, h1, h2 => by
    have := pairsOf_at (k := k + 1) (j := j) (as := as) (xs := xs) (a := a) (x := x) (by simpa using h1) (by simpa using h2)
    rw [show k + 1 + j = k + (j + 1) by omega] at this
    exact List.mem_cons_of_mem _ this
def tLE (K : PySem.W.Frag) (ta : TE) : TE := fun σ H Q => ta σ H fun v H1 => ∃ l xs, v = .ref l ∧ SqL K H1 l xs ∧ ∀ (S : Addr) (as : List Addr), as.length = xs.length → (S :: as).Nodup → (∀ a ∈ S :: as, H1 a = none) → Q (.ref S) (updL H1 ((S, .lst (as.map .ref)) :: pairsOf 0 as xs))
theorem boot_list : bootBuiltins "list" = some (.type "list") := by decide +kernel
theorem pe_listEnum {a : Expr} {ta : TE} {p p2 pos pos2 : Pos} (hc : X.calm = true) (hg : Gl X "list") (hm : X.mg "list" = none) (hg2 : Gl X "enumerate") (hm2 : X.mg "enumerate" = none) (ha : PE X a ta)
    (s1 : starEach [a] X.env = [(false, eval a X.env)] := by rfl) (s2 : starEach [.Call (.Name "enumerate" p2) [a] [] pos2] X.env = [(false, eval (.Call (.Name "enumerate" p2) [a] [] pos2) X.env)] := by rfl) : PE X (.Call (.Name "list" p) [.Call (.Name "enumerate" p2) [a] [] pos2] [] pos) (tLE X.K ta) := by
  refine ⟨fun pins s σ H Q I h => ?_⟩
  refine wpAny_Call_Name_kw (ld_blt I hg hm boot_list ?_)
  refine PyProof.Rows.callWith_type1 ?_ s2 rfl
  rw [s2]
  show wpAny _ _ (spliced ((false, eval (.Call (.Name "enumerate" p2) [a] [] pos2) X.env) :: [])) _ _ s
  refine Calls.spliced_cons ?_
  refine wpAny_Call_Name_kw (ld_blt I hg2 hm2 boot_enumerate (PyProof.Rows.callWith_type1 ?_ s1 rfl))
  rw [s1]
  show wpAny _ _ (spliced ((false, eval a X.env) :: [])) _ _ s
  refine Calls.spliced_cons (thn (ha.run pins s σ H _ I h) fun u s1' ⟨v, H1, I1, r, l, xs, e2, hq, q⟩ => Calls.spliced_nil ?_)
  subst e2
  cases r
  obtain ⟨its, rv, pl, hz⟩ := I1.list hq
  have hlen := rv.length
  refine call_enumerate_list pl.isList fun h' he hit hsz hk => ?_
  refine Calls.spliced_nil ?_
  have hll : l < s1'.heap.objs.size := let ⟨_, x, _⟩ := pl.isList; Heap.lt_size x
  have hl' : h'.IsList l its.toArray := pl.isList.at fun o x => hk _ _ x
  refine en_call (s := { s1' with heap := h' }) (I.ok.hd hc) (Nat.succ_ne_self _) (Nat.ne_of_lt (Nat.lt_succ_of_lt hll)) (Nat.ne_of_lt hll) (by simp only [List.size_toArray]; omega) ⟨_, he⟩ hit hl' fun h2 tk acc c as hk2 hS hal hG hacc => ?_
  have hS2 : s1'.heap.objs.size + 2 = h'.objs.size := hsz.symm
  have hge : ∀ a ∈ h'.objs.size :: as, s1'.heap.objs.size ≤ a := fun a ha => by
    rcases List.mem_cons.mp ha with z | z
    · rw [z]; omega
    · have := hG.above a z
      have : h'.objs.size < a := this
      omega
  have hnone : ∀ a ∈ h'.objs.size :: as, H1 a = none := fun a ha => I1.hok.fresh (hge a ha)
  have hal' : as.length = xs.length := by
    have : as.length = its.toArray.size := hal
    rw [this]; simp only [List.size_toArray]; omega
  have hnd : (h'.objs.size :: as).Nodup := List.nodup_cons.mpr ⟨fun z => Nat.lt_irrefl _ (hG.above _ z), hG.rise.imp fun z => Nat.ne_of_lt z⟩
  refine ⟨.ref h'.objs.size, _, ?_, rfl, q h'.objs.size as hal' hnd hnone⟩
  have hL : (((h'.objs.size, HO.lst (as.map V.ref)) :: pairsOf 0 as xs).map (·.1)) = h'.objs.size :: as := by
    show _ :: (pairsOf 0 as xs).map (·.1) = _
    rw [pairsOf_fst hal']
  refine laidL (s := s1') I1 (fun b u x => hk2 b u ?_ ?_ (hk b u x)) (by rw [hL]; exact hnd) (fun p hp => ?_) (fun p hp H' hh hh2 => ?_)
  · exact Nat.ne_of_lt (Nat.lt_succ_of_lt (Heap.lt_size x))
  · exact Nat.ne_of_lt (Heap.lt_size x)
  · have hm : p.1 ∈ h'.objs.size :: as := by rw [← hL]; exact List.mem_map.mpr ⟨p, hp, rfl⟩
    refine ⟨?_, hnone _ hm⟩
    cases q : s1'.heap.get? p.1 with
    | none => rfl
    | some o => exact absurd (Heap.lt_size q) (Nat.not_lt.mpr (hge _ hm))
  · rcases List.mem_cons.mp hp with z | z
    · subst z
      refine ⟨by rw [List.length_map]; omega, as.map Value.ref, c, ?_, by rw [hh2, hS, ← hacc]⟩
      have : ∀ l : List Addr, Vals (l.map V.ref) (l.map Value.ref) := fun l => by
        induction l with
        | nil => exact .nil
        | cons a l ih => exact .cons rfl ih
      exact this as
    · obtain ⟨j, x, h1, h3, h4⟩ := pairsOf_mem z
      obtain ⟨v, t, h5, h6⟩ := hG.pairs j p.1 h1
      rw [h4]
      obtain ⟨u, h7, h8⟩ := rv.get h3
      have h7' : its.toArray[j]? = some u := by simpa using h7
      rw [h5] at h7'; cases h7'
      exact ⟨by show 2 ≤ sizeLine; decide, [.int ((0 + j : Nat) : Int) t, v], .cons ⟨t, rfl⟩ (.cons h8 .nil), ⟨_, hh2.trans h6, rfl, _, by rw [Nat.zero_add]⟩⟩
end
def enumD : Nat → List PyData → List PyData
  | _, [] => []
  | k, d :: ds => .tuple [.int (k : Int), d] :: enumD (k + 1) ds
theorem dq_enum {F : Hp} : ∀ {k : Nat} {as : List Addr} {xs : List V} {ds : List PyData}, as.length = xs.length → DqAll F xs ds → (∀ (j : Nat) (a : Addr) (x : V), as[j]? = some a → xs[j]? = some x → F a = some (.tup [.int ((k + j : Nat) : Int), x])) → DqAll F (as.map .ref) (enumD k ds)
  | k, [], [], _, _, h, _ => by cases h; exact .nil
  | k, [], _ :: _, _, hl, _, _ => by simp at hl
  | k, _ :: _, [], _, hl, _, _ => by simp at hl
  | k, a :: as, x :: xs, _, hl, h, hf => by
    cases h with
    | cons h1 h2 =>
      refine .cons (.tup (hf 0 a x rfl rfl) (.cons (.int _) (.cons h1 .nil))) (dq_enum (by simpa using hl) h2 fun j b y e1 e2 => ?_)
      have := hf (j + 1) b y (by simpa using e1) (by simpa using e2)
      rw [show k + (j + 1) = k + 1 + j by omega] at this
      exact this
section
variable {X : Cx} {Γ : Gam} {ω : Ow} {P : PyData → Ow → Prop} {a : Expr} {p p2 pos pos2 : Pos}
theorem de_listEnum (hc : X.calm = true) (hg : Gl X "list") (hm : X.mg "list" = none) (hg2 : Gl X "enumerate") (hm2 : X.mg "enumerate" = none) (h : DE X a Γ ω fun y ω1 => ∃ ds, y = .list ds ∧ P (.list (enumD 0 ds)) ω1)
    (s1 : starEach [a] X.env = [(false, eval a X.env)] := by rfl) (s2 : starEach [.Call (.Name "enumerate" p2) [a] [] pos2] X.env = [(false, eval (.Call (.Name "enumerate" p2) [a] [] pos2) X.env)] := by rfl) : DE X (.Call (.Name "list" p) [.Call (.Name "enumerate" p2) [a] [] pos2] [] pos) Γ ω P := fun B σ G H S Q q =>
  we_of (pe_listEnum hc hg hm hg2 hm2 pe_we s1 s2) (h B σ G H S _ fun d v G2 H2 ω2 h2 S2 e2 q1 => by
    obtain ⟨ds, rfl, hp⟩ := h2
    cases q1 with
    | @lst l xs _ hx hd =>
      refine ⟨l, xs, rfl, SqL.of (S2.sub _ _ hx), fun T as hal hnd hnone => ?_⟩
      have hL : (((T, HO.lst (as.map V.ref)) :: pairsOf 0 as xs).map (·.1)) = T :: as := by
        show _ :: (pairsOf 0 as xs).map (·.1) = _
        rw [pairsOf_fst hal]
      have hex : Ex H2 (updL H2 ((T, .lst (as.map .ref)) :: pairsOf 0 as xs)) := fun b o e => by
        rw [updL_not]
        · exact e
        · rw [hL]
          intro z
          rw [hnone b z] at e; cases e
      refine q _ _ _ _ ω2 hp (S2.pure hex) (e2.trans (gain_ex S2.sub)) (.lst (xs := as.map .ref) ?_ (dq_enum hal (hd.mono (gain_ex S2.sub)) fun j b x e1 e3 => ?_))
      · rw [gain_new (hnone T List.mem_cons_self)]
        exact updL_at (by rw [hL]; exact hnd) List.mem_cons_self
      · rw [gain_new (hnone b (List.mem_cons_of_mem _ (List.mem_of_getElem? e1)))]
        exact updL_at (by rw [hL]; exact hnd) (List.mem_cons_of_mem _ (pairsOf_at e1 e3)))
end
end K20
set_option maxRecDepth 100000
set_option maxHeartbeats 4000000
namespace K20
open PySem PySem.Spec PyProof.Rows L2 Evl TC
def kindD : TC.Kind → PyData
  | .touch => .tuple [.str "touch"]
  | .tap t s => .tuple [.str "tap", .int t, .int s]
  | .taps c t g s => .tuple [.str "taps", .int c, .int t, .int g, .int s]
  | .long t s => .tuple [.str "long", .int t, .int s]
  | .drag a s => .tuple [.str "drag", .str (axS a), .int s]
  | .pinch s => .tuple [.str "pinch", .int s]
def resD : Option (Bool × Int × Option Int) → PyData
  | none => .none
  | some (w, t, o) => .tuple [.str (wordS w), .int t, match o with | none => .none | some n => .int n]
section
variable {P : Program} {w : World} {K : PySem.W.Frag} {mg : Str → Option Value} {base : Heap}
abbrev sWM : Stmt := top 33
theorem scWM : FnScope ["kind", "rows", "time", "slop", "count", "gap", "axis", "press"] ["kind", "rows"] (defScope sWM) := ⟨rfl, rfl, rfl, by decide +kernel, rfl, by decide +kernel, by decide +kernel⟩
def rWM : List PyData → PyData → Prop := fun ds d => ∃ (k : TC.Kind) (d0 : TC.Row) (rest : List TC.Row), ds = [kindD k, rowsD (d0 :: rest)] ∧ (d0 :: rest).length ≤ 900 ∧ Num (d0 :: rest) ∧ Asc (d0 :: rest) ∧ k.Ok ∧ d = verdD (wordMom k (d0 :: rest))
theorem ok_wm {f : Addr} {fd : FuncData} (T : Txt mg) (Cmom : Cal P w K mg base 1 "moment_of" (spP rMom)) (Ctap : Cal P w K mg base 4 "verdict_of_tap" (spP rTap)) (Ctaps : Cal P w K mg base 4 "verdict_of_taps" (spP rTaps)) (Clong : Cal P w K mg base 4 "verdict_of_long" (spP rLong)) (Cpress : Cal P w K mg base 1 "press_from" (spP rPress)) (Cbey : Cal P w K mg base 2 "moves_beyond" (spP rBey)) (Cup : Cal P w K mg base 2 "up_moment" (spP rUp)) (Cfw : Cal P w K mg base 1 "first_word" (spP rFW)) (Cpinch : Cal P w K mg base 3 "verdict_of_pinch" (spP rPinch)) (F : Fun K "word_and_moment" "word_and_moment" sWM f fd) : FnOk P w K mg base CX0 5 f fd ["kind", "rows"] (spP rWM) := by
  have sc := scWM
  refine fnP F scWM (by rintro ds d ⟨k, d0, rest, rfl, _, _, _, _, rfl⟩; rfl) (fun cdv A outer s H E hr ds d h => ?_)
  obtain ⟨k, d0, rest, rfl, hlen, hnum, hasc, hk, rfl⟩ := h
  cases k with
  | touch =>
    refine dss_cons ?_
    refine ds_match ?_
    refine de_name (i := 0) rfl (.inl rfl) rfl ?_
    refine dmc_hit (l := []) sc.nd (dm_seq rfl rfl (dms_cons (dm_hit rfl) dms_nil)) ?_
    refine db_nil ?_
    refine dss_one ?_
    refine ds_ret ?_
    refine de_tup ?_
    refine da_cons ?_
    refine de_str ?_
    refine da_cons ?_
    refine de_call Cmom (hr.mono (by decide)) rfl ?_
    refine da_cons ?_
    refine de_ix ?_
    refine de_name (i := 1) rfl (.inl rfl) rfl ?_
    refine de_int ?_
    refine ⟨_, _, _, (by first | exact .inr rfl | exact .inl rfl), rfl, atD_map (i := 0) rfl, ?_⟩
    refine da_nil ?_
    refine ⟨_, ⟨d0, rfl, rfl⟩, ?_⟩
    refine da_nil ?_
    refine ⟨(by simp only [List.length_cons, List.length_nil]; decide), ?_⟩
    rfl
  | tap t s =>
    refine dss_cons ?_
    refine ds_match ?_
    refine de_name (i := 0) rfl (.inl rfl) rfl ?_
    refine dmc_miss (dm_len (by simp)) ?_
    refine dmc_hit (l := [("time", .int t), ("slop", .int s)]) sc.nd (dm_seq rfl rfl (dms_cons (dm_hit rfl) (dms_cons dm_cap (dms_cons dm_cap dms_nil)))) ?_
    refine db_cons 2 rfl rfl ⟨_, rfl⟩ (db_cons 3 rfl rfl ⟨_, rfl⟩ (db_nil ?_))
    refine dss_one ?_
    refine ds_ret ?_
    refine de_call Ctap (hr.mono (by decide)) rfl ?_
    refine da_cons ?_
    refine de_name (i := 1) rfl (.inl rfl) rfl ?_
    refine da_cons ?_
    refine de_name (i := 2) rfl (.inl rfl) rfl ?_
    refine da_cons ?_
    refine de_name (i := 3) rfl (.inl rfl) rfl ?_
    refine da_nil ?_
    refine ⟨_, ⟨d0, rest, t, s, rfl, hlen, rfl⟩, ?_⟩
    rfl
  | taps c t g s =>
    have hc1 : c = 2 ∨ c = 3 := hk.1
    have hcn : ((c.toNat : Nat) : Int) = c := by omega
    have hcn2 : c.toNat ≤ 3 := by omega
    refine dss_cons ?_
    refine ds_match ?_
    refine de_name (i := 0) rfl (.inl rfl) rfl ?_
    refine dmc_miss (dm_len (by simp)) ?_
    refine dmc_miss (dm_len (by simp)) ?_
    refine dmc_hit (l := [("count", .int c), ("time", .int t), ("gap", .int g), ("slop", .int s)]) sc.nd (dm_seq rfl rfl (dms_cons (dm_hit rfl) (dms_cons dm_cap (dms_cons dm_cap (dms_cons dm_cap (dms_cons dm_cap dms_nil)))))) ?_
    refine db_cons 4 rfl rfl ⟨_, rfl⟩ (db_cons 2 rfl rfl ⟨_, rfl⟩ (db_cons 5 rfl rfl ⟨_, rfl⟩ (db_cons 3 rfl rfl ⟨_, rfl⟩ (db_nil ?_))))
    refine dss_one ?_
    refine ds_ret ?_
    refine de_call Ctaps (hr.mono (by decide)) rfl ?_
    refine da_cons ?_
    refine de_name (i := 1) rfl (.inl rfl) rfl ?_
    refine da_cons ?_
    refine de_name (i := 4) rfl (.inl rfl) rfl ?_
    refine da_cons ?_
    refine de_name (i := 2) rfl (.inl rfl) rfl ?_
    refine da_cons ?_
    refine de_name (i := 5) rfl (.inl rfl) rfl ?_
    refine da_cons ?_
    refine de_name (i := 3) rfl (.inl rfl) rfl ?_
    refine da_nil ?_
    refine ⟨_, ⟨d0, rest, c.toNat, t, g, s, by rw [hcn], hlen, by omega, rfl⟩, ?_⟩
    rfl
  | long t s =>
    refine dss_cons ?_
    refine ds_match ?_
    refine de_name (i := 0) rfl (.inl rfl) rfl ?_
    refine dmc_miss (dm_len (by simp)) ?_
    refine dmc_miss (dm_seq rfl rfl (dms_miss (dm_no (by decide +kernel)))) ?_
    refine dmc_miss (dm_len (by simp)) ?_
    refine dmc_hit (l := [("time", .int t), ("slop", .int s)]) sc.nd (dm_seq rfl rfl (dms_cons (dm_hit rfl) (dms_cons dm_cap (dms_cons dm_cap dms_nil)))) ?_
    refine db_cons 2 rfl rfl ⟨_, rfl⟩ (db_cons 3 rfl rfl ⟨_, rfl⟩ (db_nil ?_))
    refine dss_one ?_
    refine ds_ret ?_
    refine de_call Clong (hr.mono (by decide)) rfl ?_
    refine da_cons ?_
    refine de_name (i := 1) rfl (.inl rfl) rfl ?_
    refine da_cons ?_
    refine de_name (i := 2) rfl (.inl rfl) rfl ?_
    refine da_cons ?_
    refine de_name (i := 3) rfl (.inl rfl) rfl ?_
    refine da_nil ?_
    refine ⟨_, ⟨d0, rest, t, s, rfl, hlen, rfl⟩, ?_⟩
    rfl
  | drag a s =>
    obtain ⟨pr, hpr⟩ := pressOf_head (d := d0) (l := rest)
    have hprl : pr.length ≤ 900 := by
      have h1 := (pressOf_sub (f := d0.2.f) (l := d0 :: rest)).length_le
      rw [hpr, List.length_cons] at h1
      omega
    refine dss_cons ?_
    refine ds_match ?_
    refine de_name (i := 0) rfl (.inl rfl) rfl ?_
    refine dmc_miss (dm_len (by simp)) ?_
    refine dmc_miss (dm_seq rfl rfl (dms_miss (dm_no (by decide +kernel)))) ?_
    refine dmc_miss (dm_len (by simp)) ?_
    refine dmc_miss (dm_seq rfl rfl (dms_miss (dm_no (by decide +kernel)))) ?_
    refine dmc_hit (l := [("axis", .str (axS a)), ("slop", .int s)]) sc.nd (dm_seq rfl rfl (dms_cons (dm_hit rfl) (dms_cons dm_cap (dms_cons dm_cap dms_nil)))) ?_
    refine db_cons 6 rfl rfl ⟨_, rfl⟩ (db_cons 3 rfl rfl ⟨_, rfl⟩ (db_nil ?_))
    refine dss_cons ?_
    refine ds_set (i := 7) sc.nd rfl (.inl rfl) ⟨_, rfl⟩ ?_
    refine de_call Cpress (hr.mono (by decide)) rfl ?_
    refine da_cons ?_
    refine de_name (i := 1) rfl (.inl rfl) rfl ?_
    refine da_cons ?_
    refine de_int ?_
    refine da_nil ?_
    refine ⟨_, ⟨d0 :: rest, 0, d0, rest, rfl, by omega, rfl, rfl⟩, ?_⟩
    rw [hpr]
    refine dss_one ?_
    refine ds_ret ?_
    refine de_call Cfw (hr.mono (by decide)) rfl ?_
    refine da_cons ?_
    refine de_call Cbey (hr.mono (by decide)) rfl ?_
    refine da_cons ?_
    refine de_name (i := 7) rfl (.inl rfl) rfl ?_
    refine da_cons ?_
    refine de_name (i := 6) rfl (.inl rfl) rfl ?_
    refine da_cons ?_
    refine de_name (i := 3) rfl (.inl rfl) rfl ?_
    refine da_nil ?_
    refine ⟨_, ⟨d0, pr, a, s, rfl, by omega, rfl⟩, ?_⟩
    refine da_cons ?_
    refine de_call Cup (hr.mono (by decide)) rfl ?_
    refine da_cons ?_
    refine de_name (i := 7) rfl (.inl rfl) rfl ?_
    refine da_nil ?_
    refine ⟨_, ⟨d0 :: pr, rfl, by simp, rfl⟩, ?_⟩
    refine da_nil ?_
    refine ⟨_, ⟨beyond a s (d0 :: pr), upMom (d0 :: pr), rfl, rfl⟩, ?_⟩
    have hval : wordMom (.drag a s) (d0 :: rest) = firstWord (beyond a s (d0 :: pr)) (upMom (d0 :: pr)) := by
      show firstWord (beyond a s (pressOf d0.2.f (d0 :: rest))) (upMom (pressOf d0.2.f (d0 :: rest))) = _
      rw [hpr]
    rw [hval]
  | pinch s =>
    refine dss_cons ?_
    refine ds_match ?_
    refine de_name (i := 0) rfl (.inl rfl) rfl ?_
    refine dmc_miss (dm_len (by simp)) ?_
    refine dmc_miss (dm_len (by simp)) ?_
    refine dmc_miss (dm_len (by simp)) ?_
    refine dmc_miss (dm_len (by simp)) ?_
    refine dmc_miss (dm_len (by simp)) ?_
    refine dmc_nil ?_
    refine dss_one ?_
    refine ds_ret ?_
    refine de_call Cpinch (hr.mono (by decide)) rfl ?_
    refine da_cons ?_
    refine de_name (i := 1) rfl (.inl rfl) rfl ?_
    refine da_cons ?_
    refine de_ix ?_
    refine de_name (i := 0) rfl (.inl rfl) rfl ?_
    refine de_int ?_
    refine ⟨_, _, _, (by first | exact .inr rfl | exact .inl rfl), rfl, rfl, ?_⟩
    refine da_nil ?_
    refine ⟨_, ⟨d0, rest, s, rfl, hlen, hnum, hasc, rfl⟩, ?_⟩
    rfl
abbrev sVof : Stmt := top 34
theorem scVof : FnScope ["kind", "rows", "found", "word", "tick", "number"] ["kind", "rows"] (defScope sVof) := ⟨rfl, rfl, rfl, by decide +kernel, rfl, by decide +kernel, by decide +kernel⟩
def rVof : List PyData → PyData → Prop := fun ds d => ∃ (k : TC.Kind) (d0 : TC.Row) (rest : List TC.Row), ds = [kindD k, rowsD (d0 :: rest)] ∧ (d0 :: rest).length ≤ 900 ∧ Num (d0 :: rest) ∧ Asc (d0 :: rest) ∧ k.Ok ∧ d = resD (finish (wordMom k (d0 :: rest)))
theorem ok_vof {f : Addr} {fd : FuncData} (T : Txt mg) (Cwm : Cal P w K mg base 5 "word_and_moment" (spP rWM)) (F : Fun K "verdict_of" "verdict_of" sVof f fd) : FnOk P w K mg base CX0 6 f fd ["kind", "rows"] (spP rVof) := by
  have sc := scVof
  refine fnP F scVof (by rintro ds d ⟨k, d0, rest, rfl, _, _, _, _, rfl⟩; rfl) (fun cdv A outer s H E hr ds d h => ?_)
  obtain ⟨k, d0, rest, rfl, hlen, hnum, hasc, hk, rfl⟩ := h
  obtain ⟨tc, hcl⟩ := T.CLOCK
  refine dss_cons ?_
  refine ds_set (i := 2) sc.nd rfl (.inl rfl) ⟨_, rfl⟩ ?_
  refine de_call Cwm (hr.mono (by decide)) rfl ?_
  refine da_cons ?_
  refine de_name (i := 0) rfl (.inl rfl) rfl ?_
  refine da_cons ?_
  refine de_name (i := 1) rfl (.inl rfl) rfl ?_
  refine da_nil ?_
  refine ⟨_, ⟨k, d0, rest, rfl, hlen, hnum, hasc, hk, rfl⟩, ?_⟩
  refine dss_cons ?_
  refine ds_if ?_
  refine dt_cmp ?_
  refine dc_isN ?_
  refine de_name (i := 2) rfl (.inl rfl) rfl ?_
  refine ⟨_, rfl, ?_⟩
  cases hwm : wordMom k (d0 :: rest) with
  | none =>
    refine iteT ?_
    refine dss_one ?_
    refine ds_ret ?_
    refine de_non ?_
    rfl
  | some v =>
    obtain ⟨ww, mt, mn⟩ := v
    refine iteF ?_
    refine dss_nil ?_
    refine dss_cons ?_
    refine ds_asg ?_
    refine de_name (i := 2) rfl (.inl rfl) rfl ?_
    refine dg_tup rfl rfl (dgs_cons (dg_name (i := 3) sc.nd rfl (.inl rfl) ⟨_, rfl⟩ (dgs_cons (dg_tup rfl rfl (dgs_cons (dg_name (i := 4) sc.nd rfl (.inl rfl) ⟨_, rfl⟩ (dgs_cons (dg_name (i := 5) sc.nd rfl (.inl rfl) ⟨_, rfl⟩ (dgs_nil (dgs_nil ?_))))))))))
    refine dss_one ?_
    refine ds_ret ?_
    refine de_tup ?_
    refine da_cons ?_
    refine de_name (i := 3) rfl (.inl rfl) rfl ?_
    refine da_cons ?_
    refine de_name (i := 4) rfl (.inl rfl) rfl ?_
    refine da_cons ?_
    refine de_cut (d0 := match (if mn = -1 then none else some mn : Option Int) with | none => .none | some n => .int n) ?_ ?_
    · skip
      refine de_if ?_
      refine dt_cmp ?_
      refine dc_eqI ?_
      refine de_name (i := 5) rfl (.inl rfl) rfl ?_
      refine de_globI rfl hcl ⟨_, rfl⟩ ?_
      refine ⟨_, _, rfl, rfl, ?_⟩
      refine ⟨_, rfl, ?_⟩
      by_cases hnc : mn = -1
      · skip
        rw [decide_eq_true hnc]
        refine iteT ?_
        refine de_non ?_
        exact ⟨by rw [if_pos hnc], rfl⟩
      · skip
        rw [decide_eq_false hnc]
        refine iteF ?_
        refine de_name (i := 5) rfl (.inl rfl) rfl ?_
        exact ⟨by rw [if_neg hnc], rfl⟩
    refine da_nil ?_
    refine ⟨(by simp only [List.length_cons, List.length_nil]; decide), ?_⟩
    rfl
end
end K20
set_option maxRecDepth 100000
set_option maxHeartbeats 4000000
namespace K20
open PySem PySem.Spec PyProof.Rows L2 Evl TC
section
variable {prog : Program} {w : World} {A : Around} {E : Value → Shared → Prop} {s : Shared}
theorem walks_from (hh : A.handled = none) (I ax : Addr) (hne : ax ≠ I) (items : Array Value) (k : Nat) :
    Walks prog w A I [I, ax] [I] (items.size - k) (fun i v => items[k + i]? = some v) (fun i h => h.IsTupleIter I ax (k + i) ∧ h.IsTuple ax items) where
  sub := fun b hb => by simp at hb; simp [hb]
  frame := fun _ _ _ st hk => ⟨st.1.at fun o e => hk I (by simp) o e, st.2.at fun o e => hk ax (by simp) o e⟩
  item := fun i s Q E hi st hQ => by
    have hlt : k + i < items.size := by omega
    refine wpAny_pyNext_tuple_item st.1 st.2 (x := items[k + i]) (by simp [hlt]) fun h' hit' hs' => ?_
    exact hQ _ h' s.toks (by simp [hlt]) ⟨hit', st.2.extBut hs'.extBut hne⟩ fun b o hb e => hs'.extBut b o (fun h => hb (by simp [h])) e
  done := fun s Q E st hQ => wpAny_pyNext_tuple_end hh st.1 st.2 (Array.getElem?_eq_none (by omega)) fun h' he' => hQ h' s.toks fun b o hb e => he' b o (fun h => hb (by simp [h])) e
  self := fun _ _ _ _ st hQ => wpAny_pyIter_tupleiter st.1 hQ
theorem itemsOf_drop {items acc : Array Value} {k : Nat} (h : ItemsOf (fun i v => items[k + i]? = some v) acc (items.size - k)) : acc.toList = items.toList.drop k := by
  obtain ⟨h1, h2⟩ := h
  refine List.ext_getElem? fun i => ?_
  rw [List.getElem?_drop, Array.getElem?_toList, Array.getElem?_toList]
  cases e : acc[i]? with
  | some v => exact (h2 i v e).symm
  | none =>
    have : acc.size ≤ i := by
      by_cases z : i < acc.size
      · rw [Array.getElem?_eq_getElem z] at e; cases e
      · omega
    exact (Array.getElem?_eq_none (by omega)).symm
theorem unpack_star {t : Addr} {x : Value} {xs : List Value} {Q : List Value → Shared → Prop} (hh : A.handled = none) (ht : IsTup s.heap t (x :: xs).toArray) (hn : (x :: xs).length ≤ sizeLine)
    (hQ : ∀ (h' : Heap) (tk : Nat), (∀ b o, s.heap.get? b = some o → h'.get? b = some o) → Q [x, .ref h'.objs.size] { s with heap := h'.push { cls := .type "list", data := .seq xs.toArray }, toks := tk }) :
    wpAny (model prog w) A (unpackItems (.ref t) 2 (some 1)) Q E s := by
  have hlt : t ≠ s.heap.objs.size := by obtain ⟨o, ho, _⟩ := ht; exact Nat.ne_of_lt (Heap.lt_size ho)
  have htl : t < s.heap.objs.size := by obtain ⟨o, ho, _⟩ := ht; exact Heap.lt_size ho
  unfold unpackItems
  refine wpAny_bind ?_
  unfold notIterableAtAll
  refine wpAny_bind (wpAny_specialOf ht.typeIs slot_tuple_iter.lookup ?_)
  refine wpAny_pure ?_
  simp only [Bool.false_eq_true, if_false]
  refine wpAny_bind (wpAny_holding (iter_tuple ht ?_))
  refine wpAny_bind (wpAny_holding (draw_tuple hlt 1 0 _ _ ⟨_, Heap.get?_push_size _ rfl, rfl, rfl⟩ (ht.push _) (by simp) fun h₁ hit₁ hs₁ => ?_))
  have hall : List.take 1 (List.drop 0 (x :: xs).toArray.toList) = [x] := rfl
  rw [hall]
  rw [if_neg (by simp)]
  have ht₁ : IsTup h₁ t (x :: xs).toArray := (ht.push _).extBut hs₁.extBut hlt
  have W : Walks prog w A.in1 s.heap.objs.size [s.heap.objs.size, t] [s.heap.objs.size] ((x :: xs).toArray.size - 1) (fun i v => (x :: xs).toArray[1 + i]? = some v) (fun i h => h.IsTupleIter s.heap.objs.size t (1 + i) ∧ h.IsTuple t (x :: xs).toArray) := walks_from (A := A.in1) hh _ _ hlt _ 1
  refine wpAny_bind (wpAny_holding (wpAny_collect_iter (s := { s with heap := h₁ }) (T := "tuple_iterator") (.inr (.inr (.inr rfl))) W.toS (fun i s' st => IsTupIter.typeIs st.1) ⟨hit₁, ht₁⟩ (fun b hb => ?_) (by simp) (fun s' acc hm hacc => ?_) ?_))
  · have hz : h₁.objs.size = s.heap.objs.size + 1 := by rw [hs₁.1, Heap.size_push]
    show b < h₁.objs.size
    rcases List.mem_cons.mp hb with z | z
    · rw [z, hz]; exact Nat.lt_succ_self _
    · rw [List.mem_singleton.mp z, hz]; exact Nat.lt_succ_of_lt htl
  · have hacc' := itemsOf_drop hacc
    have e : acc.toList = xs := hacc'
    rw [e]
    obtain ⟨h2, g2, d2, t2, o2⟩ := s'
    obtain ⟨k1, k2, k3, k4, k5⟩ := hm
    have k2' : g2 = s.gens := k2
    have k3' : d2 = s.drawn := k3
    have k4' : o2 = s.os := k4
    subst k2' k3' k4'
    show wpAny _ _ (if xs.length < 2 - 1 - 1 then _ else _) _ _ _
    rw [if_neg (by omega)]
    show wpAny _ _ (newList (xs.take (xs.length - 0)) >>= fun v => pure ([x] ++ [v] ++ xs.drop (xs.length - 0))) _ _ _
    have e1 : xs.take (xs.length - 0) = xs := List.take_of_length_le (Nat.le_refl _)
    have e2 : xs.drop (xs.length - 0) = [] := List.drop_eq_nil_of_le (Nat.le_refl _)
    rw [e1, e2]
    refine wpAny_bind (wpAny_newObj_type ?_ (by show xs.toArray.size ≤ sizeLine; rw [List.size_toArray]; rw [List.length_cons] at hn; omega))
    refine wpAny_pure ?_
    refine hQ h2 t2 fun b o hb => ?_
    have hb2 : b < s.heap.objs.size := Heap.lt_size hb
    refine k1 b o (fun z => ?_) (hs₁.extBut b o (Nat.ne_of_lt hb2) (Heap.get?_push_of_some _ hb))
    rw [List.mem_singleton.mp z] at hb2
    exact Nat.lt_irrefl _ hb2
  · show (x :: xs).toArray.size - 1 ≤ sizeLine
    rw [List.size_toArray]; omega
end
section
variable {X : Cx} {Γ : Gam} {ω : Ow} {pos : Pos}
def gStar (K : PySem.W.Frag) (i j : Nat) : TG := fun v σ H Q => ∃ a x xs, v = .ref a ∧ SqT K H a (x :: xs) ∧ ∀ p, H p = none → Q ((σ.set i (some x)).set j (some (.ref p))) (upd H p (.lst xs))
theorem pg_star {i j : Nat} {x y : Str} {px py ps : Pos} {k : Nat} (hc : X.calm = true) (hN : X.N.Nodup) (hi : X.N[i]? = some x) (hj : X.N[j]? = some y) (hx : X.env.scope.names.lookup x = some .local) (hy : X.env.scope.names.lookup y = some .local) : PG X (.Tuple [.Name x px, .Starred (.Name y py) ps] k pos) (gStar X.K i j) := by
  refine ⟨fun pins s σ H v u Q I r hw => ?_⟩
  obtain ⟨a, x0, xs, e1, hq, hw⟩ := hw
  subst e1
  cases r
  obtain ⟨its, rv, ht, hz⟩ := I.tuple hq
  have hlen := rv.length
  cases rv with
  | @cons _ u0 _ us r0 rr =>
    rw [assign_Tuple]
    refine wpAny_bind (wpAny_standAt ?_)
    show wpAny _ _ (unpackItems (.ref a) 2 (some 1) |> holding [.ref a] |> fun m => m >>= fun vs => assignInOrder [assign (.Name x px) X.env, assign (.Name y py) X.env] vs) _ _ s
    refine wpAny_bind (wpAny_holding (unpack_star (I.ok.hd hc) ht (by omega) fun h' tk hk => ?_))
    have I1 : Inv X pins σ H { s with heap := h', toks := tk } := I.kept hk
    have I2 : Inv X pins σ (upd H h'.objs.size (.lst xs)) { s with heap := h'.push { cls := .type "list", data := .seq us.toArray }, toks := tk } :=
      I1.laid (t' := tk) (fun b o e => Heap.get?_push_of_some _ e) (Nat.le_refl _) (show ObjOk X.prog X.w _ _ _ (.lst xs) from ⟨by rw [List.length_cons] at hz; omega, us, 0, rr, Heap.get?_push_size _ rfl⟩)
    refine assignInOrder_cons (wpAny_assign_Name (store_ok I2 hN hi (.inl hx) r0 (fun s2 I3 => ?_) (.inr hx)))
    refine assignInOrder_cons (wpAny_assign_Name (store_ok I3 hN hj (.inl hy) (show RelV (.ref h'.objs.size) _ from rfl) (fun s3 I4 => assignInOrder_nil ?_) (.inr hy)))
    exact ⟨_, _, I4, hw _ (I1.hok.fresh (Nat.le_refl _))⟩
theorem ds_star {D : DN} {e : Expr} {i j : Nat} {x y : Str} {px py ps pt : Pos} {k : Nat} (hc : X.calm = true) (hN : X.N.Nodup) (hi : X.N[i]? = some x) (hj : X.N[j]? = some y) (hx : X.env.scope.names.lookup x = some .local) (hy : X.env.scope.names.lookup y = some .local) (hli : ∃ o, Γ[i]? = some o) (hlj : ∃ o, Γ[j]? = some o)
    (h : DE X e Γ ω fun d ω1 => ∃ d0 ds, d = .tuple (d0 :: ds) ∧ D.nx ((Γ.set i (some (.dat d0))).set j (some (.dat (.list ds)))) ω1)
    (hs : swapsWithSole [.Tuple [.Name x px, .Starred (.Name y py) ps] k pt] e pos.line X.env = pure false := by rfl) (hw : swappedStores [.Tuple [.Name x px, .Starred (.Name y py) ps] k pt] e X.env = pure none := by rfl)
    (h1 : (assignEach [.Tuple [.Name x px, .Starred (.Name y py) ps] k pt] X.env).map (·.2) = [assign (.Tuple [.Name x px, .Starred (.Name y py) ps] k pt) X.env] := by rfl) : DS X (.Assign [.Tuple [.Name x px, .Starred (.Name y py) ps] k pt] e pos) D Γ ω := fun B σ G H S =>
  ws_of (ps_asg pe_we (pg_star hc hN hi hj hx hy) hs hw h1) (h B σ G H S _ fun d v G2 H2 ω2 h2 S2 e2 q => by
    obtain ⟨d0, ds, rfl, hnx⟩ := h2
    cases q with
    | tup hx0 hd =>
      cases hd with
      | @cons v0 vs _ _ q0 qs =>
        refine ⟨_, v0, vs, rfl, SqT.of (S2.sub _ _ hx0), fun p hp => ?_⟩
        have hex : Ex H2 (upd H2 p (.lst vs)) := Ex.new hp
        have hge := gain_ex (H2 := upd H2 p (.lst vs)) S2.sub
        exact ⟨_, _, ω2, ((S2.pure hex).set (s := .dat d0) (q0.mono hge) (S2.ilt (glt hli))).set (s := .dat (.list ds)) (show Dq _ _ _ from .lst (by rw [gain_new hp]; exact upd_same) (qs.mono hge)) (by rw [List.length_set]; exact S2.ilt (glt hlj)), hnx⟩)
def tyD : PyData → String
  | .none => "NoneType"
  | .bool _ => "bool"
  | .int _ => "int"
  | .str _ => "str"
  | .list _ => "list"
  | .tuple _ => "tuple"
  | .dict _ => "dict"
theorem Dq.ty {K : PySem.W.Frag} {G : Hp} {v : V} {d : PyData} (h : Dq G v d) : TyX K G v (.type (tyD d)) := by
  cases h with
  | non => exact .base .non
  | bl b => exact .base (.bl b)
  | int i => exact .base (.int i)
  | str x => exact .base (.str x)
  | lst h1 _ => exact .base (.lst h1)
  | tup h1 _ => exact .base (.tup h1)
theorem de_isi {P : PyData → Ow → Prop} {a : Expr} {x : Str} {T : String} {p p2 : Pos} (hg : Gl X "isinstance") (hm : X.mg "isinstance" = none) (hg2 : Gl X x) (hm2 : X.mg x = none) (hv : bootBuiltins x = some (.type T)) (h : DE X a Γ ω fun d ω1 => ∃ r, kitB (tyD d) T = some r ∧ P (.bool r) ω1)
    (hn : x ≠ "__name__" := by decide) (hdb : (x == ("__debug__" : Str)) = false := by decide) (s1 : S1 X a [.Name x p2] := by rfl) (s2 : S1 X (.Name x p2) [] := by rfl) : DE X (.Call (.Name "isinstance" p) [a, .Name x p2] [] pos) Γ ω P := fun B σ G H S Q q =>
  we_of (pe_callB call_isi hg hm (by decide +kernel) (pa_cons pe_we (pa_cons (pe_bltn (v := .ty T) (u := .type T) hg2 hm2 hv rfl hn hdb) pa_nil s2) s1) (he := s1) (hpl := by rw [s2]; rfl)) (h B σ G H S _ fun d v G2 H2 ω2 h2 S2 e2 q1 => by
    obtain ⟨r, hk, hp⟩ := h2
    exact ⟨v, .ty T, .type (tyD d), .type T, r, rfl, .ty T, (q1.mono S2.sub).ty, kit_ty hk, q _ _ G2 H2 ω2 hp S2 e2 (.bl r)⟩)
def KT (K : PySem.W.Frag) (a : Addr) (xs : List V) : Prop := ∃ (o : Obj) (its : Array Value) (n : Nat), K.lookup a = some o ∧ o.cls = .type "tuple" ∧ o.data = .seq its n ∧ its.size ≤ sizeLine ∧ Vals xs its.toList
theorem dc_inKT {P : PyData → Ow → Prop} {e : Expr} {x : Str} {c : Addr} {xs : List V} (hg : Gl X x) (hm : X.mg x = some (.ref c)) (hT : KT X.K c xs) (hf : xs.all flatV = true) (h : DE X e Γ ω fun d ω1 => ∃ s, d = .str s ∧ P (.bool (inV (.str s) xs)) ω1)
    (hdb : (x == ("__debug__" : Str)) = false := by decide) : DC X .In e (.Name x pos) Γ ω P := fun B σ G H S Q q =>
  wc_of (pc_R op_in_seq pe_we (pe_glob (v := .ref c) hg hm rfl hdb)) (h B σ G H S _ fun d v G2 H2 ω2 h2 S2 e2 q1 => by
    obtain ⟨s, rfl, hp⟩ := h2
    cases q1
    exact ⟨c, xs, rfl, .inr (.inr hT), rfl, hf, q _ _ G2 H2 ω2 hp S2 e2 (.bl _)⟩)
theorem dc_notInKD {P : PyData → Ow → Prop} {e : Expr} {x : Str} {c : Addr} {es : Array DictEntry} {n : Nat} (hg : Gl X x) (hm : X.mg x = some (.ref c)) (D : KDict X.K X.w c es n) (h : DE X e Γ ω fun d ω1 => ∃ s r, d = .str s ∧ PySem.W.nsIn X.K c s = some r ∧ P (.bool (!r.isSome)) ω1)
    (hdb : (x == ("__debug__" : Str)) = false := by decide) : DC X .NotIn e (.Name x pos) Γ ω P := fun B σ G H S Q q =>
  wc_of (pc_R (op_notIn_kd D) pe_we (pe_glob (v := .ref c) hg hm rfl hdb)) (h B σ G H S _ fun d v G2 H2 ω2 h2 S2 e2 q1 => by
    obtain ⟨s, r, rfl, hr, hp⟩ := h2
    cases q1
    exact ⟨s, r, rfl, rfl, hr, q _ _ G2 H2 ω2 hp S2 e2 (.bl _)⟩)
def tKD (K : PySem.W.Frag) (c : Addr) (ty : TE) : TE := fun σ H Q => ty σ H fun y H1 => ∃ (z : Str) (u0 : Value) (v0 : V), y = .str z ∧ PySem.W.nsIn K c z = some (some u0) ∧ RelV v0 u0 ∧ Q v0 H1
theorem pe_kdix {o i : Expr} {ty : TE} {c : Addr} {es : Array DictEntry} {n : Nat} (D : KDict X.K X.w c es n) (ho : PE X o (tC (.ref c))) (hi : PE X i ty) (hs : NoSl i) : PE X (.Subscript o i pos) (tKD X.K c ty) := by
  refine ⟨fun pins s σ H Q I h => ?_⟩
  refine subD_of PySem.F.slot_dict_getitem.lookup hs (thn (ho.run pins s σ H (fun v H1 => v = .ref c ∧ ty σ H1 fun y H2 => ∃ (z : Str) (u0 : Value) (v0 : V), y = .str z ∧ PySem.W.nsIn X.K c z = some (some u0) ∧ RelV v0 u0 ∧ Q v0 H2) I ⟨rfl, h⟩) fun u s1 ⟨x, H1, I1, rx, ex, q1⟩ => thn (hi.run pins s1 σ H1 _ I1 q1) fun iv s2 ⟨y, H2, I2, ry, z, u0, v0, ey, en, rv, q2⟩ => ?_)
  subst ex ey
  obtain rfl : u = Value.ref c := rx
  exact ⟨kd_type D I2, op_item_kd D pins s2 σ H2 (.ref c) (.str z) _ _ Q I2 rfl ry ⟨z, u0, v0, rfl, rfl, en, rv, q2⟩⟩
theorem de_kdix {P : PyData → Ow → Prop} {e : Expr} {x : Str} {p : Pos} {c : Addr} {es : Array DictEntry} {n : Nat} (hg : Gl X x) (hm : X.mg x = some (.ref c)) (D : KDict X.K X.w c es n) (h : DE X e Γ ω fun d ω1 => ∃ s i t, d = .str s ∧ PySem.W.nsIn X.K c s = some (some (.int i t)) ∧ P (.int i) ω1)
    (hdb : (x == ("__debug__" : Str)) = false := by decide) (hs : NoSl e := by exact fun _ _ => rfl) : DE X (.Subscript (.Name x p) e pos) Γ ω P := fun B σ G H S Q q =>
  we_of (pe_kdix D (pe_glob (v := .ref c) hg hm rfl hdb) pe_we hs) (h B σ G H S _ fun d v G2 H2 ω2 h2 S2 e2 q1 => by
    obtain ⟨s, i, t, rfl, hr, hp⟩ := h2
    cases q1
    exact ⟨s, _, .int i, rfl, hr, ⟨t, rfl⟩, q _ _ G2 H2 ω2 hp S2 e2 (.int i)⟩)
end
end K20
set_option maxRecDepth 100000
set_option maxHeartbeats 4000000
namespace K20
open PySem PySem.Spec PyProof.Rows L2 Evl TC
def wordK : TC.Kind → Str
  | .touch => "touch"
  | .tap _ _ => "tap"
  | .taps _ _ _ _ => "taps"
  | .long _ _ => "long"
  | .drag _ _ => "drag"
  | .pinch _ => "pinch"
def partsK : TC.Kind → List PyData
  | .touch => []
  | .tap t s => [.int t, .int s]
  | .taps c t g s => [.int c, .int t, .int g, .int s]
  | .long t s => [.int t, .int s]
  | .drag a s => [.str (axS a), .int s]
  | .pinch s => [.int s]
theorem kindD_eq (k : TC.Kind) : kindD k = .tuple (.str (wordK k) :: partsK k) := by cases k <;> rfl
theorem axS_ok (a : Axis) : PyData.strOk (axS a) = true := by cases a <;> decide +kernel
theorem wordK_ok : ∀ k : TC.Kind, PyData.strOk (wordK k) = true
  | .touch => by show PyData.strOk "touch" = true; decide +kernel
  | .tap _ _ => by show PyData.strOk "tap" = true; decide +kernel
  | .taps _ _ _ _ => by show PyData.strOk "taps" = true; decide +kernel
  | .long _ _ => by show PyData.strOk "long" = true; decide +kernel
  | .drag _ _ => by show PyData.strOk "drag" = true; decide +kernel
  | .pinch _ => by show PyData.strOk "pinch" = true; decide +kernel
theorem parts_lay (k : TC.Kind) : PyData.canLayAll0 (partsK k) = true := by cases k <;> simp [partsK, PyData.canLayAll0, PyData.canLay0, axS_ok]
theorem parts_depth (k : TC.Kind) : PyData.depthAll (partsK k) ≤ 1 := by cases k <;> simp [partsK, PyData.depthAll, PyData.depth]
theorem kind_shaped (k : TC.Kind) : SeqAt.shaped (.tuple (.str (wordK k) :: partsK k)) = true := by
  refine shaped_tuple ?_ ?_
  · rw [PyData.canLayAll0, PyData.canLay0, wordK_ok, parts_lay]; rfl
  · rw [PyData.depthAll, PyData.depth]; have := parts_depth k; omega
theorem parts_shaped (k : TC.Kind) : SeqAt.shaped (.list (partsK k)) = true := shaped_list (parts_lay k) (by have := parts_depth k; omega)
theorem atD_zero {d : PyData} {ds : List PyData} : atD (d :: ds) 0 = some d := by
  unfold atD
  exact atI_nat (j := 0) rfl
structure Txt2 (K : PySem.W.Frag) (w : World) (mg : Str → Option Value) : Prop where
  AXES : ∃ c, mg "AXES" = some (.ref c) ∧ KT K c [.str "x", .str "y", .str "any"]
  WAYS : ∃ c, mg "WAYS" = some (.ref c) ∧ KT K c [.str "down", .str "move", .str "up"]
  SIZES : ∃ d es n, mg "SIZES" = some (.ref d) ∧ KDict K w d es n ∧ ∀ k : TC.Kind, ∃ t, PySem.W.nsIn K d (wordK k) = some (some (.int ((partsK k).length : Int) t))
def optI : Option Int → PyData
  | none => .none
  | some i => .int i
def geO (i : Int) : Option Int → Bool
  | none => true
  | some m => decide (m ≤ i)
def leO (i : Int) : Option Int → Bool
  | none => true
  | some m => decide (i ≤ m)
theorem in_ways (w : Way) : inV (.str (wayS w)) [.str "down", .str "move", .str "up"] = true := by cases w <;> decide +kernel
theorem in_axes (a : Axis) : inV (.str (axS a)) [.str "x", .str "y", .str "any"] = true := by cases a <;> decide +kernel
section
variable {X : Cx} {pos : Pos}
theorem dm_orHit {x a b : Str} {j1 j2 : Nat} {c1 c2 p1 p2 : Pos} (h : x = a ∨ x = b) : DM X (.MatchOr [.MatchValue (.Constant (.str a) j1 c1) p1, .MatchValue (.Constant (.str b) j2 c2) p2] pos) (.str x) (some []) := by
  have := dm_or (X := X) (x := x) (a := a) (b := b) (j1 := j1) (j2 := j2) (c1 := c1) (c2 := c2) (p1 := p1) (p2 := p2) (pos := pos)
  rw [if_pos h] at this; exact this
theorem dm_orNo {x a b : Str} {j1 j2 : Nat} {c1 c2 p1 p2 : Pos} (h : ¬ (x = a ∨ x = b)) : DM X (.MatchOr [.MatchValue (.Constant (.str a) j1 c1) p1, .MatchValue (.Constant (.str b) j2 c2) p2] pos) (.str x) none := by
  have := dm_or (X := X) (x := x) (a := a) (b := b) (j1 := j1) (j2 := j2) (c1 := c1) (c2 := c2) (p1 := p1) (p2 := p2) (pos := pos)
  rw [if_neg h] at this; exact this
end
section
variable {X : Cx} {Γ : Gam} {ω : Ow} {elt tg iter : Expr} {scope : Scope} {own : List (Str × Nat)} {pos : Pos}
theorem de_lcT {ifs : List Expr} {P : PyData → Ow → Prop} (hc : X.calm = true) (hN : X.N.Nodup) (ok : BlkOk X.N X.env.scope scope own) (hl : ifs.length ≤ 1) (h : DE X iter Γ ω fun x ω1 => ∃ ds, x = .tuple ds ∧ ds.length ≤ 10000 ∧ ∃ Pv : Nat → List PyData → Ow → Prop, Pv 0 [] ω1 ∧
      (∀ i d acc ω', ds[i]? = some d → Pv i acc ω' → Turn1 X scope tg ifs elt (own.map (·.2)) Γ d acc ω' (Pv (i + 1))) ∧ ∀ acc ω', Pv ds.length acc ω' → P (.list acc) ω')
    (hs : ∀ x, foldedSetIterable iter X.env x = pure x := by intro _; rfl) : DE X (.ListComp elt [⟨tg, iter, ifs, 0⟩] scope pos) Γ ω P := fun B σ G H S Q q =>
  we_of (pe_lc hc hN (pi_tup pe_we) ok b_g (b_t hl) b_e hs) (lc_runT (P := fun acc ω' => P (.list acc) ω') h B σ G H S Q fun ds v G2 H2 ω2 h2 S2 e2 q2 => q _ v G2 H2 ω2 h2 S2 e2 q2)
end
section
variable {P : Program} {w : World} {K : PySem.W.Frag} {mg : Str → Option Value} {base : Heap}
abbrev sInt : Stmt := top 11
theorem scInt : FnScope ["value", "first", "last"] ["value", "first", "last"] (defScope sInt) := ⟨rfl, rfl, rfl, by decide +kernel, rfl, by decide +kernel, by decide +kernel⟩
def rInt : List PyData → PyData → Prop := fun ds d => ∃ (i : Int) (a b : Option Int), ds = [.int i, optI a, optI b] ∧ d = .bool (geO i a && leO i b)
theorem ok_int {f : Addr} {fd : FuncData} (T : Txt mg) (F : Fun K "is_integer" "is_integer" sInt f fd) : FnOk P w K mg base CX0 1 f fd ["value", "first", "last"] (spP rInt) := by
  have sc := scInt
  refine fnP F scInt (by rintro ds d ⟨i, a, b, rfl, rfl⟩; rfl) (fun cdv A outer s H E hr ds d h => ?_)
  obtain ⟨i, a, b, rfl, rfl⟩ := h
  refine dss_cons ?_
  refine ds_if ?_
  refine dt_orV (k1 := false) (k2 := false) ?_ ?_ ?_
  · skip
    refine dt_not ?_
    refine dt_val ?_
    refine de_isi (T := "int") rfl T.isinstance rfl T.int (by decide +kernel) ?_
    refine de_name (i := 0) rfl (.inl rfl) rfl ?_
    refine ⟨true, (by decide +kernel : kitB "int" "int" = some true), ?_⟩
    refine ⟨_, rfl, ?_⟩
    exact ⟨rfl, rfl⟩
  · intro hb
    refine dt_val ?_
    refine de_isi (T := "bool") rfl T.isinstance rfl T.bool (by decide +kernel) ?_
    refine de_name (i := 0) rfl (.inl rfl) rfl ?_
    refine ⟨false, (by decide +kernel : kitB "int" "bool" = some false), ?_⟩
    refine ⟨_, rfl, ?_⟩
    exact ⟨rfl, rfl⟩
  refine iteF ?_
  refine dss_nil ?_
  refine dss_one ?_
  refine ds_ret ?_
  refine de_andV (k1 := geO i a) (k2 := leO i b) ?_ ?_ ?_
  · skip
    cases a with
    | none =>
      refine de_or ?_
      refine de_cmp ?_
      refine dc_isN ?_
      refine de_name (i := 1) rfl (.inl rfl) rfl ?_
      refine ⟨_, rfl, ?_⟩
      refine iteT ?_
      exact ⟨rfl, rfl⟩
    | some m =>
      refine de_or ?_
      refine de_cmp ?_
      refine dc_isN ?_
      refine de_name (i := 1) rfl (.inl rfl) rfl ?_
      refine ⟨_, rfl, ?_⟩
      refine iteF ?_
      refine de_cmp ?_
      refine dc_ge ?_
      refine de_name (i := 0) rfl (.inl rfl) rfl ?_
      refine de_name (i := 1) rfl (.inl rfl) rfl ?_
      exact ⟨_, _, rfl, rfl, rfl, rfl⟩
  · intro hb
    cases b with
    | none =>
      refine de_or ?_
      refine de_cmp ?_
      refine dc_isN ?_
      refine de_name (i := 2) rfl (.inl rfl) rfl ?_
      refine ⟨_, rfl, ?_⟩
      refine iteT ?_
      exact ⟨rfl, rfl⟩
    | some m =>
      refine de_or ?_
      refine de_cmp ?_
      refine dc_isN ?_
      refine de_name (i := 2) rfl (.inl rfl) rfl ?_
      refine ⟨_, rfl, ?_⟩
      refine iteF ?_
      refine de_cmp ?_
      refine dc_le ?_
      refine de_name (i := 0) rfl (.inl rfl) rfl ?_
      refine de_name (i := 2) rfl (.inl rfl) rfl ?_
      exact ⟨_, _, rfl, rfl, rfl, rfl⟩
  rfl
abbrev sPlace : Stmt := top 12
theorem scPlace : FnScope ["value", "part"] ["value"] (defScope sPlace) := ⟨rfl, rfl, rfl, by decide +kernel, rfl, by decide +kernel, by decide +kernel⟩
def rPlace : List PyData → PyData → Prop := fun ds d => ∃ (p : Pl), ds = [plD p] ∧ d = .bool true
theorem ok_place {f : Addr} {fd : FuncData} (T : Txt mg) (Cis_integer : Cal P w K mg base 1 "is_integer" (spP rInt)) (F : Fun K "is_place" "is_place" sPlace f fd) : FnOk P w K mg base CX0 2 f fd ["value"] (spP rPlace) := by
  have sc := scPlace
  refine fnP F scPlace (by rintro ds d ⟨p, rfl, rfl⟩; rfl) (fun cdv A outer s H E hr ds d h => ?_)
  obtain ⟨p, rfl, rfl⟩ := h
  refine dss_one ?_
  refine ds_ret ?_
  refine de_andV3 (k1 := true) (k2 := true) (k3 := true) ?_ ?_ ?_ ?_
  · skip
    refine de_isi (T := "tuple") rfl T.isinstance rfl T.tuple (by decide +kernel) ?_
    refine de_name (i := 0) rfl (.inl rfl) rfl ?_
    refine ⟨true, (by decide +kernel : kitB "tuple" "tuple" = some true), ?_⟩
    exact ⟨rfl, rfl⟩
  · intro hb
    refine de_cmp ?_
    refine dc_eqI ?_
    refine de_len rfl T.len ?_
    refine de_name (i := 0) rfl (.inl rfl) rfl ?_
    refine ⟨_, (by first | exact .inl rfl | exact .inr rfl), ?_⟩
    refine de_int ?_
    refine ⟨_, _, rfl, rfl, ?_⟩
    exact ⟨rfl, rfl⟩
  · intro hb hb2
    refine de_all rfl rfl T.all ?_
    refine de_lcT (own := [("part", 1)]) rfl sc.nd (blkOk_by (own := [("part", 1)]) (N := ["value", "part"]) (sc := defScope sPlace) (by decide +kernel)) (by decide) ?_
    refine de_name (i := 0) rfl (.inl rfl) rfl ?_
    refine ⟨_, rfl, by show 2 ≤ 10000; decide, fun i acc ω' => ω' = ow0 ∧ acc = (List.replicate i (PyData.bool true)), ⟨rfl, rfl⟩, ?_, ?_⟩
    · rintro i d acc ω' hi ⟨rfl, rfl⟩
      have hd : ∃ z : Int, d = .int z := by
        rcases i with _ | _ | i
        · exact ⟨p.1, by simpa using hi.symm⟩
        · exact ⟨p.2, by simpa using hi.symm⟩
        · simp at hi
      obtain ⟨z, rfl⟩ := hd
      refine t1_name (i := 1) sc.nd rfl rfl ⟨_, rfl⟩ (by decide) fun s0 H0 C0 cl0 fp0 => ?_
      refine de_call Cis_integer (hr.mono (by decide)) rfl ?_
      refine da_cons ?_
      refine de_name (i := 1) rfl (.inl rfl) rfl ?_
      refine da_cons ?_
      refine de_non ?_
      refine da_cons ?_
      refine de_non ?_
      refine da_nil ?_
      refine ⟨_, ⟨z, none, none, rfl, rfl⟩, rfl, ?_⟩
      rw [List.replicate_succ']; rfl
    rintro acc ω' ⟨rfl, rfl⟩
    refine (⟨[true, true], rfl, ?_⟩ : ∃ ks : List Bool, PyData.list (List.replicate 2 (PyData.bool true)) = .list (ks.map .bool) ∧ _)
    exact ⟨rfl, rfl⟩
  rfl
abbrev sList : Stmt := top 14
theorem scList : FnScope ["value", "most"] ["value", "most"] (defScope sList) := ⟨rfl, rfl, rfl, by decide +kernel, rfl, by decide +kernel, by decide +kernel⟩
def rList : List PyData → PyData → Prop := fun ds d => ∃ (l : List PyData) (m : Int), ds = [.list l, .int m] ∧ (l.length : Int) ≤ m ∧ d = .bool true
theorem ok_list {f : Addr} {fd : FuncData} (T : Txt mg) (F : Fun K "is_list" "is_list" sList f fd) : FnOk P w K mg base CX0 1 f fd ["value", "most"] (spP rList) := by
  have sc := scList
  refine fnP F scList (by rintro ds d ⟨l, m, rfl, _, rfl⟩; rfl) (fun cdv A outer s H E hr ds d h => ?_)
  obtain ⟨l, m, rfl, hl, rfl⟩ := h
  refine dss_one ?_
  refine ds_ret ?_
  refine de_andV (k1 := true) (k2 := true) ?_ ?_ ?_
  · skip
    refine de_isi (T := "list") rfl T.isinstance rfl T.list (by decide +kernel) ?_
    refine de_name (i := 0) rfl (.inl rfl) rfl ?_
    refine ⟨true, (by decide +kernel : kitB "list" "list" = some true), ?_⟩
    exact ⟨rfl, rfl⟩
  · intro hb
    refine de_cmp ?_
    refine dc_le ?_
    refine de_len rfl T.len ?_
    refine de_name (i := 0) rfl (.inl rfl) rfl ?_
    refine ⟨_, (by first | exact .inl rfl | exact .inr rfl), ?_⟩
    refine de_name (i := 1) rfl (.inl rfl) rfl ?_
    refine ⟨_, _, rfl, rfl, ?_⟩
    exact ⟨by rw [decide_eq_true hl], rfl⟩
  rfl
abbrev sEvent : Stmt := top 15
theorem scEvent : FnScope ["value", "tick", "finger", "way", "place"] ["value"] (defScope sEvent) := ⟨rfl, rfl, rfl, by decide +kernel, rfl, by decide +kernel, by decide +kernel⟩
def rEvent : List PyData → PyData → Prop := fun ds d => ∃ (e : Ev), ds = [evD e] ∧ 0 ≤ e.f ∧ e.f ≤ 4 ∧ d = .bool true
theorem ok_event {f : Addr} {fd : FuncData} (T : Txt mg) (T2 : Txt2 K w mg) (Cis_integer : Cal P w K mg base 1 "is_integer" (spP rInt)) (Cis_place : Cal P w K mg base 2 "is_place" (spP rPlace)) (F : Fun K "is_event" "is_event" sEvent f fd) : FnOk P w K mg base CX0 3 f fd ["value"] (spP rEvent) := by
  have sc := scEvent
  refine fnP F scEvent (by rintro ds d ⟨e, rfl, _, _, rfl⟩; rfl) (fun cdv A outer s H E hr ds d h => ?_)
  obtain ⟨e, rfl, h0, h4, rfl⟩ := h
  obtain ⟨tl, hlast⟩ := T.LAST
  obtain ⟨cw, hways, hKT⟩ := T2.WAYS
  refine dss_cons ?_
  refine ds_if ?_
  refine dt_orV (k1 := false) (k2 := false) ?_ ?_ ?_
  · skip
    refine dt_not ?_
    refine dt_val ?_
    refine de_isi (T := "tuple") rfl T.isinstance rfl T.tuple (by decide +kernel) ?_
    refine de_name (i := 0) rfl (.inl rfl) rfl ?_
    refine ⟨true, (by decide +kernel : kitB "tuple" "tuple" = some true), ?_⟩
    refine ⟨_, rfl, ?_⟩
    exact ⟨rfl, rfl⟩
  · intro hb
    refine dt_cmp ?_
    refine dc_neI ?_
    refine de_len rfl T.len ?_
    refine de_name (i := 0) rfl (.inl rfl) rfl ?_
    refine ⟨_, (by first | exact .inl rfl | exact .inr rfl), ?_⟩
    refine de_int ?_
    refine ⟨_, _, rfl, rfl, ?_⟩
    refine ⟨_, rfl, ?_⟩
    exact ⟨rfl, rfl⟩
  refine iteF ?_
  refine dss_nil ?_
  refine dss_cons ?_
  refine ds_asg ?_
  refine de_name (i := 0) rfl (.inl rfl) rfl ?_
  refine dg_tup rfl rfl (dgs_cons (dg_name (i := 1) sc.nd rfl (.inl rfl) ⟨_, rfl⟩ (dgs_cons (dg_name (i := 2) sc.nd rfl (.inl rfl) ⟨_, rfl⟩ (dgs_cons (dg_name (i := 3) sc.nd rfl (.inl rfl) ⟨_, rfl⟩ (dgs_cons (dg_name (i := 4) sc.nd rfl (.inl rfl) ⟨_, rfl⟩ (dgs_nil ?_)))))))))
  refine dss_cons ?_
  refine ds_if ?_
  refine dt_orV (k1 := false) (k2 := false) ?_ ?_ ?_
  · skip
    refine dt_not ?_
    refine dt_val ?_
    refine de_call Cis_integer (hr.mono (by decide)) rfl ?_
    refine da_cons ?_
    refine de_name (i := 1) rfl (.inl rfl) rfl ?_
    refine da_cons ?_
    refine de_non ?_
    refine da_cons ?_
    refine de_non ?_
    refine da_nil ?_
    refine ⟨_, ⟨e.t, none, none, rfl, rfl⟩, ?_⟩
    refine ⟨_, rfl, ?_⟩
    exact ⟨rfl, rfl⟩
  · intro hb
    refine dt_not ?_
    refine dt_val ?_
    refine de_call Cis_integer (hr.mono (by decide)) rfl ?_
    refine da_cons ?_
    refine de_name (i := 2) rfl (.inl rfl) rfl ?_
    refine da_cons ?_
    refine de_int ?_
    refine da_cons ?_
    refine de_globI rfl hlast ⟨_, rfl⟩ ?_
    refine da_nil ?_
    refine ⟨_, ⟨e.f, some 0, some 4, rfl, rfl⟩, ?_⟩
    refine ⟨_, rfl, ?_⟩
    exact ⟨by show (!(geO e.f (some 0) && leO e.f (some 4))) = false; rw [show geO e.f (some 0) = true from decide_eq_true h0, show leO e.f (some 4) = true from decide_eq_true h4]; rfl, rfl⟩
  refine iteF ?_
  refine dss_nil ?_
  refine dss_one ?_
  refine ds_ret ?_
  refine de_andV3 (k1 := true) (k2 := true) (k3 := true) ?_ ?_ ?_ ?_
  · skip
    refine de_isi (T := "str") rfl T.isinstance rfl T.str (by decide +kernel) ?_
    refine de_name (i := 3) rfl (.inl rfl) rfl ?_
    refine ⟨true, (by decide +kernel : kitB "str" "str" = some true), ?_⟩
    exact ⟨rfl, rfl⟩
  · intro hb
    refine de_cmp ?_
    refine dc_inKT rfl hways hKT (by decide +kernel) ?_
    refine de_name (i := 3) rfl (.inl rfl) rfl ?_
    refine ⟨_, rfl, ?_⟩
    exact ⟨by rw [in_ways], rfl⟩
  · intro hb hb2
    refine de_call Cis_place (hr.mono (by decide)) rfl ?_
    refine da_cons ?_
    refine de_name (i := 4) rfl (.inl rfl) rfl ?_
    refine da_nil ?_
    refine ⟨_, ⟨e.p, rfl, rfl⟩, ?_⟩
    exact ⟨rfl, rfl⟩
  rfl
abbrev sKindC : Stmt := top 13
theorem scKindC : FnScope ["value", "word", "parts", "part"] ["value"] (defScope sKindC) := ⟨rfl, rfl, rfl, by decide +kernel, rfl, by decide +kernel, by decide +kernel⟩
def rKindC : List PyData → PyData → Prop := fun ds d => ∃ (k : TC.Kind), ds = [kindD k] ∧ k.Ok ∧ d = .bool true
theorem ok_kindc {f : Addr} {fd : FuncData} (T : Txt mg) (T2 : Txt2 K w mg) (Cis_integer : Cal P w K mg base 1 "is_integer" (spP rInt)) (F : Fun K "is_kind" "is_kind" sKindC f fd) : FnOk P w K mg base CX0 2 f fd ["value"] (spP rKindC) := by
  have sc := scKindC
  refine fnP F scKindC (by rintro ds d ⟨k, rfl, _, rfl⟩; rfl) (fun cdv A outer s H E hr ds d h => ?_)
  obtain ⟨k, rfl, hk, rfl⟩ := h
  rw [kindD_eq]
  obtain ⟨tg, hgr⟩ := T.GREATEST
  obtain ⟨ca, haxes, hKT⟩ := T2.AXES
  obtain ⟨cz, es, n, hsz, KD, hsizes⟩ := T2.SIZES
  obtain ⟨tz, hz⟩ := hsizes k
  refine dss_cons ?_
  refine ds_if ?_
  refine dt_orV3 (k1 := false) (k2 := false) (k3 := false) ?_ ?_ ?_ ?_
  · skip
    refine dt_not ?_
    refine dt_val ?_
    refine de_isi (T := "tuple") rfl T.isinstance rfl T.tuple (by decide +kernel) ?_
    refine de_name (i := 0) rfl (.inl rfl) rfl ?_
    refine ⟨true, (by decide +kernel : kitB "tuple" "tuple" = some true), ?_⟩
    refine ⟨_, rfl, ?_⟩
    exact ⟨rfl, rfl⟩
  · intro hb
    refine dt_cmp ?_
    refine dc_eqD (Room.lt hr (n := 64) (by decide)) ?_
    refine de_name (i := 0) rfl (.inl rfl) rfl ?_
    refine de_tup ?_
    refine da_nil ?_
    refine ⟨(by simp only [List.length_cons, List.length_nil]; decide), ?_⟩
    refine ⟨kind_shaped k, by decide +kernel, ?_⟩
    refine ⟨_, rfl, ?_⟩
    exact ⟨by simp [PyData.eqv, PyData.eqvAll], rfl⟩
  · intro hb hb2
    refine dt_not ?_
    refine dt_val ?_
    refine de_isi (T := "str") rfl T.isinstance rfl T.str (by decide +kernel) ?_
    refine de_ix ?_
    refine de_name (i := 0) rfl (.inl rfl) rfl ?_
    refine de_int ?_
    refine ⟨_, _, _, (by first | exact .inr rfl | exact .inl rfl), rfl, atD_zero, ?_⟩
    refine ⟨true, (by decide +kernel : kitB "str" "str" = some true), ?_⟩
    refine ⟨_, rfl, ?_⟩
    exact ⟨rfl, rfl⟩
  refine iteF ?_
  refine dss_nil ?_
  refine dss_cons ?_
  refine ds_star (i := 1) (j := 2) rfl sc.nd rfl rfl rfl rfl ⟨_, rfl⟩ ⟨_, rfl⟩ ?_
  refine de_name (i := 0) rfl (.inl rfl) rfl ?_
  refine ⟨_, _, rfl, ?_⟩
  refine dss_cons ?_
  refine ds_if ?_
  refine dt_orV (k1 := false) (k2 := false) ?_ ?_ ?_
  · skip
    refine dt_cmp ?_
    refine dc_notInKD rfl hsz KD ?_
    refine de_name (i := 1) rfl (.inl rfl) rfl ?_
    refine ⟨_, _, rfl, hz, ?_⟩
    refine ⟨_, rfl, ?_⟩
    exact ⟨rfl, rfl⟩
  · intro hb
    refine dt_cmp ?_
    refine dc_neI ?_
    refine de_len rfl T.len ?_
    refine de_name (i := 2) rfl (.inl rfl) rfl ?_
    refine ⟨_, (by first | exact .inl rfl | exact .inr rfl), ?_⟩
    refine de_kdix rfl hsz KD ?_
    refine de_name (i := 1) rfl (.inl rfl) rfl ?_
    refine ⟨_, _, _, rfl, hz, ?_⟩
    refine ⟨_, _, rfl, rfl, ?_⟩
    refine ⟨_, rfl, ?_⟩
    exact ⟨by simp, rfl⟩
  refine iteF ?_
  refine dss_nil ?_
  cases k with
  | touch =>
    refine dss_cons ?_
    refine ds_if ?_
    refine dt_andV (k1 := false) (k2 := false) ?_ ?_ ?_
    · skip
      refine dt_cmp ?_
      refine dc_neD (Room.lt hr (n := 64) (by decide)) ?_
      refine de_name (i := 2) rfl (.inl rfl) rfl ?_
      refine de_lst ?_
      refine da_nil ?_
      refine ⟨(by simp only [List.length_cons, List.length_nil]; decide), ?_⟩
      refine ⟨parts_shaped (.touch), by decide +kernel, ?_⟩
      refine ⟨_, rfl, ?_⟩
      exact ⟨by simp [partsK, PyData.eqv, PyData.eqvAll], rfl⟩
    · intro hb
      exact absurd hb (by decide)
    refine iteF ?_
    refine dss_nil ?_
    refine dss_cons ?_
    refine ds_match ?_
    refine de_name (i := 1) rfl (.inl rfl) rfl ?_
    refine dmc_miss (dm_orNo (x := "touch") (by decide +kernel)) ?_
    refine dmc_miss (dm_no (x := "touch") (by decide +kernel)) ?_
    refine dmc_miss (dm_no (x := "touch") (by decide +kernel)) ?_
    refine dmc_nil ?_
    refine dss_one ?_
    refine ds_ret ?_
    refine de_bl ?_
    rfl
  | tap t s =>
    obtain ⟨h1, h2, h3, h4⟩ := hk
    refine dss_cons ?_
    refine ds_if ?_
    refine dt_andV (k1 := true) (k2 := false) ?_ ?_ ?_
    · skip
      refine dt_cmp ?_
      refine dc_neD (Room.lt hr (n := 64) (by decide)) ?_
      refine de_name (i := 2) rfl (.inl rfl) rfl ?_
      refine de_lst ?_
      refine da_nil ?_
      refine ⟨(by simp only [List.length_cons, List.length_nil]; decide), ?_⟩
      refine ⟨parts_shaped (.tap t s), by decide +kernel, ?_⟩
      refine ⟨_, rfl, ?_⟩
      exact ⟨by simp [partsK, PyData.eqv, PyData.eqvAll], rfl⟩
    · intro hb
      refine dt_not ?_
      refine dt_val ?_
      refine de_call Cis_integer (hr.mono (by decide)) rfl ?_
      refine da_cons ?_
      refine de_ix ?_
      refine de_name (i := 2) rfl (.inl rfl) rfl ?_
      refine de_neg ?_
      refine de_int ?_
      refine ⟨_, rfl, ?_⟩
      refine ⟨_, _, _, (by first | exact .inr rfl | exact .inl rfl), rfl, rfl, ?_⟩
      refine da_cons ?_
      refine de_int ?_
      refine da_cons ?_
      refine de_globI rfl hgr ⟨_, rfl⟩ ?_
      refine da_nil ?_
      refine ⟨_, ⟨s, some 0, some 1000000000, rfl, rfl⟩, ?_⟩
      refine ⟨_, rfl, ?_⟩
      exact ⟨by show (!(geO s (some 0) && leO s (some 1000000000))) = false; rw [show geO s (some 0) = true from decide_eq_true h3, show leO s (some 1000000000) = true from decide_eq_true h4]; rfl, rfl⟩
    refine iteF ?_
    refine dss_nil ?_
    refine dss_cons ?_
    refine ds_match ?_
    refine de_name (i := 1) rfl (.inl rfl) rfl ?_
    refine dmc_hit (l := []) sc.nd (dm_orHit (x := "tap") (.inl rfl)) ?_
    refine db_nil ?_
    refine dss_one ?_
    refine ds_ret ?_
    refine de_call Cis_integer (hr.mono (by decide)) rfl ?_
    refine da_cons ?_
    refine de_ix ?_
    refine de_name (i := 2) rfl (.inl rfl) rfl ?_
    refine de_int ?_
    refine ⟨_, _, _, (by first | exact .inr rfl | exact .inl rfl), rfl, rfl, ?_⟩
    refine da_cons ?_
    refine de_int ?_
    refine da_cons ?_
    refine de_globI rfl hgr ⟨_, rfl⟩ ?_
    refine da_nil ?_
    refine ⟨_, ⟨t, some 1, some 1000000000, rfl, rfl⟩, ?_⟩
    show PyData.bool (geO t (some 1) && leO t (some 1000000000)) = _; rw [show geO t (some 1) = true from decide_eq_true h1, show leO t (some 1000000000) = true from decide_eq_true h2]; rfl
  | taps c t g s =>
    obtain ⟨h0, h5, h6, h7, h8, h3, h4⟩ := hk
    refine dss_cons ?_
    refine ds_if ?_
    refine dt_andV (k1 := true) (k2 := false) ?_ ?_ ?_
    · skip
      refine dt_cmp ?_
      refine dc_neD (Room.lt hr (n := 64) (by decide)) ?_
      refine de_name (i := 2) rfl (.inl rfl) rfl ?_
      refine de_lst ?_
      refine da_nil ?_
      refine ⟨(by simp only [List.length_cons, List.length_nil]; decide), ?_⟩
      refine ⟨parts_shaped (.taps c t g s), by decide +kernel, ?_⟩
      refine ⟨_, rfl, ?_⟩
      exact ⟨by simp [partsK, PyData.eqv, PyData.eqvAll], rfl⟩
    · intro hb
      refine dt_not ?_
      refine dt_val ?_
      refine de_call Cis_integer (hr.mono (by decide)) rfl ?_
      refine da_cons ?_
      refine de_ix ?_
      refine de_name (i := 2) rfl (.inl rfl) rfl ?_
      refine de_neg ?_
      refine de_int ?_
      refine ⟨_, rfl, ?_⟩
      refine ⟨_, _, _, (by first | exact .inr rfl | exact .inl rfl), rfl, rfl, ?_⟩
      refine da_cons ?_
      refine de_int ?_
      refine da_cons ?_
      refine de_globI rfl hgr ⟨_, rfl⟩ ?_
      refine da_nil ?_
      refine ⟨_, ⟨s, some 0, some 1000000000, rfl, rfl⟩, ?_⟩
      refine ⟨_, rfl, ?_⟩
      exact ⟨by show (!(geO s (some 0) && leO s (some 1000000000))) = false; rw [show geO s (some 0) = true from decide_eq_true h3, show leO s (some 1000000000) = true from decide_eq_true h4]; rfl, rfl⟩
    refine iteF ?_
    refine dss_nil ?_
    refine dss_cons ?_
    refine ds_match ?_
    refine de_name (i := 1) rfl (.inl rfl) rfl ?_
    refine dmc_miss (dm_orNo (x := "taps") (by decide +kernel)) ?_
    refine dmc_hit (l := []) sc.nd (dm_hit rfl) ?_
    refine db_nil ?_
    refine dss_one ?_
    refine ds_ret ?_
    refine de_andV (k1 := true) (k2 := true) ?_ ?_ ?_
    · skip
      refine de_call Cis_integer (hr.mono (by decide)) rfl ?_
      refine da_cons ?_
      refine de_ix ?_
      refine de_name (i := 2) rfl (.inl rfl) rfl ?_
      refine de_int ?_
      refine ⟨_, _, _, (by first | exact .inr rfl | exact .inl rfl), rfl, rfl, ?_⟩
      refine da_cons ?_
      refine de_int ?_
      refine da_cons ?_
      refine de_int ?_
      refine da_nil ?_
      refine ⟨_, ⟨c, some 2, some 3, rfl, rfl⟩, ?_⟩
      exact ⟨by rw [show geO c (some 2) = true from decide_eq_true (by omega), show leO c (some 3) = true from decide_eq_true (by omega)]; rfl, rfl⟩
    · intro hb
      refine de_all rfl rfl T.all ?_
      refine de_lcL (own := [("part", 3)]) rfl sc.nd (blkOk_by (own := [("part", 3)]) (N := ["value", "word", "parts", "part"]) (sc := defScope sKindC) (by decide +kernel)) (by decide) ?_
      refine de_slL ?_
      refine de_name (i := 2) rfl (.inl rfl) rfl ?_
      refine de_int ?_
      refine ⟨_, rfl, ?_⟩
      refine de_int ?_
      refine ⟨_, rfl, ?_⟩
      refine ⟨_, rfl, ?_⟩
      rw [show cutD (partsK (.taps c t g s)) (some 1) (some 3) = [.int t, .int g] from rfl]
      refine ⟨_, rfl, by show 2 ≤ 10000; decide, fun i acc ω' => ω' = ow0 ∧ acc = (List.replicate i (PyData.bool true)), ⟨rfl, rfl⟩, ?_, ?_⟩
      · rintro i d acc ω' hi ⟨rfl, rfl⟩
        have hd : ∃ z : Int, d = .int z ∧ 1 ≤ z ∧ z ≤ 1000000000 := by
          rcases i with _ | _ | i
          · exact ⟨t, by simpa using hi.symm, h5, h6⟩
          · exact ⟨g, by simpa using hi.symm, h7, h8⟩
          · simp at hi
        obtain ⟨z, rfl, z1, z2⟩ := hd
        refine t1_name (i := 3) sc.nd rfl rfl ⟨_, rfl⟩ (by decide) fun s0 H0 C0 cl0 fp0 => ?_
        refine de_call Cis_integer (hr.mono (by decide)) rfl ?_
        refine da_cons ?_
        refine de_name (i := 3) rfl (.inl rfl) rfl ?_
        refine da_cons ?_
        refine de_int ?_
        refine da_cons ?_
        refine de_globI rfl hgr ⟨_, rfl⟩ ?_
        refine da_nil ?_
        refine ⟨_, ⟨z, some 1, some 1000000000, rfl, rfl⟩, rfl, ?_⟩
        rw [List.replicate_succ', show geO z (some 1) = true from decide_eq_true z1, show leO z (some 1000000000) = true from decide_eq_true z2]; rfl
      rintro acc ω' ⟨rfl, rfl⟩
      refine (⟨[true, true], rfl, ?_⟩ : ∃ ks : List Bool, PyData.list (List.replicate 2 (PyData.bool true)) = .list (ks.map .bool) ∧ _)
      exact ⟨rfl, rfl⟩
    rfl
  | long t s =>
    obtain ⟨h1, h2, h3, h4⟩ := hk
    refine dss_cons ?_
    refine ds_if ?_
    refine dt_andV (k1 := true) (k2 := false) ?_ ?_ ?_
    · skip
      refine dt_cmp ?_
      refine dc_neD (Room.lt hr (n := 64) (by decide)) ?_
      refine de_name (i := 2) rfl (.inl rfl) rfl ?_
      refine de_lst ?_
      refine da_nil ?_
      refine ⟨(by simp only [List.length_cons, List.length_nil]; decide), ?_⟩
      refine ⟨parts_shaped (.long t s), by decide +kernel, ?_⟩
      refine ⟨_, rfl, ?_⟩
      exact ⟨by simp [partsK, PyData.eqv, PyData.eqvAll], rfl⟩
    · intro hb
      refine dt_not ?_
      refine dt_val ?_
      refine de_call Cis_integer (hr.mono (by decide)) rfl ?_
      refine da_cons ?_
      refine de_ix ?_
      refine de_name (i := 2) rfl (.inl rfl) rfl ?_
      refine de_neg ?_
      refine de_int ?_
      refine ⟨_, rfl, ?_⟩
      refine ⟨_, _, _, (by first | exact .inr rfl | exact .inl rfl), rfl, rfl, ?_⟩
      refine da_cons ?_
      refine de_int ?_
      refine da_cons ?_
      refine de_globI rfl hgr ⟨_, rfl⟩ ?_
      refine da_nil ?_
      refine ⟨_, ⟨s, some 0, some 1000000000, rfl, rfl⟩, ?_⟩
      refine ⟨_, rfl, ?_⟩
      exact ⟨by show (!(geO s (some 0) && leO s (some 1000000000))) = false; rw [show geO s (some 0) = true from decide_eq_true h3, show leO s (some 1000000000) = true from decide_eq_true h4]; rfl, rfl⟩
    refine iteF ?_
    refine dss_nil ?_
    refine dss_cons ?_
    refine ds_match ?_
    refine de_name (i := 1) rfl (.inl rfl) rfl ?_
    refine dmc_hit (l := []) sc.nd (dm_orHit (x := "long") (.inr rfl)) ?_
    refine db_nil ?_
    refine dss_one ?_
    refine ds_ret ?_
    refine de_call Cis_integer (hr.mono (by decide)) rfl ?_
    refine da_cons ?_
    refine de_ix ?_
    refine de_name (i := 2) rfl (.inl rfl) rfl ?_
    refine de_int ?_
    refine ⟨_, _, _, (by first | exact .inr rfl | exact .inl rfl), rfl, rfl, ?_⟩
    refine da_cons ?_
    refine de_int ?_
    refine da_cons ?_
    refine de_globI rfl hgr ⟨_, rfl⟩ ?_
    refine da_nil ?_
    refine ⟨_, ⟨t, some 1, some 1000000000, rfl, rfl⟩, ?_⟩
    show PyData.bool (geO t (some 1) && leO t (some 1000000000)) = _; rw [show geO t (some 1) = true from decide_eq_true h1, show leO t (some 1000000000) = true from decide_eq_true h2]; rfl
  | drag a s =>
    obtain ⟨h3, h4⟩ := hk
    refine dss_cons ?_
    refine ds_if ?_
    refine dt_andV (k1 := true) (k2 := false) ?_ ?_ ?_
    · skip
      refine dt_cmp ?_
      refine dc_neD (Room.lt hr (n := 64) (by decide)) ?_
      refine de_name (i := 2) rfl (.inl rfl) rfl ?_
      refine de_lst ?_
      refine da_nil ?_
      refine ⟨(by simp only [List.length_cons, List.length_nil]; decide), ?_⟩
      refine ⟨parts_shaped (.drag a s), by decide +kernel, ?_⟩
      refine ⟨_, rfl, ?_⟩
      exact ⟨by simp [partsK, PyData.eqv, PyData.eqvAll], rfl⟩
    · intro hb
      refine dt_not ?_
      refine dt_val ?_
      refine de_call Cis_integer (hr.mono (by decide)) rfl ?_
      refine da_cons ?_
      refine de_ix ?_
      refine de_name (i := 2) rfl (.inl rfl) rfl ?_
      refine de_neg ?_
      refine de_int ?_
      refine ⟨_, rfl, ?_⟩
      refine ⟨_, _, _, (by first | exact .inr rfl | exact .inl rfl), rfl, rfl, ?_⟩
      refine da_cons ?_
      refine de_int ?_
      refine da_cons ?_
      refine de_globI rfl hgr ⟨_, rfl⟩ ?_
      refine da_nil ?_
      refine ⟨_, ⟨s, some 0, some 1000000000, rfl, rfl⟩, ?_⟩
      refine ⟨_, rfl, ?_⟩
      exact ⟨by show (!(geO s (some 0) && leO s (some 1000000000))) = false; rw [show geO s (some 0) = true from decide_eq_true h3, show leO s (some 1000000000) = true from decide_eq_true h4]; rfl, rfl⟩
    refine iteF ?_
    refine dss_nil ?_
    refine dss_cons ?_
    refine ds_match ?_
    refine de_name (i := 1) rfl (.inl rfl) rfl ?_
    refine dmc_miss (dm_orNo (x := "drag") (by decide +kernel)) ?_
    refine dmc_miss (dm_no (x := "drag") (by decide +kernel)) ?_
    refine dmc_hit (l := []) sc.nd (dm_hit rfl) ?_
    refine db_nil ?_
    refine dss_one ?_
    refine ds_ret ?_
    refine de_andV (k1 := true) (k2 := true) ?_ ?_ ?_
    · skip
      refine de_isi (T := "str") rfl T.isinstance rfl T.str (by decide +kernel) ?_
      refine de_ix ?_
      refine de_name (i := 2) rfl (.inl rfl) rfl ?_
      refine de_int ?_
      refine ⟨_, _, _, (by first | exact .inr rfl | exact .inl rfl), rfl, rfl, ?_⟩
      refine ⟨true, (by decide +kernel : kitB "str" "str" = some true), ?_⟩
      exact ⟨rfl, rfl⟩
    · intro hb
      refine de_cmp ?_
      refine dc_inKT rfl haxes hKT (by decide +kernel) ?_
      refine de_ix ?_
      refine de_name (i := 2) rfl (.inl rfl) rfl ?_
      refine de_int ?_
      refine ⟨_, _, _, (by first | exact .inr rfl | exact .inl rfl), rfl, rfl, ?_⟩
      refine ⟨_, rfl, ?_⟩
      exact ⟨by rw [in_axes], rfl⟩
    rfl
  | pinch s =>
    obtain ⟨h3, h4⟩ := hk
    refine dss_cons ?_
    refine ds_if ?_
    refine dt_andV (k1 := true) (k2 := false) ?_ ?_ ?_
    · skip
      refine dt_cmp ?_
      refine dc_neD (Room.lt hr (n := 64) (by decide)) ?_
      refine de_name (i := 2) rfl (.inl rfl) rfl ?_
      refine de_lst ?_
      refine da_nil ?_
      refine ⟨(by simp only [List.length_cons, List.length_nil]; decide), ?_⟩
      refine ⟨parts_shaped (.pinch s), by decide +kernel, ?_⟩
      refine ⟨_, rfl, ?_⟩
      exact ⟨by simp [partsK, PyData.eqv, PyData.eqvAll], rfl⟩
    · intro hb
      refine dt_not ?_
      refine dt_val ?_
      refine de_call Cis_integer (hr.mono (by decide)) rfl ?_
      refine da_cons ?_
      refine de_ix ?_
      refine de_name (i := 2) rfl (.inl rfl) rfl ?_
      refine de_neg ?_
      refine de_int ?_
      refine ⟨_, rfl, ?_⟩
      refine ⟨_, _, _, (by first | exact .inr rfl | exact .inl rfl), rfl, rfl, ?_⟩
      refine da_cons ?_
      refine de_int ?_
      refine da_cons ?_
      refine de_globI rfl hgr ⟨_, rfl⟩ ?_
      refine da_nil ?_
      refine ⟨_, ⟨s, some 0, some 1000000000, rfl, rfl⟩, ?_⟩
      refine ⟨_, rfl, ?_⟩
      exact ⟨by show (!(geO s (some 0) && leO s (some 1000000000))) = false; rw [show geO s (some 0) = true from decide_eq_true h3, show leO s (some 1000000000) = true from decide_eq_true h4]; rfl, rfl⟩
    refine iteF ?_
    refine dss_nil ?_
    refine dss_cons ?_
    refine ds_match ?_
    refine de_name (i := 1) rfl (.inl rfl) rfl ?_
    refine dmc_miss (dm_orNo (x := "pinch") (by decide +kernel)) ?_
    refine dmc_miss (dm_no (x := "pinch") (by decide +kernel)) ?_
    refine dmc_miss (dm_no (x := "pinch") (by decide +kernel)) ?_
    refine dmc_nil ?_
    refine dss_one ?_
    refine ds_ret ?_
    refine de_bl ?_
    rfl
end
end K20
set_option maxRecDepth 100000
set_option maxHeartbeats 4000000
namespace K20
open PySem PySem.Spec PyProof.Rows L2 Evl TC
theorem valV_drop (kvs : List (Key × V)) (k j : Key) : valV (dropK kvs k) j = if j = k then none else valV kvs j := by
  induction kvs with
  | nil => show valV [] j = _; rw [valV_nil]; split <;> rfl
  | cons p r ih =>
    have e : dropK (p :: r) k = if p.1 ≠ k then p :: dropK r k else dropK r k := by
      unfold dropK
      rw [List.filter_cons]
      by_cases h : p.1 = k
      · rw [if_neg (by simp [h]), if_neg (by simp [h])]
      · rw [if_pos (by simp [h]), if_pos h]
    rw [e]
    by_cases h : p.1 = k
    · rw [if_neg (by simp [h]), ih]
      by_cases hj : j = k
      · rw [if_pos hj, if_pos hj]
      · rw [if_neg hj, if_neg hj, valV_neg (fun z => hj (z.symm.trans h))]
    · rw [if_pos h]
      by_cases hj : p.1 = j
      · rw [valV_pos hj, valV_pos hj, if_neg (fun z => h (hj.trans z))]
      · rw [valV_neg hj, valV_neg hj, ih]
def putM (m : Int → Option PyData) (k : Int) (d : PyData) : Int → Option PyData := fun j => if j = k then some d else m j
def delM (m : Int → Option PyData) (k : Int) : Int → Option PyData := fun j => if j = k then none else m j
theorem own_put {G H : Hp} {p : Addr} {vs : List (Key × V)} {m : Int → Option PyData} {n : Nat} {k : Int} {v : V} {d : PyData} (hl : vs.length ≤ n) (ho : ∀ j : Int, OptD G (valV vs (Sum.inl j)) (m j)) (q : Dq G v d) : OwnOk G (upd H p (.dK (putK vs (Sum.inl k) v))) p (.dct (putM m k d) (n + 1)) :=
  ⟨_, upd_same, Nat.le_trans (length_putK _ _ _) (Nat.succ_le_succ hl), fun j => by
    rw [valV_put]
    unfold putM
    by_cases h : j = k
    · rw [if_pos h, if_pos (by rw [h])]; exact q
    · rw [if_neg h, if_neg (by intro z; cases z; exact h rfl)]; exact ho j⟩
theorem length_dropK (vs : List (Key × V)) (k : Key) : (dropK vs k).length ≤ vs.length := List.length_filter_le _ _
theorem own_del {G H : Hp} {p : Addr} {vs : List (Key × V)} {m : Int → Option PyData} {n : Nat} {k : Int} (hl : vs.length ≤ n) (ho : ∀ j : Int, OptD G (valV vs (Sum.inl j)) (m j)) : OwnOk G (upd H p (.dK (dropK vs (Sum.inl k)))) p (.dct (delM m k) n) :=
  ⟨_, upd_same, Nat.le_trans (length_dropK _ _) hl, fun j => by
    rw [valV_drop]
    unfold delM
    by_cases h : j = k
    · rw [if_pos h, if_pos (by rw [h])]; trivial
    · rw [if_neg h, if_neg (by intro z; cases z; exact h rfl)]; exact ho j⟩
theorem own_new {G H : Hp} {p : Addr} : OwnOk G (upd H p (.dK [])) p (.dct (fun _ => none) 0) := ⟨[], upd_same, Nat.le_refl _, fun k => by rw [valV_nil]; trivial⟩
theorem OptD.some {G : Hp} {v : Option V} {m : Option PyData} {d : PyData} (h : OptD G v m) (e : m = some d) : ∃ w, v = some w ∧ Dq G w d := by
  subst e
  cases v with
  | none => exact h.elim
  | some w => exact ⟨w, rfl, h⟩
theorem OptD.isSome {G : Hp} {v : Option V} {m : Option PyData} (h : OptD G v m) : v.isSome = m.isSome := by
  cases v <;> cases m <;> first | rfl | exact h.elim
section
variable {X : Cx} {Γ : Gam} {ω : Ow} {P : PyData → Ow → Prop} {D : DN} {e e1 e2 value a b : Expr} {pos pos' pt pt2 : Pos} {i j : Nat} {x y : Str} {p p1 p2 : Addr}
theorem dc_notInO (hu : X.A.units + 1 < cLine) (hN : X.N[i]? = some x) (hv : Vis X.env.scope x) (hΓ : Γ[i]? = some (some (.own p))) (h : DE X e Γ ω fun d ω1 => ∃ k m n, d = .int k ∧ ω1 p = some (.dct m n) ∧ P (.bool (!(m k).isSome)) ω1)
    (hd : (x == ("__debug__" : Str)) = false := by decide) (hcd : (x == ("__classdict__" : Str)) = false := by decide) : DC X .NotIn e (.Name x pos) Γ ω P := fun B σ G H S Q q =>
  wc_of (pc_dnotin hu pe_we (pe_var hN hv hd hcd)) (h B σ G H S _ fun d v G2 H2 ω2 h2 S2 e2 q1 => by
    obtain ⟨k, m, n, rfl, hw, hp⟩ := h2
    cases q1
    obtain ⟨v, hv', hq⟩ := S2.slot i _ hΓ
    have hq' : v = .ref p := hq
    subst hq'
    obtain ⟨_, vs, hx, hl, ho⟩ := S2.own p _ hw
    refine ⟨_, hv', p, _, rfl, DGet.k (k := Sum.inl k) hx, ?_⟩
    rw [(ho k).isSome]
    exact q _ _ G2 H2 ω2 hp S2 e2 (.bl _))
theorem de_ixO (hu : X.A.units + 1 < cLine) (hN : X.N[i]? = some x) (hv : Vis X.env.scope x) (hΓ : Γ[i]? = some (some (.own p))) (h : DE X e Γ ω fun d ω1 => ∃ k m n v, d = .int k ∧ ω1 p = some (.dct m n) ∧ m k = some v ∧ P v ω1)
    (hd : (x == ("__debug__" : Str)) = false := by decide) (hcd : (x == ("__classdict__" : Str)) = false := by decide) (hs : NoSl e := by exact fun _ _ => rfl) : DE X (.Subscript (.Name x pos) e pos') Γ ω P := fun B σ G H S Q q => by
  obtain ⟨v, hv', hq⟩ := S.slot i _ hΓ
  have hq' : v = .ref p := hq
  subst hq'
  exact we_of (pe_dget hu (pe_var hN hv hd hcd) pe_we hs) ⟨_, hv', h B σ G H S _ fun d v G2 H2 ω2 h2 S2 e2 q1 => by
    obtain ⟨k, m, n, dv, rfl, hw, hm, hp⟩ := h2
    cases q1
    obtain ⟨_, vs, hx, hl, ho⟩ := S2.own p _ hw
    obtain ⟨w, e3, q3⟩ := (ho k).some hm
    exact ⟨p, w, rfl, by rw [← e3]; exact DGet.k (k := Sum.inl k) hx, q dv w G2 H2 ω2 hp S2 e2 q3⟩⟩
theorem ds_delO (hN : X.N[i]? = some x) (hv : Vis X.env.scope x) (hΓ : Γ[i]? = some (some (.own p))) (h : DE X e Γ ω fun d ω1 => ∃ k m n, d = .int k ∧ ω1 p = some (.dct m n) ∧ (m k).isSome = true ∧ D.nx Γ (setO ω1 p (.dct (delM m k) n)))
    (hd : (x == ("__debug__" : Str)) = false := by decide) (hcd : (x == ("__classdict__" : Str)) = false := by decide) : DS X (.Delete [.Subscript (.Name x pos) e pos'] pt) D Γ ω := fun B σ G H S => by
  obtain ⟨v, hv', hq⟩ := S.slot i _ hΓ
  have hq' : v = .ref p := hq
  subst hq'
  exact ws_of (ps_ddel (pe_var hN hv hd hcd) pe_we) ⟨_, hv', h B σ G H S _ fun d v G2 H2 ω2 h2 S2 e2 q1 => by
    obtain ⟨k, m, n, rfl, hw, hm, hp⟩ := h2
    cases q1
    obtain ⟨_, vs, hx, hl, ho⟩ := S2.own p _ hw
    exact ⟨p, vs, Sum.inl k, rfl, hx, rfl, by rw [(ho k).isSome]; exact hm, G2, Γ, _, S2.setown hw (own_del hl ho), hp⟩⟩
theorem ds_putO (hu : X.A.units + 1 < cLine) (hN : X.N[i]? = some x) (hv : Vis X.env.scope x) (hΓ : Γ[i]? = some (some (.own p))) (h : DE X value Γ ω fun dv ω1 => DE X e Γ ω1 fun dk ω2 => ∃ k m n, dk = .int k ∧ ω2 p = some (.dct m n) ∧ n < 100000 ∧ D.nx Γ (setO ω2 p (.dct (putM m k dv) (n + 1))))
    (hd : (x == ("__debug__" : Str)) = false := by decide) (hcd : (x == ("__classdict__" : Str)) = false := by decide) (hs : swapsWith value (some (.Subscript (.Name x pos) e pos')) pt.line X.env = pure false := by rfl) : DS X (.Assign [.Subscript (.Name x pos) e pos'] value pt) D Γ ω := fun B σ G H S =>
  ws_of (ps_dput hu (pe_var hN hv hd hcd) pe_we pe_we hs) (h B σ G H S _ fun dv v G2 H2 ω2 h2 S2 e2 q1 => by
    obtain ⟨r, hv', hq⟩ := S2.slot i _ hΓ
    have hq' : r = .ref p := hq
    subst hq'
    refine ⟨_, hv', h2 B σ G2 H2 S2 _ fun dk vk G3 H3 ω3 h3 S3 e3 q3 => ?_⟩
    obtain ⟨k, m, n, rfl, hw, hn, hp⟩ := h3
    cases q3
    obtain ⟨_, vs, hx, hl, ho⟩ := S3.own p _ hw
    exact ⟨p, _, rfl, DPut.k (k := Sum.inl k) hx (sz_lt (by omega)), G3, Γ, _, S3.setown hw (own_put hl ho (q1.mono e3)), hp⟩)
theorem de_popO (hN : X.N[i]? = some x) (hv : Vis X.env.scope x) (hΓ : Γ[i]? = some (some (.own p))) (h : DE X e Γ ω fun d ω1 => ∃ k m n v, d = .int k ∧ ω1 p = some (.dct m n) ∧ m k = some v ∧ P v (setO ω1 p (.dct (delM m k) n))) {m0 : Int → Option PyData} {n0 : Nat} (h0 : ω p = some (.dct m0 n0))
    (hd : (x == ("__debug__" : Str)) = false := by decide) (hcd : (x == ("__classdict__" : Str)) = false := by decide) (hm1 : M1 X (.Name x pos) "pop" pos' e pt := by exact ⟨rfl, rfl, rfl, rfl⟩) : DE X (.Call (.Attribute (.Name x pos) "pop" pos') [e] [] pt) Γ ω P := fun B σ G H S Q q => by
  obtain ⟨v, hv', hq⟩ := S.slot i _ hΓ
  have hq' : v = .ref p := hq
  subst hq'
  obtain ⟨_, vs0, hx0, _, _⟩ := S.own p _ h0
  exact we_of (pe_dpop1 (pe_var hN hv hd hcd) pe_we hm1) ⟨_, hv', p, rfl, .inl ⟨vs0, .inl hx0⟩, h B σ G H S _ fun d v G2 H2 ω2 h2 S2 e2 q1 => by
    obtain ⟨k, m, n, dv, rfl, hw, hm, hp⟩ := h2
    cases q1
    obtain ⟨_, vs, hx, hl, ho⟩ := S2.own p _ hw
    obtain ⟨w, e3, q3⟩ := (ho k).some hm
    exact ⟨vs, Sum.inl k, w, hx, rfl, e3, q dv w G2 _ _ hp (S2.setown hw (own_del hl ho)) e2 q3⟩⟩
def NDn (X : Cx) (e : Expr) (Γ : Gam) (ω : Ow) (P : Addr → Ow → Prop) : Prop := ∀ (B : Bs) (σ : L2.St) (G H : Hp), SD B G H σ Γ ω → ∀ Q : VK, (∀ p, SD B G (upd H p (.dK [])) σ Γ (setO ω p (.dct (fun _ => none) 0)) → ω p = none → P p (setO ω p (.dct (fun _ => none) 0)) → Q (.ref p) (upd H p (.dK []))) → WE X e σ H Q
theorem ds_parD {kt k2 : Nat} {px py pd : Pos} (hc : X.calm = true) (hN : X.N.Nodup) (hi : X.N[i]? = some x) (hj : X.N[j]? = some y) (hij : i ≠ j)
    (hx : X.env.scope.names.lookup x = some .local) (hy : X.env.scope.names.lookup y = some .local) (hli : ∃ o, Γ[i]? = some o) (hlj : ∃ o, Γ[j]? = some o) (h : ∀ p, ω p = none → DE X b Γ (setO ω p (.dct (fun _ => none) 0)) fun d2 ω2 => D.nx ((Γ.set i (some (.own p))).set j (some (.dat d2))) ω2)
    (hw : swappedStores [.Tuple [.Name x px, .Name y py] kt pt] (.Tuple [.Dict [] [] pd, b] k2 pt2) X.env = pure (some [x, y]) := by rfl)
    (hs : swapsWithSole [.Tuple [.Name x px, .Name y py] kt pt] (.Tuple [.Dict [] [] pd, b] k2 pt2) pos.line X.env = pure false := by rfl) (s1 : S1 X (.Dict [] [] pd) [b] := by rfl) (s2 : S1 X b [] := by rfl) : DS X (.Assign [.Tuple [.Name x px, .Name y py] kt pt] (.Tuple [.Dict [] [] pd, b] k2 pt2) pos) D Γ ω := fun B σ G H S =>
  ws_of (ps_par hc hN hi hj hij hx hy (pa_cons pe_dnewK (pa_cons pe_we pa_nil s2) s1) hw hs) fun p hp => h p (S.free hp).2.1 B σ G _ (S.newown (c := .dct (fun _ => none) 0) hp own_new) _ fun d2 v2 G3 H3 ω3 h3 S3 e3 q2 =>
    ⟨.ref p, v2, rfl, G3, _, _, (S3.set (s := .own p) rfl (S3.ilt (glt hli))).set (s := .dat d2) q2 (by rw [List.length_set]; exact S3.ilt (glt hlj)), h3⟩
theorem ds_par3O {l kt k2 : Nat} {z : Str} {px py pz pl pd pd2 : Pos} (hc : X.calm = true) (hN : X.N.Nodup) (hi : X.N[i]? = some x) (hj : X.N[j]? = some y) (hl : X.N[l]? = some z) (hij : i ≠ j) (hil : i ≠ l) (hjl : j ≠ l)
    (hx : X.env.scope.names.lookup x = some .local) (hy : X.env.scope.names.lookup y = some .local) (hz : X.env.scope.names.lookup z = some .local) (hli : ∃ o, Γ[i]? = some o) (hlj : ∃ o, Γ[j]? = some o) (hll : ∃ o, Γ[l]? = some o)
    (h : ∀ p q r, ω p = none → setO ω p (.lst []) q = none → setO (setO ω p (.lst [])) q (.dct (fun _ => none) 0) r = none → D.nx (((Γ.set i (some (.own p))).set j (some (.own q))).set l (some (.own r))) (setO (setO (setO ω p (.lst [])) q (.dct (fun _ => none) 0)) r (.dct (fun _ => none) 0)))
    (hw : swappedStores [.Tuple [.Name x px, .Name y py, .Name z pz] kt pt] (.Tuple [.List [] pl, .Dict [] [] pd, .Dict [] [] pd2] k2 pt2) X.env = pure (some [x, y, z]) := by rfl)
    (hs : swapsWithSole [.Tuple [.Name x px, .Name y py, .Name z pz] kt pt] (.Tuple [.List [] pl, .Dict [] [] pd, .Dict [] [] pd2] k2 pt2) pos.line X.env = pure false := by rfl) (s1 : S1 X (.List [] pl) [.Dict [] [] pd, .Dict [] [] pd2] := by rfl) (s2 : S1 X (.Dict [] [] pd) [.Dict [] [] pd2] := by rfl) (s3 : S1 X (.Dict [] [] pd2) [] := by rfl) :
    DS X (.Assign [.Tuple [.Name x px, .Name y py, .Name z pz] kt pt] (.Tuple [.List [] pl, .Dict [] [] pd, .Dict [] [] pd2] k2 pt2) pos) D Γ ω := fun B σ G H S =>
  ws_of (ps_par3 hc hN hi hj hl hij hil hjl hx hy hz (pa_cons (pe_lst pa_nil) (pa_cons pe_dnewK (pa_cons pe_dnewK pa_nil s3) s2) s1) hw hs) ⟨Nat.zero_le _, fun p hp q hq r hr => by
    have S1 : SD B G (upd H p (.lst [])) σ Γ (setO ω p (.lst [])) := S.newown (c := .lst []) hp ⟨[], upd_same, .nil⟩
    have S2 := S1.newown (c := .dct (fun _ => none) 0) hq own_new
    have S3 := S2.newown (c := .dct (fun _ => none) 0) hr own_new
    exact ⟨.ref p, .ref q, .ref r, rfl, G, _, _, ((S3.set (s := .own p) rfl (S3.ilt (glt hli))).set (s := .own q) rfl (by rw [List.length_set]; exact S3.ilt (glt hlj))).set (s := .own r) rfl (by rw [List.length_set, List.length_set]; exact S3.ilt (glt hll)), h p q r (S.free hp).2.1 (S1.free hq).2.1 (S2.free hr).2.1⟩⟩
theorem de_pickD {px py pl pi : Pos} (hu : X.A.units + 1 < cLine) (hN1 : X.N[i]? = some x) (hv1 : Vis X.env.scope x) (hΓ1 : Γ[i]? = some (some (.own p1))) (hN2 : X.N[j]? = some y) (hv2 : Vis X.env.scope y) (hΓ2 : Γ[j]? = some (some (.own p2)))
    (h : DE X e1 Γ ω fun d1 ω1 => ∃ c : Bool, d1 = .int (if c = true then 1 else 0) ∧ DE X e2 Γ ω1 fun d2 ω2 => ∃ k m n v, d2 = .int k ∧ ω2 (if c = true then p2 else p1) = some (.dct m n) ∧ m k = some v ∧ P v ω2)
    (hd1 : (x == ("__debug__" : Str)) = false := by decide) (hcd1 : (x == ("__classdict__" : Str)) = false := by decide) (hd2 : (y == ("__debug__" : Str)) = false := by decide) (hcd2 : (y == ("__classdict__" : Str)) = false := by decide)
    (hs1 : PlainIx e1 := by exact fun _ _ => rfl) (hs2 : NoSl e2 := by exact fun _ _ => rfl) (s1 : S1 X (.Name x px) [.Name y py] := by rfl) (s2 : S1 X (.Name y py) [] := by rfl) :
    DE X (.Subscript (.Subscript (.List [.Name x px, .Name y py] pl) e1 pi) e2 pos) Γ ω P := fun B σ G H S Q q => by
  obtain ⟨v1, hv1', hq1⟩ := S.slot i _ hΓ1
  obtain ⟨v2, hv2', hq2⟩ := S.slot j _ hΓ2
  have hq1' : v1 = .ref p1 := hq1
  have hq2' : v2 = .ref p2 := hq2
  subst hq1' hq2'
  refine we_of (pe_dget hu (pe_ix ix_list (pe_lst (pa_cons (pe_var hN1 hv1 hd1 hcd1) (pa_cons (pe_var hN2 hv2 hd2 hcd2) pa_nil s2) s1)) pe_we hs1) pe_we hs2) ⟨_, hv1', _, hv2', by show 2 ≤ sizeLine; decide, fun r hr => ?_⟩
  have hex : Ex H (upd H r (.lst [.ref p1, .ref p2])) := Ex.new hr
  refine h B σ _ _ (S.pure hex) _ fun d1 w1 G2 H2 ω2 h2 S2 e2' q1 => ?_
  obtain ⟨c, rfl, hk⟩ := h2
  cases q1
  have hR : H2 r = some (.lst [.ref p1, .ref p2]) := S2.sub _ _ (e2' _ _ (by rw [gain_new hr]; exact upd_same))
  have fin : ∀ pp : Addr, DE X e2 Γ ω2 (fun d2 ω3 => ∃ k m n v, d2 = .int k ∧ ω3 pp = some (.dct m n) ∧ m k = some v ∧ P v ω3) → WE X e2 σ H2 fun y H3 => ∃ a v, V.ref pp = .ref a ∧ DGet H3 a y (some v) ∧ Q v H3 := fun pp hk => hk B σ G2 H2 S2 _ fun d2 w2 G3 H3 ω3 h3 S3 e3 q3 => by
    obtain ⟨k, m, n, dv, rfl, hw, hm, hp⟩ := h3
    cases q3
    obtain ⟨_, vs, hx, hl, ho⟩ := S3.own pp _ hw
    obtain ⟨w, e5, q5⟩ := (ho k).some hm
    exact ⟨pp, w, rfl, by rw [← e5]; exact DGet.k (k := Sum.inl k) hx, q dv w G3 H3 ω3 hp S3 ((gain_ex S.sub).trans (e2'.trans e3)) q5⟩
  cases c with
  | true => exact ⟨r, _, 1, .ref p2, rfl, rfl, SqL.of hR, rfl, fin p2 hk⟩
  | false => exact ⟨r, _, 0, .ref p1, rfl, rfl, SqL.of hR, rfl, fin p1 hk⟩
theorem ds_put2 {px py q1 q2 : Pos} {kt : Nat} (hc : X.calm = true) (hu : X.A.units + 1 < cLine) (hN1 : X.N[i]? = some x) (hv1 : Vis X.env.scope x) (hΓ1 : Γ[i]? = some (some (.own p1))) (hN2 : X.N[j]? = some y) (hv2 : Vis X.env.scope y) (hΓ2 : Γ[j]? = some (some (.own p2)))
    (h : DE X value Γ ω fun d ω1 => ∃ d1 d2, d = .tuple [d1, d2] ∧ DE X e1 Γ ω1 fun dk ω2 => ∃ k m n, dk = .int k ∧ ω2 p1 = some (.dct m n) ∧ n < 100000 ∧ DE X e2 Γ (setO ω2 p1 (.dct (putM m k d1) (n + 1))) fun dk' ω3 => ∃ k' m' n', dk' = .int k' ∧ ω3 p2 = some (.dct m' n') ∧ n' < 100000 ∧ D.nx Γ (setO ω3 p2 (.dct (putM m' k' d2) (n' + 1))))
    (hd1 : (x == ("__debug__" : Str)) = false := by decide) (hcd1 : (x == ("__classdict__" : Str)) = false := by decide) (hd2 : (y == ("__debug__" : Str)) = false := by decide) (hcd2 : (y == ("__classdict__" : Str)) = false := by decide)
    (hs : swapsWithSole [.Tuple [.Subscript (.Name x px) e1 q1, .Subscript (.Name y py) e2 q2] kt pt] value pos.line X.env = pure false := by rfl) (hw : swappedStores [.Tuple [.Subscript (.Name x px) e1 q1, .Subscript (.Name y py) e2 q2] kt pt] value X.env = pure none := by rfl)
    (h1 : (assignEach [.Tuple [.Subscript (.Name x px) e1 q1, .Subscript (.Name y py) e2 q2] kt pt] X.env).map (·.2) = [assign (.Tuple [.Subscript (.Name x px) e1 q1, .Subscript (.Name y py) e2 q2] kt pt) X.env] := by rfl)
    (ha1 : ∀ v, assign (.Subscript (.Name x px) e1 q1) X.env v = (do
      let ov ← holding [v] (eval (.Name x px) X.env)
      let iv ← holding [v, ov] (eval e1 X.env)
      standAt q1
      holding [v, ov, iv] (setItem ov iv v)
      release [v, ov, iv] []) := by intro _; rfl)
    (ha2 : ∀ v, assign (.Subscript (.Name y py) e2 q2) X.env v = (do
      let ov ← holding [v] (eval (.Name y py) X.env)
      let iv ← holding [v, ov] (eval e2 X.env)
      standAt q2
      holding [v, ov, iv] (setItem ov iv v)
      release [v, ov, iv] []) := by intro _; rfl)
    (g1 : (assignEach [.Subscript (.Name x px) e1 q1, .Subscript (.Name y py) e2 q2] X.env).map (·.2) = assign (.Subscript (.Name x px) e1 q1) X.env :: (assignEach [.Subscript (.Name y py) e2 q2] X.env).map (·.2) := by rfl)
    (g2 : (assignEach [.Subscript (.Name y py) e2 q2] X.env).map (·.2) = assign (.Subscript (.Name y py) e2 q2) X.env :: (assignEach [] X.env).map (·.2) := by rfl)
    (hn : (assignEach [.Subscript (.Name x px) e1 q1, .Subscript (.Name y py) e2 q2] X.env).length = 2 := by rfl) (hst : (assignEach [.Subscript (.Name x px) e1 q1, .Subscript (.Name y py) e2 q2] X.env).findIdx? (·.1) = none := by rfl) :
    DS X (.Assign [.Tuple [.Subscript (.Name x px) e1 q1, .Subscript (.Name y py) e2 q2] kt pt] value pos) D Γ ω := fun B σ G H S =>
  ws_of (ps_asg pe_we (pg_tup hc (pgs_cons (pg_sub (pe_var hN1 hv1 hd1 hcd1) pe_we (set_dict hu) ha1) (pgs_cons (pg_sub (pe_var hN2 hv2 hd2 hcd2) pe_we (set_dict hu) ha2) pgs_nil g2) g1) hn hst) hs hw h1) (h B σ G H S _ fun d v G2 H2 ω2 h2 S2 e2' q => by
    obtain ⟨d1, d2, rfl, hk⟩ := h2
    cases q with
    | @tup t xs _ hx0 hd =>
      cases hd with
      | @cons v1 _ _ _ qa hd2 =>
        cases hd2 with
        | @cons v2 _ _ _ qb hd3 =>
          cases hd3
          obtain ⟨r1, hr1, hq1⟩ := S2.slot i _ hΓ1
          have hq1' : r1 = .ref p1 := hq1
          subst hq1'
          refine ⟨t, [v1, v2], rfl, SqT.of (S2.sub _ _ hx0), rfl, v1, [v2], rfl, _, hr1, hk B σ G2 H2 S2 _ fun dk wk G3 H3 ω3 h3 S3 e3 q3 => ?_⟩
          obtain ⟨k, m, n, rfl, hw3, hn3, hk2⟩ := h3
          cases q3
          obtain ⟨_, vs, hx, hl, ho⟩ := S3.own p1 _ hw3
          have S4 := S3.setown hw3 (own_put (k := k) hl ho (qa.mono e3))
          refine ⟨p1, _, rfl, DPut.k (k := Sum.inl k) hx (sz_lt (by omega)), ?_⟩
          obtain ⟨r2, hr2, hq2⟩ := S4.slot j _ hΓ2
          have hq2' : r2 = .ref p2 := hq2
          subst hq2'
          refine ⟨v2, [], rfl, _, hr2, hk2 B σ G3 _ S4 _ fun dk2 wk2 G5 H5 ω5 h5 S5 e5 q5 => ?_⟩
          obtain ⟨k', m', n', rfl, hw5, hn5, hnx⟩ := h5
          cases q5
          obtain ⟨_, vs5, hx5, hl5, ho5⟩ := S5.own p2 _ hw5
          refine ⟨p2, _, rfl, DPut.k (k := Sum.inl k') hx5 (sz_lt (by omega)), rfl, G5, Γ, _, S5.setown hw5 (own_put hl5 ho5 (qb.mono (e3.trans e5))), hnx⟩)
end
theorem for_enumI {K : PySem.W.Frag} {a : Addr} {xs : List V} {g : TG} {tb : TS} {D : Ends} {σ : L2.St} {H : Hp} (Pv : Nat → L2.St → Hp → Prop) (h0 : Pv 0 σ H) (hl : ∀ i σ H, i ≤ xs.length → Pv i σ H → SqL K H a xs)
    (hs : ∀ (i : Nat) x T σ H, xs[i]? = some x → Pv i σ H → H T = none → g (.ref T) σ (upd H T (.tup [.int (i : Int), x])) fun σ2 H2 => tb { D with nx := Pv (i + 1), ct := Pv (i + 1), bk := D.nx } σ2 H2) (hd : ∀ σ H, Pv xs.length σ H → D.nx σ H) :
    ∃ W : Nat → Nat → L2.St → Hp → Prop, (∃ m, W 0 m σ H) ∧ ∀ i m σ H, W i m σ H →
      ((Ite K a).stop i H ∧ D.nx σ H) ∨ ((Ite K a).go i H ∧ ∃ N : L2.St → Hp → Prop, (∀ σ' H', N σ' H' → ∃ m', m' < m ∧ W (i + 1) m' σ' H') ∧ ∀ x H', (Ite K a).yld i H x H' → g x σ H' fun σ2 H2 => tb { D with nx := N, ct := N, bk := D.nx } σ2 H2) := by
  refine ⟨fun i m σ H => m = xs.length - i ∧ i ≤ xs.length ∧ Pv i σ H, ⟨xs.length, by simp, Nat.zero_le _, h0⟩, ?_⟩
  rintro i m σ H ⟨rfl, hi, p⟩
  have q := hl i σ H hi p
  by_cases hlt : i < xs.length
  · refine .inr ⟨⟨xs, xs[i], q, by simp [hlt]⟩, Pv (i + 1), fun σ' H' p' => ⟨xs.length - (i + 1), by omega, rfl, hlt, p'⟩, fun x H' y => ?_⟩
    obtain ⟨T, x0, e1, hT, e2, hx⟩ := y
    subst e1 e2
    exact hs i x0 T σ H (hx xs q) p hT
  · have e : i = xs.length := by omega
    subst e
    exact .inl ⟨⟨xs, q, Nat.le_refl _⟩, hd σ H p⟩
section
variable {X : Cx} {Γ : Gam} {ω : Ow} {D : DN} {e : Expr} {pos pos2 p tpos : Pos}
theorem ds_forE {elts : List Expr} {kk : Nat} {body : List Stmt} (hp : PassesOwn (model X.prog X.w) X.A X.env X.xe) (hc : X.calm = true) (hg : Gl X "enumerate") (hm : X.mg "enumerate" = none) (h : DE X e Γ ω fun x ω1 => ∃ ds, x = .list ds ∧ ∃ Pv : Nat → Gam → Ow → Prop, Pv 0 Γ ω1 ∧
      (∀ (i : Nat) d Γ' ω', ds[i]? = some d → Pv i Γ' ω' → DG X (.Tuple elts kk tpos) (.tuple [.int (i : Int), d]) Γ' fun Γ2 => DSs X body { D with nx := Pv (i + 1), ct := Pv (i + 1), bk := D.nx } Γ2 ω') ∧ ∀ Γ' ω', Pv ds.length Γ' ω' → D.nx Γ' ω')
    (s1 : S1 X e [] := by rfl) (s2 : starEach [e] X.env = [(false, eval e X.env)] := by rfl) (hs : ∀ x, foldedSetIterable (.Call (.Name "enumerate" p) [e] [] pos2) X.env x = pure x := by intro _; rfl) : DS X (.For (.Tuple elts kk tpos) (.Call (.Name "enumerate" p) [e] [] pos2) body [] pos) D Γ ω := fun B σ G H S => by
  refine ws_of (ps_for hp hc (pi_enum hg hm (pa_cons pe_we pa_nil s1) s2) pg_we pss_we hs) (h B σ G H S _ fun d v G2 H2 ω2 h2 S2 e2 q => ?_)
  obtain ⟨ds, rfl, Pv, h0, hstep, hend⟩ := h2
  cases q with
  | @lst a xs _ hx hd =>
    refine ⟨a, xs, rfl, SqL.of (S2.sub _ _ hx), for_enumI (K := X.K) (xs := xs) (fun i σ' H' => ∃ G' Γ' ω', SD (reB G2 H2 ω2) G' H' σ' Γ' ω' ∧ Pv i Γ' ω') ⟨G2, Γ, ω2, S2.re, h0⟩ (fun i σ' H' _ ⟨G', Γ', ω', S', _⟩ => SqL.of (S'.sub _ _ (S'.ex _ _ hx))) ?_ ?_⟩
    · rintro i x T σ' H' hi ⟨G', Γ', ω', S', hPv⟩ hT
      obtain ⟨dd, hdd, hq⟩ := hd.get' hi
      have hex : Ex H' (upd H' T (.tup [.int (i : Int), x])) := Ex.new hT
      have S'' := S'.pure hex
      have hge := gain_ex (H2 := upd H' T (.tup [.int (i : Int), x])) S'.sub
      refine hstep i dd Γ' ω' hdd hPv _ σ' _ _ ω' (.ref T) S'' (.tup (by rw [gain_new hT]; exact upd_same) (.cons (.int _) (.cons (hq.mono (S'.ex.trans hge)) .nil))) _ fun σ3 Γ3 h3 S3 => ?_
      refine wss_mono (h3 _ σ3 _ _ S3) (fun σ4 H4 ⟨G4, Γ4, ω4, S4, q4⟩ => ⟨G4, Γ4, ω4, S4, q4⟩) (fun v H4 ⟨G4, σ4, Γ4, ω4, d4, S4, q4, r4⟩ => ⟨G4, σ4, Γ4, ω4, d4, S2.trans S4, q4, r4⟩) (fun σ4 H4 ⟨G4, Γ4, ω4, S4, q4⟩ => ⟨G4, Γ4, ω4, S2.trans S4, q4⟩) (fun σ4 H4 ⟨G4, Γ4, ω4, S4, q4⟩ => ⟨G4, Γ4, ω4, S4, q4⟩)
    · rintro σ' H' ⟨G', Γ', ω', S', hPv⟩
      rw [hd.len] at hPv
      exact ⟨G', Γ', ω', S2.trans S', hend Γ' ω' hPv⟩
end
end K20
set_option maxRecDepth 100000
set_option maxHeartbeats 4000000
namespace K20
open PySem PySem.Spec PyProof.Rows L2 Evl TC
theorem okR_at : ∀ {a : List Ev} {st : FS} {last : Option Int} {e : Ev} {b : List Ev}, okR st last (a ++ e :: b) → EvOk (stAt st a) (lastAt last a) e
  | [], _, _, _, _, h => h.1
  | _ :: a, st, last, e, b, h => okR_at (a := a) h.2
theorem split_at {α : Type} {l : List α} {k : Nat} {e : α} (h : l[k]? = some e) : l = l.take k ++ e :: l.drop (k + 1) := by
  obtain ⟨hk, e1⟩ := List.getElem?_eq_some_iff.mp h
  have := (List.take_append_drop k l).symm
  rw [List.drop_eq_getElem_cons hk, e1] at this
  exact this
theorem plD_eqv (p q : Pl) : PyData.eqv (plD p) (plD q) = decide (p = q) := mom_eqv p q
theorem plD_shaped (p : Pl) : SeqAt.shaped (plD p) = true := mom_shaped p
theorem ev_shaped_list (l : List Ev) : SeqAt.shaped (.list (l.map evD)) = true := by
  refine shaped_list (canLayAll_of fun d hd => ?_) (Nat.le_trans (depthAll_le (n := 2) fun d hd => ?_) (by decide))
  · obtain ⟨a, _, rfl⟩ := List.mem_map.mp hd
    simp [evD, plD, PyData.canLay0, PyData.canLayAll0, wayS_ok]
  · obtain ⟨a, _, rfl⟩ := List.mem_map.mp hd
    simp [evD, plD, PyData.depth, PyData.depthAll]
theorem enum_rows : ∀ (k : Nat) (l : List Ev), enumD k (l.map evD) = (enumR (k : Int) l).map rowD
  | _, [] => rfl
  | k, e :: l => by
    show _ :: enumD (k + 1) (l.map evD) = _ :: (enumR ((k : Int) + 1) l).map rowD
    rw [enum_rows (k + 1) l, show ((k + 1 : Nat) : Int) = (k : Int) + 1 by omega]; rfl
section
variable {X : Cx} {Γ : Gam} {ω : Ow} {D : DN} {e : Expr} {pos : Pos}
theorem ds_expr (h : DE X e Γ ω fun _ ω1 => D.nx Γ ω1) (hs : swapsWith e none pos.line X.env = pure false := by rfl) : DS X (.Expr e pos) D Γ ω := fun B σ G H S =>
  ws_of (ps_expr pe_we hs) (h B σ G H S _ fun d v G2 H2 ω2 h2 S2 e2 q => ⟨G2, Γ, ω2, S2, h2⟩)
end
section
variable {P : Program} {w : World} {K : PySem.W.Frag} {mg : Str → Option Value} {base : Heap}
abbrev sWrong : Stmt := top 16
theorem scWrong : FnScope ["record", "places", "last", "index", "event", "tick", "finger", "way", "place"] ["record"] (defScope sWrong) := ⟨rfl, rfl, rfl, by decide +kernel, rfl, by decide +kernel, by decide +kernel⟩
def rWrong : List PyData → PyData → Prop := fun ds d => ∃ (l : List Ev), ds = [.list (l.map evD)] ∧ okR st0 none l ∧ l.length ≤ 1000 ∧ d = .none
theorem ok_wrong {f : Addr} {fd : FuncData} (T : Txt mg) (Cis_event : Cal P w K mg base 3 "is_event" (spP rEvent)) (F : Fun K "wrong_event" "wrong_event" sWrong f fd) : FnOk P w K mg base CX0 4 f fd ["record"] (spP rWrong) := by
  have sc := scWrong
  refine fnP F scWrong (by rintro ds d ⟨l, rfl, _, _, rfl⟩; rfl) (fun cdv A outer s H E hr ds d h => ?_)
  obtain ⟨l, rfl, hok, hlen, rfl⟩ := h
  refine dss_cons ?_
  refine ds_parD (i := 1) (j := 2) rfl sc.nd rfl rfl (by decide) rfl rfl ⟨_, rfl⟩ ⟨_, rfl⟩ ?_
  intro p hp
  refine de_non ?_
  refine dss_cons ?_
  refine ds_forE .never rfl rfl T.enumerate ?_
  refine de_name (i := 0) rfl (.inl rfl) rfl ?_
  refine ⟨_, rfl, fun k Γ ω => ∃ (o3 o4 o5 o6 o7 o8 : Option Slot) (m : Int → Option PyData) (n : Nat), Γ = [some (.dat (.list (l.map evD))), some (.own p), some (.dat (optI (lastAt none (l.take k)))), o3, o4, o5, o6, o7, o8] ∧ ω = setO ow0 p (.dct m n) ∧ n ≤ k ∧ ∀ f, m f = (stAt st0 (l.take k) f).map plD, ⟨none, none, none, none, none, none, _, _, rfl, rfl, Nat.le_refl _, fun f => rfl⟩, ?_, ?_⟩
  · rintro k d Γ ω hk ⟨o3, o4, o5, o6, o7, o8, m, n, rfl, rfl, hn, hm⟩
    rw [List.getElem?_map] at hk
    cases hz : l[k]? with
    | none => rw [hz] at hk; cases hk
    | some e =>
    rw [hz] at hk
    have e0 : evD e = d := by simpa using hk
    subst e0
    have hsp := split_at hz
    have hev : EvOk (stAt st0 (l.take k)) (lastAt none (l.take k)) e := okR_at (b := l.drop (k + 1)) (by rw [← hsp]; exact hok)
    have hta := take_snoc hz
    have hkl : k < l.length := (List.getElem?_eq_some_iff.mp hz).1
    refine dg_tup rfl rfl (dgs_cons (dg_name (i := 3) sc.nd rfl (.inl rfl) ⟨_, rfl⟩ (dgs_cons (dg_name (i := 4) sc.nd rfl (.inl rfl) ⟨_, rfl⟩ (dgs_nil ?_)))))
    refine dss_cons ?_
    refine ds_if ?_
    refine dt_orV (k1 := false) (k2 := false) ?_ ?_ ?_
    · skip
      refine dt_not ?_
      refine dt_val ?_
      refine de_call Cis_event (hr.mono (by decide)) rfl ?_
      refine da_cons ?_
      refine de_name (i := 4) rfl (.inl rfl) rfl ?_
      refine da_nil ?_
      refine ⟨_, ⟨e, rfl, hev.fin.1, hev.fin.2, rfl⟩, ?_⟩
      refine ⟨_, rfl, ?_⟩
      exact ⟨rfl, rfl⟩
    · intro hb
      cases hla : lastAt none (l.take k) with
      | none =>
        refine dt_and ?_
        refine dt_cmp ?_
        refine dc_notN ?_
        refine de_name (i := 2) rfl (.inl rfl) rfl ?_
        refine ⟨_, rfl, ?_⟩
        refine iteF ?_
        exact ⟨rfl, rfl⟩
      | some la =>
        refine dt_and ?_
        refine dt_cmp ?_
        refine dc_notN ?_
        refine de_name (i := 2) rfl (.inl rfl) rfl ?_
        refine ⟨_, rfl, ?_⟩
        refine iteT ?_
        refine dt_cmp ?_
        refine dc_lt ?_
        refine de_ix ?_
        refine de_name (i := 4) rfl (.inl rfl) rfl ?_
        refine de_int ?_
        refine ⟨_, _, _, (by first | exact .inr rfl | exact .inl rfl), rfl, rfl, ?_⟩
        refine de_name (i := 2) rfl (.inl rfl) rfl ?_
        refine ⟨_, _, rfl, rfl, ?_⟩
        refine ⟨_, rfl, ?_⟩
        have ht : la ≤ e.t := by have := hev.tick; rw [hla] at this; exact this
        exact ⟨decide_eq_false (by omega), rfl⟩
    refine iteF ?_
    refine dss_nil ?_
    refine dss_cons ?_
    refine ds_asg ?_
    refine de_name (i := 4) rfl (.inl rfl) rfl ?_
    refine dg_tup rfl rfl (dgs_cons (dg_name (i := 5) sc.nd rfl (.inl rfl) ⟨_, rfl⟩ (dgs_cons (dg_name (i := 6) sc.nd rfl (.inl rfl) ⟨_, rfl⟩ (dgs_cons (dg_name (i := 7) sc.nd rfl (.inl rfl) ⟨_, rfl⟩ (dgs_cons (dg_name (i := 8) sc.nd rfl (.inl rfl) ⟨_, rfl⟩ (dgs_nil ?_)))))))))
    refine dss_cons ?_
    refine ds_if ?_
    refine dt_orV (k1 := false) (k2 := false) ?_ ?_ ?_
    · skip
      refine dt_cmp ?_
      refine dc_neB ?_
      refine de_cmp ?_
      refine dc_eqT ?_
      refine de_name (i := 7) rfl (.inl rfl) rfl ?_
      refine de_str ?_
      refine ⟨_, _, rfl, rfl, ?_⟩
      refine de_cmp ?_
      refine dc_notInO (hu_of hr) (i := 1) rfl (.inl rfl) rfl ?_
      refine de_name (i := 6) rfl (.inl rfl) rfl ?_
      refine ⟨_, _, _, rfl, setO_same, ?_⟩
      refine ⟨_, _, rfl, rfl, ?_⟩
      refine ⟨_, rfl, ?_⟩
      exact ⟨by
        rw [wayS_down, hm]
        have hdn := hev.down
        cases hst : stAt st0 (l.take k) e.f with
        | none => rw [hst] at hdn; rw [decide_eq_true (hdn.mpr rfl)]; rfl
        | some q => rw [hst] at hdn; rw [decide_eq_false (fun z => nomatch hdn.mp z)]; rfl, rfl⟩
    · intro hb
      refine dt_and ?_
      refine dt_cmp ?_
      refine dc_eqT ?_
      refine de_name (i := 7) rfl (.inl rfl) rfl ?_
      refine de_str ?_
      refine ⟨_, _, rfl, rfl, ?_⟩
      refine ⟨_, rfl, ?_⟩
      rw [wayS_up]
      refine ite2 (fun hw => ?_) (fun hw => ?_)
      · skip
        have hu := hev.up (of_decide_eq_true hw)
        refine dt_cmp ?_
        refine dc_neD (Room.lt hr (n := 64) (by decide)) ?_
        refine de_ixO (hu_of hr) (i := 1) rfl (.inl rfl) rfl ?_
        refine de_name (i := 6) rfl (.inl rfl) rfl ?_
        refine ⟨_, _, _, plD e.p, rfl, setO_same, by rw [hm, hu]; rfl, ?_⟩
        refine de_name (i := 8) rfl (.inl rfl) rfl ?_
        refine ⟨plD_shaped _, plD_shaped _, ?_⟩
        refine ⟨_, rfl, ?_⟩
        exact ⟨by rw [plD_eqv, decide_eq_true rfl]; rfl, rfl⟩
      · exact ⟨rfl, rfl⟩
    refine iteF ?_
    refine dss_nil ?_
    refine dss_cut (PL := fun Γ ω => Γ = [some (.dat (.list (l.map evD))), some (.own p), some (.dat (optI (lastAt none (l.take k)))), some (.dat (.int (k : Int))), some (.dat (evD e)), some (.dat (.int e.t)), some (.dat (.int e.f)), some (.dat (.str (wayS e.w))), some (.dat (plD e.p))] ∧ ∃ m' n', ω = setO ow0 p (.dct m' n') ∧ n' ≤ k + 1 ∧ ∀ f, m' f = (stepF (stAt st0 (l.take k)) e f).map plD) ?_ ?_
    · skip
      refine ds_if ?_
      refine dt_cmp ?_
      refine dc_eqT ?_
      refine de_name (i := 7) rfl (.inl rfl) rfl ?_
      refine de_str ?_
      refine ⟨_, _, rfl, rfl, ?_⟩
      refine ⟨_, rfl, ?_⟩
      rw [wayS_up]
      refine ite2 (fun hw => ?_) (fun hw => ?_)
      · skip
        refine dss_one ?_
        refine ds_delO (i := 1) rfl (.inl rfl) rfl ?_
        refine de_name (i := 6) rfl (.inl rfl) rfl ?_
        refine ⟨_, _, _, rfl, setO_same, by rw [hm, hev.up (of_decide_eq_true hw)]; rfl, ?_⟩
        rw [setO_setO]
        refine ⟨rfl, _, _, rfl, by omega, fun f => ?_⟩
        unfold delM stepF
        rw [of_decide_eq_true hw]
        by_cases hf : f = e.f
        · rw [if_pos hf, if_pos hf]; rfl
        · rw [if_neg hf, if_neg hf]; exact hm f
      · skip
        refine dss_one ?_
        refine ds_putO (hu_of hr) (i := 1) rfl (.inl rfl) rfl ?_
        refine de_name (i := 8) rfl (.inl rfl) rfl ?_
        refine de_name (i := 6) rfl (.inl rfl) rfl ?_
        refine ⟨_, _, _, rfl, setO_same, by omega, ?_⟩
        rw [setO_setO]
        refine ⟨rfl, _, _, rfl, Nat.succ_le_succ hn, fun f => ?_⟩
        unfold putM stepF
        by_cases hf : f = e.f
        · rw [if_pos hf, if_pos hf, if_neg (fun z => hw (decide_eq_true z))]; rfl
        · rw [if_neg hf, if_neg hf]; exact hm f
    · rintro Γ ω ⟨rfl, m', n', rfl, hn', hm'⟩
      refine dss_one ?_
      refine ds_set (i := 2) sc.nd rfl (.inl rfl) ⟨_, rfl⟩ ?_
      refine de_name (i := 5) rfl (.inl rfl) rfl ?_
      refine ⟨some (.dat (.int (k : Int))), some (.dat (evD e)), some (.dat (.int e.t)), some (.dat (.int e.f)), some (.dat (.str (wayS e.w))), some (.dat (plD e.p)), m', n', ?_, rfl, hn', fun f => ?_⟩
      · rw [hta, lastAt_snoc]; rfl
      · rw [hta, stAt_snoc]; exact hm' f
  · rintro Γ ω ⟨o3, o4, o5, o6, o7, o8, m, n, rfl, rfl, hn, hm⟩
    refine dss_one ?_
    refine ds_ret ?_
    refine de_non ?_
    rfl
abbrev sReq : Stmt := top 17
theorem scReq : FnScope ["record", "wrong"] ["record"] (defScope sReq) := ⟨rfl, rfl, rfl, by decide +kernel, rfl, by decide +kernel, by decide +kernel⟩
def rReq : List PyData → PyData → Prop := fun ds d => ∃ (l : List Ev), ds = [.list (l.map evD)] ∧ Valid l ∧ d = .none
theorem ok_req {f : Addr} {fd : FuncData} (T : Txt mg) (Cis_list : Cal P w K mg base 1 "is_list" (spP rList)) (Cwrong_event : Cal P w K mg base 4 "wrong_event" (spP rWrong)) (F : Fun K "require_record" "require_record" sReq f fd) : FnOk P w K mg base CX0 5 f fd ["record"] (spP rReq) := by
  have sc := scReq
  refine fnP F scReq (by rintro ds d ⟨l, rfl, _, rfl⟩; rfl) (fun cdv A outer s H E hr ds d h => ?_)
  obtain ⟨l, rfl, hv, rfl⟩ := h
  obtain ⟨tm, hmo⟩ := T.MOST
  have hl400 := hv.len
  refine dss_cons ?_
  refine ds_if ?_
  refine dt_not ?_
  refine dt_val ?_
  refine de_call Cis_list (hr.mono (by decide)) rfl ?_
  refine da_cons ?_
  refine de_name (i := 0) rfl (.inl rfl) rfl ?_
  refine da_cons ?_
  refine de_globI rfl hmo ⟨_, rfl⟩ ?_
  refine da_nil ?_
  refine ⟨_, ⟨_, 400, rfl, by rw [List.length_map]; omega, rfl⟩, ?_⟩
  refine ⟨_, rfl, ?_⟩
  refine iteF ?_
  refine dss_nil ?_
  refine dss_cons ?_
  refine ds_set (i := 1) sc.nd rfl (.inl rfl) ⟨_, rfl⟩ ?_
  refine de_call Cwrong_event (hr.mono (by decide)) rfl ?_
  refine da_cons ?_
  refine de_name (i := 0) rfl (.inl rfl) rfl ?_
  refine da_nil ?_
  refine ⟨_, ⟨l, rfl, hv.ok, by omega, rfl⟩, ?_⟩
  refine dss_one ?_
  refine ds_if ?_
  refine dt_cmp ?_
  refine dc_notN ?_
  refine de_name (i := 1) rfl (.inl rfl) rfl ?_
  refine ⟨_, rfl, ?_⟩
  refine iteF ?_
  refine dss_nil ?_
  rfl
abbrev sV : Stmt := top 35
theorem scV : FnScope ["kind", "record"] ["kind", "record"] (defScope sV) := ⟨rfl, rfl, rfl, by decide +kernel, rfl, by decide +kernel, by decide +kernel⟩
def rV : List PyData → PyData → Prop := fun ds d => ∃ (k : TC.Kind) (l : List Ev), ds = [kindD k, .list (l.map evD)] ∧ k.Ok ∧ Valid l ∧ l ≠ [] ∧ d = resD (TC.verdict k l)
theorem ok_v {f : Addr} {fd : FuncData} (T : Txt mg) (Cis_kind : Cal P w K mg base 2 "is_kind" (spP rKindC)) (Crequire_record : Cal P w K mg base 5 "require_record" (spP rReq)) (Cvof : Cal P w K mg base 6 "verdict_of" (spP rVof)) (F : Fun K "verdict" "verdict" sV f fd) : FnOk P w K mg base CX0 7 f fd ["kind", "record"] (spP rV) := by
  have sc := scV
  refine fnP F scV (by rintro ds d ⟨k, l, rfl, _, _, _, rfl⟩; rfl) (fun cdv A outer s H E hr ds d h => ?_)
  obtain ⟨k, l, rfl, hk, hv, hne, rfl⟩ := h
  obtain ⟨e0, rest, rfl⟩ : ∃ e0 rest, l = e0 :: rest := by
    cases l with
    | nil => exact absurd rfl hne
    | cons a b => exact ⟨a, b, rfl⟩
  have hl400 := hv.len
  refine dss_cons ?_
  refine ds_if ?_
  refine dt_not ?_
  refine dt_val ?_
  refine de_call Cis_kind (hr.mono (by decide)) rfl ?_
  refine da_cons ?_
  refine de_name (i := 0) rfl (.inl rfl) rfl ?_
  refine da_nil ?_
  refine ⟨_, ⟨k, rfl, hk, rfl⟩, ?_⟩
  refine ⟨_, rfl, ?_⟩
  refine iteF ?_
  refine dss_nil ?_
  refine dss_cons ?_
  refine ds_expr ?_
  refine de_call Crequire_record (hr.mono (by decide)) rfl ?_
  refine da_cons ?_
  refine de_name (i := 1) rfl (.inl rfl) rfl ?_
  refine da_nil ?_
  refine ⟨_, ⟨_, rfl, hv, rfl⟩, ?_⟩
  refine dss_cons ?_
  refine ds_if ?_
  refine dt_cmp ?_
  refine dc_eqD (Room.lt hr (n := 64) (by decide)) ?_
  refine de_name (i := 1) rfl (.inl rfl) rfl ?_
  refine de_lst ?_
  refine da_nil ?_
  refine ⟨(by simp only [List.length_cons, List.length_nil]; decide), ?_⟩
  refine ⟨ev_shaped_list _, by decide +kernel, ?_⟩
  refine ⟨_, rfl, ?_⟩
  rw [show PyData.eqv (.list ((e0 :: rest).map evD)) (.list []) = false by simp [PyData.eqv, PyData.eqvAll]]
  refine iteF ?_
  refine dss_nil ?_
  refine dss_one ?_
  refine ds_ret ?_
  refine de_call Cvof (hr.mono (by decide)) rfl ?_
  refine da_cons ?_
  refine de_name (i := 0) rfl (.inl rfl) rfl ?_
  refine da_cons ?_
  refine de_listEnum rfl rfl T.list rfl T.enumerate ?_
  refine de_name (i := 1) rfl (.inl rfl) rfl ?_
  refine ⟨_, rfl, ?_⟩
  refine da_nil ?_
  refine ⟨_, ⟨k, (0, e0), enumR 1 rest, by rw [enum_rows 0 (e0 :: rest)]; rfl, by rw [show ((0, e0) :: enumR 1 rest : List TC.Row) = enumR 0 (e0 :: rest) from rfl, enumR_len]; omega, enumR_num 0 (e0 :: rest), enumR_asc 0 (e0 :: rest) hv.ups, hk, rfl⟩, ?_⟩
  rfl
end
end K20
set_option maxRecDepth 100000
set_option maxHeartbeats 4000000
namespace K20
open PySem PySem.Spec PyProof.Rows L2 Evl TC
section
variable {prog : Program} {w : World} {A : Around} {E : Value → Shared → Prop} {s : Shared}
theorem draw_lst {it t : Addr} {items : Array Value} (hne : t ≠ it) : ∀ (n i : Nat) (s : Shared) (Q : List Value → Shared → Prop), s.heap.IsListIter it t i → s.heap.IsList t items → i + n ≤ items.size →
    (∀ h', h'.IsListIter it t (i + n) → Heap.SameBut it s.heap h' → Q ((items.toList.drop i).take n) { s with heap := h' }) → wpAny (model prog w) A (draw (.ref it) n) Q E s
  | 0, i, s, Q, hit, _, _, hQ => by
    show wpAny _ _ (pure []) Q E s
    exact wpAny_pure (by simpa using hQ s.heap hit (Heap.SameBut.refl ..))
  | n + 1, i, s, Q, hit, ht, hle, hQ => by
    have hlt : i < items.size := by omega
    show wpAny _ _ (pyNext (.ref it) >>= _) Q E s
    refine wpAny_bind (wpAny_pyNext_list_item hit ht (x := items[i]) (by simp [hlt]) fun h₁ hit₁ hs₁ => ?_)
    refine wpAny_bind (wpAny_holding (draw_lst hne n (i + 1) _ _ hit₁ (ht.extBut hs₁.extBut hne) (by omega) fun h₂ hit₂ hs₂ => wpAny_pure ?_))
    have hd : items.toList.drop i = items[i] :: items.toList.drop (i + 1) := by simp [List.drop_eq_getElem_cons, hlt]
    have := hQ h₂ (by rw [show i + (n + 1) = i + 1 + n by omega]; exact hit₂) (hs₁.trans hs₂)
    rw [hd, List.take_succ_cons] at this
    exact this
theorem unpackItems_lst {t : Addr} {items : Array Value} {Q : List Value → Shared → Prop} (hh : A.handled = none) (ht : s.heap.IsList t items)
    (hQ : ∀ h', Heap.ExtBut s.heap.objs.size s.heap h' → Q items.toList { s with heap := h' }) : wpAny (model prog w) A (unpackItems (.ref t) items.size none) Q E s := by
  have hlt : t ≠ s.heap.objs.size := by obtain ⟨o, ho, _⟩ := ht; exact Nat.ne_of_lt (Heap.lt_size ho)
  unfold unpackItems
  refine wpAny_bind ?_
  · unfold notIterableAtAll
    refine wpAny_bind (wpAny_specialOf ht.typeIs PySem.slot_list_iter.lookup ?_)
    refine wpAny_pure ?_
    simp only [Bool.false_eq_true, if_false]
    refine wpAny_bind (wpAny_holding (wpAny_pyIter_list ht ?_))
    have ht0 : (s.heap.push { cls := .type "list_iterator", data := .fields #[.ref t, .int 0 0] }).IsList t items := ht.at fun o x => Heap.get?_push_of_some _ x
    refine wpAny_bind (wpAny_holding (draw_lst hlt items.size 0 _ _ ⟨_, Heap.get?_push_size _ rfl, rfl, rfl⟩ ht0 (by omega) fun h₁ hit₁ hs₁ => ?_))
    have hall : List.take items.size (List.drop 0 items.toList) = items.toList := by
      rw [List.drop_zero]; exact List.take_of_length_le (by simp)
    rw [hall]
    rw [if_neg (by simp)]
    have ht₁ : h₁.IsList t items := ht0.extBut hs₁.extBut hlt
    refine wpAny_bind (wpAny_holding (wpAny_pyNext_list_end hh hit₁ ht₁ (by simp) fun h₂ he₂ => ?_))
    simp only [Option.isSome_none, Bool.false_eq_true, if_false]
    refine wpAny_pure (hQ h₂ fun b o hb e => he₂ b o hb (hs₁.extBut b o hb (Heap.get?_push_of_some _ e)))
end
section
variable {X : Cx} {Γ : Gam} {ω : Ow} {P : PyData → Ow → Prop} {D : DN} {e : Expr} {pos pos' pt : Pos} {i : Nat} {x : Str} {r : Addr}
def gLstU (K : PySem.W.Frag) (n : Nat) (t : TGs) : TG := fun v σ H Q => ∃ a xs, v = .ref a ∧ SqL K H a xs ∧ xs.length = n ∧ t xs σ H Q
theorem pg_lstU {es : List Expr} {k : Nat} {t : TGs} {n : Nat} (hc : X.calm = true) (h : PGs X es t)
    (hn : (assignEach es X.env).length = n := by rfl) (hst : (assignEach es X.env).findIdx? (·.1) = none := by rfl) : PG X (.Tuple es k pos) (gLstU X.K n t) := by
  refine ⟨fun pins s σ H v u Q I r hw => ?_⟩
  obtain ⟨a, xs, e1, hq, hl, hw⟩ := hw
  subst e1
  cases r
  obtain ⟨its, rv, ht, hz⟩ := I.list hq
  rw [assign_Tuple]
  refine wpAny_bind (wpAny_standAt ?_)
  unfold unpack
  have hsz : (assignEach es X.env).length = its.toArray.size := by simp [hn, ← hl, rv.length]
  rw [hst, hsz]
  refine wpAny_bind (wpAny_holding (unpackItems_lst (I.ok.hd hc) ht.isList fun h' hx => ?_))
  have I1 : Inv X pins σ H { s with heap := h' } := I.kept (t' := s.toks) fun b o e => hx b o (Nat.ne_of_lt (Heap.lt_size e)) e
  exact h.run pins _ σ H xs _ Q I1 (by simpa using rv) hw
theorem dg_lst {ts : List Expr} {k n : Nat} {ds : List PyData} {P : Gam → Prop} (hc : X.calm = true) (hl : ds.length = n) (h : DGs X ts ds Γ P) (hn : (assignEach ts X.env).length = n := by rfl) (hst : (assignEach ts X.env).findIdx? (·.1) = none := by rfl) : DG X (.Tuple ts k pos) (.list ds) Γ P := fun B σ G H ω v S q Q kk => by
  cases q with
  | lst hx hd => exact wg_of (pg_lstU hc pgs_we hn hst) ⟨_, _, rfl, SqL.of (S.sub _ _ hx), by rw [hd.len]; exact hl, h B σ G H ω _ S hd Q kk⟩
theorem de_reel {z : Int} {j : Nat} {pc : Pos} {n : Nat} (hN : X.N[i]? = some x) (hv : Vis X.env.scope x) (hΓ : Γ[i]? = some (some (.own r))) (hr : ω r = some (.reel n)) (h : ∀ a b c : Int, 0 ≤ b → b < reelB → 0 ≤ c → c ≤ n → ∃ d, atI [V.int a, V.int b, V.int c] z = some (.int d) ∧ P (.int d) ω)
    (hd : (x == ("__debug__" : Str)) = false := by decide) (hcd : (x == ("__classdict__" : Str)) = false := by decide) (hs : PlainIx (.Constant (.int z) j pc) := by exact fun _ _ => rfl) : DE X (.Subscript (.Name x pos) (.Constant (.int z) j pc) pos') Γ ω P := fun B σ G H S Q q => by
  obtain ⟨v, hv', hq⟩ := S.slot i _ hΓ
  have hq' : v = .ref r := hq
  subst hq'
  obtain ⟨_, a, b, c, hx, h1, h2, h3, h4⟩ := S.own r _ hr
  obtain ⟨d, hat, hp⟩ := h a b c h1 h2 h3 h4
  exact we_of (pe_ix ix_list (pe_var hN hv hd hcd) pe_int hs) ⟨_, hv', r, _, z, .int d, rfl, rfl, SqL.of hx, hat, q _ _ G H ω hp S (Ex.refl G) (.int d)⟩
theorem de_reel0 {j : Nat} {pc : Pos} {n : Nat} (hN : X.N[i]? = some x) (hv : Vis X.env.scope x) (hΓ : Γ[i]? = some (some (.own r))) (hr : ω r = some (.reel n)) (h : ∀ a : Int, P (.int a) ω)
    (hd : (x == ("__debug__" : Str)) = false := by decide) (hcd : (x == ("__classdict__" : Str)) = false := by decide) (hs : PlainIx (.Constant (.int 0) j pc) := by exact fun _ _ => rfl) : DE X (.Subscript (.Name x pos) (.Constant (.int 0) j pc) pos') Γ ω P :=
  de_reel hN hv hΓ hr (fun a b c _ _ _ _ => ⟨a, rfl, h a⟩) hd hcd hs
theorem de_reel1 {j : Nat} {pc : Pos} {n : Nat} (hN : X.N[i]? = some x) (hv : Vis X.env.scope x) (hΓ : Γ[i]? = some (some (.own r))) (hr : ω r = some (.reel n)) (h : ∀ b : Int, 0 ≤ b → b < reelB → P (.int b) ω)
    (hd : (x == ("__debug__" : Str)) = false := by decide) (hcd : (x == ("__classdict__" : Str)) = false := by decide) (hs : PlainIx (.Constant (.int 1) j pc) := by exact fun _ _ => rfl) : DE X (.Subscript (.Name x pos) (.Constant (.int 1) j pc) pos') Γ ω P :=
  de_reel hN hv hΓ hr (fun a b c h1 h2 _ _ => ⟨b, rfl, h b h1 h2⟩) hd hcd hs
theorem de_reel2 {j : Nat} {pc : Pos} {n : Nat} (hN : X.N[i]? = some x) (hv : Vis X.env.scope x) (hΓ : Γ[i]? = some (some (.own r))) (hr : ω r = some (.reel n)) (h : ∀ c : Int, 0 ≤ c → c ≤ n → P (.int c) ω)
    (hd : (x == ("__debug__" : Str)) = false := by decide) (hcd : (x == ("__classdict__" : Str)) = false := by decide) (hs : PlainIx (.Constant (.int 2) j pc) := by exact fun _ _ => rfl) : DE X (.Subscript (.Name x pos) (.Constant (.int 2) j pc) pos') Γ ω P :=
  de_reel hN hv hΓ hr (fun a b c _ _ h1 h2 => ⟨c, rfl, h c h1 h2⟩) hd hcd hs
theorem ds_reel {z : Int} {j : Nat} {pc : Pos} {m : Nat} {jj : Nat} (hN : X.N[i]? = some x) (hv : Vis X.env.scope x) (hΓ : Γ[i]? = some (some (.own r))) (hz : ixN 3 z = some jj) (h : DE X e Γ ω fun d ω1 => ∃ n q, d = .int q ∧ ω1 r = some (.reel n) ∧ (∀ a b c : Int, 0 ≤ b → b < reelB → 0 ≤ c → c ≤ n → ∃ a' b' c' : Int, [V.int a, V.int b, V.int c].set jj (.int q) = [.int a', .int b', .int c'] ∧ 0 ≤ b' ∧ b' < reelB ∧ 0 ≤ c' ∧ c' ≤ (m : Int)) ∧ D.nx Γ (setO ω1 r (.reel m)))
    (hd : (x == ("__debug__" : Str)) = false := by decide) (hcd : (x == ("__classdict__" : Str)) = false := by decide)
    (hs : swapsWithSole [.Subscript (.Name x pos) (.Constant (.int z) j pc) pos'] e pt.line X.env = pure false := by rfl) (hw : swappedStores [.Subscript (.Name x pos) (.Constant (.int z) j pc) pos'] e X.env = pure none := by rfl)
    (h1 : (assignEach [.Subscript (.Name x pos) (.Constant (.int z) j pc) pos'] X.env).map (·.2) = [assign (.Subscript (.Name x pos) (.Constant (.int z) j pc) pos') X.env] := by rfl)
    (ha : ∀ v, assign (.Subscript (.Name x pos) (.Constant (.int z) j pc) pos') X.env v = (do
      let ov ← holding [v] (eval (.Name x pos) X.env)
      let iv ← holding [v, ov] (eval (.Constant (.int z) j pc) X.env)
      standAt pos'
      holding [v, ov, iv] (setItem ov iv v)
      release [v, ov, iv] []) := by intro _; rfl) : DS X (.Assign [.Subscript (.Name x pos) (.Constant (.int z) j pc) pos'] e pt) D Γ ω := fun B σ G H S =>
  ws_of (ps_asg pe_we (pg_sub (pe_var hN hv hd hcd) pe_int set_list ha) hs hw h1) (h B σ G H S _ fun d v G2 H2 ω2 h2 S2 e2 q => by
    obtain ⟨n, k, rfl, hn, hk, hnx⟩ := h2
    cases q
    obtain ⟨v, hv', hq⟩ := S2.slot i _ hΓ
    have hq' : v = .ref r := hq
    subst hq'
    obtain ⟨_, a, b, c, hx, b1, b2, b3, b4⟩ := S2.own r _ hn
    obtain ⟨a', b', c', e1, c1, c2, c3, c4⟩ := hk a b c b1 b2 b3 b4
    refine ⟨_, hv', r, _, z, jj, rfl, rfl, hx, hz, G2, Γ, _, S2.setown hn (c' := .reel m) ⟨a', b', c', ?_, c1, c2, c3, c4⟩, hnx⟩
    rw [upd_same, e1])
theorem de_scrLen {K : PySem.W.Frag} {ns : List Int} {p p2 : Pos} (hK : X.K = K) (hg : Gl X "len") (hm : X.mg "len" = none) (hN : X.N[i]? = some x) (hv : Vis X.env.scope x) (hΓ : Γ[i]? = some (some (.scr K ns))) (h : P (.int ns.length) ω)
    (hd : (x == ("__debug__" : Str)) = false := by decide) (hcd : (x == ("__classdict__" : Str)) = false := by decide) (s1 : S1 X (.Name x p2) [] := by rfl) : DE X (.Call (.Name "len" p) [.Name x p2] [] pos) Γ ω P := fun B σ G H S Q q => by
  obtain ⟨v, hv', a, ha, hs⟩ := S.slot i _ hΓ
  subst ha hK
  exact we_of (pe_callB call_len_seq hg hm PySem.boot_len (pa_cons (pe_var hN hv hd hcd) pa_nil s1) (he := s1)) ⟨_, hv', _, _, rfl, .inl (hs H S.sub), by rw [List.length_map]; exact q _ _ G H ω h S (Ex.refl G) (.int _)⟩
theorem de_scrIx {K : PySem.W.Frag} {ns : List Int} {e : Expr} {p2 : Pos} (hK : X.K = K) (hN : X.N[i]? = some x) (hv : Vis X.env.scope x) (hΓ : Γ[i]? = some (some (.scr K ns))) (h : DE X e Γ ω fun d ω1 => ∃ (k : Nat) (z : Int), d = .int k ∧ ns[k]? = some z ∧ P (.int z) ω1)
    (hd : (x == ("__debug__" : Str)) = false := by decide) (hcd : (x == ("__classdict__" : Str)) = false := by decide) (hs1 : PlainIx e := by exact fun _ _ => rfl) : DE X (.Subscript (.Name x p2) e pos) Γ ω P := fun B σ G H S Q q => by
  obtain ⟨v, hv', a, ha, hs⟩ := S.slot i _ hΓ
  subst ha hK
  exact we_of (pe_ix ix_list (pe_var hN hv hd hcd) pe_we hs1) ⟨_, hv', h B σ G H S _ fun d v G2 H2 ω2 h2 S2 e2 q2 => by
    obtain ⟨k, z, rfl, hz, hp⟩ := h2
    cases q2
    exact ⟨a, _, k, .int z, rfl, rfl, hs H2 (e2.trans S2.sub), atI_nat (by rw [List.getElem?_map, hz]; rfl), q _ _ G2 H2 ω2 hp S2 e2 (.int z)⟩⟩
theorem ds_forS {K : PySem.W.Frag} {ns : List Int} {tg : Expr} {body : List Stmt} {p2 : Pos} (hp : PassesOwn (model X.prog X.w) X.A X.env X.xe) (hc : X.calm = true) (hK : X.K = K) (hN : X.N[i]? = some x) (hv : Vis X.env.scope x) (hΓ : Γ[i]? = some (some (.scr K ns))) (h : ∃ Pv : Nat → Gam → Ow → Prop, Pv 0 Γ ω ∧
      (∀ (i : Nat) z Γ' ω', ns[i]? = some z → Pv i Γ' ω' → DG X tg (.int z) Γ' fun Γ2 => DSs X body { D with nx := Pv (i + 1), ct := Pv (i + 1), bk := D.nx } Γ2 ω') ∧ ∀ Γ' ω', Pv ns.length Γ' ω' → D.nx Γ' ω')
    (hd : (x == ("__debug__" : Str)) = false := by decide) (hcd : (x == ("__classdict__" : Str)) = false := by decide) (hs1 : ∀ y, foldedSetIterable (.Name x p2) X.env y = pure y := by intro _; rfl) : DS X (.For tg (.Name x p2) body [] pos) D Γ ω := fun B σ G H S => by
  obtain ⟨v, hv', a, ha, hs⟩ := S.slot i _ hΓ
  subst ha hK
  obtain ⟨Pv, h0, hstep, hend⟩ := h
  refine ws_of (ps_for hp hc (pi_list (pe_var hN hv hd hcd)) pg_we pss_we hs1) ⟨_, hv', a, rfl, ⟨_, hs H S.sub⟩, for_list (K := X.K) (xs := ns.map V.int) (fun i σ' H' => ∃ G' Γ' ω', SD (reB G H ω) G' H' σ' Γ' ω' ∧ Pv i Γ' ω') ⟨G, Γ, ω, S.re, h0⟩ (fun i σ' H' _ ⟨G', Γ', ω', S', _⟩ => hs H' (S'.ex.trans S'.sub)) ?_ ?_⟩
  · rintro i y σ' H' hi ⟨G', Γ', ω', S', hPv⟩
    rw [List.getElem?_map] at hi
    cases hz : ns[i]? with
    | none => rw [hz] at hi; cases hi
    | some z =>
      rw [hz] at hi
      have e1 : V.int z = y := by simpa using hi
      subst e1
      refine hstep i z Γ' ω' hz hPv _ σ' G' H' ω' _ S' (.int z) _ fun σ3 Γ3 h3 S3 => ?_
      refine wss_mono (h3 _ σ3 G' H' S3) (fun σ4 H4 ⟨G4, Γ4, ω4, S4, q4⟩ => ⟨G4, Γ4, ω4, S4, q4⟩) (fun v H4 ⟨G4, σ4, Γ4, ω4, d4, S4, q4, r4⟩ => ⟨G4, σ4, Γ4, ω4, d4, S.trans S4, q4, r4⟩) (fun σ4 H4 ⟨G4, Γ4, ω4, S4, q4⟩ => ⟨G4, Γ4, ω4, S.trans S4, q4⟩) (fun σ4 H4 ⟨G4, Γ4, ω4, S4, q4⟩ => ⟨G4, Γ4, ω4, S4, q4⟩)
  · rintro σ' H' ⟨G', Γ', ω', S', hPv⟩
    rw [List.length_map] at hPv
    exact ⟨G', Γ', ω', S.trans S', hend Γ' ω' hPv⟩
theorem dss_stepE {B : Bs} {σ : L2.St} {G H : Hp} {E : Ends} {st : Stmt} {sts : List Stmt} (S : SD B G H σ Γ ω) (h : DS X st { nx := fun Γ' ω' => ∀ σ' G' H', SD B G' H' σ' Γ' ω' → WSs X sts E σ' H', rt := fun _ _ => False } Γ ω) : WSs X (st :: sts) E σ H :=
  wss_of (pss_cons ps_we pss_we) (ws_mono (h B σ G H S) (fun σ' H' ⟨G', Γ', ω', S', h'⟩ => h' σ' G' H' S') (fun _ _ ⟨_, _, _, _, _, _, _, z⟩ => z.elim) (fun _ _ ⟨_, _, _, _, z⟩ => z.elim) fun _ _ ⟨_, _, _, _, z⟩ => z.elim)
end
end K20
set_option maxRecDepth 100000
set_option maxHeartbeats 4000000
namespace K20
open PySem PySem.Spec PyProof.Rows L2 Evl TC
theorem log2_small {n k : Nat} (h : n < 2 ^ (k + 1)) : n.log2 < k + 1 := by
  by_cases h0 : n = 0
  · rw [h0]; exact Nat.succ_pos k
  · exact (Nat.log2_lt h0).mpr h
theorem cmul_ok {i j : Int} (hi : i.natAbs < 2 ^ 2000) (hj : j.natAbs < 2 ^ 2000) : CMulW i j := by
  have h1 := log2_small (k := 1999) hi
  have h2 := log2_small (k := 1999) hj
  show i.natAbs.log2 + j.natAbs.log2 < 1000000
  omega
theorem cdiv_ok {i j : Int} (h0 : 0 < j) (h1 : j.natAbs < 2 ^ 2000) : CDivW i j := ⟨h0, by have := log2_small (k := 1999) h1; omega⟩
theorem bits_ok {i : Int} (h : i.natAbs < 2 ^ 2000) : Builtin.Int.intBits i ≤ 2001 := by
  unfold Builtin.Int.intBits
  have := log2_small (k := 1999) h
  split <;> omega
theorem cpow_ok {i j : Int} (h : i.natAbs < 2 ^ 2000) (h0 : 0 ≤ j) (h1 : j ≤ 1000) : CPowW i j := ⟨h0, by
  have hb : (Builtin.Int.intBits i : Int) ≤ 2001 := by have := bits_ok h; omega
  have := Int.mul_le_mul hb h1 h0 (by decide)
  exact Int.le_trans this (by decide)⟩
theorem abs_lt {i : Int} {B : Nat} (h1 : -(B : Int) ≤ i) (h2 : i ≤ (B : Int)) (hB : B < 2 ^ 2000) : i.natAbs < 2 ^ 2000 := by
  have : i.natAbs ≤ B := by omega
  exact Nat.lt_of_le_of_lt this hB
theorem sq_mono {K : PySem.W.Frag} {H H' : Hp} {a : Addr} {xs : List V} (h : SqL K H a xs) (e : Ex H H') : SqL K H' a xs := by
  rcases h with (h | ⟨o, h⟩) | h
  · exact .inl (.inl (e _ _ h))
  · exact .inl (.inr ⟨o, e _ _ h⟩)
  · exact .inr h
theorem atD_pick {ds : List PyData} {z : Int} (h0 : 0 ≤ z) (h1 : z < ds.length) : ∃ d, atD ds z = some d ∧ d ∈ ds := by
  obtain ⟨n, rfl⟩ : ∃ n : Nat, z = n := ⟨z.toNat, by omega⟩
  have hz : n < ds.length := by omega
  exact ⟨ds[n], by unfold atD; exact atI_nat (List.getElem?_eq_getElem hz), List.getElem_mem hz⟩
section
variable {X : Cx} {Γ : Gam} {ω : Ow} {e : Expr}
theorem de_someI {P : PyData → Ow → Prop} {Q : Int → Prop} (h : DE X e Γ ω fun d ω' => (∃ z, d = .int z ∧ Q z) ∧ ω' = ω) (p : ∀ z, Q z → P (.int z) ω) : DE X e Γ ω P := h.mono fun d ω' ⟨⟨z, h1, h2⟩, h3⟩ => by rw [h1, h3]; exact p z h2
end
section
variable {P : Program} {w : World} {K : PySem.W.Frag} {mg : Str → Option Value} {base : Heap}
abbrev sReel : Stmt := top 37
theorem scReel : FnScope ["_law_script", "_law_index", "_law_mixed", "_law_cell"] ["_law_script", "_law_index"] (defScope sReel) := ⟨rfl, rfl, rfl, by decide +kernel, rfl, by decide +kernel, by decide +kernel⟩
def spReel (K : PySem.W.Frag) : Sp := fun vs H Q _ => ∃ (a : Addr) (ns : List Int) (i : Nat), vs = [.ref a, .int i] ∧ SqL K H a (ns.map V.int) ∧ i ≤ 1 ∧ ns.length ≤ 1000 ∧
  ∀ (p : Addr) (H' : Hp) (x y : Int), Ex H H' → H p = none → H' p = some (.lst [.int x, .int y, .int 0]) → 0 ≤ y → y < reelB → Q (.ref p) H'
theorem ok_reel {f : Addr} {fd : FuncData} (T : Txt mg) (F : Fun K "_law_reel" "_law_reel" sReel f fd) : FnOk P w K mg base CX0 1 f fd ["_law_script", "_law_index"] (spReel K) := by
  have sc := scReel
  refine F.ok sc (fun vs H Q E h => by obtain ⟨a, ns, i, rfl, _⟩ := h; rfl) (fun cdv A outer s H vs Q E hr h => ?_)
  obtain ⟨a, ns, i, rfl, hS, hi, hlen, q⟩ := h
  refine ⟨_, pss_we, ?_⟩
  have S0 : SD ⟨H, H⟩ H H (start ["_law_script", "_law_index", "_law_mixed", "_law_cell"] [.ref a, .int i]) (startG ["_law_script", "_law_index", "_law_mixed", "_law_cell"] [.scr K ns, .dat (.int i)]) ow0 := sd_start rfl (fun j t e => by
    rcases j with _ | _ | j
    · have e' : Slot.scr K ns = t := by simpa using e
      subst e'
      exact ⟨_, rfl, a, rfl, fun G' ex => sq_mono hS ex⟩
    · have e' : Slot.dat (.int i) = t := by simpa using e
      subst e'
      exact ⟨_, rfl, .int _⟩
    · simp at e) (Ex.refl _) (fun _ _ e => e) (fun _ _ e => by cases e)
  refine dss_stepE S0 ?_
  refine ds_set (i := 2) sc.nd rfl (.inl rfl) ⟨_, rfl⟩ ?_
  refine de_add ?_
  refine de_int ?_
  refine de_mul ?_
  refine de_int ?_
  refine de_name (i := 1) rfl (.inl rfl) rfl ?_
  refine ⟨_, _, rfl, rfl, cmul_ok (by decide) (abs_lt (B := 1) (by omega) (by omega) (by decide)), ?_⟩
  refine ⟨_, _, rfl, rfl, ?_⟩
  intro σ1 G1 H1 S1
  refine dss_stepE S1 ?_
  refine ds_forS .never rfl rfl (i := 0) rfl (.inl rfl) rfl ⟨fun k Γ ω => ∃ (m : Int) (o3 : Option Slot), Γ = [some (.scr K ns), some (.dat (.int i)), some (.dat (.int m)), o3] ∧ ω = ow0 ∧ 0 ≤ m ∧ m < reelB, ⟨70051 + 61 * (i : Int), none, rfl, rfl, by omega, by unfold reelB; omega⟩, ?_, ?_⟩
  · rintro k z Γ ω hk ⟨m, o3, rfl, rfl, hm0, hm1⟩
    refine dg_name (i := 3) sc.nd rfl (.inl rfl) ⟨_, rfl⟩ ?_
    refine dss_one ?_
    refine ds_set (i := 2) sc.nd rfl (.inl rfl) ⟨_, rfl⟩ ?_
    refine de_mod ?_
    refine de_intI rfl T.int ?_
    refine de_add ?_
    refine de_mul ?_
    refine de_name (i := 2) rfl (.inl rfl) rfl ?_
    refine de_int ?_
    refine ⟨_, _, rfl, rfl, cmul_ok (abs_lt (B := 10 ^ 43) (by omega) (by unfold reelB at hm1; omega) (by decide)) (by decide), ?_⟩
    refine de_mod ?_
    refine de_intI rfl T.int ?_
    refine de_name (i := 3) rfl (.inl rfl) rfl ?_
    refine .inl ⟨_, rfl, ?_⟩
    refine de_add ?_
    refine de_pow ?_
    refine de_int ?_
    refine de_int ?_
    refine ⟨_, _, rfl, rfl, cpow_ok (by decide) (by decide) (by decide), ?_⟩
    refine de_int ?_
    refine ⟨_, _, rfl, rfl, ?_⟩
    refine ⟨_, _, rfl, rfl, (by decide), ?_⟩
    refine ⟨_, _, rfl, rfl, ?_⟩
    refine .inl ⟨_, rfl, ?_⟩
    refine de_add ?_
    refine de_pow ?_
    refine de_int ?_
    refine de_int ?_
    refine ⟨_, _, rfl, rfl, cpow_ok (by decide) (by decide) (by decide), ?_⟩
    refine de_int ?_
    refine ⟨_, _, rfl, rfl, ?_⟩
    refine ⟨_, _, rfl, rfl, (by decide), ?_⟩
    refine ⟨_, _, rfl, rfl, Int.emod_nonneg _ (by decide), Int.lt_trans (Int.emod_lt_of_pos _ (by decide)) (by unfold reelB; decide)⟩
  rintro Γ ω ⟨m, o3, rfl, rfl, hm0, hm1⟩ σ2 G2 H2 S2
  refine dss_stepE S2 ?_
  refine ds_set (i := 3) sc.nd rfl (.inl rfl) ⟨_, rfl⟩ ?_
  refine de_someI (Q := fun _ => True) ?_ ?_
  · refine de_if ?_
    refine dt_cmp ?_
    refine dc_lt ?_
    refine de_name (i := 1) rfl (.inl rfl) rfl ?_
    refine de_scrLen rfl rfl T.len (i := 0) rfl (.inl rfl) rfl ?_
    refine ⟨_, _, rfl, rfl, ?_⟩
    refine ⟨_, rfl, ?_⟩
    refine ite2 (fun hlt => ?_) (fun hlt => ?_)
    · refine de_abs rfl T.abs ?_
      refine de_scrIx rfl (i := 0) rfl (.inl rfl) rfl ?_
      refine de_name (i := 1) rfl (.inl rfl) rfl ?_
      have hil : i < ns.length := by have := of_decide_eq_true hlt; omega
      refine ⟨i, ns[i], rfl, List.getElem?_eq_getElem hil, ?_⟩
      refine ⟨_, rfl, ?_⟩
      exact ⟨⟨_, rfl, trivial⟩, rfl⟩
    · refine de_int ?_
      exact ⟨⟨_, rfl, trivial⟩, rfl⟩
  intro z _ σ3 G3 H3 S3
  refine wss_of (pss_one ps_we) (ws_of (ps_ret pe_we) ?_)
  have hNL : NL (cxOf CX0 P w K mg base ["_law_script", "_law_index", "_law_mixed", "_law_cell"] "_law_reel" (defScope sReel) f cdv A outer s H E).nox (match (defBody sReel).getD 3 (.Pass ⟨0, 0, 0, 0⟩) with | .Return (some e) _ => e | _ => .Constant .none 0 ⟨0, 0, 0, 0⟩) [some (.scr K ns), some (.dat (.int i)), some (.dat (.int m)), some (.dat (.int z))] ow0 (fun ds _ => ∃ x : Int, ds = [.int x, .int m, .int 0]) := by
    refine nl_lst ?_
    refine da_cons ?_
    refine de_max2 rfl rfl T.max ?_
    refine de_int ?_
    refine de_sub ?_
    refine de_name (i := 3) rfl (.inl rfl) rfl ?_
    refine de_pow ?_
    refine de_int ?_
    refine de_int ?_
    refine ⟨_, _, rfl, rfl, cpow_ok (by decide) (by decide) (by decide), ?_⟩
    refine ⟨_, _, rfl, rfl, ?_⟩
    refine ⟨_, _, rfl, rfl, ?_⟩
    refine da_cons ?_
    refine de_name (i := 2) rfl (.inl rfl) rfl ?_
    refine da_cons ?_
    refine de_int ?_
    refine da_nil ?_
    exact ⟨by simp only [List.length_cons, List.length_nil]; decide, _, rfl⟩
  refine hNL ⟨H, H⟩ σ3 G3 H3 S3 _ fun ds p xs G4 H4 ω4 h4 S4 e4 hp hd => ?_
  obtain ⟨x, rfl⟩ := h4
  have ex : xs = [.int x, .int m, .int 0] := by
    cases hd with
    | cons a1 b1 =>
      cases a1
      cases b1 with
      | cons a2 b2 =>
        cases a2
        cases b2 with
        | cons a3 b3 =>
          cases a3
          cases b3
          rfl
  subst ex
  exact q p _ x m (fun b u e => by rw [upd_ne (ne_of_none (S4.kept b u e) hp)]; exact S4.kept b u e) (S4.free hp).2.2 upd_same hm0 hm1
abbrev sSpin : Stmt := top 38
theorem scSpin : FnScope ["_law_reel_here", "_law_size", "_law_digit", "_law_wide"] ["_law_reel_here", "_law_size"] (defScope sSpin) := ⟨rfl, rfl, rfl, by decide +kernel, rfl, by decide +kernel, by decide +kernel⟩
def rSpin : List PyData → Nat → (PyData → Prop) → Prop := fun ds m Pd => ∃ size : Int, ds = [.int size] ∧ 0 < size ∧ size ≤ 10 ^ 30 ∧ m = 1 ∧ Pd = fun d => ∃ z : Int, d = .int z ∧ 0 ≤ z ∧ z < size
theorem ok_spin {f : Addr} {fd : FuncData} (T : Txt mg) (F : Fun K "_law_spin" "_law_spin" sSpin f fd) : FnOk P w K mg base CX0 1 f fd ["_law_reel_here", "_law_size"] (spR rSpin) := by
  have sc := scSpin
  refine fnR F scSpin (by rintro ds m Pd ⟨size, rfl, _, _, rfl, rfl⟩; rfl) (fun cdv A outer s H E hr ds m Pd r n h hlim => ?_)
  obtain ⟨size, rfl, h0, h30, rfl, rfl⟩ := h
  refine dss_cons ?_
  refine ds_if ?_
  refine dt_cmp ?_
  refine dc_gt ?_
  refine de_reel0 (i := 0) rfl (.inl rfl) rfl setO_same ?_
  intro a1
  refine de_int ?_
  refine ⟨_, _, rfl, rfl, ?_⟩
  refine ⟨_, rfl, ?_⟩
  refine ite2 (fun h => ?_) (fun h => ?_)
  · skip
    refine dss_cons ?_
    refine ds_set (i := 2) sc.nd rfl (.inl rfl) ⟨_, rfl⟩ ?_
    refine de_mod ?_
    refine de_intI rfl T.int ?_
    refine de_reel0 (i := 0) rfl (.inl rfl) rfl setO_same ?_
    intro a2
    refine .inl ⟨_, rfl, ?_⟩
    refine de_name (i := 1) rfl (.inl rfl) rfl ?_
    refine ⟨_, _, rfl, rfl, h0, ?_⟩
    refine dss_cons ?_
    refine ds_reel (i := 0) (jj := 0) (m := n) rfl (.inl rfl) rfl rfl ?_
    refine de_fdiv ?_
    refine de_reel0 (i := 0) rfl (.inl rfl) rfl setO_same ?_
    intro a3
    refine de_name (i := 1) rfl (.inl rfl) rfl ?_
    refine ⟨_, _, rfl, rfl, cdiv_ok h0 (abs_lt (B := 10 ^ 30) (by omega) (by omega) (by decide)), ?_⟩
    refine ⟨_, _, rfl, setO_same, fun a b c e1 e2 e3 e4 => ⟨_, b, c, rfl, e1, e2, e3, e4⟩, ?_⟩
    refine dss_one ?_
    refine ds_ret ?_
    refine de_name (i := 2) rfl (.inl rfl) rfl ?_
    exact ⟨⟨_, rfl, Int.emod_nonneg _ (by omega), Int.emod_lt_of_pos _ h0⟩, n, by omega, setO_same⟩
  · skip
    refine dss_nil ?_
    refine dss_cons ?_
    refine ds_reel (i := 0) (jj := 2) (m := n + 1) rfl (.inl rfl) rfl rfl ?_
    refine de_add ?_
    refine de_reel2 (i := 0) rfl (.inl rfl) rfl setO_same ?_
    intro c4 hc4 hcc4
    refine de_int ?_
    refine ⟨_, _, rfl, rfl, ?_⟩
    refine ⟨_, _, rfl, setO_same, fun a b c e1 e2 e3 e4 => ⟨a, b, _, rfl, e1, e2, by omega, by omega⟩, ?_⟩
    refine dss_cons ?_
    refine ds_set (i := 3) sc.nd rfl (.inl rfl) ⟨_, rfl⟩ ?_
    refine de_mod ?_
    refine de_intI rfl T.int ?_
    refine de_pow ?_
    refine de_add ?_
    refine de_reel1 (i := 0) rfl (.inl rfl) rfl setO_same ?_
    intro b5 hb5 hbb5
    refine de_mul ?_
    refine de_int ?_
    refine de_reel2 (i := 0) rfl (.inl rfl) rfl setO_same ?_
    intro c6 hc6 hcc6
    refine ⟨_, _, rfl, rfl, cmul_ok (by decide) (abs_lt (B := 10 ^ 10) (by omega) (by unfold LIM at hlim; omega) (by decide)), ?_⟩
    refine ⟨_, _, rfl, rfl, ?_⟩
    refine de_int ?_
    refine ⟨_, _, rfl, rfl, cpow_ok (abs_lt (B := 10 ^ 45) (by omega) (by unfold LIM at hlim; unfold reelB at *; omega) (by decide)) (by decide) (by decide), ?_⟩
    refine .inl ⟨_, rfl, ?_⟩
    refine de_add ?_
    refine de_pow ?_
    refine de_int ?_
    refine de_int ?_
    refine ⟨_, _, rfl, rfl, cpow_ok (by decide) (by decide) (by decide), ?_⟩
    refine de_int ?_
    refine ⟨_, _, rfl, rfl, ?_⟩
    refine ⟨_, _, rfl, rfl, (by decide), ?_⟩
    obtain ⟨w1, hw1, hw0, hw2⟩ : ∃ w1 : Int, w1 = _ % ((10 : Int) ^ (44 : Int).toNat + 31) ∧ 0 ≤ w1 ∧ w1 < 10 ^ 45 := ⟨_, rfl, Int.emod_nonneg _ (by decide), Int.lt_trans (Int.emod_lt_of_pos _ (by decide)) (by decide)⟩
    rw [← hw1]
    refine dss_cons ?_
    refine ds_set (i := 3) sc.nd rfl (.inl rfl) ⟨_, rfl⟩ ?_
    refine de_mod ?_
    refine de_intI rfl T.int ?_
    refine de_pow ?_
    refine de_add ?_
    refine de_name (i := 3) rfl (.inl rfl) rfl ?_
    refine de_mul ?_
    refine de_int ?_
    refine de_reel2 (i := 0) rfl (.inl rfl) rfl setO_same ?_
    intro c7 hc7 hcc7
    refine ⟨_, _, rfl, rfl, cmul_ok (by decide) (abs_lt (B := 10 ^ 10) (by omega) (by unfold LIM at hlim; omega) (by decide)), ?_⟩
    refine ⟨_, _, rfl, rfl, ?_⟩
    refine de_int ?_
    refine ⟨_, _, rfl, rfl, cpow_ok (abs_lt (B := 10 ^ 46) (by omega) (by unfold LIM at hlim; omega) (by decide)) (by decide) (by decide), ?_⟩
    refine .inl ⟨_, rfl, ?_⟩
    refine de_add ?_
    refine de_pow ?_
    refine de_int ?_
    refine de_int ?_
    refine ⟨_, _, rfl, rfl, cpow_ok (by decide) (by decide) (by decide), ?_⟩
    refine de_int ?_
    refine ⟨_, _, rfl, rfl, ?_⟩
    refine ⟨_, _, rfl, rfl, (by decide), ?_⟩
    refine dss_one ?_
    refine ds_ret ?_
    refine de_mod ?_
    refine de_intI rfl T.int ?_
    refine de_fdiv ?_
    refine de_name (i := 3) rfl (.inl rfl) rfl ?_
    refine de_int ?_
    refine ⟨_, _, rfl, rfl, cdiv_ok (by decide) (by decide), ?_⟩
    refine .inl ⟨_, rfl, ?_⟩
    refine de_name (i := 1) rfl (.inl rfl) rfl ?_
    refine ⟨_, _, rfl, rfl, h0, ?_⟩
    exact ⟨⟨_, rfl, Int.emod_nonneg _ (by omega), Int.emod_lt_of_pos _ h0⟩, n + 1, Nat.le_refl _, setO_same⟩
end
end K20
set_option maxRecDepth 100000
set_option maxHeartbeats 4000000
namespace K20
open PySem PySem.Spec PyProof.Rows L2 Evl TC
def bnd (B z : Int) : Prop := -B ≤ z ∧ z ≤ B
def plOk (p : Pl) : Prop := bnd 1000000000 p.1 ∧ bnd 1000000000 p.2
theorem setO_old {ω : Ow} {p r : Addr} {c c' : OC} (hp : ω p = none) (hr : ω r = some c') : setO ω p c r = some c' := by
  rw [setO_ne (fun z => by rw [z] at hr; rw [hp] at hr; cases hr)]; exact hr
theorem ne_own {ω : Ow} {p r : Addr} {c' : OC} (hp : ω p = none) (hr : ω r = some c') : p ≠ r := fun z => by rw [z, hr] at hp; cases hp
theorem e9 : (10 : Int) ^ (9 : Int).toNat = 1000000000 := by decide
theorem atD_int {ss : List Int} {z : Int} (h0 : 0 ≤ z) (h1 : z < ss.length) : ∃ s, atD (ss.map PyData.int) z = some (.int s) ∧ s ∈ ss := by
  obtain ⟨d, h2, h3⟩ := atD_pick (ds := ss.map PyData.int) h0 (by rw [List.length_map]; exact h1)
  obtain ⟨s, hs, rfl⟩ := List.mem_map.mp h3
  exact ⟨s, h2, hs⟩
theorem two_ints {acc : List PyData} {Q : Int → Prop} (h : acc.length = 2) (k : ∀ d ∈ acc, ∃ z, d = .int z ∧ Q z) : ∃ x y, acc = [.int x, .int y] ∧ Q x ∧ Q y := by
  match acc, h with
  | [a, b], _ =>
    obtain ⟨x, rfl, hx⟩ := k a List.mem_cons_self
    obtain ⟨y, rfl, hy⟩ := k b (List.mem_cons_of_mem _ List.mem_cons_self)
    exact ⟨x, y, rfl, hx, hy⟩
theorem snoc_ints {acc : List PyData} {Q : Int → Prop} {z : Int} (k : ∀ d ∈ acc, ∃ z, d = PyData.int z ∧ Q z) (hz : Q z) : ∀ d ∈ acc ++ [.int z], ∃ z, d = PyData.int z ∧ Q z := fun d hd => by
  rcases List.mem_append.mp hd with h | h
  · exact k d h
  · exact ⟨z, List.mem_singleton.mp h, hz⟩
section
variable {P : Program} {w : World} {K : PySem.W.Frag} {mg : Str → Option Value} {base : Heap}
abbrev sStart : Stmt := top 41
theorem scStart : FnScope ["_law_reel_here", "_law_part"] ["_law_reel_here"] (defScope sStart) := ⟨rfl, rfl, rfl, by decide +kernel, rfl, by decide +kernel, by decide +kernel⟩
def rStart : List PyData → Nat → (PyData → Prop) → Prop := fun ds m Pd => ds = [] ∧ m = 3 ∧ Pd = fun d => ∃ p : Pl, d = plD p ∧ plOk p
theorem ok_start {f : Addr} {fd : FuncData} (T : Txt mg) (C_law_spin : Cal P w K mg base 1 "_law_spin" (spR rSpin)) (F : Fun K "_law_start" "_law_start" sStart f fd) : FnOk P w K mg base CX0 2 f fd ["_law_reel_here"] (spR rStart) := by
  have sc := scStart
  refine fnR F scStart (by rintro ds m Pd ⟨rfl, rfl, rfl⟩; rfl) (fun cdv A outer s H E hr ds m Pd r n h hlim => ?_)
  obtain ⟨rfl, rfl, rfl⟩ := h
  refine dss_cons ?_
  refine ds_if ?_
  refine dt_cmp ?_
  refine dc_eqI ?_
  refine de_callR C_law_spin (hr.mono (by decide)) rfl (i := 0) rfl (.inr (.inl rfl)) rfl ?_
  refine da_cons ?_
  refine de_int ?_
  refine da_nil ?_
  refine ⟨_, 1, _, setO_same, ⟨_, rfl, (by decide), (by decide), rfl, rfl⟩, by omega, fun d1 hd1 => ?_⟩
  obtain ⟨z1, rfl, zl1, zu1⟩ := hd1
  refine de_int ?_
  refine ⟨_, _, rfl, rfl, ?_⟩
  refine ⟨_, rfl, ?_⟩
  refine ite2 (fun h => ?_) (fun h => ?_)
  · skip
    refine dss_one ?_
    refine ds_ret ?_
    refine de_tupleL rfl T.tuple ?_
    refine de_lcR (own := [("_law_part", 1)]) rfl sc.nd (blkOk_by (own := [("_law_part", 1)]) (N := ["_law_reel_here", "_law_part"]) (sc := defScope sStart) (by decide +kernel)) (by decide) rfl T.range ?_
    refine de_int ?_
    refine ⟨2, rfl, by decide, by decide, fun i acc ω' => ω' r = some (.reel (n + 1 + i)) ∧ acc.length = i ∧ ∀ d ∈ acc, ∃ z, d = PyData.int z ∧ bnd 1000000000 z, ⟨setO_same, rfl, fun _ h => nomatch h⟩, ?_, ?_⟩
    · rintro i acc ω' hi ⟨hom, hl, hq⟩
      refine t1_name (i := 1) sc.nd rfl rfl ⟨_, rfl⟩ (by decide) fun s0 H0 C0 cl0 fp0 => ?_
      refine de_mul ?_
      refine de_pow ?_
      refine de_int ?_
      refine de_int ?_
      refine ⟨_, _, rfl, rfl, cpow_ok (by decide) (by decide) (by decide), ?_⟩
      refine de_sub ?_
      refine de_callR C_law_spin (hr.mono (by decide)) rfl (i := 0) rfl (.inr (.inl rfl)) rfl ?_
      refine da_cons ?_
      refine de_int ?_
      refine da_nil ?_
      refine ⟨_, 1, _, hom, ⟨_, rfl, (by decide), (by decide), rfl, rfl⟩, by omega, fun d11 hd11 => ?_⟩
      obtain ⟨z11, rfl, zl11, zu11⟩ := hd11
      refine de_int ?_
      refine ⟨_, _, rfl, rfl, ?_⟩
      refine ⟨_, _, rfl, rfl, cmul_ok (by decide) (abs_lt (B := 5) (by omega) (by omega) (by decide)), ?_⟩
      rw [e9]
      exact ⟨setO_same, by rw [List.length_append, hl]; rfl, snoc_ints hq ⟨by omega, by omega⟩⟩
    rintro acc ω' ⟨hom, hl, hq⟩
    refine ⟨_, rfl, ?_⟩
    obtain ⟨x, y, rfl, hx, hy⟩ := two_ints hl hq
    exact ⟨⟨(x, y), rfl, hx, hy⟩, _, by omega, hom⟩
  · skip
    refine dss_nil ?_
    refine dss_one ?_
    refine ds_ret ?_
    refine de_tup ?_
    refine da_cons ?_
    refine de_sub ?_
    refine de_callR C_law_spin (hr.mono (by decide)) rfl (i := 0) rfl (.inr (.inl rfl)) rfl ?_
    refine da_cons ?_
    refine de_int ?_
    refine da_nil ?_
    refine ⟨_, 1, _, setO_same, ⟨_, rfl, (by decide), (by decide), rfl, rfl⟩, by omega, fun d2 hd2 => ?_⟩
    obtain ⟨z2, rfl, zl2, zu2⟩ := hd2
    refine de_int ?_
    refine ⟨_, _, rfl, rfl, ?_⟩
    refine da_cons ?_
    refine de_sub ?_
    refine de_callR C_law_spin (hr.mono (by decide)) rfl (i := 0) rfl (.inr (.inl rfl)) rfl ?_
    refine da_cons ?_
    refine de_int ?_
    refine da_nil ?_
    refine ⟨_, 1, _, setO_same, ⟨_, rfl, (by decide), (by decide), rfl, rfl⟩, by omega, fun d3 hd3 => ?_⟩
    obtain ⟨z3, rfl, zl3, zu3⟩ := hd3
    refine de_int ?_
    refine ⟨_, _, rfl, rfl, ?_⟩
    refine da_nil ?_
    refine ⟨(by simp only [List.length_cons, List.length_nil]; decide), ?_⟩
    exact ⟨⟨(z2 - 30, z3 - 30), rfl, ⟨by omega, by omega⟩, by omega, by omega⟩, n + 1 + 1 + 1, by omega, setO_same⟩
abbrev sNear : Stmt := top 42
theorem scNear : FnScope ["_law_reel_here", "_law_place", "_law_steps", "_law_found", "_law_way", "_law_part", "_law_by"] ["_law_reel_here", "_law_place", "_law_steps"] (defScope sNear) := ⟨rfl, rfl, rfl, by decide +kernel, rfl, by decide +kernel, by decide +kernel⟩
def rNear : List PyData → Nat → (PyData → Prop) → Prop := fun ds m Pd => ∃ (p0 : Pl) (ss : List Int), ds = [plD p0, .list (ss.map .int)] ∧ plOk p0 ∧ ss ≠ [] ∧ ss.length ≤ 1000 ∧ (∀ s ∈ ss, bnd 10000000000 s) ∧ m = 5 ∧ Pd = fun d => ∃ p : Pl, d = plD p ∧ plOk p
theorem ok_near {f : Addr} {fd : FuncData} (T : Txt mg) (C_law_spin : Cal P w K mg base 1 "_law_spin" (spR rSpin)) (F : Fun K "_law_near" "_law_near" sNear f fd) : FnOk P w K mg base CX0 2 f fd ["_law_reel_here", "_law_place", "_law_steps"] (spR rNear) := by
  have sc := scNear
  refine fnR F scNear (by rintro ds m Pd ⟨p0, ss, rfl, _, _, _, _, rfl, rfl⟩; rfl) (fun cdv A outer s H E hr ds m Pd r n h hlim => ?_)
  obtain ⟨p0, ss, rfl, hp0, hss, hsl, hsb, rfl, rfl⟩ := h
  have hs0 : 0 < ss.length := List.length_pos_iff.mpr hss
  refine dss_cons ?_
  refine ds_parO1 (i := 3) (j := 4) rfl sc.nd rfl rfl (by decide) rfl rfl ⟨_, rfl⟩ ⟨_, rfl⟩ ?_
  refine nl_lst (da_nil ⟨by decide, fun p hp => ?_⟩)
  have hpr : p ≠ r := ne_own hp setO_same
  refine de_callR C_law_spin (hr.mono (by decide)) rfl (i := 0) rfl (.inl rfl) rfl ?_
  refine da_cons ?_
  refine de_int ?_
  refine da_nil ?_
  refine ⟨_, 1, _, setO_old hp setO_same, ⟨_, rfl, (by decide), (by decide), rfl, rfl⟩, by omega, fun d1 hd1 => ?_⟩
  obtain ⟨z1, rfl, zl1, zu1⟩ := hd1
  refine dss_cons ?_
  refine ds_forR1 .never rfl rfl T.range ?_
  refine de_int ?_
  refine ⟨2, rfl, by decide, by decide, fun i Γ ω => ∃ (o5 o6 : Option Slot) (acc : List PyData), Γ = [some (.own r), some (.dat (plD p0)), some (.dat (.list (ss.map PyData.int))), some (.own p), some (.dat (.int z1)), o5, o6] ∧ ω r = some (.reel (n + 1 + 2 * i)) ∧ ω p = some (.lst acc) ∧ acc.length = i ∧ ∀ d ∈ acc, ∃ z, d = PyData.int z ∧ bnd 1000000000 z, ⟨none, none, [], rfl, setO_same, (setO_ne hpr).trans setO_same, rfl, fun _ h => nomatch h⟩, ?_, ?_⟩
  · rintro i Γ ω hi ⟨o5, o6, acc, rfl, hr1, hp1, hl, hq⟩
    refine dg_name (i := 5) sc.nd rfl (.inl rfl) ⟨_, rfl⟩ ?_
    refine dss_cons ?_
    refine ds_set (i := 6) sc.nd rfl (.inl rfl) ⟨_, rfl⟩ ?_
    refine de_mul ?_
    refine de_ix ?_
    refine de_name (i := 2) rfl (.inl rfl) rfl ?_
    refine de_callR C_law_spin (hr.mono (by decide)) rfl (i := 0) rfl (.inl rfl) rfl ?_
    refine da_cons ?_
    refine de_len rfl T.len ?_
    refine de_name (i := 2) rfl (.inl rfl) rfl ?_
    refine ⟨_, .inl rfl, ?_⟩
    rw [List.length_map]
    refine da_nil ?_
    refine ⟨_, 1, _, hr1, ⟨_, rfl, (by omega), (by omega), rfl, rfl⟩, by omega, fun d2 hd2 => ?_⟩
    obtain ⟨z2, rfl, zl2, zu2⟩ := hd2
    refine ⟨_, _, _, .inl rfl, rfl, (atD_int zl2 zu2).choose_spec.1, ?_⟩
    obtain ⟨s1, hs1, hs2⟩ : ∃ s1, s1 = (atD_int zl2 zu2).choose ∧ bnd 10000000000 s1 := ⟨_, rfl, hsb _ (atD_int zl2 zu2).choose_spec.2⟩
    rw [← hs1]
    refine de_ix ?_
    refine de_lst ?_
    refine da_cons ?_
    refine de_int ?_
    refine da_cons ?_
    refine de_neg ?_
    refine de_int ?_
    refine ⟨_, rfl, ?_⟩
    refine da_nil ?_
    refine ⟨(by simp only [List.length_cons, List.length_nil]; decide), ?_⟩
    refine de_callR C_law_spin (hr.mono (by decide)) rfl (i := 0) rfl (.inl rfl) rfl ?_
    refine da_cons ?_
    refine de_int ?_
    refine da_nil ?_
    refine ⟨_, 1, _, setO_same, ⟨_, rfl, (by decide), (by decide), rfl, rfl⟩, by omega, fun d3 hd3 => ?_⟩
    obtain ⟨z3, rfl, zl3, zu3⟩ := hd3
    refine ⟨_, _, _, .inl rfl, rfl, (atD_int (ss := [1, -1]) zl3 zu3).choose_spec.1, ?_⟩
    obtain ⟨s3, hs3, hs4⟩ : ∃ s3, s3 = (atD_int (ss := [1, -1]) zl3 zu3).choose ∧ (s3 = 1 ∨ s3 = -1) := ⟨_, rfl, by have := (atD_int (ss := [1, -1]) zl3 zu3).choose_spec.2; simpa using this⟩
    rw [← hs3]
    refine ⟨_, _, rfl, rfl, cmul_ok (abs_lt (B := 10000000000) hs2.1 hs2.2 (by decide)) (abs_lt (B := 1) (by omega) (by omega) (by decide)), ?_⟩
    have hb : bnd 10000000000 (s1 * s3) := by
      obtain ⟨h1, h2⟩ := hs2
      rcases hs4 with rfl | rfl
      · rw [Int.mul_one]; exact ⟨h1, h2⟩
      · exact ⟨by omega, by omega⟩
    refine dss_cut (PL := fun Γ ω => ∃ b : Int, bnd 10000000000 b ∧ Γ = [some (.own r), some (.dat (plD p0)), some (.dat (.list (ss.map PyData.int))), some (.own p), some (.dat (.int z1)), some (.dat (.int (i : Int))), some (.dat (.int b))] ∧ ω r = some (.reel (n + 1 + 2 * i + 1 + 1)) ∧ ω p = some (.lst acc)) ?_ ?_
    · skip
      refine ds_if ?_
      refine dt_cmp ?_
      refine dc_eqI ?_
      refine de_name (i := 4) rfl (.inl rfl) rfl ?_
      refine de_sub ?_
      refine de_int ?_
      refine de_name (i := 5) rfl (.inl rfl) rfl ?_
      refine ⟨_, _, rfl, rfl, ?_⟩
      refine ⟨_, _, rfl, rfl, ?_⟩
      refine ⟨_, rfl, ?_⟩
      refine ite2 (fun h => ?_) (fun h => ?_)
      · skip
        refine dss_one ?_
        refine ds_set (i := 6) sc.nd rfl (.inl rfl) ⟨_, rfl⟩ ?_
        refine de_int ?_
        exact ⟨0, ⟨by decide, by decide⟩, rfl, setO_same, (setO_ne hpr).trans ((setO_ne hpr).trans hp1)⟩
      · skip
        refine dss_nil ?_
        exact ⟨_, hb, rfl, setO_same, (setO_ne hpr).trans ((setO_ne hpr).trans hp1)⟩
    · rintro Γ ω ⟨b, hb, rfl, hr2, hp2⟩
      refine dss_one ?_
      refine ds_append (i := 3) rfl (.inl rfl) rfl ?_ hp2
      refine de_max2 rfl rfl T.max ?_
      refine de_sub ?_
      refine de_int ?_
      refine de_pow ?_
      refine de_int ?_
      refine de_int ?_
      refine ⟨_, _, rfl, rfl, cpow_ok (by decide) (by decide) (by decide), ?_⟩
      refine ⟨_, _, rfl, rfl, ?_⟩
      refine de_min2 rfl rfl T.min ?_
      refine de_pow ?_
      refine de_int ?_
      refine de_int ?_
      refine ⟨_, _, rfl, rfl, cpow_ok (by decide) (by decide) (by decide), ?_⟩
      refine de_add ?_
      refine de_ix ?_
      refine de_name (i := 1) rfl (.inl rfl) rfl ?_
      refine de_name (i := 5) rfl (.inl rfl) rfl ?_
      refine ⟨_, _, _, .inr rfl, rfl, (atD_int (ss := [p0.1, p0.2]) (z := (i : Int)) (by omega) (by show (i : Int) < 2; omega)).choose_spec.1, ?_⟩
      obtain ⟨s5, hs5, hs6⟩ : ∃ s5, s5 = (atD_int (ss := [p0.1, p0.2]) (z := (i : Int)) (by omega) (by show (i : Int) < 2; omega)).choose ∧ bnd 1000000000 s5 := ⟨_, rfl, by
        have h7 := (atD_int (ss := [p0.1, p0.2]) (z := (i : Int)) (by omega) (by show (i : Int) < 2; omega)).choose_spec.2
        rcases List.mem_cons.mp h7 with h8 | h8
        · rw [h8]; exact hp0.1
        · rw [List.mem_singleton.mp h8]; exact hp0.2⟩
      rw [← hs5]
      refine de_name (i := 6) rfl (.inl rfl) rfl ?_
      refine ⟨_, _, rfl, rfl, ?_⟩
      refine ⟨_, _, rfl, rfl, ?_⟩
      refine ⟨_, _, rfl, rfl, ?_⟩
      refine ⟨_, hp2, by omega, ?_⟩
      rw [e9]
      have hfin : bnd 1000000000 (if (if s5 + b < 1000000000 then s5 + b else 1000000000) > 0 - 1000000000 then (if s5 + b < 1000000000 then s5 + b else 1000000000) else 0 - 1000000000) := by
        unfold bnd
        split <;> split <;> omega
      exact ⟨_, _, _, rfl, (setO_ne (Ne.symm hpr)).trans hr2, setO_same, by rw [List.length_append, hl]; rfl, snoc_ints hq hfin⟩
  · rintro Γ ω ⟨o5, o6, acc, rfl, hr1, hp1, hl, hq⟩
    refine dss_one ?_
    refine ds_ret ?_
    refine de_tupleL rfl T.tuple ?_
    refine de_own (i := 3) rfl (.inl rfl) rfl hp1 ?_
    refine ⟨_, rfl, ?_⟩
    obtain ⟨x, y, rfl, hx, hy⟩ := two_ints hl hq
    exact ⟨⟨(x, y), rfl, hx, hy⟩, _, by omega, (delO_ne (Ne.symm hpr)).trans hr1⟩
end
end K20
set_option maxRecDepth 100000
set_option maxHeartbeats 4000000
namespace K20
open PySem PySem.Spec PyProof.Rows L2 Evl TC
def wordsD : List PyData := [.str "tap", .str "taps", .str "long", .str "drag", .str "pinch", .str "touch"]
theorem words_in {d : PyData} (h : d ∈ wordsD) : ∃ x : Str, d = .str x ∧ (x = "tap" ∨ x = "taps" ∨ x = "long" ∨ x = "drag" ∨ x = "pinch" ∨ x = "touch") := by
  simp only [wordsD, List.mem_cons, List.not_mem_nil, or_false] at h
  rcases h with rfl | rfl | rfl | rfl | rfl | rfl
  · exact ⟨_, rfl, .inl rfl⟩
  · exact ⟨_, rfl, .inr (.inl rfl)⟩
  · exact ⟨_, rfl, .inr (.inr (.inl rfl))⟩
  · exact ⟨_, rfl, .inr (.inr (.inr (.inl rfl)))⟩
  · exact ⟨_, rfl, .inr (.inr (.inr (.inr (.inl rfl))))⟩
  · exact ⟨_, rfl, .inr (.inr (.inr (.inr (.inr rfl))))⟩
theorem axes_in {d : PyData} (h : d ∈ [PyData.str "x", .str "y", .str "any"]) : ∃ a : Axis, d = .str (axS a) := by
  simp only [List.mem_cons, List.not_mem_nil, or_false] at h
  rcases h with rfl | rfl | rfl
  · exact ⟨.x, rfl⟩
  · exact ⟨.y, rfl⟩
  · exact ⟨.any, rfl⟩
theorem pick3 {a b c z : Int} (h0 : 0 ≤ z) (h1 : z < 3) : ∃ s, atD [.int a, .int b, .int c] z = some (.int s) ∧ (s = a ∨ s = b ∨ s = c) := by
  obtain ⟨s, h2, h3⟩ := atD_int (ss := [a, b, c]) h0 h1
  exact ⟨s, h2, by simpa using h3⟩
section
variable {P : Program} {w : World} {K : PySem.W.Frag} {mg : Str → Option Value} {base : Heap}
abbrev sLKind : Stmt := top 39
theorem scLKind : FnScope ["_law_reel_here", "_law_words", "_law_top", "_law_word", "_law_time", "_law_gap", "_law_slop", "_law_turn"] ["_law_reel_here", "_law_words", "_law_top"] (defScope sLKind) := ⟨rfl, rfl, rfl, by decide +kernel, rfl, by decide +kernel, by decide +kernel⟩
def rLKind : List PyData → Nat → (PyData → Prop) → Prop := fun ds m Pd => ∃ top : Int, ds = [.list wordsD, .int top] ∧ 1 ≤ top ∧ top ≤ 1000000000 ∧ m = 8 ∧ Pd = fun d => ∃ k : TC.Kind, k.Ok ∧ d = kindD k
theorem ok_lkind {f : Addr} {fd : FuncData} (T : Txt mg) (C_law_spin : Cal P w K mg base 1 "_law_spin" (spR rSpin)) (F : Fun K "_law_kind" "_law_kind" sLKind f fd) : FnOk P w K mg base CX0 2 f fd ["_law_reel_here", "_law_words", "_law_top"] (spR rLKind) := by
  have sc := scLKind
  refine fnR F scLKind (by rintro ds m Pd ⟨top, rfl, _, _, rfl, rfl⟩; rfl) (fun cdv A outer s H E hr ds m Pd r n h hlim => ?_)
  obtain ⟨top, rfl, ht0, ht9, rfl, rfl⟩ := h
  refine dss_cons ?_
  refine ds_set (i := 3) sc.nd rfl (.inl rfl) ⟨_, rfl⟩ ?_
  refine de_ix ?_
  refine de_name (i := 1) rfl (.inl rfl) rfl ?_
  refine de_callR C_law_spin (hr.mono (by decide)) rfl (i := 0) rfl (.inr (.inl rfl)) rfl ?_
  refine da_cons ?_
  refine de_len rfl T.len ?_
  refine de_name (i := 1) rfl (.inl rfl) rfl ?_
  refine ⟨_, (by first | exact .inl rfl | exact .inr rfl), ?_⟩
  refine da_nil ?_
  refine ⟨_, 1, _, setO_same, ⟨_, rfl, (by show (0 : Int) < 6; decide), (by show (6 : Int) ≤ 10 ^ 30; decide), rfl, rfl⟩, by omega, fun d1 hd1 => ?_⟩
  obtain ⟨z1, rfl, zl1, zu1⟩ := hd1
  refine ⟨_, _, _, .inl rfl, rfl, (atD_pick zl1 zu1).choose_spec.1, ?_⟩
  obtain ⟨wd, hwd, hwm⟩ := words_in (atD_pick zl1 zu1).choose_spec.2
  rw [hwd]
  refine dss_cons ?_
  refine ds_asg ?_
  refine de_lcR (own := [("_law_turn", 7)]) rfl sc.nd (blkOk_by (own := [("_law_turn", 7)]) (N := ["_law_reel_here", "_law_words", "_law_top", "_law_word", "_law_time", "_law_gap", "_law_slop", "_law_turn"]) (sc := defScope sLKind) (by decide +kernel)) (by decide) rfl T.range ?_
  refine de_int ?_
  refine ⟨2, rfl, by decide, by decide, fun i acc ω' => ω' r = some (.reel (n + 1 + 2 * i)) ∧ acc.length = i ∧ ∀ d ∈ acc, ∃ z, d = PyData.int z ∧ (1 ≤ z ∧ z ≤ 1000000000), ⟨setO_same, rfl, fun _ h => nomatch h⟩, ?_, ?_⟩
  · rintro i acc ω' hi ⟨hom, hl, hq⟩
    refine t1_name (i := 7) sc.nd rfl rfl ⟨_, rfl⟩ (by decide) fun s0 H0 C0 cl0 fp0 => ?_
    refine de_add ?_
    refine de_int ?_
    refine de_callR C_law_spin (hr.mono (by decide)) rfl (i := 0) rfl (.inr (.inl rfl)) rfl ?_
    refine da_cons ?_
    refine de_ix ?_
    refine de_lst ?_
    refine da_cons ?_
    refine de_int ?_
    refine da_cons ?_
    refine de_int ?_
    refine da_cons ?_
    refine de_name (i := 2) rfl (.inr (.inl rfl)) rfl ?_
    refine da_nil ?_
    refine ⟨(by simp only [List.length_cons, List.length_nil]; decide), ?_⟩
    refine de_callR C_law_spin (hr.mono (by decide)) rfl (i := 0) rfl (.inr (.inl rfl)) rfl ?_
    refine da_cons ?_
    refine de_int ?_
    refine da_nil ?_
    refine ⟨_, 1, _, hom, ⟨_, rfl, (by decide), (by decide), rfl, rfl⟩, by omega, fun d12 hd12 => ?_⟩
    obtain ⟨z12, rfl, zl12, zu12⟩ := hd12
    refine ⟨_, _, _, .inl rfl, rfl, (pick3 zl12 zu12).choose_spec.1, ?_⟩
    obtain ⟨s1, hs1, qs1⟩ : ∃ s1, s1 = (pick3 zl12 zu12).choose ∧ (s1 = 6 ∨ s1 = 40 ∨ s1 = top) := ⟨_, rfl, (pick3 zl12 zu12).choose_spec.2⟩
    rw [← hs1]
    refine da_nil ?_
    refine ⟨_, 1, _, setO_same, ⟨_, rfl, (by omega), (by omega), rfl, rfl⟩, by omega, fun d11 hd11 => ?_⟩
    obtain ⟨z11, rfl, zl11, zu11⟩ := hd11
    refine ⟨_, _, rfl, rfl, ?_⟩
    exact ⟨setO_same, by rw [List.length_append, hl]; rfl, snoc_ints hq ⟨by omega, by omega⟩⟩
  rintro acc ω' ⟨hom, hl, hq⟩
  obtain ⟨t1, t2, rfl, ht1, ht2⟩ := two_ints hl hq
  refine dg_lst rfl rfl (dgs_cons (dg_name (i := 4) sc.nd rfl (.inl rfl) ⟨_, rfl⟩ (dgs_cons (dg_name (i := 5) sc.nd rfl (.inl rfl) ⟨_, rfl⟩ (dgs_nil ?_)))))
  refine dss_cons ?_
  refine ds_set (i := 6) sc.nd rfl (.inl rfl) ⟨_, rfl⟩ ?_
  refine de_callR C_law_spin (hr.mono (by decide)) rfl (i := 0) rfl (.inr (.inl rfl)) rfl ?_
  refine da_cons ?_
  refine de_ix ?_
  refine de_lst ?_
  refine da_cons ?_
  refine de_int ?_
  refine da_cons ?_
  refine de_int ?_
  refine da_cons ?_
  refine de_add ?_
  refine de_name (i := 2) rfl (.inr (.inl rfl)) rfl ?_
  refine de_int ?_
  refine ⟨_, _, rfl, rfl, ?_⟩
  refine da_nil ?_
  refine ⟨(by simp only [List.length_cons, List.length_nil]; decide), ?_⟩
  refine de_callR C_law_spin (hr.mono (by decide)) rfl (i := 0) rfl (.inr (.inl rfl)) rfl ?_
  refine da_cons ?_
  refine de_int ?_
  refine da_nil ?_
  refine ⟨_, 1, _, hom, ⟨_, rfl, (by decide), (by decide), rfl, rfl⟩, by omega, fun d3 hd3 => ?_⟩
  obtain ⟨z3, rfl, zl3, zu3⟩ := hd3
  refine ⟨_, _, _, .inl rfl, rfl, (pick3 zl3 zu3).choose_spec.1, ?_⟩
  obtain ⟨s2, hs2, qs2⟩ : ∃ s2, s2 = (pick3 zl3 zu3).choose ∧ (s2 = 3 ∨ s2 = 12 ∨ s2 = top + 1) := ⟨_, rfl, (pick3 zl3 zu3).choose_spec.2⟩
  rw [← hs2]
  refine da_nil ?_
  refine ⟨_, 1, _, setO_same, ⟨_, rfl, (by omega), (by omega), rfl, rfl⟩, by omega, fun d2 hd2 => ?_⟩
  obtain ⟨z2, rfl, zl2, zu2⟩ := hd2
  refine dss_cons ?_
  refine ds_if ?_
  refine dt_cmp ?_
  refine dc_eqT ?_
  refine de_name (i := 3) rfl (.inl rfl) rfl ?_
  refine de_str ?_
  refine ⟨_, _, rfl, rfl, ?_⟩
  refine ⟨_, rfl, ?_⟩
  refine ite2 (fun n1 => ?_) (fun n1 => ?_)
  · skip
    refine dss_one ?_
    refine ds_ret ?_
    refine de_tup ?_
    refine da_cons ?_
    refine de_str ?_
    refine da_cons ?_
    refine de_add ?_
    refine de_int ?_
    refine de_callR C_law_spin (hr.mono (by decide)) rfl (i := 0) rfl (.inr (.inl rfl)) rfl ?_
    refine da_cons ?_
    refine de_int ?_
    refine da_nil ?_
    refine ⟨_, 1, _, setO_same, ⟨_, rfl, (by decide), (by decide), rfl, rfl⟩, by omega, fun d4 hd4 => ?_⟩
    obtain ⟨z4, rfl, zl4, zu4⟩ := hd4
    refine ⟨_, _, rfl, rfl, ?_⟩
    refine da_cons ?_
    refine de_name (i := 4) rfl (.inl rfl) rfl ?_
    refine da_cons ?_
    refine de_name (i := 5) rfl (.inl rfl) rfl ?_
    refine da_cons ?_
    refine de_name (i := 6) rfl (.inl rfl) rfl ?_
    refine da_nil ?_
    refine ⟨(by simp only [List.length_cons, List.length_nil]; decide), ?_⟩
    exact ⟨⟨.taps (2 + z4) t1 t2 z2, ⟨by omega, by omega, by omega, by omega, by omega, by omega, by omega⟩, rfl⟩, _, by omega, setO_same⟩
  · skip
    refine dss_nil ?_
    refine dss_cons ?_
    refine ds_if ?_
    refine dt_cmp ?_
    refine dc_eqT ?_
    refine de_name (i := 3) rfl (.inl rfl) rfl ?_
    refine de_str ?_
    refine ⟨_, _, rfl, rfl, ?_⟩
    refine ⟨_, rfl, ?_⟩
    refine ite2 (fun n2 => ?_) (fun n2 => ?_)
    · skip
      refine dss_one ?_
      refine ds_ret ?_
      refine de_tup ?_
      refine da_cons ?_
      refine de_str ?_
      refine da_cons ?_
      refine de_ix ?_
      refine de_lst ?_
      refine da_cons ?_
      refine de_str ?_
      refine da_cons ?_
      refine de_str ?_
      refine da_cons ?_
      refine de_str ?_
      refine da_nil ?_
      refine ⟨(by simp only [List.length_cons, List.length_nil]; decide), ?_⟩
      refine de_callR C_law_spin (hr.mono (by decide)) rfl (i := 0) rfl (.inr (.inl rfl)) rfl ?_
      refine da_cons ?_
      refine de_int ?_
      refine da_nil ?_
      refine ⟨_, 1, _, setO_same, ⟨_, rfl, (by decide), (by decide), rfl, rfl⟩, by omega, fun d5 hd5 => ?_⟩
      obtain ⟨z5, rfl, zl5, zu5⟩ := hd5
      refine ⟨_, _, _, .inl rfl, rfl, (atD_pick (ds := [PyData.str "x", .str "y", .str "any"]) zl5 zu5).choose_spec.1, ?_⟩
      obtain ⟨a2, ha2⟩ := axes_in (atD_pick (ds := [PyData.str "x", .str "y", .str "any"]) zl5 zu5).choose_spec.2
      rw [ha2]
      refine da_cons ?_
      refine de_name (i := 6) rfl (.inl rfl) rfl ?_
      refine da_nil ?_
      refine ⟨(by simp only [List.length_cons, List.length_nil]; decide), ?_⟩
      exact ⟨⟨.drag a2 z2, ⟨by omega, by omega⟩, rfl⟩, _, by omega, setO_same⟩
    · skip
      refine dss_nil ?_
      refine dss_cons ?_
      refine ds_if ?_
      refine dt_cmp ?_
      refine dc_eqT ?_
      refine de_name (i := 3) rfl (.inl rfl) rfl ?_
      refine de_str ?_
      refine ⟨_, _, rfl, rfl, ?_⟩
      refine ⟨_, rfl, ?_⟩
      refine ite2 (fun n3 => ?_) (fun n3 => ?_)
      · skip
        refine dss_one ?_
        refine ds_ret ?_
        refine de_tup ?_
        refine da_cons ?_
        refine de_str ?_
        refine da_nil ?_
        refine ⟨(by simp only [List.length_cons, List.length_nil]; decide), ?_⟩
        exact ⟨⟨.touch, trivial, rfl⟩, _, by omega, setO_same⟩
      · skip
        refine dss_nil ?_
        refine dss_one ?_
        refine ds_ret ?_
        refine de_if ?_
        refine dt_cmp ?_
        refine dc_eqT ?_
        refine de_name (i := 3) rfl (.inl rfl) rfl ?_
        refine de_str ?_
        refine ⟨_, _, rfl, rfl, ?_⟩
        refine ⟨_, rfl, ?_⟩
        refine ite2 (fun n4 => ?_) (fun n4 => ?_)
        · skip
          refine de_tup ?_
          refine da_cons ?_
          refine de_str ?_
          refine da_cons ?_
          refine de_name (i := 6) rfl (.inl rfl) rfl ?_
          refine da_nil ?_
          refine ⟨(by simp only [List.length_cons, List.length_nil]; decide), ?_⟩
          exact ⟨⟨.pinch z2, ⟨by omega, by omega⟩, rfl⟩, _, by omega, setO_same⟩
        · skip
          refine de_tup ?_
          refine da_cons ?_
          refine de_name (i := 3) rfl (.inl rfl) rfl ?_
          refine da_cons ?_
          refine de_name (i := 4) rfl (.inl rfl) rfl ?_
          refine da_cons ?_
          refine de_name (i := 6) rfl (.inl rfl) rfl ?_
          refine da_nil ?_
          refine ⟨(by simp only [List.length_cons, List.length_nil]; decide), ?_⟩
          rcases hwm with rfl | rfl | rfl | rfl | rfl | rfl
          · exact ⟨⟨.tap t1 z2, ⟨by omega, by omega, by omega, by omega⟩, rfl⟩, _, by omega, setO_same⟩
          · exact absurd (by decide +kernel) n1
          · exact ⟨⟨.long t1 z2, ⟨by omega, by omega, by omega, by omega⟩, rfl⟩, _, by omega, setO_same⟩
          · exact absurd (by decide +kernel) n2
          · exact absurd (by decide +kernel) n4
          · exact absurd (by decide +kernel) n3
end
end K20
set_option maxRecDepth 100000
set_option maxHeartbeats 4000000
namespace K20
open PySem PySem.Spec PyProof.Rows L2 Evl TC
theorem sIx_last (n d : Nat) : HT.sIx n d (some (-1)) = n - 1 := by
  show (if (-1 : Int) < 0 then ((-1 : Int) + (n : Int)).toNat else min (-1 : Int).toNat n) = n - 1
  rw [if_pos (by decide)]
  omega
theorem cutD_init (ds : List PyData) : cutD ds none (some (-1)) = ds.dropLast := by
  unfold cutD
  rw [sIx_last, HT.sIx_none, List.dropLast_eq_take]; rfl
theorem cutD_last (ds : List PyData) : cutD ds (some (-1)) none = ds.drop (ds.length - 1) := by
  unfold cutD
  rw [sIx_last, HT.sIx_none]
  exact List.take_of_length_le (by rw [List.length_drop]; omega)
theorem cutD_tail {d : PyData} {ds : List PyData} : cutD (d :: ds) (some 1) none = ds := by
  rw [show (1 : Int) = ((1 : Nat) : Int) from rfl, cutD_drop (by simp)]; rfl
def notStr : PyData → Bool
  | .str _ => false
  | _ => true
def nums0 : TC.Kind → List Int
  | .touch => []
  | .tap t s => [t, s]
  | .taps c t g s => [c, t, g, s]
  | .long t s => [t, s]
  | .drag _ s => [s]
  | .pinch s => [s]
def numsK : TC.Kind → List Int
  | .touch => []
  | .tap t s => [t, s]
  | .taps _ t g s => [t, g, s]
  | .long t s => [t, s]
  | .drag _ s => [s]
  | .pinch s => [s]
theorem parts_nums (k : TC.Kind) : (partsK k).filter notStr = (nums0 k).map PyData.int := by cases k <;> rfl
theorem parts_str {k : TC.Kind} {d : PyData} (h : d ∈ partsK k) : kitB (tyD d) "str" = some (!notStr d) := by
  have e1 : ∀ z : Int, kitB (tyD (.int z)) "str" = some (!notStr (.int z)) := fun z => (by decide +kernel : kitB "int" "str" = some false)
  have e2 : ∀ a, kitB (tyD (.str (axS a))) "str" = some (!notStr (.str (axS a))) := fun a => (by decide +kernel : kitB "str" "str" = some true)
  cases k <;> simp only [partsK, List.mem_cons, List.not_mem_nil, or_false] at h
  · rcases h with rfl | rfl <;> exact e1 _
  · rcases h with rfl | rfl | rfl | rfl <;> exact e1 _
  · rcases h with rfl | rfl <;> exact e1 _
  · rcases h with rfl | rfl
    · exact e2 _
    · exact e1 _
  · rw [h]; exact e1 _
def up3 (n : Int) : List Int := [n - 1, n, n + 1]
def up2 (n : Int) : List Int := [n, n + 1]
def lastL (l : List Int) : List Int := l.drop (l.length - 1)
def gapsOf (ks : List TC.Kind) : List Int := [0, 1, 2] ++ ks.flatMap fun k => (numsK k).dropLast.flatMap up3
def stepsOf (ks : List TC.Kind) : List Int := [0, 1, 2] ++ ks.flatMap fun k => (lastL (numsK k)).flatMap up2
theorem nums_len (k : TC.Kind) : (numsK k).length ≤ 3 := by cases k <;> simp [numsK]
theorem nums0_len (k : TC.Kind) : (nums0 k).length ≤ 4 := by cases k <;> simp [nums0]
theorem flat_len {α β : Type} {g : α → List β} {B : Nat} (h : ∀ a, (g a).length ≤ B) : ∀ l : List α, (l.flatMap g).length ≤ B * l.length
  | [] => by simp
  | a :: l => by
    rw [List.flatMap_cons, List.length_append, List.length_cons, Nat.mul_succ]
    have := flat_len h l
    have := h a
    omega
theorem gaps_one (k : TC.Kind) (j : Nat) : (((numsK k).dropLast.take j).flatMap up3).length ≤ 9 := by
  have h1 := flat_len (g := up3) (B := 3) (fun _ => by simp [up3]) ((numsK k).dropLast.take j)
  have h2 := nums_len k
  rw [List.length_take, List.length_dropLast] at h1
  omega
theorem steps_one (k : TC.Kind) (j : Nat) : (((lastL (numsK k)).take j).flatMap up2).length ≤ 2 := by
  have h1 := flat_len (g := up2) (B := 2) (fun _ => by simp [up2]) ((lastL (numsK k)).take j)
  unfold lastL at *
  rw [List.length_take, List.length_drop] at h1
  omega
theorem gaps_len (ks : List TC.Kind) : (gapsOf ks).length ≤ 3 + 9 * ks.length := by
  unfold gapsOf
  rw [List.length_append]
  have := flat_len (g := fun k : TC.Kind => (numsK k).dropLast.flatMap up3) (B := 9) (fun k => by have := gaps_one k 1000; rwa [List.take_of_length_le (by have := nums_len k; rw [List.length_dropLast]; omega)] at this) ks
  simp only [List.length_cons, List.length_nil]; omega
theorem steps_len (ks : List TC.Kind) : (stepsOf ks).length ≤ 3 + 2 * ks.length := by
  unfold stepsOf
  rw [List.length_append]
  have := flat_len (g := fun k : TC.Kind => (lastL (numsK k)).flatMap up2) (B := 2) (fun k => by have := steps_one k 1000; rwa [List.take_of_length_le (by have := nums_len k; unfold lastL; rw [List.length_drop]; omega)] at this) ks
  simp only [List.length_cons, List.length_nil]; omega
theorem gaps_snoc (ks : List TC.Kind) (k : TC.Kind) : gapsOf (ks ++ [k]) = gapsOf ks ++ (numsK k).dropLast.flatMap up3 := by simp [gapsOf]
theorem steps_snoc (ks : List TC.Kind) (k : TC.Kind) : stepsOf (ks ++ [k]) = stepsOf ks ++ (lastL (numsK k)).flatMap up2 := by simp [stepsOf]
section
variable {P : Program} {w : World} {K : PySem.W.Frag} {mg : Str → Option Value} {base : Heap}
abbrev sScales : Stmt := top 40
theorem scScales : FnScope ["_law_kinds", "_law_gaps", "_law_steps", "_law_kind_here", "_law_numbers", "_law_number", "_law_item"] ["_law_kinds"] (defScope sScales) := ⟨rfl, rfl, rfl, by decide +kernel, rfl, by decide +kernel, by decide +kernel⟩
def rScales : List PyData → PyData → Prop := fun ds d => ∃ ks : List TC.Kind, ds = [.list (ks.map kindD)] ∧ ks.length ≤ 10 ∧ d = .tuple [.list ((gapsOf ks).map .int), .list ((stepsOf ks).map .int)]
theorem ok_scales {f : Addr} {fd : FuncData} (T : Txt mg) (F : Fun K "_law_scales" "_law_scales" sScales f fd) : FnOk P w K mg base CX0 1 f fd ["_law_kinds"] (spP rScales) := by
  have sc := scScales
  refine fnP F scScales (by rintro ds d ⟨ks, rfl, _, rfl⟩; rfl) (fun cdv A outer s H E hr ds d h => ?_)
  obtain ⟨ks, rfl, hlen, rfl⟩ := h
  refine dss_cons ?_
  refine ds_parO2 (i := 1) (j := 2) rfl sc.nd rfl rfl (by decide) rfl rfl ⟨_, rfl⟩ ⟨_, rfl⟩ ?_
  refine nl_lst ?_
  refine da_cons ?_
  refine de_int ?_
  refine da_cons ?_
  refine de_int ?_
  refine da_cons ?_
  refine de_int ?_
  refine da_nil ?_
  refine ⟨by simp only [List.length_cons, List.length_nil]; decide, fun p hp => ?_⟩
  refine nl_lst ?_
  refine da_cons ?_
  refine de_int ?_
  refine da_cons ?_
  refine de_int ?_
  refine da_cons ?_
  refine de_int ?_
  refine da_nil ?_
  refine ⟨by simp only [List.length_cons, List.length_nil]; decide, fun q hq => ?_⟩
  have hpq : p ≠ q := fun z => by rw [z, setO_same] at hq; cases hq
  refine dss_cons ?_
  refine ds_forL .never rfl ?_
  refine de_name (i := 0) rfl (.inl rfl) rfl ?_
  refine ⟨_, rfl, fun j Γ ω => ∃ o3 o4 o5 o6 : Option Slot, Γ = [some (.dat (.list (ks.map kindD))), some (.own p), some (.own q), o3, o4, o5, o6] ∧ ω p = some (.lst ((gapsOf (ks.take j)).map PyData.int)) ∧ ω q = some (.lst ((stepsOf (ks.take j)).map PyData.int)), ⟨none, none, none, none, rfl, (setO_ne hpq).trans setO_same, setO_same⟩, ?_, ?_⟩
  · rintro j d Γ ω hk ⟨o3, o4, o5, o6, rfl, hp1, hq1⟩
    rw [List.getElem?_map] at hk
    cases hkz : ks[j]? with
    | none => rw [hkz] at hk; cases hk
    | some k =>
    rw [hkz] at hk
    have e0 : kindD k = d := by simpa using hk
    subst e0
    have hjl : (ks.take j).length ≤ 10 := by rw [List.length_take]; omega
    have hgl := gaps_len (ks.take j)
    have hsl := steps_len (ks.take j)
    refine dg_name (i := 3) sc.nd rfl (.inl rfl) ⟨_, rfl⟩ ?_
    refine dss_cons ?_
    refine ds_setLcT (own := [("_law_item", 6)]) rfl sc.nd (i := 4) rfl rfl ⟨_, rfl⟩ (blkOk_by (own := [("_law_item", 6)]) (N := ["_law_kinds", "_law_gaps", "_law_steps", "_law_kind_here", "_law_numbers", "_law_number", "_law_item"]) (sc := defScope sScales) (by decide +kernel)) (by decide) (sw_true rfl rfl rfl (by decide +kernel)) ?_
    rw [kindD_eq k]
    refine de_slT ?_
    refine de_name (i := 3) rfl (.inl rfl) rfl ?_
    refine de_int ?_
    refine ⟨_, rfl, ?_⟩
    refine ⟨_, rfl, fun z => absurd z.1 (by rw [show (1 : Int) = ((1 : Nat) : Int) from rfl, HT.sIx_nat, List.length_cons]; omega), ?_⟩
    rw [cutD_tail]
    refine ⟨_, rfl, by cases k <;> simp [partsK], fun i acc ω' => ω' p = some (.lst ((gapsOf (ks.take j)).map PyData.int)) ∧ ω' q = some (.lst ((stepsOf (ks.take j)).map PyData.int)) ∧ acc = ((partsK k).take i).filter notStr, ⟨hp1, hq1, rfl⟩, ?_, ?_⟩
    · rintro i d acc ω' hi ⟨g1, g2, rfl⟩
      have hdm : d ∈ partsK k := List.mem_of_getElem? hi
      refine t1_nameT (i := 6) sc.nd rfl rfl ⟨_, rfl⟩ (by decide) fun s0 H0 C0 cl0 fp0 => ?_
      refine dt_not ?_
      refine dt_val ?_
      refine de_isi (T := "str") rfl T.isinstance rfl T.str (by decide +kernel) ?_
      refine de_name (i := 6) rfl (.inl rfl) rfl ?_
      refine ⟨_, parts_str hdm, ?_⟩
      refine ⟨_, rfl, ?_⟩
      rw [Bool.not_not]
      refine ite2 (fun hc => ?_) (fun hc => ?_)
      · intro s1 H1 C1 cl1 fp1
        refine de_name (i := 6) rfl (.inl rfl) rfl ?_
        refine ⟨g1, g2, ?_⟩
        rw [take_snoc hi, List.filter_append, List.filter_cons_of_pos hc]; rfl
      · refine ⟨g1, g2, ?_⟩
        rw [take_snoc hi, List.filter_append, List.filter_cons_of_neg hc, List.filter_nil, List.append_nil]
    rintro acc ω' ⟨hp2, hq2, rfl⟩
    rw [List.take_length, parts_nums]
    refine dss_cut (PL := fun Γ ω => Γ = [some (.dat (.list (ks.map kindD))), some (.own p), some (.own q), some (.dat (.tuple (.str (wordK k) :: partsK k))), some (.dat (.list ((numsK k).map PyData.int))), o5, o6] ∧ ω p = some (.lst ((gapsOf (ks.take j)).map PyData.int)) ∧ ω q = some (.lst ((stepsOf (ks.take j)).map PyData.int))) ?_ ?_
    · skip
      refine ds_if ?_
      refine dt_cmp ?_
      refine dc_eqT ?_
      refine de_ix ?_
      refine de_name (i := 3) rfl (.inl rfl) rfl ?_
      refine de_int ?_
      refine ⟨_, _, _, (by first | exact .inr rfl | exact .inl rfl), rfl, atD_zero, ?_⟩
      refine de_str ?_
      refine ⟨_, _, rfl, rfl, ?_⟩
      refine ⟨_, rfl, ?_⟩
      cases k with
      | touch =>
        rw [show decide (wordK (.touch) = "taps") = false from (by decide +kernel : decide (("touch" : Str) = "taps") = false)]
        refine iteF ?_
        refine dss_nil ?_
        exact ⟨rfl, hp2, hq2⟩
      | tap t s =>
        rw [show decide (wordK (.tap t s) = "taps") = false from (by decide +kernel : decide (("tap" : Str) = "taps") = false)]
        refine iteF ?_
        refine dss_nil ?_
        exact ⟨rfl, hp2, hq2⟩
      | taps c t g s =>
        rw [show decide (wordK (.taps c t g s) = "taps") = true from (by decide +kernel : decide (("taps" : Str) = "taps") = true)]
        refine iteT ?_
        refine dss_one ?_
        refine ds_set (i := 4) sc.nd rfl (.inl rfl) ⟨_, rfl⟩ ?_
        refine de_slL ?_
        refine de_name (i := 4) rfl (.inl rfl) rfl ?_
        refine de_int ?_
        refine ⟨_, rfl, ?_⟩
        refine ⟨_, rfl, ?_⟩
        rw [show (nums0 (.taps c t g s)).map PyData.int = .int c :: (numsK (.taps c t g s)).map PyData.int from rfl, cutD_tail]
        exact ⟨rfl, hp2, hq2⟩
      | long t s =>
        rw [show decide (wordK (.long t s) = "taps") = false from (by decide +kernel : decide (("long" : Str) = "taps") = false)]
        refine iteF ?_
        refine dss_nil ?_
        exact ⟨rfl, hp2, hq2⟩
      | drag a s =>
        rw [show decide (wordK (.drag a s) = "taps") = false from (by decide +kernel : decide (("drag" : Str) = "taps") = false)]
        refine iteF ?_
        refine dss_nil ?_
        exact ⟨rfl, hp2, hq2⟩
      | pinch s =>
        rw [show decide (wordK (.pinch s) = "taps") = false from (by decide +kernel : decide (("pinch" : Str) = "taps") = false)]
        refine iteF ?_
        refine dss_nil ?_
        exact ⟨rfl, hp2, hq2⟩
    · rintro Γ ω ⟨rfl, hp2, hq2⟩
      refine dss_cons ?_
      refine ds_forL .never rfl ?_
      refine de_slL ?_
      refine de_name (i := 4) rfl (.inl rfl) rfl ?_
      refine de_neg ?_
      refine de_int ?_
      refine ⟨_, rfl, ?_⟩
      refine ⟨_, rfl, ?_⟩
      refine ⟨_, rfl, ?_⟩
      rw [cutD_init, ← List.map_dropLast]
      refine ⟨_, rfl, fun i Γ ω => ∃ o5 : Option Slot, Γ = [some (.dat (.list (ks.map kindD))), some (.own p), some (.own q), some (.dat (.tuple (.str (wordK k) :: partsK k))), some (.dat (.list ((numsK k).map PyData.int))), o5, o6] ∧ ω p = some (.lst ((gapsOf (ks.take j) ++ ((numsK k).dropLast.take i).flatMap up3).map PyData.int)) ∧ ω q = some (.lst ((stepsOf (ks.take j)).map PyData.int)), ⟨_, rfl, by rw [hp2]; simp, hq2⟩, ?_, ?_⟩
      · rintro i d Γ ω hk ⟨o5, rfl, hp2, hq2⟩
        rw [List.getElem?_map] at hk
        cases hz : ((numsK k).dropLast)[i]? with
        | none => rw [hz] at hk; cases hk
        | some z =>
        rw [hz] at hk
        have e0 : PyData.int z = d := by simpa using hk
        subst e0
        refine dg_name (i := 5) sc.nd rfl (.inl rfl) ⟨_, rfl⟩ ?_
        refine dss_one ?_
        refine ds_extend (i := 1) rfl (.inl rfl) rfl ?_ hp2
        refine de_lst ?_
        refine da_cons ?_
        refine de_sub ?_
        refine de_name (i := 5) rfl (.inl rfl) rfl ?_
        refine de_int ?_
        refine ⟨_, _, rfl, rfl, ?_⟩
        refine da_cons ?_
        refine de_name (i := 5) rfl (.inl rfl) rfl ?_
        refine da_cons ?_
        refine de_add ?_
        refine de_name (i := 5) rfl (.inl rfl) rfl ?_
        refine de_int ?_
        refine ⟨_, _, rfl, rfl, ?_⟩
        refine da_nil ?_
        refine ⟨(by simp only [List.length_cons, List.length_nil]; decide), ?_⟩
        refine ⟨_, _, rfl, hp2, (by have := gaps_one k i; rw [List.length_map, List.length_append]; simp only [List.length_cons, List.length_nil]; omega), ?_⟩
        refine ⟨_, rfl, ?_, (setO_ne (Ne.symm hpq)).trans hq2⟩
        rw [setO_same, take_snoc hz, List.flatMap_append, ← List.append_assoc, List.map_append (l₁ := gapsOf (ks.take j) ++ _)]; rfl
      · rintro Γ ω ⟨o5, rfl, hp2, hq2⟩
        rw [List.length_map, List.take_length] at hp2
        refine dss_one ?_
        refine ds_forL .never rfl ?_
        refine de_slL ?_
        refine de_name (i := 4) rfl (.inl rfl) rfl ?_
        refine de_neg ?_
        refine de_int ?_
        refine ⟨_, rfl, ?_⟩
        refine ⟨_, rfl, ?_⟩
        refine ⟨_, rfl, ?_⟩
        rw [cutD_last, List.length_map, ← List.map_drop]
        rw [show (numsK k).drop ((numsK k).length - 1) = lastL (numsK k) from rfl]
        refine ⟨_, rfl, fun i Γ ω => ∃ o5 : Option Slot, Γ = [some (.dat (.list (ks.map kindD))), some (.own p), some (.own q), some (.dat (.tuple (.str (wordK k) :: partsK k))), some (.dat (.list ((numsK k).map PyData.int))), o5, o6] ∧ ω p = some (.lst ((gapsOf (ks.take j) ++ (numsK k).dropLast.flatMap up3).map PyData.int)) ∧ ω q = some (.lst ((stepsOf (ks.take j) ++ ((lastL (numsK k)).take i).flatMap up2).map PyData.int)), ⟨_, rfl, hp2, by rw [hq2]; simp⟩, ?_, ?_⟩
        · rintro i d Γ ω hk ⟨o5, rfl, hp2, hq2⟩
          rw [List.getElem?_map] at hk
          cases hz : (lastL (numsK k))[i]? with
          | none => rw [hz] at hk; cases hk
          | some z =>
          rw [hz] at hk
          have e0 : PyData.int z = d := by simpa using hk
          subst e0
          refine dg_name (i := 5) sc.nd rfl (.inl rfl) ⟨_, rfl⟩ ?_
          refine dss_one ?_
          refine ds_extend (i := 2) rfl (.inl rfl) rfl ?_ hq2
          refine de_lst ?_
          refine da_cons ?_
          refine de_name (i := 5) rfl (.inl rfl) rfl ?_
          refine da_cons ?_
          refine de_add ?_
          refine de_name (i := 5) rfl (.inl rfl) rfl ?_
          refine de_int ?_
          refine ⟨_, _, rfl, rfl, ?_⟩
          refine da_nil ?_
          refine ⟨(by simp only [List.length_cons, List.length_nil]; decide), ?_⟩
          refine ⟨_, _, rfl, hq2, (by have := steps_one k i; rw [List.length_map, List.length_append]; simp only [List.length_cons, List.length_nil]; omega), ?_⟩
          refine ⟨_, rfl, (setO_ne hpq).trans hp2, ?_⟩
          rw [setO_same, take_snoc hz, List.flatMap_append, ← List.append_assoc, List.map_append (l₁ := stepsOf (ks.take j) ++ _)]; rfl
        · rintro Γ ω ⟨o5, rfl, hp2, hq2⟩
          rw [List.length_map, List.take_length] at hq2
          refine ⟨_, _, _, _, rfl, ?_, ?_⟩
          · rw [hp2, take_snoc hkz, gaps_snoc]
          · rw [hq2, take_snoc hkz, steps_snoc]
  · rintro Γ ω ⟨o3, o4, o5, o6, rfl, hp1, hq1⟩
    rw [List.length_map, List.take_length] at hp1 hq1
    refine dss_one ?_
    refine ds_ret ?_
    refine de_tup ?_
    refine da_cons ?_
    refine de_own (i := 1) rfl (.inl rfl) rfl hp1 ?_
    refine da_cons ?_
    refine de_own (i := 2) rfl (.inl rfl) rfl ((delO_ne (Ne.symm hpq)).trans hq1) ?_
    refine da_nil ?_
    refine ⟨(by simp only [List.length_cons, List.length_nil]; decide), ?_⟩
    rfl
end
end K20
set_option maxRecDepth 100000
set_option maxHeartbeats 4000000
namespace K20
open PySem PySem.Spec PyProof.Rows L2 Evl TC
structure RecOk (l : List Ev) : Prop where
  valid : Valid l
  ne : l ≠ []
  short : l.length ≤ 30
  pl : ∀ e ∈ l, plOk e.p
  tick : ∀ e ∈ l, -2000000000000000 ≤ e.t ∧ e.t ≤ 1000000000000000
structure RI (l : List Ev) (t : Int) (m1 m2 : Int → Option PyData) : Prop where
  ok : okR st0 none l
  tk : tickOk (lastAt none l) t
  h2 : ∀ f, m2 f = (stAt st0 l f).map plD
  h1 : ∀ f v, stAt st0 l f = some v → plOk v ∧ ∃ v', m1 f = some (plD v') ∧ plOk v'
  pl : ∀ e ∈ l, plOk e.p
  tick : ∀ e ∈ l, -2000000000000000 ≤ e.t ∧ e.t ≤ 1000000000000000
section
variable {l : List Ev} {t t' z : Int} {m1 m2 : Int → Option PyData} {v v' : Pl}
theorem tickOk_le {o : Option Int} (h : tickOk o t) (k : t ≤ t') : tickOk o t' := by
  cases o with
  | none => trivial
  | some a => exact Int.le_trans h k
theorem snoc_all {α : Type} {Q : α → Prop} {l : List α} {e : α} (h : ∀ a ∈ l, Q a) (k : Q e) : ∀ a ∈ l ++ [e], Q a := fun a ha => by
  rcases List.mem_append.mp ha with x | x
  · exact h a x
  · rw [List.mem_singleton.mp x]; exact k
theorem RI.down (h : RI l t m1 m2) (hz : stAt st0 l z = none) (z0 : 0 ≤ z) (z4 : z ≤ 4) (ht : t ≤ t') (hv : plOk v) (t0 : -2000000000000000 ≤ t') (t1 : t' ≤ 1000000000000000) : RI (l ++ [⟨t', z, .down, v.1, v.2⟩]) t' (putM m1 z (plD v)) (putM m2 z (plD v)) where
  ok := okR_snoc h.ok ⟨tickOk_le h.tk ht, ⟨z0, z4⟩, ⟨fun _ => hz, fun _ => rfl⟩, fun q => nomatch q⟩
  tk := by rw [lastAt_snoc]; exact Int.le_refl _
  h2 := fun f => by
    rw [stAt_snoc]
    unfold putM stepF
    by_cases hf : f = z
    · rw [if_pos hf, if_pos hf]; rfl
    · rw [if_neg hf, if_neg hf]; exact h.h2 f
  h1 := fun f w hw => by
    rw [stAt_snoc] at hw
    unfold stepF at hw
    unfold putM
    by_cases hf : f = z
    · rw [if_pos hf] at hw ⊢
      have : some v = some w := hw
      cases this
      exact ⟨hv, v, rfl, hv⟩
    · rw [if_neg hf] at hw ⊢
      exact h.h1 f w hw
  pl := snoc_all h.pl hv
  tick := snoc_all h.tick ⟨t0, t1⟩
theorem RI.up (h : RI l t m1 m2) (hz : stAt st0 l z = some v) (z0 : 0 ≤ z) (z4 : z ≤ 4) (ht : t ≤ t') (t0 : -2000000000000000 ≤ t') (t1 : t' ≤ 1000000000000000) : RI (l ++ [⟨t', z, .up, v.1, v.2⟩]) t' m1 (delM m2 z) where
  ok := okR_snoc h.ok ⟨tickOk_le h.tk ht, ⟨z0, z4⟩, ⟨(fun q => nomatch q), fun q => by rw [hz] at q; cases q⟩, fun _ => hz⟩
  tk := by rw [lastAt_snoc]; exact Int.le_refl _
  h2 := fun f => by
    rw [stAt_snoc]
    unfold delM stepF
    by_cases hf : f = z
    · rw [if_pos hf, if_pos hf]; rfl
    · rw [if_neg hf, if_neg hf]; exact h.h2 f
  h1 := fun f w hw => by
    rw [stAt_snoc] at hw
    unfold stepF at hw
    by_cases hf : f = z
    · rw [if_pos hf] at hw
      have : (none : Option Pl) = some w := hw
      cases this
    · rw [if_neg hf] at hw
      exact h.h1 f w hw
  pl := snoc_all h.pl (h.h1 z v hz).1
  tick := snoc_all h.tick ⟨t0, t1⟩
theorem RI.move (h : RI l t m1 m2) (hz : stAt st0 l z = some v) (z0 : 0 ≤ z) (z4 : z ≤ 4) (ht : t ≤ t') (hv : plOk v') (t0 : -2000000000000000 ≤ t') (t1 : t' ≤ 1000000000000000) : RI (l ++ [⟨t', z, .move, v'.1, v'.2⟩]) t' m1 (putM m2 z (plD v')) where
  ok := okR_snoc h.ok ⟨tickOk_le h.tk ht, ⟨z0, z4⟩, ⟨(fun q => nomatch q), fun q => by rw [hz] at q; cases q⟩, fun q => nomatch q⟩
  tk := by rw [lastAt_snoc]; exact Int.le_refl _
  h2 := fun f => by
    rw [stAt_snoc]
    unfold putM stepF
    by_cases hf : f = z
    · rw [if_pos hf, if_pos hf]; rfl
    · rw [if_neg hf, if_neg hf]; exact h.h2 f
  h1 := fun f w hw => by
    rw [stAt_snoc] at hw
    unfold stepF at hw
    by_cases hf : f = z
    · rw [if_pos hf] at hw
      have : some v' = some w := hw
      cases this
      rw [hf]
      exact ⟨hv, (h.h1 z v hz).2⟩
    · rw [if_neg hf] at hw
      exact h.h1 f w hw
  pl := snoc_all h.pl hv
  tick := snoc_all h.tick ⟨t0, t1⟩
end
theorem four_ints {a b c d z : Int} (h0 : 0 ≤ z) (h1 : z < 4) : ∃ s, atD [.int a, .int b, .int c, .int d] z = some (.int s) ∧ (s = a ∨ s = b ∨ s = c ∨ s = d) := by
  obtain ⟨s, h2, h3⟩ := atD_int (ss := [a, b, c, d]) h0 h1
  exact ⟨s, h2, by simpa using h3⟩
section
variable {P : Program} {w : World} {K : PySem.W.Frag} {mg : Str → Option Value} {base : Heap}
abbrev sRec : Stmt := top 43
theorem scRec : FnScope ["_law_reel_here", "_law_fingers", "_law_size", "_law_gaps", "_law_steps", "_law_found", "_law_starts", "_law_here", "_law_ticks", "_law_tick", "_law_last", "_law_turn", "_law_finger"] ["_law_reel_here", "_law_fingers", "_law_size", "_law_gaps", "_law_steps"] (defScope sRec) := ⟨rfl, rfl, rfl, by decide +kernel, rfl, by decide +kernel, by decide +kernel⟩
def rRec : List PyData → Nat → (PyData → Prop) → Prop := fun ds m Pd => ∃ (fg : Int) (size : Nat) (gs ss : List Int), ds = [.int fg, .int size, .list (gs.map .int), .list (ss.map .int)] ∧ 1 ≤ fg ∧ fg ≤ 5 ∧ 1 ≤ size ∧ size ≤ 30 ∧
  gs ≠ [] ∧ gs.length ≤ 1000 ∧ (∀ g ∈ gs, 0 ≤ g ∧ g ≤ 1000000000000) ∧ ss ≠ [] ∧ ss.length ≤ 1000 ∧ (∀ s ∈ ss, bnd 10000000000 s) ∧ m = 300 ∧ Pd = fun d => ∃ l : List Ev, d = .list (l.map evD) ∧ RecOk l
theorem ok_rec {f : Addr} {fd : FuncData} (T : Txt mg) (C_law_spin : Cal P w K mg base 1 "_law_spin" (spR rSpin)) (C_law_start : Cal P w K mg base 2 "_law_start" (spR rStart)) (C_law_near : Cal P w K mg base 2 "_law_near" (spR rNear)) (F : Fun K "_law_record" "_law_record" sRec f fd) : FnOk P w K mg base CX0 3 f fd ["_law_reel_here", "_law_fingers", "_law_size", "_law_gaps", "_law_steps"] (spR rRec) := by
  have sc := scRec
  refine fnR F scRec (by rintro ds m Pd ⟨fg, size, gs, ss, rfl, _, _, _, _, _, _, _, _, _, _, rfl, rfl⟩; rfl) (fun cdv A outer s H E hr ds m Pd r n h hlim => ?_)
  obtain ⟨fg, size, gs, ss, rfl, hf1, hf5, hs1, hs30, hg0, hgl, hgb, hss, hsl, hsb, rfl, rfl⟩ := h
  have hgp : 0 < gs.length := List.length_pos_iff.mpr hg0
  refine dss_cut (PL := fun Γ ω => ∃ p q u : Addr, Γ = [some (.own r), some (.dat (.int fg)), some (.dat (.int (size : Int))), some (.dat (.list (gs.map PyData.int))), some (.dat (.list (ss.map PyData.int))), some (.own p), some (.own q), some (.own u), none, none, none, none, none] ∧ ω r = some (.reel n) ∧ ω p = some (.lst []) ∧ ω q = some (.dct (fun _ => none) 0) ∧ ω u = some (.dct (fun _ => none) 0) ∧ p ≠ r ∧ q ≠ r ∧ u ≠ r ∧ q ≠ p ∧ u ≠ p ∧ u ≠ q) ?_ ?_
  · skip
    refine ds_par3O (i := 5) (j := 6) (l := 7) rfl sc.nd rfl rfl rfl (by decide) (by decide) (by decide) rfl rfl rfl ⟨_, rfl⟩ ⟨_, rfl⟩ ⟨_, rfl⟩ (fun p q u hp hq hu => ?_)
    have hpr : p ≠ r := ne_own hp setO_same
    have hqr : q ≠ r := ne_own hq ((setO_ne (Ne.symm hpr)).trans setO_same)
    have hqp : q ≠ p := ne_own hq setO_same
    have huq : u ≠ q := ne_own hu setO_same
    have hup : u ≠ p := ne_own hu ((setO_ne (Ne.symm hqp)).trans setO_same)
    have hur : u ≠ r := ne_own hu ((setO_ne (Ne.symm hqr)).trans ((setO_ne (Ne.symm hpr)).trans setO_same))
    exact ⟨p, q, u, rfl, (setO_ne (Ne.symm hur)).trans ((setO_ne (Ne.symm hqr)).trans ((setO_ne (Ne.symm hpr)).trans setO_same)), (setO_ne (Ne.symm hup)).trans ((setO_ne (Ne.symm hqp)).trans setO_same), (setO_ne (Ne.symm huq)).trans setO_same, setO_same, hpr, hqr, hur, hqp, hup, huq⟩
  · rintro Γ ω ⟨p, q, u, rfl, hr0, hp, hq, hu, hpr, hqr, hur, hqp, hup, huq⟩
    refine dss_cons ?_
    refine ds_set (i := 8) sc.nd rfl (.inl rfl) ⟨_, rfl⟩ ?_
    refine de_lst ?_
    refine da_cons ?_
    refine de_int ?_
    refine da_cons ?_
    refine de_sub ?_
    refine de_int ?_
    refine de_pow ?_
    refine de_int ?_
    refine de_int ?_
    refine ⟨_, _, rfl, rfl, cpow_ok (by decide) (by decide) (by decide), ?_⟩
    refine ⟨_, _, rfl, rfl, ?_⟩
    refine da_cons ?_
    refine de_callR C_law_spin (hr.mono (by decide)) rfl (i := 0) rfl (.inl rfl) rfl ?_
    refine da_cons ?_
    refine de_pow ?_
    refine de_int ?_
    refine de_int ?_
    refine ⟨_, _, rfl, rfl, cpow_ok (by decide) (by decide) (by decide), ?_⟩
    refine da_nil ?_
    refine ⟨_, 1, _, hr0, ⟨_, rfl, (by decide), (by decide), rfl, rfl⟩, by omega, fun d1 hd1 => ?_⟩
    obtain ⟨z1, rfl, zl1, zu1⟩ := hd1
    refine da_cons ?_
    refine de_sub ?_
    refine de_sub ?_
    refine de_int ?_
    refine de_int ?_
    refine ⟨_, _, rfl, rfl, ?_⟩
    refine de_callR C_law_spin (hr.mono (by decide)) rfl (i := 0) rfl (.inl rfl) rfl ?_
    refine da_cons ?_
    refine de_int ?_
    refine da_nil ?_
    refine ⟨_, 1, _, setO_same, ⟨_, rfl, (by decide), (by decide), rfl, rfl⟩, by omega, fun d2 hd2 => ?_⟩
    obtain ⟨z2, rfl, zl2, zu2⟩ := hd2
    refine ⟨_, _, rfl, rfl, ?_⟩
    refine da_nil ?_
    refine ⟨(by simp only [List.length_cons, List.length_nil]; decide), ?_⟩
    refine dss_cut (PL := fun Γ ω => ∃ (t : Int) (last : Pl) (o8 : Option Slot), Γ = [some (.own r), some (.dat (.int fg)), some (.dat (.int (size : Int))), some (.dat (.list (gs.map PyData.int))), some (.dat (.list (ss.map PyData.int))), some (.own p), some (.own q), some (.own u), o8, some (.dat (.int t)), some (.dat (plD last)), none, none] ∧ ω r = some (.reel (n + 1 + 1 + 1 + 3)) ∧ ω p = some (.lst []) ∧ ω q = some (.dct (fun _ => none) 0) ∧ ω u = some (.dct (fun _ => none) 0) ∧ plOk last ∧ -1500000000000000 ≤ t ∧ t ≤ 100000000000000) ?_ ?_
    · skip
      refine ds_par (i := 9) (j := 10) rfl sc.nd rfl rfl (by decide) rfl rfl ⟨_, rfl⟩ ⟨_, rfl⟩ ?_
      refine de_ix ?_
      refine de_name (i := 8) rfl (.inl rfl) rfl ?_
      refine de_callR C_law_spin (hr.mono (by decide)) rfl (i := 0) rfl (.inl rfl) rfl ?_
      refine da_cons ?_
      refine de_int ?_
      refine da_nil ?_
      refine ⟨_, 1, _, setO_same, ⟨_, rfl, (by decide), (by decide), rfl, rfl⟩, by omega, fun d3 hd3 => ?_⟩
      obtain ⟨z3, rfl, zl3, zu3⟩ := hd3
      obtain ⟨s1, hat1, h7⟩ := four_ints (a := 0) (b := 0 - 10 ^ (15 : Int).toNat) (c := z1) (d := 0 - 1 - z2) zl3 zu3
      have hs2' : -1500000000000000 ≤ s1 ∧ s1 ≤ 100000000000000 := by
        have e14 : (10 : Int) ^ (14 : Int).toNat = 100000000000000 := by decide
        have e15 : (10 : Int) ^ (15 : Int).toNat = 1000000000000000 := by decide
        rw [e15] at h7
        rw [e14] at zu1
        rcases h7 with h8 | h8 | h8 | h8 <;> rw [h8] <;> constructor <;> omega
      refine ⟨_, _, _, .inl rfl, rfl, hat1, ?_⟩
      refine de_callR C_law_start (hr.mono (by decide)) rfl (i := 0) rfl (.inl rfl) rfl ?_
      refine da_nil ?_
      refine ⟨_, 3, _, setO_same, ⟨rfl, rfl, rfl⟩, by omega, fun d5 hd5 => ?_⟩
      obtain ⟨p0, rfl, hp0⟩ := hd5
      exact ⟨s1, p0, _, rfl, setO_same, (setO_ne hpr).trans ((setO_ne hpr).trans ((setO_ne hpr).trans ((setO_ne hpr).trans hp))), (setO_ne hqr).trans ((setO_ne hqr).trans ((setO_ne hqr).trans ((setO_ne hqr).trans hq))), (setO_ne hur).trans ((setO_ne hur).trans ((setO_ne hur).trans ((setO_ne hur).trans hu))), hp0, by omega, by omega⟩
    · rintro Γ ω ⟨t, last, o8, rfl, hr0, hp, hq, hu, hlast, ht0, ht1⟩
      refine dss_cons ?_
      refine ds_forR1 .never rfl rfl T.range ?_
      refine de_name (i := 2) rfl (.inl rfl) rfl ?_
      refine ⟨_, rfl, by omega, by omega, fun i Γ ω => ∃ (l : List Ev) (t : Int) (last : Pl) (n1 n2 nr : Nat) (m1 m2 : Int → Option PyData) (o8 o11 o12 : Option Slot), Γ = [some (.own r), some (.dat (.int fg)), some (.dat (.int (size : Int))), some (.dat (.list (gs.map PyData.int))), some (.dat (.list (ss.map PyData.int))), some (.own p), some (.own q), some (.own u), o8, some (.dat (.int t)), some (.dat (plD last)), o11, o12] ∧ ω r = some (.reel nr) ∧ ω p = some (.lst (l.map evD)) ∧ ω q = some (.dct m1 n1) ∧ ω u = some (.dct m2 n2) ∧ nr ≤ n + 6 + 9 * i ∧ n1 ≤ i ∧ n2 ≤ i ∧ l.length = i ∧ plOk last ∧ -1500000000000000 ≤ t ∧ t ≤ 100000000000000 + 1000000000000 * (i : Int) ∧ RI l t m1 m2, ⟨[], t, last, 0, 0, _, _, _, o8, none, none, rfl, hr0, hp, hq, hu, by omega, Nat.le_refl _, Nat.le_refl _, rfl, hlast, ht0, by omega, ⟨trivial, trivial, fun f => rfl, (fun f v h => nomatch h), (fun _ h => nomatch h), (fun _ h => nomatch h)⟩⟩, ?_, ?_⟩
      · rintro i Γ ω hi ⟨l, t, last, n1, n2, nr, m1, m2, o8, o11, o12, rfl, hr1, hp, hq, hu, hnr, hn1, hn2, hl, hlast, ht0, ht1, hri⟩
        refine dg_name (i := 11) sc.nd rfl (.inl rfl) ⟨_, rfl⟩ ?_
        refine dss_cut (PL := fun Γ ω => ∃ (z t' : Int), Γ = [some (.own r), some (.dat (.int fg)), some (.dat (.int (size : Int))), some (.dat (.list (gs.map PyData.int))), some (.dat (.list (ss.map PyData.int))), some (.own p), some (.own q), some (.own u), o8, some (.dat (.int t')), some (.dat (plD last)), some (.dat (.int (i : Int))), some (.dat (.int z))] ∧ 0 ≤ z ∧ z < fg ∧ t ≤ t' ∧ t' ≤ t + 1000000000000 ∧ ω r = some (.reel (nr + 1 + 1)) ∧ ω p = some (.lst (l.map evD)) ∧ ω q = some (.dct m1 n1) ∧ ω u = some (.dct m2 n2)) ?_ ?_
        · skip
          refine ds_par (i := 12) (j := 9) rfl sc.nd rfl rfl (by decide) rfl rfl ⟨_, rfl⟩ ⟨_, rfl⟩ ?_
          refine de_callR C_law_spin (hr.mono (by decide)) rfl (i := 0) rfl (.inl rfl) rfl ?_
          refine da_cons ?_
          refine de_name (i := 1) rfl (.inl rfl) rfl ?_
          refine da_nil ?_
          refine ⟨_, 1, _, hr1, ⟨_, rfl, (by omega), (by omega), rfl, rfl⟩, by omega, fun d4 hd4 => ?_⟩
          obtain ⟨z4, rfl, zl4, zu4⟩ := hd4
          refine de_add ?_
          refine de_name (i := 9) rfl (.inl rfl) rfl ?_
          refine de_ix ?_
          refine de_name (i := 3) rfl (.inl rfl) rfl ?_
          refine de_callR C_law_spin (hr.mono (by decide)) rfl (i := 0) rfl (.inl rfl) rfl ?_
          refine da_cons ?_
          refine de_len rfl T.len ?_
          refine de_name (i := 3) rfl (.inl rfl) rfl ?_
          refine ⟨_, .inl rfl, ?_⟩
          rw [List.length_map]
          refine da_nil ?_
          refine ⟨_, 1, _, setO_same, ⟨_, rfl, (by omega), (by omega), rfl, rfl⟩, by omega, fun d5 hd5 => ?_⟩
          obtain ⟨z5, rfl, zl5, zu5⟩ := hd5
          refine ⟨_, _, _, .inl rfl, rfl, (atD_int zl5 zu5).choose_spec.1, ?_⟩
          obtain ⟨g1, hg1, hg2⟩ : ∃ g1, g1 = (atD_int zl5 zu5).choose ∧ (0 ≤ g1 ∧ g1 ≤ 1000000000000) := ⟨_, rfl, hgb _ (atD_int zl5 zu5).choose_spec.2⟩
          rw [← hg1]
          refine ⟨_, _, rfl, rfl, ?_⟩
          exact ⟨_, _, rfl, zl4, zu4, by omega, by omega, setO_same, (setO_ne hpr).trans ((setO_ne hpr).trans hp), (setO_ne hqr).trans ((setO_ne hqr).trans hq), (setO_ne hur).trans ((setO_ne hur).trans hu)⟩
        · rintro Γ ω ⟨z, t', rfl, zl0, zu0, htt, htt2, hr2, hp2, hq2, hu2⟩
          refine dss_one ?_
          refine ds_if ?_
          refine dt_cmp ?_
          refine dc_notInO (hu_of hr) (i := 7) rfl (.inl rfl) rfl ?_
          refine de_name (i := 12) rfl (.inl rfl) rfl ?_
          refine ⟨_, _, _, rfl, hu2, ?_⟩
          refine ⟨_, rfl, ?_⟩
          rw [hri.h2]
          cases hst : stAt st0 l z with
          | none =>
            refine iteT ?_
            refine dss_cut (PL := fun Γ ω => ∃ (v : Pl) (nr3 : Nat), Γ = [some (.own r), some (.dat (.int fg)), some (.dat (.int (size : Int))), some (.dat (.list (gs.map PyData.int))), some (.dat (.list (ss.map PyData.int))), some (.own p), some (.own q), some (.own u), o8, some (.dat (.int t')), some (.dat (plD v)), some (.dat (.int (i : Int))), some (.dat (.int z))] ∧ plOk v ∧ ω r = some (.reel nr3) ∧ nr3 ≤ nr + 8 ∧ ω p = some (.lst (l.map evD)) ∧ ω q = some (.dct m1 n1) ∧ ω u = some (.dct m2 n2)) ?_ ?_
            · skip
              refine ds_set (i := 10) sc.nd rfl (.inl rfl) ⟨_, rfl⟩ ?_
              refine de_if ?_
              refine dt_cmp ?_
              refine dc_gt ?_
              refine de_callR C_law_spin (hr.mono (by decide)) rfl (i := 0) rfl (.inl rfl) rfl ?_
              refine da_cons ?_
              refine de_int ?_
              refine da_nil ?_
              refine ⟨_, 1, _, hr2, ⟨_, rfl, (by decide), (by decide), rfl, rfl⟩, by omega, fun d6 hd6 => ?_⟩
              obtain ⟨z6, rfl, zl6, zu6⟩ := hd6
              refine de_int ?_
              refine ⟨_, _, rfl, rfl, ?_⟩
              refine ⟨_, rfl, ?_⟩
              refine ite2 (fun h => ?_) (fun h => ?_)
              · skip
                refine de_callR C_law_near (hr.mono (by decide)) rfl (i := 0) rfl (.inl rfl) rfl ?_
                refine da_cons ?_
                refine de_name (i := 10) rfl (.inl rfl) rfl ?_
                refine da_cons ?_
                refine de_name (i := 4) rfl (.inl rfl) rfl ?_
                refine da_nil ?_
                refine ⟨_, 5, _, setO_same, ⟨last, ss, rfl, hlast, hss, hsl, hsb, rfl, rfl⟩, by omega, fun d9 hd9 => ?_⟩
                obtain ⟨v, rfl, hv⟩ := hd9
                exact ⟨v, _, rfl, hv, setO_same, by omega, (setO_ne hpr).trans ((setO_ne hpr).trans hp2), (setO_ne hqr).trans ((setO_ne hqr).trans hq2), (setO_ne hur).trans ((setO_ne hur).trans hu2)⟩
              · skip
                refine de_callR C_law_start (hr.mono (by decide)) rfl (i := 0) rfl (.inl rfl) rfl ?_
                refine da_nil ?_
                refine ⟨_, 3, _, setO_same, ⟨rfl, rfl, rfl⟩, by omega, fun d5 hd5 => ?_⟩
                obtain ⟨v, rfl, hv⟩ := hd5
                exact ⟨v, _, rfl, hv, setO_same, by omega, (setO_ne hpr).trans ((setO_ne hpr).trans hp2), (setO_ne hqr).trans ((setO_ne hqr).trans hq2), (setO_ne hur).trans ((setO_ne hur).trans hu2)⟩
            · rintro Γ ω ⟨v, nr3, rfl, hv, hr3, hnr3, hp3, hq3, hu3⟩
              refine dss_cons ?_
              refine ds_put2 rfl (hu_of hr) (i := 6) (j := 7) rfl (.inl rfl) rfl rfl (.inl rfl) rfl ?_
              refine de_tup ?_
              refine da_cons ?_
              refine de_name (i := 10) rfl (.inl rfl) rfl ?_
              refine da_cons ?_
              refine de_name (i := 10) rfl (.inl rfl) rfl ?_
              refine da_nil ?_
              refine ⟨(by simp only [List.length_cons, List.length_nil]; decide), ?_⟩
              refine ⟨_, _, rfl, ?_⟩
              refine de_name (i := 12) rfl (.inl rfl) rfl ?_
              refine ⟨_, _, _, rfl, hq3, by omega, ?_⟩
              refine de_name (i := 12) rfl (.inl rfl) rfl ?_
              refine ⟨_, _, _, rfl, (setO_ne huq).trans hu3, by omega, ?_⟩
              refine dss_one ?_
              refine ds_append (i := 5) rfl (.inl rfl) rfl ?_ ((setO_ne (Ne.symm hup)).trans ((setO_ne (Ne.symm hqp)).trans hp3))
              refine de_tup ?_
              refine da_cons ?_
              refine de_name (i := 9) rfl (.inl rfl) rfl ?_
              refine da_cons ?_
              refine de_name (i := 12) rfl (.inl rfl) rfl ?_
              refine da_cons ?_
              refine de_str ?_
              refine da_cons ?_
              refine de_name (i := 10) rfl (.inl rfl) rfl ?_
              refine da_nil ?_
              refine ⟨(by simp only [List.length_cons, List.length_nil]; decide), ?_⟩
              refine ⟨_, (setO_ne (Ne.symm hup)).trans ((setO_ne (Ne.symm hqp)).trans hp3), by rw [List.length_map]; omega, ?_⟩
              exact ⟨l ++ [⟨t', z, .down, v.1, v.2⟩], t', v, n1 + 1, n2 + 1, nr3, _, _, _, _, _, rfl, (setO_ne (Ne.symm hpr)).trans ((setO_ne (Ne.symm hur)).trans ((setO_ne (Ne.symm hqr)).trans hr3)), by rw [setO_same, List.map_append]; rfl, (setO_ne hqp).trans ((setO_ne (Ne.symm huq)).trans setO_same), (setO_ne hup).trans setO_same, by omega, by omega, by omega, by rw [List.length_append, hl]; rfl, hv, by omega, by omega, hri.down hst zl0 (by omega) htt hv (by omega) (by omega)⟩
          | some pv =>
            refine iteF ?_
            refine dss_one ?_
            refine ds_if ?_
            refine dt_cmp ?_
            refine dc_eqI ?_
            refine de_callR C_law_spin (hr.mono (by decide)) rfl (i := 0) rfl (.inl rfl) rfl ?_
            refine da_cons ?_
            refine de_int ?_
            refine da_nil ?_
            refine ⟨_, 1, _, hr2, ⟨_, rfl, (by decide), (by decide), rfl, rfl⟩, by omega, fun d7 hd7 => ?_⟩
            obtain ⟨z7, rfl, zl7, zu7⟩ := hd7
            refine de_int ?_
            refine ⟨_, _, rfl, rfl, ?_⟩
            refine ⟨_, rfl, ?_⟩
            refine ite2 (fun h => ?_) (fun h => ?_)
            · skip
              refine dss_one ?_
              refine ds_append (i := 5) rfl (.inl rfl) rfl ?_ ((setO_ne hpr).trans hp2)
              refine de_tup ?_
              refine da_cons ?_
              refine de_name (i := 9) rfl (.inl rfl) rfl ?_
              refine da_cons ?_
              refine de_name (i := 12) rfl (.inl rfl) rfl ?_
              refine da_cons ?_
              refine de_str ?_
              refine da_cons ?_
              refine de_popO (i := 7) rfl (.inl rfl) rfl ?_ ((setO_ne hur).trans hu2)
              refine de_name (i := 12) rfl (.inl rfl) rfl ?_
              refine ⟨_, _, _, plD pv, rfl, (setO_ne hur).trans hu2, by rw [hri.h2, hst]; rfl, ?_⟩
              refine da_nil ?_
              refine ⟨(by simp only [List.length_cons, List.length_nil]; decide), ?_⟩
              refine ⟨_, (setO_ne (Ne.symm hup)).trans ((setO_ne hpr).trans hp2), by rw [List.length_map]; omega, ?_⟩
              exact ⟨l ++ [⟨t', z, .up, pv.1, pv.2⟩], t', last, n1, n2, _, _, _, _, _, _, rfl, (setO_ne (Ne.symm hpr)).trans ((setO_ne (Ne.symm hur)).trans setO_same), by rw [setO_same, List.map_append]; rfl, (setO_ne hqp).trans ((setO_ne (Ne.symm huq)).trans ((setO_ne hqr).trans hq2)), (setO_ne hup).trans setO_same, by omega, by omega, by omega, by rw [List.length_append, hl]; rfl, hlast, by omega, by omega, hri.up hst zl0 (by omega) htt (by omega) (by omega)⟩
            · skip
              refine dss_cons ?_
              refine ds_putO (hu_of hr) (i := 7) rfl (.inl rfl) rfl ?_
              refine de_callR C_law_near (hr.mono (by decide)) rfl (i := 0) rfl (.inl rfl) rfl ?_
              refine da_cons ?_
              refine de_pickD (hu_of hr) (i := 6) (j := 7) rfl (.inl rfl) rfl rfl (.inl rfl) rfl ?_
              refine de_callR C_law_spin (hr.mono (by decide)) rfl (i := 0) rfl (.inl rfl) rfl ?_
              refine da_cons ?_
              refine de_int ?_
              refine da_nil ?_
              refine ⟨_, 1, _, setO_same, ⟨_, rfl, (by decide), (by decide), rfl, rfl⟩, by omega, fun d8 hd8 => ?_⟩
              obtain ⟨z8, rfl, zl8, zu8⟩ := hd8
              obtain ⟨c1, hc1⟩ : ∃ c1 : Bool, PyData.int z8 = .int (if c1 = true then 1 else 0) := by
                by_cases hz : z8 = 0
                · exact ⟨false, by rw [hz]; rfl⟩
                · exact ⟨true, by rw [show z8 = 1 by omega]; rfl⟩
              refine ⟨c1, hc1, ?_⟩
              refine de_name (i := 12) rfl (.inl rfl) rfl ?_
              obtain ⟨hpv, vs, hvs1, hvs2⟩ := hri.h1 z pv hst
              obtain ⟨vp, mm, nn, hmm, hmv, hvp⟩ : ∃ (vp : Pl) (mm : Int → Option PyData) (nn : Nat), (setO (setO ω r (.reel (nr + 1 + 1 + 1))) r (.reel (nr + 1 + 1 + 1 + 1))) (if c1 = true then u else q) = some (.dct mm nn) ∧ mm z = some (plD vp) ∧ plOk vp := by
                cases c1 with
                | true => exact ⟨pv, m2, n2, (setO_ne hur).trans ((setO_ne hur).trans hu2), by rw [hri.h2, hst]; rfl, hpv⟩
                | false => exact ⟨vs, m1, n1, (setO_ne hqr).trans ((setO_ne hqr).trans hq2), hvs1, hvs2⟩
              refine ⟨_, mm, nn, _, rfl, hmm, hmv, ?_⟩
              refine da_cons ?_
              refine de_name (i := 4) rfl (.inl rfl) rfl ?_
              refine da_nil ?_
              refine ⟨_, 5, _, setO_same, ⟨vp, ss, rfl, hvp, hss, hsl, hsb, rfl, rfl⟩, by omega, fun d9 hd9 => ?_⟩
              obtain ⟨v, rfl, hv⟩ := hd9
              refine de_name (i := 12) rfl (.inl rfl) rfl ?_
              refine ⟨_, _, _, rfl, (setO_ne hur).trans ((setO_ne hur).trans ((setO_ne hur).trans hu2)), by omega, ?_⟩
              refine dss_one ?_
              refine ds_append (i := 5) rfl (.inl rfl) rfl ?_ ((setO_ne (Ne.symm hup)).trans ((setO_ne hpr).trans ((setO_ne hpr).trans ((setO_ne hpr).trans hp2))))
              refine de_tup ?_
              refine da_cons ?_
              refine de_name (i := 9) rfl (.inl rfl) rfl ?_
              refine da_cons ?_
              refine de_name (i := 12) rfl (.inl rfl) rfl ?_
              refine da_cons ?_
              refine de_str ?_
              refine da_cons ?_
              refine de_ixO (hu_of hr) (i := 7) rfl (.inl rfl) rfl ?_
              refine de_name (i := 12) rfl (.inl rfl) rfl ?_
              refine ⟨_, _, _, plD v, rfl, setO_same, if_pos rfl, ?_⟩
              refine da_nil ?_
              refine ⟨(by simp only [List.length_cons, List.length_nil]; decide), ?_⟩
              refine ⟨_, (setO_ne (Ne.symm hup)).trans ((setO_ne hpr).trans ((setO_ne hpr).trans ((setO_ne hpr).trans hp2))), by rw [List.length_map]; omega, ?_⟩
              exact ⟨l ++ [⟨t', z, .move, v.1, v.2⟩], t', last, n1, n2 + 1, _, _, _, _, _, _, rfl, (setO_ne (Ne.symm hpr)).trans ((setO_ne (Ne.symm hur)).trans setO_same), by rw [setO_same, List.map_append]; rfl, (setO_ne hqp).trans ((setO_ne (Ne.symm huq)).trans ((setO_ne hqr).trans ((setO_ne hqr).trans ((setO_ne hqr).trans hq2)))), (setO_ne hup).trans setO_same, by omega, by omega, by omega, by rw [List.length_append, hl]; rfl, hlast, by omega, by omega, hri.move hst zl0 (by omega) htt hv (by omega) (by omega)⟩
      · rintro Γ ω ⟨l, t, last, n1, n2, nr, m1, m2, o8, o11, o12, rfl, hr1, hp, hq, hu, hnr, hn1, hn2, hl, hlast, ht0, ht1, hri⟩
        rw [Int.toNat_natCast] at *
        refine dss_one ?_
        refine ds_ret ?_
        refine de_own (i := 5) rfl (.inl rfl) rfl hp ?_
        exact ⟨⟨l, rfl, ⟨hri.ok, by omega⟩, by intro hnil; rw [hnil] at hl; simp at hl; omega, by omega, hri.pl, hri.tick⟩, _, by omega, (delO_ne (Ne.symm hpr)).trans hr1⟩
end
end K20
set_option maxRecDepth 100000
set_option maxHeartbeats 4000000
namespace K20
open PySem PySem.Spec PyProof.Rows L2 Evl TC
theorem numsK_times {k : TC.Kind} (h : k.Ok) {z : Int} (hz : z ∈ (numsK k).dropLast) : 1 ≤ z ∧ z ≤ 1000000000 := by
  cases k <;> simp only [numsK, List.dropLast, List.mem_cons, List.not_mem_nil, or_false] at hz
  · rw [hz]; exact ⟨h.1, h.2.1⟩
  · obtain ⟨_, h1, h2, h3, h4, _⟩ := h
    rcases hz with rfl | rfl
    · exact ⟨h1, h2⟩
    · exact ⟨h3, h4⟩
  · rw [hz]; exact ⟨h.1, h.2.1⟩
theorem numsK_slop {k : TC.Kind} (h : k.Ok) {z : Int} (hz : z ∈ lastL (numsK k)) : 0 ≤ z ∧ z ≤ 1000000000 := by
  cases k <;> simp [lastL, numsK] at hz
  · rw [hz]; exact ⟨h.2.2.1, h.2.2.2⟩
  · rw [hz]; exact ⟨h.2.2.2.2.2.1, h.2.2.2.2.2.2⟩
  · rw [hz]; exact ⟨h.2.2.1, h.2.2.2⟩
  · rw [hz]; exact ⟨h.1, h.2⟩
  · rw [hz]; exact ⟨h.1, h.2⟩
theorem gaps_bnd {ks : List TC.Kind} (h : ∀ k ∈ ks, k.Ok) : ∀ g ∈ gapsOf ks, 0 ≤ g ∧ g ≤ 1000000000000 := by
  intro g hg
  unfold gapsOf at hg
  rcases List.mem_append.mp hg with x | x
  · simp at x
    rcases x with rfl | rfl | rfl <;> decide
  · obtain ⟨k, hk, x⟩ := List.mem_flatMap.mp x
    obtain ⟨z, hz, x⟩ := List.mem_flatMap.mp x
    have := numsK_times (h k hk) hz
    simp [up3] at x
    rcases x with rfl | rfl | rfl <;> omega
theorem steps_bnd {ks : List TC.Kind} (h : ∀ k ∈ ks, k.Ok) : ∀ s ∈ stepsOf ks, bnd 10000000000 s := by
  intro g hg
  unfold stepsOf at hg
  unfold bnd
  rcases List.mem_append.mp hg with x | x
  · simp at x
    rcases x with rfl | rfl | rfl <;> decide
  · obtain ⟨k, hk, x⟩ := List.mem_flatMap.mp x
    obtain ⟨z, hz, x⟩ := List.mem_flatMap.mp x
    have := numsK_slop (h k hk) hz
    simp [up2] at x
    rcases x with rfl | rfl <;> omega
section
variable {X : Cx} {Γ : Gam} {ω : Ow} {e : Expr}
theorem de_some {P : PyData → Ow → Prop} {Q : PyData → Prop} {ω0 : Ow} (h : DE X e Γ ω fun d ω' => Q d ∧ ω' = ω0) (p : ∀ d, Q d → P d ω0) : DE X e Γ ω P := h.mono fun d ω' ⟨h1, h2⟩ => by rw [h2]; exact p d h1
end
theorem ite_len (k : Int) (d : PyData) : (if k = 0 then ([] : List PyData) else [d]).length ≤ 1 := by split <;> simp
def GQ (B : Nat) (d : PyData) : Prop := ∃ gs : List Int, d = .list (gs.map .int) ∧ gs ≠ [] ∧ gs.length ≤ B ∧ ∀ g ∈ gs, 0 ≤ g ∧ g ≤ 1000000000000
section
variable {P : Program} {w : World} {K : PySem.W.Frag} {mg : Str → Option Value} {base : Heap}
abbrev sCases : Stmt := top 44
theorem scCases : FnScope ["_law_reel_here", "_law_words", "_law_size", "_law_top", "_law_kinds", "_law_gaps", "_law_steps", "_law_turn"] ["_law_reel_here", "_law_words", "_law_size"] (defScope sCases) := ⟨rfl, rfl, rfl, by decide +kernel, rfl, by decide +kernel, by decide +kernel⟩
def rCases : List PyData → Nat → (PyData → Prop) → Prop := fun ds m Pd => ∃ size : Nat, ds = [.list wordsD, .int size] ∧ 1 ≤ size ∧ size ≤ 30 ∧ m = 400 ∧ Pd = fun d => ∃ (ks : List TC.Kind) (l : List Ev), d = .tuple [.list (ks.map kindD), .list (l.map evD)] ∧ (∀ k ∈ ks, k.Ok) ∧ ks.length ≤ 5 ∧ RecOk l
theorem ok_cases {f : Addr} {fd : FuncData} (T : Txt mg) (C_law_spin : Cal P w K mg base 1 "_law_spin" (spR rSpin)) (C_law_kind : Cal P w K mg base 2 "_law_kind" (spR rLKind)) (C_law_scales : Cal P w K mg base 1 "_law_scales" (spP rScales)) (C_law_record : Cal P w K mg base 3 "_law_record" (spR rRec)) (F : Fun K "_law_cases" "_law_cases" sCases f fd) : FnOk P w K mg base CX0 4 f fd ["_law_reel_here", "_law_words", "_law_size"] (spR rCases) := by
  have sc := scCases
  refine fnR F scCases (by rintro ds m Pd ⟨size, rfl, _, _, rfl, rfl⟩; rfl) (fun cdv A outer s H E hr ds m Pd r n h hlim => ?_)
  obtain ⟨size, rfl, hs1, hs30, rfl, rfl⟩ := h
  refine dss_cons ?_
  refine ds_set (i := 3) sc.nd rfl (.inr rfl) ⟨_, rfl⟩ ?_
  refine de_ix ?_
  refine de_lst ?_
  refine da_cons ?_
  refine de_int ?_
  refine da_cons ?_
  refine de_int ?_
  refine da_cons ?_
  refine de_pow ?_
  refine de_int ?_
  refine de_int ?_
  refine ⟨_, _, rfl, rfl, cpow_ok (by decide) (by decide) (by decide), ?_⟩
  refine da_nil ?_
  refine ⟨(by simp only [List.length_cons, List.length_nil]; decide), ?_⟩
  refine de_callR C_law_spin (hr.mono (by decide)) rfl (i := 0) rfl (.inr (.inl rfl)) rfl ?_
  refine da_cons ?_
  refine de_int ?_
  refine da_nil ?_
  refine ⟨_, 1, _, setO_same, ⟨_, rfl, (by decide), (by decide), rfl, rfl⟩, by omega, fun d1 hd1 => ?_⟩
  obtain ⟨z1, rfl, zl1, zu1⟩ := hd1
  obtain ⟨top, hat1, h7⟩ := pick3 (a := 9) (b := 60) (c := 10 ^ (9 : Int).toNat) zl1 zu1
  have htop : 1 ≤ top ∧ top ≤ 1000000000 := by
    rw [e9] at h7
    rcases h7 with h8 | h8 | h8 <;> rw [h8] <;> decide
  refine ⟨_, _, _, .inl rfl, rfl, hat1, ?_⟩
  refine dss_cons ?_
  refine ds_setLcR (own := [("_law_turn", 7)]) rfl sc.nd (i := 4) rfl rfl ⟨_, rfl⟩ (blkOk_by (own := [("_law_turn", 7)]) (N := ["_law_reel_here", "_law_words", "_law_size", "_law_top", "_law_kinds", "_law_gaps", "_law_steps", "_law_turn"]) (sc := defScope sCases) (by decide +kernel)) (by decide) rfl T.range (sw_true rfl rfl rfl (by decide +kernel)) ?_
  refine de_add ?_
  refine de_int ?_
  refine de_callR C_law_spin (hr.mono (by decide)) rfl (i := 0) rfl (.inr (.inl rfl)) rfl ?_
  refine da_cons ?_
  refine de_int ?_
  refine da_nil ?_
  refine ⟨_, 1, _, setO_same, ⟨_, rfl, (by decide), (by decide), rfl, rfl⟩, by omega, fun d2 hd2 => ?_⟩
  obtain ⟨z2, rfl, zl2, zu2⟩ := hd2
  refine ⟨_, _, rfl, rfl, ?_⟩
  refine ⟨_, rfl, by omega, by omega, fun i acc ω' => ω' r = some (.reel (n + 1 + 1 + 8 * i)) ∧ ∃ ks : List TC.Kind, acc = ks.map kindD ∧ ks.length = i ∧ ∀ k ∈ ks, k.Ok, ⟨setO_same, [], rfl, rfl, fun _ h => nomatch h⟩, ?_, ?_⟩
  · rintro i acc ω' hi ⟨hom, ks, rfl, hl, hks⟩
    refine t1_name (i := 7) sc.nd rfl rfl ⟨_, rfl⟩ (by decide) fun s0 H0 C0 cl0 fp0 => ?_
    refine de_callR C_law_kind (hr.mono (by decide)) rfl (i := 0) rfl (.inr (.inl rfl)) rfl ?_
    refine da_cons ?_
    refine de_name (i := 1) rfl (.inr (.inl rfl)) rfl ?_
    refine da_cons ?_
    refine de_name (i := 3) rfl (.inr (.inl rfl)) rfl ?_
    refine da_nil ?_
    refine ⟨_, 8, _, hom, ⟨top, rfl, htop.1, htop.2, rfl, rfl⟩, by omega, fun d hd => ?_⟩
    obtain ⟨k, hk, rfl⟩ := hd
    exact ⟨setO_same, ks ++ [k], by rw [List.map_append]; rfl, by rw [List.length_append, hl]; rfl, snoc_all hks hk⟩
  rintro acc ω ⟨hom, ks, rfl, hkl, hks⟩
  have hkl5 : ks.length ≤ 5 := by omega
  have hnn : n + 1 + 1 + 8 * (1 + z2).toNat ≤ n + 42 := by omega
  obtain ⟨nr, hnr⟩ : ∃ nr, nr = n + 1 + 1 + 8 * (1 + z2).toNat := ⟨_, rfl⟩
  rw [← hnr] at hom hnn
  refine dss_cons ?_
  refine ds_asg ?_
  refine de_call C_law_scales (hr.mono (by decide)) rfl ?_
  refine da_cons ?_
  refine de_name (i := 4) rfl (.inl rfl) rfl ?_
  refine da_nil ?_
  refine ⟨_, ⟨ks, rfl, by omega, rfl⟩, ?_⟩
  refine dg_tup rfl rfl (dgs_cons (dg_name (i := 5) sc.nd rfl (.inl rfl) ⟨_, rfl⟩ (dgs_cons (dg_name (i := 6) sc.nd rfl (.inl rfl) ⟨_, rfl⟩ (dgs_nil ?_)))))
  refine dss_cons ?_
  refine ds_set (i := 5) sc.nd rfl (.inl rfl) ⟨_, rfl⟩ ?_
  refine de_some (Q := GQ 600) (ω0 := setO (setO ω r (.reel (nr + 1))) r (.reel (nr + 1 + 1))) ?_ ?_
  · refine de_cat ?_
    refine de_some (Q := GQ 500) (ω0 := setO ω r (.reel (nr + 1))) ?_ ?_
    · refine de_if ?_
      refine dt_cmp ?_
      refine dc_eqI ?_
      refine de_callR C_law_spin (hr.mono (by decide)) rfl (i := 0) rfl (.inr (.inl rfl)) rfl ?_
      refine da_cons ?_
      refine de_int ?_
      refine da_nil ?_
      refine ⟨_, 1, _, hom, ⟨_, rfl, (by decide), (by decide), rfl, rfl⟩, by omega, fun d3 hd3 => ?_⟩
      obtain ⟨z3, rfl, zl3, zu3⟩ := hd3
      refine de_int ?_
      refine ⟨_, _, rfl, rfl, ?_⟩
      refine ⟨_, rfl, ?_⟩
      have hgl := gaps_len ks
      refine ite2 (fun h => ?_) (fun h => ?_)
      · refine de_name (i := 5) rfl (.inl rfl) rfl ?_
        exact ⟨⟨gapsOf ks, rfl, by simp [gapsOf], by omega, gaps_bnd hks⟩, rfl⟩
      · refine de_cat ?_
        refine de_slL ?_
        refine de_name (i := 5) rfl (.inl rfl) rfl ?_
        refine de_int ?_
        refine ⟨_, rfl, ?_⟩
        refine ⟨_, rfl, ?_⟩
        rw [show (3 : Int) = ((3 : Nat) : Int) from rfl, cutD_take (by rw [List.length_map]; simp [gapsOf]), ← List.map_take, show (gapsOf ks).take 3 = [0, 1, 2] from by simp [gapsOf]]
        refine de_lst ?_
        refine da_cons ?_
        refine de_int ?_
        refine da_cons ?_
        refine de_int ?_
        refine da_nil ?_
        refine ⟨(by simp only [List.length_cons, List.length_nil]; decide), ?_⟩
        refine ⟨_, _, rfl, rfl, (by simp only [List.length_map, List.length_cons, List.length_nil]; decide), ?_⟩
        exact ⟨⟨[0, 1, 2, 0, 1], rfl, by decide, by decide, by decide⟩, rfl⟩
    rintro d ⟨gs, rfl, hg1, hg2, hg3⟩
    refine de_rep ?_
    refine de_lst ?_
    refine da_cons ?_
    refine de_pow ?_
    refine de_int ?_
    refine de_int ?_
    refine ⟨_, _, rfl, rfl, cpow_ok (by decide) (by decide) (by decide), ?_⟩
    refine da_nil ?_
    refine ⟨(by simp only [List.length_cons, List.length_nil]; decide), ?_⟩
    refine de_intI rfl T.int ?_
    refine de_cmp ?_
    refine dc_eqI ?_
    refine de_callR C_law_spin (hr.mono (by decide)) rfl (i := 0) rfl (.inr (.inl rfl)) rfl ?_
    refine da_cons ?_
    refine de_int ?_
    refine da_nil ?_
    refine ⟨_, 1, _, setO_same, ⟨_, rfl, (by decide), (by decide), rfl, rfl⟩, by omega, fun d4 hd4 => ?_⟩
    obtain ⟨z4, rfl, zl4, zu4⟩ := hd4
    refine de_int ?_
    refine ⟨_, _, rfl, rfl, ?_⟩
    refine .inr ⟨_, rfl, ?_⟩
    have hd : ∀ b : Bool, 0 ≤ (if b = true then (1 : Int) else 0) ∧ (if b = true then (1 : Int) else 0) ≤ 1 := fun b => by cases b <;> decide
    refine ⟨_, _, rfl, rfl, (hd _).1, (hd _).2, (by simp only [List.length_cons, List.length_nil]; decide), ?_⟩
    refine ⟨gs.map .int, _, rfl, rfl, Nat.le_trans (Nat.add_le_add_left (ite_len _ _) _) (by rw [List.length_map]; omega), ?_⟩
    have e12 : (10 : Int) ^ (12 : Int).toNat = 1000000000000 := by decide
    rw [e12]
    refine ⟨?_, rfl⟩
    by_cases hz : z4 = 0
    · rw [decide_eq_true hz]
      exact ⟨gs ++ [1000000000000], by rw [List.map_append]; rfl, by simp, by rw [List.length_append]; show gs.length + 1 ≤ 600; omega, snoc_all hg3 (by decide)⟩
    · rw [decide_eq_false hz]
      exact ⟨gs, by rw [if_pos (by rfl), List.append_nil], hg1, by omega, hg3⟩
  rintro d ⟨gs, rfl, hg1, hg2, hg3⟩
  refine dss_one ?_
  refine ds_ret ?_
  refine de_tup ?_
  refine da_cons ?_
  refine de_name (i := 4) rfl (.inl rfl) rfl ?_
  refine da_cons ?_
  refine de_callR C_law_record (hr.mono (by decide)) rfl (i := 0) rfl (.inr (.inl rfl)) rfl ?_
  refine da_cons ?_
  refine de_add ?_
  refine de_int ?_
  refine de_callR C_law_spin (hr.mono (by decide)) rfl (i := 0) rfl (.inr (.inl rfl)) rfl ?_
  refine da_cons ?_
  refine de_ix ?_
  refine de_lst ?_
  refine da_cons ?_
  refine de_int ?_
  refine da_cons ?_
  refine de_int ?_
  refine da_cons ?_
  refine de_int ?_
  refine da_nil ?_
  refine ⟨(by simp only [List.length_cons, List.length_nil]; decide), ?_⟩
  refine de_callR C_law_spin (hr.mono (by decide)) rfl (i := 0) rfl (.inr (.inl rfl)) rfl ?_
  refine da_cons ?_
  refine de_int ?_
  refine da_nil ?_
  refine ⟨_, 1, _, setO_same, ⟨_, rfl, (by decide), (by decide), rfl, rfl⟩, by omega, fun d3 hd3 => ?_⟩
  obtain ⟨z3, rfl, zl3, zu3⟩ := hd3
  obtain ⟨sf, hat5, h5⟩ := pick3 (a := 1) (b := 2) (c := 5) zl3 zu3
  refine ⟨_, _, _, .inl rfl, rfl, hat5, ?_⟩
  refine da_nil ?_
  refine ⟨_, 1, _, setO_same, ⟨_, rfl, (by omega), (by omega), rfl, rfl⟩, by omega, fun d2 hd2 => ?_⟩
  obtain ⟨z2, rfl, zl2, zu2⟩ := hd2
  refine ⟨_, _, rfl, rfl, ?_⟩
  refine da_cons ?_
  refine de_name (i := 2) rfl (.inl rfl) rfl ?_
  refine da_cons ?_
  refine de_name (i := 5) rfl (.inl rfl) rfl ?_
  refine da_cons ?_
  refine de_name (i := 6) rfl (.inl rfl) rfl ?_
  refine da_nil ?_
  refine ⟨_, 300, _, setO_same, ⟨_, size, gs, stepsOf ks, rfl, by omega, by omega, hs1, hs30, hg1, by omega, hg3, by simp [stepsOf], by have := steps_len ks; omega, steps_bnd hks, rfl, rfl⟩, by omega, fun d8 hd8 => ?_⟩
  obtain ⟨l, rfl, hrec⟩ := hd8
  refine da_nil ?_
  refine ⟨(by simp only [List.length_cons, List.length_nil]; decide), ?_⟩
  exact ⟨⟨ks, l, rfl, hks, by omega, hrec⟩, _, by omega, setO_same⟩
end
end K20
set_option maxRecDepth 100000
set_option maxHeartbeats 4000000
namespace K20
open PySem PySem.Spec PyProof.Rows L2 Evl TC
abbrev TB (B : Int) (M : Mom) : Prop := -B ≤ M.1 ∧ M.1 ≤ B + 2000000000
abbrev TB1 (B : Int) (M : Mom) : Prop := -B ≤ M.1 ∧ M.1 ≤ B + 1000000000
theorem TB1.tb {B : Int} {M : Mom} (h : TB1 B M) : TB B M := ⟨h.1, by have := h.2; omega⟩
abbrev Tks (B : Int) (s : List TC.Row) : Prop := ∀ r ∈ s, -B ≤ r.2.t ∧ r.2.t ≤ B
theorem Tks.row {B : Int} {s : List TC.Row} (h : Tks B s) {r : TC.Row} (hr : r ∈ s) {M : Mom} (e : mom r = M) : TB1 B M := by
  have := h r hr
  rw [← e]
  exact ⟨this.1, by show r.2.t ≤ _; omega⟩
theorem held_tb {B : Int} {d : TC.Row} {r : List TC.Row} {time slop : Int} (hb : Tks B (d :: r)) (h0 : 0 ≤ time) (h1 : time ≤ 1000000000) : TB1 B (held (d :: r) time slop).1 := by
  have hm : TB1 B (minM (beyond .any slop (pressOf d.2.f (d :: r)) ++ [(d.2.t + time, -1)] ++ heads (nxt r))) := by
    have hx := minM_mem (l := beyond .any slop (pressOf d.2.f (d :: r)) ++ [(d.2.t + time, -1)] ++ heads (nxt r)) (by simp)
    generalize minM (beyond .any slop (pressOf d.2.f (d :: r)) ++ [(d.2.t + time, -1)] ++ heads (nxt r)) = x at *
    simp only [List.mem_append] at hx
    rcases hx with (hx | hx) | hx
    · obtain ⟨q, hq, e, _⟩ := beyond_mem hx
      exact hb.row (pressOf_mem hq).1 e
    · rw [List.mem_singleton] at hx
      have := hb d List.mem_cons_self
      rw [hx]
      exact ⟨by show -B ≤ d.2.t + time; omega, by show d.2.t + time ≤ _; omega⟩
    · cases e2 : nxt r with
      | nil => rw [e2] at hx; cases hx
      | cons q qs =>
        rw [e2] at hx
        exact hb.row (List.mem_cons_of_mem _ (nxt_mem (by rw [e2]; exact List.mem_cons_self))) (List.mem_singleton.mp hx).symm
  rw [held_eq]
  cases eU : upMom (pressOf d.2.f (d :: r)) with
  | none => exact hm
  | some u =>
    simp only
    split
    · obtain ⟨q, hq, e, _⟩ := upMom_some eU
      exact hb.row (pressOf_mem hq).1 e
    · exact hm
theorem firstWord_tb {B : Int} {c : List Mom} {U : Option Mom} (hc : ∀ x ∈ c, TB B x) (hU : ∀ u, U = some u → TB B u) {w M} (h : firstWord c U = some (w, M)) : TB B M := by
  cases c with
  | nil =>
    cases U with
    | none => cases h
    | some u =>
      have h' : some (false, u) = some (w, M) := h
      cases h'; exact hU _ rfl
  | cons a c =>
    have ha := hc a List.mem_cons_self
    cases U with
    | none =>
      have h' : some (true, a) = some (w, M) := h
      cases h'; exact ha
    | some u =>
      have h' : (if mlt u a = true then some (false, u) else some (true, a)) = some (w, M) := h
      split at h'
      · cases h'; exact hU _ rfl
      · cases h'; exact ha
theorem upMom_tb {B : Int} {f : Int} {s : List TC.Row} (hb : Tks B s) : ∀ u, upMom (pressOf f s) = some u → TB B u := fun u e => by
  obtain ⟨q, hq, e, _⟩ := upMom_some e
  exact (hb.row (pressOf_mem hq).1 e).tb
theorem tapsV_tb {B time gap slop : Int} (h0 : 0 ≤ time) (h1 : time ≤ 1000000000) (g0 : 0 ≤ gap) (g1 : gap ≤ 1000000000) : ∀ (k : Nat) (d : TC.Row) (r : List TC.Row) (w : Bool) (M : Mom), Tks B (d :: r) → tapsV time gap slop k (d :: r) = some (w, M) → TB B M
  | 0, d, r, w, M, _, h => by cases h
  | k + 1, d, r, w, M, hb, h => by
    have g := held_tb (slop := slop) hb h0 h1
    have hl : TB B ((held (d :: r) time slop).1.1 + gap, -1) := ⟨by show -B ≤ (held (d :: r) time slop).1.1 + gap; have := g.1; omega, by show (held (d :: r) time slop).1.1 + gap ≤ _; have := g.2; omega⟩
    rw [tapsV_eq] at h
    split at h
    · split at h
      · cases h; exact g.tb
      · split at h
        · rename_i q qs hn
          have sub : ∀ x ∈ q :: qs, x ∈ d :: r := fun x hx => List.mem_cons_of_mem _ (nxt_mem (by rw [hn]; exact hx))
          split at h
          · cases h; exact hl
          · split at h
            · cases h; exact (hb.row (sub q List.mem_cons_self) rfl).tb
            · exact tapsV_tb h0 h1 g0 g1 k q qs w M (fun x hx => hb x (sub x hx)) h
        · cases h; exact hl
    · cases h; exact g.tb
theorem word_tb {B : Int} {k : TC.Kind} (hk : k.Ok) {d : TC.Row} {r : List TC.Row} {w : Bool} {M : Mom} (hb : Tks B (d :: r)) (h : wordMom k (d :: r) = some (w, M)) : TB B M := by
  cases k with
  | touch =>
    have h' : some (true, mom d) = some (w, M) := h
    cases h'; exact (hb.row List.mem_cons_self rfl).tb
  | tap t s =>
    have h' : some ((held (d :: r) t s).2, (held (d :: r) t s).1) = some (w, M) := h
    cases h'; exact (held_tb hb (by have := hk.1; omega) hk.2.1).tb
  | taps c t g s =>
    obtain ⟨_, h1, h2, h3, h4, _⟩ := hk
    exact tapsV_tb (by omega) h2 (by omega) h4 _ d r w M hb h
  | long t s =>
    have h' : some (decide ((held (d :: r) t s).1 = (d.2.t + t, -1)), (held (d :: r) t s).1) = some (w, M) := h
    cases h'; exact (held_tb hb (by have := hk.1; omega) hk.2.1).tb
  | drag a s =>
    refine firstWord_tb (fun x hx => ?_) (upMom_tb hb) h
    obtain ⟨q, hq, e, _⟩ := beyond_mem hx
    exact (hb.row (pressOf_mem hq).1 e).tb
  | pinch s =>
    have h' : pinchV (d :: r) s = some (w, M) := h
    rw [pinchV_eq] at h'
    split at h'
    · exact firstWord_tb (fun _ h => by cases h) (upMom_tb hb) h'
    · rename_i q qs hn
      have sub : ∀ x ∈ q :: qs, x ∈ d :: r := fun x hx => List.mem_cons_of_mem _ (nxt_mem (by rw [hn]; exact hx))
      have hb2 : Tks B (q :: qs) := fun x hx => hb x (sub x hx)
      split at h'
      · exact firstWord_tb (fun _ h => by cases h) (upMom_tb hb) h'
      · refine firstWord_tb (fun x hx => ?_) (fun u hu => ?_) h'
        · obtain ⟨p, hp, e, _⟩ := pinchLoop_mem hx
          have hp' := (sortR_perm _).mem_iff.mp hp
          rcases List.mem_append.mp hp' with z | z
          · exact (hb.row (pressOf_mem z).1 e).tb
          · exact (hb.row (sub p (pressOf_mem z).1) e).tb
        · have h1 := upMom_tb (f := d.2.f) hb
          have h2 := upMom_tb (f := q.2.f) hb2
          cases em : upMom (pressOf q.2.f (q :: qs)) with
          | none => rw [em] at hu; exact h1 u hu
          | some m =>
            rw [em] at hu
            cases eU : upMom (pressOf d.2.f (d :: r)) with
            | none => rw [eU] at hu; cases hu; exact h2 _ em
            | some v =>
              rw [eU] at hu
              have hu' : (if mlt m v = true then some m else some v) = some u := hu
              split at hu'
              · cases hu'; exact h2 _ em
              · cases hu'; exact h1 _ eU
theorem verdict_tb {B : Int} {k : TC.Kind} (hk : k.Ok) {l : List Ev} (hne : l ≠ []) (hb : ∀ e ∈ l, -B ≤ e.t ∧ e.t ≤ B) {w : Bool} {t : Int} {o : Option Int} (h : TC.verdict k l = some (w, t, o)) : -B ≤ t ∧ t ≤ B + 2000000000 := by
  cases l with
  | nil => exact absurd rfl hne
  | cons e l =>
    have h' : finish (wordMom k ((0, e) :: enumR 1 l)) = some (w, t, o) := h
    cases hw : wordMom k ((0, e) :: enumR 1 l) with
    | none => rw [hw] at h'; cases h'
    | some v =>
      obtain ⟨w', M⟩ := v
      rw [hw] at h'
      have h2 : some (w', M.1, if M.2 = -1 then none else some M.2) = some (w, t, o) := h'
      have tb := word_tb hk (d := (0, e)) (r := enumR 1 l) (fun r hr => hb r.2 (enumR_mem (k := 0) (l := e :: l) hr).2.2) hw
      cases h2
      exact tb
theorem res_eqv (a b : Option (Bool × Int × Option Int)) : PyData.eqv (resD a) (resD b) = decide (a = b) := by
  have hw : ∀ x y : Bool, decide (wordS x = wordS y) = decide (x = y) := fun x y => by cases x <;> cases y <;> decide +kernel
  cases a with
  | none =>
    cases b with
    | none => rfl
    | some b => obtain ⟨w', t', o'⟩ := b; simp [resD, PyData.eqv]
  | some a =>
    obtain ⟨w, t, o⟩ := a
    cases b with
    | none => simp [resD, PyData.eqv]
    | some b =>
      obtain ⟨w', t', o'⟩ := b
      cases o with
      | none =>
        cases o' with
        | none =>
          simp only [resD, PyData.eqv, PyData.eqvAll, Bool.beq_eq_decide_eq, hw]
          by_cases h1 : w = w' <;> by_cases h2 : t = t' <;> simp [h1, h2]
        | some i' =>
          simp only [resD, PyData.eqv, PyData.eqvAll, Bool.beq_eq_decide_eq, hw]
          by_cases h1 : w = w' <;> by_cases h2 : t = t' <;> simp [h1, h2]
      | some i =>
        cases o' with
        | none =>
          simp only [resD, PyData.eqv, PyData.eqvAll, Bool.beq_eq_decide_eq, hw]
          by_cases h1 : w = w' <;> by_cases h2 : t = t' <;> simp [h1, h2]
        | some i' =>
          simp only [resD, PyData.eqv, PyData.eqvAll, Bool.beq_eq_decide_eq, hw]
          by_cases h1 : w = w' <;> by_cases h2 : t = t' <;> by_cases h3 : i = i' <;> simp [h1, h2, h3]
theorem res_shaped (a : Option (Bool × Int × Option Int)) : SeqAt.shaped (resD a) = true := by
  have hw : ∀ x : Bool, PyData.strOk (wordS x) = true := fun x => by cases x <;> decide +kernel
  cases a with
  | none => decide +kernel
  | some a =>
    obtain ⟨w, t, o⟩ := a
    cases o with
    | none => exact shaped_tuple (by simp [PyData.canLayAll0, PyData.canLay0, hw]) (by simp [PyData.depthAll, PyData.depth])
    | some i => exact shaped_tuple (by simp [PyData.canLayAll0, PyData.canLay0, hw]) (by simp [PyData.depthAll, PyData.depth])
section
variable {P : Program} {w : World} {K : PySem.W.Frag} {mg : Str → Option Value} {base : Heap}
abbrev sLate : Stmt := top 48
theorem scLate : FnScope ["_law_due", "_law_many", "_law_plus"] ["_law_due", "_law_many", "_law_plus"] (defScope sLate) := ⟨rfl, rfl, rfl, by decide +kernel, rfl, by decide +kernel, by decide +kernel⟩
def rLate : List PyData → PyData → Prop := fun ds d => ∃ (v : Option (Bool × Int × Option Int)) (many plus : Int), ds = [resD v, .int many, .int plus] ∧ (∀ w t o, v = some (w, t, o) → bnd 1000000000000000000000 t) ∧ bnd 1000000000000000000000 many ∧ d = resD (lateP many plus v)
theorem ok_late {f : Addr} {fd : FuncData} (F : Fun K "_law_late" "_law_late" sLate f fd) : FnOk P w K mg base CX0 1 f fd ["_law_due", "_law_many", "_law_plus"] (spP rLate) := by
  have sc := scLate
  refine fnP F scLate (by rintro ds d ⟨v, many, plus, rfl, _, _, rfl⟩; rfl) (fun cdv A outer s H E hr ds d h => ?_)
  obtain ⟨v, many, plus, rfl, hv, hm, rfl⟩ := h
  refine dss_one ?_
  refine ds_ret ?_
  refine de_if ?_
  refine dt_cmp ?_
  refine dc_isN ?_
  refine de_name (i := 0) rfl (.inl rfl) rfl ?_
  refine ⟨_, rfl, ?_⟩
  cases v with
  | none =>
    refine iteT ?_
    refine de_non ?_
    rfl
  | some v =>
    obtain ⟨vw, vt, vo⟩ := v
    refine iteF ?_
    refine de_tup ?_
    refine da_cons ?_
    refine de_ix ?_
    refine de_name (i := 0) rfl (.inl rfl) rfl ?_
    refine de_int ?_
    refine ⟨_, _, _, (by first | exact .inr rfl | exact .inl rfl), rfl, rfl, ?_⟩
    refine da_cons ?_
    refine de_add ?_
    refine de_mul ?_
    refine de_ix ?_
    refine de_name (i := 0) rfl (.inl rfl) rfl ?_
    refine de_int ?_
    refine ⟨_, _, _, (by first | exact .inr rfl | exact .inl rfl), rfl, rfl, ?_⟩
    refine de_name (i := 1) rfl (.inl rfl) rfl ?_
    refine ⟨_, _, rfl, rfl, cmul_ok (abs_lt (B := 1000000000000000000000) (hv _ _ _ rfl).1 (hv _ _ _ rfl).2 (by decide)) (abs_lt (B := 1000000000000000000000) hm.1 hm.2 (by decide)), ?_⟩
    refine de_name (i := 2) rfl (.inl rfl) rfl ?_
    refine ⟨_, _, rfl, rfl, ?_⟩
    refine da_cons ?_
    refine de_ix ?_
    refine de_name (i := 0) rfl (.inl rfl) rfl ?_
    refine de_int ?_
    refine ⟨_, _, _, (by first | exact .inr rfl | exact .inl rfl), rfl, rfl, ?_⟩
    refine da_nil ?_
    refine ⟨(by simp only [List.length_cons, List.length_nil]; decide), ?_⟩
    rfl
abbrev sPlaced : Stmt := top 46
theorem scPlaced : FnScope ["_law_record_here", "_law_way", "_law_by", "_law_found", "_law_tick", "_law_finger", "_law_word", "_law_x", "_law_y"] ["_law_record_here", "_law_way", "_law_by"] (defScope sPlaced) := ⟨rfl, rfl, rfl, by decide +kernel, rfl, by decide +kernel, by decide +kernel⟩
def placeE (way by_ : Int) (e : Ev) : Ev := ⟨e.t, e.f, e.w, (place4 way by_ e.p).1, (place4 way by_ e.p).2⟩
theorem place_at {way : Nat} (h : way < 4) (by_ : Int) (p : Pl) : atD [plD (by_ - p.1, p.2), plD (p.1, by_ - p.2), plD (p.2, p.1), plD (p.1 + by_, p.2 - by_)] (way : Int) = some (plD (place4 way by_ p)) := by
  rcases way with _ | _ | _ | _ | way
  · rfl
  · rfl
  · rfl
  · rfl
  · omega
def rPlaced : List PyData → PyData → Prop := fun ds d => ∃ (l : List Ev) (way : Nat) (by_ : Int), ds = [.list (l.map evD), .int way, .int by_] ∧ way < 4 ∧ l.length ≤ 1000 ∧ d = .list ((l.map (placeE way by_)).map evD)
theorem ok_placed {f : Addr} {fd : FuncData} (F : Fun K "_law_placed" "_law_placed" sPlaced f fd) : FnOk P w K mg base CX0 1 f fd ["_law_record_here", "_law_way", "_law_by"] (spP rPlaced) := by
  have sc := scPlaced
  refine fnP F scPlaced (by rintro ds d ⟨l, way, by_, rfl, _, _, rfl⟩; rfl) (fun cdv A outer s H E hr ds d h => ?_)
  obtain ⟨l, way, by_, rfl, hw, hlen, rfl⟩ := h
  refine dss_cons ?_
  refine ds_setO (i := 3) sc.nd rfl (.inl rfl) ⟨_, rfl⟩ ?_
  refine nl_lst (da_nil ⟨by decide, fun p hp => ?_⟩)
  refine dss_cons ?_
  refine ds_forL .never rfl ?_
  refine de_name (i := 0) rfl (.inl rfl) rfl ?_
  refine ⟨_, rfl, fun k Γ ω => ∃ o4 o5 o6 o7 o8 : Option Slot, Γ = [some (.dat (.list (l.map evD))), some (.dat (.int (way : Int))), some (.dat (.int by_)), some (.own p), o4, o5, o6, o7, o8] ∧ ω = setO ow0 p (.lst (((l.take k).map (placeE way by_)).map evD)), ⟨none, none, none, none, none, rfl, rfl⟩, ?_, ?_⟩
  · rintro k d Γ ω hk ⟨o4, o5, o6, o7, o8, rfl, rfl⟩
    rw [List.getElem?_map] at hk
    cases hz : l[k]? with
    | none => rw [hz] at hk; cases hk
    | some e =>
    rw [hz] at hk
    have e0 : evD e = d := by simpa using hk
    subst e0
    have hkl : k < l.length := (List.getElem?_eq_some_iff.mp hz).1
    refine dg_tup rfl rfl (dgs_cons (dg_name (i := 4) sc.nd rfl (.inl rfl) ⟨_, rfl⟩ (dgs_cons (dg_name (i := 5) sc.nd rfl (.inl rfl) ⟨_, rfl⟩ (dgs_cons (dg_name (i := 6) sc.nd rfl (.inl rfl) ⟨_, rfl⟩ (dgs_cons (dg_tup rfl rfl (dgs_cons (dg_name (i := 7) sc.nd rfl (.inl rfl) ⟨_, rfl⟩ (dgs_cons (dg_name (i := 8) sc.nd rfl (.inl rfl) ⟨_, rfl⟩ (dgs_nil (dgs_nil ?_))))))))))))))
    refine dss_one ?_
    refine ds_append (i := 3) rfl (.inl rfl) rfl ?_ setO_same
    refine de_tup ?_
    refine da_cons ?_
    refine de_name (i := 4) rfl (.inl rfl) rfl ?_
    refine da_cons ?_
    refine de_name (i := 5) rfl (.inl rfl) rfl ?_
    refine da_cons ?_
    refine de_name (i := 6) rfl (.inl rfl) rfl ?_
    refine da_cons ?_
    refine de_ix ?_
    refine de_lst ?_
    refine da_cons ?_
    refine de_tup ?_
    refine da_cons ?_
    refine de_sub ?_
    refine de_name (i := 2) rfl (.inl rfl) rfl ?_
    refine de_name (i := 7) rfl (.inl rfl) rfl ?_
    refine ⟨_, _, rfl, rfl, ?_⟩
    refine da_cons ?_
    refine de_name (i := 8) rfl (.inl rfl) rfl ?_
    refine da_nil ?_
    refine ⟨(by simp only [List.length_cons, List.length_nil]; decide), ?_⟩
    refine da_cons ?_
    refine de_tup ?_
    refine da_cons ?_
    refine de_name (i := 7) rfl (.inl rfl) rfl ?_
    refine da_cons ?_
    refine de_sub ?_
    refine de_name (i := 2) rfl (.inl rfl) rfl ?_
    refine de_name (i := 8) rfl (.inl rfl) rfl ?_
    refine ⟨_, _, rfl, rfl, ?_⟩
    refine da_nil ?_
    refine ⟨(by simp only [List.length_cons, List.length_nil]; decide), ?_⟩
    refine da_cons ?_
    refine de_tup ?_
    refine da_cons ?_
    refine de_name (i := 8) rfl (.inl rfl) rfl ?_
    refine da_cons ?_
    refine de_name (i := 7) rfl (.inl rfl) rfl ?_
    refine da_nil ?_
    refine ⟨(by simp only [List.length_cons, List.length_nil]; decide), ?_⟩
    refine da_cons ?_
    refine de_tup ?_
    refine da_cons ?_
    refine de_add ?_
    refine de_name (i := 7) rfl (.inl rfl) rfl ?_
    refine de_name (i := 2) rfl (.inl rfl) rfl ?_
    refine ⟨_, _, rfl, rfl, ?_⟩
    refine da_cons ?_
    refine de_sub ?_
    refine de_name (i := 8) rfl (.inl rfl) rfl ?_
    refine de_name (i := 2) rfl (.inl rfl) rfl ?_
    refine ⟨_, _, rfl, rfl, ?_⟩
    refine da_nil ?_
    refine ⟨(by simp only [List.length_cons, List.length_nil]; decide), ?_⟩
    refine da_nil ?_
    refine ⟨(by simp only [List.length_cons, List.length_nil]; decide), ?_⟩
    refine de_name (i := 1) rfl (.inl rfl) rfl ?_
    refine ⟨_, _, _, .inl rfl, rfl, place_at hw by_ e.p, ?_⟩
    refine da_nil ?_
    refine ⟨(by simp only [List.length_cons, List.length_nil]; decide), ?_⟩
    refine ⟨_, setO_same, by rw [List.length_map, List.length_map, List.length_take]; omega, ?_⟩
    refine ⟨_, _, _, _, _, rfl, ?_⟩
    rw [setO_setO, take_snoc hz, List.map_append, List.map_append]; rfl
  · rintro Γ ω ⟨o4, o5, o6, o7, o8, rfl, rfl⟩
    rw [List.length_map, List.take_length]
    refine dss_one ?_
    refine ds_ret ?_
    refine de_own (i := 3) rfl (.inl rfl) rfl setO_same ?_
    rfl
end
end K20
set_option maxRecDepth 100000
set_option maxHeartbeats 4000000
namespace K20
open PySem PySem.Spec PyProof.Rows L2 Evl TC
theorem rgc_up {i j c : Int} (hi : 0 ≤ i) (hi2 : i ≤ 100000) (hj : 0 ≤ j) (hj2 : j ≤ 100000) (hc : 1 ≤ c) (hc2 : c ≤ 100000) : ∃ n : Nat, RgC i j c n ∧ n ≤ 100000 ∧ ∀ k : Nat, k < n → i + (k : Int) * c < j := by
  have e : Builtin.Range.rangeSize i j c = if i < j then (j - i - 1) / c + 1 else 0 := by
    unfold Builtin.Range.rangeSize
    rw [if_pos (by omega)]
  by_cases h : i < j
  · rw [if_pos h] at e
    have q0 : 0 ≤ (j - i - 1) / c := Int.ediv_nonneg (by omega) (by omega)
    have q1 : (j - i - 1) / c ≤ j - i - 1 := Int.ediv_le_self _ (by omega)
    have q2 : (j - i - 1) / c * c ≤ j - i - 1 := Int.ediv_mul_le _ (by omega)
    have q3 : 0 ≤ (j - i - 1) / c * c := Int.mul_nonneg q0 (by omega)
    have hsm : Builtin.Range.small i j c = true := by
      unfold Builtin.Range.small
      rw [e, if_pos (show c > 0 by omega)]
      have q4 : ((j - i - 1) / c + 1) * c = (j - i - 1) / c * c + c := by rw [Int.add_mul, Int.one_mul]
      simp only [Builtin.Range.rangeFitsLong, Bool.and_eq_true, Bool.or_eq_true, decide_eq_true_eq, beq_iff_eq, q4]
      omega
    refine ⟨((j - i - 1) / c + 1).toNat, ⟨by omega, by omega, hsm, by rw [e]; omega⟩, by omega, fun k hk => ?_⟩
    have hk2 : (k : Int) ≤ (j - i - 1) / c := by omega
    have := Int.mul_le_mul_of_nonneg_right hk2 (by omega : (0 : Int) ≤ c)
    omega
  · rw [if_neg h] at e
    have hsm : Builtin.Range.small i j c = true := by
      unfold Builtin.Range.small
      rw [e, if_pos (show c > 0 by omega)]
      simp only [Builtin.Range.rangeFitsLong, Bool.and_eq_true, Bool.or_eq_true, decide_eq_true_eq, beq_iff_eq, Int.zero_mul]
      omega
    exact ⟨0, ⟨by omega, by omega, hsm, by rw [e]; rfl⟩, Nat.zero_le _, fun k hk => absurd hk (Nat.not_lt_zero _)⟩
section
variable {X : Cx} {Γ : Gam} {ω : Ow} {D : DN} {pos : Pos}
theorem ds_forR3 {tg a b c : Expr} {body : List Stmt} {p pos2 : Pos} (hp : PassesOwn (model X.prog X.w) X.A X.env X.xe) (hc : X.calm = true) (hg : Gl X "range") (hm : X.mg "range" = none) (h : DE X a Γ ω fun x ω1 => DE X b Γ ω1 fun y ω2 => DE X c Γ ω2 fun z ω3 => ∃ i j k : Int, x = .int i ∧ y = .int j ∧ z = .int k ∧ 0 ≤ i ∧ i ≤ 100000 ∧ 0 ≤ j ∧ j ≤ 100000 ∧ 1 ≤ k ∧ k ≤ 100000 ∧ ∃ Pv : Gam → Ow → Prop, Pv Γ ω3 ∧
      (∀ (q : Int) Γ' ω', i ≤ q → q < j → Pv Γ' ω' → DG X tg (.int q) Γ' fun Γ2 => DSs X body { D with nx := Pv, ct := Pv, bk := D.nx } Γ2 ω') ∧ ∀ Γ' ω', Pv Γ' ω' → D.nx Γ' ω')
    (s1 : S1 X a [b, c] := by rfl) (s2 : S1 X b [c] := by rfl) (s3 : S1 X c [] := by rfl) (hs0 : starEach [a, b, c] X.env = (false, eval a X.env) :: starEach [b, c] X.env := by rfl) (hpl : (backTo pos2 (starEach [b, c] X.env)).any (·.1) = false := by rfl) (hs : ∀ x, foldedSetIterable (.Call (.Name "range" p) [a, b, c] [] pos2) X.env x = pure x := by intro _; rfl) : DS X (.For tg (.Call (.Name "range" p) [a, b, c] [] pos2) body [] pos) D Γ ω := fun B σ G H S => by
  refine ws_of (ps_for hp hc (pi_range3 hg hm (pa_cons pe_we (pa_cons pe_we (pa_cons pe_we pa_nil s3) s2) s1) hs0 hpl) pg_we pss_we hs) (h B σ G H S _ fun d1 v1 G1 H1 ω1 h1 S1' e1 q1 => h1 B σ G1 H1 S1' _ fun d2 v2 G2 H2 ω2 h2 S2 e2 q2 => h2 B σ G2 H2 S2 _ fun d3 v3 G3 H3 ω3 h3 S3 e3 q3 => ?_)
  obtain ⟨i, j, k, rfl, rfl, rfl, i0, i1, j0, j1, k0, k1, Pv, h0, hstep, hend⟩ := h3
  cases q1
  cases q2
  cases q3
  obtain ⟨n, hR, hn, hlt⟩ := rgc_up i0 i1 j0 j1 k0 k1
  refine ⟨i, j, k, n, rfl, hR, for_rangeC (lo := i) (c := k) (n := n) (fun _ σ' H' => ∃ G' Γ' ω', SD (reB G3 H3 ω3) G' H' σ' Γ' ω' ∧ Pv Γ' ω') ⟨G3, Γ, ω3, S3.re, h0⟩ ?_ ?_⟩
  · rintro q σ' H' hq ⟨G', Γ', ω', S', hPv⟩
    have hge : i ≤ i + (q : Int) * k := by have := Int.mul_nonneg (Int.natCast_nonneg q) (by omega : (0 : Int) ≤ k); omega
    refine hstep _ Γ' ω' hge (hlt q hq) hPv _ σ' G' H' ω' _ S' (.int _) _ fun σ3 Γ3 h3 S4 => ?_
    refine wss_mono (h3 _ σ3 G' H' S4) (fun σ4 H4 ⟨G4, Γ4, ω4, S4, q4⟩ => ⟨G4, Γ4, ω4, S4, q4⟩) (fun v H4 ⟨G4, σ4, Γ4, ω4, d4, S4, q4, r4⟩ => ⟨G4, σ4, Γ4, ω4, d4, S3.trans S4, q4, r4⟩) (fun σ4 H4 ⟨G4, Γ4, ω4, S4, q4⟩ => ⟨G4, Γ4, ω4, S3.trans S4, q4⟩) (fun σ4 H4 ⟨G4, Γ4, ω4, S4, q4⟩ => ⟨G4, Γ4, ω4, S4, q4⟩)
  · rintro σ' H' ⟨G', Γ', ω', S', hPv⟩
    exact ⟨G', Γ', ω', S3.trans S', hend Γ' ω' hPv⟩
end
theorem kept_at {k : TC.Kind} (hk : k.Ok) {l : List Ev} (hv : Valid l) {c : Nat} {e : Ev} (hc : l[c]? = some e) (h0 : 0 < c) :
    (∀ w t o, TC.verdict k l = some (w, t, o) → (match o with | some i => i < (c : Int) | none => t ≤ e.t) → TC.verdict k (l.take c) = some (w, t, o)) ∧ (TC.verdict k l = none → TC.verdict k (l.take c) = none) := by
  have hl := split_at hc
  have hcl : c < l.length := (List.getElem?_eq_some_iff.mp hc).1
  have hlen : (l.take c).length = c := by rw [List.length_take]; omega
  have := TC.kept hk (a := l.take c) (b := e) (z := l.drop (c + 1)) (by intro z; rw [z] at hlen; simp at hlen; omega) (by rw [← hl]; exact hv.ups)
  rw [← hl, hlen] at this
  exact this
section
variable {X : Cx} {Γ : Gam} {ω : Ow} {e : Expr}
theorem de_someB {P : PyData → Ow → Prop} {kn : Bool} (h : DE X e Γ ω fun d ω' => d = .bool kn ∧ ω' = ω) (p : P (.bool kn) ω) : DE X e Γ ω P := de_cut h p
end
section
variable {P : Program} {w : World} {K : PySem.W.Frag} {mg : Str → Option Value} {base : Heap}
abbrev sKept : Stmt := top 45
theorem scKept : FnScope ["_law_kind_here", "_law_record_here", "_law_due", "_law_cut", "_law_is_known"] ["_law_kind_here", "_law_record_here"] (defScope sKept) := ⟨rfl, rfl, rfl, by decide +kernel, rfl, by decide +kernel, by decide +kernel⟩
def rKept : List PyData → PyData → Prop := fun ds d => ∃ (k : TC.Kind) (l : List Ev), ds = [kindD k, .list (l.map evD)] ∧ k.Ok ∧ Valid l ∧ l ≠ [] ∧ d = .bool true
theorem ok_kept {f : Addr} {fd : FuncData} (T : Txt mg) (Cv : Cal P w K mg base 7 "verdict" (spP rV)) (F : Fun K "_law_kept_right" "_law_kept_right" sKept f fd) : FnOk P w K mg base CX0 8 f fd ["_law_kind_here", "_law_record_here"] (spP rKept) := by
  have sc := scKept
  refine fnP F scKept (by rintro ds d ⟨k, l, rfl, _, _, _, rfl⟩; rfl) (fun cdv A outer s H E hr ds d h => ?_)
  obtain ⟨k, l, rfl, hk, hv, hne, rfl⟩ := h
  have hl400 := hv.len
  refine dss_cons ?_
  refine ds_set (i := 2) sc.nd rfl (.inl rfl) ⟨_, rfl⟩ ?_
  refine de_call Cv (hr.mono (by decide)) rfl ?_
  refine da_cons ?_
  refine de_name (i := 0) rfl (.inl rfl) rfl ?_
  refine da_cons ?_
  refine de_name (i := 1) rfl (.inl rfl) rfl ?_
  refine da_nil ?_
  refine ⟨_, ⟨k, l, rfl, hk, hv, hne, rfl⟩, ?_⟩
  refine dss_cons ?_
  refine ds_forR3 .never rfl rfl T.range ?_
  refine de_int ?_
  refine de_len rfl T.len ?_
  refine de_name (i := 1) rfl (.inl rfl) rfl ?_
  refine ⟨_, .inl rfl, ?_⟩
  refine de_add ?_
  refine de_int ?_
  refine de_fdiv ?_
  refine de_len rfl T.len ?_
  refine de_name (i := 1) rfl (.inl rfl) rfl ?_
  refine ⟨_, .inl rfl, ?_⟩
  rw [List.length_map]
  refine de_int ?_
  refine ⟨_, _, rfl, rfl, cdiv_ok (by decide) (by decide), ?_⟩
  refine ⟨_, _, rfl, rfl, ?_⟩
  refine ⟨_, _, _, rfl, rfl, rfl, by decide, by decide, by omega, by omega, by omega, by omega, fun Γ ω => (∃ o3 o4 : Option Slot, Γ = [some (.dat (kindD k)), some (.dat (.list (l.map evD))), some (.dat (resD (TC.verdict k l))), o3, o4]) ∧ ω = ow0, ⟨⟨none, none, rfl⟩, rfl⟩, ?_, ?_⟩
  · rintro q Γ ω hq1 hq2 ⟨⟨o3, o4, rfl⟩, rfl⟩
    obtain ⟨c, rfl⟩ : ∃ c : Nat, q = c := ⟨q.toNat, by omega⟩
    have hcl : c < l.length := by omega
    obtain ⟨e, hz⟩ : ∃ e, l[c]? = some e := ⟨_, List.getElem?_eq_getElem hcl⟩
    have hkept := kept_at hk hv hz (by omega)
    have hvt : Valid (l.take c) := Valid.take (b := l.drop c) (by rw [List.take_append_drop]; exact hv)
    have hnt : l.take c ≠ [] := fun z => by
      have hlen : (l.take c).length = c := by rw [List.length_take]; omega
      rw [z] at hlen; simp at hlen; omega
    refine dg_name (i := 3) sc.nd rfl (.inl rfl) ⟨_, rfl⟩ ?_
    cases hvd : TC.verdict k l with
    | none =>
      refine dss_cons ?_
      refine ds_set (i := 4) sc.nd rfl (.inl rfl) ⟨_, rfl⟩ ?_
      refine de_and3 ?_
      refine de_cmp ?_
      refine dc_notN ?_
      refine de_name (i := 2) rfl (.inl rfl) rfl ?_
      refine ⟨_, rfl, ?_⟩
      refine iteF ?_
      refine dss_cons ?_
      refine ds_set (i := 4) sc.nd rfl (.inl rfl) ⟨_, rfl⟩ ?_
      refine de_or ?_
      refine de_name (i := 4) rfl (.inl rfl) rfl ?_
      refine ⟨_, rfl, ?_⟩
      refine iteF ?_
      refine de_and3 ?_
      refine de_cmp ?_
      refine dc_notN ?_
      refine de_name (i := 2) rfl (.inl rfl) rfl ?_
      refine ⟨_, rfl, ?_⟩
      refine iteF ?_
      refine dss_cons ?_
      refine ds_if ?_
      refine dt_and ?_
      refine dt_val ?_
      refine de_name (i := 4) rfl (.inl rfl) rfl ?_
      refine ⟨_, rfl, ?_⟩
      refine iteF ?_
      refine iteF ?_
      refine dss_nil ?_
      refine dss_one ?_
      refine ds_if ?_
      refine dt_and ?_
      refine dt_cmp ?_
      refine dc_isN ?_
      refine de_name (i := 2) rfl (.inl rfl) rfl ?_
      refine ⟨_, rfl, ?_⟩
      refine iteT ?_
      refine dt_cmp ?_
      refine dc_notN ?_
      refine de_call Cv (hr.mono (by decide)) rfl ?_
      refine da_cons ?_
      refine de_name (i := 0) rfl (.inl rfl) rfl ?_
      refine da_cons ?_
      refine de_slL ?_
      refine de_name (i := 1) rfl (.inl rfl) rfl ?_
      refine de_name (i := 3) rfl (.inl rfl) rfl ?_
      refine ⟨_, rfl, ?_⟩
      refine ⟨_, rfl, ?_⟩
      rw [cutD_take (by rw [List.length_map]; omega), ← List.map_take]
      refine da_nil ?_
      refine ⟨_, ⟨k, l.take c, rfl, hk, hvt, hnt, rfl⟩, ?_⟩
      refine ⟨_, rfl, ?_⟩
      rw [hkept.2 hvd]
      refine iteF ?_
      refine dss_nil ?_
      exact ⟨⟨_, _, rfl⟩, rfl⟩
    | some v =>
      obtain ⟨vw, vt, vo⟩ := v
      cases vo with
      | none =>
        refine dss_cons ?_
        refine ds_set (i := 4) sc.nd rfl (.inl rfl) ⟨_, rfl⟩ ?_
        refine de_and3 ?_
        refine de_cmp ?_
        refine dc_notN ?_
        refine de_name (i := 2) rfl (.inl rfl) rfl ?_
        refine ⟨_, rfl, ?_⟩
        refine iteT ?_
        refine de_cmp ?_
        refine dc_notN ?_
        refine de_ix ?_
        refine de_name (i := 2) rfl (.inl rfl) rfl ?_
        refine de_int ?_
        refine ⟨_, _, _, (by first | exact .inr rfl | exact .inl rfl), rfl, rfl, ?_⟩
        refine ⟨_, rfl, ?_⟩
        refine iteF ?_
        refine dss_cons ?_
        refine ds_set (i := 4) sc.nd rfl (.inl rfl) ⟨_, rfl⟩ ?_
        refine de_or ?_
        refine de_name (i := 4) rfl (.inl rfl) rfl ?_
        refine ⟨_, rfl, ?_⟩
        refine iteF ?_
        refine de_and3 ?_
        refine de_cmp ?_
        refine dc_notN ?_
        refine de_name (i := 2) rfl (.inl rfl) rfl ?_
        refine ⟨_, rfl, ?_⟩
        refine iteT ?_
        refine de_cmp ?_
        refine dc_isN ?_
        refine de_ix ?_
        refine de_name (i := 2) rfl (.inl rfl) rfl ?_
        refine de_int ?_
        refine ⟨_, _, _, (by first | exact .inr rfl | exact .inl rfl), rfl, rfl, ?_⟩
        refine ⟨_, rfl, ?_⟩
        refine iteT ?_
        refine de_cmp ?_
        refine dc_ge ?_
        refine de_ix ?_
        refine de_ix ?_
        refine de_name (i := 1) rfl (.inl rfl) rfl ?_
        refine de_name (i := 3) rfl (.inl rfl) rfl ?_
        refine ⟨_, _, _, (by first | exact .inr rfl | exact .inl rfl), rfl, atD_map hz, ?_⟩
        refine de_int ?_
        refine ⟨_, _, _, (by first | exact .inr rfl | exact .inl rfl), rfl, rfl, ?_⟩
        refine de_ix ?_
        refine de_name (i := 2) rfl (.inl rfl) rfl ?_
        refine de_int ?_
        refine ⟨_, _, _, (by first | exact .inr rfl | exact .inl rfl), rfl, rfl, ?_⟩
        refine ⟨_, _, rfl, rfl, ?_⟩
        refine dss_cons ?_
        refine ds_if ?_
        refine dt_and ?_
        refine dt_val ?_
        refine de_name (i := 4) rfl (.inl rfl) rfl ?_
        refine ⟨_, rfl, ?_⟩
        refine ite2 (fun hb => ?_) (fun hb => ?_)
        · skip
          refine dt_cmp ?_
          refine dc_neD (Room.lt hr (n := 64) (by decide)) ?_
          refine de_call Cv (hr.mono (by decide)) rfl ?_
          refine da_cons ?_
          refine de_name (i := 0) rfl (.inl rfl) rfl ?_
          refine da_cons ?_
          refine de_slL ?_
          refine de_name (i := 1) rfl (.inl rfl) rfl ?_
          refine de_name (i := 3) rfl (.inl rfl) rfl ?_
          refine ⟨_, rfl, ?_⟩
          refine ⟨_, rfl, ?_⟩
          rw [cutD_take (by rw [List.length_map]; omega), ← List.map_take]
          refine da_nil ?_
          refine ⟨_, ⟨k, l.take c, rfl, hk, hvt, hnt, rfl⟩, ?_⟩
          refine de_name (i := 2) rfl (.inl rfl) rfl ?_
          refine ⟨res_shaped _, res_shaped (some (vw, vt, none)), ?_⟩
          refine ⟨_, rfl, ?_⟩
          rw [hkept.1 vw vt none hvd (of_decide_eq_true hb), show PyData.eqv (resD (some (vw, vt, none))) (resD (some (vw, vt, none))) = true by rw [res_eqv, decide_eq_true rfl]]
          refine iteF ?_
          refine dss_nil ?_
          refine dss_one ?_
          refine ds_if ?_
          refine dt_and ?_
          refine dt_cmp ?_
          refine dc_isN ?_
          refine de_name (i := 2) rfl (.inl rfl) rfl ?_
          refine ⟨_, rfl, ?_⟩
          refine iteF ?_
          refine iteF ?_
          refine dss_nil ?_
          exact ⟨⟨_, _, rfl⟩, rfl⟩
        · refine iteF ?_
          refine dss_nil ?_
          refine dss_one ?_
          refine ds_if ?_
          refine dt_and ?_
          refine dt_cmp ?_
          refine dc_isN ?_
          refine de_name (i := 2) rfl (.inl rfl) rfl ?_
          refine ⟨_, rfl, ?_⟩
          refine iteF ?_
          refine iteF ?_
          refine dss_nil ?_
          exact ⟨⟨_, _, rfl⟩, rfl⟩
      | some vi =>
        refine dss_cons ?_
        refine ds_set (i := 4) sc.nd rfl (.inl rfl) ⟨_, rfl⟩ ?_
        refine de_and3 ?_
        refine de_cmp ?_
        refine dc_notN ?_
        refine de_name (i := 2) rfl (.inl rfl) rfl ?_
        refine ⟨_, rfl, ?_⟩
        refine iteT ?_
        refine de_cmp ?_
        refine dc_notN ?_
        refine de_ix ?_
        refine de_name (i := 2) rfl (.inl rfl) rfl ?_
        refine de_int ?_
        refine ⟨_, _, _, (by first | exact .inr rfl | exact .inl rfl), rfl, rfl, ?_⟩
        refine ⟨_, rfl, ?_⟩
        refine iteT ?_
        refine de_cmp ?_
        refine dc_lt ?_
        refine de_ix ?_
        refine de_name (i := 2) rfl (.inl rfl) rfl ?_
        refine de_int ?_
        refine ⟨_, _, _, (by first | exact .inr rfl | exact .inl rfl), rfl, rfl, ?_⟩
        refine de_name (i := 3) rfl (.inl rfl) rfl ?_
        refine ⟨_, _, rfl, rfl, ?_⟩
        refine dss_cons ?_
        refine ds_set (i := 4) sc.nd rfl (.inl rfl) ⟨_, rfl⟩ ?_
        refine de_someB (kn := decide (vi < (c : Int))) ?_ ?_
        · refine de_or ?_
          refine de_name (i := 4) rfl (.inl rfl) rfl ?_
          refine ⟨_, rfl, ?_⟩
          refine ite2 (fun hb => ?_) (fun hb => ?_)
          · exact ⟨by rw [hb], rfl⟩
          · skip
            refine de_and3 ?_
            refine de_cmp ?_
            refine dc_notN ?_
            refine de_name (i := 2) rfl (.inl rfl) rfl ?_
            refine ⟨_, rfl, ?_⟩
            refine iteT ?_
            refine de_cmp ?_
            refine dc_isN ?_
            refine de_ix ?_
            refine de_name (i := 2) rfl (.inl rfl) rfl ?_
            refine de_int ?_
            refine ⟨_, _, _, (by first | exact .inr rfl | exact .inl rfl), rfl, rfl, ?_⟩
            refine ⟨_, rfl, ?_⟩
            refine iteF ?_
            exact ⟨by rw [Bool.eq_false_iff.mpr hb], rfl⟩
        refine dss_cons ?_
        refine ds_if ?_
        refine dt_and ?_
        refine dt_val ?_
        refine de_name (i := 4) rfl (.inl rfl) rfl ?_
        refine ⟨_, rfl, ?_⟩
        refine ite2 (fun hb => ?_) (fun hb => ?_)
        · skip
          refine dt_cmp ?_
          refine dc_neD (Room.lt hr (n := 64) (by decide)) ?_
          refine de_call Cv (hr.mono (by decide)) rfl ?_
          refine da_cons ?_
          refine de_name (i := 0) rfl (.inl rfl) rfl ?_
          refine da_cons ?_
          refine de_slL ?_
          refine de_name (i := 1) rfl (.inl rfl) rfl ?_
          refine de_name (i := 3) rfl (.inl rfl) rfl ?_
          refine ⟨_, rfl, ?_⟩
          refine ⟨_, rfl, ?_⟩
          rw [cutD_take (by rw [List.length_map]; omega), ← List.map_take]
          refine da_nil ?_
          refine ⟨_, ⟨k, l.take c, rfl, hk, hvt, hnt, rfl⟩, ?_⟩
          refine de_name (i := 2) rfl (.inl rfl) rfl ?_
          refine ⟨res_shaped _, res_shaped (some (vw, vt, some vi)), ?_⟩
          refine ⟨_, rfl, ?_⟩
          rw [hkept.1 vw vt (some vi) hvd (of_decide_eq_true hb), show PyData.eqv (resD (some (vw, vt, some vi))) (resD (some (vw, vt, some vi))) = true by rw [res_eqv, decide_eq_true rfl]]
          refine iteF ?_
          refine dss_nil ?_
          refine dss_one ?_
          refine ds_if ?_
          refine dt_and ?_
          refine dt_cmp ?_
          refine dc_isN ?_
          refine de_name (i := 2) rfl (.inl rfl) rfl ?_
          refine ⟨_, rfl, ?_⟩
          refine iteF ?_
          refine iteF ?_
          refine dss_nil ?_
          exact ⟨⟨_, _, rfl⟩, rfl⟩
        · refine iteF ?_
          refine dss_nil ?_
          refine dss_one ?_
          refine ds_if ?_
          refine dt_and ?_
          refine dt_cmp ?_
          refine dc_isN ?_
          refine de_name (i := 2) rfl (.inl rfl) rfl ?_
          refine ⟨_, rfl, ?_⟩
          refine iteF ?_
          refine iteF ?_
          refine dss_nil ?_
          exact ⟨⟨_, _, rfl⟩, rfl⟩
  · rintro Γ ω ⟨⟨o3, o4, rfl⟩, rfl⟩
    refine dss_one ?_
    refine ds_ret ?_
    refine de_bl ?_
    rfl
end
end K20
set_option maxRecDepth 100000
set_option maxHeartbeats 4000000
namespace K20
open PySem PySem.Spec PyProof.Rows L2 Evl TC
def turnS (a : Axis) : Str := axS (turnA a)
theorem pick_turn (a : Axis) : (if axS a = "any" then some (PyData.str "any") else if axS a = "y" then some (.str "x") else if axS a = "x" then some (.str "y") else none) = some (.str (axS (turnA a))) := by
  cases a with
  | x => rw [if_neg (by decide +kernel), if_neg (by decide +kernel), if_pos (show axS .x = "x" from rfl)]; rfl
  | y => rw [if_neg (by decide +kernel), if_pos (show axS .y = "y" from rfl)]; rfl
  | any => rw [if_pos (show axS .any = "any" from rfl)]; rfl
def isTouch : TC.Kind → Bool
  | .touch => true
  | _ => false
theorem word_touch : ∀ k : TC.Kind, decide (wordK k = "touch") = isTouch k
  | .touch => (by decide +kernel : decide (("touch" : Str) = "touch") = true)
  | .tap _ _ => (by decide +kernel : decide (("tap" : Str) = "touch") = false)
  | .taps _ _ _ _ => (by decide +kernel : decide (("taps" : Str) = "touch") = false)
  | .long _ _ => (by decide +kernel : decide (("long" : Str) = "touch") = false)
  | .drag _ _ => (by decide +kernel : decide (("drag" : Str) = "touch") = false)
  | .pinch _ => (by decide +kernel : decide (("pinch" : Str) = "touch") = false)
theorem kind_last {k : TC.Kind} (h : isTouch k = false) : atD (.str (wordK k) :: partsK k) (-1) = some (.int (slopOf k)) := by cases k <;> first | rfl | exact absurd h (by decide)
theorem kind_wide {k : TC.Kind} (h : isTouch k = false) (s : Int) : PyData.tuple (cutD (.str (wordK k) :: partsK k) none (some (-1)) ++ [.int s]) = kindD (wide s k) := by
  rw [cutD_init]
  cases k <;> first | rfl | exact absurd h (by decide)
theorem parts_len {k : TC.Kind} (h : isTouch k = false) : 1 ≤ (partsK k).length := by cases k <;> first | exact Nat.le_add_left _ _ | exact absurd h (by decide)
theorem kw1 {k : TC.Kind} (h : isTouch k = false) : cutD (.str (wordK k) :: partsK k) none (some (-1)) ≠ [] := by
  rw [cutD_init]
  cases k <;> first | exact absurd h (by decide) | exact List.cons_ne_nil _ _
theorem kw2 (k : TC.Kind) {x : PyData} : (cutD (.str (wordK k) :: partsK k) none (some (-1))).length + [x].length ≤ 100000 := by
  rw [cutD_init]
  cases k <;> simp [partsK]
theorem slop_nonneg {k : TC.Kind} (h : k.Ok) : 0 ≤ slopOf k ∧ slopOf k ≤ 1000000000 := by
  cases k with
  | touch => exact ⟨by decide, by decide⟩
  | tap t s => exact ⟨h.2.2.1, h.2.2.2⟩
  | taps c t g s => exact ⟨h.2.2.2.2.2.1, h.2.2.2.2.2.2⟩
  | long t s => exact ⟨h.2.2.1, h.2.2.2⟩
  | drag a s => exact h
  | pinch s => exact h
theorem ite_ok {c : Prop} [Decidable c] {a b : TC.Kind} (ha : a.Ok) (hb : b.Ok) : (if c then a else b).Ok := by split <;> assumption
def wideE (m : Int) (e : Ev) : Ev := ⟨e.t, e.f, e.w, e.x * m, e.y * m⟩
theorem same_res {a b : Option (Bool × Int × Option Int)} (h : a = b) : PyData.eqv (resD a) (resD b) = true := by rw [res_eqv, decide_eq_true h]
section
variable {X : Cx} {Γ : Gam} {ω : Ow} {P : PyData → Ow → Prop} {e : Expr}
theorem dts_yes {A B : Ow → Prop} (h : A ω) : DTs X [] Γ ω (fun k ω2 => if k = true then A ω2 else B ω2) := by
  show (if true = true then A ω else B ω)
  rw [if_pos rfl]; exact h
theorem de_cutO {d0 : PyData} {ω0 : Ow} (h : DE X e Γ ω fun d ω' => d = d0 ∧ ω' = ω0) (p : P d0 ω0) : DE X e Γ ω P := h.mono fun d ω' ⟨h1, h2⟩ => by rw [h1, h2]; exact p
end
section
variable {P : Program} {w : World} {K : PySem.W.Frag} {mg : Str → Option Value} {base : Heap}
abbrev sPlaces : Stmt := top 47
theorem scPlaces : FnScope ["_law_reel_here", "_law_kind_here", "_law_record_here", "_law_due", "_law_turned", "_law_way", "_law_other", "_law_many", "_law_wide", "_law_scaled", "_law_tick", "_law_finger", "_law_word", "_law_x", "_law_y"] ["_law_reel_here", "_law_kind_here", "_law_record_here"] (defScope sPlaces) := ⟨rfl, rfl, rfl, by decide +kernel, rfl, by decide +kernel, by decide +kernel⟩
def rPlaces : List PyData → Nat → (PyData → Prop) → Prop := fun ds m Pd => ∃ (k : TC.Kind) (l : List Ev), ds = [kindD k, .list (l.map evD)] ∧ k.Ok ∧ RecOk l ∧ m = 6 ∧ Pd = fun d => d = .bool true
theorem ok_places {f : Addr} {fd : FuncData} (T : Txt mg) (C_law_spin : Cal P w K mg base 1 "_law_spin" (spR rSpin)) (C_law_placed : Cal P w K mg base 1 "_law_placed" (spP rPlaced)) (Cv : Cal P w K mg base 7 "verdict" (spP rV)) (F : Fun K "_law_places_right" "_law_places_right" sPlaces f fd) : FnOk P w K mg base CX0 8 f fd ["_law_reel_here", "_law_kind_here", "_law_record_here"] (spR rPlaces) := by
  have sc := scPlaces
  refine fnR F scPlaces (by rintro ds m Pd ⟨k, l, rfl, _, _, rfl, rfl⟩; rfl) (fun cdv A outer s H E hr ds m Pd r n h hlim => ?_)
  obtain ⟨k, l, rfl, hk, hrec, rfl, rfl⟩ := h
  have hv := hrec.valid
  have hne := hrec.ne
  have hl30 := hrec.short
  refine dss_cons ?_
  refine ds_set (i := 3) sc.nd rfl (.inl rfl) ⟨_, rfl⟩ ?_
  refine de_call Cv (hr.mono (by decide)) rfl ?_
  refine da_cons ?_
  refine de_name (i := 1) rfl (.inl rfl) rfl ?_
  refine da_cons ?_
  refine de_name (i := 2) rfl (.inl rfl) rfl ?_
  refine da_nil ?_
  refine ⟨_, ⟨k, l, rfl, hk, hv, hne, rfl⟩, ?_⟩
  refine dss_cons ?_
  refine ds_set (i := 4) sc.nd rfl (.inl rfl) ⟨_, rfl⟩ ?_
  refine de_cut (d0 := kindD (turnK k)) ?_ ?_
  · skip
    cases k with
    | touch =>
      refine de_if ?_
      refine dt_cmp ?_
      refine dc_eqT ?_
      refine de_ix ?_
      refine de_name (i := 1) rfl (.inl rfl) rfl ?_
      refine de_int ?_
      refine ⟨_, _, _, (by first | exact .inr rfl | exact .inl rfl), rfl, atD_zero, ?_⟩
      refine de_str ?_
      refine ⟨_, _, rfl, rfl, ?_⟩
      refine ⟨_, rfl, ?_⟩
      rw [show decide (("touch" : Str) = "drag") = false from by decide +kernel]
      refine iteF ?_
      refine de_name (i := 1) rfl (.inl rfl) rfl ?_
      exact ⟨rfl, rfl⟩
    | tap t s =>
      refine de_if ?_
      refine dt_cmp ?_
      refine dc_eqT ?_
      refine de_ix ?_
      refine de_name (i := 1) rfl (.inl rfl) rfl ?_
      refine de_int ?_
      refine ⟨_, _, _, (by first | exact .inr rfl | exact .inl rfl), rfl, atD_zero, ?_⟩
      refine de_str ?_
      refine ⟨_, _, rfl, rfl, ?_⟩
      refine ⟨_, rfl, ?_⟩
      rw [show decide (("tap" : Str) = "drag") = false from by decide +kernel]
      refine iteF ?_
      refine de_name (i := 1) rfl (.inl rfl) rfl ?_
      exact ⟨rfl, rfl⟩
    | taps c t g s =>
      refine de_if ?_
      refine dt_cmp ?_
      refine dc_eqT ?_
      refine de_ix ?_
      refine de_name (i := 1) rfl (.inl rfl) rfl ?_
      refine de_int ?_
      refine ⟨_, _, _, (by first | exact .inr rfl | exact .inl rfl), rfl, atD_zero, ?_⟩
      refine de_str ?_
      refine ⟨_, _, rfl, rfl, ?_⟩
      refine ⟨_, rfl, ?_⟩
      rw [show decide (("taps" : Str) = "drag") = false from by decide +kernel]
      refine iteF ?_
      refine de_name (i := 1) rfl (.inl rfl) rfl ?_
      exact ⟨rfl, rfl⟩
    | long t s =>
      refine de_if ?_
      refine dt_cmp ?_
      refine dc_eqT ?_
      refine de_ix ?_
      refine de_name (i := 1) rfl (.inl rfl) rfl ?_
      refine de_int ?_
      refine ⟨_, _, _, (by first | exact .inr rfl | exact .inl rfl), rfl, atD_zero, ?_⟩
      refine de_str ?_
      refine ⟨_, _, rfl, rfl, ?_⟩
      refine ⟨_, rfl, ?_⟩
      rw [show decide (("long" : Str) = "drag") = false from by decide +kernel]
      refine iteF ?_
      refine de_name (i := 1) rfl (.inl rfl) rfl ?_
      exact ⟨rfl, rfl⟩
    | drag a s =>
      refine de_if ?_
      refine dt_cmp ?_
      refine dc_eqT ?_
      refine de_ix ?_
      refine de_name (i := 1) rfl (.inl rfl) rfl ?_
      refine de_int ?_
      refine ⟨_, _, _, (by first | exact .inr rfl | exact .inl rfl), rfl, atD_zero, ?_⟩
      refine de_str ?_
      refine ⟨_, _, rfl, rfl, ?_⟩
      refine ⟨_, rfl, ?_⟩
      rw [show decide (("drag" : Str) = "drag") = true from by decide +kernel]
      refine iteT ?_
      refine de_tup ?_
      refine da_cons ?_
      refine de_str ?_
      refine da_cons ?_
      refine de_pick3 (hu_of hr) ?_
      refine de_str ?_
      refine de_str ?_
      refine de_str ?_
      refine de_ix ?_
      refine de_name (i := 1) rfl (.inl rfl) rfl ?_
      refine de_int ?_
      refine ⟨_, _, _, (by first | exact .inr rfl | exact .inl rfl), rfl, rfl, ?_⟩
      refine ⟨_, _, rfl, pick_turn a, ?_⟩
      refine da_cons ?_
      refine de_ix ?_
      refine de_name (i := 1) rfl (.inl rfl) rfl ?_
      refine de_int ?_
      refine ⟨_, _, _, (by first | exact .inr rfl | exact .inl rfl), rfl, rfl, ?_⟩
      refine da_nil ?_
      refine ⟨(by simp only [List.length_cons, List.length_nil]; decide), ?_⟩
      exact ⟨rfl, rfl⟩
    | pinch s =>
      refine de_if ?_
      refine dt_cmp ?_
      refine dc_eqT ?_
      refine de_ix ?_
      refine de_name (i := 1) rfl (.inl rfl) rfl ?_
      refine de_int ?_
      refine ⟨_, _, _, (by first | exact .inr rfl | exact .inl rfl), rfl, atD_zero, ?_⟩
      refine de_str ?_
      refine ⟨_, _, rfl, rfl, ?_⟩
      refine ⟨_, rfl, ?_⟩
      rw [show decide (("pinch" : Str) = "drag") = false from by decide +kernel]
      refine iteF ?_
      refine de_name (i := 1) rfl (.inl rfl) rfl ?_
      exact ⟨rfl, rfl⟩
  refine dss_cons ?_
  refine ds_forR1 .never rfl rfl T.range ?_
  refine de_int ?_
  refine ⟨_, rfl, by decide, by decide, fun i Γ ω => (∃ o5 o6 : Option Slot, Γ = [some (.own r), some (.dat (kindD k)), some (.dat (.list (l.map evD))), some (.dat (resD (TC.verdict k l))), some (.dat (kindD (turnK k))), o5, o6, none, none, none, none, none, none, none, none]) ∧ ω r = some (.reel (n + i)), ⟨⟨none, none, rfl⟩, setO_same⟩, ?_, ?_⟩
  · rintro i Γ ω hi ⟨⟨o5, o6, rfl⟩, hr1⟩
    refine dg_name (i := 5) sc.nd rfl (.inl rfl) ⟨_, rfl⟩ ?_
    refine dss_cons ?_
    refine ds_set (i := 6) sc.nd rfl (.inl rfl) ⟨_, rfl⟩ ?_
    refine de_cut (d0 := kindD (if (i : Int) = 2 then turnK k else k)) ?_ ?_
    · skip
      refine de_if ?_
      refine dt_cmp ?_
      refine dc_eqI ?_
      refine de_name (i := 5) rfl (.inl rfl) rfl ?_
      refine de_int ?_
      refine ⟨_, _, rfl, rfl, ?_⟩
      refine ⟨_, rfl, ?_⟩
      refine ite2 (fun h => ?_) (fun h => ?_)
      · skip
        refine de_name (i := 4) rfl (.inl rfl) rfl ?_
        exact ⟨by rw [if_pos (of_decide_eq_true h)], rfl⟩
      · skip
        refine de_name (i := 1) rfl (.inl rfl) rfl ?_
        exact ⟨by rw [if_neg (fun z => h (decide_eq_true z))], rfl⟩
    refine dss_one ?_
    refine ds_if ?_
    refine dt_cmp ?_
    refine dc_neD (Room.lt hr (n := 64) (by decide)) ?_
    refine de_call Cv (hr.mono (by decide)) rfl ?_
    refine da_cons ?_
    refine de_name (i := 6) rfl (.inl rfl) rfl ?_
    refine da_cons ?_
    refine de_call C_law_placed (hr.mono (by decide)) rfl ?_
    refine da_cons ?_
    refine de_name (i := 2) rfl (.inl rfl) rfl ?_
    refine da_cons ?_
    refine de_name (i := 5) rfl (.inl rfl) rfl ?_
    refine da_cons ?_
    refine de_sub ?_
    refine de_callR C_law_spin (hr.mono (by decide)) rfl (i := 0) rfl (.inl rfl) rfl ?_
    refine da_cons ?_
    refine de_int ?_
    refine da_nil ?_
    refine ⟨_, 1, _, hr1, ⟨_, rfl, (by decide), (by decide), rfl, rfl⟩, by omega, fun d1 hd1 => ?_⟩
    obtain ⟨z1, rfl, zl1, zu1⟩ := hd1
    refine de_int ?_
    refine ⟨_, _, rfl, rfl, ?_⟩
    refine da_nil ?_
    refine ⟨_, ⟨l, i, z1 - 49, rfl, by omega, by omega, rfl⟩, ?_⟩
    refine da_nil ?_
    refine ⟨_, ⟨(if (i : Int) = 2 then turnK k else k), l.map (placeE i (z1 - 49)), rfl, ite_ok (turn_ok hk) hk, hv.place (place4 i (z1 - 49)), by simp [hne], rfl⟩, ?_⟩
    refine de_name (i := 3) rfl (.inl rfl) rfl ?_
    refine ⟨res_shaped _, res_shaped _, ?_⟩
    rw [same_res (show TC.verdict (if (i : Int) = 2 then turnK k else k) (l.map (placeE i (z1 - 49))) = TC.verdict k l from law_place (i : Int) (z1 - 49) k hne hv.ups)]
    refine ⟨_, rfl, ?_⟩
    refine iteF ?_
    refine dss_nil ?_
    exact ⟨⟨_, _, rfl⟩, setO_same⟩
  · rintro Γ ω ⟨⟨o5, o6, rfl⟩, hr1⟩
    rw [show (4 : Int).toNat = 4 from rfl] at hr1
    refine dss_cons ?_
    refine ds_set (i := 7) sc.nd rfl (.inr rfl) ⟨_, rfl⟩ ?_
    refine de_add ?_
    refine de_int ?_
    refine de_callR C_law_spin (hr.mono (by decide)) rfl (i := 0) rfl (.inl rfl) rfl ?_
    refine da_cons ?_
    refine de_int ?_
    refine da_nil ?_
    refine ⟨_, 1, _, hr1, ⟨_, rfl, (by decide), (by decide), rfl, rfl⟩, by omega, fun d2 hd2 => ?_⟩
    obtain ⟨z2, rfl, zl2, zu2⟩ := hd2
    refine ⟨_, _, rfl, rfl, ?_⟩
    refine dss_cons ?_
    refine ds_if ?_
    rw [kindD_eq k]
    cases htc : isTouch k with
    | true =>
      refine dt_and ?_
      refine dt_cmp ?_
      refine dc_neT ?_
      refine de_ix ?_
      refine de_name (i := 1) rfl (.inl rfl) rfl ?_
      refine de_int ?_
      refine ⟨_, _, _, (by first | exact .inr rfl | exact .inl rfl), rfl, atD_zero, ?_⟩
      refine de_str ?_
      refine ⟨_, _, rfl, rfl, ?_⟩
      refine ⟨_, rfl, ?_⟩
      rw [word_touch, htc]
      refine iteF ?_
      refine iteF ?_
      refine dss_nil ?_
      refine dss_one ?_
      refine ds_ret ?_
      refine de_bl ?_
      exact ⟨rfl, n + 4 + 1, by omega, setO_same⟩
    | false =>
      refine dt_and ?_
      refine dt_cmp ?_
      refine dc_neT ?_
      refine de_ix ?_
      refine de_name (i := 1) rfl (.inl rfl) rfl ?_
      refine de_int ?_
      refine ⟨_, _, _, (by first | exact .inr rfl | exact .inl rfl), rfl, atD_zero, ?_⟩
      refine de_str ?_
      refine ⟨_, _, rfl, rfl, ?_⟩
      refine ⟨_, rfl, ?_⟩
      rw [word_touch, htc]
      refine iteT ?_
      refine dt_cmp ?_
      refine dc_le ?_
      refine de_ix ?_
      refine de_name (i := 1) rfl (.inl rfl) rfl ?_
      refine de_neg ?_
      refine de_int ?_
      refine ⟨_, rfl, ?_⟩
      refine ⟨_, _, _, (by first | exact .inr rfl | exact .inl rfl), rfl, kind_last htc, ?_⟩
      refine de_fdiv ?_
      refine de_pow ?_
      refine de_int ?_
      refine de_int ?_
      refine ⟨_, _, rfl, rfl, cpow_ok (by decide) (by decide) (by decide), ?_⟩
      refine de_name (i := 7) rfl (.inr (.inl rfl)) rfl ?_
      refine ⟨_, _, rfl, rfl, cdiv_ok (by omega) (abs_lt (B := 100) (by omega) (by omega) (by decide)), ?_⟩
      refine ⟨_, _, rfl, rfl, ?_⟩
      refine ⟨_, rfl, ?_⟩
      refine ite2 (fun hle => ?_) (fun hle => ?_)
      · skip
        refine dss_cons ?_
        refine ds_set (i := 8) sc.nd rfl (.inl rfl) ⟨_, rfl⟩ ?_
        refine de_catT ?_
        refine de_slT ?_
        refine de_name (i := 1) rfl (.inl rfl) rfl ?_
        refine de_neg ?_
        refine de_int ?_
        refine ⟨_, rfl, ?_⟩
        refine ⟨_, rfl, ?_⟩
        have hpl := parts_len htc
        refine ⟨_, rfl, (fun z => absurd z.2 (by rw [sIx_last, List.length_cons]; omega)), ?_⟩
        refine de_tup ?_
        refine da_cons ?_
        refine de_add ?_
        refine de_mul ?_
        refine de_ix ?_
        refine de_name (i := 1) rfl (.inl rfl) rfl ?_
        refine de_neg ?_
        refine de_int ?_
        refine ⟨_, rfl, ?_⟩
        refine ⟨_, _, _, (by first | exact .inr rfl | exact .inl rfl), rfl, kind_last htc, ?_⟩
        refine de_name (i := 7) rfl (.inr (.inl rfl)) rfl ?_
        refine ⟨_, _, rfl, rfl, cmul_ok (abs_lt (B := 1000000000) (by have := (slop_nonneg hk).1; omega) (slop_nonneg hk).2 (by decide)) (abs_lt (B := 100) (by omega) (by omega) (by decide)), ?_⟩
        refine de_callR C_law_spin (hr.mono (by decide)) rfl (i := 0) rfl (.inl rfl) rfl ?_
        refine da_cons ?_
        refine de_name (i := 7) rfl (.inr (.inl rfl)) rfl ?_
        refine da_nil ?_
        refine ⟨_, 1, _, setO_same, ⟨_, rfl, (by omega), (by omega), rfl, rfl⟩, by omega, fun d3 hd3 => ?_⟩
        obtain ⟨z3, rfl, zl3, zu3⟩ := hd3
        refine ⟨_, _, rfl, rfl, ?_⟩
        refine da_nil ?_
        refine ⟨(by simp only [List.length_cons, List.length_nil]; decide), ?_⟩
        refine ⟨_, _, rfl, rfl, kw1 htc, kw2 k, ?_⟩
        rw [kind_wide htc]
        generalize hω1 : setO (setO ω r (.reel (n + 4 + 1))) r (.reel (n + 4 + 1 + 1)) = ω1
        have hr9 : ω1 r = some (.reel (n + 4 + 1 + 1)) := by rw [← hω1]; exact setO_same
        refine dss_cons ?_
        refine ds_setLcL (own := [("_law_tick", 10), ("_law_finger", 11), ("_law_word", 12), ("_law_x", 13), ("_law_y", 14)]) rfl sc.nd (i := 9) rfl rfl ⟨_, rfl⟩ (blkOk_by (own := [("_law_tick", 10), ("_law_finger", 11), ("_law_word", 12), ("_law_x", 13), ("_law_y", 14)]) (N := ["_law_reel_here", "_law_kind_here", "_law_record_here", "_law_due", "_law_turned", "_law_way", "_law_other", "_law_many", "_law_wide", "_law_scaled", "_law_tick", "_law_finger", "_law_word", "_law_x", "_law_y"]) (sc := defScope sPlaces) (by decide +kernel)) (by decide) (sw_true rfl rfl rfl (by decide +kernel)) ?_
        refine de_name (i := 2) rfl (.inl rfl) rfl ?_
        refine ⟨_, rfl, by rw [List.length_map]; omega, fun i acc ω' => ω' = ω1 ∧ acc = ((l.take i).map (wideE (2 + z2))).map evD, ⟨rfl, rfl⟩, ?_, ?_⟩
        · rintro i d acc ω' hi ⟨rfl, rfl⟩
          rw [List.getElem?_map] at hi
          cases hz : l[i]? with
          | none => rw [hz] at hi; cases hi
          | some e =>
          rw [hz] at hi
          have e0 : evD e = d := by simpa using hi
          subst e0
          have hpe := hrec.pl e (List.mem_of_getElem? hz)
          intro s0 H0 C0 cl0 fp0
          refine dgw_tup rfl rfl (dgsw_cons (dgw_name (is := [10, 11, 12, 13, 14]) (i := 10) sc.nd rfl (.inl rfl) ⟨_, rfl⟩ (by decide) (dgsw_cons (dgw_name (is := [10, 11, 12, 13, 14]) (i := 11) sc.nd rfl (.inl rfl) ⟨_, rfl⟩ (by decide) (dgsw_cons (dgw_name (is := [10, 11, 12, 13, 14]) (i := 12) sc.nd rfl (.inl rfl) ⟨_, rfl⟩ (by decide) (dgsw_cons (dgw_tup rfl rfl (dgsw_cons (dgw_name (is := [10, 11, 12, 13, 14]) (i := 13) sc.nd rfl (.inl rfl) ⟨_, rfl⟩ (by decide) (dgsw_cons (dgw_name (is := [10, 11, 12, 13, 14]) (i := 14) sc.nd rfl (.inl rfl) ⟨_, rfl⟩ (by decide) (dgsw_nil (dgsw_nil ?_))))))))))))))
          intro s1 H1 C1 cl1 fp1
          refine dts_yes ?_
          intro s2 H2 C2 cl2 fp2
          refine de_tup ?_
          refine da_cons ?_
          refine de_name (i := 10) rfl (.inl rfl) rfl ?_
          refine da_cons ?_
          refine de_name (i := 11) rfl (.inl rfl) rfl ?_
          refine da_cons ?_
          refine de_name (i := 12) rfl (.inl rfl) rfl ?_
          refine da_cons ?_
          refine de_tup ?_
          refine da_cons ?_
          refine de_mul ?_
          refine de_name (i := 13) rfl (.inl rfl) rfl ?_
          refine de_name (i := 7) rfl (.inr (.inl rfl)) rfl ?_
          refine ⟨_, _, rfl, rfl, cmul_ok (abs_lt (B := 1000000000) hpe.1.1 hpe.1.2 (by decide)) (abs_lt (B := 100) (by omega) (by omega) (by decide)), ?_⟩
          refine da_cons ?_
          refine de_mul ?_
          refine de_name (i := 14) rfl (.inl rfl) rfl ?_
          refine de_name (i := 7) rfl (.inr (.inl rfl)) rfl ?_
          refine ⟨_, _, rfl, rfl, cmul_ok (abs_lt (B := 1000000000) hpe.2.1 hpe.2.2 (by decide)) (abs_lt (B := 100) (by omega) (by omega) (by decide)), ?_⟩
          refine da_nil ?_
          refine ⟨(by simp only [List.length_cons, List.length_nil]; decide), ?_⟩
          refine da_nil ?_
          refine ⟨(by simp only [List.length_cons, List.length_nil]; decide), ?_⟩
          refine ⟨rfl, ?_⟩
          rw [take_snoc hz, List.map_append, List.map_append]; rfl
        rintro acc ω' ⟨rfl, rfl⟩
        rw [List.length_map, List.take_length]
        refine dss_one ?_
        refine ds_ret ?_
        have hs0 : 0 ≤ slopOf k * (2 + z2) + z3 := by
          have := Int.mul_nonneg (slop_nonneg hk).1 (by omega : (0 : Int) ≤ 2 + z2)
          omega
        have hs9 : slopOf k * (2 + z2) + z3 ≤ 1000000000 := by
          have h1 := of_decide_eq_true hle
          rw [show (10 : Int) ^ (8 : Int).toNat = 100000000 by decide] at h1
          have h2 := Int.mul_le_mul_of_nonneg_right h1 (by omega : (0 : Int) ≤ 2 + z2)
          have h3 := Int.ediv_mul_le 100000000 (by omega : 2 + z2 ≠ 0)
          omega
        refine de_cmp ?_
        refine dc_eqD (Room.lt hr (n := 64) (by decide)) ?_
        refine de_call Cv (hr.mono (by decide)) rfl ?_
        refine da_cons ?_
        refine de_name (i := 8) rfl (.inl rfl) rfl ?_
        refine da_cons ?_
        refine de_name (i := 9) rfl (.inl rfl) rfl ?_
        refine da_nil ?_
        refine ⟨_, ⟨wide (slopOf k * (2 + z2) + z3) k, l.map (wideE (2 + z2)), rfl, wide_ok hk hs0 hs9, hv.place (fun p => (p.1 * (2 + z2), p.2 * (2 + z2))), by simp [hne], rfl⟩, ?_⟩
        refine de_name (i := 3) rfl (.inl rfl) rfl ?_
        refine ⟨res_shaped _, res_shaped _, ?_⟩
        rw [same_res (show TC.verdict (wide (slopOf k * (2 + z2) + z3) k) (l.map (wideE (2 + z2))) = TC.verdict k l from law_wide (2 + z2) z3 (by omega) zl3 zu3 k hne hv.ups)]
        exact ⟨rfl, _, by omega, hr9⟩
      · skip
        refine dss_nil ?_
        refine dss_one ?_
        refine ds_ret ?_
        refine de_bl ?_
        exact ⟨rfl, n + 4 + 1, by omega, setO_same⟩
end
end K20
set_option maxRecDepth 100000
set_option maxHeartbeats 4000000
namespace K20
open PySem PySem.Spec PyProof.Rows L2 Evl TC
def shiftE (b : Int) (e : Ev) : Ev := ⟨e.t + b, e.f, e.w, e.x, e.y⟩
def slowE (m t0 : Int) (e : Ev) : Ev := ⟨(e.t - t0) * m, e.f, e.w, e.x, e.y⟩
theorem cutD1 {d : PyData} {ds : List PyData} : cutD (d :: ds) (some 1) none = ds := cutD_tail
theorem not_whole {n : Nat} {hi : Option Int} : ¬ (HT.sIx (n + 1) 0 (some 1) = 0 ∧ HT.sIx (n + 1) (n + 1) hi = n + 1) := fun z => by
  have := z.1
  rw [show (1 : Int) = ((1 : Nat) : Int) from rfl, HT.sIx_nat] at this
  omega
theorem nums_ok {k : TC.Kind} (hk : k.Ok) {m : Int} (hm : 0 < m) (h : ∀ z ∈ nums0 (slow m k), z ≤ 1000000000) : (slow m k).Ok := by
  refine slow_ok hk hm ?_
  cases k with
  | touch => trivial
  | tap t s => exact h _ (by simp [slow, nums0])
  | taps c t g s => exact ⟨h _ (by simp [slow, nums0]), h _ (by simp [slow, nums0])⟩
  | long t s => exact h _ (by simp [slow, nums0])
  | drag a s => trivial
  | pinch s => trivial
theorem nums0_len4 (k : TC.Kind) : (nums0 k).length ≤ 4 := nums0_len k
section
variable {P : Program} {w : World} {K : PySem.W.Frag} {mg : Str → Option Value} {base : Heap}
abbrev sTicks : Stmt := top 49
theorem scTicks : FnScope ["_law_reel_here", "_law_kind_here", "_law_record_here", "_law_due", "_law_by", "_law_many", "_law_scaled", "_law_slow", "_law_event", "_law_item"] ["_law_reel_here", "_law_kind_here", "_law_record_here"] (defScope sTicks) := ⟨rfl, rfl, rfl, by decide +kernel, rfl, by decide +kernel, by decide +kernel⟩
def rTicks : List PyData → Nat → (PyData → Prop) → Prop := fun ds m Pd => ∃ (k : TC.Kind) (l : List Ev), ds = [kindD k, .list (l.map evD)] ∧ k.Ok ∧ RecOk l ∧ m = 2 ∧ Pd = fun d => d = .bool true
theorem ok_ticks {f : Addr} {fd : FuncData} (T : Txt mg) (C_law_spin : Cal P w K mg base 1 "_law_spin" (spR rSpin)) (C_law_late : Cal P w K mg base 1 "_law_late" (spP rLate)) (Cv : Cal P w K mg base 7 "verdict" (spP rV)) (F : Fun K "_law_ticks_right" "_law_ticks_right" sTicks f fd) : FnOk P w K mg base CX0 8 f fd ["_law_reel_here", "_law_kind_here", "_law_record_here"] (spR rTicks) := by
  have sc := scTicks
  refine fnR F scTicks (by rintro ds m Pd ⟨k, l, rfl, _, _, rfl, rfl⟩; rfl) (fun cdv A outer s H E hr ds m Pd r n h hlim => ?_)
  obtain ⟨k, l, rfl, hk, hrec, rfl, rfl⟩ := h
  have hv := hrec.valid
  have hne := hrec.ne
  have hl30 := hrec.short
  obtain ⟨el, hel⟩ : ∃ e, l.getLast? = some e := by
    cases h : l.getLast? with
    | some e => exact ⟨e, rfl⟩
    | none => exact absurd (List.getLast?_eq_none_iff.mp h) hne
  have helm : el ∈ l := List.mem_of_getLast? hel
  have hte := hrec.tick el helm
  obtain ⟨e0, he0⟩ : ∃ e, l[0]? = some e := by
    cases l with
    | nil => exact absurd rfl hne
    | cons a b => exact ⟨a, rfl⟩
  have ht0 := hrec.tick e0 (List.mem_of_getElem? he0)
  have htb : ∀ w t o, TC.verdict k l = some (w, t, o) → bnd 1000000000000000000000 t := fun w t o h => by
    have := verdict_tb hk hne (B := 2000000000000000) (fun e he => ⟨(hrec.tick e he).1, by have := (hrec.tick e he).2; omega⟩) h
    exact ⟨by omega, by omega⟩
  refine dss_cons ?_
  refine ds_asg ?_
  refine de_tup ?_
  refine da_cons ?_
  refine de_call Cv (hr.mono (by decide)) rfl ?_
  refine da_cons ?_
  refine de_name (i := 1) rfl (.inl rfl) rfl ?_
  refine da_cons ?_
  refine de_name (i := 2) rfl (.inr (.inl rfl)) rfl ?_
  refine da_nil ?_
  refine ⟨_, ⟨k, l, rfl, hk, hv, hne, rfl⟩, ?_⟩
  refine da_cons ?_
  refine de_callR C_law_spin (hr.mono (by decide)) rfl (i := 0) rfl (.inl rfl) rfl ?_
  refine da_cons ?_
  refine de_add ?_
  refine de_sub ?_
  refine de_pow ?_
  refine de_int ?_
  refine de_int ?_
  refine ⟨_, _, rfl, rfl, cpow_ok (by decide) (by decide) (by decide), ?_⟩
  rw [show (10 : Int) ^ (15 : Int).toNat = 1000000000000000 by decide]
  refine de_ix ?_
  refine de_ix ?_
  refine de_name (i := 2) rfl (.inr (.inl rfl)) rfl ?_
  refine de_neg ?_
  refine de_int ?_
  refine ⟨_, rfl, ?_⟩
  refine ⟨_, _, _, (by first | exact .inr rfl | exact .inl rfl), rfl, atD_last hel, ?_⟩
  refine de_int ?_
  refine ⟨_, _, _, (by first | exact .inr rfl | exact .inl rfl), rfl, rfl, ?_⟩
  refine ⟨_, _, rfl, rfl, ?_⟩
  refine de_int ?_
  refine ⟨_, _, rfl, rfl, ?_⟩
  refine da_nil ?_
  refine ⟨_, 1, _, setO_same, ⟨_, rfl, (by omega), (by omega), rfl, rfl⟩, by omega, fun d1 hd1 => ?_⟩
  obtain ⟨z1, rfl, zl1, zu1⟩ := hd1
  refine da_nil ?_
  refine ⟨(by simp only [List.length_cons, List.length_nil]; decide), ?_⟩
  refine dg_tup rfl rfl (dgs_cons (dg_name (i := 3) sc.nd rfl (.inl rfl) ⟨_, rfl⟩ (dgs_cons (dg_name (i := 4) sc.nd rfl (.inr rfl) ⟨_, rfl⟩ (dgs_nil ?_)))))
  refine dss_cons ?_
  refine ds_if ?_
  refine dt_cmp ?_
  refine dc_neD (Room.lt hr (n := 64) (by decide)) ?_
  refine de_call Cv (hr.mono (by decide)) rfl ?_
  refine da_cons ?_
  refine de_name (i := 1) rfl (.inl rfl) rfl ?_
  refine da_cons ?_
  generalize hω1 : setO (setO ow0 r (.reel n)) r (.reel (n + 1)) = ω1
  have hr1 : ω1 r = some (.reel (n + 1)) := by rw [← hω1]; exact setO_same
  refine de_lcL (own := [("_law_event", 8)]) rfl sc.nd (blkOk_by (own := [("_law_event", 8)]) (N := ["_law_reel_here", "_law_kind_here", "_law_record_here", "_law_due", "_law_by", "_law_many", "_law_scaled", "_law_slow", "_law_event", "_law_item"]) (sc := defScope sTicks) (by decide +kernel)) (by decide) ?_
  refine de_name (i := 2) rfl (.inr (.inl rfl)) rfl ?_
  refine ⟨_, rfl, by rw [List.length_map]; omega, fun i acc ω' => ω' = ω1 ∧ acc = ((l.take i).map (shiftE z1)).map evD, ⟨rfl, rfl⟩, ?_, ?_⟩
  · rintro i d acc ω' hi ⟨rfl, rfl⟩
    rw [List.getElem?_map] at hi
    cases hz : l[i]? with
    | none => rw [hz] at hi; cases hi
    | some e =>
    rw [hz] at hi
    have e00 : evD e = d := by simpa using hi
    subst e00
    have hpe := hrec.tick e (List.mem_of_getElem? hz)
    refine t1_name (i := 8) sc.nd rfl rfl ⟨_, rfl⟩ (by decide) fun s0 H0 C0 cl0 fp0 => ?_
    refine de_catT ?_
    refine de_tup ?_
    refine da_cons ?_
    refine de_add ?_
    refine de_ix ?_
    refine de_name (i := 8) rfl (.inl rfl) rfl ?_
    refine de_int ?_
    refine ⟨_, _, _, (by first | exact .inr rfl | exact .inl rfl), rfl, rfl, ?_⟩
    refine de_name (i := 4) rfl (.inr (.inl rfl)) rfl ?_
    refine ⟨_, _, rfl, rfl, ?_⟩
    refine da_nil ?_
    refine ⟨(by simp only [List.length_cons, List.length_nil]; decide), ?_⟩
    refine de_slT ?_
    refine de_name (i := 8) rfl (.inl rfl) rfl ?_
    refine de_int ?_
    refine ⟨_, rfl, ?_⟩
    refine ⟨_, rfl, not_whole, ?_⟩
    rw [cutD1]
    refine ⟨_, _, rfl, rfl, List.cons_ne_nil _ _, by simp only [List.length_cons, List.length_nil]; decide, ?_⟩
    refine ⟨rfl, ?_⟩
    rw [take_snoc hz, List.map_append, List.map_append]; rfl
  rintro acc ω' ⟨hw', rfl⟩
  rw [hw', List.length_map, List.take_length]
  refine da_nil ?_
  refine ⟨_, ⟨k, l.map (shiftE z1), rfl, hk, hv.shift z1, by simp [hne], rfl⟩, ?_⟩
  refine de_call C_law_late (hr.mono (by decide)) rfl ?_
  refine da_cons ?_
  refine de_name (i := 3) rfl (.inl rfl) rfl ?_
  refine da_cons ?_
  refine de_int ?_
  refine da_cons ?_
  refine de_name (i := 4) rfl (.inr (.inl rfl)) rfl ?_
  refine da_nil ?_
  refine ⟨_, ⟨TC.verdict k l, 1, z1, rfl, htb, ⟨by decide, by decide⟩, rfl⟩, ?_⟩
  refine ⟨res_shaped _, res_shaped _, ?_⟩
  rw [same_res (show TC.verdict k (l.map (shiftE z1)) = lateP 1 z1 (TC.verdict k l) from law_shift z1 k hne hv.ups)]
  refine ⟨_, rfl, ?_⟩
  refine iteF ?_
  refine dss_nil ?_
  refine dss_cons ?_
  refine ds_set (i := 5) sc.nd rfl (.inr rfl) ⟨_, rfl⟩ ?_
  refine de_add ?_
  refine de_int ?_
  refine de_callR C_law_spin (hr.mono (by decide)) rfl (i := 0) rfl (.inl rfl) rfl ?_
  refine da_cons ?_
  refine de_int ?_
  refine da_nil ?_
  refine ⟨_, 1, _, hr1, ⟨_, rfl, (by decide), (by decide), rfl, rfl⟩, by omega, fun d2 hd2 => ?_⟩
  obtain ⟨z2, rfl, zl2, zu2⟩ := hd2
  refine ⟨_, _, rfl, rfl, ?_⟩
  refine dss_cons ?_
  obtain ⟨ω3, hω3⟩ : ∃ ω3, ω3 = setO ω1 r (.reel (n + 1 + 1)) := ⟨_, rfl⟩
  rw [← hω3]
  have hr8 : ω3 r = some (.reel (n + 1 + 1)) := by rw [hω3]; exact setO_same
  refine ds_setLcL (own := [("_law_event", 8)]) rfl sc.nd (i := 6) rfl rfl ⟨_, rfl⟩ (blkOk_by (own := [("_law_event", 8)]) (N := ["_law_reel_here", "_law_kind_here", "_law_record_here", "_law_due", "_law_by", "_law_many", "_law_scaled", "_law_slow", "_law_event", "_law_item"]) (sc := defScope sTicks) (by decide +kernel)) (by decide) (sw_true rfl rfl rfl (by decide +kernel)) ?_
  refine de_name (i := 2) rfl (.inr (.inl rfl)) rfl ?_
  refine ⟨_, rfl, by rw [List.length_map]; omega, fun i acc ω' => ω' = ω3 ∧ acc = ((l.take i).map (slowE (2 + z2) e0.t)).map evD, ⟨rfl, rfl⟩, ?_, ?_⟩
  · rintro i d acc ω' hi ⟨rfl, rfl⟩
    rw [List.getElem?_map] at hi
    cases hz : l[i]? with
    | none => rw [hz] at hi; cases hi
    | some e =>
    rw [hz] at hi
    have e00 : evD e = d := by simpa using hi
    subst e00
    have hpe := hrec.tick e (List.mem_of_getElem? hz)
    refine t1_name (i := 8) sc.nd rfl rfl ⟨_, rfl⟩ (by decide) fun s0 H0 C0 cl0 fp0 => ?_
    refine de_catT ?_
    refine de_tup ?_
    refine da_cons ?_
    refine de_mul ?_
    refine de_sub ?_
    refine de_ix ?_
    refine de_name (i := 8) rfl (.inl rfl) rfl ?_
    refine de_int ?_
    refine ⟨_, _, _, (by first | exact .inr rfl | exact .inl rfl), rfl, rfl, ?_⟩
    refine de_ix ?_
    refine de_ix ?_
    refine de_name (i := 2) rfl (.inr (.inl rfl)) rfl ?_
    refine de_int ?_
    refine ⟨_, _, _, (by first | exact .inr rfl | exact .inl rfl), rfl, atD_map (i := 0) he0, ?_⟩
    refine de_int ?_
    refine ⟨_, _, _, (by first | exact .inr rfl | exact .inl rfl), rfl, rfl, ?_⟩
    refine ⟨_, _, rfl, rfl, ?_⟩
    refine de_name (i := 5) rfl (.inr (.inl rfl)) rfl ?_
    refine ⟨_, _, rfl, rfl, cmul_ok (abs_lt (B := 10000000000000000) (by omega) (by omega) (by decide)) (abs_lt (B := 100) (by omega) (by omega) (by decide)), ?_⟩
    refine da_nil ?_
    refine ⟨(by simp only [List.length_cons, List.length_nil]; decide), ?_⟩
    refine de_slT ?_
    refine de_name (i := 8) rfl (.inl rfl) rfl ?_
    refine de_int ?_
    refine ⟨_, rfl, ?_⟩
    refine ⟨_, rfl, not_whole, ?_⟩
    rw [cutD1]
    refine ⟨_, _, rfl, rfl, List.cons_ne_nil _ _, by simp only [List.length_cons, List.length_nil]; decide, ?_⟩
    refine ⟨rfl, ?_⟩
    rw [take_snoc hz, List.map_append, List.map_append]; rfl
  rintro acc ω' ⟨hw', rfl⟩
  rw [hw', List.length_map, List.take_length]
  refine dss_cons ?_
  refine ds_set (i := 7) sc.nd rfl (.inl rfl) ⟨_, rfl⟩ ?_
  refine de_name (i := 1) rfl (.inl rfl) rfl ?_
  refine dss_cut (PL := fun Γ ω => Γ = [some (.own r), some (.dat (kindD k)), some (.dat (.list (l.map evD))), some (.dat (resD (TC.verdict k l))), some (.dat (.int z1)), some (.dat (.int (2 + z2))), some (.dat (.list ((l.map (slowE (2 + z2) e0.t)).map evD))), some (.dat (kindD (slow (2 + z2) k))), none, none] ∧ ω r = some (.reel (n + 1 + 1))) ?_ ?_
  · skip
    refine ds_if ?_
    cases k with
    | touch =>
      refine dt_or ?_
      refine dt_cmp ?_
      refine dc_eqT ?_
      refine de_ix ?_
      refine de_name (i := 1) rfl (.inl rfl) rfl ?_
      refine de_int ?_
      refine ⟨_, _, _, (by first | exact .inr rfl | exact .inl rfl), rfl, rfl, ?_⟩
      refine de_str ?_
      refine ⟨_, _, rfl, rfl, ?_⟩
      refine ⟨_, rfl, ?_⟩
      rw [show decide (("touch" : Str) = "tap") = false from by decide +kernel]
      refine iteF ?_
      refine dt_cmp ?_
      refine dc_eqT ?_
      refine de_ix ?_
      refine de_name (i := 1) rfl (.inl rfl) rfl ?_
      refine de_int ?_
      refine ⟨_, _, _, (by first | exact .inr rfl | exact .inl rfl), rfl, rfl, ?_⟩
      refine de_str ?_
      refine ⟨_, _, rfl, rfl, ?_⟩
      refine ⟨_, rfl, ?_⟩
      rw [show decide (("touch" : Str) = "long") = false from by decide +kernel]
      refine iteF ?_
      refine dss_one ?_
      refine ds_if ?_
      refine dt_cmp ?_
      refine dc_eqT ?_
      refine de_ix ?_
      refine de_name (i := 1) rfl (.inl rfl) rfl ?_
      refine de_int ?_
      refine ⟨_, _, _, (by first | exact .inr rfl | exact .inl rfl), rfl, rfl, ?_⟩
      refine de_str ?_
      refine ⟨_, _, rfl, rfl, ?_⟩
      refine ⟨_, rfl, ?_⟩
      rw [show decide (("touch" : Str) = "taps") = false from by decide +kernel]
      refine iteF ?_
      refine dss_nil ?_
      exact ⟨rfl, hr8⟩
    | tap t s =>
      refine dt_or ?_
      refine dt_cmp ?_
      refine dc_eqT ?_
      refine de_ix ?_
      refine de_name (i := 1) rfl (.inl rfl) rfl ?_
      refine de_int ?_
      refine ⟨_, _, _, (by first | exact .inr rfl | exact .inl rfl), rfl, rfl, ?_⟩
      refine de_str ?_
      refine ⟨_, _, rfl, rfl, ?_⟩
      refine ⟨_, rfl, ?_⟩
      rw [show decide (("tap" : Str) = "tap") = true from by decide +kernel]
      have hk1 := hk.1
      have hk2 := hk.2.1
      refine iteT ?_
      refine iteT ?_
      refine dss_one ?_
      refine ds_set (i := 7) sc.nd rfl (.inl rfl) ⟨_, rfl⟩ ?_
      refine de_tup ?_
      refine da_cons ?_
      refine de_ix ?_
      refine de_name (i := 1) rfl (.inl rfl) rfl ?_
      refine de_int ?_
      refine ⟨_, _, _, (by first | exact .inr rfl | exact .inl rfl), rfl, rfl, ?_⟩
      refine da_cons ?_
      refine de_mul ?_
      refine de_ix ?_
      refine de_name (i := 1) rfl (.inl rfl) rfl ?_
      refine de_int ?_
      refine ⟨_, _, _, (by first | exact .inr rfl | exact .inl rfl), rfl, rfl, ?_⟩
      refine de_name (i := 5) rfl (.inr (.inl rfl)) rfl ?_
      refine ⟨_, _, rfl, rfl, cmul_ok (abs_lt (B := 1000000000) (by omega) (by omega) (by decide)) (abs_lt (B := 100) (by omega) (by omega) (by decide)), ?_⟩
      refine da_cons ?_
      refine de_ix ?_
      refine de_name (i := 1) rfl (.inl rfl) rfl ?_
      refine de_int ?_
      refine ⟨_, _, _, (by first | exact .inr rfl | exact .inl rfl), rfl, rfl, ?_⟩
      refine da_nil ?_
      refine ⟨(by simp only [List.length_cons, List.length_nil]; decide), ?_⟩
      exact ⟨rfl, hr8⟩
    | taps c t g s =>
      refine dt_or ?_
      refine dt_cmp ?_
      refine dc_eqT ?_
      refine de_ix ?_
      refine de_name (i := 1) rfl (.inl rfl) rfl ?_
      refine de_int ?_
      refine ⟨_, _, _, (by first | exact .inr rfl | exact .inl rfl), rfl, rfl, ?_⟩
      refine de_str ?_
      refine ⟨_, _, rfl, rfl, ?_⟩
      refine ⟨_, rfl, ?_⟩
      rw [show decide (("taps" : Str) = "tap") = false from by decide +kernel]
      obtain ⟨_, hk1, hk2, hk3, hk4, _⟩ := hk
      refine iteF ?_
      refine dt_cmp ?_
      refine dc_eqT ?_
      refine de_ix ?_
      refine de_name (i := 1) rfl (.inl rfl) rfl ?_
      refine de_int ?_
      refine ⟨_, _, _, (by first | exact .inr rfl | exact .inl rfl), rfl, rfl, ?_⟩
      refine de_str ?_
      refine ⟨_, _, rfl, rfl, ?_⟩
      refine ⟨_, rfl, ?_⟩
      rw [show decide (("taps" : Str) = "long") = false from by decide +kernel]
      refine iteF ?_
      refine dss_one ?_
      refine ds_if ?_
      refine dt_cmp ?_
      refine dc_eqT ?_
      refine de_ix ?_
      refine de_name (i := 1) rfl (.inl rfl) rfl ?_
      refine de_int ?_
      refine ⟨_, _, _, (by first | exact .inr rfl | exact .inl rfl), rfl, rfl, ?_⟩
      refine de_str ?_
      refine ⟨_, _, rfl, rfl, ?_⟩
      refine ⟨_, rfl, ?_⟩
      rw [show decide (("taps" : Str) = "taps") = true from by decide +kernel]
      refine iteT ?_
      refine dss_one ?_
      refine ds_set (i := 7) sc.nd rfl (.inl rfl) ⟨_, rfl⟩ ?_
      refine de_catT ?_
      refine de_slT ?_
      refine de_name (i := 1) rfl (.inl rfl) rfl ?_
      refine de_int ?_
      refine ⟨_, rfl, ?_⟩
      refine ⟨_, rfl, (by show ¬ (0 = 0 ∧ 2 = 5); decide), ?_⟩
      refine de_tup ?_
      refine da_cons ?_
      refine de_mul ?_
      refine de_ix ?_
      refine de_name (i := 1) rfl (.inl rfl) rfl ?_
      refine de_int ?_
      refine ⟨_, _, _, (by first | exact .inr rfl | exact .inl rfl), rfl, rfl, ?_⟩
      refine de_name (i := 5) rfl (.inr (.inl rfl)) rfl ?_
      refine ⟨_, _, rfl, rfl, cmul_ok (abs_lt (B := 1000000000) (by omega) (by omega) (by decide)) (abs_lt (B := 100) (by omega) (by omega) (by decide)), ?_⟩
      refine da_cons ?_
      refine de_mul ?_
      refine de_ix ?_
      refine de_name (i := 1) rfl (.inl rfl) rfl ?_
      refine de_int ?_
      refine ⟨_, _, _, (by first | exact .inr rfl | exact .inl rfl), rfl, rfl, ?_⟩
      refine de_name (i := 5) rfl (.inr (.inl rfl)) rfl ?_
      refine ⟨_, _, rfl, rfl, cmul_ok (abs_lt (B := 1000000000) (by omega) (by omega) (by decide)) (abs_lt (B := 100) (by omega) (by omega) (by decide)), ?_⟩
      refine da_cons ?_
      refine de_ix ?_
      refine de_name (i := 1) rfl (.inl rfl) rfl ?_
      refine de_int ?_
      refine ⟨_, _, _, (by first | exact .inr rfl | exact .inl rfl), rfl, rfl, ?_⟩
      refine da_nil ?_
      refine ⟨(by simp only [List.length_cons, List.length_nil]; decide), ?_⟩
      refine ⟨_, _, rfl, rfl, List.cons_ne_nil _ _, (by show 2 + 3 ≤ 100000; decide), ?_⟩
      exact ⟨rfl, hr8⟩
    | long t s =>
      refine dt_or ?_
      refine dt_cmp ?_
      refine dc_eqT ?_
      refine de_ix ?_
      refine de_name (i := 1) rfl (.inl rfl) rfl ?_
      refine de_int ?_
      refine ⟨_, _, _, (by first | exact .inr rfl | exact .inl rfl), rfl, rfl, ?_⟩
      refine de_str ?_
      refine ⟨_, _, rfl, rfl, ?_⟩
      refine ⟨_, rfl, ?_⟩
      rw [show decide (("long" : Str) = "tap") = false from by decide +kernel]
      have hk1 := hk.1
      have hk2 := hk.2.1
      refine iteF ?_
      refine dt_cmp ?_
      refine dc_eqT ?_
      refine de_ix ?_
      refine de_name (i := 1) rfl (.inl rfl) rfl ?_
      refine de_int ?_
      refine ⟨_, _, _, (by first | exact .inr rfl | exact .inl rfl), rfl, rfl, ?_⟩
      refine de_str ?_
      refine ⟨_, _, rfl, rfl, ?_⟩
      refine ⟨_, rfl, ?_⟩
      rw [show decide (("long" : Str) = "long") = true from by decide +kernel]
      refine iteT ?_
      refine dss_one ?_
      refine ds_set (i := 7) sc.nd rfl (.inl rfl) ⟨_, rfl⟩ ?_
      refine de_tup ?_
      refine da_cons ?_
      refine de_ix ?_
      refine de_name (i := 1) rfl (.inl rfl) rfl ?_
      refine de_int ?_
      refine ⟨_, _, _, (by first | exact .inr rfl | exact .inl rfl), rfl, rfl, ?_⟩
      refine da_cons ?_
      refine de_mul ?_
      refine de_ix ?_
      refine de_name (i := 1) rfl (.inl rfl) rfl ?_
      refine de_int ?_
      refine ⟨_, _, _, (by first | exact .inr rfl | exact .inl rfl), rfl, rfl, ?_⟩
      refine de_name (i := 5) rfl (.inr (.inl rfl)) rfl ?_
      refine ⟨_, _, rfl, rfl, cmul_ok (abs_lt (B := 1000000000) (by omega) (by omega) (by decide)) (abs_lt (B := 100) (by omega) (by omega) (by decide)), ?_⟩
      refine da_cons ?_
      refine de_ix ?_
      refine de_name (i := 1) rfl (.inl rfl) rfl ?_
      refine de_int ?_
      refine ⟨_, _, _, (by first | exact .inr rfl | exact .inl rfl), rfl, rfl, ?_⟩
      refine da_nil ?_
      refine ⟨(by simp only [List.length_cons, List.length_nil]; decide), ?_⟩
      exact ⟨rfl, hr8⟩
    | drag a s =>
      refine dt_or ?_
      refine dt_cmp ?_
      refine dc_eqT ?_
      refine de_ix ?_
      refine de_name (i := 1) rfl (.inl rfl) rfl ?_
      refine de_int ?_
      refine ⟨_, _, _, (by first | exact .inr rfl | exact .inl rfl), rfl, rfl, ?_⟩
      refine de_str ?_
      refine ⟨_, _, rfl, rfl, ?_⟩
      refine ⟨_, rfl, ?_⟩
      rw [show decide (("drag" : Str) = "tap") = false from by decide +kernel]
      refine iteF ?_
      refine dt_cmp ?_
      refine dc_eqT ?_
      refine de_ix ?_
      refine de_name (i := 1) rfl (.inl rfl) rfl ?_
      refine de_int ?_
      refine ⟨_, _, _, (by first | exact .inr rfl | exact .inl rfl), rfl, rfl, ?_⟩
      refine de_str ?_
      refine ⟨_, _, rfl, rfl, ?_⟩
      refine ⟨_, rfl, ?_⟩
      rw [show decide (("drag" : Str) = "long") = false from by decide +kernel]
      refine iteF ?_
      refine dss_one ?_
      refine ds_if ?_
      refine dt_cmp ?_
      refine dc_eqT ?_
      refine de_ix ?_
      refine de_name (i := 1) rfl (.inl rfl) rfl ?_
      refine de_int ?_
      refine ⟨_, _, _, (by first | exact .inr rfl | exact .inl rfl), rfl, rfl, ?_⟩
      refine de_str ?_
      refine ⟨_, _, rfl, rfl, ?_⟩
      refine ⟨_, rfl, ?_⟩
      rw [show decide (("drag" : Str) = "taps") = false from by decide +kernel]
      refine iteF ?_
      refine dss_nil ?_
      exact ⟨rfl, hr8⟩
    | pinch s =>
      refine dt_or ?_
      refine dt_cmp ?_
      refine dc_eqT ?_
      refine de_ix ?_
      refine de_name (i := 1) rfl (.inl rfl) rfl ?_
      refine de_int ?_
      refine ⟨_, _, _, (by first | exact .inr rfl | exact .inl rfl), rfl, rfl, ?_⟩
      refine de_str ?_
      refine ⟨_, _, rfl, rfl, ?_⟩
      refine ⟨_, rfl, ?_⟩
      rw [show decide (("pinch" : Str) = "tap") = false from by decide +kernel]
      refine iteF ?_
      refine dt_cmp ?_
      refine dc_eqT ?_
      refine de_ix ?_
      refine de_name (i := 1) rfl (.inl rfl) rfl ?_
      refine de_int ?_
      refine ⟨_, _, _, (by first | exact .inr rfl | exact .inl rfl), rfl, rfl, ?_⟩
      refine de_str ?_
      refine ⟨_, _, rfl, rfl, ?_⟩
      refine ⟨_, rfl, ?_⟩
      rw [show decide (("pinch" : Str) = "long") = false from by decide +kernel]
      refine iteF ?_
      refine dss_one ?_
      refine ds_if ?_
      refine dt_cmp ?_
      refine dc_eqT ?_
      refine de_ix ?_
      refine de_name (i := 1) rfl (.inl rfl) rfl ?_
      refine de_int ?_
      refine ⟨_, _, _, (by first | exact .inr rfl | exact .inl rfl), rfl, rfl, ?_⟩
      refine de_str ?_
      refine ⟨_, _, rfl, rfl, ?_⟩
      refine ⟨_, rfl, ?_⟩
      rw [show decide (("pinch" : Str) = "taps") = false from by decide +kernel]
      refine iteF ?_
      refine dss_nil ?_
      exact ⟨rfl, hr8⟩
  · rintro Γ ω2 ⟨rfl, hr8⟩
    refine dss_cons ?_
    refine ds_if ?_
    refine dt_cmp ?_
    refine dc_gt ?_
    refine de_maxL rfl rfl T.max ?_
    refine de_cat ?_
    refine de_lst ?_
    refine da_cons ?_
    refine de_int ?_
    refine da_nil ?_
    refine ⟨(by simp only [List.length_cons, List.length_nil]; decide), ?_⟩
    refine de_lcT (own := [("_law_item", 9)]) rfl sc.nd (blkOk_by (own := [("_law_item", 9)]) (N := ["_law_reel_here", "_law_kind_here", "_law_record_here", "_law_due", "_law_by", "_law_many", "_law_scaled", "_law_slow", "_law_event", "_law_item"]) (sc := defScope sTicks) (by decide +kernel)) (by decide) ?_
    rw [kindD_eq (slow (2 + z2) k)]
    refine de_slT ?_
    refine de_name (i := 7) rfl (.inl rfl) rfl ?_
    refine de_int ?_
    refine ⟨_, rfl, ?_⟩
    refine ⟨_, rfl, not_whole, ?_⟩
    rw [cutD1]
    refine ⟨_, rfl, by cases k <;> simp [slow, partsK], fun i acc ω' => ω' = ω2 ∧ acc = ((partsK (slow (2 + z2) k)).take i).filter notStr, ⟨rfl, rfl⟩, ?_, ?_⟩
    · rintro i d acc ω' hi ⟨rfl, rfl⟩
      have hdm : d ∈ partsK (slow (2 + z2) k) := List.mem_of_getElem? hi
      refine t1_nameT (i := 9) sc.nd rfl rfl ⟨_, rfl⟩ (by decide) fun s0 H0 C0 cl0 fp0 => ?_
      refine dt_not ?_
      refine dt_val ?_
      refine de_isi (T := "str") rfl T.isinstance rfl T.str (by decide +kernel) ?_
      refine de_name (i := 9) rfl (.inl rfl) rfl ?_
      refine ⟨_, parts_str hdm, ?_⟩
      refine ⟨_, rfl, ?_⟩
      rw [Bool.not_not]
      refine ite2 (fun hc => ?_) (fun hc => ?_)
      · intro s1 H1 C1 cl1 fp1
        refine de_name (i := 9) rfl (.inl rfl) rfl ?_
        refine ⟨rfl, ?_⟩
        rw [take_snoc hi, List.filter_append, List.filter_cons_of_pos hc]; rfl
      · refine ⟨rfl, ?_⟩
        rw [take_snoc hi, List.filter_append, List.filter_cons_of_neg hc, List.filter_nil, List.append_nil]
    rintro acc ω' ⟨hw', rfl⟩
    rw [hw', List.take_length, parts_nums]
    refine ⟨_, _, rfl, rfl, by rw [List.length_map]; have := nums0_len (slow (2 + z2) k); simp only [List.length_cons, List.length_nil]; omega, ?_⟩
    refine ⟨1 :: nums0 (slow (2 + z2) k), rfl, List.cons_ne_nil _ _, fun mx hmx1 hmx2 => ?_⟩
    refine de_pow ?_
    refine de_int ?_
    refine de_int ?_
    refine ⟨_, _, rfl, rfl, cpow_ok (by decide) (by decide) (by decide), ?_⟩
    rw [e9]
    refine ⟨_, _, rfl, rfl, ?_⟩
    refine ⟨_, rfl, ?_⟩
    refine ite2 (fun hmx => ?_) (fun hmx => ?_)
    · skip
      refine dss_one ?_
      refine ds_ret ?_
      refine de_bl ?_
      exact ⟨rfl, n + 1 + 1, by omega, hr8⟩
    · skip
      refine dss_nil ?_
      refine dss_one ?_
      refine ds_ret ?_
      refine de_cmp ?_
      refine dc_eqD (Room.lt hr (n := 64) (by decide)) ?_
      refine de_call Cv (hr.mono (by decide)) rfl ?_
      refine da_cons ?_
      refine de_name (i := 7) rfl (.inl rfl) rfl ?_
      refine da_cons ?_
      refine de_name (i := 6) rfl (.inl rfl) rfl ?_
      refine da_nil ?_
      refine ⟨_, ⟨slow (2 + z2) k, l.map (slowE (2 + z2) e0.t), by rw [kindD_eq (slow (2 + z2) k)], nums_ok hk (by omega) (fun z hz => Int.le_trans (hmx2 z (List.mem_cons_of_mem _ hz)) (Int.not_lt.mp fun q => hmx (decide_eq_true q))), hv.slow (2 + z2) e0.t (by omega), by simp [hne], rfl⟩, ?_⟩
      refine de_call C_law_late (hr.mono (by decide)) rfl ?_
      refine da_cons ?_
      refine de_name (i := 3) rfl (.inl rfl) rfl ?_
      refine da_cons ?_
      refine de_name (i := 5) rfl (.inr (.inl rfl)) rfl ?_
      refine da_cons ?_
      refine de_sub ?_
      refine de_int ?_
      refine de_mul ?_
      refine de_name (i := 5) rfl (.inr (.inl rfl)) rfl ?_
      refine de_ix ?_
      refine de_ix ?_
      refine de_name (i := 2) rfl (.inr (.inl rfl)) rfl ?_
      refine de_int ?_
      refine ⟨_, _, _, (by first | exact .inr rfl | exact .inl rfl), rfl, atD_map (i := 0) he0, ?_⟩
      refine de_int ?_
      refine ⟨_, _, _, (by first | exact .inr rfl | exact .inl rfl), rfl, rfl, ?_⟩
      refine ⟨_, _, rfl, rfl, cmul_ok (abs_lt (B := 100) (by omega) (by omega) (by decide)) (abs_lt (B := 10000000000000000) (by omega) (by omega) (by decide)), ?_⟩
      refine ⟨_, _, rfl, rfl, ?_⟩
      refine da_nil ?_
      refine ⟨_, ⟨TC.verdict k l, 2 + z2, 0 - (2 + z2) * e0.t, rfl, htb, ⟨by omega, by omega⟩, rfl⟩, ?_⟩
      refine ⟨res_shaped _, res_shaped _, ?_⟩
      rw [same_res (show TC.verdict (slow (2 + z2) k) (l.map (slowE (2 + z2) e0.t)) = lateP (2 + z2) (0 - (2 + z2) * e0.t) (TC.verdict k l) from law_slow (2 + z2) e0.t (by omega) k hne hv.ups)]
      exact ⟨rfl, n + 1 + 1, by omega, hr8⟩
end
end K20
set_option maxRecDepth 100000
set_option maxHeartbeats 4000000
namespace K20
open PySem PySem.Spec PyProof.Rows L2 Evl TC
def fingE (b : Int) (e : Ev) : Ev := ⟨e.t, (e.f + b) % 5, e.w, e.x, e.y⟩
def magE (e : Ev) : Int := imax (iabs e.x) (iabs e.y)
theorem not_whole2 : ¬ (HT.sIx 4 0 (some 2) = 0 ∧ HT.sIx 4 4 none = 4) := by show ¬ (2 = 0 ∧ 4 = 4); decide
theorem not_whole3 : ¬ (HT.sIx 3 0 none = 0 ∧ HT.sIx 3 3 (some 2) = 3) := by show ¬ (0 = 0 ∧ 2 = 3); decide
def two (w : Bool) (t : Int) : PyData := .tuple [.str (wordS w), .int t]
theorem two_shaped (w : Bool) (t : Int) : SeqAt.shaped (two w t) = true := by
  have hw : ∀ x : Bool, PyData.strOk (wordS x) = true := fun x => by cases x <;> decide +kernel
  exact shaped_tuple (by simp [PyData.canLayAll0, PyData.canLay0, hw]) (by simp [PyData.depthAll, PyData.depth])
theorem two_eqv (w : Bool) (t : Int) : PyData.eqv (two w t) (two w t) = true := by simp [two, PyData.eqv, PyData.eqvAll]
section
variable {P : Program} {w : World} {K : PySem.W.Frag} {mg : Str → Option Value} {base : Heap}
abbrev sRight : Stmt := top 50
theorem scRight : FnScope ["_law_reel_here", "_law_kind_here", "_law_record_here", "_law_due", "_law_by", "_law_own", "_law_found", "_law_event"] ["_law_reel_here", "_law_kind_here", "_law_record_here"] (defScope sRight) := ⟨rfl, rfl, rfl, by decide +kernel, rfl, by decide +kernel, by decide +kernel⟩
def rRight : List PyData → Nat → (PyData → Prop) → Prop := fun ds m Pd => ∃ (k : TC.Kind) (l : List Ev), ds = [kindD k, .list (l.map evD)] ∧ k.Ok ∧ RecOk l ∧ m = 9 ∧ Pd = fun d => d = .bool true
theorem ok_right {f : Addr} {fd : FuncData} (T : Txt mg) (C_law_spin : Cal P w K mg base 1 "_law_spin" (spR rSpin)) (Cv : Cal P w K mg base 7 "verdict" (spP rV)) (C_law_kept_right : Cal P w K mg base 8 "_law_kept_right" (spP rKept)) (C_law_ticks_right : Cal P w K mg base 8 "_law_ticks_right" (spR rTicks)) (C_law_places_right : Cal P w K mg base 8 "_law_places_right" (spR rPlaces)) (F : Fun K "_law_right" "_law_right" sRight f fd) : FnOk P w K mg base CX0 9 f fd ["_law_reel_here", "_law_kind_here", "_law_record_here"] (spR rRight) := by
  have sc := scRight
  refine fnR F scRight (by rintro ds m Pd ⟨k, l, rfl, _, _, rfl, rfl⟩; rfl) (fun cdv A outer s H E hr ds m Pd r n h hlim => ?_)
  obtain ⟨k, l, rfl, hk, hrec, rfl, rfl⟩ := h
  have hv := hrec.valid
  have hne := hrec.ne
  have hl30 := hrec.short
  obtain ⟨e0, rest, hcons⟩ : ∃ e0 rest, l = e0 :: rest := by
    cases l with
    | nil => exact absurd rfl hne
    | cons a b => exact ⟨a, b, rfl⟩
  have he0 : l[0]? = some e0 := by rw [hcons]; rfl
  refine dss_cons ?_
  refine ds_if ?_
  refine dt_or ?_
  refine dt_not ?_
  refine dt_val ?_
  refine de_call C_law_kept_right (hr.mono (by decide)) rfl ?_
  refine da_cons ?_
  refine de_name (i := 1) rfl (.inl rfl) rfl ?_
  refine da_cons ?_
  refine de_name (i := 2) rfl (.inr (.inl rfl)) rfl ?_
  refine da_nil ?_
  refine ⟨_, ⟨k, l, rfl, hk, hv, hne, rfl⟩, ?_⟩
  refine ⟨_, rfl, ?_⟩
  refine iteF ?_
  refine dt_not ?_
  refine dt_val ?_
  refine de_callR C_law_ticks_right (hr.mono (by decide)) rfl (i := 0) rfl (.inl rfl) rfl ?_
  refine da_cons ?_
  refine de_name (i := 1) rfl (.inl rfl) rfl ?_
  refine da_cons ?_
  refine de_name (i := 2) rfl (.inr (.inl rfl)) rfl ?_
  refine da_nil ?_
  refine ⟨_, 2, _, setO_same, ⟨k, l, rfl, hk, hrec, rfl, rfl⟩, by omega, fun d1 hd1 => ?_⟩
  obtain rfl : d1 = .bool true := hd1
  refine ⟨_, rfl, ?_⟩
  refine iteF ?_
  refine dss_nil ?_
  refine dss_cut (PL := fun Γ ω => Γ = [some (.own r), some (.dat (kindD k)), some (.dat (.list (l.map evD))), none, none, none, none, none] ∧ ∃ nr, nr ≤ n + 8 ∧ ω r = some (.reel nr)) ?_ ?_
  · skip
    refine ds_if ?_
    refine dt_cmp ?_
    refine dc_le ?_
    refine de_maxL rfl rfl T.max ?_
    obtain ⟨ω2, hω2⟩ : ∃ ω2, ω2 = setO (setO ow0 r (.reel n)) r (.reel (n + 2)) := ⟨_, rfl⟩
    have hr2 : ω2 r = some (.reel (n + 2)) := by rw [hω2]; exact setO_same
    rw [← hω2]
    refine de_lcL (own := [("_law_event", 7)]) rfl sc.nd (blkOk_by (own := [("_law_event", 7)]) (N := ["_law_reel_here", "_law_kind_here", "_law_record_here", "_law_due", "_law_by", "_law_own", "_law_found", "_law_event"]) (sc := defScope sRight) (by decide +kernel)) (by decide) ?_
    refine de_name (i := 2) rfl (.inr (.inl rfl)) rfl ?_
    refine ⟨_, rfl, by rw [List.length_map]; omega, fun i acc ω' => ω' = ω2 ∧ acc = ((l.take i).map (magE)).map PyData.int, ⟨rfl, rfl⟩, ?_, ?_⟩
    · rintro i d acc ω' hi ⟨rfl, rfl⟩
      rw [List.getElem?_map] at hi
      cases hz : l[i]? with
      | none => rw [hz] at hi; cases hi
      | some e =>
      rw [hz] at hi
      have e00 : evD e = d := by simpa using hi
      subst e00
      refine t1_name (i := 7) sc.nd rfl rfl ⟨_, rfl⟩ (by decide) fun s0 H0 C0 cl0 fp0 => ?_
      refine de_max2 rfl rfl T.max ?_
      refine de_abs rfl T.abs ?_
      refine de_ix ?_
      refine de_ix ?_
      refine de_name (i := 7) rfl (.inl rfl) rfl ?_
      refine de_int ?_
      refine ⟨_, _, _, (by first | exact .inr rfl | exact .inl rfl), rfl, rfl, ?_⟩
      refine de_int ?_
      refine ⟨_, _, _, (by first | exact .inr rfl | exact .inl rfl), rfl, rfl, ?_⟩
      refine ⟨_, rfl, ?_⟩
      refine de_abs rfl T.abs ?_
      refine de_ix ?_
      refine de_ix ?_
      refine de_name (i := 7) rfl (.inl rfl) rfl ?_
      refine de_int ?_
      refine ⟨_, _, _, (by first | exact .inr rfl | exact .inl rfl), rfl, rfl, ?_⟩
      refine de_int ?_
      refine ⟨_, _, _, (by first | exact .inr rfl | exact .inl rfl), rfl, rfl, ?_⟩
      refine ⟨_, rfl, ?_⟩
      refine ⟨_, _, rfl, rfl, ?_⟩
      refine ⟨rfl, ?_⟩
      rw [take_snoc hz, List.map_append, List.map_append]; rfl
    rintro acc ω' ⟨hw', rfl⟩
    rw [hw', List.length_map, List.take_length]
    refine ⟨l.map magE, rfl, by simp [hne], fun mx _ _ => ?_⟩
    refine de_pow ?_
    refine de_int ?_
    refine de_int ?_
    refine ⟨_, _, rfl, rfl, cpow_ok (by decide) (by decide) (by decide), ?_⟩
    refine ⟨_, _, rfl, rfl, ?_⟩
    refine ⟨_, rfl, ?_⟩
    refine ite2 (fun hmx => ?_) (fun hmx => ?_)
    · skip
      refine dss_one ?_
      refine ds_if ?_
      refine dt_not ?_
      refine dt_val ?_
      refine de_callR C_law_places_right (hr.mono (by decide)) rfl (i := 0) rfl (.inl rfl) rfl ?_
      refine da_cons ?_
      refine de_name (i := 1) rfl (.inl rfl) rfl ?_
      refine da_cons ?_
      refine de_name (i := 2) rfl (.inr (.inl rfl)) rfl ?_
      refine da_nil ?_
      refine ⟨_, 6, _, hr2, ⟨k, l, rfl, hk, hrec, rfl, rfl⟩, by omega, fun d2 hd2 => ?_⟩
      obtain rfl : d2 = .bool true := hd2
      refine ⟨_, rfl, ?_⟩
      refine iteF ?_
      refine dss_nil ?_
      exact ⟨rfl, _, by omega, setO_same⟩
    · skip
      refine dss_nil ?_
      exact ⟨rfl, n + 2, by omega, hr2⟩
  · rintro Γ ω ⟨rfl, nr, hnr, hr3⟩
    refine dss_cons ?_
    refine ds_asg ?_
    refine de_tup ?_
    refine da_cons ?_
    refine de_call Cv (hr.mono (by decide)) rfl ?_
    refine da_cons ?_
    refine de_name (i := 1) rfl (.inl rfl) rfl ?_
    refine da_cons ?_
    refine de_name (i := 2) rfl (.inr (.inl rfl)) rfl ?_
    refine da_nil ?_
    refine ⟨_, ⟨k, l, rfl, hk, hv, hne, rfl⟩, ?_⟩
    refine da_cons ?_
    refine de_callR C_law_spin (hr.mono (by decide)) rfl (i := 0) rfl (.inl rfl) rfl ?_
    refine da_cons ?_
    refine de_int ?_
    refine da_nil ?_
    refine ⟨_, 1, _, hr3, ⟨_, rfl, (by decide), (by decide), rfl, rfl⟩, by omega, fun d1 hd1 => ?_⟩
    obtain ⟨z1, rfl, zl1, zu1⟩ := hd1
    refine da_nil ?_
    refine ⟨(by simp only [List.length_cons, List.length_nil]; decide), ?_⟩
    refine dg_tup rfl rfl (dgs_cons (dg_name (i := 3) sc.nd rfl (.inl rfl) ⟨_, rfl⟩ (dgs_cons (dg_name (i := 4) sc.nd rfl (.inr rfl) ⟨_, rfl⟩ (dgs_nil ?_)))))
    refine dss_cons ?_
    refine ds_if ?_
    refine dt_cmp ?_
    refine dc_neD (Room.lt hr (n := 64) (by decide)) ?_
    refine de_call Cv (hr.mono (by decide)) rfl ?_
    refine da_cons ?_
    refine de_name (i := 1) rfl (.inl rfl) rfl ?_
    refine da_cons ?_
    obtain ⟨ω4, hω4⟩ : ∃ ω4, ω4 = setO ω r (.reel (nr + 1)) := ⟨_, rfl⟩
    have hr4 : ω4 r = some (.reel (nr + 1)) := by rw [hω4]; exact setO_same
    have hnr2 : nr + 1 ≤ n + 9 := by omega
    rw [← hω4]
    refine de_lcL (own := [("_law_event", 7)]) rfl sc.nd (blkOk_by (own := [("_law_event", 7)]) (N := ["_law_reel_here", "_law_kind_here", "_law_record_here", "_law_due", "_law_by", "_law_own", "_law_found", "_law_event"]) (sc := defScope sRight) (by decide +kernel)) (by decide) ?_
    refine de_name (i := 2) rfl (.inr (.inl rfl)) rfl ?_
    refine ⟨_, rfl, by rw [List.length_map]; omega, fun i acc ω' => ω' = ω4 ∧ acc = ((l.take i).map (fingE z1)).map evD, ⟨rfl, rfl⟩, ?_, ?_⟩
    · rintro i d acc ω' hi ⟨rfl, rfl⟩
      rw [List.getElem?_map] at hi
      cases hz : l[i]? with
      | none => rw [hz] at hi; cases hi
      | some e =>
      rw [hz] at hi
      have e00 : evD e = d := by simpa using hi
      subst e00
      refine t1_name (i := 7) sc.nd rfl rfl ⟨_, rfl⟩ (by decide) fun s0 H0 C0 cl0 fp0 => ?_
      refine de_catT ?_
      refine de_tup ?_
      refine da_cons ?_
      refine de_ix ?_
      refine de_name (i := 7) rfl (.inl rfl) rfl ?_
      refine de_int ?_
      refine ⟨_, _, _, (by first | exact .inr rfl | exact .inl rfl), rfl, rfl, ?_⟩
      refine da_cons ?_
      refine de_mod ?_
      refine de_intI rfl T.int ?_
      refine de_add ?_
      refine de_ix ?_
      refine de_name (i := 7) rfl (.inl rfl) rfl ?_
      refine de_int ?_
      refine ⟨_, _, _, (by first | exact .inr rfl | exact .inl rfl), rfl, rfl, ?_⟩
      refine de_name (i := 4) rfl (.inr (.inl rfl)) rfl ?_
      refine ⟨_, _, rfl, rfl, ?_⟩
      refine .inl ⟨_, rfl, ?_⟩
      refine de_int ?_
      refine ⟨_, _, rfl, rfl, (by decide), ?_⟩
      refine da_nil ?_
      refine ⟨(by simp only [List.length_cons, List.length_nil]; decide), ?_⟩
      refine de_slT ?_
      refine de_name (i := 7) rfl (.inl rfl) rfl ?_
      refine de_int ?_
      refine ⟨_, rfl, ?_⟩
      refine ⟨_, rfl, not_whole2, ?_⟩
      refine ⟨_, _, rfl, rfl, List.cons_ne_nil _ _, (by show (2:Nat) + 2 ≤ 100000; decide), ?_⟩
      refine ⟨rfl, ?_⟩
      rw [take_snoc hz, List.map_append, List.map_append]; rfl
    rintro acc ω' ⟨hw', rfl⟩
    rw [hw', List.length_map, List.take_length]
    refine da_nil ?_
    refine ⟨_, ⟨k, l.map (fingE z1), rfl, hk, hv.fingers z1, by simp [hne], rfl⟩, ?_⟩
    refine de_name (i := 3) rfl (.inl rfl) rfl ?_
    refine ⟨res_shaped _, res_shaped _, ?_⟩
    rw [same_res (show TC.verdict k (l.map (fingE z1)) = TC.verdict k l from law_fingers z1 k hne hv.ups hv.fin)]
    refine ⟨_, rfl, ?_⟩
    refine iteF ?_
    refine dss_nil ?_
    cases k with
    | touch =>
      refine dss_cons ?_
      refine ds_if ?_
      refine dt_cmp ?_
      refine dc_eqT ?_
      refine de_ix ?_
      refine de_name (i := 1) rfl (.inl rfl) rfl ?_
      refine de_int ?_
      refine ⟨_, _, _, (by first | exact .inr rfl | exact .inl rfl), rfl, rfl, ?_⟩
      refine de_str ?_
      refine ⟨_, _, rfl, rfl, ?_⟩
      refine ⟨_, rfl, ?_⟩
      rw [show decide (("touch" : Str) = "drag") = false from by decide +kernel]
      refine iteF ?_
      refine dss_nil ?_
      refine dss_cons ?_
      refine ds_if ?_
      refine dt_cmp ?_
      refine dc_eqT ?_
      refine de_ix ?_
      refine de_name (i := 1) rfl (.inl rfl) rfl ?_
      refine de_int ?_
      refine ⟨_, _, _, (by first | exact .inr rfl | exact .inl rfl), rfl, rfl, ?_⟩
      refine de_str ?_
      refine ⟨_, _, rfl, rfl, ?_⟩
      refine ⟨_, rfl, ?_⟩
      rw [show decide (("touch" : Str) = "tap") = false from by decide +kernel]
      refine iteF ?_
      refine dss_nil ?_
      refine dss_one ?_
      refine ds_ret ?_
      refine de_or3 ?_
      refine de_cmp ?_
      refine dc_neT ?_
      refine de_ix ?_
      refine de_name (i := 1) rfl (.inl rfl) rfl ?_
      refine de_int ?_
      refine ⟨_, _, _, (by first | exact .inr rfl | exact .inl rfl), rfl, rfl, ?_⟩
      refine de_str ?_
      refine ⟨_, _, rfl, rfl, ?_⟩
      rw [show decide (("touch" : Str) = "long") = false from by decide +kernel]
      refine ⟨_, rfl, ?_⟩
      refine iteT ?_
      exact ⟨rfl, _, hnr2, hr4⟩
    | tap t s =>
      refine dss_cons ?_
      refine ds_if ?_
      refine dt_cmp ?_
      refine dc_eqT ?_
      refine de_ix ?_
      refine de_name (i := 1) rfl (.inl rfl) rfl ?_
      refine de_int ?_
      refine ⟨_, _, _, (by first | exact .inr rfl | exact .inl rfl), rfl, rfl, ?_⟩
      refine de_str ?_
      refine ⟨_, _, rfl, rfl, ?_⟩
      refine ⟨_, rfl, ?_⟩
      rw [show decide (("tap" : Str) = "drag") = false from by decide +kernel]
      refine iteF ?_
      refine dss_nil ?_
      refine dss_cons ?_
      refine ds_if ?_
      refine dt_cmp ?_
      refine dc_eqT ?_
      refine de_ix ?_
      refine de_name (i := 1) rfl (.inl rfl) rfl ?_
      refine de_int ?_
      refine ⟨_, _, _, (by first | exact .inr rfl | exact .inl rfl), rfl, rfl, ?_⟩
      refine de_str ?_
      refine ⟨_, _, rfl, rfl, ?_⟩
      refine ⟨_, rfl, ?_⟩
      rw [show decide (("tap" : Str) = "tap") = true from by decide +kernel]
      refine iteT ?_
      refine dss_one ?_
      refine ds_ret ?_
      obtain ⟨w1, w2, t1, t2, o1, o2, hv1, hv2, h12⟩ := law_tap t s hne
      rw [hv1]
      cases w1 with
      | false =>
        refine de_or ?_
        refine de_cmp ?_
        refine dc_eqT ?_
        refine de_ix ?_
        refine de_name (i := 3) rfl (.inl rfl) rfl ?_
        refine de_int ?_
        refine ⟨_, _, _, (by first | exact .inr rfl | exact .inl rfl), rfl, rfl, ?_⟩
        refine de_str ?_
        refine ⟨_, _, rfl, rfl, ?_⟩
        rw [show decide (wordS false = "fail") = true from by decide +kernel]
        refine ⟨_, rfl, ?_⟩
        refine iteT ?_
        exact ⟨rfl, _, hnr2, hr4⟩
      | true =>
        have hw2 : w2 = false := by cases w2; rfl; exact absurd ⟨rfl, rfl⟩ h12
        subst hw2
        refine de_or ?_
        refine de_cmp ?_
        refine dc_eqT ?_
        refine de_ix ?_
        refine de_name (i := 3) rfl (.inl rfl) rfl ?_
        refine de_int ?_
        refine ⟨_, _, _, (by first | exact .inr rfl | exact .inl rfl), rfl, rfl, ?_⟩
        refine de_str ?_
        refine ⟨_, _, rfl, rfl, ?_⟩
        rw [show decide (wordS true = "fail") = false from by decide +kernel]
        refine ⟨_, rfl, ?_⟩
        refine iteF ?_
        refine de_cmp ?_
        refine dc_eqT ?_
        refine de_ix ?_
        refine de_call Cv (hr.mono (by decide)) rfl ?_
        refine da_cons ?_
        refine de_catT ?_
        refine de_tup ?_
        refine da_cons ?_
        refine de_str ?_
        refine da_nil ?_
        refine ⟨(by simp only [List.length_cons, List.length_nil]; decide), ?_⟩
        refine de_slT ?_
        refine de_name (i := 1) rfl (.inl rfl) rfl ?_
        refine de_int ?_
        refine ⟨_, rfl, ?_⟩
        refine ⟨_, rfl, not_whole, ?_⟩
        rw [cutD1]
        refine ⟨_, _, rfl, rfl, List.cons_ne_nil _ _, (by show 1 + 2 ≤ 100000; decide), ?_⟩
        refine da_cons ?_
        refine de_name (i := 2) rfl (.inr (.inl rfl)) rfl ?_
        refine da_nil ?_
        refine ⟨_, ⟨.long t s, l, rfl, hk, hv, hne, rfl⟩, ?_⟩
        rw [hv2]
        refine de_int ?_
        refine ⟨_, _, _, (by first | exact .inr rfl | exact .inl rfl), rfl, rfl, ?_⟩
        refine de_str ?_
        refine ⟨_, _, rfl, rfl, ?_⟩
        rw [show decide (wordS false = "fail") = true from by decide +kernel]
        exact ⟨rfl, _, hnr2, hr4⟩
    | taps c t g s =>
      refine dss_cons ?_
      refine ds_if ?_
      refine dt_cmp ?_
      refine dc_eqT ?_
      refine de_ix ?_
      refine de_name (i := 1) rfl (.inl rfl) rfl ?_
      refine de_int ?_
      refine ⟨_, _, _, (by first | exact .inr rfl | exact .inl rfl), rfl, rfl, ?_⟩
      refine de_str ?_
      refine ⟨_, _, rfl, rfl, ?_⟩
      refine ⟨_, rfl, ?_⟩
      rw [show decide (("taps" : Str) = "drag") = false from by decide +kernel]
      refine iteF ?_
      refine dss_nil ?_
      refine dss_cons ?_
      refine ds_if ?_
      refine dt_cmp ?_
      refine dc_eqT ?_
      refine de_ix ?_
      refine de_name (i := 1) rfl (.inl rfl) rfl ?_
      refine de_int ?_
      refine ⟨_, _, _, (by first | exact .inr rfl | exact .inl rfl), rfl, rfl, ?_⟩
      refine de_str ?_
      refine ⟨_, _, rfl, rfl, ?_⟩
      refine ⟨_, rfl, ?_⟩
      rw [show decide (("taps" : Str) = "tap") = false from by decide +kernel]
      refine iteF ?_
      refine dss_nil ?_
      refine dss_one ?_
      refine ds_ret ?_
      refine de_or3 ?_
      refine de_cmp ?_
      refine dc_neT ?_
      refine de_ix ?_
      refine de_name (i := 1) rfl (.inl rfl) rfl ?_
      refine de_int ?_
      refine ⟨_, _, _, (by first | exact .inr rfl | exact .inl rfl), rfl, rfl, ?_⟩
      refine de_str ?_
      refine ⟨_, _, rfl, rfl, ?_⟩
      rw [show decide (("taps" : Str) = "long") = false from by decide +kernel]
      refine ⟨_, rfl, ?_⟩
      refine iteT ?_
      exact ⟨rfl, _, hnr2, hr4⟩
    | long t s =>
      refine dss_cons ?_
      refine ds_if ?_
      refine dt_cmp ?_
      refine dc_eqT ?_
      refine de_ix ?_
      refine de_name (i := 1) rfl (.inl rfl) rfl ?_
      refine de_int ?_
      refine ⟨_, _, _, (by first | exact .inr rfl | exact .inl rfl), rfl, rfl, ?_⟩
      refine de_str ?_
      refine ⟨_, _, rfl, rfl, ?_⟩
      refine ⟨_, rfl, ?_⟩
      rw [show decide (("long" : Str) = "drag") = false from by decide +kernel]
      refine iteF ?_
      refine dss_nil ?_
      refine dss_cons ?_
      refine ds_if ?_
      refine dt_cmp ?_
      refine dc_eqT ?_
      refine de_ix ?_
      refine de_name (i := 1) rfl (.inl rfl) rfl ?_
      refine de_int ?_
      refine ⟨_, _, _, (by first | exact .inr rfl | exact .inl rfl), rfl, rfl, ?_⟩
      refine de_str ?_
      refine ⟨_, _, rfl, rfl, ?_⟩
      refine ⟨_, rfl, ?_⟩
      rw [show decide (("long" : Str) = "tap") = false from by decide +kernel]
      refine iteF ?_
      refine dss_nil ?_
      refine dss_one ?_
      refine ds_ret ?_
      obtain ⟨w1, w2, t1, t2, o1, o2, hv1, hv2, h12⟩ := law_tap t s hne
      rw [hv2]
      cases w2 with
      | false =>
        refine de_or3 ?_
        refine de_cmp ?_
        refine dc_neT ?_
        refine de_ix ?_
        refine de_name (i := 1) rfl (.inl rfl) rfl ?_
        refine de_int ?_
        refine ⟨_, _, _, (by first | exact .inr rfl | exact .inl rfl), rfl, rfl, ?_⟩
        refine de_str ?_
        refine ⟨_, _, rfl, rfl, ?_⟩
        rw [show decide (("long" : Str) = "long") = true from by decide +kernel]
        refine ⟨_, rfl, ?_⟩
        refine iteF ?_
        refine de_cmp ?_
        refine dc_eqT ?_
        refine de_ix ?_
        refine de_name (i := 3) rfl (.inl rfl) rfl ?_
        refine de_int ?_
        refine ⟨_, _, _, (by first | exact .inr rfl | exact .inl rfl), rfl, rfl, ?_⟩
        refine de_str ?_
        refine ⟨_, _, rfl, rfl, ?_⟩
        rw [show decide (wordS false = "fail") = true from by decide +kernel]
        refine ⟨_, rfl, ?_⟩
        refine iteT ?_
        exact ⟨rfl, _, hnr2, hr4⟩
      | true =>
        have hw1 : w1 = false := by cases w1; rfl; exact absurd ⟨rfl, rfl⟩ h12
        subst hw1
        refine de_or3 ?_
        refine de_cmp ?_
        refine dc_neT ?_
        refine de_ix ?_
        refine de_name (i := 1) rfl (.inl rfl) rfl ?_
        refine de_int ?_
        refine ⟨_, _, _, (by first | exact .inr rfl | exact .inl rfl), rfl, rfl, ?_⟩
        refine de_str ?_
        refine ⟨_, _, rfl, rfl, ?_⟩
        rw [show decide (("long" : Str) = "long") = true from by decide +kernel]
        refine ⟨_, rfl, ?_⟩
        refine iteF ?_
        refine de_cmp ?_
        refine dc_eqT ?_
        refine de_ix ?_
        refine de_name (i := 3) rfl (.inl rfl) rfl ?_
        refine de_int ?_
        refine ⟨_, _, _, (by first | exact .inr rfl | exact .inl rfl), rfl, rfl, ?_⟩
        refine de_str ?_
        refine ⟨_, _, rfl, rfl, ?_⟩
        rw [show decide (wordS true = "fail") = false from by decide +kernel]
        refine ⟨_, rfl, ?_⟩
        refine iteF ?_
        refine de_cmp ?_
        refine dc_eqT ?_
        refine de_ix ?_
        refine de_call Cv (hr.mono (by decide)) rfl ?_
        refine da_cons ?_
        refine de_catT ?_
        refine de_tup ?_
        refine da_cons ?_
        refine de_str ?_
        refine da_nil ?_
        refine ⟨(by simp only [List.length_cons, List.length_nil]; decide), ?_⟩
        refine de_slT ?_
        refine de_name (i := 1) rfl (.inl rfl) rfl ?_
        refine de_int ?_
        refine ⟨_, rfl, ?_⟩
        refine ⟨_, rfl, not_whole, ?_⟩
        rw [cutD1]
        refine ⟨_, _, rfl, rfl, List.cons_ne_nil _ _, (by show 1 + 2 ≤ 100000; decide), ?_⟩
        refine da_cons ?_
        refine de_name (i := 2) rfl (.inr (.inl rfl)) rfl ?_
        refine da_nil ?_
        refine ⟨_, ⟨.tap t s, l, rfl, hk, hv, hne, rfl⟩, ?_⟩
        rw [hv1]
        refine de_int ?_
        refine ⟨_, _, _, (by first | exact .inr rfl | exact .inl rfl), rfl, rfl, ?_⟩
        refine de_str ?_
        refine ⟨_, _, rfl, rfl, ?_⟩
        rw [show decide (wordS false = "fail") = true from by decide +kernel]
        exact ⟨rfl, _, hnr2, hr4⟩
    | drag a s =>
      refine dss_cons ?_
      refine ds_if ?_
      refine dt_cmp ?_
      refine dc_eqT ?_
      refine de_ix ?_
      refine de_name (i := 1) rfl (.inl rfl) rfl ?_
      refine de_int ?_
      refine ⟨_, _, _, (by first | exact .inr rfl | exact .inl rfl), rfl, rfl, ?_⟩
      refine de_str ?_
      refine ⟨_, _, rfl, rfl, ?_⟩
      refine ⟨_, rfl, ?_⟩
      rw [show decide (("drag" : Str) = "drag") = true from by decide +kernel]
      refine iteT ?_
      refine dss_cons ?_
      refine ds_setLcL (own := [("_law_event", 7)]) rfl sc.nd (i := 5) rfl rfl ⟨_, rfl⟩ (blkOk_by (own := [("_law_event", 7)]) (N := ["_law_reel_here", "_law_kind_here", "_law_record_here", "_law_due", "_law_by", "_law_own", "_law_found", "_law_event"]) (sc := defScope sRight) (by decide +kernel)) (by decide) (sw_true rfl rfl rfl (by decide +kernel)) ?_
      refine de_name (i := 2) rfl (.inr (.inl rfl)) rfl ?_
      refine ⟨_, rfl, by rw [List.length_map]; omega, fun i acc ω' => ω' = ω4 ∧ acc = ((l.take i).filter fun e => decide (e.f = e0.f)).map evD, ⟨rfl, rfl⟩, ?_, ?_⟩
      · rintro i d acc ω' hi ⟨rfl, rfl⟩
        rw [List.getElem?_map] at hi
        cases hz : l[i]? with
        | none => rw [hz] at hi; cases hi
        | some e =>
        rw [hz] at hi
        have e00 : evD e = d := by simpa using hi
        subst e00
        refine t1_nameT (i := 7) sc.nd rfl rfl ⟨_, rfl⟩ (by decide) fun s0 H0 C0 cl0 fp0 => ?_
        refine dt_cmp ?_
        refine dc_eqI ?_
        refine de_ix ?_
        refine de_name (i := 7) rfl (.inl rfl) rfl ?_
        refine de_int ?_
        refine ⟨_, _, _, (by first | exact .inr rfl | exact .inl rfl), rfl, rfl, ?_⟩
        refine de_ix ?_
        refine de_ix ?_
        refine de_name (i := 2) rfl (.inr (.inl rfl)) rfl ?_
        refine de_int ?_
        refine ⟨_, _, _, (by first | exact .inr rfl | exact .inl rfl), rfl, atD_map (i := 0) he0, ?_⟩
        refine de_int ?_
        refine ⟨_, _, _, (by first | exact .inr rfl | exact .inl rfl), rfl, rfl, ?_⟩
        refine ⟨_, _, rfl, rfl, ?_⟩
        refine ⟨_, rfl, ?_⟩
        refine ite2 (fun hc => ?_) (fun hc => ?_)
        · intro s1 H1 C1 cl1 fp1
          refine de_name (i := 7) rfl (.inl rfl) rfl ?_
          refine ⟨rfl, ?_⟩
          rw [take_snoc hz, List.filter_append, show List.filter (fun e' : Ev => decide (e'.f = e0.f)) [e] = [e] from by simp [List.filter, hc], List.map_append]; rfl
        · refine ⟨rfl, ?_⟩
          rw [take_snoc hz, List.filter_append, show List.filter (fun e' : Ev => decide (e'.f = e0.f)) [e] = [] from by simp [List.filter, hc], List.append_nil]
      rintro acc ω' ⟨hw', rfl⟩
      rw [hw', List.length_map, List.take_length]
      have hown : (l.filter fun e => decide (e.f = e0.f)) ≠ [] := by
        rw [hcons, List.filter_cons_of_pos (by simp)]; exact List.cons_ne_nil _ _
      have hsh : TC.short (TC.verdict (.drag a s) (l.filter fun e => decide (e.f = e0.f))) = TC.short (TC.verdict (.drag a s) l) := by
        rw [hcons]; exact law_drag a s (by rw [← hcons]; exact hv.ups)
      refine dss_cons ?_
      refine ds_set (i := 6) sc.nd rfl (.inl rfl) ⟨_, rfl⟩ ?_
      refine de_call Cv (hr.mono (by decide)) rfl ?_
      refine da_cons ?_
      refine de_name (i := 1) rfl (.inl rfl) rfl ?_
      refine da_cons ?_
      refine de_name (i := 5) rfl (.inl rfl) rfl ?_
      refine da_nil ?_
      refine ⟨_, ⟨.drag a s, _, rfl, hk, hv.own e0.f, hown, rfl⟩, ?_⟩
      refine dss_one ?_
      refine ds_ret ?_
      cases hvo : TC.verdict (.drag a s) (l.filter fun e => decide (e.f = e0.f)) with
      | none =>
        rw [hvo] at hsh
        cases hvd : TC.verdict (.drag a s) l with
        | some v => rw [hvd] at hsh; cases hsh
        | none =>
          refine de_and ?_
          refine de_cmp ?_
          refine dc_eqB ?_
          refine de_cmp ?_
          refine dc_isN ?_
          refine de_name (i := 6) rfl (.inl rfl) rfl ?_
          refine de_cmp ?_
          refine dc_isN ?_
          refine de_name (i := 3) rfl (.inl rfl) rfl ?_
          refine ⟨_, _, rfl, rfl, ?_⟩
          refine ⟨_, rfl, ?_⟩
          refine iteT ?_
          refine de_or ?_
          refine de_cmp ?_
          refine dc_isN ?_
          refine de_name (i := 6) rfl (.inl rfl) rfl ?_
          refine ⟨_, rfl, ?_⟩
          refine iteT ?_
          exact ⟨rfl, _, hnr2, hr4⟩
      | some v =>
        obtain ⟨w1, t1, o1⟩ := v
        rw [hvo] at hsh
        cases hvd : TC.verdict (.drag a s) l with
        | none => rw [hvd] at hsh; cases hsh
        | some v2 =>
          obtain ⟨w2, t2, o2⟩ := v2
          rw [hvd] at hsh
          have h12 : some (w1, t1) = some (w2, t2) := hsh
          cases h12
          refine de_and ?_
          refine de_cmp ?_
          refine dc_eqB ?_
          refine de_cmp ?_
          refine dc_isN ?_
          refine de_name (i := 6) rfl (.inl rfl) rfl ?_
          refine de_cmp ?_
          refine dc_isN ?_
          refine de_name (i := 3) rfl (.inl rfl) rfl ?_
          refine ⟨_, _, rfl, rfl, ?_⟩
          refine ⟨_, rfl, ?_⟩
          refine iteT ?_
          refine de_or ?_
          refine de_cmp ?_
          refine dc_isN ?_
          refine de_name (i := 6) rfl (.inl rfl) rfl ?_
          refine ⟨_, rfl, ?_⟩
          refine iteF ?_
          refine de_cmp ?_
          refine dc_eqD (Room.lt hr (n := 64) (by decide)) ?_
          refine de_slT ?_
          refine de_name (i := 6) rfl (.inl rfl) rfl ?_
          refine de_int ?_
          refine ⟨_, rfl, ?_⟩
          refine ⟨_, rfl, not_whole3, ?_⟩
          refine de_slT ?_
          refine de_name (i := 3) rfl (.inl rfl) rfl ?_
          refine de_int ?_
          refine ⟨_, rfl, ?_⟩
          refine ⟨_, rfl, not_whole3, ?_⟩
          refine ⟨two_shaped w1 t1, two_shaped w1 t1, ?_⟩
          exact ⟨congrArg PyData.bool (two_eqv w1 t1), _, hnr2, hr4⟩
    | pinch s =>
      refine dss_cons ?_
      refine ds_if ?_
      refine dt_cmp ?_
      refine dc_eqT ?_
      refine de_ix ?_
      refine de_name (i := 1) rfl (.inl rfl) rfl ?_
      refine de_int ?_
      refine ⟨_, _, _, (by first | exact .inr rfl | exact .inl rfl), rfl, rfl, ?_⟩
      refine de_str ?_
      refine ⟨_, _, rfl, rfl, ?_⟩
      refine ⟨_, rfl, ?_⟩
      rw [show decide (("pinch" : Str) = "drag") = false from by decide +kernel]
      refine iteF ?_
      refine dss_nil ?_
      refine dss_cons ?_
      refine ds_if ?_
      refine dt_cmp ?_
      refine dc_eqT ?_
      refine de_ix ?_
      refine de_name (i := 1) rfl (.inl rfl) rfl ?_
      refine de_int ?_
      refine ⟨_, _, _, (by first | exact .inr rfl | exact .inl rfl), rfl, rfl, ?_⟩
      refine de_str ?_
      refine ⟨_, _, rfl, rfl, ?_⟩
      refine ⟨_, rfl, ?_⟩
      rw [show decide (("pinch" : Str) = "tap") = false from by decide +kernel]
      refine iteF ?_
      refine dss_nil ?_
      refine dss_one ?_
      refine ds_ret ?_
      refine de_or3 ?_
      refine de_cmp ?_
      refine dc_neT ?_
      refine de_ix ?_
      refine de_name (i := 1) rfl (.inl rfl) rfl ?_
      refine de_int ?_
      refine ⟨_, _, _, (by first | exact .inr rfl | exact .inl rfl), rfl, rfl, ?_⟩
      refine de_str ?_
      refine ⟨_, _, rfl, rfl, ?_⟩
      rw [show decide (("pinch" : Str) = "long") = false from by decide +kernel]
      refine ⟨_, rfl, ?_⟩
      refine iteT ?_
      exact ⟨rfl, _, hnr2, hr4⟩
end
end K20
set_option maxRecDepth 100000
set_option maxHeartbeats 4000000
namespace K20
open PySem PySem.Spec PyProof.Rows L2 Evl TC
theorem SD.newat {B : Bs} {G H H2 : Hp} {σ : L2.St} {Γ : Gam} {ω : Ow} (S : SD B G H σ Γ ω) (e : Ex H H2) {p : Addr} {c : OC} (hp : H p = none) (hc : OwnOk G H2 p c) : SD B G H2 σ Γ (setO ω p c) where
  ex := S.ex
  vis := S.vis
  kept := fun b u q => e b u (S.kept b u q)
  ownk := fun b c' q => by
    by_cases e : b = p
    · rw [e]; exact (S.free hp).2.2
    · rw [setO_ne e] at q; exact S.ownk b c' q
  sub := fun b u q => e b u (S.sub b u q)
  len := S.len
  slot := S.slot
  own := fun b c' q => by
    by_cases h : b = p
    · subst h
      rw [setO_same] at q; cases q
      exact ⟨(S.free hp).1, hc⟩
    · rw [setO_ne h] at q
      obtain ⟨a, k⟩ := S.own b c' q
      exact ⟨a, k.mono (Ex.refl _) fun u r => e _ _ r⟩
theorem cutD_two (ds : List PyData) : cutD ds none (some 2) = ds.take 2 := by
  unfold cutD
  rw [show (2 : Int) = ((2 : Nat) : Int) from rfl, HT.sIx_nat, HT.sIx_none, Nat.sub_zero, List.drop_zero]
  by_cases h : 2 ≤ ds.length
  · rw [Nat.min_eq_left h]
  · rw [Nat.min_eq_right (by omega), List.take_length, List.take_of_length_le (by omega)]
section
variable {X : Cx} {Γ : Gam} {ω : Ow} {D : DN} {e : Expr} {pos pos' pos2 p p2 : Pos} {x y z : Str} {i j : Nat}
theorem ds_reelNew {ns : List Int} (C : Cal X.prog X.w X.K X.mg X.base 1 x (spReel X.K)) (hr : Room 1 X.A) (hg : Gl X x) (hN : X.N.Nodup) (hj : X.N[j]? = some z) (hz : Loc X.env.scope z) (hl : ∃ o, Γ[j]? = some o) (hNi : X.N[i]? = some y) (hv : Vis X.env.scope y) (hΓ : Γ[i]? = some (some (.scr X.K ns))) (hlen : ns.length ≤ 1000)
    (h : DE X e Γ ω fun d ω1 => ∃ k : Nat, d = .int k ∧ k ≤ 1 ∧ ∀ r, ω1 r = none → D.nx (Γ.set j (some (.own r))) (setO ω1 r (.reel 0)))
    (hdb : (x == ("__debug__" : Str)) = false := by decide) (hd : (y == ("__debug__" : Str)) = false := by decide) (hcd : (y == ("__classdict__" : Str)) = false := by decide)
    (he1 : S1 X e [] := by rfl) (he : starEach (.Name y p2 :: [e]) X.env = (false, eval (.Name y p2) X.env) :: starEach [e] X.env := by rfl) (hpl : (backTo pos (starEach [e] X.env)).any (·.1) = false := by rfl)
    (hs : swapsWith (.Call (.Name x p) [.Name y p2, e] [] pos) (some (.Name z pos')) pos2.line X.env = pure false := by rfl) (hf : X.fn z = true ∨ X.env.scope.names.lookup z = some .local := by first | exact .inl rfl | exact .inr rfl | assumption) :
    DS X (.Assign [.Name z pos'] (.Call (.Name x p) [.Name y p2, e] [] pos) pos2) D Γ ω := fun B σ G H S => by
  obtain ⟨f, fd, ps, F, hm, hk, hb⟩ := C
  obtain ⟨v, hv', a, hq, hsq⟩ := S.slot i _ hΓ
  subst hq
  refine ws_of (ps_set hN hj hz (pe_call F hr hg hm hk hb .nil (pass0 (X := X)) (pa_cons (pe_var hNi hv hd hcd) (pa_cons pe_we pa_nil he1) he) hdb he hpl) hs hf) ⟨_, hv', h B σ G H S _ fun d v G2 H2 ω2 h2 S2 e2 q1 => ?_⟩
  obtain ⟨k, rfl, hk1, hn⟩ := h2
  cases q1
  refine ⟨a, ns, k, rfl, hsq H2 (e2.trans S2.sub), hk1, hlen, fun r H' u w ex hr hx h0 h1 => ?_⟩
  exact ⟨G2, _, _, (S2.newat (c := .reel 0) ex hr ⟨u, w, 0, hx, h0, h1, Int.le_refl _, Int.le_refl _⟩).set (s := .own r) rfl (S2.ilt (glt hl)), hn r (S2.free hr).2.1⟩
end
section
variable {P : Program} {w : World} {K : PySem.W.Frag} {mg : Str → Option Value} {base : Heap}
abbrev sLaw : Stmt := top 51
theorem scLaw : FnScope ["_law_script", "_law_words", "_law_index", "_law_reel_here", "_law_turn", "_law_kinds", "_law_record_here", "_law_kind_here"] ["_law_script"] (defScope sLaw) := ⟨rfl, rfl, rfl, by decide +kernel, rfl, by decide +kernel, by decide +kernel⟩
def spLaw (K : PySem.W.Frag) : Sp := fun vs H Q _ => ∃ (a : Addr) (ns : List Int), vs = [.ref a] ∧ SqL K H a (ns.map V.int) ∧ ns.length ≤ 63 ∧ ∀ H', Q (.bl true) H'
theorem ok_law {f : Addr} {fd : FuncData} (T : Txt mg) (C_law_reel : Cal P w K mg base 1 "_law_reel" (spReel K)) (C_law_spin : Cal P w K mg base 1 "_law_spin" (spR rSpin)) (C_law_cases : Cal P w K mg base 4 "_law_cases" (spR rCases)) (C_law_right : Cal P w K mg base 9 "_law_right" (spR rRight)) (F : Fun K "law" "law" sLaw f fd) : FnOk P w K mg base CX0 10 f fd ["_law_script"] (spLaw K) := by
  have sc := scLaw
  refine F.ok sc (fun vs H Q E h => by obtain ⟨a, ns, rfl, _⟩ := h; rfl) (fun cdv A outer s H vs Q E hr h => ?_)
  obtain ⟨a, ns, rfl, hS, hlen, q⟩ := h
  refine ⟨_, pss_we, ?_⟩
  have S0 : SD ⟨H, H⟩ H H (start ["_law_script", "_law_words", "_law_index", "_law_reel_here", "_law_turn", "_law_kinds", "_law_record_here", "_law_kind_here"] [.ref a]) (startG ["_law_script", "_law_words", "_law_index", "_law_reel_here", "_law_turn", "_law_kinds", "_law_record_here", "_law_kind_here"] [.scr K ns]) ow0 := sd_start rfl (fun j t e => by
    rcases j with _ | j
    · have e' : Slot.scr K ns = t := by simpa using e
      subst e'
      exact ⟨_, rfl, a, rfl, fun G' ex => sq_mono hS ex⟩
    · simp at e) (Ex.refl _) (fun _ _ e => e) (fun _ _ e => by cases e)
  have main : DSs (cxOf CX0 P w K mg base ["_law_script", "_law_words", "_law_index", "_law_reel_here", "_law_turn", "_law_kinds", "_law_record_here", "_law_kind_here"] "law" (defScope sLaw) f cdv A outer s H E).nox (defBody sLaw) { nx := fun _ _ => False, rt := fun d _ => d = .bool true } (startG ["_law_script", "_law_words", "_law_index", "_law_reel_here", "_law_turn", "_law_kinds", "_law_record_here", "_law_kind_here"] [.scr K ns]) ow0 := by
    refine dss_cons ?_
    refine ds_set (i := 1) sc.nd rfl (.inl rfl) ⟨_, rfl⟩ ?_
    refine de_lst ?_
    refine da_cons ?_
    refine de_str ?_
    refine da_cons ?_
    refine de_str ?_
    refine da_cons ?_
    refine de_str ?_
    refine da_cons ?_
    refine de_str ?_
    refine da_cons ?_
    refine de_str ?_
    refine da_cons ?_
    refine de_str ?_
    refine da_nil ?_
    refine ⟨(by simp only [List.length_cons, List.length_nil]; decide), ?_⟩
    refine dss_cons ?_
    refine ds_forR1 .never rfl rfl T.range ?_
    refine de_max2 rfl rfl T.max ?_
    refine de_int ?_
    refine de_min2 rfl rfl T.min ?_
    refine de_int ?_
    refine de_scrLen rfl rfl T.len (i := 0) rfl (.inl rfl) rfl ?_
    refine ⟨_, _, rfl, rfl, ?_⟩
    refine ⟨_, _, rfl, rfl, ?_⟩
    refine ⟨_, rfl, by omega, by omega, fun _ Γ _ => ∃ o2 o3 o4 o5 o6 o7, Γ = [some (.scr K ns), some (.dat (.list wordsD)), o2, o3, o4, o5, o6, o7], ⟨_, _, _, _, _, _, rfl⟩, ?_, ?_⟩
    · rintro i Γ ω hi ⟨o2, o3, o4, o5, o6, o7, rfl⟩
      have hi1 : i ≤ 1 := by omega
      refine dg_name (i := 2) sc.nd rfl (.inl rfl) ⟨_, rfl⟩ ?_
      refine dss_cons ?_
      refine ds_reelNew C_law_reel (hr.mono (by decide)) rfl sc.nd (j := 3) rfl (.inl rfl) ⟨_, rfl⟩ (i := 0) rfl (.inl rfl) rfl (by omega) ?_
      refine de_name (i := 2) rfl (.inl rfl) rfl ?_
      refine ⟨i, rfl, hi1, fun r hr0 => ?_⟩
      refine dss_one ?_
      refine ds_forR1 .never rfl rfl T.range ?_
      refine de_int ?_
      refine ⟨_, rfl, by decide, by decide, fun t Γ ω => ∃ o4 o5 o6 o7 n, Γ = [some (.scr K ns), some (.dat (.list wordsD)), some (.dat (.int i)), some (.own r), o4, o5, o6, o7] ∧ ω r = some (.reel n) ∧ n ≤ 419 * t, ⟨_, _, _, _, 0, rfl, setO_same, by omega⟩, ?_, ?_⟩
      · rintro t Γ ω ht ⟨o4, o5, o6, o7, n, rfl, hw, hn⟩
        have hlim : n ≤ 2514 := by omega
        refine dg_name (i := 4) sc.nd rfl (.inl rfl) ⟨_, rfl⟩ ?_
        refine dss_cons ?_
        refine ds_asg ?_
        refine de_callR C_law_cases (hr.mono (by decide)) rfl (i := 3) rfl (.inl rfl) rfl ?_
        refine da_cons ?_
        refine de_name (i := 1) rfl (.inl rfl) rfl ?_
        refine da_cons ?_
        refine de_add ?_
        refine de_int ?_
        refine de_callR C_law_spin (hr.mono (by decide)) rfl (i := 3) rfl (.inl rfl) rfl ?_
        refine da_cons ?_
        refine de_int ?_
        refine da_nil ?_
        refine ⟨_, 1, _, hw, ⟨_, rfl, (by decide), (by decide), rfl, rfl⟩, by (show n + 1 ≤ 1000000); omega, fun d1 hd1 => ?_⟩
        obtain ⟨z, rfl, z0, z1⟩ := hd1
        obtain ⟨zn, rfl⟩ : ∃ zn : Nat, z = (zn : Int) := ⟨z.toNat, by omega⟩
        refine ⟨_, _, rfl, rfl, ?_⟩
        refine da_nil ?_
        refine ⟨_, 400, _, setO_same, ⟨1 + zn, by rw [Int.natCast_add]; rfl, by omega, by omega, rfl, rfl⟩, by (show n + 1 + 400 ≤ 1000000); omega, fun d2 hd2 => ?_⟩
        obtain ⟨ks, l, rfl, hks, hkl, hrec⟩ := hd2
        refine dg_tup rfl rfl (dgs_cons (dg_name (i := 5) sc.nd rfl (.inl rfl) ⟨_, rfl⟩ (dgs_cons (dg_name (i := 6) sc.nd rfl (.inl rfl) ⟨_, rfl⟩ (dgs_nil ?_)))))
        refine dss_one ?_
        refine ds_forL .never rfl ?_
        refine de_slL ?_
        refine de_name (i := 5) rfl (.inl rfl) rfl ?_
        refine de_int ?_
        refine ⟨_, rfl, ?_⟩
        refine ⟨_, rfl, ?_⟩
        rw [cutD_two]
        refine ⟨_, rfl, fun k Γ ω => ∃ o7 n2, Γ = [some (.scr K ns), some (.dat (.list wordsD)), some (.dat (.int i)), some (.own r), some (.dat (.int t)), some (.dat (.list (ks.map kindD))), some (.dat (.list (l.map evD))), o7] ∧ ω r = some (.reel n2) ∧ n2 ≤ 419 * t + 401 + 9 * k, ⟨_, _, rfl, setO_same, by omega⟩, ?_, ?_⟩
        · rintro k d Γ ω hk ⟨o7, n2, rfl, hw2, hn2⟩
          have hk2 : k < 2 := by
            have := (List.getElem?_eq_some_iff.mp hk).1
            rw [List.length_take] at this; omega
          obtain ⟨kk, hkk, rfl⟩ : ∃ kk ∈ ks, kindD kk = d := by
            have := List.mem_of_mem_take (List.mem_of_getElem? hk)
            simpa using this
          refine dg_name (i := 7) sc.nd rfl (.inl rfl) ⟨_, rfl⟩ ?_
          refine dss_one ?_
          refine ds_if ?_
          refine dt_not ?_
          refine dt_val ?_
          refine de_callR C_law_right (hr.mono (by decide)) rfl (i := 3) rfl (.inl rfl) rfl ?_
          refine da_cons ?_
          refine de_name (i := 7) rfl (.inl rfl) rfl ?_
          refine da_cons ?_
          refine de_name (i := 6) rfl (.inl rfl) rfl ?_
          refine da_nil ?_
          refine ⟨_, 9, _, hw2, ⟨kk, l, rfl, hks kk hkk, hrec, rfl, rfl⟩, by (show n2 + 9 ≤ 1000000); omega, fun d3 hd3 => ?_⟩
          obtain rfl : d3 = .bool true := hd3
          refine ⟨_, rfl, ?_⟩
          refine iteF ?_
          refine dss_nil ?_
          exact ⟨_, _, rfl, setO_same, by omega⟩
        · rintro Γ ω ⟨o7, n2, rfl, hw2, hn2⟩
          rw [List.length_take] at hn2
          exact ⟨_, _, _, _, _, rfl, hw2, by omega⟩
      · rintro Γ ω ⟨o4, o5, o6, o7, n, rfl, hw, hn⟩
        exact ⟨_, _, _, _, _, _, rfl⟩
    · rintro Γ ω ⟨o2, o3, o4, o5, o6, o7, rfl⟩
      refine dss_one ?_
      refine ds_ret ?_
      refine de_bl ?_
      exact rfl
  refine wss_mono (main ⟨H, H⟩ _ H H S0) (fun _ _ ⟨_, _, _, _, z⟩ => z.elim) (fun v H' ⟨G2, σ2, Γ2, ω2, d, S2, q2, e⟩ => ?_) (fun _ _ ⟨_, _, _, _, z⟩ => z.elim) (fun _ _ ⟨_, _, _, _, z⟩ => z.elim)
  have e' : d = .bool true := e
  subst e'
  cases q2
  exact q H'
end
end K20
set_option maxRecDepth 100000
set_option maxHeartbeats 4000000
namespace K20
open PySem PySem.Spec PyProof.Rows L2 Evl TC
def FF (K : PySem.W.Frag) (mg : Str → Option Value) (x : Str) (st : Stmt) : Prop := ∃ f fd, Fun K x x st f fd ∧ mg x = some (.ref f) ∧ PySem.W.keepIn K (.ref f) = true
theorem ff_mk {K : PySem.W.Frag} {h : Heap} {mg : Str → Option Value} {x : Str} {st : Stmt} {f : Addr} {od an : Option Addr} {osl : Array (Option Value)} {oc kV doc pm cdv ct : Value} (X : K.In h) (G : h.Ns mainGlobals mg) (a : PySem.W.nsIn K mainGlobals x = some (some (.ref f)))
    (l : K.lookup f = some ⟨oc, od, .func (PySem.W.fnOf x x (defArgs st) (defBody st) (defScope st) .none kV doc pm an cdv ct), osl⟩) (c : PySem.W.codeIn K cdv x = true) (k : PySem.W.keepIn K (.ref f) = true) : FF K mg x st := ⟨f, _, fun_mk l c k, PySem.W.mg_of X G a, k⟩
theorem int_mk {K : PySem.W.Frag} {h : Heap} {mg : Str → Option Value} {x : Str} {i : Int} {t : Tok} (X : K.In h) (G : h.Ns mainGlobals mg) (a : PySem.W.nsIn K mainGlobals x = some (some (.int i t))) : ∃ t, mg x = some (.int i t) := ⟨t, PySem.W.mg_of X G a⟩
theorem kt_mk {K : PySem.W.Frag} {h : Heap} {mg : Str → Option Value} {x : Str} {c : Addr} {od : Option Addr} {osl : Array (Option Value)} {a1 a2 a3 : Str} {t1 t2 t3 : Tok} {n : Nat} (X : K.In h) (G : h.Ns mainGlobals mg) (a : PySem.W.nsIn K mainGlobals x = some (some (.ref c)))
    (l : K.lookup c = some ⟨.type "tuple", od, .seq #[.str a1 t1, .str a2 t2, .str a3 t3] n, osl⟩) : ∃ c, mg x = some (.ref c) ∧ KT K c [.str a1, .str a2, .str a3] :=
  ⟨c, PySem.W.mg_of X G a, _, _, _, l, rfl, rfl, by show 3 ≤ sizeLine; decide, .cons ⟨_, rfl⟩ (.cons ⟨_, rfl⟩ (.cons ⟨_, rfl⟩ .nil))⟩
theorem kd_mk {K : PySem.W.Frag} {w : World} {h : Heap} {mg : Str → Option Value} {d : Addr} {es : Array DictEntry} {n : Nat} {t1 t2 t3 t4 t5 t6 : Tok} (X : K.In h) (G : h.Ns mainGlobals mg) (a : PySem.W.nsIn K mainGlobals "SIZES" = some (some (.ref d)))
    (l : K.lookup d = some ⟨.type "dict", none, .dict es n, #[]⟩) (lit : PySem.W.KeysLit w.params es.toList) (low : (d == sysModules) = false)
    (b1 : PySem.W.nsIn K d "touch" = some (some (.int 0 t1))) (b2 : PySem.W.nsIn K d "tap" = some (some (.int 2 t2))) (b3 : PySem.W.nsIn K d "taps" = some (some (.int 4 t3))) (b4 : PySem.W.nsIn K d "long" = some (some (.int 2 t4))) (b5 : PySem.W.nsIn K d "drag" = some (some (.int 2 t5))) (b6 : PySem.W.nsIn K d "pinch" = some (some (.int 1 t6))) :
    ∃ d es n, mg "SIZES" = some (.ref d) ∧ KDict K w d es n ∧ ∀ k : TC.Kind, ∃ t, PySem.W.nsIn K d (wordK k) = some (some (.int ((partsK k).length : Int) t)) :=
  ⟨d, es, n, PySem.W.mg_of X G a, ⟨l, lit, low⟩, fun k => by
    cases k
    · exact ⟨_, b1⟩
    · exact ⟨_, b2⟩
    · exact ⟨_, b3⟩
    · exact ⟨_, b4⟩
    · exact ⟨_, b5⟩
    · exact ⟨_, b6⟩⟩
theorem law_all {P : Program} {w : World} {K : PySem.W.Frag} {mg : Str → Option Value} {base : Heap} (T : Txt mg) (T2 : Txt2 K w mg)
    (h_moment_of : FF K mg "moment_of" sMom)
    (h_distance : FF K mg "distance" sDist)
    (h_difference : FF K mg "difference" sDiff)
    (h_press_from : FF K mg "press_from" sPress)
    (h_next_down : FF K mg "next_down" sNext)
    (h_first_word : FF K mg "first_word" sFW)
    (h_is_integer : FF K mg "is_integer" sInt)
    (h_is_list : FF K mg "is_list" sList)
    (h__law_reel : FF K mg "_law_reel" sReel)
    (h__law_spin : FF K mg "_law_spin" sSpin)
    (h__law_scales : FF K mg "_law_scales" sScales)
    (h__law_late : FF K mg "_law_late" sLate)
    (h__law_placed : FF K mg "_law_placed" sPlaced)
    (h_up_moment : FF K mg "up_moment" sUp)
    (h_moves_beyond : FF K mg "moves_beyond" sBey)
    (h_is_place : FF K mg "is_place" sPlace)
    (h_is_kind : FF K mg "is_kind" sKindC)
    (h__law_start : FF K mg "_law_start" sStart)
    (h__law_near : FF K mg "_law_near" sNear)
    (h__law_kind : FF K mg "_law_kind" sLKind)
    (h_held_end : FF K mg "held_end" sHeld)
    (h_verdict_of_pinch : FF K mg "verdict_of_pinch" sPinch)
    (h_is_event : FF K mg "is_event" sEvent)
    (h__law_record : FF K mg "_law_record" sRec)
    (h_verdict_of_tap : FF K mg "verdict_of_tap" sTap)
    (h_verdict_of_long : FF K mg "verdict_of_long" sLong)
    (h_verdict_of_taps : FF K mg "verdict_of_taps" sTaps)
    (h_wrong_event : FF K mg "wrong_event" sWrong)
    (h__law_cases : FF K mg "_law_cases" sCases)
    (h_word_and_moment : FF K mg "word_and_moment" sWM)
    (h_require_record : FF K mg "require_record" sReq)
    (h_verdict_of : FF K mg "verdict_of" sVof)
    (h_verdict : FF K mg "verdict" sV)
    (h__law_kept_right : FF K mg "_law_kept_right" sKept)
    (h__law_places_right : FF K mg "_law_places_right" sPlaces)
    (h__law_ticks_right : FF K mg "_law_ticks_right" sTicks)
    (h__law_right : FF K mg "_law_right" sRight)
    {f : Addr} {fd : FuncData} (F : Fun K "law" "law" sLaw f fd) : FnOk P w K mg base CX0 10 f fd ["_law_script"] (spLaw K) := by
  have C_moment_of : Cal P w K mg base 1 "moment_of" (spP rMom) := by
    obtain ⟨f, fd, F, m, k⟩ := h_moment_of
    exact ⟨f, fd, ["row"], ok_mom F, m, k, F.binds (ps := ["row"]) fun _ _ _ _ _ _ us hl => match us, hl with | [_], _ => rfl⟩
  have C_distance : Cal P w K mg base 1 "distance" (spP rDist) := by
    obtain ⟨f, fd, F, m, k⟩ := h_distance
    exact ⟨f, fd, ["one", "other"], ok_dist T F, m, k, F.binds (ps := ["one", "other"]) fun _ _ _ _ _ _ us hl => match us, hl with | [_, _], _ => rfl⟩
  have C_difference : Cal P w K mg base 1 "difference" (spP rDiff) := by
    obtain ⟨f, fd, F, m, k⟩ := h_difference
    exact ⟨f, fd, ["one", "other"], ok_diff F, m, k, F.binds (ps := ["one", "other"]) fun _ _ _ _ _ _ us hl => match us, hl with | [_, _], _ => rfl⟩
  have C_press_from : Cal P w K mg base 1 "press_from" (spP rPress) := by
    obtain ⟨f, fd, F, m, k⟩ := h_press_from
    exact ⟨f, fd, ["rows", "index"], ok_press F, m, k, F.binds (ps := ["rows", "index"]) fun _ _ _ _ _ _ us hl => match us, hl with | [_, _], _ => rfl⟩
  have C_next_down : Cal P w K mg base 1 "next_down" (spP rNext) := by
    obtain ⟨f, fd, F, m, k⟩ := h_next_down
    exact ⟨f, fd, ["rows", "index"], ok_next T F, m, k, F.binds (ps := ["rows", "index"]) fun _ _ _ _ _ _ us hl => match us, hl with | [_, _], _ => rfl⟩
  have C_first_word : Cal P w K mg base 1 "first_word" (spP rFW) := by
    obtain ⟨f, fd, F, m, k⟩ := h_first_word
    exact ⟨f, fd, ["claims", "up"], ok_fw T F, m, k, F.binds (ps := ["claims", "up"]) fun _ _ _ _ _ _ us hl => match us, hl with | [_, _], _ => rfl⟩
  have C_is_integer : Cal P w K mg base 1 "is_integer" (spP rInt) := by
    obtain ⟨f, fd, F, m, k⟩ := h_is_integer
    exact ⟨f, fd, ["value", "first", "last"], ok_int T F, m, k, F.binds (ps := ["value", "first", "last"]) fun _ _ _ _ _ _ us hl => match us, hl with | [_, _, _], _ => rfl⟩
  have C_is_list : Cal P w K mg base 1 "is_list" (spP rList) := by
    obtain ⟨f, fd, F, m, k⟩ := h_is_list
    exact ⟨f, fd, ["value", "most"], ok_list T F, m, k, F.binds (ps := ["value", "most"]) fun _ _ _ _ _ _ us hl => match us, hl with | [_, _], _ => rfl⟩
  have C__law_reel : Cal P w K mg base 1 "_law_reel" (spReel K) := by
    obtain ⟨f, fd, F, m, k⟩ := h__law_reel
    exact ⟨f, fd, ["_law_script", "_law_index"], ok_reel T F, m, k, F.binds (ps := ["_law_script", "_law_index"]) fun _ _ _ _ _ _ us hl => match us, hl with | [_, _], _ => rfl⟩
  have C__law_spin : Cal P w K mg base 1 "_law_spin" (spR rSpin) := by
    obtain ⟨f, fd, F, m, k⟩ := h__law_spin
    exact ⟨f, fd, ["_law_reel_here", "_law_size"], ok_spin T F, m, k, F.binds (ps := ["_law_reel_here", "_law_size"]) fun _ _ _ _ _ _ us hl => match us, hl with | [_, _], _ => rfl⟩
  have C__law_scales : Cal P w K mg base 1 "_law_scales" (spP rScales) := by
    obtain ⟨f, fd, F, m, k⟩ := h__law_scales
    exact ⟨f, fd, ["_law_kinds"], ok_scales T F, m, k, F.binds (ps := ["_law_kinds"]) fun _ _ _ _ _ _ us hl => match us, hl with | [_], _ => rfl⟩
  have C__law_late : Cal P w K mg base 1 "_law_late" (spP rLate) := by
    obtain ⟨f, fd, F, m, k⟩ := h__law_late
    exact ⟨f, fd, ["_law_due", "_law_many", "_law_plus"], ok_late F, m, k, F.binds (ps := ["_law_due", "_law_many", "_law_plus"]) fun _ _ _ _ _ _ us hl => match us, hl with | [_, _, _], _ => rfl⟩
  have C__law_placed : Cal P w K mg base 1 "_law_placed" (spP rPlaced) := by
    obtain ⟨f, fd, F, m, k⟩ := h__law_placed
    exact ⟨f, fd, ["_law_record_here", "_law_way", "_law_by"], ok_placed F, m, k, F.binds (ps := ["_law_record_here", "_law_way", "_law_by"]) fun _ _ _ _ _ _ us hl => match us, hl with | [_, _, _], _ => rfl⟩
  have C_up_moment : Cal P w K mg base 2 "up_moment" (spP rUp) := by
    obtain ⟨f, fd, F, m, k⟩ := h_up_moment
    exact ⟨f, fd, ["press"], ok_up C_moment_of F, m, k, F.binds (ps := ["press"]) fun _ _ _ _ _ _ us hl => match us, hl with | [_], _ => rfl⟩
  have C_moves_beyond : Cal P w K mg base 2 "moves_beyond" (spP rBey) := by
    obtain ⟨f, fd, F, m, k⟩ := h_moves_beyond
    exact ⟨f, fd, ["press", "axis", "slop"], ok_bey T C_moment_of C_distance F, m, k, F.binds (ps := ["press", "axis", "slop"]) fun _ _ _ _ _ _ us hl => match us, hl with | [_, _, _], _ => rfl⟩
  have C_is_place : Cal P w K mg base 2 "is_place" (spP rPlace) := by
    obtain ⟨f, fd, F, m, k⟩ := h_is_place
    exact ⟨f, fd, ["value"], ok_place T C_is_integer F, m, k, F.binds (ps := ["value"]) fun _ _ _ _ _ _ us hl => match us, hl with | [_], _ => rfl⟩
  have C_is_kind : Cal P w K mg base 2 "is_kind" (spP rKindC) := by
    obtain ⟨f, fd, F, m, k⟩ := h_is_kind
    exact ⟨f, fd, ["value"], ok_kindc T T2 C_is_integer F, m, k, F.binds (ps := ["value"]) fun _ _ _ _ _ _ us hl => match us, hl with | [_], _ => rfl⟩
  have C__law_start : Cal P w K mg base 2 "_law_start" (spR rStart) := by
    obtain ⟨f, fd, F, m, k⟩ := h__law_start
    exact ⟨f, fd, ["_law_reel_here"], ok_start T C__law_spin F, m, k, F.binds (ps := ["_law_reel_here"]) fun _ _ _ _ _ _ us hl => match us, hl with | [_], _ => rfl⟩
  have C__law_near : Cal P w K mg base 2 "_law_near" (spR rNear) := by
    obtain ⟨f, fd, F, m, k⟩ := h__law_near
    exact ⟨f, fd, ["_law_reel_here", "_law_place", "_law_steps"], ok_near T C__law_spin F, m, k, F.binds (ps := ["_law_reel_here", "_law_place", "_law_steps"]) fun _ _ _ _ _ _ us hl => match us, hl with | [_, _, _], _ => rfl⟩
  have C__law_kind : Cal P w K mg base 2 "_law_kind" (spR rLKind) := by
    obtain ⟨f, fd, F, m, k⟩ := h__law_kind
    exact ⟨f, fd, ["_law_reel_here", "_law_words", "_law_top"], ok_lkind T C__law_spin F, m, k, F.binds (ps := ["_law_reel_here", "_law_words", "_law_top"]) fun _ _ _ _ _ _ us hl => match us, hl with | [_, _, _], _ => rfl⟩
  have C_held_end : Cal P w K mg base 3 "held_end" (spP rHeld) := by
    obtain ⟨f, fd, F, m, k⟩ := h_held_end
    exact ⟨f, fd, ["rows", "index", "time", "slop"], ok_held T C_moment_of C_press_from C_next_down C_up_moment C_moves_beyond F, m, k, F.binds (ps := ["rows", "index", "time", "slop"]) fun _ _ _ _ _ _ us hl => match us, hl with | [_, _, _, _], _ => rfl⟩
  have C_verdict_of_pinch : Cal P w K mg base 3 "verdict_of_pinch" (spP rPinch) := by
    obtain ⟨f, fd, F, m, k⟩ := h_verdict_of_pinch
    exact ⟨f, fd, ["rows", "slop"], ok_pinch T C_moment_of C_distance C_difference C_press_from C_next_down C_up_moment C_first_word F, m, k, F.binds (ps := ["rows", "slop"]) fun _ _ _ _ _ _ us hl => match us, hl with | [_, _], _ => rfl⟩
  have C_is_event : Cal P w K mg base 3 "is_event" (spP rEvent) := by
    obtain ⟨f, fd, F, m, k⟩ := h_is_event
    exact ⟨f, fd, ["value"], ok_event T T2 C_is_integer C_is_place F, m, k, F.binds (ps := ["value"]) fun _ _ _ _ _ _ us hl => match us, hl with | [_], _ => rfl⟩
  have C__law_record : Cal P w K mg base 3 "_law_record" (spR rRec) := by
    obtain ⟨f, fd, F, m, k⟩ := h__law_record
    exact ⟨f, fd, ["_law_reel_here", "_law_fingers", "_law_size", "_law_gaps", "_law_steps"], ok_rec T C__law_spin C__law_start C__law_near F, m, k, F.binds (ps := ["_law_reel_here", "_law_fingers", "_law_size", "_law_gaps", "_law_steps"]) fun _ _ _ _ _ _ us hl => match us, hl with | [_, _, _, _, _], _ => rfl⟩
  have C_verdict_of_tap : Cal P w K mg base 4 "verdict_of_tap" (spP rTap) := by
    obtain ⟨f, fd, F, m, k⟩ := h_verdict_of_tap
    exact ⟨f, fd, ["rows", "time", "slop"], ok_tap T C_held_end F, m, k, F.binds (ps := ["rows", "time", "slop"]) fun _ _ _ _ _ _ us hl => match us, hl with | [_, _, _], _ => rfl⟩
  have C_verdict_of_long : Cal P w K mg base 4 "verdict_of_long" (spP rLong) := by
    obtain ⟨f, fd, F, m, k⟩ := h_verdict_of_long
    exact ⟨f, fd, ["rows", "time", "slop"], ok_long T C_held_end F, m, k, F.binds (ps := ["rows", "time", "slop"]) fun _ _ _ _ _ _ us hl => match us, hl with | [_, _, _], _ => rfl⟩
  have C_verdict_of_taps : Cal P w K mg base 4 "verdict_of_taps" (spP rTaps) := by
    obtain ⟨f, fd, F, m, k⟩ := h_verdict_of_taps
    exact ⟨f, fd, ["rows", "count", "time", "gap", "slop"], ok_taps T C_moment_of C_distance C_next_down C_held_end F, m, k, F.binds (ps := ["rows", "count", "time", "gap", "slop"]) fun _ _ _ _ _ _ us hl => match us, hl with | [_, _, _, _, _], _ => rfl⟩
  have C_wrong_event : Cal P w K mg base 4 "wrong_event" (spP rWrong) := by
    obtain ⟨f, fd, F, m, k⟩ := h_wrong_event
    exact ⟨f, fd, ["record"], ok_wrong T C_is_event F, m, k, F.binds (ps := ["record"]) fun _ _ _ _ _ _ us hl => match us, hl with | [_], _ => rfl⟩
  have C__law_cases : Cal P w K mg base 4 "_law_cases" (spR rCases) := by
    obtain ⟨f, fd, F, m, k⟩ := h__law_cases
    exact ⟨f, fd, ["_law_reel_here", "_law_words", "_law_size"], ok_cases T C__law_spin C__law_kind C__law_scales C__law_record F, m, k, F.binds (ps := ["_law_reel_here", "_law_words", "_law_size"]) fun _ _ _ _ _ _ us hl => match us, hl with | [_, _, _], _ => rfl⟩
  have C_word_and_moment : Cal P w K mg base 5 "word_and_moment" (spP rWM) := by
    obtain ⟨f, fd, F, m, k⟩ := h_word_and_moment
    exact ⟨f, fd, ["kind", "rows"], ok_wm T C_moment_of C_verdict_of_tap C_verdict_of_taps C_verdict_of_long C_press_from C_moves_beyond C_up_moment C_first_word C_verdict_of_pinch F, m, k, F.binds (ps := ["kind", "rows"]) fun _ _ _ _ _ _ us hl => match us, hl with | [_, _], _ => rfl⟩
  have C_require_record : Cal P w K mg base 5 "require_record" (spP rReq) := by
    obtain ⟨f, fd, F, m, k⟩ := h_require_record
    exact ⟨f, fd, ["record"], ok_req T C_is_list C_wrong_event F, m, k, F.binds (ps := ["record"]) fun _ _ _ _ _ _ us hl => match us, hl with | [_], _ => rfl⟩
  have C_verdict_of : Cal P w K mg base 6 "verdict_of" (spP rVof) := by
    obtain ⟨f, fd, F, m, k⟩ := h_verdict_of
    exact ⟨f, fd, ["kind", "rows"], ok_vof T C_word_and_moment F, m, k, F.binds (ps := ["kind", "rows"]) fun _ _ _ _ _ _ us hl => match us, hl with | [_, _], _ => rfl⟩
  have C_verdict : Cal P w K mg base 7 "verdict" (spP rV) := by
    obtain ⟨f, fd, F, m, k⟩ := h_verdict
    exact ⟨f, fd, ["kind", "record"], ok_v T C_is_kind C_require_record C_verdict_of F, m, k, F.binds (ps := ["kind", "record"]) fun _ _ _ _ _ _ us hl => match us, hl with | [_, _], _ => rfl⟩
  have C__law_kept_right : Cal P w K mg base 8 "_law_kept_right" (spP rKept) := by
    obtain ⟨f, fd, F, m, k⟩ := h__law_kept_right
    exact ⟨f, fd, ["_law_kind_here", "_law_record_here"], ok_kept T C_verdict F, m, k, F.binds (ps := ["_law_kind_here", "_law_record_here"]) fun _ _ _ _ _ _ us hl => match us, hl with | [_, _], _ => rfl⟩
  have C__law_places_right : Cal P w K mg base 8 "_law_places_right" (spR rPlaces) := by
    obtain ⟨f, fd, F, m, k⟩ := h__law_places_right
    exact ⟨f, fd, ["_law_reel_here", "_law_kind_here", "_law_record_here"], ok_places T C__law_spin C__law_placed C_verdict F, m, k, F.binds (ps := ["_law_reel_here", "_law_kind_here", "_law_record_here"]) fun _ _ _ _ _ _ us hl => match us, hl with | [_, _, _], _ => rfl⟩
  have C__law_ticks_right : Cal P w K mg base 8 "_law_ticks_right" (spR rTicks) := by
    obtain ⟨f, fd, F, m, k⟩ := h__law_ticks_right
    exact ⟨f, fd, ["_law_reel_here", "_law_kind_here", "_law_record_here"], ok_ticks T C__law_spin C__law_late C_verdict F, m, k, F.binds (ps := ["_law_reel_here", "_law_kind_here", "_law_record_here"]) fun _ _ _ _ _ _ us hl => match us, hl with | [_, _, _], _ => rfl⟩
  have C__law_right : Cal P w K mg base 9 "_law_right" (spR rRight) := by
    obtain ⟨f, fd, F, m, k⟩ := h__law_right
    exact ⟨f, fd, ["_law_reel_here", "_law_kind_here", "_law_record_here"], ok_right T C__law_spin C_verdict C__law_kept_right C__law_ticks_right C__law_places_right F, m, k, F.binds (ps := ["_law_reel_here", "_law_kind_here", "_law_record_here"]) fun _ _ _ _ _ _ us hl => match us, hl with | [_, _, _], _ => rfl⟩
  exact ok_law T C__law_reel C__law_spin C__law_cases C__law_right F
theorem all_mk {l : PySem.W.OpenLaw} {w : World} {K : PySem.W.Frag} {h : Heap} {mg : Str → Option Value} {fa f4 : Addr} (X : K.In h) (G : h.Ns mainGlobals mg) (hfa : mg "law" = some (.ref fa)) {od4 an4 : Option Addr} {sl4 : Array (Option Value)} {oc4 kV4 dc4 pm4 cd4 ct4 : Value}
    (a4 : PySem.W.nsIn K mainGlobals "law" = some (some (.ref f4))) (l4 : K.lookup f4 = some ⟨oc4, od4, .func (PySem.W.fnOf "law" "law" (defArgs sLaw) (defBody sLaw) (defScope sLaw) .none kV4 dc4 pm4 an4 cd4 ct4), sl4⟩) (c4 : PySem.W.codeIn K cd4 "law" = true) (k4 : PySem.W.keepIn K (.ref f4) = true)
    (T : Txt mg) (T2 : Txt2 K w mg)
    (h_moment_of : FF K mg "moment_of" sMom)
    (h_distance : FF K mg "distance" sDist)
    (h_difference : FF K mg "difference" sDiff)
    (h_press_from : FF K mg "press_from" sPress)
    (h_next_down : FF K mg "next_down" sNext)
    (h_first_word : FF K mg "first_word" sFW)
    (h_is_integer : FF K mg "is_integer" sInt)
    (h_is_list : FF K mg "is_list" sList)
    (h__law_reel : FF K mg "_law_reel" sReel)
    (h__law_spin : FF K mg "_law_spin" sSpin)
    (h__law_scales : FF K mg "_law_scales" sScales)
    (h__law_late : FF K mg "_law_late" sLate)
    (h__law_placed : FF K mg "_law_placed" sPlaced)
    (h_up_moment : FF K mg "up_moment" sUp)
    (h_moves_beyond : FF K mg "moves_beyond" sBey)
    (h_is_place : FF K mg "is_place" sPlace)
    (h_is_kind : FF K mg "is_kind" sKindC)
    (h__law_start : FF K mg "_law_start" sStart)
    (h__law_near : FF K mg "_law_near" sNear)
    (h__law_kind : FF K mg "_law_kind" sLKind)
    (h_held_end : FF K mg "held_end" sHeld)
    (h_verdict_of_pinch : FF K mg "verdict_of_pinch" sPinch)
    (h_is_event : FF K mg "is_event" sEvent)
    (h__law_record : FF K mg "_law_record" sRec)
    (h_verdict_of_tap : FF K mg "verdict_of_tap" sTap)
    (h_verdict_of_long : FF K mg "verdict_of_long" sLong)
    (h_verdict_of_taps : FF K mg "verdict_of_taps" sTaps)
    (h_wrong_event : FF K mg "wrong_event" sWrong)
    (h__law_cases : FF K mg "_law_cases" sCases)
    (h_word_and_moment : FF K mg "word_and_moment" sWM)
    (h_require_record : FF K mg "require_record" sReq)
    (h_verdict_of : FF K mg "verdict_of" sVof)
    (h_verdict : FF K mg "verdict" sV)
    (h__law_kept_right : FF K mg "_law_kept_right" sKept)
    (h__law_places_right : FF K mg "_law_places_right" sPlaces)
    (h__law_ticks_right : FF K mg "_law_ticks_right" sTicks)
    (h__law_right : FF K mg "_law_right" sRight)
    : ∃ fd : FuncData, (∀ (s : Shared) (v : Value), BindsTo s fd ⟨[v], []⟩ [("_law_script", v)]) ∧ ∀ base : Heap, K.In base → base.Ns mainGlobals mg → FnOk l.prog w K mg base CX0 10 fa fd ["_law_script"] (spLaw K) := by
  have e := hfa.symm.trans (PySem.W.mg_of X G a4)
  cases e
  have F4 := fun_mk (st := sLaw) l4 c4 k4
  exact ⟨PySem.W.fnOf "law" "law" (defArgs sLaw) (defBody sLaw) (defScope sLaw) .none kV4 dc4 pm4 an4 cd4 ct4, fun s v => .of_eq rfl, fun base _ _ => law_all T T2 h_moment_of h_distance h_difference h_press_from h_next_down h_first_word h_is_integer h_is_list h__law_reel h__law_spin h__law_scales h__law_late h__law_placed h_up_moment h_moves_beyond h_is_place h_is_kind h__law_start h__law_near h__law_kind h_held_end h_verdict_of_pinch h_is_event h__law_record h_verdict_of_tap h_verdict_of_long h_verdict_of_taps h_wrong_event h__law_cases h_word_and_moment h_require_record h_verdict_of h_verdict h__law_kept_right h__law_places_right h__law_ticks_right h__law_right F4⟩
theorem walk {l : PySem.W.OpenLaw} {q : Program} {loose : List Str} {XP : (Str → Option Value) → Heap → Prop} {YP : World → Heap → Prop} {d : DefRec} {K : Params → PySem.W.Frag} (hn : l.most = some 63) (hdf : d.params.defaults = [])
    (hY : ∀ (w : World) (h : Heap), YP w h → (K w.params).In h)
    (F : ∀ (w : World) (mg : Str → Option Value) (fa : Addr) (h : Heap), (K w.params).In h → h.Ns mainGlobals mg → mg d.name = some (.ref fa) →
      ∃ fd : FuncData, (∀ (s : Shared) (u : Value), BindsTo s fd ⟨[u], []⟩ [("_law_script", u)]) ∧ ∀ base : Heap, (K w.params).In base → base.Ns mainGlobals mg → FnOk l.prog w (K w.params) mg base CX0 10 fa fd ["_law_script"] (spLaw (K w.params))) :
    PySem.W.WalkO q loose XP YP l.row.toRowW d [] (fun f vs => PySem.call f vs) :=
  L2.walk_of (n := 63) (k := 10) (x := "_law_script") (CX := fun _ => CX0) (sp := fun w => spLaw (K w.params)) hn (by decide) hdf ⟨rfl, by decide, by decide⟩ hY F (fun _ _ a ns hl _ hS => ⟨a, ns, rfl, hS, hl, fun _ => rfl⟩) fun _ _ _ _ _ z => z
end K20
open PySem PySem.W PyProof.Rows
set_option maxRecDepth 100000 in
set_option maxHeartbeats 0 in
theorem PySem.Challenge.cw_touchcontest_k20_whole_verdicts_seen_oth_holds : PySem.Challenge.rw_touchcontest_k20_whole_verdicts_seen_oth.Holds := by
  w_on; o_law; k_head; (case hw => w_witness2)
  k_fill
  refine K20.walk (l := PySem.Challenge.rw_touchcontest_k20_whole_verdicts_seen_oth) rfl rfl (fun w h Y => PySem.W.kIn_of Y) ?F
  case F =>
    intro w mg fa h KX G hmg
    have T : K20.Txt mg := by
      refine' ⟨?z0, ?z1, ?z2, ?z3, ?z4, ?z5, ?z6, ?z7, ?z8, ?z9, ?z10, ?z11, ?z12, ?z13, ?c1, ?c2, ?c3, ?c4⟩
      (case z0 => refine' PySem.W.mg_none_of KX G ?a; (case a => k_is))
      (case z1 => refine' PySem.W.mg_none_of KX G ?a; (case a => k_is))
      (case z2 => refine' PySem.W.mg_none_of KX G ?a; (case a => k_is))
      (case z3 => refine' PySem.W.mg_none_of KX G ?a; (case a => k_is))
      (case z4 => refine' PySem.W.mg_none_of KX G ?a; (case a => k_is))
      (case z5 => refine' PySem.W.mg_none_of KX G ?a; (case a => k_is))
      (case z6 => refine' PySem.W.mg_none_of KX G ?a; (case a => k_is))
      (case z7 => refine' PySem.W.mg_none_of KX G ?a; (case a => k_is))
      (case z8 => refine' PySem.W.mg_none_of KX G ?a; (case a => k_is))
      (case z9 => refine' PySem.W.mg_none_of KX G ?a; (case a => k_is))
      (case z10 => refine' PySem.W.mg_none_of KX G ?a; (case a => k_is))
      (case z11 => refine' PySem.W.mg_none_of KX G ?a; (case a => k_is))
      (case z12 => refine' PySem.W.mg_none_of KX G ?a; (case a => k_is))
      (case z13 => refine' PySem.W.mg_none_of KX G ?a; (case a => k_is))
      (case c1 => refine' K20.int_mk KX G ?a; (case a => k_is))
      (case c2 => refine' K20.int_mk KX G ?a; (case a => k_is))
      (case c3 => refine' K20.int_mk KX G ?a; (case a => k_is))
      (case c4 => refine' K20.int_mk KX G ?a; (case a => k_is))
    refine' K20.all_mk KX G hmg ?a4 ?l4 ?c4 ?k4 T ?T2 ?h_moment_of ?h_distance ?h_difference ?h_press_from ?h_next_down ?h_first_word ?h_is_integer ?h_is_list ?h__law_reel ?h__law_spin ?h__law_scales ?h__law_late ?h__law_placed ?h_up_moment ?h_moves_beyond ?h_is_place ?h_is_kind ?h__law_start ?h__law_near ?h__law_kind ?h_held_end ?h_verdict_of_pinch ?h_is_event ?h__law_record ?h_verdict_of_tap ?h_verdict_of_long ?h_verdict_of_taps ?h_wrong_event ?h__law_cases ?h_word_and_moment ?h_require_record ?h_verdict_of ?h_verdict ?h__law_kept_right ?h__law_places_right ?h__law_ticks_right ?h__law_right
    (case a4 => k_is); (case l4 => k_is); (case c4 => k_is); (case k4 => k_is)
    case T2 =>
      refine' ⟨?c1, ?c2, ?c3⟩
      (case c1 => refine' K20.kt_mk KX G ?a ?l; (case a => k_is); (case l => k_is))
      (case c2 => refine' K20.kt_mk KX G ?a ?l; (case a => k_is); (case l => k_is))
      (case c3 => refine' K20.kd_mk KX G ?a ?l ?lit ?low ?b1 ?b2 ?b3 ?b4 ?b5 ?b6; (case a => k_is); (case l => k_is); (case lit => exact ⟨⟨_, _, rfl, rfl⟩, ⟨_, _, rfl, rfl⟩, ⟨_, _, rfl, rfl⟩, ⟨_, _, rfl, rfl⟩, ⟨_, _, rfl, rfl⟩, ⟨_, _, rfl, rfl⟩, trivial⟩); (case low => rfl); (case b1 => k_is); (case b2 => k_is); (case b3 => k_is); (case b4 => k_is); (case b5 => k_is); (case b6 => k_is))
    (case h_moment_of => refine' K20.ff_mk KX G ?a ?l ?c ?k; (case a => k_is); (case l => k_is); (case c => k_is); (case k => k_is))
    (case h_distance => refine' K20.ff_mk KX G ?a ?l ?c ?k; (case a => k_is); (case l => k_is); (case c => k_is); (case k => k_is))
    (case h_difference => refine' K20.ff_mk KX G ?a ?l ?c ?k; (case a => k_is); (case l => k_is); (case c => k_is); (case k => k_is))
    (case h_press_from => refine' K20.ff_mk KX G ?a ?l ?c ?k; (case a => k_is); (case l => k_is); (case c => k_is); (case k => k_is))
    (case h_next_down => refine' K20.ff_mk KX G ?a ?l ?c ?k; (case a => k_is); (case l => k_is); (case c => k_is); (case k => k_is))
    (case h_first_word => refine' K20.ff_mk KX G ?a ?l ?c ?k; (case a => k_is); (case l => k_is); (case c => k_is); (case k => k_is))
    (case h_is_integer => refine' K20.ff_mk KX G ?a ?l ?c ?k; (case a => k_is); (case l => k_is); (case c => k_is); (case k => k_is))
    (case h_is_list => refine' K20.ff_mk KX G ?a ?l ?c ?k; (case a => k_is); (case l => k_is); (case c => k_is); (case k => k_is))
    (case h__law_reel => refine' K20.ff_mk KX G ?a ?l ?c ?k; (case a => k_is); (case l => k_is); (case c => k_is); (case k => k_is))
    (case h__law_spin => refine' K20.ff_mk KX G ?a ?l ?c ?k; (case a => k_is); (case l => k_is); (case c => k_is); (case k => k_is))
    (case h__law_scales => refine' K20.ff_mk KX G ?a ?l ?c ?k; (case a => k_is); (case l => k_is); (case c => k_is); (case k => k_is))
    (case h__law_late => refine' K20.ff_mk KX G ?a ?l ?c ?k; (case a => k_is); (case l => k_is); (case c => k_is); (case k => k_is))
    (case h__law_placed => refine' K20.ff_mk KX G ?a ?l ?c ?k; (case a => k_is); (case l => k_is); (case c => k_is); (case k => k_is))
    (case h_up_moment => refine' K20.ff_mk KX G ?a ?l ?c ?k; (case a => k_is); (case l => k_is); (case c => k_is); (case k => k_is))
    (case h_moves_beyond => refine' K20.ff_mk KX G ?a ?l ?c ?k; (case a => k_is); (case l => k_is); (case c => k_is); (case k => k_is))
    (case h_is_place => refine' K20.ff_mk KX G ?a ?l ?c ?k; (case a => k_is); (case l => k_is); (case c => k_is); (case k => k_is))
    (case h_is_kind => refine' K20.ff_mk KX G ?a ?l ?c ?k; (case a => k_is); (case l => k_is); (case c => k_is); (case k => k_is))
    (case h__law_start => refine' K20.ff_mk KX G ?a ?l ?c ?k; (case a => k_is); (case l => k_is); (case c => k_is); (case k => k_is))
    (case h__law_near => refine' K20.ff_mk KX G ?a ?l ?c ?k; (case a => k_is); (case l => k_is); (case c => k_is); (case k => k_is))
    (case h__law_kind => refine' K20.ff_mk KX G ?a ?l ?c ?k; (case a => k_is); (case l => k_is); (case c => k_is); (case k => k_is))
    (case h_held_end => refine' K20.ff_mk KX G ?a ?l ?c ?k; (case a => k_is); (case l => k_is); (case c => k_is); (case k => k_is))
    (case h_verdict_of_pinch => refine' K20.ff_mk KX G ?a ?l ?c ?k; (case a => k_is); (case l => k_is); (case c => k_is); (case k => k_is))
    (case h_is_event => refine' K20.ff_mk KX G ?a ?l ?c ?k; (case a => k_is); (case l => k_is); (case c => k_is); (case k => k_is))
    (case h__law_record => refine' K20.ff_mk KX G ?a ?l ?c ?k; (case a => k_is); (case l => k_is); (case c => k_is); (case k => k_is))
    (case h_verdict_of_tap => refine' K20.ff_mk KX G ?a ?l ?c ?k; (case a => k_is); (case l => k_is); (case c => k_is); (case k => k_is))
    (case h_verdict_of_long => refine' K20.ff_mk KX G ?a ?l ?c ?k; (case a => k_is); (case l => k_is); (case c => k_is); (case k => k_is))
    (case h_verdict_of_taps => refine' K20.ff_mk KX G ?a ?l ?c ?k; (case a => k_is); (case l => k_is); (case c => k_is); (case k => k_is))
    (case h_wrong_event => refine' K20.ff_mk KX G ?a ?l ?c ?k; (case a => k_is); (case l => k_is); (case c => k_is); (case k => k_is))
    (case h__law_cases => refine' K20.ff_mk KX G ?a ?l ?c ?k; (case a => k_is); (case l => k_is); (case c => k_is); (case k => k_is))
    (case h_word_and_moment => refine' K20.ff_mk KX G ?a ?l ?c ?k; (case a => k_is); (case l => k_is); (case c => k_is); (case k => k_is))
    (case h_require_record => refine' K20.ff_mk KX G ?a ?l ?c ?k; (case a => k_is); (case l => k_is); (case c => k_is); (case k => k_is))
    (case h_verdict_of => refine' K20.ff_mk KX G ?a ?l ?c ?k; (case a => k_is); (case l => k_is); (case c => k_is); (case k => k_is))
    (case h_verdict => refine' K20.ff_mk KX G ?a ?l ?c ?k; (case a => k_is); (case l => k_is); (case c => k_is); (case k => k_is))
    (case h__law_kept_right => refine' K20.ff_mk KX G ?a ?l ?c ?k; (case a => k_is); (case l => k_is); (case c => k_is); (case k => k_is))
    (case h__law_places_right => refine' K20.ff_mk KX G ?a ?l ?c ?k; (case a => k_is); (case l => k_is); (case c => k_is); (case k => k_is))
    (case h__law_ticks_right => refine' K20.ff_mk KX G ?a ?l ?c ?k; (case a => k_is); (case l => k_is); (case c => k_is); (case k => k_is))
    (case h__law_right => refine' K20.ff_mk KX G ?a ?l ?c ?k; (case a => k_is); (case l => k_is); (case c => k_is); (case k => k_is))
