import PyProof.Rows.All
import Wide.All
import OpenK.AllK
import Wide.FinOn
import KE.KDictAny
import Lean
import PySem.Challenge.RW_tk0105_01
open PySem PySem.Calls PySem.W PyProof.Rows
set_option Elab.async false
set_option maxRecDepth 100000
set_option maxHeartbeats 8000000
set_option linter.all false
namespace Mine
section
noncomputable def badIds : List String := ["bytearray.__contains__", "bytearray.__mod__", "bytearray.__rmod__", "_struct.pack_into.held", "bytearray.find.held"] ++ Builtin.Bytes.decodersThatHold
noncomputable def cleanC : Code → Bool
  | .builtin id _ => !(badIds.contains id)
  | _ => true
noncomputable def ClB (Γ : Ctx) : Prop := ∀ x ∈ Γ.below, cleanC x.1 = true
noncomputable def Cl (Γ : Ctx) : Prop := cleanC Γ.code = true ∧ ClB Γ
theorem Cl.enter {Γ : Ctx} (h : Cl Γ) (c : Code) (v : Option Value) (p : Pos) : ClB (Γ.enter c v p) := fun x hx => by
  rcases List.mem_cons.mp hx with rfl | hx
  · exact h.1
  · exact h.2 x hx
noncomputable def wpB {α : Type} (bz : Bool) (M : Model) (A : Around) (t : Sem α) (Q : α → Shared → Prop) (E : Value → Shared → Prop) (s : Shared) : Prop :=
  ∀ Γ p, Γ.In A → (bz = true → Cl Γ) → Sem.wp M Γ t (fun a _ s' => Q a s') (fun e _ s' => E e s') p s
noncomputable def codeB (bz : Bool) (M : Model) (A : Around) (c : Code) (R : Result → Shared → Prop) (s : Shared) : Prop :=
  ∀ Γ p, Γ.code = c → Γ.Below A → (bz = true → ClB Γ) → wpCode M Γ R p s
section
variable {α β : Type} {bz : Bool} {M : Model} {A : Around} {E : Value → Shared → Prop} {s : Shared}
theorem wpB_of {t : Sem α} {Q : α → Shared → Prop} (h : wpAny M A t Q E s) : wpB bz M A t Q E s := fun Γ p i _ => h Γ p i
theorem wpB_mono {t : Sem α} {Q Q' : α → Shared → Prop} {E' : Value → Shared → Prop} (h : wpB bz M A t Q E s) (hQ : ∀ a s, Q a s → Q' a s) (hE : ∀ e s, E e s → E' e s) : wpB bz M A t Q' E' s :=
  fun Γ p i c => Sem.wp_mono M Γ t (fun a _ s => hQ a s) (fun e _ s => hE e s) p s (h Γ p i c)
theorem wpB_bind {m : Sem α} {f : α → Sem β} {Q : β → Shared → Prop} (h : wpB bz M A m (fun a s' => wpB bz M A (f a) Q E s') E s) : wpB bz M A (m >>= f) Q E s := fun Γ p i c => by
  rw [Sem.wp_bind']
  exact Sem.wp_mono M Γ m (fun a p' s' h' => h' Γ p' i c) (fun _ _ _ h' => h') p s (h Γ p i c)
theorem wpB_holding {vs : List Value} {m : Sem α} {Q : α → Shared → Prop} (h : wpB bz M A m Q E s) : wpB bz M A (holding vs m) Q E s :=
  fun Γ p i c => by rw [Sem.wp_holding]; exact h Γ p i c
theorem wpB_operate {vs : List Value} {m : Sem Value} {Q : Value → Shared → Prop} (h : wpB bz M A m Q E s) : wpB bz M A (operate vs m) Q E s :=
  fun Γ p i c => by rw [Sem.wp_operate]; exact h Γ p i c
theorem wpB_onRaise {m : Sem α} {k : Value → Sem Unit} {Q : α → Shared → Prop} (h : wpB bz M A m Q (fun _ _ => False) s) : wpB bz M A (m.onRaise k) Q E s := fun Γ p i c => by
  rw [Sem.wp_onRaise]
  exact Sem.wp_mono M Γ m (fun _ _ _ h' => h') (fun e p' s' h' => h'.elim) p s (h Γ p i c)
theorem wpB_attempt {m : Sem α} {Q : Except Value α → Shared → Prop} (h : wpB bz M A m (fun a => Q (.ok a)) (fun e => Q (.error e)) s) : wpB bz M A m.attempt Q E s := fun Γ p i c => by
  rw [Sem.wp_attempt]; exact h Γ p i c
theorem wpB_run {c : Code} {h : Option Value} {Q : Flow → Shared → Prop} (hc : codeB bz M (A.mark h) c (fun r s' => match r with | .ok f => Q f s' | .error e => E e s') s) (hnb : h ≠ some byPass := by intro x; cases x) : wpB bz M A (run c h) Q E s :=
  fun Γ p i k => by rw [Sem.wp_run]; exact hc _ p rfl (i.enter c h p hnb) fun e => (k e).enter c h p
theorem wpB_runValue {c : Code} {Q : Value → Shared → Prop} (hc : codeB bz M A c (fun r s' => match r with | .ok (.ret v) => Q v s' | .ok _ => False | .error e => E e s') s) : wpB bz M A (runValue c) Q E s :=
  fun Γ p i k => by rw [Sem.wp_runValue]; exact hc _ p rfl (i.enter c none p (by intro x; cases x)) fun e => (k e).enter c none p
theorem codeB_mono {c : Code} {R R' : Result → Shared → Prop} (h : codeB bz M A c R s) (hR : ∀ r s, R r s → R' r s) : codeB bz M A c R' s := fun Γ p hc i k => wpCode_mono hR (h Γ p hc i k)
theorem codeB_of_tree {c : Code} {R : Result → Shared → Prop} (hcl : cleanC c = true)
    (h : wpB bz M (A.under c) (M.den c) (fun fin s' => match fin with | .done f => R (.ok f) s' | .again c' => c'.quiet = true ∧ codeB bz M A c' R s') (fun e s' => R (.error e) s') s) : codeB bz M A c R s := fun Γ p hc hΓ k => by
  rw [wpCode_iff_wp, hc]
  refine Sem.wp_mono M Γ _ (fun fin p' s' h' => ?_) (fun _ _ _ h' => h') p s (h Γ p (hc ▸ hΓ.in) fun e => ⟨by rw [hc]; exact hcl, k e⟩)
  cases fin with
  | done f => exact h'
  | again c' => exact ⟨h'.1, h'.2 (Γ.goto c') p' rfl (hΓ.goto c') k⟩
end
noncomputable abbrev Led := List (Addr × Obj)
noncomputable abbrev FMap := Str → Option Value
noncomputable def up (x : Str) (v : Value) (m : FMap) : FMap := fun y => if y = x then some v else m y
noncomputable def lk (l : List (Str × Value)) : FMap := fun y => l.lookup y
structure Nw (g : Heap) (L : Addr) (h : Heap) (n : Led) : Prop where
  news : News g L h n
  nd : (n.map (·.1)).Nodup
structure Gd (K : Frag) (p : Program) (loose : List Str) (g : Heap) : Prop where
  X : K.In g
  R : ∃ mg mb, TopRead p loose mg mb g
theorem topRead_keeps {p : Program} {loose : List Str} {mg mb : FMap} {g h : Heap} (T : TopRead p loose mg mb g) (k : ∀ b o, g.get? b = some o → h.get? b = some o) : TopRead p loose mg mb h :=
  ⟨T.g.keeps k, T.b.keeps k, T.nolimit.keeps k, T.builtins, T.free⟩
theorem Gd.keeps {K : Frag} {p : Program} {loose : List Str} {g h : Heap} (G : Gd K p loose g) (k : ∀ b o, g.get? b = some o → h.get? b = some o) : Gd K p loose h :=
  ⟨G.X.keeps k, let ⟨mg, mb, T⟩ := G.R; ⟨mg, mb, topRead_keeps T k⟩⟩
structure Ho {α : Type} (bz : Bool) (prog : Program) (w : World) (A : Around) (g : Heap) (L : Addr) (m : FMap) (n : Led) (t : Sem α) (P : α → FMap → Led → Prop) : Prop where
  mkB ::
  run : ∀ (h : Heap) (ge : Array GenState) (dr : Drawn) (tk : Nat) (os : OsState) (Q : α → Shared → Prop) (E : Value → Shared → Prop),
    Fr g L h m → Nw g L h n →
    (∀ v m' n' h' tk', Fr g L h' m' → Nw g L h' n' → P v m' n' → Q v ⟨h', ge, dr, tk', os⟩) →
    wpB bz (model prog w) A t Q E ⟨h, ge, dr, tk, os⟩
structure HoC (bz : Bool) (prog : Program) (w : World) (A : Around) (g : Heap) (L : Addr) (m : FMap) (n : Led) (c : Code) (P : Flow → FMap → Led → Prop) : Prop where
  run : ∀ (h : Heap) (ge : Array GenState) (dr : Drawn) (tk : Nat) (os : OsState) (R : Result → Shared → Prop),
    Fr g L h m → Nw g L h n →
    (∀ f m' n' h' tk', Fr g L h' m' → Nw g L h' n' → P f m' n' → R (.ok f) ⟨h', ge, dr, tk', os⟩) →
    codeB bz (model prog w) A c R ⟨h, ge, dr, tk, os⟩
section
variable {α β : Type} {bz : Bool} {prog : Program} {w : World} {A : Around} {g : Heap} {L : Addr} {m : FMap} {n : Led}
theorem Ho.mk {t : Sem α} {P : α → FMap → Led → Prop} (h : ∀ (h : Heap) (ge : Array GenState) (dr : Drawn) (tk : Nat) (os : OsState) (Q : α → Shared → Prop) (E : Value → Shared → Prop),
    Fr g L h m → Nw g L h n → (∀ v m' n' h' tk', Fr g L h' m' → Nw g L h' n' → P v m' n' → Q v ⟨h', ge, dr, tk', os⟩) → wpAny (model prog w) A t Q E ⟨h, ge, dr, tk, os⟩) : Ho bz prog w A g L m n t P :=
  ⟨fun _ _ _ _ _ _ _ F N q => wpB_of (h _ _ _ _ _ _ _ F N q)⟩
theorem Ho.any {t : Sem α} {P : α → FMap → Led → Prop} (h : Ho false prog w A g L m n t P) (hh : Heap) (ge : Array GenState) (dr : Drawn) (tk : Nat) (os : OsState) (Q : α → Shared → Prop) (E : Value → Shared → Prop)
    (F : Fr g L hh m) (N : Nw g L hh n) (q : ∀ v m' n' h' tk', Fr g L h' m' → Nw g L h' n' → P v m' n' → Q v ⟨h', ge, dr, tk', os⟩) : wpAny (model prog w) A t Q E ⟨hh, ge, dr, tk, os⟩ :=
  fun Γ p i => h.run hh ge dr tk os Q E F N q Γ p i fun e => by cases e
theorem Ho.mono {t : Sem α} {P P' : α → FMap → Led → Prop} (h : Ho bz prog w A g L m n t P) (k : ∀ v m n, P v m n → P' v m n) : Ho bz prog w A g L m n t P' :=
  ⟨fun _ _ _ _ _ _ _ F N q => h.run _ _ _ _ _ _ _ F N fun v m n h' tk' F N p => q v m n h' tk' F N (k v m n p)⟩
theorem Ho.cut {t : Sem α} {P P' : α → FMap → Led → Prop} (h : ∀ Z : α → FMap → Led → Prop, (∀ v m n, P v m n → Z v m n) → Ho bz prog w A g L m n t Z) (k : ∀ v m n, P v m n → P' v m n) : Ho bz prog w A g L m n t P' := h P' k
theorem Nw.sub {h : Heap} {n n' : Led} (N : Nw g L h n) (s : n'.Sublist n) : Nw g L h n' :=
  ⟨fun p hp => N.news p (s.subset hp), (s.map _).nodup N.nd⟩
theorem Nw.perm {h : Heap} {n n' : Led} (N : Nw g L h n) (s : ∀ p ∈ n', p ∈ n) (d : (n'.map (·.1)).Nodup) : Nw g L h n' :=
  ⟨fun p hp => N.news p (s p hp), d⟩
theorem ho_drop {t : Sem α} {P : α → FMap → Led → Prop} (n' : Led) (s : n'.Sublist n) (h : Ho bz prog w A g L m n' t P) : Ho bz prog w A g L m n t P :=
  ⟨fun _ _ _ _ _ _ _ F N q => h.run _ _ _ _ _ _ _ F (N.sub s) q⟩
theorem ho_bind {t : Sem α} {f : α → Sem β} {P : β → FMap → Led → Prop} (h : Ho bz prog w A g L m n t fun a m n => Ho bz prog w A g L m n (f a) P) : Ho bz prog w A g L m n (t >>= f) P :=
  ⟨fun _ _ _ _ _ _ _ F N q => wpB_bind (h.run _ _ _ _ _ _ _ F N fun _ _ _ _ _ F N h => h.run _ _ _ _ _ _ _ F N q)⟩
theorem ho_pure {a : α} {P : α → FMap → Led → Prop} (h : P a m n) : Ho bz prog w A g L m n (pure a) P :=
  Ho.mk fun _ _ _ _ _ _ _ F N q => wpAny_pure (q _ _ _ _ _ F N h)
theorem ho_sa {pos : Pos} {f : Unit → Sem β} {P : β → FMap → Led → Prop} (h : Ho bz prog w A g L m n (f ()) P) : Ho bz prog w A g L m n (standAt pos >>= f) P :=
  ho_bind (Ho.mk fun _ _ _ _ _ _ _ F N q => wpAny_standAt (q _ _ _ _ _ F N h))
theorem ho_hold {vs : List Value} {t : Sem α} {P : α → FMap → Led → Prop} (h : Ho bz prog w A g L m n t P) : Ho bz prog w A g L m n (holding vs t) P :=
  ⟨fun _ _ _ _ _ _ _ F N q => wpB_holding (h.run _ _ _ _ _ _ _ F N q)⟩
theorem ho_oper {vs : List Value} {t : Sem Value} {P : Value → FMap → Led → Prop} (h : Ho bz prog w A g L m n t P) : Ho bz prog w A g L m n (operate vs t) P :=
  ⟨fun _ _ _ _ _ _ _ F N q => wpB_operate (h.run _ _ _ _ _ _ _ F N q)⟩
theorem ho_rel {vs ks : List Value} {P : Unit → FMap → Led → Prop} (h : P () m n) : Ho bz prog w A g L m n (release vs ks) P :=
  Ho.mk fun _ _ _ _ _ _ _ F N q => wpAny_release (q _ _ _ _ _ F N h)
theorem ho_rule {s : String} {P : Unit → FMap → Led → Prop} (h : P () m n) : Ho bz prog w A g L m n (rule s) P :=
  Ho.mk fun _ _ _ _ _ _ _ F N q => wpAny_rule (q _ _ _ _ _ F N h)
theorem ho_onr {t : Sem α} {k : Value → Sem Unit} {P : α → FMap → Led → Prop} (h : Ho bz prog w A g L m n t P) : Ho bz prog w A g L m n (t.onRaise k) P :=
  ⟨fun _ _ _ _ _ _ _ F N q => wpB_onRaise (h.run _ _ _ _ _ _ _ F N q)⟩
theorem ho_att {t : Sem α} {P : Except Value α → FMap → Led → Prop} (h : Ho bz prog w A g L m n t fun a m n => P (.ok a) m n) : Ho bz prog w A g L m n t.attempt P :=
  ⟨fun _ _ _ _ _ _ _ F N q => wpB_attempt (h.run _ _ _ _ _ _ _ F N fun v m n h' tk' F N p => q _ m n h' tk' F N p)⟩
theorem ho_run {c : Code} {P : Flow → FMap → Led → Prop} (h : HoC bz prog w A g L m n c P) : Ho bz prog w A g L m n (run c none) P :=
  ⟨fun _ _ _ _ _ _ _ F N q => wpB_run (h.run _ _ _ _ _ _ F N fun f m n h' tk' F N p => q f m n h' tk' F N p)⟩
theorem ho_runV {c : Code} {P : Value → FMap → Led → Prop} (h : HoC bz prog w A g L m n c fun f m n => match f with | .ret v => P v m n | _ => False) : Ho bz prog w A g L m n (runValue c) P :=
  ⟨fun _ _ _ _ _ _ _ F N q => wpB_runValue (h.run _ _ _ _ _ _ F N fun f m n h' tk' F N p => match f, p with
    | .ret v, p => q v m n h' tk' F N p
    | .next, p => p.elim
    | .brk, p => p.elim
    | .cont, p => p.elim)⟩
theorem hoC_tree {c : Code} {P : Flow → FMap → Led → Prop} (hcl : cleanC c = true) (h : Ho bz prog w (A.under c) g L m n ((model prog w).den c) fun fin m n => match fin with | .done f => P f m n | .again c' => c'.quiet = true ∧ HoC bz prog w A g L m n c' P) : HoC bz prog w A g L m n c P :=
  ⟨fun _ _ _ _ _ _ F N q => codeB_of_tree hcl (h.run _ _ _ _ _ _ _ F N fun fin m n h' tk' F N p => match fin, p with
    | .done f, p => q f m n h' tk' F N p
    | .again _, p => ⟨p.1, p.2.run _ _ _ _ _ _ F N q⟩)⟩
variable {env : Env}
section
variable {α β γ : Type}
noncomputable abbrev Kc (bz : Bool) (prog : Program) (w : World) (A : Around) (g : Heap) (L : Addr) (f : α → Sem β) (V : β → FMap → Led → Prop) : α → FMap → Led → Prop := fun a m n => Ho bz prog w A g L m n (f a) V
noncomputable abbrev Kd (bz : Bool) (prog : Program) (w : World) (A : Around) (g : Heap) (L : Addr) (t : Sem β) (f : α → β → Sem γ) (V : γ → FMap → Led → Prop) : α → FMap → Led → Prop := fun a m n => Ho bz prog w A g L m n t (Kc bz prog w A g L (f a) V)
noncomputable abbrev Knext (P : Flow → FMap → Led → Prop) : α → FMap → Led → Prop := fun _ m n => P .next m n
noncomputable abbrev Kret (P : Flow → FMap → Led → Prop) : Value → FMap → Led → Prop := fun v m n => P (.ret v) m n
noncomputable abbrev Kif (bz : Bool) (prog : Program) (w : World) (A : Around) (g : Heap) (L : Addr) (s t : Sem β) (V : β → FMap → Led → Prop) : Bool → FMap → Led → Prop := fun b m n => if b = true then Ho bz prog w A g L m n s V else Ho bz prog w A g L m n t V
noncomputable abbrev Kthen (bz : Bool) (prog : Program) (w : World) (A : Around) (g : Heap) (L : Addr) (t : Sem β) (V : β → FMap → Led → Prop) : α → FMap → Led → Prop := fun _ m n => Ho bz prog w A g L m n t V
noncomputable abbrev KsetA2 (bz : Bool) (prog : Program) (w : World) (A : Around) (g : Heap) (L : Addr) (attr : Str) (v : Value) (U : Unit → FMap → Led → Prop) : Value → FMap → Led → Prop := fun ov m n => Ho bz prog w A g L m n (setAttr ov attr v) U
noncomputable abbrev KsetA (bz : Bool) (prog : Program) (w : World) (A : Around) (g : Heap) (L : Addr) (o : Sem Value) (attr : Str) (U : Unit → FMap → Led → Prop) : Value → FMap → Led → Prop := fun v m n => Ho bz prog w A g L m n o (KsetA2 bz prog w A g L attr v U)
noncomputable abbrev KsetS3 (bz : Bool) (prog : Program) (w : World) (A : Around) (g : Heap) (L : Addr) (v ov : Value) (U : Unit → FMap → Led → Prop) : Value → FMap → Led → Prop := fun iv m n => Ho bz prog w A g L m n (setItem ov iv v) U
noncomputable abbrev KsetS2 (bz : Bool) (prog : Program) (w : World) (A : Around) (g : Heap) (L : Addr) (i : Sem Value) (v : Value) (U : Unit → FMap → Led → Prop) : Value → FMap → Led → Prop := fun ov m n => Ho bz prog w A g L m n i (KsetS3 bz prog w A g L v ov U)
noncomputable abbrev KsetS (bz : Bool) (prog : Program) (w : World) (A : Around) (g : Heap) (L : Addr) (o i : Sem Value) (U : Unit → FMap → Led → Prop) : Value → FMap → Led → Prop := fun v m n => Ho bz prog w A g L m n o (KsetS2 bz prog w A g L i v U)
noncomputable abbrev Kand (bz : Bool) (prog : Program) (w : World) (A : Around) (g : Heap) (L : Addr) (s : Sem β) (V : β → FMap → Led → Prop) (W : FMap → Led → Prop) : Bool → FMap → Led → Prop := fun b m n => if b = true then Ho bz prog w A g L m n s V else W m n
noncomputable abbrev Kor (bz : Bool) (prog : Program) (w : World) (A : Around) (g : Heap) (L : Addr) (s : Sem β) (V : β → FMap → Led → Prop) (W : FMap → Led → Prop) : Bool → FMap → Led → Prop := fun b m n => if b = true then W m n else Ho bz prog w A g L m n s V
noncomputable abbrev Knot (B : Bool → FMap → Led → Prop) : Bool → FMap → Led → Prop := fun c m n => B (!c) m n
noncomputable abbrev Kend (V : Value → FMap → Led → Prop) (m : FMap) : Flow → FMap → Led → Prop := fun fl _ n' => ∃ n₂ : Led, n₂.Sublist n' ∧ V (match fl with | .ret v => v | _ => .none) m n₂
noncomputable abbrev Knon (P : Flow → FMap → Led → Prop) : Value → FMap → Led → Prop := fun v m n => v = .none ∧ P .next m n
end
noncomputable def Kt (bz : Bool) (prog : Program) (w : World) (A : Around) (g : Heap) (L : Addr) (env : Env) (rest : List Stmt) (P : Flow → FMap → Led → Prop) : Flow → FMap → Led → Prop := fun f m n => match f with
  | .next => Ho bz prog w A g L m n (execs rest env) P
  | f => P f m n
variable {rest : List Stmt} {P : Flow → FMap → Led → Prop}
theorem kt_next (h : Ho bz prog w A g L m n (execs rest env) P) : Kt bz prog w A g L env rest P .next m n := h
theorem kt_ret {v : Value} (h : P (.ret v) m n) : Kt bz prog w A g L env rest P (.ret v) m n := h
theorem kt_cont (h : P .cont m n) : Kt bz prog w A g L env rest P .cont m n := h
theorem hb_cons {s : Stmt} (h : Ho bz prog w A g L m n (exec s env) (Kt bz prog w A g L env rest P)) : Ho bz prog w A g L m n (execs (s :: rest) env) P := by
  rw [execs_cons]
  exact ho_bind (h.mono fun f m n h => by cases f <;> first | exact h | exact ho_pure h)
theorem hb_nil (h : P .next m n) : Ho bz prog w A g L m n (execs [] env) P :=
  Ho.mk fun _ _ _ _ _ _ _ F N q => wpAny_execs_nil (q _ _ _ _ _ F N h)
theorem hx_ret {e : Expr} {pos : Pos} (h : Ho bz prog w A g L m n (eval e env) (Kret P)) : Ho bz prog w A g L m n (exec (.Return (some e) pos) env) P := by
  rw [exec_Return_some]
  exact ho_sa (ho_bind (h.mono fun _ _ _ h => ho_pure h))
theorem hx_if {test : Expr} {body orelse : List Stmt} {pos : Pos} (h : Ho bz prog w A g L m n (isTrue test env (eval test env)) (Kif bz prog w A g L (execs body env) (execs orelse env) P)) :
    Ho bz prog w A g L m n (exec (.If test body orelse pos) env) P := by
  rw [exec_If]
  exact ho_sa (ho_bind (h.mono fun b _ _ h => by cases b <;> exact h))
theorem hx_cont {pos : Pos} (h : P .cont m n) : Ho bz prog w A g L m n (exec (.Continue pos) env) P :=
  Ho.mk fun _ _ _ _ _ _ _ F N q => wpAny_Continue (q _ _ _ _ _ F N h)
theorem hb_name {x : Str} {v : Value} {U : Unit → FMap → Led → Prop} (h : Ho bz prog w A g L m n (storeName env x v) U) : Ho bz prog w A g L m n (bindName env x v) U :=
  ⟨fun _ _ _ _ _ _ _ F N q Γ p i c => by rw [Sem.wp_bindName]; exact h.run _ _ _ _ _ _ _ F N q Γ p i c⟩
theorem hx_asg {x : Str} {pos' : Pos} {value : Expr} {pos : Pos} (h : Ho bz prog w A g L m n (eval value env) (Kc bz prog w A g L (storeName env x) (Knext P)))
    (hs : swapsWith value (some (Expr.Name x pos')) pos.line env = pure false := by rfl) : Ho bz prog w A g L m n (exec (.Assign [.Name x pos'] value pos) env) P := by
  rw [exec_Assign_Name env x pos' value pos hs]
  exact ho_sa (ho_bind (h.mono fun _ _ _ h => ho_sa (ho_bind ((hb_name h).mono fun _ _ _ h => ho_pure h))))
theorem hs_attr {o : Expr} {attr : Str} {pos : Pos} {v : Value} {U : Unit → FMap → Led → Prop} (h : Ho bz prog w A g L m n (eval o env) fun ov m n => Ho bz prog w A g L m n (setAttr ov attr v) U) : Ho bz prog w A g L m n (assign (.Attribute o attr pos) env v) U := by
  rw [assign_Attribute]
  exact ho_bind (ho_hold (h.mono fun _ _ _ h => ho_sa (ho_bind (ho_hold (h.mono fun _ _ _ h => ho_rel h)))))
theorem hs_sub {o i : Expr} {pos : Pos} {v : Value} {U : Unit → FMap → Led → Prop} (h : Ho bz prog w A g L m n (eval o env) fun ov m n => Ho bz prog w A g L m n (eval i env) fun iv m n => Ho bz prog w A g L m n (setItem ov iv v) U) : Ho bz prog w A g L m n (assign (.Subscript o i pos) env v) U := by
  rw [assign_Subscript]
  exact ho_bind (ho_hold (h.mono fun _ _ _ h => ho_bind (ho_hold (h.mono fun _ _ _ h => ho_sa (ho_bind (ho_hold (h.mono fun _ _ _ h => ho_rel h)))))))
theorem hx_asgA {o : Expr} {attr : Str} {pos' : Pos} {value : Expr} {pos : Pos} (h : Ho bz prog w A g L m n (eval value env) (KsetA bz prog w A g L (eval o env) attr (Knext P)))
    (hs : swapsWith value (some (Expr.Attribute o attr pos')) pos.line env = pure false := by rfl) : Ho bz prog w A g L m n (exec (.Assign [.Attribute o attr pos'] value pos) env) P := by
  rw [plainObj_exec_Assign_Attribute o attr pos' value pos hs]
  exact ho_sa (ho_bind (h.mono fun _ _ _ h => ho_bind ((hs_attr h).mono fun _ _ _ h => ho_pure h)))
theorem hx_asgS {o i : Expr} {pos' : Pos} {value : Expr} {pos : Pos} (h : Ho bz prog w A g L m n (eval value env) (KsetS bz prog w A g L (eval o env) (eval i env) (Knext P)))
    (hs : swapsWith value (some (Expr.Subscript o i pos')) pos.line env = pure false := by rfl) : Ho bz prog w A g L m n (exec (.Assign [.Subscript o i pos'] value pos) env) P := by
  rw [exec_Assign_Subscript o i pos' value pos hs]
  exact ho_sa (ho_bind (h.mono fun _ _ _ h => ho_bind ((hs_sub h).mono fun _ _ _ h => ho_pure h)))
theorem hx_augA {o value : Expr} {attr : Str} {tpos pos : Pos} {op : Operator} (h : Ho bz prog w A g L m n (eval o env) fun ov m n => Ho bz prog w A g L m n (getAttr ov attr true) fun old m n => Ho bz prog w A g L m n (eval value env) fun v m n => Ho bz prog w A g L m n (inplaceOp op old v) fun new m n => Ho bz prog w A g L m n (setAttr ov attr new) fun _ m n => P .next m n) :
    Ho bz prog w A g L m n (exec (.AugAssign (.Attribute o attr tpos) op value pos) env) P := by
  have e : exec (.AugAssign (.Attribute o attr tpos) op value pos) env = (do
      standAt pos
      let ov ← eval o env
      let new ← holding [ov] (do standAt tpos.atName; let old ← getAttr ov attr true; let v ← holding [old] (eval value env); standAt pos; operate [old, v] (inplaceOp op old v))
      standAt tpos.atName
      holding [new, ov] (setAttr ov attr new)
      release [new, ov] []
      pure .next) := rfl
  rw [e]
  exact ho_sa (ho_bind (h.mono fun _ _ _ h => ho_bind (ho_hold (ho_sa (ho_bind (h.mono fun _ _ _ h => ho_bind (ho_hold (h.mono fun _ _ _ h => ho_sa (ho_oper (h.mono fun _ _ _ h =>
    ho_sa (ho_bind (ho_hold (h.mono fun _ _ _ h => ho_bind (ho_rel (ho_pure h))))))))))))))) 
theorem hx_expr {e : Expr} {pos : Pos} (h : Ho bz prog w A g L m n (eval e env) (Knon P)) (hi : interactive env = false := by rfl) (hs : swapsWith e none pos.line env = pure false := by rfl) : Ho bz prog w A g L m n (exec (.Expr e pos) env) P := by
  rw [exec_Expr env e pos hi hs]
  exact ho_sa (ho_bind (h.mono fun v _ _ h => by
    obtain ⟨rfl, h⟩ := h
    rw [dropValue_plain (fun _ e => by cases e)]
    exact ho_pure h))
theorem hx_try {body orelse : List Stmt} {h₀ : ExceptHandler} {hs : List ExceptHandler} {pos : Pos} (h : Ho bz prog w A g L m n (execs body env) (Kt bz prog w A g L env orelse P)) : Ho bz prog w A g L m n (exec (.Try body (h₀ :: hs) orelse [] pos) env) P := by
  rw [arm_exec_Try]
  refine ho_sa ?_
  unfold tryStmt
  simp only [List.isEmpty_nil, if_true, List.isEmpty_cons, Bool.false_and, Bool.false_eq_true, if_false]
  exact ho_bind (ho_att (h.mono fun f _ _ h => by cases f <;> first | exact h | exact ho_pure h))
variable {V : Value → FMap → Led → Prop} {B : Bool → FMap → Led → Prop}
theorem ho_if_t {c : Bool} {a b : Prop} (hc : c = true) (h : a) : if c = true then a else b := by rw [if_pos hc]; exact h
theorem ho_if_f {c : Bool} {a b : Prop} (hc : c = false) (h : b) : if c = true then a else b := by rw [hc, if_neg Bool.false_ne_true]; exact h
theorem ho_if_both {c : Bool} {a b : Prop} (h : c = true → a) (h' : c = false → b) : if c = true then a else b := by
  cases c
  · exact h' rfl
  · exact h rfl
theorem he_bin {l r : Expr} {op : Operator} {pos : Pos} (h : Ho bz prog w A g L m n (eval l env) (Kd bz prog w A g L (eval r env) (binaryOp op) V)) : Ho bz prog w A g L m n (eval (.BinOp l op r pos) env) V := by
  rw [eval_BinOp]
  exact ho_bind (h.mono fun _ _ _ h => ho_bind (ho_hold (h.mono fun _ _ _ h => ho_sa (ho_oper h))))
theorem he_cmp {l r : Expr} {op : CmpOp} {pos : Pos} (h : Ho bz prog w A g L m n (eval l env) (Kd bz prog w A g L (eval r env) (compareOp op) V))
    (hb : behindInMarks op r = false := by rfl) : Ho bz prog w A g L m n (eval (.Compare l [op] [r] pos) env) V := by
  rw [eval_Compare1, markedBehindIn_of_false hb]
  exact ho_bind (h.mono fun _ _ _ h => ho_bind (ho_hold (h.mono fun _ _ _ h => ho_sa (ho_oper h))))
theorem ht_cmp {l r : Expr} {op : CmpOp} {pos : Pos} {whole : Sem Value} (h : Ho bz prog w A g L m n (eval l env) (Kd bz prog w A g L (eval r env) (compareOp op) (Kc bz prog w A g L truthy B)))
    (hb : behindInMarks op r = false := by rfl) : Ho bz prog w A g L m n (isTrue (.Compare l [op] [r] pos) env whole) B := by
  rw [isTrue_Compare1, markedBehindIn_of_false hb]
  exact ho_bind (h.mono fun _ _ _ h => ho_bind (ho_hold (h.mono fun _ _ _ h => ho_sa (ho_bind (ho_oper (h.mono fun _ _ _ h => ho_hold h))))))
theorem he_ife {t b o : Expr} {pos : Pos} (h : Ho bz prog w A g L m n (isTrue t env (eval t env)) (Kif bz prog w A g L (eval b env) (eval o env) V)) : Ho bz prog w A g L m n (eval (.IfExp t b o pos) env) V := by
  rw [arm_eval_IfExp]
  exact ho_bind (h.mono fun b _ _ h => by cases b <;> exact h)
theorem ht_and {x : Expr} {xs : List Expr} {pos : Pos} {whole : Sem Value} (h : Ho bz prog w A g L m n (isTrue x env (eval x env)) (Kand bz prog w A g L (isTrue (.BoolOp .And xs pos) env whole) B (B false))) :
    Ho bz prog w A g L m n (isTrue (.BoolOp .And (x :: xs) pos) env whole) B := by
  show Ho bz prog w A g L m n (do match BoolOp.And, ← isTrue x env (eval x env) with | .And, false => pure false | .Or, true => pure true | _, _ => allTrue .And xs env) B
  exact ho_bind (h.mono fun b _ _ h => by
    cases b
    · exact ho_pure h
    · exact h)
theorem ht_and0 {pos : Pos} {whole : Sem Value} (h : B true m n) : Ho bz prog w A g L m n (isTrue (.BoolOp .And [] pos) env whole) B :=
  Ho.mk fun _ _ _ _ _ _ _ F N q => isTrue_and_nil (q _ _ _ _ _ F N h)
theorem ht_or {x : Expr} {xs : List Expr} {pos : Pos} {whole : Sem Value} (h : Ho bz prog w A g L m n (isTrue x env (eval x env)) (Kor bz prog w A g L (isTrue (.BoolOp .Or xs pos) env whole) B (B true))) :
    Ho bz prog w A g L m n (isTrue (.BoolOp .Or (x :: xs) pos) env whole) B := by
  show Ho bz prog w A g L m n (do match BoolOp.Or, ← isTrue x env (eval x env) with | .And, false => pure false | .Or, true => pure true | _, _ => allTrue .Or xs env) B
  exact ho_bind (h.mono fun b _ _ h => by
    cases b
    · exact h
    · exact ho_pure h)
theorem ht_or0 {pos : Pos} {whole : Sem Value} (h : B false m n) : Ho bz prog w A g L m n (isTrue (.BoolOp .Or [] pos) env whole) B :=
  Ho.mk fun _ _ _ _ _ _ _ F N q => isTrue_or_nil (q _ _ _ _ _ F N h)
theorem ht_not {x : Expr} {pos : Pos} {whole : Sem Value} (h : Ho bz prog w A g L m n (isTrue x env (eval x env)) (Knot B)) : Ho bz prog w A g L m n (isTrue (.UnaryOp .Not x pos) env whole) B := by
  show Ho bz prog w A g L m n (do return !(← isTrue x env (eval x env))) B
  exact ho_bind (h.mono fun _ _ _ h => ho_pure h)
theorem ht_val {e : Expr} {whole : Sem Value} (h : Ho bz prog w A g L m n whole (Kc bz prog w A g L truthy B))
    (he : isTrue e env whole = (do let v ← whole; standAt e.pos; holding [v] (truthy v)) := by rfl) : Ho bz prog w A g L m n (isTrue e env whole) B := by
  rw [he]
  exact ho_bind (h.mono fun _ _ _ h => ho_sa (ho_hold h))
theorem he_and {e₁ e₂ : Expr} {xs : List Expr} {pos : Pos} (h : Ho bz prog w A g L m n (eval e₁ env) fun v m n => Ho bz prog w A g L m n (truthy v) (Kand bz prog w A g L (eval (.BoolOp .And (e₂ :: xs) pos) env) V (V v))) :
    Ho bz prog w A g L m n (eval (.BoolOp .And (e₁ :: e₂ :: xs) pos) env) V := by
  show Ho bz prog w A g L m n (do
    let v ← eval e₁ env
    standAt pos
    let c ← holding [v] (truthy v)
    match BoolOp.And, c with
    | .And, false | .Or, true => pure v
    | _, _ => boolOp pos .And (eval e₂ env :: evalEach xs env)) V
  exact ho_bind (h.mono fun _ _ _ h => ho_sa (ho_bind (ho_hold (h.mono fun b _ _ h => by
    cases b
    · exact ho_pure h
    · exact h))))
theorem he_bool1 {e : Expr} {op : BoolOp} {pos : Pos} (h : Ho bz prog w A g L m n (eval e env) V) : Ho bz prog w A g L m n (eval (.BoolOp op [e] pos) env) V := h
theorem he_int {i : Int} {k : Nat} {pos : Pos} (h : ∀ t, V (.int i t) m n) : Ho bz prog w A g L m n (eval (.Constant (.int i) k pos) env) V :=
  Ho.mk fun _ _ _ _ _ _ _ F N q => wpAny_Constant_int (q _ _ _ _ _ F N (h _))
theorem he_str {x : Str} {k : Nat} {pos : Pos} (h : ∀ t, V (.str x t) m n) : Ho bz prog w A g L m n (eval (.Constant (.str x) k pos) env) V :=
  Ho.mk fun _ _ _ _ _ _ _ F N q => Calls.Constant_str (q _ _ _ _ _ F N (h _))
theorem he_bytes {x : List UInt8} {k : Nat} {pos : Pos} (h : ∀ t, V (.bytes x.toArray t) m n) : Ho bz prog w A g L m n (eval (.Constant (.bytes x) k pos) env) V :=
  Ho.mk fun _ _ _ _ _ _ _ F N q => Constant_bytes (q _ _ _ _ _ F N (h _))
theorem he_none {k : Nat} {pos : Pos} (h : V .none m n) : Ho bz prog w A g L m n (eval (.Constant .none k pos) env) V :=
  Ho.mk fun _ _ _ _ _ _ _ F N q => Constant_none (q _ _ _ _ _ F N h)
theorem he_cbool {c : Bool} {k : Nat} {pos : Pos} (h : V (.bool c) m n) : Ho bz prog w A g L m n (eval (.Constant (.bool c) k pos) env) V :=
  Ho.mk fun _ _ _ _ _ _ _ F N q => Constant_bool (q _ _ _ _ _ F N h)
variable {a b : Int} {t u : Tok}
theorem ho_add (h : ∀ t, V (.int (a + b) t) m n) : Ho bz prog w A g L m n (binaryOp .Add (.int a t) (.int b u)) V := Ho.mk fun _ _ _ _ _ _ _ F N q => add_int (q _ _ _ _ _ F N (h _))
theorem ho_sub (h : ∀ t, V (.int (a - b) t) m n) : Ho bz prog w A g L m n (binaryOp .Sub (.int a t) (.int b u)) V := Ho.mk fun _ _ _ _ _ _ _ F N q => sub_int (q _ _ _ _ _ F N (h _))
theorem ho_mul (ok : IntMulOk a b) (h : ∀ t, V (.int (a * b) t) m n) : Ho bz prog w A g L m n (binaryOp .Mult (.int a t) (.int b u)) V := Ho.mk fun _ _ _ _ _ _ _ F N q => mul_int (q _ _ _ _ _ F N (h _)) ok
theorem ho_div (hb : 0 < b) (ok : Builtin.divisionGoesByPylong a b = false) (h : ∀ t, V (.int (a / b) t) m n) : Ho bz prog w A g L m n (binaryOp .FloorDiv (.int a t) (.int b u)) V := Ho.mk fun _ _ _ _ _ _ _ F N q =>
  floordiv_int (Int.ne_of_gt hb) (q _ _ _ _ _ F N (by rw [Int.fdiv_eq_ediv_of_nonneg _ (Int.le_of_lt hb)]; exact h _)) (.inl ok)
theorem ho_mod (hb : 0 < b) (h : ∀ t, V (.int (a % b) t) m n) : Ho bz prog w A g L m n (binaryOp .Mod (.int a t) (.int b u)) V := Ho.mk fun _ _ _ _ _ _ _ F N q =>
  mod_int' (Int.ne_of_gt hb) (q _ _ _ _ _ F N (by rw [Int.fmod_eq_emod_of_nonneg _ (Int.le_of_lt hb)]; exact h _))
theorem ho_shl (h0 : 0 ≤ b) (h1 : b ≤ 1000000) (ha : a.natAbs < 2 ^ 64) (h : ∀ t, V (.int (a * 2 ^ b.toNat) t) m n) : Ho bz prog w A g L m n (binaryOp .LShift (.int a t) (.int b u)) V := Ho.mk fun _ _ _ _ _ _ _ F N q =>
  lshift_int_small h0 h1 ha (q _ _ _ _ _ F N (h _))
theorem ho_shr (hh : A.handled = none) (h0 : 0 ≤ b) (h : ∀ t, V (.int (a / 2 ^ b.toNat) t) m n) : Ho bz prog w A g L m n (binaryOp .RShift (.int a t) (.int b u)) V := Ho.mk fun _ _ _ _ _ _ _ F N q =>
  rshift_int_or hh (fun hn => absurd hn (Int.not_lt.mpr h0)) fun _ => q _ _ _ _ _ F N (by rw [Int.fdiv_eq_ediv_of_nonneg _ (Int.pow_nonneg (by decide))]; exact h _)
theorem ho_xor (h : ∀ t, V (.int (Builtin.bitXor a b) t) m n) : Ho bz prog w A g L m n (binaryOp .BitXor (.int a t) (.int b u)) V := Ho.mk fun _ _ _ _ _ _ _ F N q => xor_int (q _ _ _ _ _ F N (h _))
theorem ho_andI (h : ∀ t, V (.int (Builtin.bitAnd a b) t) m n) : Ho bz prog w A g L m n (binaryOp .BitAnd (.int a t) (.int b u)) V := Ho.mk fun _ _ _ _ _ _ _ F N q => and_int (q _ _ _ _ _ F N (h _))
theorem ho_orI (h : ∀ t, V (.int (Builtin.bitOr a b) t) m n) : Ho bz prog w A g L m n (binaryOp .BitOr (.int a t) (.int b u)) V := Ho.mk fun _ _ _ _ _ _ _ F N q => or_int (q _ _ _ _ _ F N (h _))
theorem ho_pow (h0 : 0 ≤ b) (h1 : b ≤ 1000000) (ha : a.natAbs < 2 ^ 64) (h : ∀ t, V (.int (a ^ b.toNat) t) m n) : Ho bz prog w A g L m n (binaryOp .Pow (.int a t) (.int b u)) V := Ho.mk fun _ _ _ _ _ _ _ F N q => pow_int_small h0 h1 ha (q _ _ _ _ _ F N (h _))
theorem ho_iadd (h : ∀ t, V (.int (a + b) t) m n) : Ho bz prog w A g L m n (inplaceOp .Add (.int a t) (.int b u)) V := Ho.mk fun _ _ _ _ _ _ _ F N q => iadd_int (q _ _ _ _ _ F N (h _))
theorem ho_lt (h : V (.bool (decide (a < b))) m n) : Ho bz prog w A g L m n (compareOp .Lt (.int a t) (.int b u)) V := Ho.mk fun _ _ _ _ _ _ _ F N q => lt_int (q _ _ _ _ _ F N h)
theorem ho_le (h : V (.bool (decide (a ≤ b))) m n) : Ho bz prog w A g L m n (compareOp .LtE (.int a t) (.int b u)) V := Ho.mk fun _ _ _ _ _ _ _ F N q => le_int (q _ _ _ _ _ F N h)
theorem ho_gt (h : V (.bool (decide (b < a))) m n) : Ho bz prog w A g L m n (compareOp .Gt (.int a t) (.int b u)) V := Ho.mk fun _ _ _ _ _ _ _ F N q => gt_int (q _ _ _ _ _ F N h)
theorem ho_ge (h : V (.bool (decide (b ≤ a))) m n) : Ho bz prog w A g L m n (compareOp .GtE (.int a t) (.int b u)) V := Ho.mk fun _ _ _ _ _ _ _ F N q => ge_int (q _ _ _ _ _ F N h)
theorem ho_eqI (h : V (.bool (a == b)) m n) : Ho bz prog w A g L m n (compareOp .Eq (.int a t) (.int b u)) V := Ho.mk fun _ _ _ _ _ _ _ F N q => eq_int (q _ _ _ _ _ F N h)
theorem ho_neI (h : V (.bool (a != b)) m n) : Ho bz prog w A g L m n (compareOp .NotEq (.int a t) (.int b u)) V := Ho.mk fun _ _ _ _ _ _ _ F N q => ne_int (q _ _ _ _ _ F N h)
theorem ho_eqS {x y : Str} (h : V (.bool (x == y)) m n) : Ho bz prog w A g L m n (compareOp .Eq (.str x t) (.str y u)) V := Ho.mk fun _ _ _ _ _ _ _ F N q => eq_str (q _ _ _ _ _ F N h)
theorem ho_is {v : Value} (h : V (.bool (v == .none)) m n) : Ho bz prog w A g L m n (compareOp .Is v .none) V := Ho.mk fun _ _ _ _ _ _ _ F N q => is_none (q _ _ _ _ _ F N h)
theorem ho_tb {c : Bool} (h : B c m n) : Ho bz prog w A g L m n (truthy (.bool c)) B := Ho.mk fun _ _ _ _ _ _ _ F N q => wpAny_truthy_bool (q _ _ _ _ _ F N h)
end
end
section
open PySem PySem.Calls PySem.W PyProof.Rows
theorem cl_caller : Cl (⟨.builtin "claim.caller" {}, none, none, [], none⟩ : Ctx) := ⟨by decide +kernel, fun x hx => by cases hx⟩
theorem thread_B {prog : Program} {w : World} {t : Sem Fin} {s : Shared} {R : Result → Shared → Prop} (hz : s.asleep)
    (h : wpB true (model prog w) callerA t (fun fin s' => ∃ f, fin = .done f ∧ (R (.ok f) s' ∧ leftWithCleanup s'.gens = false)) (fun e s' => R (.error e) s' ∧ leftWithCleanup s'.gens = false) s) :
    ∃ n r s' s'', runN (denote table) prog w n s ⟨t, .builtin "claim.caller" {}, default, []⟩ = .halted (outcomeOf r) s' ∧
      schedN (denote table) prog w n (.single s ⟨t, .builtin "claim.caller" {}, default, []⟩) = .halted (outcomeOf r) s' ∧ s'.forget = s''.forget ∧ R r s'' := by
  have h' := h _ default caller_in fun _ => cl_caller
  obtain ⟨n, r, a, b, hs, hn, hf, hR⟩ := wp_halts_full (M := model prog w) (R := R) (t := t) (c := .builtin "claim.caller" {}) (p := default) hz (Sem.wp_mono _ _ t (fun fin p' s' x => by
    obtain ⟨f, rfl, y⟩ := x
    exact y) (fun _ _ _ x => x) _ _ h')
  exact ⟨n, r, b, a, hn, hs, hf, hR⟩
noncomputable abbrev WalkB (q : Program) (loose : List Str) (XP : (Str → Option Value) → Heap → Prop) (YP : World → Heap → Prop) (r : RowW) (d : DefRec) (kwd : List (Str × Expr)) : Prop :=
  ∀ (w : World) (s₀ s₁ : Shared) (mg mb : Str → Option Value), Ground q loose r.records XP w s₀ mg mb s₁.heap → YP w s₁.heap → ∀ (a : Addr) (o : Obj) (pm cd doc dV kV : Value), s₁.heap.get? a = some o →
    o.data = .func { docDef d.name d.params d.body d.scope pm cd doc with defaults := dV, kwdefaults := kV } → s₁.heap.CodeRec cd d.name → Dflts mg s₁.heap d.params kwd dV kV → mg d.name = some (.ref a) → s₁.gens = #[] →
    ∀ (args : List WData) (vals : List Value) (as : List Addr), r.claim.pre args = true → WData.layableAll args = true → ReadsAllW r.records (classAt s₀.heap) s₁.heap vals args as → WellAll w.params s₁.heap vals args → (∀ a ∈ as, (a == sysModules) = false) →
      wpB true (model r.prog w) callerA (PySem.call (.ref a) vals) (fun v s' => GoodWG r.claim (classAt s₀.heap) (ExcName.means s₀.heap) args s₁ (.ok (.ret v)) s')
        (fun e s' => GoodWG r.claim (classAt s₀.heap) (ExcName.means s₀.heap) args s₁ (.error e) s') s₁
theorem open_B {r : OpenRow} {q : Program} {loose : List Str} {Xt : Shared → Bool} {XP : (Str → Option Value) → Heap → Prop} {α : Type} {Yf : Shared → α} {Ya : World → α} {YP : World → Heap → Prop} {d : DefRec} {kwd : List (Str × Expr)} {N : Nat}
    (left : LeftO r.prog q loose Xt Yf Ya N) (hY : ∀ w s, Yf s = Ya w → YP w s.heap) (hYk : ∀ w h h', YP w h → (∀ b o, h.get? b = some o → h'.get? b = some o) → YP w h')
    (hX : ∀ s, Xt s = true → XP (s.heap.nsMap mainGlobals) s.heap) (hXk : ∀ mg h h', XP mg h → (∀ b o, h.get? b = some o → h'.get? b = some o) → XP mg h')
    (hdef : defOf q r.name = some (d, kwd)) (hp : r.prog.theDef r.name = some (d.params, d.body, d.scope)) (hk : kwWritten? d.params.kwonlyargs d.params.kw_defaults = some kwd) (hRf : ∀ s, Xt s = true → RecFacts r.records s.heap) (hwr : (!r.writes || r.records.isEmpty) = true)
    (k1 : r.wellSaid = true) (ok : (chainsOk q && opensWell r.prog && (frees r.toRowW && r.within.isEmpty)) = true) (hb : r.prog.bare) (hw : r.toRowW.promised)
    (call : WalkB q loose XP YP r.toRowW d kwd) : r.Holds := by
  refine ⟨k1, hw, ?_⟩
  obtain ⟨ok, k5⟩ := Bool.and_eq_true_iff.mp ok
  obtain ⟨hch, o1⟩ := Bool.and_eq_true_iff.mp ok
  obtain ⟨k5, k6⟩ := Bool.and_eq_true_iff.mp k5
  obtain ⟨hsame, hu, ha, hap, hm⟩ := frees_parts k5
  refine ⟨⟨hb, o1, by show r.makers.map _ = []; rw [hm]; rfl⟩, hw.witness, fun w => ⟨(left.behind hX hch w).1, fun s' hs' => ?_⟩⟩
  obtain ⟨s₀, hf, hg0, s, hT, hz, hgens, hg, G00, y⟩ := (left.behind (XP := fun mg h => XP mg h ∧ RecFacts r.records h) (fun s hs => ⟨hX s hs, hRf s hs⟩) hch w).2 s' hs'
  have G0 : Ground q loose [] XP w s (s.heap.nsMap mainGlobals) (s.heap.nsMap builtinsNs) s.heap := ⟨G00.T, G00.B, G00.D, G00.TE, G00.TD, G00.W, G00.X.1, G00.cls, G00.has, G00.apart, G00.once, G00.K⟩
  have RF := G00.X.2
  refine ⟨s₀, hf, hg0, s, hT, fun n hn => ?_, RF.1, RF.2.1, ?_⟩
  · obtain rfl : n = r.name := by split at hn <;> simp_all
    exact pinned_of_view hg G0 hdef hp hk
  have hgens : s.gens = #[] := Array.eq_empty_of_size_eq_zero (beq_iff_eq.mp hgens)
  have G : Ground q loose r.records XP w s _ _ s.heap := RF.ground G0
  intro args hpre hlay ord hord
  obtain ⟨⟨vs, s₁⟩, hlaid⟩ := Option.isSome_iff_exists.mp (layAllW_isSome (P := w.params) (ord := ord) G.has args r.args s (pre_splitW hpre).1)
  have keeps := layAllW_keeps _ _ _ hlaid
  have hal := layAllW_rest _ _ _ hlaid
  obtain ⟨as, hrd, hin, hold⟩ := reads_layAllW hord _ _ _ hlaid hlay s₁.heap (fun _ _ e => e)
  have L : Laid r.records w s s₁ args vs as := ⟨⟨ord, hord, hlaid⟩, hrd, hin, hold, keeps, hal.1.trans hgens, hal.2.2.1⟩
  have G₁ := G.keeps hXk keeps
  obtain ⟨a, o, pm, cd, doc, dV, kV, h1, h2, h3, h4, h5⟩ := G₁.fn hdef
  have h := call w s s₁ _ _ G₁ (hYk _ _ _ (hY w s y) keeps) a o pm cd doc dV kV h2 h3 h4 h5 (defOf_name hdef ▸ h1) L.gens args vs as hpre hlay L.reads L.well (L.low G.low)
  have hi := ident_freeW hu ha hap
  have hwi : r.toRowW.claim.within = [] := List.isEmpty_iff.mp k6
  obtain ⟨k, res, s', s'', hrun, hsched, hfo, ⟨hcase, hos, hkp⟩⟩ := thread_B (prog := r.prog) (w := w) (s := s₁)
    (t := do match ← nsGet mainNs r.name with | some f => do ret (← PySem.call f vs) | none => unsupported "claim.caller:no-such-global")
    (R := fun res s' => r.toRowW.claim.Ends s args vs s₁ res s' ∧ s'.os = s.os ∧ (r.writes = true → namesKept r.prog r.keeps s.heap s'.heap ∧ ∀ x ∈ r.records, ∀ a, classAt s.heap x.1 = some a → recordClass s'.heap a x.1 (x.2.map (·.1)) = true))
    (Shared.asleep_of_life hal.2.2.2 hz)
    (wpB_bind (wpB_of (wpAny_nsGet G₁.T.g (by
      rw [h1]
      refine wpB_bind (wpB_mono h (fun v s' g => wpB_of (wpAny_pure ⟨_, rfl, ?_⟩)) fun e s' g => ?_)
      · have z := g.laid (c := r.toRowW.claim) hsame hwi hi L
        exact ⟨⟨z.1, z.2.1, fun q => ⟨namesKept_of hT hg _ keeps g.2.1.old, noTable hwr q⟩⟩, leftWithCleanup_false_of_bare z.2.2⟩
      · have z := g.laid (c := r.toRowW.claim) hsame hwi hi L
        exact ⟨⟨z.1, z.2.1, fun q => ⟨namesKept_of hT hg _ keeps g.2.1.old, noTable hwr q⟩⟩, leftWithCleanup_false_of_bare z.2.2⟩))))
  obtain ⟨eh, _, _, eo, _⟩ := Shared.forget_eq hfo
  have hcase := hcase.congr eh
  rw [← eh] at hkp
  rw [← eo] at hos
  have hlife : s'.heap.life = s.heap.life := (runN_life _ _ _ hrun).trans hal.2.2.2
  refine ⟨vs, s₁, hlaid, k, _, s', hsched, ?_, (fun _ i x hx => by rw [hgens] at hx; simp at hx), hkp, by rw [hlife], Shared.rest_eq hos⟩
  rcases hcase with ⟨v, rfl, d1, d2, d3, d4, d5⟩ | ⟨e, ob, cls, rfl, d1, d2, d3, d4, d5⟩
  · exact .inl ⟨v, rfl, d1, d2, d3, fun b o y _ => d4 b o y, d5⟩
  · exact .inr ⟨e, ob, cls, rfl, d1, d2, d3, d4, fun b o y _ => d5 b o y⟩
end
section
theorem open_C {r : OpenRow} {q : Program} {loose : List Str} {Xt : Shared → Bool} {XP : (Str → Option Value) → Heap → Prop} {α : Type} {Yf : Shared → α} {Ya : World → α} {YP : World → Heap → Prop} {d : DefRec} {kwd : List (Str × Expr)} {N : Nat}
    (_ : True) (hY : ∀ w s, Yf s = Ya w → YP w s.heap) (hYk : ∀ w h h', YP w h → (∀ b o, h.get? b = some o → h'.get? b = some o) → YP w h')
    (hX : ∀ s, Xt s = true → XP (s.heap.nsMap mainGlobals) s.heap) (hXk : ∀ mg h h', XP mg h → (∀ b o, h.get? b = some o → h'.get? b = some o) → XP mg h')
    (hdef : defOf q r.name = some (d, kwd)) (hp : r.prog.theDef r.name = some (d.params, d.body, d.scope)) (hk : kwWritten? d.params.kwonlyargs d.params.kw_defaults = some kwd) (hRf : ∀ s, Xt s = true → RecFacts r.records s.heap) (hwr : (!r.writes || r.records.isEmpty) = true)
    (k1 : r.wellSaid = true) (ok : (chainsOk q && opensWell r.prog && (frees r.toRowW && r.within.isEmpty)) = true) (hb : r.prog.bare) (hw : r.toRowW.promised)
    (call : LeftO r.prog q loose Xt Yf Ya N ∧ WalkB q loose XP YP r.toRowW d kwd) : r.Holds :=
  open_B call.1 hY hYk hX hXk hdef hp hk hRf hwr k1 ok hb hw call.2
set_option maxHeartbeats 8000000 in
theorem hSaid : PySem.Challenge.rw_tk0105_01.wellSaid = true := by
  unfold OpenLaw.wellSaid OpenRow.wellSaid OpenRow.partSaid looksOpen
  repeat' with_reducible refine look_both ?_ ?_
  all_goals decide +kernel
section
local macro_rules
  | `(tactic| refine $h:ident $as*) => if h.getId == `PySem.W.holds_open then `(tactic| (refine open_C $as*; any_goals (exact True.intro))) else Lean.Macro.throwUnsupported
local macro_rules
  | `(tactic| o_law) => `(tactic| refine holds_law hSaid fun said => ?_)
set_option maxHeartbeats 8000000 in
open_top hd for PySem.Challenge.rw_tk0105_01
end
end
section
noncomputable abbrev hP : Program := PySem.Challenge.rw_tk0105_01.row.prog
noncomputable abbrev hLo : List Str := [Str.ofString "NUMBER_FRAMES", Str.ofString "LONG_KINDS", Str.ofString "MODULUS", Str.ofString "PACKET_KINDS"]
noncomputable def zk (P : Params) (a : Nat) : Obj := ((hd.heap_1 P).lookup a).getD default
noncomputable def zfo (o : Obj) : FuncData := match o with | ⟨_, _, .func f, _⟩ => f | _ => default
noncomputable def zf (P : Params) (a : Nat) : FuncData := zfo (zk P a)
noncomputable def z (s : String) : Str := Str.ofString s
noncomputable def zv (s : String) (n : Nat) : Value := .str (Str.ofString s) n
noncomputable def ze (P : Params) (s : String) (n : Nat) (v : Value) : DictEntry := ⟨PyData.keyHash P (Str.ofString s), .str (Str.ofString s) n, v⟩
noncomputable def zF (a b : String) (n m k : Nat) (P : Params) : Obj := (Obj.mk Value.none none (Data.func (FuncData.mk (z a) (z b) (zf P n).params (zf P m).body (zf P k).scope 0 [] Value.none Value.none Value.none Value.none none Value.none Value.none 0)) #[])
noncomputable def zn (a : Params → Obj) (l r : Params → BT) (P : Params) : BT := .node (a P) (l P) (r P)
noncomputable def ze0 (_ : Params) : BT := .nil
noncomputable def zl (a : Params → Obj) (P : Params) : BT := .node (a P) .nil .nil
noncomputable def zz (a : Nat) (P : Params) : Obj := zk P a
noncomputable def o44 (_ : Params) : Obj := (Obj.mk .none none (Data.fields #[]) #[])
noncomputable def o45 (_ : Params) : Obj := (Obj.mk (Value.type "code") none (Data.fields #[(zv "<module>" 182), (zv "<module>" 183), (zv "/claim/cut.py" 184), .int 1 0, .int 0 0, .int 0 0, .int 0 0, .int 0 0, .ref 11, .bool false, .int 181 0, .ref 12, Value.none, Value.none, Value.none, Value.none, .int 185 0, .int 1 0, (zv "/claim/cut.py" 186)]) #[])
noncomputable def o46 (_ : Params) : Obj := (Obj.mk (Value.type "frame") none Data.plain #[(some (Value.ref 13)), (some (Value.ref 3)), (some (Value.ref 3)), none, (some (zv "__main__" 164)), none, (some (Value.ref 0))])
noncomputable def zd1 (P : Params) : List DictEntry := [(ze P "__name__" 165 (zv "quic.closing" 194)), (ze P "__doc__" 166 Value.none), (ze P "__package__" 167 Value.none), (ze P "__loader__" 168 (.builtin "__main__.__loader__#opaque")), (ze P "__spec__" 169 Value.none), (ze P "__annotations__" 170 (.ref 6)), (ze P "__builtins__" 171 (.ref 4)), (ze P "__file__" 173 (zv "/claim/cut.py" 172)), (ze P "__cached__" 174 Value.none), (ze P "_wall" 193 (.ref 21)), (ze P "OPEN" 197 (zv "open" 196)), (ze P "CLOSING" 199 (zv "closing" 198)), (ze P "CLOSED" 201 (zv "closed" 200)), (ze P "APPLICATION_ERROR_CODE" 203 (.int 12 202)), (ze P "PERIODS" 205 (.int 3 204)), (ze P "close_frame_in" 213 (.ref 28))]
noncomputable def o49 (P : Params) : Obj := (Obj.mk (Value.type "dict") none (Data.dict ⟨zd1 P⟩ 16) #[])
noncomputable def o50 (_ : Params) : Obj := (Obj.mk .none none (Data.fields #[.int 1 0, .int 0 0, .ref 20, .int 10 0, .int 0 0, .ref 27]) #[])
noncomputable def o52 (_ : Params) : Obj := (Obj.mk .none none (Data.fields #[]) #[])
noncomputable def o55 := zF "_wall" "_wall" 21 21 21
noncomputable def o59 (_ : Params) : Obj := (Obj.mk .none none (Data.fields #[]) #[])
noncomputable def o62 := zF "close_frame_in" "close_frame_in" 28 28 28
noncomputable def zd2 (P : Params) : List DictEntry := zd1 P ++ [(ze P "Closing" 309 (.ref 101))]
noncomputable def o65 (P : Params) : Obj := (Obj.mk (Value.type "dict") none (Data.dict ⟨zd2 P⟩ 17) #[])
noncomputable def o66 (_ : Params) : Obj := (Obj.mk .none none (Data.fields #[.int 1 0, .int 0 0, .ref 20, .int 10 0, .int 0 0, .ref 27, .int 14 0, .int 0 0, .ref 34]) #[])
noncomputable def o68 (_ : Params) : Obj := (Obj.mk (Value.type "builtin_function_or_method") none (Data.fields #[.builtin "type.__prepare__", .type "type"]) #[])
noncomputable def zd3 (P : Params) : List DictEntry := [(ze P "__module__" 221 (zv "quic.closing" 194)), (ze P "__qualname__" 223 (zv "Closing" 222)), (ze P "__firstlineno__" 225 (.int 14 224)), (ze P "__init__" 232 (.ref 42)), (ze P "is_open" 239 (.ref 49)), (ze P "close_now" 249 (.ref 56)), (ze P "on_close" 258 (.ref 63)), (ze P "on_reset" 267 (.ref 70)), (ze P "on_packet" 274 (.ref 77)), (ze P "on_time" 282 (.ref 84)), (ze P "give_up" 289 (.ref 91)), (ze P "next_time" 296 (.ref 98)), (ze P "__static_attributes__" 302 (.ref 99))]
noncomputable def o69 (P : Params) : Obj := (Obj.mk (Value.type "dict") none (Data.dict ⟨zd3 P⟩ 13) #[])
noncomputable def o71 (_ : Params) : Obj := (Obj.mk .none none (Data.fields #[.int 16 0, .int 4 0, .ref 41, .int 23 0, .int 4 0, .ref 48, .int 26 0, .int 4 0, .ref 55, .int 34 0, .int 4 0, .ref 62, .int 37 0, .int 4 0, .ref 69, .int 40 0, .int 4 0, .ref 76, .int 49 0, .int 4 0, .ref 83, .int 55 0, .int 4 0, .ref 90, .int 58 0, .int 4 0, .ref 97]) #[])
noncomputable def o72 (_ : Params) : Obj := (Obj.mk (Value.type "code") none (Data.fields #[(zv "Closing" 216), (zv "Closing" 217), (zv "/claim/cut.py" 218), .int 14 0, .int 0 0, .int 0 0, .int 0 0, .int 0 0, .ref 32, .bool false, .int 181 0, .ref 33, Value.none, Value.none, Value.none, Value.none, .int 219 0, .int 14 0, (zv "/claim/cut.py" 220)]) #[])
noncomputable def o73 (_ : Params) : Obj := (Obj.mk (Value.type "frame") none Data.plain #[(some (Value.ref 34)), (some (Value.ref 3)), (some (Value.ref 31)), none, (some (zv "quic.closing" 194)), none, (some (Value.ref 0))])
noncomputable def o75 (_ : Params) : Obj := (Obj.mk .none none (Data.fields #[]) #[])
noncomputable def o78 := zF "__init__" "Closing.__init__" 42 42 42
noncomputable def o82 (_ : Params) : Obj := (Obj.mk .none none (Data.fields #[]) #[])
noncomputable def o85 := zF "is_open" "Closing.is_open" 49 49 49
noncomputable def o89 (_ : Params) : Obj := (Obj.mk .none none (Data.fields #[]) #[])
noncomputable def o92 := zF "close_now" "Closing.close_now" 56 56 56
noncomputable def o96 (_ : Params) : Obj := (Obj.mk .none none (Data.fields #[]) #[])
noncomputable def o99 := zF "on_close" "Closing.on_close" 63 63 63
noncomputable def o103 (_ : Params) : Obj := (Obj.mk .none none (Data.fields #[]) #[])
noncomputable def o106 := zF "on_reset" "Closing.on_reset" 70 70 63
noncomputable def o110 (_ : Params) : Obj := (Obj.mk .none none (Data.fields #[]) #[])
noncomputable def o113 := zF "on_packet" "Closing.on_packet" 77 77 77
noncomputable def o117 (_ : Params) : Obj := (Obj.mk .none none (Data.fields #[]) #[])
noncomputable def o120 := zF "on_time" "Closing.on_time" 84 84 84
noncomputable def o124 (_ : Params) : Obj := (Obj.mk .none none (Data.fields #[]) #[])
noncomputable def o127 := zF "give_up" "Closing.give_up" 91 91 49
noncomputable def o131 (_ : Params) : Obj := (Obj.mk .none none (Data.fields #[]) #[])
noncomputable def o134 := zF "next_time" "Closing.next_time" 98 98 98
noncomputable def o142 (_ : Params) : Obj := (Obj.mk (Value.type "super") none (Data.fields #[.ref 101, .ref 101, .ref 101]) #[])
noncomputable def o143 (_ : Params) : Obj := (Obj.mk (Value.type "builtin_function_or_method") none (Data.fields #[.builtin "object.__init_subclass__", .ref 101]) #[])
noncomputable def o144 (P : Params) : Obj := (Obj.mk .none none (Data.dict #[(ze P "type.__subclasses__.Exception.0" 345 (.int 122 0)), (ze P "type.__subclasses__.Exception.n" 346 (.int 1 0))] 2) #[])
noncomputable def zd4 (P : Params) : List DictEntry := [(ze P "__name__" 165 (zv "quic.errors" 310)), (ze P "__doc__" 166 Value.none), (ze P "__package__" 167 Value.none), (ze P "__loader__" 168 (.builtin "__main__.__loader__#opaque")), (ze P "__spec__" 169 Value.none), (ze P "__annotations__" 170 (.ref 6)), (ze P "__builtins__" 171 (.ref 4)), (ze P "__file__" 173 (zv "/claim/cut.py" 172)), (ze P "__cached__" 174 Value.none), (ze P "_wall" 193 (.ref 21)), (ze P "OPEN" 197 (zv "open" 196)), (ze P "CLOSING" 199 (zv "closing" 198)), (ze P "CLOSED" 201 (zv "closed" 200)), (ze P "APPLICATION_ERROR_CODE" 203 (.int 12 202)), (ze P "PERIODS" 205 (.int 3 204)), (ze P "close_frame_in" 213 (.ref 28)), (ze P "Closing" 309 (.ref 101)), (ze P "INTERNAL_ERROR" 313 (.int 1 312)), (ze P "PROTOCOL_VIOLATION" 315 (.int 10 314)), (ze P "QuicError" 348 (.ref 122))]
noncomputable def o145 (P : Params) : Obj := (Obj.mk (Value.type "dict") none (Data.dict ⟨zd4 P⟩ 20) #[])
noncomputable def o146 (_ : Params) : Obj := (Obj.mk .none none (Data.fields #[.int 1 0, .int 0 0, .ref 20, .int 10 0, .int 0 0, .ref 27, .int 14 0, .int 0 0, .ref 34, .int 63 0, .int 0 0, .ref 111]) #[])
noncomputable def o148 (_ : Params) : Obj := (Obj.mk (Value.type "builtin_function_or_method") none (Data.fields #[.builtin "type.__prepare__", .type "type"]) #[])
noncomputable def o149 (P : Params) : Obj := (Obj.mk (Value.type "dict") none (Data.dict #[(ze P "__module__" 323 (zv "quic.errors" 310)), (ze P "__qualname__" 325 (zv "QuicError" 324)), (ze P "__firstlineno__" 327 (.int 63 326)), (ze P "__init__" 337 (.ref 119)), (ze P "__static_attributes__" 341 (.ref 120))] 5) #[])
noncomputable def o151 (_ : Params) : Obj := (Obj.mk .none none (Data.fields #[.int 65 0, .int 4 0, .ref 118]) #[])
noncomputable def o152 (_ : Params) : Obj := (Obj.mk (Value.type "code") none (Data.fields #[(zv "QuicError" 318), (zv "QuicError" 319), (zv "/claim/cut.py" 320), .int 63 0, .int 0 0, .int 0 0, .int 0 0, .int 0 0, .ref 109, .bool false, .int 181 0, .ref 110, Value.none, Value.none, Value.none, Value.none, .int 321 0, .int 63 0, (zv "/claim/cut.py" 322)]) #[])
noncomputable def o153 (_ : Params) : Obj := (Obj.mk (Value.type "frame") none Data.plain #[(some (Value.ref 111)), (some (Value.ref 3)), (some (Value.ref 108)), none, (some (zv "quic.errors" 310)), none, (some (Value.ref 0))])
noncomputable def o155 (_ : Params) : Obj := (Obj.mk .none none (Data.fields #[]) #[])
noncomputable def o158 := zF "__init__" "QuicError.__init__" 119 119 119
noncomputable def o165 (_ : Params) : Obj := (Obj.mk (Value.type "super") none (Data.fields #[.ref 122, .ref 122, .ref 122]) #[])
noncomputable def o166 (_ : Params) : Obj := (Obj.mk (Value.type "builtin_function_or_method") none (Data.fields #[.builtin "object.__init_subclass__", .ref 122]) #[])
noncomputable def o167 (P : Params) : Obj := (Obj.mk .none none (Data.dict #[(ze P "type.__subclasses__.Exception.0" 345 (.int 122 0)), (ze P "type.__subclasses__.Exception.n" 346 (.int 2 0)), (ze P "type.__subclasses__.Exception.1" 374 (.int 142 0))] 3) #[])
noncomputable def zd5 (P : Params) : List DictEntry := zd4 P ++ [(ze P "Short" 377 (.ref 142))]
noncomputable def o168 (P : Params) : Obj := (Obj.mk (Value.type "dict") none (Data.dict ⟨zd5 P⟩ 21) #[])
noncomputable def o169 (_ : Params) : Obj := (Obj.mk .none none (Data.fields #[.int 1 0, .int 0 0, .ref 20, .int 10 0, .int 0 0, .ref 27, .int 14 0, .int 0 0, .ref 34, .int 63 0, .int 0 0, .ref 111, .int 70 0, .int 0 0, .ref 131]) #[])
noncomputable def o171 (_ : Params) : Obj := (Obj.mk (Value.type "builtin_function_or_method") none (Data.fields #[.builtin "type.__prepare__", .type "type"]) #[])
noncomputable def o172 (P : Params) : Obj := (Obj.mk (Value.type "dict") none (Data.dict #[(ze P "__module__" 356 (zv "quic.errors" 310)), (ze P "__qualname__" 358 (zv "Short" 357)), (ze P "__firstlineno__" 360 (.int 70 359)), (ze P "__init__" 368 (.ref 139)), (ze P "__static_attributes__" 370 (.ref 140))] 5) #[])
noncomputable def o174 (_ : Params) : Obj := (Obj.mk .none none (Data.fields #[.int 72 0, .int 4 0, .ref 138]) #[])
noncomputable def o175 (_ : Params) : Obj := (Obj.mk (Value.type "code") none (Data.fields #[(zv "Short" 351), (zv "Short" 352), (zv "/claim/cut.py" 353), .int 70 0, .int 0 0, .int 0 0, .int 0 0, .int 0 0, .ref 129, .bool false, .int 181 0, .ref 130, Value.none, Value.none, Value.none, Value.none, .int 354 0, .int 70 0, (zv "/claim/cut.py" 355)]) #[])
noncomputable def o176 (_ : Params) : Obj := (Obj.mk (Value.type "frame") none Data.plain #[(some (Value.ref 131)), (some (Value.ref 3)), (some (Value.ref 128)), none, (some (zv "quic.errors" 310)), none, (some (Value.ref 0))])
noncomputable def o178 (_ : Params) : Obj := (Obj.mk .none none (Data.fields #[]) #[])
noncomputable def o181 := zF "__init__" "Short.__init__" 139 139 139
noncomputable def o188 (_ : Params) : Obj := (Obj.mk (Value.type "super") none (Data.fields #[.ref 142, .ref 142, .ref 142]) #[])
noncomputable def o189 (_ : Params) : Obj := (Obj.mk (Value.type "builtin_function_or_method") none (Data.fields #[.builtin "object.__init_subclass__", .ref 142]) #[])
noncomputable def zd6 (P : Params) : List DictEntry := zd5 P ++ [(ze P "PacketRefused" 406 (.ref 162)), (ze P "PING" 408 (.int 1 407)), (ze P "ACK" 410 (.int 2 409)), (ze P "ACK_ECN" 412 (.int 3 411)), (ze P "RESET_STREAM" 414 (.int 4 413)), (ze P "STOP_SENDING" 416 (.int 5 415)), (ze P "CRYPTO" 418 (.int 6 417)), (ze P "NEW_TOKEN" 420 (.int 7 419)), (ze P "STREAM" 422 (.int 8 421)), (ze P "MAX_DATA" 424 (.int 16 423)), (ze P "MAX_STREAM_DATA" 426 (.int 17 425)), (ze P "MAX_STREAMS_BIDI" 428 (.int 18 427)), (ze P "MAX_STREAMS_UNI" 430 (.int 19 429)), (ze P "DATA_BLOCKED" 432 (.int 20 431)), (ze P "STREAM_DATA_BLOCKED" 434 (.int 21 433)), (ze P "STREAMS_BLOCKED_BIDI" 436 (.int 22 435)), (ze P "STREAMS_BLOCKED_UNI" 438 (.int 23 437)), (ze P "NEW_CONNECTION_ID" 440 (.int 24 439)), (ze P "RETIRE_CONNECTION_ID" 442 (.int 25 441)), (ze P "PATH_CHALLENGE" 444 (.int 26 443))]
noncomputable def o191 (P : Params) : Obj := (Obj.mk (Value.type "dict") none (Data.dict ⟨zd6 P⟩ 41) #[])
noncomputable def o192 (_ : Params) : Obj := (Obj.mk .none none (Data.fields #[.int 1 0, .int 0 0, .ref 20, .int 10 0, .int 0 0, .ref 27, .int 14 0, .int 0 0, .ref 34, .int 63 0, .int 0 0, .ref 111, .int 70 0, .int 0 0, .ref 131, .int 75 0, .int 0 0, .ref 151]) #[])
noncomputable def o194 (_ : Params) : Obj := (Obj.mk (Value.type "builtin_function_or_method") none (Data.fields #[.builtin "type.__prepare__", .type "type"]) #[])
noncomputable def o195 (P : Params) : Obj := (Obj.mk (Value.type "dict") none (Data.dict #[(ze P "__module__" 385 (zv "quic.errors" 310)), (ze P "__qualname__" 387 (zv "PacketRefused" 386)), (ze P "__firstlineno__" 389 (.int 75 388)), (ze P "__init__" 397 (.ref 159)), (ze P "__static_attributes__" 399 (.ref 160))] 5) #[])
noncomputable def o197 (_ : Params) : Obj := (Obj.mk .none none (Data.fields #[.int 77 0, .int 4 0, .ref 158]) #[])
noncomputable def o198 (_ : Params) : Obj := (Obj.mk (Value.type "code") none (Data.fields #[(zv "PacketRefused" 380), (zv "PacketRefused" 381), (zv "/claim/cut.py" 382), .int 75 0, .int 0 0, .int 0 0, .int 0 0, .int 0 0, .ref 149, .bool false, .int 181 0, .ref 150, Value.none, Value.none, Value.none, Value.none, .int 383 0, .int 75 0, (zv "/claim/cut.py" 384)]) #[])
noncomputable def o199 (_ : Params) : Obj := (Obj.mk (Value.type "frame") none Data.plain #[(some (Value.ref 151)), (some (Value.ref 3)), (some (Value.ref 148)), none, (some (zv "quic.errors" 310)), none, (some (Value.ref 0))])
noncomputable def o201 (_ : Params) : Obj := (Obj.mk .none none (Data.fields #[]) #[])
noncomputable def o204 := zF "__init__" "PacketRefused.__init__" 159 159 139
noncomputable def o211 (_ : Params) : Obj := (Obj.mk (Value.type "super") none (Data.fields #[.ref 162, .ref 162, .ref 162]) #[])
noncomputable def o212 (_ : Params) : Obj := (Obj.mk (Value.type "builtin_function_or_method") none (Data.fields #[.builtin "object.__init_subclass__", .ref 162]) #[])
noncomputable def zd7 (P : Params) : List DictEntry := [(ze P "__name__" 165 (zv "quic.framesout" 513)), (ze P "__doc__" 166 Value.none), (ze P "__package__" 167 Value.none), (ze P "__loader__" 168 (.builtin "__main__.__loader__#opaque")), (ze P "__spec__" 169 Value.none), (ze P "__annotations__" 170 (.ref 6)), (ze P "__builtins__" 171 (.ref 4)), (ze P "__file__" 173 (zv "/claim/cut.py" 172)), (ze P "__cached__" 174 Value.none), (ze P "_wall" 193 (.ref 21)), (ze P "OPEN" 197 (zv "open" 196)), (ze P "CLOSING" 199 (zv "closing" 198)), (ze P "CLOSED" 201 (zv "closed" 200)), (ze P "APPLICATION_ERROR_CODE" 203 (.int 12 202)), (ze P "PERIODS" 205 (.int 3 204)), (ze P "close_frame_in" 213 (.ref 28)), (ze P "Closing" 309 (.ref 101)), (ze P "INTERNAL_ERROR" 313 (.int 1 312)), (ze P "PROTOCOL_VIOLATION" 315 (.int 10 314)), (ze P "QuicError" 348 (.ref 122)), (ze P "Short" 377 (.ref 142)), (ze P "PacketRefused" 406 (.ref 162)), (ze P "PING" 408 (.int 1 407)), (ze P "ACK" 410 (.int 2 409)), (ze P "ACK_ECN" 412 (.int 3 411)), (ze P "RESET_STREAM" 414 (.int 4 413)), (ze P "STOP_SENDING" 416 (.int 5 415)), (ze P "CRYPTO" 418 (.int 6 417)), (ze P "NEW_TOKEN" 420 (.int 7 419)), (ze P "STREAM" 422 (.int 8 421)), (ze P "MAX_DATA" 424 (.int 16 423)), (ze P "MAX_STREAM_DATA" 426 (.int 17 425)), (ze P "MAX_STREAMS_BIDI" 428 (.int 18 427)), (ze P "MAX_STREAMS_UNI" 430 (.int 19 429)), (ze P "DATA_BLOCKED" 432 (.int 20 431)), (ze P "STREAM_DATA_BLOCKED" 434 (.int 21 433)), (ze P "STREAMS_BLOCKED_BIDI" 436 (.int 22 435)), (ze P "STREAMS_BLOCKED_UNI" 438 (.int 23 437)), (ze P "NEW_CONNECTION_ID" 440 (.int 24 439)), (ze P "RETIRE_CONNECTION_ID" 442 (.int 25 441)), (ze P "PATH_CHALLENGE" 444 (.int 26 443)), (ze P "PATH_RESPONSE" 446 (.int 27 445)), (ze P "CLOSE" 448 (.int 28 447)), (ze P "CLOSE_APPLICATION" 450 (.int 29 449)), (ze P "HANDSHAKE_DONE" 452 (.int 30 451)), (ze P "BIT_FIN" 454 (.int 1 453)), (ze P "BIT_LENGTH" 456 (.int 2 455)), (ze P "BIT_OFFSET" 458 (.int 4 457)), (ze P "VARINT_SIZES" 465 (.ref 166)), (ze P "put_whole" 475 (.ref 173)), (ze P "get_whole" 486 (.ref 180)), (ze P "varint_size" 494 (.ref 187)), (ze P "put_varint" 503 (.ref 194)), (ze P "get_varint" 512 (.ref 201))]
noncomputable def o213 (P : Params) : Obj := (Obj.mk (Value.type "dict") none (Data.dict ⟨zd7 P⟩ 54) #[])
noncomputable def o214 (_ : Params) : Obj := (Obj.mk .none none (Data.fields #[.int 1 0, .int 0 0, .ref 20, .int 10 0, .int 0 0, .ref 27, .int 14 0, .int 0 0, .ref 34, .int 63 0, .int 0 0, .ref 111, .int 70 0, .int 0 0, .ref 131, .int 75 0, .int 0 0, .ref 151, .int 108 0, .int 0 0, .ref 172, .int 116 0, .int 0 0, .ref 179, .int 123 0, .int 0 0, .ref 186, .int 128 0, .int 0 0, .ref 193, .int 135 0, .int 0 0, .ref 200]) #[])
noncomputable def o217 (_ : Params) : Obj := (Obj.mk .none none (Data.fields #[]) #[])
noncomputable def o220 := zF "put_whole" "put_whole" 173 173 173
noncomputable def o224 (_ : Params) : Obj := (Obj.mk .none none (Data.fields #[]) #[])
noncomputable def o227 := zF "get_whole" "get_whole" 180 180 180
noncomputable def o231 (_ : Params) : Obj := (Obj.mk .none none (Data.fields #[]) #[])
noncomputable def o234 := zF "varint_size" "varint_size" 187 187 187
noncomputable def o238 (_ : Params) : Obj := (Obj.mk .none none (Data.fields #[]) #[])
noncomputable def o241 := zF "put_varint" "put_varint" 194 194 194
noncomputable def o245 (_ : Params) : Obj := (Obj.mk .none none (Data.fields #[]) #[])
noncomputable def o248 := zF "get_varint" "get_varint" 201 201 201
noncomputable def zd8 (P : Params) : List DictEntry := zd7 P ++ [(ze P "NUMBER_FRAMES" 533 (.ref 202)), (ze P "put_numbers" 539 (.ref 207)), (ze P "put_counted" 546 (.ref 214)), (ze P "ack_numbers" 559 (.ref 221)), (ze P "put_ack" 573 (.ref 228)), (ze P "put_stream" 588 (.ref 235)), (ze P "put_new_cid" 600 (.ref 242)), (ze P "put_close" 611 (.ref 249))]
noncomputable def o251 (P : Params) : Obj := (Obj.mk (Value.type "dict") none (Data.dict ⟨zd8 P⟩ 62) #[])
noncomputable def o252 (_ : Params) : Obj := (Obj.mk .none none (Data.fields #[.int 1 0, .int 0 0, .ref 20, .int 10 0, .int 0 0, .ref 27, .int 14 0, .int 0 0, .ref 34, .int 63 0, .int 0 0, .ref 111, .int 70 0, .int 0 0, .ref 131, .int 75 0, .int 0 0, .ref 151, .int 108 0, .int 0 0, .ref 172, .int 116 0, .int 0 0, .ref 179, .int 123 0, .int 0 0, .ref 186, .int 128 0, .int 0 0, .ref 193, .int 135 0, .int 0 0, .ref 200, .int 142 0, .int 0 0, .ref 206, .int 144 0, .int 0 0, .ref 213, .int 146 0, .int 0 0, .ref 220, .int 153 0, .int 0 0, .ref 227, .int 158 0, .int 0 0, .ref 234, .int 163 0, .int 0 0, .ref 241, .int 166 0, .int 0 0, .ref 248]) #[])
noncomputable def o255 (_ : Params) : Obj := (Obj.mk .none none (Data.fields #[]) #[])
noncomputable def o256 := zF "put_numbers" "put_numbers" 207 207 207
noncomputable def o260 (_ : Params) : Obj := (Obj.mk .none none (Data.fields #[]) #[])
noncomputable def o263 := zF "put_counted" "put_counted" 214 214 214
noncomputable def o267 (_ : Params) : Obj := (Obj.mk .none none (Data.fields #[]) #[])
noncomputable def o270 := zF "ack_numbers" "ack_numbers" 221 221 221
noncomputable def o274 (_ : Params) : Obj := (Obj.mk .none none (Data.fields #[]) #[])
noncomputable def o277 := zF "put_ack" "put_ack" 228 228 228
noncomputable def o281 (_ : Params) : Obj := (Obj.mk .none none (Data.fields #[]) #[])
noncomputable def o284 := zF "put_stream" "put_stream" 235 235 235
noncomputable def o288 (_ : Params) : Obj := (Obj.mk .none none (Data.fields #[]) #[])
noncomputable def o291 := zF "put_new_cid" "put_new_cid" 242 242 242
noncomputable def o295 (_ : Params) : Obj := (Obj.mk .none none (Data.fields #[]) #[])
noncomputable def o298 := zF "put_close" "put_close" 249 249 249
noncomputable def zd9 (P : Params) : List DictEntry := [(ze P "__name__" 165 (zv "quic.octets" 642)), (ze P "__doc__" 166 Value.none), (ze P "__package__" 167 Value.none), (ze P "__loader__" 168 (.builtin "__main__.__loader__#opaque")), (ze P "__spec__" 169 Value.none), (ze P "__annotations__" 170 (.ref 6)), (ze P "__builtins__" 171 (.ref 4)), (ze P "__file__" 173 (zv "/claim/cut.py" 172)), (ze P "__cached__" 174 Value.none), (ze P "_wall" 193 (.ref 21)), (ze P "OPEN" 197 (zv "open" 196)), (ze P "CLOSING" 199 (zv "closing" 198)), (ze P "CLOSED" 201 (zv "closed" 200)), (ze P "APPLICATION_ERROR_CODE" 203 (.int 12 202)), (ze P "PERIODS" 205 (.int 3 204)), (ze P "close_frame_in" 213 (.ref 28)), (ze P "Closing" 309 (.ref 101)), (ze P "INTERNAL_ERROR" 313 (.int 1 312)), (ze P "PROTOCOL_VIOLATION" 315 (.int 10 314)), (ze P "QuicError" 348 (.ref 122)), (ze P "Short" 377 (.ref 142)), (ze P "PacketRefused" 406 (.ref 162)), (ze P "PING" 408 (.int 1 407)), (ze P "ACK" 410 (.int 2 409)), (ze P "ACK_ECN" 412 (.int 3 411)), (ze P "RESET_STREAM" 414 (.int 4 413)), (ze P "STOP_SENDING" 416 (.int 5 415)), (ze P "CRYPTO" 418 (.int 6 417)), (ze P "NEW_TOKEN" 420 (.int 7 419)), (ze P "STREAM" 422 (.int 8 421)), (ze P "MAX_DATA" 424 (.int 16 423)), (ze P "MAX_STREAM_DATA" 426 (.int 17 425)), (ze P "MAX_STREAMS_BIDI" 428 (.int 18 427)), (ze P "MAX_STREAMS_UNI" 430 (.int 19 429)), (ze P "DATA_BLOCKED" 432 (.int 20 431)), (ze P "STREAM_DATA_BLOCKED" 434 (.int 21 433)), (ze P "STREAMS_BLOCKED_BIDI" 436 (.int 22 435)), (ze P "STREAMS_BLOCKED_UNI" 438 (.int 23 437)), (ze P "NEW_CONNECTION_ID" 440 (.int 24 439)), (ze P "RETIRE_CONNECTION_ID" 442 (.int 25 441)), (ze P "PATH_CHALLENGE" 444 (.int 26 443)), (ze P "PATH_RESPONSE" 446 (.int 27 445)), (ze P "CLOSE" 448 (.int 28 447)), (ze P "CLOSE_APPLICATION" 450 (.int 29 449)), (ze P "HANDSHAKE_DONE" 452 (.int 30 451)), (ze P "BIT_FIN" 454 (.int 1 453)), (ze P "BIT_LENGTH" 456 (.int 2 455)), (ze P "BIT_OFFSET" 458 (.int 4 457)), (ze P "VARINT_SIZES" 465 (.ref 166)), (ze P "put_whole" 475 (.ref 173)), (ze P "get_whole" 486 (.ref 180)), (ze P "varint_size" 494 (.ref 187)), (ze P "put_varint" 503 (.ref 194)), (ze P "get_varint" 512 (.ref 201)), (ze P "NUMBER_FRAMES" 533 (.ref 202)), (ze P "put_numbers" 539 (.ref 207)), (ze P "put_counted" 546 (.ref 214)), (ze P "ack_numbers" 559 (.ref 221)), (ze P "put_ack" 573 (.ref 228)), (ze P "put_stream" 588 (.ref 235)), (ze P "put_new_cid" 600 (.ref 242)), (ze P "put_close" 611 (.ref 249)), (ze P "put_octets_frame" 619 (.ref 256)), (ze P "put_frame" 628 (.ref 263)), (ze P "put_frames" 634 (.ref 268)), (ze P "frame_size" 641 (.ref 275))]
noncomputable def o303 (P : Params) : Obj := (Obj.mk (Value.type "dict") none (Data.dict ⟨zd9 P⟩ 66) #[])
noncomputable def o304 (_ : Params) : Obj := (Obj.mk .none none (Data.fields #[.int 1 0, .int 0 0, .ref 20, .int 10 0, .int 0 0, .ref 27, .int 14 0, .int 0 0, .ref 34, .int 63 0, .int 0 0, .ref 111, .int 70 0, .int 0 0, .ref 131, .int 75 0, .int 0 0, .ref 151, .int 108 0, .int 0 0, .ref 172, .int 116 0, .int 0 0, .ref 179, .int 123 0, .int 0 0, .ref 186, .int 128 0, .int 0 0, .ref 193, .int 135 0, .int 0 0, .ref 200, .int 142 0, .int 0 0, .ref 206, .int 144 0, .int 0 0, .ref 213, .int 146 0, .int 0 0, .ref 220, .int 153 0, .int 0 0, .ref 227, .int 158 0, .int 0 0, .ref 234, .int 163 0, .int 0 0, .ref 241, .int 166 0, .int 0 0, .ref 248, .int 171 0, .int 0 0, .ref 255, .int 184 0, .int 0 0, .ref 262, .int 202 0, .int 0 0, .ref 267, .int 204 0, .int 0 0, .ref 274]) #[])
noncomputable def o306 (_ : Params) : Obj := (Obj.mk .none none (Data.fields #[]) #[])
noncomputable def o309 := zF "put_octets_frame" "put_octets_frame" 256 256 256
noncomputable def o313 (_ : Params) : Obj := (Obj.mk .none none (Data.fields #[]) #[])
noncomputable def o316 := zF "put_frame" "put_frame" 263 263 263
noncomputable def o320 (_ : Params) : Obj := (Obj.mk .none none (Data.fields #[]) #[])
noncomputable def o321 := zF "put_frames" "put_frames" 268 268 268
noncomputable def o325 (_ : Params) : Obj := (Obj.mk .none none (Data.fields #[]) #[])
noncomputable def o328 := zF "frame_size" "frame_size" 275 275 275
noncomputable def zd10 (P : Params) : List DictEntry := [(ze P "__name__" 165 (zv "quic.longheads" 713)), (ze P "__doc__" 166 Value.none), (ze P "__package__" 167 Value.none), (ze P "__loader__" 168 (.builtin "__main__.__loader__#opaque")), (ze P "__spec__" 169 Value.none), (ze P "__annotations__" 170 (.ref 6)), (ze P "__builtins__" 171 (.ref 4)), (ze P "__file__" 173 (zv "/claim/cut.py" 172)), (ze P "__cached__" 174 Value.none), (ze P "_wall" 193 (.ref 21)), (ze P "OPEN" 197 (zv "open" 196)), (ze P "CLOSING" 199 (zv "closing" 198)), (ze P "CLOSED" 201 (zv "closed" 200)), (ze P "APPLICATION_ERROR_CODE" 203 (.int 12 202)), (ze P "PERIODS" 205 (.int 3 204)), (ze P "close_frame_in" 213 (.ref 28)), (ze P "Closing" 309 (.ref 101)), (ze P "INTERNAL_ERROR" 313 (.int 1 312)), (ze P "PROTOCOL_VIOLATION" 315 (.int 10 314)), (ze P "QuicError" 348 (.ref 122)), (ze P "Short" 377 (.ref 142)), (ze P "PacketRefused" 406 (.ref 162)), (ze P "PING" 408 (.int 1 407)), (ze P "ACK" 410 (.int 2 409)), (ze P "ACK_ECN" 412 (.int 3 411)), (ze P "RESET_STREAM" 414 (.int 4 413)), (ze P "STOP_SENDING" 416 (.int 5 415)), (ze P "CRYPTO" 418 (.int 6 417)), (ze P "NEW_TOKEN" 420 (.int 7 419)), (ze P "STREAM" 422 (.int 8 421)), (ze P "MAX_DATA" 424 (.int 16 423)), (ze P "MAX_STREAM_DATA" 426 (.int 17 425)), (ze P "MAX_STREAMS_BIDI" 428 (.int 18 427)), (ze P "MAX_STREAMS_UNI" 430 (.int 19 429)), (ze P "DATA_BLOCKED" 432 (.int 20 431)), (ze P "STREAM_DATA_BLOCKED" 434 (.int 21 433)), (ze P "STREAMS_BLOCKED_BIDI" 436 (.int 22 435)), (ze P "STREAMS_BLOCKED_UNI" 438 (.int 23 437)), (ze P "NEW_CONNECTION_ID" 440 (.int 24 439)), (ze P "RETIRE_CONNECTION_ID" 442 (.int 25 441)), (ze P "PATH_CHALLENGE" 444 (.int 26 443)), (ze P "PATH_RESPONSE" 446 (.int 27 445)), (ze P "CLOSE" 448 (.int 28 447)), (ze P "CLOSE_APPLICATION" 450 (.int 29 449)), (ze P "HANDSHAKE_DONE" 452 (.int 30 451)), (ze P "BIT_FIN" 454 (.int 1 453)), (ze P "BIT_LENGTH" 456 (.int 2 455)), (ze P "BIT_OFFSET" 458 (.int 4 457)), (ze P "VARINT_SIZES" 465 (.ref 166)), (ze P "put_whole" 475 (.ref 173)), (ze P "get_whole" 486 (.ref 180)), (ze P "varint_size" 494 (.ref 187)), (ze P "put_varint" 503 (.ref 194)), (ze P "get_varint" 512 (.ref 201)), (ze P "NUMBER_FRAMES" 533 (.ref 202)), (ze P "put_numbers" 539 (.ref 207)), (ze P "put_counted" 546 (.ref 214)), (ze P "ack_numbers" 559 (.ref 221)), (ze P "put_ack" 573 (.ref 228)), (ze P "put_stream" 588 (.ref 235)), (ze P "put_new_cid" 600 (.ref 242)), (ze P "put_close" 611 (.ref 249)), (ze P "put_octets_frame" 619 (.ref 256)), (ze P "put_frame" 628 (.ref 263)), (ze P "put_frames" 634 (.ref 268)), (ze P "frame_size" 641 (.ref 275)), (ze P "Reader" 712 (.ref 327)), (ze P "VERSION_ONE" 716 (.int 1 715))]
noncomputable def o331 (P : Params) : Obj := (Obj.mk (Value.type "dict") none (Data.dict ⟨zd10 P⟩ 68) #[])
noncomputable def o332 (_ : Params) : Obj := (Obj.mk .none none (Data.fields #[.int 1 0, .int 0 0, .ref 20, .int 10 0, .int 0 0, .ref 27, .int 14 0, .int 0 0, .ref 34, .int 63 0, .int 0 0, .ref 111, .int 70 0, .int 0 0, .ref 131, .int 75 0, .int 0 0, .ref 151, .int 108 0, .int 0 0, .ref 172, .int 116 0, .int 0 0, .ref 179, .int 123 0, .int 0 0, .ref 186, .int 128 0, .int 0 0, .ref 193, .int 135 0, .int 0 0, .ref 200, .int 142 0, .int 0 0, .ref 206, .int 144 0, .int 0 0, .ref 213, .int 146 0, .int 0 0, .ref 220, .int 153 0, .int 0 0, .ref 227, .int 158 0, .int 0 0, .ref 234, .int 163 0, .int 0 0, .ref 241, .int 166 0, .int 0 0, .ref 248, .int 171 0, .int 0 0, .ref 255, .int 184 0, .int 0 0, .ref 262, .int 202 0, .int 0 0, .ref 267, .int 204 0, .int 0 0, .ref 274, .int 207 0, .int 0 0, .ref 281]) #[])
noncomputable def o334 (_ : Params) : Obj := (Obj.mk (Value.type "builtin_function_or_method") none (Data.fields #[.builtin "type.__prepare__", .type "type"]) #[])
noncomputable def zd11 (P : Params) : List DictEntry := [(ze P "__module__" 651 (zv "quic.octets" 642)), (ze P "__qualname__" 653 (zv "Reader" 652)), (ze P "__firstlineno__" 655 (.int 207 654)), (ze P "__init__" 663 (.ref 289)), (ze P "left" 670 (.ref 296)), (ze P "take" 678 (.ref 303)), (ze P "rest" 685 (.ref 310)), (ze P "whole" 694 (.ref 317)), (ze P "varint" 702 (.ref 324)), (ze P "__static_attributes__" 705 (.ref 325))]
noncomputable def o335 (P : Params) : Obj := (Obj.mk (Value.type "dict") none (Data.dict ⟨zd11 P⟩ 10) #[])
noncomputable def o337 (_ : Params) : Obj := (Obj.mk .none none (Data.fields #[.int 209 0, .int 4 0, .ref 288, .int 213 0, .int 4 0, .ref 295, .int 216 0, .int 4 0, .ref 302, .int 222 0, .int 4 0, .ref 309, .int 225 0, .int 4 0, .ref 316, .int 230 0, .int 4 0, .ref 323]) #[])
noncomputable def o338 (_ : Params) : Obj := (Obj.mk (Value.type "code") none (Data.fields #[(zv "Reader" 646), (zv "Reader" 647), (zv "/claim/cut.py" 648), .int 207 0, .int 0 0, .int 0 0, .int 0 0, .int 0 0, .ref 279, .bool false, .int 181 0, .ref 280, Value.none, Value.none, Value.none, Value.none, .int 649 0, .int 207 0, (zv "/claim/cut.py" 650)]) #[])
noncomputable def o339 (_ : Params) : Obj := (Obj.mk (Value.type "frame") none Data.plain #[(some (Value.ref 281)), (some (Value.ref 3)), (some (Value.ref 278)), none, (some (zv "quic.octets" 642)), none, (some (Value.ref 0))])
noncomputable def o341 (_ : Params) : Obj := (Obj.mk .none none (Data.fields #[]) #[])
noncomputable def o344 := zF "__init__" "Reader.__init__" 289 289 289
noncomputable def o348 (_ : Params) : Obj := (Obj.mk .none none (Data.fields #[]) #[])
noncomputable def o351 := zF "left" "Reader.left" 296 296 296
noncomputable def o355 (_ : Params) : Obj := (Obj.mk .none none (Data.fields #[]) #[])
noncomputable def o358 := zF "take" "Reader.take" 303 303 303
noncomputable def o362 (_ : Params) : Obj := (Obj.mk .none none (Data.fields #[]) #[])
noncomputable def o365 := zF "rest" "Reader.rest" 310 310 98
noncomputable def o369 (_ : Params) : Obj := (Obj.mk .none none (Data.fields #[]) #[])
noncomputable def o372 := zF "whole" "Reader.whole" 317 317 317
noncomputable def o376 (_ : Params) : Obj := (Obj.mk .none none (Data.fields #[]) #[])
noncomputable def o379 := zF "varint" "Reader.varint" 324 324 324
noncomputable def o387 (_ : Params) : Obj := (Obj.mk (Value.type "super") none (Data.fields #[.ref 327, .ref 327, .ref 327]) #[])
noncomputable def o388 (_ : Params) : Obj := (Obj.mk (Value.type "builtin_function_or_method") none (Data.fields #[.builtin "object.__init_subclass__", .ref 327]) #[])
noncomputable def zd12 (P : Params) : List DictEntry := zd10 P ++ [(ze P "VERSION_NONE" 718 (.int 0 717)), (ze P "MOST_CID" 720 (.int 20 719)), (ze P "RETRY_TAG" 722 (.int 16 721)), (ze P "LONG_KINDS" 727 (.ref 332)), (ze P "RawPacket" 769 (.ref 349)), (ze P "put_ids" 777 (.ref 360)), (ze P "long_first" 785 (.ref 367)), (ze P "long_head" 799 (.ref 374))]
noncomputable def o389 (P : Params) : Obj := (Obj.mk (Value.type "dict") none (Data.dict ⟨zd12 P⟩ 76) #[])
noncomputable def o390 (_ : Params) : Obj := (Obj.mk .none none (Data.fields #[.int 1 0, .int 0 0, .ref 20, .int 10 0, .int 0 0, .ref 27, .int 14 0, .int 0 0, .ref 34, .int 63 0, .int 0 0, .ref 111, .int 70 0, .int 0 0, .ref 131, .int 75 0, .int 0 0, .ref 151, .int 108 0, .int 0 0, .ref 172, .int 116 0, .int 0 0, .ref 179, .int 123 0, .int 0 0, .ref 186, .int 128 0, .int 0 0, .ref 193, .int 135 0, .int 0 0, .ref 200, .int 142 0, .int 0 0, .ref 206, .int 144 0, .int 0 0, .ref 213, .int 146 0, .int 0 0, .ref 220, .int 153 0, .int 0 0, .ref 227, .int 158 0, .int 0 0, .ref 234, .int 163 0, .int 0 0, .ref 241, .int 166 0, .int 0 0, .ref 248, .int 171 0, .int 0 0, .ref 255, .int 184 0, .int 0 0, .ref 262, .int 202 0, .int 0 0, .ref 267, .int 204 0, .int 0 0, .ref 274, .int 207 0, .int 0 0, .ref 281, .int 239 0, .int 0 0, .ref 338, .int 253 0, .int 0 0, .ref 359, .int 255 0, .int 0 0, .ref 366, .int 257 0, .int 0 0, .ref 373]) #[])
noncomputable def o393 (_ : Params) : Obj := (Obj.mk (Value.type "builtin_function_or_method") none (Data.fields #[.builtin "type.__prepare__", .type "type"]) #[])
noncomputable def o394 (P : Params) : Obj := (Obj.mk (Value.type "dict") none (Data.dict #[(ze P "__module__" 735 (zv "quic.longheads" 713)), (ze P "__qualname__" 737 (zv "RawPacket" 736)), (ze P "__firstlineno__" 739 (.int 239 738)), (ze P "__init__" 750 (.ref 346)), (ze P "__static_attributes__" 762 (.ref 347))] 5) #[])
noncomputable def o396 (_ : Params) : Obj := (Obj.mk .none none (Data.fields #[.int 241 0, .int 4 0, .ref 345]) #[])
noncomputable def o397 (_ : Params) : Obj := (Obj.mk (Value.type "code") none (Data.fields #[(zv "RawPacket" 730), (zv "RawPacket" 731), (zv "/claim/cut.py" 732), .int 239 0, .int 0 0, .int 0 0, .int 0 0, .int 0 0, .ref 336, .bool false, .int 181 0, .ref 337, Value.none, Value.none, Value.none, Value.none, .int 733 0, .int 239 0, (zv "/claim/cut.py" 734)]) #[])
noncomputable def o398 (_ : Params) : Obj := (Obj.mk (Value.type "frame") none Data.plain #[(some (Value.ref 338)), (some (Value.ref 3)), (some (Value.ref 335)), none, (some (zv "quic.longheads" 713)), none, (some (Value.ref 0))])
noncomputable def o400 (_ : Params) : Obj := (Obj.mk .none none (Data.fields #[]) #[])
noncomputable def o403 := zF "__init__" "RawPacket.__init__" 346 346 346
noncomputable def o411 (_ : Params) : Obj := (Obj.mk (Value.type "super") none (Data.fields #[.ref 349, .ref 349, .ref 349]) #[])
noncomputable def o412 (_ : Params) : Obj := (Obj.mk (Value.type "builtin_function_or_method") none (Data.fields #[.builtin "object.__init_subclass__", .ref 349]) #[])
noncomputable def o414 (_ : Params) : Obj := (Obj.mk .none none (Data.fields #[]) #[])
noncomputable def o417 := zF "put_ids" "put_ids" 360 360 360
noncomputable def o421 (_ : Params) : Obj := (Obj.mk .none none (Data.fields #[]) #[])
noncomputable def o424 := zF "long_first" "long_first" 367 367 367
noncomputable def o428 (_ : Params) : Obj := (Obj.mk .none none (Data.fields #[]) #[])
noncomputable def o431 := zF "long_head" "long_head" 374 374 374
noncomputable def zd13 (P : Params) : List DictEntry := [(ze P "__name__" 165 (zv "quic.seal" 924)), (ze P "__doc__" 166 Value.none), (ze P "__package__" 167 Value.none), (ze P "__loader__" 168 (.builtin "__main__.__loader__#opaque")), (ze P "__spec__" 169 Value.none), (ze P "__annotations__" 170 (.ref 6)), (ze P "__builtins__" 171 (.ref 4)), (ze P "__file__" 173 (zv "/claim/cut.py" 172)), (ze P "__cached__" 174 Value.none), (ze P "_wall" 193 (.ref 21)), (ze P "OPEN" 197 (zv "open" 196)), (ze P "CLOSING" 199 (zv "closing" 198)), (ze P "CLOSED" 201 (zv "closed" 200)), (ze P "APPLICATION_ERROR_CODE" 203 (.int 12 202)), (ze P "PERIODS" 205 (.int 3 204)), (ze P "close_frame_in" 213 (.ref 28)), (ze P "Closing" 309 (.ref 101)), (ze P "INTERNAL_ERROR" 313 (.int 1 312)), (ze P "PROTOCOL_VIOLATION" 315 (.int 10 314)), (ze P "QuicError" 348 (.ref 122)), (ze P "Short" 377 (.ref 142)), (ze P "PacketRefused" 406 (.ref 162)), (ze P "PING" 408 (.int 1 407)), (ze P "ACK" 410 (.int 2 409)), (ze P "ACK_ECN" 412 (.int 3 411)), (ze P "RESET_STREAM" 414 (.int 4 413)), (ze P "STOP_SENDING" 416 (.int 5 415)), (ze P "CRYPTO" 418 (.int 6 417)), (ze P "NEW_TOKEN" 420 (.int 7 419)), (ze P "STREAM" 422 (.int 8 421)), (ze P "MAX_DATA" 424 (.int 16 423)), (ze P "MAX_STREAM_DATA" 426 (.int 17 425)), (ze P "MAX_STREAMS_BIDI" 428 (.int 18 427)), (ze P "MAX_STREAMS_UNI" 430 (.int 19 429)), (ze P "DATA_BLOCKED" 432 (.int 20 431)), (ze P "STREAM_DATA_BLOCKED" 434 (.int 21 433)), (ze P "STREAMS_BLOCKED_BIDI" 436 (.int 22 435)), (ze P "STREAMS_BLOCKED_UNI" 438 (.int 23 437)), (ze P "NEW_CONNECTION_ID" 440 (.int 24 439)), (ze P "RETIRE_CONNECTION_ID" 442 (.int 25 441)), (ze P "PATH_CHALLENGE" 444 (.int 26 443)), (ze P "PATH_RESPONSE" 446 (.int 27 445)), (ze P "CLOSE" 448 (.int 28 447)), (ze P "CLOSE_APPLICATION" 450 (.int 29 449)), (ze P "HANDSHAKE_DONE" 452 (.int 30 451)), (ze P "BIT_FIN" 454 (.int 1 453)), (ze P "BIT_LENGTH" 456 (.int 2 455)), (ze P "BIT_OFFSET" 458 (.int 4 457)), (ze P "VARINT_SIZES" 465 (.ref 166)), (ze P "put_whole" 475 (.ref 173)), (ze P "get_whole" 486 (.ref 180)), (ze P "varint_size" 494 (.ref 187)), (ze P "put_varint" 503 (.ref 194)), (ze P "get_varint" 512 (.ref 201)), (ze P "NUMBER_FRAMES" 533 (.ref 202)), (ze P "put_numbers" 539 (.ref 207)), (ze P "put_counted" 546 (.ref 214)), (ze P "ack_numbers" 559 (.ref 221)), (ze P "put_ack" 573 (.ref 228)), (ze P "put_stream" 588 (.ref 235)), (ze P "put_new_cid" 600 (.ref 242)), (ze P "put_close" 611 (.ref 249)), (ze P "put_octets_frame" 619 (.ref 256)), (ze P "put_frame" 628 (.ref 263)), (ze P "put_frames" 634 (.ref 268)), (ze P "frame_size" 641 (.ref 275)), (ze P "Reader" 712 (.ref 327)), (ze P "VERSION_ONE" 716 (.int 1 715)), (ze P "VERSION_NONE" 718 (.int 0 717)), (ze P "MOST_CID" 720 (.int 20 719)), (ze P "RETRY_TAG" 722 (.int 16 721)), (ze P "LONG_KINDS" 727 (.ref 332)), (ze P "RawPacket" 769 (.ref 349)), (ze P "put_ids" 777 (.ref 360)), (ze P "long_first" 785 (.ref 367)), (ze P "long_head" 799 (.ref 374)), (ze P "read_invariants" 812 (.ref 381)), (ze P "read_versions" 822 (.ref 388)), (ze P "read_long" 836 (.ref 395)), (ze P "read_retry" 845 (.ref 402)), (ze P "read_numbered" 856 (.ref 409)), (ze P "read_short" 867 (.ref 416)), (ze P "read_raw" 876 (.ref 423)), (ze P "split_datagram" 887 (.ref 430)), (ze P "MOST_OCTETS" 891 (.int 4 890)), (ze P "number_size" 901 (.ref 437)), (ze P "cut_number" 910 (.ref 444)), (ze P "restore_number" 923 (.ref 451)), (ze P "TAG_SIZE" 927 (.int 16 926))]
noncomputable def o434 (P : Params) : Obj := (Obj.mk (Value.type "dict") none (Data.dict ⟨zd13 P⟩ 89) #[])
noncomputable def o435 (_ : Params) : Obj := (Obj.mk .none none (Data.fields #[.int 1 0, .int 0 0, .ref 20, .int 10 0, .int 0 0, .ref 27, .int 14 0, .int 0 0, .ref 34, .int 63 0, .int 0 0, .ref 111, .int 70 0, .int 0 0, .ref 131, .int 75 0, .int 0 0, .ref 151, .int 108 0, .int 0 0, .ref 172, .int 116 0, .int 0 0, .ref 179, .int 123 0, .int 0 0, .ref 186, .int 128 0, .int 0 0, .ref 193, .int 135 0, .int 0 0, .ref 200, .int 142 0, .int 0 0, .ref 206, .int 144 0, .int 0 0, .ref 213, .int 146 0, .int 0 0, .ref 220, .int 153 0, .int 0 0, .ref 227, .int 158 0, .int 0 0, .ref 234, .int 163 0, .int 0 0, .ref 241, .int 166 0, .int 0 0, .ref 248, .int 171 0, .int 0 0, .ref 255, .int 184 0, .int 0 0, .ref 262, .int 202 0, .int 0 0, .ref 267, .int 204 0, .int 0 0, .ref 274, .int 207 0, .int 0 0, .ref 281, .int 239 0, .int 0 0, .ref 338, .int 253 0, .int 0 0, .ref 359, .int 255 0, .int 0 0, .ref 366, .int 257 0, .int 0 0, .ref 373, .int 262 0, .int 0 0, .ref 380, .int 269 0, .int 0 0, .ref 387, .int 277 0, .int 0 0, .ref 394, .int 294 0, .int 0 0, .ref 401, .int 299 0, .int 0 0, .ref 408, .int 312 0, .int 0 0, .ref 415, .int 320 0, .int 0 0, .ref 422, .int 322 0, .int 0 0, .ref 429, .int 335 0, .int 0 0, .ref 436, .int 341 0, .int 0 0, .ref 443, .int 344 0, .int 0 0, .ref 450]) #[])
noncomputable def o437 (_ : Params) : Obj := (Obj.mk .none none (Data.fields #[]) #[])
noncomputable def o440 := zF "read_invariants" "read_invariants" 381 381 381
noncomputable def o444 (_ : Params) : Obj := (Obj.mk .none none (Data.fields #[]) #[])
noncomputable def o447 := zF "read_versions" "read_versions" 388 388 388
noncomputable def o451 (_ : Params) : Obj := (Obj.mk .none none (Data.fields #[]) #[])
noncomputable def o454 := zF "read_long" "read_long" 395 395 395
noncomputable def o458 (_ : Params) : Obj := (Obj.mk .none none (Data.fields #[]) #[])
noncomputable def o461 := zF "read_retry" "read_retry" 402 402 402
noncomputable def o465 (_ : Params) : Obj := (Obj.mk .none none (Data.fields #[]) #[])
noncomputable def o468 := zF "read_numbered" "read_numbered" 409 409 409
noncomputable def o472 (_ : Params) : Obj := (Obj.mk .none none (Data.fields #[]) #[])
noncomputable def o475 := zF "read_short" "read_short" 416 416 416
noncomputable def o479 (_ : Params) : Obj := (Obj.mk .none none (Data.fields #[]) #[])
noncomputable def o482 := zF "read_raw" "read_raw" 423 423 423
noncomputable def o486 (_ : Params) : Obj := (Obj.mk .none none (Data.fields #[]) #[])
noncomputable def o489 := zF "split_datagram" "split_datagram" 430 430 430
noncomputable def o493 (_ : Params) : Obj := (Obj.mk .none none (Data.fields #[]) #[])
noncomputable def o496 := zF "number_size" "number_size" 437 437 437
noncomputable def o500 (_ : Params) : Obj := (Obj.mk .none none (Data.fields #[]) #[])
noncomputable def o503 := zF "cut_number" "cut_number" 444 444 444
noncomputable def o507 (_ : Params) : Obj := (Obj.mk .none none (Data.fields #[]) #[])
noncomputable def o510 := zF "restore_number" "restore_number" 451 451 451
noncomputable def zd14 (P : Params) : List DictEntry := zd13 P ++ [(ze P "SAMPLE_SIZE" 929 (.int 16 928)), (ze P "MASK_SIZE" 931 (.int 5 930)), (ze P "MODULUS" 937 (.int 170141183460469231731687303715884105727 936)), (ze P "FACTOR" 939 (.int 6364136223846793005 938)), (ze P "mixed_octets" 949 (.ref 458)), (ze P "turned_octets" 961 (.ref 465)), (ze P "tag_of" 972 (.ref 472)), (ze P "seal_payload" 983 (.ref 479)), (ze P "open_sealed" 994 (.ref 486)), (ze P "head_mask" 1002 (.ref 493)), (ze P "turned_first" 1010 (.ref 500)), (ze P "turned_number" 1016 (.ref 505)), (ze P "sample_at" 1025 (.ref 512)), (ze P "padded_payload" 1034 (.ref 519)), (ze P "protected_packet" 1049 (.ref 526))]
noncomputable def o513 (P : Params) : Obj := (Obj.mk (Value.type "dict") none (Data.dict ⟨zd14 P⟩ 104) #[])
noncomputable def o514 (_ : Params) : Obj := (Obj.mk .none none (Data.fields #[.int 1 0, .int 0 0, .ref 20, .int 10 0, .int 0 0, .ref 27, .int 14 0, .int 0 0, .ref 34, .int 63 0, .int 0 0, .ref 111, .int 70 0, .int 0 0, .ref 131, .int 75 0, .int 0 0, .ref 151, .int 108 0, .int 0 0, .ref 172, .int 116 0, .int 0 0, .ref 179, .int 123 0, .int 0 0, .ref 186, .int 128 0, .int 0 0, .ref 193, .int 135 0, .int 0 0, .ref 200, .int 142 0, .int 0 0, .ref 206, .int 144 0, .int 0 0, .ref 213, .int 146 0, .int 0 0, .ref 220, .int 153 0, .int 0 0, .ref 227, .int 158 0, .int 0 0, .ref 234, .int 163 0, .int 0 0, .ref 241, .int 166 0, .int 0 0, .ref 248, .int 171 0, .int 0 0, .ref 255, .int 184 0, .int 0 0, .ref 262, .int 202 0, .int 0 0, .ref 267, .int 204 0, .int 0 0, .ref 274, .int 207 0, .int 0 0, .ref 281, .int 239 0, .int 0 0, .ref 338, .int 253 0, .int 0 0, .ref 359, .int 255 0, .int 0 0, .ref 366, .int 257 0, .int 0 0, .ref 373, .int 262 0, .int 0 0, .ref 380, .int 269 0, .int 0 0, .ref 387, .int 277 0, .int 0 0, .ref 394, .int 294 0, .int 0 0, .ref 401, .int 299 0, .int 0 0, .ref 408, .int 312 0, .int 0 0, .ref 415, .int 320 0, .int 0 0, .ref 422, .int 322 0, .int 0 0, .ref 429, .int 335 0, .int 0 0, .ref 436, .int 341 0, .int 0 0, .ref 443, .int 344 0, .int 0 0, .ref 450, .int 360 0, .int 0 0, .ref 457, .int 365 0, .int 0 0, .ref 464, .int 371 0, .int 0 0, .ref 471, .int 374 0, .int 0 0, .ref 478, .int 377 0, .int 0 0, .ref 485, .int 384 0, .int 0 0, .ref 492, .int 386 0, .int 0 0, .ref 499, .int 388 0, .int 0 0, .ref 504, .int 390 0, .int 0 0, .ref 511, .int 394 0, .int 0 0, .ref 518, .int 397 0, .int 0 0, .ref 525]) #[])
noncomputable def o516 (_ : Params) : Obj := (Obj.mk .none none (Data.fields #[]) #[])
noncomputable def o519 := zF "mixed_octets" "mixed_octets" 458 458 458
noncomputable def o523 (_ : Params) : Obj := (Obj.mk .none none (Data.fields #[]) #[])
noncomputable def o526 := zF "turned_octets" "turned_octets" 465 465 465
noncomputable def o530 (_ : Params) : Obj := (Obj.mk .none none (Data.fields #[]) #[])
noncomputable def o533 := zF "tag_of" "tag_of" 472 472 472
noncomputable def o537 (_ : Params) : Obj := (Obj.mk .none none (Data.fields #[]) #[])
noncomputable def o540 := zF "seal_payload" "seal_payload" 479 479 479
noncomputable def o544 (_ : Params) : Obj := (Obj.mk .none none (Data.fields #[]) #[])
noncomputable def o547 := zF "open_sealed" "open_sealed" 486 486 486
noncomputable def o551 (_ : Params) : Obj := (Obj.mk .none none (Data.fields #[]) #[])
noncomputable def o554 := zF "head_mask" "head_mask" 493 493 493
noncomputable def o558 (_ : Params) : Obj := (Obj.mk .none none (Data.fields #[]) #[])
noncomputable def o561 := zF "turned_first" "turned_first" 500 500 500
noncomputable def o565 (_ : Params) : Obj := (Obj.mk .none none (Data.fields #[]) #[])
noncomputable def o566 := zF "turned_number" "turned_number" 505 505 505
noncomputable def o570 (_ : Params) : Obj := (Obj.mk .none none (Data.fields #[]) #[])
noncomputable def o573 := zF "sample_at" "sample_at" 512 512 512
noncomputable def o577 (_ : Params) : Obj := (Obj.mk .none none (Data.fields #[]) #[])
noncomputable def o580 := zF "padded_payload" "padded_payload" 519 519 519
noncomputable def o584 (_ : Params) : Obj := (Obj.mk .none none (Data.fields #[]) #[])
noncomputable def o587 := zF "protected_packet" "protected_packet" 526 526 526
noncomputable def zd15 (P : Params) : List DictEntry := [(ze P "__name__" 165 (zv "quic.datagrams" 1151)), (ze P "__doc__" 166 Value.none), (ze P "__package__" 167 Value.none), (ze P "__loader__" 168 (.builtin "__main__.__loader__#opaque")), (ze P "__spec__" 169 Value.none), (ze P "__annotations__" 170 (.ref 6)), (ze P "__builtins__" 171 (.ref 4)), (ze P "__file__" 173 (zv "/claim/cut.py" 172)), (ze P "__cached__" 174 Value.none), (ze P "_wall" 193 (.ref 21)), (ze P "OPEN" 197 (zv "open" 196)), (ze P "CLOSING" 199 (zv "closing" 198)), (ze P "CLOSED" 201 (zv "closed" 200)), (ze P "APPLICATION_ERROR_CODE" 203 (.int 12 202)), (ze P "PERIODS" 205 (.int 3 204)), (ze P "close_frame_in" 213 (.ref 28)), (ze P "Closing" 309 (.ref 101)), (ze P "INTERNAL_ERROR" 313 (.int 1 312)), (ze P "PROTOCOL_VIOLATION" 315 (.int 10 314)), (ze P "QuicError" 348 (.ref 122)), (ze P "Short" 377 (.ref 142)), (ze P "PacketRefused" 406 (.ref 162)), (ze P "PING" 408 (.int 1 407)), (ze P "ACK" 410 (.int 2 409)), (ze P "ACK_ECN" 412 (.int 3 411)), (ze P "RESET_STREAM" 414 (.int 4 413)), (ze P "STOP_SENDING" 416 (.int 5 415)), (ze P "CRYPTO" 418 (.int 6 417)), (ze P "NEW_TOKEN" 420 (.int 7 419)), (ze P "STREAM" 422 (.int 8 421)), (ze P "MAX_DATA" 424 (.int 16 423)), (ze P "MAX_STREAM_DATA" 426 (.int 17 425)), (ze P "MAX_STREAMS_BIDI" 428 (.int 18 427)), (ze P "MAX_STREAMS_UNI" 430 (.int 19 429)), (ze P "DATA_BLOCKED" 432 (.int 20 431)), (ze P "STREAM_DATA_BLOCKED" 434 (.int 21 433)), (ze P "STREAMS_BLOCKED_BIDI" 436 (.int 22 435)), (ze P "STREAMS_BLOCKED_UNI" 438 (.int 23 437)), (ze P "NEW_CONNECTION_ID" 440 (.int 24 439)), (ze P "RETIRE_CONNECTION_ID" 442 (.int 25 441)), (ze P "PATH_CHALLENGE" 444 (.int 26 443)), (ze P "PATH_RESPONSE" 446 (.int 27 445)), (ze P "CLOSE" 448 (.int 28 447)), (ze P "CLOSE_APPLICATION" 450 (.int 29 449)), (ze P "HANDSHAKE_DONE" 452 (.int 30 451)), (ze P "BIT_FIN" 454 (.int 1 453)), (ze P "BIT_LENGTH" 456 (.int 2 455)), (ze P "BIT_OFFSET" 458 (.int 4 457)), (ze P "VARINT_SIZES" 465 (.ref 166)), (ze P "put_whole" 475 (.ref 173)), (ze P "get_whole" 486 (.ref 180)), (ze P "varint_size" 494 (.ref 187)), (ze P "put_varint" 503 (.ref 194)), (ze P "get_varint" 512 (.ref 201)), (ze P "NUMBER_FRAMES" 533 (.ref 202)), (ze P "put_numbers" 539 (.ref 207)), (ze P "put_counted" 546 (.ref 214)), (ze P "ack_numbers" 559 (.ref 221)), (ze P "put_ack" 573 (.ref 228)), (ze P "put_stream" 588 (.ref 235)), (ze P "put_new_cid" 600 (.ref 242)), (ze P "put_close" 611 (.ref 249)), (ze P "put_octets_frame" 619 (.ref 256)), (ze P "put_frame" 628 (.ref 263)), (ze P "put_frames" 634 (.ref 268)), (ze P "frame_size" 641 (.ref 275)), (ze P "Reader" 712 (.ref 327)), (ze P "VERSION_ONE" 716 (.int 1 715)), (ze P "VERSION_NONE" 718 (.int 0 717)), (ze P "MOST_CID" 720 (.int 20 719)), (ze P "RETRY_TAG" 722 (.int 16 721)), (ze P "LONG_KINDS" 727 (.ref 332)), (ze P "RawPacket" 769 (.ref 349)), (ze P "put_ids" 777 (.ref 360)), (ze P "long_first" 785 (.ref 367)), (ze P "long_head" 799 (.ref 374)), (ze P "read_invariants" 812 (.ref 381)), (ze P "read_versions" 822 (.ref 388)), (ze P "read_long" 836 (.ref 395)), (ze P "read_retry" 845 (.ref 402)), (ze P "read_numbered" 856 (.ref 409)), (ze P "read_short" 867 (.ref 416)), (ze P "read_raw" 876 (.ref 423)), (ze P "split_datagram" 887 (.ref 430)), (ze P "MOST_OCTETS" 891 (.int 4 890)), (ze P "number_size" 901 (.ref 437)), (ze P "cut_number" 910 (.ref 444)), (ze P "restore_number" 923 (.ref 451)), (ze P "TAG_SIZE" 927 (.int 16 926)), (ze P "SAMPLE_SIZE" 929 (.int 16 928)), (ze P "MASK_SIZE" 931 (.int 5 930)), (ze P "MODULUS" 937 (.int 170141183460469231731687303715884105727 936)), (ze P "FACTOR" 939 (.int 6364136223846793005 938)), (ze P "mixed_octets" 949 (.ref 458)), (ze P "turned_octets" 961 (.ref 465)), (ze P "tag_of" 972 (.ref 472)), (ze P "seal_payload" 983 (.ref 479)), (ze P "open_sealed" 994 (.ref 486)), (ze P "head_mask" 1002 (.ref 493)), (ze P "turned_first" 1010 (.ref 500)), (ze P "turned_number" 1016 (.ref 505)), (ze P "sample_at" 1025 (.ref 512)), (ze P "padded_payload" 1034 (.ref 519)), (ze P "protected_packet" 1049 (.ref 526)), (ze P "bare_head" 1065 (.ref 533)), (ze P "short_head" 1077 (.ref 540)), (ze P "head_of" 1089 (.ref 547)), (ze P "number_in" 1096 (.ref 554)), (ze P "put_packet" 1108 (.ref 561)), (ze P "packet_size" 1118 (.ref 568)), (ze P "reserved_bits" 1125 (.ref 575)), (ze P "open_packet" 1140 (.ref 582)), (ze P "opened" 1150 (.ref 589)), (ze P "PACKET_KINDS" 1162 (.ref 590)), (ze P "LEAST_PAYLOAD" 1164 (.int 4 1163))]
noncomputable def o590 (P : Params) : Obj := (Obj.mk (Value.type "dict") none (Data.dict ⟨zd15 P⟩ 115) #[])
noncomputable def o591 (_ : Params) : Obj := (Obj.mk .none none (Data.fields #[.int 1 0, .int 0 0, .ref 20, .int 10 0, .int 0 0, .ref 27, .int 14 0, .int 0 0, .ref 34, .int 63 0, .int 0 0, .ref 111, .int 70 0, .int 0 0, .ref 131, .int 75 0, .int 0 0, .ref 151, .int 108 0, .int 0 0, .ref 172, .int 116 0, .int 0 0, .ref 179, .int 123 0, .int 0 0, .ref 186, .int 128 0, .int 0 0, .ref 193, .int 135 0, .int 0 0, .ref 200, .int 142 0, .int 0 0, .ref 206, .int 144 0, .int 0 0, .ref 213, .int 146 0, .int 0 0, .ref 220, .int 153 0, .int 0 0, .ref 227, .int 158 0, .int 0 0, .ref 234, .int 163 0, .int 0 0, .ref 241, .int 166 0, .int 0 0, .ref 248, .int 171 0, .int 0 0, .ref 255, .int 184 0, .int 0 0, .ref 262, .int 202 0, .int 0 0, .ref 267, .int 204 0, .int 0 0, .ref 274, .int 207 0, .int 0 0, .ref 281, .int 239 0, .int 0 0, .ref 338, .int 253 0, .int 0 0, .ref 359, .int 255 0, .int 0 0, .ref 366, .int 257 0, .int 0 0, .ref 373, .int 262 0, .int 0 0, .ref 380, .int 269 0, .int 0 0, .ref 387, .int 277 0, .int 0 0, .ref 394, .int 294 0, .int 0 0, .ref 401, .int 299 0, .int 0 0, .ref 408, .int 312 0, .int 0 0, .ref 415, .int 320 0, .int 0 0, .ref 422, .int 322 0, .int 0 0, .ref 429, .int 335 0, .int 0 0, .ref 436, .int 341 0, .int 0 0, .ref 443, .int 344 0, .int 0 0, .ref 450, .int 360 0, .int 0 0, .ref 457, .int 365 0, .int 0 0, .ref 464, .int 371 0, .int 0 0, .ref 471, .int 374 0, .int 0 0, .ref 478, .int 377 0, .int 0 0, .ref 485, .int 384 0, .int 0 0, .ref 492, .int 386 0, .int 0 0, .ref 499, .int 388 0, .int 0 0, .ref 504, .int 390 0, .int 0 0, .ref 511, .int 394 0, .int 0 0, .ref 518, .int 397 0, .int 0 0, .ref 525, .int 403 0, .int 0 0, .ref 532, .int 413 0, .int 0 0, .ref 539, .int 415 0, .int 0 0, .ref 546, .int 422 0, .int 0 0, .ref 553, .int 424 0, .int 0 0, .ref 560, .int 429 0, .int 0 0, .ref 567, .int 433 0, .int 0 0, .ref 574, .int 435 0, .int 0 0, .ref 581, .int 447 0, .int 0 0, .ref 588]) #[])
noncomputable def o593 (_ : Params) : Obj := (Obj.mk .none none (Data.fields #[]) #[])
noncomputable def o596 := zF "bare_head" "bare_head" 533 533 533
noncomputable def o600 (_ : Params) : Obj := (Obj.mk .none none (Data.fields #[]) #[])
noncomputable def o603 := zF "short_head" "short_head" 540 540 540
noncomputable def o607 (_ : Params) : Obj := (Obj.mk .none none (Data.fields #[]) #[])
noncomputable def o610 := zF "head_of" "head_of" 547 547 547
noncomputable def o614 (_ : Params) : Obj := (Obj.mk .none none (Data.fields #[]) #[])
noncomputable def o617 := zF "number_in" "number_in" 554 554 554
noncomputable def o621 (_ : Params) : Obj := (Obj.mk .none none (Data.fields #[]) #[])
noncomputable def o624 := zF "put_packet" "put_packet" 561 561 561
noncomputable def o628 (_ : Params) : Obj := (Obj.mk .none none (Data.fields #[]) #[])
noncomputable def o631 := zF "packet_size" "packet_size" 568 568 568
noncomputable def o635 (_ : Params) : Obj := (Obj.mk .none none (Data.fields #[]) #[])
noncomputable def o638 := zF "reserved_bits" "reserved_bits" 575 575 575
noncomputable def o642 (_ : Params) : Obj := (Obj.mk .none none (Data.fields #[]) #[])
noncomputable def o645 := zF "open_packet" "open_packet" 582 582 582
noncomputable def o649 (_ : Params) : Obj := (Obj.mk .none none (Data.fields #[]) #[])
noncomputable def o652 := zF "opened" "opened" 589 589 589
noncomputable def o659 (_ : Params) : Obj := (Obj.mk .none none (Data.fields #[.int 1 0, .int 0 0, .ref 20, .int 10 0, .int 0 0, .ref 27, .int 14 0, .int 0 0, .ref 34, .int 63 0, .int 0 0, .ref 111, .int 70 0, .int 0 0, .ref 131, .int 75 0, .int 0 0, .ref 151, .int 108 0, .int 0 0, .ref 172, .int 116 0, .int 0 0, .ref 179, .int 123 0, .int 0 0, .ref 186, .int 128 0, .int 0 0, .ref 193, .int 135 0, .int 0 0, .ref 200, .int 142 0, .int 0 0, .ref 206, .int 144 0, .int 0 0, .ref 213, .int 146 0, .int 0 0, .ref 220, .int 153 0, .int 0 0, .ref 227, .int 158 0, .int 0 0, .ref 234, .int 163 0, .int 0 0, .ref 241, .int 166 0, .int 0 0, .ref 248, .int 171 0, .int 0 0, .ref 255, .int 184 0, .int 0 0, .ref 262, .int 202 0, .int 0 0, .ref 267, .int 204 0, .int 0 0, .ref 274, .int 207 0, .int 0 0, .ref 281, .int 239 0, .int 0 0, .ref 338, .int 253 0, .int 0 0, .ref 359, .int 255 0, .int 0 0, .ref 366, .int 257 0, .int 0 0, .ref 373, .int 262 0, .int 0 0, .ref 380, .int 269 0, .int 0 0, .ref 387, .int 277 0, .int 0 0, .ref 394, .int 294 0, .int 0 0, .ref 401, .int 299 0, .int 0 0, .ref 408, .int 312 0, .int 0 0, .ref 415, .int 320 0, .int 0 0, .ref 422, .int 322 0, .int 0 0, .ref 429, .int 335 0, .int 0 0, .ref 436, .int 341 0, .int 0 0, .ref 443, .int 344 0, .int 0 0, .ref 450, .int 360 0, .int 0 0, .ref 457, .int 365 0, .int 0 0, .ref 464, .int 371 0, .int 0 0, .ref 471, .int 374 0, .int 0 0, .ref 478, .int 377 0, .int 0 0, .ref 485, .int 384 0, .int 0 0, .ref 492, .int 386 0, .int 0 0, .ref 499, .int 388 0, .int 0 0, .ref 504, .int 390 0, .int 0 0, .ref 511, .int 394 0, .int 0 0, .ref 518, .int 397 0, .int 0 0, .ref 525, .int 403 0, .int 0 0, .ref 532, .int 413 0, .int 0 0, .ref 539, .int 415 0, .int 0 0, .ref 546, .int 422 0, .int 0 0, .ref 553, .int 424 0, .int 0 0, .ref 560, .int 429 0, .int 0 0, .ref 567, .int 433 0, .int 0 0, .ref 574, .int 435 0, .int 0 0, .ref 581, .int 447 0, .int 0 0, .ref 588, .int 456 0, .int 0 0, .ref 596, .int 463 0, .int 0 0, .ref 603, .int 466 0, .int 0 0, .ref 610, .int 471 0, .int 0 0, .ref 617, .int 481 0, .int 0 0, .ref 624, .int 487 0, .int 0 0, .ref 631, .int 493 0, .int 0 0, .ref 638, .int 500 0, .int 0 0, .ref 643, .int 514 0, .int 0 0, .ref 648]) #[])
noncomputable def o661 (_ : Params) : Obj := (Obj.mk .none none (Data.fields #[]) #[])
noncomputable def o664 := zF "packet_with" "packet_with" 597 597 597
noncomputable def o668 (_ : Params) : Obj := (Obj.mk .none none (Data.fields #[]) #[])
noncomputable def o671 := zF "head_octets" "head_octets" 604 604 604
noncomputable def o675 (_ : Params) : Obj := (Obj.mk .none none (Data.fields #[]) #[])
noncomputable def o678 := zF "shorter_close" "shorter_close" 611 611 611
noncomputable def o682 (_ : Params) : Obj := (Obj.mk .none none (Data.fields #[]) #[])
noncomputable def o685 := zF "closing_rows" "closing_rows" 618 618 618
noncomputable def o689 (_ : Params) : Obj := (Obj.mk .none none (Data.fields #[]) #[])
noncomputable def o692 := zF "_law_take" "_law_take" 625 625 625
noncomputable def o696 (_ : Params) : Obj := (Obj.mk .none none (Data.fields #[]) #[])
noncomputable def o699 := zF "_law_octets" "_law_octets" 632 632 632
noncomputable def o703 (_ : Params) : Obj := (Obj.mk .none none (Data.fields #[]) #[])
noncomputable def o706 := zF "_law_due" "_law_due" 639 639 639
noncomputable def o710 (_ : Params) : Obj := (Obj.mk .none none (Data.fields #[]) #[])
noncomputable def o711 := zF "_law_is_heard" "_law_is_heard" 644 644 644
noncomputable def o715 (_ : Params) : Obj := (Obj.mk .none none (Data.fields #[]) #[])
noncomputable def o716 := zF "law" "law" 649 649 649
noncomputable def t0 := zn boot_o_1 (zn boot_o_3 (zl boot_o_7) (zl (zz 645))) (zn boot_o_5 (zl boot_o_9) (zl o45))
noncomputable def t1 := zn boot_o_2 (zn boot_o_4 (zl boot_o_8) (zl o44)) (zn boot_o_6 (zl boot_o_10) (zl o46))
noncomputable def tree47 := zn boot_o_0 t0 t1
noncomputable def t2 := zn o49 (zn boot_o_7 (zl (zz 645)) (zl o59)) (zn (zz 645) (zl o55) (zl (zz 27)))
noncomputable def t3 := zn boot_o_1 t2 (zn boot_o_5 (zn boot_o_9 (zl (zz 17)) (zl (zz 645))) (zn o45 (zl (zz 21)) ze0))
noncomputable def t4 := zn boot_o_4 (zn boot_o_8 (zl o52) (zl (zz 24))) (zn o50 (zl (zz 20)) (zl (zz 28)))
noncomputable def t5 := zn boot_o_2 t4 (zn boot_o_6 (zn boot_o_10 (zl (zz 645)) (zl o62)) (zn o46 (zl (zz 645)) ze0))
noncomputable def tree64 := zn boot_o_0 t3 t5
noncomputable def t6 := zn boot_o_7 (zn (zz 645) (zn o69 (zl (zz 63)) (zl (zz 645))) (zn o85 (zl o117) ze0)) (zn o59 (zn (zz 645) (zl (zz 645)) (zl (zz 103))) (zn (zz 55) (zl (zz 87)) ze0))
noncomputable def t7 := zn (zz 645) (zn o55 (zn o73 (zl (zz 645)) (zl (zz 99))) (zn o89 (zl (zz 83)) ze0)) (zn (zz 27) (zn (zz 645) (zl o113) ze0) (zn (zz 59) (zl (zz 91)) ze0))
noncomputable def t8 := zn boot_o_9 (zn (zz 17) (zn o71 (zl o103) (zl (zz 97))) (zn (zz 49) (zl (zz 645)) ze0)) (zn (zz 645) (zn (zz 41) (zl (zz 73)) (zl o143)) (zn (zz 645) (zl o127) ze0))
noncomputable def t9 := zn o45 (zn (zz 21) (zn o75 (zl (zz 69)) (zl (zz 101))) (zn (zz 645) (zl (zz 645)) ze0)) (zn (zz 645) (zn (zz 45) (zl (zz 77)) ze0) (zn o99 (zl o131) ze0))
noncomputable def t10 := zn boot_o_1 (zn o65 t6 t7) (zn boot_o_5 t8 t9)
noncomputable def t11 := zn boot_o_8 (zn o52 (zn (zz 645) (zl (zz 645)) (zl o134)) (zn (zz 48) (zl (zz 80)) ze0)) (zn (zz 24) (zn o78 (zl o110) (zl o142)) (zn (zz 56) (zl (zz 645)) ze0))
noncomputable def t12 := zn o66 (zn (zz 20) (zn (zz 645) (zl o106) (zl (zz 100))) (zn (zz 52) (zl (zz 84)) ze0)) (zn (zz 28) (zn o82 (zl (zz 76)) ze0) (zn (zz 645) (zl (zz 645)) ze0))
noncomputable def t13 := zn boot_o_10 (zn (zz 645) (zn o72 (zl (zz 66)) (zl (zz 98))) (zn (zz 645) (zl o120) ze0)) (zn o62 (zn (zz 42) (zl (zz 645)) ze0) (zn o96 (zl (zz 90)) ze0))
noncomputable def t14 := zn o46 (zn (zz 645) (zn (zz 38) (zl (zz 70)) (zl (zz 102))) (zn o92 (zl o124) ze0)) (zn o68 (zn (zz 645) (zl (zz 645)) ze0) (zn (zz 62) (zl (zz 94)) ze0))
noncomputable def t15 := zn boot_o_2 (zn boot_o_4 t11 t12) (zn boot_o_6 t13 t14)
noncomputable def tree143 := zn boot_o_0 t10 t15
noncomputable def t16 := zn (zz 645) (zn o69 (zl (zz 63)) (zl (zz 645))) (zn o85 (zl o117) (zl o152))
noncomputable def t17 := zn o59 (zn (zz 645) (zl (zz 645)) (zl (zz 103))) (zn (zz 55) (zl (zz 87)) (zl (zz 119)))
noncomputable def t18 := zn o55 (zn o73 (zl (zz 645)) (zl (zz 99))) (zn o89 (zl (zz 83)) (zl (zz 115)))
noncomputable def t19 := zn (zz 27) (zn (zz 645) (zl o113) (zl o148)) (zn (zz 59) (zl (zz 91)) (zl (zz 123)))
noncomputable def t20 := zn o145 (zn boot_o_7 t16 t17) (zn (zz 645) t18 t19)
noncomputable def t21 := zn (zz 17) (zn o71 (zl o103) (zl (zz 97))) (zn (zz 49) (zl (zz 645)) (zl (zz 645)))
noncomputable def t22 := zn (zz 645) (zn (zz 41) (zl (zz 73)) (zl o143)) (zn (zz 645) (zl o127) (zl (zz 121)))
noncomputable def t23 := zn (zz 21) (zn o75 (zl (zz 69)) (zl (zz 101))) (zn (zz 645) (zl (zz 645)) (zl o158))
noncomputable def t24 := zn (zz 645) (zn (zz 45) (zl (zz 77)) (zl (zz 645))) (zn o99 (zl o131) (zl o166))
noncomputable def t25 := zn boot_o_5 (zn boot_o_9 t21 t22) (zn o45 t23 t24)
noncomputable def t26 := zn o52 (zn (zz 645) (zl (zz 645)) (zl o134)) (zn (zz 48) (zl (zz 80)) (zl o153))
noncomputable def t27 := zn (zz 24) (zn o78 (zl o110) (zl o142)) (zn (zz 56) (zl (zz 645)) (zl (zz 120)))
noncomputable def t28 := zn (zz 20) (zn (zz 645) (zl o106) (zl (zz 100))) (zn (zz 52) (zl (zz 84)) (zl (zz 645)))
noncomputable def t29 := zn (zz 28) (zn o82 (zl (zz 76)) (zl o149)) (zn (zz 645) (zl (zz 645)) (zl o165))
noncomputable def t30 := zn boot_o_4 (zn boot_o_8 t26 t27) (zn o146 t28 t29)
noncomputable def t31 := zn (zz 645) (zn o72 (zl (zz 66)) (zl (zz 98))) (zn (zz 645) (zl o120) (zl o155))
noncomputable def t32 := zn o62 (zn (zz 42) (zl (zz 645)) (zl (zz 146))) (zn o96 (zl (zz 90)) (zl (zz 122)))
noncomputable def t33 := zn (zz 645) (zn (zz 38) (zl (zz 70)) (zl (zz 102))) (zn o92 (zl o124) (zl (zz 118)))
noncomputable def t34 := zn o46 t33 (zn o68 (zn (zz 645) (zl (zz 645)) (zl o151)) (zn (zz 62) (zl (zz 94)) ze0))
noncomputable def t35 := zn o144 t30 (zn boot_o_6 (zn boot_o_10 t31 t32) t34)
noncomputable def tree166 := zn boot_o_0 (zn boot_o_1 t20 t25) t35
noncomputable def t36 := zn (zz 645) (zn o69 (zn (zz 63) (zl o171) ze0) (zl (zz 645))) (zn o85 (zn o117 (zl (zz 143)) ze0) (zl o152))
noncomputable def t37 := zn o59 (zn (zz 645) (zn (zz 645) (zl (zz 135)) ze0) (zl (zz 103))) (zn (zz 55) (zl (zz 87)) (zl (zz 119)))
noncomputable def t38 := zn o55 (zn o73 (zn (zz 645) (zl o175) ze0) (zl (zz 99))) (zn o89 (zl (zz 83)) (zl (zz 115)))
noncomputable def t39 := zn (zz 27) (zn (zz 645) (zn o113 (zl (zz 139)) ze0) (zl o148)) (zn (zz 59) (zl (zz 91)) (zl (zz 123)))
noncomputable def t40 := zn o168 (zn boot_o_7 t36 t37) (zn (zz 645) t38 t39)
noncomputable def t41 := zn (zz 17) (zn o71 (zn o103 (zl (zz 645)) ze0) (zl (zz 97))) (zn (zz 49) (zn (zz 645) (zl o189) ze0) (zl (zz 645)))
noncomputable def t42 := zn (zz 645) (zn (zz 41) (zn (zz 73) (zl o181) ze0) (zl o143)) (zn (zz 645) (zl o127) (zl (zz 121)))
noncomputable def t43 := zn (zz 21) (zn o75 (zn (zz 69) (zl (zz 645)) ze0) (zl (zz 101))) (zn (zz 645) (zl (zz 645)) (zl o158))
noncomputable def t44 := zn (zz 645) (zn (zz 45) (zn (zz 77) (zl (zz 141)) ze0) (zl (zz 645))) (zn o99 (zl o131) (zl o166))
noncomputable def t45 := zn boot_o_5 (zn boot_o_9 t41 t42) (zn o45 t43 t44)
noncomputable def t46 := zn o52 (zn (zz 645) (zn (zz 645) (zl o172) ze0) (zl o134)) (zn (zz 48) (zn (zz 80) (zl o188) ze0) (zl o153))
noncomputable def t47 := zn (zz 24) (zn o78 (zn o110 (zl (zz 645)) ze0) (zl o142)) (zn (zz 56) (zl (zz 645)) (zl (zz 120)))
noncomputable def t48 := zn (zz 20) (zn (zz 645) (zn o106 (zl o176) ze0) (zl (zz 100))) (zn (zz 52) (zl (zz 84)) (zl (zz 645)))
noncomputable def t49 := zn (zz 28) (zn o82 (zn (zz 76) (zl (zz 140)) ze0) (zl o149)) (zn (zz 645) (zl (zz 645)) (zl o165))
noncomputable def t50 := zn boot_o_4 (zn boot_o_8 t46 t47) (zn o169 t48 t49)
noncomputable def t51 := zn (zz 645) (zn o72 (zn (zz 66) (zl o174) ze0) (zl (zz 98))) (zn (zz 645) (zl o120) (zl o155))
noncomputable def t52 := zn o62 (zn (zz 42) (zn (zz 645) (zl (zz 138)) ze0) (zl (zz 146))) (zn o96 (zl (zz 90)) (zl (zz 122)))
noncomputable def t53 := zn (zz 645) (zn (zz 38) (zn (zz 70) (zl o178) ze0) (zl (zz 102))) (zn o92 (zl o124) (zl (zz 118)))
noncomputable def t54 := zn o68 (zn (zz 645) (zn (zz 645) (zl (zz 142)) ze0) (zl o151)) (zn (zz 62) (zl (zz 94)) (zl (zz 146)))
noncomputable def t55 := zn boot_o_6 (zn boot_o_10 t51 t52) (zn o46 t53 t54)
noncomputable def t56 := zn boot_o_0 (zn boot_o_1 t40 t45) (zn o167 t50 t55)
noncomputable def tree189 := t56
noncomputable def t57 := zn (zz 645) (zn o69 (zn (zz 63) (zl o171) ze0) (zn (zz 645) (zl (zz 159)) ze0)) (zn o85 (zn o117 (zl (zz 143)) ze0) (zl o152))
noncomputable def t58 := zn o59 (zn (zz 645) (zn (zz 645) (zl (zz 135)) ze0) (zl (zz 103))) (zn (zz 55) (zn (zz 87) (zl o198) ze0) (zl (zz 119)))
noncomputable def t59 := zn o55 (zn o73 (zn (zz 645) (zl o175) ze0) (zn (zz 99) (zl (zz 163)) ze0)) (zn o89 (zn (zz 83) (zl o194) ze0) (zl (zz 115)))
noncomputable def t60 := zn (zz 27) (zn (zz 645) (zn o113 (zl (zz 139)) ze0) (zl o148)) (zn (zz 59) (zn (zz 91) (zl (zz 155)) ze0) (zl (zz 123)))
noncomputable def t61 := zn o191 (zn boot_o_7 t57 t58) (zn (zz 645) t59 t60)
noncomputable def t62 := zn (zz 17) (zn o71 (zn o103 (zl (zz 645)) ze0) (zn (zz 97) (zl (zz 161)) ze0)) (zn (zz 49) (zn (zz 645) (zl o189) ze0) (zl (zz 645)))
noncomputable def t63 := zn (zz 645) (zn (zz 41) (zn (zz 73) (zl o181) ze0) (zl o143)) (zn (zz 645) (zn o127 (zl (zz 645)) ze0) (zl (zz 121)))
noncomputable def t64 := zn (zz 21) (zn o75 (zn (zz 69) (zl (zz 645)) ze0) (zn (zz 101) (zl o212) ze0)) (zn (zz 645) (zn (zz 645) (zl (zz 645)) ze0) (zl o158))
noncomputable def t65 := zn (zz 645) (zn (zz 45) (zn (zz 77) (zl (zz 141)) ze0) (zl (zz 645))) (zn o99 (zn o131 (zl o204) ze0) (zl o166))
noncomputable def t66 := zn boot_o_5 (zn boot_o_9 t62 t63) (zn o45 t64 t65)
noncomputable def t67 := zn o52 (zn (zz 645) (zn (zz 645) (zl o172) ze0) (zn o134 (zl (zz 160)) ze0)) (zn (zz 48) (zn (zz 80) (zl o188) ze0) (zl o153))
noncomputable def t68 := zn (zz 24) (zn o78 (zn o110 (zl (zz 645)) ze0) (zl o142)) (zn (zz 56) (zn (zz 645) (zl o199) ze0) (zl (zz 120)))
noncomputable def t69 := zn (zz 20) (zn (zz 645) (zn o106 (zl o176) ze0) (zn (zz 100) (zl o211) ze0)) (zn (zz 52) (zn (zz 84) (zl o195) ze0) (zl (zz 645)))
noncomputable def t70 := zn (zz 28) (zn o82 (zn (zz 76) (zl (zz 140)) ze0) (zl o149)) (zn (zz 645) (zn (zz 645) (zl (zz 645)) ze0) (zl o165))
noncomputable def t71 := zn boot_o_4 (zn boot_o_8 t67 t68) (zn o192 t69 t70)
noncomputable def t72 := zn (zz 645) (zn o72 (zn (zz 66) (zl o174) ze0) (zn (zz 98) (zl (zz 162)) ze0)) (zn (zz 645) (zn o120 (zl (zz 146)) ze0) (zl o155))
noncomputable def t73 := zn o62 (zn (zz 42) (zn (zz 645) (zl (zz 138)) ze0) (zl (zz 146))) (zn o96 (zn (zz 90) (zl o201) ze0) (zl (zz 122)))
noncomputable def t74 := zn (zz 645) (zn (zz 38) (zn (zz 70) (zl o178) ze0) (zl (zz 102))) (zn o92 (zn o124 (zl o197) ze0) (zl (zz 118)))
noncomputable def t75 := zn o68 (zn (zz 645) (zn (zz 645) (zl (zz 142)) ze0) (zl o151)) (zn (zz 62) (zn (zz 94) (zl (zz 158)) ze0) (zl (zz 146)))
noncomputable def t76 := zn boot_o_6 (zn boot_o_10 t72 t73) (zn o46 t74 t75)
noncomputable def t77 := zn boot_o_0 (zn boot_o_1 t61 t66) (zn (zz 2) t71 t76)
noncomputable def tree212 := t77
noncomputable def t78 := zn (zz 645) (zn o69 (zn (zz 63) (zl o171) (zl (zz 645))) (zn (zz 645) (zl (zz 159)) ze0)) (zn o85 (zn o117 (zl (zz 143)) ze0) (zn o152 (zl o224) ze0))
noncomputable def t79 := zn o59 (zn (zz 645) (zn (zz 645) (zl (zz 135)) (zl o248)) (zn (zz 103) (zl (zz 645)) ze0)) (zn (zz 55) (zn (zz 87) (zl o198) ze0) (zn (zz 119) (zl (zz 183)) ze0))
noncomputable def t80 := zn o55 (zn o73 (zn (zz 645) (zl o175) (zl (zz 645))) (zn (zz 99) (zl (zz 163)) ze0)) (zn o89 (zn (zz 83) (zl o194) ze0) (zn (zz 115) (zl (zz 179)) ze0))
noncomputable def t81 := zn (zz 27) (zn (zz 645) (zn o113 (zl (zz 139)) ze0) (zn o148 (zl o220) ze0)) (zn (zz 59) (zn (zz 91) (zl (zz 155)) ze0) (zn (zz 123) (zl (zz 187)) ze0))
noncomputable def t82 := zn o213 (zn boot_o_7 t78 t79) (zn (zz 645) t80 t81)
noncomputable def t83 := zn (zz 17) (zn o71 (zn o103 (zl (zz 645)) (zl (zz 193))) (zn (zz 97) (zl (zz 161)) ze0)) (zn (zz 49) (zn (zz 645) (zl o189) ze0) (zn (zz 645) (zl (zz 645)) ze0))
noncomputable def t84 := zn (zz 645) (zn (zz 41) (zn (zz 73) (zl o181) (zl (zz 201))) (zn o143 (zl (zz 169)) ze0)) (zn (zz 645) (zn o127 (zl (zz 645)) ze0) (zn (zz 121) (zl o234) ze0))
noncomputable def t85 := zn (zz 21) (zn o75 (zn (zz 69) (zl (zz 645)) (zl (zz 197))) (zn (zz 101) (zl o212) ze0)) (zn (zz 645) (zn (zz 645) (zl (zz 645)) ze0) (zn o158 (zl (zz 645)) ze0))
noncomputable def t86 := zn (zz 645) (zn (zz 45) (zn (zz 77) (zl (zz 141)) ze0) (zn (zz 645) (zl (zz 173)) ze0)) (zn o99 (zn o131 (zl o204) ze0) (zn o166 (zl o238) ze0))
noncomputable def t87 := zn boot_o_5 (zn boot_o_9 t83 t84) (zn o45 t85 t86)
noncomputable def t88 := zn o52 (zn (zz 645) (zn (zz 645) (zl o172) (zl o241)) (zn o134 (zl (zz 160)) ze0)) (zn (zz 48) (zn (zz 80) (zl o188) ze0) (zn o153 (zl (zz 176)) ze0))
noncomputable def t89 := zn (zz 24) (zn o78 (zn o110 (zl (zz 645)) (zl (zz 200))) (zn o142 (zl o217) ze0)) (zn (zz 56) (zn (zz 645) (zl o199) ze0) (zn (zz 120) (zl (zz 645)) ze0))
noncomputable def t90 := zn (zz 20) (zn (zz 645) (zn o106 (zl o176) (zl o245)) (zn (zz 100) (zl o211) ze0)) (zn (zz 52) (zn (zz 84) (zl o195) ze0) (zn (zz 645) (zl (zz 180)) ze0))
noncomputable def t91 := zn (zz 28) (zn o82 (zn (zz 76) (zl (zz 140)) ze0) (zn o149 (zl (zz 172)) ze0)) (zn (zz 645) (zn (zz 645) (zl (zz 645)) ze0) (zn o165 (zl (zz 645)) ze0))
noncomputable def t92 := zn boot_o_4 (zn boot_o_8 t88 t89) (zn o214 t90 t91)
noncomputable def t93 := zn (zz 645) (zn o72 (zn (zz 66) (zl o174) (zl (zz 194))) (zn (zz 98) (zl (zz 162)) ze0)) (zn (zz 645) (zn o120 (zl (zz 146)) ze0) (zn o155 (zl o227) ze0))
noncomputable def t94 := zn o62 (zn (zz 42) (zn (zz 645) (zl (zz 138)) ze0) (zn (zz 146) (zl (zz 645)) ze0)) (zn o96 (zn (zz 90) (zl o201) ze0) (zn (zz 122) (zl (zz 186)) ze0))
noncomputable def t95 := zn (zz 645) (zn (zz 38) (zn (zz 70) (zl o178) (zl (zz 645))) (zn (zz 102) (zl (zz 166)) ze0)) (zn o92 (zn o124 (zl o197) ze0) (zn (zz 118) (zl o231) ze0))
noncomputable def t96 := zn o68 (zn (zz 645) (zn (zz 645) (zl (zz 142)) ze0) (zn o151 (zl (zz 645)) ze0)) (zn (zz 62) (zn (zz 94) (zl (zz 158)) ze0) (zn (zz 146) (zl (zz 190)) ze0))
noncomputable def t97 := zn boot_o_6 (zn boot_o_10 t93 t94) (zn o46 t95 t96)
noncomputable def t98 := zn boot_o_0 (zn boot_o_1 t82 t87) (zn (zz 2) t92 t97)
noncomputable def tree250 := t98
noncomputable def t99 := zn o69 (zn (zz 63) (zl o171) (zl (zz 645))) (zn (zz 645) (zl (zz 159)) (zl o274))
noncomputable def t100 := zn o85 (zn o117 (zl (zz 143)) (zl (zz 207))) (zn o152 (zl o224) (zl (zz 645)))
noncomputable def t101 := zn (zz 645) (zn (zz 645) (zl (zz 135)) (zl o248)) (zn (zz 103) (zl (zz 645)) (zl (zz 231)))
noncomputable def t102 := zn (zz 55) (zn (zz 87) (zl o198) (zl (zz 645))) (zn (zz 119) (zl (zz 183)) (zl o298))
noncomputable def t103 := zn boot_o_7 (zn (zz 645) t99 t100) (zn o59 t101 t102)
noncomputable def t104 := zn o73 (zn (zz 645) (zl o175) (zl (zz 645))) (zn (zz 99) (zl (zz 163)) (zl (zz 227)))
noncomputable def t105 := zn o89 (zn (zz 83) (zl o194) (zl (zz 645))) (zn (zz 115) (zl (zz 179)) (zl (zz 645)))
noncomputable def t106 := zn (zz 645) (zn o113 (zl (zz 139)) (zl (zz 645))) (zn o148 (zl o220) (zl (zz 235)))
noncomputable def t107 := zn (zz 27) t106 (zn (zz 59) (zn (zz 91) (zl (zz 155)) (zl o270)) (zn (zz 123) (zl (zz 187)) ze0))
noncomputable def t108 := zn o251 t103 (zn (zz 645) (zn o55 t104 t105) t107)
noncomputable def t109 := zn o71 (zn o103 (zl (zz 645)) (zl (zz 193))) (zn (zz 97) (zl (zz 161)) (zl (zz 645)))
noncomputable def t110 := zn (zz 49) (zn (zz 645) (zl o189) (zl o260)) (zn (zz 645) (zl (zz 645)) (zl (zz 241)))
noncomputable def t111 := zn (zz 41) (zn (zz 73) (zl o181) (zl (zz 201))) (zn o143 (zl (zz 169)) (zl o284))
noncomputable def t112 := zn (zz 645) (zn o127 (zl (zz 645)) (zl (zz 217))) (zn (zz 121) (zl o234) (zl (zz 249)))
noncomputable def t113 := zn boot_o_9 (zn (zz 17) t109 t110) (zn (zz 645) t111 t112)
noncomputable def t114 := zn o75 (zn (zz 69) (zl (zz 645)) (zl (zz 197))) (zn (zz 101) (zl o212) (zl (zz 645)))
noncomputable def t115 := zn (zz 645) (zn (zz 645) (zl (zz 645)) (zl (zz 213))) (zn o158 (zl (zz 645)) (zl (zz 245)))
noncomputable def t116 := zn (zz 45) (zn (zz 77) (zl (zz 141)) (zl o256)) (zn (zz 645) (zl (zz 173)) (zl o288))
noncomputable def t117 := zn (zz 645) t116 (zn o99 (zn o131 (zl o204) (zl (zz 221))) (zn o166 (zl o238) ze0))
noncomputable def t118 := zn boot_o_5 t113 (zn o45 (zn (zz 21) t114 t115) t117)
noncomputable def t119 := zn (zz 645) (zn (zz 645) (zl o172) (zl o241)) (zn o134 (zl (zz 160)) (zl (zz 224)))
noncomputable def t120 := zn (zz 48) (zn (zz 80) (zl o188) (zl (zz 645))) (zn o153 (zl (zz 176)) (zl o291))
noncomputable def t121 := zn o78 (zn o110 (zl (zz 645)) (zl (zz 200))) (zn o142 (zl o217) (zl (zz 645)))
noncomputable def t122 := zn (zz 56) (zn (zz 645) (zl o199) (zl o267)) (zn (zz 120) (zl (zz 645)) (zl (zz 248)))
noncomputable def t123 := zn boot_o_8 (zn o52 t119 t120) (zn (zz 24) t121 t122)
noncomputable def t124 := zn (zz 645) (zn o106 (zl o176) (zl o245)) (zn (zz 100) (zl o211) (zl (zz 228)))
noncomputable def t125 := zn (zz 52) (zn (zz 84) (zl o195) (zl o263)) (zn (zz 645) (zl (zz 180)) (zl o295))
noncomputable def t126 := zn o82 (zn (zz 76) (zl (zz 140)) (zl o255)) (zn o149 (zl (zz 172)) (zl (zz 645)))
noncomputable def t127 := zn (zz 28) t126 (zn (zz 645) (zn (zz 645) (zl (zz 645)) (zl (zz 220))) (zn o165 (zl (zz 645)) ze0))
noncomputable def t128 := zn boot_o_4 t123 (zn o252 (zn (zz 20) t124 t125) t127)
noncomputable def t129 := zn o72 (zn (zz 66) (zl o174) (zl (zz 194))) (zn (zz 98) (zl (zz 162)) (zl o277))
noncomputable def t130 := zn (zz 645) (zn o120 (zl (zz 146)) (zl (zz 210))) (zn o155 (zl o227) (zl (zz 242)))
noncomputable def t131 := zn (zz 42) (zn (zz 645) (zl (zz 138)) (zl (zz 202))) (zn (zz 146) (zl (zz 645)) (zl (zz 234)))
noncomputable def t132 := zn o62 t131 (zn o96 (zn (zz 90) (zl o201) (zl (zz 645))) (zn (zz 122) (zl (zz 186)) ze0))
noncomputable def t133 := zn (zz 38) (zn (zz 70) (zl o178) (zl (zz 645))) (zn (zz 102) (zl (zz 166)) (zl o281))
noncomputable def t134 := zn o92 (zn o124 (zl o197) (zl (zz 214))) (zn (zz 118) (zl o231) (zl (zz 645)))
noncomputable def t135 := zn (zz 645) (zn (zz 645) (zl (zz 142)) (zl (zz 206))) (zn o151 (zl (zz 645)) (zl (zz 238)))
noncomputable def t136 := zn o68 t135 (zn (zz 62) (zn (zz 94) (zl (zz 158)) (zl (zz 645))) (zn (zz 146) (zl (zz 190)) ze0))
noncomputable def t137 := zn boot_o_6 (zn boot_o_10 (zn (zz 645) t129 t130) t132) (zn o46 (zn (zz 645) t133 t134) t136)
noncomputable def t138 := zn boot_o_0 (zn boot_o_1 t108 t118) (zn (zz 2) t128 t137)
noncomputable def tree300 := t138
noncomputable def t139 := zn o69 (zn (zz 63) (zn o171 (zl (zz 255)) ze0) (zl (zz 645))) (zn (zz 645) (zl (zz 159)) (zl o274))
noncomputable def t140 := zn o85 (zn o117 (zn (zz 143) (zl (zz 271)) ze0) (zl (zz 207))) (zn o152 (zl o224) (zl (zz 645)))
noncomputable def t141 := zn (zz 645) (zn (zz 645) (zn (zz 135) (zl (zz 263)) ze0) (zl o248)) (zn (zz 103) (zl (zz 645)) (zl (zz 231)))
noncomputable def t142 := zn boot_o_7 (zn (zz 645) t139 t140) (zn o59 t141 t102)
noncomputable def t143 := zn o73 (zn (zz 645) (zn o175 (zl (zz 259)) ze0) (zl (zz 645))) (zn (zz 99) (zl (zz 163)) (zl (zz 227)))
noncomputable def t144 := zn o89 (zn (zz 83) (zn o194 (zl (zz 275)) ze0) (zl (zz 645))) (zn (zz 115) (zl (zz 179)) (zl (zz 645)))
noncomputable def t145 := zn (zz 645) (zn o113 (zn (zz 139) (zl (zz 267)) ze0) (zl (zz 645))) (zn o148 (zl o220) (zl (zz 235)))
noncomputable def t146 := zn (zz 59) (zn (zz 91) (zl (zz 155)) (zl o270)) (zn (zz 123) (zl (zz 187)) (zl o306))
noncomputable def t147 := zn (zz 645) (zn o55 t143 t144) (zn (zz 27) t145 t146)
noncomputable def t148 := zn o71 (zn o103 (zn (zz 645) (zl (zz 645)) ze0) (zl (zz 193))) (zn (zz 97) (zl (zz 161)) (zl (zz 645)))
noncomputable def t149 := zn (zz 49) (zn (zz 645) (zn o189 (zl o328) ze0) (zl o260)) (zn (zz 645) (zl (zz 645)) (zl (zz 241)))
noncomputable def t150 := zn (zz 41) (zn (zz 73) (zn o181 (zl o320) ze0) (zl (zz 201))) (zn o143 (zl (zz 169)) (zl o284))
noncomputable def t151 := zn boot_o_9 (zn (zz 17) t148 t149) (zn (zz 645) t150 t112)
noncomputable def t152 := zn o75 (zn (zz 69) (zn (zz 645) (zl o316) ze0) (zl (zz 197))) (zn (zz 101) (zl o212) (zl (zz 645)))
noncomputable def t153 := zn (zz 45) (zn (zz 77) (zn (zz 141) (zl (zz 645)) ze0) (zl o256)) (zn (zz 645) (zl (zz 173)) (zl o288))
noncomputable def t154 := zn o99 (zn o131 (zl o204) (zl (zz 221))) (zn o166 (zl o238) (zl (zz 645)))
noncomputable def t155 := zn o45 (zn (zz 21) t152 t115) (zn (zz 645) t153 t154)
noncomputable def t156 := zn boot_o_1 (zn o303 t142 t147) (zn boot_o_5 t151 t155)
noncomputable def t157 := zn (zz 645) (zn (zz 645) (zn o172 (zl (zz 256)) ze0) (zl o241)) (zn o134 (zl (zz 160)) (zl (zz 224)))
noncomputable def t158 := zn (zz 48) (zn (zz 80) (zn o188 (zl (zz 645)) ze0) (zl (zz 645))) (zn o153 (zl (zz 176)) (zl o291))
noncomputable def t159 := zn o78 (zn o110 (zn (zz 645) (zl (zz 645)) ze0) (zl (zz 200))) (zn o142 (zl o217) (zl (zz 645)))
noncomputable def t160 := zn boot_o_8 (zn o52 t157 t158) (zn (zz 24) t159 t122)
noncomputable def t161 := zn (zz 645) (zn o106 (zn o176 (zl (zz 645)) ze0) (zl o245)) (zn (zz 100) (zl o211) (zl (zz 228)))
noncomputable def t162 := zn o82 (zn (zz 76) (zn (zz 140) (zl (zz 268)) ze0) (zl o255)) (zn o149 (zl (zz 172)) (zl (zz 645)))
noncomputable def t163 := zn (zz 645) (zn (zz 645) (zl (zz 645)) (zl (zz 220))) (zn o165 (zl (zz 645)) (zl (zz 252)))
noncomputable def t164 := zn o304 (zn (zz 20) t161 t125) (zn (zz 28) t162 t163)
noncomputable def t165 := zn o72 (zn (zz 66) (zn o174 (zl o313) ze0) (zl (zz 194))) (zn (zz 98) (zl (zz 162)) (zl o277))
noncomputable def t166 := zn (zz 645) (zn o120 (zn (zz 146) (zl (zz 274)) ze0) (zl (zz 210))) (zn o155 (zl o227) (zl (zz 242)))
noncomputable def t167 := zn (zz 42) (zn (zz 645) (zn (zz 138) (zl o321) ze0) (zl (zz 202))) (zn (zz 146) (zl (zz 645)) (zl (zz 234)))
noncomputable def t168 := zn o96 (zn (zz 90) (zl o201) (zl (zz 645))) (zn (zz 122) (zl (zz 186)) (zl (zz 645)))
noncomputable def t169 := zn boot_o_10 (zn (zz 645) t165 t166) (zn o62 t167 t168)
noncomputable def t170 := zn (zz 38) (zn (zz 70) (zn o178 (zl (zz 262)) ze0) (zl (zz 645))) (zn (zz 102) (zl (zz 166)) (zl o281))
noncomputable def t171 := zn (zz 645) (zn (zz 645) (zn (zz 142) (zl o325) ze0) (zl (zz 206))) (zn o151 (zl (zz 645)) (zl (zz 238)))
noncomputable def t172 := zn (zz 62) (zn (zz 94) (zl (zz 158)) (zl (zz 645))) (zn (zz 146) (zl (zz 190)) (zl o309))
noncomputable def t173 := zn o46 (zn (zz 645) t170 t134) (zn o68 t171 t172)
noncomputable def t174 := zn (zz 2) (zn boot_o_4 t160 t164) (zn boot_o_6 t169 t173)
noncomputable def tree330 := zn boot_o_0 t156 t174
noncomputable def t175 := zn o69 (zn (zz 63) (zn o171 (zl (zz 255)) ze0) (zn (zz 645) (zl o376) ze0)) (zn (zz 645) (zn (zz 159) (zl o344) ze0) (zl o274))
noncomputable def t176 := zn o85 (zn o117 (zn (zz 143) (zl (zz 271)) ze0) (zl (zz 207))) (zn o152 (zn o224 (zl (zz 303)) ze0) (zl (zz 645)))
noncomputable def t177 := zn (zz 645) (zn (zz 645) (zn (zz 135) (zl (zz 263)) ze0) (zn o248 (zl (zz 327)) ze0)) (zn (zz 103) (zn (zz 645) (zl (zz 295)) ze0) (zl (zz 231)))
noncomputable def t178 := zn (zz 55) (zn (zz 87) (zn o198 (zl (zz 645)) ze0) (zl (zz 645))) (zn (zz 119) (zn (zz 183) (zl (zz 645)) ze0) (zl o298))
noncomputable def t179 := zn boot_o_7 (zn (zz 645) t175 t176) (zn o59 t177 t178)
noncomputable def t180 := zn o73 (zn (zz 645) (zn o175 (zl (zz 259)) ze0) (zn (zz 645) (zl (zz 323)) ze0)) (zn (zz 99) (zn (zz 163) (zl o348) ze0) (zl (zz 227)))
noncomputable def t181 := zn o89 (zn (zz 83) (zn o194 (zl (zz 275)) ze0) (zl (zz 645))) (zn (zz 115) (zn (zz 179) (zl (zz 645)) ze0) (zl (zz 645)))
noncomputable def t182 := zn (zz 645) (zn o113 (zn (zz 139) (zl (zz 267)) ze0) (zn (zz 645) (zl o388) ze0)) (zn o148 (zn o220 (zl (zz 299)) ze0) (zl (zz 235)))
noncomputable def t183 := zn (zz 59) (zn (zz 91) (zn (zz 155) (zl (zz 645)) ze0) (zl o270)) (zn (zz 123) (zn (zz 187) (zl o372) ze0) (zl o306))
noncomputable def t184 := zn (zz 645) (zn o55 t180 t181) (zn (zz 27) t182 t183)
noncomputable def t185 := zn o71 (zn o103 (zn (zz 645) (zl (zz 645)) ze0) (zn (zz 193) (zl (zz 645)) ze0)) (zn (zz 97) (zn (zz 161) (zl (zz 289)) ze0) (zl (zz 645)))
noncomputable def t186 := zn (zz 49) (zn (zz 645) (zn o189 (zl o328) ze0) (zl o260)) (zn (zz 645) (zn (zz 645) (zl o362) ze0) (zl (zz 241)))
noncomputable def t187 := zn (zz 41) (zn (zz 73) (zn o181 (zl o320) ze0) (zn (zz 201) (zl (zz 329)) ze0)) (zn o143 (zn (zz 169) (zl (zz 645)) ze0) (zl o284))
noncomputable def t188 := zn (zz 645) (zn o127 (zn (zz 645) (zl o338) ze0) (zl (zz 217))) (zn (zz 121) (zn o234 (zl (zz 313)) ze0) (zl (zz 249)))
noncomputable def t189 := zn boot_o_9 (zn (zz 17) t185 t186) (zn (zz 645) t187 t188)
noncomputable def t190 := zn o75 (zn (zz 69) (zn (zz 645) (zl o316) ze0) (zn (zz 197) (zl (zz 325)) ze0)) (zn (zz 101) (zn o212 (zl (zz 645)) ze0) (zl (zz 645)))
noncomputable def t191 := zn (zz 645) (zn (zz 645) (zn (zz 645) (zl o334) ze0) (zl (zz 213))) (zn o158 (zn (zz 645) (zl (zz 309)) ze0) (zl (zz 245)))
noncomputable def t192 := zn (zz 45) (zn (zz 77) (zn (zz 141) (zl (zz 645)) ze0) (zl o256)) (zn (zz 645) (zn (zz 173) (zl o358) ze0) (zl o288))
noncomputable def t193 := zn o99 (zn o131 (zn o204 (zl (zz 285)) ze0) (zl (zz 221))) (zn o166 (zn o238 (zl (zz 317)) ze0) (zl (zz 645)))
noncomputable def t194 := zn o45 (zn (zz 21) t190 t191) (zn (zz 645) t192 t193)
noncomputable def t195 := zn boot_o_1 (zn o331 t179 t184) (zn boot_o_5 t189 t194)
noncomputable def t196 := zn (zz 645) (zn (zz 645) (zn o172 (zl (zz 256)) ze0) (zn o241 (zl (zz 320)) ze0)) (zn o134 (zn (zz 160) (zl (zz 288)) ze0) (zl (zz 224)))
noncomputable def t197 := zn (zz 48) (zn (zz 80) (zn o188 (zl (zz 645)) ze0) (zl (zz 645))) (zn o153 (zn (zz 176) (zl (zz 645)) ze0) (zl o291))
noncomputable def t198 := zn o78 (zn o110 (zn (zz 645) (zl (zz 645)) ze0) (zn (zz 200) (zl (zz 328)) ze0)) (zn o142 (zn o217 (zl (zz 296)) ze0) (zl (zz 645)))
noncomputable def t199 := zn (zz 56) (zn (zz 645) (zn o199 (zl o337) ze0) (zl o267)) (zn (zz 120) (zn (zz 645) (zl o369) ze0) (zl (zz 248)))
noncomputable def t200 := zn boot_o_8 (zn o52 t196 t197) (zn (zz 24) t198 t199)
noncomputable def t201 := zn (zz 645) (zn o106 (zn o176 (zl (zz 645)) ze0) (zn o245 (zl (zz 324)) ze0)) (zn (zz 100) (zn o211 (zl (zz 292)) ze0) (zl (zz 228)))
noncomputable def t202 := zn (zz 52) (zn (zz 84) (zn o195 (zl (zz 645)) ze0) (zl o263)) (zn (zz 645) (zn (zz 180) (zl o365) ze0) (zl o295))
noncomputable def t203 := zn o82 (zn (zz 76) (zn (zz 140) (zl (zz 268)) ze0) (zl o255)) (zn o149 (zn (zz 172) (zl (zz 645)) ze0) (zl (zz 645)))
noncomputable def t204 := zn (zz 645) (zn (zz 645) (zn (zz 645) (zl o341) ze0) (zl (zz 220))) (zn o165 (zn (zz 645) (zl (zz 316)) ze0) (zl (zz 252)))
noncomputable def t205 := zn o332 (zn (zz 20) t201 t202) (zn (zz 28) t203 t204)
noncomputable def t206 := zn o72 (zn (zz 66) (zn o174 (zl o313) ze0) (zn (zz 194) (zl o379) ze0)) (zn (zz 98) (zn (zz 162) (zl (zz 645)) ze0) (zl o277))
noncomputable def t207 := zn (zz 645) (zn o120 (zn (zz 146) (zl (zz 274)) ze0) (zl (zz 210))) (zn o155 (zn o227 (zl (zz 306)) ze0) (zl (zz 242)))
noncomputable def t208 := zn (zz 42) (zn (zz 645) (zn (zz 138) (zl o321) ze0) (zn (zz 202) (zl o387) ze0)) (zn (zz 146) (zn (zz 645) (zl o355) ze0) (zl (zz 234)))
noncomputable def t209 := zn o96 (zn (zz 90) (zn o201 (zl o339) ze0) (zl (zz 645))) (zn (zz 122) (zn (zz 186) (zl (zz 645)) ze0) (zl (zz 645)))
noncomputable def t210 := zn boot_o_10 (zn (zz 645) t206 t207) (zn o62 t208 t209)
noncomputable def t211 := zn (zz 38) (zn (zz 70) (zn o178 (zl (zz 262)) ze0) (zn (zz 645) (zl (zz 326)) ze0)) (zn (zz 102) (zn (zz 166) (zl o351) ze0) (zl o281))
noncomputable def t212 := zn o92 (zn o124 (zn o197 (zl o335) ze0) (zl (zz 214))) (zn (zz 118) (zn o231 (zl (zz 310)) ze0) (zl (zz 645)))
noncomputable def t213 := zn (zz 645) (zn (zz 645) (zn (zz 142) (zl o325) ze0) (zl (zz 206))) (zn o151 (zn (zz 645) (zl (zz 302)) ze0) (zl (zz 238)))
noncomputable def t214 := zn (zz 62) (zn (zz 94) (zn (zz 158) (zl (zz 645)) ze0) (zl (zz 645))) (zn (zz 146) (zn (zz 190) (zl (zz 645)) ze0) (zl o309))
noncomputable def t215 := zn o46 (zn (zz 645) t211 t212) (zn o68 t213 t214)
noncomputable def t216 := zn (zz 2) (zn boot_o_4 t200 t205) (zn boot_o_6 t210 t215)
noncomputable def tree388 := zn boot_o_0 t195 t216
noncomputable def t217 := zn o69 (zn (zz 63) (zn o171 (zl (zz 255)) ze0) (zn (zz 645) (zl o376) ze0)) (zn (zz 645) (zn (zz 159) (zl o344) ze0) (zn o274 (zl (zz 351)) ze0))
noncomputable def t218 := zn o85 (zn o117 (zn (zz 143) (zl (zz 271)) ze0) (zn (zz 207) (zl o394) ze0)) (zn o152 (zn o224 (zl (zz 303)) ze0) (zn (zz 645) (zl (zz 367)) ze0))
noncomputable def t219 := zn (zz 645) (zn (zz 645) (zn (zz 135) (zl (zz 263)) ze0) (zn o248 (zl (zz 327)) ze0)) (zn (zz 103) (zn (zz 645) (zl (zz 295)) ze0) (zn (zz 231) (zl (zz 359)) ze0))
noncomputable def t220 := zn (zz 55) (zn (zz 87) (zn o198 (zl (zz 645)) ze0) (zn (zz 645) (zl (zz 645)) ze0)) (zn (zz 119) (zn (zz 183) (zl (zz 645)) ze0) (zl o298))
noncomputable def t221 := zn boot_o_7 (zn (zz 645) t217 t218) (zn o59 t219 t220)
noncomputable def t222 := zn o73 (zn (zz 645) (zn o175 (zl (zz 259)) ze0) (zn (zz 645) (zl (zz 323)) ze0)) (zn (zz 99) (zn (zz 163) (zl o348) ze0) (zn (zz 227) (zl o414) ze0))
noncomputable def t223 := zn o89 (zn (zz 83) (zn o194 (zl (zz 275)) ze0) (zn (zz 645) (zl o398) ze0)) (zn (zz 115) (zn (zz 179) (zl (zz 645)) ze0) (zn (zz 645) (zl (zz 645)) ze0))
noncomputable def t224 := zn (zz 645) (zn o113 (zn (zz 139) (zl (zz 267)) ze0) (zn (zz 645) (zl o388) ze0)) (zn o148 (zn o220 (zl (zz 299)) ze0) (zn (zz 235) (zl (zz 363)) ze0))
noncomputable def t225 := zn (zz 59) (zn (zz 91) (zn (zz 155) (zl (zz 645)) ze0) (zn o270 (zl (zz 347)) ze0)) (zn (zz 123) (zn (zz 187) (zl o372) ze0) (zl o306))
noncomputable def t226 := zn (zz 645) (zn o55 t222 t223) (zn (zz 27) t224 t225)
noncomputable def t227 := zn o71 (zn o103 (zn (zz 645) (zl (zz 645)) ze0) (zn (zz 193) (zl (zz 645)) ze0)) (zn (zz 97) (zn (zz 161) (zl (zz 289)) ze0) (zn (zz 645) (zl o412) ze0))
noncomputable def t228 := zn (zz 49) (zn (zz 645) (zn o189 (zl o328) ze0) (zn o260 (zl o396) ze0)) (zn (zz 645) (zn (zz 645) (zl o362) ze0) (zn (zz 241) (zl o428) ze0))
noncomputable def t229 := zn (zz 41) (zn (zz 73) (zn o181 (zl o320) ze0) (zn (zz 201) (zl (zz 329)) ze0)) (zn o143 (zn (zz 169) (zl (zz 645)) ze0) (zn o284 (zl (zz 645)) ze0))
noncomputable def t230 := zn (zz 645) (zn o127 (zn (zz 645) (zl o338) ze0) (zn (zz 217) (zl (zz 345)) ze0)) (zn (zz 121) (zn o234 (zl (zz 313)) ze0) (zl (zz 249)))
noncomputable def t231 := zn boot_o_9 (zn (zz 17) t227 t228) (zn (zz 645) t229 t230)
noncomputable def t232 := zn o75 (zn (zz 69) (zn (zz 645) (zl o316) ze0) (zn (zz 197) (zl (zz 325)) ze0)) (zn (zz 101) (zn o212 (zl (zz 645)) ze0) (zn (zz 645) (zl (zz 645)) ze0))
noncomputable def t233 := zn (zz 645) (zn (zz 645) (zn (zz 645) (zl o334) ze0) (zn (zz 213) (zl o400) ze0)) (zn o158 (zn (zz 645) (zl (zz 309)) ze0) (zn (zz 245) (zl (zz 373)) ze0))
noncomputable def t234 := zn (zz 45) (zn (zz 77) (zn (zz 141) (zl (zz 645)) ze0) (zn o256 (zl (zz 645)) ze0)) (zn (zz 645) (zn (zz 173) (zl o358) ze0) (zn o288 (zl o424) ze0))
noncomputable def t235 := zn o99 (zn o131 (zn o204 (zl (zz 285)) ze0) (zn (zz 221) (zl (zz 349)) ze0)) (zn o166 (zn o238 (zl (zz 317)) ze0) (zl (zz 645)))
noncomputable def t236 := zn o45 (zn (zz 21) t232 t233) (zn (zz 645) t234 t235)
noncomputable def t237 := zn boot_o_1 (zn o389 t221 t226) (zn boot_o_5 t231 t236)
noncomputable def t238 := zn (zz 645) (zn (zz 645) (zn o172 (zl (zz 256)) ze0) (zn o241 (zl (zz 320)) ze0)) (zn o134 (zn (zz 160) (zl (zz 288)) ze0) (zn (zz 224) (zl o411) ze0))
noncomputable def t239 := zn (zz 48) (zn (zz 80) (zn o188 (zl (zz 645)) ze0) (zn (zz 645) (zl (zz 645)) ze0)) (zn o153 (zn (zz 176) (zl (zz 645)) ze0) (zn o291 (zl (zz 645)) ze0))
noncomputable def t240 := zn o78 (zn o110 (zn (zz 645) (zl (zz 645)) ze0) (zn (zz 200) (zl (zz 328)) ze0)) (zn o142 (zn o217 (zl (zz 296)) ze0) (zn (zz 645) (zl (zz 360)) ze0))
noncomputable def t241 := zn (zz 56) (zn (zz 645) (zn o199 (zl o337) ze0) (zn o267 (zl o403) ze0)) (zn (zz 120) (zn (zz 645) (zl o369) ze0) (zl (zz 248)))
noncomputable def t242 := zn boot_o_8 (zn o52 t238 t239) (zn (zz 24) t240 t241)
noncomputable def t243 := zn (zz 645) (zn o106 (zn o176 (zl (zz 645)) ze0) (zn o245 (zl (zz 324)) ze0)) (zn (zz 100) (zn o211 (zl (zz 292)) ze0) (zn (zz 228) (zl (zz 356)) ze0))
noncomputable def t244 := zn (zz 52) (zn (zz 84) (zn o195 (zl (zz 645)) ze0) (zn o263 (zl (zz 645)) ze0)) (zn (zz 645) (zn (zz 180) (zl o365) ze0) (zn o295 (zl o431) ze0))
noncomputable def t245 := zn o82 (zn (zz 76) (zn (zz 140) (zl (zz 268)) ze0) (zn o255 (zl (zz 332)) ze0)) (zn o149 (zn (zz 172) (zl (zz 645)) ze0) (zn (zz 645) (zl (zz 645)) ze0))
noncomputable def t246 := zn (zz 645) (zn (zz 645) (zn (zz 645) (zl o341) ze0) (zn (zz 220) (zl (zz 348)) ze0)) (zn o165 (zn (zz 645) (zl (zz 316)) ze0) (zl (zz 252)))
noncomputable def t247 := zn o390 (zn (zz 20) t243 t244) (zn (zz 28) t245 t246)
noncomputable def t248 := zn o72 (zn (zz 66) (zn o174 (zl o313) ze0) (zn (zz 194) (zl o379) ze0)) (zn (zz 98) (zn (zz 162) (zl (zz 645)) ze0) (zn o277 (zl (zz 645)) ze0))
noncomputable def t249 := zn (zz 645) (zn o120 (zn (zz 146) (zl (zz 274)) ze0) (zn (zz 210) (zl o397) ze0)) (zn o155 (zn o227 (zl (zz 306)) ze0) (zn (zz 242) (zl (zz 370)) ze0))
noncomputable def t250 := zn (zz 42) (zn (zz 645) (zn (zz 138) (zl o321) ze0) (zn (zz 202) (zl o387) ze0)) (zn (zz 146) (zn (zz 645) (zl o355) ze0) (zn (zz 234) (zl o421) ze0))
noncomputable def t251 := zn o96 (zn (zz 90) (zn o201 (zl o339) ze0) (zn (zz 645) (zl (zz 346)) ze0)) (zn (zz 122) (zn (zz 186) (zl (zz 645)) ze0) (zl (zz 645)))
noncomputable def t252 := zn boot_o_10 (zn (zz 645) t248 t249) (zn o62 t250 t251)
noncomputable def t253 := zn (zz 38) (zn (zz 70) (zn o178 (zl (zz 262)) ze0) (zn (zz 645) (zl (zz 326)) ze0)) (zn (zz 102) (zn (zz 166) (zl o351) ze0) (zn o281 (zl o417) ze0))
noncomputable def t254 := zn o92 (zn o124 (zn o197 (zl o335) ze0) (zn (zz 214) (zl (zz 342)) ze0)) (zn (zz 118) (zn o231 (zl (zz 310)) ze0) (zn (zz 645) (zl (zz 374)) ze0))
noncomputable def t255 := zn (zz 645) (zn (zz 645) (zn (zz 142) (zl o325) ze0) (zn (zz 206) (zl o393) ze0)) (zn o151 (zn (zz 645) (zl (zz 302)) ze0) (zn (zz 238) (zl (zz 366)) ze0))
noncomputable def t256 := zn (zz 62) (zn (zz 94) (zn (zz 158) (zl (zz 645)) ze0) (zn (zz 645) (zl (zz 350)) ze0)) (zn (zz 146) (zn (zz 190) (zl (zz 645)) ze0) (zl o309))
noncomputable def t257 := zn o46 (zn (zz 645) t253 t254) (zn o68 t255 t256)
noncomputable def t258 := zn (zz 2) (zn boot_o_4 t242 t247) (zn boot_o_6 t252 t257)
noncomputable def tree433 := zn boot_o_0 t237 t258
noncomputable def t259 := zn (zz 63) (zn o171 (zl (zz 255)) (zl o444)) (zn (zz 645) (zl o376) (zl (zz 447)))
noncomputable def t260 := zn o69 t259 (zn (zz 645) (zn (zz 159) (zl o344) (zl (zz 415))) (zn o274 (zl (zz 351)) ze0))
noncomputable def t261 := zn o85 (zn o117 (zn (zz 143) (zl (zz 271)) (zl (zz 645))) (zn (zz 207) (zl o394) ze0)) (zn o152 (zn o224 (zl (zz 303)) (zl (zz 645))) (zn (zz 645) (zl (zz 367)) ze0))
noncomputable def t262 := zn (zz 645) (zn (zz 645) (zn (zz 135) (zl (zz 263)) (zl (zz 391))) (zn o248 (zl (zz 327)) ze0)) (zn (zz 103) (zn (zz 645) (zl (zz 295)) (zl (zz 423))) (zn (zz 231) (zl (zz 359)) ze0))
noncomputable def t263 := zn (zz 55) (zn (zz 87) (zn o198 (zl (zz 645)) (zl o468)) (zn (zz 645) (zl (zz 645)) ze0)) (zn (zz 119) (zn (zz 183) (zl (zz 645)) (zl o500)) (zn o298 (zl (zz 645)) ze0))
noncomputable def t264 := zn boot_o_7 (zn (zz 645) t260 t261) (zn o59 t262 t263)
noncomputable def t265 := zn (zz 645) (zn o175 (zl (zz 259)) (zl (zz 387))) (zn (zz 645) (zl (zz 323)) (zl (zz 451)))
noncomputable def t266 := zn o73 t265 (zn (zz 99) (zn (zz 163) (zl o348) (zl (zz 419))) (zn (zz 227) (zl o414) ze0))
noncomputable def t267 := zn o89 (zn (zz 83) (zn o194 (zl (zz 275)) (zl (zz 645))) (zn (zz 645) (zl o398) ze0)) (zn (zz 115) (zn (zz 179) (zl (zz 645)) (zl o496)) (zn (zz 645) (zl (zz 645)) ze0))
noncomputable def t268 := zn (zz 645) (zn o113 (zn (zz 139) (zl (zz 267)) (zl (zz 395))) (zn (zz 645) (zl o388) ze0)) (zn o148 (zn o220 (zl (zz 299)) (zl (zz 645))) (zn (zz 235) (zl (zz 363)) ze0))
noncomputable def t269 := zn (zz 59) (zn (zz 91) (zn (zz 155) (zl (zz 645)) (zl o472)) (zn o270 (zl (zz 347)) ze0)) (zn (zz 123) (zn (zz 187) (zl o372) (zl (zz 443))) (zn o306 (zl o440) ze0))
noncomputable def t270 := zn (zz 645) (zn o55 t266 t267) (zn (zz 27) t268 t269)
noncomputable def t271 := zn o103 (zn (zz 645) (zl (zz 645)) (zl (zz 645))) (zn (zz 193) (zl (zz 645)) (zl o510))
noncomputable def t272 := zn o71 t271 (zn (zz 97) (zn (zz 161) (zl (zz 289)) (zl (zz 645))) (zn (zz 645) (zl o412) ze0))
noncomputable def t273 := zn (zz 49) (zn (zz 645) (zn o189 (zl o328) (zl (zz 401))) (zn o260 (zl o396) ze0)) (zn (zz 645) (zn (zz 645) (zl o362) (zl (zz 433))) (zn (zz 241) (zl o428) ze0))
noncomputable def t274 := zn (zz 41) (zn (zz 73) (zn o181 (zl o320) (zl o454)) (zn (zz 201) (zl (zz 329)) ze0)) (zn o143 (zn (zz 169) (zl (zz 645)) (zl o486)) (zn o284 (zl (zz 645)) ze0))
noncomputable def t275 := zn (zz 645) (zn o127 (zn (zz 645) (zl o338) (zl (zz 409))) (zn (zz 217) (zl (zz 345)) ze0)) (zn (zz 121) (zn o234 (zl (zz 313)) (zl (zz 645))) (zn (zz 249) (zl (zz 377)) ze0))
noncomputable def t276 := zn boot_o_9 (zn (zz 17) t272 t273) (zn (zz 645) t274 t275)
noncomputable def t277 := zn o75 (zn (zz 69) (zn (zz 645) (zl o316) (zl (zz 645))) (zn (zz 197) (zl (zz 325)) ze0)) (zn (zz 101) (zn o212 (zl (zz 645)) (zl o482)) (zn (zz 645) (zl (zz 645)) ze0))
noncomputable def t278 := zn (zz 645) (zn (zz 645) (zn (zz 645) (zl o334) (zl (zz 405))) (zn (zz 213) (zl o400) ze0)) (zn o158 (zn (zz 645) (zl (zz 309)) (zl (zz 437))) (zn (zz 245) (zl (zz 373)) ze0))
noncomputable def t279 := zn (zz 45) (zn (zz 77) (zn (zz 141) (zl (zz 645)) (zl o458)) (zn o256 (zl (zz 645)) ze0)) (zn (zz 645) (zn (zz 173) (zl o358) (zl (zz 429))) (zn o288 (zl o424) ze0))
noncomputable def t280 := zn o99 (zn o131 (zn o204 (zl (zz 285)) (zl (zz 645))) (zn (zz 221) (zl (zz 349)) ze0)) (zn o166 (zn o238 (zl (zz 317)) (zl (zz 645))) (zn (zz 645) (zl (zz 381)) ze0))
noncomputable def t281 := zn o45 (zn (zz 21) t277 t278) (zn (zz 645) t279 t280)
noncomputable def t282 := zn boot_o_1 (zn o434 t264 t270) (zn boot_o_5 t276 t281)
noncomputable def t283 := zn (zz 645) (zn o172 (zl (zz 256)) (zl (zz 384))) (zn o241 (zl (zz 320)) (zl (zz 645)))
noncomputable def t284 := zn (zz 645) t283 (zn o134 (zn (zz 160) (zl (zz 288)) (zl (zz 416))) (zn (zz 224) (zl o411) ze0))
noncomputable def t285 := zn (zz 48) (zn (zz 80) (zn o188 (zl (zz 645)) (zl o461)) (zn (zz 645) (zl (zz 645)) ze0)) (zn o153 (zn (zz 176) (zl (zz 645)) (zl o493)) (zn o291 (zl (zz 645)) ze0))
noncomputable def t286 := zn o78 (zn o110 (zn (zz 645) (zl (zz 645)) (zl (zz 645))) (zn (zz 200) (zl (zz 328)) ze0)) (zn o142 (zn o217 (zl (zz 296)) (zl (zz 645))) (zn (zz 645) (zl (zz 360)) ze0))
noncomputable def t287 := zn (zz 56) (zn (zz 645) (zn o199 (zl o337) (zl (zz 408))) (zn o267 (zl o403) ze0)) (zn (zz 120) (zn (zz 645) (zl o369) (zl (zz 440))) (zn (zz 248) (zl o437) ze0))
noncomputable def t288 := zn boot_o_8 (zn o52 t284 t285) (zn (zz 24) t286 t287)
noncomputable def t289 := zn (zz 645) (zn o106 (zn o176 (zl (zz 645)) (zl (zz 388))) (zn o245 (zl (zz 324)) ze0)) (zn (zz 100) (zn o211 (zl (zz 292)) (zl (zz 645))) (zn (zz 228) (zl (zz 356)) ze0))
noncomputable def t290 := zn (zz 52) (zn (zz 84) (zn o195 (zl (zz 645)) (zl o465)) (zn o263 (zl (zz 645)) ze0)) (zn (zz 645) (zn (zz 180) (zl o365) (zl (zz 436))) (zn o295 (zl o431) ze0))
noncomputable def t291 := zn o82 (zn (zz 76) (zn (zz 140) (zl (zz 268)) (zl (zz 645))) (zn o255 (zl (zz 332)) ze0)) (zn o149 (zn (zz 172) (zl (zz 645)) (zl o489)) (zn (zz 645) (zl (zz 645)) ze0))
noncomputable def t292 := zn (zz 645) (zn (zz 645) (zn (zz 645) (zl o341) (zl (zz 412))) (zn (zz 220) (zl (zz 348)) ze0)) (zn o165 (zn (zz 645) (zl (zz 316)) (zl (zz 444))) (zn (zz 252) (zl (zz 380)) ze0))
noncomputable def t293 := zn o435 (zn (zz 20) t289 t290) (zn (zz 28) t291 t292)
noncomputable def t294 := zn (zz 66) (zn o174 (zl o313) (zl o447)) (zn (zz 194) (zl o379) (zl (zz 450)))
noncomputable def t295 := zn o72 t294 (zn (zz 98) (zn (zz 162) (zl (zz 645)) (zl o479)) (zn o277 (zl (zz 645)) ze0))
noncomputable def t296 := zn (zz 645) (zn o120 (zn (zz 146) (zl (zz 274)) (zl (zz 402))) (zn (zz 210) (zl o397) ze0)) (zn o155 (zn o227 (zl (zz 306)) (zl (zz 645))) (zn (zz 242) (zl (zz 370)) ze0))
noncomputable def t297 := zn (zz 42) (zn (zz 645) (zn (zz 138) (zl o321) (zl (zz 394))) (zn (zz 202) (zl o387) ze0)) (zn (zz 146) (zn (zz 645) (zl o355) (zl (zz 426))) (zn (zz 234) (zl o421) ze0))
noncomputable def t298 := zn o96 (zn (zz 90) (zn o201 (zl o339) (zl (zz 645))) (zn (zz 645) (zl (zz 346)) ze0)) (zn (zz 122) (zn (zz 186) (zl (zz 645)) (zl o503)) (zn (zz 645) (zl (zz 645)) ze0))
noncomputable def t299 := zn boot_o_10 (zn (zz 645) t295 t296) (zn o62 t297 t298)
noncomputable def t300 := zn (zz 38) (zn (zz 70) (zn o178 (zl (zz 262)) (zl o451)) (zn (zz 645) (zl (zz 326)) ze0)) (zn (zz 102) (zn (zz 166) (zl o351) (zl (zz 422))) (zn o281 (zl o417) ze0))
noncomputable def t301 := zn o92 (zn o124 (zn o197 (zl o335) (zl (zz 645))) (zn (zz 214) (zl (zz 342)) ze0)) (zn (zz 118) (zn o231 (zl (zz 310)) (zl (zz 645))) (zn (zz 645) (zl (zz 374)) ze0))
noncomputable def t302 := zn (zz 645) (zn (zz 645) (zn (zz 142) (zl o325) (zl (zz 398))) (zn (zz 206) (zl o393) ze0)) (zn o151 (zn (zz 645) (zl (zz 302)) (zl (zz 430))) (zn (zz 238) (zl (zz 366)) ze0))
noncomputable def t303 := zn (zz 62) (zn (zz 94) (zn (zz 158) (zl (zz 645)) (zl o475)) (zn (zz 645) (zl (zz 350)) ze0)) (zn (zz 146) (zn (zz 190) (zl (zz 645)) (zl o507)) (zn o309 (zl (zz 645)) ze0))
noncomputable def t304 := zn o46 (zn (zz 645) t300 t301) (zn o68 t302 t303)
noncomputable def t305 := zn (zz 2) (zn boot_o_4 t288 t293) (zn boot_o_6 t299 t304)
noncomputable def tree512 := zn boot_o_0 t282 t305
noncomputable def t306 := zn (zz 63) (zn o171 (zn (zz 255) (zl (zz 511)) ze0) (zl o444)) (zn (zz 645) (zl o376) (zl (zz 447)))
noncomputable def t307 := zn (zz 645) (zn (zz 159) (zl o344) (zl (zz 415))) (zn o274 (zl (zz 351)) (zl (zz 479)))
noncomputable def t308 := zn o117 (zn (zz 143) (zl (zz 271)) (zl (zz 645))) (zn (zz 207) (zl o394) (zl o526))
noncomputable def t309 := zn o152 (zn o224 (zl (zz 303)) (zl (zz 645))) (zn (zz 645) (zl (zz 367)) (zl o558))
noncomputable def t310 := zn (zz 645) (zn o69 t306 t307) (zn o85 t308 t309)
noncomputable def t311 := zn (zz 645) (zn (zz 135) (zn (zz 263) (zl (zz 519)) ze0) (zl (zz 391))) (zn o248 (zl (zz 327)) (zl (zz 645)))
noncomputable def t312 := zn (zz 103) (zn (zz 645) (zl (zz 295)) (zl (zz 423))) (zn (zz 231) (zl (zz 359)) (zl (zz 645)))
noncomputable def t313 := zn (zz 87) (zn o198 (zl (zz 645)) (zl o468)) (zn (zz 645) (zl (zz 645)) (zl (zz 471)))
noncomputable def t314 := zn (zz 119) (zn (zz 183) (zl (zz 645)) (zl o500)) (zn o298 (zl (zz 645)) (zl o566))
noncomputable def t315 := zn o59 (zn (zz 645) t311 t312) (zn (zz 55) t313 t314)
noncomputable def t316 := zn (zz 645) (zn o175 (zn (zz 259) (zl (zz 515)) ze0) (zl (zz 387))) (zn (zz 645) (zl (zz 323)) (zl (zz 451)))
noncomputable def t317 := zn (zz 99) (zn (zz 163) (zl o348) (zl (zz 419))) (zn (zz 227) (zl o414) (zl (zz 645)))
noncomputable def t318 := zn (zz 83) (zn o194 (zl (zz 275)) (zl (zz 645))) (zn (zz 645) (zl o398) (zl o530))
noncomputable def t319 := zn (zz 115) (zn (zz 179) (zl (zz 645)) (zl o496)) (zn (zz 645) (zl (zz 645)) (zl (zz 499)))
noncomputable def t320 := zn o55 (zn o73 t316 t317) (zn o89 t318 t319)
noncomputable def t321 := zn o113 (zn (zz 139) (zn (zz 267) (zl (zz 645)) ze0) (zl (zz 395))) (zn (zz 645) (zl o388) (zl (zz 645)))
noncomputable def t322 := zn o148 (zn o220 (zl (zz 299)) (zl (zz 645))) (zn (zz 235) (zl (zz 363)) (zl o554))
noncomputable def t323 := zn (zz 91) (zn (zz 155) (zl (zz 645)) (zl o472)) (zn o270 (zl (zz 347)) (zl (zz 475)))
noncomputable def t324 := zn (zz 123) (zn (zz 187) (zl o372) (zl (zz 443))) (zn o306 (zl o440) (zl o570))
noncomputable def t325 := zn (zz 27) (zn (zz 645) t321 t322) (zn (zz 59) t323 t324)
noncomputable def t326 := zn o513 (zn boot_o_7 t310 t315) (zn (zz 645) t320 t325)
noncomputable def t327 := zn o103 (zn (zz 645) (zn (zz 645) (zl (zz 645)) ze0) (zl (zz 645))) (zn (zz 193) (zl (zz 645)) (zl o510))
noncomputable def t328 := zn (zz 97) (zn (zz 161) (zl (zz 289)) (zl (zz 645))) (zn (zz 645) (zl o412) (zl o544))
noncomputable def t329 := zn (zz 645) (zn o189 (zl o328) (zl (zz 401))) (zn o260 (zl o396) (zl (zz 465)))
noncomputable def t330 := zn (zz 645) (zn (zz 645) (zl o362) (zl (zz 433))) (zn (zz 241) (zl o428) (zl (zz 645)))
noncomputable def t331 := zn (zz 17) (zn o71 t327 t328) (zn (zz 49) t329 t330)
noncomputable def t332 := zn (zz 73) (zn o181 (zn o320 (zl o584) ze0) (zl o454)) (zn (zz 201) (zl (zz 329)) (zl (zz 457)))
noncomputable def t333 := zn o143 (zn (zz 169) (zl (zz 645)) (zl o486)) (zn o284 (zl (zz 645)) (zl (zz 489)))
noncomputable def t334 := zn o127 (zn (zz 645) (zl o338) (zl (zz 409))) (zn (zz 217) (zl (zz 345)) (zl (zz 645)))
noncomputable def t335 := zn (zz 121) (zn o234 (zl (zz 313)) (zl (zz 645))) (zn (zz 249) (zl (zz 377)) (zl (zz 505)))
noncomputable def t336 := zn (zz 645) (zn (zz 41) t332 t333) (zn (zz 645) t334 t335)
noncomputable def t337 := zn (zz 69) (zn (zz 645) (zn o316 (zl o580) ze0) (zl (zz 645))) (zn (zz 197) (zl (zz 325)) (zl o516))
noncomputable def t338 := zn (zz 101) (zn o212 (zl (zz 645)) (zl o482)) (zn (zz 645) (zl (zz 645)) (zl (zz 485)))
noncomputable def t339 := zn (zz 645) (zn (zz 645) (zl o334) (zl (zz 405))) (zn (zz 213) (zl o400) (zl (zz 645)))
noncomputable def t340 := zn o158 (zn (zz 645) (zl (zz 309)) (zl (zz 437))) (zn (zz 245) (zl (zz 373)) (zl (zz 645)))
noncomputable def t341 := zn (zz 21) (zn o75 t337 t338) (zn (zz 645) t339 t340)
noncomputable def t342 := zn (zz 77) (zn (zz 141) (zn (zz 645) (zl (zz 525)) ze0) (zl o458)) (zn o256 (zl (zz 645)) (zl (zz 461)))
noncomputable def t343 := zn (zz 645) (zn (zz 173) (zl o358) (zl (zz 429))) (zn o288 (zl o424) (zl (zz 493)))
noncomputable def t344 := zn o131 (zn o204 (zl (zz 285)) (zl (zz 645))) (zn (zz 221) (zl (zz 349)) (zl o540))
noncomputable def t345 := zn o166 (zn o238 (zl (zz 317)) (zl (zz 645))) (zn (zz 645) (zl (zz 381)) (zl (zz 645)))
noncomputable def t346 := zn (zz 645) (zn (zz 45) t342 t343) (zn o99 t344 t345)
noncomputable def t347 := zn boot_o_5 (zn boot_o_9 t331 t336) (zn o45 t341 t346)
noncomputable def t348 := zn (zz 645) (zn o172 (zn (zz 256) (zl (zz 512)) ze0) (zl (zz 384))) (zn o241 (zl (zz 320)) (zl (zz 645)))
noncomputable def t349 := zn o134 (zn (zz 160) (zl (zz 288)) (zl (zz 416))) (zn (zz 224) (zl o411) (zl (zz 645)))
noncomputable def t350 := zn (zz 80) (zn o188 (zl (zz 645)) (zl o461)) (zn (zz 645) (zl (zz 645)) (zl (zz 464)))
noncomputable def t351 := zn o153 (zn (zz 176) (zl (zz 645)) (zl o493)) (zn o291 (zl (zz 645)) (zl (zz 496)))
noncomputable def t352 := zn o52 (zn (zz 645) t348 t349) (zn (zz 48) t350 t351)
noncomputable def t353 := zn o110 (zn (zz 645) (zn (zz 645) (zl (zz 645)) ze0) (zl (zz 645))) (zn (zz 200) (zl (zz 328)) (zl o519))
noncomputable def t354 := zn o142 (zn o217 (zl (zz 296)) (zl (zz 645))) (zn (zz 645) (zl (zz 360)) (zl o551))
noncomputable def t355 := zn (zz 645) (zn o199 (zl o337) (zl (zz 408))) (zn o267 (zl o403) (zl (zz 472)))
noncomputable def t356 := zn (zz 120) (zn (zz 645) (zl o369) (zl (zz 440))) (zn (zz 248) (zl o437) (zl (zz 504)))
noncomputable def t357 := zn (zz 24) (zn o78 t353 t354) (zn (zz 56) t355 t356)
noncomputable def t358 := zn o106 (zn o176 (zn (zz 645) (zl (zz 645)) ze0) (zl (zz 388))) (zn o245 (zl (zz 324)) (zl (zz 645)))
noncomputable def t359 := zn (zz 100) (zn o211 (zl (zz 292)) (zl (zz 645))) (zn (zz 228) (zl (zz 356)) (zl o547))
noncomputable def t360 := zn (zz 84) (zn o195 (zl (zz 645)) (zl o465)) (zn o263 (zl (zz 645)) (zl (zz 468)))
noncomputable def t361 := zn (zz 645) (zn (zz 180) (zl o365) (zl (zz 436))) (zn o295 (zl o431) (zl (zz 500)))
noncomputable def t362 := zn (zz 20) (zn (zz 645) t358 t359) (zn (zz 52) t360 t361)
noncomputable def t363 := zn (zz 76) (zn (zz 140) (zn (zz 268) (zl o587) ze0) (zl (zz 645))) (zn o255 (zl (zz 332)) (zl o523))
noncomputable def t364 := zn o149 (zn (zz 172) (zl (zz 645)) (zl o489)) (zn (zz 645) (zl (zz 645)) (zl (zz 492)))
noncomputable def t365 := zn (zz 645) (zn (zz 645) (zl o341) (zl (zz 412))) (zn (zz 220) (zl (zz 348)) (zl (zz 645)))
noncomputable def t366 := zn o165 (zn (zz 645) (zl (zz 316)) (zl (zz 444))) (zn (zz 252) (zl (zz 380)) (zl (zz 508)))
noncomputable def t367 := zn (zz 28) (zn o82 t363 t364) (zn (zz 645) t365 t366)
noncomputable def t368 := zn boot_o_4 (zn boot_o_8 t352 t357) (zn o514 t362 t367)
noncomputable def t369 := zn (zz 66) (zn o174 (zn o313 (zl o577) ze0) (zl o447)) (zn (zz 194) (zl o379) (zl (zz 450)))
noncomputable def t370 := zn (zz 98) (zn (zz 162) (zl (zz 645)) (zl o479)) (zn o277 (zl (zz 645)) (zl (zz 482)))
noncomputable def t371 := zn o120 (zn (zz 146) (zl (zz 274)) (zl (zz 402))) (zn (zz 210) (zl o397) (zl (zz 645)))
noncomputable def t372 := zn o155 (zn o227 (zl (zz 306)) (zl (zz 645))) (zn (zz 242) (zl (zz 370)) (zl o561))
noncomputable def t373 := zn (zz 645) (zn o72 t369 t370) (zn (zz 645) t371 t372)
noncomputable def t374 := zn (zz 645) (zn (zz 138) (zn o321 (zl (zz 522)) ze0) (zl (zz 394))) (zn (zz 202) (zl o387) (zl (zz 458)))
noncomputable def t375 := zn (zz 146) (zn (zz 645) (zl o355) (zl (zz 426))) (zn (zz 234) (zl o421) (zl (zz 645)))
noncomputable def t376 := zn (zz 90) (zn o201 (zl o339) (zl (zz 645))) (zn (zz 645) (zl (zz 346)) (zl o537))
noncomputable def t377 := zn (zz 122) (zn (zz 186) (zl (zz 645)) (zl o503)) (zn (zz 645) (zl (zz 645)) (zl (zz 645)))
noncomputable def t378 := zn o62 (zn (zz 42) t374 t375) (zn o96 t376 t377)
noncomputable def t379 := zn (zz 70) (zn o178 (zn (zz 262) (zl (zz 518)) ze0) (zl o451)) (zn (zz 645) (zl (zz 326)) (zl (zz 454)))
noncomputable def t380 := zn (zz 102) (zn (zz 166) (zl o351) (zl (zz 422))) (zn o281 (zl o417) (zl (zz 486)))
noncomputable def t381 := zn o124 (zn o197 (zl o335) (zl (zz 645))) (zn (zz 214) (zl (zz 342)) (zl o533))
noncomputable def t382 := zn (zz 118) (zn o231 (zl (zz 310)) (zl (zz 645))) (zn (zz 645) (zl (zz 374)) (zl o565))
noncomputable def t383 := zn (zz 645) (zn (zz 38) t379 t380) (zn o92 t381 t382)
noncomputable def t384 := zn (zz 645) (zn (zz 142) (zn o325 (zl (zz 526)) ze0) (zl (zz 398))) (zn (zz 206) (zl o393) (zl (zz 645)))
noncomputable def t385 := zn o151 (zn (zz 645) (zl (zz 302)) (zl (zz 430))) (zn (zz 238) (zl (zz 366)) (zl (zz 645)))
noncomputable def t386 := zn (zz 94) (zn (zz 158) (zl (zz 645)) (zl o475)) (zn (zz 645) (zl (zz 350)) (zl (zz 478)))
noncomputable def t387 := zn (zz 146) (zn (zz 190) (zl (zz 645)) (zl o507)) (zn o309 (zl (zz 645)) (zl o573))
noncomputable def t388 := zn o68 (zn (zz 645) t384 t385) (zn (zz 62) t386 t387)
noncomputable def t389 := zn boot_o_6 (zn boot_o_10 t373 t378) (zn o46 t383 t388)
noncomputable def t390 := zn boot_o_0 (zn boot_o_1 t326 t347) (zn (zz 2) t368 t389)
noncomputable def tree589 := t390
noncomputable def t391 := zn (zz 63) (zn o171 (zn (zz 255) (zl (zz 511)) ze0) (zl o444)) (zn (zz 645) (zn o376 (zl (zz 575)) ze0) (zl (zz 447)))
noncomputable def t392 := zn (zz 645) (zn (zz 159) (zn o344 (zl (zz 543)) ze0) (zl (zz 415))) (zn o274 (zl (zz 351)) (zl (zz 479)))
noncomputable def t393 := zn o117 (zn (zz 143) (zn (zz 271) (zl (zz 645)) ze0) (zl (zz 645))) (zn (zz 207) (zl o394) (zl o526))
noncomputable def t394 := zn o152 (zn o224 (zn (zz 303) (zl o624) ze0) (zl (zz 645))) (zn (zz 645) (zl (zz 367)) (zl o558))
noncomputable def t395 := zn (zz 645) (zn o69 t391 t392) (zn o85 t393 t394)
noncomputable def t396 := zn (zz 645) (zn (zz 135) (zn (zz 263) (zl (zz 519)) ze0) (zl (zz 391))) (zn o248 (zn (zz 327) (zl (zz 645)) ze0) (zl (zz 645)))
noncomputable def t397 := zn (zz 103) (zn (zz 645) (zn (zz 295) (zl (zz 645)) ze0) (zl (zz 423))) (zn (zz 231) (zl (zz 359)) (zl (zz 645)))
noncomputable def t398 := zn (zz 87) (zn o198 (zn (zz 645) (zl o600) ze0) (zl o468)) (zn (zz 645) (zl (zz 645)) (zl (zz 471)))
noncomputable def t399 := zn (zz 119) (zn (zz 183) (zn (zz 645) (zl (zz 567)) ze0) (zl o500)) (zn o298 (zl (zz 645)) (zl o566))
noncomputable def t400 := zn o59 (zn (zz 645) t396 t397) (zn (zz 55) t398 t399)
noncomputable def t401 := zn (zz 645) (zn o175 (zn (zz 259) (zl (zz 515)) ze0) (zl (zz 387))) (zn (zz 645) (zn (zz 323) (zl (zz 645)) ze0) (zl (zz 451)))
noncomputable def t402 := zn (zz 99) (zn (zz 163) (zn o348 (zl (zz 547)) ze0) (zl (zz 419))) (zn (zz 227) (zl o414) (zl (zz 645)))
noncomputable def t403 := zn (zz 83) (zn o194 (zn (zz 275) (zl o596) ze0) (zl (zz 645))) (zn (zz 645) (zl o398) (zl o530))
noncomputable def t404 := zn (zz 115) (zn (zz 179) (zn (zz 645) (zl o628) ze0) (zl o496)) (zn (zz 645) (zl (zz 645)) (zl (zz 499)))
noncomputable def t405 := zn o55 (zn o73 t401 t402) (zn o89 t403 t404)
noncomputable def t406 := zn o113 (zn (zz 139) (zn (zz 267) (zl (zz 645)) ze0) (zl (zz 395))) (zn (zz 645) (zn o388 (zl o652) ze0) (zl (zz 645)))
noncomputable def t407 := zn o148 (zn o220 (zn (zz 299) (zl (zz 645)) ze0) (zl (zz 645))) (zn (zz 235) (zl (zz 363)) (zl o554))
noncomputable def t408 := zn (zz 91) (zn (zz 155) (zn (zz 645) (zl (zz 539)) ze0) (zl o472)) (zn o270 (zl (zz 347)) (zl (zz 475)))
noncomputable def t409 := zn (zz 123) (zn (zz 187) (zn o372 (zl (zz 571)) ze0) (zl (zz 443))) (zn o306 (zl o440) (zl o570))
noncomputable def t410 := zn (zz 27) (zn (zz 645) t406 t407) (zn (zz 59) t408 t409)
noncomputable def t411 := zn o590 (zn boot_o_7 t395 t400) (zn (zz 645) t405 t410)
noncomputable def t412 := zn o103 (zn (zz 645) (zn (zz 645) (zl (zz 645)) ze0) (zl (zz 645))) (zn (zz 193) (zn (zz 645) (zl o642) ze0) (zl o510))
noncomputable def t413 := zn (zz 97) (zn (zz 161) (zn (zz 289) (zl o610) ze0) (zl (zz 645))) (zn (zz 645) (zl o412) (zl o544))
noncomputable def t414 := zn (zz 645) (zn o189 (zn o328 (zl (zz 529)) ze0) (zl (zz 401))) (zn o260 (zl o396) (zl (zz 465)))
noncomputable def t415 := zn (zz 645) (zn (zz 645) (zn o362 (zl (zz 561)) ze0) (zl (zz 433))) (zn (zz 241) (zl o428) (zl (zz 645)))
noncomputable def t416 := zn (zz 17) (zn o71 t412 t413) (zn (zz 49) t414 t415)
noncomputable def t417 := zn (zz 73) (zn o181 (zn o320 (zl o584) ze0) (zl o454)) (zn (zz 201) (zn (zz 329) (zl (zz 585)) ze0) (zl (zz 457)))
noncomputable def t418 := zn o143 (zn (zz 169) (zn (zz 645) (zl (zz 553)) ze0) (zl o486)) (zn o284 (zl (zz 645)) (zl (zz 489)))
noncomputable def t419 := zn o127 (zn (zz 645) (zn o338 (zl (zz 645)) ze0) (zl (zz 409))) (zn (zz 217) (zl (zz 345)) (zl (zz 645)))
noncomputable def t420 := zn (zz 121) (zn o234 (zn (zz 313) (zl (zz 645)) ze0) (zl (zz 645))) (zn (zz 249) (zl (zz 377)) (zl (zz 505)))
noncomputable def t421 := zn (zz 645) (zn (zz 41) t417 t418) (zn (zz 645) t419 t420)
noncomputable def t422 := zn (zz 69) (zn (zz 645) (zn o316 (zl o580) ze0) (zl (zz 645))) (zn (zz 197) (zn (zz 325) (zl (zz 581)) ze0) (zl o516))
noncomputable def t423 := zn (zz 101) (zn o212 (zn (zz 645) (zl o614) ze0) (zl o482)) (zn (zz 645) (zl (zz 645)) (zl (zz 485)))
noncomputable def t424 := zn (zz 645) (zn (zz 645) (zn o334 (zl (zz 533)) ze0) (zl (zz 405))) (zn (zz 213) (zl o400) (zl (zz 645)))
noncomputable def t425 := zn o158 (zn (zz 645) (zn (zz 309) (zl (zz 645)) ze0) (zl (zz 437))) (zn (zz 245) (zl (zz 373)) (zl (zz 645)))
noncomputable def t426 := zn (zz 21) (zn o75 t422 t423) (zn (zz 645) t424 t425)
noncomputable def t427 := zn (zz 77) (zn (zz 141) (zn (zz 645) (zl (zz 525)) ze0) (zl o458)) (zn o256 (zn (zz 645) (zl (zz 589)) ze0) (zl (zz 461)))
noncomputable def t428 := zn (zz 645) (zn (zz 173) (zn o358 (zl (zz 557)) ze0) (zl (zz 429))) (zn o288 (zl o424) (zl (zz 493)))
noncomputable def t429 := zn o131 (zn o204 (zn (zz 285) (zl (zz 645)) ze0) (zl (zz 645))) (zn (zz 221) (zl (zz 349)) (zl o540))
noncomputable def t430 := zn o166 (zn o238 (zn (zz 317) (zl o638) ze0) (zl (zz 645))) (zn (zz 645) (zl (zz 381)) (zl (zz 645)))
noncomputable def t431 := zn (zz 645) (zn (zz 45) t427 t428) (zn o99 t429 t430)
noncomputable def t432 := zn boot_o_5 (zn boot_o_9 t416 t421) (zn o45 t426 t431)
noncomputable def t433 := zn (zz 645) (zn o172 (zn (zz 256) (zl (zz 512)) ze0) (zl (zz 384))) (zn o241 (zn (zz 320) (zl (zz 645)) ze0) (zl (zz 645)))
noncomputable def t434 := zn o134 (zn (zz 160) (zn (zz 288) (zl (zz 645)) ze0) (zl (zz 416))) (zn (zz 224) (zl o411) (zl (zz 645)))
noncomputable def t435 := zn (zz 80) (zn o188 (zn (zz 645) (zl o593) ze0) (zl o461)) (zn (zz 645) (zl (zz 645)) (zl (zz 464)))
noncomputable def t436 := zn o153 (zn (zz 176) (zn (zz 645) (zl (zz 560)) ze0) (zl o493)) (zn o291 (zl (zz 645)) (zl (zz 496)))
noncomputable def t437 := zn o52 (zn (zz 645) t433 t434) (zn (zz 48) t435 t436)
noncomputable def t438 := zn o110 (zn (zz 645) (zn (zz 645) (zl (zz 645)) ze0) (zl (zz 645))) (zn (zz 200) (zn (zz 328) (zl o649) ze0) (zl o519))
noncomputable def t439 := zn o142 (zn o217 (zn (zz 296) (zl o617) ze0) (zl (zz 645))) (zn (zz 645) (zl (zz 360)) (zl o551))
noncomputable def t440 := zn (zz 645) (zn o199 (zn o337 (zl (zz 536)) ze0) (zl (zz 408))) (zn o267 (zl o403) (zl (zz 472)))
noncomputable def t441 := zn (zz 120) (zn (zz 645) (zn o369 (zl (zz 568)) ze0) (zl (zz 440))) (zn (zz 248) (zl o437) (zl (zz 504)))
noncomputable def t442 := zn (zz 24) (zn o78 t438 t439) (zn (zz 56) t440 t441)
noncomputable def t443 := zn o106 (zn o176 (zn (zz 645) (zl (zz 645)) ze0) (zl (zz 388))) (zn o245 (zn (zz 324) (zl o645) ze0) (zl (zz 645)))
noncomputable def t444 := zn (zz 100) (zn o211 (zn (zz 292) (zl (zz 645)) ze0) (zl (zz 645))) (zn (zz 228) (zl (zz 356)) (zl o547))
noncomputable def t445 := zn (zz 84) (zn o195 (zn (zz 645) (zl (zz 532)) ze0) (zl o465)) (zn o263 (zl (zz 645)) (zl (zz 468)))
noncomputable def t446 := zn (zz 645) (zn (zz 180) (zn o365 (zl (zz 564)) ze0) (zl (zz 436))) (zn o295 (zl o431) (zl (zz 500)))
noncomputable def t447 := zn (zz 20) (zn (zz 645) t443 t444) (zn (zz 52) t445 t446)
noncomputable def t448 := zn (zz 76) (zn (zz 140) (zn (zz 268) (zl o587) ze0) (zl (zz 645))) (zn o255 (zn (zz 332) (zl (zz 588)) ze0) (zl o523))
noncomputable def t449 := zn o149 (zn (zz 172) (zn (zz 645) (zl o621) ze0) (zl o489)) (zn (zz 645) (zl (zz 645)) (zl (zz 492)))
noncomputable def t450 := zn (zz 645) (zn (zz 645) (zn o341 (zl (zz 540)) ze0) (zl (zz 412))) (zn (zz 220) (zl (zz 348)) (zl (zz 645)))
noncomputable def t451 := zn o165 (zn (zz 645) (zn (zz 316) (zl (zz 645)) ze0) (zl (zz 444))) (zn (zz 252) (zl (zz 380)) (zl (zz 508)))
noncomputable def t452 := zn (zz 28) (zn o82 t448 t449) (zn (zz 645) t450 t451)
noncomputable def t453 := zn boot_o_4 (zn boot_o_8 t437 t442) (zn o591 t447 t452)
noncomputable def t454 := zn (zz 66) (zn o174 (zn o313 (zl o577) ze0) (zl o447)) (zn (zz 194) (zn o379 (zl (zz 578)) ze0) (zl (zz 450)))
noncomputable def t455 := zn (zz 98) (zn (zz 162) (zn (zz 645) (zl (zz 546)) ze0) (zl o479)) (zn o277 (zl (zz 645)) (zl (zz 482)))
noncomputable def t456 := zn o120 (zn (zz 146) (zn (zz 274) (zl (zz 645)) ze0) (zl (zz 402))) (zn (zz 210) (zl o397) (zl (zz 645)))
noncomputable def t457 := zn o155 (zn o227 (zn (zz 306) (zl (zz 645)) ze0) (zl (zz 645))) (zn (zz 242) (zl (zz 370)) (zl o561))
noncomputable def t458 := zn (zz 645) (zn o72 t454 t455) (zn (zz 645) t456 t457)
noncomputable def t459 := zn (zz 645) (zn (zz 138) (zn o321 (zl (zz 522)) ze0) (zl (zz 394))) (zn (zz 202) (zn o387 (zl (zz 645)) ze0) (zl (zz 458)))
noncomputable def t460 := zn (zz 146) (zn (zz 645) (zn o355 (zl (zz 554)) ze0) (zl (zz 426))) (zn (zz 234) (zl o421) (zl (zz 645)))
noncomputable def t461 := zn (zz 90) (zn o201 (zn o339 (zl o603) ze0) (zl (zz 645))) (zn (zz 645) (zl (zz 346)) (zl o537))
noncomputable def t462 := zn (zz 122) (zn (zz 186) (zn (zz 645) (zl o635) ze0) (zl o503)) (zn (zz 645) (zl (zz 645)) (zl (zz 645)))
noncomputable def t463 := zn o62 (zn (zz 42) t459 t460) (zn o96 t461 t462)
noncomputable def t464 := zn (zz 70) (zn o178 (zn (zz 262) (zl (zz 518)) ze0) (zl o451)) (zn (zz 645) (zn (zz 326) (zl (zz 582)) ze0) (zl (zz 454)))
noncomputable def t465 := zn (zz 102) (zn (zz 166) (zn o351 (zl (zz 550)) ze0) (zl (zz 422))) (zn o281 (zl o417) (zl (zz 486)))
noncomputable def t466 := zn o124 (zn o197 (zn o335 (zl (zz 645)) ze0) (zl (zz 645))) (zn (zz 214) (zl (zz 342)) (zl o533))
noncomputable def t467 := zn (zz 118) (zn o231 (zn (zz 310) (zl o631) ze0) (zl (zz 645))) (zn (zz 645) (zl (zz 374)) (zl o565))
noncomputable def t468 := zn (zz 645) (zn (zz 38) t464 t465) (zn o92 t466 t467)
noncomputable def t469 := zn (zz 645) (zn (zz 142) (zn o325 (zl (zz 526)) ze0) (zl (zz 398))) (zn (zz 206) (zn o393 (zl (zz 590)) ze0) (zl (zz 645)))
noncomputable def t470 := zn o151 (zn (zz 645) (zn (zz 302) (zl (zz 645)) ze0) (zl (zz 430))) (zn (zz 238) (zl (zz 366)) (zl (zz 645)))
noncomputable def t471 := zn (zz 94) (zn (zz 158) (zn (zz 645) (zl o607) ze0) (zl o475)) (zn (zz 645) (zl (zz 350)) (zl (zz 478)))
noncomputable def t472 := zn (zz 146) (zn (zz 190) (zn (zz 645) (zl (zz 574)) ze0) (zl o507)) (zn o309 (zl (zz 645)) (zl o573))
noncomputable def t473 := zn o68 (zn (zz 645) t469 t470) (zn (zz 62) t471 t472)
noncomputable def t474 := zn boot_o_6 (zn boot_o_10 t458 t463) (zn o46 t468 t473)
noncomputable def t475 := zn boot_o_0 (zn boot_o_1 t411 t432) (zn (zz 2) t453 t474)
noncomputable def tree655 := t475
noncomputable def t476 := zn (zz 63) (zn o171 (zn (zz 255) (zl (zz 511)) ze0) (zn o444 (zl (zz 639)) ze0)) (zn (zz 645) (zn o376 (zl (zz 575)) ze0) (zl (zz 447)))
noncomputable def t477 := zn (zz 645) (zn (zz 159) (zn o344 (zl (zz 543)) ze0) (zl (zz 415))) (zn o274 (zn (zz 351) (zl (zz 607)) ze0) (zl (zz 479)))
noncomputable def t478 := zn o117 (zn (zz 143) (zn (zz 271) (zl (zz 645)) ze0) (zl (zz 645))) (zn (zz 207) (zn o394 (zl (zz 645)) ze0) (zl o526))
noncomputable def t479 := zn o152 (zn o224 (zn (zz 303) (zl o624) ze0) (zl (zz 645))) (zn (zz 645) (zn (zz 367) (zl o692) ze0) (zl o558))
noncomputable def t480 := zn (zz 645) (zn o69 t476 t477) (zn o85 t478 t479)
noncomputable def t481 := zn (zz 645) (zn (zz 135) (zn (zz 263) (zl (zz 519)) ze0) (zn (zz 391) (zl o716) ze0)) (zn o248 (zn (zz 327) (zl (zz 645)) ze0) (zl (zz 645)))
noncomputable def t482 := zn (zz 103) (zn (zz 645) (zn (zz 295) (zl (zz 645)) ze0) (zl (zz 423))) (zn (zz 231) (zn (zz 359) (zl (zz 645)) ze0) (zl (zz 645)))
noncomputable def t483 := zn (zz 87) (zn o198 (zn (zz 645) (zl o600) ze0) (zl o468)) (zn (zz 645) (zn (zz 645) (zl o668) ze0) (zl (zz 471)))
noncomputable def t484 := zn (zz 119) (zn (zz 183) (zn (zz 645) (zl (zz 567)) ze0) (zl o500)) (zn o298 (zn (zz 645) (zl (zz 631)) ze0) (zl o566))
noncomputable def t485 := zn o59 (zn (zz 645) t481 t482) (zn (zz 55) t483 t484)
noncomputable def t486 := zn (zz 645) (zn o175 (zn (zz 259) (zl (zz 515)) ze0) (zn (zz 387) (zl (zz 643)) ze0)) (zn (zz 645) (zn (zz 323) (zl (zz 645)) ze0) (zl (zz 451)))
noncomputable def t487 := zn (zz 99) (zn (zz 163) (zn o348 (zl (zz 547)) ze0) (zl (zz 419))) (zn (zz 227) (zn o414 (zl (zz 611)) ze0) (zl (zz 645)))
noncomputable def t488 := zn (zz 83) (zn o194 (zn (zz 275) (zl o596) ze0) (zl (zz 645))) (zn (zz 645) (zn o398 (zl o664) ze0) (zl o530))
noncomputable def t489 := zn (zz 115) (zn (zz 179) (zn (zz 645) (zl o628) ze0) (zl o496)) (zn (zz 645) (zn (zz 645) (zl o696) ze0) (zl (zz 499)))
noncomputable def t490 := zn o55 (zn o73 t486 t487) (zn o89 t488 t489)
noncomputable def t491 := zn o148 (zn o220 (zn (zz 299) (zl (zz 645)) ze0) (zl (zz 645))) (zn (zz 235) (zn (zz 363) (zl (zz 645)) ze0) (zl o554))
noncomputable def t492 := zn (zz 91) (zn (zz 155) (zn (zz 645) (zl (zz 539)) ze0) (zl o472)) (zn o270 (zn (zz 347) (zl (zz 603)) ze0) (zl (zz 475)))
noncomputable def t493 := zn (zz 123) (zn (zz 187) (zn o372 (zl (zz 571)) ze0) (zl (zz 443))) (zn o306 (zn o440 (zl (zz 635)) ze0) (zl o570))
noncomputable def t494 := zn (zz 27) (zn (zz 645) t406 t491) (zn (zz 59) t492 t493)
noncomputable def t495 := zn (zz 3) (zn boot_o_7 t480 t485) (zn (zz 645) t490 t494)
noncomputable def t496 := zn o103 (zn (zz 645) (zn (zz 645) (zl (zz 645)) ze0) (zn (zz 645) (zl o710) ze0)) (zn (zz 193) (zn (zz 645) (zl o642) ze0) (zl o510))
noncomputable def t497 := zn (zz 97) (zn (zz 161) (zn (zz 289) (zl o610) ze0) (zl (zz 645))) (zn (zz 645) (zn o412 (zl o678) ze0) (zl o544))
noncomputable def t498 := zn (zz 645) (zn o189 (zn o328 (zl (zz 529)) ze0) (zl (zz 401))) (zn o260 (zn o396 (zl (zz 593)) ze0) (zl (zz 465)))
noncomputable def t499 := zn (zz 645) (zn (zz 645) (zn o362 (zl (zz 561)) ze0) (zl (zz 433))) (zn (zz 241) (zn o428 (zl (zz 625)) ze0) (zl (zz 645)))
noncomputable def t500 := zn (zz 17) (zn o71 t496 t497) (zn (zz 49) t498 t499)
noncomputable def t501 := zn (zz 73) (zn o181 (zn o320 (zl o584) ze0) (zn o454 (zl (zz 649)) ze0)) (zn (zz 201) (zn (zz 329) (zl (zz 585)) ze0) (zl (zz 457)))
noncomputable def t502 := zn o143 (zn (zz 169) (zn (zz 645) (zl (zz 553)) ze0) (zl o486)) (zn o284 (zn (zz 645) (zl (zz 617)) ze0) (zl (zz 489)))
noncomputable def t503 := zn o127 (zn (zz 645) (zn o338 (zl (zz 645)) ze0) (zl (zz 409))) (zn (zz 217) (zn (zz 345) (zl (zz 645)) ze0) (zl (zz 645)))
noncomputable def t504 := zn (zz 121) (zn o234 (zn (zz 313) (zl (zz 645)) ze0) (zl (zz 645))) (zn (zz 249) (zn (zz 377) (zl (zz 645)) ze0) (zl (zz 505)))
noncomputable def t505 := zn (zz 645) (zn (zz 41) t501 t502) (zn (zz 645) t503 t504)
noncomputable def t506 := zn (zz 69) (zn (zz 645) (zn o316 (zl o580) ze0) (zn (zz 645) (zl (zz 645)) ze0)) (zn (zz 197) (zn (zz 325) (zl (zz 581)) ze0) (zl o516))
noncomputable def t507 := zn (zz 101) (zn o212 (zn (zz 645) (zl o614) ze0) (zl o482)) (zn (zz 645) (zn (zz 645) (zl o682) ze0) (zl (zz 485)))
noncomputable def t508 := zn (zz 645) (zn (zz 645) (zn o334 (zl (zz 533)) ze0) (zl (zz 405))) (zn (zz 213) (zn o400 (zl (zz 597)) ze0) (zl (zz 645)))
noncomputable def t509 := zn o158 (zn (zz 645) (zn (zz 309) (zl (zz 645)) ze0) (zl (zz 437))) (zn (zz 245) (zn (zz 373) (zl (zz 645)) ze0) (zl (zz 645)))
noncomputable def t510 := zn (zz 21) (zn o75 t506 t507) (zn (zz 645) t508 t509)
noncomputable def t511 := zn (zz 645) (zn (zz 173) (zn o358 (zl (zz 557)) ze0) (zl (zz 429))) (zn o288 (zn o424 (zl (zz 621)) ze0) (zl (zz 493)))
noncomputable def t512 := zn o131 (zn o204 (zn (zz 285) (zl (zz 645)) ze0) (zl (zz 645))) (zn (zz 221) (zn (zz 349) (zl (zz 645)) ze0) (zl o540))
noncomputable def t513 := zn o166 (zn o238 (zn (zz 317) (zl o638) ze0) (zl (zz 645))) (zn (zz 645) (zn (zz 381) (zl o706) ze0) (zl (zz 645)))
noncomputable def t514 := zn (zz 645) (zn (zz 45) t427 t511) (zn o99 t512 t513)
noncomputable def t515 := zn boot_o_5 (zn boot_o_9 t500 t505) (zn o45 t510 t514)
noncomputable def t516 := zn (zz 645) (zn o172 (zn (zz 256) (zl (zz 512)) ze0) (zn (zz 384) (zl (zz 645)) ze0)) (zn o241 (zn (zz 320) (zl (zz 645)) ze0) (zl (zz 645)))
noncomputable def t517 := zn o134 (zn (zz 160) (zn (zz 288) (zl (zz 645)) ze0) (zl (zz 416))) (zn (zz 224) (zn o411 (zl (zz 645)) ze0) (zl (zz 645)))
noncomputable def t518 := zn (zz 80) (zn o188 (zn (zz 645) (zl o593) ze0) (zl o461)) (zn (zz 645) (zn (zz 645) (zl o661) ze0) (zl (zz 464)))
noncomputable def t519 := zn o153 (zn (zz 176) (zn (zz 645) (zl (zz 560)) ze0) (zl o493)) (zn o291 (zn (zz 645) (zl (zz 624)) ze0) (zl (zz 496)))
noncomputable def t520 := zn o52 (zn (zz 645) t516 t517) (zn (zz 48) t518 t519)
noncomputable def t521 := zn o110 (zn (zz 645) (zn (zz 645) (zl (zz 645)) ze0) (zn (zz 645) (zl (zz 648)) ze0)) (zn (zz 200) (zn (zz 328) (zl o649) ze0) (zl o519))
noncomputable def t522 := zn o142 (zn o217 (zn (zz 296) (zl o617) ze0) (zl (zz 645))) (zn (zz 645) (zn (zz 360) (zl o685) ze0) (zl o551))
noncomputable def t523 := zn (zz 645) (zn o199 (zn o337 (zl (zz 536)) ze0) (zl (zz 408))) (zn o267 (zn o403 (zl (zz 600)) ze0) (zl (zz 472)))
noncomputable def t524 := zn (zz 120) (zn (zz 645) (zn o369 (zl (zz 568)) ze0) (zl (zz 440))) (zn (zz 248) (zn o437 (zl (zz 632)) ze0) (zl (zz 504)))
noncomputable def t525 := zn (zz 24) (zn o78 t521 t522) (zn (zz 56) t523 t524)
noncomputable def t526 := zn o106 (zn o176 (zn (zz 645) (zl (zz 645)) ze0) (zn (zz 388) (zl (zz 644)) ze0)) (zn o245 (zn (zz 324) (zl o645) ze0) (zl (zz 645)))
noncomputable def t527 := zn (zz 100) (zn o211 (zn (zz 292) (zl (zz 645)) ze0) (zl (zz 645))) (zn (zz 228) (zn (zz 356) (zl (zz 645)) ze0) (zl o547))
noncomputable def t528 := zn (zz 84) (zn o195 (zn (zz 645) (zl (zz 532)) ze0) (zl o465)) (zn o263 (zn (zz 645) (zl (zz 596)) ze0) (zl (zz 468)))
noncomputable def t529 := zn (zz 645) (zn (zz 180) (zn o365 (zl (zz 564)) ze0) (zl (zz 436))) (zn o295 (zn o431 (zl (zz 628)) ze0) (zl (zz 500)))
noncomputable def t530 := zn (zz 20) (zn (zz 645) t526 t527) (zn (zz 52) t528 t529)
noncomputable def t531 := zn o149 (zn (zz 172) (zn (zz 645) (zl o621) ze0) (zl o489)) (zn (zz 645) (zn (zz 645) (zl o689) ze0) (zl (zz 492)))
noncomputable def t532 := zn (zz 645) (zn (zz 645) (zn o341 (zl (zz 540)) ze0) (zl (zz 412))) (zn (zz 220) (zn (zz 348) (zl (zz 604)) ze0) (zl (zz 645)))
noncomputable def t533 := zn o165 (zn (zz 645) (zn (zz 316) (zl (zz 645)) ze0) (zl (zz 444))) (zn (zz 252) (zn (zz 380) (zl (zz 645)) ze0) (zl (zz 508)))
noncomputable def t534 := zn (zz 28) (zn o82 t448 t531) (zn (zz 645) t532 t533)
noncomputable def t535 := zn boot_o_4 (zn boot_o_8 t520 t525) (zn o659 t530 t534)
noncomputable def t536 := zn (zz 66) (zn o174 (zn o313 (zl o577) ze0) (zn o447 (zl o711) ze0)) (zn (zz 194) (zn o379 (zl (zz 578)) ze0) (zl (zz 450)))
noncomputable def t537 := zn (zz 98) (zn (zz 162) (zn (zz 645) (zl (zz 546)) ze0) (zl o479)) (zn o277 (zn (zz 645) (zl (zz 610)) ze0) (zl (zz 482)))
noncomputable def t538 := zn o120 (zn (zz 146) (zn (zz 274) (zl (zz 645)) ze0) (zl (zz 402))) (zn (zz 210) (zn o397 (zl (zz 645)) ze0) (zl (zz 645)))
noncomputable def t539 := zn o155 (zn o227 (zn (zz 306) (zl (zz 645)) ze0) (zl (zz 645))) (zn (zz 242) (zn (zz 370) (zl (zz 645)) ze0) (zl o561))
noncomputable def t540 := zn (zz 645) (zn o72 t536 t537) (zn (zz 645) t538 t539)
noncomputable def t541 := zn (zz 146) (zn (zz 645) (zn o355 (zl (zz 554)) ze0) (zl (zz 426))) (zn (zz 234) (zn o421 (zl (zz 618)) ze0) (zl (zz 645)))
noncomputable def t542 := zn (zz 90) (zn o201 (zn o339 (zl o603) ze0) (zl (zz 645))) (zn (zz 645) (zn (zz 346) (zl o671) ze0) (zl o537))
noncomputable def t543 := zn (zz 122) (zn (zz 186) (zn (zz 645) (zl o635) ze0) (zl o503)) (zn (zz 645) (zn (zz 645) (zl o703) ze0) (zl (zz 645)))
noncomputable def t544 := zn o62 (zn (zz 42) t459 t541) (zn o96 t542 t543)
noncomputable def t545 := zn (zz 70) (zn o178 (zn (zz 262) (zl (zz 518)) ze0) (zn o451 (zl o715) ze0)) (zn (zz 645) (zn (zz 326) (zl (zz 582)) ze0) (zl (zz 454)))
noncomputable def t546 := zn (zz 102) (zn (zz 166) (zn o351 (zl (zz 550)) ze0) (zl (zz 422))) (zn o281 (zn o417 (zl (zz 614)) ze0) (zl (zz 486)))
noncomputable def t547 := zn o124 (zn o197 (zn o335 (zl (zz 645)) ze0) (zl (zz 645))) (zn (zz 214) (zn (zz 342) (zl (zz 645)) ze0) (zl o533))
noncomputable def t548 := zn (zz 118) (zn o231 (zn (zz 310) (zl o631) ze0) (zl (zz 645))) (zn (zz 645) (zn (zz 374) (zl o699) ze0) (zl o565))
noncomputable def t549 := zn (zz 645) (zn (zz 38) t545 t546) (zn o92 t547 t548)
noncomputable def t550 := zn o151 (zn (zz 645) (zn (zz 302) (zl (zz 645)) ze0) (zl (zz 430))) (zn (zz 238) (zn (zz 366) (zl (zz 645)) ze0) (zl (zz 645)))
noncomputable def t551 := zn (zz 94) (zn (zz 158) (zn (zz 645) (zl o607) ze0) (zl o475)) (zn (zz 645) (zn (zz 350) (zl o675) ze0) (zl (zz 478)))
noncomputable def t552 := zn (zz 146) (zn (zz 190) (zn (zz 645) (zl (zz 574)) ze0) (zl o507)) (zn o309 (zn (zz 645) (zl (zz 638)) ze0) (zl o573))
noncomputable def t553 := zn o68 (zn (zz 645) t469 t550) (zn (zz 62) t551 t552)
noncomputable def t554 := zn boot_o_6 (zn boot_o_10 t540 t544) (zn o46 t549 t553)
noncomputable def t555 := zn boot_o_0 (zn boot_o_1 t495 t515) (zn (zz 2) t535 t554)
noncomputable def tree718 := t555
noncomputable def heap46 (P : Params) : Heap := (Heap.mk #[(boot_o_0 P), (boot_o_1 P), (boot_o_2 P), (boot_o_3 P), (boot_o_4 P), (boot_o_5 P), (boot_o_6 P), (boot_o_7 P), (boot_o_8 P), (boot_o_9 P), (boot_o_10 P), (zk P 645), (o44 P), (o45 P), (o46 P)] (Life.mk [] [] [] 0 [] [] false #[] [] 0 false false false 0 [2000, 10, 10] false 0 true [] [] 0 false))
noncomputable def heap719 (P : Params) : Heap := (Heap.mk #[(boot_o_0 P), (boot_o_1 P), (zk P 2), (zk P 3), (boot_o_4 P), (boot_o_5 P), (boot_o_6 P), (boot_o_7 P), (boot_o_8 P), (boot_o_9 P), (boot_o_10 P), (zk P 645), (o659 P), (o45 P), (o46 P), (zk P 645), (o52 P), (zk P 17), (zk P 645), (o55 P), (zk P 20), (zk P 21), (zk P 645), (o59 P), (zk P 24), (zk P 645), (o62 P), (zk P 27), (zk P 28), (zk P 645), (o68 P), (o69 P), (zk P 645), (o71 P), (o72 P), (o73 P), (zk P 645), (o75 P), (zk P 38), (zk P 645), (o78 P), (zk P 41), (zk P 42), (zk P 645), (o82 P), (zk P 45), (zk P 645), (o85 P), (zk P 48), (zk P 49), (zk P 645), (o89 P), (zk P 52), (zk P 645), (o92 P), (zk P 55), (zk P 56), (zk P 645), (o96 P), (zk P 59), (zk P 645), (o99 P), (zk P 62), (zk P 63), (zk P 645), (o103 P), (zk P 66), (zk P 645), (o106 P), (zk P 69), (zk P 70), (zk P 645), (o110 P), (zk P 73), (zk P 645), (o113 P), (zk P 76), (zk P 77), (zk P 645), (o117 P), (zk P 80), (zk P 645), (o120 P), (zk P 83), (zk P 84), (zk P 645), (o124 P), (zk P 87), (zk P 645), (o127 P), (zk P 90), (zk P 91), (zk P 645), (o131 P), (zk P 94), (zk P 645), (o134 P), (zk P 97), (zk P 98), (zk P 99), (zk P 100), (zk P 101), (zk P 102), (zk P 103), (o142 P), (o143 P), (zk P 146), (o148 P), (o149 P), (zk P 645), (o151 P), (o152 P), (o153 P), (zk P 645), (o155 P), (zk P 115), (zk P 645), (o158 P), (zk P 118), (zk P 119), (zk P 120), (zk P 121), (zk P 122), (zk P 123), (o165 P), (o166 P), (zk P 146), (o171 P), (o172 P), (zk P 645), (o174 P), (o175 P), (o176 P), (zk P 645), (o178 P), (zk P 135), (zk P 645), (o181 P), (zk P 138), (zk P 139), (zk P 140), (zk P 141), (zk P 142), (zk P 143), (o188 P), (o189 P), (zk P 146), (o194 P), (o195 P), (zk P 645), (o197 P), (o198 P), (o199 P), (zk P 645), (o201 P), (zk P 155), (zk P 645), (o204 P), (zk P 158), (zk P 159), (zk P 160), (zk P 161), (zk P 162), (zk P 163), (o211 P), (o212 P), (zk P 166), (zk P 645), (o217 P), (zk P 169), (zk P 645), (o220 P), (zk P 172), (zk P 173), (zk P 645), (o224 P), (zk P 176), (zk P 645), (o227 P), (zk P 179), (zk P 180), (zk P 645), (o231 P), (zk P 183), (zk P 645), (o234 P), (zk P 186), (zk P 187), (zk P 645), (o238 P), (zk P 190), (zk P 645), (o241 P), (zk P 193), (zk P 194), (zk P 645), (o245 P), (zk P 197), (zk P 645), (o248 P), (zk P 200), (zk P 201), (zk P 202), (zk P 645), (o255 P), (o256 P), (zk P 206), (zk P 207), (zk P 645), (o260 P), (zk P 210), (zk P 645), (o263 P), (zk P 213), (zk P 214), (zk P 645), (o267 P), (zk P 217), (zk P 645), (o270 P), (zk P 220), (zk P 221), (zk P 645), (o274 P), (zk P 224), (zk P 645), (o277 P), (zk P 227), (zk P 228), (zk P 645), (o281 P), (zk P 231), (zk P 645), (o284 P), (zk P 234), (zk P 235), (zk P 645), (o288 P), (zk P 238), (zk P 645), (o291 P), (zk P 241), (zk P 242), (zk P 645), (o295 P), (zk P 245), (zk P 645), (o298 P), (zk P 248), (zk P 249), (zk P 645), (o306 P), (zk P 252), (zk P 645), (o309 P), (zk P 255), (zk P 256), (zk P 645), (o313 P), (zk P 259), (zk P 645), (o316 P), (zk P 262), (zk P 263), (zk P 645), (o320 P), (o321 P), (zk P 267), (zk P 268), (zk P 645), (o325 P), (zk P 271), (zk P 645), (o328 P), (zk P 274), (zk P 275), (zk P 645), (o334 P), (o335 P), (zk P 645), (o337 P), (o338 P), (o339 P), (zk P 645), (o341 P), (zk P 285), (zk P 645), (o344 P), (zk P 288), (zk P 289), (zk P 645), (o348 P), (zk P 292), (zk P 645), (o351 P), (zk P 295), (zk P 296), (zk P 645), (o355 P), (zk P 299), (zk P 645), (o358 P), (zk P 302), (zk P 303), (zk P 645), (o362 P), (zk P 306), (zk P 645), (o365 P), (zk P 309), (zk P 310), (zk P 645), (o369 P), (zk P 313), (zk P 645), (o372 P), (zk P 316), (zk P 317), (zk P 645), (o376 P), (zk P 320), (zk P 645), (o379 P), (zk P 323), (zk P 324), (zk P 325), (zk P 326), (zk P 327), (zk P 328), (zk P 329), (o387 P), (o388 P), (zk P 332), (zk P 645), (o393 P), (o394 P), (zk P 645), (o396 P), (o397 P), (o398 P), (zk P 645), (o400 P), (zk P 342), (zk P 645), (o403 P), (zk P 345), (zk P 346), (zk P 347), (zk P 348), (zk P 349), (zk P 350), (zk P 351), (o411 P), (o412 P), (zk P 645), (o414 P), (zk P 356), (zk P 645), (o417 P), (zk P 359), (zk P 360), (zk P 645), (o421 P), (zk P 363), (zk P 645), (o424 P), (zk P 366), (zk P 367), (zk P 645), (o428 P), (zk P 370), (zk P 645), (o431 P), (zk P 373), (zk P 374), (zk P 645), (o437 P), (zk P 377), (zk P 645), (o440 P), (zk P 380), (zk P 381), (zk P 645), (o444 P), (zk P 384), (zk P 645), (o447 P), (zk P 387), (zk P 388), (zk P 645), (o451 P), (zk P 391), (zk P 645), (o454 P), (zk P 394), (zk P 395), (zk P 645), (o458 P), (zk P 398), (zk P 645), (o461 P), (zk P 401), (zk P 402), (zk P 645), (o465 P), (zk P 405), (zk P 645), (o468 P), (zk P 408), (zk P 409), (zk P 645), (o472 P), (zk P 412), (zk P 645), (o475 P), (zk P 415), (zk P 416), (zk P 645), (o479 P), (zk P 419), (zk P 645), (o482 P), (zk P 422), (zk P 423), (zk P 645), (o486 P), (zk P 426), (zk P 645), (o489 P), (zk P 429), (zk P 430), (zk P 645), (o493 P), (zk P 433), (zk P 645), (o496 P), (zk P 436), (zk P 437), (zk P 645), (o500 P), (zk P 440), (zk P 645), (o503 P), (zk P 443), (zk P 444), (zk P 645), (o507 P), (zk P 447), (zk P 645), (o510 P), (zk P 450), (zk P 451), (zk P 645), (o516 P), (zk P 454), (zk P 645), (o519 P), (zk P 457), (zk P 458), (zk P 645), (o523 P), (zk P 461), (zk P 645), (o526 P), (zk P 464), (zk P 465), (zk P 645), (o530 P), (zk P 468), (zk P 645), (o533 P), (zk P 471), (zk P 472), (zk P 645), (o537 P), (zk P 475), (zk P 645), (o540 P), (zk P 478), (zk P 479), (zk P 645), (o544 P), (zk P 482), (zk P 645), (o547 P), (zk P 485), (zk P 486), (zk P 645), (o551 P), (zk P 489), (zk P 645), (o554 P), (zk P 492), (zk P 493), (zk P 645), (o558 P), (zk P 496), (zk P 645), (o561 P), (zk P 499), (zk P 500), (zk P 645), (o565 P), (o566 P), (zk P 504), (zk P 505), (zk P 645), (o570 P), (zk P 508), (zk P 645), (o573 P), (zk P 511), (zk P 512), (zk P 645), (o577 P), (zk P 515), (zk P 645), (o580 P), (zk P 518), (zk P 519), (zk P 645), (o584 P), (zk P 522), (zk P 645), (o587 P), (zk P 525), (zk P 526), (zk P 645), (o593 P), (zk P 529), (zk P 645), (o596 P), (zk P 532), (zk P 533), (zk P 645), (o600 P), (zk P 536), (zk P 645), (o603 P), (zk P 539), (zk P 540), (zk P 645), (o607 P), (zk P 543), (zk P 645), (o610 P), (zk P 546), (zk P 547), (zk P 645), (o614 P), (zk P 550), (zk P 645), (o617 P), (zk P 553), (zk P 554), (zk P 645), (o621 P), (zk P 557), (zk P 645), (o624 P), (zk P 560), (zk P 561), (zk P 645), (o628 P), (zk P 564), (zk P 645), (o631 P), (zk P 567), (zk P 568), (zk P 645), (o635 P), (zk P 571), (zk P 645), (o638 P), (zk P 574), (zk P 575), (zk P 645), (o642 P), (zk P 578), (zk P 645), (o645 P), (zk P 581), (zk P 582), (zk P 645), (o649 P), (zk P 585), (zk P 645), (o652 P), (zk P 588), (zk P 589), (zk P 590), (zk P 645), (o661 P), (zk P 593), (zk P 645), (o664 P), (zk P 596), (zk P 597), (zk P 645), (o668 P), (zk P 600), (zk P 645), (o671 P), (zk P 603), (zk P 604), (zk P 645), (o675 P), (zk P 607), (zk P 645), (o678 P), (zk P 610), (zk P 611), (zk P 645), (o682 P), (zk P 614), (zk P 645), (o685 P), (zk P 617), (zk P 618), (zk P 645), (o689 P), (zk P 621), (zk P 645), (o692 P), (zk P 624), (zk P 625), (zk P 645), (o696 P), (zk P 628), (zk P 645), (o699 P), (zk P 631), (zk P 632), (zk P 645), (o703 P), (zk P 635), (zk P 645), (o706 P), (zk P 638), (zk P 639), (zk P 645), (o710 P), (o711 P), (zk P 643), (zk P 644), (zk P 645), (o715 P), (o716 P), (zk P 648), (zk P 649)] (Life.mk [] [] [] 0 [] [] false #[] [] 0 false false false 0 [2000, 10, 10] false 0 true [] [] 0 false))
noncomputable def hE : Env := { scope := hP.main.scope, locals := mainNs, globals := mainNs, cells := [], code := Value.ref 13, frame := some 14 }
noncomputable abbrev hB : List Stmt := behindTheImports hP
noncomputable abbrev hC : Code := Code.body hB hE
noncomputable abbrev p0 : Pos := Pos.mk 0 0 0 0
noncomputable abbrev hS (t : Params → BT) (n k : Nat) (w : World) (os : OsState) : SharedT := ⟨t w.params, n, {}, #[], {}, k, os⟩
theorem hSeg {w : World} {n : Nat} {s : SharedT} {t : Thread} {r : Option (Flow × SharedT × Code × Pos)}
    (h : PySem.W.Fast.tw10110043849684766642 PySem.W.Fast.tw14364793385576792824 hP w 11 (some (Value.ref 6)) 1 n s t = r) : segRunT treeTable hP w 11 (some (Value.ref 6)) 1 n s t = r := by
  rw [PySem.W.Fast.te10110043849684766642, PySem.W.Fast.te14364793385576792824]; exact h
noncomputable def s0 : List Stmt := (hB.drop 0).take 8
theorem g0 (w : World) (os : OsState) : segRunT treeTable hP w 11 (some (Value.ref 6)) 1 114 (hS tree47 15 187 w os) (piecesOf s0 hE hC (Pos.mk 0 0 0 0) [topFrame p0]) = some (Flow.next, hS tree64 29 214 w os, hC, (Pos.mk 10 0 13 16)) := hSeg (by kernel_rfl)
noncomputable def s1 : List Stmt := (hB.drop 8).take 1
theorem g1 (w : World) (os : OsState) : segRunT treeTable hP w 11 (some (Value.ref 6)) 1 482 (hS tree64 29 214 w os) (piecesOf s1 hE hC (Pos.mk 10 0 13 16) [topFrame p0]) = some (Flow.next, hS tree143 106 310 w os, hC, (Pos.mk 14 0 59 23)) := hSeg (by kernel_rfl)
noncomputable def s2 : List Stmt := (hB.drop 9).take 4
theorem g2 (w : World) (os : OsState) : segRunT treeTable hP w 11 (some (Value.ref 6)) 1 260 (hS tree143 106 310 w os) (piecesOf s2 hE hC (Pos.mk 14 0 59 23) [topFrame p0]) = some (Flow.next, hS tree166 126 349 w os, hC, (Pos.mk 63 0 69 24)) := hSeg (by kernel_rfl)
noncomputable def s3 : List Stmt := (hB.drop 13).take 1
theorem g3 (w : World) (os : OsState) : segRunT treeTable hP w 11 (some (Value.ref 6)) 1 229 (hS tree166 126 349 w os) (piecesOf s3 hE hC (Pos.mk 63 0 69 24) [topFrame p0]) = some (Flow.next, hS tree189 146 378 w os, hC, (Pos.mk 70 0 74 24)) := hSeg (by kernel_rfl)
noncomputable def s4 : List Stmt := (hB.drop 14).take 20
theorem g4 (w : World) (os : OsState) : segRunT treeTable hP w 11 (some (Value.ref 6)) 1 400 (hS tree189 146 378 w os) (piecesOf s4 hE hC (Pos.mk 70 0 74 24) [topFrame p0]) = some (Flow.next, hS tree212 166 445 w os, hC, (Pos.mk 98 0 98 14)) := hSeg (by kernel_rfl)
noncomputable def s5 : List Stmt := (hB.drop 34).take 15
theorem g5 (w : World) (os : OsState) : segRunT treeTable hP w 11 (some (Value.ref 6)) 1 253 (hS tree212 166 445 w os) (piecesOf s5 hE hC (Pos.mk 98 0 98 14) [topFrame p0]) = some (Flow.next, hS tree250 202 515 w os, hC, (Pos.mk 140 0 140 8)) := hSeg (by kernel_rfl)
noncomputable def s6 : List Stmt := (hB.drop 49).take 8
theorem g6 (w : World) : ∀ os, segRunT treeTable hP w 11 (some (Value.ref 6)) 1 385 (hS tree250 202 515 w os) (piecesOf s6 hE hC (Pos.mk 140 0 140 8) [topFrame p0]) = some (Flow.next, hS tree300 250 612 w os, hC, (Pos.mk 166 0 170 71)) :=
  byRow2 "special-get-raises" (P := fun w => ∀ os, segRunT treeTable hP w 11 (some (Value.ref 6)) 1 385 (hS tree250 202 515 w os) (piecesOf s6 hE hC (Pos.mk 140 0 140 8) [topFrame p0]) = some (Flow.next, hS tree300 250 612 w os, hC, (Pos.mk 166 0 170 71))) (fun w os => hSeg (by kernel_rfl)) (fun w os => hSeg (by kernel_rfl)) w
noncomputable def s7 : List Stmt := (hB.drop 57).take 5
theorem g7 (w : World) (os : OsState) : segRunT treeTable hP w 11 (some (Value.ref 6)) 1 126 (hS tree300 250 612 w os) (piecesOf s7 hE hC (Pos.mk 166 0 170 71) [topFrame p0]) = some (Flow.next, hS tree330 276 644 w os, hC, (Pos.mk 206 0 206 8)) := hSeg (by kernel_rfl)
noncomputable def s8 : List Stmt := (hB.drop 62).take 3
theorem g8 (w : World) (os : OsState) : segRunT treeTable hP w 11 (some (Value.ref 6)) 1 401 (hS tree330 276 644 w os) (piecesOf s8 hE hC (Pos.mk 206 0 206 8) [topFrame p0]) = some (Flow.next, hS tree388 332 717 w os, hC, (Pos.mk 234 0 234 11)) := hSeg (by kernel_rfl)
noncomputable def s9 : List Stmt := (hB.drop 65).take 8
theorem g9 (w : World) (os : OsState) : segRunT treeTable hP w 11 (some (Value.ref 6)) 1 373 (hS tree388 332 717 w os) (piecesOf s9 hE hC (Pos.mk 234 0 234 11) [topFrame p0]) = some (Flow.next, hS tree433 375 800 w os, hC, (Pos.mk 257 0 261 45)) := hSeg (by kernel_rfl)
noncomputable def s10 : List Stmt := (hB.drop 73).take 15
theorem g10 (w : World) (os : OsState) : segRunT treeTable hP w 11 (some (Value.ref 6)) 1 399 (hS tree433 375 800 w os) (piecesOf s10 hE hC (Pos.mk 257 0 261 45) [topFrame p0]) = some (Flow.next, hS tree512 452 928 w os, hC, (Pos.mk 355 0 355 8)) := hSeg (by kernel_rfl)
noncomputable def s11 : List Stmt := (hB.drop 88).take 15
theorem g11 (w : World) (os : OsState) : segRunT treeTable hP w 11 (some (Value.ref 6)) 1 399 (hS tree512 452 928 w os) (piecesOf s11 hE hC (Pos.mk 355 0 355 8) [topFrame p0]) = some (Flow.next, hS tree589 527 1050 w os, hC, (Pos.mk 397 0 402 94)) := hSeg (by kernel_rfl)
noncomputable def s12 : List Stmt := (hB.drop 103).take 13
theorem g12 (w : World) : ∀ os, segRunT treeTable hP w 11 (some (Value.ref 6)) 1 380 (hS tree589 527 1050 w os) (piecesOf s12 hE hC (Pos.mk 397 0 402 94) [topFrame p0]) = some (Flow.next, hS tree655 591 1165 w os, hC, (Pos.mk 455 0 455 13)) :=
  byRow2 "special-get-raises" (P := fun w => ∀ os, segRunT treeTable hP w 11 (some (Value.ref 6)) 1 380 (hS tree589 527 1050 w os) (piecesOf s12 hE hC (Pos.mk 397 0 402 94) [topFrame p0]) = some (Flow.next, hS tree655 591 1165 w os, hC, (Pos.mk 455 0 455 13))) (fun w os => hSeg (by kernel_rfl)) (fun w os => hSeg (by kernel_rfl)) w
noncomputable def s13 : List Stmt := (hB.drop 116).take 10
theorem g13 (w : World) (os : OsState) : segRunT treeTable hP w 11 (some (Value.ref 6)) 1 291 (hS tree655 591 1165 w os) (piecesOf s13 hE hC (Pos.mk 455 0 455 13) [topFrame p0]) = some (Flow.next, hS tree718 650 1254 w os, hC, (Pos.mk 514 0 547 66)) := hSeg (by kernel_rfl)
noncomputable abbrev hH (k : Nat) (H : Params → Heap) (w : World) (os : OsState) : Shared := ⟨H w.params, #[], {}, k, os⟩
theorem gPre (w : World) (os : OsState) : topGo treeTable hP w 11 (some (Value.ref 6)) 12 ⟨boot_heap w.params, #[], boot_drawn, boot_toks, os⟩ (topStub hP) = some (hH 187 heap46 w os, ⟨denote treeTable hC, hC, p0, [topFrame p0]⟩) := by
  rw [PySem.W.Fast.te15667345088766844465, PySem.W.Fast.te14364793385576792824, PySem.W.Fast.te11892475500146522536]; kernel_rfl
theorem gBlock (w : World) (os : OsState) : segRun treeTable hP w 11 (some (Value.ref 6)) 1 1 (hH 187 heap46 w os) (blockOf hB hE hC p0 [topFrame p0]) = some (Flow.next, (hS tree47 15 187 w os).abs, hC, p0) := by
  rw [PySem.W.Fast.te14374325043358763698, PySem.W.Fast.te14364793385576792824]; kernel_rfl
theorem gFin (w : World) (os : OsState) : topRun treeTable hP w 11 (some (Value.ref 6)) 2 (hS tree718 650 1254 w os).abs ⟨doneF Flow.next, hC, (Pos.mk 514 0 547 66), [topFrame p0]⟩ = some (hH 1254 heap719 w os) := by
  rw [PySem.W.Fast.te14082659384304107361, PySem.W.Fast.te14364793385576792824]; kernel_rfl
theorem gB : hB = s0 ++ (s1 ++ (s2 ++ (s3 ++ (s4 ++ (s5 ++ (s6 ++ (s7 ++ (s8 ++ (s9 ++ (s10 ++ (s11 ++ (s12 ++ (s13 ++ []))))))))))))) := by kernel_rfl
theorem gRun (w : World) (os : OsState) : topRun treeTable hP w 11 (some (Value.ref 6)) (Nat.add 12 (Nat.add 1 (Nat.add 114 (Nat.add 482 (Nat.add 260 (Nat.add 229 (Nat.add 400 (Nat.add 253 (Nat.add 385 (Nat.add 126 (Nat.add 401 (Nat.add 373 (Nat.add 399 (Nat.add 399 (Nat.add 380 (Nat.add 291 (2))))))))))))))))) ⟨boot_heap w.params, #[], boot_drawn, boot_toks, os⟩ (topStub hP) = some (hH 1254 heap719 w os) := by
  refine go_top (gPre w os) (piece_block (gBlock w os) ?_)
  rw [show restOf (behindTheImports hP) hE hC p0 [topFrame p0] = restOf (s0 ++ (s1 ++ (s2 ++ (s3 ++ (s4 ++ (s5 ++ (s6 ++ (s7 ++ (s8 ++ (s9 ++ (s10 ++ (s11 ++ (s12 ++ (s13 ++ [])))))))))))))) hE hC p0 [topFrame p0] from congrArg (fun x => restOf x hE hC p0 [topFrame p0]) gB]
  refine piece_app (segRun_of (g0 w os)) ?_
  refine piece_app (segRun_of (g1 w os)) ?_
  refine piece_app (segRun_of (g2 w os)) ?_
  refine piece_app (segRun_of (g3 w os)) ?_
  refine piece_app (segRun_of (g4 w os)) ?_
  refine piece_app (segRun_of (g5 w os)) ?_
  refine piece_app (segRun_of (g6 w os)) ?_
  refine piece_app (segRun_of (g7 w os)) ?_
  refine piece_app (segRun_of (g8 w os)) ?_
  refine piece_app (segRun_of (g9 w os)) ?_
  refine piece_app (segRun_of (g10 w os)) ?_
  refine piece_app (segRun_of (g11 w os)) ?_
  refine piece_app (segRun_of (g12 w os)) ?_
  refine piece_app (segRun_of (g13 w os)) ?_
  exact piece_nil (gFin w os)
end
section
noncomputable abbrev hF (w : World) (os : OsState) : Shared := hH 1254 heap719 w os
noncomputable abbrev hX (s : Shared) : Bool := xlAt hd.view_1 [(Str.ofString "MODULUS", WData.int 170141183460469231731687303715884105727)] s && recOk PySem.Challenge.rw_tk0105_01.row.records s
theorem gL0 (w : World) (os : OsState) : (staticsOk (importedModules hP.main.body) (boot_heap w.params) (heap719 w.params) && namesBound hP (heap719 w.params) && gensDone (hF w os) && laidKept (boot_heap w.params) (heap719 w.params)) = true := by
  rw [PySem.W.Fast.te5923862056798008813]; kernel_rfl
theorem gL1 (w : World) (os : OsState) : seen ((recsOf hd.view_1).map (·.name)) (ownsOf hd.view_1) [] { hF w os with gens := #[] } = expectedOf hd.view_1 := by
  rw [PySem.W.Fast.te5160383126252970620]; kernel_rfl
theorem gL2 (w : World) (os : OsState) : (hF w os).heap.bltView = bltViewBooted := by kernel_rfl
theorem gL3a (w : World) (os : OsState) : (hF w os).heap.keysOk (looseW hd.view_1 hLo) ((recsOf hd.view_1).map (·.name)) ((litsOf hd.view_1).map (·.1)) ((clssOf hd.view_1 (looseW hd.view_1 hLo)).map (·.name)) = true := by
  rw [PySem.W.Fast.te10880121769531294198]; kernel_rfl
theorem gL3b (w : World) (os : OsState) : (hF w os).heap.accountedOkI (importedModules hP.main.body) = true := by
  rw [PySem.W.Fast.te14722251495701143533, PySem.W.Fast.te5923862056798008813]; kernel_rfl
theorem gL3c (w : World) (os : OsState) : ((hF w os).heap.isNs mainGlobals && (hF w os).heap.isNs builtinsNs) = true := by
  kernel_rfl
theorem gL3d (w : World) (os : OsState) : tablesOk hd.view_1 (hF w os).heap = true := by
  rw [PySem.W.Fast.te10994771534591457954]; kernel_rfl
theorem gL3e (w : World) (os : OsState) : (hX (hF w os) && (if true = true then (hF w os).gens.size == 0 else !leftWithCleanup (hF w os).gens)) = true := by
  kernel_rfl
theorem and3 {a b c1 c2 d e1 e2 : Bool} (h1 : a = true) (h2 : b = true) (h3 : (c1 && c2) = true) (h4 : d = true) (h5 : (e1 && e2) = true) : (a && b && c1 && c2 && d && e1 && e2) = true := by
  cases h1; cases h2; cases c1 <;> cases c2 <;> cases e1 <;> cases e2 <;> simp_all
theorem gL3 (w : World) (os : OsState) : ((hF w os).heap.keysOk (looseW hd.view_1 hLo) ((recsOf hd.view_1).map (·.name)) ((litsOf hd.view_1).map (·.1)) ((clssOf hd.view_1 (looseW hd.view_1 hLo)).map (·.name)) && (hF w os).heap.accountedOkI (importedModules hP.main.body) && (hF w os).heap.isNs mainGlobals && (hF w os).heap.isNs builtinsNs && tablesOk hd.view_1 (hF w os).heap && hX (hF w os) && (if true = true then (hF w os).gens.size == 0 else !leftWithCleanup (hF w os).gens)) = true :=
  and3 (gL3a w os) (gL3b w os) (gL3c w os) (gL3d w os) (gL3e w os)
theorem gL4 (w : World) (os : OsState) : tabsOk hd.view_1 (hF w os) = true := by
  rw [PySem.W.Fast.te479339242167458305]; kernel_rfl
theorem gL5 (w : World) (os : OsState) : pinSeenD hd.view_1 (drecsOf hd.view_1) (hF w os) = pinGoodD (drecsOf hd.view_1) := by
  rw [PySem.W.Fast.te16090120013241838585]; kernel_rfl
theorem gL6 (w : World) (os : OsState) : plainSeenE hd.view_1 (looseW hd.view_1 hLo) (hF w os) = plainGoodE hd.view_1 (looseW hd.view_1 hLo) := by
  rw [PySem.W.Fast.te2386780881361962483]; kernel_rfl
theorem gL7 (w : World) (os : OsState) : plainSeenD hd.view_1 hLo (hF w os) = plainGoodD hd.view_1 hLo := by
  rw [PySem.W.Fast.te11698064438423848299]; kernel_rfl
theorem gL8 (w : World) (os : OsState) : wideSeen hd.view_1 (hF w os) = wideGood hd.view_1 := by
  rw [PySem.W.Fast.te7317090234206586261]; kernel_rfl
theorem gL9 (w : World) (os : OsState) : clsSeenW hd.view_1 hLo (hF w os) = clsGoodW hd.view_1 hLo := by
  rw [PySem.W.Fast.te7369524293546568484]; kernel_rfl
theorem gSize (w : World) : ((boot_heap w.params).isNs mainGlobals && (#[] : Array GenState).size == 0, (boot_heap w.params).objs.size, (boot_heap w.params).nsMap mainGlobals "__annotations__") = (true, 11, some (Value.ref 6)) := by
  rw [PySem.W.Fast.te8920871248978507458]; kernel_rfl
end
section
theorem gSeen (w : World) (os : OsState) : openSeen hd.view_1 hLo (importedModules hP.main.body) hX true (hF w os) = openGood hd.view_1 hLo := by
  unfold openSeen openGood
  exact looks_pair (gL1 w os) (looks_pair (gL2 w os) (looks_pair (gL3 w os) (looks_pair (gL4 w os) (looks_pair (gL5 w os) (looks_pair (gL6 w os) (looks_pair (gL7 w os) (looks_pair (gL8 w os) (gL9 w os))))))))
theorem gLeft {α : Type} {Yf : Shared → α} {Ya : World → α} (hY : ∀ w os, Yf (hF w os) = Ya w) : LeftO hP hd.view_1 hLo hX Yf Ya 9082 :=
  LeftO.of_pieces (H₀ := boot_heap) (H₁ := heap719) (gs₀ := #[]) (gs₁ := #[]) (d₀ := boot_drawn) (d₁ := {}) (k₀ := boot_toks) (k₁ := 1254) (m₀ := 11) (ann := some (Value.ref 6))
    (boot_open (by kernel_rfl) (by decide +kernel) (fun s => by kernel_rfl)) gSize gRun (by decide +kernel) (fun w => by
      funext os
      exact looks_pair (gL0 w os) (looks_pair (gSeen w os) (hY w os)))
end
local macro_rules | `(tactic| omega) => `(tactic| lia)
section
noncomputable abbrev tupO (vs : List Value) : Obj := { cls := .type "tuple", data := .seq vs.toArray }
noncomputable abbrev lstO (vs : List Value) (k : Nat) : Obj := { cls := .type "list", data := .seq vs.toArray k }
inductive UpL (d : Addr) (o : Obj) : Led → (Obj → Led) → Prop
  | head {r} : UpL d o ((d, o) :: r) fun o' => (d, o') :: r
  | tail {p r f} : UpL d o r f → UpL d o (p :: r) fun o' => p :: f o'
theorem UpL.mem {d : Addr} {o : Obj} : ∀ {n : Led} {f : Obj → Led}, UpL d o n f → (d, o) ∈ n
  | _, _, .head => .head _
  | _, _, .tail u => .tail _ u.mem
theorem UpL.keys {d : Addr} {o o' : Obj} : ∀ {n : Led} {f : Obj → Led}, UpL d o n f → (f o').map (·.1) = n.map (·.1)
  | _, _, .head => rfl
  | _, _, .tail u => by simp [u.keys]
theorem UpL.in {d : Addr} {o o' : Obj} : ∀ {n : Led} {f : Obj → Led}, UpL d o n f → (n.map (·.1)).Nodup → ∀ p ∈ f o', p = (d, o') ∨ (p ∈ n ∧ p.1 ≠ d)
  | _, _, .head, nd, p, hp => by
    rcases List.mem_cons.mp hp with e | h
    · exact .inl e
    · exact .inr ⟨.tail _ h, fun e => (List.nodup_cons.mp nd).1 (List.mem_map.mpr ⟨p, h, e⟩)⟩
  | _, _, .tail u, nd, p, hp => by
    rcases List.mem_cons.mp hp with e | h
    · subst e; exact .inr ⟨.head _, fun q => (List.nodup_cons.mp nd).1 (List.mem_map.mpr ⟨_, u.mem, q.symm⟩)⟩
    · rcases u.in (List.nodup_cons.mp nd).2 p h with e | ⟨h1, h2⟩
      · exact .inl e
      · exact .inr ⟨.tail _ h1, h2⟩
inductive RmL (d : Addr) : Led → Led → Prop
  | head {o r} : RmL d ((d, o) :: r) r
  | tail {p r r'} : RmL d r r' → RmL d (p :: r) (p :: r')
theorem RmL.sub {d : Addr} : ∀ {n n' : Led}, RmL d n n' → n'.Sublist n
  | _, _, .head => List.sublist_cons_self _ _
  | _, _, .tail u => u.sub.cons_cons _
theorem RmL.mem {d : Addr} : ∀ {n n' : Led}, RmL d n n' → d ∈ n.map (·.1)
  | _, _, .head => by simp
  | _, _, .tail u => by simpa using Or.inr (by simpa using u.mem)
theorem RmL.ne {d : Addr} : ∀ {n n' : Led}, RmL d n n' → (n.map (·.1)).Nodup → ∀ p ∈ n', p.1 ≠ d
  | _, _, .head, nd, p, hp => fun e => (List.nodup_cons.mp nd).1 (List.mem_map.mpr ⟨p, hp, e⟩)
  | _, _, .tail u, nd, p, hp => by
    rcases List.mem_cons.mp hp with e | h
    · subst e; intro q; exact (List.nodup_cons.mp nd).1 (by have := u.mem; rw [← q] at this; exact this)
    · exact u.ne (List.nodup_cons.mp nd).2 p h
section
variable {α β γ : Type}
noncomputable abbrev Kcall (bz : Bool) (prog : Program) (w : World) (A : Around) (g : Heap) (L : Addr) (pos : Pos) (args : List Expr) (env : Env) (V : Value → FMap → Led → Prop) : Value → FMap → Led → Prop := fun f m n => Ho bz prog w A g L m n (callWith pos f [] (backTo pos (starEach args env)) []) V
noncomputable abbrev Kpre (v : Value) (W : List Value → FMap → Led → Prop) : List Value → FMap → Led → Prop := fun vs m n => W (v :: vs) m n
noncomputable abbrev Kcons (bz : Bool) (prog : Program) (w : World) (A : Around) (g : Heap) (L : Addr) (pos : Pos) (es : List Expr) (env : Env) (W : List Value → FMap → Led → Prop) : Value → FMap → Led → Prop := fun v m n => Ho bz prog w A g L m n (spliced (backTo pos (starEach es env))) (Kpre v W)
noncomputable abbrev Kca (bz : Bool) (prog : Program) (w : World) (A : Around) (g : Heap) (L : Addr) (f : Value) (first : List Value) (V : Value → FMap → Led → Prop) : List Value → FMap → Led → Prop := fun vs m n => Ho bz prog w A g L m n (call f (first ++ vs)) V
noncomputable abbrev Kty (bz : Bool) (prog : Program) (w : World) (A : Around) (g : Heap) (L : Addr) (T : String) (V : Value → FMap → Led → Prop) : List Value → FMap → Led → Prop := fun vs m n => Ho bz prog w A g L m n (call (.type T) vs) V
noncomputable abbrev Kattr (bz : Bool) (prog : Program) (w : World) (A : Around) (g : Heap) (L : Addr) (attr : Str) (V : Value → FMap → Led → Prop) : Value → FMap → Led → Prop := fun o m n => Ho bz prog w A g L m n (getAttr o attr true) V
noncomputable abbrev Kmeth2 (bz : Bool) (prog : Program) (w : World) (A : Around) (g : Heap) (L : Addr) (pos : Pos) (args : List Expr) (env : Env) (V : Value → FMap → Led → Prop) : Value × List Value → FMap → Led → Prop := fun fx m n => Ho bz prog w A g L m n (callWith pos fx.1 fx.2 (backTo pos (starEach args env)) []) V
noncomputable abbrev Kmeth (bz : Bool) (prog : Program) (w : World) (A : Around) (g : Heap) (L : Addr) (name : Str) (pl : Sem Bool) (pos : Pos) (args : List Expr) (env : Env) (V : Value → FMap → Led → Prop) : Value → FMap → Led → Prop := fun ov m n => Ho bz prog w A g L m n (getMethod ov name pl) (Kmeth2 bz prog w A g L pos args env V)
noncomputable abbrev Ktup (V : Value → FMap → Led → Prop) : List Value → FMap → Led → Prop := fun vs m n => vs.length ≤ sizeLine ∧ ∀ a, (∀ p ∈ n, p.1 ≠ a) → V (.ref a) m ((a, tupO vs) :: n)
noncomputable abbrev Klist (V : Value → FMap → Led → Prop) : List Value → FMap → Led → Prop := fun vs m n => vs.length ≤ sizeLine ∧ ∀ a, (∀ p ∈ n, p.1 ≠ a) → V (.ref a) m ((a, lstO vs 0) :: n)
end
section
variable {α : Type} {bz : Bool} {prog : Program} {w : World} {A : Around} {g h h' : Heap} {L : Addr} {m : FMap} {n n' : Led}
theorem Fr.but {d : Addr} (F : Fr g L h m) (hL : d ≠ L) (hg : g.get? d = none) (k : ∀ b o, b ≠ d → h.get? b = some o → h'.get? b = some o) : Fr g L h' m :=
  ⟨F.ns.at' fun o e => k _ o (Ne.symm hL) e, fun b o e => k b o (fun q => by rw [q, hg] at e; cases e) (F.keep b o e), F.above⟩
theorem Nw.upd {d : Addr} {o o' : Obj} {f : Obj → Led} (N : Nw g L h n) (U : UpL d o n f) (e : h'.get? d = some o') (k : ∀ b x, b ≠ d → h.get? b = some x → h'.get? b = some x) : Nw g L h' (f o') :=
  ⟨fun p hp => by
    rcases U.in N.nd p hp with q | ⟨q1, q2⟩
    · subst q; exact ⟨e, (N.news _ U.mem).2⟩
    · exact ⟨k _ _ q2 (N.news p q1).1, (N.news p q1).2⟩, by rw [U.keys]; exact N.nd⟩
theorem Nw.rm {d : Addr} (N : Nw g L h n) (U : RmL d n n') (k : ∀ b x, b ≠ d → h.get? b = some x → h'.get? b = some x) : Nw g L h' n' :=
  ⟨fun p hp => ⟨k _ _ (U.ne N.nd p hp) (N.news p (U.sub.subset hp)).1, (N.news p (U.sub.subset hp)).2⟩, (U.sub.map _).nodup N.nd⟩
theorem Nw.keep (N : Nw g L h n) (k : ∀ b x, h.get? b = some x → h'.get? b = some x) : Nw g L h' n :=
  ⟨fun p hp => ⟨k _ _ (N.news p hp).1, (N.news p hp).2⟩, N.nd⟩
theorem Fr.kept (F : Fr g L h m) (k : ∀ b x, h.get? b = some x → h'.get? b = some x) : Fr g L h' m :=
  ⟨F.ns.at' fun o e => k _ o e, fun b o e => k b o (F.keep b o e), F.above⟩
theorem Nw.cons {o : Obj} (F : Fr g L h m) (N : Nw g L h n) (e : h'.get? h.objs.size = some o) (k : ∀ b x, h.get? b = some x → h'.get? b = some x) : Nw g L h' ((h.objs.size, o) :: n) :=
  ⟨fun p hp => by
    rcases List.mem_cons.mp hp with q | q
    · subst q
      refine ⟨e, fun q => absurd F.ns.lt (by rw [← q]; exact Nat.lt_irrefl _), ?_⟩
      cases x : g.get? h.objs.size with
      | none => rfl
      | some y => exact absurd (Heap.lt_size (F.keep _ _ x)) (Nat.lt_irrefl _)
    · exact ⟨k _ _ (N.news p q).1, (N.news p q).2⟩, List.nodup_cons.mpr ⟨fun q => by
      obtain ⟨p, hp, e⟩ := List.mem_map.mp q
      exact absurd (Heap.lt_size (N.news p hp).1) (by rw [show p.1 = h.objs.size from e]; exact Nat.lt_irrefl _), N.nd⟩⟩
theorem Nw.old (N : Nw g L h n) {p : Addr × Obj} (hp : p ∈ n) : p.1 ≠ h.objs.size := fun e => absurd (Heap.lt_size (N.news p hp).1) (by rw [e]; exact Nat.lt_irrefl _)
variable {env : Env} {V : Value → FMap → Led → Prop} {U : Unit → FMap → Led → Prop} {x : Str} {pos : Pos} {v : Value}
theorem he_loc (hv : m x = some v) (h : V v m n) (hk : env.scope.kind = .function := by rfl) (hx : env.kindOf x = some .local := by rfl) (hd : (x == ("__debug__" : Str)) = false := by decide) (hL : env.locals = L := by rfl) :
    Ho bz prog w A g L m n (eval (.Name x pos) env) V :=
  Ho.mk fun _ _ _ _ _ _ _ F N q => wpAny_Name (wpAny_loadName_local hk hx (hL ▸ F.ns) hv (q _ _ _ _ _ F N h)) hd
theorem ho_st (h : U () (up x v m) n) (hk : env.scope.kind = .function := by rfl) (hx : env.kindOf x = some .local := by rfl) (hL : env.locals = L := by rfl) :
    Ho bz prog w A g L m n (storeName env x v) U :=
  Ho.mk fun hh _ _ _ _ _ _ F N q => by
    subst hL
    refine wpAny_storeName_local hx F.ns (fun h' hn hs => q _ _ _ _ _ (F.set hn hs) ⟨N.news.set hs, N.nd⟩ h) ?_
    rw [hk]; rfl
theorem he_glob {K : Frag} {p : Program} {loose : List Str} {cn : Str} {cs : Scope} {a : Addr} {ccd : Value} {cl : List (Str × Addr)} (G : Gd K p loose g) (e : nsIn K mainGlobals x = some (some v)) (h : V v m n)
    (hk : cs.kind = .function := by rfl) (hx : (envX cn cs L a ccd cl).kindOf x = some .globalImplicit := by rfl) (hd : (x == ("__debug__" : Str)) = false := by decide) :
    Ho bz prog w A g L m n (eval (.Name x pos) (envX cn cs L a ccd cl)) V :=
  Ho.mk fun _ _ _ _ _ _ _ F N q => let ⟨_, _, T⟩ := G.R; nameX_K F G.X T e (q _ _ _ _ _ F N h) hk hx hd
theorem he_bltn {K : Frag} {p : Program} {loose : List Str} {cn : Str} {cs : Scope} {a : Addr} {ccd : Value} {cl : List (Str × Addr)} (G : Gd K p loose g) (e : nsIn K mainGlobals x = some none) (hv : bootBuiltins x = some v) (hn : x ≠ "__name__") (h : V v m n)
    (hk : cs.kind = .function := by rfl) (hx : (envX cn cs L a ccd cl).kindOf x = some .globalImplicit := by rfl) (hd : (x == ("__debug__" : Str)) = false := by decide) :
    Ho bz prog w A g L m n (eval (.Name x pos) (envX cn cs L a ccd cl)) V :=
  Ho.mk fun _ _ _ _ _ _ _ F N q => let ⟨_, _, T⟩ := G.R; nameX_B F G.X T e hv hn (q _ _ _ _ _ F N h) hk hx hd
theorem codeB_call {R : Result → Shared → Prop} {s : Shared} {a : Addr} {args : Args} {o : Obj} {fd : FuncData} {body : List Stmt} {binds : List (Str × Value)} (hroom : A.depth < recursionLimit) (ho : s.heap.get? a = some o)
    (hd' : o.data = .func fd) (hco : fd.scope.isCoroutine = false) (hgen : fd.scope.isGenerator = false) (hbody : fd.body = .stmts body) (hcd : s.heap.CodeRec fd.code fd.qualname) (hbind : bindArgs fd args = pure binds)
    (h : wpB bz (model prog w) A.in1 (newFunctionEnv fd.scope fd.globals fd.closure binds (fd.qualname ++ ".<locals>.") (some a) fd.code none fd.builtins)
        (fun env s₂ => s₂.heap.NoLimit ∧ codeB bz (model prog w) A (.func body env) R s₂) (fun e s' => R (.error e) s') s) : codeB bz (model prog w) A (.call (.ref a) args) R s := by
  refine codeB_of_tree rfl ?_
  show wpB bz _ A.in1 (callAny (.ref a) args) _ _ s
  simp only [callAny]
  refine wpB_bind (wpB_of (wpAny_load ho ?_))
  obtain ⟨c, oc, vs, tq, hc, hoc, hdc, hq⟩ := hcd
  simp only [hd', callFunction, hco, hgen, hbody, hc, hbind]
  rw [hc] at h
  refine wpB_bind (m := field (.ref c) 1) (wpB_of (wpAny_field hoc hdc hq (wpB_bind (wpB_of (wpAny_pure ?_)))))
  exact wpB_bind (wpB_of (wpAny_pure (wpB_bind (wpB_mono h (fun env s₂ h₂ => wpB_bind (wpB_of (wpAny_enterFrame h₂.1 hroom (wpB_of (wpAny_pure (And.intro rfl h₂.2)))))) fun _ _ h' => h'))))
theorem codeB_func {R : Result → Shared → Prop} {s : Shared} {body : List Stmt} {env : Env}
    (h : wpB bz (model prog w) (A.deeper env) (execs body env) (fun f s' => R (.ok (.ret (match f with | .ret v => v | _ => .none))) s') (fun _ _ => False) s) : codeB bz (model prog w) A (.func body env) R s := by
  refine codeB_of_tree rfl ?_
  show wpB bz _ (A.deeper env) (do point; match ← (execs body env).onRaise (leaving env) with | .ret v => ret v | _ => ret .none) _ _ s
  refine wpB_bind (wpB_of (wpAny_point (wpB_bind (wpB_onRaise (wpB_mono h (fun f s' h' => ?_) fun _ _ h' => h')))))
  cases f <;> exact wpB_of (wpAny_pure h')
theorem hoC_def {K : Frag} {p : Program} {loose : List Str} {f : Addr} {oc : Value} {od : Option Addr} {osl : Array (Option Value)} {name qual : Str} {params : Arguments} {body : List Stmt} {scope : Scope} {dV kV doc pm cdv ct : Value} {an : Option Addr}
    {vs : List Value} {kw : List (Str × Value)} {binds : List (Str × Value)} {W : Value → Led → Prop} (G : Gd K p loose g)
    (ho : K.lookup f = some ⟨oc, od, .func (fnOf name qual params body scope dV kV doc pm an cdv ct), osl⟩) (hcd : codeIn K cdv qual = true) (hroom : A.depth < recursionLimit)
    (hbind : bindArgs (fnOf name qual params body scope dV kV doc pm an cdv ct) ⟨vs, kw⟩ = pure binds) (hloc : ∀ y ∈ binds, scope.names.lookup y.1 = some .local)
    (h : ∀ g' L', Gd K p loose g' → Ho bz prog w (A.deeper (envX qual scope L' f cdv [])) g' L' (lk binds.reverse) n (execs body (envX qual scope L' f cdv [])) fun fl _ n' => W (match fl with | .ret v => v | _ => .none) n')
    (hcell : ∀ x ∈ scope.names, x.2 ≠ .cell) (hco : scope.isCoroutine = false) (hgen : scope.isGenerator = false) (hk : scope.kind = .function) :
    HoC bz prog w A g L m n (.call (.ref f) ⟨vs, kw⟩) fun fl m' n' => match fl with | .ret v => m' = m ∧ W v n' | _ => False := ⟨fun hh ge dr tk os R F N q => by
  have X := G.X.keeps F.keep
  have hlim : hh.NoLimit := by obtain ⟨_, _, T⟩ := G.R; exact T.nolimit.keeps F.keep
  refine codeB_call (fd := fnOf name qual params body scope dV kV doc pm an cdv ct) hroom (X _ _ ho) rfl hco hgen rfl (codeRec_of X hcd) hbind (wpB_of (wpAny_newFunctionEnv hcell hloc (fun h₁ hns hsb => ⟨hlim.fresh _ hsb, codeB_func ?_⟩) hk))
  have hk₁ : ∀ b o, hh.get? b = some o → h₁.get? b = some o := fun b o e => hsb.extBut b o (Nat.ne_of_lt (Heap.lt_size e)) (Heap.get?_push_of_some _ e)
  have nm : ∀ b o, g.get? b = some o → b ∉ n.map (·.1) := fun b o e q => by
    obtain ⟨p, hp, rfl⟩ := List.mem_map.mp q
    rw [(N.news p hp).2.2] at e; cases e
  have st : g.StaysIn (hideAll hh (n.map (·.1))) := fun b o e => hideAll_get _ (F.keep b o e) (nm b o e)
  obtain ⟨oL, es, ep, hL, hLd, hLk, hLf⟩ := F.ns
  have nL : L ∉ n.map (·.1) := fun q => by
    obtain ⟨p, hp, e⟩ := List.mem_map.mp q
    exact (N.news p hp).2.1 e
  have hLg := hideAll_get (n.map (·.1)) hL nL
  refine (h (hideAll hh (n.map (·.1))) hh.objs.size (G.keeps fun b o e => st b o e)).run h₁ ge dr _ os _ _
    ⟨hns, fun b o e => hk₁ b o (of_hideAll _ e), Nat.le_of_eq (hideAll_size _ _)⟩
    ⟨fun p hp => ⟨hk₁ _ _ (N.news p hp).1, Nat.ne_of_lt (Heap.lt_size (N.news p hp).1), hideAll_none _ (List.mem_map_of_mem hp)⟩, N.nd⟩ fun fl m' n' h' tk' F' N' v => ?_
  refine q (.ret _) _ _ _ _ ⟨⟨oL, es, ep, F'.keep L oL hLg, hLd, hLk, hLf⟩, fun b o e => F'.keep b o (st b o e), F.above⟩ ⟨fun p hp => ⟨(N'.news p hp).1, fun e => ?_, ?_⟩, N'.nd⟩ ⟨rfl, v⟩
  · have := (N'.news p hp).2.2; rw [e, hLg] at this; cases this
  · cases e : g.get? p.1 with
    | none => rfl
    | some o => have := (N'.news p hp).2.2; rw [st _ _ e] at this; cases this⟩
theorem ho_callWith {pos : Pos} {f : Value} {first : List Value} {args : List (Bool × Sem Value)} (hplain : args.any (·.1) = false)
    (hk : ∀ hp : Heap, g.StaysIn hp → ∃ k, (k = Keeper.frame ∨ k = Keeper.machine ∨ k = Keeper.boundFrame) ∧ Looks (model prog w) hp (keeperOf f) k)
    (h : Ho bz prog w A g L m n (evalArgs f true args []) fun a m n => Ho bz prog w A g L m n (call f (first ++ a.pos) a.kw) V) : Ho bz prog w A g L m n (callWith pos f first args []) V := by
  unfold callWith
  refine ho_bind (ho_hold (h.mono fun a m n h => ho_sa ?_))
  have marked (mk : Value) : Ho bz prog w A g L m n (callMarked mk f (first ++ a.pos) a.kw) V := ⟨fun _ _ _ _ _ _ _ F N q Γ p i c => by
    unfold callMarked
    rw [Sem.wp_keep]
    exact h.run _ _ _ _ _ _ _ F N q Γ p i c⟩
  have tail : ∀ {t : Sem Value}, Ho bz prog w A g L m n t V → Ho bz prog w A g L m n (t >>= fun r => holding [r] point >>= fun _ => pure r) V :=
    fun ht => ho_bind (ht.mono fun r _ _ hr => ho_bind (ho_hold (Ho.mk fun _ _ _ _ _ _ _ F N q => wpAny_point (q _ _ _ _ _ F N (ho_pure hr)))))
  refine ho_bind ⟨fun hh ge dr tk os Q E F N q => ?_⟩
  obtain ⟨k, hk', Lk⟩ := hk hh F.keep
  refine wpB_of (Lk A _ _ _ (fun _ _ e => e) (q _ _ _ _ _ F N ?_))
  simp only [hplain, List.any_nil, Bool.or_false]
  rcases hk' with rfl | rfl | rfl <;> dsimp only <;> first | exact tail h | (split <;> first | exact tail h | exact tail (marked _))
theorem ho_evalArgs {f : Value} {x : Sem Value} {rest : List (Bool × Sem Value)} {W : Args → FMap → Led → Prop} (h : Ho bz prog w A g L m n (spliced ((false, x) :: rest)) fun vs m n => W ⟨vs, []⟩ m n) : Ho bz prog w A g L m n (evalArgs f true ((false, x) :: rest) []) W := by
  unfold evalArgs
  show Ho bz prog w A g L m n (spliced ((false, x) :: rest) >>= _) W
  exact ho_bind (h.mono fun _ _ _ h => ho_hold (ho_bind (ho_pure (ho_bind (ho_pure (ho_pure h))))))
theorem ho_evalArgs0 {f : Value} {W : Args → FMap → Led → Prop} (h : W ⟨[], []⟩ m n) : Ho bz prog w A g L m n (evalArgs f true [] []) W :=
  Ho.mk fun _ _ _ _ _ _ _ F N q => evalArgs_nil3 (q _ _ _ _ _ F N h)
theorem keeps_b (id : String) (hp : Heap) (_ : g.StaysIn hp) : ∃ k, (k = Keeper.frame ∨ k = Keeper.machine ∨ k = Keeper.boundFrame) ∧ Looks (model prog w) hp (keeperOf (.builtin id)) k :=
  ⟨.machine, .inr (.inl rfl), fun _ _ _ _ _ h => wpAny_pure h⟩
theorem keeps_t (T : String) (hp : Heap) (_ : g.StaysIn hp) : ∃ k, (k = Keeper.frame ∨ k = Keeper.machine ∨ k = Keeper.boundFrame) ∧ Looks (model prog w) hp (keeperOf (.type T)) k :=
  ⟨.machine, .inr (.inl rfl), fun _ _ _ _ _ h => wpAny_pure h⟩
theorem ho_ltg {base : Expr} {o r : Value} {P : Unit → FMap → Led → Prop} (h : P () m n) : Ho bz prog w A g L m n (letTemporaryGo base o r) P :=
  Ho.mk fun _ _ _ _ _ _ _ F N q => wpAny_letTemporaryGo (q _ _ _ _ _ F N h)
theorem he_call {func : Expr} {args : List Expr} (h : Ho bz prog w A g L m n (eval func env) (Kcall bz prog w A g L pos args env V))
    (hp : eval (.Call func args [] pos) env = (do let f ← eval func env; callWith pos f [] (backTo pos (starEach args env)) (backToKw pos (keywordEach [] env))) := by rfl) :
    Ho bz prog w A g L m n (eval (.Call func args [] pos) env) V := by
  rw [hp]
  exact ho_bind h
variable {W : List Value → FMap → Led → Prop} {e : Expr} {es : List Expr} {first : List Value}
theorem ha_cons (h : Ho bz prog w A g L m n (eval e env) (Kcons bz prog w A g L pos es env W))
    (hs : starEach (e :: es) env = (false, eval e env) :: starEach es env := by rfl) : Ho bz prog w A g L m n (spliced (backTo pos (starEach (e :: es) env))) W := by
  rw [hs]
  show Ho bz prog w A g L m n (spliced ((false, eval e env) :: backTo pos (starEach es env))) W
  rw [spliced]
  refine ho_bind (h.mono fun v _ _ h => ?_)
  simp only [Bool.false_eq_true, if_false]
  exact ho_bind (ho_pure (ho_bind (ho_hold (h.mono fun vs _ _ h => ho_pure h))))
theorem ha_nil (h : W [] m n) : Ho bz prog w A g L m n (spliced (backTo pos (starEach [] env))) W :=
  Ho.mk fun _ _ _ _ _ _ _ F N q => spliced_none (q _ _ _ _ _ F N h)
theorem hc_b {id : String} (h : Ho bz prog w A g L m n (spliced (backTo pos (starEach (e :: es) env))) (Kca bz prog w A g L (.builtin id) first V))
    (hs : starEach (e :: es) env = (false, eval e env) :: starEach es env := by rfl) (ha : ((backTo pos (starEach es env)).any fun x => x.1) = false := by rfl) : Ho bz prog w A g L m n (callWith pos (.builtin id) first (backTo pos (starEach (e :: es) env)) []) V := by
  rw [hs] at h ⊢
  exact ho_callWith (show (false || (backTo pos (starEach es env)).any (·.1)) = false by rw [ha]; rfl) (keeps_b id) (ho_evalArgs h)
theorem hc_ty {T : String} (h : Ho bz prog w A g L m n (spliced (backTo pos (starEach (e :: es) env))) (Kty bz prog w A g L T V))
    (hs : starEach (e :: es) env = (false, eval e env) :: starEach es env := by rfl) (ha : ((backTo pos (starEach es env)).any fun x => x.1) = false := by rfl) : Ho bz prog w A g L m n (callWith pos (.type T) [] (backTo pos (starEach (e :: es) env)) []) V := by
  rw [hs] at h ⊢
  exact ho_callWith (show (false || (backTo pos (starEach es env)).any (·.1)) = false by rw [ha]; rfl) (keeps_t T) (ho_evalArgs h)
theorem hc_def {K : Frag} {p : Program} {loose : List Str} {f : Value} (G : Gd K p loose g) (hf : keepIn K f = true) (h : Ho bz prog w A g L m n (spliced (backTo pos (starEach (e :: es) env))) (Kca bz prog w A g L f first V))
    (hs : starEach (e :: es) env = (false, eval e env) :: starEach es env := by rfl) (ha : ((backTo pos (starEach es env)).any fun x => x.1) = false := by rfl) : Ho bz prog w A g L m n (callWith pos f first (backTo pos (starEach (e :: es) env)) []) V := by
  rw [hs] at h ⊢
  exact ho_callWith (show (false || (backTo pos (starEach es env)).any (·.1)) = false by rw [ha]; rfl) (fun hp F => (keeps_K hf) hp (G.X.keeps F)) (ho_evalArgs h)
theorem hc_def0 {K : Frag} {p : Program} {loose : List Str} {f : Value} (G : Gd K p loose g) (hf : keepIn K f = true) (h : Ho bz prog w A g L m n (call f (first ++ [])) V) : Ho bz prog w A g L m n (callWith pos f first (backTo pos (starEach [] env)) []) V := by
  exact ho_callWith rfl (fun hp F => (keeps_K hf) hp (G.X.keeps F)) (ho_evalArgs0 h)
theorem he_tup {k : Nat} (h : Ho bz prog w A g L m n (spliced (backTo pos (starEach es env))) (Ktup V)) : Ho bz prog w A g L m n (eval (.Tuple es k pos) env) V := by
  rw [arm_eval_Tuple]
  exact ho_sa (ho_bind (h.mono fun vs _ _ h => Ho.mk fun _ _ _ _ _ _ _ F N q => wpAny_newObj_type (q _ _ _ _ _ (Fr.kept F fun _ _ e => Heap.get?_push_of_some _ e) (Nw.cons F N (Heap.get?_push_size _ rfl) fun _ _ e => Heap.get?_push_of_some _ e) (h.2 _ fun _ hp => N.old hp)) (by show vs.toArray.size ≤ sizeLine; rw [List.size_toArray]; exact h.1)))
theorem he_list (h : Ho bz prog w A g L m n (spliced (backTo pos (starEach es env))) (Klist V)) : Ho bz prog w A g L m n (eval (.List es pos) env) V := by
  rw [arm_eval_List]
  exact ho_sa (ho_bind (h.mono fun vs _ _ h => Ho.mk fun _ _ _ _ _ _ _ F N q => wpAny_newObj_type (q _ _ _ _ _ (Fr.kept F fun _ _ e => Heap.get?_push_of_some _ e) (Nw.cons F N (Heap.get?_push_size _ rfl) fun _ _ e => Heap.get?_push_of_some _ e) (h.2 _ fun _ hp => N.old hp)) (by show vs.toArray.size ≤ sizeLine; rw [List.size_toArray]; exact h.1)))
theorem he_sub {value slice : Expr} (h : Ho bz prog w A g L m n (eval value env) (Kd bz prog w A g L (eval slice env) (subscriptTail value slice) V)) : Ho bz prog w A g L m n (eval (.Subscript value slice pos) env) V := by
  rw [eval_Subscript]
  exact ho_bind (h.mono fun _ _ _ h => ho_bind (ho_hold (h.mono fun _ _ _ h => ho_sa h)))
theorem isTup_of {a : Addr} {vs : List Value} (e : h.get? a = some (tupO vs)) : IsTup h a vs.toArray := ⟨_, e, rfl, 0, rfl⟩
theorem isTuple_of {a : Addr} {vs : List Value} (e : h.get? a = some (tupO vs)) : h.IsTuple a vs.toArray := ⟨_, e, rfl, 0, rfl⟩
theorem isList_of {a : Addr} {vs : List Value} {k : Nat} (e : h.get? a = some (lstO vs k)) : h.IsList a vs.toArray := ⟨_, e, rfl, k, rfl⟩
variable {value slice : Expr}
theorem ho_ti {a : Addr} {vs : List Value} {i : Int} {t : Tok} {j : Nat} {y : Value} (hm : (a, tupO vs) ∈ n) (h1 : -(2 ^ 63) ≤ i) (h2 : i < 2 ^ 63) (hj : seqIndex? i vs.length = some j) (hy : vs[j]? = some y) (h : V y m n)
    (hs : subscripted slice false (.ref a) (.int i t) = operate [.ref a, .int i t] (getItem (.ref a) (.int i t)) := by with_unfolding_all rfl) :
    Ho bz prog w A g L m n (subscriptTail value slice (.ref a) (.int i t)) V :=
  Ho.mk fun _ _ _ _ _ _ _ F N q => item_tupleT (isTup_of (N.news _ hm).1) h1 h2 hj hy (q _ _ _ _ _ F N h) hs
theorem ho_tiK {K : Frag} {p : Program} {loose : List Str} (G : Gd K p loose g) {a : Addr} {vs : List Value} {dd : Option Addr} {ep : Nat} {sl : Array (Option Value)} {i : Int} {t : Tok} {j : Nat} {y : Value} (hl : K.lookup a = some ⟨.type "tuple", dd, .seq vs.toArray ep, sl⟩) (h1 : -(2 ^ 63) ≤ i) (h2 : i < 2 ^ 63) (hj : seqIndex? i vs.length = some j) (hy : vs[j]? = some y) (h : V y m n)
    (hs : subscripted slice false (.ref a) (.int i t) = operate [.ref a, .int i t] (getItem (.ref a) (.int i t)) := by with_unfolding_all rfl) :
    Ho bz prog w A g L m n (subscriptTail value slice (.ref a) (.int i t)) V :=
  Ho.mk fun _ _ _ _ _ _ _ F N q => topTup_K F G.X hl h1 h2 hj hy (q _ _ _ _ _ F N h) hs
theorem ho_liK {K : Frag} {p : Program} {loose : List Str} (G : Gd K p loose g) {a : Addr} {vs : List Value} {dd : Option Addr} {ep : Nat} {sl : Array (Option Value)} {i : Int} {t : Tok} {y : Value} (hl : K.lookup a = some ⟨.type "list", dd, .seq vs.toArray ep, sl⟩) (h1 : 0 ≤ i) (h2 : i < 2 ^ 63) (hy : vs[i.toNat]? = some y) (h : V y m n)
    (hs : subscripted slice false (.ref a) (.int i t) = operate [.ref a, .int i t] (getItem (.ref a) (.int i t)) := by with_unfolding_all rfl) :
    Ho bz prog w A g L m n (subscriptTail value slice (.ref a) (.int i t)) V :=
  Ho.mk fun _ _ _ _ _ _ _ F N q => topList_K F G.X hl h1 h2 hy (q _ _ _ _ _ F N h) hs
theorem ho_li {a : Addr} {vs : List Value} {k : Nat} {i : Int} {t : Tok} {y : Value} (hm : (a, lstO vs k) ∈ n) (h1 : 0 ≤ i) (h2 : i < 2 ^ 63) (hy : vs[i.toNat]? = some y) (h : V y m n)
    (hs : subscripted slice false (.ref a) (.int i t) = operate [.ref a, .int i t] (getItem (.ref a) (.int i t)) := by with_unfolding_all rfl) :
    Ho bz prog w A g L m n (subscriptTail value slice (.ref a) (.int i t)) V :=
  Ho.mk fun _ _ _ _ _ _ _ F N q =>
    have hl := isList_of (N.news _ hm).1
    tail_any hl.typeIs slot_list_getitem.lookup (wpAny_getItem_list hl h1 h2 (by simpa using hy) (q _ _ _ _ _ F N h)) hs
theorem ho_bi {l : List UInt8} {t u : Tok} {i : Int} (hz : l.length ≤ 1099511627776) (h1 : 0 ≤ i) (h2 : i < (l.length : Int)) (h : ∀ t, V (.int ((l.getD i.toNat 0).toNat : Int) t) m n)
    (hs : subscripted slice false (.bytes l.toArray t) (.int i u) = operate [.bytes l.toArray t, .int i u] (getItem (.bytes l.toArray t) (.int i u)) := by with_unfolding_all rfl)
    (hg : ∀ r, letTemporaryGo value (.bytes l.toArray t) r = pure () := by intro _; rfl) :
    Ho bz prog w A g L m n (subscriptTail value slice (.bytes l.toArray t) (.int i u)) V :=
  Ho.mk fun _ _ _ _ _ _ _ F N q => KBy.item_N hz h1 h2 (q _ _ _ _ _ F N (h _)) hs hg
theorem hp_none (h : V .none m n) : Ho bz prog w A g L m n (evalPart none env) V :=
  Ho.mk fun _ _ _ _ _ _ _ F N q => evalPart_none_step (q _ _ _ _ _ F N h)
theorem he_slice {lo hi : Option Expr} (h : Ho bz prog w A g L m n (evalPart lo env) fun l m n => Ho bz prog w A g L m n (evalPart hi env) fun u m n => ∀ a, (∀ p ∈ n, p.1 ≠ a) → V (.ref a) m ((a, { cls := .type "slice", data := .fields #[l, u, .none] }) :: n)) :
    Ho bz prog w A g L m n (eval (.Slice lo hi none pos) env) V := by
  rw [arm_eval_Slice]
  refine ho_bind (Ho.mono h fun l _ _ h => ho_bind (ho_hold (Ho.mono h fun u _ _ h => ho_bind (ho_hold (hp_none (env := env) ?_)))))
  exact Ho.mk fun _ _ _ _ _ _ _ F N q => wpAny_newObj_type (q _ _ _ _ _ (Fr.kept F fun _ _ e => Heap.get?_push_of_some _ e) (Nw.cons F N (Heap.get?_push_size _ rfl) fun _ _ e => Heap.get?_push_of_some _ e) (h _ fun _ hp => N.old hp))
theorem he_attr {value : Expr} {attr : Str} (h : Ho bz prog w A g L m n (eval value env) (Kattr bz prog w A g L attr V))
    (hp : eval (value.Attribute attr pos) env = (do let o ← eval value env; standAt pos.atName; let r ← holding [o] (getAttr o attr true); letTemporaryGo value o r; pure r) := by rfl) : Ho bz prog w A g L m n (eval (.Attribute value attr pos) env) V := by
  rw [hp]
  exact ho_bind (h.mono fun _ _ _ h => ho_sa (ho_bind (ho_hold (h.mono fun _ _ _ h => ho_bind (ho_ltg (ho_pure h))))))
end
end
section
theorem UpL.upd {d : Addr} {o : Obj} (o' : Obj) : ∀ {n : Led} {f : Obj → Led}, UpL d o n f → (n.map (·.1)).Nodup → Upd d o o' n (f o')
  | _, _, .head, nd => .head fun p hp e => (List.nodup_cons.mp nd).1 (List.mem_map.mpr ⟨p, hp, e⟩)
  | _, _, .tail u, nd => .tail (fun e => (List.nodup_cons.mp nd).1 (List.mem_map.mpr ⟨_, u.mem, e.symm⟩)) (u.upd o' (List.nodup_cons.mp nd).2)
noncomputable def ItO (T : String) (v : Value) (i : Nat) (o : Obj) : Prop := o.cls = .type T ∧ o.data = .fields #[v, .int i 0]
noncomputable def cut (l : List UInt8) (lo hi : Option Int) : List UInt8 := (l.drop (lo.elim 0 (clipAt l.length))).take (hi.elim l.length (clipAt l.length) - lo.elim 0 (clipAt l.length))
section
variable {α : Type} {bz : Bool} {prog : Program} {w : World} {A : Around} {g : Heap} {L : Addr} {m : FMap} {n n' : Led}
variable {env : Env} {V : Value → FMap → Led → Prop} {U : Unit → FMap → Led → Prop} {B : Bool → FMap → Led → Prop} {P : Flow → FMap → Led → Prop} {x : Str} {pos : Pos} {v : Value} {value slice : Expr}
theorem he_cut {p' : Pos} {lo hi : Option Expr} (h : Ho bz prog w A g L m n (eval value env) fun o m n => Ho bz prog w A g L m n (evalPart lo env) fun a m n => Ho bz prog w A g L m n (evalPart hi env) fun b m n =>
      ∃ l t lo' hi', o = .bytes (List.toArray l) t ∧ IsPart a lo' ∧ IsPart b hi' ∧ l.length ≤ 16777216 ∧ ∀ t, V (.bytes (cut l lo' hi').toArray t) m n)
    (hs : ∀ (b : Array UInt8) (t : Tok) (a : Addr), subscripted (.Slice lo hi none p') false (.bytes b t) (.ref a) = operate [.ref a, .bytes b t] (getItem (.bytes b t) (.ref a)) := by intros; with_unfolding_all rfl)
    (hg : ∀ (b : Array UInt8) t r, letTemporaryGo value (.bytes b t) r = pure () := by intros; rfl) :
    Ho bz prog w A g L m n (eval (.Subscript value (.Slice lo hi none p') pos) env) V := by
  refine he_sub (h.mono fun o m n h => he_slice (h.mono fun a m n h => h.mono fun b m n h => fun ad _ => ?_))
  obtain ⟨l, t, lo', hi', rfl, ha, hb, hz, hV⟩ := h
  refine Ho.mk fun h' ge dr tk' os Q E F N q => ?_
  have hsl : Heap.IsSliceOf h' ad a b .none := ⟨_, (N.news _ (.head _)).1, rfl, rfl⟩
  refine tail_of_ItemOn ⟨"bytes", _, FB.slot_bytes_getitem.lookup, typeIs_bytes _ _ _, getItem_meets (typeIs_bytes _ _ _) (by decide) FB.slot_bytes_getitem FB.entry_bytes_getitem (FB.args_bytes_getitem_2 _ _) (KBc.meets_slice2 l.toArray t _ ha hb)
    ⟨hsl, ?_, fun t' k => ?_⟩⟩ (hs _ _ _) (hg _ _)
  · exact Nat.le_trans (KBc.size_picked_le _ _ _) (by rw [sizeLine_eq]; simpa using hz)
  · rw [KBc.picked_eq]
    exact q _ _ _ _ _ F ⟨fun p hp => N.news p (.tail _ hp), (List.nodup_cons.mp N.nd).2⟩ (by simpa [cut] using hV t')
theorem hp_some {e : Expr} (h : Ho bz prog w A g L m n (eval e env) V) : Ho bz prog w A g L m n (evalPart (some e) env) V := ⟨h.run⟩
theorem ho_addB {b c : List UInt8} {t u : Tok} (hz : b.length + c.length ≤ 16777216) (h : ∀ t, V (.bytes (b ++ c).toArray t) m n) : Ho bz prog w A g L m n (binaryOp .Add (.bytes b.toArray t) (.bytes c.toArray u)) V :=
  Ho.mk fun _ _ _ _ _ _ _ F N q => KBy.add_bytes (by simpa using hz) fun t' _ => q _ _ _ _ _ F N (by simpa using h t')
theorem ho_lenB {l : List UInt8} {t : Tok} (hz : l.length ≤ 1099511627776) (h : ∀ t, V (.int (l.length : Int) t) m n) : Ho bz prog w A g L m n (call (.builtin "len") [.bytes l.toArray t]) V :=
  Ho.mk fun _ _ _ _ _ _ _ F N q => KBw.len_K (b := l.toArray) rfl (by rw [KBw.ints_length]; simpa using hz) (by rw [KBw.ints_length]; exact q _ _ _ _ _ F N (by simpa using h _))
theorem ho_eqB {b c : List UInt8} {t u : Tok} (h : V (.bool (b == c)) m n) : Ho bz prog w A g L m n (compareOp .Eq (.bytes b.toArray t) (.bytes c.toArray u)) V :=
  Ho.mk fun _ _ _ _ _ _ _ F N q => eq_bytes (q _ _ _ _ _ F N h)
theorem ho_neB {b c : List UInt8} {t u : Tok} (h : V (.bool (b != c)) m n) : Ho bz prog w A g L m n (compareOp .NotEq (.bytes b.toArray t) (.bytes c.toArray u)) V :=
  Ho.mk fun _ _ _ _ _ _ _ F N q => ne_bytes (q _ _ _ _ _ F N h)
theorem ho_mkB {a : Addr} {vs : List Value} {k : Nat} {ns : List Int} (hh : A.handled = none) (hm : (a, lstO vs k) ∈ n) (hi : IntsAre vs ns) (hr : ∀ n ∈ ns, 0 ≤ n ∧ n < 256) (hz : vs.length ≤ sizeLine)
    (h : ∀ t, V (.bytes (ns.map fun n => n.toNat.toUInt8).toArray t) m n) : Ho bz prog w A g L m n (call (.type "bytes") [.ref a]) V :=
  Ho.mk fun _ _ _ _ _ _ _ F N q => bytes_K F N.news (isList_of (N.news _ hm).1) hi hr hz hh fun _ t _ F' N' _ => q _ _ _ _ _ F' ⟨N', N.nd⟩ (h t)
theorem ho_abs {a : Int} {t : Tok} (h : ∀ t, V (.int (if a < 0 then -a else a) t) m n) : Ho bz prog w A g L m n (call (.builtin "abs") [.int a t]) V :=
  Ho.mk fun _ _ _ _ _ _ _ F N q => call_abs_int fun u _ => q _ _ _ _ _ F N (h u)
theorem ho_max {a b : Int} {t u : Tok} (hh : A.handled = none) (h : ∀ t, V (.int (if b > a then b else a) t) m n) : Ho bz prog w A g L m n (call (.builtin "max") [.int a t, .int b u]) V :=
  Ho.mk fun _ _ _ _ _ _ _ F N q => max_two_N hh F N.news fun _ _ F' N' => q _ _ _ _ _ F' ⟨N', N.nd⟩ (h _)
theorem ho_min {a b : Int} {t u : Tok} (hh : A.handled = none) (h : ∀ t, V (.int (if b < a then b else a) t) m n) : Ho bz prog w A g L m n (call (.builtin "min") [.int a t, .int b u]) V :=
  Ho.mk fun _ _ _ _ _ _ _ F N q => min_two_N hh F N.news fun _ _ F' N' => q _ _ _ _ _ F' ⟨N', N.nd⟩ (h _)
theorem ho_app {a : Addr} {vs : List Value} {k : Nat} {f : Obj → Led} (U : UpL a (lstO vs k) n f) (hz : vs.length ≤ sizeLine) (h : V .none m (f (lstO (vs ++ [v]) (k + 1)))) : Ho bz prog w A g L m n (call (.builtin "list.append") [.ref a, v]) V :=
  Ho.mk fun _ _ _ _ _ _ _ F N q => append_K (its := vs.toArray) F N.news (U.upd (W.listOf (vs.toArray.push v) (k + 1)) N.nd) (fun _ F' N' => q _ _ _ _ _ F' ⟨N', by rw [U.keys]; exact N.nd⟩ (by simpa using h)) (by simpa using hz)
noncomputable def HoL (bz : Bool) (prog : Program) (w : World) (A : Around) (g : Heap) (L : Addr) (env : Env) (target : Expr) (body : List Stmt) (it : Value) (P : Flow → FMap → Led → Prop) : Nat → FMap → Led → Prop
  | 0, _, _ => False
  | k + 1, m, n => Ho bz prog w A g L m n (pyNext it) fun r m n => match r with
    | none => P .next m n
    | some v => Ho bz prog w A g L m n (letOwnedTupleGo target it v) fun _ m n => Ho bz prog w A g L m n (assign target env v) fun _ m n => Ho bz prog w A g L m n (execs body env) fun f m n => match f with
      | .next => HoL bz prog w A g L env target body it P k m n
      | .cont => HoL bz prog w A g L env target body it P k m n
      | .brk => P .next m n
      | .ret v => P (.ret v) m n
theorem hoC_for {target : Expr} {body : List Stmt} {it : Value} : ∀ {k : Nat} {m : FMap} {n : Led}, HoL bz prog w A g L env target body it P k m n → HoC bz prog w A g L m n (.forLoop target it body [] env) P
  | 0, _, _, h => h.elim
  | k + 1, m, n, h => hoC_tree rfl (by
    show Ho bz prog w A g L m n ((forTurn target it body [] env).onRaise (fun x => do noteFrame x env; theTreesLotGoes x)) _
    refine ho_onr (ho_sa (ho_bind (ho_onr (Ho.mono h fun r m n h => ?_))))
    cases r with
    | none => exact ho_pure ⟨rfl, hoC_tree rfl (by
        show Ho bz prog w A g L m n ((do let f ← execs [] env; pure (.done f)) : Sem Fin) _
        exact ho_bind (hb_nil (ho_pure h)))⟩
    | some v =>
      refine ho_bind (Ho.mono h fun _ m n h => ho_bind (Ho.mono h fun _ m n h => ho_bind (Ho.mono h fun f m n h => ?_)))
      cases f with
      | next => exact ho_pure ⟨rfl, hoC_for h⟩
      | cont => exact ho_pure ⟨rfl, hoC_for h⟩
      | brk => exact ho_pure h
      | ret v => exact ho_pure h)
noncomputable abbrev Kloop (bz : Bool) (prog : Program) (w : World) (A : Around) (g : Heap) (L : Addr) (env : Env) (target : Expr) (body : List Stmt) (P : Flow → FMap → Led → Prop) : Value → FMap → Led → Prop := fun it m n => ∃ k, HoL bz prog w A g L env target body it P k m n
theorem hx_for {target iter : Expr} {body : List Stmt} (h : Ho bz prog w A g L m n (eval iter env) (Kc bz prog w A g L pyIter (Kloop bz prog w A g L env target body P)))
    (hs : ∀ x, foldedSetIterable iter env x = pure x := by intro _; rfl) : Ho bz prog w A g L m n (exec (.For target iter body [] pos) env) P := by
  rw [exec_For]
  refine ho_sa (ho_bind (h.mono fun x _ _ h => ?_))
  rw [hs x]
  exact ho_bind (ho_pure (ho_sa (ho_bind (ho_hold (h.mono fun it _ _ h => ho_onr (ho_run (let ⟨_, h⟩ := h; hoC_for h)))))))
theorem hl_step {target : Expr} {body : List Stmt} {it : Value} {k : Nat} (h : Ho bz prog w A g L m n (pyNext it) fun r m n => match r with
    | none => P .next m n
    | some v => Ho bz prog w A g L m n (letOwnedTupleGo target it v) fun _ m n => Ho bz prog w A g L m n (assign target env v) fun _ m n => Ho bz prog w A g L m n (execs body env) fun f m n => match f with
      | .next => HoL bz prog w A g L env target body it P k m n
      | .cont => HoL bz prog w A g L env target body it P k m n
      | .brk => P .next m n
      | .ret v => P (.ret v) m n) : HoL bz prog w A g L env target body it P (k + 1) m n := h
noncomputable def HoW (bz : Bool) (prog : Program) (w : World) (A : Around) (g : Heap) (L : Addr) (env : Env) (test : Expr) (body : List Stmt) (P : Flow → FMap → Led → Prop) : Nat → FMap → Led → Prop
  | 0, _, _ => False
  | k + 1, m, n => Ho bz prog w A g L m n (isTrue test env (eval test env)) fun b m n => if b = true then Ho bz prog w A g L m n (execs body env) fun f m n => match f with
      | .next => HoW bz prog w A g L env test body P k m n
      | .cont => HoW bz prog w A g L env test body P k m n
      | .brk => P .next m n
      | .ret v => P (.ret v) m n
    else P .next m n
theorem hoC_while {test : Expr} {body : List Stmt} : ∀ {k : Nat} {m : FMap} {n : Led}, HoW bz prog w A g L env test body P k m n → HoC bz prog w A g L m n (.whileLoop test body [] env) P
  | 0, _, _, h => h.elim
  | k + 1, m, n, h => hoC_tree rfl (by
    show Ho bz prog w A g L m n ((whileTurn test body [] env).onRaise (fun x => do noteFrame x env; theTreesLotGoes x)) _
    refine ho_onr (ho_bind (Ho.mono h fun b m n h => ?_))
    cases b with
    | false => exact ho_bind (hb_nil (ho_pure h))
    | true =>
      refine ho_bind (Ho.mono h fun f m n h => ?_)
      cases f with
      | next => exact ho_pure ⟨rfl, hoC_while h⟩
      | cont => exact ho_pure ⟨rfl, hoC_while h⟩
      | brk => exact ho_pure h
      | ret v => exact ho_pure h)
theorem hx_while {test : Expr} {body : List Stmt} (k : Nat) (h : HoW bz prog w A g L env test body P k m n) : Ho bz prog w A g L m n (exec (.While test body [] pos) env) P := by
  rw [exec_While]
  exact ho_sa (ho_onr (ho_run (hoC_while h)))
theorem hg_name {it : Value} (h : U () m n) : Ho bz prog w A g L m n (letOwnedTupleGo (.Name x pos) it v) U := ho_pure h
theorem hs_name (h : Ho bz prog w A g L m n (storeName env x v) U) : Ho bz prog w A g L m n (assign (.Name x pos) env v) U := by
  show Ho bz prog w A g L m n (do standAt pos; bindName env x v) U
  exact ho_sa (hb_name h)
variable {I : Addr} {o : Obj} {f : Obj → Led} {R : Option Value → FMap → Led → Prop} {i : Nat}
theorem pi_list {a : Addr} {vs : List Value} {k : Nat} (hm : (a, lstO vs k) ∈ n) (h : ∀ I o, (∀ p ∈ n, p.1 ≠ I) → ItO "list_iterator" (.ref a) 0 o → V (.ref I) m ((I, o) :: n)) : Ho bz prog w A g L m n (pyIter (.ref a)) V :=
  Ho.mk fun _ _ _ _ _ _ _ F N q => wpAny_pyIter_list (isList_of (N.news _ hm).1) (q _ _ _ _ _ (Fr.kept F fun _ _ e => Heap.get?_push_of_some _ e) (Nw.cons F N (Heap.get?_push_size _ rfl) fun _ _ e => Heap.get?_push_of_some _ e) (h _ _ (fun _ hp => N.old hp) ⟨rfl, rfl⟩))
theorem pi_tupK {K : Frag} {p : Program} {loose : List Str} (G : Gd K p loose g) {a : Addr} {vs : List Value} {dd : Option Addr} {ep : Nat} {sl : Array (Option Value)} (hl : K.lookup a = some ⟨.type "tuple", dd, .seq vs.toArray ep, sl⟩) (h : ∀ I o, (∀ p ∈ n, p.1 ≠ I) → ItO "tuple_iterator" (.ref a) 0 o → V (.ref I) m ((I, o) :: n)) : Ho bz prog w A g L m n (pyIter (.ref a)) V :=
  Ho.mk fun _ _ _ _ _ _ _ F N q => wpAny_pyIter_tuple ⟨_, G.X.keeps F.keep _ _ hl, rfl, _, rfl⟩ (q _ _ _ _ _ (Fr.kept F fun _ _ e => Heap.get?_push_of_some _ e) (Nw.cons F N (Heap.get?_push_size _ rfl) fun _ _ e => Heap.get?_push_of_some _ e) (h _ _ (fun _ hp => N.old hp) ⟨rfl, rfl⟩))
theorem pi_bytes {l : List UInt8} {t : Tok} (h : ∀ I o, (∀ p ∈ n, p.1 ≠ I) → ItO "bytes_iterator" (.bytes l.toArray t) 0 o → V (.ref I) m ((I, o) :: n)) : Ho bz prog w A g L m n (pyIter (.bytes l.toArray t)) V :=
  Ho.mk fun _ _ _ _ _ _ _ F N q => KBw.pyIter_bytes (q _ _ _ _ _ (Fr.kept F fun _ _ e => Heap.get?_push_of_some _ e) (Nw.cons F N (Heap.get?_push_size _ rfl) fun _ _ e => Heap.get?_push_of_some _ e) (h _ _ (fun _ hp => N.old hp) ⟨rfl, rfl⟩))
theorem pn_list {a : Addr} {vs : List Value} {k : Nat} (U : UpL I o n f) (ho : ItO "list_iterator" (.ref a) i o) (hm : (a, lstO vs k) ∈ n) (hx : vs[i]? = some v) (h : ∀ o', ItO "list_iterator" (.ref a) (i + 1) o' → R (some v) m (f o')) : Ho bz prog w A g L m n (pyNext (.ref I)) R :=
  Ho.mk fun _ _ _ _ _ _ _ F N q => wpAny_pyNext_list_item ⟨_, (N.news _ U.mem).1, ho⟩ (isList_of (N.news _ hm).1) (by simpa using hx) fun h' hi hs => by
    obtain ⟨o', e', ho'⟩ := hi
    exact q _ _ _ _ _ (Fr.but F (N.news _ U.mem).2.1 (N.news _ U.mem).2.2 fun b x hb e => (hs.2 b hb).trans e) (N.upd U e' fun b x hb e => (hs.2 b hb).trans e) (h o' ho')
theorem pn_list0 {a : Addr} {vs : List Value} {k : Nat} (hh : A.handled = none) (hI : (I, o) ∈ n) (ho : ItO "list_iterator" (.ref a) i o) (hm : (a, lstO vs k) ∈ n) (hx : vs[i]? = none) (U : RmL I n n') (h : R none m n') : Ho bz prog w A g L m n (pyNext (.ref I)) R :=
  Ho.mk fun _ _ _ _ _ _ _ F N q => wpAny_pyNext_list_end hh ⟨_, (N.news _ hI).1, ho⟩ (isList_of (N.news _ hm).1) (by simpa using hx) fun h' hs =>
    q _ _ _ _ _ (Fr.but F (N.news _ hI).2.1 (N.news _ hI).2.2 fun b x hb e => hs b x hb e) (N.rm U fun b x hb e => hs b x hb e) h
theorem pn_tupK {K : Frag} {p : Program} {loose : List Str} (G : Gd K p loose g) {a : Addr} {vs : List Value} {dd : Option Addr} {ep : Nat} {sl : Array (Option Value)} (hl : K.lookup a = some ⟨.type "tuple", dd, .seq vs.toArray ep, sl⟩) (U : UpL I o n f) (ho : ItO "tuple_iterator" (.ref a) i o) (hx : vs[i]? = some v) (h : ∀ o', ItO "tuple_iterator" (.ref a) (i + 1) o' → R (some v) m (f o')) : Ho bz prog w A g L m n (pyNext (.ref I)) R :=
  Ho.mk fun _ _ _ _ _ _ _ F N q => wpAny_pyNext_tuple_item ⟨_, (N.news _ U.mem).1, ho⟩ ⟨_, G.X.keeps F.keep _ _ hl, rfl, _, rfl⟩ (by simpa using hx) fun h' hi hs => by
    obtain ⟨o', e', ho'⟩ := hi
    exact q _ _ _ _ _ (Fr.but F (N.news _ U.mem).2.1 (N.news _ U.mem).2.2 fun b x hb e => (hs.2 b hb).trans e) (N.upd U e' fun b x hb e => (hs.2 b hb).trans e) (h o' ho')
theorem pn_bytes {l : List UInt8} {tb : Tok} {c : UInt8} (U : UpL I o n f) (ho : ItO "bytes_iterator" (.bytes l.toArray tb) i o) (hx : l[i]? = some c) (h : ∀ t o', ItO "bytes_iterator" (.bytes l.toArray tb) (i + 1) o' → R (some (.int (c.toNat : Int) t)) m (f o')) : Ho bz prog w A g L m n (pyNext (.ref I)) R :=
  Ho.mk fun _ _ _ _ _ _ _ F N q => KBw.next_item (b := l.toArray) (t := tb) (i := i) (c := c) ⟨_, (N.news _ U.mem).1, ho⟩ (by simpa using hx) fun h' hi hs => by
    obtain ⟨o', e', ho'⟩ := hi
    exact q _ _ _ _ _ (Fr.but F (N.news _ U.mem).2.1 (N.news _ U.mem).2.2 fun b x hb e => (hs.2 b hb).trans e) (N.upd U e' fun b x hb e => (hs.2 b hb).trans e) (h _ o' ho')
theorem pn_bytes0 {l : List UInt8} {tb : Tok} (hh : A.handled = none) (hI : (I, o) ∈ n) (ho : ItO "bytes_iterator" (.bytes l.toArray tb) i o) (hx : l[i]? = none) (U : RmL I n n') (h : R none m n') : Ho bz prog w A g L m n (pyNext (.ref I)) R :=
  Ho.mk fun _ _ _ _ _ _ _ F N q => KBw.next_end (b := l.toArray) (t := tb) (i := i) hh ⟨_, (N.news _ hI).1, ho⟩ (by simpa using hx) fun h' hs =>
    q _ _ _ _ _ (Fr.but F (N.news _ hI).2.1 (N.news _ hI).2.2 fun b x hb e => hs b x hb e) (N.rm U fun b x hb e => hs b x hb e) h
end
end
section
noncomputable def nthO : List (Option Value) → Nat → Option Value
  | [], _ => none
  | a :: _, 0 => a
  | _ :: l, k + 1 => nthO l k
noncomputable def setO : List (Option Value) → Nat → Value → List (Option Value)
  | [], _, _ => []
  | _ :: l, 0, v => some v :: l
  | a :: l, k + 1, v => a :: setO l k v
noncomputable def fm : List (Str × NameKind) → List (Option Value) → FMap
  | [], _ => fun _ => none
  | _, [] => fun _ => none
  | p :: ns, v :: vs => fun y => if y = p.1 then v else fm ns vs y
noncomputable def lva : List (Str × NameKind) → Str → Nat → Bool
  | [], _, _ => false
  | p :: _, x, 0 => p.1 == x && p.2 == .local
  | p :: ns, x, k + 1 => !(p.1 == x) && lva ns x k
noncomputable def lv (ns : List (Str × NameKind)) (x : Str) (i : Nat) : Bool := lva ns x i && !(x == ("__debug__" : Str))
noncomputable def gv (ns : List (Str × NameKind)) (x : Str) : Bool := ns.lookup x == some .globalImplicit && !(x == ("__debug__" : Str))
theorem lva_kind : ∀ {ns : List (Str × NameKind)} {x : Str} {i : Nat}, lva ns x i = true → ns.lookup x = some .local
  | p :: _, x, 0, h => by
    obtain ⟨h1, h2⟩ := Bool.and_eq_true_iff.mp h
    have e : p.1 = x := by simpa using h1
    have k : p.2 = .local := by simpa using h2
    obtain ⟨a, b⟩ := p
    cases e; cases k
    simp [List.lookup_cons]
  | p :: ns, x, k + 1, h => by
    obtain ⟨h1, h2⟩ := Bool.and_eq_true_iff.mp h
    have e : ¬ p.1 = x := by simpa using h1
    obtain ⟨a, b⟩ := p
    rw [List.lookup_cons, show (x == a) = false from by simpa using fun q => e q.symm]
    exact lva_kind h2
theorem fm_get : ∀ {ns : List (Str × NameKind)} {vs : List (Option Value)} {x : Str} {i : Nat} {v : Value}, lva ns x i = true → nthO vs i = some v → fm ns vs x = some v
  | p :: _, a :: _, x, 0, v, h, e => by
    obtain ⟨h1, _⟩ := Bool.and_eq_true_iff.mp h
    have q : p.1 = x := by simpa using h1
    show (if x = p.1 then a else _) = _
    rw [if_pos q.symm]; exact e
  | p :: ns, a :: vs, x, k + 1, v, h, e => by
    obtain ⟨h1, h2⟩ := Bool.and_eq_true_iff.mp h
    have q : ¬ p.1 = x := by simpa using h1
    show (if x = p.1 then a else _) = _
    rw [if_neg fun y => q y.symm]; exact fm_get h2 e
  | _ :: _, [], _, 0, _, _, e => by cases e
  | _ :: _, [], _, _ + 1, _, _, e => by cases e
theorem fm_set : ∀ {ns : List (Str × NameKind)} {vs : List (Option Value)} {x : Str} {i : Nat} {v : Value}, lva ns x i = true → i < vs.length → up x v (fm ns vs) = fm ns (setO vs i v)
  | p :: ns, a :: vs, x, 0, v, h, _ => by
    obtain ⟨h1, _⟩ := Bool.and_eq_true_iff.mp h
    have q : p.1 = x := by simpa using h1
    funext y
    show (if y = x then some v else if y = p.1 then a else fm ns vs y) = if y = p.1 then some v else fm ns vs y
    rw [q]; split <;> rfl
  | p :: ns, a :: vs, x, k + 1, v, h, hl => by
    obtain ⟨h1, h2⟩ := Bool.and_eq_true_iff.mp h
    have q : ¬ p.1 = x := by simpa using h1
    have ih := fm_set (v := v) h2 (Nat.lt_of_succ_lt_succ hl)
    funext y
    show (if y = x then some v else if y = p.1 then a else fm ns vs y) = if y = p.1 then a else fm ns (setO vs k v) y
    rw [← ih]
    show _ = if y = p.1 then a else if y = x then some v else fm ns vs y
    by_cases hy : y = x
    · rw [if_pos hy, if_neg fun z => q (z.symm.trans hy), if_pos hy]
    · rw [if_neg hy, if_neg hy]
  | _ :: _, [], _, _, _, _, hl => absurd hl (Nat.not_lt_zero _)
noncomputable def okn : List (Str × NameKind) → List (Str × Value) → Bool
  | _, [] => true
  | [], _ :: _ => false
  | p :: ns, b :: bs => p.1 == b.1 && ns.all (fun q => !(q.1 == p.1)) && okn ns bs
noncomputable def padO : Nat → List (Str × Value) → List (Option Value)
  | 0, _ => []
  | k + 1, [] => none :: padO k []
  | k + 1, b :: bs => some b.2 :: padO k bs
theorem padO_nil (ns : List (Str × NameKind)) (y : Str) : ∀ k, fm ns (padO k []) y = none := by
  induction ns with
  | nil => intro k; unfold fm; rfl
  | cons p ns ih =>
    intro k
    cases k with
    | zero => rfl
    | succ k =>
      show (if y = p.1 then none else fm ns (padO k []) y) = none
      rw [ih k]; split <;> rfl
theorem okn_keys : ∀ {ns : List (Str × NameKind)} {bs : List (Str × Value)}, okn ns bs = true → ∀ b ∈ bs, ∃ p ∈ ns, p.1 = b.1
  | [], _ :: _, h, _, _ => by cases h
  | p :: ns, b :: bs, h, c, hc => by
    simp only [okn, Bool.and_eq_true] at h
    rcases List.mem_cons.mp hc with e | e
    · exact ⟨p, .head _, by rw [e]; simpa using h.1.1⟩
    · obtain ⟨q, hq, e'⟩ := okn_keys h.2 c e
      exact ⟨q, .tail _ hq, e'⟩
theorem fm_lookup : ∀ {ns : List (Str × NameKind)} {bs : List (Str × Value)} (y : Str), okn ns bs = true → fm ns (padO ns.length bs) y = bs.lookup y
  | ns, [], y, _ => by rw [padO_nil]; rfl
  | p :: ns, b :: bs, y, h => by
    simp only [okn, Bool.and_eq_true] at h
    have e : p.1 = b.1 := by simpa using h.1.1
    show (if y = p.1 then some b.2 else fm ns (padO ns.length bs) y) = _
    obtain ⟨k, v⟩ := b
    rw [List.lookup_cons]
    by_cases hy : y = p.1
    · rw [if_pos hy, show (y == k) = true from by simpa using hy.trans e]
    · rw [if_neg hy, show (y == k) = false from by simpa using fun q => hy (q.trans e.symm)]
      exact fm_lookup y h.2
theorem okn_nodup : ∀ {ns : List (Str × NameKind)} {bs : List (Str × Value)}, okn ns bs = true → (bs.map (·.1)).Nodup
  | _, [], _ => .nil
  | p :: ns, b :: bs, h => by
    have h' := h
    simp only [okn, Bool.and_eq_true] at h
    refine List.nodup_cons.mpr ⟨fun q => ?_, okn_nodup h.2⟩
    obtain ⟨c, hc, e⟩ := List.mem_map.mp q
    obtain ⟨r, hr, e'⟩ := okn_keys h.2 c hc
    have := List.all_eq_true.mp h.1.2 r hr
    have e1 : p.1 = b.1 := by simpa using h.1.1
    exact absurd (e'.trans (e.trans e1.symm)) (by simpa using this)
theorem lookup_rev {bs : List (Str × Value)} (d : (bs.map (·.1)).Nodup) (y : Str) : bs.reverse.lookup y = bs.lookup y := by
  induction bs with
  | nil => rfl
  | cons b bs ih =>
    obtain ⟨k, v⟩ := b
    have d' := List.nodup_cons.mp d
    rw [List.reverse_cons, List.lookup_append, ih d'.2, List.lookup_cons]
    by_cases hy : (y == k) = true
    · rw [hy]
      have : bs.lookup y = none := by
        cases q : bs.lookup y with
        | none => rfl
        | some z =>
          exfalso
          refine d'.1 ?_
          have e : y = k := by simpa using hy
          subst e
          clear ih d d' hy
          induction bs with
          | nil => cases q
          | cons c cs ih =>
            obtain ⟨k2, v2⟩ := c
            rw [List.lookup_cons] at q
            by_cases h2 : (y == k2) = true
            · have : y = k2 := by simpa using h2
              subst this; exact .head _
            · rw [Bool.not_eq_true] at h2
              rw [h2] at q; exact .tail _ (ih q)
      rw [this]; simp [List.lookup_cons, hy]
    · rw [Bool.not_eq_true] at hy
      rw [hy]
      cases q : bs.lookup y <;> simp [List.lookup_cons, hy, q]
noncomputable def okk (ns : List (Str × NameKind)) (ks : List Str) : Bool := okn ns (ks.map fun k => (k, .none)) && ks.all (fun k => ns.lookup k == some .local) && ns.all (fun x => x.2 != .cell)
theorem okn_of : ∀ {ns : List (Str × NameKind)} {bs cs : List (Str × Value)}, bs.map (·.1) = cs.map (·.1) → okn ns bs = true → okn ns cs = true
  | _, [], [], _, h => h
  | [], _ :: _, _ :: _, _, h => by cases h
  | p :: ns, b :: bs, c :: cs, e, h => by
    simp only [List.map_cons, List.cons.injEq] at e
    simp only [okn, Bool.and_eq_true] at h ⊢
    exact ⟨⟨by rw [← e.1]; exact h.1.1, h.1.2⟩, okn_of e.2 h.2⟩
  | _, [], _ :: _, e, _ => by cases e
  | _, _ :: _, [], e, _ => by cases e
theorem fm_start {ns : List (Str × NameKind)} {bs : List (Str × Value)} (h : okn ns bs = true) : lk bs.reverse = fm ns (padO ns.length bs) := by
  funext y
  rw [fm_lookup y h]
  exact lookup_rev (okn_nodup h) y
section
variable {bz : Bool} {prog : Program} {w : World} {A : Around} {g : Heap} {L : Addr} {n : Led} {V : Value → FMap → Led → Prop} {U : Unit → FMap → Led → Prop} {x : Str} {pos : Pos} {v : Value} {cn : Str} {cs : Scope} {a : Addr} {ccd : Value} {cl : List (Str × Addr)} {vs : List (Option Value)} {m : FMap} {ns : List (Str × NameKind)}
theorem ho_frame {α : Type} {t : Sem α} {P : α → FMap → Led → Prop} (h : let us := vs; Ho bz prog w A g L (fm ns us) n t P) : Ho bz prog w A g L (fm ns vs) n t P := h
theorem ho_ledger {α : Type} {t : Sem α} {m : FMap} {P : α → FMap → Led → Prop} (h : let l := n; Ho bz prog w A g L m l t P) : Ho bz prog w A g L m n t P := h
theorem he_lv {i : Nat} (e : lv ns x i = true) (hv : nthO vs i = some v) (h : V v (fm ns vs) n) (hk : cs.kind = .function := by rfl) (hn : cs.names = ns := by rfl) : Ho bz prog w A g L (fm ns vs) n (eval (.Name x pos) (envX cn cs L a ccd cl)) V := by
  subst hn
  have e' := Bool.and_eq_true_iff.mp e
  exact he_loc (fm_get e'.1 hv) h hk (lva_kind e'.1) (by simpa using e'.2) rfl
theorem ho_sv {i : Nat} (e : lv ns x i = true) (hl : Nat.blt i vs.length = true) (h : U () (fm ns (setO vs i v)) n) (hk : cs.kind = .function := by rfl) (hn : cs.names = ns := by rfl) : Ho bz prog w A g L (fm ns vs) n (storeName (envX cn cs L a ccd cl) x v) U := by
  subst hn
  have e' := Bool.and_eq_true_iff.mp e
  exact ho_st (by rw [fm_set e'.1 (Nat.le_of_ble_eq_true hl)]; exact h) hk (lva_kind e'.1) rfl
theorem he_gv {K : Frag} {p : Program} {loose : List Str} (G : Gd K p loose g) (e : gv ns x = true) (q : nsIn K mainGlobals x = some (some v)) (h : V v m n) (hk : cs.kind = .function := by rfl) (hn : cs.names = ns := by rfl) : Ho bz prog w A g L m n (eval (.Name x pos) (envX cn cs L a ccd cl)) V := by
  subst hn
  have e' := Bool.and_eq_true_iff.mp e
  exact he_glob G q h hk (by have := e'.1; exact beq_iff_eq.mp this) (by simpa using e'.2)
theorem he_bv {K : Frag} {p : Program} {loose : List Str} (G : Gd K p loose g) (e : gv ns x = true) (q : nsIn K mainGlobals x = some none) (hv : bootBuiltins x = some v) (hn' : (x == ("__name__" : Str)) = false) (h : V v m n) (hk : cs.kind = .function := by rfl) (hn : cs.names = ns := by rfl) : Ho bz prog w A g L m n (eval (.Name x pos) (envX cn cs L a ccd cl)) V := by
  subst hn
  have e' := Bool.and_eq_true_iff.mp e
  exact he_bltn G q hv (by simpa using hn') h hk (by have := e'.1; exact beq_iff_eq.mp this) (by simpa using e'.2)
end
end
section
noncomputable abbrev ns_close_frame_in : List (Str × NameKind) := [("frame", .local), ("packet_kind", .local), ("APPLICATION_ERROR_CODE", .globalImplicit)]
theorem ok_close_frame_in : okk ns_close_frame_in ["frame", "packet_kind"] = true := by decide +kernel
theorem lva_close_frame_in : lv ns_close_frame_in "frame" 0 = true ∧ lv ns_close_frame_in "packet_kind" 1 = true ∧ gv ns_close_frame_in "APPLICATION_ERROR_CODE" = true := by decide +kernel
abbrev lv_close_frame_in_frame := lva_close_frame_in.1
abbrev lv_close_frame_in_packet_kind := lva_close_frame_in.2.1
abbrev gv_close_frame_in_APPLICATION_ERROR_CODE := lva_close_frame_in.2.2
noncomputable abbrev ns_Closing_init : List (Str × NameKind) := [("self", .local), ("OPEN", .globalImplicit)]
theorem ok_Closing_init : okk ns_Closing_init ["self"] = true := by decide +kernel
theorem lva_Closing_init : lv ns_Closing_init "self" 0 = true ∧ gv ns_Closing_init "OPEN" = true := by decide +kernel
abbrev lv_Closing_init_self := lva_Closing_init.1
abbrev gv_Closing_init_OPEN := lva_Closing_init.2
noncomputable abbrev ns_Closing_close_now : List (Str × NameKind) := [("self", .local), ("frame", .local), ("now", .local), ("probe_wait", .local), ("OPEN", .globalImplicit), ("CLOSING", .globalImplicit), ("PERIODS", .globalImplicit)]
theorem ok_Closing_close_now : okk ns_Closing_close_now ["self", "frame", "now", "probe_wait"] = true := by decide +kernel
theorem lva_Closing_close_now : lv ns_Closing_close_now "self" 0 = true ∧ lv ns_Closing_close_now "frame" 1 = true ∧ lv ns_Closing_close_now "now" 2 = true ∧ lv ns_Closing_close_now "probe_wait" 3 = true ∧ gv ns_Closing_close_now "OPEN" = true ∧ gv ns_Closing_close_now "CLOSING" = true ∧ gv ns_Closing_close_now "PERIODS" = true := by decide +kernel
abbrev lv_Closing_close_now_self := lva_Closing_close_now.1
abbrev lv_Closing_close_now_frame := lva_Closing_close_now.2.1
abbrev lv_Closing_close_now_now := lva_Closing_close_now.2.2.1
abbrev lv_Closing_close_now_probe_wait := lva_Closing_close_now.2.2.2.1
abbrev gv_Closing_close_now_OPEN := lva_Closing_close_now.2.2.2.2.1
abbrev gv_Closing_close_now_CLOSING := lva_Closing_close_now.2.2.2.2.2.1
abbrev gv_Closing_close_now_PERIODS := lva_Closing_close_now.2.2.2.2.2.2
noncomputable abbrev ns_Closing_on_packet : List (Str × NameKind) := [("self", .local), ("CLOSING", .globalImplicit)]
theorem ok_Closing_on_packet : okk ns_Closing_on_packet ["self"] = true := by decide +kernel
theorem lva_Closing_on_packet : lv ns_Closing_on_packet "self" 0 = true ∧ gv ns_Closing_on_packet "CLOSING" = true := by decide +kernel
abbrev lv_Closing_on_packet_self := lva_Closing_on_packet.1
abbrev gv_Closing_on_packet_CLOSING := lva_Closing_on_packet.2
noncomputable abbrev ns_Closing_on_time : List (Str × NameKind) := [("self", .local), ("now", .local), ("CLOSED", .globalImplicit)]
theorem ok_Closing_on_time : okk ns_Closing_on_time ["self", "now"] = true := by decide +kernel
theorem lva_Closing_on_time : lv ns_Closing_on_time "self" 0 = true ∧ lv ns_Closing_on_time "now" 1 = true ∧ gv ns_Closing_on_time "CLOSED" = true := by decide +kernel
abbrev lv_Closing_on_time_self := lva_Closing_on_time.1
abbrev lv_Closing_on_time_now := lva_Closing_on_time.2.1
abbrev gv_Closing_on_time_CLOSED := lva_Closing_on_time.2.2
noncomputable abbrev ns_Closing_next_time : List (Str × NameKind) := [("self", .local)]
theorem ok_Closing_next_time : okk ns_Closing_next_time ["self"] = true := by decide +kernel
theorem lva_Closing_next_time : lv ns_Closing_next_time "self" 0 = true := by decide +kernel
abbrev lv_Closing_next_time_self := lva_Closing_next_time
noncomputable abbrev ns_put_whole : List (Str × NameKind) := [("n", .local), ("size", .local), ("found", .local), ("place", .local), ("QuicError", .globalImplicit), ("INTERNAL_ERROR", .globalImplicit), ("bytearray", .globalImplicit), ("range", .globalImplicit), ("bytes", .globalImplicit)]
theorem ok_put_whole : okk ns_put_whole ["n", "size"] = true := by decide +kernel
theorem lva_put_whole : lv ns_put_whole "n" 0 = true ∧ lv ns_put_whole "size" 1 = true ∧ lv ns_put_whole "found" 2 = true ∧ lv ns_put_whole "place" 3 = true ∧ gv ns_put_whole "QuicError" = true ∧ gv ns_put_whole "INTERNAL_ERROR" = true ∧ gv ns_put_whole "bytearray" = true ∧ gv ns_put_whole "range" = true ∧ gv ns_put_whole "bytes" = true := by decide +kernel
abbrev lv_put_whole_n := lva_put_whole.1
abbrev lv_put_whole_size := lva_put_whole.2.1
abbrev lv_put_whole_found := lva_put_whole.2.2.1
abbrev lv_put_whole_place := lva_put_whole.2.2.2.1
abbrev gv_put_whole_bytearray := lva_put_whole.2.2.2.2.2.2.1
abbrev gv_put_whole_range := lva_put_whole.2.2.2.2.2.2.2.1
abbrev gv_put_whole_bytes := lva_put_whole.2.2.2.2.2.2.2.2
noncomputable abbrev ns_get_whole : List (Str × NameKind) := [("data", .local), ("at", .local), ("size", .local), ("found", .local), ("octet", .local), ("len", .globalImplicit), ("Short", .globalImplicit)]
theorem ok_get_whole : okk ns_get_whole ["data", "at", "size"] = true := by decide +kernel
theorem lva_get_whole : lv ns_get_whole "data" 0 = true ∧ lv ns_get_whole "at" 1 = true ∧ lv ns_get_whole "size" 2 = true ∧ lv ns_get_whole "found" 3 = true ∧ lv ns_get_whole "octet" 4 = true ∧ gv ns_get_whole "len" = true ∧ gv ns_get_whole "Short" = true := by decide +kernel
abbrev lv_get_whole_data := lva_get_whole.1
abbrev lv_get_whole_at := lva_get_whole.2.1
abbrev lv_get_whole_size := lva_get_whole.2.2.1
abbrev lv_get_whole_found := lva_get_whole.2.2.2.1
abbrev lv_get_whole_octet := lva_get_whole.2.2.2.2.1
abbrev gv_get_whole_len := lva_get_whole.2.2.2.2.2.1
noncomputable abbrev ns_varint_size : List (Str × NameKind) := [("n", .local), ("size", .local), ("VARINT_SIZES", .globalImplicit), ("QuicError", .globalImplicit), ("INTERNAL_ERROR", .globalImplicit)]
theorem ok_varint_size : okk ns_varint_size ["n"] = true := by decide +kernel
theorem lva_varint_size : lv ns_varint_size "n" 0 = true ∧ lv ns_varint_size "size" 1 = true ∧ gv ns_varint_size "VARINT_SIZES" = true ∧ gv ns_varint_size "QuicError" = true ∧ gv ns_varint_size "INTERNAL_ERROR" = true := by decide +kernel
abbrev lv_varint_size_n := lva_varint_size.1
abbrev lv_varint_size_size := lva_varint_size.2.1
abbrev gv_varint_size_VARINT_SIZES := lva_varint_size.2.2.1
noncomputable abbrev ns_put_varint : List (Str × NameKind) := [("n", .local), ("size", .local), ("least", .local), ("varint_size", .globalImplicit), ("VARINT_SIZES", .globalImplicit), ("QuicError", .globalImplicit), ("INTERNAL_ERROR", .globalImplicit), ("put_whole", .globalImplicit)]
theorem ok_put_varint : okk ns_put_varint ["n", "size"] = true := by decide +kernel
theorem lva_put_varint : lv ns_put_varint "n" 0 = true ∧ lv ns_put_varint "size" 1 = true ∧ lv ns_put_varint "least" 2 = true ∧ gv ns_put_varint "varint_size" = true ∧ gv ns_put_varint "VARINT_SIZES" = true ∧ gv ns_put_varint "QuicError" = true ∧ gv ns_put_varint "INTERNAL_ERROR" = true ∧ gv ns_put_varint "put_whole" = true := by decide +kernel
abbrev lv_put_varint_n := lva_put_varint.1
abbrev lv_put_varint_size := lva_put_varint.2.1
abbrev lv_put_varint_least := lva_put_varint.2.2.1
abbrev gv_put_varint_varint_size := lva_put_varint.2.2.2.1
abbrev gv_put_varint_VARINT_SIZES := lva_put_varint.2.2.2.2.1
abbrev gv_put_varint_put_whole := lva_put_varint.2.2.2.2.2.2.2
noncomputable abbrev ns_get_varint : List (Str × NameKind) := [("data", .local), ("at", .local), ("size", .local), ("len", .globalImplicit), ("Short", .globalImplicit), ("VARINT_SIZES", .globalImplicit), ("get_whole", .globalImplicit)]
theorem ok_get_varint : okk ns_get_varint ["data", "at"] = true := by decide +kernel
theorem lva_get_varint : lv ns_get_varint "data" 0 = true ∧ lv ns_get_varint "at" 1 = true ∧ lv ns_get_varint "size" 2 = true ∧ gv ns_get_varint "len" = true ∧ gv ns_get_varint "Short" = true ∧ gv ns_get_varint "VARINT_SIZES" = true ∧ gv ns_get_varint "get_whole" = true := by decide +kernel
abbrev lv_get_varint_data := lva_get_varint.1
abbrev lv_get_varint_at := lva_get_varint.2.1
abbrev lv_get_varint_size := lva_get_varint.2.2.1
abbrev gv_get_varint_len := lva_get_varint.2.2.2.1
abbrev gv_get_varint_VARINT_SIZES := lva_get_varint.2.2.2.2.2.1
abbrev gv_get_varint_get_whole := lva_get_varint.2.2.2.2.2.2
noncomputable abbrev ns_put_numbers : List (Str × NameKind) := [("numbers", .local)]
theorem ok_put_numbers : okk ns_put_numbers ["numbers"] = true := by decide +kernel
theorem lva_put_numbers : lv ns_put_numbers "numbers" 0 = true := by decide +kernel
abbrev lv_put_numbers_numbers := lva_put_numbers
noncomputable abbrev ns_put_counted : List (Str × NameKind) := [("data", .local), ("put_varint", .globalImplicit), ("len", .globalImplicit)]
theorem ok_put_counted : okk ns_put_counted ["data"] = true := by decide +kernel
theorem lva_put_counted : lv ns_put_counted "data" 0 = true ∧ gv ns_put_counted "put_varint" = true ∧ gv ns_put_counted "len" = true := by decide +kernel
abbrev lv_put_counted_data := lva_put_counted.1
abbrev gv_put_counted_put_varint := lva_put_counted.2.1
abbrev gv_put_counted_len := lva_put_counted.2.2
noncomputable abbrev ns_put_close : List (Str × NameKind) := [("f", .local), ("kind", .local), ("code", .local), ("frame_type", .local), ("reason", .local), ("put_numbers", .globalImplicit), ("CLOSE_APPLICATION", .globalImplicit), ("put_counted", .globalImplicit), ("CLOSE", .globalImplicit)]
theorem ok_put_close : okk ns_put_close ["f"] = true := by decide +kernel
theorem lva_put_close : lv ns_put_close "f" 0 = true ∧ lv ns_put_close "kind" 1 = true ∧ lv ns_put_close "code" 2 = true ∧ lv ns_put_close "frame_type" 3 = true ∧ lv ns_put_close "reason" 4 = true ∧ gv ns_put_close "put_numbers" = true ∧ gv ns_put_close "CLOSE_APPLICATION" = true ∧ gv ns_put_close "put_counted" = true ∧ gv ns_put_close "CLOSE" = true := by decide +kernel
abbrev lv_put_close_f := lva_put_close.1
abbrev lv_put_close_kind := lva_put_close.2.1
abbrev lv_put_close_code := lva_put_close.2.2.1
abbrev lv_put_close_frame_type := lva_put_close.2.2.2.1
abbrev lv_put_close_reason := lva_put_close.2.2.2.2.1
abbrev gv_put_close_put_numbers := lva_put_close.2.2.2.2.2.1
abbrev gv_put_close_CLOSE_APPLICATION := lva_put_close.2.2.2.2.2.2.1
abbrev gv_put_close_put_counted := lva_put_close.2.2.2.2.2.2.2.1
abbrev gv_put_close_CLOSE := lva_put_close.2.2.2.2.2.2.2.2
noncomputable abbrev ns_put_frame : List (Str × NameKind) := [("f", .local), ("kind", .local), ("found", .local), ("bytes", .globalImplicit), ("NUMBER_FRAMES", .globalImplicit), ("put_numbers", .globalImplicit), ("list", .globalImplicit), ("put_ack", .globalImplicit), ("put_stream", .globalImplicit), ("put_new_cid", .globalImplicit), ("put_close", .globalImplicit), ("put_octets_frame", .globalImplicit), ("QuicError", .globalImplicit), ("INTERNAL_ERROR", .globalImplicit)]
theorem ok_put_frame : okk ns_put_frame ["f"] = true := by decide +kernel
theorem lva_put_frame : lv ns_put_frame "f" 0 = true ∧ lv ns_put_frame "kind" 1 = true ∧ lv ns_put_frame "found" 2 = true ∧ gv ns_put_frame "bytes" = true ∧ gv ns_put_frame "NUMBER_FRAMES" = true ∧ gv ns_put_frame "put_numbers" = true ∧ gv ns_put_frame "list" = true ∧ gv ns_put_frame "put_ack" = true ∧ gv ns_put_frame "put_stream" = true ∧ gv ns_put_frame "put_new_cid" = true ∧ gv ns_put_frame "put_close" = true ∧ gv ns_put_frame "put_octets_frame" = true ∧ gv ns_put_frame "QuicError" = true ∧ gv ns_put_frame "INTERNAL_ERROR" = true := by decide +kernel
abbrev lv_put_frame_f := lva_put_frame.1
abbrev lv_put_frame_kind := lva_put_frame.2.1
abbrev gv_put_frame_NUMBER_FRAMES := lva_put_frame.2.2.2.2.1
abbrev gv_put_frame_put_close := lva_put_frame.2.2.2.2.2.2.2.2.2.2.1
noncomputable abbrev ns_put_frames : List (Str × NameKind) := [("row", .local)]
theorem ok_put_frames : okk ns_put_frames ["row"] = true := by decide +kernel
theorem lva_put_frames : lv ns_put_frames "row" 0 = true := by decide +kernel
abbrev lv_put_frames_row := lva_put_frames
noncomputable abbrev ns_frame_size : List (Str × NameKind) := [("f", .local), ("len", .globalImplicit), ("put_frame", .globalImplicit)]
theorem ok_frame_size : okk ns_frame_size ["f"] = true := by decide +kernel
theorem lva_frame_size : lv ns_frame_size "f" 0 = true ∧ gv ns_frame_size "len" = true ∧ gv ns_frame_size "put_frame" = true := by decide +kernel
abbrev lv_frame_size_f := lva_frame_size.1
abbrev gv_frame_size_len := lva_frame_size.2.1
abbrev gv_frame_size_put_frame := lva_frame_size.2.2
noncomputable abbrev ns_Reader_init : List (Str × NameKind) := [("self", .local), ("data", .local)]
theorem ok_Reader_init : okk ns_Reader_init ["self", "data"] = true := by decide +kernel
theorem lva_Reader_init : lv ns_Reader_init "self" 0 = true ∧ lv ns_Reader_init "data" 1 = true := by decide +kernel
abbrev lv_Reader_init_self := lva_Reader_init.1
abbrev lv_Reader_init_data := lva_Reader_init.2
noncomputable abbrev ns_Reader_left : List (Str × NameKind) := [("self", .local), ("len", .globalImplicit)]
theorem ok_Reader_left : okk ns_Reader_left ["self"] = true := by decide +kernel
theorem lva_Reader_left : lv ns_Reader_left "self" 0 = true ∧ gv ns_Reader_left "len" = true := by decide +kernel
abbrev lv_Reader_left_self := lva_Reader_left.1
abbrev gv_Reader_left_len := lva_Reader_left.2
noncomputable abbrev ns_Reader_take : List (Str × NameKind) := [("self", .local), ("many", .local), ("Short", .globalImplicit)]
theorem ok_Reader_take : okk ns_Reader_take ["self", "many"] = true := by decide +kernel
theorem lva_Reader_take : lv ns_Reader_take "self" 0 = true ∧ lv ns_Reader_take "many" 1 = true ∧ gv ns_Reader_take "Short" = true := by decide +kernel
abbrev lv_Reader_take_self := lva_Reader_take.1
abbrev lv_Reader_take_many := lva_Reader_take.2.1
noncomputable abbrev ns_Reader_whole : List (Str × NameKind) := [("self", .local), ("size", .local), ("found", .local), ("get_whole", .globalImplicit)]
theorem ok_Reader_whole : okk ns_Reader_whole ["self", "size"] = true := by decide +kernel
theorem lva_Reader_whole : lv ns_Reader_whole "self" 0 = true ∧ lv ns_Reader_whole "size" 1 = true ∧ lv ns_Reader_whole "found" 2 = true ∧ gv ns_Reader_whole "get_whole" = true := by decide +kernel
abbrev lv_Reader_whole_self := lva_Reader_whole.1
abbrev lv_Reader_whole_size := lva_Reader_whole.2.1
abbrev lv_Reader_whole_found := lva_Reader_whole.2.2.1
abbrev gv_Reader_whole_get_whole := lva_Reader_whole.2.2.2
noncomputable abbrev ns_Reader_varint : List (Str × NameKind) := [("self", .local), ("found", .local), ("get_varint", .globalImplicit)]
theorem ok_Reader_varint : okk ns_Reader_varint ["self"] = true := by decide +kernel
theorem lva_Reader_varint : lv ns_Reader_varint "self" 0 = true ∧ lv ns_Reader_varint "found" 1 = true ∧ gv ns_Reader_varint "get_varint" = true := by decide +kernel
abbrev lv_Reader_varint_self := lva_Reader_varint.1
abbrev lv_Reader_varint_found := lva_Reader_varint.2.1
abbrev gv_Reader_varint_get_varint := lva_Reader_varint.2.2
noncomputable abbrev ns_RawPacket_init : List (Str × NameKind) := [("self", .local), ("kind", .local), ("first", .local), ("dcid", .local), ("start", .local), ("VERSION_NONE", .globalImplicit)]
theorem ok_RawPacket_init : okk ns_RawPacket_init ["self", "kind", "first", "dcid", "start"] = true := by decide +kernel
theorem lva_RawPacket_init : lv ns_RawPacket_init "self" 0 = true ∧ lv ns_RawPacket_init "kind" 1 = true ∧ lv ns_RawPacket_init "first" 2 = true ∧ lv ns_RawPacket_init "dcid" 3 = true ∧ lv ns_RawPacket_init "start" 4 = true ∧ gv ns_RawPacket_init "VERSION_NONE" = true := by decide +kernel
abbrev lv_RawPacket_init_self := lva_RawPacket_init.1
abbrev lv_RawPacket_init_kind := lva_RawPacket_init.2.1
abbrev lv_RawPacket_init_first := lva_RawPacket_init.2.2.1
abbrev lv_RawPacket_init_dcid := lva_RawPacket_init.2.2.2.1
abbrev lv_RawPacket_init_start := lva_RawPacket_init.2.2.2.2.1
abbrev gv_RawPacket_init_VERSION_NONE := lva_RawPacket_init.2.2.2.2.2
noncomputable abbrev ns_put_ids : List (Str × NameKind) := [("dcid", .local), ("scid", .local), ("bytes", .globalImplicit), ("len", .globalImplicit)]
theorem ok_put_ids : okk ns_put_ids ["dcid", "scid"] = true := by decide +kernel
theorem lva_put_ids : lv ns_put_ids "dcid" 0 = true ∧ lv ns_put_ids "scid" 1 = true ∧ gv ns_put_ids "bytes" = true ∧ gv ns_put_ids "len" = true := by decide +kernel
abbrev lv_put_ids_dcid := lva_put_ids.1
abbrev lv_put_ids_scid := lva_put_ids.2.1
abbrev gv_put_ids_bytes := lva_put_ids.2.2.1
abbrev gv_put_ids_len := lva_put_ids.2.2.2
noncomputable abbrev ns_long_first : List (Str × NameKind) := [("kind", .local), ("low_bits", .local), ("LONG_KINDS", .globalImplicit)]
theorem ok_long_first : okk ns_long_first ["kind", "low_bits"] = true := by decide +kernel
theorem lva_long_first : lv ns_long_first "kind" 0 = true ∧ lv ns_long_first "low_bits" 1 = true ∧ gv ns_long_first "LONG_KINDS" = true := by decide +kernel
abbrev lv_long_first_kind := lva_long_first.1
abbrev lv_long_first_low_bits := lva_long_first.2.1
abbrev gv_long_first_LONG_KINDS := lva_long_first.2.2
noncomputable abbrev ns_long_head : List (Str × NameKind) := [("kind", .local), ("version", .local), ("dcid", .local), ("scid", .local), ("token", .local), ("rest_size", .local), ("number_size", .local), ("head", .local), ("bytes", .globalImplicit), ("long_first", .globalImplicit), ("put_whole", .globalImplicit), ("put_ids", .globalImplicit), ("put_varint", .globalImplicit), ("len", .globalImplicit)]
theorem ok_long_head : okk ns_long_head ["kind", "version", "dcid", "scid", "token", "rest_size", "number_size"] = true := by decide +kernel
theorem lva_long_head : lv ns_long_head "kind" 0 = true ∧ lv ns_long_head "version" 1 = true ∧ lv ns_long_head "dcid" 2 = true ∧ lv ns_long_head "scid" 3 = true ∧ lv ns_long_head "token" 4 = true ∧ lv ns_long_head "rest_size" 5 = true ∧ lv ns_long_head "number_size" 6 = true ∧ lv ns_long_head "head" 7 = true ∧ gv ns_long_head "bytes" = true ∧ gv ns_long_head "long_first" = true ∧ gv ns_long_head "put_whole" = true ∧ gv ns_long_head "put_ids" = true ∧ gv ns_long_head "put_varint" = true ∧ gv ns_long_head "len" = true := by decide +kernel
abbrev lv_long_head_kind := lva_long_head.1
abbrev lv_long_head_version := lva_long_head.2.1
abbrev lv_long_head_dcid := lva_long_head.2.2.1
abbrev lv_long_head_scid := lva_long_head.2.2.2.1
abbrev lv_long_head_token := lva_long_head.2.2.2.2.1
abbrev lv_long_head_rest_size := lva_long_head.2.2.2.2.2.1
abbrev lv_long_head_number_size := lva_long_head.2.2.2.2.2.2.1
abbrev lv_long_head_head := lva_long_head.2.2.2.2.2.2.2.1
abbrev gv_long_head_bytes := lva_long_head.2.2.2.2.2.2.2.2.1
abbrev gv_long_head_long_first := lva_long_head.2.2.2.2.2.2.2.2.2.1
abbrev gv_long_head_put_whole := lva_long_head.2.2.2.2.2.2.2.2.2.2.1
abbrev gv_long_head_put_ids := lva_long_head.2.2.2.2.2.2.2.2.2.2.2.1
abbrev gv_long_head_put_varint := lva_long_head.2.2.2.2.2.2.2.2.2.2.2.2.1
abbrev gv_long_head_len := lva_long_head.2.2.2.2.2.2.2.2.2.2.2.2.2
noncomputable abbrev ns_read_invariants : List (Str × NameKind) := [("data", .local), ("start", .local), ("reader", .local), ("first", .local), ("version", .local), ("dcid", .local), ("scid", .local), ("Reader", .globalImplicit)]
theorem ok_read_invariants : okk ns_read_invariants ["data", "start"] = true := by decide +kernel
theorem lva_read_invariants : lv ns_read_invariants "data" 0 = true ∧ lv ns_read_invariants "start" 1 = true ∧ lv ns_read_invariants "reader" 2 = true ∧ lv ns_read_invariants "first" 3 = true ∧ lv ns_read_invariants "version" 4 = true ∧ lv ns_read_invariants "dcid" 5 = true ∧ lv ns_read_invariants "scid" 6 = true ∧ gv ns_read_invariants "Reader" = true := by decide +kernel
abbrev lv_read_invariants_data := lva_read_invariants.1
abbrev lv_read_invariants_start := lva_read_invariants.2.1
abbrev lv_read_invariants_reader := lva_read_invariants.2.2.1
abbrev lv_read_invariants_first := lva_read_invariants.2.2.2.1
abbrev lv_read_invariants_version := lva_read_invariants.2.2.2.2.1
abbrev lv_read_invariants_dcid := lva_read_invariants.2.2.2.2.2.1
abbrev lv_read_invariants_scid := lva_read_invariants.2.2.2.2.2.2.1
abbrev gv_read_invariants_Reader := lva_read_invariants.2.2.2.2.2.2.2
noncomputable abbrev ns_read_long : List (Str × NameKind) := [("data", .local), ("start", .local), ("first", .local), ("version", .local), ("dcid", .local), ("scid", .local), ("at", .local), ("raw", .local), ("read_invariants", .globalImplicit), ("Short", .globalImplicit), ("PacketRefused", .globalImplicit), ("RawPacket", .globalImplicit), ("len", .globalImplicit), ("VERSION_NONE", .globalImplicit), ("read_versions", .globalImplicit), ("VERSION_ONE", .globalImplicit), ("MOST_CID", .globalImplicit), ("LONG_KINDS", .globalImplicit), ("read_retry", .globalImplicit), ("read_numbered", .globalImplicit)]
theorem ok_read_long : okk ns_read_long ["data", "start"] = true := by decide +kernel
theorem lva_read_long : lv ns_read_long "data" 0 = true ∧ lv ns_read_long "start" 1 = true ∧ lv ns_read_long "first" 2 = true ∧ lv ns_read_long "version" 3 = true ∧ lv ns_read_long "dcid" 4 = true ∧ lv ns_read_long "scid" 5 = true ∧ lv ns_read_long "at" 6 = true ∧ lv ns_read_long "raw" 7 = true ∧ gv ns_read_long "read_invariants" = true ∧ gv ns_read_long "Short" = true ∧ gv ns_read_long "PacketRefused" = true ∧ gv ns_read_long "RawPacket" = true ∧ gv ns_read_long "len" = true ∧ gv ns_read_long "VERSION_NONE" = true ∧ gv ns_read_long "read_versions" = true ∧ gv ns_read_long "VERSION_ONE" = true ∧ gv ns_read_long "MOST_CID" = true ∧ gv ns_read_long "LONG_KINDS" = true ∧ gv ns_read_long "read_retry" = true ∧ gv ns_read_long "read_numbered" = true := by decide +kernel
abbrev lv_read_long_data := lva_read_long.1
abbrev lv_read_long_start := lva_read_long.2.1
abbrev lv_read_long_first := lva_read_long.2.2.1
abbrev lv_read_long_version := lva_read_long.2.2.2.1
abbrev lv_read_long_dcid := lva_read_long.2.2.2.2.1
abbrev lv_read_long_scid := lva_read_long.2.2.2.2.2.1
abbrev lv_read_long_at := lva_read_long.2.2.2.2.2.2.1
abbrev lv_read_long_raw := lva_read_long.2.2.2.2.2.2.2.1
abbrev gv_read_long_read_invariants := lva_read_long.2.2.2.2.2.2.2.2.1
abbrev gv_read_long_RawPacket := lva_read_long.2.2.2.2.2.2.2.2.2.2.2.1
abbrev gv_read_long_len := lva_read_long.2.2.2.2.2.2.2.2.2.2.2.2.1
abbrev gv_read_long_VERSION_NONE := lva_read_long.2.2.2.2.2.2.2.2.2.2.2.2.2.1
abbrev gv_read_long_VERSION_ONE := lva_read_long.2.2.2.2.2.2.2.2.2.2.2.2.2.2.2.1
abbrev gv_read_long_MOST_CID := lva_read_long.2.2.2.2.2.2.2.2.2.2.2.2.2.2.2.2.1
abbrev gv_read_long_LONG_KINDS := lva_read_long.2.2.2.2.2.2.2.2.2.2.2.2.2.2.2.2.2.1
abbrev gv_read_long_read_numbered := lva_read_long.2.2.2.2.2.2.2.2.2.2.2.2.2.2.2.2.2.2.2
noncomputable abbrev ns_read_numbered : List (Str × NameKind) := [("data", .local), ("at", .local), ("raw", .local), ("reader", .local), ("size", .local), ("Reader", .globalImplicit), ("Short", .globalImplicit), ("PacketRefused", .globalImplicit)]
theorem ok_read_numbered : okk ns_read_numbered ["data", "at", "raw"] = true := by decide +kernel
theorem lva_read_numbered : lv ns_read_numbered "data" 0 = true ∧ lv ns_read_numbered "at" 1 = true ∧ lv ns_read_numbered "raw" 2 = true ∧ lv ns_read_numbered "reader" 3 = true ∧ lv ns_read_numbered "size" 4 = true ∧ gv ns_read_numbered "Reader" = true ∧ gv ns_read_numbered "Short" = true ∧ gv ns_read_numbered "PacketRefused" = true := by decide +kernel
abbrev lv_read_numbered_data := lva_read_numbered.1
abbrev lv_read_numbered_at := lva_read_numbered.2.1
abbrev lv_read_numbered_raw := lva_read_numbered.2.2.1
abbrev lv_read_numbered_reader := lva_read_numbered.2.2.2.1
abbrev lv_read_numbered_size := lva_read_numbered.2.2.2.2.1
abbrev gv_read_numbered_Reader := lva_read_numbered.2.2.2.2.2.1
noncomputable abbrev ns_read_short : List (Str × NameKind) := [("data", .local), ("start", .local), ("cid_size", .local), ("first", .local), ("raw", .local), ("len", .globalImplicit), ("PacketRefused", .globalImplicit), ("RawPacket", .globalImplicit), ("VERSION_ONE", .globalImplicit)]
theorem ok_read_short : okk ns_read_short ["data", "start", "cid_size"] = true := by decide +kernel
theorem lva_read_short : lv ns_read_short "data" 0 = true ∧ lv ns_read_short "start" 1 = true ∧ lv ns_read_short "cid_size" 2 = true ∧ lv ns_read_short "first" 3 = true ∧ lv ns_read_short "raw" 4 = true ∧ gv ns_read_short "len" = true ∧ gv ns_read_short "PacketRefused" = true ∧ gv ns_read_short "RawPacket" = true ∧ gv ns_read_short "VERSION_ONE" = true := by decide +kernel
abbrev lv_read_short_data := lva_read_short.1
abbrev lv_read_short_start := lva_read_short.2.1
abbrev lv_read_short_cid_size := lva_read_short.2.2.1
abbrev lv_read_short_first := lva_read_short.2.2.2.1
abbrev lv_read_short_raw := lva_read_short.2.2.2.2.1
abbrev gv_read_short_len := lva_read_short.2.2.2.2.2.1
abbrev gv_read_short_RawPacket := lva_read_short.2.2.2.2.2.2.2.1
abbrev gv_read_short_VERSION_ONE := lva_read_short.2.2.2.2.2.2.2.2
noncomputable abbrev ns_read_raw : List (Str × NameKind) := [("data", .local), ("start", .local), ("cid_size", .local), ("read_long", .globalImplicit), ("read_short", .globalImplicit)]
theorem ok_read_raw : okk ns_read_raw ["data", "start", "cid_size"] = true := by decide +kernel
theorem lva_read_raw : lv ns_read_raw "data" 0 = true ∧ lv ns_read_raw "start" 1 = true ∧ lv ns_read_raw "cid_size" 2 = true ∧ gv ns_read_raw "read_long" = true ∧ gv ns_read_raw "read_short" = true := by decide +kernel
abbrev lv_read_raw_data := lva_read_raw.1
abbrev lv_read_raw_start := lva_read_raw.2.1
abbrev lv_read_raw_cid_size := lva_read_raw.2.2.1
abbrev gv_read_raw_read_long := lva_read_raw.2.2.2.1
abbrev gv_read_raw_read_short := lva_read_raw.2.2.2.2
noncomputable abbrev ns_split_datagram : List (Str × NameKind) := [("data", .local), ("cid_size", .local), ("found", .local), ("at", .local), ("raw", .local), ("len", .globalImplicit), ("read_raw", .globalImplicit), ("PacketRefused", .globalImplicit)]
theorem ok_split_datagram : okk ns_split_datagram ["data", "cid_size"] = true := by decide +kernel
theorem lva_split_datagram : lv ns_split_datagram "data" 0 = true ∧ lv ns_split_datagram "cid_size" 1 = true ∧ lv ns_split_datagram "found" 2 = true ∧ lv ns_split_datagram "at" 3 = true ∧ lv ns_split_datagram "raw" 4 = true ∧ gv ns_split_datagram "len" = true ∧ gv ns_split_datagram "read_raw" = true ∧ gv ns_split_datagram "PacketRefused" = true := by decide +kernel
abbrev lv_split_datagram_data := lva_split_datagram.1
abbrev lv_split_datagram_cid_size := lva_split_datagram.2.1
abbrev lv_split_datagram_found := lva_split_datagram.2.2.1
abbrev lv_split_datagram_at := lva_split_datagram.2.2.2.1
abbrev lv_split_datagram_raw := lva_split_datagram.2.2.2.2.1
abbrev gv_split_datagram_len := lva_split_datagram.2.2.2.2.2.1
abbrev gv_split_datagram_read_raw := lva_split_datagram.2.2.2.2.2.2.1
noncomputable abbrev ns_number_size : List (Str × NameKind) := [("full", .local), ("largest_acked", .local), ("apart", .local), ("size", .local), ("range", .globalImplicit), ("MOST_OCTETS", .globalImplicit), ("QuicError", .globalImplicit), ("INTERNAL_ERROR", .globalImplicit)]
theorem ok_number_size : okk ns_number_size ["full", "largest_acked"] = true := by decide +kernel
theorem lva_number_size : lv ns_number_size "full" 0 = true ∧ lv ns_number_size "largest_acked" 1 = true ∧ lv ns_number_size "apart" 2 = true ∧ lv ns_number_size "size" 3 = true ∧ gv ns_number_size "range" = true ∧ gv ns_number_size "MOST_OCTETS" = true ∧ gv ns_number_size "QuicError" = true ∧ gv ns_number_size "INTERNAL_ERROR" = true := by decide +kernel
abbrev lv_number_size_full := lva_number_size.1
abbrev lv_number_size_largest_acked := lva_number_size.2.1
abbrev lv_number_size_apart := lva_number_size.2.2.1
abbrev lv_number_size_size := lva_number_size.2.2.2.1
abbrev gv_number_size_range := lva_number_size.2.2.2.2.1
abbrev gv_number_size_MOST_OCTETS := lva_number_size.2.2.2.2.2.1
noncomputable abbrev ns_cut_number : List (Str × NameKind) := [("full", .local), ("largest_acked", .local), ("size", .local), ("number_size", .globalImplicit), ("put_whole", .globalImplicit)]
theorem ok_cut_number : okk ns_cut_number ["full", "largest_acked"] = true := by decide +kernel
theorem lva_cut_number : lv ns_cut_number "full" 0 = true ∧ lv ns_cut_number "largest_acked" 1 = true ∧ lv ns_cut_number "size" 2 = true ∧ gv ns_cut_number "number_size" = true ∧ gv ns_cut_number "put_whole" = true := by decide +kernel
abbrev lv_cut_number_full := lva_cut_number.1
abbrev lv_cut_number_largest_acked := lva_cut_number.2.1
abbrev lv_cut_number_size := lva_cut_number.2.2.1
abbrev gv_cut_number_number_size := lva_cut_number.2.2.2.1
abbrev gv_cut_number_put_whole := lva_cut_number.2.2.2.2
noncomputable abbrev ns_restore_number : List (Str × NameKind) := [("truncated", .local), ("size", .local), ("largest_seen", .local), ("expected", .local), ("window", .local), ("half", .local), ("found", .local)]
theorem ok_restore_number : okk ns_restore_number ["truncated", "size", "largest_seen"] = true := by decide +kernel
theorem lva_restore_number : lv ns_restore_number "truncated" 0 = true ∧ lv ns_restore_number "size" 1 = true ∧ lv ns_restore_number "largest_seen" 2 = true ∧ lv ns_restore_number "expected" 3 = true ∧ lv ns_restore_number "window" 4 = true ∧ lv ns_restore_number "half" 5 = true ∧ lv ns_restore_number "found" 6 = true := by decide +kernel
abbrev lv_restore_number_truncated := lva_restore_number.1
abbrev lv_restore_number_size := lva_restore_number.2.1
abbrev lv_restore_number_largest_seen := lva_restore_number.2.2.1
abbrev lv_restore_number_expected := lva_restore_number.2.2.2.1
abbrev lv_restore_number_window := lva_restore_number.2.2.2.2.1
abbrev lv_restore_number_half := lva_restore_number.2.2.2.2.2.1
abbrev lv_restore_number_found := lva_restore_number.2.2.2.2.2.2
noncomputable abbrev ns_mixed_octets : List (Str × NameKind) := [("start", .local), ("data", .local), ("found", .local), ("octet", .local), ("MODULUS", .globalImplicit), ("FACTOR", .globalImplicit)]
theorem ok_mixed_octets : okk ns_mixed_octets ["start", "data"] = true := by decide +kernel
theorem lva_mixed_octets : lv ns_mixed_octets "start" 0 = true ∧ lv ns_mixed_octets "data" 1 = true ∧ lv ns_mixed_octets "found" 2 = true ∧ lv ns_mixed_octets "octet" 3 = true ∧ gv ns_mixed_octets "MODULUS" = true ∧ gv ns_mixed_octets "FACTOR" = true := by decide +kernel
abbrev lv_mixed_octets_start := lva_mixed_octets.1
abbrev lv_mixed_octets_data := lva_mixed_octets.2.1
abbrev lv_mixed_octets_found := lva_mixed_octets.2.2.1
abbrev lv_mixed_octets_octet := lva_mixed_octets.2.2.2.1
abbrev gv_mixed_octets_MODULUS := lva_mixed_octets.2.2.2.2.1
abbrev gv_mixed_octets_FACTOR := lva_mixed_octets.2.2.2.2.2
noncomputable abbrev ns_turned_octets : List (Str × NameKind) := [("key", .local), ("number", .local), ("data", .local), ("state", .local), ("found", .local), ("octet", .local), ("mixed_octets", .globalImplicit), ("FACTOR", .globalImplicit), ("MODULUS", .globalImplicit), ("bytes", .globalImplicit)]
theorem ok_turned_octets : okk ns_turned_octets ["key", "number", "data"] = true := by decide +kernel
theorem lva_turned_octets : lv ns_turned_octets "key" 0 = true ∧ lv ns_turned_octets "number" 1 = true ∧ lv ns_turned_octets "data" 2 = true ∧ lv ns_turned_octets "state" 3 = true ∧ lv ns_turned_octets "found" 4 = true ∧ lv ns_turned_octets "octet" 5 = true ∧ gv ns_turned_octets "mixed_octets" = true ∧ gv ns_turned_octets "FACTOR" = true ∧ gv ns_turned_octets "MODULUS" = true ∧ gv ns_turned_octets "bytes" = true := by decide +kernel
abbrev lv_turned_octets_key := lva_turned_octets.1
abbrev lv_turned_octets_number := lva_turned_octets.2.1
abbrev lv_turned_octets_data := lva_turned_octets.2.2.1
abbrev lv_turned_octets_state := lva_turned_octets.2.2.2.1
abbrev lv_turned_octets_found := lva_turned_octets.2.2.2.2.1
abbrev lv_turned_octets_octet := lva_turned_octets.2.2.2.2.2.1
abbrev gv_turned_octets_mixed_octets := lva_turned_octets.2.2.2.2.2.2.1
abbrev gv_turned_octets_FACTOR := lva_turned_octets.2.2.2.2.2.2.2.1
abbrev gv_turned_octets_MODULUS := lva_turned_octets.2.2.2.2.2.2.2.2.1
abbrev gv_turned_octets_bytes := lva_turned_octets.2.2.2.2.2.2.2.2.2
noncomputable abbrev ns_tag_of : List (Str × NameKind) := [("key", .local), ("number", .local), ("head", .local), ("body", .local), ("state", .local), ("mixed_octets", .globalImplicit), ("put_whole", .globalImplicit), ("len", .globalImplicit), ("TAG_SIZE", .globalImplicit)]
theorem ok_tag_of : okk ns_tag_of ["key", "number", "head", "body"] = true := by decide +kernel
theorem lva_tag_of : lv ns_tag_of "key" 0 = true ∧ lv ns_tag_of "number" 1 = true ∧ lv ns_tag_of "head" 2 = true ∧ lv ns_tag_of "body" 3 = true ∧ lv ns_tag_of "state" 4 = true ∧ gv ns_tag_of "mixed_octets" = true ∧ gv ns_tag_of "put_whole" = true ∧ gv ns_tag_of "len" = true ∧ gv ns_tag_of "TAG_SIZE" = true := by decide +kernel
abbrev lv_tag_of_key := lva_tag_of.1
abbrev lv_tag_of_number := lva_tag_of.2.1
abbrev lv_tag_of_head := lva_tag_of.2.2.1
abbrev lv_tag_of_body := lva_tag_of.2.2.2.1
abbrev lv_tag_of_state := lva_tag_of.2.2.2.2.1
abbrev gv_tag_of_mixed_octets := lva_tag_of.2.2.2.2.2.1
abbrev gv_tag_of_put_whole := lva_tag_of.2.2.2.2.2.2.1
abbrev gv_tag_of_len := lva_tag_of.2.2.2.2.2.2.2.1
abbrev gv_tag_of_TAG_SIZE := lva_tag_of.2.2.2.2.2.2.2.2
noncomputable abbrev ns_seal_payload : List (Str × NameKind) := [("key", .local), ("number", .local), ("head", .local), ("payload", .local), ("body", .local), ("turned_octets", .globalImplicit), ("tag_of", .globalImplicit)]
theorem ok_seal_payload : okk ns_seal_payload ["key", "number", "head", "payload"] = true := by decide +kernel
theorem lva_seal_payload : lv ns_seal_payload "key" 0 = true ∧ lv ns_seal_payload "number" 1 = true ∧ lv ns_seal_payload "head" 2 = true ∧ lv ns_seal_payload "payload" 3 = true ∧ lv ns_seal_payload "body" 4 = true ∧ gv ns_seal_payload "turned_octets" = true ∧ gv ns_seal_payload "tag_of" = true := by decide +kernel
abbrev lv_seal_payload_key := lva_seal_payload.1
abbrev lv_seal_payload_number := lva_seal_payload.2.1
abbrev lv_seal_payload_head := lva_seal_payload.2.2.1
abbrev lv_seal_payload_payload := lva_seal_payload.2.2.2.1
abbrev lv_seal_payload_body := lva_seal_payload.2.2.2.2.1
abbrev gv_seal_payload_turned_octets := lva_seal_payload.2.2.2.2.2.1
abbrev gv_seal_payload_tag_of := lva_seal_payload.2.2.2.2.2.2
noncomputable abbrev ns_open_sealed : List (Str × NameKind) := [("key", .local), ("number", .local), ("head", .local), ("sealed", .local), ("body", .local), ("len", .globalImplicit), ("TAG_SIZE", .globalImplicit), ("tag_of", .globalImplicit), ("turned_octets", .globalImplicit)]
theorem ok_open_sealed : okk ns_open_sealed ["key", "number", "head", "sealed"] = true := by decide +kernel
theorem lva_open_sealed : lv ns_open_sealed "key" 0 = true ∧ lv ns_open_sealed "number" 1 = true ∧ lv ns_open_sealed "head" 2 = true ∧ lv ns_open_sealed "sealed" 3 = true ∧ lv ns_open_sealed "body" 4 = true ∧ gv ns_open_sealed "len" = true ∧ gv ns_open_sealed "TAG_SIZE" = true ∧ gv ns_open_sealed "tag_of" = true ∧ gv ns_open_sealed "turned_octets" = true := by decide +kernel
abbrev lv_open_sealed_key := lva_open_sealed.1
abbrev lv_open_sealed_number := lva_open_sealed.2.1
abbrev lv_open_sealed_head := lva_open_sealed.2.2.1
abbrev lv_open_sealed_sealed := lva_open_sealed.2.2.2.1
abbrev lv_open_sealed_body := lva_open_sealed.2.2.2.2.1
abbrev gv_open_sealed_len := lva_open_sealed.2.2.2.2.2.1
abbrev gv_open_sealed_TAG_SIZE := lva_open_sealed.2.2.2.2.2.2.1
abbrev gv_open_sealed_tag_of := lva_open_sealed.2.2.2.2.2.2.2.1
abbrev gv_open_sealed_turned_octets := lva_open_sealed.2.2.2.2.2.2.2.2
noncomputable abbrev ns_head_mask : List (Str × NameKind) := [("key", .local), ("sample", .local), ("put_whole", .globalImplicit), ("mixed_octets", .globalImplicit), ("TAG_SIZE", .globalImplicit), ("MASK_SIZE", .globalImplicit)]
theorem ok_head_mask : okk ns_head_mask ["key", "sample"] = true := by decide +kernel
theorem lva_head_mask : lv ns_head_mask "key" 0 = true ∧ lv ns_head_mask "sample" 1 = true ∧ gv ns_head_mask "put_whole" = true ∧ gv ns_head_mask "mixed_octets" = true ∧ gv ns_head_mask "TAG_SIZE" = true ∧ gv ns_head_mask "MASK_SIZE" = true := by decide +kernel
abbrev lv_head_mask_key := lva_head_mask.1
abbrev lv_head_mask_sample := lva_head_mask.2.1
abbrev gv_head_mask_put_whole := lva_head_mask.2.2.1
abbrev gv_head_mask_mixed_octets := lva_head_mask.2.2.2.1
abbrev gv_head_mask_TAG_SIZE := lva_head_mask.2.2.2.2.1
abbrev gv_head_mask_MASK_SIZE := lva_head_mask.2.2.2.2.2
noncomputable abbrev ns_turned_first : List (Str × NameKind) := [("first", .local), ("mask", .local)]
theorem ok_turned_first : okk ns_turned_first ["first", "mask"] = true := by decide +kernel
theorem lva_turned_first : lv ns_turned_first "first" 0 = true ∧ lv ns_turned_first "mask" 1 = true := by decide +kernel
abbrev lv_turned_first_first := lva_turned_first.1
abbrev lv_turned_first_mask := lva_turned_first.2
noncomputable abbrev ns_turned_number : List (Str × NameKind) := [("octets", .local), ("mask", .cell), ("bytes", .globalImplicit), ("enumerate", .globalImplicit)]
theorem lva_turned_number : lv ns_turned_number "octets" 0 = true ∧ gv ns_turned_number "bytes" = true ∧ gv ns_turned_number "enumerate" = true := by decide +kernel
abbrev gv_turned_number_bytes := lva_turned_number.2.1
abbrev gv_turned_number_enumerate := lva_turned_number.2.2
noncomputable abbrev ns_sample_at : List (Str × NameKind) := [("data", .local), ("number_at", .local), ("end", .local), ("SAMPLE_SIZE", .globalImplicit)]
theorem ok_sample_at : okk ns_sample_at ["data", "number_at", "end"] = true := by decide +kernel
theorem lva_sample_at : lv ns_sample_at "data" 0 = true ∧ lv ns_sample_at "number_at" 1 = true ∧ lv ns_sample_at "end" 2 = true ∧ gv ns_sample_at "SAMPLE_SIZE" = true := by decide +kernel
abbrev lv_sample_at_data := lva_sample_at.1
abbrev lv_sample_at_number_at := lva_sample_at.2.1
abbrev lv_sample_at_end := lva_sample_at.2.2.1
abbrev gv_sample_at_SAMPLE_SIZE := lva_sample_at.2.2.2
noncomputable abbrev ns_padded_payload : List (Str × NameKind) := [("payload", .local), ("number_size", .local), ("lacking", .local), ("len", .globalImplicit), ("bytes", .globalImplicit)]
theorem ok_padded_payload : okk ns_padded_payload ["payload", "number_size"] = true := by decide +kernel
theorem lva_padded_payload : lv ns_padded_payload "payload" 0 = true ∧ lv ns_padded_payload "number_size" 1 = true ∧ lv ns_padded_payload "lacking" 2 = true ∧ gv ns_padded_payload "len" = true ∧ gv ns_padded_payload "bytes" = true := by decide +kernel
abbrev lv_padded_payload_payload := lva_padded_payload.1
abbrev lv_padded_payload_number_size := lva_padded_payload.2.1
abbrev lv_padded_payload_lacking := lva_padded_payload.2.2.1
abbrev gv_padded_payload_len := lva_padded_payload.2.2.2.1
noncomputable abbrev ns_protected_packet : List (Str × NameKind) := [("key", .local), ("number", .local), ("head", .local), ("cut", .local), ("payload", .local), ("whole_head", .local), ("sealed", .local), ("data", .local), ("mask", .local), ("seal_payload", .globalImplicit), ("head_mask", .globalImplicit), ("sample_at", .globalImplicit), ("len", .globalImplicit), ("bytes", .globalImplicit), ("turned_first", .globalImplicit), ("turned_number", .globalImplicit)]
theorem ok_protected_packet : okk ns_protected_packet ["key", "number", "head", "cut", "payload"] = true := by decide +kernel
theorem lva_protected_packet : lv ns_protected_packet "key" 0 = true ∧ lv ns_protected_packet "number" 1 = true ∧ lv ns_protected_packet "head" 2 = true ∧ lv ns_protected_packet "cut" 3 = true ∧ lv ns_protected_packet "payload" 4 = true ∧ lv ns_protected_packet "whole_head" 5 = true ∧ lv ns_protected_packet "sealed" 6 = true ∧ lv ns_protected_packet "data" 7 = true ∧ lv ns_protected_packet "mask" 8 = true ∧ gv ns_protected_packet "seal_payload" = true ∧ gv ns_protected_packet "head_mask" = true ∧ gv ns_protected_packet "sample_at" = true ∧ gv ns_protected_packet "len" = true ∧ gv ns_protected_packet "bytes" = true ∧ gv ns_protected_packet "turned_first" = true ∧ gv ns_protected_packet "turned_number" = true := by decide +kernel
abbrev lv_protected_packet_key := lva_protected_packet.1
abbrev lv_protected_packet_number := lva_protected_packet.2.1
abbrev lv_protected_packet_head := lva_protected_packet.2.2.1
abbrev lv_protected_packet_cut := lva_protected_packet.2.2.2.1
abbrev lv_protected_packet_payload := lva_protected_packet.2.2.2.2.1
abbrev lv_protected_packet_whole_head := lva_protected_packet.2.2.2.2.2.1
abbrev lv_protected_packet_sealed := lva_protected_packet.2.2.2.2.2.2.1
abbrev lv_protected_packet_data := lva_protected_packet.2.2.2.2.2.2.2.1
abbrev lv_protected_packet_mask := lva_protected_packet.2.2.2.2.2.2.2.2.1
abbrev gv_protected_packet_seal_payload := lva_protected_packet.2.2.2.2.2.2.2.2.2.1
abbrev gv_protected_packet_head_mask := lva_protected_packet.2.2.2.2.2.2.2.2.2.2.1
abbrev gv_protected_packet_sample_at := lva_protected_packet.2.2.2.2.2.2.2.2.2.2.2.1
abbrev gv_protected_packet_len := lva_protected_packet.2.2.2.2.2.2.2.2.2.2.2.2.1
abbrev gv_protected_packet_bytes := lva_protected_packet.2.2.2.2.2.2.2.2.2.2.2.2.2.1
abbrev gv_protected_packet_turned_first := lva_protected_packet.2.2.2.2.2.2.2.2.2.2.2.2.2.2.1
abbrev gv_protected_packet_turned_number := lva_protected_packet.2.2.2.2.2.2.2.2.2.2.2.2.2.2.2
noncomputable abbrev ns_bare_head : List (Str × NameKind) := [("key", .local), ("data", .local), ("start", .local), ("number_at", .local), ("end", .local), ("sample", .local), ("mask", .local), ("first", .local), ("size", .local), ("head", .local), ("sample_at", .globalImplicit), ("head_mask", .globalImplicit), ("turned_first", .globalImplicit), ("bytes", .globalImplicit), ("turned_number", .globalImplicit)]
theorem ok_bare_head : okk ns_bare_head ["key", "data", "start", "number_at", "end"] = true := by decide +kernel
theorem lva_bare_head : lv ns_bare_head "key" 0 = true ∧ lv ns_bare_head "data" 1 = true ∧ lv ns_bare_head "start" 2 = true ∧ lv ns_bare_head "number_at" 3 = true ∧ lv ns_bare_head "end" 4 = true ∧ lv ns_bare_head "sample" 5 = true ∧ lv ns_bare_head "mask" 6 = true ∧ lv ns_bare_head "first" 7 = true ∧ lv ns_bare_head "size" 8 = true ∧ lv ns_bare_head "head" 9 = true ∧ gv ns_bare_head "sample_at" = true ∧ gv ns_bare_head "head_mask" = true ∧ gv ns_bare_head "turned_first" = true ∧ gv ns_bare_head "bytes" = true ∧ gv ns_bare_head "turned_number" = true := by decide +kernel
abbrev lv_bare_head_key := lva_bare_head.1
abbrev lv_bare_head_data := lva_bare_head.2.1
abbrev lv_bare_head_start := lva_bare_head.2.2.1
abbrev lv_bare_head_number_at := lva_bare_head.2.2.2.1
abbrev lv_bare_head_end := lva_bare_head.2.2.2.2.1
abbrev lv_bare_head_sample := lva_bare_head.2.2.2.2.2.1
abbrev lv_bare_head_mask := lva_bare_head.2.2.2.2.2.2.1
abbrev lv_bare_head_first := lva_bare_head.2.2.2.2.2.2.2.1
abbrev lv_bare_head_size := lva_bare_head.2.2.2.2.2.2.2.2.1
abbrev lv_bare_head_head := lva_bare_head.2.2.2.2.2.2.2.2.2.1
abbrev gv_bare_head_sample_at := lva_bare_head.2.2.2.2.2.2.2.2.2.2.1
abbrev gv_bare_head_head_mask := lva_bare_head.2.2.2.2.2.2.2.2.2.2.2.1
abbrev gv_bare_head_turned_first := lva_bare_head.2.2.2.2.2.2.2.2.2.2.2.2.1
abbrev gv_bare_head_bytes := lva_bare_head.2.2.2.2.2.2.2.2.2.2.2.2.2.1
abbrev gv_bare_head_turned_number := lva_bare_head.2.2.2.2.2.2.2.2.2.2.2.2.2.2
noncomputable abbrev ns_short_head : List (Str × NameKind) := [("spin", .local), ("key_phase", .local), ("dcid", .local), ("number_size", .local), ("bytes", .globalImplicit)]
theorem ok_short_head : okk ns_short_head ["spin", "key_phase", "dcid", "number_size"] = true := by decide +kernel
theorem lva_short_head : lv ns_short_head "spin" 0 = true ∧ lv ns_short_head "key_phase" 1 = true ∧ lv ns_short_head "dcid" 2 = true ∧ lv ns_short_head "number_size" 3 = true ∧ gv ns_short_head "bytes" = true := by decide +kernel
abbrev lv_short_head_spin := lva_short_head.1
abbrev lv_short_head_key_phase := lva_short_head.2.1
abbrev lv_short_head_dcid := lva_short_head.2.2.1
abbrev lv_short_head_number_size := lva_short_head.2.2.2.1
abbrev gv_short_head_bytes := lva_short_head.2.2.2.2
noncomputable abbrev ns_head_of : List (Str × NameKind) := [("packet", .local), ("number_size", .local), ("payload", .local), ("kind", .local), ("rest", .local), ("token", .local), ("len", .globalImplicit), ("TAG_SIZE", .globalImplicit), ("short_head", .globalImplicit), ("long_head", .globalImplicit)]
theorem ok_head_of : okk ns_head_of ["packet", "number_size", "payload"] = true := by decide +kernel
theorem lva_head_of : lv ns_head_of "packet" 0 = true ∧ lv ns_head_of "number_size" 1 = true ∧ lv ns_head_of "payload" 2 = true ∧ lv ns_head_of "kind" 3 = true ∧ lv ns_head_of "rest" 4 = true ∧ lv ns_head_of "token" 5 = true ∧ gv ns_head_of "len" = true ∧ gv ns_head_of "TAG_SIZE" = true ∧ gv ns_head_of "short_head" = true ∧ gv ns_head_of "long_head" = true := by decide +kernel
abbrev lv_head_of_packet := lva_head_of.1
abbrev lv_head_of_number_size := lva_head_of.2.1
abbrev lv_head_of_payload := lva_head_of.2.2.1
abbrev lv_head_of_kind := lva_head_of.2.2.2.1
abbrev lv_head_of_rest := lva_head_of.2.2.2.2.1
abbrev lv_head_of_token := lva_head_of.2.2.2.2.2.1
abbrev gv_head_of_len := lva_head_of.2.2.2.2.2.2.1
abbrev gv_head_of_TAG_SIZE := lva_head_of.2.2.2.2.2.2.2.1
abbrev gv_head_of_short_head := lva_head_of.2.2.2.2.2.2.2.2.1
abbrev gv_head_of_long_head := lva_head_of.2.2.2.2.2.2.2.2.2
noncomputable abbrev ns_number_in : List (Str × NameKind) := [("packet", .local), ("len", .globalImplicit)]
theorem ok_number_in : okk ns_number_in ["packet"] = true := by decide +kernel
theorem lva_number_in : lv ns_number_in "packet" 0 = true ∧ gv ns_number_in "len" = true := by decide +kernel
abbrev lv_number_in_packet := lva_number_in.1
abbrev gv_number_in_len := lva_number_in.2
noncomputable abbrev ns_put_packet : List (Str × NameKind) := [("packet", .local), ("largest_acked", .local), ("key", .local), ("number", .local), ("cut", .local), ("payload", .local), ("number_in", .globalImplicit), ("cut_number", .globalImplicit), ("padded_payload", .globalImplicit), ("len", .globalImplicit), ("protected_packet", .globalImplicit), ("head_of", .globalImplicit)]
theorem ok_put_packet : okk ns_put_packet ["packet", "largest_acked", "key"] = true := by decide +kernel
theorem lva_put_packet : lv ns_put_packet "packet" 0 = true ∧ lv ns_put_packet "largest_acked" 1 = true ∧ lv ns_put_packet "key" 2 = true ∧ lv ns_put_packet "number" 3 = true ∧ lv ns_put_packet "cut" 4 = true ∧ lv ns_put_packet "payload" 5 = true ∧ gv ns_put_packet "number_in" = true ∧ gv ns_put_packet "cut_number" = true ∧ gv ns_put_packet "padded_payload" = true ∧ gv ns_put_packet "len" = true ∧ gv ns_put_packet "protected_packet" = true ∧ gv ns_put_packet "head_of" = true := by decide +kernel
abbrev lv_put_packet_packet := lva_put_packet.1
abbrev lv_put_packet_largest_acked := lva_put_packet.2.1
abbrev lv_put_packet_key := lva_put_packet.2.2.1
abbrev lv_put_packet_number := lva_put_packet.2.2.2.1
abbrev lv_put_packet_cut := lva_put_packet.2.2.2.2.1
abbrev lv_put_packet_payload := lva_put_packet.2.2.2.2.2.1
abbrev gv_put_packet_number_in := lva_put_packet.2.2.2.2.2.2.1
abbrev gv_put_packet_cut_number := lva_put_packet.2.2.2.2.2.2.2.1
abbrev gv_put_packet_padded_payload := lva_put_packet.2.2.2.2.2.2.2.2.1
abbrev gv_put_packet_len := lva_put_packet.2.2.2.2.2.2.2.2.2.1
abbrev gv_put_packet_protected_packet := lva_put_packet.2.2.2.2.2.2.2.2.2.2.1
abbrev gv_put_packet_head_of := lva_put_packet.2.2.2.2.2.2.2.2.2.2.2
noncomputable abbrev ns_packet_size : List (Str × NameKind) := [("packet", .local), ("largest_acked", .local), ("cut", .local), ("payload", .local), ("cut_number", .globalImplicit), ("number_in", .globalImplicit), ("padded_payload", .globalImplicit), ("len", .globalImplicit), ("head_of", .globalImplicit), ("TAG_SIZE", .globalImplicit)]
theorem ok_packet_size : okk ns_packet_size ["packet", "largest_acked"] = true := by decide +kernel
theorem lva_packet_size : lv ns_packet_size "packet" 0 = true ∧ lv ns_packet_size "largest_acked" 1 = true ∧ lv ns_packet_size "cut" 2 = true ∧ lv ns_packet_size "payload" 3 = true ∧ gv ns_packet_size "cut_number" = true ∧ gv ns_packet_size "number_in" = true ∧ gv ns_packet_size "padded_payload" = true ∧ gv ns_packet_size "len" = true ∧ gv ns_packet_size "head_of" = true ∧ gv ns_packet_size "TAG_SIZE" = true := by decide +kernel
abbrev lv_packet_size_packet := lva_packet_size.1
abbrev lv_packet_size_largest_acked := lva_packet_size.2.1
abbrev lv_packet_size_cut := lva_packet_size.2.2.1
abbrev lv_packet_size_payload := lva_packet_size.2.2.2.1
abbrev gv_packet_size_cut_number := lva_packet_size.2.2.2.2.1
abbrev gv_packet_size_number_in := lva_packet_size.2.2.2.2.2.1
abbrev gv_packet_size_padded_payload := lva_packet_size.2.2.2.2.2.2.1
abbrev gv_packet_size_len := lva_packet_size.2.2.2.2.2.2.2.1
abbrev gv_packet_size_head_of := lva_packet_size.2.2.2.2.2.2.2.2.1
abbrev gv_packet_size_TAG_SIZE := lva_packet_size.2.2.2.2.2.2.2.2.2
noncomputable abbrev ns_reserved_bits : List (Str × NameKind) := [("first", .local)]
theorem ok_reserved_bits : okk ns_reserved_bits ["first"] = true := by decide +kernel
theorem lva_reserved_bits : lv ns_reserved_bits "first" 0 = true := by decide +kernel
abbrev lv_reserved_bits_first := lva_reserved_bits
noncomputable abbrev ns_open_packet : List (Str × NameKind) := [("data", .local), ("raw", .local), ("key", .local), ("largest_seen", .local), ("told", .local), ("head", .local), ("size", .local), ("number", .local), ("payload", .local), ("bare_head", .globalImplicit), ("restore_number", .globalImplicit), ("get_whole", .globalImplicit), ("len", .globalImplicit), ("open_sealed", .globalImplicit), ("reserved_bits", .globalImplicit), ("QuicError", .globalImplicit), ("PROTOCOL_VIOLATION", .globalImplicit), ("opened", .globalImplicit)]
theorem ok_open_packet : okk ns_open_packet ["data", "raw", "key", "largest_seen"] = true := by decide +kernel
theorem lva_open_packet : lv ns_open_packet "data" 0 = true ∧ lv ns_open_packet "raw" 1 = true ∧ lv ns_open_packet "key" 2 = true ∧ lv ns_open_packet "largest_seen" 3 = true ∧ lv ns_open_packet "told" 4 = true ∧ lv ns_open_packet "head" 5 = true ∧ lv ns_open_packet "size" 6 = true ∧ lv ns_open_packet "number" 7 = true ∧ lv ns_open_packet "payload" 8 = true ∧ gv ns_open_packet "bare_head" = true ∧ gv ns_open_packet "restore_number" = true ∧ gv ns_open_packet "get_whole" = true ∧ gv ns_open_packet "len" = true ∧ gv ns_open_packet "open_sealed" = true ∧ gv ns_open_packet "reserved_bits" = true ∧ gv ns_open_packet "QuicError" = true ∧ gv ns_open_packet "PROTOCOL_VIOLATION" = true ∧ gv ns_open_packet "opened" = true := by decide +kernel
abbrev lv_open_packet_data := lva_open_packet.1
abbrev lv_open_packet_raw := lva_open_packet.2.1
abbrev lv_open_packet_key := lva_open_packet.2.2.1
abbrev lv_open_packet_largest_seen := lva_open_packet.2.2.2.1
abbrev lv_open_packet_told := lva_open_packet.2.2.2.2.1
abbrev lv_open_packet_head := lva_open_packet.2.2.2.2.2.1
abbrev lv_open_packet_size := lva_open_packet.2.2.2.2.2.2.1
abbrev lv_open_packet_number := lva_open_packet.2.2.2.2.2.2.2.1
abbrev lv_open_packet_payload := lva_open_packet.2.2.2.2.2.2.2.2.1
abbrev gv_open_packet_bare_head := lva_open_packet.2.2.2.2.2.2.2.2.2.1
abbrev gv_open_packet_restore_number := lva_open_packet.2.2.2.2.2.2.2.2.2.2.1
abbrev gv_open_packet_get_whole := lva_open_packet.2.2.2.2.2.2.2.2.2.2.2.1
abbrev gv_open_packet_len := lva_open_packet.2.2.2.2.2.2.2.2.2.2.2.2.1
abbrev gv_open_packet_open_sealed := lva_open_packet.2.2.2.2.2.2.2.2.2.2.2.2.2.1
abbrev gv_open_packet_reserved_bits := lva_open_packet.2.2.2.2.2.2.2.2.2.2.2.2.2.2.1
abbrev gv_open_packet_opened := lva_open_packet.2.2.2.2.2.2.2.2.2.2.2.2.2.2.2.2.2
noncomputable abbrev ns_opened : List (Str × NameKind) := [("raw", .local), ("first", .local), ("number", .local), ("payload", .local)]
theorem ok_opened : okk ns_opened ["raw", "first", "number", "payload"] = true := by decide +kernel
theorem lva_opened : lv ns_opened "raw" 0 = true ∧ lv ns_opened "first" 1 = true ∧ lv ns_opened "number" 2 = true ∧ lv ns_opened "payload" 3 = true := by decide +kernel
abbrev lv_opened_raw := lva_opened.1
abbrev lv_opened_first := lva_opened.2.1
abbrev lv_opened_number := lva_opened.2.2.1
abbrev lv_opened_payload := lva_opened.2.2.2
noncomputable abbrev ns_packet_with : List (Str × NameKind) := [("ids", .local), ("space", .local), ("number", .local), ("payload", .local), ("dcid", .local), ("scid", .local)]
theorem ok_packet_with : okk ns_packet_with ["ids", "space", "number", "payload"] = true := by decide +kernel
theorem lva_packet_with : lv ns_packet_with "ids" 0 = true ∧ lv ns_packet_with "space" 1 = true ∧ lv ns_packet_with "number" 2 = true ∧ lv ns_packet_with "payload" 3 = true ∧ lv ns_packet_with "dcid" 4 = true ∧ lv ns_packet_with "scid" 5 = true := by decide +kernel
abbrev lv_packet_with_ids := lva_packet_with.1
abbrev lv_packet_with_space := lva_packet_with.2.1
abbrev lv_packet_with_number := lva_packet_with.2.2.1
abbrev lv_packet_with_payload := lva_packet_with.2.2.2.1
abbrev lv_packet_with_dcid := lva_packet_with.2.2.2.2.1
abbrev lv_packet_with_scid := lva_packet_with.2.2.2.2.2
noncomputable abbrev ns_head_octets : List (Str × NameKind) := [("ids", .local), ("places", .local), ("space", .local), ("number", .local), ("acked", .local), ("packet_size", .globalImplicit), ("packet_with", .globalImplicit), ("bytes", .globalImplicit), ("LEAST_PAYLOAD", .globalImplicit)]
theorem ok_head_octets : okk ns_head_octets ["ids", "places", "space"] = true := by decide +kernel
theorem lva_head_octets : lv ns_head_octets "ids" 0 = true ∧ lv ns_head_octets "places" 1 = true ∧ lv ns_head_octets "space" 2 = true ∧ lv ns_head_octets "number" 3 = true ∧ lv ns_head_octets "acked" 4 = true ∧ gv ns_head_octets "packet_size" = true ∧ gv ns_head_octets "packet_with" = true ∧ gv ns_head_octets "bytes" = true ∧ gv ns_head_octets "LEAST_PAYLOAD" = true := by decide +kernel
abbrev lv_head_octets_ids := lva_head_octets.1
abbrev lv_head_octets_places := lva_head_octets.2.1
abbrev lv_head_octets_space := lva_head_octets.2.2.1
abbrev lv_head_octets_number := lva_head_octets.2.2.2.1
abbrev lv_head_octets_acked := lva_head_octets.2.2.2.2.1
abbrev gv_head_octets_packet_size := lva_head_octets.2.2.2.2.2.1
abbrev gv_head_octets_packet_with := lva_head_octets.2.2.2.2.2.2.1
abbrev gv_head_octets_bytes := lva_head_octets.2.2.2.2.2.2.2.1
abbrev gv_head_octets_LEAST_PAYLOAD := lva_head_octets.2.2.2.2.2.2.2.2
noncomputable abbrev ns_shorter_close : List (Str × NameKind) := [("frame", .local), ("room", .local), ("many", .local), ("max", .globalImplicit), ("min", .globalImplicit), ("len", .globalImplicit), ("frame_size", .globalImplicit)]
theorem ok_shorter_close : okk ns_shorter_close ["frame", "room"] = true := by decide +kernel
theorem lva_shorter_close : lv ns_shorter_close "frame" 0 = true ∧ lv ns_shorter_close "room" 1 = true ∧ lv ns_shorter_close "many" 2 = true ∧ gv ns_shorter_close "max" = true ∧ gv ns_shorter_close "min" = true ∧ gv ns_shorter_close "len" = true ∧ gv ns_shorter_close "frame_size" = true := by decide +kernel
abbrev lv_shorter_close_frame := lva_shorter_close.1
abbrev lv_shorter_close_room := lva_shorter_close.2.1
abbrev lv_shorter_close_many := lva_shorter_close.2.2.1
abbrev gv_shorter_close_max := lva_shorter_close.2.2.2.1
abbrev gv_shorter_close_min := lva_shorter_close.2.2.2.2.1
abbrev gv_shorter_close_len := lva_shorter_close.2.2.2.2.2.1
abbrev gv_shorter_close_frame_size := lva_shorter_close.2.2.2.2.2.2
noncomputable abbrev ns_closing_rows : List (Str × NameKind) := [("ids", .local), ("places", .local), ("spaces", .local), ("frame", .local), ("size", .local), ("rows", .local), ("left", .local), ("space", .local), ("room", .local), ("told", .local), ("head_octets", .globalImplicit), ("shorter_close", .globalImplicit), ("close_frame_in", .globalImplicit), ("PACKET_KINDS", .globalImplicit), ("frame_size", .globalImplicit)]
theorem ok_closing_rows : okk ns_closing_rows ["ids", "places", "spaces", "frame", "size"] = true := by decide +kernel
theorem lva_closing_rows : lv ns_closing_rows "ids" 0 = true ∧ lv ns_closing_rows "places" 1 = true ∧ lv ns_closing_rows "spaces" 2 = true ∧ lv ns_closing_rows "frame" 3 = true ∧ lv ns_closing_rows "size" 4 = true ∧ lv ns_closing_rows "rows" 5 = true ∧ lv ns_closing_rows "left" 6 = true ∧ lv ns_closing_rows "space" 7 = true ∧ lv ns_closing_rows "room" 8 = true ∧ lv ns_closing_rows "told" 9 = true ∧ gv ns_closing_rows "head_octets" = true ∧ gv ns_closing_rows "shorter_close" = true ∧ gv ns_closing_rows "close_frame_in" = true ∧ gv ns_closing_rows "PACKET_KINDS" = true ∧ gv ns_closing_rows "frame_size" = true := by decide +kernel
abbrev lv_closing_rows_ids := lva_closing_rows.1
abbrev lv_closing_rows_places := lva_closing_rows.2.1
abbrev lv_closing_rows_spaces := lva_closing_rows.2.2.1
abbrev lv_closing_rows_frame := lva_closing_rows.2.2.2.1
abbrev lv_closing_rows_size := lva_closing_rows.2.2.2.2.1
abbrev lv_closing_rows_rows := lva_closing_rows.2.2.2.2.2.1
abbrev lv_closing_rows_left := lva_closing_rows.2.2.2.2.2.2.1
abbrev lv_closing_rows_space := lva_closing_rows.2.2.2.2.2.2.2.1
abbrev lv_closing_rows_room := lva_closing_rows.2.2.2.2.2.2.2.2.1
abbrev lv_closing_rows_told := lva_closing_rows.2.2.2.2.2.2.2.2.2.1
abbrev gv_closing_rows_head_octets := lva_closing_rows.2.2.2.2.2.2.2.2.2.2.1
abbrev gv_closing_rows_shorter_close := lva_closing_rows.2.2.2.2.2.2.2.2.2.2.2.1
abbrev gv_closing_rows_close_frame_in := lva_closing_rows.2.2.2.2.2.2.2.2.2.2.2.2.1
abbrev gv_closing_rows_PACKET_KINDS := lva_closing_rows.2.2.2.2.2.2.2.2.2.2.2.2.2.1
abbrev gv_closing_rows_frame_size := lva_closing_rows.2.2.2.2.2.2.2.2.2.2.2.2.2.2
noncomputable abbrev ns_law_take : List (Str × NameKind) := [("box", .local), ("many", .local), ("spot", .local), ("len", .globalImplicit), ("abs", .globalImplicit)]
theorem ok_law_take : okk ns_law_take ["box", "many"] = true := by decide +kernel
theorem lva_law_take : lv ns_law_take "box" 0 = true ∧ lv ns_law_take "many" 1 = true ∧ lv ns_law_take "spot" 2 = true ∧ gv ns_law_take "len" = true ∧ gv ns_law_take "abs" = true := by decide +kernel
abbrev lv_law_take_box := lva_law_take.1
abbrev lv_law_take_many := lva_law_take.2.1
abbrev lv_law_take_spot := lva_law_take.2.2.1
abbrev gv_law_take_len := lva_law_take.2.2.2.1
abbrev gv_law_take_abs := lva_law_take.2.2.2.2
noncomputable abbrev ns_law_octets : List (Str × NameKind) := [("frame", .local), ("space", .local), ("bytes", .globalImplicit), ("len", .globalImplicit)]
theorem ok_law_octets : okk ns_law_octets ["frame", "space"] = true := by decide +kernel
theorem lva_law_octets : lv ns_law_octets "frame" 0 = true ∧ lv ns_law_octets "space" 1 = true ∧ gv ns_law_octets "bytes" = true ∧ gv ns_law_octets "len" = true := by decide +kernel
abbrev lv_law_octets_frame := lva_law_octets.1
abbrev lv_law_octets_space := lva_law_octets.2.1
abbrev gv_law_octets_bytes := lva_law_octets.2.2.1
abbrev gv_law_octets_len := lva_law_octets.2.2.2
noncomputable abbrev ns_law_due : List (Str × NameKind) := [("frame", .local), ("space", .local), ("number", .local), ("told", .local), ("_law_octets", .globalImplicit)]
theorem ok_law_due : okk ns_law_due ["frame", "space", "number"] = true := by decide +kernel
theorem lva_law_due : lv ns_law_due "frame" 0 = true ∧ lv ns_law_due "space" 1 = true ∧ lv ns_law_due "number" 2 = true ∧ lv ns_law_due "told" 3 = true ∧ gv ns_law_due "_law_octets" = true := by decide +kernel
abbrev lv_law_due_frame := lva_law_due.1
abbrev lv_law_due_space := lva_law_due.2.1
abbrev lv_law_due_number := lva_law_due.2.2.1
abbrev lv_law_due_told := lva_law_due.2.2.2.1
abbrev gv_law_due_law_octets := lva_law_due.2.2.2.2
noncomputable abbrev ns_law_is_heard : List (Str × NameKind) := [("frame", .local), ("told", .local), ("places", .local), ("lives", .local), ("has", .local), ("keys", .local), ("ids", .local), ("data", .local), ("space", .local), ("frames", .local), ("number", .local), ("acked", .local), ("raws", .local), ("raw", .local), ("closing_rows", .globalImplicit), ("put_packet", .globalImplicit), ("packet_with", .globalImplicit), ("put_frames", .globalImplicit), ("split_datagram", .globalImplicit), ("zip", .globalImplicit), ("open_packet", .globalImplicit), ("_law_due", .globalImplicit)]
theorem ok_law_is_heard : okk ns_law_is_heard ["frame", "told", "places", "lives", "has"] = true := by decide +kernel
theorem lva_law_is_heard : lv ns_law_is_heard "frame" 0 = true ∧ lv ns_law_is_heard "told" 1 = true ∧ lv ns_law_is_heard "places" 2 = true ∧ lv ns_law_is_heard "lives" 3 = true ∧ lv ns_law_is_heard "has" 4 = true ∧ lv ns_law_is_heard "keys" 5 = true ∧ lv ns_law_is_heard "ids" 6 = true ∧ lv ns_law_is_heard "data" 7 = true ∧ lv ns_law_is_heard "space" 8 = true ∧ lv ns_law_is_heard "frames" 9 = true ∧ lv ns_law_is_heard "number" 10 = true ∧ lv ns_law_is_heard "acked" 11 = true ∧ lv ns_law_is_heard "raws" 12 = true ∧ lv ns_law_is_heard "raw" 13 = true ∧ gv ns_law_is_heard "closing_rows" = true ∧ gv ns_law_is_heard "put_packet" = true ∧ gv ns_law_is_heard "packet_with" = true ∧ gv ns_law_is_heard "put_frames" = true ∧ gv ns_law_is_heard "split_datagram" = true ∧ gv ns_law_is_heard "zip" = true ∧ gv ns_law_is_heard "open_packet" = true ∧ gv ns_law_is_heard "_law_due" = true := by decide +kernel
abbrev lv_law_is_heard_frame := lva_law_is_heard.1
abbrev lv_law_is_heard_told := lva_law_is_heard.2.1
abbrev lv_law_is_heard_places := lva_law_is_heard.2.2.1
abbrev lv_law_is_heard_lives := lva_law_is_heard.2.2.2.1
abbrev lv_law_is_heard_has := lva_law_is_heard.2.2.2.2.1
abbrev lv_law_is_heard_keys := lva_law_is_heard.2.2.2.2.2.1
abbrev lv_law_is_heard_ids := lva_law_is_heard.2.2.2.2.2.2.1
abbrev lv_law_is_heard_data := lva_law_is_heard.2.2.2.2.2.2.2.1
abbrev lv_law_is_heard_space := lva_law_is_heard.2.2.2.2.2.2.2.2.1
abbrev lv_law_is_heard_frames := lva_law_is_heard.2.2.2.2.2.2.2.2.2.1
abbrev lv_law_is_heard_number := lva_law_is_heard.2.2.2.2.2.2.2.2.2.2.1
abbrev lv_law_is_heard_acked := lva_law_is_heard.2.2.2.2.2.2.2.2.2.2.2.1
abbrev lv_law_is_heard_raws := lva_law_is_heard.2.2.2.2.2.2.2.2.2.2.2.2.1
abbrev lv_law_is_heard_raw := lva_law_is_heard.2.2.2.2.2.2.2.2.2.2.2.2.2.1
abbrev gv_law_is_heard_closing_rows := lva_law_is_heard.2.2.2.2.2.2.2.2.2.2.2.2.2.2.1
abbrev gv_law_is_heard_put_packet := lva_law_is_heard.2.2.2.2.2.2.2.2.2.2.2.2.2.2.2.1
abbrev gv_law_is_heard_packet_with := lva_law_is_heard.2.2.2.2.2.2.2.2.2.2.2.2.2.2.2.2.1
abbrev gv_law_is_heard_put_frames := lva_law_is_heard.2.2.2.2.2.2.2.2.2.2.2.2.2.2.2.2.2.1
abbrev gv_law_is_heard_split_datagram := lva_law_is_heard.2.2.2.2.2.2.2.2.2.2.2.2.2.2.2.2.2.2.1
abbrev gv_law_is_heard_zip := lva_law_is_heard.2.2.2.2.2.2.2.2.2.2.2.2.2.2.2.2.2.2.2.1
abbrev gv_law_is_heard_open_packet := lva_law_is_heard.2.2.2.2.2.2.2.2.2.2.2.2.2.2.2.2.2.2.2.2.1
abbrev gv_law_is_heard_law_due := lva_law_is_heard.2.2.2.2.2.2.2.2.2.2.2.2.2.2.2.2.2.2.2.2.2
noncomputable abbrev ns_law : List (Str × NameKind) := [("script", .local), ("box", .local), ("lives", .local), ("code", .local), ("kind", .local), ("frame", .local), ("places", .local), ("space", .local), ("number", .local), ("acked", .local), ("wait", .local), ("now", .local), ("many", .local), ("arrives", .local), ("bits", .cell), ("has", .local), ("closing", .local), ("words", .local), ("turn", .local), ("end", .local), ("list", .globalImplicit), ("_law_take", .globalImplicit), ("enumerate", .globalImplicit), ("Closing", .globalImplicit), ("range", .globalImplicit), ("_law_is_heard", .globalImplicit)]
theorem lva_law : lv ns_law "script" 0 = true ∧ lv ns_law "box" 1 = true ∧ lv ns_law "lives" 2 = true ∧ lv ns_law "code" 3 = true ∧ lv ns_law "kind" 4 = true ∧ lv ns_law "frame" 5 = true ∧ lv ns_law "places" 6 = true ∧ lv ns_law "space" 7 = true ∧ lv ns_law "number" 8 = true ∧ lv ns_law "acked" 9 = true ∧ lv ns_law "wait" 10 = true ∧ lv ns_law "now" 11 = true ∧ lv ns_law "many" 12 = true ∧ lv ns_law "arrives" 13 = true ∧ lv ns_law "has" 15 = true ∧ lv ns_law "closing" 16 = true ∧ lv ns_law "words" 17 = true ∧ lv ns_law "turn" 18 = true ∧ lv ns_law "end" 19 = true ∧ gv ns_law "list" = true ∧ gv ns_law "_law_take" = true ∧ gv ns_law "enumerate" = true ∧ gv ns_law "Closing" = true ∧ gv ns_law "range" = true ∧ gv ns_law "_law_is_heard" = true := by decide +kernel
abbrev lv_law_script := lva_law.1
abbrev lv_law_box := lva_law.2.1
abbrev lv_law_lives := lva_law.2.2.1
abbrev lv_law_code := lva_law.2.2.2.1
abbrev lv_law_kind := lva_law.2.2.2.2.1
abbrev lv_law_frame := lva_law.2.2.2.2.2.1
abbrev lv_law_places := lva_law.2.2.2.2.2.2.1
abbrev lv_law_space := lva_law.2.2.2.2.2.2.2.1
abbrev lv_law_number := lva_law.2.2.2.2.2.2.2.2.1
abbrev lv_law_acked := lva_law.2.2.2.2.2.2.2.2.2.1
abbrev lv_law_wait := lva_law.2.2.2.2.2.2.2.2.2.2.1
abbrev lv_law_now := lva_law.2.2.2.2.2.2.2.2.2.2.2.1
abbrev lv_law_many := lva_law.2.2.2.2.2.2.2.2.2.2.2.2.1
abbrev lv_law_arrives := lva_law.2.2.2.2.2.2.2.2.2.2.2.2.2.1
abbrev lv_law_has := lva_law.2.2.2.2.2.2.2.2.2.2.2.2.2.2.1
abbrev lv_law_closing := lva_law.2.2.2.2.2.2.2.2.2.2.2.2.2.2.2.1
abbrev lv_law_words := lva_law.2.2.2.2.2.2.2.2.2.2.2.2.2.2.2.2.1
abbrev lv_law_turn := lva_law.2.2.2.2.2.2.2.2.2.2.2.2.2.2.2.2.2.1
abbrev lv_law_end := lva_law.2.2.2.2.2.2.2.2.2.2.2.2.2.2.2.2.2.2.1
abbrev gv_law_list := lva_law.2.2.2.2.2.2.2.2.2.2.2.2.2.2.2.2.2.2.2.1
abbrev gv_law_law_take := lva_law.2.2.2.2.2.2.2.2.2.2.2.2.2.2.2.2.2.2.2.2.1
abbrev gv_law_enumerate := lva_law.2.2.2.2.2.2.2.2.2.2.2.2.2.2.2.2.2.2.2.2.2.1
abbrev gv_law_Closing := lva_law.2.2.2.2.2.2.2.2.2.2.2.2.2.2.2.2.2.2.2.2.2.2.1
abbrev gv_law_range := lva_law.2.2.2.2.2.2.2.2.2.2.2.2.2.2.2.2.2.2.2.2.2.2.2.1
abbrev gv_law_law_is_heard := lva_law.2.2.2.2.2.2.2.2.2.2.2.2.2.2.2.2.2.2.2.2.2.2.2.2
end
section
section
variable {bz : Bool} {prog : Program} {w : World} {A : Around} {g : Heap} {L : Addr} {m : FMap} {n : Led} {env : Env} {target : Expr} {body : List Stmt} {P : Flow → FMap → Led → Prop} {it : Value} {pos : Pos} {x : Str}
theorem HoL.drop {k : Nat} {n' : Led} (s : n'.Sublist n) (h : HoL bz prog w A g L env target body it P k m n') : HoL bz prog w A g L env target body it P k m n := by
  cases k with
  | zero => exact h.elim
  | succ k => exact ho_drop n' s h
noncomputable def Turn (J : FMap → Led → Prop) (I : Addr) (o : Obj) (P : Flow → FMap → Led → Prop) : Flow → FMap → Led → Prop := fun f m n => match f with
  | .next => ∃ n', ((I, o) :: n').Sublist n ∧ J m n'
  | .cont => ∃ n', ((I, o) :: n').Sublist n ∧ J m n'
  | .brk => P .next m n
  | .ret v => P (.ret v) m n
theorem turn_next {J : FMap → Led → Prop} {I : Addr} {o : Obj} (n' : Led) (s : ((I, o) :: n').Sublist n) (h : J m n') : Turn J I o P .next m n := ⟨n', s, h⟩
theorem hl_bytes {I : Addr} {l : List UInt8} {tb : Tok} {o : Obj} (J : List UInt8 → FMap → Led → Prop) (hh : A.handled = none) (ho : ItO "bytes_iterator" (.bytes l.toArray tb) 0 o) (h0 : J [] m n)
    (turn : ∀ pre c rest m n t o, l = pre ++ c :: rest → J pre m n → Ho bz prog w A g L m ((I, o) :: n) (assign (.Name x pos) env (.int (c.toNat : Int) t)) (Kthen bz prog w A g L (execs body env) (Turn (J (pre ++ [c])) I o P)))
    (done : ∀ m n, J l m n → P .next m n) : ∃ k, HoL bz prog w A g L env (.Name x pos) body (.ref I) P k m ((I, o) :: n) := by
  have key : ∀ (rest pre : List UInt8) (m : FMap) (n : Led) (o : Obj), l = pre ++ rest → ItO "bytes_iterator" (.bytes l.toArray tb) pre.length o → J pre m n → HoL bz prog w A g L env (.Name x pos) body (.ref I) P (rest.length + 1) m ((I, o) :: n) := by
    intro rest
    induction rest with
    | nil =>
      intro pre m n o e ho hj
      refine hl_step (pn_bytes0 hh (.head _) ho (by rw [e]; simp) .head ?_)
      rw [List.append_nil] at e
      exact done m n (e ▸ hj)
    | cons c rest ih =>
      intro pre m n o e ho hj
      refine hl_step (pn_bytes (c := c) .head ho (by rw [e]; simp) fun t o' ho' => hg_name ((turn pre c rest m n t o' e hj).mono fun _ m n h => h.mono fun f m n h => ?_))
      have go : ∀ n', ((I, o') :: n').Sublist n → J (pre ++ [c]) m n' → HoL bz prog w A g L env (.Name x pos) body (.ref I) P (rest.length + 1) m n := fun n' s hj' =>
        (ih (pre ++ [c]) m n' o' (by rw [e]; simp) (by simpa using ho') hj').drop s
      cases f with
      | next => obtain ⟨n', s, hj'⟩ := h; exact go n' s hj'
      | cont => obtain ⟨n', s, hj'⟩ := h; exact go n' s hj'
      | brk => exact h
      | ret v => exact h
  exact ⟨_, key l [] m n o rfl ho h0⟩
theorem hl_bytesT {I : Addr} {l : List UInt8} {tb : Tok} {o : Obj} (J : List UInt8 → FMap → Led → Prop) (hh : A.handled = none) (ho : ItO "bytes_iterator" (.bytes l.toArray tb) 0 o) (h0 : J [] m n)
    (turn : ∀ pre c rest m n t o (T : Flow → FMap → Led → Prop), l = pre ++ c :: rest → J pre m n → (∀ f m n, Turn (J (pre ++ [c])) I o P f m n → T f m n) → Ho bz prog w A g L m ((I, o) :: n) (assign (.Name x pos) env (.int (c.toNat : Int) t)) (Kthen bz prog w A g L (execs body env) T))
    (done : ∀ m n, J l m n → P .next m n) : ∃ k, HoL bz prog w A g L env (.Name x pos) body (.ref I) P k m ((I, o) :: n) :=
  hl_bytes J hh ho h0 (fun pre c rest m n t o e0 e1 => turn pre c rest m n t o _ e0 e1 fun _ _ _ h => h) done
end
end
section
noncomputable def dn (P : Params) : List Str → List Tok → List Value → List DictEntry
  | x :: xs, t :: ts, v :: vs => ⟨PyData.keyHash P x, .str x t, v⟩ :: dn P xs ts vs
  | _, _, _ => []
noncomputable def dk : List Str → Str → Nat → Bool
  | [], _, _ => false
  | y :: _, x, 0 => y == x
  | y :: ys, x, k + 1 => !(y == x) && dk ys x k
noncomputable def nthV : List Value → Nat → Option Value
  | [], _ => none
  | a :: _, 0 => some a
  | _ :: l, k + 1 => nthV l k
noncomputable def setV : List Value → Nat → Value → List Value
  | [], _, _ => []
  | _ :: l, 0, v => v :: l
  | a :: l, k + 1, v => a :: setV l k v
noncomputable def sameL : List Str → List Tok → List Value → Bool
  | [], [], [] => true
  | _ :: xs, _ :: ts, _ :: vs => sameL xs ts vs
  | _, _, _ => false
theorem dn_find (P : Params) : ∀ {xs : List Str} {ts : List Tok} {vs : List Value} {x : Str} {i : Nat} {v : Value}, dk xs x i = true → nthV vs i = some v → sameL xs ts vs = true → ∃ e, (dn P xs ts vs).find? (·.key.isStr x) = some e ∧ e.val = v
  | y :: xs, t :: ts, u :: vs, x, 0, v, h, e, _ => by
    have q : y = x := by simpa [dk] using h
    refine ⟨⟨PyData.keyHash P y, .str y t, u⟩, ?_, by simpa [nthV] using e⟩
    show List.find? _ (_ :: _) = _
    rw [List.find?_cons, show (Value.str y t).isStr x = true from by simp [Value.isStr, q]]
  | y :: xs, t :: ts, u :: vs, x, k + 1, v, h, e, hs => by
    simp only [dk, Bool.and_eq_true, Bool.not_eq_true', beq_eq_false_iff_ne] at h
    obtain ⟨d, h1, h2⟩ := dn_find P (ts := ts) h.2 e hs
    refine ⟨d, ?_, h2⟩
    show List.find? _ (_ :: _) = _
    rw [List.find?_cons, show (Value.str y t).isStr x = false from by simp [Value.isStr, h.1]]
    exact h1
  | [], _, _, _, _, _, h, _, _ => by cases h
  | _ :: _, [], _, _, _, _, _, _, hs => by simp [sameL] at hs
  | _ :: _, _ :: _, [], _, _, _, _, _, hs => by simp [sameL] at hs
theorem getL_dn {P : Params} {xs : List Str} {ts : List Tok} {vs : List Value} {x : Str} {i : Nat} {v : Value} (h : dk xs x i = true) (e : nthV vs i = some v) (hs : sameL xs ts vs = true) : getL x (dn P xs ts vs) = some (some v) := by
  obtain ⟨d, h1, h2⟩ := dn_find P (ts := ts) h e hs
  unfold getL
  rw [h1, ← h2]
theorem dn_norefs (P : Params) : ∀ (xs : List Str) (ts : List Tok) (vs : List Value), (dn P xs ts vs).any (·.refKey) = false
  | [], _, _ => by unfold dn; rfl
  | _ :: _, [], _ => rfl
  | _ :: _, _ :: _, [] => rfl
  | x :: xs, t :: ts, v :: vs => by
    show List.any (_ :: _) _ = _
    rw [List.any_cons, dn_norefs P xs ts vs]; rfl
theorem dn_nofind (P : Params) : ∀ {xs : List Str} {ts : List Tok} {vs : List Value} {x : Str}, xs.contains x = false → (dn P xs ts vs).find? (·.key.isStr x) = none
  | [], _, _, _, _ => by unfold dn; rfl
  | _ :: _, [], _, _, _ => rfl
  | _ :: _, _ :: _, [], _, _ => rfl
  | y :: xs, t :: ts, v :: vs, x, h => by
    simp only [List.contains_cons, Bool.or_eq_false_iff] at h
    show List.find? _ (_ :: _) = _
    rw [List.find?_cons, show (Value.str y t).isStr x = false from by simpa [Value.isStr] using fun q => (by simpa using h.1 : ¬ x = y) q.symm]
    exact dn_nofind P h.2
theorem getL_dn0 {P : Params} {xs : List Str} {ts : List Tok} {vs : List Value} {x : Str} (h : xs.contains x = false) : getL x (dn P xs ts vs) = some none := by
  unfold getL
  rw [dn_nofind P h]
  show (if (dn P xs ts vs).any (·.refKey) = true then none else some none) = some none
  rw [dn_norefs, if_neg Bool.false_ne_true]
theorem putL_dn (P : Params) (hsh : Int) (key u : Value) : ∀ {xs : List Str} {ts : List Tok} {vs : List Value} {x : Str} {i : Nat}, dk xs x i = true → sameL xs ts vs = true → putL x hsh key u (dn P xs ts vs) = dn P xs ts (setV vs i u)
  | y :: xs, t :: ts, v :: vs, x, 0, h, _ => by
    have q : y = x := by simpa [dk] using h
    show putL x hsh key u (_ :: _) = _
    simp [putL, Value.isStr, q, setV, dn]
  | y :: xs, t :: ts, v :: vs, x, k + 1, h, hs => by
    simp only [dk, Bool.and_eq_true, Bool.not_eq_true', beq_eq_false_iff_ne] at h
    show putL x hsh key u (_ :: _) = _
    simp only [putL, Value.isStr, show (y == x) = false from by simpa using h.1, Bool.false_eq_true, if_false, setV, dn]
    rw [putL_dn P hsh key u h.2 hs]
  | [], _, _, _, _, h, _ => by cases h
  | _ :: _, [], _, _, _, _, hs => by simp [sameL] at hs
  | _ :: _, _ :: _, [], _, _, _, hs => by simp [sameL] at hs
theorem any_dn (P : Params) : ∀ {xs : List Str} {ts : List Tok} {vs : List Value} {x : Str} {i : Nat}, dk xs x i = true → sameL xs ts vs = true → (dn P xs ts vs).any (·.key.isStr x) = true
  | y :: xs, t :: ts, v :: vs, x, 0, h, _ => by
    have q : y = x := by simpa [dk] using h
    show List.any (_ :: _) _ = _
    simp [Value.isStr, q]
  | y :: xs, t :: ts, v :: vs, x, k + 1, h, hs => by
    simp only [dk, Bool.and_eq_true, Bool.not_eq_true', beq_eq_false_iff_ne] at h
    show List.any (_ :: _) _ = _
    rw [List.any_cons, any_dn P h.2 hs, Bool.or_true]
  | [], _, _, _, _, h, _ => by cases h
  | _ :: _, [], _, _, _, _, hs => by simp [sameL] at hs
  | _ :: _, _ :: _, [], _, _, _, hs => by simp [sameL] at hs
theorem putL_new (P : Params) (t : Tok) (u : Value) : ∀ {xs : List Str} {ts : List Tok} {vs : List Value} {x : Str}, xs.contains x = false → sameL xs ts vs = true → putL x (PyData.keyHash P x) (.str x t) u (dn P xs ts vs) = dn P (xs ++ [x]) (ts ++ [t]) (vs ++ [u])
  | [], [], [], x, _, _ => by simp [dn, putL]
  | y :: xs, t' :: ts, v :: vs, x, h, hs => by
    simp only [List.contains_cons, Bool.or_eq_false_iff] at h
    have q : (y == x) = false := by simpa using fun q => (by simpa using h.1 : ¬ x = y) q.symm
    show putL x _ _ u (_ :: _) = _
    simp only [putL, Value.isStr, q, Bool.false_eq_true, if_false, dn, List.cons_append]
    rw [putL_new P t u h.2 hs]
  | [], [], _ :: _, _, _, hs => by simp [sameL] at hs
  | [], _ :: _, _, _, _, hs => by simp [sameL] at hs
  | _ :: _, [], _, _, _, hs => by simp [sameL] at hs
  | _ :: _, _ :: _, [], _, _, hs => by simp [sameL] at hs
theorem any_new (P : Params) : ∀ {xs : List Str} {ts : List Tok} {vs : List Value} {x : Str}, xs.contains x = false → (dn P xs ts vs).any (·.key.isStr x) = false
  | [], _, _, _, _ => by unfold dn; rfl
  | _ :: _, [], _, _, _ => rfl
  | _ :: _, _ :: _, [], _, _ => rfl
  | y :: xs, t :: ts, v :: vs, x, h => by
    simp only [List.contains_cons, Bool.or_eq_false_iff] at h
    show List.any (_ :: _) _ = _
    rw [List.any_cons, any_new P h.2, Bool.or_false]
    simpa [Value.isStr] using fun q => (by simpa using h.1 : ¬ x = y) q.symm
theorem dn_len (P : Params) : ∀ (xs : List Str) (ts : List Tok) (vs : List Value), (dn P xs ts vs).length ≤ xs.length
  | [], _, _ => by unfold dn; simp
  | _ :: _, [], _ => by simp [dn]
  | _ :: _, _ :: _, [] => by simp [dn]
  | x :: xs, t :: ts, v :: vs => by simpa [dn] using dn_len P xs ts vs
section
variable {bz : Bool} {prog : Program} {w : World} {A : Around} {g : Heap} {L : Addr} {m : FMap} {n : Led} {env : Env} {V : Value → FMap → Led → Prop} {U : Unit → FMap → Led → Prop} {P : Flow → FMap → Led → Prop} {K : Frag} {p : Program} {loose : List Str}
variable {C x dx : Addr} {xs : List Str} {ts : List Tok} {vs : List Value} {k : Nat} {y : Str} {v : Value} {i : Nat}
structure AttrOk (K : Frag) (C : Addr) (y : Str) : Prop where
  get : plainGet K C y = true
  has : hasDictIn K C = true
  find : findIn K (.ref C) y = some none
  set : findIn K (.ref C) "__setattr__" = some (some (.builtin "object.__setattr__"))
  over : plainOver K C = true
  taker : takerIn K C y = some none
theorem ho_get {expr : Bool} (G : Gd K p loose g) (c : AttrOk K C y) (hx : (x, instObj C dx) ∈ n) (hd : (dx, dictOf (dn w.params xs ts vs) k) ∈ n) (hk : dk xs y i = true) (hv : nthV vs i = some v) (hs : sameL xs ts vs = true) (hh : handedIn v = true) (h : V v m n) :
    Ho bz prog w A g L m n (getAttr (.ref x) y expr) V :=
  Ho.mk fun _ _ _ _ _ _ _ F N q => get_own F G.X (InstAt.of_news N.news hx hd) c.get c.has c.find (by show Option.all _ _ = _; rfl) (getL_dn hk hv hs) hh (q _ _ _ _ _ F N h)
theorem ho_set {f : Obj → Led} (G : Gd K p loose g) (c : AttrOk K C y) (hx : (x, instObj C dx) ∈ n) (u : UpL dx (dictOf (dn w.params xs ts vs) k) n f) (hk : dk xs y i = true) (hv : (nthV vs i).isSome = true) (hs : sameL xs ts vs = true) (hl : xs.length ≤ 1000)
    (h : U () m (f (dictOf (dn w.params xs ts (setV vs i v)) k))) : Ho bz prog w A g L m n (setAttr (.ref x) y v) U :=
  Ho.mk fun _ _ _ tk _ _ _ F N q => by
    obtain ⟨z, hz⟩ := Option.isSome_iff_exists.mp hv
    exact set_dict F G.X N.news (InstAt.of_news N.news hx u.mem) rfl c.set c.over c.taker c.has (by rw [getL_dn hk hz hs]; rfl)
      (by rw [putL_dn _ _ _ _ hk hs, show putN y (dn w.params xs ts vs) k = k from by unfold putN; rw [any_dn _ hk hs]; rfl]) (u.upd _ N.nd) (Nat.le_trans (dn_len _ _ _ _) hl)
      fun _ F' N' => q _ _ _ _ _ F' ⟨N', by rw [u.keys]; exact N.nd⟩ h
theorem ho_setN {f : Obj → Led} (G : Gd K p loose g) (c : AttrOk K C y) (hx : (x, instObj C dx) ∈ n) (u : UpL dx (dictOf (dn w.params xs ts vs) k) n f) (hk : xs.contains y = false) (hs : sameL xs ts vs = true) (hl : (xs ++ [y]).length ≤ 1000)
    (h : ∀ t, U () m (f (dictOf (dn w.params (xs ++ [y]) (ts ++ [t]) (vs ++ [v])) (k + 1)))) : Ho bz prog w A g L m n (setAttr (.ref x) y v) U :=
  Ho.mk fun _ _ _ tk _ _ _ F N q =>
    set_dict F G.X N.news (InstAt.of_news N.news hx u.mem) rfl c.set c.over c.taker c.has (by rw [getL_dn0 hk]; rfl)
      (by rw [putL_new _ _ _ hk hs, show putN y (dn w.params xs ts vs) k = k + 1 from by unfold putN; rw [any_new _ hk]; rfl]) (u.upd _ N.nd) (Nat.le_trans (dn_len _ _ _ _) hl)
      fun _ F' N' => q _ _ _ _ _ F' ⟨N', by rw [u.keys]; exact N.nd⟩ (h _)
theorem he_meth {o : Expr} {name : Str} {apos pos : Pos} {args : List Expr} {pl : Sem Bool} (h : Ho bz prog w A g L m n (eval o env) (Kmeth bz prog w A g L name pl pos args env V))
    (hp : eval ((o.Attribute name apos).Call args [] pos) env = (do let ov ← eval o env; standAt apos.atName; let (f, first) ← holding [ov] (getMethod ov name pl); callWith pos f first (backTo pos (starEach args env)) []) := by rfl) :
    Ho bz prog w A g L m n (eval (.Call (.Attribute o name apos) args [] pos) env) V := by
  rw [hp]
  exact ho_bind (h.mono fun _ _ _ h => ho_sa (ho_bind (ho_hold (h.mono fun _ _ _ h => h))))
theorem hm_inst {f : Addr} {pl : Sem Bool} {V : Value × List Value → FMap → Led → Prop} (G : Gd K p loose g) (c : plainGet K C y = true) (hf : findIn K (.ref C) y = some (some (.ref f))) (hn : isFn K (.ref f) = true) (hx : (x, instObj C dx) ∈ n) (hd : (dx, dictOf (dn w.params xs ts vs) k) ∈ n) (hk : xs.contains y = false)
    (h : V (.ref f, [.ref x]) m n) : Ho bz prog w A g L m n (getMethod (.ref x) y pl) V :=
  Ho.mk fun _ _ _ _ _ _ _ F N q => method_inst F G.X (InstAt.of_news N.news hx hd) c hf hn (getL_dn0 hk) (q _ _ _ _ _ F N h)
noncomputable abbrev rngO (a b c : Int) (t u v : Tok) : Obj := { cls := .type "range", dict := none, data := .fields #[.int a t, .int b u, .int c v], slots := #[] }
noncomputable abbrev ritO (y left step : Int) : Obj := { cls := .type "range_iterator", dict := none, data := .fields #[rawInt y, rawInt left, rawInt step], slots := #[] }
variable {a b c : Int} {t u s : Tok} {I r : Addr} {f : Obj → Led} {R : Option Value → FMap → Led → Prop} {n' : Led}
theorem ho_range2 (h : ∀ r t u s, (∀ p ∈ n, p.1 ≠ r) → V (.ref r) m ((r, rngO a b 1 t u s) :: n)) : Ho bz prog w A g L m n (call (.type "range") [.int a t, .int b u]) V :=
  Ho.mk fun _ _ _ _ _ _ _ F N q => range2_rows F N.news fun h' tk t₁ u₁ v₁ hr F' _ kp => q _ _ _ _ _ F' (Nw.cons F N hr kp) (h _ _ _ _ fun _ hp => N.old hp)
theorem ho_range1 (h : ∀ r t u s, (∀ p ∈ n, p.1 ≠ r) → V (.ref r) m ((r, rngO 0 b 1 t u s) :: n)) : Ho bz prog w A g L m n (call (.type "range") [.int b u]) V :=
  Ho.mk fun _ _ _ _ _ _ _ F N q => range1_rows F N.news fun h' tk t₁ u₁ v₁ hr F' _ kp => q _ _ _ _ _ F' (Nw.cons F N hr kp) (h _ _ _ _ fun _ hp => N.old hp)
theorem ho_range3 (hc : c ≠ 0) (ok : Builtin.divisionGoesByPylong (b - a) c = false) (h : ∀ r t u s, (∀ p ∈ n, p.1 ≠ r) → V (.ref r) m ((r, rngO a b c t u s) :: n)) : Ho bz prog w A g L m n (call (.type "range") [.int a t, .int b u, .int c s]) V :=
  Ho.mk fun _ _ _ _ _ _ _ F N q => range3_rows F N.news hc (fun h' tk t₁ u₁ v₁ hr F' _ kp => q _ _ _ _ _ F' (Nw.cons F N hr kp) (h _ _ _ _ fun _ hp => N.old hp)) (.inl ok)
theorem pi_range (hm : (r, rngO a b c t u s) ∈ n) (hs : Builtin.Range.small a b c = true) {k : Int} (hk : Builtin.Range.rangeSize a b c = k) (h : ∀ I, (∀ p ∈ n, p.1 ≠ I) → V (.ref I) m ((I, ritO a k c) :: n)) : Ho bz prog w A g L m n (pyIter (.ref r)) V :=
  Ho.mk fun _ _ _ _ _ _ _ F N q => wpAny_pyIter_range (N.news _ hm).1 hs (q _ _ _ _ _ (Fr.kept F fun _ _ e => Heap.get?_push_of_some _ e) (Nw.cons F N (by rw [hk]; exact Heap.get?_push_size _ rfl) fun _ _ e => Heap.get?_push_of_some _ e) (h _ fun _ hp => N.old hp))
theorem pn_range {z left step : Int} (U : UpL I (ritO z left step) n f) (hl : 0 < left) (h : ∀ t, R (some (.int z t)) m (f (ritO (z + step) (left - 1) step))) : Ho bz prog w A g L m n (pyNext (.ref I)) R :=
  Ho.mk fun _ _ _ _ _ _ _ F N q => wpAny_pyNext_range_item (N.news _ U.mem).1 hl fun h' e' hs =>
    q _ _ _ _ _ (Fr.but F (N.news _ U.mem).2.1 (N.news _ U.mem).2.2 fun b x hb e => (hs.2 b hb).trans e) (N.upd U e' fun b x hb e => (hs.2 b hb).trans e) (h _)
theorem pn_range0 {z left step : Int} (hh : A.handled = none) (hI : (I, ritO z left step) ∈ n) (hl : left ≤ 0) (U : RmL I n n') (h : R none m n') : Ho bz prog w A g L m n (pyNext (.ref I)) R :=
  Ho.mk fun _ _ _ _ _ _ _ F N q => wpAny_pyNext_range_end hh (N.news _ hI).1 hl fun h' hs =>
    q _ _ _ _ _ (Fr.but F (N.news _ hI).2.1 (N.news _ hI).2.2 fun b x hb e => hs b x hb e) (N.rm U fun b x hb e => hs b x hb e) h
end
end
section
section
variable {bz : Bool} {prog : Program} {w : World} {A : Around} {E : Value → Shared → Prop} {s : Shared}
theorem tup_contains {t : Addr} {items : Array Value} {x : Value} {P : Fin → Shared → Prop} (e : Value → Bool) (he : ∀ y ∈ items.toList, MeetsSeq.EqGives y x (e y)) (ht : IsTup s.heap t items)
    (h : P (.done (.ret (.bool (items.toList.any e)))) s) : wpAny (model prog w) A (Builtin.«tuple.__contains__» ⟨[.ref t, x], []⟩) P E s := by
  show wpAny _ _ (Builtin.Tuple.tupleItemsOf (.ref t) >>= _) _ _ s
  refine wpAny_bind (tupleItemsOf_ ht ?_)
  refine wpAny_bind (forIn_array_ _ (fun rest b s' => b.1 = none ∧ s' = s ∧ (∀ y ∈ rest, MeetsSeq.EqGives y x (e y)) ∧ P (.done (.ret (.bool (rest.any e)))) s) _ ?_ ?_ items _ ⟨rfl, rfl, he, h⟩)
  · rintro y rest b s' ⟨hb, rfl, he, hP⟩
    refine wpAny_bind (he y (.head _) _ _ _ _ _ _ ?_)
    rw [List.any_cons] at hP
    cases hy : e y with
    | true =>
      rw [hy] at hP
      exact wpAny_bind (wpAny_pure (wpAny_pure (wpAny_pure (by simpa using hP))))
    | false =>
      rw [hy] at hP
      exact wpAny_pure ⟨rfl, rfl, fun z hz => he z (.tail _ hz), by simpa using hP⟩
  · rintro ⟨b1, b2⟩ s' ⟨hb, rfl, _, hP⟩
    simp only at hb
    subst hb
    exact wpAny_pure (by simpa using hP)
theorem in_tup {t : Addr} {items : Array Value} {x : Value} {Q : Value → Shared → Prop} (e : Value → Bool) (he : ∀ y ∈ items.toList, MeetsSeq.EqGives y x (e y)) (ht : IsTup s.heap t items)
    (h : Q (.bool (items.toList.any e)) s) : wpAny (model prog w) A (compareOp .In x (.ref t)) Q E s := by
  show wpAny _ _ (do return .bool (← contains (.ref t) x)) Q E s
  refine wpAny_bind ?_
  unfold contains
  refine wpAny_holding (wpAny_bind (wpAny_specialOf ht.typeIs slot_tuple_contains.lookup ?_))
  rw [if_neg (by decide)]
  exact wpAny_bind (wpAny_callSpecialUnlessNone?_slot (name := Str.ofString "__contains__") ht.typeIs slot_tuple_contains
    (wpAny_call_entry slot_tuple_contains ht.typeIs entry_tuple_contains (tup_contains e he ht ⟨_, rfl, wpAny_truthy_bool (wpAny_pure h)⟩) (args_tuple_contains _ _)))
theorem nin_tup {t : Addr} {items : Array Value} {x : Value} {Q : Value → Shared → Prop} (e : Value → Bool) (he : ∀ y ∈ items.toList, MeetsSeq.EqGives y x (e y)) (ht : IsTup s.heap t items)
    (h : Q (.bool (!items.toList.any e)) s) : wpAny (model prog w) A (compareOp .NotIn x (.ref t)) Q E s := by
  show wpAny _ _ (do return .bool (!(← contains (.ref t) x))) Q E s
  refine wpAny_bind ?_
  unfold contains
  refine wpAny_holding (wpAny_bind (wpAny_specialOf ht.typeIs slot_tuple_contains.lookup ?_))
  rw [if_neg (by decide)]
  exact wpAny_bind (wpAny_callSpecialUnlessNone?_slot (name := Str.ofString "__contains__") ht.typeIs slot_tuple_contains
    (wpAny_call_entry slot_tuple_contains ht.typeIs entry_tuple_contains (tup_contains e he ht ⟨_, rfl, wpAny_truthy_bool (wpAny_pure h)⟩) (args_tuple_contains _ _)))
end
noncomputable def isI (i : Int) : Value → Bool
  | .int j _ => j == i
  | _ => false
noncomputable def isS (x : Str) : Value → Bool
  | .str y _ => y == x
  | _ => false
noncomputable def allI : List Value → Bool
  | [] => true
  | .int _ _ :: l => allI l
  | _ => false
noncomputable def allS : List Value → Bool
  | [] => true
  | .str _ _ :: l => allS l
  | _ => false
theorem eqg_I {i : Int} {t : Tok} : ∀ {vs : List Value}, allI vs = true → ∀ y ∈ vs, MeetsSeq.EqGives y (.int i t) (isI i y)
  | .int j u :: l, h, y, hy => by
    rcases List.mem_cons.mp hy with rfl | hy
    · exact MeetsSeq.EqGives.int j i u t
    · exact eqg_I (vs := l) h y hy
theorem eqg_S {x : Str} {t : Tok} : ∀ {vs : List Value}, allS vs = true → ∀ y ∈ vs, MeetsSeq.EqGives y (.str x t) (isS x y)
  | .str z u :: l, h, y, hy => by
    rcases List.mem_cons.mp hy with rfl | hy
    · exact eqGives_str z x u t
    · exact eqg_S (vs := l) h y hy
section
variable {bz : Bool} {prog : Program} {w : World} {A : Around} {g : Heap} {L : Addr} {m : FMap} {n : Led} {env : Env} {V : Value → FMap → Led → Prop} {U : Unit → FMap → Led → Prop} {B : Bool → FMap → Led → Prop} {K : Frag} {p : Program} {loose : List Str}
variable {a b : Addr} {vs ws : List Value} {k : Nat} {i : Int} {x : Str} {t u : Tok} {pos : Pos}
theorem ho_inTI (hm : (a, tupO vs) ∈ n) (hv : allI vs = true) (h : V (.bool (vs.any (isI i))) m n) : Ho bz prog w A g L m n (compareOp .In (.int i t) (.ref a)) V :=
  Ho.mk fun _ _ _ _ _ _ _ F N q => in_tup (isI i) (by simpa using eqg_I hv) (isTup_of (N.news _ hm).1) (q _ _ _ _ _ F N (by simpa using h))
theorem ho_inTS (hm : (a, tupO vs) ∈ n) (hv : allS vs = true) (h : V (.bool (vs.any (isS x))) m n) : Ho bz prog w A g L m n (compareOp .In (.str x t) (.ref a)) V :=
  Ho.mk fun _ _ _ _ _ _ _ F N q => in_tup (isS x) (by simpa using eqg_S hv) (isTup_of (N.news _ hm).1) (q _ _ _ _ _ F N (by simpa using h))
theorem ho_ninTIK (G : Gd K p loose g) {dd : Option Addr} {ep : Nat} {sl : Array (Option Value)} (hl : K.lookup a = some ⟨.type "tuple", dd, .seq vs.toArray ep, sl⟩) (hv : allI vs = true) (h : V (.bool (!vs.any (isI i))) m n) : Ho bz prog w A g L m n (compareOp .NotIn (.int i t) (.ref a)) V :=
  Ho.mk fun _ _ _ _ _ _ _ F N q => nin_tup (isI i) (by simpa using eqg_I hv) (tupK (G.X.keeps F.keep) hl) (q _ _ _ _ _ F N (by simpa using h))
theorem ho_inLI (hm : (a, lstO vs k) ∈ n) (hv : allI vs = true) (h : V (.bool (vs.any (isI i))) m n) : Ho bz prog w A g L m n (compareOp .In (.int i t) (.ref a)) V :=
  Ho.mk fun _ _ _ _ _ _ _ F N q => PySem.SeqInW.in_listW (isI i) (fun y hy => eqg_I hv y (by simpa using hy)) (isList_of (N.news _ hm).1) (q _ _ _ _ _ F N (by simpa using h))
theorem ho_inLS (hm : (a, lstO vs k) ∈ n) (hv : allS vs = true) (h : V (.bool (vs.any (isS x))) m n) : Ho bz prog w A g L m n (compareOp .In (.str x t) (.ref a)) V :=
  Ho.mk fun _ _ _ _ _ _ _ F N q => PySem.SeqInW.in_listW (isS x) (fun y hy => eqg_S hv y (by simpa using hy)) (isList_of (N.news _ hm).1) (q _ _ _ _ _ F N (by simpa using h))
theorem ho_lenT (hm : (a, tupO vs) ∈ n) (hz : vs.length ≤ 1000) (h : ∀ t, V (.int (vs.length : Int) t) m n) : Ho bz prog w A g L m n (call (.builtin "len") [.ref a]) V :=
  Ho.mk fun _ _ _ _ _ _ _ F N q => len_tuple (isTup_of (N.news _ hm).1) (by simp; omega) (q _ _ _ _ _ F N (by simpa using h _))
theorem ho_lenL (hm : (a, lstO vs k) ∈ n) (hz : vs.length ≤ 100000) (h : ∀ t, V (.int (vs.length : Int) t) m n) : Ho bz prog w A g L m n (call (.builtin "len") [.ref a]) V :=
  Ho.mk fun _ _ _ _ _ _ _ F N q => PyProof.Rows.len_list (isList_of (N.news _ hm).1) (by simp; omega) (q _ _ _ _ _ F N (by simpa using h _))
theorem ho_mkB1 {c : Int} (hh : A.handled = none) (hm : (a, lstO [.int c t] k) ∈ n) (h0 : 0 ≤ c) (h1 : c < 256) (h : ∀ t, V (.bytes [c.toNat.toUInt8].toArray t) m n) : Ho bz prog w A g L m n (call (.type "bytes") [.ref a]) V :=
  ho_mkB (ns := [c]) hh hm (.cons _ _ .nil) (by simpa using ⟨h0, h1⟩) (by simp [sizeLine_eq]) h
theorem ho_addT (ha : (a, tupO vs) ∈ n) (hb : (b, tupO ws) ∈ n) (h0 : vs ≠ []) (h1 : ws ≠ []) (hz : vs.length + ws.length ≤ 1000) (h : ∀ c, (∀ p ∈ n, p.1 ≠ c) → V (.ref c) m ((c, tupO (vs ++ ws)) :: n)) : Ho bz prog w A g L m n (binaryOp .Add (.ref a) (.ref b)) V :=
  Ho.mk fun _ _ _ _ _ _ _ F N q => add_tuples F N.news (isTup_of (N.news _ ha).1) (isTup_of (N.news _ hb).1) (fun e => absurd e h0) (fun _ e => absurd e h1) (fun _ _ h' F' N' => q _ _ _ _ _ F' ⟨N', List.nodup_cons.mpr ⟨fun e => by
      obtain ⟨p, hp, e⟩ := List.mem_map.mp e
      exact N.old hp e, N.nd⟩⟩ (h _ fun _ hp => N.old hp)) (by rw [sizeLine_eq]; omega)
theorem ho_isN {v : Value} (h : V (.bool (!(v == .none))) m n) : Ho bz prog w A g L m n (compareOp .IsNot v .none) V :=
  Ho.mk fun _ _ _ _ _ _ _ F N q => isnot_none_gen (q _ _ _ _ _ F N h)
theorem ho_gdK (G : Gd K p loose g) {es : Array DictEntry} {ep : Nat} {v : Value} {value slice : Expr} (hl : K.lookup a = some ⟨.type "dict", none, .dict es ep, #[]⟩) (hk : KeysLit w.params es.toList) (e : nsIn K a x = some (some v)) (h : V v m n)
    (hs : subscripted slice false (.ref a) (.str x t) = operate [.ref a, .str x t] (getItem (.ref a) (.str x t)) := by with_unfolding_all rfl) : Ho bz prog w A g L m n (subscriptTail value slice (.ref a) (.str x t)) V :=
  Ho.mk fun _ _ _ _ _ _ _ F N q => topItem_K F G.X hl hk e (q _ _ _ _ _ F N h) hs
theorem ho_inDK (G : Gd K p loose g) {es : Array DictEntry} {ep : Nat} {r : Option Value} (hl : K.lookup a = some ⟨.type "dict", none, .dict es ep, #[]⟩) (hk : KeysLit w.params es.toList) (e : nsIn K a x = some r) (lo : (a == sysModules) = false) (h : V (.bool r.isSome) m n) : Ho bz prog w A g L m n (compareOp .In (.str x t) (.ref a)) V :=
  Ho.mk fun _ _ _ _ _ _ _ F N q => topIn_K F G.X hl hk e lo (q _ _ _ _ _ F N h)
theorem ho_andB {c d : Bool} (h : V (.bool (c != d)) m n) : Ho bz prog w A g L m n (compareOp .NotEq (.bool c) (.bool d)) V :=
  Ho.mk fun _ _ _ _ _ _ _ F N q => ne_bool (q _ _ _ _ _ F N h)
end
end
section
section
variable {bz : Bool} {prog : Program} {w : World} {A : Around} {g : Heap} {L : Addr} {m : FMap} {n : Led} {env : Env} {V : Value → FMap → Led → Prop} {U : Unit → FMap → Led → Prop} {P : Flow → FMap → Led → Prop} {K : Frag} {p : Program} {loose : List Str}
variable {a b c : Int} {t u : Tok} {pos tpos : Pos} {k : Nat} {elts : List Expr} {value : Expr} {x : Str} {v : Value} {vs : List Value} {ad : Addr}
theorem ho_addE (e : a + b = c) (h : ∀ t, V (.int c t) m n) : Ho bz prog w A g L m n (binaryOp .Add (.int a t) (.int b u)) V := ho_add (by rw [e]; exact h)
theorem ho_subE (e : a - b = c) (h : ∀ t, V (.int c t) m n) : Ho bz prog w A g L m n (binaryOp .Sub (.int a t) (.int b u)) V := ho_sub (by rw [e]; exact h)
theorem ho_mulE (ok : IntMulOk a b) (e : a * b = c) (h : ∀ t, V (.int c t) m n) : Ho bz prog w A g L m n (binaryOp .Mult (.int a t) (.int b u)) V := ho_mul ok (by rw [e]; exact h)
theorem ho_divE (hb : 0 < b) (ok : Builtin.divisionGoesByPylong a b = false) (e : a / b = c) (h : ∀ t, V (.int c t) m n) : Ho bz prog w A g L m n (binaryOp .FloorDiv (.int a t) (.int b u)) V := ho_div hb ok (by rw [e]; exact h)
theorem ho_shlE (h0 : 0 ≤ b) (h1 : b ≤ 1000000) (ha : a.natAbs < 2 ^ 64) (e : a * 2 ^ b.toNat = c) (h : ∀ t, V (.int c t) m n) : Ho bz prog w A g L m n (binaryOp .LShift (.int a t) (.int b u)) V := ho_shl h0 h1 ha (by rw [e]; exact h)
theorem ho_powE (h0 : 0 ≤ b) (h1 : b ≤ 1000000) (ha : a.natAbs < 2 ^ 64) (e : a ^ b.toNat = c) (h : ∀ t, V (.int c t) m n) : Ho bz prog w A g L m n (binaryOp .Pow (.int a t) (.int b u)) V := ho_pow h0 h1 ha (by rw [e]; exact h)
theorem hx_asgT (h : Ho bz prog w A g L m n (eval value env) fun v m n => Ho bz prog w A g L m n (assign (.Tuple elts k tpos) env v) fun _ m n => P .next m n)
    (hs : swapsWithSole [.Tuple elts k tpos] value pos.line env = pure false := by rfl) (hw : swappedStores [.Tuple elts k tpos] value env = pure none := by rfl) : Ho bz prog w A g L m n (exec (.Assign [.Tuple elts k tpos] value pos) env) P := by
  rw [exec_Assign, hs]
  refine ho_sa (ho_bind (ho_pure ?_))
  rw [if_neg Bool.false_ne_true]
  refine ho_bind (h.mono fun v _ _ h => ?_)
  rw [hw]
  refine ho_bind (ho_pure ?_)
  show Ho bz prog w A g L _ _ (do assignAll v [assign (.Tuple elts k tpos) env]; pure .next) P
  exact ho_bind (h.mono fun _ _ _ h => ho_pure h)
noncomputable abbrev Kasg (bz : Bool) (prog : Program) (w : World) (A : Around) (g : Heap) (L : Addr) (env : Env) (names : List Str) (U : Unit → FMap → Led → Prop) : List Value → FMap → Led → Prop := fun items m n => Ho bz prog w A g L m n (assignInOrder (names.reverse.map fun n => bindName env n) items.reverse) U
noncomputable abbrev Kunp (bz : Bool) (prog : Program) (w : World) (A : Around) (g : Heap) (L : Addr) (k : Nat) (U : List Value → FMap → Led → Prop) : Value → FMap → Led → Prop := fun v m n => Ho bz prog w A g L m n (unpackItems v k none) U
theorem hx_asgTS (names : List Str) (h : Ho bz prog w A g L m n (eval value env) (Kunp bz prog w A g L names.length (Kasg bz prog w A g L env names (Knext P))))
    (hs : swapsWithSole [.Tuple elts k tpos] value pos.line env = pure false) (hw : swappedStores [.Tuple elts k tpos] value env = pure (some names)) : Ho bz prog w A g L m n (exec (.Assign [.Tuple elts k tpos] value pos) env) P := by
  rw [exec_Assign, hs]
  refine ho_sa (ho_bind (ho_pure ?_))
  rw [if_neg Bool.false_ne_true]
  refine ho_bind (h.mono fun v _ _ h => ?_)
  rw [hw]
  refine ho_bind (ho_pure ?_)
  show Ho bz prog w A g L _ _ (do rule "assign.swapped-stores"; let items ← unpackItems v names.length none; assignInOrder (names.reverse.map fun n => bindName env n) items.reverse; pure .next) P
  exact ho_bind (ho_rule (ho_bind (h.mono fun _ _ _ h => ho_bind (h.mono fun _ _ _ h => ho_pure h))))
theorem Nw.ext {h h' : Heap} (N : Nw g L h n) (e : Heap.ExtBut h.objs.size h h') : Nw g L h' n :=
  ⟨fun p hp => ⟨e _ _ (Nat.ne_of_lt (Heap.lt_size (N.news p hp).1)) (N.news p hp).1, (N.news p hp).2⟩, N.nd⟩
theorem Fr.ext {h h' : Heap} (F : Fr g L h m) (e : Heap.ExtBut h.objs.size h h') : Fr g L h' m :=
  ⟨F.ns.at' fun o q => e _ _ (Nat.ne_of_lt F.ns.lt) q, fun b o q => e _ _ (Nat.ne_of_lt (Heap.lt_size (F.keep b o q))) (F.keep b o q), F.above⟩
theorem hu_tup {W : List Value → FMap → Led → Prop} {j : Nat} (hh : A.handled = none) (hm : (ad, tupO vs) ∈ n) (hn : j = vs.length) (h : W vs m n) : Ho bz prog w A g L m n (unpackItems (.ref ad) j none) W :=
  Ho.mk fun hp ge dr tk os Q E F N q => by
    have e : j = vs.toArray.size := by simpa using hn
    rw [e]
    exact unpackItems_tuple (s := ⟨hp, ge, dr, tk, os⟩) hh (isTup_of (N.news _ hm).1) (fun h' e => q vs m n h' tk (Fr.ext F e) (N.ext e) h)
theorem ha_tup (hh : A.handled = none) (hm : (ad, tupO vs) ∈ n) (hn : (assignEach elts env).length = vs.length) (hst : (assignEach elts env).findIdx? (·.1) = none) (h : Ho bz prog w A g L m n (assignInOrder ((assignEach elts env).map (·.2)) vs) U) : Ho bz prog w A g L m n (assign (.Tuple elts k tpos) env (.ref ad)) U := by
  rw [PyProof.Rows.assign_Tuple]
  refine ho_sa ?_
  unfold unpack
  rw [hst]
  exact ho_bind (ho_hold (hu_tup hh hm hn h))
theorem hi_nil (h : U () m n) : Ho bz prog w A g L m n (assignInOrder [] vs) U := Ho.mk fun _ _ _ _ _ _ _ F N q => assignInOrder_nil (q _ _ _ _ _ F N h)
theorem hi_cons {f : Value → Sem Unit} {fs : List (Value → Sem Unit)} (h : Ho bz prog w A g L m n (f v) (Kthen bz prog w A g L (assignInOrder fs vs) U)) : Ho bz prog w A g L m n (assignInOrder (f :: fs) (v :: vs)) U := by
  show Ho bz prog w A g L m n (do holding vs (f v); assignInOrder fs vs) U
  exact ho_bind (ho_hold h)
end
end
section
noncomputable def Pg : Program := PySem.Challenge.rw_tk0105_01.row.prog
noncomputable abbrev Kw (w : World) : Frag := hd.heap_1 w.params
noncomputable abbrev Lo : List Str := looseW hd.view_1 ["NUMBER_FRAMES", "LONG_KINDS", "MODULUS", "PACKET_KINDS"]
noncomputable abbrev Gk (w : World) (g : Heap) : Prop := Gd (Kw w) hd.view_1 Lo g
structure Rm (A : Around) (k : Nat) : Prop where
  hh : A.handled = none
  dp : A.depth + k < recursionLimit
  un : A.units + 8 * k < cLine
theorem Rm.le {A : Around} {k j : Nat} (R : Rm A k) (h : j ≤ k) : Rm A j := ⟨R.hh, by have := R.dp; omega, by have := R.un; omega⟩
theorem Rm.deep {A : Around} {k : Nat} {env : Env} (R : Rm A (k + 1)) : Rm (A.deeper env) k := ⟨R.hh, by have := R.dp; show A.depth + 1 + k < _; omega, by have := R.un; show A.units + 3 + 8 * k < _; omega⟩
theorem gl_all (w : World) :
    (nsIn (Kw w) mainGlobals "OPEN" = some (some (.str "open" 196))) ∧
    (nsIn (Kw w) mainGlobals "CLOSING" = some (some (.str "closing" 198))) ∧
    (nsIn (Kw w) mainGlobals "CLOSED" = some (some (.str "closed" 200))) ∧
    (nsIn (Kw w) mainGlobals "APPLICATION_ERROR_CODE" = some (some (.int 12 202))) ∧
    (nsIn (Kw w) mainGlobals "PERIODS" = some (some (.int 3 204))) ∧
    (nsIn (Kw w) mainGlobals "close_frame_in" = some (some (.ref 28))) ∧
    (nsIn (Kw w) mainGlobals "Closing" = some (some (.ref 101))) ∧
    (nsIn (Kw w) mainGlobals "CLOSE" = some (some (.int 28 447))) ∧
    (nsIn (Kw w) mainGlobals "CLOSE_APPLICATION" = some (some (.int 29 449))) ∧
    (nsIn (Kw w) mainGlobals "VARINT_SIZES" = some (some (.ref 166))) ∧
    (nsIn (Kw w) mainGlobals "put_whole" = some (some (.ref 173))) ∧
    (nsIn (Kw w) mainGlobals "get_whole" = some (some (.ref 180))) ∧
    (nsIn (Kw w) mainGlobals "varint_size" = some (some (.ref 187))) ∧
    (nsIn (Kw w) mainGlobals "put_varint" = some (some (.ref 194))) ∧
    (nsIn (Kw w) mainGlobals "get_varint" = some (some (.ref 201))) ∧
    (nsIn (Kw w) mainGlobals "NUMBER_FRAMES" = some (some (.ref 202))) ∧
    (nsIn (Kw w) mainGlobals "put_numbers" = some (some (.ref 207))) ∧
    (nsIn (Kw w) mainGlobals "put_counted" = some (some (.ref 214))) ∧
    (nsIn (Kw w) mainGlobals "put_close" = some (some (.ref 249))) ∧
    (nsIn (Kw w) mainGlobals "put_frame" = some (some (.ref 263))) ∧
    (nsIn (Kw w) mainGlobals "put_frames" = some (some (.ref 268))) ∧
    (nsIn (Kw w) mainGlobals "frame_size" = some (some (.ref 275))) ∧
    (nsIn (Kw w) mainGlobals "Reader" = some (some (.ref 327))) ∧
    (nsIn (Kw w) mainGlobals "VERSION_ONE" = some (some (.int 1 715))) ∧
    (nsIn (Kw w) mainGlobals "VERSION_NONE" = some (some (.int 0 717))) ∧
    (nsIn (Kw w) mainGlobals "MOST_CID" = some (some (.int 20 719))) ∧
    (nsIn (Kw w) mainGlobals "LONG_KINDS" = some (some (.ref 332))) ∧
    (nsIn (Kw w) mainGlobals "RawPacket" = some (some (.ref 349))) ∧
    (nsIn (Kw w) mainGlobals "put_ids" = some (some (.ref 360))) ∧
    (nsIn (Kw w) mainGlobals "long_first" = some (some (.ref 367))) ∧
    (nsIn (Kw w) mainGlobals "long_head" = some (some (.ref 374))) ∧
    (nsIn (Kw w) mainGlobals "read_invariants" = some (some (.ref 381))) ∧
    (nsIn (Kw w) mainGlobals "read_long" = some (some (.ref 395))) ∧
    (nsIn (Kw w) mainGlobals "read_numbered" = some (some (.ref 409))) ∧
    (nsIn (Kw w) mainGlobals "read_short" = some (some (.ref 416))) ∧
    (nsIn (Kw w) mainGlobals "read_raw" = some (some (.ref 423))) ∧
    (nsIn (Kw w) mainGlobals "split_datagram" = some (some (.ref 430))) ∧
    (nsIn (Kw w) mainGlobals "MOST_OCTETS" = some (some (.int 4 890))) ∧
    (nsIn (Kw w) mainGlobals "number_size" = some (some (.ref 437))) ∧
    (nsIn (Kw w) mainGlobals "cut_number" = some (some (.ref 444))) ∧
    (nsIn (Kw w) mainGlobals "restore_number" = some (some (.ref 451))) ∧
    (nsIn (Kw w) mainGlobals "TAG_SIZE" = some (some (.int 16 926))) ∧
    (nsIn (Kw w) mainGlobals "SAMPLE_SIZE" = some (some (.int 16 928))) ∧
    (nsIn (Kw w) mainGlobals "MASK_SIZE" = some (some (.int 5 930))) ∧
    (nsIn (Kw w) mainGlobals "MODULUS" = some (some (.int 170141183460469231731687303715884105727 936))) ∧
    (nsIn (Kw w) mainGlobals "FACTOR" = some (some (.int 6364136223846793005 938))) ∧
    (nsIn (Kw w) mainGlobals "mixed_octets" = some (some (.ref 458))) ∧
    (nsIn (Kw w) mainGlobals "turned_octets" = some (some (.ref 465))) ∧
    (nsIn (Kw w) mainGlobals "tag_of" = some (some (.ref 472))) ∧
    (nsIn (Kw w) mainGlobals "seal_payload" = some (some (.ref 479))) ∧
    (nsIn (Kw w) mainGlobals "open_sealed" = some (some (.ref 486))) ∧
    (nsIn (Kw w) mainGlobals "head_mask" = some (some (.ref 493))) ∧
    (nsIn (Kw w) mainGlobals "turned_first" = some (some (.ref 500))) ∧
    (nsIn (Kw w) mainGlobals "turned_number" = some (some (.ref 505))) ∧
    (nsIn (Kw w) mainGlobals "sample_at" = some (some (.ref 512))) ∧
    (nsIn (Kw w) mainGlobals "padded_payload" = some (some (.ref 519))) ∧
    (nsIn (Kw w) mainGlobals "protected_packet" = some (some (.ref 526))) ∧
    (nsIn (Kw w) mainGlobals "bare_head" = some (some (.ref 533))) ∧
    (nsIn (Kw w) mainGlobals "short_head" = some (some (.ref 540))) ∧
    (nsIn (Kw w) mainGlobals "head_of" = some (some (.ref 547))) ∧
    (nsIn (Kw w) mainGlobals "number_in" = some (some (.ref 554))) ∧
    (nsIn (Kw w) mainGlobals "put_packet" = some (some (.ref 561))) ∧
    (nsIn (Kw w) mainGlobals "packet_size" = some (some (.ref 568))) ∧
    (nsIn (Kw w) mainGlobals "reserved_bits" = some (some (.ref 575))) ∧
    (nsIn (Kw w) mainGlobals "open_packet" = some (some (.ref 582))) ∧
    (nsIn (Kw w) mainGlobals "opened" = some (some (.ref 589))) ∧
    (nsIn (Kw w) mainGlobals "PACKET_KINDS" = some (some (.ref 590))) ∧
    (nsIn (Kw w) mainGlobals "LEAST_PAYLOAD" = some (some (.int 4 1163))) ∧
    (nsIn (Kw w) mainGlobals "packet_with" = some (some (.ref 597))) ∧
    (nsIn (Kw w) mainGlobals "head_octets" = some (some (.ref 604))) ∧
    (nsIn (Kw w) mainGlobals "shorter_close" = some (some (.ref 611))) ∧
    (nsIn (Kw w) mainGlobals "closing_rows" = some (some (.ref 618))) ∧
    (nsIn (Kw w) mainGlobals "_law_take" = some (some (.ref 625))) ∧
    (nsIn (Kw w) mainGlobals "_law_octets" = some (some (.ref 632))) ∧
    (nsIn (Kw w) mainGlobals "_law_due" = some (some (.ref 639))) ∧
    (nsIn (Kw w) mainGlobals "_law_is_heard" = some (some (.ref 644))) ∧
    (nsIn (Kw w) mainGlobals "len" = some none) ∧
    (nsIn (Kw w) mainGlobals "range" = some none) ∧
    (nsIn (Kw w) mainGlobals "bytes" = some none) ∧
    (nsIn (Kw w) mainGlobals "bytearray" = some none) ∧
    (nsIn (Kw w) mainGlobals "max" = some none) ∧
    (nsIn (Kw w) mainGlobals "min" = some none) ∧
    (nsIn (Kw w) mainGlobals "abs" = some none) ∧
    (nsIn (Kw w) mainGlobals "enumerate" = some none) ∧
    (nsIn (Kw w) mainGlobals "zip" = some none) ∧
    (nsIn (Kw w) mainGlobals "list" = some none) := by
  refine ⟨?_, ?_, ?_, ?_, ?_, ?_, ?_, ?_, ?_, ?_, ?_, ?_, ?_, ?_, ?_, ?_, ?_, ?_, ?_, ?_, ?_, ?_, ?_, ?_, ?_, ?_, ?_, ?_, ?_, ?_, ?_, ?_, ?_, ?_, ?_, ?_, ?_, ?_, ?_, ?_, ?_, ?_, ?_, ?_, ?_, ?_, ?_, ?_, ?_, ?_, ?_, ?_, ?_, ?_, ?_, ?_, ?_, ?_, ?_, ?_, ?_, ?_, ?_, ?_, ?_, ?_, ?_, ?_, ?_, ?_, ?_, ?_, ?_, ?_, ?_, ?_, ?_, ?_, ?_, ?_, ?_, ?_, ?_, ?_, ?_, ?_⟩
  all_goals (show nsIn (hd.heap_1 w.params) _ _ = _; k_is)
abbrev gl_OPEN (w : World) := (gl_all w).1
abbrev gl_CLOSING (w : World) := (gl_all w).2.1
abbrev gl_CLOSED (w : World) := (gl_all w).2.2.1
abbrev gl_APPLICATION_ERROR_CODE (w : World) := (gl_all w).2.2.2.1
abbrev gl_PERIODS (w : World) := (gl_all w).2.2.2.2.1
abbrev gl_close_frame_in (w : World) := (gl_all w).2.2.2.2.2.1
abbrev gl_Closing (w : World) := (gl_all w).2.2.2.2.2.2.1
abbrev gl_CLOSE (w : World) := (gl_all w).2.2.2.2.2.2.2.1
abbrev gl_CLOSE_APPLICATION (w : World) := (gl_all w).2.2.2.2.2.2.2.2.1
abbrev gl_VARINT_SIZES (w : World) := (gl_all w).2.2.2.2.2.2.2.2.2.1
abbrev gl_put_whole (w : World) := (gl_all w).2.2.2.2.2.2.2.2.2.2.1
abbrev gl_get_whole (w : World) := (gl_all w).2.2.2.2.2.2.2.2.2.2.2.1
abbrev gl_varint_size (w : World) := (gl_all w).2.2.2.2.2.2.2.2.2.2.2.2.1
abbrev gl_put_varint (w : World) := (gl_all w).2.2.2.2.2.2.2.2.2.2.2.2.2.1
abbrev gl_get_varint (w : World) := (gl_all w).2.2.2.2.2.2.2.2.2.2.2.2.2.2.1
abbrev gl_NUMBER_FRAMES (w : World) := (gl_all w).2.2.2.2.2.2.2.2.2.2.2.2.2.2.2.1
abbrev gl_put_numbers (w : World) := (gl_all w).2.2.2.2.2.2.2.2.2.2.2.2.2.2.2.2.1
abbrev gl_put_counted (w : World) := (gl_all w).2.2.2.2.2.2.2.2.2.2.2.2.2.2.2.2.2.1
abbrev gl_put_close (w : World) := (gl_all w).2.2.2.2.2.2.2.2.2.2.2.2.2.2.2.2.2.2.1
abbrev gl_put_frame (w : World) := (gl_all w).2.2.2.2.2.2.2.2.2.2.2.2.2.2.2.2.2.2.2.1
abbrev gl_put_frames (w : World) := (gl_all w).2.2.2.2.2.2.2.2.2.2.2.2.2.2.2.2.2.2.2.2.1
abbrev gl_frame_size (w : World) := (gl_all w).2.2.2.2.2.2.2.2.2.2.2.2.2.2.2.2.2.2.2.2.2.1
abbrev gl_Reader (w : World) := (gl_all w).2.2.2.2.2.2.2.2.2.2.2.2.2.2.2.2.2.2.2.2.2.2.1
abbrev gl_VERSION_ONE (w : World) := (gl_all w).2.2.2.2.2.2.2.2.2.2.2.2.2.2.2.2.2.2.2.2.2.2.2.1
abbrev gl_VERSION_NONE (w : World) := (gl_all w).2.2.2.2.2.2.2.2.2.2.2.2.2.2.2.2.2.2.2.2.2.2.2.2.1
abbrev gl_MOST_CID (w : World) := (gl_all w).2.2.2.2.2.2.2.2.2.2.2.2.2.2.2.2.2.2.2.2.2.2.2.2.2.1
abbrev gl_LONG_KINDS (w : World) := (gl_all w).2.2.2.2.2.2.2.2.2.2.2.2.2.2.2.2.2.2.2.2.2.2.2.2.2.2.1
abbrev gl_RawPacket (w : World) := (gl_all w).2.2.2.2.2.2.2.2.2.2.2.2.2.2.2.2.2.2.2.2.2.2.2.2.2.2.2.1
abbrev gl_put_ids (w : World) := (gl_all w).2.2.2.2.2.2.2.2.2.2.2.2.2.2.2.2.2.2.2.2.2.2.2.2.2.2.2.2.1
abbrev gl_long_first (w : World) := (gl_all w).2.2.2.2.2.2.2.2.2.2.2.2.2.2.2.2.2.2.2.2.2.2.2.2.2.2.2.2.2.1
abbrev gl_long_head (w : World) := (gl_all w).2.2.2.2.2.2.2.2.2.2.2.2.2.2.2.2.2.2.2.2.2.2.2.2.2.2.2.2.2.2.1
abbrev gl_read_invariants (w : World) := (gl_all w).2.2.2.2.2.2.2.2.2.2.2.2.2.2.2.2.2.2.2.2.2.2.2.2.2.2.2.2.2.2.2.1
abbrev gl_read_long (w : World) := (gl_all w).2.2.2.2.2.2.2.2.2.2.2.2.2.2.2.2.2.2.2.2.2.2.2.2.2.2.2.2.2.2.2.2.1
abbrev gl_read_numbered (w : World) := (gl_all w).2.2.2.2.2.2.2.2.2.2.2.2.2.2.2.2.2.2.2.2.2.2.2.2.2.2.2.2.2.2.2.2.2.1
abbrev gl_read_short (w : World) := (gl_all w).2.2.2.2.2.2.2.2.2.2.2.2.2.2.2.2.2.2.2.2.2.2.2.2.2.2.2.2.2.2.2.2.2.2.1
abbrev gl_read_raw (w : World) := (gl_all w).2.2.2.2.2.2.2.2.2.2.2.2.2.2.2.2.2.2.2.2.2.2.2.2.2.2.2.2.2.2.2.2.2.2.2.1
abbrev gl_split_datagram (w : World) := (gl_all w).2.2.2.2.2.2.2.2.2.2.2.2.2.2.2.2.2.2.2.2.2.2.2.2.2.2.2.2.2.2.2.2.2.2.2.2.1
abbrev gl_MOST_OCTETS (w : World) := (gl_all w).2.2.2.2.2.2.2.2.2.2.2.2.2.2.2.2.2.2.2.2.2.2.2.2.2.2.2.2.2.2.2.2.2.2.2.2.2.1
abbrev gl_number_size (w : World) := (gl_all w).2.2.2.2.2.2.2.2.2.2.2.2.2.2.2.2.2.2.2.2.2.2.2.2.2.2.2.2.2.2.2.2.2.2.2.2.2.2.1
abbrev gl_cut_number (w : World) := (gl_all w).2.2.2.2.2.2.2.2.2.2.2.2.2.2.2.2.2.2.2.2.2.2.2.2.2.2.2.2.2.2.2.2.2.2.2.2.2.2.2.1
abbrev gl_restore_number (w : World) := (gl_all w).2.2.2.2.2.2.2.2.2.2.2.2.2.2.2.2.2.2.2.2.2.2.2.2.2.2.2.2.2.2.2.2.2.2.2.2.2.2.2.2.1
abbrev gl_TAG_SIZE (w : World) := (gl_all w).2.2.2.2.2.2.2.2.2.2.2.2.2.2.2.2.2.2.2.2.2.2.2.2.2.2.2.2.2.2.2.2.2.2.2.2.2.2.2.2.2.1
abbrev gl_SAMPLE_SIZE (w : World) := (gl_all w).2.2.2.2.2.2.2.2.2.2.2.2.2.2.2.2.2.2.2.2.2.2.2.2.2.2.2.2.2.2.2.2.2.2.2.2.2.2.2.2.2.2.1
abbrev gl_MASK_SIZE (w : World) := (gl_all w).2.2.2.2.2.2.2.2.2.2.2.2.2.2.2.2.2.2.2.2.2.2.2.2.2.2.2.2.2.2.2.2.2.2.2.2.2.2.2.2.2.2.2.1
abbrev gl_MODULUS (w : World) := (gl_all w).2.2.2.2.2.2.2.2.2.2.2.2.2.2.2.2.2.2.2.2.2.2.2.2.2.2.2.2.2.2.2.2.2.2.2.2.2.2.2.2.2.2.2.2.1
abbrev gl_FACTOR (w : World) := (gl_all w).2.2.2.2.2.2.2.2.2.2.2.2.2.2.2.2.2.2.2.2.2.2.2.2.2.2.2.2.2.2.2.2.2.2.2.2.2.2.2.2.2.2.2.2.2.1
abbrev gl_mixed_octets (w : World) := (gl_all w).2.2.2.2.2.2.2.2.2.2.2.2.2.2.2.2.2.2.2.2.2.2.2.2.2.2.2.2.2.2.2.2.2.2.2.2.2.2.2.2.2.2.2.2.2.2.1
abbrev gl_turned_octets (w : World) := (gl_all w).2.2.2.2.2.2.2.2.2.2.2.2.2.2.2.2.2.2.2.2.2.2.2.2.2.2.2.2.2.2.2.2.2.2.2.2.2.2.2.2.2.2.2.2.2.2.2.1
abbrev gl_tag_of (w : World) := (gl_all w).2.2.2.2.2.2.2.2.2.2.2.2.2.2.2.2.2.2.2.2.2.2.2.2.2.2.2.2.2.2.2.2.2.2.2.2.2.2.2.2.2.2.2.2.2.2.2.2.1
abbrev gl_seal_payload (w : World) := (gl_all w).2.2.2.2.2.2.2.2.2.2.2.2.2.2.2.2.2.2.2.2.2.2.2.2.2.2.2.2.2.2.2.2.2.2.2.2.2.2.2.2.2.2.2.2.2.2.2.2.2.1
abbrev gl_open_sealed (w : World) := (gl_all w).2.2.2.2.2.2.2.2.2.2.2.2.2.2.2.2.2.2.2.2.2.2.2.2.2.2.2.2.2.2.2.2.2.2.2.2.2.2.2.2.2.2.2.2.2.2.2.2.2.2.1
abbrev gl_head_mask (w : World) := (gl_all w).2.2.2.2.2.2.2.2.2.2.2.2.2.2.2.2.2.2.2.2.2.2.2.2.2.2.2.2.2.2.2.2.2.2.2.2.2.2.2.2.2.2.2.2.2.2.2.2.2.2.2.1
abbrev gl_turned_first (w : World) := (gl_all w).2.2.2.2.2.2.2.2.2.2.2.2.2.2.2.2.2.2.2.2.2.2.2.2.2.2.2.2.2.2.2.2.2.2.2.2.2.2.2.2.2.2.2.2.2.2.2.2.2.2.2.2.1
abbrev gl_turned_number (w : World) := (gl_all w).2.2.2.2.2.2.2.2.2.2.2.2.2.2.2.2.2.2.2.2.2.2.2.2.2.2.2.2.2.2.2.2.2.2.2.2.2.2.2.2.2.2.2.2.2.2.2.2.2.2.2.2.2.1
abbrev gl_sample_at (w : World) := (gl_all w).2.2.2.2.2.2.2.2.2.2.2.2.2.2.2.2.2.2.2.2.2.2.2.2.2.2.2.2.2.2.2.2.2.2.2.2.2.2.2.2.2.2.2.2.2.2.2.2.2.2.2.2.2.2.1
abbrev gl_padded_payload (w : World) := (gl_all w).2.2.2.2.2.2.2.2.2.2.2.2.2.2.2.2.2.2.2.2.2.2.2.2.2.2.2.2.2.2.2.2.2.2.2.2.2.2.2.2.2.2.2.2.2.2.2.2.2.2.2.2.2.2.2.1
abbrev gl_protected_packet (w : World) := (gl_all w).2.2.2.2.2.2.2.2.2.2.2.2.2.2.2.2.2.2.2.2.2.2.2.2.2.2.2.2.2.2.2.2.2.2.2.2.2.2.2.2.2.2.2.2.2.2.2.2.2.2.2.2.2.2.2.2.1
abbrev gl_bare_head (w : World) := (gl_all w).2.2.2.2.2.2.2.2.2.2.2.2.2.2.2.2.2.2.2.2.2.2.2.2.2.2.2.2.2.2.2.2.2.2.2.2.2.2.2.2.2.2.2.2.2.2.2.2.2.2.2.2.2.2.2.2.2.1
abbrev gl_short_head (w : World) := (gl_all w).2.2.2.2.2.2.2.2.2.2.2.2.2.2.2.2.2.2.2.2.2.2.2.2.2.2.2.2.2.2.2.2.2.2.2.2.2.2.2.2.2.2.2.2.2.2.2.2.2.2.2.2.2.2.2.2.2.2.1
abbrev gl_head_of (w : World) := (gl_all w).2.2.2.2.2.2.2.2.2.2.2.2.2.2.2.2.2.2.2.2.2.2.2.2.2.2.2.2.2.2.2.2.2.2.2.2.2.2.2.2.2.2.2.2.2.2.2.2.2.2.2.2.2.2.2.2.2.2.2.1
abbrev gl_number_in (w : World) := (gl_all w).2.2.2.2.2.2.2.2.2.2.2.2.2.2.2.2.2.2.2.2.2.2.2.2.2.2.2.2.2.2.2.2.2.2.2.2.2.2.2.2.2.2.2.2.2.2.2.2.2.2.2.2.2.2.2.2.2.2.2.2.1
abbrev gl_put_packet (w : World) := (gl_all w).2.2.2.2.2.2.2.2.2.2.2.2.2.2.2.2.2.2.2.2.2.2.2.2.2.2.2.2.2.2.2.2.2.2.2.2.2.2.2.2.2.2.2.2.2.2.2.2.2.2.2.2.2.2.2.2.2.2.2.2.2.1
abbrev gl_packet_size (w : World) := (gl_all w).2.2.2.2.2.2.2.2.2.2.2.2.2.2.2.2.2.2.2.2.2.2.2.2.2.2.2.2.2.2.2.2.2.2.2.2.2.2.2.2.2.2.2.2.2.2.2.2.2.2.2.2.2.2.2.2.2.2.2.2.2.2.1
abbrev gl_reserved_bits (w : World) := (gl_all w).2.2.2.2.2.2.2.2.2.2.2.2.2.2.2.2.2.2.2.2.2.2.2.2.2.2.2.2.2.2.2.2.2.2.2.2.2.2.2.2.2.2.2.2.2.2.2.2.2.2.2.2.2.2.2.2.2.2.2.2.2.2.2.1
abbrev gl_open_packet (w : World) := (gl_all w).2.2.2.2.2.2.2.2.2.2.2.2.2.2.2.2.2.2.2.2.2.2.2.2.2.2.2.2.2.2.2.2.2.2.2.2.2.2.2.2.2.2.2.2.2.2.2.2.2.2.2.2.2.2.2.2.2.2.2.2.2.2.2.2.1
abbrev gl_opened (w : World) := (gl_all w).2.2.2.2.2.2.2.2.2.2.2.2.2.2.2.2.2.2.2.2.2.2.2.2.2.2.2.2.2.2.2.2.2.2.2.2.2.2.2.2.2.2.2.2.2.2.2.2.2.2.2.2.2.2.2.2.2.2.2.2.2.2.2.2.2.1
abbrev gl_PACKET_KINDS (w : World) := (gl_all w).2.2.2.2.2.2.2.2.2.2.2.2.2.2.2.2.2.2.2.2.2.2.2.2.2.2.2.2.2.2.2.2.2.2.2.2.2.2.2.2.2.2.2.2.2.2.2.2.2.2.2.2.2.2.2.2.2.2.2.2.2.2.2.2.2.2.1
abbrev gl_LEAST_PAYLOAD (w : World) := (gl_all w).2.2.2.2.2.2.2.2.2.2.2.2.2.2.2.2.2.2.2.2.2.2.2.2.2.2.2.2.2.2.2.2.2.2.2.2.2.2.2.2.2.2.2.2.2.2.2.2.2.2.2.2.2.2.2.2.2.2.2.2.2.2.2.2.2.2.2.1
abbrev gl_packet_with (w : World) := (gl_all w).2.2.2.2.2.2.2.2.2.2.2.2.2.2.2.2.2.2.2.2.2.2.2.2.2.2.2.2.2.2.2.2.2.2.2.2.2.2.2.2.2.2.2.2.2.2.2.2.2.2.2.2.2.2.2.2.2.2.2.2.2.2.2.2.2.2.2.2.1
abbrev gl_head_octets (w : World) := (gl_all w).2.2.2.2.2.2.2.2.2.2.2.2.2.2.2.2.2.2.2.2.2.2.2.2.2.2.2.2.2.2.2.2.2.2.2.2.2.2.2.2.2.2.2.2.2.2.2.2.2.2.2.2.2.2.2.2.2.2.2.2.2.2.2.2.2.2.2.2.2.1
abbrev gl_shorter_close (w : World) := (gl_all w).2.2.2.2.2.2.2.2.2.2.2.2.2.2.2.2.2.2.2.2.2.2.2.2.2.2.2.2.2.2.2.2.2.2.2.2.2.2.2.2.2.2.2.2.2.2.2.2.2.2.2.2.2.2.2.2.2.2.2.2.2.2.2.2.2.2.2.2.2.2.1
abbrev gl_closing_rows (w : World) := (gl_all w).2.2.2.2.2.2.2.2.2.2.2.2.2.2.2.2.2.2.2.2.2.2.2.2.2.2.2.2.2.2.2.2.2.2.2.2.2.2.2.2.2.2.2.2.2.2.2.2.2.2.2.2.2.2.2.2.2.2.2.2.2.2.2.2.2.2.2.2.2.2.2.1
abbrev gl_law_take (w : World) := (gl_all w).2.2.2.2.2.2.2.2.2.2.2.2.2.2.2.2.2.2.2.2.2.2.2.2.2.2.2.2.2.2.2.2.2.2.2.2.2.2.2.2.2.2.2.2.2.2.2.2.2.2.2.2.2.2.2.2.2.2.2.2.2.2.2.2.2.2.2.2.2.2.2.2.1
abbrev gl_law_octets (w : World) := (gl_all w).2.2.2.2.2.2.2.2.2.2.2.2.2.2.2.2.2.2.2.2.2.2.2.2.2.2.2.2.2.2.2.2.2.2.2.2.2.2.2.2.2.2.2.2.2.2.2.2.2.2.2.2.2.2.2.2.2.2.2.2.2.2.2.2.2.2.2.2.2.2.2.2.2.1
abbrev gl_law_due (w : World) := (gl_all w).2.2.2.2.2.2.2.2.2.2.2.2.2.2.2.2.2.2.2.2.2.2.2.2.2.2.2.2.2.2.2.2.2.2.2.2.2.2.2.2.2.2.2.2.2.2.2.2.2.2.2.2.2.2.2.2.2.2.2.2.2.2.2.2.2.2.2.2.2.2.2.2.2.2.1
abbrev gl_law_is_heard (w : World) := (gl_all w).2.2.2.2.2.2.2.2.2.2.2.2.2.2.2.2.2.2.2.2.2.2.2.2.2.2.2.2.2.2.2.2.2.2.2.2.2.2.2.2.2.2.2.2.2.2.2.2.2.2.2.2.2.2.2.2.2.2.2.2.2.2.2.2.2.2.2.2.2.2.2.2.2.2.2.1
abbrev nb_len (w : World) := (gl_all w).2.2.2.2.2.2.2.2.2.2.2.2.2.2.2.2.2.2.2.2.2.2.2.2.2.2.2.2.2.2.2.2.2.2.2.2.2.2.2.2.2.2.2.2.2.2.2.2.2.2.2.2.2.2.2.2.2.2.2.2.2.2.2.2.2.2.2.2.2.2.2.2.2.2.2.2.1
abbrev nb_range (w : World) := (gl_all w).2.2.2.2.2.2.2.2.2.2.2.2.2.2.2.2.2.2.2.2.2.2.2.2.2.2.2.2.2.2.2.2.2.2.2.2.2.2.2.2.2.2.2.2.2.2.2.2.2.2.2.2.2.2.2.2.2.2.2.2.2.2.2.2.2.2.2.2.2.2.2.2.2.2.2.2.2.1
abbrev nb_bytes (w : World) := (gl_all w).2.2.2.2.2.2.2.2.2.2.2.2.2.2.2.2.2.2.2.2.2.2.2.2.2.2.2.2.2.2.2.2.2.2.2.2.2.2.2.2.2.2.2.2.2.2.2.2.2.2.2.2.2.2.2.2.2.2.2.2.2.2.2.2.2.2.2.2.2.2.2.2.2.2.2.2.2.2.1
abbrev nb_bytearray (w : World) := (gl_all w).2.2.2.2.2.2.2.2.2.2.2.2.2.2.2.2.2.2.2.2.2.2.2.2.2.2.2.2.2.2.2.2.2.2.2.2.2.2.2.2.2.2.2.2.2.2.2.2.2.2.2.2.2.2.2.2.2.2.2.2.2.2.2.2.2.2.2.2.2.2.2.2.2.2.2.2.2.2.2.1
abbrev nb_max (w : World) := (gl_all w).2.2.2.2.2.2.2.2.2.2.2.2.2.2.2.2.2.2.2.2.2.2.2.2.2.2.2.2.2.2.2.2.2.2.2.2.2.2.2.2.2.2.2.2.2.2.2.2.2.2.2.2.2.2.2.2.2.2.2.2.2.2.2.2.2.2.2.2.2.2.2.2.2.2.2.2.2.2.2.2.1
abbrev nb_min (w : World) := (gl_all w).2.2.2.2.2.2.2.2.2.2.2.2.2.2.2.2.2.2.2.2.2.2.2.2.2.2.2.2.2.2.2.2.2.2.2.2.2.2.2.2.2.2.2.2.2.2.2.2.2.2.2.2.2.2.2.2.2.2.2.2.2.2.2.2.2.2.2.2.2.2.2.2.2.2.2.2.2.2.2.2.2.1
abbrev nb_abs (w : World) := (gl_all w).2.2.2.2.2.2.2.2.2.2.2.2.2.2.2.2.2.2.2.2.2.2.2.2.2.2.2.2.2.2.2.2.2.2.2.2.2.2.2.2.2.2.2.2.2.2.2.2.2.2.2.2.2.2.2.2.2.2.2.2.2.2.2.2.2.2.2.2.2.2.2.2.2.2.2.2.2.2.2.2.2.2.1
abbrev nb_enumerate (w : World) := (gl_all w).2.2.2.2.2.2.2.2.2.2.2.2.2.2.2.2.2.2.2.2.2.2.2.2.2.2.2.2.2.2.2.2.2.2.2.2.2.2.2.2.2.2.2.2.2.2.2.2.2.2.2.2.2.2.2.2.2.2.2.2.2.2.2.2.2.2.2.2.2.2.2.2.2.2.2.2.2.2.2.2.2.2.2.1
abbrev nb_zip (w : World) := (gl_all w).2.2.2.2.2.2.2.2.2.2.2.2.2.2.2.2.2.2.2.2.2.2.2.2.2.2.2.2.2.2.2.2.2.2.2.2.2.2.2.2.2.2.2.2.2.2.2.2.2.2.2.2.2.2.2.2.2.2.2.2.2.2.2.2.2.2.2.2.2.2.2.2.2.2.2.2.2.2.2.2.2.2.2.2.1
abbrev nb_list (w : World) := (gl_all w).2.2.2.2.2.2.2.2.2.2.2.2.2.2.2.2.2.2.2.2.2.2.2.2.2.2.2.2.2.2.2.2.2.2.2.2.2.2.2.2.2.2.2.2.2.2.2.2.2.2.2.2.2.2.2.2.2.2.2.2.2.2.2.2.2.2.2.2.2.2.2.2.2.2.2.2.2.2.2.2.2.2.2.2.2
theorem bb_len : bootBuiltins "len" = some (.builtin "len") := by first | boot_fast | boot_by_name
theorem bb_range : bootBuiltins "range" = some (.type "range") := by first | boot_fast | boot_by_name
theorem bb_bytes : bootBuiltins "bytes" = some (.type "bytes") := by first | boot_fast | boot_by_name
theorem bb_bytearray : bootBuiltins "bytearray" = some (.type "bytearray") := by first | boot_fast | boot_by_name
theorem bb_max : bootBuiltins "max" = some (.builtin "max") := by first | boot_fast | boot_by_name
theorem bb_min : bootBuiltins "min" = some (.builtin "min") := by first | boot_fast | boot_by_name
theorem bb_abs : bootBuiltins "abs" = some (.builtin "abs") := by first | boot_fast | boot_by_name
theorem bb_enumerate : bootBuiltins "enumerate" = some (.type "enumerate") := by first | boot_fast | boot_by_name
theorem bb_zip : bootBuiltins "zip" = some (.type "zip") := by first | boot_fast | boot_by_name
theorem bb_list : bootBuiltins "list" = some (.type "list") := by first | boot_fast | boot_by_name
theorem en_def {bz : Bool} {prog : Program} {w : World} {A : Around} {g : Heap} {L : Addr} {m : FMap} {n : Led} {V : Value → FMap → Led → Prop} {f : Addr} {oc : Value} {od : Option Addr} {osl : Array (Option Value)} {name qual : Str} {params : Arguments} {body : List Stmt} {scope : Scope} {dV kV doc pm cdv ct : Value} {an : Option Addr}
    {vs : List Value} {kw : List (Str × Value)} {k : Nat} {ks : List Str} {ns : List (Str × NameKind)} (hok : okk ns ks = true) (binds : List (Str × Value)) (fs : List (Option Value)) (G : Gk w g) (hR : Rm A (k + 1))
    (ho : List.lookup f (hd.heap_1 w.params) = some ⟨oc, od, .func (fnOf name qual params body scope dV kV doc pm an cdv ct), osl⟩) (hcd : codeIn (hd.heap_1 w.params) cdv qual = true)
    (hbind : bindArgs (fnOf name qual params body scope dV kV doc pm an cdv ct) ⟨vs, kw⟩ = pure binds) (hks : binds.map (·.1) = ks) (hfs : padO ns.length binds = fs)
    (hs : (scope.names, scope.isCoroutine, scope.isGenerator, scope.kind) = (ns, false, false, .function))
    (h : ∀ g' L' A', Gk w g' → Rm A' k → Ho bz prog w A' g' L' (fm ns fs) n (execs body (envX qual scope L' f cdv [])) (Kend V m)) :
    Ho bz prog w A g L m n (call (.ref f) vs kw) V := by
  have hns : scope.names = ns := congrArg (·.1) hs
  subst hns
  simp only [okk, Bool.and_eq_true] at hok
  obtain ⟨⟨h1, h2⟩, h3⟩ := hok
  have ho' : okn scope.names binds = true := okn_of (by rw [List.map_map, hks]; simp [Function.comp_def]) h1
  refine ho_runV ⟨fun hh ge dr tk os R F N q => (hoC_def (binds := binds) (W := fun v n' => ∃ n₂ : Led, n₂.Sublist n' ∧ V v m n₂) G ho hcd (by have := hR.dp; omega) hbind (fun y hy => ?_) (fun g' L' G' => by rw [fm_start ho', hfs]; exact h g' L' _ G' hR.deep) (fun x hx => by simpa using List.all_eq_true.mp h3 x hx) (congrArg (·.2.1) hs) (congrArg (·.2.2.1) hs) (congrArg (·.2.2.2) hs)).run hh ge dr tk os R F N fun f m' n' h' tk' F' N' p => ?_⟩
  · have := List.all_eq_true.mp h2 y.1 (hks ▸ List.mem_map_of_mem hy)
    simpa using this
  · cases f with
    | ret v => obtain ⟨rfl, n₂, s, p⟩ := p; exact q (.ret v) _ _ _ _ F' (N'.sub s) p
    | next => exact p.elim
    | brk => exact p.elim
    | cont => exact p.elim
theorem en_new {bz : Bool} {prog : Program} {w : World} {A : Around} {g : Heap} {L : Addr} {m : FMap} {n : Led} {V : Value → FMap → Led → Prop} {C fI : Addr} {oc : Value} {od : Option Addr} {osl : Array (Option Value)} {name qual : Str} {params : Arguments} {body : List Stmt} {scope : Scope} {dV kV doc pm cdv ct : Value} {an : Option Addr}
    {vs : List Value} {k : Nat} {ks : List Str} {ns : List (Str × NameKind)} (hok : okk ns ks = true) (binds : Addr → List (Str × Value)) (fs : Addr → List (Option Value)) (G : Gk w g) (hR : Rm A (k + 3))
    (hm : makesIn (hd.heap_1 w.params) C = true) (hi : findIn (hd.heap_1 w.params) (.ref C) "__init__" = some (some (.ref fI))) (hf : isFn (hd.heap_1 w.params) (.ref fI) = true)
    (ho : List.lookup fI (hd.heap_1 w.params) = some ⟨oc, od, .func (fnOf name qual params body scope dV kV doc pm an cdv ct), osl⟩) (hcd : codeIn (hd.heap_1 w.params) cdv qual = true)
    (hbind : ∀ x, bindArgs (fnOf name qual params body scope dV kV doc pm an cdv ct) ⟨.ref x :: vs, []⟩ = pure (binds x)) (hks : ∀ x, (binds x).map (·.1) = ks) (hfs : ∀ x, padO ns.length (binds x) = fs x)
    (hs : (scope.names, scope.isCoroutine, scope.isGenerator, scope.kind) = (ns, false, false, .function))
    (h : ∀ x dx g' L' A', Gk w g' → Rm A' k → (∀ p ∈ n, p.1 ≠ dx) → (∀ p ∈ n, p.1 ≠ x) → dx ≠ x → Ho false prog w A' g' L' (fm ns (fs x)) ((x, instObj C dx) :: (dx, dictOf (dn w.params [] [] []) 0) :: n) (execs body (envX qual scope L' fI cdv [])) fun fl _ n' => (match fl with | .ret v => v | _ => Value.none) = .none ∧ ∃ n₂ : Led, n₂.Sublist n' ∧ V (.ref x) m n₂) :
    Ho bz prog w A g L m n (call (.ref C) vs) V := Ho.mk fun hh ge dr tk os Q E F N q => by
  have hns : scope.names = ns := congrArg (·.1) hs
  subst hns
  simp only [okk, Bool.and_eq_true] at hok
  obtain ⟨⟨h1, h2⟩, h3⟩ := hok
  refine call_cls F G.X N.news hm hi hf fun x dx h₂ F₂ N₂ l1 l2 => ?_
  have d1 : ∀ p ∈ n, p.1 ≠ dx := fun p hp => Nat.ne_of_lt (l1 p hp)
  have d2 : ∀ p ∈ n, p.1 ≠ x := fun p hp => Nat.ne_of_lt (Nat.lt_trans (l1 p hp) l2)
  have d3 : dx ≠ x := Nat.ne_of_lt l2
  have N₃ : Nw g L h₂ ((x, instObj C dx) :: (dx, dictOf (dn w.params [] [] []) 0) :: n) := ⟨N₂, by
    refine List.nodup_cons.mpr ⟨fun hm => ?_, List.nodup_cons.mpr ⟨fun hm => ?_, N.nd⟩⟩
    · rcases List.mem_cons.mp hm with e | e
      · exact d3 e.symm
      · obtain ⟨p, hp, e⟩ := List.mem_map.mp e; exact d2 p hp e
    · obtain ⟨p, hp, e⟩ := List.mem_map.mp hm; exact d1 p hp e⟩
  have ho' : okn scope.names (binds x) = true := okn_of (by rw [List.map_map, hks]; simp [Function.comp_def]) h1
  have hR' : Rm (A.under (.builtin "type.__call__" ⟨.ref C :: vs, []⟩)) (k + 1) := ⟨hR.hh, by have := hR.dp; show A.depth + Code.weight _ + _ < _; rw [show Code.weight (.builtin "type.__call__" ⟨.ref C :: vs, []⟩) = 1 from rfl]; omega,
    by have := hR.un; show A.units + Code.cUnits _ + _ < _; rw [show Code.cUnits (.builtin "type.__call__" ⟨.ref C :: vs, []⟩) = 1 from rfl]; omega⟩
  generalize A.under (.builtin "type.__call__" ⟨.ref C :: vs, []⟩) = A₁ at hR'
  refine fun Γ p hc i => (hoC_def (bz := false) (binds := binds x) (W := fun v n' => v = .none ∧ ∃ n₂ : Led, n₂.Sublist n' ∧ V (.ref x) m n₂) G ho hcd (by have := hR'.dp; omega) (hbind x) (fun y hy => ?_) (fun g' L' G' => by rw [fm_start ho', hfs]; exact h x dx g' L' _ G' hR'.deep d1 d2 d3) (fun x hx => by simpa using List.all_eq_true.mp h3 x hx) (congrArg (·.2.1) hs) (congrArg (·.2.2.1) hs) (congrArg (·.2.2.2) hs)).run _ ge dr _ os _ F₂ N₃ (fun f m' n' h' tk' F' N' hv => ?_) Γ p hc i fun e => by cases e
  · have := List.all_eq_true.mp h2 y.1 (hks x ▸ List.mem_map_of_mem hy)
    simpa using this
  · cases f with
    | ret v => obtain ⟨rfl, hv⟩ := hv; exact ⟨hv.1, let ⟨n₂, s, p⟩ := hv.2; q _ _ _ _ _ F' (N'.sub s) p⟩
    | next => exact hv.elim
    | brk => exact hv.elim
    | cont => exact hv.elim
end
section
noncomputable abbrev xs_Reader : List Str := ["data", "at"]
theorem dka_Reader : dk xs_Reader "data" 0 = true ∧ dk xs_Reader "at" 1 = true ∧ List.contains [] "data" = false ∧ List.contains ["data"] "at" = false ∧ xs_Reader.contains "left" = false ∧ xs_Reader.contains "take" = false ∧ xs_Reader.contains "whole" = false ∧ xs_Reader.contains "varint" = false := by decide +kernel
abbrev dk_Reader_data := dka_Reader.1
abbrev dk_Reader_at := dka_Reader.2.1
abbrev dq_Reader_data := dka_Reader.2.2.1
abbrev dq_Reader_at := dka_Reader.2.2.2.1
abbrev dm_Reader_left := dka_Reader.2.2.2.2.1
abbrev dm_Reader_take := dka_Reader.2.2.2.2.2.1
abbrev dm_Reader_whole := dka_Reader.2.2.2.2.2.2.1
abbrev dm_Reader_varint := dka_Reader.2.2.2.2.2.2.2
theorem ata_Reader (w : World) : AttrOk (hd.heap_1 w.params) 327 "data" ∧ AttrOk (hd.heap_1 w.params) 327 "at" := by
  refine ⟨?_, ?_⟩
  all_goals (constructor <;> k_is)
abbrev at_Reader_data (w : World) := (ata_Reader w).1
abbrev at_Reader_at (w : World) := (ata_Reader w).2
theorem mta_Reader (w : World) : (plainGet (hd.heap_1 w.params) 327 "left" = true ∧ findIn (hd.heap_1 w.params) (.ref 327) "left" = some (some (.ref 296)) ∧ isFn (hd.heap_1 w.params) (.ref 296) = true) ∧ (plainGet (hd.heap_1 w.params) 327 "take" = true ∧ findIn (hd.heap_1 w.params) (.ref 327) "take" = some (some (.ref 303)) ∧ isFn (hd.heap_1 w.params) (.ref 303) = true) ∧ (plainGet (hd.heap_1 w.params) 327 "whole" = true ∧ findIn (hd.heap_1 w.params) (.ref 327) "whole" = some (some (.ref 317)) ∧ isFn (hd.heap_1 w.params) (.ref 317) = true) ∧ (plainGet (hd.heap_1 w.params) 327 "varint" = true ∧ findIn (hd.heap_1 w.params) (.ref 327) "varint" = some (some (.ref 324)) ∧ isFn (hd.heap_1 w.params) (.ref 324) = true) := by
  refine ⟨?_, ?_, ?_, ?_⟩
  all_goals (refine ⟨?_, ?_, ?_⟩ <;> k_is)
abbrev mt_Reader_left (w : World) := (mta_Reader w).1
abbrev mt_Reader_take (w : World) := (mta_Reader w).2.1
abbrev mt_Reader_whole (w : World) := (mta_Reader w).2.2.1
abbrev mt_Reader_varint (w : World) := (mta_Reader w).2.2.2
noncomputable abbrev xs_RawPacket : List Str := ["kind", "first", "version", "dcid", "scid", "token", "tag", "versions", "start", "number_at", "end"]
theorem dka_RawPacket : dk xs_RawPacket "kind" 0 = true ∧ dk xs_RawPacket "first" 1 = true ∧ dk xs_RawPacket "version" 2 = true ∧ dk xs_RawPacket "dcid" 3 = true ∧ dk xs_RawPacket "scid" 4 = true ∧ dk xs_RawPacket "token" 5 = true ∧ dk xs_RawPacket "tag" 6 = true ∧ dk xs_RawPacket "versions" 7 = true ∧ dk xs_RawPacket "start" 8 = true ∧ dk xs_RawPacket "number_at" 9 = true ∧ dk xs_RawPacket "end" 10 = true ∧ List.contains [] "kind" = false ∧ List.contains ["kind"] "first" = false ∧ List.contains ["kind", "first"] "version" = false ∧ List.contains ["kind", "first", "version"] "dcid" = false ∧ List.contains ["kind", "first", "version", "dcid"] "scid" = false ∧ List.contains ["kind", "first", "version", "dcid", "scid"] "token" = false ∧ List.contains ["kind", "first", "version", "dcid", "scid", "token"] "tag" = false ∧ List.contains ["kind", "first", "version", "dcid", "scid", "token", "tag"] "versions" = false ∧ List.contains ["kind", "first", "version", "dcid", "scid", "token", "tag", "versions"] "start" = false ∧ List.contains ["kind", "first", "version", "dcid", "scid", "token", "tag", "versions", "start"] "number_at" = false ∧ List.contains ["kind", "first", "version", "dcid", "scid", "token", "tag", "versions", "start", "number_at"] "end" = false := by decide +kernel
abbrev dk_RawPacket_kind := dka_RawPacket.1
abbrev dk_RawPacket_version := dka_RawPacket.2.2.1
abbrev dk_RawPacket_dcid := dka_RawPacket.2.2.2.1
abbrev dk_RawPacket_scid := dka_RawPacket.2.2.2.2.1
abbrev dk_RawPacket_token := dka_RawPacket.2.2.2.2.2.1
abbrev dk_RawPacket_start := dka_RawPacket.2.2.2.2.2.2.2.2.1
abbrev dk_RawPacket_number_at := dka_RawPacket.2.2.2.2.2.2.2.2.2.1
abbrev dk_RawPacket_end := dka_RawPacket.2.2.2.2.2.2.2.2.2.2.1
abbrev dq_RawPacket_kind := dka_RawPacket.2.2.2.2.2.2.2.2.2.2.2.1
abbrev dq_RawPacket_first := dka_RawPacket.2.2.2.2.2.2.2.2.2.2.2.2.1
abbrev dq_RawPacket_version := dka_RawPacket.2.2.2.2.2.2.2.2.2.2.2.2.2.1
abbrev dq_RawPacket_dcid := dka_RawPacket.2.2.2.2.2.2.2.2.2.2.2.2.2.2.1
abbrev dq_RawPacket_scid := dka_RawPacket.2.2.2.2.2.2.2.2.2.2.2.2.2.2.2.1
abbrev dq_RawPacket_token := dka_RawPacket.2.2.2.2.2.2.2.2.2.2.2.2.2.2.2.2.1
abbrev dq_RawPacket_tag := dka_RawPacket.2.2.2.2.2.2.2.2.2.2.2.2.2.2.2.2.2.1
abbrev dq_RawPacket_versions := dka_RawPacket.2.2.2.2.2.2.2.2.2.2.2.2.2.2.2.2.2.2.1
abbrev dq_RawPacket_start := dka_RawPacket.2.2.2.2.2.2.2.2.2.2.2.2.2.2.2.2.2.2.2.1
abbrev dq_RawPacket_number_at := dka_RawPacket.2.2.2.2.2.2.2.2.2.2.2.2.2.2.2.2.2.2.2.2.1
abbrev dq_RawPacket_end := dka_RawPacket.2.2.2.2.2.2.2.2.2.2.2.2.2.2.2.2.2.2.2.2.2
theorem ata_RawPacket (w : World) : AttrOk (hd.heap_1 w.params) 349 "kind" ∧ AttrOk (hd.heap_1 w.params) 349 "first" ∧ AttrOk (hd.heap_1 w.params) 349 "version" ∧ AttrOk (hd.heap_1 w.params) 349 "dcid" ∧ AttrOk (hd.heap_1 w.params) 349 "scid" ∧ AttrOk (hd.heap_1 w.params) 349 "token" ∧ AttrOk (hd.heap_1 w.params) 349 "tag" ∧ AttrOk (hd.heap_1 w.params) 349 "versions" ∧ AttrOk (hd.heap_1 w.params) 349 "start" ∧ AttrOk (hd.heap_1 w.params) 349 "number_at" ∧ AttrOk (hd.heap_1 w.params) 349 "end" := by
  refine ⟨?_, ?_, ?_, ?_, ?_, ?_, ?_, ?_, ?_, ?_, ?_⟩
  all_goals (constructor <;> k_is)
abbrev at_RawPacket_kind (w : World) := (ata_RawPacket w).1
abbrev at_RawPacket_first (w : World) := (ata_RawPacket w).2.1
abbrev at_RawPacket_version (w : World) := (ata_RawPacket w).2.2.1
abbrev at_RawPacket_dcid (w : World) := (ata_RawPacket w).2.2.2.1
abbrev at_RawPacket_scid (w : World) := (ata_RawPacket w).2.2.2.2.1
abbrev at_RawPacket_token (w : World) := (ata_RawPacket w).2.2.2.2.2.1
abbrev at_RawPacket_tag (w : World) := (ata_RawPacket w).2.2.2.2.2.2.1
abbrev at_RawPacket_versions (w : World) := (ata_RawPacket w).2.2.2.2.2.2.2.1
abbrev at_RawPacket_start (w : World) := (ata_RawPacket w).2.2.2.2.2.2.2.2.1
abbrev at_RawPacket_number_at (w : World) := (ata_RawPacket w).2.2.2.2.2.2.2.2.2.1
abbrev at_RawPacket_end (w : World) := (ata_RawPacket w).2.2.2.2.2.2.2.2.2.2
noncomputable abbrev xs_Closing : List Str := ["state", "frame", "end", "came", "next_reply"]
theorem dka_Closing : dk xs_Closing "state" 0 = true ∧ dk xs_Closing "frame" 1 = true ∧ dk xs_Closing "end" 2 = true ∧ dk xs_Closing "came" 3 = true ∧ dk xs_Closing "next_reply" 4 = true ∧ List.contains [] "state" = false ∧ List.contains ["state"] "frame" = false ∧ List.contains ["state", "frame"] "end" = false ∧ List.contains ["state", "frame", "end"] "came" = false ∧ List.contains ["state", "frame", "end", "came"] "next_reply" = false ∧ xs_Closing.contains "close_now" = false ∧ xs_Closing.contains "on_packet" = false ∧ xs_Closing.contains "on_time" = false ∧ xs_Closing.contains "next_time" = false := by decide +kernel
abbrev dk_Closing_state := dka_Closing.1
abbrev dk_Closing_frame := dka_Closing.2.1
abbrev dk_Closing_end := dka_Closing.2.2.1
abbrev dk_Closing_came := dka_Closing.2.2.2.1
abbrev dk_Closing_next_reply := dka_Closing.2.2.2.2.1
abbrev dq_Closing_state := dka_Closing.2.2.2.2.2.1
abbrev dq_Closing_frame := dka_Closing.2.2.2.2.2.2.1
abbrev dq_Closing_end := dka_Closing.2.2.2.2.2.2.2.1
abbrev dq_Closing_came := dka_Closing.2.2.2.2.2.2.2.2.1
abbrev dq_Closing_next_reply := dka_Closing.2.2.2.2.2.2.2.2.2.1
abbrev dm_Closing_close_now := dka_Closing.2.2.2.2.2.2.2.2.2.2.1
abbrev dm_Closing_on_packet := dka_Closing.2.2.2.2.2.2.2.2.2.2.2.1
abbrev dm_Closing_on_time := dka_Closing.2.2.2.2.2.2.2.2.2.2.2.2.1
abbrev dm_Closing_next_time := dka_Closing.2.2.2.2.2.2.2.2.2.2.2.2.2
theorem ata_Closing (w : World) : AttrOk (hd.heap_1 w.params) 101 "state" ∧ AttrOk (hd.heap_1 w.params) 101 "frame" ∧ AttrOk (hd.heap_1 w.params) 101 "end" ∧ AttrOk (hd.heap_1 w.params) 101 "came" ∧ AttrOk (hd.heap_1 w.params) 101 "next_reply" := by
  refine ⟨?_, ?_, ?_, ?_, ?_⟩
  all_goals (constructor <;> k_is)
abbrev at_Closing_state (w : World) := (ata_Closing w).1
abbrev at_Closing_frame (w : World) := (ata_Closing w).2.1
abbrev at_Closing_end (w : World) := (ata_Closing w).2.2.1
abbrev at_Closing_came (w : World) := (ata_Closing w).2.2.2.1
abbrev at_Closing_next_reply (w : World) := (ata_Closing w).2.2.2.2
theorem mta_Closing (w : World) : (plainGet (hd.heap_1 w.params) 101 "close_now" = true ∧ findIn (hd.heap_1 w.params) (.ref 101) "close_now" = some (some (.ref 56)) ∧ isFn (hd.heap_1 w.params) (.ref 56) = true) ∧ (plainGet (hd.heap_1 w.params) 101 "on_packet" = true ∧ findIn (hd.heap_1 w.params) (.ref 101) "on_packet" = some (some (.ref 77)) ∧ isFn (hd.heap_1 w.params) (.ref 77) = true) ∧ (plainGet (hd.heap_1 w.params) 101 "on_time" = true ∧ findIn (hd.heap_1 w.params) (.ref 101) "on_time" = some (some (.ref 84)) ∧ isFn (hd.heap_1 w.params) (.ref 84) = true) ∧ (plainGet (hd.heap_1 w.params) 101 "next_time" = true ∧ findIn (hd.heap_1 w.params) (.ref 101) "next_time" = some (some (.ref 98)) ∧ isFn (hd.heap_1 w.params) (.ref 98) = true) := by
  refine ⟨?_, ?_, ?_, ?_⟩
  all_goals (refine ⟨?_, ?_, ?_⟩ <;> k_is)
abbrev mt_Closing_close_now (w : World) := (mta_Closing w).1
abbrev mt_Closing_on_packet (w : World) := (mta_Closing w).2.1
abbrev mt_Closing_on_time (w : World) := (mta_Closing w).2.2.1
abbrev mt_Closing_next_time (w : World) := (mta_Closing w).2.2.2
end
section
open PySem PySem.Calls PySem.W PyProof.Rows
theorem ba_mro : mroOf (.type "bytearray") = pure [.type "bytearray", .type "object"] := by rw [mroOf_type]; kernel_rfl
theorem ba_new : typeLookup (.type "bytearray") "__new__" = pure (some (.builtin "bytearray.__new__")) := by rw [typeLookup_type, builtinLookup_eq_fast]; kernel_rfl
theorem ba_made : Bind.madeBy (.type "bytearray") = pure (some "bytearray.__new__") := madeBy_type ba_mro ba_new (by decide +kernel)
theorem ba_sub : isSubtype (.type "bytearray") (.type "bytearray") = pure true := by rw [isSubtype_type]; kernel_rfl
theorem ba_typeCall (a : Value) : checkTypeCall "bytearray" ⟨[a], []⟩ = pure () := by kernel_rfl
theorem ba_newCall (a : Value) : checkBuiltinCall "bytearray.__new__" ⟨[.type "bytearray", a], []⟩ = pure () := by kernel_rfl
theorem ba_plain_new : plainId "bytearray.__new__" = true := by decide +kernel
theorem ba_plain_init : plainId "bytearray.__init__" = true := by decide +kernel
theorem ba_entry_new : entryFor table "bytearray.__new__" = some Builtin.«list.__new__» :=
  entryFor_alias (id' := "list.__new__") (by kernel_rfl) (by first | rfl | decide +kernel) (by decide +kernel) (by kernel_rfl)
theorem ba_entry_init : entryFor table "bytearray.__init__" = some Builtin.«bytearray.__init__» := by first | exact entryFor_of_fast (by kernel_rfl) | exact entryFor_of_tree (by kernel_rfl)
theorem ba_entry_set : entryFor table "bytearray.__setitem__" = some Builtin.«bytearray.__setitem__» := by first | exact entryFor_of_fast (by kernel_rfl) | exact entryFor_of_tree (by kernel_rfl)
theorem ba_slot_init : Slot "bytearray" "__init__" "bytearray.__init__" :=
  .of (owner := "bytearray") (n := "__init__") (by rw [typeLookup_type, builtinLookup_eq_fast]; kernel_rfl) (by decide +kernel) (by decide +kernel) (by decide +kernel)
    (by first | exact .inl (by decide +kernel) | exact .inr (by decide +kernel)) (by rw [isSubtype_type]; kernel_rfl)
theorem ba_slot_set : Slot "bytearray" "__setitem__" "bytearray.__setitem__" :=
  .of (owner := "bytearray") (n := "__setitem__") (by rw [typeLookup_type, builtinLookup_eq_fast]; kernel_rfl) (by decide +kernel) (by decide +kernel) (by decide +kernel)
    (by first | exact .inl (by decide +kernel) | exact .inr (by decide +kernel)) (by rw [isSubtype_type]; kernel_rfl)
theorem ba_bind (v : Value) : Builtin.Bytes.bindOptional "bytearray.__init__" "bytearray" ["source", "encoding", "errors"] [v] [] = pure [some v, none, none] := by kernel_rfl
set_option maxRecDepth 1000000 in
set_option maxHeartbeats 4000000 in
theorem ba_owner : ("bytearray.__new__".splitOn ".__new__").headD "" = "bytearray" := by simp +decide [String.splitOn, String.splitOnAux]
section
variable {prog : Program} {w : World} {A : Around} {E : Value → Shared → Prop} {s : Shared}
theorem ba_code_new (a : Value) {Q₁ : Value → Shared → Prop}
    (h : Q₁ (.ref s.heap.objs.size) { s with heap := s.heap.push { cls := .type "bytearray", data := .bytearray #[] } }) :
    codeAny (model prog w) A (.call (.builtin "bytearray.__new__") ⟨[.type "bytearray", a], []⟩) (wants Q₁ E) s := by
  refine codeAny_of_tree ?_
  show wpAny _ A.in1 (do checkBuiltinCall "bytearray.__new__" ⟨[.type "bytearray", a], []⟩; again (.builtin "bytearray.__new__" ⟨[.type "bytearray", a], []⟩)) _ _ s
  refine wpAny_bind (wpAny_of_eq (ba_newCall a) (wpAny_pure ⟨plainId_quiet ba_plain_new _, codeAny_builtin_stack ba_entry_new rfl fun p st => ?_⟩))
  rw [Around.under_plainId ba_plain_new _]
  have hsub := ba_sub
  have hown := ba_owner
  obtain ⟨hp, g, d, tk, os⟩ := s
  simp only [hown]
  wp_walk
  exact h
theorem ba_rel : typeLookup (.type "bytearray") "__release_buffer__" = pure (some (.builtin "bytearray.__release_buffer__")) := by rw [typeLookup_type, builtinLookup_eq_fast]; kernel_rfl
set_option maxRecDepth 1000000 in
theorem ba_ends : ("bytearray.__release_buffer__".endsWith ("." ++ "__release_buffer__")) = true := by decide +kernel
set_option linter.deprecated false in
theorem ba_drop : ("bytearray.__release_buffer__".dropRight ("__release_buffer__".length + 1)) = "bytearray" := by decide +kernel
theorem ba_own {a : Addr} {o : Obj} (ho : s.heap.get? a = some o) (hc : o.cls = .type "bytearray") {Q : Bool → Shared → Prop} (h : Q false s) : wpAny (model prog w) A (Builtin.Bytes.ownRelease (.ref a)) Q E s := by
  have hT : s.TypeIs (.ref a) "bytearray" := ⟨o, ho, hc⟩
  unfold Builtin.Bytes.ownRelease Builtin.Bytes.slotIsOwn
  refine wpAny_bind (wpAny_bind (wpAny_specialOf hT ba_rel ?_))
  dsimp only
  rw [ba_ends, ba_drop]
  refine wpAny_isInstance hT ba_sub (wpAny_pure h)
end
section
variable {prog : Program} {w : World} {A : Around} {E : Value → Shared → Prop} {s : Shared}
theorem dite_f {c : Prop} [Decidable c] {t : c → Bool} {e : ¬ c → Bool} (hc : ¬ c) (h : e hc = false) : dite c t e = false := by rw [dif_neg hc]; exact h
theorem wpB_exported {a : Addr} {Q : Bool → Shared → Prop} (h : Q false s) : wpB true (model prog w) A (Builtin.Bytes.exported (.ref a)) Q E s := fun Γ p i c => by
  unfold Builtin.Bytes.exported
  have hq : ∀ b, b = false → Q b s := fun b e => e ▸ h
  have hcl : ∀ x ∈ (Γ.code, p) :: Γ.below, cleanC x.1 = true := fun x hx => by
    rcases List.mem_cons.mp hx with rfl | hx
    · exact (c rfl).1
    · exact (c rfl).2 x hx
  refine hq _ ?_
  generalize (Γ.code, p) :: Γ.below = l at hcl
  rw [List.any_eq_false]
  rintro ⟨c, p⟩ hx
  have hc := hcl _ hx
  clear hx hcl l hq i h
  cases c with
  | builtin id args =>
    simp only [cleanC, badIds, List.contains_append, Bool.not_eq_true', Bool.or_eq_false_iff] at hc
    obtain ⟨h1, h2⟩ := hc
    simp only [List.contains_cons, List.contains_nil, Bool.or_false, Bool.or_eq_false_iff, beq_eq_false_iff_ne] at h1
    obtain ⟨g1, g2, g3, g4, g5⟩ := h1
    delta Builtin.Bytes.exported.match_1
    refine Bool.eq_false_iff.mp (dite_f g1 (dite_f g2 (dite_f g3 (dite_f g4 (dite_f g5 ?_)))))
    obtain ⟨pos, kw⟩ := args
    cases pos with
    | nil => rfl
    | cons x pos => show (_ && Builtin.Bytes.decodersThatHold.contains id) = false; rw [h2, Bool.and_false]
  | _ => exact Bool.false_ne_true
theorem codeB_builtin {bz : Bool} {id : String} {args : Args} {b : Builtin} {R : Result → Shared → Prop} (hc : badIds.contains id = false) (hb : entryFor table id = some b)
    (h : wpB bz (model prog w) (A.under (.builtin id args)) (b args) (fun fin s' => match fin with | .done f => R (.ok f) s' | .again c' => c'.quiet = true ∧ codeB bz (model prog w) A c' R s') (fun e s' => R (.error e) s') s) :
    codeB bz (model prog w) A (.builtin id args) R s := by
  refine codeB_of_tree (by show (!badIds.contains id) = true; rw [hc]; rfl) ?_
  show wpB bz _ _ (match entryFor table id with | some b => b args | none => unsupported ((withoutEnding? id "#data").getD id)) _ _ s
  rw [hb]; exact h
noncomputable abbrev baO (l : List UInt8) : Obj := { cls := .type "bytearray", data := .bytearray l.toArray }
end
section
variable {prog : Program} {w : World} {A : Around} {E : Value → Shared → Prop} {s : Shared}
theorem ite_y {c : Prop} [Decidable c] {a b : Prop} (h : c) (x : a) : if c then a else b := by rw [if_pos h]; exact x
theorem ite_n {c : Prop} [Decidable c] {a b : Prop} (h : ¬ c) (x : b) : if c then a else b := by rw [if_neg h]; exact x
theorem ba_write {a : Addr} {l l' : List UInt8} {f : Array UInt8 → Array UInt8} {Q : Unit → Shared → Prop} (ho : s.heap.get? a = some (baO l)) (hf : f l.toArray = l'.toArray) (hz : l'.length ≤ 100000)
    (h : ∀ h', h'.get? a = some (baO l') → (∀ b, b ≠ a → h'.get? b = s.heap.get? b) → Q () { s with heap := h' }) : wpAny (model prog w) A (Builtin.Bytes.write (.ref a) f) Q E s := by
  show wpAny _ _ (updateBytearray a f) _ _ _
  unfold updateBytearray
  refine wpAny_bind (wpAny_load ho ?_)
  show wpAny _ _ (update a (Obj.mapBytearray f) >>= fun _ => lookBehind a) _ _ _
  refine wpAny_bind (wpAny_update ho ?_)
  have h2 : (s.heap.update a (Obj.mapBytearray f)).get? a = some (baO l') := by
    have e := Heap.get?_update_self (Obj.mapBytearray f) ho rfl
    rw [e]
    show some (Obj.mk _ _ (Data.bytearray (f l.toArray) 0) _) = _
    rw [hf]
  refine wpAny_lookBehind h2 ?_ (h _ h2 fun b hb => (Heap.SameBut.update ..).2 b hb)
  show (if l'.toArray.size > sizeLine then some "bytearray:memory" else none) = none
  rw [if_neg]
  rw [sizeLine_eq]; simp; omega
theorem ba_init_code {a : Addr} {k : Int} {t : Tok} {R : Result → Shared → Prop} (ho : s.heap.get? a = some (baO [])) (h0 : 0 < k) (h1 : k ≤ 1000)
    (h : ∀ h', h'.get? a = some (baO (List.replicate k.toNat 0)) → (∀ b, b ≠ a → h'.get? b = s.heap.get? b) → R (.ok (.ret .none)) { s with heap := h' }) :
    codeB true (model prog w) A (.builtin "bytearray.__init__" ⟨[.ref a, .int k t], []⟩) R s := by
  refine codeB_builtin (by decide +kernel) ba_entry_init ?_
  rw [Around.under_plainId ba_plain_init _]
  unfold Builtin.«bytearray.__init__»
  dsimp only
  refine wpB_bind (wpB_of (ba_own ho rfl ?_))
  rw [if_neg Bool.false_ne_true]
  rw [ba_bind]
  refine wpB_bind (wpB_of (wpAny_pure ?_))
  dsimp only
  refine wpB_bind (wpB_of (wpAny_of_eq (a := ()) rfl ?_))
  refine wpB_bind (wpB_of (wpAny_of_eq (a := ()) rfl ?_))
  refine wpB_bind ?_
  show wpB true _ _ (Builtin.Bytes.exported (.ref a) >>= fun b => _) _ _ _
  refine wpB_bind (wpB_exported ?_)
  show wpB true _ _ (do let n ← Builtin.Bytes.exportsOf (.ref a); pure (decide (n > 0))) _ _ _
  refine wpB_of ?_
  unfold Builtin.Bytes.exportsOf
  refine wpAny_bind (wpAny_bind (wpAny_load ho (wpAny_pure (wpAny_pure ?_))))
  refine wpB_of ?_
  rw [if_neg (by decide)]
  refine wpAny_bind (ba_write (l' := []) ho rfl (Nat.zero_le _) fun h₁ e₁ k₁ => ?_)
  refine wpAny_bind (wpAny_of_eq (a := none) rfl ?_)
  rw [if_neg (by decide)]
  refine wpAny_bind (wpAny_pure ?_)
  refine wpAny_bind (wpAny_specialOf (name := Str.ofString "__index__") (typeIs_int _ k t) F.slot_int_index.lookup ?_)
  refine wpAny_ite (ite_y rfl ?_)
  refine wpAny_bind (wpAny_attempt (wpAny_of_eq (a := k) rfl ?_))
  dsimp only
  refine wpAny_ite (ite_n (by simp only [Builtin.Bytes.fitsIndex, Bool.not_eq_true, Bool.not_eq_false', Bool.and_eq_true, decide_eq_true_eq]; omega) ?_)
  refine wpAny_ite (ite_n (by omega) ?_)
  refine wpAny_ite (ite_n (by rw [beq_iff_eq]; omega) ?_)
  refine wpAny_ite (ite_n (by simp only [Builtin.Bytes.tooLong, decide_eq_true_eq, sizeLine_eq]; omega) ?_)
  refine wpAny_bind (wpAny_rule ?_)
  refine wpAny_ite (ite_y h0 ?_)
  refine wpAny_bind (ba_write (l' := List.replicate k.toNat 0) e₁ (by simp) (by simp; omega) fun h₂ e₂ k₂ => ?_)
  exact wpAny_pure (h h₂ e₂ fun b hb => (k₂ b hb).trans (k₁ b hb))
theorem wpB_ite {α : Type} {bz : Bool} {M : Model} {c : Prop} [Decidable c] {a b : Sem α} {Q : α → Shared → Prop} (h : if c then wpB bz M A a Q E s else wpB bz M A b Q E s) : wpB bz M A (if c then a else b) Q E s := by split <;> simp_all
theorem ba_can : ((Manifest.find? "bytearray").bind fun x => List.findSome? (fun t => (Manifest.find? t).bind fun b => if b.noNew = true then some true else if (b.attrs.any fun x => x.fst == "__new__") = true then some false else none) x.mro).getD false = false := by decide +kernel
theorem ba_call {k : Int} {t : Tok} {Q : Value → Shared → Prop} (h0 : 0 < k) (h1 : k ≤ 1000)
    (h : ∀ h', h'.get? s.heap.objs.size = some (baO (List.replicate k.toNat 0)) → (∀ b o, s.heap.get? b = some o → h'.get? b = some o) → Q (.ref s.heap.objs.size) { s with heap := h' }) :
    wpB true (model prog w) A (call (.type "bytearray") [.int k t]) Q E s := by
  refine wpB_runValue (codeB_of_tree rfl ?_)
  show wpB true _ _ (callAny (.type "bytearray") _) _ _ _
  refine wpB_of (wpAny_pure ⟨Code.quiet_builtin _ (by decide +kernel), codeB_builtin (by decide +kernel) F.entry_type_call ?_⟩)
  rw [Around.under_plain (weight_type_call_type "bytearray" _ []) (units_type_call_type "bytearray" _ [])]
  unfold Builtin.«type.__call__»
  dsimp only
  refine wpB_ite (ite_n (by decide) ?_)
  refine wpB_ite (ite_n (by rw [ba_can]; decide) ?_)
  refine wpB_bind (wpB_of (wpAny_of_eq (ba_typeCall _) ?_))
  refine wpB_bind (wpB_of (wpAny_of_eq ba_mro ?_))
  refine wpB_ite (ite_n (by decide) ?_)
  refine wpB_bind (wpB_of (wpAny_of_eq ba_made ?_))
  dsimp only
  refine wpB_bind (wpB_of (wpAny_pure ?_))
  refine wpB_bind (wpB_of (wpAny_holding (wpAny_call (ba_code_new _ ?_))))
  have hT : ∀ h' : Heap, Shared.TypeIs ⟨h', s.gens, s.drawn, s.toks, s.os⟩ (.ref s.heap.objs.size) "bytearray" ∨ True := fun _ => .inr trivial
  have e0 : (s.heap.push (baO [])).get? s.heap.objs.size = some (baO []) := Heap.get?_push_size _ rfl
  have hT : Shared.TypeIs { s with heap := s.heap.push (baO []) } (.ref s.heap.objs.size) "bytearray" := ⟨_, e0, rfl⟩
  refine wpB_bind (wpB_of (wpAny_isInstance hT ba_sub ?_))
  refine wpB_ite (ite_n (by decide) ?_)
  refine wpB_bind (wpB_holding ?_)
  unfold callSpecial?
  refine wpB_bind (wpB_of (wpAny_specialOf hT ba_slot_init.lookup ?_))
  dsimp only
  refine wpB_holding ?_
  rw [ba_slot_init.bind]
  refine wpB_bind (wpB_of (wpAny_pure ?_))
  dsimp only
  refine wpB_bind (wpB_runValue (codeB_of_tree rfl ?_))
  show wpB true _ _ (do checkBuiltinCall "bytearray.__init__" ⟨[.ref s.heap.objs.size, .int k t], []⟩; again (.builtin "bytearray.__init__" ⟨[.ref s.heap.objs.size, .int k t], []⟩)) _ _ _
  refine wpB_bind (wpB_of (ba_slot_init.check _ _ _ _ _ _ _ _ hT ?_ ?_))
  · kernel_rfl
  refine wpB_of (wpAny_pure ⟨plainId_quiet ba_plain_init _, ba_init_code e0 h0 h1 fun h' e' k' => ?_⟩)
  dsimp only
  refine wpB_of (wpAny_pure ?_)
  dsimp only
  refine wpB_of (wpAny_ite (ite_n (by decide) ?_))
  refine wpAny_pure ?_
  dsimp only
  exact h h' e' fun b o e => by rw [k' b (Nat.ne_of_lt (Heap.lt_size e))]; exact Heap.get?_push_of_some _ e
theorem ba_no_bytes : typeLookup (.type "bytearray") "__bytes__" = pure none := by rw [typeLookup_type, builtinLookup_eq_fast]; kernel_rfl
theorem int_no_bytes : typeLookup (.type "int") "__bytes__" = pure none := by rw [typeLookup_type, builtinLookup_eq_fast]; kernel_rfl
theorem ba_no_index : typeLookup (.type "bytearray") "__index__" = pure none := by rw [typeLookup_type, builtinLookup_eq_fast]; kernel_rfl
theorem ba_buffer : typeLookup (.type "bytearray") "__buffer__" = pure (some (.builtin "bytearray.__buffer__")) := by rw [typeLookup_type, builtinLookup_eq_fast]; kernel_rfl
theorem ba_ends2 : ("bytearray.__buffer__".endsWith ("." ++ "__buffer__")) = true := by decide +kernel
set_option linter.deprecated false in
theorem ba_drop2 : ("bytearray.__buffer__".dropRight ("__buffer__".length + 1)) = "bytearray" := by decide +kernel
theorem ba_bytes_new {a : Addr} {l : List UInt8} {Q : Value → Shared → Prop} (ho : s.heap.get? a = some (baO l)) (hz : l.length ≤ 100000)
    (h : ∀ t k, Q (.bytes l.toArray t) { s with toks := k }) : codeAny (model prog w) A (.call (.builtin "bytes.__new__") ⟨[.type "bytes", .ref a], []⟩) (wants Q E) s := by
  refine codeAny_of_tree ?_
  show wpAny _ A.in1 (do checkBuiltinCall "bytes.__new__" ⟨[.type "bytes", .ref a], []⟩; again (.builtin "bytes.__new__" ⟨[.type "bytes", .ref a], []⟩)) _ _ s
  refine wpAny_bind (wpAny_of_eq (F.bm_newCall _) (wpAny_pure ⟨plainId_quiet F.bm_plain _, codeAny_builtin F.bm_entry ?_⟩))
  rw [Around.under_plainId F.bm_plain _]
  have hT : s.TypeIs (.ref a) "bytearray" := ⟨_, ho, rfl⟩
  unfold Builtin.«bytes.__new__»
  refine wpAny_bind (wpAny_of_eq (a := true) rfl ?_)
  refine bm_if_false rfl (wpAny_bind (wpAny_of_eq F.bm_sub ?_))
  refine bm_if_false rfl (wpAny_bind (wpAny_of_eq (F.bm_bind _) ?_))
  refine wpAny_bind (wpAny_of_eq (a := ()) rfl ?_)
  refine wpAny_bind (wpAny_of_eq (a := ()) rfl ?_)
  refine bm_if_false rfl (wpAny_bind (wpAny_specialOf hT ba_no_bytes ?_))
  refine wpAny_bind (wpAny_bind ?_)
  show wpAny _ _ (load a >>= _) _ _ _
  refine wpAny_bind (wpAny_load ho ?_)
  refine wpAny_pure (wpAny_pure ?_)
  refine bm_if_false rfl (wpAny_bind (wpAny_specialOf hT ba_no_index ?_))
  refine bm_if_true rfl ?_
  first
    | show wpAny _ _ (Builtin.Bytes.buffer? "bytes.__new__" (.ref a) true >>= _) _ _ _
    | (refine wpAny_bind ?_; show wpAny _ _ (Builtin.Bytes.buffer? "bytes.__new__" (.ref a) true >>= _) _ _ _)
  refine wpAny_bind ?_
  unfold Builtin.Bytes.buffer?
  refine wpAny_bind (wpAny_specialOf hT ba_buffer ?_)
  dsimp only
  refine wpAny_bind ?_
  unfold Builtin.Bytes.slotIsOwn
  refine wpAny_bind (wpAny_specialOf hT ba_buffer ?_)
  dsimp only
  rw [ba_ends2, ba_drop2]
  refine bm_if_false rfl (wpAny_isInstance hT ba_sub (bm_if_false rfl (wpAny_bind (wpAny_specialOf hT ba_buffer ?_))))
  refine wpAny_bind (ba_own ho rfl ?_)
  refine bm_if_false rfl (wpAny_bind ?_)
  unfold Builtin.Bytes.payload Builtin.Bytes.payload?
  refine wpAny_bind (wpAny_bind (wpAny_load ho ?_))
  refine wpAny_pure (wpAny_pure (wpAny_pure ?_))
  dsimp only
  refine wpAny_bind (wpAny_rule ?_)
  refine wpAny_bind (wpAny_mkBytes ?_ (by rw [sizeLine_eq]; simp; omega))
  show wpAny _ _ (if (Value.type "bytes" == Value.type "bytes") = true then _ else _) _ _ _
  refine bm_if_true (by decide) ?_
  first
    | exact wpAny_pure (h _ _)
    | exact wpAny_bind (wpAny_pure (wpAny_pure (h _ _)))
theorem ba_bytes {a : Addr} {l : List UInt8} {Q : Value → Shared → Prop} (ho : s.heap.get? a = some (baO l)) (hz : l.length ≤ 100000)
    (h : ∀ t k, Q (.bytes l.toArray t) { s with toks := k }) : wpAny (model prog w) A (call (.type "bytes") [.ref a]) Q E s := by
  refine callType_codes (Q₁ := fun obj s₁ => s₁.TypeIs obj "bytes" ∧ Q obj s₁) F.bm_called (F.bm_typeCall _) F.entry_object_init
    (ba_bytes_new ho hz fun t k => ⟨typeIs_bytes _ _ _, h t k⟩) fun obj s₁ h₁ => ?_
  exact ⟨h₁.1, F.args_object_init_2 obj _, object_init_meets F.bm_called.init.lookup F.bm_called.made (by decide) prog w A.in1 _ s₁ ⟨h₁.1, rfl, h₁.2⟩⟩
theorem int_bytes_new {i : Int} {u : Tok} {Q : Value → Shared → Prop} (h0 : 0 ≤ i) (hz : i ≤ 100000)
    (h : ∀ t k, Q (.bytes (List.replicate i.toNat 0).toArray t) { s with toks := k }) : codeAny (model prog w) A (.call (.builtin "bytes.__new__") ⟨[.type "bytes", .int i u], []⟩) (wants Q E) s := by
  refine codeAny_of_tree ?_
  show wpAny _ A.in1 (do checkBuiltinCall "bytes.__new__" ⟨[.type "bytes", .int i u], []⟩; again (.builtin "bytes.__new__" ⟨[.type "bytes", .int i u], []⟩)) _ _ s
  refine wpAny_bind (wpAny_of_eq (F.bm_newCall _) (wpAny_pure ⟨plainId_quiet F.bm_plain _, codeAny_builtin F.bm_entry ?_⟩))
  rw [Around.under_plainId F.bm_plain _]
  have hT : s.TypeIs (.int i u) "int" := typeIs_int _ _ _
  unfold Builtin.«bytes.__new__»
  refine wpAny_bind (wpAny_of_eq (a := true) rfl ?_)
  refine bm_if_false rfl (wpAny_bind (wpAny_of_eq F.bm_sub ?_))
  refine bm_if_false rfl (wpAny_bind (wpAny_of_eq (F.bm_bind _) ?_))
  refine wpAny_bind (wpAny_of_eq (a := ()) rfl ?_)
  refine wpAny_bind (wpAny_of_eq (a := ()) rfl ?_)
  refine bm_if_false rfl (wpAny_bind (wpAny_specialOf hT int_no_bytes ?_))
  refine wpAny_bind (wpAny_of_eq (a := false) rfl ?_)
  refine bm_if_false rfl (wpAny_bind (wpAny_specialOf hT F.slot_int_index.lookup ?_))
  refine bm_if_false rfl (wpAny_bind (wpAny_attempt (wpAny_of_eq (a := i) rfl ?_)))
  dsimp only
  refine wpAny_ite (ite_n (by simp only [Builtin.Bytes.fitsIndex, Bool.not_eq_true, Bool.not_eq_false', Bool.and_eq_true, decide_eq_true_eq]; omega) ?_)
  refine wpAny_ite (ite_n (by omega) ?_)
  refine wpAny_ite (ite_n (by omega) ?_)
  refine wpAny_ite (ite_n (by simp only [Builtin.Bytes.tooLong, decide_eq_true_eq, sizeLine_eq]; omega) ?_)
  refine wpAny_bind (wpAny_rule ?_)
  refine wpAny_bind (wpAny_mkBytes ?_ (by rw [sizeLine_eq]; simp; omega))
  have e : (List.replicate i.toNat (0 : UInt8)).toArray = Array.replicate i.toNat 0 := by simp
  rw [e] at h
  show wpAny _ _ (if (Value.type "bytes" == Value.type "bytes") = true then _ else _) _ _ _
  refine bm_if_true (by decide) ?_
  first
    | exact wpAny_pure (h _ _)
    | exact wpAny_bind (wpAny_pure (wpAny_pure (h _ _)))
theorem int_bytes {i : Int} {u : Tok} {Q : Value → Shared → Prop} (h0 : 0 ≤ i) (hz : i ≤ 100000)
    (h : ∀ t k, Q (.bytes (List.replicate i.toNat 0).toArray t) { s with toks := k }) : wpAny (model prog w) A (call (.type "bytes") [.int i u]) Q E s := by
  refine callType_codes (Q₁ := fun obj s₁ => s₁.TypeIs obj "bytes" ∧ Q obj s₁) F.bm_called (F.bm_typeCall _) F.entry_object_init
    (int_bytes_new h0 hz fun t k => ⟨typeIs_bytes _ _ _, h t k⟩) fun obj s₁ h₁ => ?_
  exact ⟨h₁.1, F.args_object_init_2 obj _, object_init_meets F.bm_called.init.lookup F.bm_called.made (by decide) prog w A.in1 _ s₁ ⟨h₁.1, rfl, h₁.2⟩⟩
theorem ba_args_set (a b c : Value) : argsOk "bytearray.__setitem__" ⟨[a, b, c], []⟩ := by kernel_rfl
theorem ba_setItem {a : Addr} {l : List UInt8} {j c : Int} {t u : Tok} {Q : Unit → Shared → Prop} (ho : s.heap.get? a = some (baO l)) (hz : l.length ≤ 100000) (h0 : 0 ≤ j) (h1 : j < (l.length : Int)) (c0 : 0 ≤ c) (c1 : c < 256)
    (h : ∀ h', h'.get? a = some (baO (l.set j.toNat c.toNat.toUInt8)) → (∀ b, b ≠ a → h'.get? b = s.heap.get? b) → Q () { s with heap := h' }) : wpAny (model prog w) A (setItem (.ref a) (.int j t) (.int c u)) Q E s := by
  have hT : s.TypeIs (.ref a) "bytearray" := ⟨_, ho, rfl⟩
  unfold setItem
  try with_reducible refine wpAny_holding ?_
  first | refine wpAny_bind (wpAny_pure ?_) | skip
  refine wpAny_bind (wpAny_sequenceKey hT (by decide) ?_)
  refine wpAny_bind (wpAny_callSpecial?_slot (name := Str.ofString "__setitem__") hT ba_slot_set (wpAny_call_entry ba_slot_set hT ba_entry_set ?_ (ba_args_set _ _ _)))
  unfold Builtin.«bytearray.__setitem__»
  dsimp only
  refine bm_if_false rfl (wpAny_bind ?_)
  unfold Builtin.Bytes.subscript?
  refine wpAny_bind (wpAny_specialOf (name := Str.ofString "__index__") (typeIs_int _ j t) F.slot_int_index.lookup ?_)
  refine bm_if_false rfl (wpAny_bind (wpAny_of_eq (a := j) rfl ?_))
  refine wpAny_ite (ite_n (by simp only [Builtin.Bytes.fitsIndex, Bool.not_eq_true, Bool.not_eq_false', Bool.and_eq_true, decide_eq_true_eq]; omega) ?_)
  refine wpAny_pure ?_
  dsimp only
  refine wpAny_bind ?_
  unfold Builtin.Bytes.byteValue
  refine wpAny_bind (wpAny_of_eq (a := c) rfl ?_)
  refine wpAny_ite (ite_n (by simp only [Bool.or_eq_true, decide_eq_true_eq]; omega) ?_)
  refine wpAny_pure (wpAny_bind ?_)
  unfold Builtin.Bytes.payload Builtin.Bytes.payload?
  refine wpAny_bind (wpAny_bind (wpAny_load ho ?_))
  refine wpAny_pure (wpAny_pure ?_)
  have e : seqIndex? j l.toArray.size = some j.toNat := by
    have h2 : ¬ j < 0 := by omega
    simp [seqIndex?, h2, h1, h0]
  rw [e]
  dsimp only
  refine wpAny_bind (ba_write (l' := l.set j.toNat c.toNat.toUInt8) ho (by simp) (by simpa using hz) fun h₂ e₂ k₂ => ?_)
  exact wpAny_pure ⟨.none, rfl, wpAny_pure (h h₂ e₂ k₂)⟩
end
end
section
section
variable {bz : Bool} {prog : Program} {w : World} {A : Around} {g : Heap} {L : Addr} {m : FMap} {n : Led} {V : Value → FMap → Led → Prop} {U : Unit → FMap → Led → Prop} {a : Addr} {l : List UInt8} {k j c : Int} {t u : Tok} {f : Obj → Led}
theorem ho_ba (h0 : 0 < k) (h1 : k ≤ 1000) (h : ∀ a, (∀ p ∈ n, p.1 ≠ a) → V (.ref a) m ((a, baO (List.replicate k.toNat 0)) :: n)) : Ho true prog w A g L m n (call (.type "bytearray") [.int k t]) V :=
  ⟨fun _ _ _ _ _ _ _ F N q => ba_call h0 h1 fun h' e' k' => q _ _ _ _ _ (Fr.kept F k') (Nw.cons F N e' k') (h _ fun _ hp => N.old hp)⟩
theorem ho_baSet (X : UpL a (baO l) n f) (hz : l.length ≤ 100000) (h0 : 0 ≤ j) (h1 : j < (l.length : Int)) (c0 : 0 ≤ c) (c1 : c < 256) (h : U () m (f (baO (l.set j.toNat c.toNat.toUInt8)))) : Ho bz prog w A g L m n (setItem (.ref a) (.int j t) (.int c u)) U :=
  Ho.mk fun _ _ _ _ _ _ _ F N q => ba_setItem (N.news _ X.mem).1 hz h0 h1 c0 c1 fun h' e' k' =>
    q _ _ _ _ _ (Fr.but F (N.news _ X.mem).2.1 (N.news _ X.mem).2.2 fun b x hb e => (k' b hb).trans e) (N.upd X e' fun b x hb e => (k' b hb).trans e) h
theorem ho_baBytes (hm : (a, baO l) ∈ n) (hz : l.length ≤ 100000) (h : ∀ t, V (.bytes l.toArray t) m n) : Ho bz prog w A g L m n (call (.type "bytes") [.ref a]) V :=
  Ho.mk fun _ _ _ _ _ _ _ F N q => ba_bytes (N.news _ hm).1 hz fun t k => q _ _ _ _ _ F N (h t)
theorem ho_intBytes (h0 : 0 ≤ k) (hz : k ≤ 100000) (h : ∀ t, V (.bytes (List.replicate k.toNat 0).toArray t) m n) : Ho bz prog w A g L m n (call (.type "bytes") [.int k u]) V :=
  Ho.mk fun _ _ _ _ _ _ _ F N q => int_bytes h0 hz fun t k => q _ _ _ _ _ F N (h t)
end
end
section
section
variable {α : Type} {bz : Bool} {prog : Program} {w : World} {A : Around} {g : Heap} {L : Addr} {m : FMap} {n n' : Led} {env : Env} {V : Value → FMap → Led → Prop} {U : Unit → FMap → Led → Prop} {B : Bool → FMap → Led → Prop} {P : Flow → FMap → Led → Prop} {K : Frag} {p : Program} {loose : List Str} {pos : Pos} {x : Str} {v : Value}
theorem he_globG (G : Gd K p loose g) (e : nsIn K mainGlobals x = some (some v)) (h : V v m n)
    (hk : env.scope.kind = .function := by rfl) (hx : env.kindOf x = some .globalImplicit := by rfl) (hg : env.globals = mainGlobals := by rfl) (hd : (x == ("__debug__" : Str)) = false := by decide) : Ho bz prog w A g L m n (eval (.Name x pos) env) V :=
  Ho.mk fun _ _ _ _ _ _ _ F N q => let ⟨_, _, T⟩ := G.R; PySem.Calls.Name_function_global hk hx (PySem.Calls.loadGlobal_global (env := env) (hg ▸ T.g.keeps F.keep) (mg_of G.X T.g e) (q _ _ _ _ _ F N h)) hd
theorem ho_inner {β : Type} {scope : Scope} {cells : List (Str × Addr)} {qual : Str} {a0 : Option Addr} {code : Value} {around : Env} {bs : Addr} {gl : Addr} (f : Env → Sem β) {W : β → Led → Prop} (G : Gd K p loose g) (hcell : ∀ x ∈ scope.names, x.2 ≠ .cell) (hkind : scope.kind = .function)
    (h : ∀ g' C, Gd K p loose g' → g.StaysIn g' → Ho bz prog w A g' C (lk []) n (f (newEnv scope C gl cells qual a0 code (some around) bs)) fun b _ n' => W b n') {PP : β → FMap → Led → Prop} (hP : ∀ b n', W b n' → PP b m n') :
    Ho bz prog w A g L m n (newFunctionEnv scope gl cells [] qual a0 code (some around) bs >>= f) PP := ⟨fun hh ge dr tk os Q E F N q => by
  refine wpB_bind (wpB_of (wpAny_newFunctionEnv hcell (by intro y hy; simp at hy) (fun h₁ hns hsb => ?_) hkind))
  have hk₁ : ∀ b o, hh.get? b = some o → h₁.get? b = some o := fun b o e => hsb.extBut b o (Nat.ne_of_lt (Heap.lt_size e)) (Heap.get?_push_of_some _ e)
  have nm : ∀ b o, g.get? b = some o → b ∉ n.map (·.1) := fun b o e q => by
    obtain ⟨p, hp, rfl⟩ := List.mem_map.mp q
    rw [(N.news p hp).2.2] at e; cases e
  have st : g.StaysIn (hideAll hh (n.map (·.1))) := fun b o e => hideAll_get _ (F.keep b o e) (nm b o e)
  obtain ⟨oL, es, ep, hL, hLd, hLk, hLf⟩ := F.ns
  have nL : L ∉ n.map (·.1) := fun q => by
    obtain ⟨p, hp, e⟩ := List.mem_map.mp q
    exact (N.news p hp).2.1 e
  have hLg := hideAll_get (n.map (·.1)) hL nL
  refine (h (hideAll hh (n.map (·.1))) hh.objs.size (G.keeps fun b o e => st b o e) st).run h₁ ge dr _ os _ _
    ⟨hns, fun b o e => hk₁ b o (of_hideAll _ e), Nat.le_of_eq (hideAll_size _ _)⟩
    ⟨fun p hp => ⟨hk₁ _ _ (N.news p hp).1, Nat.ne_of_lt (Heap.lt_size (N.news p hp).1), hideAll_none _ (List.mem_map_of_mem hp)⟩, N.nd⟩ fun b m' n' h' tk' F' N' v => ?_
  refine q _ _ _ _ _ ⟨⟨oL, es, ep, F'.keep L oL hLg, hLd, hLk, hLf⟩, fun b o e => F'.keep b o (st b o e), F.above⟩ ⟨fun p hp => ⟨(N'.news p hp).1, fun e => ?_, ?_⟩, N'.nd⟩ (hP _ _ v)
  · have := (N'.news p hp).2.2; rw [e, hLg] at this; cases this
  · cases e : g.get? p.1 with
    | none => rfl
    | some o => have := (N'.news p hp).2.2; rw [st _ _ e] at this; cases this⟩
theorem ho_letGo {cenv : Env} {cellsOf : List (Str × NameKind) → List Value} {vs : List (Str × NameKind)} (hkind : cenv.scope.kind = .function) (hL : cenv.locals = L) (hv : ∀ x ∈ vs, x.2 = .local → cenv.kindOf x.1 = some .local) (h : ∀ m, U () m n) :
    Ho bz prog w A g L m n (comprehension.letGo cenv cellsOf vs) U := Ho.mk fun hh ge dr tk os Q E F N q => by
  subst hL
  exact wpAny_comp_letGo hkind vs ⟨hh, ge, dr, tk, os⟩ m hv F.ns fun h' m' hn hs => q _ _ _ _ _ (F.set hn hs) ⟨N.news.set hs, N.nd⟩ (h m')
noncomputable def HoCp (bz : Bool) (prog : Program) (w : World) (A : Around) (g : Heap) (L : Addr) (env : Env) (elt target : Expr) (ifs : List Expr) (it acc : Value) (W : Led → Prop) : Nat → FMap → Led → Prop
  | 0, _, _ => False
  | k + 1, m, n => Ho bz prog w A g L m n (pyNext it) fun r m n => match r with
    | none => W n
    | some v => Ho bz prog w A g L m n (letOwnedTupleGo target it v) fun _ m n => Ho bz prog w A g L m n (assign target env v) fun _ m n =>
      Ho bz prog w A g L m n (forIn ifs true fun c r => if r = true then do let ok ← isTrue c env (eval c env); pure (ForInStep.yield ok) else pure (ForInStep.yield r)) fun ok m n =>
        if ok = true then Ho bz prog w A g L m n (eval elt env) fun y m n => Ho bz prog w A g L m n (call (.builtin "list.append") [acc, y]) fun _ m n => HoCp bz prog w A g L env elt target ifs it acc W k m n
        else HoCp bz prog w A g L env elt target ifs it acc W k m n
theorem hoC_comp {elt target iter : Expr} {ifs : List Expr} {scope : Scope} {it acc : Value} {W : Led → Prop} : ∀ {k : Nat} {m : FMap} {n : Led}, HoCp bz prog w A g L env elt target ifs it acc W k m n →
    HoC bz prog w A g L m n (.compLoop (.ListComp elt [⟨target, iter, ifs, 0⟩] scope pos) 0 it acc env) fun _ _ n => W n
  | 0, _, _, h => h.elim
  | k + 1, m, n, h => hoC_tree rfl (by
    show Ho bz prog w A g L m n ((compTurn (.ListComp elt [⟨target, iter, ifs, 0⟩] scope pos) 0 it acc env).onRaise (fun x => do noteFrame x env; theTreesLotGoes x)) _
    refine ho_onr ?_
    unfold compTurn
    refine ho_sa ?_
    show Ho bz prog w A g L m n (pyNext it >>= _) _
    refine ho_bind (Ho.mono h fun r m n h => ?_)
    cases r with
    | none => exact ho_pure h
    | some v =>
      refine ho_bind (Ho.mono h fun _ m n h => ho_bind (Ho.mono h fun _ m n h => ho_bind (Ho.mono h fun ok m n h => ?_)))
      cases ok with
      | false => exact ho_pure ⟨rfl, hoC_comp h⟩
      | true =>
        show Ho bz prog w A g L m n (do let _ ← (do let _ ← call (.builtin "list.append") [acc, ← eval elt env]); again (.compLoop (.ListComp elt [⟨target, iter, ifs, 0⟩] scope pos) 0 it acc env)) _
        exact ho_bind (ho_bind (Ho.mono h fun y m n h => ho_bind (Ho.mono h fun _ m n h => ho_pure (ho_pure ⟨rfl, hoC_comp h⟩)))))
theorem HoC.mono {c : Code} {P P' : Flow → FMap → Led → Prop} (h : HoC bz prog w A g L m n c P) (k : ∀ v m n, P v m n → P' v m n) : HoC bz prog w A g L m n c P' :=
  ⟨fun _ _ _ _ _ _ F N q => h.run _ _ _ _ _ _ F N fun v m n h' tk' F N p => q v m n h' tk' F N (k v m n p)⟩
theorem ho_newList (h : ∀ D, (∀ p ∈ n, p.1 ≠ D) → V (.ref D) m ((D, lstO [] 0) :: n)) : Ho bz prog w A g L m n (newList []) V :=
  Ho.mk fun _ _ _ _ _ _ _ F N q => wpAny_newObj_type (q _ _ _ _ _ (Fr.kept F fun _ _ e => Heap.get?_push_of_some _ e) (Nw.cons F N (Heap.get?_push_size _ rfl) fun _ _ e => Heap.get?_push_of_some _ e) (h _ fun _ hp => N.old hp))
theorem ho_ask {β : Type} {f : Setting → Sem β} {PP : β → FMap → Led → Prop} (h : ∀ s, Ho bz prog w A g L m n (f s) PP) : Ho bz prog w A g L m n (ask >>= f) PP :=
  ho_bind (Ho.mk fun _ _ _ _ _ _ _ F N q => wpAny_askSetting (q _ _ _ _ _ F N (h _)))
theorem hoC_cstart {elt target iter : Expr} {ifs : List Expr} {scope : Scope} {it acc : Value} {W : Led → Prop} (h0 : ∃ k, HoCp bz prog w A g L env elt target ifs it acc W k m n) (h : Ho bz prog w A g L m n (pyIter it) fun it' m n => ∃ k, HoCp bz prog w A g L env elt target ifs it' acc W k m n) :
    HoC bz prog w A g L m n (.compStart (.ListComp elt [⟨target, iter, ifs, 0⟩] scope pos) 0 it acc env) fun _ _ n => W n := hoC_tree rfl (by
  show Ho bz prog w A g L m n ((compStart (.ListComp elt [⟨target, iter, ifs, 0⟩] scope pos) 0 it acc env).onRaise (fun x => do noteFrame x env; standAt theWindowsPlace)) _
  refine ho_onr ?_
  unfold compStart
  show Ho bz prog w A g L m n (ask >>= _) _
  refine ho_ask fun s => ?_
  have g0 : HoC bz prog w A g L m n (.compLoop (.ListComp elt [⟨target, iter, ifs, 0⟩] scope pos) 0 it acc env) fun _ _ n => W n := let ⟨_, h⟩ := h0; hoC_comp h
  have hA : Ho bz prog w A g L m n (again (.compLoop (.ListComp elt [⟨target, iter, ifs, 0⟩] scope pos) 0 it acc env)) fun fin m n => match fin with | .done f => W n | .again c' => c'.quiet = true ∧ HoC bz prog w A g L m n c' fun _ _ n => W n := ho_pure ⟨rfl, g0⟩
  have hB : Ho bz prog w A g L m n (pyIter it >>= fun it' => again (.compLoop (.ListComp elt [⟨target, iter, ifs, 0⟩] scope pos) 0 it' acc env)) fun fin m n => match fin with | .done f => W n | .again c' => c'.quiet = true ∧ HoC bz prog w A g L m n c' fun _ _ n => W n :=
    ho_bind (h.mono fun it' m n h => ho_pure ⟨rfl, let ⟨_, h⟩ := h; hoC_comp h⟩)
  split
  · first
      | exact hA
      | exact ho_bind (ho_pure hA)
      | exact ho_bind hA
  · refine ho_bind (ho_rule ?_)
    show Ho bz prog w A g L m n (standAt iter.pos >>= _) _
    exact ho_sa hB)
theorem he_comp {elt target iter : Expr} {ifs : List Expr} {scope : Scope} {cl : List (Str × Addr)} (G : Gd K p loose g) (hclos : closureFor scope env = pure cl) (hcell : ∀ x ∈ scope.names, x.2 ≠ .cell) (hkind : scope.kind = .function) (hnames : ∀ x ∈ scope.names, x.2 = .local → (relabel scope env).names.lookup x.1 = some .local)
    (h : Ho bz prog w A g L m n (eval iter env) fun x m n => Ho bz prog w A g L m n (pyIter x) fun it m n => ∀ D, (∀ p ∈ n, p.1 ≠ D) → ∀ g' C, Gd K p loose g' → g.StaysIn g' →
      HoC bz prog w A g' C (lk []) ((D, lstO [] 0) :: n) (.compStart (.ListComp elt [⟨target, iter, ifs, 0⟩] scope pos) 0 it (.ref D) (compEnvC scope cl C env)) fun _ _ n' => V (.ref D) m n')
    (hs : ∀ x, foldedSetIterable iter env x = pure x := by intro _; rfl) : Ho bz prog w A g L m n (eval (.ListComp elt [⟨target, iter, ifs, 0⟩] scope pos) env) V := by
  rw [eval_ListComp]
  unfold comprehension
  refine ho_bind (h.mono fun x _ _ h => ho_sa ?_)
  show Ho bz prog w A g L _ _ (foldedSetIterable iter env x >>= _) V
  rw [hs x]
  refine ho_bind (ho_pure (ho_bind (ho_hold (h.mono fun it _ n h => ?_))))
  simp only [Option.isSome_none, Bool.false_eq_true, if_false]
  refine ho_bind (ho_newList fun D hD => ?_)
  rw [hclos]
  refine ho_bind (ho_pure ?_)
  refine ho_inner (W := fun b n' => V b _ n') (fun cenv => _) G hcell hkind (fun g' C G' st => ?_) fun _ _ h => h
  have h' := h D hD g' C G' st
  have hv : ∀ x ∈ (scope.names.filter fun x => (x.2 == .local || x.2 == .cell) && x.1 != (".0" : Str)).reverse, x.2 = .local → (relabel scope env).names.lookup x.1 = some .local :=
    fun x hx hl => hnames x (List.mem_filter.mp (List.mem_reverse.mp hx)).1 hl
  refine ho_hold (ho_bind (ho_att (ho_hold (ho_run (HoC.mono h' fun f m n hf => ?_)))))
  show Ho bz prog w A g' C m n (do holding [Value.ref D] (comprehension.letGo (compEnvC scope cl C env) _ _); pure (Value.ref D)) _
  exact ho_bind (ho_hold (ho_letGo (by simp [compEnvC, relabel, hkind]) rfl hv fun m => ho_pure hf))
theorem relabel_self {scope : Scope} (hfree : ∀ x ∈ scope.names, x.2 ≠ .free) : relabel scope env = scope := by
  unfold relabel
  rw [map_eq_self (l := scope.names) (fun x hx => by
    obtain ⟨n, k⟩ := x
    have : (k == NameKind.free) = false := by simpa using hfree _ hx
    simp [this])]
noncomputable def scopeOk (s : Scope) : Bool := s.names.all (fun x => x.2 != .free && x.2 != .cell) && s.names.all (fun x => x.2 != .local || s.names.lookup x.1 == some .local) && s.kind == .function
theorem he_comp0 {elt target iter : Expr} {ifs : List Expr} {scope : Scope} (G : Gd K p loose g) (hb : scopeOk scope = true)
    (h : Ho bz prog w A g L m n (eval iter env) fun x m n => Ho bz prog w A g L m n (pyIter x) fun it m n => ∀ D, (∀ p ∈ n, p.1 ≠ D) → ∀ g' C, Gd K p loose g' → g.StaysIn g' →
      HoC bz prog w A g' C (lk []) ((D, lstO [] 0) :: n) (.compStart (.ListComp elt [⟨target, iter, ifs, 0⟩] scope pos) 0 it (.ref D) (compEnv scope C env)) fun _ _ n' => V (.ref D) m n')
    (hs : ∀ x, foldedSetIterable iter env x = pure x := by intro _; rfl) : Ho bz prog w A g L m n (eval (.ListComp elt [⟨target, iter, ifs, 0⟩] scope pos) env) V := by
  simp only [scopeOk, Bool.and_eq_true, beq_iff_eq] at hb
  obtain ⟨⟨h1, h2⟩, h3⟩ := hb
  have hf : ∀ x ∈ scope.names, x.2 ≠ .free := fun x hx => by have := List.all_eq_true.mp h1 x hx; simp at this; exact this.1
  have hc : ∀ x ∈ scope.names, x.2 ≠ .cell := fun x hx => by have := List.all_eq_true.mp h1 x hx; simp at this; exact this.2
  have hl : ∀ x ∈ scope.names, x.2 = .local → scope.names.lookup x.1 = some .local := fun x hx e => by have := List.all_eq_true.mp h2 x hx; simp [e] at this; exact this
  refine he_comp G (closureFor_none hf) hc h3 (by rw [relabel_self hf]; exact hl) (h.mono fun _ _ _ h => h.mono fun _ _ _ h D hD g' C G' st => ?_) hs
  have := h D hD g' C G' st
  have e : compEnvC scope [] C env = compEnv scope C env := by unfold compEnvC compEnv; rw [relabel_self hf]
  rw [e]; exact this
theorem he_up {m' : FMap} (h : V v (up x v m') n) (hk : env.scope.kind = .function := by rfl) (hx : env.kindOf x = some .local := by rfl) (hd : (x == ("__debug__" : Str)) = false := by decide) (hL : env.locals = L := by rfl) : Ho bz prog w A g L (up x v m') n (eval (.Name x pos) env) V :=
  he_loc (by unfold up; rw [if_pos rfl]) h hk hx hd hL
theorem he_up1 {m' : FMap} {y : Str} {u : Value} (hne : (x == y) = false) (h : V v (up y u (up x v m')) n) (hk : env.scope.kind = .function := by rfl) (hx : env.kindOf x = some .local := by rfl) (hd : (x == ("__debug__" : Str)) = false := by decide) (hL : env.locals = L := by rfl) : Ho bz prog w A g L (up y u (up x v m')) n (eval (.Name x pos) env) V :=
  he_loc (by unfold up; rw [if_neg (by simpa using hne), if_pos rfl]) h hk hx hd hL
theorem hp_step {elt target : Expr} {ifs : List Expr} {it acc : Value} {W : Led → Prop} {k : Nat} (h : Ho bz prog w A g L m n (pyNext it) fun r m n => match r with
    | none => W n
    | some v => Ho bz prog w A g L m n (letOwnedTupleGo target it v) fun _ m n => Ho bz prog w A g L m n (assign target env v) fun _ m n =>
      Ho bz prog w A g L m n (forIn ifs true fun c r => if r = true then do let ok ← isTrue c env (eval c env); pure (ForInStep.yield ok) else pure (ForInStep.yield r)) fun ok m n =>
        if ok = true then Ho bz prog w A g L m n (eval elt env) fun y m n => Ho bz prog w A g L m n (call (.builtin "list.append") [acc, y]) fun _ m n => HoCp bz prog w A g L env elt target ifs it acc W k m n
        else HoCp bz prog w A g L env elt target ifs it acc W k m n) : HoCp bz prog w A g L env elt target ifs it acc W (k + 1) m n := h
noncomputable abbrev ifsRun (env : Env) (ifs : List Expr) : Sem Bool := forIn ifs true fun c r => if r = true then do let ok ← isTrue c env (eval c env); pure (ForInStep.yield ok) else pure (ForInStep.yield r)
noncomputable abbrev Kst1 {α : Type} (p : Addr × Obj) (J : Led → Prop) : α → FMap → Led → Prop := fun _ _ n => ∃ n', (p :: n').Sublist n ∧ J n'
noncomputable abbrev Kst2 {α : Type} (p q : Addr × Obj) (J : Led → Prop) : α → FMap → Led → Prop := fun _ _ n => ∃ n', (p :: q :: n').Sublist n ∧ J n'
noncomputable abbrev Kapp (bz : Bool) (prog : Program) (w : World) (A : Around) (g : Heap) (L : Addr) (D : Value) (U : Value → FMap → Led → Prop) : Value → FMap → Led → Prop := fun y m n => Ho bz prog w A g L m n (call (.builtin "list.append") [D, y]) U
noncomputable abbrev Kelt (bz : Bool) (prog : Program) (w : World) (A : Around) (g : Heap) (L : Addr) (elt : Expr) (env : Env) (D : Value) (U : Value → FMap → Led → Prop) : Bool → FMap → Led → Prop := fun ok m n => if ok = true then Ho bz prog w A g L m n (eval elt env) (Kapp bz prog w A g L D U) else U .none m n
theorem hif_nil {U : Bool → FMap → Led → Prop} {f : Expr → Bool → Sem (ForInStep Bool)} (h : U true m n) : Ho bz prog w A g L m n (forIn ([] : List Expr) true f) U := by
  rw [List.forIn_nil]; exact ho_pure h
theorem hif_one {U : Bool → FMap → Led → Prop} {c : Expr} (h : Ho bz prog w A g L m n (isTrue c env (eval c env)) U) : Ho bz prog w A g L m n (forIn [c] true fun c r => if r = true then do let ok ← isTrue c env (eval c env); pure (ForInStep.yield ok) else pure (ForInStep.yield r)) U := by
  rw [List.forIn_cons]
  refine ho_bind ?_
  show Ho bz prog w A g L m n (isTrue c env (eval c env) >>= fun ok => pure (ForInStep.yield ok)) _
  refine ho_bind (h.mono fun b _ _ h => ho_pure ?_)
  show Ho bz prog w A g L _ _ (forIn ([] : List Expr) b _) U
  rw [List.forIn_nil]; exact ho_pure h
end
end
section
section
variable {prog : Program} {w : World} {A : Around} {E : Value → Shared → Prop} {s : Shared}
theorem tup_cut3 {t sl : Addr} {a b c d : Value} {u : Tok} {Q : Value → Shared → Prop} (ht : IsTup s.heap t #[a, b, c, d]) (hs : s.heap.IsSliceOf sl .none (.int 3 u) .none)
    (h : Q (.ref s.heap.objs.size) { s with heap := s.heap.push (tupO [a, b, c]) }) : wpAny (model prog w) A (getItem (.ref t) (.ref sl)) Q E s := by
  obtain ⟨os, hos, hcs, hds⟩ := id hs
  have hTs : s.TypeIs (.ref sl) "slice" := ⟨os, hos, hcs⟩
  unfold getItem
  try with_reducible refine wpAny_holding ?_
  first | refine wpAny_bind (wpAny_pure ?_) | skip
  refine wpAny_bind (wpAny_sequenceKey ht.typeIs (by decide) ?_)
  refine wpAny_bind (wpAny_callSpecial?_slot (name := Str.ofString "__getitem__") ht.typeIs slot_tuple_getitem
    (wpAny_call_entry slot_tuple_getitem ht.typeIs entry_tuple_getitem ?_ (args_tuple_getitem _ _)))
  show wpAny _ _ (Builtin.Tuple.tupleItemsOf (.ref t) >>= _) _ _ s
  refine wpAny_bind (tupleItemsOf_ ht ?_)
  refine wpAny_bind (wpAny_typeOf hTs ?_)
  rw [if_pos (by decide)]
  refine wpAny_bind ?_
  unfold Builtin.Slice.sliceApplied Builtin.Slice.sliceFields
  refine wpAny_bind (wpAny_bind (wpAny_field hos hds (x := .none) rfl (wpAny_bind (wpAny_field hos hds (x := .int 3 u) rfl (wpAny_bind (wpAny_field hos hds (x := .none) rfl (wpAny_pure ?_)))))))
  refine wpAny_bind (slicePart_none ?_)
  show wpAny _ _ (if ((1 : Int) == 0) = true then _ else _) _ _ s
  rw [if_neg (by decide)]
  refine wpAny_bind (slicePart_none (wpAny_bind (slicePart_int (wpAny_bind (wpAny_pure ?_)))))
  show wpAny _ _ (pure ((0 : Int), (1 : Int), (3 : Nat))) _ _ s
  refine wpAny_pure ?_
  show wpAny _ _ (if ((0 : Int) == 0 && (1 : Int) == 1 && (3 : Nat) == 4) = true then _ else _) _ _ s
  rw [if_neg (by decide)]
  have hd3 : sizeOk (.seq [a, b, c].toArray) := by show [a, b, c].toArray.size ≤ sizeLine; rw [sizeLine_eq]; exact Nat.le_of_ble_eq_true rfl
  first
    | exact wpAny_bind (m := Builtin.Tuple.tupleExact [a, b, c].toArray) (wpAny_newObj_type (wpAny_pure ⟨_, rfl, wpAny_pure h⟩) hd3)
    | exact wpAny_bind (m := Builtin.Tuple.tupleExact [a, b, c].toArray) (wpAny_newObj_type (wpAny_bind (wpAny_pure (wpAny_pure ⟨_, rfl, wpAny_pure h⟩))) hd3)
    | exact wpAny_bind (wpAny_bind (m := Builtin.Tuple.tupleExact [a, b, c].toArray) (wpAny_newObj_type (wpAny_pure (wpAny_pure ⟨_, rfl, wpAny_pure h⟩)) hd3))
    | exact wpAny_bind (wpAny_bind (m := Builtin.Tuple.tupleExact [a, b, c].toArray) (wpAny_newObj_type (wpAny_pure ⟨_, rfl, wpAny_pure h⟩) hd3))
end
section
variable {α : Type} {bz : Bool} {prog : Program} {w : World} {A : Around} {g : Heap} {L : Addr} {m : FMap} {n n' : Led} {env : Env} {V : Value → FMap → Led → Prop} {U : Unit → FMap → Led → Prop} {B : Bool → FMap → Led → Prop} {P : Flow → FMap → Led → Prop} {K : Frag} {p : Program} {loose : List Str} {pos p' : Pos} {x : Str} {v : Value} {value slice : Expr}
theorem ht_chain {l r1 r2 : Expr} {o1 o2 : CmpOp} {whole : Sem Value} (h : Ho bz prog w A g L m n (eval l env) fun a m n => Ho bz prog w A g L m n (eval r1 env) fun b m n => Ho bz prog w A g L m n (compareOp o1 a b) fun c m n => Ho bz prog w A g L m n (truthy c) fun t m n =>
      if t = true then Ho bz prog w A g L m n (eval r2 env) fun d m n => Ho bz prog w A g L m n (compareOp o2 b d) fun c m n => Ho bz prog w A g L m n (truthy c) B else B false m n)
    (hm : lastMarks [o1, o2] [r1, r2] = false := by rfl) : Ho bz prog w A g L m n (isTrue (.Compare l [o1, o2] [r1, r2] pos) env whole) B := by
  show Ho bz prog w A g L m n (do testChain pos (← eval l env) [o1, o2] (markedEach [o1, o2] [r1, r2] (evalEach [r1, r2] env))) B
  rw [PyProof.Rows.markedEach_of_false _ _ _ hm]
  refine ho_bind (h.mono fun a _ _ h => ?_)
  show Ho bz prog w A g L _ _ (do
    let rv ← holding [a] (eval r1 env)
    standAt pos
    let c ← holding [a, rv] (compareOp o1 a rv)
    release [a, rv] [c]
    if ← holding [c, rv] (truthy c) then testChain pos rv [o2] [eval r2 env] else pure false) B
  refine ho_bind (ho_hold (h.mono fun b _ _ h => ho_sa (ho_bind (ho_hold (h.mono fun c _ _ h => ho_bind (ho_rel (ho_bind (ho_hold (h.mono fun t _ _ h => ?_)))))))))
  cases t with
  | false => exact ho_pure h
  | true =>
    show Ho bz prog w A g L _ _ (do let rv ← holding [b] (eval r2 env); standAt pos; let c ← operate [b, rv] (compareOp o2 b rv); holding [c] (truthy c)) B
    exact ho_bind (ho_hold (Ho.mono h fun d _ _ h => ho_sa (ho_bind (ho_oper (h.mono fun c _ _ h => ho_hold h)))))
theorem he_cut3 {hi : Expr} (h : Ho bz prog w A g L m n (eval value env) fun o m n => Ho bz prog w A g L m n (eval hi env) fun b m n => ∃ ad u a c d e, o = .ref ad ∧ b = .int 3 u ∧ (ad, tupO [a, c, d, e]) ∈ n ∧ ∀ r, (∀ p ∈ n, p.1 ≠ r) → V (.ref r) m ((r, tupO [a, c, d]) :: n))
    (hs : ∀ (t : Addr) (a : Addr), subscripted (.Slice none (some hi) none p') false (.ref t) (.ref a) = operate [.ref a, .ref t] (getItem (.ref t) (.ref a)) := by intros; with_unfolding_all rfl)
    (hg : ∀ (t : Addr) r, letTemporaryGo value (.ref t) r = pure () := by intros; with_unfolding_all rfl) : Ho bz prog w A g L m n (eval (.Subscript value (.Slice none (some hi) none p') pos) env) V := by
  refine he_sub (h.mono fun o m n h => he_slice (hp_none (hp_some (h.mono fun b m n h => fun sl hsl => ?_))))
  obtain ⟨ad, u, a, c, d, e, rfl, rfl, hm, hV⟩ := h
  refine ho_drop ((sl, { cls := .type "slice", data := .fields #[.none, .int 3 u, .none] }) :: n) (List.Sublist.refl _) (Ho.mk fun h' ge dr tk os Q E F N q => ?_)
  have ht : IsTup h' ad #[a, c, d, e] := isTup_of (vs := [a, c, d, e]) (N.news _ (.tail _ hm)).1
  refine subscriptTail_ops (s := ⟨h', ge, dr, tk, os⟩) ht.typeIs slot_tuple_getitem.lookup (tup_cut3 ht ⟨_, (N.news _ (.head _)).1, rfl, rfl⟩ ?_) (hs _ _) (hg _)
  have N' : Nw g L h' n := ⟨fun p hp => N.news p (.tail _ hp), (List.nodup_cons.mp N.nd).2⟩
  exact q _ _ _ _ _ (Fr.kept F fun _ _ e => Heap.get?_push_of_some _ e) (Nw.cons F N' (Heap.get?_push_size _ rfl) fun _ _ e => Heap.get?_push_of_some _ e) (hV _ fun _ hp => N'.old hp)
end
end
section
open PySem PySem.Calls PySem.W PyProof.Rows
theorem by_buffer : typeLookup (.type "bytes") "__buffer__" = pure (some (.builtin "bytes.__buffer__")) := by rw [typeLookup_type, builtinLookup_eq_fast]; kernel_rfl
theorem by_rel : typeLookup (.type "bytes") "__release_buffer__" = pure none := by rw [typeLookup_type, builtinLookup_eq_fast]; kernel_rfl
theorem by_ends : ("bytes.__buffer__".endsWith ("." ++ "__buffer__")) = true := by decide +kernel
set_option linter.deprecated false in
theorem by_drop : ("bytes.__buffer__".dropRight ("__buffer__".length + 1)) = "bytes" := by decide +kernel
theorem by_join_entry : entryFor table "bytes.join" = some Builtin.«bytes.join» := by first | exact entryFor_of_fast (by kernel_rfl) | exact entryFor_of_tree (by kernel_rfl)
theorem by_slot_join : Slot "bytes" "join" "bytes.join" :=
  .of (owner := "bytes") (n := "join") (by rw [typeLookup_type, builtinLookup_eq_fast]; kernel_rfl) (by decide +kernel) (by decide +kernel) (by decide +kernel)
    (by first | exact .inl (by decide +kernel) | exact .inr (by decide +kernel)) (by rw [isSubtype_type]; kernel_rfl)
theorem by_args_join (a b : Value) : argsOk "bytes.join" ⟨[a, b], []⟩ := by kernel_rfl
theorem by_ga : typeLookup (.type "bytes") "__getattribute__" = pure (some (.builtin "bytes.__getattribute__")) := by rw [typeLookup_type, builtinLookup_eq_fast]; kernel_rfl
theorem by_getattr : typeLookup (.type "bytes") "__getattr__" = pure none := by rw [typeLookup_type, builtinLookup_eq_fast]; kernel_rfl
theorem by_ga_can : (Manifest.canonical "bytes.__getattribute__" != "object.__getattribute__") = false := by decide +kernel
theorem by_join_ty : typeOf (.builtin "bytes.join") = pure (.type "method_descriptor") := by show builtinType _ = _; rw [builtinType_eq_fast]; kernel_rfl
section
variable {prog : Program} {w : World} {A : Around} {E : Value → Shared → Prop} {s : Shared}
theorem take_bytes {id : String} {b : Array UInt8} {t : Tok} {Q : Option (Array UInt8 × Option Value) → Shared → Prop} (h : Q (some (b, none)) s) : wpAny (model prog w) A (Builtin.Bytes.takeBufferQuiet? id (.bytes b t) 0) Q E s := by
  have hT : s.TypeIs (.bytes b t) "bytes" := typeIs_bytes _ _ _
  unfold Builtin.Bytes.takeBufferQuiet?
  refine wpAny_bind (wpAny_attempt ?_)
  unfold Builtin.Bytes.takeBuffer?
  refine wpAny_bind (wpAny_specialOf hT by_buffer ?_)
  dsimp only
  refine wpAny_bind ?_
  unfold Builtin.Bytes.slotIsOwn
  refine wpAny_bind (wpAny_specialOf hT by_buffer ?_)
  dsimp only
  rw [by_ends, by_drop]
  refine bm_if_false rfl (wpAny_isInstance hT F.bm_sub (bm_if_false rfl (wpAny_bind (wpAny_specialOf hT by_buffer ?_))))
  refine wpAny_bind ?_
  unfold Builtin.Bytes.buffer?
  refine wpAny_bind (wpAny_specialOf hT by_buffer ?_)
  dsimp only
  refine wpAny_bind ?_
  unfold Builtin.Bytes.slotIsOwn
  refine wpAny_bind (wpAny_specialOf hT by_buffer ?_)
  dsimp only
  rw [by_ends, by_drop]
  refine bm_if_false rfl (wpAny_isInstance hT F.bm_sub (bm_if_false rfl (wpAny_bind (wpAny_specialOf hT by_buffer ?_))))
  refine wpAny_bind ?_
  unfold Builtin.Bytes.ownRelease Builtin.Bytes.slotIsOwn
  refine wpAny_bind (wpAny_bind (wpAny_specialOf hT by_rel ?_))
  dsimp only
  refine wpAny_pure (wpAny_pure ?_)
  refine bm_if_false rfl (wpAny_bind (wpAny_of_eq (a := b) rfl ?_))
  refine wpAny_pure (wpAny_pure ?_)
  exact wpAny_pure h
theorem jlg {keep : List Value} : ∀ {l : List (Value × Option Value)} {Q : Unit → Shared → Prop} {s : Shared}, (∀ x ∈ l, x.2 = none) → Q () s → wpAny (model prog w) A (Builtin.Bytes.joinLetGo l keep) Q E s
  | [], _, _, _, h => by unfold Builtin.Bytes.joinLetGo; exact wpAny_pure h
  | (x, some _) :: l, _, _, hl, h => by cases hl _ (.head _)
  | (x, none) :: l, _, _, hl, h => by
    unfold Builtin.Bytes.joinLetGo
    dsimp only
    exact wpAny_bind (wpAny_letGo (jlg (fun y hy => hl y (.tail _ hy)) h))
theorem er2 (x : Nat) (h : x = 2) : List.range' 0 x 1 = [0, 1] := by subst h; rfl
theorem er3 (x : Nat) (h : x = 3) : List.range' 0 x 1 = [0, 1, 2] := by subst h; rfl
theorem join_two {D : Addr} {a b : List UInt8} {t1 t2 t0 : Tok} {k : Nat} {Q : Fin → Shared → Prop} (ho : s.heap.get? D = some (lstO [.bytes a.toArray t1, .bytes b.toArray t2] k)) (hz : a.length + b.length ≤ 100000)
    (h : ∀ t k, Q (.done (.ret (.bytes (a ++ b).toArray t))) { s with toks := k }) : wpAny (model prog w) A (Builtin.«bytes.join» ⟨[.bytes #[] t0, .ref D], []⟩) Q E s := by
  show wpAny _ _ (Builtin.Bytes.joinM .bytes _) _ _ _
  unfold Builtin.Bytes.joinM
  dsimp only
  refine wpAny_bind (wpAny_of_eq (a := (.bytes #[] t0, .ref D)) rfl ?_)
  dsimp only
  refine wpAny_ite (ite_y rfl ?_)
  refine wpAny_bind ?_
  unfold Builtin.Bytes.joinItems
  refine wpAny_bind (wpAny_typeOf ⟨_, ho, rfl⟩ ?_)
  refine bm_if_true rfl (wpAny_pure ?_)
  have hit : ∀ {Q' : Option (Array Value) → Shared → Prop} {s' : Shared}, s'.heap = s.heap → Q' (some [.bytes a.toArray t1, .bytes b.toArray t2].toArray) s' → wpAny (model prog w) A (seqItems? (.ref D)) Q' E s' := fun e h => by
    unfold seqItems?
    refine wpAny_bind (wpAny_load (by rw [e]; exact ho) ?_)
    exact wpAny_pure h
  refine wpAny_bind (hit rfl ?_)
  dsimp only
  refine wpAny_ite (ite_y rfl ?_)
  show wpAny _ _ (forIn _ _ _ >>= _) _ _ _
  refine wpAny_bind ?_
  rw [Std.Legacy.Range.forIn_eq_forIn_range']
  rw [er2 _ (by simp [Std.Legacy.Range.size])]
  rw [List.forIn_cons]
  refine wpAny_bind (wpAny_bind (hit rfl ?_))
  dsimp only
  refine wpAny_ite (ite_n (by first | decide | (simp [Value.onHeap]; done) | (rw [Bool.not_eq_true]; rfl)) ?_)
  refine wpAny_bind (wpAny_holding (take_bytes ?_))
  dsimp only
  refine wpAny_bind (hit rfl ?_)
  dsimp only
  refine wpAny_ite (ite_n (by rw [Bool.not_eq_true]; rfl) ?_)
  refine wpAny_pure ?_
  dsimp only
  rw [List.forIn_cons]
  refine wpAny_bind (wpAny_bind (hit rfl ?_))
  dsimp only
  refine wpAny_ite (ite_n (by first | decide | (simp [Value.onHeap]; done) | (rw [Bool.not_eq_true]; rfl)) ?_)
  refine wpAny_bind (wpAny_holding (take_bytes ?_))
  dsimp only
  refine wpAny_bind (hit rfl ?_)
  dsimp only
  refine wpAny_ite (ite_n (by rw [Bool.not_eq_true]; rfl) ?_)
  refine wpAny_pure ?_
  dsimp only
  rw [List.forIn_nil]
  refine wpAny_pure ?_
  dsimp only
  refine wpAny_bind (wpAny_of_eq (a := #[]) rfl ?_)
  refine wpAny_ite (ite_n (by simp [Builtin.Bytes.tooLong, sizeLine_eq]; omega) ?_)
  refine wpAny_bind ?_
  show wpAny _ _ (mkBytes _) _ _ _
  have ej : Builtin.Bytes.joined #[] (List.toArray [a.toArray, b.toArray]).toList = (a ++ b).toArray := by simp [Builtin.Bytes.joined, List.zipIdx]
  refine wpAny_mkBytes ?_ (by rw [sizeLine_eq]; first | (simp [Builtin.Bytes.joined, List.zipIdx]; omega) | skip)
  refine wpAny_bind (wpAny_holding (wpAny_point ?_))
  refine wpAny_bind (jlg (by simp) ?_)
  have h' := h s.toks (s.toks + 1)
  rw [← ej] at h'
  exact wpAny_pure h'
theorem join_three {D : Addr} {a b c : List UInt8} {t1 t2 t3 t0 : Tok} {k : Nat} {Q : Fin → Shared → Prop} (ho : s.heap.get? D = some (lstO [.bytes a.toArray t1, .bytes b.toArray t2, .bytes c.toArray t3] k)) (hz : a.length + b.length + c.length ≤ 100000)
    (h : ∀ t k, Q (.done (.ret (.bytes (a ++ b ++ c).toArray t))) { s with toks := k }) : wpAny (model prog w) A (Builtin.«bytes.join» ⟨[.bytes #[] t0, .ref D], []⟩) Q E s := by
  show wpAny _ _ (Builtin.Bytes.joinM .bytes _) _ _ _
  unfold Builtin.Bytes.joinM
  dsimp only
  refine wpAny_bind (wpAny_of_eq (a := (.bytes #[] t0, .ref D)) rfl ?_)
  dsimp only
  refine wpAny_ite (ite_y rfl ?_)
  refine wpAny_bind ?_
  unfold Builtin.Bytes.joinItems
  refine wpAny_bind (wpAny_typeOf ⟨_, ho, rfl⟩ ?_)
  refine bm_if_true rfl (wpAny_pure ?_)
  have hit : ∀ {Q' : Option (Array Value) → Shared → Prop} {s' : Shared}, s'.heap = s.heap → Q' (some [.bytes a.toArray t1, .bytes b.toArray t2, .bytes c.toArray t3].toArray) s' → wpAny (model prog w) A (seqItems? (.ref D)) Q' E s' := fun e h => by
    unfold seqItems?
    refine wpAny_bind (wpAny_load (by rw [e]; exact ho) ?_)
    exact wpAny_pure h
  refine wpAny_bind (hit rfl ?_)
  dsimp only
  refine wpAny_ite (ite_y rfl ?_)
  show wpAny _ _ (forIn _ _ _ >>= _) _ _ _
  refine wpAny_bind ?_
  rw [Std.Legacy.Range.forIn_eq_forIn_range']
  rw [er3 _ (by simp [Std.Legacy.Range.size])]
  rw [List.forIn_cons]
  refine wpAny_bind (wpAny_bind (hit rfl ?_))
  dsimp only
  refine wpAny_ite (ite_n (by first | decide | (simp [Value.onHeap]; done) | (rw [Bool.not_eq_true]; rfl)) ?_)
  refine wpAny_bind (wpAny_holding (take_bytes ?_))
  dsimp only
  refine wpAny_bind (hit rfl ?_)
  dsimp only
  refine wpAny_ite (ite_n (by rw [Bool.not_eq_true]; rfl) ?_)
  refine wpAny_pure ?_
  dsimp only
  rw [List.forIn_cons]
  refine wpAny_bind (wpAny_bind (hit rfl ?_))
  dsimp only
  refine wpAny_ite (ite_n (by first | decide | (simp [Value.onHeap]; done) | (rw [Bool.not_eq_true]; rfl)) ?_)
  refine wpAny_bind (wpAny_holding (take_bytes ?_))
  dsimp only
  refine wpAny_bind (hit rfl ?_)
  dsimp only
  refine wpAny_ite (ite_n (by rw [Bool.not_eq_true]; rfl) ?_)
  refine wpAny_pure ?_
  dsimp only
  rw [List.forIn_cons]
  refine wpAny_bind (wpAny_bind (hit rfl ?_))
  dsimp only
  refine wpAny_ite (ite_n (by first | decide | (simp [Value.onHeap]; done) | (rw [Bool.not_eq_true]; rfl)) ?_)
  refine wpAny_bind (wpAny_holding (take_bytes ?_))
  dsimp only
  refine wpAny_bind (hit rfl ?_)
  dsimp only
  refine wpAny_ite (ite_n (by rw [Bool.not_eq_true]; rfl) ?_)
  refine wpAny_pure ?_
  dsimp only
  rw [List.forIn_nil]
  refine wpAny_pure ?_
  dsimp only
  refine wpAny_bind (wpAny_of_eq (a := #[]) rfl ?_)
  refine wpAny_ite (ite_n (by simp [Builtin.Bytes.tooLong, sizeLine_eq]; omega) ?_)
  refine wpAny_bind ?_
  show wpAny _ _ (mkBytes _) _ _ _
  have ej : Builtin.Bytes.joined #[] (List.toArray [a.toArray, b.toArray, c.toArray]).toList = (a ++ b ++ c).toArray := by simp [Builtin.Bytes.joined, List.zipIdx]
  refine wpAny_mkBytes ?_ (by rw [sizeLine_eq]; first | (simp [Builtin.Bytes.joined, List.zipIdx]; omega) | skip)
  refine wpAny_bind (wpAny_holding (wpAny_point ?_))
  refine wpAny_bind (jlg (by simp) ?_)
  have h' := h s.toks (s.toks + 1)
  rw [← ej] at h'
  exact wpAny_pure h'
theorem join_one {D : Addr} {a : Array UInt8} {t1 t0 : Tok} {k : Nat} {Q : Fin → Shared → Prop} (ho : s.heap.get? D = some (lstO [.bytes a t1] k))
    (h : Q (.done (.ret (.bytes a t1))) s) : wpAny (model prog w) A (Builtin.«bytes.join» ⟨[.bytes #[] t0, .ref D], []⟩) Q E s := by
  show wpAny _ _ (Builtin.Bytes.joinM .bytes _) _ _ _
  unfold Builtin.Bytes.joinM
  dsimp only
  refine wpAny_bind (wpAny_of_eq (a := (.bytes #[] t0, .ref D)) rfl ?_)
  dsimp only
  refine wpAny_ite (ite_y rfl ?_)
  refine wpAny_bind ?_
  unfold Builtin.Bytes.joinItems
  refine wpAny_bind (wpAny_typeOf ⟨_, ho, rfl⟩ ?_)
  refine bm_if_true rfl (wpAny_pure (wpAny_bind ?_))
  unfold seqItems?
  refine wpAny_bind (wpAny_load ho (wpAny_pure ?_))
  dsimp only
  refine wpAny_ite (ite_y rfl ?_)
  show wpAny _ _ (typeOf (.bytes a t1) >>= _) _ _ _
  refine wpAny_bind (wpAny_typeOf (typeIs_bytes _ _ _) ?_)
  refine wpAny_ite (ite_y rfl ?_)
  refine wpAny_bind (wpAny_rule ?_)
  exact wpAny_pure h
theorem call_join {D : Addr} {v : Value} {t0 : Tok} {Q : Value → Shared → Prop} (h : ∀ (Q' : Fin → Shared → Prop), (∀ v s', Q v s' → Q' (.done (.ret v)) s') → wpAny (model prog w) A.in1 (Builtin.«bytes.join» ⟨[.bytes #[] t0, .ref D], []⟩) Q' E s) :
    wpAny (model prog w) A (call (.builtin "bytes.join") [.bytes #[] t0, .ref D]) Q E s :=
  wpAny_call_entry by_slot_join (typeIs_bytes _ _ _) by_join_entry (h _ fun v s' q => ⟨v, rfl, q⟩) (by_args_join _ _)
end
section
variable {bz : Bool} {prog : Program} {w : World} {A : Around} {g : Heap} {L : Addr} {m : FMap} {n : Led} {V : Value → FMap → Led → Prop} {D : Addr} {a b c : List UInt8} {t0 t1 t2 t3 : Tok} {k : Nat}
theorem ho_join1 (hm : (D, lstO [.bytes a.toArray t1] k) ∈ n) (h : V (.bytes a.toArray t1) m n) : Ho bz prog w A g L m n (call (.builtin "bytes.join") [.bytes ([] : List UInt8).toArray t0, .ref D]) V :=
  Ho.mk fun _ _ _ _ _ _ _ F N q => call_join (v := .none) fun Q' hq => join_one (N.news _ hm).1 (hq _ _ (q _ _ _ _ _ F N h))
theorem ho_join2 (hm : (D, lstO [.bytes a.toArray t1, .bytes b.toArray t2] k) ∈ n) (hz : a.length + b.length ≤ 100000) (h : ∀ t, V (.bytes (a ++ b).toArray t) m n) : Ho bz prog w A g L m n (call (.builtin "bytes.join") [.bytes ([] : List UInt8).toArray t0, .ref D]) V :=
  Ho.mk fun _ _ _ _ _ _ _ F N q => call_join (v := .none) fun Q' hq => join_two (N.news _ hm).1 hz fun t k => hq _ _ (q _ _ _ _ _ F N (h t))
theorem ho_join3 (hm : (D, lstO [.bytes a.toArray t1, .bytes b.toArray t2, .bytes c.toArray t3] k) ∈ n) (hz : a.length + b.length + c.length ≤ 100000) (h : ∀ t, V (.bytes (a ++ b ++ c).toArray t) m n) : Ho bz prog w A g L m n (call (.builtin "bytes.join") [.bytes ([] : List UInt8).toArray t0, .ref D]) V :=
  Ho.mk fun _ _ _ _ _ _ _ F N q => call_join (v := .none) fun Q' hq => join_three (N.news _ hm).1 hz fun t k => hq _ _ (q _ _ _ _ _ F N (h t))
theorem hm_join {l : List UInt8} {pl : Sem Bool} {V : Value × List Value → FMap → Led → Prop} (h : V (.builtin "bytes.join", [.bytes l.toArray t0]) m n) : Ho bz prog w A g L m n (getMethod (.bytes l.toArray t0) "join" pl) V :=
  Ho.mk fun _ _ _ _ _ _ _ F N q => PyProof.Rows.getMethod_value (typeIs_bytes _ _ _) (fun _ e => by cases e) by_ga by_ga_can by_getattr by_slot_join.lookup by_join_ty (q _ _ _ _ _ F N h)
end
end
section
open PySem PySem.Calls PySem.SeqAt PySem.W PyProof.Rows
section
variable {prog : Program} {w : World} {A : Around} {E : Value → Shared → Prop} {s : Shared}
theorem tup_index {D : Addr} {o : Obj} {vs : List Value} {x v0 : Value} {Q : Fin → Shared → Prop} (ht : IsTup s.heap D (v0 :: vs).toArray) (he : MeetsSeq.EqGives v0 x true)
    (h : ∀ t k, Q (.done (.ret (.int 0 t))) { s with toks := k }) : wpAny (model prog w) A (Builtin.«tuple.index» ⟨[.ref D, x], []⟩) Q E s := by
  show wpAny _ _ (selfAndSome "tuple.index" "index" 1 3 ⟨[.ref D, x], []⟩ >>= _) _ _ _
  refine wpAny_bind (wpAny_of_eq (a := (.ref D, [x])) rfl ?_)
  dsimp only
  refine wpAny_bind (tupleItemsOf_ ht ?_)
  refine wpAny_bind (wpAny_pure ?_)
  refine wpAny_bind (wpAny_pure ?_)
  refine wpAny_bind ?_
  rw [Std.Legacy.Range.forIn_eq_forIn_range']
  have e : ∀ (x : Nat), x = vs.length + 1 → List.range' 0 x 1 = 0 :: List.range' 1 vs.length 1 := by rintro _ rfl; rfl
  rw [e _ (by simp [Std.Legacy.Range.size])]
  rw [List.forIn_cons]
  refine wpAny_bind ?_
  show wpAny _ _ (eqBool v0 x >>= _) _ _ _
  refine wpAny_bind (he _ _ _ _ _ _ ?_)
  refine wpAny_ite (ite_y rfl ?_)
  refine wpAny_bind ?_
  show wpAny _ _ (mkInt _ >>= _) _ _ _
  refine wpAny_bind (wpAny_mkInt (wpAny_pure (wpAny_pure (wpAny_pure ?_))))
  exact wpAny_pure (h _ _)
end
section
variable {bz : Bool} {prog : Program} {w : World} {A : Around} {g : Heap} {L : Addr} {m : FMap} {n : Led} {V : Value → FMap → Led → Prop} {a b D : Addr} {t0 t1 t2 t3 : Tok} {k : Nat} {K : Frag} {p : Program} {loose : List Str} {vs ws : List Value} {i : Int}
inductive SameV : Value → Value → Prop
  | int (i : Int) (t u : Tok) : SameV (.int i t) (.int i u)
  | str (x : Str) (t u : Tok) : SameV (.str x t) (.str x u)
  | bytes (b : Array UInt8) (t u : Tok) : SameV (.bytes b t) (.bytes b u)
inductive SameVs : List Value → List Value → Prop
  | nil : SameVs [] []
  | cons {v w vs ws} : SameV v w → SameVs vs ws → SameVs (v :: vs) (w :: ws)
theorem SameV.at {s : Shared} {v u : Value} (h : SameV v u) : EqAt A s v u true := by
  cases h with
  | int i t u => have := EqAt.int_int (A := A) (s := s) i t i u; simpa using this
  | str x t u => have := EqAt.str_str (A := A) (s := s) x t x u; simpa using this
  | bytes b t u => exact fun prog w E Q h => eqBool_bytes (by simpa using h)
theorem SameVs.len : ∀ {vs ws : List Value}, SameVs vs ws → vs.length = ws.length
  | _, _, .nil => rfl
  | _, _, .cons _ r => by simp [r.len]
theorem SameVs.at {s : Shared} : ∀ {vs ws : List Value}, SameVs vs ws → ∀ j (h1 : j < vs.length) (h2 : j < ws.length), EqAt A s vs[j] ws[j] true
  | _, _, .cons h _, 0, _, _ => h.at
  | _, _, .cons _ r, j + 1, h1, h2 => by simpa using r.at j (by simpa using h1) (by simpa using h2)
theorem ho_neT (ha : (a, tupO vs) ∈ n) (hb : (b, tupO ws) ∈ n) (hs : SameVs vs ws) (hu : A.units < cLine) (h : V (.bool false) m n) : Ho bz prog w A g L m n (compareOp .NotEq (.ref a) (.ref b)) V :=
  Ho.mk fun hh ge dr tk os Q E F N q => RcNeAt.tuples (e := fun _ => true) (isTuple_of (N.news _ ha).1) (isTuple_of (N.news _ hb).1) hu (fun j h1 h2 => by simpa using hs.at j (by simpa using h1) (by simpa using h2)) prog w E Q (by
    have := q _ _ _ _ tk F N h
    have e : ∀ k, (List.range k).all (fun _ => true) = true := fun k => by rw [List.all_eq_true]; intro _ _; rfl
    simpa [hs.len, e] using this)
theorem ho_neL {k2 : Nat} (ha : (a, lstO vs k) ∈ n) (hb : (b, lstO ws k2) ∈ n) (hs : SameVs vs ws) (hu : A.units < cLine) (h : V (.bool false) m n) : Ho bz prog w A g L m n (compareOp .NotEq (.ref a) (.ref b)) V :=
  Ho.mk fun hh ge dr tk os Q E F N q => RcNeAt.lists (e := fun _ => true) (isList_of (N.news _ ha).1) (isList_of (N.news _ hb).1) (by simpa using hs.len) hu (fun j h1 h2 => by simpa using hs.at j (by simpa using h1) (by simpa using h2)) prog w E Q (by
    have := q _ _ _ _ tk F N h
    have e : ∀ k, (List.range k).all (fun _ => true) = true := fun k => by rw [List.all_eq_true]; intro _ _; rfl
    simpa [e] using this)
theorem hm_ofK {T id : String} {name : Str} {pl : Sem Bool} {V : Value × List Value → FMap → Led → Prop} {o : Obj} (pa : PlainAttrs T) (slot : Slot T name id) (hty : typeOf (.builtin id) = pure (.type "method_descriptor")) (G : Gd K p loose g) (hl : K.lookup a = some o) (hc : o.cls = .type T) (hd : o.dict = none)
    (h : V (.builtin id, [.ref a]) m n) : Ho bz prog w A g L m n (getMethod (.ref a) name pl) V :=
  Ho.mk fun _ _ _ _ _ _ _ F N q => getMethod_builtin ⟨_, G.X.keeps F.keep _ _ hl, hc⟩ pa slot hty (fun b e => by cases e; exact ⟨_, G.X.keeps F.keep _ _ hl, hd⟩) (q _ _ _ _ _ F N h)
theorem hm_app {vs : List Value} {pl : Sem Bool} {V : Value × List Value → FMap → Led → Prop} (hm : (a, lstO vs k) ∈ n) (h : V (.builtin "list.append", [.ref a]) m n) : Ho bz prog w A g L m n (getMethod (.ref a) "append" pl) V :=
  Ho.mk fun _ _ _ _ _ _ _ F N q => getMethod_append_N N.news hm (q _ _ _ _ _ F N h)
theorem tup_index_ty : typeOf (.builtin "tuple.index") = pure (.type "method_descriptor") := by show builtinType _ = _; rw [builtinType_eq_fast]; kernel_rfl
theorem tup_index_entry : entryFor table "tuple.index" = some Builtin.«tuple.index» := by first | exact entryFor_of_tree (by kernel_rfl) | exact entryFor_of_fast (by kernel_rfl)
theorem ho_tidx0 {dd : Option Addr} {ep : Nat} {sl : Array (Option Value)} {t u : Tok} (G : Gd K p loose g) (hl : K.lookup a = some ⟨.type "tuple", dd, .seq (Value.int i t :: vs).toArray ep, sl⟩) (h : ∀ t, V (.int 0 t) m n) : Ho bz prog w A g L m n (call (.builtin "tuple.index") [.ref a, .int i u]) V :=
  Ho.mk fun _ _ _ _ _ _ _ F N q => by
    have ht := tupK (G.X.keeps F.keep) hl
    exact wpAny_call_entry PySem.F.slot_tuple_index ht.typeIs tup_index_entry (tup_index (o := ⟨.type "tuple", dd, .seq (Value.int i t :: vs).toArray ep, sl⟩) ht (by have := MeetsSeq.EqGives.int i i t u; simpa using this) fun t k => ⟨_, rfl, q _ _ _ _ _ F N (h t)⟩) (PySem.F.args_tuple_index_2 _ _)
theorem ho_lidxS {dd : Option Addr} {ep : Nat} {sl : Array (Option Value)} {x : Str} {u : Tok} {j : Nat} (G : Gd K p loose g) (hl : K.lookup a = some ⟨.type "list", dd, .seq vs.toArray ep, sl⟩) (hv : allS vs = true) (hj : j < vs.length) (hs : vs.length ≤ 1000) (hit : isS x vs[j] = true) (hno : ∀ i (hi : i < vs.length), i < j → isS x vs[i] = false)
    (h : ∀ t, V (.int (j : Int) t) m n) : Ho bz prog w A g L m n (call (.builtin "list.index") [.ref a, .str x u]) V :=
  Ho.mk fun hh ge dr tk os _ _ F N q =>
    have ho := G.X.keeps F.keep _ _ hl
    call_meets PySem.F.slot_list_index ⟨_, ho, rfl⟩ PySem.F.entry_list_index (PySem.F.args_list_index_2 _ _) (list_indexAt a vs.toArray ep dd sl (.str x u) (isS x) j (by simpa using hj) (by omega) (by simpa using hit) (fun i hi hlt => by simpa using hno i (by simpa using hi) hlt))
      ⟨ho, fun y hy => (eqg_S hv y (by simpa using hy)).at _ _, q _ _ _ _ _ F N (h _)⟩
theorem ho_appS {v : Value} {f : Obj → Led} (U : UpL a (lstO vs k) n f) (hz : vs.length ≤ 100000) (h : V .none m (f (lstO (vs ++ [v]) (k + 1)))) : Ho bz prog w A g L m n (call (.builtin "list.append") [.ref a, v]) V := ho_app U (by rw [sizeLine_eq]; omega) h
end
section
variable {bz : Bool} {prog : Program} {w : World} {A : Around} {g : Heap} {L : Addr} {m : FMap} {n : Led} {env : Env} {V : Value → FMap → Led → Prop} {pos : Pos}
theorem he_neg {e : Expr} (h : Ho bz prog w A g L m n (eval e env) fun v m n => Ho bz prog w A g L m n (unaryOp .USub v) V) : Ho bz prog w A g L m n (eval (.UnaryOp .USub e pos) env) V := by
  rw [arm_eval_UnaryOp]
  exact ho_bind (h.mono fun _ _ _ h => ho_sa (ho_hold h))
theorem ho_neg {a : Int} {t : Tok} (h : ∀ t, V (.int (-a) t) m n) : Ho bz prog w A g L m n (unaryOp .USub (.int a t)) V :=
  Ho.mk fun _ _ _ _ _ _ _ F N q => PyProof.Rows.neg_int (q _ _ _ _ _ F N (h _))
end
section
variable {bz : Bool} {prog : Program} {w : World} {A : Around} {g : Heap} {L : Addr} {m : FMap} {n n' : Led} {V : Value → FMap → Led → Prop} {r : Addr} {a b c : Int} {t u v : Tok}
theorem pi_rangeD (X : RmL r n n') (hm : (r, rngO a b c t u v) ∈ n) (hs : Builtin.Range.small a b c = true) {k : Int} (hk : Builtin.Range.rangeSize a b c = k) (h : ∀ I, V (.ref I) m ((I, ritO a k c) :: n')) : Ho bz prog w A g L m n (pyIter (.ref r)) V :=
  ⟨fun _ _ _ _ _ _ _ F N q => (pi_range (V := fun v m₂ n₂ => ∃ I, v = .ref I ∧ m₂ = m ∧ n₂ = (I, ritO a k c) :: n) hm hs hk fun I _ => ⟨I, rfl, rfl, rfl⟩).run _ _ _ _ _ _ _ F N fun v m' n₂ h' tk' F' N' pf => by
    obtain ⟨I, rfl, rfl, rfl⟩ := pf
    exact q _ _ _ _ _ F' (N'.sub (X.sub.cons_cons _)) (h I)⟩
end
section
variable {bz : Bool} {prog : Program} {w : World} {A : Around} {g : Heap} {L : Addr} {m : FMap} {n : Led} {env : Env} {body : List Stmt} {P : Flow → FMap → Led → Prop} {pos : Pos} {x : Str}
theorem hl_range {I : Addr} {y d : Int} (k : Nat) (J : Nat → FMap → Led → Prop) (hh : A.handled = none) (h0 : J 0 m n)
    (turn : ∀ i m n t o, i < k → J i m n → Ho bz prog w A g L m ((I, o) :: n) (assign (.Name x pos) env (.int (y + i * d) t)) (Kthen bz prog w A g L (execs body env) (Turn (J (i + 1)) I o P)))
    (done : ∀ m n, J k m n → P .next m n) : ∃ k', HoL bz prog w A g L env (.Name x pos) body (.ref I) P k' m ((I, ritO y k d) :: n) := by
  have key : ∀ (r i : Nat) (m : FMap) (n : Led), i + r = k → J i m n → HoL bz prog w A g L env (.Name x pos) body (.ref I) P (r + 1) m ((I, ritO (y + i * d) r d) :: n) := by
    intro r
    induction r with
    | zero =>
      intro i m n e hj
      refine hl_step (pn_range0 hh (.head _) (by simp) .head ?_)
      have : i = k := by omega
      exact done m n (this ▸ hj)
    | succ r ih =>
      intro i m n e hj
      refine hl_step (pn_range .head (by omega) fun t => hg_name ((turn i m n t _ (by omega) hj).mono fun _ m n h => h.mono fun f m n h => ?_))
      have go : ∀ n', ((I, ritO (y + i * d + d) ((r + 1 : Nat) - 1 : Int) d) :: n').Sublist n → J (i + 1) m n' → HoL bz prog w A g L env (.Name x pos) body (.ref I) P (r + 1) m n := fun n' s hj' => by
        have e1 : y + (i : Int) * d + d = y + ((i + 1 : Nat) : Int) * d := by rw [Int.natCast_add]; simp [Int.add_mul, Int.add_assoc]
        have e2 : ((r + 1 : Nat) : Int) - 1 = (r : Int) := by omega
        rw [e1, e2] at s
        exact (ih (i + 1) m n' (by omega) hj').drop s
      cases f with
      | next => obtain ⟨n', s, hj'⟩ := h; exact go n' s hj'
      | cont => obtain ⟨n', s, hj'⟩ := h; exact go n' s hj'
      | brk => exact h
      | ret v => exact h
  have := key k 0 m n (by omega) h0
  simp only [Int.natCast_zero, Int.zero_mul, Int.add_zero] at this
  exact ⟨_, this⟩
theorem hl_rangeT {I : Addr} {y d : Int} (k : Nat) (J : Nat → FMap → Led → Prop) (hh : A.handled = none) (h0 : J 0 m n)
    (turn : ∀ i m n t o (T : Flow → FMap → Led → Prop), i < k → J i m n → (∀ f m n, Turn (J (i + 1)) I o P f m n → T f m n) → Ho bz prog w A g L m ((I, o) :: n) (assign (.Name x pos) env (.int (y + i * d) t)) (Kthen bz prog w A g L (execs body env) T))
    (done : ∀ m n, J k m n → P .next m n) : ∃ k', HoL bz prog w A g L env (.Name x pos) body (.ref I) P k' m ((I, ritO y k d) :: n) :=
  hl_range k J hh h0 (fun i m n t o e0 e1 => turn i m n t o _ e0 e1 fun _ _ _ h => h) done
end
end
section
open PySem PySem.Calls PySem.W PyProof.Rows
section
variable {bz : Bool} {prog : Program} {w : World} {A : Around} {g : Heap} {L : Addr} {m : FMap} {n : Led} {env : Env} {V : Value → FMap → Led → Prop} {K : Frag} {p : Program} {loose : List Str} {pos px : Pos} {x : Str}
theorem pi_lself {I : Addr} {a : Addr} {i : Nat} {o : Obj} (hm : (I, o) ∈ n) (ho : ItO "list_iterator" (.ref a) i o) (h : V (.ref I) m n) : Ho bz prog w A g L m n (pyIter (.ref I)) V :=
  Ho.mk fun _ _ _ _ _ _ _ F N q => wpAny_pyIter_listiter ⟨_, (N.news _ hm).1, ho⟩ (q _ _ _ _ _ F N h)
theorem hoC_swap {c : Code} {P : Flow → FMap → Led → Prop} {a b : Addr × Obj} (h : HoC bz prog w A g L m (b :: a :: n) c P) : HoC bz prog w A g L m (a :: b :: n) c P :=
  ⟨fun _ _ _ _ _ _ F N q => h.run _ _ _ _ _ _ F (N.perm (fun p hp => by
    rcases List.mem_cons.mp hp with rfl | hp
    · exact .tail _ (.head _)
    · rcases List.mem_cons.mp hp with rfl | hp
      · exact .head _
      · exact .tail _ (.tail _ hp)) (by
    have := N.nd
    simp only [List.map_cons, List.nodup_cons, List.mem_cons, not_or] at this ⊢
    exact ⟨⟨fun e => this.1.1 e.symm, this.2.1⟩, this.1.2, this.2.2⟩)) q⟩
theorem HoCp.drop {elt target : Expr} {ifs : List Expr} {it acc : Value} {W : Led → Prop} {k : Nat} {n' : Led} (s : n'.Sublist n) (h : HoCp bz prog w A g L env elt target ifs it acc W k m n') : HoCp bz prog w A g L env elt target ifs it acc W k m n := by
  cases k with
  | zero => exact h.elim
  | succ k => exact ho_drop n' s h
theorem hp_list {elt : Expr} {ifs : List Expr} {acc : Value} {W : Led → Prop} {I a : Addr} {vs : List Value} {kk : Nat} {o : Obj} (J : Nat → Led → Prop) (hh : A.handled = none) (ho : ItO "list_iterator" (.ref a) 0 o) (hm : ∀ i n, J i n → (a, lstO vs kk) ∈ n) (h0 : J 0 n)
    (turn : ∀ i v m n o, vs[i]? = some v → J i n → Ho bz prog w A g L m ((I, o) :: n) (assign (.Name x px) env v) (Kthen bz prog w A g L (ifsRun env ifs) (Kelt bz prog w A g L elt env acc (Kst1 (I, o) (J (i + 1))))))
    (done : ∀ n, J vs.length n → W n) : ∃ k, HoCp bz prog w A g L env elt (.Name x px) ifs (.ref I) acc W k m ((I, o) :: n) := by
  have key : ∀ (r i : Nat) (m : FMap) (n : Led) (o : Obj), i + r = vs.length → ItO "list_iterator" (.ref a) i o → J i n → HoCp bz prog w A g L env elt (.Name x px) ifs (.ref I) acc W (r + 1) m ((I, o) :: n) := by
    intro r
    induction r with
    | zero =>
      intro i m n o e ho hj
      refine hp_step (pn_list0 hh (.head _) ho (.tail _ (hm i n hj)) (by simp; omega) .head ?_)
      have : i = vs.length := by omega
      exact done n (this ▸ hj)
    | succ r ih =>
      intro i m n o e ho hj
      have hi : i < vs.length := by omega
      refine hp_step (pn_list .head ho (.tail _ (hm i n hj)) (List.getElem?_eq_getElem hi) fun o' ho' => hg_name ((turn i _ m n o' (List.getElem?_eq_getElem hi) hj).mono fun _ m n h => h.mono fun ok m n h => ?_))
      have go : ∀ m n n', ((I, o') :: n').Sublist n → J (i + 1) n' → HoCp bz prog w A g L env elt (.Name x px) ifs (.ref I) acc W (r + 1) m n := fun m n n' s hj' => (ih (i + 1) m n' o' (by omega) ho' hj').drop s
      cases ok with
      | true => exact Ho.mono h fun _ m n h => h.mono fun _ m n ⟨n', s, hj'⟩ => go m n n' s hj'
      | false => obtain ⟨n', s, hj'⟩ := h; exact go m n n' s hj'
  exact ⟨_, key vs.length 0 m n o (by omega) ho h0⟩
theorem he_compL {elt iter : Expr} {ifs : List Expr} {scope : Scope} (G : Gd K p loose g) (hb : scopeOk scope = true) (hh : A.handled = none)
    (h : Ho bz prog w A g L m n (eval iter env) fun v m n => ∃ a vs kk, v = .ref a ∧ (a, lstO vs kk) ∈ n ∧ ∀ D g' C I, (∀ p ∈ n, p.1 ≠ D) → Gd K p loose g' → g.StaysIn g' → ∃ J : Nat → Led → Prop, J 0 ((D, lstO [] 0) :: n) ∧ (∀ i n, J i n → (a, lstO vs kk) ∈ n) ∧
      (∀ i v m n o, vs[i]? = some v → J i n → Ho bz prog w A g' C m ((I, o) :: n) (assign (.Name x px) (compEnv scope C env) v) (Kthen bz prog w A g' C (ifsRun (compEnv scope C env) ifs) (Kelt bz prog w A g' C elt (compEnv scope C env) (.ref D) (Kst1 (I, o) (J (i + 1)))))) ∧
      (∀ n, J vs.length n → V (.ref D) m n))
    (hs : ∀ x, foldedSetIterable iter env x = pure x := by intro _; rfl) : Ho bz prog w A g L m n (eval (.ListComp elt [⟨.Name x px, iter, ifs, 0⟩] scope pos) env) V := by
  refine he_comp0 G hb (h.mono fun v m n h => ?_) hs
  obtain ⟨a, vs, kk, rfl, hm, h⟩ := h
  refine pi_list hm fun I o hI ho D hD g' C G' st => ?_
  obtain ⟨J, h0, hJ, turn, done⟩ := h D g' C I (fun p hp => hD p (.tail _ hp)) G' st
  have base : ∃ k, HoCp bz prog w A g' C (compEnv scope C env) elt (.Name x px) ifs (.ref I) (.ref D) (fun n' => V (.ref D) m n') k (lk []) ((I, o) :: (D, lstO [] 0) :: n) := hp_list J hh ho hJ h0 turn done
  exact hoC_swap (hoC_cstart base (pi_lself (.head _) ho base))
end
end
section
open PySem PySem.Calls PySem.W PyProof.Rows
section
variable {bz : Bool} {prog : Program} {w : World} {A : Around} {g : Heap} {L : Addr} {m : FMap} {n : Led} {V : Value → FMap → Led → Prop}
theorem hoC_def1 {K : Frag} {p : Program} {loose : List Str} {f : Addr} {oc : Value} {od : Option Addr} {osl : Array (Option Value)} {name qual : Str} {params : Arguments} {body : List Stmt} {scope : Scope} {dV kV doc pm cdv ct : Value} {an : Option Addr}
    {vs : List Value} {kw : List (Str × Value)} {binds : List (Str × Value)} {W : Value → Led → Prop} {x0 : Str} {m0 : FMap} {v0 : Option Value} (G : Gd K p loose g)
    (ho : K.lookup f = some ⟨oc, od, .func (fnOf name qual params body scope dV kV doc pm an cdv ct), osl⟩) (hcd : codeIn K cdv qual = true) (hroom : A.depth < recursionLimit)
    (hbind : bindArgs (fnOf name qual params body scope dV kV doc pm an cdv ct) ⟨vs, kw⟩ = pure binds)
    (hcf : ∀ n, cellsFrom n scope.names [] = [(x0, n)]) (hkind : ∀ x ∈ binds, scope.names.lookup x.1 = some .local ∨ (scope.names.lookup x.1 = some .cell ∧ x.1 = x0))
    (hL : ∀ L' c, bindL (envX qual scope L' f cdv [(x0, c)]).kindOf binds (fun _ => none) = m0) (hC : ∀ L' c, bindC (envX qual scope L' f cdv [(x0, c)]).kindOf binds (fun _ => none) x0 = v0)
    (h : ∀ g' L' c o, Gd K p loose g' → o.data = .cell v0 → (∀ p ∈ n, p.1 ≠ c) → Ho bz prog w (A.deeper (envX qual scope L' f cdv [(x0, c)])) g' L' m0 ((c, o) :: n) (execs body (envX qual scope L' f cdv [(x0, c)])) fun fl _ n' => W (match fl with | .ret v => v | _ => .none) n')
    (hco : scope.isCoroutine = false) (hgen : scope.isGenerator = false) (hk : scope.kind = .function) :
    HoC bz prog w A g L m n (.call (.ref f) ⟨vs, kw⟩) fun fl m' n' => match fl with | .ret v => m' = m ∧ W v n' | _ => False := ⟨fun hh ge dr tk os R F N q => by
  have X := G.X.keeps F.keep
  have hlim : hh.NoLimit := by obtain ⟨_, _, T⟩ := G.R; exact T.nolimit.keeps F.keep
  refine codeB_call (fd := fnOf name qual params body scope dV kV doc pm an cdv ct) hroom (X _ _ ho) rfl hco hgen rfl (codeRec_of X hcd) hbind (wpB_of (wpAny_newFunctionEnv_cells hk (fun x hx => ?_) fun env' he s' x => ?_))
  · rcases hkind x hx with e | ⟨e, e2⟩
    · exact .inl e
    · refine .inr ⟨e, ?_⟩
      show ((cellsFrom (hh.objs.size + 1) scope.names []).lookup x.1).isSome = true
      rw [hcf, e2]; simp [List.lookup_cons]
  have he' : env' = envX qual scope hh.objs.size f cdv [(x0, hh.objs.size + 1)] := by rw [he]; show newEnv scope hh.objs.size mainGlobals (cellsFrom (hh.objs.size + 1) scope.names []) _ _ _ none _ = _; rw [hcf]; rfl
  subst he'
  obtain ⟨h₁, tk₁, rfl, _⟩ := x.done
  refine ⟨hlim.keeps x.toInCall.keep, codeB_func ?_⟩
  have hk₁ : ∀ b o, hh.get? b = some o → h₁.get? b = some o := x.toInCall.keep
  obtain ⟨o, hoc, hod⟩ := x.cell x0 (hh.objs.size + 1) (by simp [List.lookup_cons])
  have nm : ∀ b o, g.get? b = some o → b ∉ n.map (·.1) := fun b o e q => by
    obtain ⟨p, hp, rfl⟩ := List.mem_map.mp q
    rw [(N.news p hp).2.2] at e; cases e
  have st : g.StaysIn (hideAll hh (n.map (·.1))) := fun b o e => hideAll_get _ (F.keep b o e) (nm b o e)
  obtain ⟨oL, es, ep, hLo, hLd, hLk, hLf⟩ := F.ns
  have nL : L ∉ n.map (·.1) := fun q => by
    obtain ⟨p, hp, e⟩ := List.mem_map.mp q
    exact (N.news p hp).2.1 e
  have hLg := hideAll_get (n.map (·.1)) hLo nL
  have nc : ∀ p ∈ n, p.1 ≠ hh.objs.size + 1 := fun p hp e => by have := Heap.lt_size (N.news p hp).1; rw [e] at this; exact Nat.lt_irrefl _ (Nat.lt_of_succ_lt this)
  have hns := x.toInCall.ns
  rw [hL] at hns
  rw [hC] at hod
  refine (h (hideAll hh (n.map (·.1))) hh.objs.size (hh.objs.size + 1) o (G.keeps fun b o e => st b o e) hod nc).run h₁ ge dr _ os _ _
    ⟨hns, fun b o e => hk₁ b o (of_hideAll _ e), Nat.le_of_eq (hideAll_size _ _)⟩
    ⟨fun p hp => ?_, List.nodup_cons.mpr ⟨fun q => ?_, N.nd⟩⟩ fun fl m' n' h' tk' F' N' v => ?_
  · rcases List.mem_cons.mp hp with rfl | hp
    · refine ⟨hoc, Nat.ne_of_gt (Nat.lt_succ_self _), ?_⟩
      cases e : (hideAll hh (n.map (·.1))).get? (hh.objs.size + 1) with
      | none => rfl
      | some y => have := Heap.lt_size e; rw [hideAll_size] at this; exact absurd (Nat.lt_of_succ_lt this) (Nat.lt_irrefl _)
    · exact ⟨hk₁ _ _ (N.news p hp).1, Nat.ne_of_lt (Heap.lt_size (N.news p hp).1), hideAll_none _ (List.mem_map_of_mem hp)⟩
  · obtain ⟨p, hp, e⟩ := List.mem_map.mp q
    exact nc p hp e
  refine q (.ret _) _ _ _ _ ⟨⟨oL, es, ep, F'.keep L oL hLg, hLd, hLk, hLf⟩, fun b o e => F'.keep b o (st b o e), F.above⟩ ⟨fun p hp => ⟨(N'.news p hp).1, fun e => ?_, ?_⟩, N'.nd⟩ ⟨rfl, v⟩
  · have := (N'.news p hp).2.2; rw [e, hLg] at this; cases this
  · cases e : g.get? p.1 with
    | none => rfl
    | some o => have := (N'.news p hp).2.2; rw [st _ _ e] at this; cases this⟩
theorem he_cellv {env : Env} {x : Str} {pos : Pos} {c : Addr} {o : Obj} {v : Value} (hc : env.cells.lookup x = some c) (hm : (c, o) ∈ n) (hd : o.data = .cell (some v)) (h : V v m n) (hk : env.scope.kind = .function := by rfl) (hx : env.kindOf x = some .cell := by rfl) (hb : (x == ("__debug__" : Str)) = false := by decide) :
    Ho bz prog w A g L m n (eval (.Name x pos) env) V :=
  Ho.mk fun _ _ _ _ _ _ _ F N q => wpAny_Name (wpAny_loadName_cell hk hx hc ⟨o, N.news.get hm, hd⟩ (q _ _ _ _ _ F N h)) hb
end
end
section
open PySem PySem.Calls PySem.W PyProof.Rows
section
variable {prog : Program} {w : World} {A : Around} {E : Value → Shared → Prop} {s : Shared} {b : Array UInt8} {t : Tok}
theorem nextOf_B {it : Addr} {i : Nat} {c : UInt8} {Q : Value → Shared → Prop} (hit : KBw.IsBytesIter s.heap it b t i) (hx : b[i]? = some c)
    (hQ : ∀ h', KBw.IsBytesIter h' it b t (i + 1) → Heap.SameBut it s.heap h' → Q (.int (c.toNat : Int) s.toks) { s with heap := h', toks := s.toks + 1 }) : wpAny (model prog w) A (Builtin.SmallTypes.nextOf (.ref it)) Q E s := by
  obtain ⟨o, ho, hc, hd⟩ := id hit
  unfold Builtin.SmallTypes.nextOf
  refine wpAny_bind (wpAny_callSpecial?_slot (name := Str.ofString "__next__") (KBw.iter_typeIs hit) KBw.slot_next
    (wpAny_call_entry KBw.slot_next (KBw.iter_typeIs hit) KBw.entry_next ?_ (KBw.args_next _)))
  show wpAny _ _ (field (.ref it) 0 >>= _) _ _ s
  refine wpAny_bind (wpAny_field ho hd (x := .bytes b t) rfl ?_)
  show wpAny _ _ (if (Value.bytes b t == Value.none) = true then _ else _) _ _ s
  rw [if_neg (show ¬ ((Value.bytes b t == Value.none) = true) from Bool.false_ne_true)]
  show wpAny _ _ (field (.ref it) 1 >>= _) _ _ s
  refine wpAny_bind (wpAny_field ho hd (x := .int i 0) rfl ?_)
  refine wpAny_bind (wpAny_of_eq (a := b) rfl ?_)
  simp only [Int.toNat_natCast, hx]
  refine wpAny_bind (wpAny_setField ho hd (by simp) (wpAny_bind (wpAny_mkInt (wpAny_pure ⟨_, rfl, wpAny_pure (hQ _ ?_ (Heap.SameBut.update ..))⟩))))
  exact ⟨_, Heap.get?_update_self _ ho (Obj.isFreed_of_fields (Obj.data_mapFields hd _)), (Obj.cls_mapFields ..).trans hc, by
    rw [Obj.data_mapFields hd]; simp [rawInt]⟩
theorem nextOf_B0 {it : Addr} {i : Nat} {Q : Value → Shared → Prop} (hh : A.handled = none) (hit : KBw.IsBytesIter s.heap it b t i) (hx : b[i]? = none)
    (hE : ∀ h' e, Heap.ExtBut it s.heap h' → (∃ o, h'.get? e = some o ∧ o.cls = .type "StopIteration") → E (.ref e) { s with heap := h' }) : wpAny (model prog w) A (Builtin.SmallTypes.nextOf (.ref it)) Q E s := by
  obtain ⟨o, ho, hc, hd⟩ := id hit
  unfold Builtin.SmallTypes.nextOf
  refine wpAny_bind (wpAny_callSpecial?_slot (name := Str.ofString "__next__") (KBw.iter_typeIs hit) KBw.slot_next
    (wpAny_call_entry KBw.slot_next (KBw.iter_typeIs hit) KBw.entry_next ?_ (KBw.args_next _)))
  show wpAny _ _ (field (.ref it) 0 >>= _) _ _ s
  refine wpAny_bind (wpAny_field ho hd (x := .bytes b t) rfl ?_)
  show wpAny _ _ (if (Value.bytes b t == Value.none) = true then _ else _) _ _ s
  rw [if_neg (show ¬ ((Value.bytes b t == Value.none) = true) from Bool.false_ne_true)]
  show wpAny _ _ (field (.ref it) 1 >>= _) _ _ s
  refine wpAny_bind (wpAny_field ho hd (x := .int i 0) rfl ?_)
  refine wpAny_bind (wpAny_of_eq (a := b) rfl ?_)
  simp only [Int.toNat_natCast, hx]
  refine wpAny_bind (wpAny_rule (wpAny_bind (wpAny_setField ho hd (by simp) ?_)))
  show wpAny _ _ (newExc (.type "StopIteration") [] >>= _) _ _ _
  refine wpAny_bind ?_
  simp only [newExc, newTuple]
  refine wpAny_bind (wpAny_newObj_type ?_ (by size_fits))
  refine wpAny_bind (m := firstArgMember _ _) (wpAny_of_eq (a := Value.none) (by first | rfl | (simp only [firstArgMember]; rfl)) ?_)
  refine wpAny_newObj_type ?_ (by size_fits)
  simp only [raiseNew]
  refine wpAny_bind (wpAny_handled ?_)
  first | rw [show A.in1.handled = none from hh] | rw [hh]
  refine wpAny_bind (wpAny_pure (wpAny_throw ?_))
  exact hE _ _ (((Heap.SameBut.update ..).extBut.push _).push _) ⟨_, Heap.get?_push_size _ rfl, rfl⟩
theorem drawsB (hh : A.handled = none) (it : Addr) (b : Array UInt8) (t : Tok) : Draws prog w A it [it] b.size (fun i v => ∃ c u, b[i]? = some c ∧ v = .int (c.toNat : Int) u) (fun i h => KBw.IsBytesIter h it b t i) where
  live := fun _ _ ⟨o, ho, _⟩ => ⟨o, ho⟩
  frame := fun _ _ _ ⟨o, ho, r⟩ hk => ⟨o, hk it (by simp) o ho, r⟩
  item := fun i s Q E hi st hQ => nextOf_B st (c := b[i]) (by simp [hi]) fun h' hit' hs' => hQ _ h' _ ⟨_, _, by simp [hi], rfl⟩ hit' hs'
  done := fun s Q E st hE => nextOf_B0 hh st (by simp) fun h' e he he' => hE h' e he he'
set_option maxHeartbeats 1000000 in
theorem meets_enum_B (b : Array UInt8) (t : Tok) :
    Meets (Builtin.«enumerate.__new__» ⟨[.type "enumerate", .bytes b t], []⟩) (fun _ R s =>
      R (.ok (.ret (.ref (s.heap.push { cls := .type "bytes_iterator", data := .fields #[.bytes b t, .int 0 0] }).objs.size)))
        { s with heap := (s.heap.push { cls := .type "bytes_iterator", data := .fields #[.bytes b t, .int 0 0] }).push { cls := .type "enumerate", data := .fields #[.none, .bool false, .ref s.heap.objs.size, rawInt 0, .none, .none] } }) :=
  .of_wp fun prog w A R s h => by
    obtain ⟨hp, g, d, tk, os⟩ := s
    have hsub := sub_enumerate
    wp_walk
    refine wpAny_stack_any fun st => wpAny_pure ?_
    split
    · rename_i c _ _ _ _ _
      cases (c == Value.type "enumerate")
      · wp_walk using KBw.pyIter_bytes
        exact ⟨_, rfl, h⟩
      · wp_walk using KBw.pyIter_bytes
        exact ⟨_, rfl, h⟩
    · wp_walk using KBw.pyIter_bytes
      exact ⟨_, rfl, h⟩
end
end
section
open PySem PySem.Calls PySem.W PyProof.Rows
section
variable {prog : Program} {w : World} {A : Around} {E : Value → Shared → Prop} {s : Shared}
theorem nextOf_T {it l : Addr} {i : Nat} {items : Array Value} {x : Value} {Q : Value → Shared → Prop} (hit : s.heap.IsTupleIter it l i) (hl : s.heap.IsTuple l items) (hx : items[i]? = some x)
    (hQ : ∀ h', h'.IsTupleIter it l (i + 1) → Heap.SameBut it s.heap h' → Q x { s with heap := h' }) : wpAny (model prog w) A (Builtin.SmallTypes.nextOf (.ref it)) Q E s := by
  obtain ⟨o, ho, hc, hd⟩ := id hit
  obtain ⟨ol, hol, _, nl, hdl⟩ := hl
  unfold Builtin.SmallTypes.nextOf
  refine wpAny_bind (wpAny_callSpecial?_slot (name := Str.ofString "__next__") hit.typeIs F.slot_tuple_iterator_next
    (wpAny_call_entry F.slot_tuple_iterator_next hit.typeIs F.entry_tuple_iterator_next ?_ (F.args_tuple_iterator_next_1 _)))
  show wpAny _ _ (field (.ref it) 0 >>= _) _ _ s
  refine wpAny_bind (wpAny_field ho hd (x := .ref l) rfl ?_)
  show wpAny _ _ (if (Value.ref l == Value.none) = true then _ else _) _ _ s
  rw [if_neg (show ¬ ((Value.ref l == Value.none) = true) from Bool.false_ne_true)]
  show wpAny _ _ (field (.ref it) 1 >>= _) _ _ s
  refine wpAny_bind (wpAny_field ho hd (x := .int i 0) rfl ?_)
  show wpAny _ _ (seqItems? (.ref l) >>= _) _ _ s
  refine wpAny_bind (wpAny_seqItems hol hdl ?_)
  simp only [Int.toNat_natCast, hx]
  refine wpAny_bind (wpAny_setField ho hd (by simp) (wpAny_pure ⟨x, rfl, wpAny_pure (hQ _ ?_ (Heap.SameBut.update ..))⟩))
  exact ⟨_, Heap.get?_update_self _ ho (Obj.isFreed_of_fields (Obj.data_mapFields hd _)), (Obj.cls_mapFields ..).trans hc, by
    rw [Obj.data_mapFields hd]; simp [rawInt]⟩
theorem nextOf_T0 {it l : Addr} {i : Nat} {items : Array Value} {Q : Value → Shared → Prop} (hh : A.handled = none) (hit : s.heap.IsTupleIter it l i) (hl : s.heap.IsTuple l items) (hx : items[i]? = none)
    (hE : ∀ h' e, Heap.ExtBut it s.heap h' → (∃ o, h'.get? e = some o ∧ o.cls = .type "StopIteration") → E (.ref e) { s with heap := h' }) : wpAny (model prog w) A (Builtin.SmallTypes.nextOf (.ref it)) Q E s := by
  obtain ⟨o, ho, hc, hd⟩ := id hit
  obtain ⟨ol, hol, _, nl, hdl⟩ := hl
  unfold Builtin.SmallTypes.nextOf
  refine wpAny_bind (wpAny_callSpecial?_slot (name := Str.ofString "__next__") hit.typeIs F.slot_tuple_iterator_next
    (wpAny_call_entry F.slot_tuple_iterator_next hit.typeIs F.entry_tuple_iterator_next ?_ (F.args_tuple_iterator_next_1 _)))
  show wpAny _ _ (field (.ref it) 0 >>= _) _ _ s
  refine wpAny_bind (wpAny_field ho hd (x := .ref l) rfl ?_)
  show wpAny _ _ (if (Value.ref l == Value.none) = true then _ else _) _ _ s
  rw [if_neg (show ¬ ((Value.ref l == Value.none) = true) from Bool.false_ne_true)]
  show wpAny _ _ (field (.ref it) 1 >>= _) _ _ s
  refine wpAny_bind (wpAny_field ho hd (x := .int i 0) rfl ?_)
  show wpAny _ _ (seqItems? (.ref l) >>= _) _ _ s
  refine wpAny_bind (wpAny_seqItems hol hdl ?_)
  simp only [Int.toNat_natCast, hx]
  refine wpAny_bind (wpAny_rule (wpAny_bind (wpAny_setField ho hd (by simp) ?_)))
  show wpAny _ _ (newExc (.type "StopIteration") [] >>= _) _ _ _
  refine wpAny_bind ?_
  simp only [newExc, newTuple]
  refine wpAny_bind (wpAny_newObj_type ?_ (by size_fits))
  refine wpAny_bind (m := firstArgMember _ _) (wpAny_of_eq (a := Value.none) (by first | rfl | (simp only [firstArgMember]; rfl)) ?_)
  refine wpAny_newObj_type ?_ (by size_fits)
  simp only [raiseNew]
  refine wpAny_bind (wpAny_handled ?_)
  first | rw [show A.in1.handled = none from hh] | rw [hh]
  refine wpAny_bind (wpAny_pure (wpAny_throw ?_))
  exact hE _ _ (((Heap.SameBut.update ..).extBut.push _).push _) ⟨_, Heap.get?_push_size _ rfl, rfl⟩
theorem drawsT (hh : A.handled = none) (it l : Addr) (items : Array Value) : Draws prog w A it [it, l] items.size (fun i v => items[i]? = some v) (fun i h => h.IsTupleIter it l i ∧ h.IsTuple l items ∧ l ≠ it) where
  live := fun _ _ ⟨⟨o, ho, _⟩, _⟩ => ⟨o, ho⟩
  frame := fun _ _ _ ⟨⟨o, ho, r⟩, ⟨o2, ho2, r2⟩, ne⟩ hk => ⟨⟨o, hk it (by simp) o ho, r⟩, ⟨o2, hk l (by simp) o2 ho2, r2⟩, ne⟩
  item := fun i s Q E hi st hQ => nextOf_T st.1 st.2.1 (x := items[i]) (by simp [hi]) fun h' hit' hs' => hQ _ h' s.toks (by simp [hi]) ⟨hit', by obtain ⟨o2, ho2, r2⟩ := st.2.1; exact ⟨o2, (hs'.2 l st.2.2).trans ho2, r2⟩, st.2.2⟩ hs'
  done := fun s Q E st hE => nextOf_T0 hh st.1 st.2.1 (by simp) fun h' e he he' => hE h' e he he'
set_option maxHeartbeats 1000000 in
theorem meets_enum_T (l : Addr) (items : Array Value) (n : Nat) (dd : Option Addr) (sl : Array (Option Value)) :
    Meets (Builtin.«enumerate.__new__» ⟨[.type "enumerate", .ref l], []⟩) (fun _ R s => s.heap.get? l = some { cls := .type "tuple", dict := dd, data := .seq items n, slots := sl } ∧
      R (.ok (.ret (.ref (s.heap.push { cls := .type "tuple_iterator", data := .fields #[.ref l, .int 0 0] }).objs.size)))
        { s with heap := (s.heap.push { cls := .type "tuple_iterator", data := .fields #[.ref l, .int 0 0] }).push { cls := .type "enumerate", data := .fields #[.none, .bool false, .ref s.heap.objs.size, rawInt 0, .none, .none] } }) :=
  .of_wp fun prog w A R s h => by
    obtain ⟨hp, g, d, tk, os⟩ := s; obtain ⟨hl, h⟩ := h
    have hsub := sub_enumerate
    have hL : Heap.IsTuple (Shared.heap ⟨hp, g, d, tk, os⟩) l items := ⟨_, hl, rfl, n, rfl⟩
    wp_walk using AutoSeq1.wpAny_loadPart' hl
    refine wpAny_stack_any fun st => wpAny_pure ?_
    split
    · rename_i c _ _ _ _ _
      cases (c == Value.type "enumerate")
      · wp_walk using AutoSeq1.wpAny_loadPart' hl, wpAny_pyIter_tuple hL
        exact ⟨_, rfl, h⟩
      · wp_walk using AutoSeq1.wpAny_loadPart' hl, wpAny_pyIter_tuple hL
        exact ⟨_, rfl, h⟩
    · wp_walk using AutoSeq1.wpAny_loadPart' hl, wpAny_pyIter_tuple hL
      exact ⟨_, rfl, h⟩
end
noncomputable abbrev enO (it : Addr) (i : Int) (old : Value) : Obj := { cls := .type "enumerate", dict := none, data := .fields #[.none, .bool false, .ref it, rawInt i, .none, old], slots := #[] }
noncomputable abbrev enOut (it : Addr) (i : Int) (x : Value) (a : Addr) : Obj := { cls := .type "enumerate", dict := none, data := .fields #[rawInt a, .bool false, .ref it, rawInt i, .none, x], slots := #[] }
section
variable {bz : Bool} {prog : Program} {w : World} {A : Around} {g : Heap} {L : Addr} {m : FMap} {n : Led} {env : Env} {V : Value → FMap → Led → Prop} {U : Unit → FMap → Led → Prop} {R : Option Value → FMap → Led → Prop} {e it T : Addr} {o : Obj} {old x : Value} {l : List UInt8} {tb : Tok}
theorem Nw.two {h h' : Heap} {a b c : Addr} {oa ob oa' ob' oc : Obj} (F : Fr g L h m) (N : Nw g L h ((a, oa) :: (b, ob) :: n)) (hc : c = h.objs.size) (ec : h'.get? c = some oc) (ea : h'.get? a = some oa') (eb : h'.get? b = some ob') (k : ∀ d o, d ≠ a → d ≠ b → h.get? d = some o → h'.get? d = some o) :
    Fr g L h' m ∧ Nw g L h' ((c, oc) :: (a, oa') :: (b, ob') :: n) := by
  subst hc
  have ma := N.news _ (.head _)
  have mb := N.news _ (.tail _ (.head _))
  have nd := N.nd
  simp only [List.map_cons, List.nodup_cons, List.mem_cons, not_or] at nd
  have gn : g.get? h.objs.size = none := by
    cases z : g.get? h.objs.size with
    | none => rfl
    | some y => exact absurd (Heap.lt_size (F.keep _ _ z)) (Nat.lt_irrefl _)
  refine ⟨⟨F.ns.at' fun o q => k _ _ (Ne.symm ma.2.1) (Ne.symm mb.2.1) q, fun b o q => k b o (fun z => by rw [z, ma.2.2] at q; cases q) (fun z => by rw [z, mb.2.2] at q; cases q) (F.keep b o q), F.above⟩, ⟨fun p hp => ?_, ?_⟩⟩
  · rcases List.mem_cons.mp hp with rfl | hp
    · exact ⟨ec, fun q => absurd F.ns.lt (by rw [← q]; exact Nat.lt_irrefl _), gn⟩
    rcases List.mem_cons.mp hp with rfl | hp
    · exact ⟨ea, ma.2⟩
    rcases List.mem_cons.mp hp with rfl | hp
    · exact ⟨eb, mb.2⟩
    · have mp := N.news p (.tail _ (.tail _ hp))
      exact ⟨k _ _ (fun q => nd.1.2 (List.mem_map.mpr ⟨p, hp, q⟩)) (fun q => nd.2.1 (List.mem_map.mpr ⟨p, hp, q⟩)) mp.1, mp.2⟩
  · simp only [List.map_cons, List.nodup_cons, List.mem_cons, not_or]
    refine ⟨⟨fun q => N.old (.head _) q.symm, fun q => N.old (.tail _ (.head _)) q.symm, fun q => ?_⟩, ⟨nd.1.1, nd.1.2⟩, nd.2.1, nd.2.2⟩
    obtain ⟨p, hp, q⟩ := List.mem_map.mp q
    exact N.old (.tail _ (.tail _ hp)) q
theorem ho_enumB (h : ∀ e it o, ItO "bytes_iterator" (.bytes l.toArray tb) 0 o → (∀ p ∈ n, p.1 ≠ e) → (∀ p ∈ n, p.1 ≠ it) → V (.ref e) m ((e, enO it 0 .none) :: (it, o) :: n)) : Ho bz prog w A g L m n (call (.type "enumerate") [.bytes l.toArray tb]) V :=
  Ho.mk fun hh ge dr tk os Q E F N q => by
    refine callType_new PySem.F.called_enumerate (by decide) (PySem.F.typeCall_enumerate_1 _) (PySem.F.newCall_enumerate_1 _) (fun obj => PySem.F.args_object_init_2 obj _) PySem.F.entry_enumerate_new (meets_enum_B l.toArray tb) ?_
    have k1 : ∀ b o, hh.get? b = some o → (hh.push { cls := .type "bytes_iterator", data := .fields #[.bytes l.toArray tb, .int 0 0] }).get? b = some o := fun _ _ e => Heap.get?_push_of_some _ e
    have F1 := Fr.kept F k1
    have N1 := Nw.cons F N (Heap.get?_push_size hh (o := { cls := .type "bytes_iterator", data := .fields #[.bytes l.toArray tb, .int 0 0] }) rfl) k1
    refine ⟨⟨_, Heap.get?_push_size _ rfl, rfl⟩, q _ _ _ _ _ (Fr.kept F1 fun _ _ e => Heap.get?_push_of_some _ e) (Nw.cons F1 N1 (Heap.get?_push_size _ rfl) fun _ _ e => Heap.get?_push_of_some _ e) (h _ _ _ ⟨rfl, rfl⟩ (fun p hp => N1.old (.tail _ hp)) fun p hp => N.old hp)⟩
theorem pn_enumB {i : Nat} {c : UInt8} (hh : A.handled = none) (ho : ItO "bytes_iterator" (.bytes l.toArray tb) i o) (hx : l[i]? = some c)
    (h : ∀ T o' t1 t2, (∀ p ∈ (e, enO it i old) :: (it, o) :: n, p.1 ≠ T) → ItO "bytes_iterator" (.bytes l.toArray tb) (i + 1) o' → R (some (.ref T)) m ((T, tupO [.int i t1, .int (c.toNat : Int) t2]) :: (e, enOut it (i + 1) (.int (c.toNat : Int) t2) T) :: (it, o') :: n)) :
    Ho bz prog w A g L m ((e, enO it i old) :: (it, o) :: n) (pyNext (.ref e)) R :=
  Ho.mk fun hp ge dr tk os Q E F N q => by
    have hne : e ≠ it := fun q => by have := N.nd; simp only [List.map_cons, List.nodup_cons, List.mem_cons, not_or] at this; exact this.1.1 q
    have hi : i < l.toArray.size := by have := List.getElem?_eq_some_iff.mp hx; simpa using this.1
    refine wpAny_pyNext_enum_itemD (drawsB (by show A.in1.handled = none; exact hh) it l.toArray tb) (he := (N.news _ (.head _)).1) ⟨_, (N.news _ (.tail _ (.head _))).1, ho⟩ hi hne (by simpa using hne) fun x h' tk' hP he' hst' hT hz hk => ?_
    obtain ⟨c', u, hc', rfl⟩ := hP
    have : c' = c := by simpa [hx] using hc'.symm
    subst this
    obtain ⟨o', ho', hi'⟩ := hst'
    obtain ⟨F', N'⟩ := Nw.two F N rfl hT he' ho' hk
    exact q _ m _ h' (tk' + 1) F' N' (h _ o' tk' u (fun p hp => N.old hp) hi')
theorem pn_enumB0 {i : Nat} (hh : A.handled = none) (ho : ItO "bytes_iterator" (.bytes l.toArray tb) i o) (hx : l.length = i) (h : R none m n) : Ho bz prog w A g L m ((e, enO it i old) :: (it, o) :: n) (pyNext (.ref e)) R :=
  Ho.mk fun hp ge dr tk os Q E F N q => by
    have mi := N.news _ (.tail _ (.head _))
    have nd := N.nd
    simp only [List.map_cons, List.nodup_cons, List.mem_cons, not_or] at nd
    subst hx
    refine wpAny_pyNext_enum_endD (drawsB (by show A.in1.handled = none; exact hh) it l.toArray tb) (he := (N.news _ (.head _)).1) ⟨_, mi.1, by simpa [ItO] using ho⟩ fun h' hk => ?_
    exact q none m n h' tk (Fr.but F mi.2.1 mi.2.2 hk) ⟨fun p hp => ⟨hk _ _ (fun q => nd.2.1 (List.mem_map.mpr ⟨p, hp, q⟩)) (N.news p (.tail _ (.tail _ hp))).1, (N.news p (.tail _ (.tail _ hp))).2⟩, nd.2.2⟩ h
theorem ho_enumT {a : Addr} {vs : List Value} (hm : (a, tupO vs) ∈ n) (h : ∀ e it o, ItO "tuple_iterator" (.ref a) 0 o → (∀ p ∈ n, p.1 ≠ e) → (∀ p ∈ n, p.1 ≠ it) → V (.ref e) m ((e, enO it 0 .none) :: (it, o) :: n)) : Ho bz prog w A g L m n (call (.type "enumerate") [.ref a]) V :=
  Ho.mk fun hh ge dr tk os Q E F N q => by
    refine callType_new PySem.F.called_enumerate (by decide) (PySem.F.typeCall_enumerate_1 _) (PySem.F.newCall_enumerate_1 _) (fun obj => PySem.F.args_object_init_2 obj _) PySem.F.entry_enumerate_new (meets_enum_T a vs.toArray 0 none #[]) ⟨(N.news _ hm).1, ?_⟩
    have k1 : ∀ b o, hh.get? b = some o → (hh.push { cls := .type "tuple_iterator", data := .fields #[.ref a, .int 0 0] }).get? b = some o := fun _ _ e => Heap.get?_push_of_some _ e
    have F1 := Fr.kept F k1
    have N1 := Nw.cons F N (Heap.get?_push_size hh (o := { cls := .type "tuple_iterator", data := .fields #[.ref a, .int 0 0] }) rfl) k1
    refine ⟨⟨_, Heap.get?_push_size _ rfl, rfl⟩, q _ _ _ _ _ (Fr.kept F1 fun _ _ e => Heap.get?_push_of_some _ e) (Nw.cons F1 N1 (Heap.get?_push_size _ rfl) fun _ _ e => Heap.get?_push_of_some _ e) (h _ _ _ ⟨rfl, rfl⟩ (fun p hp => N1.old (.tail _ hp)) fun p hp => N.old hp)⟩
theorem pn_enumT {a : Addr} {vs : List Value} {i : Nat} {v : Value} (hh : A.handled = none) (hm : (a, tupO vs) ∈ n) (ho : ItO "tuple_iterator" (.ref a) i o) (hx : vs[i]? = some v)
    (h : ∀ T o' t1, (∀ p ∈ (e, enO it i old) :: (it, o) :: n, p.1 ≠ T) → ItO "tuple_iterator" (.ref a) (i + 1) o' → R (some (.ref T)) m ((T, tupO [.int i t1, v]) :: (e, enOut it (i + 1) v T) :: (it, o') :: n)) :
    Ho bz prog w A g L m ((e, enO it i old) :: (it, o) :: n) (pyNext (.ref e)) R :=
  Ho.mk fun hp ge dr tk os Q E F N q => by
    have nd := N.nd
    simp only [List.map_cons, List.nodup_cons, List.mem_cons, not_or] at nd
    have hne : e ≠ it := nd.1.1
    have hae : e ≠ a := fun q => nd.1.2 (List.mem_map.mpr ⟨_, hm, q.symm⟩)
    have hai : a ≠ it := fun q => nd.2.1 (List.mem_map.mpr ⟨_, hm, q⟩)
    have hi : i < vs.toArray.size := by have := List.getElem?_eq_some_iff.mp hx; simpa using this.1
    refine wpAny_pyNext_enum_itemD (drawsT (by show A.in1.handled = none; exact hh) it a vs.toArray) (he := (N.news _ (.head _)).1) ⟨⟨_, (N.news _ (.tail _ (.head _))).1, ho⟩, isTuple_of (N.news _ (.tail _ (.tail _ hm))).1, hai⟩ hi hne (by simpa using ⟨hne, hae⟩) fun x h' tk' hP he' hst' hT hz hk => ?_
    have : x = v := by simpa [hx] using hP.symm
    subst this
    obtain ⟨⟨o', ho', hi'⟩, _⟩ := hst'
    obtain ⟨F', N'⟩ := Nw.two F N rfl hT he' ho' hk
    exact q _ m _ h' (tk' + 1) F' N' (h _ o' tk' (fun p hp => N.old hp) hi')
theorem pn_enumT0 {a : Addr} {vs : List Value} {i : Nat} (hh : A.handled = none) (hm : (a, tupO vs) ∈ n) (ho : ItO "tuple_iterator" (.ref a) i o) (hx : vs.length = i) (h : R none m n) : Ho bz prog w A g L m ((e, enO it i old) :: (it, o) :: n) (pyNext (.ref e)) R :=
  Ho.mk fun hp ge dr tk os Q E F N q => by
    have mi := N.news _ (.tail _ (.head _))
    have nd := N.nd
    simp only [List.map_cons, List.nodup_cons, List.mem_cons, not_or] at nd
    have hai : a ≠ it := fun q => nd.2.1 (List.mem_map.mpr ⟨_, hm, q⟩)
    subst hx
    refine wpAny_pyNext_enum_endD (drawsT (by show A.in1.handled = none; exact hh) it a vs.toArray) (he := (N.news _ (.head _)).1) ⟨⟨_, mi.1, by simpa [ItO] using ho⟩, isTuple_of (N.news _ (.tail _ (.tail _ hm))).1, hai⟩ fun h' hk => ?_
    exact q none m n h' tk (Fr.but F mi.2.1 mi.2.2 hk) ⟨fun p hp => ⟨hk _ _ (fun q => nd.2.1 (List.mem_map.mpr ⟨p, hp, q⟩)) (N.news p (.tail _ (.tail _ hp))).1, (N.news p (.tail _ (.tail _ hp))).2⟩, nd.2.2⟩ h
theorem hg_enum {elts : List Expr} {k : Nat} {pos : Pos} {j : Int} {f : Obj → Led} (X : UpL e (enOut it j x T) n f) (h : U () m (f (enO it j x))) : Ho bz prog w A g L m n (letOwnedTupleGo (.Tuple elts k pos) (.ref e) (.ref T)) U :=
  Ho.mk fun hp ge dr tk os Q E F N q => wpAny_letOwnedTupleGo_enum (N.news _ X.mem).1 fun h' he' hs => q _ _ _ _ _ (Fr.but F (N.news _ X.mem).2.1 (N.news _ X.mem).2.2 fun b x hb e => (hs.2 b hb).trans e) (N.upd X he' fun b x hb e => (hs.2 b hb).trans e) h
end
end
section
open PySem PySem.Calls PySem.W PyProof.Rows
section
variable {bz : Bool} {prog : Program} {w : World} {A : Around} {g : Heap} {L : Addr} {m : FMap} {n : Led} {env : Env} {V : Value → FMap → Led → Prop} {W : Led → Prop} {e it : Addr} {o : Obj} {old acc : Value} {l : List UInt8} {tb : Tok} {elt : Expr} {ifs elts : List Expr} {kt : Nat} {tpos : Pos}
theorem pi_enum {i : Int} (h : V (.ref e) m ((e, enO it i old) :: n)) : Ho bz prog w A g L m ((e, enO it i old) :: n) (pyIter (.ref e)) V :=
  Ho.mk fun _ _ _ _ _ _ _ F N q => wpAny_pyIter_enum (N.news _ (.head _)).1 (q _ _ _ _ _ F N h)
theorem hp_enumB (J : Nat → Led → Prop) (hh : A.handled = none) (ho : ItO "bytes_iterator" (.bytes l.toArray tb) 0 o) (h0 : J 0 n)
    (turn : ∀ i c m n T t1 t2 r1 r2, l[i]? = some c → J i n → Ho bz prog w A g L m ((T, tupO [.int (i : Int) t1, .int (c.toNat : Int) t2]) :: r1 :: r2 :: n) (assign (.Tuple elts kt tpos) env (.ref T)) (Kthen bz prog w A g L (ifsRun env ifs) (Kelt bz prog w A g L elt env acc (Kst2 r1 r2 (J (i + 1))))))
    (done : ∀ n, J l.length n → W n) : ∃ k, HoCp bz prog w A g L env elt (.Tuple elts kt tpos) ifs (.ref e) acc W k m ((e, enO it 0 .none) :: (it, o) :: n) := by
  have key : ∀ (r i : Nat) (m : FMap) (n : Led) (o : Obj) (old : Value), i + r = l.length → ItO "bytes_iterator" (.bytes l.toArray tb) i o → J i n → HoCp bz prog w A g L env elt (.Tuple elts kt tpos) ifs (.ref e) acc W (r + 1) m ((e, enO it i old) :: (it, o) :: n) := by
    intro r
    induction r with
    | zero =>
      intro i m n o old e1 ho hj
      refine hp_step (pn_enumB0 hh ho (by omega) ?_)
      have : i = l.length := by omega
      exact done n (this ▸ hj)
    | succ r ih =>
      intro i m n o old e1 ho hj
      have hi : i < l.length := by omega
      refine hp_step (pn_enumB hh ho (List.getElem?_eq_getElem hi) fun T o' t1 t2 hT ho' => hg_enum (.tail .head) ((turn i _ m n T t1 t2 _ _ (List.getElem?_eq_getElem hi) hj).mono fun _ m n h => h.mono fun ok m n h => ?_))
      have go : ∀ m n n', ((e, enO it (i + 1) (.int (l[i].toNat : Int) t2)) :: (it, o') :: n').Sublist n → J (i + 1) n' → HoCp bz prog w A g L env elt (.Tuple elts kt tpos) ifs (.ref e) acc W (r + 1) m n := fun m n n' s hj' => (ih (i + 1) m n' o' _ (by omega) ho' hj').drop s
      cases ok with
      | true => exact Ho.mono h fun _ m n h => h.mono fun _ m n ⟨n', s, hj'⟩ => go m n n' s hj'
      | false => obtain ⟨n', s, hj'⟩ := h; exact go m n n' s hj'
  exact ⟨_, key l.length 0 m n o .none (by omega) ho h0⟩
theorem hp_enumT {a : Addr} {vs : List Value} (J : Nat → Led → Prop) (hh : A.handled = none) (hm : ∀ i n, J i n → (a, tupO vs) ∈ n) (ho : ItO "tuple_iterator" (.ref a) 0 o) (h0 : J 0 n)
    (turn : ∀ i v m n T t1 r1 r2, vs[i]? = some v → J i n → Ho bz prog w A g L m ((T, tupO [.int (i : Int) t1, v]) :: r1 :: r2 :: n) (assign (.Tuple elts kt tpos) env (.ref T)) (Kthen bz prog w A g L (ifsRun env ifs) (Kelt bz prog w A g L elt env acc (Kst2 r1 r2 (J (i + 1))))))
    (done : ∀ n, J vs.length n → W n) : ∃ k, HoCp bz prog w A g L env elt (.Tuple elts kt tpos) ifs (.ref e) acc W k m ((e, enO it 0 .none) :: (it, o) :: n) := by
  have key : ∀ (r i : Nat) (m : FMap) (n : Led) (o : Obj) (old : Value), i + r = vs.length → ItO "tuple_iterator" (.ref a) i o → J i n → HoCp bz prog w A g L env elt (.Tuple elts kt tpos) ifs (.ref e) acc W (r + 1) m ((e, enO it i old) :: (it, o) :: n) := by
    intro r
    induction r with
    | zero =>
      intro i m n o old e1 ho hj
      refine hp_step (pn_enumT0 hh (hm i n hj) ho (by omega) ?_)
      have : i = vs.length := by omega
      exact done n (this ▸ hj)
    | succ r ih =>
      intro i m n o old e1 ho hj
      have hi : i < vs.length := by omega
      refine hp_step (pn_enumT hh (hm i n hj) ho (List.getElem?_eq_getElem hi) fun T o' t1 hT ho' => hg_enum (.tail .head) ((turn i _ m n T t1 _ _ (List.getElem?_eq_getElem hi) hj).mono fun _ m n h => h.mono fun ok m n h => ?_))
      have go : ∀ m n n', ((e, enO it (i + 1) vs[i]) :: (it, o') :: n').Sublist n → J (i + 1) n' → HoCp bz prog w A g L env elt (.Tuple elts kt tpos) ifs (.ref e) acc W (r + 1) m n := fun m n n' s hj' => (ih (i + 1) m n' o' _ (by omega) ho' hj').drop s
      cases ok with
      | true => exact Ho.mono h fun _ m n h => h.mono fun _ m n ⟨n', s, hj'⟩ => go m n n' s hj'
      | false => obtain ⟨n', s, hj'⟩ := h; exact go m n n' s hj'
  exact ⟨_, key vs.length 0 m n o .none (by omega) ho h0⟩
theorem hoC_perm3 {c : Code} {P : Flow → FMap → Led → Prop} {a b d : Addr × Obj} (h : HoC bz prog w A g L m (b :: d :: a :: n) c P) : HoC bz prog w A g L m (a :: b :: d :: n) c P :=
  ⟨fun _ _ _ _ _ _ F N q => h.run _ _ _ _ _ _ F (N.perm (fun p hp => by
    simp only [List.mem_cons] at hp ⊢
    rcases hp with h | h | h | h
    · exact .inr (.inl h)
    · exact .inr (.inr (.inl h))
    · exact .inl h
    · exact .inr (.inr (.inr h))) (by
    have := N.nd
    simp only [List.map_cons, List.nodup_cons, List.mem_cons, not_or] at this ⊢
    obtain ⟨⟨h1, h2, h3⟩, ⟨h4, h5⟩, h6, h7⟩ := this
    exact ⟨⟨h4, fun e => h1 e.symm, h5⟩, ⟨fun e => h2 e.symm, h6⟩, h3, h7⟩)) q⟩
theorem he_compC {K : Frag} {p : Program} {loose : List Str} {pos : Pos} {target iter : Expr} {scope : Scope} (cl : List (Str × Addr)) (G : Gd K p loose g) (hclos : closureFor scope env = pure cl)
    (hb : (scope.names.all (fun x => x.2 != .cell) && scope.kind == .function && scope.names.all (fun x => x.2 != .local || (relabel scope env).names.lookup x.1 == some .local)) = true)
    (h : Ho bz prog w A g L m n (eval iter env) fun x m n => Ho bz prog w A g L m n (pyIter x) fun it m n => ∀ D, (∀ p ∈ n, p.1 ≠ D) → ∀ g' C, Gd K p loose g' → g.StaysIn g' →
      HoC bz prog w A g' C (lk []) ((D, lstO [] 0) :: n) (.compStart (.ListComp elt [⟨target, iter, ifs, 0⟩] scope pos) 0 it (.ref D) (compEnvC scope cl C env)) fun _ _ n' => V (.ref D) m n')
    (hs : ∀ x, foldedSetIterable iter env x = pure x := by intro _; rfl) : Ho bz prog w A g L m n (eval (.ListComp elt [⟨target, iter, ifs, 0⟩] scope pos) env) V := by
  simp only [Bool.and_eq_true, beq_iff_eq] at hb
  obtain ⟨⟨h1, h2⟩, h3⟩ := hb
  exact he_comp G hclos (fun x hx => by simpa using List.all_eq_true.mp h1 x hx) h2 (fun x hx e => by simpa [e] using List.all_eq_true.mp h3 x hx) h hs
theorem he_compEB {K : Frag} {p : Program} {loose : List Str} {pos : Pos} {iter : Expr} {scope : Scope} (cl : List (Str × Addr)) (G : Gd K p loose g) (hh : A.handled = none) (hclos : closureFor scope env = pure cl)
    (hb : (scope.names.all (fun x => x.2 != .cell) && scope.kind == .function && scope.names.all (fun x => x.2 != .local || (relabel scope env).names.lookup x.1 == some .local)) = true)
    (h : Ho bz prog w A g L m n (eval iter env) fun v m n => ∃ (e it : Addr) (o : Obj) (l : List UInt8) (tb : Tok) (n0 : Led), v = .ref e ∧ n = (e, enO it 0 .none) :: (it, o) :: n0 ∧ ItO "bytes_iterator" (.bytes l.toArray tb) 0 o ∧ ∀ D g' C, (∀ p ∈ n0, p.1 ≠ D) → Gd K p loose g' → g.StaysIn g' →
      ∃ J : Nat → Led → Prop, J 0 ((D, lstO [] 0) :: n0) ∧
      (∀ i c m n T t1 t2 r1 r2, l[i]? = some c → J i n → Ho bz prog w A g' C m ((T, tupO [.int (i : Int) t1, .int (c.toNat : Int) t2]) :: r1 :: r2 :: n) (assign (.Tuple elts kt tpos) (compEnvC scope cl C env) (.ref T)) (Kthen bz prog w A g' C (ifsRun (compEnvC scope cl C env) ifs) (Kelt bz prog w A g' C elt (compEnvC scope cl C env) (.ref D) (Kst2 r1 r2 (J (i + 1)))))) ∧
      (∀ n, J l.length n → V (.ref D) m n))
    (hs : ∀ x, foldedSetIterable iter env x = pure x := by intro _; rfl) : Ho bz prog w A g L m n (eval (.ListComp elt [⟨.Tuple elts kt tpos, iter, ifs, 0⟩] scope pos) env) V := by
  refine he_compC cl G hclos hb (h.mono fun v m n h => ?_) hs
  obtain ⟨e, it, o, l, tb, n0, rfl, rfl, ho, h⟩ := h
  refine pi_enum fun D hD g' C G' st => ?_
  obtain ⟨J, h0, turn, done⟩ := h D g' C (fun p hp => hD p (.tail _ (.tail _ hp))) G' st
  have base : ∃ k, HoCp bz prog w A g' C (compEnvC scope cl C env) elt (.Tuple elts kt tpos) ifs (.ref e) (.ref D) (fun n' => V (.ref D) m n') k (lk []) ((e, enO it 0 .none) :: (it, o) :: (D, lstO [] 0) :: n0) := hp_enumB J hh ho h0 turn done
  exact hoC_perm3 (hoC_cstart base (pi_enum base))
end
end
section
open PySem PySem.Calls PySem.W PyProof.Rows
section
variable {bz : Bool} {prog : Program} {w : World} {A : Around} {g : Heap} {L : Addr} {m : FMap} {n : Led} {V : Value → FMap → Led → Prop} {U : Unit → FMap → Led → Prop} {d : Addr} {o : Obj} {kvs : List (Str × Value)} {x : Str} {v : Value} {t : Tok} {value slice : Expr}
theorem ho_dget (hm : (d, o) ∈ n) (hd : o.IsDictOf (PySem.strKind prog w) kvs) (hl : valueAt kvs x = some v) (h : V v m n)
    (hs : subscripted slice false (.ref d) (.str x t) = operate [.ref d, .str x t] (getItem (.ref d) (.str x t)) := by with_unfolding_all rfl) (hg : ∀ r, letTemporaryGo value (.ref d) r = pure () := by intro _; with_unfolding_all rfl) : Ho bz prog w A g L m n (subscriptTail value slice (.ref d) (.str x t)) V :=
  Ho.mk fun _ _ _ _ _ _ _ F N q => kda_item (knd := PySem.strKind prog w) N.news hm hd (strKind_is _ _ _ _) hl (q _ _ _ _ _ F N h) hs hg
theorem ho_dset {f : Obj → Led} (X : UpL d o n f) (hd : o.IsDictOf (PySem.strKind prog w) kvs) (hz : kvs.length ≤ 1000) (h : ∀ o', o'.IsDictOf (PySem.strKind prog w) (stored kvs x v) → U () m (f o')) : Ho bz prog w A g L m n (setItem (.ref d) (.str x t) v) U :=
  Ho.mk fun _ _ _ _ _ _ _ F N q => by
    refine wpAny_setItem_pairs (hsz := by rw [sizeLine_eq]; omega) (knd := PySem.strKind prog w) (strKind_is _ _ _ _) (Heap.dictOf_iff.mpr ⟨o, (N.news _ X.mem).1, hd⟩) fun h' hmm hs => ?_
    obtain ⟨o', ho', hd'⟩ := Heap.dictOf_iff.mp hmm
    exact q _ _ _ _ _ (Fr.but F (N.news _ X.mem).2.1 (N.news _ X.mem).2.2 fun b x hb e => (hs.2 b hb).trans e) (N.upd X ho' fun b x hb e => (hs.2 b hb).trans e) (h o' hd')
end
section
variable {bz : Bool} {prog : Program} {w : World} {A : Around} {g : Heap} {L : Addr} {m : FMap} {n : Led} {env : Env} {body : List Stmt} {P : Flow → FMap → Led → Prop} {pos : Pos} {x : Str}
end
end
section
section
variable {bz : Bool} {prog : Program} {w : World} {A : Around} {g : Heap} {L : Addr} {m : FMap} {n : Led} {env : Env} {V : Value → FMap → Led → Prop} {U : Unit → FMap → Led → Prop} {R : Option Value → FMap → Led → Prop} {P : Flow → FMap → Led → Prop} {x y : Str} {t u : Tok} {pos : Pos}
theorem ho_neS (h : V (.bool (x != y)) m n) : Ho bz prog w A g L m n (compareOp .NotEq (.str x t) (.str y u)) V := Ho.mk fun _ _ _ _ _ _ _ F N q => PyProof.Rows.ne_str (q _ _ _ _ _ F N h)
theorem ho_isB {b : Array UInt8} (h : V (.bool false) m n) : Ho bz prog w A g L m n (compareOp .Is (.bytes b t) .none) V := ho_is (by rw [show (Value.bytes b t == Value.none) = false from beq_eq_false_iff_ne.mpr (fun e => by cases e)]; exact h)
theorem ho_isR {b : Addr} (h : V (.bool false) m n) : Ho bz prog w A g L m n (compareOp .Is (.ref b) .none) V := ho_is (by rw [show (Value.ref b == Value.none) = false from beq_eq_false_iff_ne.mpr (fun e => by cases e)]; exact h)
theorem ho_isI {b : Int} (h : V (.bool false) m n) : Ho bz prog w A g L m n (compareOp .Is (.int b t) .none) V := ho_is (by rw [show (Value.int b t == Value.none) = false from beq_eq_false_iff_ne.mpr (fun e => by cases e)]; exact h)
theorem ho_isO (h : V (.bool true) m n) : Ho bz prog w A g L m n (compareOp .Is .none .none) V := ho_is (by rw [show (Value.none == Value.none) = true from beq_self_eq_true _]; exact h)
theorem ho_isNI {b : Int} (h : V (.bool true) m n) : Ho bz prog w A g L m n (compareOp .IsNot (.int b t) .none) V := ho_isN (by rw [show (Value.int b t == Value.none) = false from beq_eq_false_iff_ne.mpr (fun e => by cases e)]; exact h)
theorem ho_isNO (h : V (.bool false) m n) : Ho bz prog w A g L m n (compareOp .IsNot .none .none) V := ho_isN (by rw [show (Value.none == Value.none) = true from beq_self_eq_true _]; exact h)
noncomputable abbrev Kfin (T : FMap → Led → Prop) : Flow → FMap → Led → Prop := fun f m n => f = .next ∧ T m n
noncomputable abbrev Kturn (bz : Bool) (prog : Program) (w : World) (A : Around) (g : Heap) (L : Addr) (body : List Stmt) (env : Env) (T : FMap → Led → Prop) : Bool → FMap → Led → Prop := fun b m n => b = true ∧ Ho bz prog w A g L m n (execs body env) (Kfin T)
theorem hw_count {test : Expr} {body : List Stmt} (K : Nat) (J : Nat → FMap → Led → Prop) (h0 : J 0 m n)
    (turn : ∀ i m n, i < K → J i m n → Ho bz prog w A g L m n (isTrue test env (eval test env)) fun b m n => b = true ∧ Ho bz prog w A g L m n (execs body env) fun f m n => f = .next ∧ J (i + 1) m n)
    (done : ∀ m n, J K m n → Ho bz prog w A g L m n (isTrue test env (eval test env)) fun b m n => b = false ∧ P .next m n) : HoW bz prog w A g L env test body P (K + 1) m n := by
  have key : ∀ (r i : Nat) (m : FMap) (n : Led), i + r = K → J i m n → HoW bz prog w A g L env test body P (r + 1) m n := by
    intro r
    induction r with
    | zero =>
      intro i m n e hj
      have : i = K := by omega
      subst this
      exact (done m n hj).mono fun b m n h => by obtain ⟨rfl, h⟩ := h; exact h
    | succ r ih =>
      intro i m n e hj
      refine (turn i m n (by omega) hj).mono fun b m n h => ?_
      obtain ⟨rfl, h⟩ := h
      exact h.mono fun f m n h => by
        obtain ⟨rfl, h⟩ := h
        exact ih (i + 1) m n (by omega) h
  exact key K 0 m n (by omega) h0
theorem hw_countT {test : Expr} {body : List Stmt} (K : Nat) (J : Nat → FMap → Led → Prop) (h0 : J 0 m n)
    (turn : ∀ i m n (T : FMap → Led → Prop), i < K → J i m n → (∀ m n, J (i + 1) m n → T m n) → Ho bz prog w A g L m n (isTrue test env (eval test env)) (Kturn bz prog w A g L body env T))
    (done : ∀ m n, J K m n → Ho bz prog w A g L m n (isTrue test env (eval test env)) fun b m n => b = false ∧ P .next m n) : HoW bz prog w A g L env test body P (K + 1) m n :=
  hw_count K J h0 (fun i m n e j => turn i m n _ e j fun _ _ h => h) done
theorem ho_perm {α : Type} {t : Sem α} {PP : α → FMap → Led → Prop} {n' : Led} (l : Led) (s : l.Sublist n) (p : l.Perm n') (h : Ho bz prog w A g L m n' t PP) : Ho bz prog w A g L m n t PP :=
  ⟨fun _ _ _ _ _ _ _ F N q => h.run _ _ _ _ _ _ _ F ((N.sub s).perm (fun x hx => p.mem_iff.mpr hx) ((p.map _).nodup (N.sub s).nd)) q⟩
theorem HoL.perm {target : Expr} {body : List Stmt} {it : Value} {k : Nat} {n' : Led} (l : Led) (s : l.Sublist n) (p : l.Perm n') (h : HoL bz prog w A g L env target body it P k m n') : HoL bz prog w A g L env target body it P k m n := by
  cases k with
  | zero => exact h.elim
  | succ k => exact ho_perm l s p h
noncomputable def TurnP (J : FMap → Led → Prop) (I : Led) (P : Flow → FMap → Led → Prop) : Flow → FMap → Led → Prop := fun f m n => match f with
  | .next => ∃ l n', List.Sublist l n ∧ l.Perm (I ++ n') ∧ J m n'
  | .cont => ∃ l n', List.Sublist l n ∧ l.Perm (I ++ n') ∧ J m n'
  | .brk => P .next m n
  | .ret v => P (.ret v) m n
theorem turnP_next {J : FMap → Led → Prop} {I : Led} (l n' : Led) (s : l.Sublist n) (p : l.Perm (I ++ n')) (h : J m n') : TurnP J I P .next m n := ⟨l, n', s, p, h⟩
theorem turnP_cont {J : FMap → Led → Prop} {I : Led} (l n' : Led) (s : l.Sublist n) (p : l.Perm (I ++ n')) (h : J m n') : TurnP J I P .cont m n := ⟨l, n', s, p, h⟩
theorem hl_listP {body : List Stmt} {I a : Addr} {vs : List Value} {kk : Nat} {o : Obj} (J : Nat → FMap → Led → Prop) (hh : A.handled = none) (ho : ItO "list_iterator" (.ref a) 0 o) (hm : ∀ i m n, J i m n → (a, lstO vs kk) ∈ n) (h0 : J 0 m n)
    (turn : ∀ i v m n o, vs[i]? = some v → J i m n → Ho bz prog w A g L m ((I, o) :: n) (assign (.Name x pos) env v) (Kthen bz prog w A g L (execs body env) (TurnP (J (i + 1)) [(I, o)] P)))
    (done : ∀ m n, J vs.length m n → P .next m n) : ∃ k, HoL bz prog w A g L env (.Name x pos) body (.ref I) P k m ((I, o) :: n) := by
  have key : ∀ (r i : Nat) (m : FMap) (n : Led) (o : Obj), i + r = vs.length → ItO "list_iterator" (.ref a) i o → J i m n → HoL bz prog w A g L env (.Name x pos) body (.ref I) P (r + 1) m ((I, o) :: n) := by
    intro r
    induction r with
    | zero =>
      intro i m n o e ho hj
      refine hl_step (pn_list0 hh (.head _) ho (.tail _ (hm i m n hj)) (by simp; omega) .head ?_)
      have : i = vs.length := by omega
      exact done m n (this ▸ hj)
    | succ r ih =>
      intro i m n o e ho hj
      have hi : i < vs.length := by omega
      refine hl_step (pn_list .head ho (.tail _ (hm i m n hj)) (List.getElem?_eq_getElem hi) fun o' ho' => hg_name ((turn i _ m n o' (List.getElem?_eq_getElem hi) hj).mono fun _ m n h => h.mono fun f m n h => ?_))
      have go : ∀ (l : Led) n', l.Sublist n → l.Perm ([(I, o')] ++ n') → J (i + 1) m n' → HoL bz prog w A g L env (.Name x pos) body (.ref I) P (r + 1) m n := fun l n' s p hj' => HoL.perm l s p (ih (i + 1) m n' o' (by omega) ho' hj')
      cases f with
      | next => obtain ⟨l, n', s, p, hj'⟩ := h; exact go l n' s p hj'
      | cont => obtain ⟨l, n', s, p, hj'⟩ := h; exact go l n' s p hj'
      | brk => exact h
      | ret v => exact h
  exact ⟨_, key vs.length 0 m n o (by omega) ho h0⟩
theorem hl_listPT {body : List Stmt} {I a : Addr} {vs : List Value} {kk : Nat} {o : Obj} (J : Nat → FMap → Led → Prop) (hh : A.handled = none) (ho : ItO "list_iterator" (.ref a) 0 o) (hm : ∀ i m n, J i m n → (a, lstO vs kk) ∈ n) (h0 : J 0 m n)
    (turn : ∀ i v m n o (T : Flow → FMap → Led → Prop), vs[i]? = some v → J i m n → (∀ f m n, TurnP (J (i + 1)) [(I, o)] P f m n → T f m n) → Ho bz prog w A g L m ((I, o) :: n) (assign (.Name x pos) env v) (Kthen bz prog w A g L (execs body env) T))
    (done : ∀ m n, J vs.length m n → P .next m n) : ∃ k, HoL bz prog w A g L env (.Name x pos) body (.ref I) P k m ((I, o) :: n) :=
  hl_listP J hh ho hm h0 (fun i v m n o e0 e1 => turn i v m n o _ e0 e1 fun _ _ _ h => h) done
theorem hl_rangeP {body : List Stmt} {I : Addr} {y d : Int} (k : Nat) (J : Nat → FMap → Led → Prop) (hh : A.handled = none) (h0 : J 0 m n)
    (turn : ∀ i m n t o, i < k → J i m n → Ho bz prog w A g L m ((I, o) :: n) (assign (.Name x pos) env (.int (y + i * d) t)) (Kthen bz prog w A g L (execs body env) (TurnP (J (i + 1)) [(I, o)] P)))
    (done : ∀ m n, J k m n → P .next m n) : ∃ k', HoL bz prog w A g L env (.Name x pos) body (.ref I) P k' m ((I, ritO y k d) :: n) := by
  have key : ∀ (r i : Nat) (m : FMap) (n : Led), i + r = k → J i m n → HoL bz prog w A g L env (.Name x pos) body (.ref I) P (r + 1) m ((I, ritO (y + i * d) r d) :: n) := by
    intro r
    induction r with
    | zero =>
      intro i m n e hj
      refine hl_step (pn_range0 hh (.head _) (by simp) .head ?_)
      have : i = k := by omega
      exact done m n (this ▸ hj)
    | succ r ih =>
      intro i m n e hj
      refine hl_step (pn_range .head (by omega) fun t => hg_name ((turn i m n t _ (by omega) hj).mono fun _ m n h => h.mono fun f m n h => ?_))
      have go : ∀ (l : Led) n', l.Sublist n → l.Perm ([(I, ritO (y + i * d + d) ((r + 1 : Nat) - 1 : Int) d)] ++ n') → J (i + 1) m n' → HoL bz prog w A g L env (.Name x pos) body (.ref I) P (r + 1) m n := fun l n' s p hj' => by
        have e1 : y + (i : Int) * d + d = y + ((i + 1 : Nat) : Int) * d := by rw [Int.natCast_add]; simp [Int.add_mul, Int.add_assoc]
        have e2 : ((r + 1 : Nat) : Int) - 1 = (r : Int) := by omega
        rw [e1, e2] at p
        exact HoL.perm l s p (ih (i + 1) m n' (by omega) hj')
      cases f with
      | next => obtain ⟨l, n', s, p, hj'⟩ := h; exact go l n' s p hj'
      | cont => obtain ⟨l, n', s, p, hj'⟩ := h; exact go l n' s p hj'
      | brk => exact h
      | ret v => exact h
  have := key k 0 m n (by omega) h0
  simp only [Int.natCast_zero, Int.zero_mul, Int.add_zero] at this
  exact ⟨_, this⟩
theorem hl_rangePT {body : List Stmt} {I : Addr} {y d : Int} (k : Nat) (J : Nat → FMap → Led → Prop) (hh : A.handled = none) (h0 : J 0 m n)
    (turn : ∀ i m n t o (T : Flow → FMap → Led → Prop), i < k → J i m n → (∀ f m n, TurnP (J (i + 1)) [(I, o)] P f m n → T f m n) → Ho bz prog w A g L m ((I, o) :: n) (assign (.Name x pos) env (.int (y + i * d) t)) (Kthen bz prog w A g L (execs body env) T))
    (done : ∀ m n, J k m n → P .next m n) : ∃ k', HoL bz prog w A g L env (.Name x pos) body (.ref I) P k' m ((I, ritO y k d) :: n) :=
  hl_rangeP k J hh h0 (fun i m n t o e0 e1 => turn i m n t o _ e0 e1 fun _ _ _ h => h) done
theorem hg_list {elts : List Expr} {k : Nat} {I T a : Addr} {i : Nat} {o : Obj} (hm : (I, o) ∈ n) (ho : ItO "list_iterator" (.ref a) i o) (h : U () m n) : Ho bz prog w A g L m n (letOwnedTupleGo (.Tuple elts k pos) (.ref I) (.ref T)) U :=
  Ho.mk fun _ _ _ _ _ _ _ F N q => wpAny_letOwnedTupleGo_listiter ⟨o, (N.news _ hm).1, ho⟩ (q _ _ _ _ _ F N h)
theorem hl_listT {elts : List Expr} {k : Nat} {body : List Stmt} {I a : Addr} {vs : List Value} {kk : Nat} {o : Obj} (J : Nat → FMap → Led → Prop) (hh : A.handled = none) (ho : ItO "list_iterator" (.ref a) 0 o) (hm : ∀ i m n, J i m n → (a, lstO vs kk) ∈ n) (h0 : J 0 m n)
    (hv : ∀ (i : Nat) (v : Value), vs[i]? = some v → ∃ T, v = Value.ref T)
    (turn : ∀ i T m n o, vs[i]? = some (.ref T) → J i m n → Ho bz prog w A g L m ((I, o) :: n) (assign (.Tuple elts k pos) env (.ref T)) (Kthen bz prog w A g L (execs body env) (TurnP (J (i + 1)) [(I, o)] P)))
    (done : ∀ m n, J vs.length m n → P .next m n) : ∃ k', HoL bz prog w A g L env (.Tuple elts k pos) body (.ref I) P k' m ((I, o) :: n) := by
  have key : ∀ (r i : Nat) (m : FMap) (n : Led) (o : Obj), i + r = vs.length → ItO "list_iterator" (.ref a) i o → J i m n → HoL bz prog w A g L env (.Tuple elts k pos) body (.ref I) P (r + 1) m ((I, o) :: n) := by
    intro r
    induction r with
    | zero =>
      intro i m n o e ho hj
      refine hl_step (pn_list0 hh (.head _) ho (.tail _ (hm i m n hj)) (by simp; omega) .head ?_)
      have : i = vs.length := by omega
      exact done m n (this ▸ hj)
    | succ r ih =>
      intro i m n o e ho hj
      have hi : i < vs.length := by omega
      obtain ⟨T, hT⟩ := hv i _ (List.getElem?_eq_getElem hi)
      refine hl_step (pn_list .head ho (.tail _ (hm i m n hj)) (v := .ref T) (by rw [List.getElem?_eq_getElem hi, hT]) fun o' ho' => hg_list (.head _) ho' ((turn i T m n o' (by rw [List.getElem?_eq_getElem hi, hT]) hj).mono fun _ m n h => h.mono fun f m n h => ?_))
      have go : ∀ (l : Led) n', l.Sublist n → l.Perm ([(I, o')] ++ n') → J (i + 1) m n' → HoL bz prog w A g L env (.Tuple elts k pos) body (.ref I) P (r + 1) m n := fun l n' s p hj' => HoL.perm l s p (ih (i + 1) m n' o' (by omega) ho' hj')
      cases f with
      | next => obtain ⟨l, n', s, p, hj'⟩ := h; exact go l n' s p hj'
      | cont => obtain ⟨l, n', s, p, hj'⟩ := h; exact go l n' s p hj'
      | brk => exact h
      | ret v => exact h
  exact ⟨_, key vs.length 0 m n o (by omega) ho h0⟩
theorem hl_listTT {elts : List Expr} {k : Nat} {body : List Stmt} {I a : Addr} {vs : List Value} {kk : Nat} {o : Obj} (J : Nat → FMap → Led → Prop) (hh : A.handled = none) (ho : ItO "list_iterator" (.ref a) 0 o) (hm : ∀ i m n, J i m n → (a, lstO vs kk) ∈ n) (h0 : J 0 m n)
    (hv : ∀ (i : Nat) (v : Value), vs[i]? = some v → ∃ T, v = Value.ref T)
    (turn : ∀ i T m n o (Z : Flow → FMap → Led → Prop), vs[i]? = some (.ref T) → J i m n → (∀ f m n, TurnP (J (i + 1)) [(I, o)] P f m n → Z f m n) → Ho bz prog w A g L m ((I, o) :: n) (assign (.Tuple elts k pos) env (.ref T)) (Kthen bz prog w A g L (execs body env) Z))
    (done : ∀ m n, J vs.length m n → P .next m n) : ∃ k', HoL bz prog w A g L env (.Tuple elts k pos) body (.ref I) P k' m ((I, o) :: n) :=
  hl_listT J hh ho hm h0 hv (fun i T m n o e0 e1 => turn i T m n o _ e0 e1 fun _ _ _ h => h) done
noncomputable def LsO (o : Obj) (vs : List Value) : Prop := o.cls = .type "list" ∧ ∃ k, o.data = .seq vs.toArray k
theorem LsO.of {vs : List Value} {k : Nat} : LsO (lstO vs k) vs := ⟨rfl, k, rfl⟩
theorem ho_liO {a : Addr} {o : Obj} {vs : List Value} {i : Int} {yv : Value} {value slice : Expr} (hm : (a, o) ∈ n) (ho : LsO o vs) (h1 : 0 ≤ i) (h2 : i < 2 ^ 63) (hy : vs[i.toNat]? = some yv) (h : V yv m n)
    (hs : subscripted slice false (.ref a) (.int i t) = operate [.ref a, .int i t] (getItem (.ref a) (.int i t)) := by with_unfolding_all rfl) :
    Ho bz prog w A g L m n (subscriptTail value slice (.ref a) (.int i t)) V :=
  Ho.mk fun _ _ _ _ _ _ _ F N q =>
    have hl : Heap.IsList _ a vs.toArray := ⟨o, (N.news _ hm).1, ho.1, ho.2⟩
    tail_any hl.typeIs slot_list_getitem.lookup (wpAny_getItem_list hl h1 h2 (by simpa using hy) (q _ _ _ _ _ F N h)) hs
theorem ho_lsetO {a : Addr} {o : Obj} {f : Obj → Led} {vs : List Value} {i : Int} {v : Value} (X : UpL a o n f) (ho : LsO o vs) (h1 : 0 ≤ i) (h2 : i < 2 ^ 63) (h3 : i < (vs.length : Int)) (h : ∀ o', LsO o' (vs.set i.toNat v) → U () m (f o')) : Ho bz prog w A g L m n (setItem (.ref a) (.int i t) v) U :=
  Ho.mk fun _ _ _ _ _ _ _ F N q => by
    refine wpAny_setItem_list ⟨o, (N.news _ X.mem).1, ho.1, ho.2⟩ h1 h2 (by simpa using h3) fun h' hl hs => ?_
    obtain ⟨o', e', hc, k, hd⟩ := hl
    exact q _ _ _ _ _ (Fr.but F (N.news _ X.mem).2.1 (N.news _ X.mem).2.2 fun b x hb e => (hs.2 b hb).trans e) (N.upd X e' fun b x hb e => (hs.2 b hb).trans e) (h o' ⟨hc, k, by rw [hd]; simp⟩)
theorem Nw.bulk {h h' : Heap} {pre pre' : Led} {c : Addr} {oc : Obj} (F : Fr g L h m) (N : Nw g L h (pre ++ n)) (hc : c = h.objs.size) (ec : h'.get? c = some oc) (ks : pre'.map (·.1) = pre.map (·.1)) (e : ∀ p ∈ pre', h'.get? p.1 = some p.2) (k : ∀ d o, d ∉ pre.map (·.1) → h.get? d = some o → h'.get? d = some o) :
    Fr g L h' m ∧ Nw g L h' ((c, oc) :: (pre' ++ n)) := by
  subst hc
  have mem : ∀ d ∈ pre.map (·.1), ∃ o, h.get? d = some o ∧ d ≠ L ∧ g.get? d = none := fun d hd => by
    obtain ⟨p, hp, rfl⟩ := List.mem_map.mp hd
    have := N.news p (List.mem_append_left _ hp)
    exact ⟨_, this.1, this.2⟩
  have gn : g.get? h.objs.size = none := by
    cases z : g.get? h.objs.size with
    | none => rfl
    | some y => exact absurd (Heap.lt_size (F.keep _ _ z)) (Nat.lt_irrefl _)
  have nd : ((pre' ++ n).map (·.1)) = (pre ++ n).map (·.1) := by rw [List.map_append, ks, List.map_append]
  have dj : ∀ p ∈ n, p.1 ∉ pre.map (·.1) := fun p hp q => by
    have := N.nd
    rw [List.map_append, List.nodup_append] at this
    exact this.2.2 _ q _ (List.mem_map_of_mem hp) rfl
  refine ⟨⟨F.ns.at' fun o q => k _ _ (fun z => (mem _ z).choose_spec.2.1 rfl) q, fun b o q => k b o (fun z => by have := (mem _ z).choose_spec.2.2; rw [this] at q; cases q) (F.keep b o q), F.above⟩, ⟨fun p hp => ?_, ?_⟩⟩
  · rcases List.mem_cons.mp hp with rfl | hp
    · exact ⟨ec, fun q => absurd F.ns.lt (by rw [← q]; exact Nat.lt_irrefl _), gn⟩
    rcases List.mem_append.mp hp with hp | hp
    · have : p.1 ∈ pre.map (·.1) := ks ▸ List.mem_map_of_mem hp
      exact ⟨e p hp, (mem _ this).choose_spec.2⟩
    · have mp := N.news p (List.mem_append_right _ hp)
      exact ⟨k _ _ (dj p hp) mp.1, mp.2⟩
  · rw [List.map_cons, nd]
    refine List.nodup_cons.mpr ⟨fun q => ?_, N.nd⟩
    obtain ⟨p, hp, q⟩ := List.mem_map.mp q
    exact N.old hp q
noncomputable abbrev zpO (TI TO : Addr) (f0 : Value) : Obj := { cls := .type "zip", dict := none, data := .fields #[f0, .bool false, .bool false, .ref TI, .ref TO], slots := #[] }
noncomputable abbrev zpL (z TI TO i1 i2 : Addr) (f0 a b : Value) (o1 o2 : Obj) : Led := [(z, zpO TI TO f0), (TI, tupO [.ref i1, .ref i2]), (TO, tupO [a, b]), (i1, o1), (i2, o2)]
variable {z TI TO i1 i2 l1 l2 T : Addr} {a b f0 : Value} {o1 o2 : Obj} {xs ys : List Value} {k1 k2 i : Nat}
theorem zp_apart {h : Heap} (N : Nw g L h (zpL z TI TO i1 i2 f0 a b o1 o2 ++ n)) (h1 : (l1, lstO xs k1) ∈ n) (h2 : (l2, lstO ys k2) ∈ n) : ZipApart z TI TO i1 i2 l1 l2 := by
  have nd := N.nd
  simp only [zpL, List.cons_append, List.nil_append, List.map_cons, List.nodup_cons, List.mem_cons, not_or] at nd
  have m1 : l1 ∈ n.map (·.1) := List.mem_map_of_mem h1
  have m2 : l2 ∈ n.map (·.1) := List.mem_map_of_mem h2
  obtain ⟨⟨a1, a2, a3, a4, a5⟩, ⟨b2, b3, b4, b5⟩, ⟨c3, c4, c5⟩, ⟨d4, d5⟩, e5, -⟩ := nd
  exact ⟨Ne.symm a1, Ne.symm a2, Ne.symm a3, Ne.symm a4, b2, b3, b4, c3, c4, d4, fun q => a5 (q ▸ m1), fun q => c5 (q ▸ m1), fun q => d5 (q ▸ m1), fun q => e5 (q ▸ m1), fun q => a5 (q ▸ m2), fun q => c5 (q ▸ m2), fun q => d5 (q ▸ m2), fun q => e5 (q ▸ m2)⟩
theorem ho_zip (h1 : (l1, lstO xs k1) ∈ n) (h2 : (l2, lstO ys k2) ∈ n) (h : ∀ z TI TO i1 i2 o1 o2, ItO "list_iterator" (.ref l1) 0 o1 → ItO "list_iterator" (.ref l2) 0 o2 → V (.ref z) m (zpL z TI TO i1 i2 .none .none .none o1 o2 ++ n)) : Ho bz prog w A g L m n (call (.type "zip") [.ref l1, .ref l2]) V :=
  Ho.mk fun hh ge dr tk os Q E F N q => by
    refine call_zip_2 (isList_of (N.news _ h1).1) (isList_of (N.news _ h2).1) fun h' hz hTI hTO hi1 hi2 hsz hk => ?_
    obtain ⟨o1, e1, it1⟩ := hi1
    obtain ⟨o2, e2, it2⟩ := hi2
    have gn : ∀ j, g.get? (hh.objs.size + j) = none := fun j => by
      cases z : g.get? (hh.objs.size + j) with
      | none => rfl
      | some y => exact absurd (Heap.lt_size (F.keep _ _ z)) (Nat.not_lt.mpr (Nat.le_add_right _ _))
    have Ln : ∀ j, hh.objs.size + j ≠ L := fun j q => absurd (show L < hh.objs.size from F.ns.lt) (by rw [← q]; exact Nat.not_lt.mpr (Nat.le_add_right _ _))
    have old : ∀ j, ∀ p ∈ n, p.1 ≠ hh.objs.size + j := fun j p hp q => absurd (Heap.lt_size (N.news p hp).1) (by rw [q]; exact Nat.not_lt.mpr (Nat.le_add_right _ _))
    have N' : Nw g L h' (zpL (hh.objs.size + 4) (hh.objs.size + 2) (hh.objs.size + 3) hh.objs.size (hh.objs.size + 1) .none .none .none o1 o2 ++ n) := ?_
    · exact q _ _ _ _ _ (Fr.kept F hk) N' (h _ _ _ _ _ _ _ it1 it2)
    refine ⟨fun p hp => ?_, ?_⟩
    · simp only [zpL, List.cons_append, List.nil_append, List.mem_cons] at hp
      rcases hp with rfl | rfl | rfl | rfl | rfl | hp
      · exact ⟨hz, Ln 4, gn 4⟩
      · exact ⟨hTI, Ln 2, gn 2⟩
      · exact ⟨hTO, Ln 3, gn 3⟩
      · exact ⟨e1, Ln 0, gn 0⟩
      · exact ⟨e2, Ln 1, gn 1⟩
      · exact ⟨hk _ _ (N.news p hp).1, (N.news p hp).2⟩
    · simp only [zpL, List.cons_append, List.nil_append, List.map_cons, List.nodup_cons, List.mem_cons, not_or]
      have nm : ∀ j, hh.objs.size + j ∉ n.map (·.1) := fun j q => by
        obtain ⟨p, hp, e⟩ := List.mem_map.mp q
        exact old j p hp e
      have dj : ∀ i j : Nat, i ≠ j → hh.objs.size + i ≠ hh.objs.size + j := fun i j h q => h (Nat.add_left_cancel q)
      exact ⟨⟨dj 4 2 (by decide), dj 4 3 (by decide), dj 4 0 (by decide), dj 4 1 (by decide), nm 4⟩, ⟨dj 2 3 (by decide), dj 2 0 (by decide), dj 2 1 (by decide), nm 2⟩, ⟨dj 3 0 (by decide), dj 3 1 (by decide), nm 3⟩, ⟨dj 0 1 (by decide), nm 0⟩, nm 1, N.nd⟩
theorem pi_zip (h : V (.ref z) m (zpL z TI TO i1 i2 f0 a b o1 o2 ++ n)) : Ho bz prog w A g L m (zpL z TI TO i1 i2 f0 a b o1 o2 ++ n) (pyIter (.ref z)) V :=
  Ho.mk fun _ _ _ _ _ _ _ F N q => wpAny_pyIter_zip (N.news (z, zpO TI TO f0) (.head _)).1 (q _ _ _ _ _ F N h)
theorem pn_zip {x y : Value} (h1 : (l1, lstO xs k1) ∈ n) (h2 : (l2, lstO ys k2) ∈ n) (t1 : ItO "list_iterator" (.ref l1) i o1) (t2 : ItO "list_iterator" (.ref l2) i o2) (hx : xs[i]? = some x) (hy : ys[i]? = some y)
    (h : ∀ T o1' o2', ItO "list_iterator" (.ref l1) (i + 1) o1' → ItO "list_iterator" (.ref l2) (i + 1) o2' → R (some (.ref T)) m ((T, tupO [x, y]) :: (zpL z TI TO i1 i2 (rawInt T) x y o1' o2' ++ n))) :
    Ho bz prog w A g L m (zpL z TI TO i1 i2 .none a b o1 o2 ++ n) (pyNext (.ref z)) R :=
  Ho.mk fun hh ge dr tk os Q E F N q => by
    have D := zp_apart N h1 h2
    refine wpAny_pyNext_zip_item D (N.news (z, zpO TI TO .none) (.head _)).1 (N.news (TI, tupO [.ref i1, .ref i2]) (.tail _ (.head _))).1 (N.news (TO, tupO [a, b]) (.tail _ (.tail _ (.head _)))).1
      ⟨o1, (N.news (i1, o1) (.tail _ (.tail _ (.tail _ (.head _))))).1, t1⟩ ⟨o2, (N.news (i2, o2) (.tail _ (.tail _ (.tail _ (.tail _ (.head _)))))).1, t2⟩ (isList_of (N.news _ (List.mem_append_right _ h1)).1) (isList_of (N.news _ (List.mem_append_right _ h2)).1) (by simpa using hx) (by simpa using hy) fun h' a1 a2 a3 a4 a5 a6 hk => ?_
    obtain ⟨o1', e1, it1⟩ := a3
    obtain ⟨o2', e2, it2⟩ := a4
    have eTI : h'.get? TI = some (tupO [.ref i1, .ref i2]) := hk _ _ D.TIz D.TITO D.TIi1 D.TIi2 (N.news (TI, tupO [.ref i1, .ref i2]) (.tail _ (.head _))).1
    obtain ⟨F', N'⟩ := Nw.bulk (pre' := zpL z TI TO i1 i2 (rawInt hh.objs.size) x y o1' o2') F N rfl a5 rfl (fun p hp => by
      simp only [zpL, List.mem_cons, List.not_mem_nil, or_false] at hp
      rcases hp with rfl | rfl | rfl | rfl | rfl
      · exact a1
      · exact eTI
      · exact a2
      · exact e1
      · exact e2) fun d o hd hg => by
        simp only [zpL, List.map_cons, List.map_nil, List.mem_cons, List.not_mem_nil, or_false, not_or] at hd
        exact hk d o hd.1 hd.2.2.1 hd.2.2.2.1 hd.2.2.2.2 hg
    exact q _ _ _ _ _ F' N' (h _ _ _ it1 it2)
theorem pn_zip0 (hh : A.handled = none) (h1 : (l1, lstO xs k1) ∈ n) (h2 : (l2, lstO ys k2) ∈ n) (t1 : ItO "list_iterator" (.ref l1) i o1) (t2 : ItO "list_iterator" (.ref l2) i o2) (hx : xs[i]? = none) (h : R none m n) :
    Ho bz prog w A g L m (zpL z TI TO i1 i2 .none a b o1 o2 ++ n) (pyNext (.ref z)) R :=
  Ho.mk fun hp ge dr tk os Q E F N q => by
    have D := zp_apart N h1 h2
    refine wpAny_pyNext_zip_end hh D (N.news (z, zpO TI TO .none) (.head _)).1 (N.news (TI, tupO [.ref i1, .ref i2]) (.tail _ (.head _))).1 (N.news (TO, tupO [a, b]) (.tail _ (.tail _ (.head _)))).1
      ⟨o1, (N.news (i1, o1) (.tail _ (.tail _ (.tail _ (.head _))))).1, t1⟩ ⟨o2, (N.news (i2, o2) (.tail _ (.tail _ (.tail _ (.tail _ (.head _)))))).1, t2⟩ (isList_of (N.news _ (List.mem_append_right _ h1)).1) (isList_of (N.news _ (List.mem_append_right _ h2)).1) (.inl (by simpa using hx)) fun h' hk => ?_
    have mem : ∀ d, (d = z ∨ d = TO ∨ d = i1 ∨ d = i2) → d ≠ L ∧ g.get? d = none := fun d hd => by
      rcases hd with rfl | rfl | rfl | rfl
      · exact (N.news (d, zpO TI TO .none) (.head _)).2
      · exact (N.news (d, tupO [a, b]) (.tail _ (.tail _ (.head _)))).2
      · exact (N.news (d, o1) (.tail _ (.tail _ (.tail _ (.head _))))).2
      · exact (N.news (d, o2) (.tail _ (.tail _ (.tail _ (.tail _ (.head _)))))).2
    have nd := N.nd
    simp only [zpL, List.cons_append, List.nil_append, List.map_cons, List.nodup_cons, List.mem_cons, not_or] at nd
    have N' : Nw g L h' n := ?_
    · refine q _ _ _ _ _ ⟨F.ns.at' fun o e => hk _ _ (fun z => (mem _ (.inl z)).1 rfl) (fun z => (mem _ (.inr (.inl z))).1 rfl) (fun z => (mem _ (.inr (.inr (.inl z)))).1 rfl) (fun z => (mem _ (.inr (.inr (.inr z)))).1 rfl) e, fun b o e => ?_, F.above⟩ N' h
      refine hk b o (fun z => ?_) (fun z => ?_) (fun z => ?_) (fun z => ?_) (F.keep b o e)
      · rw [(mem _ (.inl z)).2] at e; cases e
      · rw [(mem _ (.inr (.inl z))).2] at e; cases e
      · rw [(mem _ (.inr (.inr (.inl z)))).2] at e; cases e
      · rw [(mem _ (.inr (.inr (.inr z)))).2] at e; cases e
    refine ⟨fun p hp => ?_, nd.2.2.2.2.2⟩
    have mp := N.news p (List.mem_append_right _ hp)
    have hpn : p.1 ∈ n.map (·.1) := List.mem_map_of_mem hp
    obtain ⟨⟨a1, a2, a3, a4, a5⟩, ⟨b2, b3, b4, b5⟩, ⟨c3, c4, c5⟩, ⟨d4, d5⟩, e5, -⟩ := nd
    exact ⟨hk _ _ (fun q => a5 (q ▸ hpn)) (fun q => c5 (q ▸ hpn)) (fun q => d5 (q ▸ hpn)) (fun q => e5 (q ▸ hpn)) mp.1, mp.2⟩
theorem hg_zip {elts : List Expr} {k : Nat} {f : Obj → Led} (X : UpL z (zpO TI TO (rawInt T)) n f) (h : U () m (f (zpO TI TO .none))) : Ho bz prog w A g L m n (letOwnedTupleGo (.Tuple elts k pos) (.ref z) (.ref T)) U :=
  Ho.mk fun hp ge dr tk os Q E F N q => wpAny_letOwnedTupleGo_zip (N.news _ X.mem).1 fun h' he' hs => q _ _ _ _ _ (Fr.but F (N.news _ X.mem).2.1 (N.news _ X.mem).2.2 fun b x hb e => (hs.2 b hb).trans e) (N.upd X he' fun b x hb e => (hs.2 b hb).trans e) h
theorem hl_zip {elts : List Expr} {k : Nat} {body : List Stmt} (J : Nat → FMap → Led → Prop) (hh : A.handled = none) (t1 : ItO "list_iterator" (.ref l1) 0 o1) (t2 : ItO "list_iterator" (.ref l2) 0 o2) (hm1 : ∀ i m n, J i m n → (l1, lstO xs k1) ∈ n) (hm2 : ∀ i m n, J i m n → (l2, lstO ys k2) ∈ n) (hl : xs.length = ys.length) (h0 : J 0 m n)
    (turn : ∀ i x y T pre m n, xs[i]? = some x → ys[i]? = some y → J i m n → Ho bz prog w A g L m ((T, tupO [x, y]) :: (pre ++ n)) (assign (.Tuple elts k pos) env (.ref T)) (Kthen bz prog w A g L (execs body env) (TurnP (J (i + 1)) pre P)))
    (done : ∀ m n, J xs.length m n → P .next m n) : ∃ k', HoL bz prog w A g L env (.Tuple elts k pos) body (.ref z) P k' m (zpL z TI TO i1 i2 .none a b o1 o2 ++ n) := by
  have key : ∀ (r i : Nat) (m : FMap) (n : Led) (a b : Value) (o1 o2 : Obj), i + r = xs.length → ItO "list_iterator" (.ref l1) i o1 → ItO "list_iterator" (.ref l2) i o2 → J i m n → HoL bz prog w A g L env (.Tuple elts k pos) body (.ref z) P (r + 1) m (zpL z TI TO i1 i2 .none a b o1 o2 ++ n) := by
    intro r
    induction r with
    | zero =>
      intro i m n a b o1 o2 e t1 t2 hj
      have : i = xs.length := by omega
      refine hl_step (pn_zip0 hh (hm1 i m n hj) (hm2 i m n hj) t1 t2 (by simp; omega) ?_)
      exact done m n (this ▸ hj)
    | succ r ih =>
      intro i m n a b o1 o2 e t1 t2 hj
      have hi : i < xs.length := by omega
      have hi2 : i < ys.length := by omega
      refine hl_step (pn_zip (hm1 i m n hj) (hm2 i m n hj) t1 t2 (List.getElem?_eq_getElem hi) (List.getElem?_eq_getElem hi2) fun T o1' o2' t1' t2' => hg_zip (.tail .head) ?_)
      refine Ho.mono (turn i xs[i] ys[i] T (zpL z TI TO i1 i2 .none xs[i] ys[i] o1' o2') m n (List.getElem?_eq_getElem hi) (List.getElem?_eq_getElem hi2) hj) fun _ m n h => h.mono fun f m n h => ?_
      have go : ∀ (l : Led) n', l.Sublist n → l.Perm (zpL z TI TO i1 i2 .none xs[i] ys[i] o1' o2' ++ n') → J (i + 1) m n' → HoL bz prog w A g L env (.Tuple elts k pos) body (.ref z) P (r + 1) m n := fun l n' s p hj' => HoL.perm l s p (ih (i + 1) m n' xs[i] ys[i] o1' o2' (by omega) t1' t2' hj')
      cases f with
      | next => obtain ⟨l, n', s, p, hj'⟩ := h; exact go l n' s p hj'
      | cont => obtain ⟨l, n', s, p, hj'⟩ := h; exact go l n' s p hj'
      | brk => exact h
      | ret v => exact h
  exact ⟨_, key xs.length 0 m n a b o1 o2 (by omega) t1 t2 h0⟩
theorem hl_zipT {elts : List Expr} {k : Nat} {body : List Stmt} (J : Nat → FMap → Led → Prop) (hh : A.handled = none) (t1 : ItO "list_iterator" (.ref l1) 0 o1) (t2 : ItO "list_iterator" (.ref l2) 0 o2) (hm1 : ∀ i m n, J i m n → (l1, lstO xs k1) ∈ n) (hm2 : ∀ i m n, J i m n → (l2, lstO ys k2) ∈ n) (hl : xs.length = ys.length) (h0 : J 0 m n)
    (turn : ∀ i x y T pre m n (Z : Flow → FMap → Led → Prop), xs[i]? = some x → ys[i]? = some y → J i m n → (∀ f m n, TurnP (J (i + 1)) pre P f m n → Z f m n) → Ho bz prog w A g L m ((T, tupO [x, y]) :: (pre ++ n)) (assign (.Tuple elts k pos) env (.ref T)) (Kthen bz prog w A g L (execs body env) Z))
    (done : ∀ m n, J xs.length m n → P .next m n) : ∃ k', HoL bz prog w A g L env (.Tuple elts k pos) body (.ref z) P k' m (zpL z TI TO i1 i2 .none a b o1 o2 ++ n) :=
  hl_zip J hh t1 t2 hm1 hm2 hl h0 (fun i x y T pre m n e0 e1 e2 => turn i x y T pre m n _ e0 e1 e2 fun _ _ _ h => h) done
end
end
section
open PySem PySem.Calls PySem.W PyProof.Rows
section
variable {bz : Bool} {prog : Program} {w : World} {A : Around} {g : Heap} {L : Addr} {m : FMap} {n : Led} {env : Env} {V : Value → FMap → Led → Prop} {U : Unit → FMap → Led → Prop} {K : Frag} {p : Program} {loose : List Str} {pos : Pos}
theorem Gd.nolimit (G : Gd K p loose g) : g.NoLimit := let ⟨_, _, T⟩ := G.R; T.nolimit
theorem he_dict0 (G : Gd K p loose g) (h : ∀ D o, o.IsDictOf (PySem.strKind prog w) [] → (∀ p ∈ n, p.1 ≠ D) → V (.ref D) m ((D, o) :: n)) : Ho bz prog w A g L m n (eval (.Dict [] [] pos) env) V :=
  Ho.mk fun hh ge dr tk os Q E F N q => Dict_empty_made2 F N.news (modules_low G.nolimit) fun h' o F' N' _ hd _ _ _ nd => q _ _ _ _ _ F' ⟨N', List.nodup_cons.mpr ⟨fun e => by
    obtain ⟨p, hp, e⟩ := List.mem_map.mp e
    exact nd p hp e, N.nd⟩⟩ (h _ _ hd nd)
theorem he_dict3 {k1 k2 k3 : Str} {v1 v2 v3 : List UInt8} {j1 j2 j3 j4 j5 j6 : Nat} {p1 p2 p3 p4 p5 p6 : Pos} (G : Gd K p loose g) (hn : [k1, k2, k3].Nodup)
    (h : ∀ D o t1 t2 t3, o.IsDictOf (PySem.strKind prog w) [(k1, .bytes v1.toArray t1), (k2, .bytes v2.toArray t2), (k3, .bytes v3.toArray t3)] → (∀ p ∈ n, p.1 ≠ D) → V (.ref D) m ((D, o) :: n)) :
    Ho bz prog w A g L m n (eval (.Dict [some (.Constant (.str k1) j1 p1), some (.Constant (.str k2) j2 p2), some (.Constant (.str k3) j3 p3)] [.Constant (.bytes v1) j4 p4, .Constant (.bytes v2) j5 p5, .Constant (.bytes v3) j6 p6] pos) env) V :=
  Ho.mk fun hh ge dr tk os Q E F N q => by
    refine Dict_made_str (s := ⟨hh, ge, dr, tk, os⟩) rfl F rfl rfl (by simp) (by simp) fun F1 => ?_
    refine pairTrees_cons_walk (Calls.Constant_str (Constant_bytes (pairTrees_cons_walk (Calls.Constant_str (Constant_bytes (pairTrees_cons_walk (Calls.Constant_str (Constant_bytes (pairTrees_nil_walk ?_)))))))))
    refine kda_made_str (prog := prog) (w := w) F N.news G.nolimit rfl hn rfl fun h' o F' N' _ _ hd => ?_
    have nd : ∀ p ∈ n, p.1 ≠ hh.objs.size := fun _ hp => N.old hp
    exact q _ _ _ _ _ F' ⟨N', List.nodup_cons.mpr ⟨fun e => by
      obtain ⟨p, hp, e⟩ := List.mem_map.mp e
      exact nd p hp e, N.nd⟩⟩ (h _ _ _ _ _ hd nd)
end
end
section
open PySem PySem.Calls PySem.W PyProof.Rows
section
variable {α : Type} {bz : Bool} {prog : Program} {w : World} {A : Around} {g : Heap} {L : Addr} {m : FMap} {n : Led} {env : Env} {V : Value → FMap → Led → Prop} {U : Unit → FMap → Led → Prop} {B : Bool → FMap → Led → Prop} {K : Frag} {p : Program} {loose : List Str} {pos p' : Pos} {value slice : Expr} {x : Str} {v : Value} {t u : Tok} {i : Int}
theorem ho_subp {t : Sem α} {P : α → FMap → Led → Prop} (h : Ho bz prog w A g L m n t fun v m n => ∃ n' : Led, n'.Sublist n ∧ P v m n') : Ho bz prog w A g L m n t P :=
  ⟨fun _ _ _ _ _ _ _ F N q => h.run _ _ _ _ _ _ _ F N fun v m n h' tk' F N ⟨n', s, p⟩ => q v m n' h' tk' F (N.sub s) p⟩
theorem he_cutLG {sc : Addr} {its : Array Value} {hi : Expr} (hl : g.IsList sc its) (hz : its.size ≤ 100000)
    (h : Ho bz prog w A g L m n (eval value env) fun o m n => Ho bz prog w A g L m n (eval hi env) fun b m n => ∃ u k, o = .ref sc ∧ b = .int k u ∧ ∀ r, (∀ p ∈ n, p.1 ≠ r) → V (.ref r) m ((r, lstO (slicePick its none (some k) none).toList 0) :: n))
    (hs : ∀ (t : Addr) (a : Addr), subscripted (.Slice none (some hi) none p') false (.ref t) (.ref a) = operate [.ref a, .ref t] (getItem (.ref t) (.ref a)) := by intros; with_unfolding_all rfl)
    (hg : ∀ (t : Addr) r, letTemporaryGo value (.ref t) r = pure () := by intros; with_unfolding_all rfl) : Ho bz prog w A g L m n (eval (.Subscript value (.Slice none (some hi) none p') pos) env) V := by
  refine he_sub (h.mono fun o m n h => he_slice (hp_none (hp_some (h.mono fun b m n h => fun sl hsl => ?_))))
  obtain ⟨u, k, rfl, rfl, hV⟩ := h
  refine ho_drop ((sl, { cls := .type "slice", data := .fields #[.none, .int k u, .none] }) :: n) (List.Sublist.refl _) (Ho.mk fun h' ge dr tk os Q E F N q => ?_)
  have ht : Heap.IsList h' sc its := hl.at fun o e => F.keep _ o e
  refine subscriptTail_ops (s := ⟨h', ge, dr, tk, os⟩) ht.typeIs slot_list_getitem.lookup (wpAny_getItem_list_slice ht ⟨_, (N.news _ (.head _)).1, rfl, rfl⟩ .none (.int k u) .none (by simp) ?_ (by rw [sizeLine_eq]; omega)) (hs _ _) (hg _)
  have N' : Nw g L h' n := ⟨fun p hp => N.news p (.tail _ hp), (List.nodup_cons.mp N.nd).2⟩
  exact q _ _ _ _ _ (Fr.kept F fun _ _ e => Heap.get?_push_of_some _ e) (Nw.cons F N' (Heap.get?_push_size _ rfl) fun _ _ e => Heap.get?_push_of_some _ e) (hV _ fun _ hp => N'.old hp)
theorem ho_listC {a : Addr} {vs : List Value} {k : Nat} (hm : (a, lstO vs k) ∈ n) (hz : vs.length ≤ 100000) (h : ∀ D c, V (.ref D) m ((D, lstO vs c) :: n)) : Ho bz prog w A g L m n (call (.type "list") [.ref a]) V :=
  Ho.mk fun _ _ _ _ _ _ _ F N q => list_copyK F N.news (isList_of (N.news _ hm).1) (fun D c h' F' N' hD => q _ _ _ _ _ F' ⟨N', List.nodup_cons.mpr ⟨fun e => by
    obtain ⟨p, hp, e⟩ := List.mem_map.mp e
    exact Nat.ne_of_lt (hD p hp) e, N.nd⟩⟩ (h D c)) (by rw [sizeLine_eq]; simp; omega)
theorem ho_stc {c : Addr} {o : Obj} {f : Obj → Led} {v0 : Option Value} (X : UpL c o n f) (hd : o.data = .cell v0) (hc : env.cells.lookup x = some c) (h : ∀ o', o'.data = .cell (some v) → U () m (f o')) (hk : env.scope.kind = .function := by rfl) (hx : env.kindOf x = some .cell := by rfl) : Ho bz prog w A g L m n (storeName env x v) U :=
  Ho.mk fun _ _ _ _ _ _ _ F N q => wpAny_storeName_cell hk hx hc ⟨o, (N.news _ X.mem).1, hd⟩ fun h' hi hs => by
    obtain ⟨o', e', hd'⟩ := hi
    exact q _ _ _ _ _ (Fr.but F (N.news _ X.mem).2.1 (N.news _ X.mem).2.2 fun b x hb e => (hs.2 b hb).trans e) (N.upd X e' fun b x hb e => (hs.2 b hb).trans e) (h o' hd')
theorem he_not {e : Expr} (h : Ho bz prog w A g L m n (eval e env) fun v m n => Ho bz prog w A g L m n (unaryOp .Not v) V) : Ho bz prog w A g L m n (eval (.UnaryOp .Not e pos) env) V := by
  rw [arm_eval_UnaryOp]
  exact ho_bind (h.mono fun _ _ _ h => ho_sa (ho_hold h))
theorem ho_notB {b : Bool} (h : V (.bool (!b)) m n) : Ho bz prog w A g L m n (unaryOp .Not (.bool b)) V := by
  show Ho bz prog w A g L m n (do return .bool (!(← truthy (.bool b)))) V
  exact ho_bind (ho_tb (ho_pure h))
theorem ho_ninTI {a : Addr} {vs : List Value} (hm : (a, tupO vs) ∈ n) (hv : allI vs = true) (h : V (.bool (!vs.any (isI i))) m n) : Ho bz prog w A g L m n (compareOp .NotIn (.int i t) (.ref a)) V :=
  Ho.mk fun _ _ _ _ _ _ _ F N q => nin_tup (isI i) (by simpa using eqg_I hv) (isTup_of (N.news _ hm).1) (q _ _ _ _ _ F N (by simpa using h))
theorem ho_tiAny {a : Addr} {vs : List Value} (hm : (a, tupO vs) ∈ n) (h0 : 0 ≤ i) (h1 : i < (vs.length : Int)) (h2 : vs.length ≤ 1000) (h : ∀ y, y ∈ vs → V y m n)
    (hs : subscripted slice false (.ref a) (.int i t) = operate [.ref a, .int i t] (getItem (.ref a) (.int i t)) := by with_unfolding_all rfl) :
    Ho bz prog w A g L m n (subscriptTail value slice (.ref a) (.int i t)) V := by
  have hj : i.toNat < vs.length := by omega
  have e : seqIndex? i vs.length = some i.toNat := by
    obtain ⟨j, rfl⟩ := Int.eq_ofNat_of_zero_le h0
    simp only [Int.toNat_natCast] at hj ⊢
    unfold seqIndex?
    simp [hj, Nat.not_lt.mpr]
    try omega
  exact ho_ti hm (by omega) (by omega) e (List.getElem?_eq_getElem hj) (h _ (List.getElem_mem hj)) hs
theorem valueAt_stored {kvs : List (Str × Value)} {k y : Str} {v : Value} : valueAt (stored kvs k v) y = if k = y then some v else valueAt kvs y := by
  have key : ∀ l : List (Str × Value), valueAt (l.map fun kv => if kv.1 = k then (kv.1, v) else kv) y = if k = y then (if l.any (fun kv => kv.1 = k) = true then some v else none) else valueAt l y := by
    intro l
    induction l with
    | nil => by_cases h : k = y <;> simp [valueAt, h]
    | cons kv l ih =>
      obtain ⟨a, b⟩ := kv
      unfold valueAt at ih ⊢
      by_cases h : a = k
      · subst h
        by_cases h2 : a = y
        · subst h2; simp
        · simp [h2] at ih ⊢; exact ih
      · by_cases h2 : k = y
        · subst h2
          have hd : decide (a = k) = false := decide_eq_false h
          simp only [List.map_cons, List.any_cons, List.find?_cons, if_neg h, hd, Bool.false_or]
          simpa only [if_true] using ih
        · by_cases h3 : a = y
          · subst h3; simp [h, h2]
          · simp [h, h2, h3] at ih ⊢; exact ih
  unfold stored
  by_cases h : (kvs.any fun kv => kv.1 = k) = true
  · rw [if_pos h, key, if_pos h]
  · rw [if_neg h]
    unfold valueAt
    rw [List.find?_append]
    by_cases h2 : k = y
    · subst h2
      have : List.find? (fun kv : Str × Value => decide (kv.1 = k)) kvs = none := by
        rw [List.find?_eq_none]
        intro kv hkv hk
        exact h (List.any_eq_true.mpr ⟨kv, hkv, hk⟩)
      rw [this]; simp
    · simp [h2]
end
end
section
open PySem PySem.Calls PySem.W PyProof.Rows
section
variable {bz : Bool} {prog : Program} {w : World} {A : Around} {g : Heap} {L : Addr} {m : FMap} {n : Led} {env : Env} {V : Value → FMap → Led → Prop} {K : Frag} {p : Program} {loose : List Str} {pos : Pos} {P : Flow → FMap → Led → Prop}
theorem ho_comp_use {elt target iter : Expr} {ifs : List Expr} {scope : Scope} {cl : List (Str × Addr)} {u : Value → Sem Unit} (G : Gd K p loose g) (hclos : closureFor scope env = pure cl) 
    (hb : (scope.names.all (fun x => x.2 != .cell) && scope.kind == .function && scope.names.all (fun x => x.2 != .local || (relabel scope env).names.lookup x.1 == some .local)) = true)
    (h : Ho bz prog w A g L m n (eval iter env) fun x m n => Ho bz prog w A g L m n (pyIter x) fun it m n => ∀ D, (∀ p ∈ n, p.1 ≠ D) → ∃ W : Led → Prop, (∀ g' C, Gd K p loose g' → g.StaysIn g' →
      HoC bz prog w A g' C (lk []) ((D, lstO [] 0) :: n) (.compStart (.ListComp elt [⟨target, iter, ifs, 0⟩] scope pos) 0 it (.ref D) (compEnvC scope cl C env)) fun _ _ n' => W n') ∧
      ∀ n' C oC, W n' → Ho bz prog w A g L m ((C, oC) :: n') (u (.ref D)) fun _ m' n'' => ∃ n3, List.Sublist ((C, oC) :: n3) n'' ∧ V .none m' n3)
    (hs : ∀ x, foldedSetIterable iter env x = pure x := by intro _; rfl) :
    Ho bz prog w A g L m n (comprehension (.ListComp elt [⟨target, iter, ifs, 0⟩] scope pos) scope env (firstIterPos [⟨target, iter, ifs, 0⟩] pos) (newList []) (firstAsync [⟨target, iter, ifs, 0⟩]) (firstIter [⟨target, iter, ifs, 0⟩] env) (some u)) V := by
  simp only [Bool.and_eq_true, beq_iff_eq] at hb
  obtain ⟨⟨h1, hkind⟩, h3⟩ := hb
  have hcell : ∀ x ∈ scope.names, x.2 ≠ .cell := fun x hx => by simpa using List.all_eq_true.mp h1 x hx
  have hnames : ∀ x ∈ scope.names, x.2 = .local → (relabel scope env).names.lookup x.1 = some .local := fun x hx e => by simpa [e] using List.all_eq_true.mp h3 x hx
  clear h1 h3
  unfold comprehension
  refine ho_bind (h.mono fun x _ _ h => ho_sa ?_)
  show Ho bz prog w A g L _ _ (foldedSetIterable iter env x >>= _) V
  rw [hs x]
  refine ho_bind (ho_pure (ho_bind (ho_hold (h.mono fun it m n h => ?_))))
  simp only [Option.isSome_some, if_true]
  refine ho_sa (ho_bind (ho_newList fun D hD => ?_))
  rw [hclos]
  refine ho_bind (ho_pure ?_)
  obtain ⟨W, hW, hu⟩ := h D hD
  have hv : ∀ x ∈ (scope.names.filter fun x => (x.2 == .local || x.2 == .cell) && x.1 != (".0" : Str)).reverse.drop 1 ++ (scope.names.filter fun x => (x.2 == .local || x.2 == .cell) && x.1 != (".0" : Str)).reverse.take 1, x.2 = .local → (relabel scope env).names.lookup x.1 = some .local := fun x hx hl => by
    rcases List.mem_append.mp hx with h1 | h1
    · exact hnames x (List.mem_filter.mp (List.mem_reverse.mp (List.mem_of_mem_drop h1))).1 hl
    · exact hnames x (List.mem_filter.mp (List.mem_reverse.mp (List.mem_of_mem_take h1))).1 hl
  generalize hn0 : (D, lstO [] 0) :: n = n0 at hW ⊢
  refine ⟨fun hh ge dr tk os Q E F N q => ?_⟩
  refine wpB_bind (wpB_of (wpAny_newFunctionEnv hcell (by intro y hy; simp at hy) (fun h₁ hns hsb => ?_) hkind))
  have hk₁ : ∀ b o, hh.get? b = some o → h₁.get? b = some o := fun b o e => hsb.extBut b o (Nat.ne_of_lt (Heap.lt_size e)) (Heap.get?_push_of_some _ e)
  have nm : ∀ b o, g.get? b = some o → b ∉ n0.map (·.1) := fun b o e q => by
    obtain ⟨p, hp, rfl⟩ := List.mem_map.mp q
    rw [(N.news p hp).2.2] at e; cases e
  have st : g.StaysIn (hideAll hh (n0.map (·.1))) := fun b o e => hideAll_get _ (F.keep b o e) (nm b o e)
  obtain ⟨oL, es, ep, hL, hLd, hLk, hLf⟩ := F.ns
  have nL : L ∉ n0.map (·.1) := fun q => by
    obtain ⟨p, hp, e⟩ := List.mem_map.mp q
    exact (N.news p hp).2.1 e
  have hLg := hideAll_get (n0.map (·.1)) hL nL
  have gC : g.get? hh.objs.size = none := by
    cases e : g.get? hh.objs.size with
    | none => rfl
    | some y => exact absurd (Heap.lt_size (F.keep _ _ e)) (Nat.lt_irrefl _)
  have CL : hh.objs.size ≠ L := fun e => absurd F.ns.lt (by rw [← e]; exact Nat.lt_irrefl _)
  refine wpB_holding (wpB_bind (wpB_attempt (wpB_holding (wpB_run (codeB_mono ((hW (hideAll hh (n0.map (·.1))) hh.objs.size (G.keeps fun b o e => st b o e) st).run h₁ ge dr _ os
    (fun r s' => match r with | .ok _ => ∃ h' tk' m' n', s' = ⟨h', ge, dr, tk', os⟩ ∧ Fr (hideAll hh (n0.map (·.1))) hh.objs.size h' m' ∧ Nw (hideAll hh (n0.map (·.1))) hh.objs.size h' n' ∧ W n' | .error _ => False) ⟨hns, fun b o e => hk₁ b o (of_hideAll _ e), Nat.le_of_eq (hideAll_size _ _)⟩
    ⟨fun p hp => ⟨hk₁ _ _ (N.news p hp).1, Nat.ne_of_lt (Heap.lt_size (N.news p hp).1), hideAll_none _ (List.mem_map_of_mem hp)⟩, N.nd⟩ fun f m' n' h' tk' F' N' hw => ⟨h', tk', m', n', rfl, F', N', hw⟩) fun r s' hr => ?_) (by intro x; cases x)))))
  cases r with
  | error e => exact hr.elim
  | ok fl =>
    obtain ⟨h', tk', m', n', rfl, F', N', hw⟩ := hr
    obtain ⟨oC, es', ep', hC, hCd, hCk, hCf⟩ := F'.ns
    have F2 : Fr g L h' m := ⟨⟨oL, es, ep, F'.keep L oL hLg, hLd, hLk, hLf⟩, fun b o e => F'.keep b o (st b o e), F.above⟩
    have N2 : Nw g L h' ((hh.objs.size, oC) :: n') := by
      refine ⟨fun p hp => ?_, List.nodup_cons.mpr ⟨fun e => ?_, N'.nd⟩⟩
      · rcases List.mem_cons.mp hp with rfl | hp
        · exact ⟨hC, CL, gC⟩
        refine ⟨(N'.news p hp).1, fun e => ?_, ?_⟩
        · have := (N'.news p hp).2.2; rw [e, hLg] at this; cases this
        · cases e : g.get? p.1 with
          | none => rfl
          | some o => have := (N'.news p hp).2.2; rw [st _ _ e] at this; cases this
      · obtain ⟨p, hp, e⟩ := List.mem_map.mp e
        exact (N'.news p hp).2.1 e
    refine wpB_bind (wpB_of (wpAny_rule ?_))
    refine wpB_bind (wpB_holding ((hu n' hh.objs.size oC hw).run h' ge dr tk' os _ _ F2 N2 fun _ m'' n'' h'' tk'' F'' N'' hp => ?_))
    obtain ⟨n3, s3, hV⟩ := hp
    have N3 := N''.sub s3
    have hCn : Heap.Ns h'' hh.objs.size m' := ⟨oC, es', ep', (N3.news _ (.head _)).1, hCd, hCk, hCf⟩
    refine wpB_bind (wpB_of (wpAny_comp_letGo (cenv := compEnvC scope cl hh.objs.size env) (by simp [compEnvC, relabel, hkind]) _ ⟨h'', ge, dr, tk'', os⟩ m' hv hCn fun h3 m3 _ hs3 => ?_))
    refine wpB_of (wpAny_pure ?_)
    exact q _ _ _ _ _ (Fr.but F'' CL gC fun b o hb e => (hs3.2 b hb).trans e) (N3.rm .head fun b x hb e => (hs3.2 b hb).trans e) hV
theorem ho_comp_useET {elt iter : Expr} {elts : List Expr} {kt : Nat} {tpos : Pos} {ifs : List Expr} {scope : Scope} {u : Value → Sem Unit} (cl : List (Str × Addr)) (G : Gd K p loose g) (hh : A.handled = none) (hclos : closureFor scope env = pure cl)
    (hb : (scope.names.all (fun x => x.2 != .cell) && scope.kind == .function && scope.names.all (fun x => x.2 != .local || (relabel scope env).names.lookup x.1 == some .local)) = true)
    (h : Ho bz prog w A g L m n (eval iter env) fun v m n => ∃ (e it : Addr) (o : Obj) (a : Addr) (vs : List Value) (n0 : Led), v = .ref e ∧ n = (e, enO it 0 .none) :: (it, o) :: n0 ∧ ItO "tuple_iterator" (.ref a) 0 o ∧ ∀ D, (∀ p ∈ n0, p.1 ≠ D) →
      ∃ J : Nat → Led → Prop, J 0 ((D, lstO [] 0) :: n0) ∧ (∀ i n, J i n → (a, tupO vs) ∈ n) ∧
      (∀ g' C, Gd K p loose g' → g.StaysIn g' → ∀ i v m n T t1 r1 r2, vs[i]? = some v → J i n → Ho bz prog w A g' C m ((T, tupO [.int (i : Int) t1, v]) :: r1 :: r2 :: n) (assign (.Tuple elts kt tpos) (compEnvC scope cl C env) (.ref T)) (Kthen bz prog w A g' C (ifsRun (compEnvC scope cl C env) ifs) (Kelt bz prog w A g' C elt (compEnvC scope cl C env) (.ref D) (Kst2 r1 r2 (J (i + 1)))))) ∧
      (∀ n' C oC, J vs.length n' → Ho bz prog w A g L m ((C, oC) :: n') (u (.ref D)) fun _ m' n'' => ∃ n3, List.Sublist ((C, oC) :: n3) n'' ∧ V .none m' n3))
    (hs : ∀ x, foldedSetIterable iter env x = pure x := by intro _; rfl) :
    Ho bz prog w A g L m n (comprehension (.ListComp elt [⟨.Tuple elts kt tpos, iter, ifs, 0⟩] scope pos) scope env (firstIterPos [⟨.Tuple elts kt tpos, iter, ifs, 0⟩] pos) (newList []) (firstAsync [⟨.Tuple elts kt tpos, iter, ifs, 0⟩]) (firstIter [⟨.Tuple elts kt tpos, iter, ifs, 0⟩] env) (some u)) V := by
  refine ho_comp_use G hclos hb (h.mono fun v m n h => ?_) hs
  obtain ⟨e, it, o, a, vs, n0, rfl, rfl, ho, h⟩ := h
  refine pi_enum fun D hD => ?_
  obtain ⟨J, h0, hJ, turn, done⟩ := h D fun p hp => hD p (.tail _ (.tail _ hp))
  refine ⟨J vs.length, fun g' C G' st => ?_, done⟩
  have base : ∃ k, HoCp bz prog w A g' C (compEnvC scope cl C env) elt (.Tuple elts kt tpos) ifs (.ref e) (.ref D) (J vs.length) k (lk []) ((e, enO it 0 .none) :: (it, o) :: (D, lstO [] 0) :: n0) := hp_enumT J hh hJ ho h0 (turn g' C G' st) fun _ h => h
  exact hoC_perm3 (hoC_cstart base (pi_enum base))
theorem hx_asgC {elt target iter : Expr} {ifs : List Expr} {scope : Scope} {x : Str} {pos' spos : Pos} (h : Ho bz prog w A g L m n (comprehension (.ListComp elt [⟨target, iter, ifs, 0⟩] scope pos) scope env (firstIterPos [⟨target, iter, ifs, 0⟩] pos) (newList []) (firstAsync [⟨target, iter, ifs, 0⟩]) (firstIter [⟨target, iter, ifs, 0⟩] env) (some (assign (.Name x pos') env))) fun _ m n => P .next m n)
    (hs : swapsWith (.ListComp elt [⟨target, iter, ifs, 0⟩] scope pos) (some (Expr.Name x pos')) spos.line env = pure true) : Ho bz prog w A g L m n (exec (.Assign [.Name x pos'] (.ListComp elt [⟨target, iter, ifs, 0⟩] scope pos) spos) env) P := by
  rw [exec_Assign_Name_used x pos' _ spos hs]
  refine ho_sa ?_
  show Ho bz prog w A g L m n ((comprehension _ _ _ _ _ _ _ _ >>= fun _ => pure ()) >>= fun _ => pure Flow.next) P
  exact ho_bind (ho_bind (h.mono fun _ _ _ h => ho_pure (ho_pure h)))
end
end
section
local macro_rules | `(tactic| tb_start) => `(tactic| first | exact IntMulOk.of_left (by decide) | exact IntMulOk.of_right (by decide) | (show keepIn (hd.heap_1 _) _ = true; k_is))
local macro_rules | `(tactic| ktr_rel) => `(tactic| first | exact List.Mem.head _ | assumption | (refine List.Mem.tail _ ?_; ktr_rel))
local macro_rules | `(tactic| ktr_unf) => `(tactic| first | exact UpL.head | (apply UpL.tail; ktr_unf))
local macro_rules | `(tactic| ktr_units) => `(tactic| first | exact RmL.head | (apply RmL.tail; ktr_units))
local macro_rules | `(tactic| tb_rel) => `(tactic| first | assumption | rfl | exact decide_eq_true (by omega) | exact decide_eq_false (by omega) | exact beq_iff_eq.mpr (by omega) | exact beq_eq_false_iff_ne.mpr (by omega) | exact bne_iff_ne.mpr (by omega) | exact bne_eq_false_iff_eq.mpr (by omega) | decide +kernel | kernel_rfl!)
local macro_rules | `(tactic| ktr_room) => `(tactic| first | omega | (simp only [List.length_append, List.length_cons, List.length_nil]; omega) | decide)
local macro_rules | `(tactic| k_updF) => `(tactic| first | exact List.Sublist.refl _ | (refine List.Sublist.cons_cons _ ?_; k_updF) | (refine List.Sublist.cons _ ?_; k_updF))
variable {w : World} {A : Around} {g : Heap} {L : Addr} {m : FMap} {n : Led} {V : Value → FMap → Led → Prop}
noncomputable def MODn : Int := 170141183460469231731687303715884105727
noncomputable def mixF (f : Int) (o : UInt8) : Int := (f * 6364136223846793005 + (o.toNat : Int) + 1) % MODn
noncomputable def mixed (s : Int) (l : List UInt8) : Int := l.foldl mixF (s % MODn)
theorem S_mixed {s : Int} {ts tb : Tok} {l : List UInt8} (G : Gk w g) (hR : Rm A 1) (h : ∀ t, V (.int (mixed s l) t) m n) : Ho true Pg w A g L m n (call (.ref 458) [.int s ts, .bytes l.toArray tb]) V := by
  refine en_def ok_mixed_octets [("start", .int s ts), ("data", .bytes l.toArray tb)] [some (.int s ts), some (.bytes l.toArray tb), none, none, none, none] G hR (by k_is) (by k_is) rfl rfl rfl rfl fun g L A G hR => hb_cons (hx_asg (he_bin (he_lv lv_mixed_octets_start rfl (he_gv G gv_mixed_octets_MODULUS (gl_MODULUS w) (ho_mod (by omega) fun _ => ho_sv lv_mixed_octets_found rfl (kt_next (hb_cons (hx_for (he_lv lv_mixed_octets_data rfl (pi_bytes fun I o hI ho => hl_bytesT (fun pre m n' => n' = n ∧ ∃ (t : Tok) (x : Option Value), m = fm ns_mixed_octets [some (.int s ts), some (.bytes l.toArray tb), some (.int (pre.foldl mixF (s % MODn)) t), x, none, none]) hR.hh ho ⟨rfl, _, _, rfl⟩ ?_ ?_))))))))))
  · rintro pre c rest _ _ t o T hl ⟨rfl, t', x, rfl⟩ hT
    refine hs_name (ho_sv lv_mixed_octets_octet rfl (hb_cons (hx_asg (he_bin (he_bin (he_bin (he_bin (he_lv lv_mixed_octets_found rfl (he_gv G gv_mixed_octets_FACTOR (gl_FACTOR w) (ho_mul (by tb_start) fun _ => he_lv lv_mixed_octets_octet rfl (ho_add fun _ => he_int fun _ => ho_add fun _ => he_gv G gv_mixed_octets_MODULUS (gl_MODULUS w) (ho_mod (by omega) fun _ => ho_sv lv_mixed_octets_found rfl (kt_next (hb_nil ?_))))))))))))))
    exact hT _ _ _ (turn_next _ (List.Sublist.refl _) ⟨rfl, _, _, by rw [List.foldl_append]; rfl⟩)
  · rintro _ _ ⟨rfl, t', x, rfl⟩
    refine kt_next (hb_cons (hx_ret (he_lv lv_mixed_octets_found rfl (kt_ret ?_))))
    exact ⟨_, by k_updF, h _⟩
noncomputable def gw (l : List UInt8) : Int := l.foldl (fun f o => f * 256 + (o.toNat : Int)) 0
theorem S_get_whole {l : List UInt8} {a k : Int} {t1 t2 t3 : Tok} (G : Gk w g) (hR : Rm A 1) (h0 : 0 ≤ a) (h1 : 0 ≤ k) (h2 : a + k ≤ (l.length : Int)) (hz : l.length ≤ 100000) (h : ∀ t, V (.int (gw (cut l (some a) (some (a + k)))) t) m n) : Ho true Pg w A g L m n (call (.ref 180) [.bytes l.toArray t1, .int a t2, .int k t3]) V := by
  refine en_def ok_get_whole [("data", .bytes l.toArray t1), ("at", .int a t2), ("size", .int k t3)] [some (.bytes l.toArray t1), some (.int a t2), some (.int k t3), none, none, none, none] G hR (by k_is) (by k_is) rfl rfl rfl rfl fun g L A G hR => hb_cons (hx_if (ht_cmp (he_bin (he_lv lv_get_whole_at rfl (he_lv lv_get_whole_size rfl (ho_add fun _ => he_call (he_bv G gv_get_whole_len (nb_len w) bb_len (by decide) (hc_b (ha_cons (he_lv lv_get_whole_data rfl (ha_nil (ho_lenB (by ktr_room) fun _ => ?_))))))))))))
  refine ho_gt (ho_tb (ho_if_f (decide_eq_false (by omega)) (hb_nil (kt_next (hb_cons (hx_asg (he_int fun _ => ho_sv lv_get_whole_found rfl (kt_next (hb_cons (hx_for (he_cut (he_lv lv_get_whole_data rfl (hp_some (he_lv lv_get_whole_at rfl (hp_some (he_bin (he_lv lv_get_whole_at rfl (he_lv lv_get_whole_size rfl (ho_add fun _ => ⟨_, _, _, _, rfl, by constructor, by constructor, by ktr_room, fun _ => ?_⟩)))))))))))))))))))
  refine pi_bytes fun I o hI ho => hl_bytesT (fun pre m n' => n' = n ∧ ∃ (t : Tok) (x : Option Value), m = fm ns_get_whole [some (.bytes l.toArray t1), some (.int a t2), some (.int k t3), some (.int (gw pre) t), x, none, none]) hR.hh ho ⟨rfl, _, _, rfl⟩ ?_ ?_
  · rintro pre c rest _ _ t o T hl ⟨rfl, t', x, rfl⟩ hT
    refine hs_name (ho_sv lv_get_whole_octet rfl (hb_cons (hx_asg (he_bin (he_bin (he_lv lv_get_whole_found rfl (he_int fun _ => ho_mul (by tb_start) fun _ => he_lv lv_get_whole_octet rfl (ho_add fun _ => ho_sv lv_get_whole_found rfl (kt_next (hb_nil ?_))))))))))
    exact hT _ _ _ (turn_next _ (List.Sublist.refl _) ⟨rfl, _, _, by unfold gw; rw [List.foldl_append]; rfl⟩)
  · rintro _ _ ⟨rfl, t', x, rfl⟩
    refine kt_next (hb_cons (hx_ret (he_lv lv_get_whole_found rfl (kt_ret ?_))))
    exact ⟨_, by k_updF, h _⟩
theorem S_turned_first {a : Int} {t1 t2 : Tok} {k : List UInt8} (G : Gk w g) (hR : Rm A 1) (hk : k.length = 5) (h : ∀ t, V (.int (Builtin.bitXor a (Builtin.bitAnd ((k.getD 0 0).toNat : Int) (if 128 ≤ a then 15 else 31))) t) m n) : Ho true Pg w A g L m n (call (.ref 500) [.int a t1, .bytes k.toArray t2]) V := by
  refine en_def ok_turned_first [("first", .int a t1), ("mask", .bytes k.toArray t2)] [some (.int a t1), some (.bytes k.toArray t2)] G hR (by k_is) (by k_is) rfl rfl rfl rfl fun g L A G hR => hb_cons (hx_ret (he_bin (he_lv lv_turned_first_first rfl (he_bin (he_sub (he_lv lv_turned_first_mask rfl (he_int fun _ => ho_bi (by ktr_room) (by ktr_room) (by ktr_room) fun _ => ?_)))))))
  refine he_ife (ht_cmp (he_lv lv_turned_first_first rfl (he_int fun _ => ho_ge (ho_tb (ho_if_both (fun hc => ?_) (fun hc => ?_))))))
  · refine he_int fun _ => ho_andI fun _ => ho_xor fun _ => kt_ret ?_
    have := h
    rw [if_pos (of_decide_eq_true hc)] at this
    exact ⟨_, by k_updF, this _⟩
  · refine he_int fun _ => ho_andI fun _ => ho_xor fun _ => kt_ret ?_
    have := h
    rw [if_neg (of_decide_eq_false hc)] at this
    exact ⟨_, by k_updF, this _⟩
theorem S_sample_at {l : List UInt8} {a b : Int} {t1 t2 t3 : Tok} (G : Gk w g) (hR : Rm A 1) (h0 : 0 ≤ a) (h2 : a + 20 ≤ b) (h3 : b ≤ (l.length : Int)) (hz : l.length ≤ 100000) (h : ∀ t, V (.bytes (cut l (some (a + 4)) (some (a + 4 + 16))).toArray t) m n) : Ho true Pg w A g L m n (call (.ref 512) [.bytes l.toArray t1, .int a t2, .int b t3]) V := by
  refine en_def ok_sample_at [("data", .bytes l.toArray t1), ("number_at", .int a t2), ("end", .int b t3)] [some (.bytes l.toArray t1), some (.int a t2), some (.int b t3), none] G hR (by k_is) (by k_is) rfl rfl rfl rfl fun g L A G hR => hb_cons (hx_if (ht_cmp (he_bin (he_bin (he_lv lv_sample_at_number_at rfl (he_int fun _ => ho_add fun _ => he_gv G gv_sample_at_SAMPLE_SIZE (gl_SAMPLE_SIZE w) (ho_add fun _ => he_lv lv_sample_at_end rfl (ho_gt (ho_tb (ho_if_f (decide_eq_false (by omega)) (hb_nil (kt_next (hb_cons (hx_ret (he_cut (he_lv lv_sample_at_data rfl (hp_some (he_bin (he_lv lv_sample_at_number_at rfl (he_int fun _ => ho_add fun _ => hp_some (he_bin (he_bin (he_lv lv_sample_at_number_at rfl (he_int fun _ => ho_add fun _ => he_gv G gv_sample_at_SAMPLE_SIZE (gl_SAMPLE_SIZE w) (ho_add fun _ => ⟨_, _, _, _, rfl, by constructor, by constructor, by ktr_room, fun _ => ?_⟩)))))))))))))))))))))))))
  refine kt_ret ?_
  exact ⟨_, by k_updF, h _⟩
theorem S_padded {l : List UInt8} {a : Int} {t1 t2 : Tok} (G : Gk w g) (hR : Rm A 1) (h2 : 4 ≤ a + (l.length : Int)) (hz : l.length ≤ 100000) (h : V (.bytes l.toArray t1) m n) : Ho true Pg w A g L m n (call (.ref 519) [.bytes l.toArray t1, .int a t2]) V := by
  refine en_def ok_padded_payload [("payload", .bytes l.toArray t1), ("number_size", .int a t2)] [some (.bytes l.toArray t1), some (.int a t2), none, none, none] G hR (by k_is) (by k_is) rfl rfl rfl rfl fun g L A G hR => hb_cons (hx_asg (he_bin (he_bin (he_int fun _ => he_lv lv_padded_payload_number_size rfl (ho_sub fun _ => he_call (he_bv G gv_padded_payload_len (nb_len w) bb_len (by decide) (hc_b (ha_cons (he_lv lv_padded_payload_payload rfl (ha_nil (ho_lenB (by ktr_room) fun _ => ?_)))))))))))
  refine ho_sub fun _ => ho_sv lv_padded_payload_lacking rfl (kt_next (hb_cons (hx_ret (he_ife (ht_cmp (he_lv lv_padded_payload_lacking rfl (he_int fun _ => ho_gt (ho_tb (ho_if_f (decide_eq_false (by omega)) (he_lv lv_padded_payload_payload rfl (kt_ret ?_)))))))))))
  exact ⟨_, by k_updF, h⟩
theorem S_reserved {a : Int} {t1 : Tok} (G : Gk w g) (hR : Rm A 1) (h : ∀ t, V (.int (if 128 ≤ a then a / 4 % 4 else a / 8 % 4) t) m n) : Ho true Pg w A g L m n (call (.ref 575) [.int a t1]) V := by
  refine en_def ok_reserved_bits [("first", .int a t1)] [some (.int a t1)] G hR (by k_is) (by k_is) rfl rfl rfl rfl fun g L A G hR => hb_cons (hx_ret (he_ife (ht_cmp (he_lv lv_reserved_bits_first rfl (he_int fun _ => ho_ge (ho_tb (ho_if_both (fun hc => ?_) (fun hc => ?_))))))))
  · refine he_bin (he_bin (he_lv lv_reserved_bits_first rfl (he_int fun _ => ho_div (by omega) (PyProof.noPylong_of_log2 (by decide +kernel)) fun _ => he_int fun _ => ho_mod (by omega) fun _ => kt_ret ?_)))
    have := h
    rw [if_pos (of_decide_eq_true hc)] at this
    exact ⟨_, by k_updF, this _⟩
  · refine he_bin (he_bin (he_lv lv_reserved_bits_first rfl (he_int fun _ => ho_div (by omega) (PyProof.noPylong_of_log2 (by decide +kernel)) fun _ => he_int fun _ => ho_mod (by omega) fun _ => kt_ret ?_)))
    have := h
    rw [if_neg (of_decide_eq_false hc)] at this
    exact ⟨_, by k_updF, this _⟩
theorem S_short_head {l : List UInt8} {c : Int} {t1 t2 t3 t4 : Tok} (G : Gk w g) (hR : Rm A 1) (hz : l.length ≤ 100000) (h0 : 1 ≤ c) (h1 : c ≤ 2) (h : ∀ t, V (.bytes ((63 + c).toNat.toUInt8 :: l).toArray t) m n) : Ho true Pg w A g L m n (call (.ref 540) [.int 0 t1, .int 0 t2, .bytes l.toArray t3, .int c t4]) V := by
  refine en_def ok_short_head [("spin", .int 0 t1), ("key_phase", .int 0 t2), ("dcid", .bytes l.toArray t3), ("number_size", .int c t4)] [some (.int 0 t1), some (.int 0 t2), some (.bytes l.toArray t3), some (.int c t4), none] G hR (by k_is) (by k_is) rfl rfl rfl rfl fun g L A G hR => hb_cons (hx_ret (he_bin (he_call (he_bv G gv_short_head_bytes (nb_bytes w) bb_bytes (by decide) (hc_ty (ha_cons (he_list (ha_cons (he_bin (he_bin (he_bin (he_bin (he_int fun _ => he_bin (he_int fun _ => he_lv lv_short_head_spin rfl (ho_mulE (c := 0) (by tb_start) (by decide +kernel) fun _ => ho_addE (c := 64) (by decide +kernel) fun _ => he_bin (he_int fun _ => he_lv lv_short_head_key_phase rfl (ho_mulE (c := 0) (by tb_start) (by decide +kernel) fun _ => ho_addE (c := 64) (by decide +kernel) fun _ => he_lv lv_short_head_number_size rfl (ho_add fun _ => he_int fun _ => ho_sub fun _ => ha_nil (And.intro (Nat.le_of_ble_eq_true rfl) fun b0 hb0 => ha_nil (ho_mkB1 hR.hh (by ktr_rel) (by ktr_room) (by ktr_room) fun _ => ?_))))))))))))))))))))
  refine he_lv lv_short_head_dcid rfl (ho_addB (by ktr_room) fun _ => ?_)
  refine kt_ret ?_
  rw [show (63 + c) = 64 + c - 1 by omega] at h
  exact ⟨_, by k_updF, h _⟩
theorem S_number_in {a : Addr} {v0 v1 v2 v3 v4 v5 : Value} (G : Gk w g) (hR : Rm A 1) (hm : (a, tupO [v0, v1, v2, v3, v4, v5]) ∈ n) (h : V v4 m n) : Ho true Pg w A g L m n (call (.ref 554) [.ref a]) V := by
  refine en_def ok_number_in [("packet", .ref a)] [some (.ref a), none] G hR (by k_is) (by k_is) rfl rfl rfl rfl fun g L A G hR => hb_cons (hx_ret (he_sub (he_lv lv_number_in_packet rfl (he_bin (he_call (he_bv G gv_number_in_len (nb_len w) bb_len (by decide) (hc_b (ha_cons (he_lv lv_number_in_packet rfl (ha_nil (ho_lenT (by ktr_rel) (Nat.le_of_ble_eq_true rfl) fun _ => ?_)))))))))))
  refine he_int fun _ => ho_sub fun _ => ho_ti (by ktr_rel) (by ktr_room) (by ktr_room) rfl rfl ?_
  refine kt_ret ?_
  exact ⟨_, by k_updF, h⟩
theorem S_number_in7 {a : Addr} {v0 v1 v2 v3 v4 v5 v6 : Value} (G : Gk w g) (hR : Rm A 1) (hm : (a, tupO [v0, v1, v2, v3, v4, v5, v6]) ∈ n) (h : V v5 m n) : Ho true Pg w A g L m n (call (.ref 554) [.ref a]) V := by
  refine en_def ok_number_in [("packet", .ref a)] [some (.ref a), none] G hR (by k_is) (by k_is) rfl rfl rfl rfl fun g L A G hR => hb_cons (hx_ret (he_sub (he_lv lv_number_in_packet rfl (he_bin (he_call (he_bv G gv_number_in_len (nb_len w) bb_len (by decide) (hc_b (ha_cons (he_lv lv_number_in_packet rfl (ha_nil (ho_lenT (by ktr_rel) (Nat.le_of_ble_eq_true rfl) fun _ => ?_)))))))))))
  refine he_int fun _ => ho_sub fun _ => ho_ti (by ktr_rel) (by ktr_room) (by ktr_room) rfl rfl ?_
  refine kt_ret ?_
  exact ⟨_, by k_updF, h⟩
theorem S_close_in {a : Addr} {t0 t1 t2 t3 : Tok} {c : Int} {r : List UInt8} {sp : Str} (hs : sp = Str.ofString "initial" ∨ sp = Str.ofString "handshake") (G : Gk w g) (hR : Rm A 1) (hm : (a, tupO [.str (Str.ofString "close") t0, .int c t1, .none, .bytes r.toArray t2]) ∈ n)
   (h : ∀ b t t' t'' t3, V (.ref b) m ((b, tupO [.str (Str.ofString "close") t, .int 12 t', .int 0 t'', .bytes ([] : List UInt8).toArray t3]) :: n)) : Ho true Pg w A g L m n (call (.ref 28) [.ref a, .str sp t3]) V := by
  rcases hs with rfl | rfl
  ·
    refine en_def ok_close_frame_in [("frame", .ref a), ("packet_kind", .str (Str.ofString "initial") t3)] [some (.ref a), some (.str (Str.ofString "initial") t3), none] G hR (by k_is) (by k_is) rfl rfl rfl rfl fun g L A G hR => hb_cons (hx_if (ht_and (ht_cmp (he_sub (he_lv lv_close_frame_in_frame rfl (he_int fun _ => ho_ti (by ktr_rel) (by ktr_room) (by ktr_room) rfl rfl ?_))))))
    refine he_none (ho_isO (ho_tb (ho_if_t rfl (ht_and (ht_cmp (he_lv lv_close_frame_in_packet_kind rfl (he_tup (ha_cons (he_str fun _ => ha_cons (he_str fun _ => ha_nil (And.intro (Nat.le_of_ble_eq_true rfl) fun b0 hb0 => ho_inTS (by ktr_rel) rfl ?_)))))))))))
    refine ho_tb (ho_if_t (by tb_rel) ?_)
    refine ht_and0 (ho_if_t rfl (hb_cons (hx_ret (he_tup (ha_cons (he_str fun _ => ha_cons (he_gv G gv_close_frame_in_APPLICATION_ERROR_CODE (gl_APPLICATION_ERROR_CODE w) (ha_cons (he_int fun _ => ha_cons (he_bytes fun _ => ha_nil (And.intro (Nat.le_of_ble_eq_true rfl) fun b1 hb1 => kt_ret (kt_ret ?_))))))))))))
    exact ⟨_, by k_updF, h _ _ _ _ _⟩
  ·
    refine en_def ok_close_frame_in [("frame", .ref a), ("packet_kind", .str (Str.ofString "handshake") t3)] [some (.ref a), some (.str (Str.ofString "handshake") t3), none] G hR (by k_is) (by k_is) rfl rfl rfl rfl fun g L A G hR => hb_cons (hx_if (ht_and (ht_cmp (he_sub (he_lv lv_close_frame_in_frame rfl (he_int fun _ => ho_ti (by ktr_rel) (by ktr_room) (by ktr_room) rfl rfl ?_))))))
    refine he_none (ho_isO (ho_tb (ho_if_t rfl (ht_and (ht_cmp (he_lv lv_close_frame_in_packet_kind rfl (he_tup (ha_cons (he_str fun _ => ha_cons (he_str fun _ => ha_nil (And.intro (Nat.le_of_ble_eq_true rfl) fun b0 hb0 => ho_inTS (by ktr_rel) rfl ?_)))))))))))
    refine ho_tb (ho_if_t (by tb_rel) ?_)
    refine ht_and0 (ho_if_t rfl (hb_cons (hx_ret (he_tup (ha_cons (he_str fun _ => ha_cons (he_gv G gv_close_frame_in_APPLICATION_ERROR_CODE (gl_APPLICATION_ERROR_CODE w) (ha_cons (he_int fun _ => ha_cons (he_bytes fun _ => ha_nil (And.intro (Nat.le_of_ble_eq_true rfl) fun b1 hb1 => kt_ret (kt_ret ?_))))))))))))
    exact ⟨_, by k_updF, h _ _ _ _ _⟩
theorem S_close_app {a : Addr} {t0 t1 t2 t3 : Tok} {c : Int} {r : List UInt8} (G : Gk w g) (hR : Rm A 1) (hm : (a, tupO [.str (Str.ofString "close") t0, .int c t1, .none, .bytes r.toArray t2]) ∈ n)
   (h : V (.ref a) m n) : Ho true Pg w A g L m n (call (.ref 28) [.ref a, .str (Str.ofString "short") t3]) V := by
  refine en_def ok_close_frame_in [("frame", .ref a), ("packet_kind", .str (Str.ofString "short") t3)] [some (.ref a), some (.str (Str.ofString "short") t3), none] G hR (by k_is) (by k_is) rfl rfl rfl rfl fun g L A G hR => hb_cons (hx_if (ht_and (ht_cmp (he_sub (he_lv lv_close_frame_in_frame rfl (he_int fun _ => ho_ti (by ktr_rel) (by ktr_room) (by ktr_room) rfl rfl ?_))))))
  refine he_none (ho_isO (ho_tb (ho_if_t rfl (ht_and (ht_cmp (he_lv lv_close_frame_in_packet_kind rfl (he_tup (ha_cons (he_str fun _ => ha_cons (he_str fun _ => ha_nil (And.intro (Nat.le_of_ble_eq_true rfl) fun b0 hb0 => ho_inTS (by ktr_rel) rfl ?_)))))))))))
  refine ho_tb (ho_if_f (by tb_rel) ?_)
  refine ho_if_f rfl (hb_nil (kt_next (hb_cons (hx_ret (he_lv lv_close_frame_in_frame rfl (kt_ret ?_))))))
  exact ⟨_, by k_updF, h⟩
theorem S_close_err {a : Addr} {t0 t1 t2 t3 t4 : Tok} {c k : Int} {r : List UInt8} {sp : Str} (G : Gk w g) (hR : Rm A 1) (hm : (a, tupO [.str (Str.ofString "close") t0, .int c t1, .int k t4, .bytes r.toArray t2]) ∈ n)
   (h : V (.ref a) m n) : Ho true Pg w A g L m n (call (.ref 28) [.ref a, .str sp t3]) V := by
  refine en_def ok_close_frame_in [("frame", .ref a), ("packet_kind", .str sp t3)] [some (.ref a), some (.str sp t3), none] G hR (by k_is) (by k_is) rfl rfl rfl rfl fun g L A G hR => hb_cons (hx_if (ht_and (ht_cmp (he_sub (he_lv lv_close_frame_in_frame rfl (he_int fun _ => ho_ti (by ktr_rel) (by ktr_room) (by ktr_room) rfl rfl ?_))))))
  refine he_none (ho_isI (ho_tb (ho_if_f rfl (ho_if_f rfl (hb_nil (kt_next (hb_cons (hx_ret (he_lv lv_close_frame_in_frame rfl (kt_ret ?_))))))))))
  exact ⟨_, by k_updF, h⟩
theorem S_packet_init {a : Addr} {t1 t2 t3 t4 t5 : Tok} {c : Int} {r d s : List UInt8} (G : Gk w g) (hR : Rm A 1) (hm : (a, tupO [.bytes d.toArray t1, .bytes s.toArray t2]) ∈ n)
   (h : ∀ b t t' t'', V (.ref b) m ((b, tupO [.str (Str.ofString "initial") t, .int 1 t', .bytes d.toArray t1, .bytes s.toArray t2, .bytes ([] : List UInt8).toArray t'', .int c t4, .bytes r.toArray t5]) :: n)) : Ho true Pg w A g L m n (call (.ref 597) [.ref a, .str (Str.ofString "initial") t3, .int c t4, .bytes r.toArray t5]) V := by
  refine en_def ok_packet_with [("ids", .ref a), ("space", .str (Str.ofString "initial") t3), ("number", .int c t4), ("payload", .bytes r.toArray t5)] [some (.ref a), some (.str (Str.ofString "initial") t3), some (.int c t4), some (.bytes r.toArray t5), none, none] G hR (by k_is) (by k_is) rfl rfl rfl rfl fun g L A G hR => hb_cons (hx_asgT (he_lv lv_packet_with_ids rfl (ha_tup hR.hh (by ktr_rel) rfl rfl ?_)))
  refine hi_cons (hs_name (ho_sv lv_packet_with_dcid rfl (hi_cons (hs_name (ho_sv lv_packet_with_scid rfl (hi_nil (kt_next (hb_cons (hx_if (ht_cmp (he_lv lv_packet_with_space rfl (he_str fun _ => ho_eqS (ho_tb (ho_if_f (by tb_rel) ?_))))))))))))))
  refine hb_nil (kt_next (hb_cons (hx_if (ht_cmp (he_lv lv_packet_with_space rfl (he_str fun _ => ho_eqS (ho_tb (ho_if_t (by tb_rel) ?_))))))))
  refine hb_cons (hx_ret (he_tup (ha_cons (he_str fun _ => ha_cons (he_int fun _ => ha_cons (he_lv lv_packet_with_dcid rfl (ha_cons (he_lv lv_packet_with_scid rfl (ha_cons (he_bytes fun _ => ha_cons (he_lv lv_packet_with_number rfl (ha_cons (he_lv lv_packet_with_payload rfl (ha_nil (And.intro (Nat.le_of_ble_eq_true rfl) fun b0 hb0 => kt_ret (kt_ret ?_))))))))))))))))
  exact ⟨_, by k_updF, h _ _ _ _⟩
theorem S_packet_hand {a : Addr} {t1 t2 t3 t4 t5 : Tok} {c : Int} {r d s : List UInt8} (G : Gk w g) (hR : Rm A 1) (hm : (a, tupO [.bytes d.toArray t1, .bytes s.toArray t2]) ∈ n)
   (h : ∀ b t t', V (.ref b) m ((b, tupO [.str (Str.ofString "handshake") t, .int 1 t', .bytes d.toArray t1, .bytes s.toArray t2, .int c t4, .bytes r.toArray t5]) :: n)) : Ho true Pg w A g L m n (call (.ref 597) [.ref a, .str (Str.ofString "handshake") t3, .int c t4, .bytes r.toArray t5]) V := by
  refine en_def ok_packet_with [("ids", .ref a), ("space", .str (Str.ofString "handshake") t3), ("number", .int c t4), ("payload", .bytes r.toArray t5)] [some (.ref a), some (.str (Str.ofString "handshake") t3), some (.int c t4), some (.bytes r.toArray t5), none, none] G hR (by k_is) (by k_is) rfl rfl rfl rfl fun g L A G hR => hb_cons (hx_asgT (he_lv lv_packet_with_ids rfl (ha_tup hR.hh (by ktr_rel) rfl rfl ?_)))
  refine hi_cons (hs_name (ho_sv lv_packet_with_dcid rfl (hi_cons (hs_name (ho_sv lv_packet_with_scid rfl (hi_nil (kt_next (hb_cons (hx_if (ht_cmp (he_lv lv_packet_with_space rfl (he_str fun _ => ho_eqS (ho_tb (ho_if_f (by tb_rel) ?_))))))))))))))
  refine hb_nil (kt_next (hb_cons (hx_if (ht_cmp (he_lv lv_packet_with_space rfl (he_str fun _ => ho_eqS (ho_tb (ho_if_f (by tb_rel) ?_))))))))
  refine hb_nil (kt_next (hb_cons (hx_ret (he_tup (ha_cons (he_str fun _ => ha_cons (he_int fun _ => ha_cons (he_lv lv_packet_with_dcid rfl (ha_cons (he_lv lv_packet_with_scid rfl (ha_cons (he_lv lv_packet_with_number rfl (ha_cons (he_lv lv_packet_with_payload rfl (ha_nil (And.intro (Nat.le_of_ble_eq_true rfl) fun b0 hb0 => kt_ret ?_))))))))))))))))
  exact ⟨_, by k_updF, h _ _ _⟩
theorem S_packet_app {a : Addr} {t1 t2 t3 t4 t5 : Tok} {c : Int} {r d s : List UInt8} (G : Gk w g) (hR : Rm A 1) (hm : (a, tupO [.bytes d.toArray t1, .bytes s.toArray t2]) ∈ n)
   (h : ∀ b t t' t'', V (.ref b) m ((b, tupO [.str (Str.ofString "short") t, .int 0 t', .int 0 t'', .bytes d.toArray t1, .int c t4, .bytes r.toArray t5]) :: n)) : Ho true Pg w A g L m n (call (.ref 597) [.ref a, .str (Str.ofString "application") t3, .int c t4, .bytes r.toArray t5]) V := by
  refine en_def ok_packet_with [("ids", .ref a), ("space", .str (Str.ofString "application") t3), ("number", .int c t4), ("payload", .bytes r.toArray t5)] [some (.ref a), some (.str (Str.ofString "application") t3), some (.int c t4), some (.bytes r.toArray t5), none, none] G hR (by k_is) (by k_is) rfl rfl rfl rfl fun g L A G hR => hb_cons (hx_asgT (he_lv lv_packet_with_ids rfl (ha_tup hR.hh (by ktr_rel) rfl rfl ?_)))
  refine hi_cons (hs_name (ho_sv lv_packet_with_dcid rfl (hi_cons (hs_name (ho_sv lv_packet_with_scid rfl (hi_nil (kt_next (hb_cons (hx_if (ht_cmp (he_lv lv_packet_with_space rfl (he_str fun _ => ho_eqS (ho_tb (ho_if_t (by tb_rel) ?_))))))))))))))
  refine hb_cons (hx_ret (he_tup (ha_cons (he_str fun _ => ha_cons (he_int fun _ => ha_cons (he_int fun _ => ha_cons (he_lv lv_packet_with_dcid rfl (ha_cons (he_lv lv_packet_with_number rfl (ha_cons (he_lv lv_packet_with_payload rfl (ha_nil (And.intro (Nat.le_of_ble_eq_true rfl) fun b0 hb0 => kt_ret (kt_ret ?_))))))))))))))
  exact ⟨_, by k_updF, h _ _ _ _⟩
theorem S_put_ids {t1 t2 : Tok} {d s : List UInt8} (hd : d.length < 256) (hs : s.length < 256) (G : Gk w g) (hR : Rm A 1) (h : ∀ t, V (.bytes (([(d.length : Int).toNat.toUInt8] ++ d) ++ [(s.length : Int).toNat.toUInt8] ++ s).toArray t) m n) : Ho true Pg w A g L m n (call (.ref 360) [.bytes d.toArray t1, .bytes s.toArray t2]) V := by
  refine en_def ok_put_ids [("dcid", .bytes d.toArray t1), ("scid", .bytes s.toArray t2)] [some (.bytes d.toArray t1), some (.bytes s.toArray t2), none, none] G hR (by k_is) (by k_is) rfl rfl rfl rfl fun g L A G hR => hb_cons (hx_ret (he_bin (he_bin (he_bin (he_call (he_bv G gv_put_ids_bytes (nb_bytes w) bb_bytes (by decide) (hc_ty (ha_cons (he_list (ha_cons (he_call (he_bv G gv_put_ids_len (nb_len w) bb_len (by decide) (hc_b (ha_cons (he_lv lv_put_ids_dcid rfl (ha_nil (ho_lenB (by ktr_room) fun _ => ?_)))))))))))))))))
  refine ha_nil (And.intro (Nat.le_of_ble_eq_true rfl) fun b0 hb0 => ha_nil (ho_mkB1 hR.hh (by ktr_rel) (by ktr_room) (by ktr_room) fun _ => ?_))
  refine he_lv lv_put_ids_dcid rfl (ho_addB (by ktr_room) fun _ => ?_)
  refine he_call (he_bv G gv_put_ids_bytes (nb_bytes w) bb_bytes (by decide) (hc_ty (ha_cons (he_list (ha_cons (he_call (he_bv G gv_put_ids_len (nb_len w) bb_len (by decide) (hc_b (ha_cons (he_lv lv_put_ids_scid rfl (ha_nil (ho_lenB (by ktr_room) fun _ => ?_))))))))))))
  refine ha_nil (And.intro (Nat.le_of_ble_eq_true rfl) fun b1 hb1 => ha_nil (ho_mkB1 hR.hh (by ktr_rel) (by ktr_room) (by ktr_room) fun _ => ?_))
  refine ho_addB (by ktr_room) fun _ => ?_
  refine he_lv lv_put_ids_scid rfl (ho_addB (by ktr_room) fun _ => ?_)
  refine kt_ret ?_
  exact ⟨_, by k_updF, h _⟩
noncomputable def be : Nat → Int → List UInt8
  | 0, _ => []
  | k + 1, n => be k (n / 256) ++ [(n % 256).toNat.toUInt8]
theorem be_len : ∀ (k : Nat) (n : Int), (be k n).length = k
  | 0, _ => rfl
  | k + 1, n => by rw [be, List.length_append, be_len k]; rfl
theorem be_step {j k : Nat} {v : Int} {T : List UInt8} (hj : j < k) : (List.replicate (k - j) (0 : UInt8) ++ T).set (k - 1 - j) (v % 256).toNat.toUInt8 = List.replicate (k - (j + 1)) 0 ++ ((v % 256).toNat.toUInt8 :: T) := by
  obtain ⟨r, e⟩ : ∃ r, k - j = r + 1 := ⟨k - j - 1, by omega⟩
  have e2 : k - 1 - j = r := by omega
  have e3 : k - (j + 1) = r := by omega
  rw [e, e2, e3, List.replicate_succ', List.append_assoc, List.set_append_right _ _ (by simp)]
  simp
theorem be_room {v : Int} {k : Nat} (h0 : 0 ≤ v) (h1 : v < 256 ^ k) : (v / 2 ^ (8 * (k : Int)).toNat != 0) = false := by
  have e : (8 * (k : Int)).toNat = 8 * k := by omega
  have e2 : (2 : Int) ^ (8 * k) = 256 ^ k := by rw [Int.pow_mul]; rfl
  rw [e, e2, Int.ediv_eq_zero_of_lt h0 h1]; rfl
theorem S_put_whole {v : Int} {k : Nat} {t1 t2 : Tok} (G : Gk w g) (hR : Rm A 1) (hk : k = 1 ∨ k = 2 ∨ k = 4 ∨ k = 16) (h0 : 0 ≤ v) (h1 : v < 256 ^ k) (h : ∀ t, V (.bytes (be k v).toArray t) m n) : Ho true Pg w A g L m n (call (.ref 173) [.int v t1, .int (k : Int) t2]) V := by
  refine en_def ok_put_whole [("n", .int v t1), ("size", .int (k : Int) t2)] [some (.int v t1), some (.int (k : Int) t2), none, none, none, none, none, none, none] G hR (by k_is) (by k_is) rfl rfl rfl rfl fun g L A G hR => ?_
  have hroom := be_room h0 h1
  refine hb_cons (hx_if (ht_or (ht_cmp (he_lv lv_put_whole_n rfl (he_int fun _ => ho_lt (ho_tb (ho_if_f (decide_eq_false (by omega)) (ht_or (ht_cmp (he_bin (he_lv lv_put_whole_n rfl (he_bin (he_int fun _ => he_lv lv_put_whole_size rfl (ho_mul (by tb_start) fun _ => ho_shr hR.hh (by first | decide | omega) fun _ => ?_))))))))))))))
  refine he_int fun _ => ho_neI (ho_tb (ho_if_f (by tb_rel) ?_))
  refine ht_or0 (ho_if_f rfl (hb_nil (kt_next (hb_cons (hx_asg (he_call (he_bv G gv_put_whole_bytearray (nb_bytearray w) bb_bytearray (by decide) (hc_ty (ha_cons (he_lv lv_put_whole_size rfl (ha_nil (ho_ba (by ktr_room) (by ktr_room) fun b0 hb0 => ?_))))))))))))
  refine ho_sv lv_put_whole_found rfl (kt_next (hb_cons (hx_for (he_call (he_bv G gv_put_whole_range (nb_range w) bb_range (by decide) (hc_ty (ha_cons (he_bin (he_lv lv_put_whole_size rfl (he_int fun _ => ho_sub fun _ => ha_cons (he_neg (he_int fun _ => ho_neg fun _ => ha_cons (he_neg (he_int fun _ => ho_neg fun _ => ha_nil (ho_range3 (by decide) (PyProof.noPylong_of_log2 (by decide +kernel)) fun b1 _ _ _ hb1 => pi_rangeD .head (by ktr_rel) (k := (k : Int)) (by rcases hk with rfl | rfl | rfl | rfl <;> decide +kernel) (by rcases hk with rfl | rfl | rfl | rfl <;> decide +kernel) fun I => ?_)))))))))))))))
  refine hl_rangeT (k := k) (fun j m n' => ∃ (T : List UInt8) (u : Int) (t : Tok) (x : Option Value), n' = (b0, baO (List.replicate (k - j) 0 ++ T)) :: n ∧ T.length = j ∧ be k v = be (k - j) u ++ T ∧ 0 ≤ u ∧ m = fm ns_put_whole [some (.int u t), some (.int k t2), some (.ref b0), x, none, none, none, none, none]) hR.hh ⟨[], v, t1, none, by simp, rfl, by simp, h0, rfl⟩ ?_ ?_
  · rintro j _ _ t o Z hj ⟨T, u, t', x, rfl, hl, hb, hu, rfl⟩ hZ
    refine hs_name (ho_sv lv_put_whole_place rfl (hb_cons (hx_asgS (he_bin (he_lv lv_put_whole_n rfl (he_int fun _ => ho_mod (by omega) fun _ => he_lv lv_put_whole_found rfl (he_lv lv_put_whole_place rfl (ho_baSet (.tail .head) (by simp; omega) (by omega) (by simp; omega) (by omega) (by omega) ?_))))))))
    have ei : (((k : Int) - 1 + (j : Int) * -1)).toNat = k - 1 - j := by omega
    rw [ei, be_step hj]
    refine kt_next (hb_cons (hx_asg (he_bin (he_lv lv_put_whole_n rfl (he_int fun _ => ho_div (by omega) (PyProof.noPylong_of_log2 (by decide +kernel)) fun _ => ho_sv lv_put_whole_n rfl (kt_next (hb_nil (hZ _ _ _ (turn_next _ (List.Sublist.refl _) ⟨(u % 256).toNat.toUInt8 :: T, u / 256, _, _, rfl, by simp [hl], ?_, by omega, rfl⟩)))))))))
    rw [hb, show k - j = (k - (j + 1)) + 1 by omega, be, List.append_assoc]; rfl
  · rintro _ _ ⟨T, u, t', x, rfl, hl, hb, hu, rfl⟩
    rw [Nat.sub_self, be] at hb
    have e0 : List.replicate (k - k) (0 : UInt8) ++ T = T := by simp
    rw [e0]
    have hT : be k v = T := hb
    have hz : T.length ≤ 100000 := by rw [hl]; omega
    refine kt_next (hb_cons (hx_ret (he_call (he_bv G gv_put_whole_bytes (nb_bytes w) bb_bytes (by decide) (hc_ty (ha_cons (he_lv lv_put_whole_found rfl (ha_nil (ho_baBytes (by ktr_rel) (by ktr_room) fun _ => ?_)))))))))
    refine kt_ret ?_
    have h' := h
    rw [hT] at h'
    exact ⟨n, by k_updF, h' _⟩
theorem be1 {a : Int} (h0 : 0 ≤ a) (h1 : a < 256) : be 1 a = [a.toNat.toUInt8] := by
  show be 0 (a / 256) ++ [(a % 256).toNat.toUInt8] = _
  rw [Int.emod_eq_of_lt h0 h1]; rfl
theorem S_varint_size {a : Int} {t1 : Tok} (G : Gk w g) (hR : Rm A 1) (h0 : 0 ≤ a) (h1 : a < 64) (h : ∀ t, V (.int 1 t) m n) : Ho true Pg w A g L m n (call (.ref 187) [.int a t1]) V := by
  refine en_def ok_varint_size [("n", .int a t1)] [some (.int a t1), none, none, none, none] G hR (by k_is) (by k_is) rfl rfl rfl rfl fun g L A G hR => hb_cons (hx_for (he_gv G gv_varint_size_VARINT_SIZES (gl_VARINT_SIZES w) (pi_tupK G (by show List.lookup _ (hd.heap_1 w.params) = _; k_is) fun I o _ ho => ⟨2, hl_step ?_⟩)))
  refine pn_tupK G (by show List.lookup _ (hd.heap_1 w.params) = _; k_is) .head ho (by rfl) fun o' _ => ?_
  refine hg_name (hs_name (ho_sv lv_varint_size_size rfl (hb_cons (hx_if (ht_chain (he_int fun _ => he_lv lv_varint_size_n rfl (ho_le (ho_tb (ho_if_t (decide_eq_true (by omega)) (he_bin (he_int fun _ => he_bin (he_bin (he_int fun _ => he_lv lv_varint_size_size rfl (ho_mulE (c := 8) (by tb_start) (by decide +kernel) fun _ => he_int fun _ => ho_subE (c := 6) (by decide +kernel) fun _ => ho_shlE (c := 64) (by decide) (by decide) (by decide) (by decide +kernel) fun _ => ho_lt (ho_tb (ho_if_t (decide_eq_true (by omega)) (hb_cons (hx_ret (he_lv lv_varint_size_size rfl (kt_ret (kt_ret (kt_ret ?_))))))))))))))))))))))
  exact ⟨_, by k_updF, h _⟩
theorem S_varint {a : Int} {t1 : Tok} (G : Gk w g) (hR : Rm A 2) (h0 : 0 ≤ a) (h1 : a < 64) (h : ∀ t, V (.bytes [a.toNat.toUInt8].toArray t) m n) : Ho true Pg w A g L m n (call (.ref 194) [.int a t1, .none]) V := by
  refine en_def ok_put_varint [("n", .int a t1), ("size", .none)] [some (.int a t1), some (.none), none, none, none, none, none, none] G hR (by k_is) (by k_is) rfl rfl rfl rfl fun g L A G hR => hb_cons (hx_asg (he_call (he_gv G gv_put_varint_varint_size (gl_varint_size w) (hc_def G (by tb_start) (ha_cons (he_lv lv_put_varint_n rfl (ha_nil (S_varint_size G hR h0 h1 fun _ => ho_sv lv_put_varint_least rfl (kt_next (hb_cons (hx_if (ht_cmp (he_lv lv_put_varint_size rfl (he_none (ho_isO (ho_tb (ho_if_t rfl (hb_cons (hx_asg (he_lv lv_put_varint_least rfl (ho_sv lv_put_varint_size rfl (kt_next (hb_nil (kt_next (hb_cons (hx_if (ht_or (ht_cmp (he_lv lv_put_varint_size rfl (he_lv lv_put_varint_least rfl (ho_lt (ho_tb (ho_if_f (decide_eq_false (by omega)) (ht_or (ht_cmp (he_lv lv_put_varint_size rfl (he_gv G gv_put_varint_VARINT_SIZES (gl_VARINT_SIZES w) (ho_ninTIK G (by show List.lookup _ (hd.heap_1 w.params) = _; k_is) rfl ?_))))))))))))))))))))))))))))))))))))))
  refine ho_tb (ho_if_f (by tb_rel) ?_)
  refine ht_or0 (ho_if_f rfl (hb_nil (kt_next (hb_cons (hx_ret (he_call (he_gv G gv_put_varint_put_whole (gl_put_whole w) (hc_def G (by tb_start) (ha_cons (he_bin (he_bin (he_meth (he_gv G gv_put_varint_VARINT_SIZES (gl_VARINT_SIZES w) (hm_ofK PySem.F.plainAttrs_tuple PySem.F.slot_tuple_index tup_index_ty G (by show List.lookup _ (hd.heap_1 w.params) = _; k_is) rfl rfl ?_))))))))))))))
  refine hc_b (ha_cons (he_lv lv_put_varint_size rfl (ha_nil (ho_tidx0 G (by show List.lookup _ (hd.heap_1 w.params) = _; k_is) fun _ => ?_))))
  refine he_bin (he_bin (he_int fun _ => he_lv lv_put_varint_size rfl (ho_mulE (c := 8) (by tb_start) (by decide +kernel) fun _ => he_int fun _ => ho_subE (c := 6) (by decide +kernel) fun _ => ho_shlE (c := 0) (by decide) (by decide) (by decide) (by decide +kernel) fun _ => he_lv lv_put_varint_n rfl (ho_orI fun _ => ha_cons (he_lv lv_put_varint_size rfl (ha_nil ?_))))))
  have e0 : Builtin.bitOr 0 a = a := by rw [PyProof.Rows.bitOr_comm, PyProof.Rows.bitOr_and, PyProof.Rows.bitAnd_zero]; omega
  rw [e0]
  refine S_put_whole (k := 1) G hR (.inl rfl) h0 (by omega) fun _ => ?_
  rw [be1 h0 (by omega)]
  exact kt_ret ⟨_, by k_updF, h _⟩
theorem S_counted {l : List UInt8} {t1 : Tok} (G : Gk w g) (hR : Rm A 3) (h1 : l.length < 64) (h : ∀ t, V (.bytes (((l.length : Int).toNat.toUInt8) :: l).toArray t) m n) : Ho true Pg w A g L m n (call (.ref 214) [.bytes l.toArray t1]) V := by
  refine en_def ok_put_counted [("data", .bytes l.toArray t1)] [some (.bytes l.toArray t1), none, none] G hR (by k_is) (by k_is) rfl rfl rfl rfl fun g L A G hR => hb_cons (hx_ret (he_bin (he_call (he_gv G gv_put_counted_put_varint (gl_put_varint w) (hc_def G (by tb_start) (ha_cons (he_call (he_bv G gv_put_counted_len (nb_len w) bb_len (by decide) (hc_b (ha_cons (he_lv lv_put_counted_data rfl (ha_nil (ho_lenB (by ktr_room) fun _ => ?_)))))))))))))
  refine ha_cons (he_none (ha_nil (S_varint G hR (by omega) (by omega) fun _ => he_lv lv_put_counted_data rfl (ho_addB (by ktr_room) fun _ => ?_))))
  refine kt_ret ?_
  exact ⟨_, by k_updF, h _⟩
theorem S_numbers2 {a : Addr} {x y : Int} {t1 t2 : Tok} {k : Nat} (G : Gk w g) (hR : Rm A 3) (hm : (a, lstO [.int x t1, .int y t2] k) ∈ n) (x0 : 0 ≤ x) (x1 : x < 64) (y0 : 0 ≤ y) (y1 : y < 64) (h : ∀ t, V (.bytes [x.toNat.toUInt8, y.toNat.toUInt8].toArray t) m n) : Ho true Pg w A g L m n (call (.ref 207) [.ref a]) V := by
  refine en_def ok_put_numbers [("numbers", .ref a)] [some (.ref a)] G hR (by k_is) (by k_is) rfl rfl rfl rfl fun g L A G hR => hb_cons (hx_ret (he_meth (he_bytes fun _ => hm_join (hc_b (ha_cons (he_compL G (by decide +kernel) hR.hh (he_lv lv_put_numbers_numbers rfl (⟨a, _, k, rfl, hm, fun D g C I hD G st => ⟨fun i n' => (i = 0 ∧ n' = (D, lstO [] 0) :: n) ∨ (i = 1 ∧ ∃ t, n' = (D, lstO [.bytes [x.toNat.toUInt8].toArray t] 1) :: n) ∨ (i = 2 ∧ ∃ t t', n' = (D, lstO [.bytes [x.toNat.toUInt8].toArray t, .bytes [y.toNat.toUInt8].toArray t'] 2) :: n), .inl ⟨rfl, rfl⟩, ?_, ?_, ?_⟩⟩))))))))
  · rintro i n' (⟨_, rfl⟩ | ⟨_, _, rfl⟩ | ⟨_, _, _, rfl⟩) <;> exact .tail _ hm
  · rintro i v m' n' o hv (⟨rfl, rfl⟩ | ⟨rfl, t, rfl⟩ | ⟨rfl, t, t', rfl⟩)
    · cases hv
      refine hs_name (ho_st (hif_nil (ho_if_t rfl ?_)))
      refine he_call (he_globG G (gl_put_varint w) (hc_def G (by tb_start) (ha_cons (he_up (ha_cons (he_none (ha_nil (S_varint G hR x0 x1 fun t => ho_appS (by ktr_unf) (by exact Nat.le_of_ble_eq_true rfl) ?_))))))))
      exact ⟨_, List.Sublist.refl _, .inr (.inl ⟨rfl, _, rfl⟩)⟩
    · cases hv
      refine hs_name (ho_st (hif_nil (ho_if_t rfl ?_)))
      refine he_call (he_globG G (gl_put_varint w) (hc_def G (by tb_start) (ha_cons (he_up (ha_cons (he_none (ha_nil (S_varint G hR y0 y1 fun t => ho_appS (by ktr_unf) (by exact Nat.le_of_ble_eq_true rfl) ?_))))))))
      exact ⟨_, List.Sublist.refl _, .inr (.inr ⟨rfl, _, _, rfl⟩)⟩
    · cases hv
  · rintro n' (⟨h, _⟩ | ⟨h, _⟩ | ⟨_, t, t', rfl⟩)
    · cases h
    · cases h
    · refine ha_nil (ho_join2 (.head _) (Nat.le_of_ble_eq_true rfl) fun _ => ?_)
      exact kt_ret ⟨_, by k_updF, h _⟩
theorem S_numbers3 {a : Addr} {x y z : Int} {t1 t2 t3 : Tok} {k : Nat} (G : Gk w g) (hR : Rm A 3) (hm : (a, lstO [.int x t1, .int y t2, .int z t3] k) ∈ n) (x0 : 0 ≤ x) (x1 : x < 64) (y0 : 0 ≤ y) (y1 : y < 64) (z0 : 0 ≤ z) (z1 : z < 64) (h : ∀ t, V (.bytes [x.toNat.toUInt8, y.toNat.toUInt8, z.toNat.toUInt8].toArray t) m n) : Ho true Pg w A g L m n (call (.ref 207) [.ref a]) V := by
  refine en_def ok_put_numbers [("numbers", .ref a)] [some (.ref a)] G hR (by k_is) (by k_is) rfl rfl rfl rfl fun g L A G hR => hb_cons (hx_ret (he_meth (he_bytes fun _ => hm_join (hc_b (ha_cons (he_compL G (by decide +kernel) hR.hh (he_lv lv_put_numbers_numbers rfl ?_)))))))
  refine ⟨a, _, k, rfl, hm, fun D g C I hD G st => ⟨fun i n' => (i = 0 ∧ n' = (D, lstO [] 0) :: n) ∨ (i = 1 ∧ ∃ t, n' = (D, lstO [.bytes [x.toNat.toUInt8].toArray t] 1) :: n) ∨ (i = 2 ∧ ∃ t t', n' = (D, lstO [.bytes [x.toNat.toUInt8].toArray t, .bytes [y.toNat.toUInt8].toArray t'] 2) :: n)
      ∨ (i = 3 ∧ ∃ t t' t'', n' = (D, lstO [.bytes [x.toNat.toUInt8].toArray t, .bytes [y.toNat.toUInt8].toArray t', .bytes [z.toNat.toUInt8].toArray t''] 3) :: n), .inl ⟨rfl, rfl⟩, ?_, ?_, ?_⟩⟩
  · rintro i n' (⟨_, rfl⟩ | ⟨_, _, rfl⟩ | ⟨_, _, _, rfl⟩ | ⟨_, _, _, _, rfl⟩) <;> exact .tail _ hm
  · rintro i v m' n' o hv (⟨rfl, rfl⟩ | ⟨rfl, t, rfl⟩ | ⟨rfl, t, t', rfl⟩ | ⟨rfl, t, t', t'', rfl⟩)
    · cases hv
      refine hs_name (ho_st (hif_nil (ho_if_t rfl ?_)))
      refine he_call (he_globG G (gl_put_varint w) (hc_def G (by tb_start) (ha_cons (he_up (ha_cons (he_none (ha_nil (S_varint G hR x0 x1 fun t => ho_appS (by ktr_unf) (by exact Nat.le_of_ble_eq_true rfl) ?_))))))))
      exact ⟨_, List.Sublist.refl _, .inr (.inl ⟨rfl, _, rfl⟩)⟩
    · cases hv
      refine hs_name (ho_st (hif_nil (ho_if_t rfl ?_)))
      refine he_call (he_globG G (gl_put_varint w) (hc_def G (by tb_start) (ha_cons (he_up (ha_cons (he_none (ha_nil (S_varint G hR y0 y1 fun t => ho_appS (by ktr_unf) (by exact Nat.le_of_ble_eq_true rfl) ?_))))))))
      exact ⟨_, List.Sublist.refl _, .inr (.inr (.inl ⟨rfl, _, _, rfl⟩))⟩
    · cases hv
      refine hs_name (ho_st (hif_nil (ho_if_t rfl ?_)))
      refine he_call (he_globG G (gl_put_varint w) (hc_def G (by tb_start) (ha_cons (he_up (ha_cons (he_none (ha_nil (S_varint G hR z0 z1 fun t => ho_appS (by ktr_unf) (by exact Nat.le_of_ble_eq_true rfl) ?_))))))))
      exact ⟨_, List.Sublist.refl _, .inr (.inr (.inr ⟨rfl, _, _, _, rfl⟩))⟩
    · cases hv
  · rintro n' (⟨h, _⟩ | ⟨h, _⟩ | ⟨h, _⟩ | ⟨_, t, t', t'', rfl⟩)
    · cases h
    · cases h
    · cases h
    · refine ha_nil (ho_join3 (.head _) (Nat.le_of_ble_eq_true rfl) fun _ => ?_)
      exact kt_ret ⟨_, by k_updF, h _⟩
noncomputable def nextS (s : Int) : Int := (s * 6364136223846793005 + 1442695040888963407) % MODn
noncomputable def turnG (s : Int) : List UInt8 → List UInt8
  | [] => []
  | o :: r => (Builtin.bitXor (o.toNat : Int) (nextS s / 65536 % 256)).toNat.toUInt8 :: turnG (nextS s) r
noncomputable def stA (s : Int) (l : List UInt8) : Int := l.foldl (fun s _ => nextS s) s
theorem turnG_app : ∀ (a b : List UInt8) (s : Int), turnG s (a ++ b) = turnG s a ++ turnG (stA s a) b
  | [], _, _ => rfl
  | o :: a, b, s => by
    show _ :: turnG (nextS s) (a ++ b) = _
    rw [turnG_app a b (nextS s)]; rfl
theorem stA_app (a b : List UInt8) (s : Int) : stA s (a ++ b) = stA (stA s a) b := by unfold stA; rw [List.foldl_append]
theorem turnG_len : ∀ (l : List UInt8) (s : Int), (turnG s l).length = l.length
  | [], _ => rfl
  | o :: l, s => by rw [turnG, List.length_cons, turnG_len l]; rfl
theorem xor_and_add (a b : Nat) : (a ^^^ b) + 2 * (a &&& b) = a + b := by
  induction a using Nat.strongRecOn generalizing b with
  | _ a ih =>
    by_cases h : a = 0
    · subst h; simp
    · have h1 := ih (a / 2) (by omega) (b / 2)
      have e1 : (a ^^^ b) / 2 = a / 2 ^^^ b / 2 := by simpa using Nat.xor_div_two_pow (a := a) (b := b) (n := 1)
      have e2 : (a &&& b) / 2 = a / 2 &&& b / 2 := by simpa using Nat.and_div_two_pow (a := a) (b := b) (n := 1)
      have ha : a % 2 = 0 ∨ a % 2 = 1 := by omega
      have hb : b % 2 = 0 ∨ b % 2 = 1 := by omega
      have e3 : (a ^^^ b) % 2 = (a % 2 + b % 2) % 2 := by
        have := Nat.xor_mod_two_pow (a := a) (b := b) (n := 1)
        simp only [Nat.pow_one] at this
        rw [this]
        rcases ha with ha | ha <;> rcases hb with hb | hb <;> rw [ha, hb] <;> rfl
      have e4 : (a &&& b) % 2 = (a % 2) * (b % 2) := by
        have := Nat.and_mod_two_pow (a := a) (b := b) (n := 1)
        simp only [Nat.pow_one] at this
        rw [this]
        rcases ha with ha | ha <;> rcases hb with hb | hb <;> rw [ha, hb] <;> rfl
      have key : (a ^^^ b) % 2 + 2 * ((a &&& b) % 2) = a % 2 + b % 2 := by
        rw [e3, e4]
        rcases ha with ha | ha <;> rcases hb with hb | hb <;> rw [ha, hb]
      rw [← e1, ← e2] at h1
      clear e1 e2 e3 e4 ha hb ih h
      generalize a ^^^ b = x at *
      generalize a &&& b = y at *
      omega
theorem bitXor_pp {x y : Int} (hx : 0 ≤ x) (hy : 0 ≤ y) : Builtin.bitXor x y = ((x.toNat ^^^ y.toNat : Nat) : Int) := by
  rw [PyProof.Rows.bitXor_and, PyProof.Rows.bitAnd_pp hx hy]
  have := xor_and_add x.toNat y.toNat
  omega
theorem bitXor_inv {x y : Int} (hx : 0 ≤ x) (hy : 0 ≤ y) : Builtin.bitXor (Builtin.bitXor x y) y = x := by
  rw [bitXor_pp hx hy, bitXor_pp (by omega) hy, Int.toNat_natCast, Nat.xor_assoc, Nat.xor_self, Nat.xor_zero]
  omega
noncomputable def bodyB : List UInt8 := [98, 111, 100, 121]
noncomputable def turned (key : List UInt8) (num : Int) (l : List UInt8) : List UInt8 := turnG (mixed (mixed (num + 1) key) bodyB) l
theorem bitXor_byte {x y : Int} (hx : 0 ≤ x) (hx' : x < 256) (hy : 0 ≤ y) (hy' : y < 256) : 0 ≤ Builtin.bitXor x y ∧ Builtin.bitXor x y < 256 := by
  rw [bitXor_pp hx hy]
  have : x.toNat ^^^ y.toNat < 2 ^ 8 := Nat.xor_lt_two_pow (by omega) (by omega)
  omega
theorem ints_snoc : ∀ {vs : List Value} {ns : List Int} (i : Int) (t : Tok), IntsAre vs ns → IntsAre (vs ++ [.int i t]) (ns ++ [i])
  | _, _, i, t, .nil => .cons i t .nil
  | _, _, i, t, .cons j u r => .cons j u (ints_snoc i t r)
theorem S_turned {key l : List UInt8} {v : Int} {t1 t2 t3 : Tok} (G : Gk w g) (hR : Rm A 2) (hl : l.length ≤ 1000) (h : ∀ t, V (.bytes (turned key v l).toArray t) m n) : Ho true Pg w A g L m n (call (.ref 465) [.bytes key.toArray t1, .int v t2, .bytes l.toArray t3]) V := by
  refine en_def ok_turned_octets [("key", .bytes key.toArray t1), ("number", .int v t2), ("data", .bytes l.toArray t3)] [some (.bytes key.toArray t1), some (.int v t2), some (.bytes l.toArray t3), none, none, none, none, none, none, none] G hR (by k_is) (by k_is) rfl rfl rfl rfl fun g L A G hR => hb_cons (hx_asgTS [PySem.Str.ofString "state", PySem.Str.ofString "found"] ?_ rfl rfl)
  refine he_tup (ha_cons (he_call (he_gv G gv_turned_octets_mixed_octets (gl_mixed_octets w) (hc_def G (by tb_start) (ha_cons (he_call (he_gv G gv_turned_octets_mixed_octets (gl_mixed_octets w) (hc_def G (by tb_start) (ha_cons (he_bin (he_lv lv_turned_octets_number rfl (he_int fun _ => ho_add fun _ => ha_cons (he_lv lv_turned_octets_key rfl (ha_nil (S_mixed G hR fun _ => ha_cons (he_bytes fun _ => ha_nil (S_mixed (l := bodyB) G hR fun _ => ha_cons (he_list (ha_nil (And.intro (Nat.le_of_ble_eq_true rfl) fun c0 hc0 => ha_nil (And.intro (Nat.le_of_ble_eq_true rfl) fun c1 hc1 => hu_tup hR.hh (by ktr_rel) rfl ?_)))))))))))))))))))))
  refine hi_cons (hb_name (ho_sv lv_turned_octets_found rfl (hi_cons (hb_name (ho_sv lv_turned_octets_state rfl (hi_nil (kt_next (hb_cons (hx_for (he_lv lv_turned_octets_data rfl (pi_bytes fun I o hI ho => ?_)))))))))))
  refine hl_bytesT (fun pre m n' => ∃ (tv : Obj) (vs : List Value) (ns : List Int) (k : Nat) (t : Tok) (x : Option Value), n' = (c1, tv) :: (c0, lstO vs k) :: n ∧ IntsAre vs ns ∧ (∀ n ∈ ns, 0 ≤ n ∧ n < 256) ∧ ns.map (fun n => n.toNat.toUInt8) = turnG (mixed (mixed (v + 1) key) bodyB) pre ∧ vs.length = pre.length ∧
    m = fm ns_turned_octets [some (.bytes key.toArray t1), some (.int v t2), some (.bytes l.toArray t3), some (.int (stA (mixed (mixed (v + 1) key) bodyB) pre) t), some (.ref c0), x, none, none, none, none]) hR.hh ho ⟨_, [], [], 0, _, none, rfl, .nil, by simp, rfl, rfl, rfl⟩ ?_ ?_
  · rintro pre c rest _ _ t o T hlp ⟨tv, vs, ns, k, t', x, rfl, hi, hr, hm, hlen, rfl⟩ hT
    have hz : vs.length ≤ 100000 := by rw [hlen]; have := congrArg List.length hlp; simp at this; omega
    refine hs_name (ho_sv lv_turned_octets_octet rfl (hb_cons (hx_asg (he_bin (he_bin (he_bin (he_lv lv_turned_octets_state rfl (he_gv G gv_turned_octets_FACTOR (gl_FACTOR w) (ho_mul (by tb_start) fun _ => he_int fun _ => ho_add fun _ => he_gv G gv_turned_octets_MODULUS (gl_MODULUS w) (ho_mod (by omega) fun _ => ho_sv lv_turned_octets_state rfl (kt_next (hb_cons (hx_expr (he_meth (he_lv lv_turned_octets_found rfl (hm_app (by ktr_rel) ?_))))))))))))))))
    refine hc_b (ha_cons (he_bin (he_lv lv_turned_octets_octet rfl (he_bin (he_bin (he_lv lv_turned_octets_state rfl (he_int fun _ => ho_div (by omega) (PyProof.noPylong_of_log2 (by decide +kernel)) fun _ => he_int fun _ => ho_mod (by omega) fun _ => ho_xor fun _ => ha_nil (ho_appS (by ktr_unf) (by ktr_room) ?_))))))))
    refine And.intro rfl (kt_next (hb_nil (hT _ _ _ (turn_next _ (List.Sublist.refl _) ⟨tv, _, _, _, _, _, rfl, ints_snoc _ _ hi, ?_, ?_, by simp [hlen], by rw [stA_app]; rfl⟩))))
    · intro q hq
      rcases List.mem_append.mp hq with hq | hq
      · exact hr q hq
      · rw [List.mem_singleton.mp hq]
        exact bitXor_byte (by omega) (by have := c.toNat_lt; omega) (by omega) (by omega)
    · rw [List.map_append, hm, turnG_app]; rfl
  · rintro _ _ ⟨tv, vs, ns, k, t', x, rfl, hi, hr, hm, hlen, rfl⟩
    refine kt_next (hb_cons (hx_ret (he_call (he_bv G gv_turned_octets_bytes (nb_bytes w) bb_bytes (by decide) (hc_ty (ha_cons (he_lv lv_turned_octets_found rfl (ha_nil (ho_mkB hR.hh (.tail _ (.head _)) hi hr (by rw [sizeLine_eq]; omega) fun _ => ?_)))))))))
    have h' := h
    unfold turned at h'
    rw [← hm] at h'
    exact kt_ret ⟨_, by k_updF, h' _⟩
theorem mixed_range (l : List UInt8) (s : Int) : 0 ≤ mixed s l ∧ mixed s l < MODn := by
  have key : ∀ (l : List UInt8) (f : Int), 0 ≤ f → f < MODn → 0 ≤ l.foldl mixF f ∧ l.foldl mixF f < MODn := by
    intro l
    induction l with
    | nil => intro f h0 h1; exact ⟨h0, h1⟩
    | cons o l ih => intro f h0 h1; exact ih (mixF f o) (Int.emod_nonneg _ (by decide)) (Int.emod_lt_of_pos _ (by decide))
  exact key l _ (Int.emod_nonneg _ (by decide)) (Int.emod_lt_of_pos _ (by decide))
theorem mod_room : MODn < 256 ^ 16 := by decide
noncomputable def tagG (key : List UInt8) (num : Int) (hed bd : List UInt8) : List UInt8 := be 16 (mixed (mixed (num + 1) key) (be 4 hed.length ++ hed ++ bd))
theorem S_tag {key hed bd : List UInt8} {v : Int} {t1 t2 t3 t4 : Tok} (G : Gk w g) (hR : Rm A 2) (h1 : hed.length ≤ 1000) (h2 : bd.length ≤ 1000) (h : ∀ t, V (.bytes (tagG key v hed bd).toArray t) m n) : Ho true Pg w A g L m n (call (.ref 472) [.bytes key.toArray t1, .int v t2, .bytes hed.toArray t3, .bytes bd.toArray t4]) V := by
  have hl4 := be_len 4 (hed.length : Int)
  refine en_def ok_tag_of [("key", .bytes key.toArray t1), ("number", .int v t2), ("head", .bytes hed.toArray t3), ("body", .bytes bd.toArray t4)] [some (.bytes key.toArray t1), some (.int v t2), some (.bytes hed.toArray t3), some (.bytes bd.toArray t4), none, none, none, none, none] G hR (by k_is) (by k_is) rfl rfl rfl rfl fun g L A G hR => hb_cons (hx_asg (he_call (he_gv G gv_tag_of_mixed_octets (gl_mixed_octets w) (hc_def G (by tb_start) (ha_cons (he_call (he_gv G gv_tag_of_mixed_octets (gl_mixed_octets w) (hc_def G (by tb_start) (ha_cons (he_bin (he_lv lv_tag_of_number rfl (he_int fun _ => ho_add fun _ => ha_cons (he_lv lv_tag_of_key rfl (ha_nil (S_mixed G hR fun _ => ha_cons (he_bin (he_bin (he_call (he_gv G gv_tag_of_put_whole (gl_put_whole w) (hc_def G (by tb_start) (ha_cons (he_call (he_bv G gv_tag_of_len (nb_len w) bb_len (by decide) (hc_b (ha_cons (he_lv lv_tag_of_head rfl (ha_nil (ho_lenB (by ktr_room) fun _ => ?_))))))))))))))))))))))))))))
  refine ha_cons (he_int fun _ => ha_nil (S_put_whole (k := 4) G hR (.inr (.inr (.inl rfl))) (by omega) (by omega) fun _ => he_lv lv_tag_of_head rfl (ho_addB (by ktr_room) fun _ => ?_)))
  refine he_lv lv_tag_of_body rfl (ho_addB (by ktr_room) fun _ => ?_)
  refine ha_nil (S_mixed G hR fun _ => ho_sv lv_tag_of_state rfl (kt_next (hb_cons (hx_ret (he_call (he_gv G gv_tag_of_put_whole (gl_put_whole w) (hc_def G (by tb_start) (ha_cons (he_lv lv_tag_of_state rfl (ha_cons (he_gv G gv_tag_of_TAG_SIZE (gl_TAG_SIZE w) (ha_nil ?_))))))))))))
  have hm := mixed_range (be 4 hed.length ++ hed ++ bd) (mixed (v + 1) key)
  refine S_put_whole (k := 16) G hR (.inr (.inr (.inr rfl))) hm.1 (Int.lt_trans hm.2 mod_room) fun _ => kt_ret ?_
  exact ⟨_, by k_updF, h _⟩
theorem S_seal {key hed bd : List UInt8} {v : Int} {t1 t2 t3 t4 : Tok} (G : Gk w g) (hR : Rm A 3) (h1 : hed.length ≤ 1000) (h2 : bd.length ≤ 1000) (h : ∀ t, V (.bytes (turned key v bd ++ tagG key v hed (turned key v bd)).toArray t) m n) : Ho true Pg w A g L m n (call (.ref 479) [.bytes key.toArray t1, .int v t2, .bytes hed.toArray t3, .bytes bd.toArray t4]) V := by
  have hlt : (turned key v bd).length = bd.length := turnG_len _ _
  have hlg : (tagG key v hed (turned key v bd)).length = 16 := be_len _ _
  refine en_def ok_seal_payload [("key", .bytes key.toArray t1), ("number", .int v t2), ("head", .bytes hed.toArray t3), ("payload", .bytes bd.toArray t4)] [some (.bytes key.toArray t1), some (.int v t2), some (.bytes hed.toArray t3), some (.bytes bd.toArray t4), none, none, none] G hR (by k_is) (by k_is) rfl rfl rfl rfl fun g L A G hR => hb_cons (hx_asg (he_call (he_gv G gv_seal_payload_turned_octets (gl_turned_octets w) (hc_def G (by tb_start) (ha_cons (he_lv lv_seal_payload_key rfl (ha_cons (he_lv lv_seal_payload_number rfl (ha_cons (he_lv lv_seal_payload_payload rfl (ha_nil (S_turned G (hR.le (by omega)) h2 fun _ => ho_sv lv_seal_payload_body rfl (kt_next (hb_cons (hx_ret (he_bin (he_lv lv_seal_payload_body rfl (he_call (he_gv G gv_seal_payload_tag_of (gl_tag_of w) (hc_def G (by tb_start) (ha_cons (he_lv lv_seal_payload_key rfl (ha_cons (he_lv lv_seal_payload_number rfl (ha_cons (he_lv lv_seal_payload_head rfl (ha_cons (he_lv lv_seal_payload_body rfl (ha_nil (S_tag G hR h1 (by omega) fun _ => ho_addB (by ktr_room) fun _ => ?_))))))))))))))))))))))))))))))
  refine kt_ret ?_
  exact ⟨_, by k_updF, h _⟩
noncomputable def maskG (key s : List UInt8) : List UInt8 := cut (be 16 (mixed (mixed 7 key) s)) (some 11) none
theorem S_mask {key s : List UInt8} {t1 t2 : Tok} (G : Gk w g) (hR : Rm A 2) (h : ∀ t, V (.bytes (maskG key s).toArray t) m n) : Ho true Pg w A g L m n (call (.ref 493) [.bytes key.toArray t1, .bytes s.toArray t2]) V := by
  refine en_def ok_head_mask [("key", .bytes key.toArray t1), ("sample", .bytes s.toArray t2)] [some (.bytes key.toArray t1), some (.bytes s.toArray t2), none, none, none, none] G hR (by k_is) (by k_is) rfl rfl rfl rfl fun g L A G hR => hb_cons (hx_ret (he_cut (he_call (he_gv G gv_head_mask_put_whole (gl_put_whole w) (hc_def G (by tb_start) (ha_cons (he_call (he_gv G gv_head_mask_mixed_octets (gl_mixed_octets w) (hc_def G (by tb_start) (ha_cons (he_call (he_gv G gv_head_mask_mixed_octets (gl_mixed_octets w) (hc_def G (by tb_start) (ha_cons (he_int fun _ => ha_cons (he_lv lv_head_mask_key rfl (ha_nil (S_mixed G hR fun _ => ha_cons (he_lv lv_head_mask_sample rfl (ha_nil (S_mixed G hR fun _ => ha_cons (he_gv G gv_head_mask_TAG_SIZE (gl_TAG_SIZE w) (ha_nil ?_)))))))))))))))))))))))
  have hm := mixed_range s (mixed 7 key)
  have hl16 := be_len 16 (mixed (mixed 7 key) s)
  refine S_put_whole (k := 16) G hR (.inr (.inr (.inr rfl))) hm.1 (Int.lt_trans hm.2 mod_room) fun _ => hp_some (he_bin (he_gv G gv_head_mask_TAG_SIZE (gl_TAG_SIZE w) (he_gv G gv_head_mask_MASK_SIZE (gl_MASK_SIZE w) (ho_subE (c := 11) (by decide +kernel) fun _ => hp_none (⟨_, _, _, _, rfl, by constructor, by constructor, by ktr_room, fun _ => ?_⟩)))))
  refine kt_ret ?_
  exact ⟨_, by k_updF, h _⟩
theorem en_def1 {f : Addr} {oc : Value} {od : Option Addr} {osl : Array (Option Value)} {name qual : Str} {params : Arguments} {body : List Stmt} {scope : Scope} {dV kV doc pm cdv ct : Value} {an : Option Addr}
    {vs : List Value} {kw : List (Str × Value)} {k : Nat} {x0 : Str} {m0 : FMap} {v0 : Option Value} (binds : List (Str × Value)) (G : Gk w g) (hR : Rm A (k + 1))
    (ho : List.lookup f (hd.heap_1 w.params) = some ⟨oc, od, .func (fnOf name qual params body scope dV kV doc pm an cdv ct), osl⟩) (hcd : codeIn (hd.heap_1 w.params) cdv qual = true)
    (hbind : bindArgs (fnOf name qual params body scope dV kV doc pm an cdv ct) ⟨vs, kw⟩ = pure binds)
    (hcf : ∀ n, cellsFrom n scope.names [] = [(x0, n)]) (hkind : ∀ x ∈ binds, scope.names.lookup x.1 = some .local ∨ (scope.names.lookup x.1 = some .cell ∧ x.1 = x0))
    (hL : ∀ L' c, bindL (envX qual scope L' f cdv [(x0, c)]).kindOf binds (fun _ => none) = m0) (hC : ∀ L' c, bindC (envX qual scope L' f cdv [(x0, c)]).kindOf binds (fun _ => none) x0 = v0)
    (hs : (scope.isCoroutine, scope.isGenerator, scope.kind) = (false, false, .function))
    (h : ∀ g' L' A' c o, Gk w g' → Rm A' k → o.data = .cell v0 → (∀ p ∈ n, p.1 ≠ c) → Ho true Pg w A' g' L' m0 ((c, o) :: n) (execs body (envX qual scope L' f cdv [(x0, c)])) (Kend V m)) :
    Ho true Pg w A g L m n (call (.ref f) vs kw) V :=
  ho_runV ⟨fun hh ge dr tk os R F N q => (hoC_def1 (W := fun v n' => ∃ n₂ : Led, n₂.Sublist n' ∧ V v m n₂) G ho hcd (by have := hR.dp; omega) hbind hcf hkind hL hC (fun g' L' c o G' hd hc => h g' L' _ c o G' hR.deep hd hc) (congrArg (·.1) hs) (congrArg (·.2.1) hs) (congrArg (·.2.2) hs)).run hh ge dr tk os R F N fun f m' n' h' tk' F' N' p => by
    cases f with
    | ret v => obtain ⟨rfl, n₂, s, p⟩ := p; exact q (.ret v) _ _ _ _ F' (N'.sub s) p
    | next => exact p.elim
    | brk => exact p.elim
    | cont => exact p.elim⟩
noncomputable def turnN (l k : List UInt8) : List UInt8 := l.mapIdx fun i o => (Builtin.bitXor (o.toNat : Int) ((k.getD (1 + i) 0).toNat : Int)).toNat.toUInt8
theorem S_turn_num {l k : List UInt8} {t1 t2 : Tok} (G : Gk w g) (hR : Rm A 1) (hl : l.length ≤ 4) (hk : k.length = 5) (h : ∀ t, V (.bytes (turnN l k).toArray t) m n) : Ho true Pg w A g L m n (call (.ref 505) [.bytes l.toArray t1, .bytes k.toArray t2]) V := by
  refine en_def1 (x0 := Str.ofString "mask") (m0 := up (Str.ofString "octets") (.bytes l.toArray t1) fun _ => none) (v0 := some (.bytes k.toArray t2)) [("octets", .bytes l.toArray t1), ("mask", .bytes k.toArray t2)] G hR (by k_is) (by k_is) rfl (fun _ => rfl) ?_ (fun _ _ => ?_) (fun _ _ => ?_) rfl fun g L A c co G hR hco hc => ?_
  · intro x hx
    rcases List.mem_cons.mp hx with rfl | hx
    · exact .inl rfl
    · rcases List.mem_cons.mp hx with rfl | hx
      · exact .inr ⟨rfl, rfl⟩
      · cases hx
  · funext y; rfl
  · rfl
  · refine hb_cons (hx_ret (he_call (he_bv G gv_turned_number_bytes (nb_bytes w) bb_bytes (by decide) (hc_ty (ha_cons (he_compEB [(Str.ofString "mask", c)] G hR.hh (by rfl) (by rfl) (he_call (he_bv G gv_turned_number_enumerate (nb_enumerate w) bb_enumerate (by decide) (hc_ty (ha_cons (he_up (ha_nil (ho_enumB fun e0 e0i e0o e0O he0 he0i => ⟨e0, e0i, e0o, l, t1, _, rfl, rfl, e0O, fun D g C hD G st => ⟨fun i n' => ∃ (vs : List Value) (ns : List Int) (kk : Nat), n' = (D, lstO vs kk) :: (c, co) :: n ∧ IntsAre vs ns ∧ (∀ n ∈ ns, 0 ≤ n ∧ n < 256) ∧ ns.map (fun n => n.toNat.toUInt8) = (turnN l k).take i ∧ vs.length = i, ⟨[], [], 0, rfl, .nil, by simp, rfl, rfl⟩, ?_, ?_⟩⟩)))))))))))))
    · rintro i o m' _ T t3 t4 r1 r2 hi ⟨vs, ns, kk, rfl, hvi, hr, hmap, hlen⟩
      have hil : i < l.length := (List.getElem?_eq_some_iff.mp hi).1
      refine ha_tup hR.hh (by ktr_rel) rfl rfl ?_
      refine hi_cons (hs_name (ho_st (hi_cons (hs_name (ho_st (hi_nil (hif_nil (ho_if_t rfl ?_))))))))
      refine he_bin (he_up (he_sub (he_cellv (by rfl) (by ktr_rel) (by assumption) ?_)))
      refine he_bin (he_int fun _ => he_up1 (by decide) (ho_add fun _ => ho_bi (by ktr_room) (by ktr_room) (by ktr_room) fun _ => ?_))
      refine ho_xor fun _ => ho_appS (by ktr_unf) (by ktr_room) ?_
      have hx : 0 ≤ Builtin.bitXor (o.toNat : Int) ((k.getD (1 + (i : Int)).toNat 0).toNat : Int) ∧ Builtin.bitXor (o.toNat : Int) ((k.getD (1 + (i : Int)).toNat 0).toNat : Int) < 256 :=
        bitXor_byte (by omega) (by have := o.toNat_lt; omega) (by omega) (by have := (k.getD (1 + (i : Int)).toNat 0).toNat_lt; omega)
      have e1 : (1 + (i : Int)).toNat = 1 + i := by omega
      refine ⟨_, List.Sublist.cons _ (List.Sublist.refl _), _, _, _, rfl, ints_snoc _ _ hvi, ?_, ?_, by simp [hlen]⟩
      · intro q hq
        rcases List.mem_append.mp hq with hq | hq
        · exact hr q hq
        · rw [List.mem_singleton.mp hq]; exact hx
      · rw [List.map_append, hmap, List.take_add_one]
        have : (turnN l k)[i]? = some (Builtin.bitXor (o.toNat : Int) ((k.getD (1 + i) 0).toNat : Int)).toNat.toUInt8 := by
          unfold turnN; rw [List.getElem?_mapIdx, hi]; rfl
        rw [this, e1]; rfl
    · rintro _ ⟨vs, ns, kk, rfl, hvi, hr, hmap, hlen⟩
      refine ha_nil ?_
      have hlt : (turnN l k).length = l.length := by unfold turnN; simp
      rw [List.take_of_length_le (by omega)] at hmap
      refine ho_mkB hR.hh (.head _) hvi hr (by rw [sizeLine_eq]; omega) fun _ => ?_
      rw [hmap]
      exact kt_ret ⟨_, by k_updF, h _⟩
noncomputable def szG (ap : Int) : Nat := if ap ≤ 128 then 1 else 2
noncomputable def Ack (v : Value) (a ap : Int) : Prop := (v = .none ∧ ap = a + 1) ∨ ∃ e t, v = .int e t ∧ ap = a - e
theorem S_number_size {a ap : Int} {v : Value} {t : Tok} (G : Gk w g) (hR : Rm A 1) (hv : Ack v a ap) (h1 : ap ≤ 30000) (h : ∀ t, V (.int (szG ap : Nat) t) m n) : Ho true Pg w A g L m n (call (.ref 437) [.int a t, v]) V := by
  have key : ∀ (g : Heap) (L : Addr) (A : Around), Gk w g → Rm A 0 → ∀ (v : Value) (u : Tok), True := fun _ _ _ _ _ _ _ => trivial
  rcases hv with ⟨rfl, rfl⟩ | ⟨e, t', rfl, rfl⟩
  ·
    refine en_def ok_number_size [("full", .int a t), ("largest_acked", .none)] [some (.int a t), some (.none), none, none, none, none, none, none] G hR (by k_is) (by k_is) rfl rfl rfl rfl fun g L A G hR => hb_cons (hx_asg (he_ife (ht_cmp (he_lv lv_number_size_largest_acked rfl (he_none (ho_isO (ho_tb (ho_if_t rfl (he_bin (he_lv lv_number_size_full rfl (he_int fun _ => ho_add fun _ => ho_sv lv_number_size_apart rfl (kt_next (hb_cons (hx_for (he_call (he_bv G gv_number_size_range (nb_range w) bb_range (by decide) (hc_ty (ha_cons (he_int fun _ => ha_cons (he_bin (he_gv G gv_number_size_MOST_OCTETS (gl_MOST_OCTETS w) (he_int fun _ => ho_addE (c := 5) (by decide +kernel) fun _ => ha_nil (ho_range2 fun b0 _ _ _ hb0 => pi_rangeD .head (by ktr_rel) (by decide +kernel) (k := 4) (by decide +kernel) fun I => ⟨3, hl_step ?_⟩)))))))))))))))))))))))
    refine pn_range (by ktr_unf) (by decide) fun _ => ?_
    refine hg_name (hs_name (ho_sv lv_number_size_size rfl (hb_cons (hx_if (ht_cmp (he_bin (he_int fun _ => he_lv lv_number_size_apart rfl (ho_mul (by tb_start) fun _ => he_bin (he_int fun _ => he_bin (he_int fun _ => he_lv lv_number_size_size rfl (ho_mulE (c := 8) (by tb_start) (by decide +kernel) fun _ => ho_shlE (c := 256) (by decide) (by decide) (by decide) (by decide +kernel) fun _ => ho_le (ho_tb (ho_if_both (fun hc => ?_) (fun hc => ?_))))))))))))))
    · have hs : szG (a + 1) = 1 := by unfold szG; rw [if_pos (by have := of_decide_eq_true hc; omega)]
      rw [hs] at h
      refine hb_cons (hx_ret (he_lv lv_number_size_size rfl (kt_ret (kt_ret (kt_ret ?_)))))
      exact ⟨_, by k_updF, h _⟩
    · have hs : szG (a + 1) = 2 := by unfold szG; rw [if_neg (by have := of_decide_eq_false hc; omega)]
      rw [hs] at h
      refine hb_nil (kt_next (hb_nil (hl_step (pn_range (by ktr_unf) (by decide) fun _ => ?_))))
      refine hg_name (hs_name (ho_sv lv_number_size_size rfl (hb_cons (hx_if (ht_cmp (he_bin (he_int fun _ => he_lv lv_number_size_apart rfl (ho_mul (by tb_start) fun _ => he_bin (he_int fun _ => he_bin (he_int fun _ => he_lv lv_number_size_size rfl (ho_mulE (c := 16) (by tb_start) (by decide +kernel) fun _ => ho_shlE (c := 65536) (by decide) (by decide) (by decide) (by decide +kernel) fun _ => ho_le (ho_tb (ho_if_t (decide_eq_true (by omega)) (hb_cons (hx_ret (he_lv lv_number_size_size rfl (kt_ret (kt_ret (kt_ret ?_)))))))))))))))))))
      exact ⟨_, by k_updF, h _⟩
  ·
    refine en_def ok_number_size [("full", .int a t), ("largest_acked", .int e t')] [some (.int a t), some (.int e t'), none, none, none, none, none, none] G hR (by k_is) (by k_is) rfl rfl rfl rfl fun g L A G hR => hb_cons (hx_asg (he_ife (ht_cmp (he_lv lv_number_size_largest_acked rfl (he_none (ho_isI (ho_tb (ho_if_f rfl (he_bin (he_lv lv_number_size_full rfl (he_lv lv_number_size_largest_acked rfl (ho_sub fun _ => ho_sv lv_number_size_apart rfl (kt_next (hb_cons (hx_for (he_call (he_bv G gv_number_size_range (nb_range w) bb_range (by decide) (hc_ty (ha_cons (he_int fun _ => ha_cons (he_bin (he_gv G gv_number_size_MOST_OCTETS (gl_MOST_OCTETS w) (he_int fun _ => ho_addE (c := 5) (by decide +kernel) fun _ => ha_nil (ho_range2 fun b0 _ _ _ hb0 => pi_rangeD .head (by ktr_rel) (by decide +kernel) (k := 4) (by decide +kernel) fun I => ⟨3, hl_step ?_⟩))))))))))))))))))))))))
    refine pn_range (by ktr_unf) (by decide) fun _ => ?_
    refine hg_name (hs_name (ho_sv lv_number_size_size rfl (hb_cons (hx_if (ht_cmp (he_bin (he_int fun _ => he_lv lv_number_size_apart rfl (ho_mul (by tb_start) fun _ => he_bin (he_int fun _ => he_bin (he_int fun _ => he_lv lv_number_size_size rfl (ho_mulE (c := 8) (by tb_start) (by decide +kernel) fun _ => ho_shlE (c := 256) (by decide) (by decide) (by decide) (by decide +kernel) fun _ => ho_le (ho_tb (ho_if_both (fun hc => ?_) (fun hc => ?_))))))))))))))
    · have hs : szG (a - e) = 1 := by unfold szG; rw [if_pos (by have := of_decide_eq_true hc; omega)]
      rw [hs] at h
      refine hb_cons (hx_ret (he_lv lv_number_size_size rfl (kt_ret (kt_ret (kt_ret ?_)))))
      exact ⟨_, by k_updF, h _⟩
    · have hs : szG (a - e) = 2 := by unfold szG; rw [if_neg (by have := of_decide_eq_false hc; omega)]
      rw [hs] at h
      refine hb_nil (kt_next (hb_nil (hl_step (pn_range (by ktr_unf) (by decide) fun _ => ?_))))
      refine hg_name (hs_name (ho_sv lv_number_size_size rfl (hb_cons (hx_if (ht_cmp (he_bin (he_int fun _ => he_lv lv_number_size_apart rfl (ho_mul (by tb_start) fun _ => he_bin (he_int fun _ => he_bin (he_int fun _ => he_lv lv_number_size_size rfl (ho_mulE (c := 16) (by tb_start) (by decide +kernel) fun _ => ho_shlE (c := 65536) (by decide) (by decide) (by decide) (by decide +kernel) fun _ => ho_le (ho_tb (ho_if_t (decide_eq_true (by omega)) (hb_cons (hx_ret (he_lv lv_number_size_size rfl (kt_ret (kt_ret (kt_ret ?_)))))))))))))))))))
      exact ⟨_, by k_updF, h _⟩
theorem sz_cases (ap : Int) : szG ap = 1 ∨ szG ap = 2 := by unfold szG; split <;> simp
noncomputable def cutG (a ap : Int) : List UInt8 := be (szG ap) (a % 256 ^ szG ap)
theorem S_cut {a ap : Int} {v : Value} {t : Tok} (G : Gk w g) (hR : Rm A 2) (hv : Ack v a ap) (h0 : 0 ≤ a) (h1 : ap ≤ 30000) (h : ∀ t, V (.bytes (cutG a ap).toArray t) m n) : Ho true Pg w A g L m n (call (.ref 444) [.int a t, v]) V := by
  refine en_def ok_cut_number [("full", .int a t), ("largest_acked", v)] [some (.int a t), some (v), none, none, none] G hR (by k_is) (by k_is) rfl rfl rfl rfl fun g L A G hR => hb_cons (hx_asg (he_call (he_gv G gv_cut_number_number_size (gl_number_size w) (hc_def G (by tb_start) (ha_cons (he_lv lv_cut_number_full rfl (ha_cons (he_lv lv_cut_number_largest_acked rfl (ha_nil (S_number_size G hR hv h1 fun _ => ?_))))))))))
  unfold cutG at h
  rcases sz_cases ap with e | e
  · rw [e] at h ⊢
    refine ho_sv lv_cut_number_size rfl (kt_next (hb_cons (hx_ret (he_call (he_gv G gv_cut_number_put_whole (gl_put_whole w) (hc_def G (by tb_start) (ha_cons (he_bin (he_lv lv_cut_number_full rfl (he_bin (he_int fun _ => he_bin (he_int fun _ => he_lv lv_cut_number_size rfl (ho_mulE (c := 8) (by tb_start) (by decide +kernel) fun _ => ho_shlE (c := 256) (by decide) (by decide) (by decide) (by decide +kernel) fun _ => ho_mod (by omega) fun _ => ha_cons (he_lv lv_cut_number_size rfl (ha_nil (S_put_whole (k := 1) G hR (.inl rfl) (by omega) (by omega) fun _ => ?_))))))))))))))))
    exact kt_ret ⟨_, by k_updF, h _⟩
  · rw [e] at h ⊢
    refine ho_sv lv_cut_number_size rfl (kt_next (hb_cons (hx_ret (he_call (he_gv G gv_cut_number_put_whole (gl_put_whole w) (hc_def G (by tb_start) (ha_cons (he_bin (he_lv lv_cut_number_full rfl (he_bin (he_int fun _ => he_bin (he_int fun _ => he_lv lv_cut_number_size rfl (ho_mulE (c := 16) (by tb_start) (by decide +kernel) fun _ => ho_shlE (c := 65536) (by decide) (by decide) (by decide) (by decide +kernel) fun _ => ho_mod (by omega) fun _ => ha_cons (he_lv lv_cut_number_size rfl (ha_nil (S_put_whole (k := 2) G hR (.inr (.inl rfl)) (by omega) (by omega) fun _ => ?_))))))))))))))))
    exact kt_ret ⟨_, by k_updF, h _⟩
theorem S_restore {a ap : Int} {v : Value} {t1 t2 : Tok} (G : Gk w g) (hR : Rm A 1) (hv : (v = .none ∧ ap = a + 1) ∨ ∃ e t, v = .int e t ∧ ap = a - e ∧ 0 ≤ e ∧ 1 ≤ ap ∧ ap ≤ 128) (h0 : 0 ≤ a) (h1 : a < 30000) (h : ∀ t, V (.int a t) m n) : Ho true Pg w A g L m n (call (.ref 451) [.int (a % 256 ^ szG ap) t1, .int (szG ap : Nat) t2, v]) V := by
  rcases hv with ⟨rfl, rfl⟩ | ⟨e, t', rfl, rfl, he0, ha1, ha2⟩
  · by_cases hc : a + 1 ≤ 128
    · have hs : szG (a + 1) = 1 := by unfold szG; rw [if_pos hc]
      have e1 : (a % 256 ^ 1 : Int) = a % 256 := rfl
      rw [hs, e1]
      refine en_def ok_restore_number [("truncated", .int (a % 256) t1), ("size", .int ((1 : Nat) : Int) t2), ("largest_seen", .none)] [some (.int (a % 256) t1), some (.int ((1 : Nat) : Int) t2), some (.none), none, none, none, none] G hR (by k_is) (by k_is) rfl rfl rfl rfl fun g L A G hR => hb_cons (hx_asg (he_ife (ht_cmp (he_lv lv_restore_number_largest_seen rfl (he_none (ho_isO (ho_tb (ho_if_t rfl (he_int fun _ => ho_sv lv_restore_number_expected rfl (kt_next (hb_cons (hx_asg (he_bin (he_int fun _ => he_bin (he_int fun _ => he_lv lv_restore_number_size rfl (ho_mulE (c := 8) (by tb_start) (by decide +kernel) fun _ => ho_shlE (c := 256) (by decide) (by decide) (by decide) (by decide +kernel) fun _ => ho_sv lv_restore_number_window rfl (kt_next (hb_cons (hx_asg (he_bin (he_lv lv_restore_number_window rfl (he_int fun _ => ho_divE (c := 128) (by omega) (PyProof.noPylong_of_log2 (by decide +kernel)) (by decide +kernel) fun _ => ho_sv lv_restore_number_half rfl (kt_next (hb_cons (hx_asg (he_bin (he_bin (he_bin (he_lv lv_restore_number_expected rfl (he_lv lv_restore_number_window rfl (ho_divE (c := 0) (by omega) (PyProof.noPylong_of_log2 (by decide +kernel)) (by decide +kernel) fun _ => he_lv lv_restore_number_window rfl ?_)))))))))))))))))))))))))))))))
      refine ho_mulE (c := 0) (by tb_start) (by decide +kernel) fun _ => he_lv lv_restore_number_truncated rfl (ho_add fun _ => ho_sv lv_restore_number_found rfl (kt_next (hb_cons (hx_if (ht_and (ht_cmp (he_lv lv_restore_number_found rfl (he_bin (he_lv lv_restore_number_expected rfl (he_lv lv_restore_number_half rfl (ho_subE (c := (-128)) (by decide +kernel) fun _ => ho_le (ho_tb (ho_if_f (decide_eq_false (by omega)) (ho_if_f rfl (hb_nil (kt_next (hb_cons (hx_if (ht_and (ht_cmp (he_lv lv_restore_number_found rfl (he_bin (he_lv lv_restore_number_expected rfl (he_lv lv_restore_number_half rfl (ho_addE (c := 128) (by decide +kernel) fun _ => ho_gt (ho_tb (ho_if_f (decide_eq_false (by omega)) (ho_if_f rfl (hb_nil (kt_next (hb_cons (hx_ret (he_lv lv_restore_number_found rfl (kt_ret (⟨_, by k_updF, ?_⟩)))))))))))))))))))))))))))))))))))
      show V (.int (0 + a % 256) _) m n
      rw [show 0 + a % 256 = a by omega]
      exact h _
    · have hs : szG (a + 1) = 2 := by unfold szG; rw [if_neg hc]
      have e1 : (a % 256 ^ 2 : Int) = a % 65536 := rfl
      rw [hs, e1]
      refine en_def ok_restore_number [("truncated", .int (a % 65536) t1), ("size", .int ((2 : Nat) : Int) t2), ("largest_seen", .none)] [some (.int (a % 65536) t1), some (.int ((2 : Nat) : Int) t2), some (.none), none, none, none, none] G hR (by k_is) (by k_is) rfl rfl rfl rfl fun g L A G hR => hb_cons (hx_asg (he_ife (ht_cmp (he_lv lv_restore_number_largest_seen rfl (he_none (ho_isO (ho_tb (ho_if_t rfl (he_int fun _ => ho_sv lv_restore_number_expected rfl (kt_next (hb_cons (hx_asg (he_bin (he_int fun _ => he_bin (he_int fun _ => he_lv lv_restore_number_size rfl (ho_mulE (c := 16) (by tb_start) (by decide +kernel) fun _ => ho_shlE (c := 65536) (by decide) (by decide) (by decide) (by decide +kernel) fun _ => ho_sv lv_restore_number_window rfl (kt_next (hb_cons (hx_asg (he_bin (he_lv lv_restore_number_window rfl (he_int fun _ => ho_divE (c := 32768) (by omega) (PyProof.noPylong_of_log2 (by decide +kernel)) (by decide +kernel) fun _ => ho_sv lv_restore_number_half rfl (kt_next (hb_cons (hx_asg (he_bin (he_bin (he_bin (he_lv lv_restore_number_expected rfl (he_lv lv_restore_number_window rfl (ho_divE (c := 0) (by omega) (PyProof.noPylong_of_log2 (by decide +kernel)) (by decide +kernel) fun _ => he_lv lv_restore_number_window rfl ?_)))))))))))))))))))))))))))))))
      refine ho_mulE (c := 0) (by tb_start) (by decide +kernel) fun _ => he_lv lv_restore_number_truncated rfl (ho_add fun _ => ho_sv lv_restore_number_found rfl (kt_next (hb_cons (hx_if (ht_and (ht_cmp (he_lv lv_restore_number_found rfl (he_bin (he_lv lv_restore_number_expected rfl (he_lv lv_restore_number_half rfl (ho_subE (c := (-32768)) (by decide +kernel) fun _ => ho_le (ho_tb (ho_if_f (decide_eq_false (by omega)) (ho_if_f rfl (hb_nil (kt_next (hb_cons (hx_if (ht_and (ht_cmp (he_lv lv_restore_number_found rfl (he_bin (he_lv lv_restore_number_expected rfl (he_lv lv_restore_number_half rfl (ho_addE (c := 32768) (by decide +kernel) fun _ => ho_gt (ho_tb (ho_if_f (decide_eq_false (by omega)) (ho_if_f rfl (hb_nil (kt_next (hb_cons (hx_ret (he_lv lv_restore_number_found rfl (kt_ret (⟨_, by k_updF, ?_⟩)))))))))))))))))))))))))))))))))))
      show V (.int (0 + a % 65536) _) m n
      rw [show 0 + a % 65536 = a by omega]
      exact h _
  · have hs : szG (a - e) = 1 := by unfold szG; rw [if_pos ha2]
    have e1 : (a % 256 ^ 1 : Int) = a % 256 := rfl
    rw [hs, e1]
    refine en_def ok_restore_number [("truncated", .int (a % 256) t1), ("size", .int ((1 : Nat) : Int) t2), ("largest_seen", .int e t')] [some (.int (a % 256) t1), some (.int ((1 : Nat) : Int) t2), some (.int e t'), none, none, none, none] G hR (by k_is) (by k_is) rfl rfl rfl rfl fun g L A G hR => hb_cons (hx_asg (he_ife (ht_cmp (he_lv lv_restore_number_largest_seen rfl (he_none (ho_isI (ho_tb (ho_if_f rfl (he_bin (he_lv lv_restore_number_largest_seen rfl (he_int fun _ => ho_add fun _ => ho_sv lv_restore_number_expected rfl (kt_next (hb_cons (hx_asg (he_bin (he_int fun _ => he_bin (he_int fun _ => he_lv lv_restore_number_size rfl (ho_mulE (c := 8) (by tb_start) (by decide +kernel) fun _ => ho_shlE (c := 256) (by decide) (by decide) (by decide) (by decide +kernel) fun _ => ho_sv lv_restore_number_window rfl (kt_next (hb_cons (hx_asg (he_bin (he_lv lv_restore_number_window rfl (he_int fun _ => ho_divE (c := 128) (by omega) (PyProof.noPylong_of_log2 (by decide +kernel)) (by decide +kernel) fun _ => ho_sv lv_restore_number_half rfl (kt_next (hb_cons (hx_asg (he_bin (he_bin (he_bin (he_lv lv_restore_number_expected rfl ?_)))))))))))))))))))))))))))))))
    refine he_lv lv_restore_number_window rfl (ho_div (by omega) (PyProof.noPylong_of_log2 (by decide +kernel)) fun _ => he_lv lv_restore_number_window rfl (ho_mul (by tb_start) fun _ => he_lv lv_restore_number_truncated rfl (ho_add fun _ => ho_sv lv_restore_number_found rfl (kt_next (hb_cons (hx_if (ht_and (ht_cmp (he_lv lv_restore_number_found rfl (he_bin (he_lv lv_restore_number_expected rfl (he_lv lv_restore_number_half rfl (ho_sub fun _ => ho_le (ho_tb (ho_if_both (fun hc => ?_) (fun hc => ?_))))))))))))))))
    · have hc' := of_decide_eq_true hc
      refine ht_and (ht_cmp (he_lv lv_restore_number_found rfl (he_bin (he_bin (he_int fun _ => he_int fun _ => ho_shlE (c := 4611686018427387904) (by decide) (by decide) (by decide) (by decide +kernel) fun _ => he_lv lv_restore_number_window rfl (ho_subE (c := 4611686018427387648) (by decide +kernel) fun _ => ho_lt (ho_tb (ho_if_t (decide_eq_true (by omega)) (ht_and0 (ho_if_t rfl (hb_cons (hx_ret (he_bin (he_lv lv_restore_number_found rfl (he_lv lv_restore_number_window rfl (ho_add fun _ => kt_ret (kt_ret (⟨_, by k_updF, ?_⟩))))))))))))))))))
      show V (.int ((e + 1) / 256 * 256 + a % 256 + 256) _) m n
      rw [show (e + 1) / 256 * 256 + a % 256 + 256 = a by omega]
      exact h _
    · have hc' := of_decide_eq_false hc
      refine ho_if_f rfl (hb_nil (kt_next (hb_cons (hx_if (ht_and (ht_cmp (he_lv lv_restore_number_found rfl (he_bin (he_lv lv_restore_number_expected rfl (he_lv lv_restore_number_half rfl (ho_add fun _ => ho_gt (ho_tb (ho_if_f (decide_eq_false (by omega)) (ho_if_f rfl (hb_nil (kt_next (hb_cons (hx_ret (he_lv lv_restore_number_found rfl (kt_ret (⟨_, by k_updF, ?_⟩)))))))))))))))))))))
      show V (.int ((e + 1) / 256 * 256 + a % 256) _) m n
      rw [show (e + 1) / 256 * 256 + a % 256 = a by omega]
      exact h _
theorem S_long_first_i {b : Int} {t1 t2 : Tok} (G : Gk w g) (hR : Rm A 1) (h : ∀ t, V (.int (192 + b) t) m n) : Ho true Pg w A g L m n (call (.ref 367) [.str (Str.ofString "initial") t1, .int b t2]) V := by
  refine en_def ok_long_first [("kind", .str (Str.ofString "initial") t1), ("low_bits", .int b t2)] [some (.str (Str.ofString "initial") t1), some (.int b t2), none] G hR (by k_is) (by k_is) rfl rfl rfl rfl fun g L A G hR => hb_cons (hx_ret (he_bin (he_bin (he_int fun _ => he_bin (he_int fun _ => he_meth (he_gv G gv_long_first_LONG_KINDS (gl_LONG_KINDS w) (hm_ofK PySem.F.plainAttrs_list PySem.F.slot_list_index PySem.F.type_list_index G (by show List.lookup _ (hd.heap_1 w.params) = _; k_is) rfl rfl ?_)))))))
  refine hc_b (ha_cons (he_lv lv_long_first_kind rfl (ha_nil (ho_lidxS (j := 0) G (by show List.lookup _ (hd.heap_1 w.params) = _; k_is) (by rfl) (by exact (show 0 < 4 by decide)) (by exact Nat.le_of_ble_eq_true rfl) (by rfl) (fun i _ h => absurd h (Nat.not_lt_zero _)) fun _ => ?_))))
  refine ho_mulE (c := 0) (by tb_start) (by decide +kernel) fun _ => ho_addE (c := 192) (by decide +kernel) fun _ => he_lv lv_long_first_low_bits rfl (ho_add fun _ => kt_ret ?_)
  exact ⟨_, by k_updF, h _⟩
theorem S_long_first_h {b : Int} {t1 t2 : Tok} (G : Gk w g) (hR : Rm A 1) (h : ∀ t, V (.int (224 + b) t) m n) : Ho true Pg w A g L m n (call (.ref 367) [.str (Str.ofString "handshake") t1, .int b t2]) V := by
  refine en_def ok_long_first [("kind", .str (Str.ofString "handshake") t1), ("low_bits", .int b t2)] [some (.str (Str.ofString "handshake") t1), some (.int b t2), none] G hR (by k_is) (by k_is) rfl rfl rfl rfl fun g L A G hR => hb_cons (hx_ret (he_bin (he_bin (he_int fun _ => he_bin (he_int fun _ => he_meth (he_gv G gv_long_first_LONG_KINDS (gl_LONG_KINDS w) (hm_ofK PySem.F.plainAttrs_list PySem.F.slot_list_index PySem.F.type_list_index G (by show List.lookup _ (hd.heap_1 w.params) = _; k_is) rfl rfl ?_)))))))
  refine hc_b (ha_cons (he_lv lv_long_first_kind rfl (ha_nil ?_)))
  refine ho_lidxS (j := 2) G (by show List.lookup _ (hd.heap_1 w.params) = _; k_is) (by rfl) (by exact (show 2 < 4 by decide)) (by exact Nat.le_of_ble_eq_true rfl) (by decide +kernel) (fun i _ h => by
    have : i = 0 ∨ i = 1 := by omega
    rcases this with rfl | rfl <;> rfl) fun _ => ?_
  refine ho_mulE (c := 32) (by tb_start) (by decide +kernel) fun _ => ho_addE (c := 224) (by decide +kernel) fun _ => he_lv lv_long_first_low_bits rfl (ho_add fun _ => kt_ret ?_)
  exact ⟨_, by k_updF, h _⟩
noncomputable def idsG (d s : List UInt8) : List UInt8 := ([(d.length : Int).toNat.toUInt8] ++ d) ++ [(s.length : Int).toNat.toUInt8] ++ s
theorem S_long_head_i {d s : List UInt8} {r k : Int} {t1 t2 t3 t4 t5 t6 t7 : Tok} (G : Gk w g) (hR : Rm A 3) (h1 : d.length ≤ 20) (h2 : s.length ≤ 20) (hr : 0 ≤ r) (hr' : r < 64) (hk : k = 1 ∨ k = 2)
    (h : ∀ t, V (.bytes ([(192 + (k - 1)).toNat.toUInt8] ++ be 4 1 ++ idsG d s ++ [0] ++ [] ++ [r.toNat.toUInt8]).toArray t) m n) :
    Ho true Pg w A g L m n (call (.ref 374) [.str (Str.ofString "initial") t1, .int 1 t2, .bytes d.toArray t3, .bytes s.toArray t4, .bytes ([] : List UInt8).toArray t5, .int r t6, .int k t7]) V := by
  refine en_def ok_long_head [("kind", .str (Str.ofString "initial") t1), ("version", .int 1 t2), ("dcid", .bytes d.toArray t3), ("scid", .bytes s.toArray t4), ("token", .bytes ([] : List UInt8).toArray t5), ("rest_size", .int r t6), ("number_size", .int k t7)] [some (.str (Str.ofString "initial") t1), some (.int 1 t2), some (.bytes d.toArray t3), some (.bytes s.toArray t4), some (.bytes ([] : List UInt8).toArray t5), some (.int r t6), some (.int k t7), none, none, none, none, none, none, none] G hR (by k_is) (by k_is) rfl rfl rfl rfl fun g L A G hR => hb_cons (hx_asg (he_bin (he_bin (he_call (he_bv G gv_long_head_bytes (nb_bytes w) bb_bytes (by decide) (hc_ty (ha_cons (he_list (ha_cons (he_call (he_gv G gv_long_head_long_first (gl_long_first w) (hc_def G (by tb_start) (ha_cons (he_lv lv_long_head_kind rfl (ha_cons (he_bin (he_lv lv_long_head_number_size rfl (he_int fun _ => ho_sub fun _ => ha_nil (S_long_first_i G (hR.le (by omega)) fun _ => ha_nil (And.intro (Nat.le_of_ble_eq_true rfl) fun b0 hb0 => ha_nil (ho_mkB1 hR.hh (by ktr_rel) (by ktr_room) (by ktr_room) fun _ => ?_)))))))))))))))))))))
  refine he_call (he_gv G gv_long_head_put_whole (gl_put_whole w) (hc_def G (by tb_start) (ha_cons (he_lv lv_long_head_version rfl (ha_cons (he_int fun _ => ha_nil (S_put_whole (k := 4) G (hR.le (by omega)) (.inr (.inr (.inl rfl))) (by decide) (by decide) fun _ => ?_)))))))
  have hl4 : (be 4 1).length = 4 := rfl
  refine ho_addB (by ktr_room) fun _ => ?_
  refine he_call (he_gv G gv_long_head_put_ids (gl_put_ids w) (hc_def G (by tb_start) (ha_cons (he_lv lv_long_head_dcid rfl (ha_cons (he_lv lv_long_head_scid rfl (ha_nil (S_put_ids (by omega) (by omega) G (hR.le (by omega)) fun _ => ho_addB (by ktr_room) fun _ => ?_))))))))
  refine ho_sv lv_long_head_head rfl (kt_next (hb_cons (hx_if (ht_cmp (he_lv lv_long_head_kind rfl (he_str fun _ => ho_eqS (ho_tb (ho_if_t (by tb_rel) ?_))))))))
  refine hb_cons (hx_asg (he_bin (he_bin (he_lv lv_long_head_head rfl (he_call (he_gv G gv_long_head_put_varint (gl_put_varint w) (hc_def G (by tb_start) (ha_cons (he_call (he_bv G gv_long_head_len (nb_len w) bb_len (by decide) (hc_b (ha_cons (he_lv lv_long_head_token rfl (ha_nil (ho_lenB (by ktr_room) fun _ => ?_)))))))))))))))
  refine ha_cons (he_none (ha_nil (S_varint G (hR.le (by omega)) (by simp) (by simp) fun _ => ?_)))
  refine ho_addB (by ktr_room) fun _ => ?_
  refine he_lv lv_long_head_token rfl (ho_addB (by ktr_room) fun _ => ?_)
  refine ho_sv lv_long_head_head rfl (kt_next (hb_nil (kt_next (hb_cons (hx_ret (he_bin (he_lv lv_long_head_head rfl (he_call (he_gv G gv_long_head_put_varint (gl_put_varint w) (hc_def G (by tb_start) (ha_cons (he_lv lv_long_head_rest_size rfl (ha_cons (he_none (ha_nil (S_varint G (hR.le (by omega)) hr hr' fun _ => ho_addB (by ktr_room) fun _ => ?_))))))))))))))))
  refine kt_ret ?_
  exact ⟨n, by k_updF, by simpa [idsG, List.append_assoc] using h _⟩
theorem S_long_head_h {d s : List UInt8} {r k : Int} {t1 t2 t3 t4 t5 t6 t7 : Tok} (G : Gk w g) (hR : Rm A 3) (h1 : d.length ≤ 20) (h2 : s.length ≤ 20) (hr : 0 ≤ r) (hr' : r < 64) (hk : k = 1 ∨ k = 2)
    (h : ∀ t, V (.bytes ([(224 + (k - 1)).toNat.toUInt8] ++ be 4 1 ++ idsG d s ++ [r.toNat.toUInt8]).toArray t) m n) :
    Ho true Pg w A g L m n (call (.ref 374) [.str (Str.ofString "handshake") t1, .int 1 t2, .bytes d.toArray t3, .bytes s.toArray t4, .bytes ([] : List UInt8).toArray t5, .int r t6, .int k t7]) V := by
  refine en_def ok_long_head [("kind", .str (Str.ofString "handshake") t1), ("version", .int 1 t2), ("dcid", .bytes d.toArray t3), ("scid", .bytes s.toArray t4), ("token", .bytes ([] : List UInt8).toArray t5), ("rest_size", .int r t6), ("number_size", .int k t7)] [some (.str (Str.ofString "handshake") t1), some (.int 1 t2), some (.bytes d.toArray t3), some (.bytes s.toArray t4), some (.bytes ([] : List UInt8).toArray t5), some (.int r t6), some (.int k t7), none, none, none, none, none, none, none] G hR (by k_is) (by k_is) rfl rfl rfl rfl fun g L A G hR => hb_cons (hx_asg (he_bin (he_bin (he_call (he_bv G gv_long_head_bytes (nb_bytes w) bb_bytes (by decide) (hc_ty (ha_cons (he_list (ha_cons (he_call (he_gv G gv_long_head_long_first (gl_long_first w) (hc_def G (by tb_start) (ha_cons (he_lv lv_long_head_kind rfl (ha_cons (he_bin (he_lv lv_long_head_number_size rfl (he_int fun _ => ho_sub fun _ => ha_nil (S_long_first_h G (hR.le (by omega)) fun _ => ha_nil (And.intro (Nat.le_of_ble_eq_true rfl) fun b0 hb0 => ha_nil (ho_mkB1 hR.hh (by ktr_rel) (by ktr_room) (by ktr_room) fun _ => ?_)))))))))))))))))))))
  refine he_call (he_gv G gv_long_head_put_whole (gl_put_whole w) (hc_def G (by tb_start) (ha_cons (he_lv lv_long_head_version rfl (ha_cons (he_int fun _ => ha_nil (S_put_whole (k := 4) G (hR.le (by omega)) (.inr (.inr (.inl rfl))) (by decide) (by decide) fun _ => ?_)))))))
  have hl4 : (be 4 1).length = 4 := rfl
  refine ho_addB (by ktr_room) fun _ => ?_
  refine he_call (he_gv G gv_long_head_put_ids (gl_put_ids w) (hc_def G (by tb_start) (ha_cons (he_lv lv_long_head_dcid rfl (ha_cons (he_lv lv_long_head_scid rfl (ha_nil (S_put_ids (by omega) (by omega) G (hR.le (by omega)) fun _ => ho_addB (by ktr_room) fun _ => ?_))))))))
  refine ho_sv lv_long_head_head rfl (kt_next (hb_cons (hx_if (ht_cmp (he_lv lv_long_head_kind rfl (he_str fun _ => ho_eqS (ho_tb (ho_if_f (by tb_rel) ?_))))))))
  refine hb_nil (kt_next (hb_cons (hx_ret (he_bin (he_lv lv_long_head_head rfl (he_call (he_gv G gv_long_head_put_varint (gl_put_varint w) (hc_def G (by tb_start) (ha_cons (he_lv lv_long_head_rest_size rfl (ha_cons (he_none (ha_nil (S_varint G (hR.le (by omega)) hr hr' fun _ => ho_addB (by ktr_room) fun _ => ?_))))))))))))))
  refine kt_ret ?_
  exact ⟨_, by k_updF, h _⟩
inductive Sp | ini | han | app
  deriving DecidableEq
def Sp.space : Sp → Str
  | .ini => Str.ofString "initial"
  | .han => Str.ofString "handshake"
  | .app => Str.ofString "application"
def Sp.kind : Sp → Str
  | .ini => Str.ofString "initial"
  | .han => Str.ofString "handshake"
  | .app => Str.ofString "short"
noncomputable def firstG (sp : Sp) (k : Int) : Int := match sp with
  | .ini => 192 + (k - 1)
  | .han => 224 + (k - 1)
  | .app => 63 + k
noncomputable def restG (sp : Sp) (d s : List UInt8) (r : Int) : List UInt8 := match sp with
  | .ini => be 4 1 ++ idsG d s ++ [0, r.toNat.toUInt8]
  | .han => be 4 1 ++ idsG d s ++ [r.toNat.toUInt8]
  | .app => d
noncomputable def headG (sp : Sp) (d s : List UInt8) (k r : Int) : List UInt8 := (firstG sp k).toNat.toUInt8 :: restG sp d s r
noncomputable def pktV (sp : Sp) (d s : List UInt8) (v p : Value) (vs : List Value) : Prop := match sp with
  | .ini => ∃ t1 t2 t3 t4 t5, vs = [.str (Str.ofString "initial") t1, .int 1 t2, .bytes d.toArray t3, .bytes s.toArray t4, .bytes ([] : List UInt8).toArray t5, v, p]
  | .han => ∃ t1 t2 t3 t4, vs = [.str (Str.ofString "handshake") t1, .int 1 t2, .bytes d.toArray t3, .bytes s.toArray t4, v, p]
  | .app => ∃ t1 t2 t3 t4, vs = [.str (Str.ofString "short") t1, .int 0 t2, .int 0 t3, .bytes d.toArray t4, v, p]
theorem S_head_of {sp : Sp} {d s l : List UInt8} {k : Int} {a : Addr} {v p : Value} {vs : List Value} {t1 t2 : Tok} (G : Gk w g) (hR : Rm A 4) (hm : (a, tupO vs) ∈ n) (hv : pktV sp d s v p vs) (h1 : d.length ≤ 20) (h2 : s.length ≤ 20) (hl : l.length ≤ 40) (hk : k = 1 ∨ k = 2)
    (h : ∀ t, V (.bytes (headG sp d s k (k + (l.length : Int) + 16)).toArray t) m n) : Ho true Pg w A g L m n (call (.ref 547) [.ref a, .int k t1, .bytes l.toArray t2]) V := by
  cases sp with
  | ini =>
    obtain ⟨t3, t4, t5, t6, t7, rfl⟩ := hv
    refine en_def ok_head_of [("packet", .ref a), ("number_size", .int k t1), ("payload", .bytes l.toArray t2)] [some (.ref a), some (.int k t1), some (.bytes l.toArray t2), none, none, none, none, none, none, none] G hR (by k_is) (by k_is) rfl rfl rfl rfl fun g L A G hR => hb_cons (hx_asg (he_sub (he_lv lv_head_of_packet rfl (he_int fun _ => ho_ti (by ktr_rel) (by ktr_room) (by ktr_room) rfl rfl ?_))))
    refine ho_sv lv_head_of_kind rfl (kt_next (hb_cons (hx_asg (he_bin (he_bin (he_lv lv_head_of_number_size rfl (he_call (he_bv G gv_head_of_len (nb_len w) bb_len (by decide) (hc_b (ha_cons (he_lv lv_head_of_payload rfl (ha_nil (ho_lenB (by ktr_room) fun _ => ?_)))))))))))))
    refine ho_add fun _ => he_gv G gv_head_of_TAG_SIZE (gl_TAG_SIZE w) (ho_add fun _ => ho_sv lv_head_of_rest rfl (kt_next (hb_cons (hx_if (ht_cmp (he_lv lv_head_of_kind rfl (he_str fun _ => ho_eqS (ho_tb (ho_if_f (by tb_rel) ?_)))))))))
    refine hb_nil (kt_next (hb_cons (hx_asg (he_ife (ht_cmp (he_lv lv_head_of_kind rfl (he_str fun _ => ho_eqS (ho_tb (ho_if_t (by tb_rel) ?_)))))))))
    refine he_sub (he_lv lv_head_of_packet rfl (he_int fun _ => ho_ti (by ktr_rel) (by ktr_room) (by ktr_room) rfl rfl ?_))
    refine ho_sv lv_head_of_token rfl (kt_next (hb_cons (hx_ret (he_call (he_gv G gv_head_of_long_head (gl_long_head w) (hc_def G (by tb_start) (ha_cons (he_lv lv_head_of_kind rfl (ha_cons (he_sub (he_lv lv_head_of_packet rfl (he_int fun _ => ho_ti (by ktr_rel) (by ktr_room) (by ktr_room) rfl rfl ?_))))))))))))
    refine ha_cons (he_sub (he_lv lv_head_of_packet rfl (he_int fun _ => ho_ti (by ktr_rel) (by ktr_room) (by ktr_room) rfl rfl ?_)))
    refine ha_cons (he_sub (he_lv lv_head_of_packet rfl (he_int fun _ => ho_ti (by ktr_rel) (by ktr_room) (by ktr_room) rfl rfl ?_)))
    refine ha_cons (he_lv lv_head_of_token rfl (ha_cons (he_lv lv_head_of_rest rfl (ha_cons (he_lv lv_head_of_number_size rfl (ha_nil (S_long_head_i G (hR.le (by omega)) h1 h2 (by omega) (by omega) hk fun _ => ?_)))))))
    exact kt_ret ⟨n, by k_updF, by simpa [headG, restG, firstG] using h _⟩
  | han =>
    obtain ⟨t3, t4, t5, t6, rfl⟩ := hv
    refine en_def ok_head_of [("packet", .ref a), ("number_size", .int k t1), ("payload", .bytes l.toArray t2)] [some (.ref a), some (.int k t1), some (.bytes l.toArray t2), none, none, none, none, none, none, none] G hR (by k_is) (by k_is) rfl rfl rfl rfl fun g L A G hR => hb_cons (hx_asg (he_sub (he_lv lv_head_of_packet rfl (he_int fun _ => ho_ti (by ktr_rel) (by ktr_room) (by ktr_room) rfl rfl ?_))))
    refine ho_sv lv_head_of_kind rfl (kt_next (hb_cons (hx_asg (he_bin (he_bin (he_lv lv_head_of_number_size rfl (he_call (he_bv G gv_head_of_len (nb_len w) bb_len (by decide) (hc_b (ha_cons (he_lv lv_head_of_payload rfl (ha_nil (ho_lenB (by ktr_room) fun _ => ?_)))))))))))))
    refine ho_add fun _ => he_gv G gv_head_of_TAG_SIZE (gl_TAG_SIZE w) (ho_add fun _ => ho_sv lv_head_of_rest rfl (kt_next (hb_cons (hx_if (ht_cmp (he_lv lv_head_of_kind rfl (he_str fun _ => ho_eqS (ho_tb (ho_if_f (by tb_rel) ?_)))))))))
    refine hb_nil (kt_next (hb_cons (hx_asg (he_ife (ht_cmp (he_lv lv_head_of_kind rfl (he_str fun _ => ho_eqS (ho_tb (ho_if_f (by tb_rel) ?_)))))))))
    refine he_bytes fun _ => ho_sv lv_head_of_token rfl (kt_next (hb_cons (hx_ret (he_call (he_gv G gv_head_of_long_head (gl_long_head w) (hc_def G (by tb_start) (ha_cons (he_lv lv_head_of_kind rfl (ha_cons (he_sub (he_lv lv_head_of_packet rfl (he_int fun _ => ho_ti (by ktr_rel) (by ktr_room) (by ktr_room) rfl rfl ?_))))))))))))
    refine ha_cons (he_sub (he_lv lv_head_of_packet rfl (he_int fun _ => ho_ti (by ktr_rel) (by ktr_room) (by ktr_room) rfl rfl ?_)))
    refine ha_cons (he_sub (he_lv lv_head_of_packet rfl (he_int fun _ => ho_ti (by ktr_rel) (by ktr_room) (by ktr_room) rfl rfl ?_)))
    refine ha_cons (he_lv lv_head_of_token rfl (ha_cons (he_lv lv_head_of_rest rfl (ha_cons (he_lv lv_head_of_number_size rfl (ha_nil (S_long_head_h G (hR.le (by omega)) h1 h2 (by omega) (by omega) hk fun _ => ?_)))))))
    exact kt_ret ⟨n, by k_updF, by simpa [headG, restG, firstG] using h _⟩
  | app =>
    obtain ⟨t3, t4, t5, t6, rfl⟩ := hv
    refine en_def ok_head_of [("packet", .ref a), ("number_size", .int k t1), ("payload", .bytes l.toArray t2)] [some (.ref a), some (.int k t1), some (.bytes l.toArray t2), none, none, none, none, none, none, none] G hR (by k_is) (by k_is) rfl rfl rfl rfl fun g L A G hR => hb_cons (hx_asg (he_sub (he_lv lv_head_of_packet rfl (he_int fun _ => ho_ti (by ktr_rel) (by ktr_room) (by ktr_room) rfl rfl ?_))))
    refine ho_sv lv_head_of_kind rfl (kt_next (hb_cons (hx_asg (he_bin (he_bin (he_lv lv_head_of_number_size rfl (he_call (he_bv G gv_head_of_len (nb_len w) bb_len (by decide) (hc_b (ha_cons (he_lv lv_head_of_payload rfl (ha_nil (ho_lenB (by ktr_room) fun _ => ?_)))))))))))))
    refine ho_add fun _ => he_gv G gv_head_of_TAG_SIZE (gl_TAG_SIZE w) (ho_add fun _ => ho_sv lv_head_of_rest rfl (kt_next (hb_cons (hx_if (ht_cmp (he_lv lv_head_of_kind rfl (he_str fun _ => ho_eqS (ho_tb (ho_if_t (by tb_rel) ?_)))))))))
    refine hb_cons (hx_ret (he_call (he_gv G gv_head_of_short_head (gl_short_head w) (hc_def G (by tb_start) (ha_cons (he_sub (he_lv lv_head_of_packet rfl (he_int fun _ => ho_ti (by ktr_rel) (by ktr_room) (by ktr_room) rfl rfl ?_))))))))
    refine ha_cons (he_sub (he_lv lv_head_of_packet rfl (he_int fun _ => ho_ti (by ktr_rel) (by ktr_room) (by ktr_room) rfl rfl ?_)))
    refine ha_cons (he_sub (he_lv lv_head_of_packet rfl (he_int fun _ => ho_ti (by ktr_rel) (by ktr_room) (by ktr_room) rfl rfl ?_)))
    refine ha_cons (he_lv lv_head_of_number_size rfl (ha_nil (S_short_head G (hR.le (by omega)) (by omega) (by omega) (by omega) fun _ => ?_)))
    exact kt_ret ⟨n, by k_updF, by simpa [headG, restG, firstG] using h _⟩
noncomputable def clG (c : Int) (ft : Option Int) (r : List UInt8) : List UInt8 := match ft with
  | none => [29, c.toNat.toUInt8, (r.length : Int).toNat.toUInt8] ++ r
  | some k => [28, c.toNat.toUInt8, k.toNat.toUInt8, (r.length : Int).toNat.toUInt8] ++ r
noncomputable def clV (c : Int) (ft : Option Int) (r : List UInt8) (vs : List Value) : Prop := match ft with
  | none => ∃ t0 t1 t2, vs = [.str (Str.ofString "close") t0, .int c t1, .none, .bytes r.toArray t2]
  | some k => ∃ t0 t1 t2 t3, vs = [.str (Str.ofString "close") t0, .int c t1, .int k t3, .bytes r.toArray t2]
noncomputable def clOk (c : Int) (ft : Option Int) (r : List UInt8) : Prop := 0 ≤ c ∧ c < 64 ∧ (∀ k, ft = some k → 0 ≤ k ∧ k < 64) ∧ r.length ≤ 5
theorem S_put_close {c : Int} {ft : Option Int} {r : List UInt8} {a : Addr} {vs : List Value} (G : Gk w g) (hR : Rm A 4) (hm : (a, tupO vs) ∈ n) (hv : clV c ft r vs) (hok : clOk c ft r) (h : ∀ t, V (.bytes (clG c ft r).toArray t) m n) : Ho true Pg w A g L m n (call (.ref 249) [.ref a]) V := by
  obtain ⟨c0, c1, hk, hr⟩ := hok
  cases ft with
  | none =>
    obtain ⟨t0, t1, t2, rfl⟩ := hv
    refine en_def ok_put_close [("f", .ref a)] [some (.ref a), none, none, none, none, none, none, none, none] G hR (by k_is) (by k_is) rfl rfl rfl rfl fun g L A G hR => hb_cons (hx_asgT (he_lv lv_put_close_f rfl (ha_tup hR.hh (by ktr_rel) rfl rfl ?_)))
    refine hi_cons (hs_name (ho_sv lv_put_close_kind rfl (hi_cons (hs_name (ho_sv lv_put_close_code rfl (hi_cons (hs_name (ho_sv lv_put_close_frame_type rfl (hi_cons (hs_name (ho_sv lv_put_close_reason rfl (hi_nil (kt_next (hb_cons (hx_if (ht_cmp (he_lv lv_put_close_frame_type rfl (he_none (ho_isO (ho_tb (ho_if_t rfl (hb_cons (hx_ret (he_bin (he_call (he_gv G gv_put_close_put_numbers (gl_put_numbers w) (hc_def G (by tb_start) (ha_cons (he_list (ha_cons (he_gv G gv_put_close_CLOSE_APPLICATION (gl_CLOSE_APPLICATION w) (ha_cons (he_lv lv_put_close_code rfl (ha_nil (And.intro (Nat.le_of_ble_eq_true rfl) fun a0 ha0 => ha_nil (S_numbers2 G (hR.le (by omega)) (.head _) (by omega) (by omega) c0 c1 fun _ => he_call (he_gv G gv_put_close_put_counted (gl_put_counted w) (hc_def G (by tb_start) ?_))))))))))))))))))))))))))))))))))))))
    refine ha_cons (he_lv lv_put_close_reason rfl (ha_nil (S_counted G (hR.le (by omega)) (by omega) fun _ => ho_addB (by ktr_room) fun _ => ?_)))
    refine kt_ret (kt_ret ?_)
    exact ⟨n, by k_updF, by simpa [clG] using h _⟩
  | some k =>
    obtain ⟨t0, t1, t2, t3, rfl⟩ := hv
    obtain ⟨k0, k1⟩ := hk k rfl
    refine en_def ok_put_close [("f", .ref a)] [some (.ref a), none, none, none, none, none, none, none, none] G hR (by k_is) (by k_is) rfl rfl rfl rfl fun g L A G hR => hb_cons (hx_asgT (he_lv lv_put_close_f rfl (ha_tup hR.hh (by ktr_rel) rfl rfl ?_)))
    refine hi_cons (hs_name (ho_sv lv_put_close_kind rfl (hi_cons (hs_name (ho_sv lv_put_close_code rfl (hi_cons (hs_name (ho_sv lv_put_close_frame_type rfl (hi_cons (hs_name (ho_sv lv_put_close_reason rfl (hi_nil (kt_next (hb_cons (hx_if (ht_cmp (he_lv lv_put_close_frame_type rfl (he_none (ho_isI (ho_tb (ho_if_f rfl (hb_nil (kt_next (hb_cons (hx_ret (he_bin (he_call (he_gv G gv_put_close_put_numbers (gl_put_numbers w) (hc_def G (by tb_start) (ha_cons (he_list (ha_cons (he_gv G gv_put_close_CLOSE (gl_CLOSE w) (ha_cons (he_lv lv_put_close_code rfl (ha_cons (he_lv lv_put_close_frame_type rfl (ha_nil (And.intro (Nat.le_of_ble_eq_true rfl) fun a0 ha0 => ha_nil ?_)))))))))))))))))))))))))))))))))))))))
    refine S_numbers3 G (hR.le (by omega)) (.head _) (by omega) (by omega) c0 c1 k0 k1 fun _ => he_call (he_gv G gv_put_close_put_counted (gl_put_counted w) (hc_def G (by tb_start) (ha_cons (he_lv lv_put_close_reason rfl (ha_nil (S_counted G (hR.le (by omega)) (by omega) fun _ => ho_addB (by ktr_room) fun _ => ?_))))))
    refine kt_ret ?_
    exact ⟨n, by k_updF, by simpa [clG] using h _⟩
theorem clV_head {c : Int} {ft : Option Int} {r : List UInt8} {vs : List Value} (hv : clV c ft r vs) : ∃ t0 t1 t2 fv, vs = [.str (Str.ofString "close") t0, .int c t1, fv, .bytes r.toArray t2] := by
  cases ft with
  | none => obtain ⟨t0, t1, t2, rfl⟩ := hv; exact ⟨_, _, _, _, rfl⟩
  | some k => obtain ⟨t0, t1, t2, t3, rfl⟩ := hv; exact ⟨_, _, _, _, rfl⟩
theorem S_put_frame {c : Int} {ft : Option Int} {r : List UInt8} {a : Addr} {vs : List Value} (G : Gk w g) (hR : Rm A 5) (hm : (a, tupO vs) ∈ n) (hv : clV c ft r vs) (hok : clOk c ft r) (h : ∀ t, V (.bytes (clG c ft r).toArray t) m n) : Ho true Pg w A g L m n (call (.ref 263) [.ref a]) V := by
  have hv' := hv
  obtain ⟨t0, t1, t2, fv, rfl⟩ := clV_head hv'
  refine en_def ok_put_frame [("f", .ref a)] [some (.ref a), none, none, none, none, none, none, none, none, none, none, none, none, none] G hR (by k_is) (by k_is) rfl rfl rfl rfl fun g L A G hR => hb_cons (hx_asg (he_sub (he_lv lv_put_frame_f rfl (he_int fun _ => ho_ti (by ktr_rel) (by ktr_room) (by ktr_room) rfl rfl ?_))))
  refine ho_sv lv_put_frame_kind rfl (kt_next (hb_cons (hx_if (ht_cmp (he_lv lv_put_frame_kind rfl (he_str fun _ => ho_eqS (ho_tb (ho_if_f (by tb_rel) ?_))))))))
  refine hb_nil (kt_next (hb_cons (hx_if (ht_cmp (he_lv lv_put_frame_kind rfl (he_gv G gv_put_frame_NUMBER_FRAMES (gl_NUMBER_FRAMES w) (ho_inDK G (by show List.lookup _ (hd.heap_1 w.params) = _; k_is) (by k_keys) (by show nsIn (hd.heap_1 w.params) _ _ = _; k_is) (by decide) ?_)))))))
  refine ho_tb (ho_if_f (by tb_rel) ?_)
  refine hb_nil (kt_next (hb_cons (hx_if (ht_cmp (he_lv lv_put_frame_kind rfl (he_str fun _ => ho_eqS (ho_tb (ho_if_f (by tb_rel) ?_))))))))
  refine hb_nil (kt_next (hb_cons (hx_if (ht_cmp (he_lv lv_put_frame_kind rfl (he_str fun _ => ho_eqS (ho_tb (ho_if_f (by tb_rel) ?_))))))))
  refine hb_nil (kt_next (hb_cons (hx_if (ht_cmp (he_lv lv_put_frame_kind rfl (he_str fun _ => ho_eqS (ho_tb (ho_if_f (by tb_rel) ?_))))))))
  refine hb_nil (kt_next (hb_cons (hx_if (ht_cmp (he_lv lv_put_frame_kind rfl (he_str fun _ => ho_eqS (ho_tb (ho_if_t (by tb_rel) ?_))))))))
  refine hb_cons (hx_ret (he_call (he_gv G gv_put_frame_put_close (gl_put_close w) (hc_def G (by tb_start) (ha_cons (he_lv lv_put_frame_f rfl (ha_nil (S_put_close G hR hm hv hok fun _ => ?_))))))))
  exact kt_ret ⟨n, by k_updF, h _⟩
theorem clG_len (c : Int) (ft : Option Int) (r : List UInt8) : (clG c ft r).length = r.length + (if ft = none then 3 else 4) := by
  cases ft <;> simp [clG] <;> omega
theorem S_frame_size {c : Int} {ft : Option Int} {r : List UInt8} {a : Addr} {vs : List Value} (G : Gk w g) (hR : Rm A 6) (hm : (a, tupO vs) ∈ n) (hv : clV c ft r vs) (hok : clOk c ft r) (h : ∀ t, V (.int ((clG c ft r).length : Int) t) m n) : Ho true Pg w A g L m n (call (.ref 275) [.ref a]) V := by
  have hl := clG_len c ft r
  have hr := hok.2.2.2
  refine en_def ok_frame_size [("f", .ref a)] [some (.ref a), none, none] G hR (by k_is) (by k_is) rfl rfl rfl rfl fun g L A G hR => hb_cons (hx_ret (he_call (he_bv G gv_frame_size_len (nb_len w) bb_len (by decide) (hc_b (ha_cons (he_call (he_gv G gv_frame_size_put_frame (gl_put_frame w) (hc_def G (by tb_start) (ha_cons (he_lv lv_frame_size_f rfl (ha_nil (S_put_frame G (hR.le (by omega)) hm hv hok fun _ => ?_))))))))))))
  have hz : (clG c ft r).length ≤ 100 := by rw [hl]; split <;> omega
  refine ha_nil (ho_lenB (by ktr_room) fun _ => ?_)
  refine kt_ret ?_
  exact ⟨n, by k_updF, h _⟩
theorem S_put_frames {c : Int} {ft : Option Int} {r : List UInt8} {a b : Addr} {vs : List Value} {kk : Nat} (G : Gk w g) (hR : Rm A 6) (hb : (b, lstO [.ref a] kk) ∈ n) (hm : (a, tupO vs) ∈ n) (hv : clV c ft r vs) (hok : clOk c ft r) (h : ∀ t, V (.bytes (clG c ft r).toArray t) m n) : Ho true Pg w A g L m n (call (.ref 268) [.ref b]) V := by
  refine en_def ok_put_frames [("row", .ref b)] [some (.ref b)] G hR (by k_is) (by k_is) rfl rfl rfl rfl fun g L A G hR => hb_cons (hx_ret (he_meth (he_bytes fun _ => hm_join (hc_b (ha_cons (he_compL G (by decide +kernel) hR.hh (he_lv lv_put_frames_row rfl (⟨b, _, kk, rfl, hb, fun D g C I hD G st => ⟨fun i n' => (i = 0 ∧ n' = (D, lstO [] 0) :: n) ∨ (i = 1 ∧ ∃ t, n' = (D, lstO [.bytes (clG c ft r).toArray t] 1) :: n), .inl ⟨rfl, rfl⟩, ?_, ?_, ?_⟩⟩))))))))
  · rintro i n' (⟨_, rfl⟩ | ⟨_, _, rfl⟩) <;> exact .tail _ hb
  · rintro i v m' n' o hi (⟨rfl, rfl⟩ | ⟨rfl, t, rfl⟩)
    · cases hi
      refine hs_name (ho_st (hif_nil (ho_if_t rfl ?_)))
      refine he_call (he_globG G (gl_put_frame w) (hc_def G (by tb_start) (ha_cons (he_up (ha_nil (S_put_frame G (hR.le (by omega)) (.tail _ (.tail _ hm)) hv hok fun t => ho_appS (by ktr_unf) (by exact Nat.le_of_ble_eq_true rfl) ?_))))))
      exact ⟨_, List.Sublist.refl _, .inr ⟨rfl, _, rfl⟩⟩
    · cases hi
  · rintro n' (⟨h, _⟩ | ⟨_, t, rfl⟩)
    · cases h
    · refine ha_nil (ho_join1 (.head _) ?_)
      exact kt_ret ⟨n, by k_updF, h _⟩
noncomputable def sealG (key : List UInt8) (num : Int) (head pl : List UInt8) : List UInt8 := turned key num pl ++ tagG key num head (turned key num pl)
noncomputable def smpG (key : List UInt8) (num : Int) (head ct pl : List UInt8) : List UInt8 := cut (head ++ ct ++ sealG key num (head ++ ct) pl) (some ((head.length : Int) + 4)) (some ((head.length : Int) + 4 + 16))
noncomputable def mskG (key : List UInt8) (num : Int) (head ct pl : List UInt8) : List UInt8 := maskG key (smpG key num head ct pl)
noncomputable def turnF (a : Int) (k : List UInt8) : Int := Builtin.bitXor a (Builtin.bitAnd ((k.getD 0 0).toNat : Int) (if 128 ≤ a then 15 else 31))
theorem clip_in {n : Nat} {k : Int} (a : 0 ≤ k) (b : k ≤ (n : Int)) : clipAt n k = k.toNat := by
  unfold clipAt
  rw [if_neg (Int.not_lt.mpr a), Int.min_eq_left b, Int.max_eq_right a]
theorem maskG_len (key s : List UInt8) : (maskG key s).length = 5 := by
  unfold maskG cut
  have := be_len 16 (mixed (mixed 7 key) s)
  simp [this, clipAt]
  rfl
theorem turnF_range {a : Int} (k : List UInt8) (h0 : 0 ≤ a) (h1 : a < 256) : 0 ≤ turnF a k ∧ turnF a k < 256 := by
  unfold turnF
  have hb : ∀ y : Int, 0 ≤ y → 0 ≤ Builtin.bitAnd ((k.getD 0 0).toNat : Int) y ∧ Builtin.bitAnd ((k.getD 0 0).toNat : Int) y < 256 := fun y hy => by
    rw [PyProof.Rows.bitAnd_pp (by omega) hy]
    have h1 := Nat.and_le_left (n := ((k.getD 0 0).toNat : Int).toNat) (m := y.toNat)
    have h2 := (k.getD 0 0).toNat_lt
    omega
  have := hb (if 128 ≤ a then 15 else 31) (by split <;> omega)
  exact bitXor_byte h0 h1 this.1 this.2
theorem S_turn_first {a : Int} {t1 t2 : Tok} {k : List UInt8} (G : Gk w g) (hR : Rm A 1) (hk : k.length = 5) (h : ∀ t, V (.int (turnF a k) t) m n) : Ho true Pg w A g L m n (call (.ref 500) [.int a t1, .bytes k.toArray t2]) V := S_turned_first G hR hk h
theorem cut_tail {x : UInt8} {l : List UInt8} : cut (x :: l) (some 1) none = l := by
  unfold cut
  have : clipAt (l.length + 1) 1 = 1 := clip_in (by decide) (Int.ofNat_le.mpr (Nat.le_add_left 1 l.length))
  simp [this]
noncomputable def protG (key : List UInt8) (num : Int) (f : UInt8) (rest ct pl : List UInt8) : List UInt8 :=
  [(turnF (f.toNat : Int) (mskG key num (f :: rest) ct pl)).toNat.toUInt8] ++ rest ++ turnN ct (mskG key num (f :: rest) ct pl) ++ sealG key num (f :: rest ++ ct) pl
theorem S_protected {key rest ct pl : List UInt8} {f : UInt8} {v : Int} {t1 t2 t3 t4 t5 : Tok} (G : Gk w g) (hR : Rm A 4) (h1 : rest.length ≤ 100) (h2 : ct.length ≤ 4) (h3 : pl.length ≤ 100) (h4 : 4 ≤ ct.length + pl.length) (h : ∀ t, V (.bytes (protG key v f rest ct pl).toArray t) m n) :
    Ho true Pg w A g L m n (call (.ref 526) [.bytes key.toArray t1, .int v t2, .bytes (f :: rest).toArray t3, .bytes ct.toArray t4, .bytes pl.toArray t5]) V := by
  refine en_def ok_protected_packet [("key", .bytes key.toArray t1), ("number", .int v t2), ("head", .bytes (f :: rest).toArray t3), ("cut", .bytes ct.toArray t4), ("payload", .bytes pl.toArray t5)] [some (.bytes key.toArray t1), some (.int v t2), some (.bytes (f :: rest).toArray t3), some (.bytes ct.toArray t4), some (.bytes pl.toArray t5), none, none, none, none, none, none, none, none, none, none, none] G hR (by k_is) (by k_is) rfl rfl rfl rfl fun g L A G hR => hb_cons (hx_asg (he_bin (he_lv lv_protected_packet_head rfl (he_lv lv_protected_packet_cut rfl (ho_addB (by ktr_room) fun _ => ?_)))))
  refine ho_sv lv_protected_packet_whole_head rfl (kt_next (hb_cons (hx_asg (he_call (he_gv G gv_protected_packet_seal_payload (gl_seal_payload w) (hc_def G (by tb_start) (ha_cons (he_lv lv_protected_packet_key rfl (ha_cons (he_lv lv_protected_packet_number rfl (ha_cons (he_lv lv_protected_packet_whole_head rfl (ha_cons (he_lv lv_protected_packet_payload rfl (ha_nil (S_seal G (hR.le (by omega)) (by simp; omega) (by omega) fun _ => ?_))))))))))))))))
  have hs : (sealG key v (f :: rest ++ ct) pl).length = pl.length + 16 := by
    unfold sealG turned; rw [List.length_append, turnG_len]; unfold tagG; rw [be_len]
  have hse : turned key v pl ++ tagG key v (f :: rest ++ ct) (turned key v pl) = sealG key v (f :: rest ++ ct) pl := rfl
  rw [hse]
  refine ho_sv lv_protected_packet_sealed rfl (kt_next (hb_cons (hx_asg (he_bin (he_lv lv_protected_packet_whole_head rfl (he_lv lv_protected_packet_sealed rfl (ho_addB (by ktr_room) fun _ => ?_)))))))
  refine ho_sv lv_protected_packet_data rfl (kt_next (hb_cons (hx_asg (he_call (he_gv G gv_protected_packet_head_mask (gl_head_mask w) (hc_def G (by tb_start) (ha_cons (he_lv lv_protected_packet_key rfl (ha_cons (he_call (he_gv G gv_protected_packet_sample_at (gl_sample_at w) (hc_def G (by tb_start) (ha_cons (he_lv lv_protected_packet_data rfl (ha_cons (he_call (he_bv G gv_protected_packet_len (nb_len w) bb_len (by decide) (hc_b (ha_cons (he_lv lv_protected_packet_head rfl (ha_nil (ho_lenB (by ktr_room) fun _ => ?_))))))))))))))))))))))
  refine ha_cons (he_call (he_bv G gv_protected_packet_len (nb_len w) bb_len (by decide) (hc_b (ha_cons (he_lv lv_protected_packet_data rfl (ha_nil (ho_lenB (by ktr_room) fun _ => ?_)))))))
  refine ha_nil ?_
  have hq : (f :: rest ++ ct ++ sealG key v (f :: rest ++ ct) pl).length = rest.length + ct.length + pl.length + 17 := by
    rw [List.length_append, hs]; simp; omega
  have hq1 : (f :: rest).length = rest.length + 1 := rfl
  refine S_sample_at G (hR.le (by omega)) (by omega) (by omega) (Int.le_refl _) (by omega) fun _ => ?_
  have hsm : cut (f :: rest ++ ct ++ sealG key v (f :: rest ++ ct) pl) (some ((((f :: rest).length : Nat) : Int) + 4)) (some ((((f :: rest).length : Nat) : Int) + 4 + 16)) = smpG key v (f :: rest) ct pl := rfl
  rw [hsm]
  refine ha_nil (S_mask G (hR.le (by omega)) fun _ => ?_)
  have hml : (maskG key (smpG key v (f :: rest) ct pl)).length = 5 := maskG_len _ _
  refine ho_sv lv_protected_packet_mask rfl (kt_next (hb_cons (hx_ret (he_bin (he_bin (he_bin (he_call (he_bv G gv_protected_packet_bytes (nb_bytes w) bb_bytes (by decide) (hc_ty (ha_cons (he_list (ha_cons (he_call (he_gv G gv_protected_packet_turned_first (gl_turned_first w) (hc_def G (by tb_start) (ha_cons (he_sub (he_lv lv_protected_packet_head rfl (he_int fun _ => ho_bi (by ktr_room) (by ktr_room) (by ktr_room) fun _ => ?_)))))))))))))))))))
  refine ha_cons (he_lv lv_protected_packet_mask rfl (ha_nil ?_))
  have hfl := f.toNat_lt
  have hfr := turnF_range (maskG key (smpG key v (f :: rest) ct pl)) (a := (f.toNat : Int)) (by omega) (by omega)
  refine S_turn_first (a := (f.toNat : Int)) G (hR.le (by omega)) hml fun _ => ha_nil (And.intro (Nat.le_of_ble_eq_true rfl) fun e0 he0 => ha_nil (ho_mkB1 hR.hh (by ktr_rel) (by ktr_room) (by ktr_room) fun _ => ?_))
  refine he_cut (he_lv lv_protected_packet_head rfl (hp_some (he_int fun _ => hp_none (⟨_, _, _, _, rfl, by constructor, by constructor, by ktr_room, fun _ => ?_⟩))))
  rw [cut_tail]
  refine ho_addB (by ktr_room) fun _ => ?_
  refine he_call (he_gv G gv_protected_packet_turned_number (gl_turned_number w) (hc_def G (by tb_start) (ha_cons (he_lv lv_protected_packet_cut rfl (ha_cons (he_lv lv_protected_packet_mask rfl (ha_nil (S_turn_num G (hR.le (by omega)) h2 hml fun _ => ?_))))))))
  have hlt : (turnN ct (maskG key (smpG key v (f :: rest) ct pl))).length = ct.length := by unfold turnN; simp
  refine ho_addB (by ktr_room) fun _ => ?_
  refine he_lv lv_protected_packet_sealed rfl (ho_addB (by ktr_room) fun _ => ?_)
  refine kt_ret ?_
  exact ⟨n, by k_updF, h _⟩
theorem cutG_len (a ap : Int) : (cutG a ap).length = szG ap := be_len _ _
noncomputable def pkG (sp : Sp) (d s key : List UInt8) (num ap : Int) (pl : List UInt8) : List UInt8 :=
  protG key num (firstG sp (szG ap : Nat)).toNat.toUInt8 (restG sp d s ((szG ap : Nat) + (pl.length : Int) + 16)) (cutG num ap) pl
theorem restG_len (sp : Sp) (d s : List UInt8) (r : Int) (h1 : d.length ≤ 20) (h2 : s.length ≤ 20) : (restG sp d s r).length ≤ 60 := by
  cases sp <;> simp [restG, idsG, be_len] <;> omega
theorem S_put_packet {sp : Sp} {d s key pl : List UInt8} {num ap : Int} {a : Addr} {av : Value} {vs : List Value} {t1 t2 t3 : Tok} (G : Gk w g) (hR : Rm A 6) (hm : (a, tupO vs) ∈ n) (hv : pktV sp d s (.int num t1) (.bytes pl.toArray t2) vs) (h1 : d.length ≤ 20) (h2 : s.length ≤ 20) (hl : pl.length ≤ 40)
    (ha : Ack av num ap) (h0 : 0 ≤ num) (hap : ap ≤ 30000) (h4 : 4 ≤ szG ap + pl.length) (h : ∀ t, V (.bytes (pkG sp d s key num ap pl).toArray t) m n) : Ho true Pg w A g L m n (call (.ref 561) [.ref a, av, .bytes key.toArray t3]) V := by
  have hcl := cutG_len num ap
  have hsz := sz_cases ap
  have hrl := restG_len sp d s ((szG ap : Nat) + (pl.length : Int) + 16) h1 h2
  have fin : ∀ {m : FMap} {n : Led} {V : Value → FMap → Led → Prop} {g : Heap} {L : Addr} {A : Around} {t1 t2 t3 t4 t5 : Tok}, Gk w g → Rm A 4 → (∀ t, V (.bytes (pkG sp d s key num ap pl).toArray t) m n) → Ho true Pg w A g L m n (call (.ref 526) [.bytes key.toArray t1, .int num t2, .bytes (headG sp d s (szG ap : Nat) ((szG ap : Nat) + (pl.length : Int) + 16)).toArray t3, .bytes (cutG num ap).toArray t4, .bytes pl.toArray t5]) V :=
    fun G hR h => S_protected G hR (by omega) (by omega) (by omega) (by omega) h
  cases sp with
  | ini =>
    have hv' := hv
    obtain ⟨t4, t5, t6, t7, t8, rfl⟩ := hv
    refine en_def ok_put_packet [("packet", .ref a), ("largest_acked", av), ("key", .bytes key.toArray t3)] [some (.ref a), some (av), some (.bytes key.toArray t3), none, none, none, none, none, none, none, none, none] G hR (by k_is) (by k_is) rfl rfl rfl rfl fun g L A G hR => hb_cons (hx_asg (he_call (he_gv G gv_put_packet_number_in (gl_number_in w) (hc_def G (by tb_start) (ha_cons (he_lv lv_put_packet_packet rfl (ha_nil (S_number_in7 G (hR.le (by omega)) hm (ho_sv lv_put_packet_number rfl (kt_next (hb_cons (hx_asg (he_call (he_gv G gv_put_packet_cut_number (gl_cut_number w) (hc_def G (by tb_start) (ha_cons (he_lv lv_put_packet_number rfl (ha_cons (he_lv lv_put_packet_largest_acked rfl (ha_nil (S_cut G (hR.le (by omega)) ha h0 hap fun _ => ho_sv lv_put_packet_cut rfl (kt_next (hb_cons (hx_asg (he_call (he_gv G gv_put_packet_padded_payload (gl_padded_payload w) (hc_def G (by tb_start) (ha_cons (he_sub (he_lv lv_put_packet_packet rfl (he_bin (he_call (he_bv G gv_put_packet_len (nb_len w) bb_len (by decide) (hc_b (ha_cons (he_lv lv_put_packet_packet rfl (ha_nil (ho_lenT (by ktr_rel) (Nat.le_of_ble_eq_true rfl) fun _ => ?_))))))))))))))))))))))))))))))))))))))
    refine he_int fun _ => ho_sub fun _ => ho_ti (by ktr_rel) (by ktr_room) (by ktr_room) rfl rfl ?_
    refine ha_cons (he_call (he_bv G gv_put_packet_len (nb_len w) bb_len (by decide) (hc_b (ha_cons (he_lv lv_put_packet_cut rfl (ha_nil (ho_lenB (by ktr_room) fun _ => ?_)))))))
    refine ha_nil (S_padded G (hR.le (by omega)) (by omega) (by omega) (ho_sv lv_put_packet_payload rfl (kt_next (hb_cons (hx_ret (he_call (he_gv G gv_put_packet_protected_packet (gl_protected_packet w) (hc_def G (by tb_start) (ha_cons (he_lv lv_put_packet_key rfl (ha_cons (he_lv lv_put_packet_number rfl (ha_cons (he_call (he_gv G gv_put_packet_head_of (gl_head_of w) (hc_def G (by tb_start) (ha_cons (he_lv lv_put_packet_packet rfl (ha_cons (he_call (he_bv G gv_put_packet_len (nb_len w) bb_len (by decide) (hc_b (ha_cons (he_lv lv_put_packet_cut rfl (ha_nil (ho_lenB (by ktr_room) fun _ => ?_))))))))))))))))))))))))))
    refine ha_cons (he_lv lv_put_packet_payload rfl (ha_nil (S_head_of (sp := .ini) G (hR.le (by omega)) hm hv' h1 h2 hl (by omega) fun _ => ?_)))
    rw [hcl]
    refine ha_cons (he_lv lv_put_packet_cut rfl (ha_cons (he_lv lv_put_packet_payload rfl (ha_nil (fin G (hR.le (by omega)) fun _ => ?_)))))
    exact kt_ret ⟨n, by k_updF, h _⟩
  | han =>
    have hv' := hv
    obtain ⟨t4, t5, t6, t7, rfl⟩ := hv
    refine en_def ok_put_packet [("packet", .ref a), ("largest_acked", av), ("key", .bytes key.toArray t3)] [some (.ref a), some (av), some (.bytes key.toArray t3), none, none, none, none, none, none, none, none, none] G hR (by k_is) (by k_is) rfl rfl rfl rfl fun g L A G hR => hb_cons (hx_asg (he_call (he_gv G gv_put_packet_number_in (gl_number_in w) (hc_def G (by tb_start) (ha_cons (he_lv lv_put_packet_packet rfl (ha_nil (S_number_in G (hR.le (by omega)) hm (ho_sv lv_put_packet_number rfl (kt_next (hb_cons (hx_asg (he_call (he_gv G gv_put_packet_cut_number (gl_cut_number w) (hc_def G (by tb_start) (ha_cons (he_lv lv_put_packet_number rfl (ha_cons (he_lv lv_put_packet_largest_acked rfl (ha_nil (S_cut G (hR.le (by omega)) ha h0 hap fun _ => ho_sv lv_put_packet_cut rfl (kt_next (hb_cons (hx_asg (he_call (he_gv G gv_put_packet_padded_payload (gl_padded_payload w) (hc_def G (by tb_start) (ha_cons (he_sub (he_lv lv_put_packet_packet rfl (he_bin (he_call (he_bv G gv_put_packet_len (nb_len w) bb_len (by decide) (hc_b (ha_cons (he_lv lv_put_packet_packet rfl (ha_nil (ho_lenT (by ktr_rel) (Nat.le_of_ble_eq_true rfl) fun _ => ?_))))))))))))))))))))))))))))))))))))))
    refine he_int fun _ => ho_sub fun _ => ho_ti (by ktr_rel) (by ktr_room) (by ktr_room) rfl rfl ?_
    refine ha_cons (he_call (he_bv G gv_put_packet_len (nb_len w) bb_len (by decide) (hc_b (ha_cons (he_lv lv_put_packet_cut rfl (ha_nil (ho_lenB (by ktr_room) fun _ => ?_)))))))
    refine ha_nil (S_padded G (hR.le (by omega)) (by omega) (by omega) (ho_sv lv_put_packet_payload rfl (kt_next (hb_cons (hx_ret (he_call (he_gv G gv_put_packet_protected_packet (gl_protected_packet w) (hc_def G (by tb_start) (ha_cons (he_lv lv_put_packet_key rfl (ha_cons (he_lv lv_put_packet_number rfl (ha_cons (he_call (he_gv G gv_put_packet_head_of (gl_head_of w) (hc_def G (by tb_start) (ha_cons (he_lv lv_put_packet_packet rfl (ha_cons (he_call (he_bv G gv_put_packet_len (nb_len w) bb_len (by decide) (hc_b (ha_cons (he_lv lv_put_packet_cut rfl (ha_nil (ho_lenB (by ktr_room) fun _ => ?_))))))))))))))))))))))))))
    refine ha_cons (he_lv lv_put_packet_payload rfl (ha_nil (S_head_of (sp := .han) G (hR.le (by omega)) hm hv' h1 h2 hl (by omega) fun _ => ?_)))
    rw [hcl]
    refine ha_cons (he_lv lv_put_packet_cut rfl (ha_cons (he_lv lv_put_packet_payload rfl (ha_nil (fin G (hR.le (by omega)) fun _ => ?_)))))
    exact kt_ret ⟨n, by k_updF, h _⟩
  | app =>
    have hv' := hv
    obtain ⟨t4, t5, t6, t7, rfl⟩ := hv
    refine en_def ok_put_packet [("packet", .ref a), ("largest_acked", av), ("key", .bytes key.toArray t3)] [some (.ref a), some (av), some (.bytes key.toArray t3), none, none, none, none, none, none, none, none, none] G hR (by k_is) (by k_is) rfl rfl rfl rfl fun g L A G hR => hb_cons (hx_asg (he_call (he_gv G gv_put_packet_number_in (gl_number_in w) (hc_def G (by tb_start) (ha_cons (he_lv lv_put_packet_packet rfl (ha_nil (S_number_in G (hR.le (by omega)) hm (ho_sv lv_put_packet_number rfl (kt_next (hb_cons (hx_asg (he_call (he_gv G gv_put_packet_cut_number (gl_cut_number w) (hc_def G (by tb_start) (ha_cons (he_lv lv_put_packet_number rfl (ha_cons (he_lv lv_put_packet_largest_acked rfl (ha_nil (S_cut G (hR.le (by omega)) ha h0 hap fun _ => ho_sv lv_put_packet_cut rfl (kt_next (hb_cons (hx_asg (he_call (he_gv G gv_put_packet_padded_payload (gl_padded_payload w) (hc_def G (by tb_start) (ha_cons (he_sub (he_lv lv_put_packet_packet rfl (he_bin (he_call (he_bv G gv_put_packet_len (nb_len w) bb_len (by decide) (hc_b (ha_cons (he_lv lv_put_packet_packet rfl (ha_nil (ho_lenT (by ktr_rel) (Nat.le_of_ble_eq_true rfl) fun _ => ?_))))))))))))))))))))))))))))))))))))))
    refine he_int fun _ => ho_sub fun _ => ho_ti (by ktr_rel) (by ktr_room) (by ktr_room) rfl rfl ?_
    refine ha_cons (he_call (he_bv G gv_put_packet_len (nb_len w) bb_len (by decide) (hc_b (ha_cons (he_lv lv_put_packet_cut rfl (ha_nil (ho_lenB (by ktr_room) fun _ => ?_)))))))
    refine ha_nil (S_padded G (hR.le (by omega)) (by omega) (by omega) (ho_sv lv_put_packet_payload rfl (kt_next (hb_cons (hx_ret (he_call (he_gv G gv_put_packet_protected_packet (gl_protected_packet w) (hc_def G (by tb_start) (ha_cons (he_lv lv_put_packet_key rfl (ha_cons (he_lv lv_put_packet_number rfl (ha_cons (he_call (he_gv G gv_put_packet_head_of (gl_head_of w) (hc_def G (by tb_start) (ha_cons (he_lv lv_put_packet_packet rfl (ha_cons (he_call (he_bv G gv_put_packet_len (nb_len w) bb_len (by decide) (hc_b (ha_cons (he_lv lv_put_packet_cut rfl (ha_nil (ho_lenB (by ktr_room) fun _ => ?_))))))))))))))))))))))))))
    refine ha_cons (he_lv lv_put_packet_payload rfl (ha_nil (S_head_of (sp := .app) G (hR.le (by omega)) hm hv' h1 h2 hl (by omega) fun _ => ?_)))
    rw [hcl]
    refine ha_cons (he_lv lv_put_packet_cut rfl (ha_cons (he_lv lv_put_packet_payload rfl (ha_nil (fin G (hR.le (by omega)) fun _ => ?_)))))
    exact kt_ret ⟨n, by k_updF, h _⟩
theorem S_packet_size {sp : Sp} {d s pl : List UInt8} {num ap : Int} {a : Addr} {av : Value} {vs : List Value} {t1 t2 : Tok} (G : Gk w g) (hR : Rm A 6) (hm : (a, tupO vs) ∈ n) (hv : pktV sp d s (.int num t1) (.bytes pl.toArray t2) vs) (h1 : d.length ≤ 20) (h2 : s.length ≤ 20) (hl : pl.length ≤ 40)
    (ha : Ack av num ap) (h0 : 0 ≤ num) (hap : ap ≤ 30000) (h4 : 4 ≤ szG ap + pl.length) (h : ∀ t, V (.int (((headG sp d s (szG ap : Nat) ((szG ap : Nat) + (pl.length : Int) + 16)).length : Int) + (szG ap : Nat) + (pl.length : Int) + 16) t) m n) : Ho true Pg w A g L m n (call (.ref 568) [.ref a, av]) V := by
  have hcl := cutG_len num ap
  have hsz := sz_cases ap
  have hrl := restG_len sp d s ((szG ap : Nat) + (pl.length : Int) + 16) h1 h2
  cases sp with
  | ini =>
    have hv' := hv
    obtain ⟨t4, t5, t6, t7, t8, rfl⟩ := hv
    refine en_def ok_packet_size [("packet", .ref a), ("largest_acked", av)] [some (.ref a), some (av), none, none, none, none, none, none, none, none] G hR (by k_is) (by k_is) rfl rfl rfl rfl fun g L A G hR => hb_cons (hx_asg (he_call (he_gv G gv_packet_size_cut_number (gl_cut_number w) (hc_def G (by tb_start) (ha_cons (he_call (he_gv G gv_packet_size_number_in (gl_number_in w) (hc_def G (by tb_start) (ha_cons (he_lv lv_packet_size_packet rfl (ha_nil (S_number_in7 G (hR.le (by omega)) hm (ha_cons (he_lv lv_packet_size_largest_acked rfl (ha_nil (S_cut G (hR.le (by omega)) ha h0 hap fun _ => ho_sv lv_packet_size_cut rfl (kt_next (hb_cons (hx_asg (he_call (he_gv G gv_packet_size_padded_payload (gl_padded_payload w) (hc_def G (by tb_start) (ha_cons (he_sub (he_lv lv_packet_size_packet rfl (he_bin (he_call (he_bv G gv_packet_size_len (nb_len w) bb_len (by decide) (hc_b (ha_cons (he_lv lv_packet_size_packet rfl (ha_nil (ho_lenT (by ktr_rel) (Nat.le_of_ble_eq_true rfl) fun _ => ?_)))))))))))))))))))))))))))))))))
    refine he_int fun _ => ho_sub fun _ => ho_ti (by ktr_rel) (by ktr_room) (by ktr_room) rfl rfl ?_
    refine ha_cons (he_call (he_bv G gv_packet_size_len (nb_len w) bb_len (by decide) (hc_b (ha_cons (he_lv lv_packet_size_cut rfl (ha_nil (ho_lenB (by ktr_room) fun _ => ?_)))))))
    refine ha_nil (S_padded G (hR.le (by omega)) (by omega) (by omega) (ho_sv lv_packet_size_payload rfl (kt_next (hb_cons (hx_ret (he_bin (he_bin (he_bin (he_call (he_bv G gv_packet_size_len (nb_len w) bb_len (by decide) (hc_b (ha_cons (he_call (he_gv G gv_packet_size_head_of (gl_head_of w) (hc_def G (by tb_start) (ha_cons (he_lv lv_packet_size_packet rfl (ha_cons (he_call (he_bv G gv_packet_size_len (nb_len w) bb_len (by decide) (hc_b (ha_cons (he_lv lv_packet_size_cut rfl (ha_nil (ho_lenB (by ktr_room) fun _ => ?_)))))))))))))))))))))))))
    refine ha_cons (he_lv lv_packet_size_payload rfl (ha_nil (S_head_of (sp := .ini) G (hR.le (by omega)) hm hv' h1 h2 hl (by omega) fun _ => ?_)))
    rw [hcl]
    have hh : ((headG .ini d s (szG ap : Nat) ((szG ap : Nat) + (pl.length : Int) + 16)).length : Nat) ≤ 61 := by unfold headG; simp; omega
    refine ha_nil (ho_lenB (by ktr_room) fun _ => ?_)
    refine he_call (he_bv G gv_packet_size_len (nb_len w) bb_len (by decide) (hc_b (ha_cons (he_lv lv_packet_size_cut rfl (ha_nil (ho_lenB (by ktr_room) fun _ => ?_))))))
    refine ho_add fun _ => he_call (he_bv G gv_packet_size_len (nb_len w) bb_len (by decide) (hc_b (ha_cons (he_lv lv_packet_size_payload rfl (ha_nil (ho_lenB (by ktr_room) fun _ => ?_))))))
    refine ho_add fun _ => he_gv G gv_packet_size_TAG_SIZE (gl_TAG_SIZE w) (ho_add fun _ => kt_ret ?_)
    rw [hcl]
    exact ⟨n, by k_updF, h _⟩
  | han =>
    have hv' := hv
    obtain ⟨t4, t5, t6, t7, rfl⟩ := hv
    refine en_def ok_packet_size [("packet", .ref a), ("largest_acked", av)] [some (.ref a), some (av), none, none, none, none, none, none, none, none] G hR (by k_is) (by k_is) rfl rfl rfl rfl fun g L A G hR => hb_cons (hx_asg (he_call (he_gv G gv_packet_size_cut_number (gl_cut_number w) (hc_def G (by tb_start) (ha_cons (he_call (he_gv G gv_packet_size_number_in (gl_number_in w) (hc_def G (by tb_start) (ha_cons (he_lv lv_packet_size_packet rfl (ha_nil (S_number_in G (hR.le (by omega)) hm (ha_cons (he_lv lv_packet_size_largest_acked rfl (ha_nil (S_cut G (hR.le (by omega)) ha h0 hap fun _ => ho_sv lv_packet_size_cut rfl (kt_next (hb_cons (hx_asg (he_call (he_gv G gv_packet_size_padded_payload (gl_padded_payload w) (hc_def G (by tb_start) (ha_cons (he_sub (he_lv lv_packet_size_packet rfl (he_bin (he_call (he_bv G gv_packet_size_len (nb_len w) bb_len (by decide) (hc_b (ha_cons (he_lv lv_packet_size_packet rfl (ha_nil (ho_lenT (by ktr_rel) (Nat.le_of_ble_eq_true rfl) fun _ => ?_)))))))))))))))))))))))))))))))))
    refine he_int fun _ => ho_sub fun _ => ho_ti (by ktr_rel) (by ktr_room) (by ktr_room) rfl rfl ?_
    refine ha_cons (he_call (he_bv G gv_packet_size_len (nb_len w) bb_len (by decide) (hc_b (ha_cons (he_lv lv_packet_size_cut rfl (ha_nil (ho_lenB (by ktr_room) fun _ => ?_)))))))
    refine ha_nil (S_padded G (hR.le (by omega)) (by omega) (by omega) (ho_sv lv_packet_size_payload rfl (kt_next (hb_cons (hx_ret (he_bin (he_bin (he_bin (he_call (he_bv G gv_packet_size_len (nb_len w) bb_len (by decide) (hc_b (ha_cons (he_call (he_gv G gv_packet_size_head_of (gl_head_of w) (hc_def G (by tb_start) (ha_cons (he_lv lv_packet_size_packet rfl (ha_cons (he_call (he_bv G gv_packet_size_len (nb_len w) bb_len (by decide) (hc_b (ha_cons (he_lv lv_packet_size_cut rfl (ha_nil (ho_lenB (by ktr_room) fun _ => ?_)))))))))))))))))))))))))
    refine ha_cons (he_lv lv_packet_size_payload rfl (ha_nil (S_head_of (sp := .han) G (hR.le (by omega)) hm hv' h1 h2 hl (by omega) fun _ => ?_)))
    rw [hcl]
    have hh : ((headG .han d s (szG ap : Nat) ((szG ap : Nat) + (pl.length : Int) + 16)).length : Nat) ≤ 61 := by unfold headG; simp; omega
    refine ha_nil (ho_lenB (by ktr_room) fun _ => ?_)
    refine he_call (he_bv G gv_packet_size_len (nb_len w) bb_len (by decide) (hc_b (ha_cons (he_lv lv_packet_size_cut rfl (ha_nil (ho_lenB (by ktr_room) fun _ => ?_))))))
    refine ho_add fun _ => he_call (he_bv G gv_packet_size_len (nb_len w) bb_len (by decide) (hc_b (ha_cons (he_lv lv_packet_size_payload rfl (ha_nil (ho_lenB (by ktr_room) fun _ => ?_))))))
    refine ho_add fun _ => he_gv G gv_packet_size_TAG_SIZE (gl_TAG_SIZE w) (ho_add fun _ => kt_ret ?_)
    rw [hcl]
    exact ⟨n, by k_updF, h _⟩
  | app =>
    have hv' := hv
    obtain ⟨t4, t5, t6, t7, rfl⟩ := hv
    refine en_def ok_packet_size [("packet", .ref a), ("largest_acked", av)] [some (.ref a), some (av), none, none, none, none, none, none, none, none] G hR (by k_is) (by k_is) rfl rfl rfl rfl fun g L A G hR => hb_cons (hx_asg (he_call (he_gv G gv_packet_size_cut_number (gl_cut_number w) (hc_def G (by tb_start) (ha_cons (he_call (he_gv G gv_packet_size_number_in (gl_number_in w) (hc_def G (by tb_start) (ha_cons (he_lv lv_packet_size_packet rfl (ha_nil (S_number_in G (hR.le (by omega)) hm (ha_cons (he_lv lv_packet_size_largest_acked rfl (ha_nil (S_cut G (hR.le (by omega)) ha h0 hap fun _ => ho_sv lv_packet_size_cut rfl (kt_next (hb_cons (hx_asg (he_call (he_gv G gv_packet_size_padded_payload (gl_padded_payload w) (hc_def G (by tb_start) (ha_cons (he_sub (he_lv lv_packet_size_packet rfl (he_bin (he_call (he_bv G gv_packet_size_len (nb_len w) bb_len (by decide) (hc_b (ha_cons (he_lv lv_packet_size_packet rfl (ha_nil (ho_lenT (by ktr_rel) (Nat.le_of_ble_eq_true rfl) fun _ => ?_)))))))))))))))))))))))))))))))))
    refine he_int fun _ => ho_sub fun _ => ho_ti (by ktr_rel) (by ktr_room) (by ktr_room) rfl rfl ?_
    refine ha_cons (he_call (he_bv G gv_packet_size_len (nb_len w) bb_len (by decide) (hc_b (ha_cons (he_lv lv_packet_size_cut rfl (ha_nil (ho_lenB (by ktr_room) fun _ => ?_)))))))
    refine ha_nil (S_padded G (hR.le (by omega)) (by omega) (by omega) (ho_sv lv_packet_size_payload rfl (kt_next (hb_cons (hx_ret (he_bin (he_bin (he_bin (he_call (he_bv G gv_packet_size_len (nb_len w) bb_len (by decide) (hc_b (ha_cons (he_call (he_gv G gv_packet_size_head_of (gl_head_of w) (hc_def G (by tb_start) (ha_cons (he_lv lv_packet_size_packet rfl (ha_cons (he_call (he_bv G gv_packet_size_len (nb_len w) bb_len (by decide) (hc_b (ha_cons (he_lv lv_packet_size_cut rfl (ha_nil (ho_lenB (by ktr_room) fun _ => ?_)))))))))))))))))))))))))
    refine ha_cons (he_lv lv_packet_size_payload rfl (ha_nil (S_head_of (sp := .app) G (hR.le (by omega)) hm hv' h1 h2 hl (by omega) fun _ => ?_)))
    rw [hcl]
    have hh : ((headG .app d s (szG ap : Nat) ((szG ap : Nat) + (pl.length : Int) + 16)).length : Nat) ≤ 61 := by unfold headG; simp; omega
    refine ha_nil (ho_lenB (by ktr_room) fun _ => ?_)
    refine he_call (he_bv G gv_packet_size_len (nb_len w) bb_len (by decide) (hc_b (ha_cons (he_lv lv_packet_size_cut rfl (ha_nil (ho_lenB (by ktr_room) fun _ => ?_))))))
    refine ho_add fun _ => he_call (he_bv G gv_packet_size_len (nb_len w) bb_len (by decide) (hc_b (ha_cons (he_lv lv_packet_size_payload rfl (ha_nil (ho_lenB (by ktr_room) fun _ => ?_))))))
    refine ho_add fun _ => he_gv G gv_packet_size_TAG_SIZE (gl_TAG_SIZE w) (ho_add fun _ => kt_ret ?_)
    rw [hcl]
    exact ⟨n, by k_updF, h _⟩
noncomputable def hoG (sp : Sp) (d s : List UInt8) (ap : Int) : Int := ((headG sp d s (szG ap : Nat) ((szG ap : Nat) + 4 + 16)).length : Int) + (szG ap : Nat) + 4 + 16 - 4 + 3
theorem S_packet_with {sp : Sp} {a : Addr} {t1 t2 t3 t4 t5 : Tok} {c : Int} {r d s : List UInt8} (G : Gk w g) (hR : Rm A 1) (hm : (a, tupO [.bytes d.toArray t1, .bytes s.toArray t2]) ∈ n)
   (h : ∀ b vs, pktV sp d s (.int c t4) (.bytes r.toArray t5) vs → V (.ref b) m ((b, tupO vs) :: n)) : Ho true Pg w A g L m n (call (.ref 597) [.ref a, .str sp.space t3, .int c t4, .bytes r.toArray t5]) V := by
  cases sp with
  | ini => exact S_packet_init G hR hm fun b t t' t'' => h b _ ⟨_, _, _, _, _, rfl⟩
  | han => exact S_packet_hand G hR hm fun b t t' => h b _ ⟨_, _, _, _, rfl⟩
  | app => exact S_packet_app G hR hm fun b t t' t'' => h b _ ⟨_, _, _, _, rfl⟩
theorem S_head_octets {sp : Sp} {d s : List UInt8} {num ap : Int} {ia pd pt : Addr} {po : Obj} {av : Value} {kvs : List (Str × Value)} {t1 t2 t3 t4 : Tok} (G : Gk w g) (hR : Rm A 7) (hi : (ia, tupO [.bytes d.toArray t1, .bytes s.toArray t2]) ∈ n) (hp : (pd, po) ∈ n) (hd1 : po.IsDictOf (PySem.strKind Pg w) kvs) (hl : valueAt kvs sp.space = some (.ref pt)) (ht : (pt, tupO [.int num t3, av]) ∈ n)
    (h1 : d.length ≤ 20) (h2 : s.length ≤ 20) (ha : Ack av num ap) (h0 : 0 ≤ num) (hap : ap ≤ 30000) (h : ∀ t, V (.int (hoG sp d s ap) t) m n) : Ho true Pg w A g L m n (call (.ref 604) [.ref ia, .ref pd, .str sp.space t4]) V := by
  refine en_def ok_head_octets [("ids", .ref ia), ("places", .ref pd), ("space", .str sp.space t4)] [some (.ref ia), some (.ref pd), some (.str sp.space t4), none, none, none, none, none, none] G hR (by k_is) (by k_is) rfl rfl rfl rfl fun g L A G hR => hb_cons (hx_asgT (he_sub (he_lv lv_head_octets_places rfl (he_lv lv_head_octets_space rfl (ho_dget (by ktr_rel) (by assumption) (by assumption) ?_)))))
  refine ha_tup hR.hh (by ktr_rel) rfl rfl ?_
  refine hi_cons (hs_name (ho_sv lv_head_octets_number rfl (hi_cons (hs_name (ho_sv lv_head_octets_acked rfl (hi_nil (kt_next (hb_cons (hx_ret (he_bin (he_bin (he_call (he_gv G gv_head_octets_packet_size (gl_packet_size w) (hc_def G (by tb_start) (ha_cons (he_call (he_gv G gv_head_octets_packet_with (gl_packet_with w) (hc_def G (by tb_start) (ha_cons (he_lv lv_head_octets_ids rfl (ha_cons (he_lv lv_head_octets_space rfl (ha_cons (he_lv lv_head_octets_number rfl (ha_cons (he_call (he_bv G gv_head_octets_bytes (nb_bytes w) bb_bytes (by decide) (hc_ty (ha_cons (he_gv G gv_head_octets_LEAST_PAYLOAD (gl_LEAST_PAYLOAD w) (ha_nil (ho_intBytes (by ktr_room) (by ktr_room) fun _ => ?_))))))))))))))))))))))))))))))))
  refine ha_nil (S_packet_with (r := List.replicate 4 0) G (hR.le (by omega)) hi fun b vs hvs => ha_cons (he_lv lv_head_octets_acked rfl (ha_nil (S_packet_size G (hR.le (by omega)) (.head _) hvs h1 h2 (by decide) ha h0 hap (by simp) fun _ => ?_))))
  refine he_gv G gv_head_octets_LEAST_PAYLOAD (gl_LEAST_PAYLOAD w) (ho_sub fun _ => he_int fun _ => ho_add fun _ => kt_ret ?_)
  exact ⟨n, by k_updF, h _⟩
theorem clV_app {c : Int} {ft : Option Int} {r : List UInt8} {a b d v : Value} (hv : clV c ft r [a, b, d, v]) (r' : List UInt8) (t : Tok) : clV c ft r' ([a, b, d] ++ [.bytes r'.toArray t]) := by
  cases ft with
  | none => obtain ⟨t0, t1, t2, e⟩ := hv; cases e; exact ⟨_, _, _, rfl⟩
  | some k => obtain ⟨t0, t1, t2, t3, e⟩ := hv; cases e; exact ⟨_, _, _, _, rfl⟩
theorem hw_stop {env : Env} {test : Expr} {body : List Stmt} {P : Flow → FMap → Led → Prop} (h : Ho true Pg w A g L m n (isTrue test env (eval test env)) fun b m n => b = false ∧ P .next m n) : HoW true Pg w A g L env test body P 1 m n :=
  h.mono fun b m n h => by obtain ⟨rfl, h⟩ := h; exact h
theorem cut_all {l : List UInt8} : cut l none (some (l.length : Int)) = l := by
  unfold cut
  have : clipAt l.length (l.length : Int) = l.length := clip_in (Int.natCast_nonneg _) (Int.le_refl _)
  simp [this]
theorem S_shorter {c : Int} {ft : Option Int} {r : List UInt8} {a : Addr} {vs : List Value} {room : Int} {t1 : Tok} (G : Gk w g) (hR : Rm A 7) (hm : (a, tupO vs) ∈ n) (hv : clV c ft r vs) (hok : clOk c ft r) (hroom : 10 ≤ room) (hr2 : room ≤ 1000) (h : ∀ b vs', clV c ft r vs' → V (.ref b) m ((b, tupO vs') :: n)) : Ho true Pg w A g L m n (call (.ref 611) [.ref a, .int room t1]) V := by
  have hv' := hv
  obtain ⟨t0, t2, t3, fv, rfl⟩ := clV_head hv'
  have hr5 := hok.2.2.2
  refine en_def ok_shorter_close [("frame", .ref a), ("room", .int room t1)] [some (.ref a), some (.int room t1), none, none, none, none, none] G hR (by k_is) (by k_is) rfl rfl rfl rfl fun g L A G hR => hb_cons (hx_asg (he_call (he_bv G gv_shorter_close_max (nb_max w) bb_max (by decide) (hc_b (ha_cons (he_int fun _ => ha_cons (he_call (he_bv G gv_shorter_close_min (nb_min w) bb_min (by decide) (hc_b (ha_cons (he_call (he_bv G gv_shorter_close_len (nb_len w) bb_len (by decide) (hc_b (ha_cons (he_sub (he_lv lv_shorter_close_frame rfl (he_int fun _ => ho_ti (by ktr_rel) (by ktr_room) (by ktr_room) rfl rfl ?_)))))))))))))))))
  refine ha_nil (ho_lenB (by ktr_room) fun _ => ?_)
  refine ha_cons (he_bin (he_lv lv_shorter_close_room rfl (he_call (he_gv G gv_shorter_close_frame_size (gl_frame_size w) (hc_def G (by tb_start) (ha_cons (he_bin (he_cut3 (he_lv lv_shorter_close_frame rfl (he_int fun _ => ⟨_, _, _, _, _, _, rfl, rfl, by ktr_rel, fun a0 ha0 => ?_⟩))))))))))
  refine he_tup (ha_cons (he_bytes fun _ => ha_nil (And.intro (Nat.le_of_ble_eq_true rfl) fun a1 ha1 => ho_addT (by ktr_rel) (by ktr_rel) (by simp) (by simp) (Nat.le_of_ble_eq_true rfl) fun a2 ha2 => ?_)))
  refine ha_nil ?_
  have hok0 : clOk c ft [] := ⟨hok.1, hok.2.1, hok.2.2.1, by simp⟩
  refine S_frame_size (r := []) G (hR.le (by omega)) (.head _) (clV_app hv _ _) hok0 fun _ => ?_
  have e0 := clG_len c ft []
  have e1 := clG_len c ft r
  have eb : (if ft = none then 3 else 4) ≤ 4 := by split <;> omega
  refine ho_sub fun _ => ha_nil (ho_min hR.hh fun _ => ha_nil (ho_max hR.hh fun _ => ho_sv lv_shorter_close_many rfl (kt_next (hb_cons ?_))))
  have ez : (([] : List UInt8).length : Nat) = 0 := rfl
  have em : (if (if room - ((clG c ft []).length : Int) < (r.length : Int) then room - ((clG c ft []).length : Int) else (r.length : Int)) > 0 then (if room - ((clG c ft []).length : Int) < (r.length : Int) then room - ((clG c ft []).length : Int) else (r.length : Int)) else 0) = (r.length : Int) := by
    have h1 : ¬ (room - ((clG c ft []).length : Int) < (r.length : Int)) := by omega
    simp only [if_neg h1]
    split <;> omega
  rw [em]
  refine hx_while 1 (hw_stop ?_)
  refine ht_and (ht_cmp (he_lv lv_shorter_close_many rfl (he_int fun _ => ho_gt (ho_tb (ho_if_both (fun hc => ?_) (fun hc => ?_))))))
  · refine ht_and (ht_cmp (he_call (he_gv G gv_shorter_close_frame_size (gl_frame_size w) (hc_def G (by tb_start) (ha_cons (he_bin (he_cut3 (he_lv lv_shorter_close_frame rfl (he_int fun _ => ⟨_, _, _, _, _, _, rfl, rfl, by ktr_rel, fun d0 hd0 => ?_⟩)))))))))
    refine he_tup (ha_cons (he_cut (he_sub (he_lv lv_shorter_close_frame rfl (he_int fun _ => ho_ti (by ktr_rel) (by ktr_room) (by ktr_room) rfl rfl ?_)))))
    refine hp_none (hp_some (he_lv lv_shorter_close_many rfl (⟨_, _, _, _, rfl, by constructor, by constructor, by ktr_room, fun _ => ?_⟩)))
    refine ha_nil (And.intro (Nat.le_of_ble_eq_true rfl) fun d1 hd1 => ho_addT (by ktr_rel) (by ktr_rel) (by simp) (by simp) (Nat.le_of_ble_eq_true rfl) fun d2 hd2 => ?_)
    refine ha_nil ?_
    rw [cut_all]
    refine S_frame_size (r := r) G (hR.le (by omega)) (.head _) (clV_app hv _ _) hok fun _ => he_lv lv_shorter_close_room rfl (ho_gt (ho_tb (ho_if_f (decide_eq_false (by omega)) (And.intro rfl (kt_next (hb_cons (hx_ret (he_bin (he_cut3 (he_lv lv_shorter_close_frame rfl (he_int fun _ => ⟨_, _, _, _, _, _, rfl, rfl, by ktr_rel, fun i0 hi0 => ?_⟩)))))))))))
    refine he_tup (ha_cons (he_cut (he_sub (he_lv lv_shorter_close_frame rfl (he_int fun _ => ho_ti (by ktr_rel) (by ktr_room) (by ktr_room) rfl rfl ?_)))))
    refine hp_none (hp_some (he_lv lv_shorter_close_many rfl (⟨_, _, _, _, rfl, by constructor, by constructor, by ktr_room, fun _ => ?_⟩)))
    refine ha_nil (And.intro (Nat.le_of_ble_eq_true rfl) fun i1 hi1 => ho_addT (by ktr_rel) (by ktr_rel) (by simp) (by simp) (Nat.le_of_ble_eq_true rfl) fun i2 hi2 => ?_)
    refine kt_ret ?_
    rw [cut_all]
    exact ⟨_, by k_updF, h _ _ (clV_app hv _ _)⟩
  · refine And.intro rfl (kt_next (hb_cons (hx_ret (he_bin (he_cut3 (he_lv lv_shorter_close_frame rfl (he_int fun _ => ⟨_, _, _, _, _, _, rfl, rfl, by ktr_rel, fun d0 hd0 => ?_⟩)))))))
    refine he_tup (ha_cons (he_cut (he_sub (he_lv lv_shorter_close_frame rfl (he_int fun _ => ho_ti (by ktr_rel) (by ktr_room) (by ktr_room) rfl rfl ?_)))))
    refine hp_none (hp_some (he_lv lv_shorter_close_many rfl (⟨_, _, _, _, rfl, by constructor, by constructor, by ktr_room, fun _ => ?_⟩)))
    refine ha_nil (And.intro (Nat.le_of_ble_eq_true rfl) fun d1 hd1 => ho_addT (by ktr_rel) (by ktr_rel) (by simp) (by simp) (Nat.le_of_ble_eq_true rfl) fun d2 hd2 => ?_)
    refine kt_ret ?_
    rw [cut_all]
    exact ⟨_, by k_updF, h _ _ (clV_app hv _ _)⟩
noncomputable def frC (c : Int) (ft : Option Int) (sp : Sp) : Int := if ft = none ∧ sp ≠ .app then 12 else c
noncomputable def frT (ft : Option Int) (sp : Sp) : Option Int := if ft = none ∧ sp ≠ .app then some 0 else ft
noncomputable def frR (ft : Option Int) (r : List UInt8) (sp : Sp) : List UInt8 := if ft = none ∧ sp ≠ .app then [] else r
inductive RowsAre (c : Int) (ft : Option Int) (r : List UInt8) (n : Led) : List Value → List Sp → Prop
  | nil : RowsAre c ft r n [] []
  | cons {a b d : Addr} {t : Tok} {k : Nat} {vs rs : List Value} {sp : Sp} {sps : List Sp} : (a, tupO [.str sp.space t, .ref b]) ∈ n → (b, lstO [.ref d] k) ∈ n → (d, tupO vs) ∈ n → clV (frC c ft sp) (frT ft sp) (frR ft r sp) vs → RowsAre c ft r n rs sps → RowsAre c ft r n (.ref a :: rs) (sp :: sps)
theorem RowsAre.mono {c : Int} {ft : Option Int} {r : List UInt8} {n n' : Led} (s : ∀ p ∈ n, p ∈ n') : ∀ {vs : List Value} {sps : List Sp}, RowsAre c ft r n vs sps → RowsAre c ft r n' vs sps
  | _, _, .nil => .nil
  | _, _, .cons a b d e f => .cons (s _ a) (s _ b) (s _ d) e (f.mono s)
theorem RowsAre.snoc {c : Int} {ft : Option Int} {r : List UInt8} {n : Led} {a b d : Addr} {t : Tok} {k : Nat} {vs : List Value} {sp : Sp} (ha : (a, tupO [.str sp.space t, .ref b]) ∈ n) (hb : (b, lstO [.ref d] k) ∈ n) (hd' : (d, tupO vs) ∈ n) (hv : clV (frC c ft sp) (frT ft sp) (frR ft r sp) vs) : ∀ {rs : List Value} {sps : List Sp}, RowsAre c ft r n rs sps → RowsAre c ft r n (rs ++ [.ref a]) (sps ++ [sp])
  | _, _, .nil => .cons ha hb hd' hv .nil
  | _, _, .cons x y z e f => .cons x y z e (f.snoc ha hb hd' hv)
inductive SpsAre : List Value → List Sp → Prop
  | nil : SpsAre [] []
  | cons {vs : List Value} {sps : List Sp} (sp : Sp) (t : Tok) : SpsAre vs sps → SpsAre (.str sp.space t :: vs) (sp :: sps)
theorem SpsAre.len : ∀ {vs : List Value} {sps : List Sp}, SpsAre vs sps → vs.length = sps.length
  | _, _, .nil => rfl
  | _, _, .cons _ _ r => by simp [r.len]
theorem SpsAre.at : ∀ {vs : List Value} {sps : List Sp}, SpsAre vs sps → ∀ {i : Nat} {v : Value}, vs[i]? = some v → ∃ sp t, sps[i]? = some sp ∧ v = .str sp.space t
  | _, _, .cons sp t r, 0, v, h => ⟨sp, t, rfl, by simpa using h.symm⟩
  | _, _, .cons sp t r, i + 1, v, h => r.at (by simpa using h)
theorem S_close_of {c : Int} {ft : Option Int} {r : List UInt8} {sp : Sp} {a : Addr} {vs : List Value} {t : Tok} (G : Gk w g) (hR : Rm A 1) (hm : (a, tupO vs) ∈ n) (hv : clV c ft r vs)
    (h : ∀ b vs' pre, (b, tupO vs') ∈ pre ++ n → clV (frC c ft sp) (frT ft sp) (frR ft r sp) vs' → V (.ref b) m (pre ++ n)) : Ho true Pg w A g L m n (call (.ref 28) [.ref a, .str sp.kind t]) V := by
  cases ft with
  | some k =>
    have hv' := hv
    obtain ⟨t0, t1, t2, t3, rfl⟩ := hv
    refine S_close_err G hR hm (h _ _ [] hm ?_)
    simpa [frC, frT, frR] using hv'
  | none =>
    have hv' := hv
    obtain ⟨t0, t1, t2, rfl⟩ := hv
    cases sp with
    | app => exact S_close_app G hR hm (h _ _ [] hm (by simpa [frC, frT, frR] using hv'))
    | ini => exact S_close_in (.inl rfl) G hR hm fun b u u' u'' u3 => h b _ [_] (.head _) ⟨_, _, _, _, rfl⟩
    | han => exact S_close_in (.inr rfl) G hR hm fun b u u' u'' u3 => h b _ [_] (.head _) ⟨_, _, _, _, rfl⟩
theorem upL_pre {a : Addr} {o : Obj} {n : Led} {f : Obj → Led} (X : UpL a o n f) : ∀ (pre : Led), UpL a o (pre ++ n) fun o' => pre ++ f o'
  | [] => X
  | _ :: pre => .tail (upL_pre X pre)
theorem fr_ok {c : Int} {ft : Option Int} {r : List UInt8} (sp : Sp) (h : clOk c ft r) : clOk (frC c ft sp) (frT ft sp) (frR ft r sp) := by
  obtain ⟨h1, h2, h3, h4⟩ := h
  unfold frC frT frR
  by_cases hc : ft = none ∧ sp ≠ .app
  · rw [if_pos hc, if_pos hc, if_pos hc]
    exact ⟨by decide, by decide, fun k e => by cases e; decide, by simp⟩
  · rw [if_neg hc, if_neg hc, if_neg hc]
    exact ⟨h1, h2, h3, h4⟩
noncomputable def PlOk (n : Led) (kvs : List (Str × Value)) (num ap : Sp → Int) (av : Sp → Value) (sp : Sp) : Prop :=
  ∃ pt t, valueAt kvs sp.space = some (.ref pt) ∧ (pt, tupO [.int (num sp) t, av sp]) ∈ n ∧ Ack (av sp) (num sp) (ap sp) ∧ 0 ≤ num sp ∧ ap sp ≤ 30000
theorem hoG_le (sp : Sp) (d s : List UInt8) (ap : Int) (h1 : d.length ≤ 20) (h2 : s.length ≤ 20) : 0 ≤ hoG sp d s ap ∧ hoG sp d s ap ≤ 85 := by
  unfold hoG
  have := restG_len sp d s ((szG ap : Nat) + 4 + 16) h1 h2
  have e : (headG sp d s (szG ap : Nat) ((szG ap : Nat) + 4 + 16)).length = (restG sp d s ((szG ap : Nat) + 4 + 16)).length + 1 := rfl
  have hs := sz_cases ap
  rw [e]
  omega
theorem upL_app {a : Addr} {o : Obj} {n : Led} : ∀ (pre : Led), UpL a o (pre ++ (a, o) :: n) fun o' => pre ++ (a, o') :: n
  | [] => .head
  | _ :: pre => .tail (upL_app pre)
theorem ho_pk {sp : Sp} {t : Tok} {value slice : Expr} (G : Gk w g) (h : ∀ t, V (.str sp.kind t) m n) (hs : ∀ x, subscripted slice false (.ref 590) (.str x t) = operate [.ref 590, .str x t] (getItem (.ref 590) (.str x t)) := by intro _; with_unfolding_all rfl) : Ho true Pg w A g L m n (subscriptTail value slice (.ref 590) (.str sp.space t)) V := by
  cases sp with
  | ini => exact ho_gdK G (by show List.lookup _ (hd.heap_1 w.params) = _; k_is) (by k_keys) (by show nsIn (hd.heap_1 w.params) _ _ = _; k_is) (h _) (hs _)
  | han => exact ho_gdK G (by show List.lookup _ (hd.heap_1 w.params) = _; k_is) (by k_keys) (by show nsIn (hd.heap_1 w.params) _ _ = _; k_is) (h _) (hs _)
  | app => exact ho_gdK G (by show List.lookup _ (hd.heap_1 w.params) = _; k_is) (by k_keys) (by show nsIn (hd.heap_1 w.params) _ _ = _; k_is) (h _) (hs _)
inductive LC1 (c : Int) (ft : Option Int) (r : List UInt8) (sps : List Sp) (ia pd sa fa : Addr) (t3 : Tok) (a0 a1 : Addr) (n : Led) (i : Nat) : FMap → Led → Prop
  | mk (tv : Obj) (pre : Led) (rs : List Value) (kx : Nat) (left : Int) (t : Tok) (x7 x8 x9 : Option Value) (h1 : RowsAre c ft r (pre ++ n) rs (sps.take i)) (h2 : rs.length = i) (h3 : 300 - 94 * (i : Int) ≤ left) (h4 : left ≤ 300) :
    LC1 c ft r sps ia pd sa fa t3 a0 a1 n i (fm ns_closing_rows [some (.ref ia), some (.ref pd), some (.ref sa), some (.ref fa), some (.int 300 t3), some (.ref a0), some (.int left t), x7, x8, x9, none, none, none, none, none]) ((a1, tv) :: (pre ++ (a0, lstO rs kx) :: n))
theorem S_closing_rows {c : Int} {ft : Option Int} {r d s : List UInt8} {sps : List Sp} {num ap : Sp → Int} {av : Sp → Value} {ia pd sa fa : Addr} {po : Obj} {kvs : List (Str × Value)} {svs fvs : List Value} {kk : Nat} {t1 t2 t3 : Tok} (G : Gk w g) (hR : Rm A 8)
    (hi : (ia, tupO [.bytes d.toArray t1, .bytes s.toArray t2]) ∈ n) (hp : (pd, po) ∈ n) (hd1 : po.IsDictOf (PySem.strKind Pg w) kvs) (hs : (sa, lstO svs kk) ∈ n) (hsp : SpsAre svs sps) (hlen : sps.length ≤ 3) (hf : (fa, tupO fvs) ∈ n) (hv : clV c ft r fvs) (hok : clOk c ft r)
    (h1 : d.length ≤ 20) (h2 : s.length ≤ 20) (hpl : ∀ sp ∈ sps, PlOk n kvs num ap av sp)
    (h : ∀ a vs k n', n.Sublist n' → (a, lstO vs k) ∈ n' → RowsAre c ft r n' vs sps → V (.ref a) m n') : Ho true Pg w A g L m n (call (.ref 618) [.ref ia, .ref pd, .ref sa, .ref fa, .int 300 t3]) V := by
  refine en_def ok_closing_rows [("ids", .ref ia), ("places", .ref pd), ("spaces", .ref sa), ("frame", .ref fa), ("size", .int 300 t3)] [some (.ref ia), some (.ref pd), some (.ref sa), some (.ref fa), some (.int 300 t3), none, none, none, none, none, none, none, none, none, none] G hR (by k_is) (by k_is) rfl rfl rfl rfl fun g L A G hR => hb_cons (hx_asgTS [PySem.Str.ofString "rows", PySem.Str.ofString "left"] ?_ rfl rfl)
  refine he_tup (ha_cons (he_list (ha_nil (And.intro (Nat.le_of_ble_eq_true rfl) fun a0 ha0 => ha_cons (he_lv lv_closing_rows_size rfl (ha_nil (And.intro (Nat.le_of_ble_eq_true rfl) fun a1 ha1 => hu_tup hR.hh (by ktr_rel) rfl ?_)))))))
  refine hi_cons (hb_name (ho_sv lv_closing_rows_left rfl (hi_cons (hb_name (ho_sv lv_closing_rows_rows rfl (hi_nil (kt_next (hb_cons (hx_for (he_lv lv_closing_rows_spaces rfl (pi_list (.tail _ (.tail _ hs)) fun I o hI ho => hl_listPT (vs := svs) (kk := kk) (LC1 c ft r sps ia pd sa fa t3 a0 a1 n) hR.hh ho ?_ ⟨_, [], [], 0, 300, _, none, none, none, .nil, rfl, by omega, by omega⟩ ?_ ?_)))))))))))
  · rintro i m' _ ⟨tv, pre, rs, kx, left, t, x7, x8, x9, _, _, _, _⟩
    exact .tail _ (List.mem_append_right _ (.tail _ hs))
  · rintro i v m' _ o T hvi ⟨tv, pre, rs, kx, left, t, x7, x8, x9, hrs, hlen2, hl1, hl2⟩ hT
    obtain ⟨sp, t', hspi, rfl⟩ := hsp.at hvi
    have hil : i < sps.length := (List.getElem?_eq_some_iff.mp hspi).1
    obtain ⟨pt, tp, hva, hpt, hack, hn0, hap⟩ := hpl sp (List.mem_of_getElem? hspi)
    have hin : ∀ p ∈ n, p ∈ (I, o) :: (a1, tv) :: (pre ++ (a0, lstO rs kx) :: n) := fun p hp => .tail _ (.tail _ (List.mem_append_right _ (.tail _ hp)))
    refine hs_name (ho_sv lv_closing_rows_space rfl (hb_cons (hx_asg (he_bin (he_lv lv_closing_rows_left rfl (he_call (he_gv G gv_closing_rows_head_octets (gl_head_octets w) (hc_def G (by tb_start) (ha_cons (he_lv lv_closing_rows_ids rfl (ha_cons (he_lv lv_closing_rows_places rfl (ha_cons (he_lv lv_closing_rows_space rfl (ha_nil (S_head_octets G (hR.le (by omega)) (hin _ hi) (hin _ hp) hd1 hva (hin _ hpt) h1 h2 hack hn0 hap fun _ => ?_))))))))))))))))
    have hho := hoG_le sp d s (ap sp) h1 h2
    refine ho_sub fun _ => ho_sv lv_closing_rows_room rfl (kt_next (hb_cons (hx_asg (he_call (he_gv G gv_closing_rows_shorter_close (gl_shorter_close w) (hc_def G (by tb_start) (ha_cons (he_call (he_gv G gv_closing_rows_close_frame_in (gl_close_frame_in w) (hc_def G (by tb_start) (ha_cons (he_lv lv_closing_rows_frame rfl (ha_cons (he_sub (he_gv G gv_closing_rows_PACKET_KINDS (gl_PACKET_KINDS w) (he_lv lv_closing_rows_space rfl (ho_pk G fun _ => ha_nil (S_close_of G (hR.le (by omega)) (hin _ hf) hv fun b1 vs1 pre1 hb1 hv1 => ha_cons (he_lv lv_closing_rows_room rfl (ha_nil ?_))))))))))))))))))))
    have hok1 := fr_ok sp hok
    refine S_shorter G (hR.le (by omega)) hb1 hv1 hok1 (by omega) (by omega) fun b2 vs2 hv2 => ho_sv lv_closing_rows_told rfl (kt_next (hb_cons (hx_if (ht_cmp (he_call (he_gv G gv_closing_rows_frame_size (gl_frame_size w) (hc_def G (by tb_start) (ha_cons (he_lv lv_closing_rows_told rfl (ha_nil (S_frame_size G (hR.le (by omega)) (.head _) hv2 hok1 fun _ => ?_)))))))))))
    have hcl : (clG (frC c ft sp) (frT ft sp) (frR ft r sp)).length ≤ 9 := by
      have e1 := clG_len (frC c ft sp) (frT ft sp) (frR ft r sp)
      have e2 := hok1.2.2.2
      have e3 : (if frT ft sp = none then 3 else 4) ≤ 4 := by split <;> omega
      omega
    refine he_lv lv_closing_rows_room rfl (ho_le (ho_tb (ho_if_t (decide_eq_true (by omega)) (hb_cons (hx_expr (he_meth (he_lv lv_closing_rows_rows rfl (hm_app (.tail _ (List.mem_append_right _ (.tail _ (.tail _ (List.mem_append_right _ (.head _)))))) (hc_b (ha_cons (he_tup (ha_cons (he_lv lv_closing_rows_space rfl (ha_cons (he_list (ha_cons (he_lv lv_closing_rows_told rfl (ha_nil (And.intro (Nat.le_of_ble_eq_true rfl) fun u0 hu0 => ha_nil (And.intro (Nat.le_of_ble_eq_true rfl) fun u1 hu1 => ha_nil (ho_appS (.tail (.tail (.tail (upL_pre (.tail (.tail (upL_app pre))) pre1)))) (by omega) (And.intro rfl (kt_next (hb_cons (hx_asg (he_bin (he_lv lv_closing_rows_room rfl (he_call (he_gv G gv_closing_rows_frame_size (gl_frame_size w) (hc_def G (by tb_start) (ha_cons (he_lv lv_closing_rows_told rfl (ha_nil (S_frame_size G (hR.le (by omega)) (.tail _ (.tail _ (.head _))) hv2 hok1 fun _ => ho_sub fun _ => ho_sv lv_closing_rows_left rfl (kt_next (hb_nil ?_))))))))))))))))))))))))))))))))))))
    refine kt_next (hb_nil (hT _ _ _ (turnP_next _ ((a1, tv) :: (((u1, tupO [.str sp.space t', .ref u0]) :: (u0, lstO [.ref b2] 0) :: (b2, tupO vs2) :: pre1 ++ pre) ++ (a0, lstO (rs ++ [.ref u1]) (kx + 1)) :: n)) (List.Sublist.refl _) ?_ ⟨tv, _, _, _, _, _, _, _, _, ?_, by simp [hlen2], ?_, ?_⟩)))
    · have e : ∀ (X Y : Led), (X ++ (I, o) :: (a1, tv) :: Y).Perm ((I, o) :: (a1, tv) :: (X ++ Y)) := fun X Y => (List.perm_middle).trans (List.Perm.cons _ List.perm_middle)
      have := e ((u1, tupO [.str sp.space t', .ref u0]) :: (u0, lstO [.ref b2] 0) :: (b2, tupO vs2) :: pre1) (pre ++ (a0, lstO (rs ++ [.ref u1]) (kx + 1)) :: n)
      simpa [List.append_assoc] using this
    · have et : sps.take (i + 1) = sps.take i ++ [sp] := by rw [List.take_add_one, hspi]; rfl
      rw [et]
      refine RowsAre.snoc (.head _) (.tail _ (.head _)) (.tail _ (.tail _ (.head _))) hv2 (hrs.mono fun p hp => ?_)
      rcases List.mem_append.mp hp with hp | hp
      · exact .tail _ (.tail _ (.tail _ (List.mem_append_left _ (List.mem_append_right _ hp))))
      · exact .tail _ (.tail _ (.tail _ (List.mem_append_right _ hp)))
    · omega
    · omega
  · rintro _ _ ⟨tv, pre, rs, kx, left, t, x7, x8, x9, hrs, hlen2, hl1, hl2⟩
    refine kt_next (hb_cons (hx_ret (he_lv lv_closing_rows_rows rfl (kt_ret ?_))))
    rw [hsp.len, List.take_length] at hrs
    refine ⟨pre ++ (a0, lstO rs kx) :: n, List.sublist_cons_self _ _, h a0 rs kx _ ((List.sublist_cons_self _ _).trans (List.sublist_append_right _ _)) (List.mem_append_right _ (.head _)) (hrs.mono fun p hp => ?_)⟩
    rcases List.mem_append.mp hp with hp | hp
    · exact List.mem_append_left _ hp
    · exact List.mem_append_right _ (.tail _ hp)
noncomputable abbrev rd (w : World) (x dx : Addr) (ta tb t1 t2 : Tok) (data : List UInt8) (pl : Int) (n : Led) : Led := (x, instObj 327 dx) :: (dx, dictOf (dn w.params xs_Reader [ta, tb] [.bytes data.toArray t1, .int pl t2]) 2) :: n
theorem S_reader {data : List UInt8} {t : Tok} (G : Gk w g) (hR : Rm A 4) (h : ∀ x dx ta tb t2, V (.ref x) m (rd w x dx ta tb t t2 data 0 n)) : Ho true Pg w A g L m n (call (.ref 327) [.bytes data.toArray t]) V := by
  refine en_new ok_Reader_init (fun x => [("self", .ref x), ("data", .bytes data.toArray t)]) (fun x => [some (.ref x), some (.bytes data.toArray t)]) G hR (by k_is) (by k_is) (by k_is) (by k_is) (by k_is) (fun _ => rfl) (fun _ => rfl) (fun _ => rfl) rfl fun x dx g L A G hR d1 d2 d3 => hb_cons (hx_asgA (he_lv lv_Reader_init_data rfl (he_lv lv_Reader_init_self rfl (ho_setN G (at_Reader_data w) (by ktr_rel) (by ktr_unf) dq_Reader_data rfl (by decide) fun _ => ?_))))
  refine kt_next (hb_cons (hx_asgA (he_int fun _ => he_lv lv_Reader_init_self rfl (ho_setN G (at_Reader_at w) (by ktr_rel) (by ktr_unf) dq_Reader_at rfl (by decide) fun _ => ?_))))
  refine kt_next (hb_nil (And.intro rfl ?_))
  exact ⟨_, List.Sublist.refl _, h _ _ _ _ _⟩
theorem S_left {x dx : Addr} {ta tb t1 t2 : Tok} {data : List UInt8} {pl : Int} (G : Gk w g) (hR : Rm A 1) (hz : data.length ≤ 100000) (h : ∀ t, V (.int ((data.length : Int) - pl) t) m (rd w x dx ta tb t1 t2 data pl n)) :
    Ho true Pg w A g L m (rd w x dx ta tb t1 t2 data pl n) (call (.ref 296) [.ref x]) V := by
  refine en_def ok_Reader_left [("self", .ref x)] [some (.ref x), none] G hR (by k_is) (by k_is) rfl rfl rfl rfl fun g L A G hR => hb_cons (hx_ret (he_bin (he_call (he_bv G gv_Reader_left_len (nb_len w) bb_len (by decide) (hc_b (ha_cons (he_attr (he_lv lv_Reader_left_self rfl (ho_get G (at_Reader_data w) (by ktr_rel) (by ktr_rel) dk_Reader_data rfl rfl rfl ?_)))))))))
  refine ha_nil (ho_lenB (by ktr_room) fun _ => ?_)
  refine he_attr (he_lv lv_Reader_left_self rfl (ho_get G (at_Reader_at w) (by ktr_rel) (by ktr_rel) dk_Reader_at rfl rfl rfl ?_))
  refine ho_sub fun _ => kt_ret ?_
  exact ⟨_, List.Sublist.refl _, h _⟩
theorem S_take {x dx : Addr} {ta tb t1 t2 t3 : Tok} {data : List UInt8} {pl k : Int} (G : Gk w g) (hR : Rm A 2) (hz : data.length ≤ 100000) (h0 : 0 ≤ pl) (h1 : 0 ≤ k) (h2 : pl + k ≤ (data.length : Int)) (h : ∀ t t2, V (.bytes (cut data (some pl) (some (pl + k))).toArray t) m (rd w x dx ta tb t1 t2 data (pl + k) n)) :
    Ho true Pg w A g L m (rd w x dx ta tb t1 t2 data pl n) (call (.ref 303) [.ref x, .int k t3]) V := by
  refine en_def ok_Reader_take [("self", .ref x), ("many", .int k t3)] [some (.ref x), some (.int k t3), none] G hR (by k_is) (by k_is) rfl rfl rfl rfl fun g L A G hR => hb_cons (hx_if (ht_cmp (he_lv lv_Reader_take_many rfl (he_meth (he_lv lv_Reader_take_self rfl (hm_inst G (mt_Reader_left w).1 (mt_Reader_left w).2.1 (mt_Reader_left w).2.2 (by ktr_rel) (by ktr_rel) dm_Reader_left ?_))))))
  refine hc_def0 G (by tb_start) (S_left G (hR.le (by omega)) hz fun _ => ho_gt (ho_tb (ho_if_f (decide_eq_false (by omega)) (hb_nil (kt_next (hb_cons (hx_augA (he_lv lv_Reader_take_self rfl (ho_get G (at_Reader_at w) (by ktr_rel) (by ktr_rel) dk_Reader_at rfl rfl rfl ?_)))))))))
  refine he_lv lv_Reader_take_many rfl (ho_iadd fun _ => ho_set G (at_Reader_at w) (by ktr_rel) (by ktr_unf) dk_Reader_at rfl rfl (by decide) ?_)
  refine kt_next (hb_cons (hx_ret (he_cut (he_attr (he_lv lv_Reader_take_self rfl (ho_get G (at_Reader_data w) (by ktr_rel) (by ktr_rel) dk_Reader_data rfl rfl rfl ?_))))))
  refine hp_some (he_bin (he_attr (he_lv lv_Reader_take_self rfl (ho_get G (at_Reader_at w) (by ktr_rel) (by ktr_rel) dk_Reader_at rfl rfl rfl ?_))))
  refine he_lv lv_Reader_take_many rfl (ho_sub fun _ => hp_some (he_attr (he_lv lv_Reader_take_self rfl (ho_get G (at_Reader_at w) (by ktr_rel) (by ktr_rel) dk_Reader_at rfl rfl rfl ?_))))
  refine ⟨_, _, _, _, rfl, by constructor, by constructor, by ktr_room, fun _ => ?_⟩
  refine kt_ret ?_
  rw [show pl + k - k = pl by omega]
  exact ⟨_, List.Sublist.refl _, h _ _⟩
theorem S_whole {x dx : Addr} {ta tb t1 t2 t3 : Tok} {data : List UInt8} {pl k : Int} (G : Gk w g) (hR : Rm A 2) (hz : data.length ≤ 100000) (h0 : 0 ≤ pl) (h1 : 0 ≤ k) (h2 : pl + k ≤ (data.length : Int)) (h : ∀ t t2, V (.int (gw (cut data (some pl) (some (pl + k)))) t) m (rd w x dx ta tb t1 t2 data (pl + k) n)) :
    Ho true Pg w A g L m (rd w x dx ta tb t1 t2 data pl n) (call (.ref 317) [.ref x, .int k t3]) V := by
  refine en_def ok_Reader_whole [("self", .ref x), ("size", .int k t3)] [some (.ref x), some (.int k t3), none, none] G hR (by k_is) (by k_is) rfl rfl rfl rfl fun g L A G hR => hb_cons (hx_asg (he_call (he_gv G gv_Reader_whole_get_whole (gl_get_whole w) (hc_def G (by tb_start) (ha_cons (he_attr (he_lv lv_Reader_whole_self rfl (ho_get G (at_Reader_data w) (by ktr_rel) (by ktr_rel) dk_Reader_data rfl rfl rfl ?_))))))))
  refine ha_cons (he_attr (he_lv lv_Reader_whole_self rfl (ho_get G (at_Reader_at w) (by ktr_rel) (by ktr_rel) dk_Reader_at rfl rfl rfl ?_)))
  refine ha_cons (he_lv lv_Reader_whole_size rfl (ha_nil (S_get_whole G (hR.le (by omega)) h0 h1 h2 hz fun _ => ho_sv lv_Reader_whole_found rfl (kt_next (hb_cons (hx_augA (he_lv lv_Reader_whole_self rfl (ho_get G (at_Reader_at w) (by ktr_rel) (by ktr_rel) dk_Reader_at rfl rfl rfl ?_))))))))
  refine he_lv lv_Reader_whole_size rfl (ho_iadd fun _ => ho_set G (at_Reader_at w) (by ktr_rel) (by ktr_unf) dk_Reader_at rfl rfl (by decide) ?_)
  refine kt_next (hb_cons (hx_ret (he_lv lv_Reader_whole_found rfl (kt_ret ?_))))
  exact ⟨_, List.Sublist.refl _, h _ _⟩
theorem cut_eq {l : List UInt8} {i j : Int} (h0 : 0 ≤ i) (h1 : i ≤ j) (h2 : j ≤ (l.length : Int)) : cut l (some i) (some j) = (l.drop i.toNat).take (j.toNat - i.toNat) := by
  unfold cut
  simp only [Option.elim_some]
  rw [clip_in h0 (Int.le_trans h1 h2), clip_in (Int.le_trans h0 h1) h2]
theorem cut_mid {a b c : List UInt8} {i j : Int} (h0 : i = (a.length : Int)) (h1 : j = (a.length : Int) + (b.length : Int)) : cut (a ++ (b ++ c)) (some i) (some j) = b := by
  rw [cut_eq (by omega) (by omega) (by simp; omega)]
  have e1 : i.toNat = a.length := by omega
  have e2 : j.toNat - i.toNat = b.length := by omega
  rw [e2, e1, List.drop_left, List.take_left]
theorem getD_mid {a c : List UInt8} {x : UInt8} {i : Nat} (h : i = a.length) : (a ++ x :: c).getD i 0 = x := by
  subst h
  simp [List.getD]
theorem gw_one {x : UInt8} : gw [x] = (x.toNat : Int) := by simp [gw]
theorem and63 {x : Int} (h0 : 0 ≤ x) (h1 : x < 64) : Builtin.bitAnd x 63 = x := by
  rw [PyProof.Rows.bitAnd_pp h0 (by decide)]
  have : x.toNat &&& 63 = x.toNat % 64 := Nat.and_two_pow_sub_one_eq_mod x.toNat 6
  rw [show (63 : Int).toNat = 63 from rfl, this]
  omega
theorem S_get_varint {data : List UInt8} {pl : Int} {t1 t2 : Tok} {c : UInt8} (G : Gk w g) (hR : Rm A 2) (hz : data.length ≤ 100000) (h0 : 0 ≤ pl) (h2 : pl < (data.length : Int)) (hc : data.getD pl.toNat 0 = c) (h3 : c.toNat < 64) (hcut : cut data (some pl) (some (pl + 1)) = [c])
    (h : ∀ a t t', V (.ref a) m ((a, tupO [.int (c.toNat : Int) t, .int (pl + 1) t']) :: n)) : Ho true Pg w A g L m n (call (.ref 201) [.bytes data.toArray t1, .int pl t2]) V := by
  refine en_def ok_get_varint [("data", .bytes data.toArray t1), ("at", .int pl t2)] [some (.bytes data.toArray t1), some (.int pl t2), none, none, none, none, none] G hR (by k_is) (by k_is) rfl rfl rfl rfl fun g L A G hR => hb_cons (hx_if (ht_cmp (he_lv lv_get_varint_at rfl (he_call (he_bv G gv_get_varint_len (nb_len w) bb_len (by decide) (hc_b (ha_cons (he_lv lv_get_varint_data rfl (ha_nil (ho_lenB (by ktr_room) fun _ => ?_))))))))))
  refine ho_ge (ho_tb (ho_if_f (decide_eq_false (by omega)) (hb_nil (kt_next (hb_cons (hx_asg (he_sub (he_gv G gv_get_varint_VARINT_SIZES (gl_VARINT_SIZES w) (he_bin (he_sub (he_lv lv_get_varint_data rfl (he_lv lv_get_varint_at rfl (ho_bi (by ktr_room) (by ktr_room) (by ktr_room) fun _ => ?_)))))))))))))
  refine he_int fun _ => ho_shr hR.hh (by first | decide | omega) fun _ => ?_
  have e : ((data.getD pl.toNat 0).toNat : Int) / 2 ^ Int.toNat 6 = 0 := by rw [hc]; show (c.toNat : Int) / 64 = 0; omega
  rw [e]
  refine ho_tiK G (by show List.lookup _ (hd.heap_1 w.params) = _; k_is) (by decide) (by decide) rfl rfl ?_
  refine ho_sv lv_get_varint_size rfl (kt_next (hb_cons (hx_ret (he_tup (ha_cons (he_bin (he_call (he_gv G gv_get_varint_get_whole (gl_get_whole w) (hc_def G (by tb_start) (ha_cons (he_lv lv_get_varint_data rfl (ha_cons (he_lv lv_get_varint_at rfl (ha_cons (he_lv lv_get_varint_size rfl (ha_nil (S_get_whole G (hR.le (by omega)) h0 (by decide) (by omega) hz fun _ => ?_)))))))))))))))))
  rw [hcut, gw_one]
  refine he_bin (he_bin (he_int fun _ => he_bin (he_bin (he_int fun _ => he_lv lv_get_varint_size rfl (ho_mulE (c := 8) (by tb_start) (by decide +kernel) fun _ => he_int fun _ => ho_subE (c := 6) (by decide +kernel) fun _ => ho_shlE (c := 64) (by decide) (by decide) (by decide) (by decide +kernel) fun _ => he_int fun _ => ho_subE (c := 63) (by decide +kernel) fun _ => ho_andI fun _ => ha_cons (he_bin (he_lv lv_get_varint_at rfl (he_lv lv_get_varint_size rfl (ho_add fun _ => ha_nil (And.intro (Nat.le_of_ble_eq_true rfl) fun c0 hc0 => kt_ret ?_))))))))))
  rw [show Builtin.bitAnd (c.toNat : Int) 63 = c.toNat from and63 (by omega) (by omega)]
  exact ⟨_, List.Sublist.refl _, h _ _ _⟩
theorem S_varint_r {x dx : Addr} {ta tb t1 t2 : Tok} {data : List UInt8} {pl : Int} {c : UInt8} (G : Gk w g) (hR : Rm A 3) (hz : data.length ≤ 100000) (h0 : 0 ≤ pl) (h2 : pl < (data.length : Int)) (hc : data.getD pl.toNat 0 = c) (h3 : c.toNat < 64) (hcut : cut data (some pl) (some (pl + 1)) = [c])
    (h : ∀ t t2, V (.int (c.toNat : Int) t) m (rd w x dx ta tb t1 t2 data (pl + 1) n)) : Ho true Pg w A g L m (rd w x dx ta tb t1 t2 data pl n) (call (.ref 324) [.ref x]) V := by
  refine en_def ok_Reader_varint [("self", .ref x)] [some (.ref x), none, none] G hR (by k_is) (by k_is) rfl rfl rfl rfl fun g L A G hR => hb_cons (hx_asgT (he_call (he_gv G gv_Reader_varint_get_varint (gl_get_varint w) (hc_def G (by tb_start) (ha_cons (he_attr (he_lv lv_Reader_varint_self rfl (ho_get G (at_Reader_data w) (by ktr_rel) (by ktr_rel) dk_Reader_data rfl rfl rfl ?_))))))))
  refine ha_cons (he_attr (he_lv lv_Reader_varint_self rfl (ho_get G (at_Reader_at w) (by ktr_rel) (by ktr_rel) dk_Reader_at rfl rfl rfl ?_)))
  refine ha_nil (S_get_varint G (hR.le (by omega)) hz h0 h2 hc h3 hcut fun a t t' => ha_tup hR.hh (by ktr_rel) rfl rfl ?_)
  refine hi_cons (hs_name (ho_sv lv_Reader_varint_found rfl (hi_cons (hs_attr (he_lv lv_Reader_varint_self rfl (ho_set G (at_Reader_at w) (by ktr_rel) (by ktr_unf) dk_Reader_at rfl rfl (by decide) ?_))))))
  refine hi_nil (kt_next (hb_cons (hx_ret (he_lv lv_Reader_varint_found rfl (kt_ret ?_)))))
  exact ⟨rd w x dx ta tb t1 _ data (pl + 1) n, by k_updF, h _ _⟩
theorem cut_of {l a b c : List UInt8} {i j : Int} (e : l = a ++ (b ++ c)) (h0 : i = (a.length : Int)) (h1 : j = (a.length : Int) + (b.length : Int)) : cut l (some i) (some j) = b := by
  subst e; exact cut_mid h0 h1
structure LongAt (data : List UInt8) (st : Int) (f : UInt8) (d s : List UInt8) : Prop where
  c1 : cut data (some st) (some (st + 1)) = [f]
  c2 : cut data (some (st + 1)) (some (st + 1 + 4)) = be 4 1
  c3 : cut data (some (st + 1 + 4)) (some (st + 1 + 4 + 1)) = [(d.length : Int).toNat.toUInt8]
  c4 : cut data (some (st + 1 + 4 + 1)) (some (st + 1 + 4 + 1 + (d.length : Int))) = d
  c5 : cut data (some (st + 1 + 4 + 1 + (d.length : Int))) (some (st + 1 + 4 + 1 + (d.length : Int) + 1)) = [(s.length : Int).toNat.toUInt8]
  c6 : cut data (some (st + 1 + 4 + 1 + (d.length : Int) + 1)) (some (st + 1 + 4 + 1 + (d.length : Int) + 1 + (s.length : Int))) = s
  le : st + 7 + (d.length : Int) + (s.length : Int) ≤ (data.length : Int)
  ge : 0 ≤ st
theorem longAt_of {data pre post d s : List UInt8} {f : UInt8} {st : Int} (e : data = pre ++ f :: (be 4 1 ++ idsG d s ++ post)) (hst : st = (pre.length : Int)) : LongAt data st f d s where
  c1 := cut_of (a := pre) (c := be 4 1 ++ idsG d s ++ post) (by rw [e]; rfl) hst (by rw [hst]; rfl)
  c2 := cut_of (a := pre ++ [f]) (c := idsG d s ++ post) (by rw [e]; simp) (by simp; omega) (by simp [be_len]; omega)
  c3 := cut_of (a := pre ++ [f] ++ be 4 1) (c := d ++ ([(s.length : Int).toNat.toUInt8] ++ (s ++ post))) (by rw [e]; simp [idsG]) (by simp [be_len]; omega) (by simp [be_len]; omega)
  c4 := cut_of (a := pre ++ [f] ++ be 4 1 ++ [(d.length : Int).toNat.toUInt8]) (c := [(s.length : Int).toNat.toUInt8] ++ (s ++ post)) (by rw [e]; simp [idsG]) (by simp [be_len]; omega) (by simp [be_len]; omega)
  c5 := cut_of (a := pre ++ [f] ++ be 4 1 ++ [(d.length : Int).toNat.toUInt8] ++ d) (c := s ++ post) (by rw [e]; simp [idsG]) (by simp [be_len]; omega) (by simp [be_len]; omega)
  c6 := cut_of (a := pre ++ [f] ++ be 4 1 ++ [(d.length : Int).toNat.toUInt8] ++ d ++ [(s.length : Int).toNat.toUInt8]) (c := post) (by rw [e]; simp [idsG]) (by simp [be_len]; omega) (by simp [be_len]; omega)
  le := by rw [e]; simp [be_len, idsG]; omega
  ge := by omega
theorem len_octet {l : List UInt8} (h : l.length < 256) : (((l.length : Int).toNat.toUInt8).toNat : Int) = (l.length : Int) := by
  have : (l.length : Int).toNat = l.length := Int.toNat_natCast _
  rw [this]
  show (((UInt8.ofNat l.length).toNat : Nat) : Int) = _
  rw [UInt8.toNat_ofNat', Nat.mod_eq_of_lt (by simpa using h)]
theorem S_read_inv {data d s : List UInt8} {f : UInt8} {st : Int} {t1 t2 : Tok} (G : Gk w g) (hR : Rm A 5) (hz : data.length ≤ 100000) (X : LongAt data st f d s) (h1 : d.length ≤ 20) (h2 : s.length ≤ 20)
    (h : ∀ a t t' t1 t2 t3, V (.ref a) m ((a, tupO [.int (f.toNat : Int) t, .int 1 t', .bytes d.toArray t1, .bytes s.toArray t2, .int (st + 1 + 4 + 1 + (d.length : Int) + 1 + (s.length : Int)) t3]) :: n)) : Ho true Pg w A g L m n (call (.ref 381) [.bytes data.toArray t1, .int st t2]) V := by
  have hle := X.le
  have hge := X.ge
  refine en_def ok_read_invariants [("data", .bytes data.toArray t1), ("start", .int st t2)] [some (.bytes data.toArray t1), some (.int st t2), none, none, none, none, none, none] G hR (by k_is) (by k_is) rfl rfl rfl rfl fun g L A G hR => hb_cons (hx_asg (he_call (he_gv G gv_read_invariants_Reader (gl_Reader w) (hc_def G (by tb_start) (ha_cons (he_lv lv_read_invariants_data rfl (ha_nil (S_reader G (hR.le (by omega)) fun x dx ta tb t2 => ho_sv lv_read_invariants_reader rfl (kt_next (hb_cons (hx_asgA (he_lv lv_read_invariants_start rfl (he_lv lv_read_invariants_reader rfl (ho_set G (at_Reader_at w) (by ktr_rel) (by ktr_unf) dk_Reader_at rfl rfl (by decide) ?_))))))))))))))
  refine kt_next (hb_cons (hx_asgTS [PySem.Str.ofString "first", PySem.Str.ofString "version"] ?_ rfl rfl))
  refine he_tup (ha_cons (he_meth (he_lv lv_read_invariants_reader rfl (hm_inst G (mt_Reader_whole w).1 (mt_Reader_whole w).2.1 (mt_Reader_whole w).2.2 (by ktr_rel) (by ktr_rel) dm_Reader_whole ?_))))
  refine hc_def G (by tb_start) (ha_cons (he_int fun _ => ha_nil (S_whole G (hR.le (by omega)) hz hge (by decide) (by omega) fun _ _ => ?_)))
  rw [X.c1, gw_one]
  refine ha_cons (he_meth (he_lv lv_read_invariants_reader rfl (hm_inst G (mt_Reader_whole w).1 (mt_Reader_whole w).2.1 (mt_Reader_whole w).2.2 (by ktr_rel) (by ktr_rel) dm_Reader_whole ?_)))
  refine hc_def G (by tb_start) (ha_cons (he_int fun _ => ha_nil (S_whole G (hR.le (by omega)) hz (by omega) (by decide) (by omega) fun _ _ => ?_)))
  rw [X.c2, show gw (be 4 1) = 1 from by decide +kernel]
  refine ha_nil (And.intro (Nat.le_of_ble_eq_true rfl) fun e0 he0 => hu_tup hR.hh (by ktr_rel) rfl ?_)
  refine hi_cons (hb_name (ho_sv lv_read_invariants_version rfl (hi_cons (hb_name (ho_sv lv_read_invariants_first rfl (hi_nil (kt_next (hb_cons (hx_asg (he_meth (he_lv lv_read_invariants_reader rfl (hm_inst G (mt_Reader_take w).1 (mt_Reader_take w).2.1 (mt_Reader_take w).2.2 (by ktr_rel) (by ktr_rel) dm_Reader_take ?_))))))))))))
  refine hc_def G (by tb_start) (ha_cons (he_meth (he_lv lv_read_invariants_reader rfl (hm_inst G (mt_Reader_whole w).1 (mt_Reader_whole w).2.1 (mt_Reader_whole w).2.2 (by ktr_rel) (by ktr_rel) dm_Reader_whole ?_))))
  refine hc_def G (by tb_start) (ha_cons (he_int fun _ => ha_nil (ho_drop _ (List.sublist_cons_self _ _) (S_whole G (hR.le (by omega)) hz (by omega) (by decide) (by omega) fun _ _ => ?_))))
  rw [X.c3, gw_one, len_octet (by omega)]
  refine ha_nil (S_take G (hR.le (by omega)) hz (by omega) (by omega) (by omega) fun _ _ => ?_)
  rw [X.c4]
  refine ho_sv lv_read_invariants_dcid rfl (kt_next (hb_cons (hx_asg (he_meth (he_lv lv_read_invariants_reader rfl (hm_inst G (mt_Reader_take w).1 (mt_Reader_take w).2.1 (mt_Reader_take w).2.2 (by ktr_rel) (by ktr_rel) dm_Reader_take ?_))))))
  refine hc_def G (by tb_start) (ha_cons (he_meth (he_lv lv_read_invariants_reader rfl (hm_inst G (mt_Reader_whole w).1 (mt_Reader_whole w).2.1 (mt_Reader_whole w).2.2 (by ktr_rel) (by ktr_rel) dm_Reader_whole ?_))))
  refine hc_def G (by tb_start) (ha_cons (he_int fun _ => ha_nil (S_whole G (hR.le (by omega)) hz (by omega) (by decide) (by omega) fun _ _ => ?_)))
  rw [X.c5, gw_one, len_octet (by omega)]
  refine ha_nil (S_take G (hR.le (by omega)) hz (by omega) (by omega) (by omega) fun _ _ => ?_)
  rw [X.c6]
  refine ho_sv lv_read_invariants_scid rfl (kt_next (hb_cons (hx_ret (he_tup (ha_cons (he_lv lv_read_invariants_first rfl (ha_cons (he_lv lv_read_invariants_version rfl (ha_cons (he_lv lv_read_invariants_dcid rfl (ha_cons (he_lv lv_read_invariants_scid rfl (ha_cons (he_attr (he_lv lv_read_invariants_reader rfl (ho_get G (at_Reader_at w) (by ktr_rel) (by ktr_rel) dk_Reader_at rfl rfl rfl ?_))))))))))))))))
  refine ha_nil (And.intro (Nat.le_of_ble_eq_true rfl) fun u0 hu0 => kt_ret ?_)
  exact ⟨(u0, _) :: n, by k_updF, h _ _ _ _ _ _⟩
structure RT where
  mk ::
  (a b c d e f g h i j k : Tok)
noncomputable abbrev RT.l (r : RT) : List Tok := [r.a, r.b, r.c, r.d, r.e, r.f, r.g, r.h, r.i, r.j, r.k]
noncomputable abbrev rawN (w : World) (x dx : Addr) (r : RT) (vs : List Value) (n : Led) : Led := (x, instObj 349 dx) :: (dx, dictOf (dn w.params xs_RawPacket r.l vs) 11) :: n
theorem S_raw_new {kd : Str} {f st : Int} {d : List UInt8} {t1 t2 t3 t4 : Tok} (G : Gk w g) (hR : Rm A 4)
    (h : ∀ x dx v r s1 s2 s3 s4, V (.ref x) m ((v, lstO [] 0) :: rawN w x dx r [.str kd t1, .int f t2, .int 0 s1, .bytes d.toArray t3, .bytes ([] : List UInt8).toArray s2, .bytes ([] : List UInt8).toArray s3, .bytes ([] : List UInt8).toArray s4, .ref v, .int st t4, .int st t4, .int st t4] n)) :
    Ho true Pg w A g L m n (call (.ref 349) [.str kd t1, .int f t2, .bytes d.toArray t3, .int st t4]) V := by
  refine en_new ok_RawPacket_init (fun x => [("self", .ref x), ("kind", .str kd t1), ("first", .int f t2), ("dcid", .bytes d.toArray t3), ("start", .int st t4)]) (fun x => [some (.ref x), some (.str kd t1), some (.int f t2), some (.bytes d.toArray t3), some (.int st t4), none]) G hR (by k_is) (by k_is) (by k_is) (by k_is) (by k_is) (fun _ => rfl) (fun _ => rfl) (fun _ => rfl) rfl fun x dx g L A G hR d1 d2 d3 => hb_cons (hx_asgA (he_lv lv_RawPacket_init_kind rfl (he_lv lv_RawPacket_init_self rfl (ho_setN G (at_RawPacket_kind w) (by ktr_rel) (by ktr_unf) dq_RawPacket_kind rfl (by decide) fun _ => ?_))))
  refine kt_next (hb_cons (hx_asgA (he_lv lv_RawPacket_init_first rfl (he_lv lv_RawPacket_init_self rfl (ho_setN G (at_RawPacket_first w) (by ktr_rel) (by ktr_unf) dq_RawPacket_first rfl (by decide) fun _ => ?_)))))
  refine kt_next (hb_cons (hx_asgA (he_gv G gv_RawPacket_init_VERSION_NONE (gl_VERSION_NONE w) (he_lv lv_RawPacket_init_self rfl (ho_setN G (at_RawPacket_version w) (by ktr_rel) (by ktr_unf) dq_RawPacket_version rfl (by decide) fun _ => ?_)))))
  refine kt_next (hb_cons (hx_asgA (he_lv lv_RawPacket_init_dcid rfl (he_lv lv_RawPacket_init_self rfl (ho_setN G (at_RawPacket_dcid w) (by ktr_rel) (by ktr_unf) dq_RawPacket_dcid rfl (by decide) fun _ => ?_)))))
  refine kt_next (hb_cons (hx_asgA (he_bytes fun _ => he_lv lv_RawPacket_init_self rfl (ho_setN G (at_RawPacket_scid w) (by ktr_rel) (by ktr_unf) dq_RawPacket_scid rfl (by decide) fun _ => ?_))))
  refine kt_next (hb_cons (hx_asgA (he_bytes fun _ => he_lv lv_RawPacket_init_self rfl (ho_setN G (at_RawPacket_token w) (by ktr_rel) (by ktr_unf) dq_RawPacket_token rfl (by decide) fun _ => ?_))))
  refine kt_next (hb_cons (hx_asgA (he_bytes fun _ => he_lv lv_RawPacket_init_self rfl (ho_setN G (at_RawPacket_tag w) (by ktr_rel) (by ktr_unf) dq_RawPacket_tag rfl (by decide) fun _ => ?_))))
  refine kt_next (hb_cons (hx_asgA (he_list (ha_nil (And.intro (Nat.le_of_ble_eq_true rfl) fun a0 ha0 => he_lv lv_RawPacket_init_self rfl (ho_setN G (at_RawPacket_versions w) (by ktr_rel) (by ktr_unf) dq_RawPacket_versions rfl (by decide) fun _ => ?_))))))
  refine kt_next (hb_cons (hx_asgA (he_lv lv_RawPacket_init_start rfl (he_lv lv_RawPacket_init_self rfl (ho_setN G (at_RawPacket_start w) (by ktr_rel) (by ktr_unf) dq_RawPacket_start rfl (by decide) fun _ => ?_)))))
  refine kt_next (hb_cons (hx_asgA (he_lv lv_RawPacket_init_start rfl (he_lv lv_RawPacket_init_self rfl (ho_setN G (at_RawPacket_number_at w) (by ktr_rel) (by ktr_unf) dq_RawPacket_number_at rfl (by decide) fun _ => ?_)))))
  refine kt_next (hb_cons (hx_asgA (he_lv lv_RawPacket_init_start rfl (he_lv lv_RawPacket_init_self rfl (ho_setN G (at_RawPacket_end w) (by ktr_rel) (by ktr_unf) dq_RawPacket_end rfl (by decide) fun _ => ?_)))))
  refine kt_next (hb_nil (And.intro rfl ?_))
  exact ⟨_, List.Sublist.refl _, h _ _ _ ⟨_, _, _, _, _, _, _, _, _, _, _⟩ _ _ _ _⟩
structure OneAt (data : List UInt8) (i : Int) (c : UInt8) : Prop where
  cut : cut data (some i) (some (i + 1)) = [c]
  get : data.getD i.toNat 0 = c
  lt : i < (data.length : Int)
  ge : 0 ≤ i
theorem S_numbered_h {x dx : Addr} {r : RT} {v2 v4 v5 v6 v7 v8 v9 v10 v11 : Value} {v3 : Value} {sk t1 t2 : Tok} {data : List UInt8} {pl : Int} {z : UInt8} (G : Gk w g) (hR : Rm A 5) (hz : data.length ≤ 100000) (X : OneAt data pl z) (h3 : z.toNat < 64) (hle : pl + 1 + (z.toNat : Int) ≤ (data.length : Int))
    (h : ∀ s1 s2, V (.ref x) m (rawN w x dx r [.str (Str.ofString "handshake") sk, v2, v3, v4, v5, v6, v7, v8, v9, .int (pl + 1) s1, .int (pl + 1 + (z.toNat : Int)) s2] n)) :
    Ho true Pg w A g L m (rawN w x dx r [.str (Str.ofString "handshake") sk, v2, v3, v4, v5, v6, v7, v8, v9, v10, v11] n) (call (.ref 409) [.bytes data.toArray t1, .int pl t2, .ref x]) V := by
  have hge := X.ge
  have hlt := X.lt
  refine en_def ok_read_numbered [("data", .bytes data.toArray t1), ("at", .int pl t2), ("raw", .ref x)] [some (.bytes data.toArray t1), some (.int pl t2), some (.ref x), none, none, none, none, none] G hR (by k_is) (by k_is) rfl rfl rfl rfl fun g L A G hR => hb_cons (hx_asg (he_call (he_gv G gv_read_numbered_Reader (gl_Reader w) (hc_def G (by tb_start) (ha_cons (he_lv lv_read_numbered_data rfl (ha_nil (S_reader G (hR.le (by omega)) fun rx rdx ta tb t2 => ho_sv lv_read_numbered_reader rfl (kt_next (hb_cons (hx_asgA (he_lv lv_read_numbered_at rfl (he_lv lv_read_numbered_reader rfl (ho_set G (at_Reader_at w) (by ktr_rel) (by ktr_unf) dk_Reader_at rfl rfl (by decide) ?_))))))))))))))
  refine kt_next (hb_cons (hx_try (hb_cons (hx_if (ht_cmp (he_attr (he_lv lv_read_numbered_raw rfl (ho_get G (at_RawPacket_kind w) (by ktr_rel) (by ktr_rel) dk_RawPacket_kind rfl rfl rfl ?_))))))))
  refine he_str fun _ => ho_eqS (ho_tb (ho_if_f (by tb_rel) ?_))
  refine hb_nil (kt_next (hb_cons (hx_asg (he_meth (he_lv lv_read_numbered_reader rfl (hm_inst G (mt_Reader_varint w).1 (mt_Reader_varint w).2.1 (mt_Reader_varint w).2.2 (by ktr_rel) (by ktr_rel) dm_Reader_varint ?_))))))
  refine hc_def0 G (by tb_start) (S_varint_r G (hR.le (by omega)) hz hge hlt X.get h3 X.cut fun _ _ => ho_sv lv_read_numbered_size rfl (kt_next (hb_nil (kt_next (hb_nil (kt_next (hb_cons (hx_if (ht_cmp (he_lv lv_read_numbered_size rfl (he_meth (he_lv lv_read_numbered_reader rfl (hm_inst G (mt_Reader_left w).1 (mt_Reader_left w).2.1 (mt_Reader_left w).2.2 (by ktr_rel) (by ktr_rel) dm_Reader_left ?_)))))))))))))
  refine hc_def0 G (by tb_start) (S_left G (hR.le (by omega)) hz fun _ => ho_gt (ho_tb (ho_if_f (decide_eq_false (by omega)) (hb_nil (kt_next (hb_cons (hx_asgT (he_tup (ha_cons (he_attr (he_lv lv_read_numbered_reader rfl (ho_get G (at_Reader_at w) (by ktr_rel) (by ktr_rel) dk_Reader_at rfl rfl rfl ?_))))))))))))
  refine ha_cons (he_bin (he_attr (he_lv lv_read_numbered_reader rfl (ho_get G (at_Reader_at w) (by ktr_rel) (by ktr_rel) dk_Reader_at rfl rfl rfl ?_))))
  refine he_lv lv_read_numbered_size rfl (ho_add fun _ => ha_nil (And.intro (Nat.le_of_ble_eq_true rfl) fun e0 he0 => ha_tup hR.hh (by ktr_rel) rfl rfl ?_))
  refine hi_cons (hs_attr (he_lv lv_read_numbered_raw rfl (ho_set G (at_RawPacket_number_at w) (by ktr_rel) (by ktr_unf) dk_RawPacket_number_at rfl rfl (by decide) ?_)))
  refine hi_cons (hs_attr (he_lv lv_read_numbered_raw rfl (ho_set G (at_RawPacket_end w) (by ktr_rel) (by ktr_unf) dk_RawPacket_end rfl rfl (by decide) ?_)))
  refine hi_nil (kt_next (hb_cons (hx_ret (he_lv lv_read_numbered_raw rfl (kt_ret ?_)))))
  exact ⟨_, by k_updF, h _ _⟩
theorem S_numbered_i {x dx : Addr} {r : RT} {v2 v4 v5 v6 v7 v8 v9 v10 v11 : Value} {v3 : Value} {sk t1 t2 : Tok} {data : List UInt8} {pl : Int} {z : UInt8} (G : Gk w g) (hR : Rm A 5) (hz : data.length ≤ 100000) (X0 : OneAt data pl 0) (X : OneAt data (pl + 1) z) (h3 : z.toNat < 64) (hle : pl + 1 + 1 + (z.toNat : Int) ≤ (data.length : Int))
    (h : ∀ s0 s1 s2, V (.ref x) m (rawN w x dx r [.str (Str.ofString "initial") sk, v2, v3, v4, v5, .bytes ([] : List UInt8).toArray s0, v7, v8, v9, .int (pl + 1 + 1) s1, .int (pl + 1 + 1 + (z.toNat : Int)) s2] n)) :
    Ho true Pg w A g L m (rawN w x dx r [.str (Str.ofString "initial") sk, v2, v3, v4, v5, v6, v7, v8, v9, v10, v11] n) (call (.ref 409) [.bytes data.toArray t1, .int pl t2, .ref x]) V := by
  have hge := X0.ge
  have hlt := X0.lt
  have hlt1 := X.lt
  refine en_def ok_read_numbered [("data", .bytes data.toArray t1), ("at", .int pl t2), ("raw", .ref x)] [some (.bytes data.toArray t1), some (.int pl t2), some (.ref x), none, none, none, none, none] G hR (by k_is) (by k_is) rfl rfl rfl rfl fun g L A G hR => hb_cons (hx_asg (he_call (he_gv G gv_read_numbered_Reader (gl_Reader w) (hc_def G (by tb_start) (ha_cons (he_lv lv_read_numbered_data rfl (ha_nil (S_reader G (hR.le (by omega)) fun rx rdx ta tb t2 => ho_sv lv_read_numbered_reader rfl (kt_next (hb_cons (hx_asgA (he_lv lv_read_numbered_at rfl (he_lv lv_read_numbered_reader rfl (ho_set G (at_Reader_at w) (by ktr_rel) (by ktr_unf) dk_Reader_at rfl rfl (by decide) ?_))))))))))))))
  refine kt_next (hb_cons (hx_try (hb_cons (hx_if (ht_cmp (he_attr (he_lv lv_read_numbered_raw rfl (ho_get G (at_RawPacket_kind w) (by ktr_rel) (by ktr_rel) dk_RawPacket_kind rfl rfl rfl ?_))))))))
  refine he_str fun _ => ho_eqS (ho_tb (ho_if_t (by tb_rel) ?_))
  refine hb_cons (hx_asgA (he_meth (he_lv lv_read_numbered_reader rfl (hm_inst G (mt_Reader_take w).1 (mt_Reader_take w).2.1 (mt_Reader_take w).2.2 (by ktr_rel) (by ktr_rel) dm_Reader_take ?_))))
  refine hc_def G (by tb_start) (ha_cons (he_meth (he_lv lv_read_numbered_reader rfl (hm_inst G (mt_Reader_varint w).1 (mt_Reader_varint w).2.1 (mt_Reader_varint w).2.2 (by ktr_rel) (by ktr_rel) dm_Reader_varint ?_))))
  refine hc_def0 G (by tb_start) (S_varint_r G (hR.le (by omega)) hz hge hlt X0.get (by decide) X0.cut fun _ _ => ha_nil (S_take G (hR.le (by omega)) hz (by omega) (by decide) (by simp; omega) fun _ _ => ?_))
  rw [cut_eq (by omega) (by simp) (by simp; omega)]
  have e0 : (pl + 1 + (((0 : UInt8).toNat : Nat) : Int)) = pl + 1 := by simp
  rw [e0]
  simp only [Nat.sub_self, List.take_zero]
  refine he_lv lv_read_numbered_raw rfl (ho_set G (at_RawPacket_token w) (by ktr_rel) (by ktr_unf) dk_RawPacket_token rfl rfl (by decide) ?_)
  refine kt_next (hb_nil (kt_next (hb_cons (hx_asg (he_meth (he_lv lv_read_numbered_reader rfl (hm_inst G (mt_Reader_varint w).1 (mt_Reader_varint w).2.1 (mt_Reader_varint w).2.2 (by ktr_rel) (by ktr_rel) dm_Reader_varint ?_)))))))
  refine hc_def0 G (by tb_start) (S_varint_r G (hR.le (by omega)) hz (by omega) hlt1 X.get h3 X.cut fun _ _ => ho_sv lv_read_numbered_size rfl (kt_next (hb_nil (kt_next (hb_nil (kt_next (hb_cons (hx_if (ht_cmp (he_lv lv_read_numbered_size rfl (he_meth (he_lv lv_read_numbered_reader rfl (hm_inst G (mt_Reader_left w).1 (mt_Reader_left w).2.1 (mt_Reader_left w).2.2 (by ktr_rel) (by ktr_rel) dm_Reader_left ?_)))))))))))))
  refine hc_def0 G (by tb_start) (S_left G (hR.le (by omega)) hz fun _ => ho_gt (ho_tb (ho_if_f (decide_eq_false (by omega)) (hb_nil (kt_next (hb_cons (hx_asgT (he_tup (ha_cons (he_attr (he_lv lv_read_numbered_reader rfl (ho_get G (at_Reader_at w) (by ktr_rel) (by ktr_rel) dk_Reader_at rfl rfl rfl ?_))))))))))))
  refine ha_cons (he_bin (he_attr (he_lv lv_read_numbered_reader rfl (ho_get G (at_Reader_at w) (by ktr_rel) (by ktr_rel) dk_Reader_at rfl rfl rfl ?_))))
  refine he_lv lv_read_numbered_size rfl (ho_add fun _ => ha_nil (And.intro (Nat.le_of_ble_eq_true rfl) fun k0 hk0 => ha_tup hR.hh (by ktr_rel) rfl rfl ?_))
  refine hi_cons (hs_attr (he_lv lv_read_numbered_raw rfl (ho_set G (at_RawPacket_number_at w) (by ktr_rel) (by ktr_unf) dk_RawPacket_number_at rfl rfl (by decide) ?_)))
  refine hi_cons (hs_attr (he_lv lv_read_numbered_raw rfl (ho_set G (at_RawPacket_end w) (by ktr_rel) (by ktr_unf) dk_RawPacket_end rfl rfl (by decide) ?_)))
  refine hi_nil (kt_next (hb_cons (hx_ret (he_lv lv_read_numbered_raw rfl (kt_ret ?_)))))
  exact ⟨_, by k_updF, h _ _ _⟩
inductive RawIs (w : World) (n : Led) (x : Addr) (sp : Sp) (f : UInt8) (d s : List UInt8) (st na en : Int) : Prop
  | mk (dx : Addr) (r : RT) (t1 t2 t3 t4 t5 t6 t7 t8 t9 t10 : Tok) (v : Addr) (h1 : (x, instObj 349 dx) ∈ n) (h2 : (dx, dictOf (dn w.params xs_RawPacket (RT.l r) [.str sp.kind t1, .int (f.toNat : Int) t2, .int 1 t3, .bytes d.toArray t4, .bytes s.toArray t5, .bytes ([] : List UInt8).toArray t6, .bytes ([] : List UInt8).toArray t7, .ref v, .int st t8, .int na t9, .int en t10]) 11) ∈ n) : RawIs w n x sp f d s st na en
theorem RawIs.mono {n n' : Led} {x : Addr} {sp : Sp} {f : UInt8} {d s : List UInt8} {st na en : Int} (s' : ∀ p ∈ n, p ∈ n') : RawIs w n x sp f d s st na en → RawIs w n' x sp f d s st na en := by
  rintro ⟨dx, r, t1, t2, t3, t4, t5, t6, t7, t8, t9, t10, v, h1, h2⟩
  exact ⟨dx, r, t1, t2, t3, t4, t5, t6, t7, t8, t9, t10, v, s' _ h1, s' _ h2⟩
theorem S_read_long_h {data d s : List UInt8} {f z : UInt8} {st : Int} {t1 t2 : Tok} (G : Gk w g) (hR : Rm A 6) (hz : data.length ≤ 100000) (X : LongAt data st f d s) (h1 : d.length ≤ 20) (h2 : s.length ≤ 20) (hf : f.toNat / 16 = 14)
    (Z : OneAt data (st + 1 + 4 + 1 + (d.length : Int) + 1 + (s.length : Int)) z) (h3 : z.toNat < 64) (hle : st + 1 + 4 + 1 + (d.length : Int) + 1 + (s.length : Int) + 1 + (z.toNat : Int) ≤ (data.length : Int))
    (h : ∀ x pre, RawIs w (pre ++ n) x .han f d s st (st + 1 + 4 + 1 + (d.length : Int) + 1 + (s.length : Int) + 1) (st + 1 + 4 + 1 + (d.length : Int) + 1 + (s.length : Int) + 1 + (z.toNat : Int)) → V (.ref x) m (pre ++ n)) : Ho true Pg w A g L m n (call (.ref 395) [.bytes data.toArray t1, .int st t2]) V := by
  refine en_def ok_read_long [("data", .bytes data.toArray t1), ("start", .int st t2)] [some (.bytes data.toArray t1), some (.int st t2), none, none, none, none, none, none, none, none, none, none, none, none, none, none, none, none, none, none] G hR (by k_is) (by k_is) rfl rfl rfl rfl fun g L A G hR => hb_cons (hx_try (hb_cons (hx_asgT (he_call (he_gv G gv_read_long_read_invariants (gl_read_invariants w) (hc_def G (by tb_start) (ha_cons (he_lv lv_read_long_data rfl (ha_cons (he_lv lv_read_long_start rfl (ha_nil (S_read_inv G (hR.le (by omega)) hz X h1 h2 fun a t t' u1 u2 u3 => ha_tup hR.hh (by ktr_rel) rfl rfl ?_))))))))))))
  refine hi_cons (hs_name (ho_sv lv_read_long_first rfl (hi_cons (hs_name (ho_sv lv_read_long_version rfl (hi_cons (hs_name (ho_sv lv_read_long_dcid rfl (hi_cons (hs_name (ho_sv lv_read_long_scid rfl (hi_cons (hs_name (ho_sv lv_read_long_at rfl (hi_nil (kt_next (hb_nil (kt_next (hb_nil (kt_next (hb_cons (hx_asg (he_call (he_gv G gv_read_long_RawPacket (gl_RawPacket w) (hc_def G (by tb_start) (ha_cons (he_str fun _ => ha_cons (he_lv lv_read_long_first rfl (ha_cons (he_lv lv_read_long_dcid rfl (ha_cons (he_lv lv_read_long_start rfl (ha_nil (S_raw_new G (hR.le (by omega)) fun x dx v r s1 s2 s3 s4 => ho_sv lv_read_long_raw rfl (kt_next (hb_cons (hx_asgT (he_tup ?_))))))))))))))))))))))))))))))))))))))
  refine ha_cons (he_lv lv_read_long_version rfl (ha_cons (he_lv lv_read_long_scid rfl (ha_cons (he_call (he_bv G gv_read_long_len (nb_len w) bb_len (by decide) (hc_b (ha_cons (he_lv lv_read_long_data rfl (ha_nil (ho_lenB (by ktr_room) fun _ => ?_)))))))))))
  refine ha_nil (And.intro (Nat.le_of_ble_eq_true rfl) fun c0 hc0 => ha_tup hR.hh (by ktr_rel) rfl rfl ?_)
  refine hi_cons (hs_attr (he_lv lv_read_long_raw rfl (ho_set G (at_RawPacket_version w) (by ktr_rel) (by ktr_unf) dk_RawPacket_version rfl rfl (by decide) ?_)))
  refine hi_cons (hs_attr (he_lv lv_read_long_raw rfl (ho_set G (at_RawPacket_scid w) (by ktr_rel) (by ktr_unf) dk_RawPacket_scid rfl rfl (by decide) ?_)))
  refine hi_cons (hs_attr (he_lv lv_read_long_raw rfl (ho_set G (at_RawPacket_end w) (by ktr_rel) (by ktr_unf) dk_RawPacket_end rfl rfl (by decide) ?_)))
  refine hi_nil (kt_next (hb_cons (hx_if (ht_cmp (he_lv lv_read_long_version rfl (he_gv G gv_read_long_VERSION_NONE (gl_VERSION_NONE w) (ho_eqI (ho_tb (ho_if_f (beq_eq_false_iff_ne.mpr (by omega)) (hb_nil (kt_next (hb_cons (hx_if (ht_cmp (he_lv lv_read_long_version rfl (he_gv G gv_read_long_VERSION_ONE (gl_VERSION_ONE w) (ho_neI (ho_tb (ho_if_f (bne_eq_false_iff_eq.mpr (by omega)) (hb_nil (kt_next (hb_cons (hx_if (ht_or (ht_cmp (he_call (he_bv G gv_read_long_len (nb_len w) bb_len (by decide) (hc_b (ha_cons (he_lv lv_read_long_dcid rfl (ha_nil (ho_lenB (by ktr_room) fun _ => ?_))))))))))))))))))))))))))))))))
  refine he_gv G gv_read_long_MOST_CID (gl_MOST_CID w) (ho_gt (ho_tb (ho_if_f (decide_eq_false (by omega)) (ht_or (ht_cmp (he_call (he_bv G gv_read_long_len (nb_len w) bb_len (by decide) (hc_b (ha_cons (he_lv lv_read_long_scid rfl (ha_nil (ho_lenB (by ktr_room) fun _ => ?_))))))))))))
  refine he_gv G gv_read_long_MOST_CID (gl_MOST_CID w) (ho_gt (ho_tb (ho_if_f (decide_eq_false (by omega)) (ht_or (ht_cmp (he_bin (he_bin (he_lv lv_read_long_first rfl (he_int fun _ => ho_div (by omega) (PyProof.noPylong_of_log2 (by decide +kernel)) fun _ => he_int fun _ => ho_mod (by omega) fun _ => he_int fun _ => ho_eqI (ho_tb (ho_if_f (beq_eq_false_iff_ne.mpr (by omega)) (ht_or0 (ho_if_f rfl (hb_nil (kt_next (hb_cons (hx_asgA (he_sub (he_gv G gv_read_long_LONG_KINDS (gl_LONG_KINDS w) (he_bin (he_bin (he_lv lv_read_long_first rfl (he_int fun _ => ho_div (by omega) (PyProof.noPylong_of_log2 (by decide +kernel)) fun _ => he_int fun _ => ho_mod (by omega) fun _ => ?_)))))))))))))))))))))))
  have e1 : (f.toNat : Int) / 16 % 4 = 2 := by omega
  rw [e1]
  refine ho_liK G (by show List.lookup _ (hd.heap_1 w.params) = _; k_is) (by decide) (by decide) rfl ?_
  refine he_lv lv_read_long_raw rfl (ho_set G (at_RawPacket_kind w) (by ktr_rel) (by ktr_unf) dk_RawPacket_kind rfl rfl (by decide) ?_)
  refine kt_next (hb_cons (hx_ret (he_ife (ht_cmp (he_attr (he_lv lv_read_long_raw rfl (ho_get G (at_RawPacket_kind w) (by ktr_rel) (by ktr_rel) dk_RawPacket_kind rfl rfl rfl ?_)))))))
  refine he_str fun _ => ho_eqS (ho_tb (ho_if_f (by tb_rel) ?_))
  refine he_call (he_gv G gv_read_long_read_numbered (gl_read_numbered w) (hc_def G (by tb_start) (ha_cons (he_lv lv_read_long_data rfl (ha_cons (he_lv lv_read_long_at rfl (ha_cons (he_lv lv_read_long_raw rfl (ha_nil (ho_drop _ (.cons _ (.cons _ (.refl _))) (S_numbered_h G (hR.le (by omega)) hz Z h3 hle fun _ _ => ?_)))))))))))
  exact kt_ret ⟨rawN w x dx r _ n, by k_updF, h x [_, _] ⟨dx, r, _, _, _, _, _, _, _, _, _, _, _, .head _, .tail _ (.head _)⟩⟩
theorem S_read_long_i {data d s : List UInt8} {f z : UInt8} {st : Int} {t1 t2 : Tok} (G : Gk w g) (hR : Rm A 6) (hz : data.length ≤ 100000) (X : LongAt data st f d s) (h1 : d.length ≤ 20) (h2 : s.length ≤ 20) (hf : f.toNat / 16 = 12)
    (Z0 : OneAt data (st + 1 + 4 + 1 + (d.length : Int) + 1 + (s.length : Int)) 0) (Z : OneAt data (st + 1 + 4 + 1 + (d.length : Int) + 1 + (s.length : Int) + 1) z) (h3 : z.toNat < 64) (hle : st + 1 + 4 + 1 + (d.length : Int) + 1 + (s.length : Int) + 1 + 1 + (z.toNat : Int) ≤ (data.length : Int))
    (h : ∀ x pre, RawIs w (pre ++ n) x .ini f d s st (st + 1 + 4 + 1 + (d.length : Int) + 1 + (s.length : Int) + 1 + 1) (st + 1 + 4 + 1 + (d.length : Int) + 1 + (s.length : Int) + 1 + 1 + (z.toNat : Int)) → V (.ref x) m (pre ++ n)) : Ho true Pg w A g L m n (call (.ref 395) [.bytes data.toArray t1, .int st t2]) V := by
  refine en_def ok_read_long [("data", .bytes data.toArray t1), ("start", .int st t2)] [some (.bytes data.toArray t1), some (.int st t2), none, none, none, none, none, none, none, none, none, none, none, none, none, none, none, none, none, none] G hR (by k_is) (by k_is) rfl rfl rfl rfl fun g L A G hR => hb_cons (hx_try (hb_cons (hx_asgT (he_call (he_gv G gv_read_long_read_invariants (gl_read_invariants w) (hc_def G (by tb_start) (ha_cons (he_lv lv_read_long_data rfl (ha_cons (he_lv lv_read_long_start rfl (ha_nil (S_read_inv G (hR.le (by omega)) hz X h1 h2 fun a t t' u1 u2 u3 => ha_tup hR.hh (by ktr_rel) rfl rfl ?_))))))))))))
  refine hi_cons (hs_name (ho_sv lv_read_long_first rfl (hi_cons (hs_name (ho_sv lv_read_long_version rfl (hi_cons (hs_name (ho_sv lv_read_long_dcid rfl (hi_cons (hs_name (ho_sv lv_read_long_scid rfl (hi_cons (hs_name (ho_sv lv_read_long_at rfl (hi_nil (kt_next (hb_nil (kt_next (hb_nil (kt_next (hb_cons (hx_asg (he_call (he_gv G gv_read_long_RawPacket (gl_RawPacket w) (hc_def G (by tb_start) (ha_cons (he_str fun _ => ha_cons (he_lv lv_read_long_first rfl (ha_cons (he_lv lv_read_long_dcid rfl (ha_cons (he_lv lv_read_long_start rfl (ha_nil (S_raw_new G (hR.le (by omega)) fun x dx v r s1 s2 s3 s4 => ho_sv lv_read_long_raw rfl (kt_next (hb_cons (hx_asgT (he_tup ?_))))))))))))))))))))))))))))))))))))))
  refine ha_cons (he_lv lv_read_long_version rfl (ha_cons (he_lv lv_read_long_scid rfl (ha_cons (he_call (he_bv G gv_read_long_len (nb_len w) bb_len (by decide) (hc_b (ha_cons (he_lv lv_read_long_data rfl (ha_nil (ho_lenB (by ktr_room) fun _ => ?_)))))))))))
  refine ha_nil (And.intro (Nat.le_of_ble_eq_true rfl) fun c0 hc0 => ha_tup hR.hh (by ktr_rel) rfl rfl ?_)
  refine hi_cons (hs_attr (he_lv lv_read_long_raw rfl (ho_set G (at_RawPacket_version w) (by ktr_rel) (by ktr_unf) dk_RawPacket_version rfl rfl (by decide) ?_)))
  refine hi_cons (hs_attr (he_lv lv_read_long_raw rfl (ho_set G (at_RawPacket_scid w) (by ktr_rel) (by ktr_unf) dk_RawPacket_scid rfl rfl (by decide) ?_)))
  refine hi_cons (hs_attr (he_lv lv_read_long_raw rfl (ho_set G (at_RawPacket_end w) (by ktr_rel) (by ktr_unf) dk_RawPacket_end rfl rfl (by decide) ?_)))
  refine hi_nil (kt_next (hb_cons (hx_if (ht_cmp (he_lv lv_read_long_version rfl (he_gv G gv_read_long_VERSION_NONE (gl_VERSION_NONE w) (ho_eqI (ho_tb (ho_if_f (beq_eq_false_iff_ne.mpr (by omega)) (hb_nil (kt_next (hb_cons (hx_if (ht_cmp (he_lv lv_read_long_version rfl (he_gv G gv_read_long_VERSION_ONE (gl_VERSION_ONE w) (ho_neI (ho_tb (ho_if_f (bne_eq_false_iff_eq.mpr (by omega)) (hb_nil (kt_next (hb_cons (hx_if (ht_or (ht_cmp (he_call (he_bv G gv_read_long_len (nb_len w) bb_len (by decide) (hc_b (ha_cons (he_lv lv_read_long_dcid rfl (ha_nil (ho_lenB (by ktr_room) fun _ => ?_))))))))))))))))))))))))))))))))
  refine he_gv G gv_read_long_MOST_CID (gl_MOST_CID w) (ho_gt (ho_tb (ho_if_f (decide_eq_false (by omega)) (ht_or (ht_cmp (he_call (he_bv G gv_read_long_len (nb_len w) bb_len (by decide) (hc_b (ha_cons (he_lv lv_read_long_scid rfl (ha_nil (ho_lenB (by ktr_room) fun _ => ?_))))))))))))
  refine he_gv G gv_read_long_MOST_CID (gl_MOST_CID w) (ho_gt (ho_tb (ho_if_f (decide_eq_false (by omega)) (ht_or (ht_cmp (he_bin (he_bin (he_lv lv_read_long_first rfl (he_int fun _ => ho_div (by omega) (PyProof.noPylong_of_log2 (by decide +kernel)) fun _ => he_int fun _ => ho_mod (by omega) fun _ => he_int fun _ => ho_eqI (ho_tb (ho_if_f (beq_eq_false_iff_ne.mpr (by omega)) (ht_or0 (ho_if_f rfl (hb_nil (kt_next (hb_cons (hx_asgA (he_sub (he_gv G gv_read_long_LONG_KINDS (gl_LONG_KINDS w) (he_bin (he_bin (he_lv lv_read_long_first rfl (he_int fun _ => ho_div (by omega) (PyProof.noPylong_of_log2 (by decide +kernel)) fun _ => he_int fun _ => ho_mod (by omega) fun _ => ?_)))))))))))))))))))))))
  have e1 : (f.toNat : Int) / 16 % 4 = 0 := by omega
  rw [e1]
  refine ho_liK G (by show List.lookup _ (hd.heap_1 w.params) = _; k_is) (by decide) (by decide) rfl ?_
  refine he_lv lv_read_long_raw rfl (ho_set G (at_RawPacket_kind w) (by ktr_rel) (by ktr_unf) dk_RawPacket_kind rfl rfl (by decide) ?_)
  refine kt_next (hb_cons (hx_ret (he_ife (ht_cmp (he_attr (he_lv lv_read_long_raw rfl (ho_get G (at_RawPacket_kind w) (by ktr_rel) (by ktr_rel) dk_RawPacket_kind rfl rfl rfl ?_)))))))
  refine he_str fun _ => ho_eqS (ho_tb (ho_if_f (by tb_rel) ?_))
  refine he_call (he_gv G gv_read_long_read_numbered (gl_read_numbered w) (hc_def G (by tb_start) (ha_cons (he_lv lv_read_long_data rfl (ha_cons (he_lv lv_read_long_at rfl (ha_cons (he_lv lv_read_long_raw rfl (ha_nil (ho_drop _ (.cons _ (.cons _ (.refl _))) (S_numbered_i G (hR.le (by omega)) hz Z0 Z h3 hle fun _ _ _ => ?_)))))))))))
  exact kt_ret ⟨rawN w x dx r _ n, by k_updF, h x [_, _] ⟨dx, r, _, _, _, _, _, _, _, _, _, _, _, .head _, .tail _ (.head _)⟩⟩
theorem S_read_short {data d : List UInt8} {f : UInt8} {st : Int} {t1 t2 t3 : Tok} (G : Gk w g) (hR : Rm A 6) (hz : data.length ≤ 100000) (X : OneAt data st f) (hf : f.toNat / 64 = 1) (hd4 : cut data (some (st + 1)) (some (st + 1 + 4)) = d) (hle : st + 1 + 4 ≤ (data.length : Int))
    (h : ∀ x pre, RawIs w (pre ++ n) x .app f d [] st (st + 1 + 4) (data.length : Int) → V (.ref x) m (pre ++ n)) : Ho true Pg w A g L m n (call (.ref 416) [.bytes data.toArray t1, .int st t2, .int 4 t3]) V := by
  have hge := X.ge
  have hlt := X.lt
  refine en_def ok_read_short [("data", .bytes data.toArray t1), ("start", .int st t2), ("cid_size", .int 4 t3)] [some (.bytes data.toArray t1), some (.int st t2), some (.int 4 t3), none, none, none, none, none, none] G hR (by k_is) (by k_is) rfl rfl rfl rfl fun g L A G hR => hb_cons (hx_asg (he_sub (he_lv lv_read_short_data rfl (he_lv lv_read_short_start rfl (ho_bi (by ktr_room) (by ktr_room) (by ktr_room) fun _ => ?_)))))
  refine ho_sv lv_read_short_first rfl (kt_next (hb_cons (hx_if (ht_or (ht_cmp (he_bin (he_bin (he_lv lv_read_short_first rfl (he_int fun _ => ho_div (by omega) (PyProof.noPylong_of_log2 (by decide +kernel)) fun _ => he_int fun _ => ho_mod (by omega) fun _ => he_int fun _ => ho_eqI (ho_tb ?_))))))))))
  rw [X.get]
  refine ho_if_f (beq_eq_false_iff_ne.mpr (by omega)) (ht_or (ht_cmp (he_bin (he_bin (he_lv lv_read_short_start rfl (he_int fun _ => ho_add fun _ => he_lv lv_read_short_cid_size rfl (ho_add fun _ => he_call (he_bv G gv_read_short_len (nb_len w) bb_len (by decide) (hc_b (ha_cons (he_lv lv_read_short_data rfl (ha_nil (ho_lenB (by ktr_room) fun _ => ?_)))))))))))))
  refine ho_gt (ho_tb (ho_if_f (decide_eq_false (by omega)) (ht_or0 (ho_if_f rfl (hb_nil (kt_next (hb_cons (hx_asg (he_call (he_gv G gv_read_short_RawPacket (gl_RawPacket w) (hc_def G (by tb_start) (ha_cons (he_str fun _ => ha_cons (he_lv lv_read_short_first rfl (ha_cons (he_cut (he_lv lv_read_short_data rfl (hp_some (he_bin (he_lv lv_read_short_start rfl (he_int fun _ => ho_add fun _ => hp_some (he_bin (he_bin (he_lv lv_read_short_start rfl (he_int fun _ => ho_add fun _ => he_lv lv_read_short_cid_size rfl (ho_add fun _ => ⟨_, _, _, _, rfl, by constructor, by constructor, by ktr_room, fun _ => ?_⟩))))))))))))))))))))))))))
  refine ha_cons (he_lv lv_read_short_start rfl (ha_nil ?_))
  rw [hd4]
  refine S_raw_new G (hR.le (by omega)) fun x dx v r s1 s2 s3 s4 => ho_sv lv_read_short_raw rfl (kt_next (hb_cons (hx_asgA (he_gv G gv_read_short_VERSION_ONE (gl_VERSION_ONE w) (he_lv lv_read_short_raw rfl (ho_set G (at_RawPacket_version w) (by ktr_rel) (by ktr_unf) dk_RawPacket_version rfl rfl (by decide) ?_))))))
  refine kt_next (hb_cons (hx_asgT (he_tup (ha_cons (he_bin (he_bin (he_lv lv_read_short_start rfl (he_int fun _ => ho_add fun _ => he_lv lv_read_short_cid_size rfl (ho_add fun _ => ha_cons (he_call (he_bv G gv_read_short_len (nb_len w) bb_len (by decide) (hc_b (ha_cons (he_lv lv_read_short_data rfl (ha_nil (ho_lenB (by ktr_room) fun _ => ?_))))))))))))))))
  refine ha_nil (And.intro (Nat.le_of_ble_eq_true rfl) fun c0 hc0 => ha_tup hR.hh (by ktr_rel) rfl rfl ?_)
  refine hi_cons (hs_attr (he_lv lv_read_short_raw rfl (ho_set G (at_RawPacket_number_at w) (by ktr_rel) (by ktr_unf) dk_RawPacket_number_at rfl rfl (by decide) ?_)))
  refine hi_cons (hs_attr (he_lv lv_read_short_raw rfl (ho_set G (at_RawPacket_end w) (by ktr_rel) (by ktr_unf) dk_RawPacket_end rfl rfl (by decide) ?_)))
  refine hi_nil (kt_next (hb_cons (hx_ret (he_lv lv_read_short_raw rfl (kt_ret ?_)))))
  exact ⟨rawN w x dx r _ n, by k_updF, h x [_, _] ⟨dx, r, _, _, _, _, _, _, _, _, _, _, _, .head _, .tail _ (.head _)⟩⟩
noncomputable def PkAt (data : List UInt8) (sp : Sp) (f : UInt8) (d s : List UInt8) (st na en : Int) : Prop := match sp with
  | .ini => LongAt data st f d s ∧ f.toNat / 16 = 12 ∧ OneAt data (st + 1 + 4 + 1 + (d.length : Int) + 1 + (s.length : Int)) 0 ∧ na = st + 1 + 4 + 1 + (d.length : Int) + 1 + (s.length : Int) + 1 + 1 ∧ ∃ z, OneAt data (st + 1 + 4 + 1 + (d.length : Int) + 1 + (s.length : Int) + 1) z ∧ z.toNat < 64 ∧ en = na + (z.toNat : Int) ∧ en ≤ (data.length : Int)
  | .han => LongAt data st f d s ∧ f.toNat / 16 = 14 ∧ na = st + 1 + 4 + 1 + (d.length : Int) + 1 + (s.length : Int) + 1 ∧ ∃ z, OneAt data (st + 1 + 4 + 1 + (d.length : Int) + 1 + (s.length : Int)) z ∧ z.toNat < 64 ∧ en = na + (z.toNat : Int) ∧ en ≤ (data.length : Int)
  | .app => f.toNat / 64 = 1 ∧ cut data (some (st + 1)) (some (st + 1 + 4)) = d ∧ st + 1 + 4 ≤ (data.length : Int) ∧ na = st + 1 + 4 ∧ en = (data.length : Int)
noncomputable def scidOf (sp : Sp) (s : List UInt8) : List UInt8 := match sp with
  | .app => []
  | _ => s
theorem S_read_raw {data d s : List UInt8} {sp : Sp} {f : UInt8} {st na en : Int} {t1 t2 t3 : Tok} (G : Gk w g) (hR : Rm A 7) (hz : data.length ≤ 100000) (F : OneAt data st f) (X : PkAt data sp f d s st na en) (h1 : d.length ≤ 20) (h2 : s.length ≤ 20)
    (h : ∀ x pre, RawIs w (pre ++ n) x sp f d (scidOf sp s) st na en → V (.ref x) m (pre ++ n)) : Ho true Pg w A g L m n (call (.ref 423) [.bytes data.toArray t1, .int st t2, .int 4 t3]) V := by
  have hge := F.ge
  have hlt := F.lt
  cases sp with
  | ini =>
    obtain ⟨X1, X2, X3, rfl, z, X4, X5, rfl, X6⟩ := X
    refine en_def ok_read_raw [("data", .bytes data.toArray t1), ("start", .int st t2), ("cid_size", .int 4 t3)] [some (.bytes data.toArray t1), some (.int st t2), some (.int 4 t3), none, none] G hR (by k_is) (by k_is) rfl rfl rfl rfl fun g L A G hR => hb_cons (hx_ret (he_ife (ht_cmp (he_sub (he_lv lv_read_raw_data rfl (he_lv lv_read_raw_start rfl (ho_bi (by ktr_room) (by ktr_room) (by ktr_room) fun _ => ?_)))))))
    refine he_int fun _ => ho_ge (ho_tb ?_)
    rw [F.get]
    refine ho_if_t (decide_eq_true (by omega)) (he_call (he_gv G gv_read_raw_read_long (gl_read_long w) (hc_def G (by tb_start) (ha_cons (he_lv lv_read_raw_data rfl (ha_cons (he_lv lv_read_raw_start rfl (ha_nil (S_read_long_i G (hR.le (by omega)) hz X1 h1 h2 X2 X3 X4 X5 X6 fun x pre hx => ?_)))))))))
    exact kt_ret ⟨_, .refl _, h x pre hx⟩
  | han =>
    obtain ⟨X1, X2, rfl, z, X4, X5, rfl, X6⟩ := X
    refine en_def ok_read_raw [("data", .bytes data.toArray t1), ("start", .int st t2), ("cid_size", .int 4 t3)] [some (.bytes data.toArray t1), some (.int st t2), some (.int 4 t3), none, none] G hR (by k_is) (by k_is) rfl rfl rfl rfl fun g L A G hR => hb_cons (hx_ret (he_ife (ht_cmp (he_sub (he_lv lv_read_raw_data rfl (he_lv lv_read_raw_start rfl (ho_bi (by ktr_room) (by ktr_room) (by ktr_room) fun _ => ?_)))))))
    refine he_int fun _ => ho_ge (ho_tb ?_)
    rw [F.get]
    refine ho_if_t (decide_eq_true (by omega)) (he_call (he_gv G gv_read_raw_read_long (gl_read_long w) (hc_def G (by tb_start) (ha_cons (he_lv lv_read_raw_data rfl (ha_cons (he_lv lv_read_raw_start rfl (ha_nil (S_read_long_h G (hR.le (by omega)) hz X1 h1 h2 X2 X4 X5 X6 fun x pre hx => ?_)))))))))
    exact kt_ret ⟨_, .refl _, h x pre hx⟩
  | app =>
    obtain ⟨X1, X2, X3, rfl, rfl⟩ := X
    refine en_def ok_read_raw [("data", .bytes data.toArray t1), ("start", .int st t2), ("cid_size", .int 4 t3)] [some (.bytes data.toArray t1), some (.int st t2), some (.int 4 t3), none, none] G hR (by k_is) (by k_is) rfl rfl rfl rfl fun g L A G hR => hb_cons (hx_ret (he_ife (ht_cmp (he_sub (he_lv lv_read_raw_data rfl (he_lv lv_read_raw_start rfl (ho_bi (by ktr_room) (by ktr_room) (by ktr_room) fun _ => ?_)))))))
    refine he_int fun _ => ho_ge (ho_tb ?_)
    rw [F.get]
    refine ho_if_f (decide_eq_false (by omega)) (he_call (he_gv G gv_read_raw_read_short (gl_read_short w) (hc_def G (by tb_start) (ha_cons (he_lv lv_read_raw_data rfl (ha_cons (he_lv lv_read_raw_start rfl (ha_cons (he_lv lv_read_raw_cid_size rfl (ha_nil (S_read_short G (hR.le (by omega)) hz F X1 X2 X3 fun x pre hx => ?_)))))))))))
    exact kt_ret ⟨_, .refl _, h x pre hx⟩
structure PkR where
  mk ::
  (sp : Sp) (f : UInt8) (st na en : Int)
inductive Chain (data d s : List UInt8) : Int → List PkR → Prop
  | nil : Chain data d s (data.length : Int) []
  | cons {p : PkR} {ps : List PkR} : OneAt data p.st p.f → PkAt data p.sp p.f d s p.st p.na p.en → Chain data d s p.en ps → Chain data d s p.st (p :: ps)
theorem Chain.lt {data d s : List UInt8} {i : Int} {p : PkR} {ps : List PkR} (h : Chain data d s i (p :: ps)) : i < (data.length : Int) := by
  cases h with | cons a b c => exact a.lt
inductive RawsAre (w : World) (d s : List UInt8) (n : Led) : List Value → List PkR → Prop
  | nil : RawsAre w d s n [] []
  | cons {x : Addr} {p : PkR} {vs : List Value} {ps : List PkR} : RawIs w n x p.sp p.f d (scidOf p.sp s) p.st p.na p.en → RawsAre w d s n vs ps → RawsAre w d s n (.ref x :: vs) (p :: ps)
theorem RawsAre.mono {d s : List UInt8} {n n' : Led} (h : ∀ p ∈ n, p ∈ n') : ∀ {vs : List Value} {ps : List PkR}, RawsAre w d s n vs ps → RawsAre w d s n' vs ps
  | _, _, .nil => .nil
  | _, _, .cons a b => .cons (a.mono h) (b.mono h)
theorem RawsAre.snoc {d s : List UInt8} {n : Led} {x : Addr} {p : PkR} (hx : RawIs w n x p.sp p.f d (scidOf p.sp s) p.st p.na p.en) : ∀ {vs : List Value} {ps : List PkR}, RawsAre w d s n vs ps → RawsAre w d s n (vs ++ [.ref x]) (ps ++ [p])
  | _, _, .nil => .cons hx .nil
  | _, _, .cons a b => .cons a (b.snoc hx)
theorem RawsAre.len {d s : List UInt8} {n : Led} : ∀ {vs : List Value} {ps : List PkR}, RawsAre w d s n vs ps → vs.length = ps.length
  | _, _, .nil => rfl
  | _, _, .cons _ r => by simp [r.len]
theorem RawIs.drop {n : Led} {a : Addr} {vs : List Value} {k : Nat} {pre : Led} {x : Addr} {sp : Sp} {f : UInt8} {d s : List UInt8} {st na en : Int} : RawIs w (pre ++ (a, lstO vs k) :: n) x sp f d s st na en → RawIs w (pre ++ n) x sp f d s st na en := by
  rintro ⟨dx, r, t1, t2, t3, t4, t5, t6, t7, t8, t9, t10, v, h1, h2⟩
  refine ⟨dx, r, t1, t2, t3, t4, t5, t6, t7, t8, t9, t10, v, ?_, ?_⟩
  · rcases List.mem_append.mp h1 with h | h
    · exact List.mem_append_left _ h
    · rcases List.mem_cons.mp h with h | h
      · have := congrArg (fun p : Addr × Obj => p.2.cls) h; cases this
      · exact List.mem_append_right _ h
  · rcases List.mem_append.mp h2 with h | h
    · exact List.mem_append_left _ h
    · rcases List.mem_cons.mp h with h | h
      · have := congrArg (fun p : Addr × Obj => p.2.cls) h; simp [dictOf] at this
      · exact List.mem_append_right _ h
inductive LS1 (w : World) (data d s : List UInt8) (t1 t2 : Tok) (n : Led) (ps : List PkR) (a0 : Addr) (i : Nat) : FMap → Led → Prop
  | mk (l pre : Led) (vs : List Value) (k : Nat) (pl : Int) (t : Tok) (x4 : Option Value) {n' : Led} (h1 : l.Sublist n') (h2 : l.Perm ((a0, lstO vs k) :: (pre ++ n))) (h3 : RawsAre w d s (pre ++ n) vs (ps.take i)) (h4 : Chain data d s pl (ps.drop i)) :
    LS1 w data d s t1 t2 n ps a0 i (fm ns_split_datagram [some (.bytes data.toArray t1), some (.int 4 t2), some (.ref a0), some (.int pl t), x4, none, none, none]) n'
theorem S_split {data d s : List UInt8} {ps : List PkR} {t1 t2 : Tok} (G : Gk w g) (hR : Rm A 8) (hz : data.length ≤ 100000) (h1 : d.length ≤ 20) (h2 : s.length ≤ 20) (X : Chain data d s 0 ps) (hps : ps.length ≤ 3)
    (h : ∀ a vs k pre, RawsAre w d s (pre ++ n) vs ps → V (.ref a) m ((a, lstO vs k) :: (pre ++ n))) : Ho true Pg w A g L m n (call (.ref 430) [.bytes data.toArray t1, .int 4 t2]) V := by
  refine en_def ok_split_datagram [("data", .bytes data.toArray t1), ("cid_size", .int 4 t2)] [some (.bytes data.toArray t1), some (.int 4 t2), none, none, none, none, none, none] G hR (by k_is) (by k_is) rfl rfl rfl rfl fun g L A G hR => hb_cons (hx_asgTS [PySem.Str.ofString "found", PySem.Str.ofString "at"] ?_ rfl rfl)
  refine he_tup (ha_cons (he_list (ha_nil (And.intro (Nat.le_of_ble_eq_true rfl) fun a0 ha0 => ha_cons (he_int fun _ => ha_nil (And.intro (Nat.le_of_ble_eq_true rfl) fun a1 ha1 => hu_tup hR.hh (by ktr_rel) rfl ?_))))))
  refine hi_cons (hb_name (ho_sv lv_split_datagram_at rfl (hi_cons (hb_name (ho_sv lv_split_datagram_found rfl (hi_nil (kt_next (hb_cons (hx_while _ (hw_countT ps.length (LS1 w data d s t1 t2 n ps a0) ⟨_, [], [], 0, 0, _, none, List.sublist_cons_self _ _, .refl _, .nil, X⟩ ?_ ?_))))))))))
  · rintro i m' n' T hi ⟨l, pre, vs, k, pl, t, x4, hs, hp, hvs, hc⟩ hT
    refine ho_perm l hs hp ?_
    have hc' := hc
    rw [List.drop_eq_getElem_cons hi] at hc
    generalize hpe : ps[i] = p at hc
    have hlt := hc.lt
    have hvl := hvs.len
    have htk : (ps.take i).length = i := by simp; omega
    refine ht_cmp (he_lv lv_split_datagram_at rfl (he_call (he_bv G gv_split_datagram_len (nb_len w) bb_len (by decide) (hc_b (ha_cons (he_lv lv_split_datagram_data rfl (ha_nil (ho_lenB (by ktr_room) fun _ => ?_))))))))
    refine ho_lt (ho_tb (⟨decide_eq_true hlt, ?_⟩))
    cases hc with | cons F Y Z => ?_
    have hin0 : ∀ q ∈ pre ++ n, ∀ (pre2 : Led) (o : Obj), q ∈ pre2 ++ (a0, o) :: (pre ++ n) := fun q hq pre2 o => List.mem_append_right _ (.tail _ hq)
    have et : ps.take (i + 1) = ps.take i ++ [p] := by rw [List.take_add_one, List.getElem?_eq_getElem hi, hpe]; rfl
    refine hb_cons (hx_try (hb_cons (hx_asg (he_call (he_gv G gv_split_datagram_read_raw (gl_read_raw w) (hc_def G (by tb_start) (ha_cons (he_lv lv_split_datagram_data rfl (ha_cons (he_lv lv_split_datagram_at rfl (ha_cons (he_lv lv_split_datagram_cid_size rfl (ha_nil (S_read_raw G (hR.le (by omega)) hz F Y h1 h2 fun x pre2 hx => ?_))))))))))))))
    have hxd := hx.drop
    have fin : ∀ (t : Tok), T (fm ns_split_datagram [some (.bytes data.toArray t1), some (.int 4 t2), some (.ref a0), some (.int p.en t), some (.ref x), none, none, none]) (pre2 ++ (a0, lstO (vs ++ [.ref x]) (k + 1)) :: (pre ++ n)) := fun t =>
      hT _ _ ⟨_, pre2 ++ pre, vs ++ [.ref x], k + 1, p.en, t, some (.ref x), .refl _, by simpa [List.append_assoc] using List.perm_middle (l₁ := pre2) (l₂ := pre ++ n) (a := (a0, lstO (vs ++ [.ref x]) (k + 1))), by
        rw [et, List.append_assoc]
        exact (hvs.mono fun q hq => List.mem_append_right _ hq).snoc hxd, Z⟩
    have hxa : RawIs w (pre2 ++ (a0, lstO (vs ++ [.ref x]) (k + 1)) :: (pre ++ n)) x p.sp p.f d (scidOf p.sp s) p.st p.na p.en := hxd.mono fun q hq => by
      rcases List.mem_append.mp hq with hq | hq
      · exact List.mem_append_left _ hq
      · exact hin0 q hq _ _
    obtain ⟨dx, r, u1, u2, u3, u4, u5, u6, u7, u8, u9, u10, v, hm1, hm2⟩ := hxa
    obtain ⟨dx', r', w1, w2, w3, w4, w5, w6, w7, w8, w9, w10, v', hn1, hn2⟩ := hx
    refine ho_sv lv_split_datagram_raw rfl (kt_next (hb_nil (kt_next (hb_nil (kt_next (hb_cons (hx_if (ht_or (ht_cmp (he_call (he_bv G gv_split_datagram_len (nb_len w) bb_len (by decide) (hc_b (ha_cons (he_lv lv_split_datagram_found rfl (ha_nil (ho_lenL (List.mem_append_right _ (.head _)) (by omega) fun _ => he_int fun _ => ho_eqI (ho_tb (ho_if_both (fun hc => ?_) (fun hc => ?_)))))))))))))))))))
    · refine ho_if_t rfl (hb_cons (hx_expr (he_meth (he_lv lv_split_datagram_found rfl (hm_app (List.mem_append_right _ (.head _)) (hc_b (ha_cons (he_lv lv_split_datagram_raw rfl (ha_nil (ho_appS (upL_app pre2) (by omega) (And.intro rfl (kt_next (hb_nil (kt_next (hb_cons (hx_asg (he_attr (he_lv lv_split_datagram_raw rfl (ho_get G (at_RawPacket_end w) (by ktr_rel) (by ktr_rel) dk_RawPacket_end rfl rfl rfl ?_)))))))))))))))))))
      refine ho_sv lv_split_datagram_at rfl (kt_next (hb_nil ?_))
      exact And.intro rfl (fin _)
    · refine ht_or (ht_cmp (he_attr (he_lv lv_split_datagram_raw rfl (ho_get G (at_RawPacket_dcid w) (by ktr_rel) (by ktr_rel) dk_RawPacket_dcid rfl rfl rfl ?_))))
      refine he_attr (he_sub (he_lv lv_split_datagram_found rfl (he_int fun _ => ?_)))
      have hvs' := hvs
      generalize ps.take i = qs at hvs'
      cases hvs' with
      | nil => exact absurd hc (by simp)
      | cons hx0 hr0 =>
        rename_i x0 p0 vs0 ps0
        have hx1 := hx0.mono (n' := pre2 ++ (a0, lstO (.ref x0 :: vs0) k) :: (pre ++ n)) fun q hq => hin0 q hq _ _
        obtain ⟨dx0, r0, y1, y2, y3, y4, y5, y6, y7, y8, y9, y10, v0, hq1, hq2⟩ := hx1
        refine ho_li (List.mem_append_right _ (.head _)) (by decide) (by decide) rfl (ho_get G (at_RawPacket_dcid w) (by ktr_rel) (by ktr_rel) dk_RawPacket_dcid rfl rfl rfl ?_)
        refine ho_eqB (ho_tb (ho_if_t (beq_self_eq_true _) (ho_if_t rfl (hb_cons (hx_expr (he_meth (he_lv lv_split_datagram_found rfl (hm_app (List.mem_append_right _ (.head _)) (hc_b (ha_cons (he_lv lv_split_datagram_raw rfl (ha_nil (ho_appS (upL_app pre2) (by omega) (And.intro rfl (kt_next (hb_nil (kt_next (hb_cons (hx_asg (he_attr (he_lv lv_split_datagram_raw rfl (ho_get G (at_RawPacket_end w) (by ktr_rel) (by ktr_rel) dk_RawPacket_end rfl rfl rfl ?_))))))))))))))))))))))
        refine ho_sv lv_split_datagram_at rfl (kt_next (hb_nil ?_))
        exact And.intro rfl (fin _)
  · rintro m' n' ⟨l, pre, vs, k, pl, t, x4, hs, hp, hvs, hc⟩
    refine ho_perm l hs hp ?_
    rw [List.drop_length] at hc
    cases hc
    refine ht_cmp (he_lv lv_split_datagram_at rfl (he_call (he_bv G gv_split_datagram_len (nb_len w) bb_len (by decide) (hc_b (ha_cons (he_lv lv_split_datagram_data rfl (ha_nil (ho_lenB (by ktr_room) fun _ => ?_))))))))
    refine ho_lt (ho_tb (⟨decide_eq_false (Int.lt_irrefl _), ?_⟩))
    refine kt_next (hb_cons (hx_ret (he_lv lv_split_datagram_found rfl (kt_ret ?_))))
    rw [List.take_length] at hvs
    exact ⟨_, .refl _, h a0 vs k pre hvs⟩
theorem bitAnd_byte {x y : Int} (hx : 0 ≤ x) (hy : 0 ≤ y) : 0 ≤ Builtin.bitAnd x y ∧ Builtin.bitAnd x y ≤ y := by
  rw [PyProof.Rows.bitAnd_pp hx hy]
  have h1 := Nat.and_le_right (n := x.toNat) (m := y.toNat)
  omega
theorem turnN_len (l k : List UInt8) : (turnN l k).length = l.length := by unfold turnN; simp
theorem byte_back (x : UInt8) : ((x.toNat : Int)).toNat.toUInt8 = x := by
  rw [Int.toNat_natCast]; exact UInt8.ofNat_toNat
theorem byte_of {i : Int} (h0 : 0 ≤ i) (h1 : i < 256) : ((i.toNat.toUInt8).toNat : Int) = i := by
  show (((UInt8.ofNat i.toNat).toNat : Nat) : Int) = _
  rw [UInt8.toNat_ofNat', Nat.mod_eq_of_lt (by omega)]
  omega
theorem turnN_inv (l k : List UInt8) : turnN (turnN l k) k = l := by
  refine List.ext_getElem? fun i => ?_
  unfold turnN
  rw [List.getElem?_mapIdx, List.getElem?_mapIdx]
  cases h : l[i]? with
  | none => rfl
  | some o =>
    simp only [Option.map_some]
    have ho := o.toNat_lt
    have hk := (k.getD (1 + i) 0).toNat_lt
    have hb := bitXor_byte (x := (o.toNat : Int)) (y := ((k.getD (1 + i) 0).toNat : Int)) (by omega) (by omega) (by omega) (by omega)
    rw [byte_of hb.1 hb.2, bitXor_inv (by omega) (by omega), byte_back]
theorem turnG_inv : ∀ (l : List UInt8) (s : Int), turnG s (turnG s l) = l
  | [], _ => rfl
  | o :: l, s => by
    have hb := bitXor_byte (x := (o.toNat : Int)) (y := nextS s / 65536 % 256) (by omega) (by have := o.toNat_lt; omega) (by omega) (by omega)
    show (Builtin.bitXor (((Builtin.bitXor (o.toNat : Int) (nextS s / 65536 % 256)).toNat.toUInt8).toNat : Int) (nextS s / 65536 % 256)).toNat.toUInt8 :: turnG (nextS s) (turnG (nextS s) l) = _
    rw [byte_of hb.1 hb.2, bitXor_inv (by omega) (by omega), byte_back, turnG_inv l]
theorem turned_inv (key l : List UInt8) (v : Int) : turned key v (turned key v l) = l := turnG_inv _ _
theorem turned_len (key l : List UInt8) (v : Int) : (turned key v l).length = l.length := turnG_len _ _
theorem tagG_len (key hed bd : List UInt8) (v : Int) : (tagG key v hed bd).length = 16 := be_len _ _
theorem cut_to {l : List UInt8} {j : Int} (h1 : 0 ≤ j) (h2 : j ≤ (l.length : Int)) : cut l none (some j) = l.take j.toNat := by
  unfold cut
  simp only [Option.elim_none, Option.elim_some, List.drop_zero, Nat.sub_zero]
  rw [clip_in h1 h2]
theorem cut_from {l : List UInt8} {j : Int} (h1 : 0 ≤ j) (h2 : j ≤ (l.length : Int)) : cut l (some j) none = l.drop j.toNat := by
  unfold cut
  simp only [Option.elim_none, Option.elim_some]
  rw [clip_in h1 h2, List.take_of_length_le (by simp)]
theorem S_open_sealed0 {key hed pl B T : List UInt8} {v : Int} {t1 t2 t3 t4 : Tok} (G : Gk w g) (hR : Rm A 3) (h1 : hed.length ≤ 1000) (h2 : B.length ≤ 1000) (hB : turned key v B = pl) (hT : tagG key v hed B = T) (hl : T.length = 16) (h : ∀ t, V (.bytes pl.toArray t) m n) : Ho true Pg w A g L m n (call (.ref 486) [.bytes key.toArray t1, .int v t2, .bytes hed.toArray t3, .bytes (B ++ T).toArray t4]) V := by
  have hs : (B ++ T).length = B.length + 16 := by rw [List.length_append, hl]
  have hn : (((B ++ T).length : Int) - 16).toNat = B.length := by omega
  have hc1 : cut (B ++ T) none (some (((B ++ T).length : Int) - 16)) = B := by
    rw [cut_to (by omega) (by omega), hn, List.take_left]
  have hc2 : cut (B ++ T) (some (((B ++ T).length : Int) - 16)) none = T := by
    rw [cut_from (by omega) (by omega), hn, List.drop_left]
  refine en_def ok_open_sealed [("key", .bytes key.toArray t1), ("number", .int v t2), ("head", .bytes hed.toArray t3), ("sealed", .bytes (B ++ T).toArray t4)] [some (.bytes key.toArray t1), some (.int v t2), some (.bytes hed.toArray t3), some (.bytes (B ++ T).toArray t4), none, none, none, none, none] G hR (by k_is) (by k_is) rfl rfl rfl rfl fun g L A G hR => hb_cons (hx_if (ht_cmp (he_call (he_bv G gv_open_sealed_len (nb_len w) bb_len (by decide) (hc_b (ha_cons (he_lv lv_open_sealed_sealed rfl (ha_nil (ho_lenB (by ktr_room) fun _ => ?_)))))))))
  refine he_gv G gv_open_sealed_TAG_SIZE (gl_TAG_SIZE w) (ho_lt (ho_tb (ho_if_f (decide_eq_false (by omega)) (hb_nil (kt_next (hb_cons (hx_asg (he_cut (he_lv lv_open_sealed_sealed rfl (hp_none (hp_some (he_bin (he_call (he_bv G gv_open_sealed_len (nb_len w) bb_len (by decide) (hc_b (ha_cons (he_lv lv_open_sealed_sealed rfl (ha_nil (ho_lenB (by ktr_room) fun _ => ?_)))))))))))))))))))
  refine he_gv G gv_open_sealed_TAG_SIZE (gl_TAG_SIZE w) (ho_sub fun _ => ⟨_, _, _, _, rfl, by constructor, by constructor, by ktr_room, fun _ => ?_⟩)
  refine ho_sv lv_open_sealed_body rfl (kt_next (hb_cons (hx_if (ht_cmp (he_call (he_gv G gv_open_sealed_tag_of (gl_tag_of w) (hc_def G (by tb_start) (ha_cons (he_lv lv_open_sealed_key rfl (ha_cons (he_lv lv_open_sealed_number rfl (ha_cons (he_lv lv_open_sealed_head rfl (ha_cons (he_lv lv_open_sealed_body rfl (ha_nil ?_))))))))))))))))
  rw [hc1]
  refine S_tag G (hR.le (by omega)) h1 (by omega) fun _ => ?_
  rw [hT]
  refine he_cut (he_lv lv_open_sealed_sealed rfl (hp_some (he_bin (he_call (he_bv G gv_open_sealed_len (nb_len w) bb_len (by decide) (hc_b (ha_cons (he_lv lv_open_sealed_sealed rfl (ha_nil (ho_lenB (by ktr_room) fun _ => ?_))))))))))
  refine he_gv G gv_open_sealed_TAG_SIZE (gl_TAG_SIZE w) (ho_sub fun _ => hp_none (⟨_, _, _, _, rfl, by constructor, by constructor, by ktr_room, fun _ => ?_⟩))
  refine ho_neB (ho_tb ?_)
  rw [hc2]
  refine ho_if_f (by simp) ?_
  refine hb_nil (kt_next (hb_cons (hx_ret (he_call (he_gv G gv_open_sealed_turned_octets (gl_turned_octets w) (hc_def G (by tb_start) (ha_cons (he_lv lv_open_sealed_key rfl (ha_cons (he_lv lv_open_sealed_number rfl (ha_cons (he_lv lv_open_sealed_body rfl (ha_nil (S_turned G (hR.le (by omega)) (by omega) fun _ => ?_))))))))))))))
  rw [hB]
  refine kt_ret ?_
  exact ⟨_, .refl _, h _⟩
theorem S_open_sealed {key hed pl : List UInt8} {v : Int} {t1 t2 t3 t4 : Tok} (G : Gk w g) (hR : Rm A 3) (h1 : hed.length ≤ 1000) (h2 : pl.length ≤ 1000) (h : ∀ t, V (.bytes pl.toArray t) m n) : Ho true Pg w A g L m n (call (.ref 486) [.bytes key.toArray t1, .int v t2, .bytes hed.toArray t3, .bytes (sealG key v hed pl).toArray t4]) V :=
  S_open_sealed0 (B := turned key v pl) (T := tagG key v hed (turned key v pl)) G hR h1 (Nat.le_trans (Nat.le_of_eq (turned_len key pl v)) h2) (turned_inv key pl v) rfl (tagG_len key hed (turned key v pl) v) h
structure BareAt (key data : List UInt8) (st na en : Int) (f' f : UInt8) (rest ct smp : List UInt8) : Prop where
  F : OneAt data st f'
  sm : cut data (some (na + 4)) (some (na + 4 + 16)) = smp
  e1 : na + 20 ≤ en
  e2 : en ≤ (data.length : Int)
  n0 : st + 1 ≤ na
  tf : turnF (f'.toNat : Int) (maskG key smp) = (f.toNat : Int)
  sz : (f.toNat : Int) % 4 + 1 = (ct.length : Int)
  rs : cut data (some (st + 1)) (some na) = rest
  tn : turnN (cut data (some na) (some (na + (ct.length : Int)))) (maskG key smp) = ct
theorem S_bare {key data rest ct smp : List UInt8} {st na en : Int} {f' f : UInt8} {t1 t2 t3 t4 t5 : Tok} (G : Gk w g) (hR : Rm A 3) (hz : data.length ≤ 10000) (X : BareAt key data st na en f' f rest ct smp) (hct : ct.length ≤ 4) (hrl : rest.length ≤ 100)
    (h : ∀ a t t', V (.ref a) m ((a, tupO [.bytes (f :: rest ++ ct).toArray t, .int (ct.length : Int) t']) :: n)) : Ho true Pg w A g L m n (call (.ref 533) [.bytes key.toArray t1, .bytes data.toArray t2, .int st t3, .int na t4, .int en t5]) V := by
  have hge := X.F.ge
  have hlt := X.F.lt
  have e1 := X.e1
  have e2 := X.e2
  have n0 := X.n0
  have hml := maskG_len key smp
  have htf := X.tf
  have htn := X.tn
  obtain ⟨M, hM⟩ : ∃ M, maskG key smp = M := ⟨_, rfl⟩
  rw [hM] at hml htf htn
  have hsz := X.sz
  have hff := f.toNat_lt
  refine en_def ok_bare_head [("key", .bytes key.toArray t1), ("data", .bytes data.toArray t2), ("start", .int st t3), ("number_at", .int na t4), ("end", .int en t5)] [some (.bytes key.toArray t1), some (.bytes data.toArray t2), some (.int st t3), some (.int na t4), some (.int en t5), none, none, none, none, none, none, none, none, none, none] G hR (by k_is) (by k_is) rfl rfl rfl rfl fun g L A G hR => hb_cons (hx_asg (he_call (he_gv G gv_bare_head_sample_at (gl_sample_at w) (hc_def G (by tb_start) (ha_cons (he_lv lv_bare_head_data rfl (ha_cons (he_lv lv_bare_head_number_at rfl (ha_cons (he_lv lv_bare_head_end rfl (ha_nil (S_sample_at G (hR.le (by omega)) (by omega) e1 e2 (by omega) fun _ => ?_))))))))))))
  rw [X.sm]
  refine ho_sv lv_bare_head_sample rfl (kt_next (hb_cons (hx_if (ht_cmp (he_lv lv_bare_head_sample rfl (he_none (ho_isB (ho_tb (ho_if_f rfl (hb_nil (kt_next (hb_cons (hx_asg (he_call (he_gv G gv_bare_head_head_mask (gl_head_mask w) (hc_def G (by tb_start) (ha_cons (he_lv lv_bare_head_key rfl (ha_cons (he_lv lv_bare_head_sample rfl (ha_nil (S_mask G (hR.le (by omega)) fun _ => ?_))))))))))))))))))))))
  rw [hM]
  refine ho_sv lv_bare_head_mask rfl (kt_next (hb_cons (hx_asg (he_call (he_gv G gv_bare_head_turned_first (gl_turned_first w) (hc_def G (by tb_start) (ha_cons (he_sub (he_lv lv_bare_head_data rfl (he_lv lv_bare_head_start rfl (ho_bi (by ktr_room) (by ktr_room) (by ktr_room) fun _ => ?_)))))))))))
  refine ha_cons (he_lv lv_bare_head_mask rfl (ha_nil ?_))
  rw [X.F.get]
  refine S_turn_first G (hR.le (by omega)) hml fun _ => ?_
  rw [htf]
  have hcl : (cut data (some na) (some (na + (ct.length : Int)))).length = ct.length := by rw [← turnN_len _ M, htn]
  have hrs := X.rs
  refine ho_sv lv_bare_head_first rfl (kt_next (hb_cons (hx_asg (he_bin (he_bin (he_lv lv_bare_head_first rfl (he_int fun _ => ho_mod (by omega) fun _ => he_int fun _ => ho_add fun _ => ho_sv lv_bare_head_size rfl (kt_next (hb_cons (hx_asg (he_bin (he_call (he_bv G gv_bare_head_bytes (nb_bytes w) bb_bytes (by decide) (hc_ty (ha_cons (he_list (ha_cons (he_lv lv_bare_head_first rfl (ha_nil (And.intro (Nat.le_of_ble_eq_true rfl) fun k0 hk0 => ha_nil (ho_mkB1 hR.hh (by ktr_rel) (by ktr_room) (by ktr_room) fun _ => ?_)))))))))))))))))))))
  refine he_cut (he_lv lv_bare_head_data rfl (hp_some (he_bin (he_lv lv_bare_head_start rfl (he_int fun _ => ho_add fun _ => hp_some (he_lv lv_bare_head_number_at rfl (⟨_, _, _, _, rfl, by constructor, by constructor, by ktr_room, fun _ => ?_⟩)))))))
  rw [hrs, byte_back, hsz]
  refine ho_addB (by ktr_room) fun _ => ?_
  refine ho_sv lv_bare_head_head rfl (kt_next (hb_cons (hx_ret (he_tup (ha_cons (he_bin (he_lv lv_bare_head_head rfl (he_call (he_gv G gv_bare_head_turned_number (gl_turned_number w) (hc_def G (by tb_start) (ha_cons (he_cut (he_lv lv_bare_head_data rfl (hp_some (he_lv lv_bare_head_number_at rfl (hp_some (he_bin (he_lv lv_bare_head_number_at rfl (he_lv lv_bare_head_size rfl (ho_add fun _ => ⟨_, _, _, _, rfl, by constructor, by constructor, by ktr_room, fun _ => ?_⟩))))))))))))))))))))
  refine ha_cons (he_lv lv_bare_head_mask rfl (ha_nil (S_turn_num G (hR.le (by omega)) (by omega) hml fun _ => ?_)))
  rw [htn]
  refine ho_addB (by ktr_room) fun _ => ?_
  refine ha_cons (he_lv lv_bare_head_size rfl (ha_nil (And.intro (Nat.le_of_ble_eq_true rfl) fun u0 hu0 => kt_ret ?_)))
  exact ⟨(u0, _) :: n, by k_updF, h _ _ _⟩
theorem S_opened {x : Addr} {sp : Sp} {f' : UInt8} {d s pl : List UInt8} {st na en a num : Int} {t1 t2 t3 : Tok} (G : Gk w g) (hR : Rm A 2) (hx : RawIs w n x sp f' d (scidOf sp s) st na en) (ha : sp = .app → a / 32 % 2 = 0 ∧ a / 4 % 2 = 0)
    (h : ∀ b vs, pktV sp d s (.int num t2) (.bytes pl.toArray t3) vs → V (.ref b) m ((b, tupO vs) :: n)) : Ho true Pg w A g L m n (call (.ref 589) [.ref x, .int a t1, .int num t2, .bytes pl.toArray t3]) V := by
  obtain ⟨dx, r, u1, u2, u3, u4, u5, u6, u7, u8, u9, u10, v, hm1, hm2⟩ := hx
  cases sp with
  | ini =>
    refine en_def ok_opened [("raw", .ref x), ("first", .int a t1), ("number", .int num t2), ("payload", .bytes pl.toArray t3)] [some (.ref x), some (.int a t1), some (.int num t2), some (.bytes pl.toArray t3)] G hR (by k_is) (by k_is) rfl rfl rfl rfl fun g L A G hR => hb_cons (hx_if (ht_cmp (he_attr (he_lv lv_opened_raw rfl (ho_get G (at_RawPacket_kind w) (by ktr_rel) (by ktr_rel) dk_RawPacket_kind rfl rfl rfl ?_)))))
    refine he_str fun _ => ho_eqS (ho_tb (ho_if_f (by tb_rel) ?_))
    refine hb_nil (kt_next (hb_cons (hx_if (ht_cmp (he_attr (he_lv lv_opened_raw rfl (ho_get G (at_RawPacket_kind w) (by ktr_rel) (by ktr_rel) dk_RawPacket_kind rfl rfl rfl ?_)))))))
    refine he_str fun _ => ho_eqS (ho_tb (ho_if_t (by tb_rel) ?_))
    refine hb_cons (hx_ret (he_tup (ha_cons (he_str fun _ => ha_cons (he_attr (he_lv lv_opened_raw rfl (ho_get G (at_RawPacket_version w) (by ktr_rel) (by ktr_rel) dk_RawPacket_version rfl rfl rfl ?_)))))))
    refine ha_cons (he_attr (he_lv lv_opened_raw rfl (ho_get G (at_RawPacket_dcid w) (by ktr_rel) (by ktr_rel) dk_RawPacket_dcid rfl rfl rfl ?_)))
    refine ha_cons (he_attr (he_lv lv_opened_raw rfl (ho_get G (at_RawPacket_scid w) (by ktr_rel) (by ktr_rel) dk_RawPacket_scid rfl rfl rfl ?_)))
    refine ha_cons (he_attr (he_lv lv_opened_raw rfl (ho_get G (at_RawPacket_token w) (by ktr_rel) (by ktr_rel) dk_RawPacket_token rfl rfl rfl ?_)))
    refine ha_cons (he_lv lv_opened_number rfl (ha_cons (he_lv lv_opened_payload rfl (ha_nil (And.intro (Nat.le_of_ble_eq_true rfl) fun a0 ha0 => kt_ret (kt_ret ?_))))))
    exact ⟨_, .refl _, h _ _ ⟨_, _, _, _, _, rfl⟩⟩
  | han =>
    refine en_def ok_opened [("raw", .ref x), ("first", .int a t1), ("number", .int num t2), ("payload", .bytes pl.toArray t3)] [some (.ref x), some (.int a t1), some (.int num t2), some (.bytes pl.toArray t3)] G hR (by k_is) (by k_is) rfl rfl rfl rfl fun g L A G hR => hb_cons (hx_if (ht_cmp (he_attr (he_lv lv_opened_raw rfl (ho_get G (at_RawPacket_kind w) (by ktr_rel) (by ktr_rel) dk_RawPacket_kind rfl rfl rfl ?_)))))
    refine he_str fun _ => ho_eqS (ho_tb (ho_if_f (by tb_rel) ?_))
    refine hb_nil (kt_next (hb_cons (hx_if (ht_cmp (he_attr (he_lv lv_opened_raw rfl (ho_get G (at_RawPacket_kind w) (by ktr_rel) (by ktr_rel) dk_RawPacket_kind rfl rfl rfl ?_)))))))
    refine he_str fun _ => ho_eqS (ho_tb (ho_if_f (by tb_rel) ?_))
    refine hb_nil (kt_next (hb_cons (hx_ret (he_tup (ha_cons (he_attr (he_lv lv_opened_raw rfl (ho_get G (at_RawPacket_kind w) (by ktr_rel) (by ktr_rel) dk_RawPacket_kind rfl rfl rfl ?_))))))))
    refine ha_cons (he_attr (he_lv lv_opened_raw rfl (ho_get G (at_RawPacket_version w) (by ktr_rel) (by ktr_rel) dk_RawPacket_version rfl rfl rfl ?_)))
    refine ha_cons (he_attr (he_lv lv_opened_raw rfl (ho_get G (at_RawPacket_dcid w) (by ktr_rel) (by ktr_rel) dk_RawPacket_dcid rfl rfl rfl ?_)))
    refine ha_cons (he_attr (he_lv lv_opened_raw rfl (ho_get G (at_RawPacket_scid w) (by ktr_rel) (by ktr_rel) dk_RawPacket_scid rfl rfl rfl ?_)))
    refine ha_cons (he_lv lv_opened_number rfl (ha_cons (he_lv lv_opened_payload rfl (ha_nil (And.intro (Nat.le_of_ble_eq_true rfl) fun a0 ha0 => kt_ret ?_)))))
    exact ⟨_, .refl _, h _ _ ⟨_, _, _, _, rfl⟩⟩
  | app =>
    obtain ⟨e1, e2⟩ := ha rfl
    refine en_def ok_opened [("raw", .ref x), ("first", .int a t1), ("number", .int num t2), ("payload", .bytes pl.toArray t3)] [some (.ref x), some (.int a t1), some (.int num t2), some (.bytes pl.toArray t3)] G hR (by k_is) (by k_is) rfl rfl rfl rfl fun g L A G hR => hb_cons (hx_if (ht_cmp (he_attr (he_lv lv_opened_raw rfl (ho_get G (at_RawPacket_kind w) (by ktr_rel) (by ktr_rel) dk_RawPacket_kind rfl rfl rfl ?_)))))
    refine he_str fun _ => ho_eqS (ho_tb (ho_if_t (by tb_rel) ?_))
    refine hb_cons (hx_ret (he_tup (ha_cons (he_str fun _ => ha_cons (he_bin (he_bin (he_lv lv_opened_first rfl (he_int fun _ => ho_div (by omega) (PyProof.noPylong_of_log2 (by decide +kernel)) fun _ => he_int fun _ => ho_mod (by omega) fun _ => ha_cons (he_bin (he_bin (he_lv lv_opened_first rfl (he_int fun _ => ho_div (by omega) (PyProof.noPylong_of_log2 (by decide +kernel)) fun _ => he_int fun _ => ho_mod (by omega) fun _ => ha_cons (he_attr (he_lv lv_opened_raw rfl (ho_get G (at_RawPacket_dcid w) (by ktr_rel) (by ktr_rel) dk_RawPacket_dcid rfl rfl rfl ?_)))))))))))))))
    refine ha_cons (he_lv lv_opened_number rfl (ha_cons (he_lv lv_opened_payload rfl (ha_nil (And.intro (Nat.le_of_ble_eq_true rfl) fun a0 ha0 => kt_ret (kt_ret ?_))))))
    rw [e1, e2]
    exact ⟨_, .refl _, h _ _ ⟨_, _, _, _, rfl⟩⟩
theorem gw_snoc (l : List UInt8) (x : UInt8) : gw (l ++ [x]) = gw l * 256 + (x.toNat : Int) := by unfold gw; rw [List.foldl_append]; rfl
theorem gw_be : ∀ (k : Nat) (v : Int), 0 ≤ v → v < 256 ^ k → gw (be k v) = v
  | 0, v, h0, h1 => by
    have : v = 0 := by simp at h1; omega
    subst this; rfl
  | k + 1, v, h0, h1 => by
    have hk : v / 256 < 256 ^ k := Int.ediv_lt_of_lt_mul (by decide) (by rw [Int.pow_succ] at h1; exact h1)
    rw [be, gw_snoc, gw_be k (v / 256) (by omega) hk, byte_of (by omega) (by omega)]
    omega
theorem cut_in {l a b c : List UInt8} {i j : Int} {u k : Nat} (e : l = a ++ (b ++ c)) (h0 : i = (a.length : Int) + (u : Int)) (h1 : j = i + (k : Int)) (h2 : u + k ≤ b.length) : cut l (some i) (some j) = (b.drop u).take k := by
  subst e
  rw [cut_eq (by omega) (by omega) (by simp; omega)]
  have e1 : i.toNat = a.length + u := by omega
  have e2 : j.toNat - i.toNat = k := by omega
  rw [e2, e1, ← List.drop_drop, List.drop_left, List.drop_append_of_le_length (by omega), List.take_append_of_le_length (by simp; omega)]
theorem xor_div {a y : Nat} (j : Nat) (h : y < 2 ^ j) : (a ^^^ y) / 2 ^ j = a / 2 ^ j := by
  rw [Nat.xor_div_two_pow, Nat.div_eq_of_lt h, Nat.xor_zero]
theorem turnF_side {a : Int} (k : List UInt8) (h0 : 0 ≤ a) (h1 : a < 256) : turnF a k / 32 = a / 32 ∧ (128 ≤ a → turnF a k / 16 = a / 16) := by
  unfold turnF
  by_cases h : 128 ≤ a
  · rw [if_pos h]
    have hb := bitAnd_byte (x := ((k.getD 0 0).toNat : Int)) (y := 15) (by omega) (by decide)
    rw [bitXor_pp h0 hb.1]
    have e := xor_div (a := a.toNat) (y := (Builtin.bitAnd ((k.getD 0 0).toNat : Int) 15).toNat) 4 (by omega)
    have e2 := xor_div (a := a.toNat) (y := (Builtin.bitAnd ((k.getD 0 0).toNat : Int) 15).toNat) 5 (by omega)
    generalize a.toNat ^^^ (Builtin.bitAnd ((k.getD 0 0).toNat : Int) 15).toNat = z at e e2
    omega
  · rw [if_neg h]
    have hb := bitAnd_byte (x := ((k.getD 0 0).toNat : Int)) (y := 31) (by omega) (by decide)
    rw [bitXor_pp h0 hb.1]
    have e2 := xor_div (a := a.toNat) (y := (Builtin.bitAnd ((k.getD 0 0).toNat : Int) 31).toNat) 5 (by omega)
    generalize a.toNat ^^^ (Builtin.bitAnd ((k.getD 0 0).toNat : Int) 31).toNat = z at e2
    omega
theorem turnF_inv {a : Int} (k : List UInt8) (h0 : 0 ≤ a) (h1 : a < 256) : turnF (turnF a k) k = a := by
  have hs := turnF_side k h0 h1
  have hr := turnF_range k h0 h1
  have e : (128 ≤ turnF a k) = (128 ≤ a) := propext ⟨fun _ => by omega, fun _ => by omega⟩
  unfold turnF at e ⊢
  simp only [e]
  refine bitXor_inv h0 ?_
  by_cases h : 128 ≤ a
  · rw [if_pos h]; exact (bitAnd_byte (by omega) (by decide)).1
  · rw [if_neg h]; exact (bitAnd_byte (by omega) (by decide)).1
theorem pkG_parts (sp : Sp) (d s key : List UInt8) (num ap : Int) (pl : List UInt8) : ∃ (F f' : UInt8) (rest ct M sl : List UInt8), F = (firstG sp (szG ap : Nat)).toNat.toUInt8 ∧ rest = restG sp d s ((szG ap : Nat) + (pl.length : Int) + 16) ∧ ct = cutG num ap ∧ M = mskG key num (F :: rest) ct pl ∧ sl = sealG key num (F :: rest ++ ct) pl ∧ f' = (turnF (F.toNat : Int) M).toNat.toUInt8 ∧ pkG sp d s key num ap pl = [f'] ++ rest ++ turnN ct M ++ sl :=
  ⟨_, _, _, _, _, _, rfl, rfl, rfl, rfl, rfl, rfl, rfl⟩
theorem sealG_len (key hed pl : List UInt8) (v : Int) : (sealG key v hed pl).length = pl.length + 16 := by
  unfold sealG; rw [List.length_append, turned_len, tagG_len]
theorem bare_of {key data pre post rest ct sl M pl : List UInt8} {num : Int} {f f' : UInt8} {st na en : Int} (e : data = pre ++ ([f'] ++ rest ++ turnN ct M ++ sl) ++ post) (hM : M = mskG key num (f :: rest) ct pl) (hsl : sl = sealG key num (f :: rest ++ ct) pl) (hf' : f' = (turnF (f.toNat : Int) M).toNat.toUInt8)
    (hst : st = (pre.length : Int)) (hna : na = st + 1 + (rest.length : Int)) (hen : en = na + (ct.length : Int) + (pl.length : Int) + 16) (hct : ct.length ≤ 4) (h4 : 4 ≤ ct.length + pl.length) (hsz : (f.toNat : Int) % 4 + 1 = (ct.length : Int)) :
    BareAt key data st na en f' f rest ct (smpG key num (f :: rest) ct pl) ∧ cut data (some (na + (ct.length : Int))) (some en) = sl := by
  have hff := f.toNat_lt
  have hll : sl.length = pl.length + 16 := by rw [hsl, sealG_len]
  have htl := turnN_len ct M
  have hMk : maskG key (smpG key num (f :: rest) ct pl) = M := hM.symm
  have hr := turnF_range M (a := (f.toNat : Int)) (by omega) (by omega)
  have hfb : (f'.toNat : Int) = turnF (f.toNat : Int) M := by rw [hf', byte_of hr.1 hr.2]
  have hdl : data.length = pre.length + 1 + rest.length + ct.length + pl.length + 16 + post.length := by rw [e]; simp [htl, hll]; omega
  generalize hT : turnN ct M = T at e htl
  have hsmp : smpG key num (f :: rest) ct pl = (sl.drop (4 - ct.length)).take 16 := by
    unfold smpG
    rw [← hsl]
    exact cut_in (a := f :: rest ++ ct) (b := sl) (c := []) (by simp) (by simp; omega) (by omega) (by omega)
  generalize hS : smpG key num (f :: rest) ct pl = S at hsmp hMk
  refine ⟨⟨⟨?_, ?_, by omega, by omega⟩, ?_, by omega, by omega, by omega, ?_, hsz, ?_, ?_⟩, ?_⟩
  · exact cut_of (a := pre) (b := [f']) (c := rest ++ T ++ sl ++ post) (by rw [e]; simp) (by omega) (by simp; omega)
  · rw [e]
    have : pre ++ ([f'] ++ rest ++ T ++ sl) ++ post = pre ++ f' :: (rest ++ T ++ sl ++ post) := by simp
    rw [this]
    exact getD_mid (by omega)
  · rw [hsmp]
    exact cut_in (a := pre ++ [f'] ++ rest ++ T) (b := sl) (c := post) (by rw [e]; simp) (by simp; omega) (by omega) (by omega)
  · rw [hMk, hfb]; exact turnF_inv M (by omega) (by omega)
  · exact cut_of (a := pre ++ [f']) (b := rest) (c := T ++ sl ++ post) (by rw [e]; simp) (by simp; omega) (by simp; omega)
  · rw [hMk, cut_of (a := pre ++ [f'] ++ rest) (b := T) (c := sl ++ post) (by rw [e]; simp) (by simp; omega) (by simp; omega), ← hT, turnN_inv]
  · exact cut_of (a := pre ++ [f'] ++ rest ++ T) (b := sl) (c := post) (by rw [e]; simp) (by simp; omega) (by simp; omega)
theorem firstG_range (sp : Sp) {k : Nat} (hk : k = 1 ∨ k = 2) : 0 ≤ firstG sp (k : Nat) ∧ firstG sp (k : Nat) < 256 := by
  cases sp <;> simp only [firstG] <;> omega
theorem oneAt_of {data a c : List UInt8} {x : UInt8} {i : Int} (e : data = a ++ x :: c) (h : i = (a.length : Int)) : OneAt data i x where
  cut := cut_of (a := a) (b := [x]) (c := c) (by rw [e]; rfl) h (by rw [h]; rfl)
  get := by rw [e]; exact getD_mid (by omega)
  lt := by rw [e]; simp; omega
  ge := by omega
structure PkData (sp : Sp) (data d s key pl : List UInt8) (num ap : Int) (st : Int) (f' : UInt8) (na en : Int) : Prop where
  F : OneAt data st f'
  P : PkAt data sp f' d s st na en
  B : ∃ (F : UInt8) (rest ct smp : List UInt8), (F.toNat : Int) = firstG sp (szG ap : Nat) ∧ ct = cutG num ap ∧ rest.length ≤ 60 ∧ BareAt key data st na en f' F rest ct smp ∧ cut data (some (na + (ct.length : Int))) (some en) = sealG key num (F :: rest ++ ct) pl
theorem pk_ini {data pre T sl post d s : List UInt8} {f' zc : UInt8} {st na en : Int} (e : data = pre ++ ([f'] ++ (be 4 1 ++ idsG d s ++ [0, zc]) ++ T ++ sl) ++ post) (hst : st = (pre.length : Int)) (hf : f'.toNat / 16 = 12) (hz : zc.toNat < 64) (hl : T.length + sl.length = zc.toNat)
    (hna : na = st + 1 + ((d.length : Int) + (s.length : Int) + 8)) (hen : en = na + (zc.toNat : Int)) : PkAt data .ini f' d s st na en := by
  have hidl : (idsG d s).length = d.length + s.length + 2 := by simp [idsG]; omega
  have hbl := be_len 4 1
  have hdl : data.length = pre.length + (d.length + s.length + 9) + T.length + sl.length + post.length := by rw [e]; simp [hidl, hbl]; omega
  have e1 : data = pre ++ f' :: (be 4 1 ++ idsG d s ++ ([0, zc] ++ T ++ sl ++ post)) := by rw [e]; simp
  have e2 : data = (pre ++ [f'] ++ be 4 1 ++ idsG d s) ++ 0 :: ([zc] ++ T ++ sl ++ post) := by rw [e]; simp
  have e3 : data = (pre ++ [f'] ++ be 4 1 ++ idsG d s ++ [0]) ++ zc :: (T ++ sl ++ post) := by rw [e]; simp
  clear e
  refine ⟨longAt_of e1 hst, hf, oneAt_of e2 ?_, ?_, zc, oneAt_of e3 ?_, hz, hen, ?_⟩
  · simp only [List.length_append, hidl, hbl, List.length_singleton]; omega
  · omega
  · simp only [List.length_append, hidl, hbl, List.length_singleton]; omega
  · omega
theorem pk_han {data pre T sl post d s : List UInt8} {f' zc : UInt8} {st na en : Int} (e : data = pre ++ ([f'] ++ (be 4 1 ++ idsG d s ++ [zc]) ++ T ++ sl) ++ post) (hst : st = (pre.length : Int)) (hf : f'.toNat / 16 = 14) (hz : zc.toNat < 64) (hl : T.length + sl.length = zc.toNat)
    (hna : na = st + 1 + ((d.length : Int) + (s.length : Int) + 7)) (hen : en = na + (zc.toNat : Int)) : PkAt data .han f' d s st na en := by
  have hidl : (idsG d s).length = d.length + s.length + 2 := by simp [idsG]; omega
  have hbl := be_len 4 1
  have hdl : data.length = pre.length + (d.length + s.length + 8) + T.length + sl.length + post.length := by rw [e]; simp [hidl, hbl]; omega
  have e1 : data = pre ++ f' :: (be 4 1 ++ idsG d s ++ ([zc] ++ T ++ sl ++ post)) := by rw [e]; simp
  have e3 : data = (pre ++ [f'] ++ be 4 1 ++ idsG d s) ++ zc :: (T ++ sl ++ post) := by rw [e]; simp
  clear e
  refine ⟨longAt_of e1 hst, hf, ?_, zc, oneAt_of e3 ?_, hz, hen, ?_⟩
  · omega
  · simp only [List.length_append, hidl, hbl, List.length_singleton]; omega
  · omega
theorem pk_app {data pre T sl d s : List UInt8} {f' : UInt8} {st na en : Int} (e : data = pre ++ ([f'] ++ d ++ T ++ sl)) (hst : st = (pre.length : Int)) (hf : f'.toNat / 64 = 1) (hd : d.length = 4)
    (hna : na = st + 1 + (d.length : Int)) (hen : en = st + 1 + (d.length : Int) + (T.length : Int) + (sl.length : Int)) : PkAt data .app f' d s st na en := by
  have hdl : data.length = pre.length + 1 + d.length + T.length + sl.length := by rw [e]; simp; omega
  refine ⟨hf, cut_of (a := pre ++ [f']) (b := d) (c := T ++ sl) (by rw [e]; simp) (by simp; omega) (by simp; omega), by omega, by omega, by omega⟩
theorem first_wire {f f' : UInt8} {M : List UInt8} {i : Int} (hf' : f' = (turnF (f.toNat : Int) M).toNat.toUInt8) (hf : (f.toNat : Int) = i) (h0 : 0 ≤ i) (h1 : i < 256) : (f'.toNat : Int) / 32 = i / 32 ∧ (128 ≤ i → (f'.toNat : Int) / 16 = i / 16) := by
  subst hf'
  subst hf
  have hrr := turnF_range M h0 h1
  rw [byte_of hrr.1 hrr.2]
  exact turnF_side M h0 h1
theorem rest_ini (d s : List UInt8) (r : Int) : (restG .ini d s r).length = d.length + s.length + 8 := by simp [restG, idsG, be_len]; omega
theorem rest_han (d s : List UInt8) (r : Int) : (restG .han d s r).length = d.length + s.length + 7 := by simp [restG, idsG, be_len]; omega
theorem first_sz (sp : Sp) {k : Nat} (hk : k = 1 ∨ k = 2) : (((firstG sp (k : Nat)).toNat.toUInt8).toNat : Int) % 4 + 1 = k := by
  have hfr := firstG_range sp hk
  rw [byte_of hfr.1 hfr.2]
  cases sp <;> simp only [firstG] <;> omega
theorem pk_at {sp : Sp} {data pre post d s key pl : List UInt8} {num ap st : Int} (e : data = pre ++ pkG sp d s key num ap pl ++ post) (hpost : sp = .app → post = [] ∧ d.length = 4) (hst : st = (pre.length : Int)) (hl : pl.length ≤ 40) (h4 : 4 ≤ szG ap + pl.length) (h1 : d.length ≤ 20) (h2 : s.length ≤ 20) :
    ∃ f' na, PkData sp data d s key pl num ap st f' na (st + ((pkG sp d s key num ap pl).length : Int)) := by
  have hk := sz_cases ap
  have hfr := firstG_range sp hk
  have hrl := restG_len sp d s ((szG ap : Nat) + (pl.length : Int) + 16) h1 h2
  have hrz : sp = .ini → (restG sp d s ((szG ap : Nat) + (pl.length : Int) + 16)).length = d.length + s.length + 8 := fun h => by subst h; exact rest_ini _ _ _
  have hry : sp = .han → (restG sp d s ((szG ap : Nat) + (pl.length : Int) + 16)).length = d.length + s.length + 7 := fun h => by subst h; exact rest_han _ _ _
  have hcl := cutG_len num ap
  obtain ⟨F, f', rest, ct, M, sl, hF, hrest, hct, hM, hsl, hf', hpk⟩ := pkG_parts sp d s key num ap pl
  have hsz := first_sz sp hk
  have hFi : (F.toNat : Int) = firstG sp (szG ap : Nat) := by rw [hF]; exact byte_of hfr.1 hfr.2
  rw [← hF] at hsz
  rw [← hrest] at hrl hrz hry
  rw [← hct] at hcl
  have hw := first_wire hf' hFi hfr.1 hfr.2
  have hll : sl.length = pl.length + 16 := by rw [hsl]; exact sealG_len _ _ _ _
  have hTl : (turnN ct M).length = szG ap := (turnN_len ct M).trans hcl
  rw [hpk] at e
  have hlen : (([f'] ++ rest ++ turnN ct M ++ sl).length : Int) = 1 + (rest.length : Int) + (szG ap : Nat) + (pl.length : Int) + 16 := by
    rw [List.length_append, List.length_append, List.length_append, hTl, hll, List.length_singleton]; omega
  rw [hpk, hlen]
  have hB := bare_of (key := key) (num := num) (na := st + 1 + (rest.length : Int)) (en := st + (1 + (rest.length : Int) + (szG ap : Nat) + (pl.length : Int) + 16)) e hM hsl hf' hst rfl (by rw [hcl]; omega) (by omega) (by omega) (by rw [hcl]; exact hsz)
  refine ⟨f', st + 1 + (rest.length : Int), hB.1.F, ?_, F, rest, ct, _, hFi, hct, hrl, hB.1, hB.2.trans hsl⟩
  clear hB hsl hM hf' hF hFi hpk hlen hfr hsz
  generalize turnN ct M = T at e hTl
  clear hcl hct
  generalize szG ap = k at *
  cases sp with
  | ini =>
    simp only [firstG] at hw
    have hz := byte_of (i := (k : Int) + (pl.length : Int) + 16) (by omega) (by omega)
    have hr := hrz rfl
    rw [hr]
    simp only [restG] at hrest
    rw [hrest] at e
    generalize ((k : Int) + (pl.length : Int) + 16).toNat.toUInt8 = zc at hz e
    exact pk_ini e hst (by omega) (by omega) (by omega) (by omega) (by omega)
  | han =>
    simp only [firstG] at hw
    have hz := byte_of (i := (k : Int) + (pl.length : Int) + 16) (by omega) (by omega)
    have hr := hry rfl
    rw [hr]
    simp only [restG] at hrest
    rw [hrest] at e
    generalize ((k : Int) + (pl.length : Int) + 16).toNat.toUInt8 = zc at hz e
    exact pk_han e hst (by omega) (by omega) (by omega) (by omega) (by omega)
  | app =>
    obtain ⟨rfl, hd4⟩ := hpost rfl
    simp only [firstG] at hw
    simp only [restG] at hrest
    subst hrest
    exact pk_app (by rw [e, List.append_nil]) hst (by omega) hd4 rfl (by omega)
noncomputable def Rst (v : Value) (a ap : Int) : Prop := (v = .none ∧ ap = a + 1) ∨ ∃ e t, v = .int e t ∧ ap = a - e ∧ 0 ≤ e ∧ 1 ≤ ap ∧ ap ≤ 128
theorem Rst.ack {v : Value} {a ap : Int} : Rst v a ap → Ack v a ap
  | .inl h => .inl h
  | .inr ⟨e, t, h1, h2, _⟩ => .inr ⟨e, t, h1, h2⟩
theorem S_open_packet {sp : Sp} {data d s key pl : List UInt8} {num ap st na en : Int} {f' : UInt8} {x : Addr} {av : Value} {t1 t2 : Tok} (G : Gk w g) (hR : Rm A 5) (X : PkData sp data d s key pl num ap st f' na en) (hx : RawIs w n x sp f' d (scidOf sp s) st na en) (hz : data.length ≤ 10000) (hl : pl.length ≤ 40) (hv : Rst av num ap) (h0 : 0 ≤ num) (hn : num < 30000)
    (h : ∀ b vs t t', pktV sp d s (.int num t) (.bytes pl.toArray t') vs → V (.ref b) m ((b, tupO vs) :: n)) : Ho true Pg w A g L m n (call (.ref 582) [.bytes data.toArray t1, .ref x, .bytes key.toArray t2, av]) V := by
  have hk := sz_cases ap
  obtain ⟨F, rest, ct, smp, hF, hct, hrl, hB, hS⟩ := X.B
  have hcl : ct.length = szG ap := by rw [hct]; exact cutG_len num ap
  have hgw : gw ct = num % 256 ^ szG ap := by
    rw [hct]
    have hp : (0 : Int) < 256 ^ szG ap := Int.pow_pos (by decide)
    exact gw_be _ _ (Int.emod_nonneg _ (by omega)) (Int.emod_lt_of_pos _ hp)
  have hrb : (if 128 ≤ (F.toNat : Int) then (F.toNat : Int) / 4 % 4 else (F.toNat : Int) / 8 % 4) = 0 := by
    rw [hF]
    rcases hk with e | e <;> rw [e] <;> cases sp <;> decide +kernel
  have happ : sp = .app → (F.toNat : Int) / 32 % 2 = 0 ∧ (F.toNat : Int) / 4 % 2 = 0 := by
    rintro rfl
    rw [hF]
    simp only [firstG]
    omega
  have hx' := hx
  obtain ⟨dx, r, u1, u2, u3, u4, u5, u6, u7, u8, u9, u10, v, hm1, hm2⟩ := hx'
  have hhl : (F :: rest ++ ct).length = rest.length + 1 + ct.length := by simp; omega
  have hcc : cut (F :: rest ++ ct) (some (((F :: rest ++ ct).length : Int) - (ct.length : Int))) (some (((F :: rest ++ ct).length : Int) - (ct.length : Int) + (ct.length : Int))) = ct :=
    cut_of (a := F :: rest) (b := ct) (c := []) (by simp) (by simp; omega) (by simp; omega)
  clear hct
  refine en_def ok_open_packet [("data", .bytes data.toArray t1), ("raw", .ref x), ("key", .bytes key.toArray t2), ("largest_seen", av)] [some (.bytes data.toArray t1), some (.ref x), some (.bytes key.toArray t2), some (av), none, none, none, none, none, none, none, none, none, none, none, none, none, none] G hR (by k_is) (by k_is) rfl rfl rfl rfl fun g L A G hR => hb_cons (hx_asg (he_call (he_gv G gv_open_packet_bare_head (gl_bare_head w) (hc_def G (by tb_start) (ha_cons (he_lv lv_open_packet_key rfl (ha_cons (he_lv lv_open_packet_data rfl (ha_cons (he_attr (he_lv lv_open_packet_raw rfl (ho_get G (at_RawPacket_start w) (by ktr_rel) (by ktr_rel) dk_RawPacket_start rfl rfl rfl ?_))))))))))))
  refine ha_cons (he_attr (he_lv lv_open_packet_raw rfl (ho_get G (at_RawPacket_number_at w) (by ktr_rel) (by ktr_rel) dk_RawPacket_number_at rfl rfl rfl ?_)))
  refine ha_cons (he_attr (he_lv lv_open_packet_raw rfl (ho_get G (at_RawPacket_end w) (by ktr_rel) (by ktr_rel) dk_RawPacket_end rfl rfl rfl ?_)))
  refine ha_nil (S_bare G (hR.le (by omega)) hz hB (by omega) (by omega) fun ta v1 v2 => ho_sv lv_open_packet_told rfl (kt_next (hb_cons (hx_if (ht_cmp (he_lv lv_open_packet_told rfl (he_none (ho_isR (ho_tb (ho_if_f rfl (hb_nil (kt_next (hb_cons (hx_asgT (he_lv lv_open_packet_told rfl (ha_tup hR.hh (by ktr_rel) rfl rfl ?_))))))))))))))))
  refine hi_cons (hs_name (ho_sv lv_open_packet_head rfl (hi_cons (hs_name (ho_sv lv_open_packet_size rfl (hi_nil (kt_next (hb_cons (hx_asg (he_call (he_gv G gv_open_packet_restore_number (gl_restore_number w) (hc_def G (by tb_start) (ha_cons (he_call (he_gv G gv_open_packet_get_whole (gl_get_whole w) (hc_def G (by tb_start) (ha_cons (he_lv lv_open_packet_head rfl (ha_cons (he_bin (he_call (he_bv G gv_open_packet_len (nb_len w) bb_len (by decide) (hc_b (ha_cons (he_lv lv_open_packet_head rfl (ha_nil (ho_lenB (by ktr_room) fun _ => ?_)))))))))))))))))))))))))))
  refine he_lv lv_open_packet_size rfl (ho_sub fun _ => ha_cons (he_lv lv_open_packet_size rfl (ha_nil (S_get_whole G (hR.le (by omega)) (by omega) (by omega) (by omega) (by omega) fun _ => ?_))))
  rw [hcc, hgw, hcl]
  refine ha_cons (he_lv lv_open_packet_size rfl (ha_cons (he_lv lv_open_packet_largest_seen rfl (ha_nil (S_restore G (hR.le (by omega)) hv h0 hn fun _ => ho_sv lv_open_packet_number rfl (kt_next (hb_cons (hx_asg (he_call (he_gv G gv_open_packet_open_sealed (gl_open_sealed w) (hc_def G (by tb_start) (ha_cons (he_lv lv_open_packet_key rfl (ha_cons (he_lv lv_open_packet_number rfl (ha_cons (he_lv lv_open_packet_head rfl (ha_cons (he_cut (he_lv lv_open_packet_data rfl (hp_some (he_bin (he_attr (he_lv lv_open_packet_raw rfl (ho_get G (at_RawPacket_number_at w) (by ktr_rel) (by ktr_rel) dk_RawPacket_number_at rfl rfl rfl ?_)))))))))))))))))))))))))
  refine he_lv lv_open_packet_size rfl (ho_add fun _ => hp_some (he_attr (he_lv lv_open_packet_raw rfl (ho_get G (at_RawPacket_end w) (by ktr_rel) (by ktr_rel) dk_RawPacket_end rfl rfl rfl ?_))))
  refine ⟨_, _, _, _, rfl, by constructor, by constructor, by ktr_room, fun _ => ?_⟩
  refine ha_nil ?_
  rw [hcl] at hS
  rw [hS]
  refine S_open_sealed G (hR.le (by omega)) (by omega) (by omega) fun _ => ho_sv lv_open_packet_payload rfl (kt_next (hb_cons (hx_if (ht_cmp (he_lv lv_open_packet_payload rfl (he_none (ho_isB (ho_tb (ho_if_f rfl (hb_nil (kt_next (hb_cons (hx_if (ht_cmp (he_call (he_gv G gv_open_packet_reserved_bits (gl_reserved_bits w) (hc_def G (by tb_start) (ha_cons (he_sub (he_lv lv_open_packet_head rfl (he_int fun _ => ho_bi (by ktr_room) (by ktr_room) (by ktr_room) fun _ => ?_)))))))))))))))))))))
  refine ha_nil ?_
  have eg : (F :: rest ++ ct).getD (Int.toNat 0) 0 = F := rfl
  rw [eg]
  refine S_reserved G (hR.le (by omega)) fun _ => ?_
  rw [hrb]
  refine he_int fun _ => ho_neI (ho_tb (ho_if_f (bne_eq_false_iff_eq.mpr (by omega)) (hb_nil (kt_next (hb_cons (hx_ret (he_call (he_gv G gv_open_packet_opened (gl_opened w) (hc_def G (by tb_start) (ha_cons (he_lv lv_open_packet_raw rfl (ha_cons (he_sub (he_lv lv_open_packet_head rfl (he_int fun _ => ho_bi (by ktr_room) (by ktr_room) (by ktr_room) fun _ => ?_)))))))))))))))
  refine ha_cons (he_lv lv_open_packet_number rfl (ha_cons (he_lv lv_open_packet_payload rfl (ha_nil ?_))))
  rw [eg]
  refine S_opened G (hR.le (by omega)) (hx.mono fun p hp => .tail _ hp) happ fun b vs hvs => ?_
  exact kt_ret ⟨(b, tupO vs) :: n, by k_updF, h b vs _ _ hvs⟩
theorem S_law_octets {c : Int} {ft : Option Int} {r : List UInt8} {sp : Sp} {a : Addr} {vs : List Value} {t : Tok} (G : Gk w g) (hR : Rm A 1) (hm : (a, tupO vs) ∈ n) (hv : clV c ft r vs) (hok : clOk c ft r)
    (h : ∀ t, V (.bytes (clG (frC c ft sp) (frT ft sp) (frR ft r sp)).toArray t) m n) : Ho true Pg w A g L m n (call (.ref 632) [.ref a, .str sp.space t]) V := by
  obtain ⟨c0, c1, hk, hr⟩ := hok
  cases ft with
  | some k =>
    obtain ⟨k0, k1⟩ := hk k rfl
    obtain ⟨t0, t1, t2, t3, rfl⟩ := hv
    refine en_def ok_law_octets [("frame", .ref a), ("space", .str sp.space t)] [some (.ref a), some (.str sp.space t), none, none] G hR (by k_is) (by k_is) rfl rfl rfl rfl fun g L A G hR => hb_cons (hx_if (ht_cmp (he_sub (he_lv lv_law_octets_frame rfl (he_int fun _ => ho_ti (by ktr_rel) (by ktr_room) (by ktr_room) rfl rfl ?_)))))
    refine he_none (ho_isNI (ho_tb (ho_if_t rfl (hb_cons (hx_ret (he_bin (he_call (he_bv G gv_law_octets_bytes (nb_bytes w) bb_bytes (by decide) (hc_ty (ha_cons (he_list (ha_cons (he_int fun _ => ha_cons (he_sub (he_lv lv_law_octets_frame rfl (he_int fun _ => ho_ti (by ktr_rel) (by ktr_room) (by ktr_room) rfl rfl ?_))))))))))))))))
    refine ha_cons (he_sub (he_lv lv_law_octets_frame rfl (he_int fun _ => ho_ti (by ktr_rel) (by ktr_room) (by ktr_room) rfl rfl ?_)))
    refine ha_cons (he_call (he_bv G gv_law_octets_len (nb_len w) bb_len (by decide) (hc_b (ha_cons (he_sub (he_lv lv_law_octets_frame rfl (he_int fun _ => ho_ti (by ktr_rel) (by ktr_room) (by ktr_room) rfl rfl ?_)))))))
    refine ha_nil (ho_lenB (by ktr_room) fun _ => ?_)
    refine ha_nil (And.intro (Nat.le_of_ble_eq_true rfl) fun a0 ha0 => ha_nil (ho_mkB (ns := [28, c, k, (r.length : Int)]) hR.hh (.head _) (.cons _ _ (.cons _ _ (.cons _ _ (.cons _ _ .nil)))) (by simp; omega) (by simp [sizeLine_eq]) fun _ => ?_))
    rw [show ([28, c, k, (r.length : Int)] : List Int).map (fun n => n.toNat.toUInt8) = [28, c.toNat.toUInt8, k.toNat.toUInt8, (r.length : Int).toNat.toUInt8] from rfl]
    refine he_sub (he_lv lv_law_octets_frame rfl (he_int fun _ => ho_ti (by ktr_rel) (by ktr_room) (by ktr_room) rfl rfl ?_))
    refine ho_addB (by ktr_room) fun _ => ?_
    refine kt_ret (kt_ret ?_)
    have e : clG (frC c (some k) sp) (frT (some k) sp) (frR (some k) r sp) = [28, c.toNat.toUInt8, k.toNat.toUInt8, (r.length : Int).toNat.toUInt8] ++ r := by simp [frC, frT, frR, clG]
    rw [e] at h
    exact ⟨n, by k_updF, h _⟩
  | none =>
    obtain ⟨t0, t1, t2, rfl⟩ := hv
    cases sp with
    | app =>
      refine en_def ok_law_octets [("frame", .ref a), ("space", .str Sp.app.space t)] [some (.ref a), some (.str Sp.app.space t), none, none] G hR (by k_is) (by k_is) rfl rfl rfl rfl fun g L A G hR => hb_cons (hx_if (ht_cmp (he_sub (he_lv lv_law_octets_frame rfl (he_int fun _ => ho_ti (by ktr_rel) (by ktr_room) (by ktr_room) rfl rfl ?_)))))
      refine he_none (ho_isNO (ho_tb (ho_if_f rfl (hb_nil (kt_next (hb_cons (hx_if (ht_cmp (he_lv lv_law_octets_space rfl (he_str fun _ => ho_eqS (ho_tb (ho_if_t (by tb_rel) ?_))))))))))))
      refine hb_cons (hx_ret (he_bin (he_call (he_bv G gv_law_octets_bytes (nb_bytes w) bb_bytes (by decide) (hc_ty (ha_cons (he_list (ha_cons (he_int fun _ => ha_cons (he_sub (he_lv lv_law_octets_frame rfl (he_int fun _ => ho_ti (by ktr_rel) (by ktr_room) (by ktr_room) rfl rfl ?_))))))))))))
      refine ha_cons (he_call (he_bv G gv_law_octets_len (nb_len w) bb_len (by decide) (hc_b (ha_cons (he_sub (he_lv lv_law_octets_frame rfl (he_int fun _ => ho_ti (by ktr_rel) (by ktr_room) (by ktr_room) rfl rfl ?_)))))))
      refine ha_nil (ho_lenB (by ktr_room) fun _ => ?_)
      refine ha_nil (And.intro (Nat.le_of_ble_eq_true rfl) fun a0 ha0 => ha_nil (ho_mkB (ns := [29, c, (r.length : Int)]) hR.hh (.head _) (.cons _ _ (.cons _ _ (.cons _ _ .nil))) (by simp; omega) (by simp [sizeLine_eq]) fun _ => ?_))
      rw [show ([29, c, (r.length : Int)] : List Int).map (fun n => n.toNat.toUInt8) = [29, c.toNat.toUInt8, (r.length : Int).toNat.toUInt8] from rfl]
      refine he_sub (he_lv lv_law_octets_frame rfl (he_int fun _ => ho_ti (by ktr_rel) (by ktr_room) (by ktr_room) rfl rfl ?_))
      refine ho_addB (by ktr_room) fun _ => ?_
      refine kt_ret (kt_ret ?_)
      exact ⟨n, by k_updF, h _⟩
    | ini =>
      refine en_def ok_law_octets [("frame", .ref a), ("space", .str Sp.ini.space t)] [some (.ref a), some (.str Sp.ini.space t), none, none] G hR (by k_is) (by k_is) rfl rfl rfl rfl fun g L A G hR => hb_cons (hx_if (ht_cmp (he_sub (he_lv lv_law_octets_frame rfl (he_int fun _ => ho_ti (by ktr_rel) (by ktr_room) (by ktr_room) rfl rfl ?_)))))
      refine he_none (ho_isNO (ho_tb (ho_if_f rfl (hb_nil (kt_next (hb_cons (hx_if (ht_cmp (he_lv lv_law_octets_space rfl (he_str fun _ => ho_eqS (ho_tb (ho_if_f (by tb_rel) ?_))))))))))))
      refine hb_nil (kt_next (hb_cons (hx_ret (he_call (he_bv G gv_law_octets_bytes (nb_bytes w) bb_bytes (by decide) (hc_ty (ha_cons (he_list (ha_cons (he_int fun _ => ha_cons (he_int fun _ => ha_cons (he_int fun _ => ha_cons (he_int fun _ => ha_nil (And.intro (Nat.le_of_ble_eq_true rfl) fun a0 ha0 => ha_nil (ho_mkB (ns := [28, 12, 0, 0]) hR.hh (.head _) (.cons _ _ (.cons _ _ (.cons _ _ (.cons _ _ .nil)))) (by simp) (by simp [sizeLine_eq]) fun _ => ?_)))))))))))))))
      exact kt_ret ⟨n, by k_updF, h _⟩
    | han =>
      refine en_def ok_law_octets [("frame", .ref a), ("space", .str Sp.han.space t)] [some (.ref a), some (.str Sp.han.space t), none, none] G hR (by k_is) (by k_is) rfl rfl rfl rfl fun g L A G hR => hb_cons (hx_if (ht_cmp (he_sub (he_lv lv_law_octets_frame rfl (he_int fun _ => ho_ti (by ktr_rel) (by ktr_room) (by ktr_room) rfl rfl ?_)))))
      refine he_none (ho_isNO (ho_tb (ho_if_f rfl (hb_nil (kt_next (hb_cons (hx_if (ht_cmp (he_lv lv_law_octets_space rfl (he_str fun _ => ho_eqS (ho_tb (ho_if_f (by tb_rel) ?_))))))))))))
      refine hb_nil (kt_next (hb_cons (hx_ret (he_call (he_bv G gv_law_octets_bytes (nb_bytes w) bb_bytes (by decide) (hc_ty (ha_cons (he_list (ha_cons (he_int fun _ => ha_cons (he_int fun _ => ha_cons (he_int fun _ => ha_cons (he_int fun _ => ha_nil (And.intro (Nat.le_of_ble_eq_true rfl) fun a0 ha0 => ha_nil (ho_mkB (ns := [28, 12, 0, 0]) hR.hh (.head _) (.cons _ _ (.cons _ _ (.cons _ _ (.cons _ _ .nil)))) (by simp) (by simp [sizeLine_eq]) fun _ => ?_)))))))))))))))
      exact kt_ret ⟨n, by k_updF, h _⟩
noncomputable def peerB : List UInt8 := [112, 101, 101, 114]
noncomputable def ownB : List UInt8 := [111, 119, 110]
theorem S_law_due {c num : Int} {ft : Option Int} {r : List UInt8} {sp : Sp} {a : Addr} {vs : List Value} {t t' : Tok} (G : Gk w g) (hR : Rm A 2) (hm : (a, tupO vs) ∈ n) (hv : clV c ft r vs) (hok : clOk c ft r)
    (h : ∀ b ws t'', pktV sp peerB ownB (.int num t') (.bytes (clG (frC c ft sp) (frT ft sp) (frR ft r sp)).toArray t'') ws → V (.ref b) m ((b, tupO ws) :: n)) : Ho true Pg w A g L m n (call (.ref 639) [.ref a, .str sp.space t, .int num t']) V := by
  cases sp with
  | ini =>
    refine en_def ok_law_due [("frame", .ref a), ("space", .str Sp.ini.space t), ("number", .int num t')] [some (.ref a), some (.str Sp.ini.space t), some (.int num t'), none, none] G hR (by k_is) (by k_is) rfl rfl rfl rfl fun g L A G hR => hb_cons (hx_asg (he_call (he_gv G gv_law_due_law_octets (gl_law_octets w) (hc_def G (by tb_start) (ha_cons (he_lv lv_law_due_frame rfl (ha_cons (he_lv lv_law_due_space rfl (ha_nil (S_law_octets (sp := .ini) G (hR.le (by omega)) hm hv hok fun _ => ho_sv lv_law_due_told rfl (kt_next (hb_cons (hx_if (ht_cmp (he_lv lv_law_due_space rfl (he_str fun _ => ho_eqS (ho_tb (ho_if_f (by tb_rel) ?_))))))))))))))))))
    refine hb_nil (kt_next (hb_cons (hx_if (ht_cmp (he_lv lv_law_due_space rfl (he_str fun _ => ho_eqS (ho_tb (ho_if_t (by tb_rel) ?_))))))))
    refine hb_cons (hx_ret (he_tup (ha_cons (he_str fun _ => ha_cons (he_int fun _ => ha_cons (he_bytes fun _ => ha_cons (he_bytes fun _ => ha_cons (he_bytes fun _ => ha_cons (he_lv lv_law_due_number rfl (ha_cons (he_lv lv_law_due_told rfl (ha_nil (And.intro (Nat.le_of_ble_eq_true rfl) fun b0 hb0 => kt_ret (kt_ret ?_))))))))))))))
    exact ⟨_, .refl _, h _ _ _ ⟨_, _, _, _, _, rfl⟩⟩
  | han =>
    refine en_def ok_law_due [("frame", .ref a), ("space", .str Sp.han.space t), ("number", .int num t')] [some (.ref a), some (.str Sp.han.space t), some (.int num t'), none, none] G hR (by k_is) (by k_is) rfl rfl rfl rfl fun g L A G hR => hb_cons (hx_asg (he_call (he_gv G gv_law_due_law_octets (gl_law_octets w) (hc_def G (by tb_start) (ha_cons (he_lv lv_law_due_frame rfl (ha_cons (he_lv lv_law_due_space rfl (ha_nil (S_law_octets (sp := .han) G (hR.le (by omega)) hm hv hok fun _ => ho_sv lv_law_due_told rfl (kt_next (hb_cons (hx_if (ht_cmp (he_lv lv_law_due_space rfl (he_str fun _ => ho_eqS (ho_tb (ho_if_f (by tb_rel) ?_))))))))))))))))))
    refine hb_nil (kt_next (hb_cons (hx_if (ht_cmp (he_lv lv_law_due_space rfl (he_str fun _ => ho_eqS (ho_tb (ho_if_f (by tb_rel) ?_))))))))
    refine hb_nil (kt_next (hb_cons (hx_ret (he_tup (ha_cons (he_str fun _ => ha_cons (he_int fun _ => ha_cons (he_bytes fun _ => ha_cons (he_bytes fun _ => ha_cons (he_lv lv_law_due_number rfl (ha_cons (he_lv lv_law_due_told rfl (ha_nil (And.intro (Nat.le_of_ble_eq_true rfl) fun b0 hb0 => kt_ret ?_))))))))))))))
    exact ⟨_, .refl _, h _ _ _ ⟨_, _, _, _, rfl⟩⟩
  | app =>
    refine en_def ok_law_due [("frame", .ref a), ("space", .str Sp.app.space t), ("number", .int num t')] [some (.ref a), some (.str Sp.app.space t), some (.int num t'), none, none] G hR (by k_is) (by k_is) rfl rfl rfl rfl fun g L A G hR => hb_cons (hx_asg (he_call (he_gv G gv_law_due_law_octets (gl_law_octets w) (hc_def G (by tb_start) (ha_cons (he_lv lv_law_due_frame rfl (ha_cons (he_lv lv_law_due_space rfl (ha_nil (S_law_octets (sp := .app) G (hR.le (by omega)) hm hv hok fun _ => ho_sv lv_law_due_told rfl (kt_next (hb_cons (hx_if (ht_cmp (he_lv lv_law_due_space rfl (he_str fun _ => ho_eqS (ho_tb (ho_if_t (by tb_rel) ?_))))))))))))))))))
    refine hb_cons (hx_ret (he_tup (ha_cons (he_str fun _ => ha_cons (he_int fun _ => ha_cons (he_int fun _ => ha_cons (he_bytes fun _ => ha_cons (he_lv lv_law_due_number rfl (ha_cons (he_lv lv_law_due_told rfl (ha_nil (And.intro (Nat.le_of_ble_eq_true rfl) fun b0 hb0 => kt_ret (kt_ret ?_)))))))))))))
    exact ⟨_, .refl _, h _ _ _ ⟨_, _, _, _, rfl⟩⟩
theorem UpL.keep {d : Addr} {o o' : Obj} : ∀ {n : Led} {f : Obj → Led}, UpL d o n f → ∀ p ∈ n, p.1 ≠ d → p ∈ f o'
  | _, _, .head, p, hp, h => by
    rcases List.mem_cons.mp hp with e | hp
    · subst e; exact absurd rfl h
    · exact .tail _ hp
  | _, _, .tail u, p, hp, h => by
    rcases List.mem_cons.mp hp with e | hp
    · subst e; exact .head _
    · exact .tail _ (u.keep p hp h)
theorem UpL.memO {d : Addr} {o o' : Obj} : ∀ {n : Led} {f : Obj → Led}, UpL d o n f → (d, o') ∈ f o'
  | _, _, .head => .head _
  | _, _, .tail u => .tail _ u.memO
theorem S_law_take {b l : Addr} {o : Obj} {vs : List Value} {k2 : Nat} {ns : List Int} {spot many : Int} {t1 t2 : Tok} {f : Obj → Led} (G : Gk w g) (hR : Rm A 1) (U : UpL b o n f) (ho : LsO o [.ref l, .int spot t1]) (hl : (l, lstO vs k2) ∈ n) (hlb : l ≠ b) (hi : IntsAre vs ns) (hz : vs.length ≤ 64) (h0 : 0 ≤ spot) (h1 : spot ≤ 1000) (hm : 0 < many) (hm2 : many ≤ 1000)
    (h : ∀ r t t' o', 0 ≤ r → r < many → LsO o' [.ref l, .int (spot + 1) t'] → V (.int r t) m (f o')) : Ho true Pg w A g L m n (call (.ref 625) [.ref b, .int many t2]) V := by
  refine en_def ok_law_take [("box", .ref b), ("many", .int many t2)] [some (.ref b), some (.int many t2), none, none, none] G hR (by k_is) (by k_is) rfl rfl rfl rfl fun g L A G hR => hb_cons (hx_asg (he_sub (he_lv lv_law_take_box rfl (he_int fun _ => ho_liO U.mem ho (by decide) (by decide) rfl (ho_sv lv_law_take_spot rfl (kt_next (hb_cons (hx_asgS (he_bin (he_lv lv_law_take_spot rfl (he_int fun _ => ho_add fun _ => he_lv lv_law_take_box rfl (he_int fun _ => ho_lsetO U ho (by decide) (by decide) (by simp) fun o' ho' => ?_))))))))))))
  have ho2 : LsO o' [.ref l, .int (spot + 1) _] := ho'
  have hmo := U.memO (o' := o')
  have hml : (l, lstO vs k2) ∈ f o' := U.keep _ hl hlb
  refine kt_next (hb_cons (hx_if (ht_cmp (he_lv lv_law_take_spot rfl (he_call (he_bv G gv_law_take_len (nb_len w) bb_len (by decide) (hc_b (ha_cons (he_sub (he_lv lv_law_take_box rfl (he_int fun _ => ho_liO hmo ho2 (by decide) (by decide) rfl (ha_nil (ho_lenL hml (by omega) fun _ => ho_lt (ho_tb (ho_if_both (fun hc => ?_) (fun hc => ?_))))))))))))))))
  · have hlt := of_decide_eq_true hc
    have hj : spot.toNat < vs.length := by omega
    obtain ⟨j, u, hju, -⟩ := hi.at spot.toNat _ (List.getElem?_eq_getElem hj)
    refine hb_cons (hx_ret (he_bin (he_call (he_bv G gv_law_take_abs (nb_abs w) bb_abs (by decide) (hc_b (ha_cons (he_sub (he_sub (he_lv lv_law_take_box rfl (he_int fun _ => ho_liO hmo ho2 (by decide) (by decide) rfl (he_lv lv_law_take_spot rfl (ho_li hml h0 (by omega) (List.getElem?_eq_getElem hj) ?_))))))))))))
    rw [hju]
    refine ha_nil (ho_abs fun _ => he_lv lv_law_take_many rfl (ho_mod (by omega) fun _ => kt_ret (kt_ret ?_)))
    exact ⟨_, .refl _, h _ _ _ _ (Int.emod_nonneg _ (by omega)) (Int.emod_lt_of_pos _ hm) ho2⟩
  · refine hb_nil (kt_next (hb_cons (hx_ret (he_bin (he_bin (he_bin (he_int fun _ => he_lv lv_law_take_spot rfl (ho_mul (by tb_start) fun _ => he_bin (he_lv lv_law_take_spot rfl (he_int fun _ => ho_div (by omega) (PyProof.noPylong_of_log2 (by decide +kernel)) fun _ => ho_add fun _ => he_lv lv_law_take_many rfl (ho_mod (by omega) fun _ => kt_ret ?_)))))))))))
    exact ⟨_, .refl _, h _ _ _ _ (Int.emod_nonneg _ (by omega)) (Int.emod_lt_of_pos _ hm) ho2⟩
structure CT where
  mk ::
  (a b c d e : Tok)
noncomputable abbrev CT.l (r : CT) : List Tok := [r.a, r.b, r.c, r.d, r.e]
noncomputable abbrev clN (w : World) (x dx : Addr) (r : CT) (vs : List Value) (n : Led) : Led := (x, instObj 101 dx) :: (dx, dictOf (dn w.params xs_Closing r.l vs) 5) :: n
theorem S_closing (G : Gk w g) (hR : Rm A 4) (h : ∀ x dx r t1 t2 t3, V (.ref x) m (clN w x dx r [.str (Str.ofString "open") t1, .none, .none, .int 0 t2, .int 1 t3] n)) : Ho true Pg w A g L m n (call (.ref 101) []) V := by
  refine en_new ok_Closing_init (fun x => [("self", .ref x)]) (fun x => [some (.ref x), none]) G hR (by k_is) (by k_is) (by k_is) (by k_is) (by k_is) (fun _ => rfl) (fun _ => rfl) (fun _ => rfl) rfl fun x dx g L A G hR d1 d2 d3 => hb_cons (hx_asgA (he_gv G gv_Closing_init_OPEN (gl_OPEN w) (he_lv lv_Closing_init_self rfl (ho_setN G (at_Closing_state w) (by ktr_rel) (by ktr_unf) dq_Closing_state rfl (by decide) fun _ => ?_))))
  refine kt_next (hb_cons (hx_asgA (he_none (he_lv lv_Closing_init_self rfl (ho_setN G (at_Closing_frame w) (by ktr_rel) (by ktr_unf) dq_Closing_frame rfl (by decide) fun _ => ?_)))))
  refine kt_next (hb_cons (hx_asgA (he_none (he_lv lv_Closing_init_self rfl (ho_setN G (at_Closing_end w) (by ktr_rel) (by ktr_unf) dq_Closing_end rfl (by decide) fun _ => ?_)))))
  refine kt_next (hb_cons (hx_asgA (he_int fun _ => he_lv lv_Closing_init_self rfl (ho_setN G (at_Closing_came w) (by ktr_rel) (by ktr_unf) dq_Closing_came rfl (by decide) fun _ => ?_))))
  refine kt_next (hb_cons (hx_asgA (he_int fun _ => he_lv lv_Closing_init_self rfl (ho_setN G (at_Closing_next_reply w) (by ktr_rel) (by ktr_unf) dq_Closing_next_reply rfl (by decide) fun _ => ?_))))
  refine kt_next (hb_nil (And.intro rfl ?_))
  exact ⟨_, .refl _, h _ _ ⟨_, _, _, _, _⟩ _ _ _⟩
variable {x dx fa : Addr} {r : CT} {came nx now wt en : Int} {t1 t2 t3 t4 t5 t6 : Tok}
theorem S_on_packet0 (G : Gk w g) (hR : Rm A 1) {st : Str} (hst : (st != Str.ofString "closing") = true) {v2 v3 v4 v5 : Value} (h : V (.bool false) m (clN w x dx r [.str st t1, v2, v3, v4, v5] n)) :
    Ho true Pg w A g L m (clN w x dx r [.str st t1, v2, v3, v4, v5] n) (call (.ref 77) [.ref x]) V := by
  refine en_def ok_Closing_on_packet [("self", .ref x)] [some (.ref x), none] G hR (by k_is) (by k_is) rfl rfl rfl rfl fun g L A G hR => hb_cons (hx_if (ht_cmp (he_attr (he_lv lv_Closing_on_packet_self rfl (ho_get G (at_Closing_state w) (by ktr_rel) (by ktr_rel) dk_Closing_state rfl rfl rfl ?_)))))
  refine he_gv G gv_Closing_on_packet_CLOSING (gl_CLOSING w) (ho_neS (ho_tb (ho_if_t (by tb_rel) ?_)))
  refine hb_cons (hx_ret (he_cbool (kt_ret (kt_ret ?_))))
  exact ⟨_, .refl _, h⟩
theorem S_close_now (G : Gk w g) (hR : Rm A 1) (hw : 0 ≤ wt) (h : ∀ t t', V (.bool true) m (clN w x dx r [.str (Str.ofString "closing") t, .ref fa, .int (now + 3 * wt) t', .int came t2, .int nx t3] n)) :
    Ho true Pg w A g L m (clN w x dx r [.str (Str.ofString "open") t1, .none, .none, .int came t2, .int nx t3] n) (call (.ref 56) [.ref x, .ref fa, .int now t4, .int wt t5]) V := by
  refine en_def ok_Closing_close_now [("self", .ref x), ("frame", .ref fa), ("now", .int now t4), ("probe_wait", .int wt t5)] [some (.ref x), some (.ref fa), some (.int now t4), some (.int wt t5), none, none, none] G hR (by k_is) (by k_is) rfl rfl rfl rfl fun g L A G hR => hb_cons (hx_if (ht_cmp (he_attr (he_lv lv_Closing_close_now_self rfl (ho_get G (at_Closing_state w) (by ktr_rel) (by ktr_rel) dk_Closing_state rfl rfl rfl ?_)))))
  refine he_gv G gv_Closing_close_now_OPEN (gl_OPEN w) (ho_neS (ho_tb (ho_if_f (by tb_rel) ?_)))
  refine hb_nil (kt_next (hb_cons (hx_asgA (he_gv G gv_Closing_close_now_CLOSING (gl_CLOSING w) (he_lv lv_Closing_close_now_self rfl (ho_set G (at_Closing_state w) (by ktr_rel) (by ktr_unf) dk_Closing_state rfl rfl (by decide) ?_))))))
  refine kt_next (hb_cons (hx_asgA (he_lv lv_Closing_close_now_frame rfl (he_lv lv_Closing_close_now_self rfl (ho_set G (at_Closing_frame w) (by ktr_rel) (by ktr_unf) dk_Closing_frame rfl rfl (by decide) ?_)))))
  refine kt_next (hb_cons (hx_asgA (he_bin (he_lv lv_Closing_close_now_now rfl (he_bin (he_gv G gv_Closing_close_now_PERIODS (gl_PERIODS w) (he_lv lv_Closing_close_now_probe_wait rfl (ho_mul (by tb_start) fun _ => ho_add fun _ => he_lv lv_Closing_close_now_self rfl (ho_set G (at_Closing_end w) (by ktr_rel) (by ktr_unf) dk_Closing_end rfl rfl (by decide) ?_)))))))))
  refine kt_next (hb_cons (hx_ret (he_cbool (kt_ret ?_))))
  exact ⟨_, .refl _, h _ _⟩
theorem S_close_now2 (G : Gk w g) (hR : Rm A 1) {v2 v3 v4 v5 : Value} (h : V (.bool false) m (clN w x dx r [.str (Str.ofString "closing") t1, v2, v3, v4, v5] n)) :
    Ho true Pg w A g L m (clN w x dx r [.str (Str.ofString "closing") t1, v2, v3, v4, v5] n) (call (.ref 56) [.ref x, .ref fa, .int now t4, .int wt t5]) V := by
  refine en_def ok_Closing_close_now [("self", .ref x), ("frame", .ref fa), ("now", .int now t4), ("probe_wait", .int wt t5)] [some (.ref x), some (.ref fa), some (.int now t4), some (.int wt t5), none, none, none] G hR (by k_is) (by k_is) rfl rfl rfl rfl fun g L A G hR => hb_cons (hx_if (ht_cmp (he_attr (he_lv lv_Closing_close_now_self rfl (ho_get G (at_Closing_state w) (by ktr_rel) (by ktr_rel) dk_Closing_state rfl rfl rfl ?_)))))
  refine he_gv G gv_Closing_close_now_OPEN (gl_OPEN w) (ho_neS (ho_tb (ho_if_t (by tb_rel) ?_)))
  refine hb_cons (hx_ret (he_cbool (kt_ret (kt_ret ?_))))
  exact ⟨_, .refl _, h⟩
theorem S_on_packet (G : Gk w g) (hR : Rm A 1) {v2 v3 : Value} (h : ∀ t t', V (.bool (decide (nx ≤ came + 1))) m (clN w x dx r [.str (Str.ofString "closing") t1, v2, v3, .int (came + 1) t, .int (if nx ≤ came + 1 then 2 * nx else nx) t'] n)) :
    Ho true Pg w A g L m (clN w x dx r [.str (Str.ofString "closing") t1, v2, v3, .int came t2, .int nx t3] n) (call (.ref 77) [.ref x]) V := by
  refine en_def ok_Closing_on_packet [("self", .ref x)] [some (.ref x), none] G hR (by k_is) (by k_is) rfl rfl rfl rfl fun g L A G hR => hb_cons (hx_if (ht_cmp (he_attr (he_lv lv_Closing_on_packet_self rfl (ho_get G (at_Closing_state w) (by ktr_rel) (by ktr_rel) dk_Closing_state rfl rfl rfl ?_)))))
  refine he_gv G gv_Closing_on_packet_CLOSING (gl_CLOSING w) (ho_neS (ho_tb (ho_if_f (by tb_rel) ?_)))
  refine hb_nil (kt_next (hb_cons (hx_augA (he_lv lv_Closing_on_packet_self rfl (ho_get G (at_Closing_came w) (by ktr_rel) (by ktr_rel) dk_Closing_came rfl rfl rfl ?_)))))
  refine he_int fun _ => ho_iadd fun _ => ho_set G (at_Closing_came w) (by ktr_rel) (by ktr_unf) dk_Closing_came rfl rfl (by decide) ?_
  refine kt_next (hb_cons (hx_if (ht_cmp (he_attr (he_lv lv_Closing_on_packet_self rfl (ho_get G (at_Closing_came w) (by ktr_rel) (by ktr_rel) dk_Closing_came rfl rfl rfl ?_))))))
  refine he_attr (he_lv lv_Closing_on_packet_self rfl (ho_get G (at_Closing_next_reply w) (by ktr_rel) (by ktr_rel) dk_Closing_next_reply rfl rfl rfl ?_))
  refine ho_lt (ho_tb (ho_if_both (fun hc => ?_) (fun hc => ?_)))
  · have hc' := of_decide_eq_true hc
    rw [decide_eq_false (by omega : ¬ nx ≤ came + 1), if_neg (by omega : ¬ nx ≤ came + 1)] at h
    refine hb_cons (hx_ret (he_cbool (kt_ret (kt_ret ?_))))
    exact ⟨_, .refl _, h _ _⟩
  · have hc' := of_decide_eq_false hc
    rw [decide_eq_true (by omega : nx ≤ came + 1), if_pos (by omega : nx ≤ came + 1)] at h
    refine hb_nil (kt_next (hb_cons (hx_asgA (he_bin (he_int fun _ => he_attr (he_lv lv_Closing_on_packet_self rfl (ho_get G (at_Closing_next_reply w) (by ktr_rel) (by ktr_rel) dk_Closing_next_reply rfl rfl rfl ?_)))))))
    refine ho_mul (by tb_start) fun _ => he_lv lv_Closing_on_packet_self rfl (ho_set G (at_Closing_next_reply w) (by ktr_rel) (by ktr_unf) dk_Closing_next_reply rfl rfl (by decide) ?_)
    refine kt_next (hb_cons (hx_ret (he_cbool (kt_ret ?_))))
    exact ⟨_, .refl _, h _ _⟩
theorem S_next_time (G : Gk w g) (hR : Rm A 1) {v1 v2 v3 v4 v5 : Value} (hh : handedIn v3 = true) (h : V v3 m (clN w x dx r [v1, v2, v3, v4, v5] n)) : Ho true Pg w A g L m (clN w x dx r [v1, v2, v3, v4, v5] n) (call (.ref 98) [.ref x]) V := by
  refine en_def ok_Closing_next_time [("self", .ref x)] [some (.ref x)] G hR (by k_is) (by k_is) rfl rfl rfl rfl fun g L A G hR => hb_cons (hx_ret (he_attr (he_lv lv_Closing_next_time_self rfl (ho_get G (at_Closing_end w) (.head _) (.tail _ (.head _)) dk_Closing_end rfl rfl hh ?_))))
  exact kt_ret ⟨_, .refl _, h⟩
theorem S_on_time0 (G : Gk w g) (hR : Rm A 1) (hlt : now < en) {v2 v4 v5 : Value} (h : V (.bool false) m (clN w x dx r [.str (Str.ofString "closing") t1, v2, .int en t2, v4, v5] n)) :
    Ho true Pg w A g L m (clN w x dx r [.str (Str.ofString "closing") t1, v2, .int en t2, v4, v5] n) (call (.ref 84) [.ref x, .int now t3]) V := by
  refine en_def ok_Closing_on_time [("self", .ref x), ("now", .int now t3)] [some (.ref x), some (.int now t3), none] G hR (by k_is) (by k_is) rfl rfl rfl rfl fun g L A G hR => hb_cons (hx_if (ht_and (ht_cmp (he_attr (he_lv lv_Closing_on_time_self rfl (ho_get G (at_Closing_end w) (by ktr_rel) (by ktr_rel) dk_Closing_end rfl rfl rfl ?_))))))
  refine he_none (ho_isNI (ho_tb (ho_if_t rfl (ht_and (ht_cmp (he_lv lv_Closing_on_time_now rfl (he_attr (he_lv lv_Closing_on_time_self rfl (ho_get G (at_Closing_end w) (by ktr_rel) (by ktr_rel) dk_Closing_end rfl rfl rfl ?_)))))))))
  refine ho_ge (ho_tb (ho_if_f (decide_eq_false (by omega)) (ho_if_f rfl (hb_nil (kt_next (hb_cons (hx_ret (he_cmp (he_attr (he_lv lv_Closing_on_time_self rfl (ho_get G (at_Closing_state w) (by ktr_rel) (by ktr_rel) dk_Closing_state rfl rfl rfl ?_)))))))))))
  refine he_gv G gv_Closing_on_time_CLOSED (gl_CLOSED w) (ho_eqS (kt_ret ?_))
  exact ⟨_, .refl _, h⟩
theorem S_on_time1 (G : Gk w g) (hR : Rm A 1) (hlt : en ≤ now) {v2 v4 v5 : Value} (h : ∀ t, V (.bool true) m (clN w x dx r [.str (Str.ofString "closed") t, v2, .none, v4, v5] n)) :
    Ho true Pg w A g L m (clN w x dx r [.str (Str.ofString "closing") t1, v2, .int en t2, v4, v5] n) (call (.ref 84) [.ref x, .int now t3]) V := by
  refine en_def ok_Closing_on_time [("self", .ref x), ("now", .int now t3)] [some (.ref x), some (.int now t3), none] G hR (by k_is) (by k_is) rfl rfl rfl rfl fun g L A G hR => hb_cons (hx_if (ht_and (ht_cmp (he_attr (he_lv lv_Closing_on_time_self rfl (ho_get G (at_Closing_end w) (by ktr_rel) (by ktr_rel) dk_Closing_end rfl rfl rfl ?_))))))
  refine he_none (ho_isNI (ho_tb (ho_if_t rfl (ht_and (ht_cmp (he_lv lv_Closing_on_time_now rfl (he_attr (he_lv lv_Closing_on_time_self rfl (ho_get G (at_Closing_end w) (by ktr_rel) (by ktr_rel) dk_Closing_end rfl rfl rfl ?_)))))))))
  refine ho_ge (ho_tb (ho_if_t (decide_eq_true (by omega)) (ht_and0 (ho_if_t rfl (hb_cons (hx_asgA (he_gv G gv_Closing_on_time_CLOSED (gl_CLOSED w) (he_lv lv_Closing_on_time_self rfl (ho_set G (at_Closing_state w) (by ktr_rel) (by ktr_unf) dk_Closing_state rfl rfl (by decide) ?_)))))))))
  refine kt_next (hb_cons (hx_asgA (he_none (he_lv lv_Closing_on_time_self rfl (ho_set G (at_Closing_end w) (by ktr_rel) (by ktr_unf) dk_Closing_end rfl rfl (by decide) ?_)))))
  refine kt_next (hb_nil (kt_next (hb_cons (hx_ret (he_cmp (he_attr (he_lv lv_Closing_on_time_self rfl (ho_get G (at_Closing_state w) (by ktr_rel) (by ktr_rel) dk_Closing_state rfl rfl rfl ?_))))))))
  refine he_gv G gv_Closing_on_time_CLOSED (gl_CLOSED w) (ho_eqS (kt_ret ?_))
  exact ⟨_, .refl _, h _⟩
noncomputable def keyOf : Sp → List UInt8
  | .ini => [111, 110, 101]
  | .han => [116, 119, 111]
  | .app => [116, 104, 114, 101, 101]
noncomputable def plOf (c : Int) (ft : Option Int) (r : List UInt8) (sp : Sp) : List UInt8 := clG (frC c ft sp) (frT ft sp) (frR ft r sp)
noncomputable def pkOf (c : Int) (ft : Option Int) (r : List UInt8) (num ap : Sp → Int) (sp : Sp) : List UInt8 := pkG sp peerB ownB (keyOf sp) (num sp) (ap sp) (plOf c ft r sp)
theorem plOf_len {c : Int} {ft : Option Int} {r : List UInt8} (sp : Sp) (hok : clOk c ft r) : 3 ≤ (plOf c ft r sp).length ∧ (plOf c ft r sp).length ≤ 9 := by
  have h := fr_ok sp hok
  unfold plOf
  have e1 := clG_len (frC c ft sp) (frT ft sp) (frR ft r sp)
  have e2 := h.2.2.2
  have e3 : (if frT ft sp = none then 3 else 4) ≤ 4 := by split <;> omega
  have e4 : 3 ≤ (if frT ft sp = none then 3 else 4) := by split <;> omega
  omega
theorem pkOf_len {c : Int} {ft : Option Int} {r : List UInt8} (num ap : Sp → Int) (sp : Sp) (hok : clOk c ft r) : (pkOf c ft r num ap sp).length ≤ 100 := by
  obtain ⟨F, f', rest, ct, M, sl, hF, hrest, hct, hM, hsl, hf', hpk⟩ := pkG_parts sp peerB ownB (keyOf sp) (num sp) (ap sp) (plOf c ft r sp)
  have h1 := (plOf_len sp hok).2
  have h2 := restG_len sp peerB ownB ((szG (ap sp) : Nat) + ((plOf c ft r sp).length : Int) + 16) (by decide) (by decide)
  rw [← hrest] at h2
  have h3 := sealG_len (keyOf sp) (F :: rest ++ ct) (plOf c ft r sp) (num sp)
  rw [← hsl] at h3
  have h4 := cutG_len (num sp) (ap sp)
  rw [← hct] at h4
  have h5 := turnN_len ct M
  have h6 := sz_cases (ap sp)
  unfold pkOf
  rw [hpk]
  simp only [List.length_append, List.length_singleton]
  omega
inductive PsAre (data : List UInt8) (c : Int) (ft : Option Int) (r : List UInt8) (num ap : Sp → Int) : List Sp → List PkR → Prop
  | nil : PsAre data c ft r num ap [] []
  | cons {p : PkR} {sps : List Sp} {ps : List PkR} : PkData p.sp data peerB ownB (keyOf p.sp) (plOf c ft r p.sp) (num p.sp) (ap p.sp) p.st p.f p.na p.en → PsAre data c ft r num ap sps ps → PsAre data c ft r num ap (p.sp :: sps) (p :: ps)
theorem PsAre.len {data : List UInt8} {c : Int} {ft : Option Int} {r : List UInt8} {num ap : Sp → Int} : ∀ {sps : List Sp} {ps : List PkR}, PsAre data c ft r num ap sps ps → sps.length = ps.length
  | _, _, .nil => rfl
  | _, _, .cons _ h => by simp [h.len]
noncomputable def appLast : List Sp → Bool
  | [] => true
  | [_] => true
  | a :: b :: l => a != .app && appLast (b :: l)
theorem chain_of {data : List UInt8} {c : Int} {ft : Option Int} {r : List UInt8} {num ap : Sp → Int} (hok : clOk c ft r) : ∀ (sps : List Sp) (pre : List UInt8), appLast sps = true → data = pre ++ sps.flatMap (pkOf c ft r num ap) → ∃ ps, Chain data peerB ownB (pre.length : Int) ps ∧ PsAre data c ft r num ap sps ps
  | [], pre, _, e => ⟨[], by
      have : data.length = pre.length := by rw [e]; simp
      rw [← this]; exact .nil, .nil⟩
  | sp :: sps, pre, hl, e => by
    have hpl := plOf_len sp hok
    have hk := sz_cases (ap sp)
    have hl' : appLast sps = true := by
      cases sps with
      | nil => rfl
      | cons b l => simp only [appLast, Bool.and_eq_true] at hl; exact hl.2
    have hpost : sp = .app → sps.flatMap (pkOf c ft r num ap) = [] ∧ peerB.length = 4 := by
      rintro rfl
      cases sps with
      | nil => exact ⟨rfl, rfl⟩
      | cons b l => simp [appLast] at hl
    obtain ⟨f', na, X⟩ := pk_at (sp := sp) (data := data) (pre := pre) (post := sps.flatMap (pkOf c ft r num ap)) (d := peerB) (s := ownB) (key := keyOf sp) (pl := plOf c ft r sp) (num := num sp) (ap := ap sp) (st := (pre.length : Int)) (by rw [e, List.flatMap_cons, List.append_assoc]; rfl) hpost rfl (by omega) (by omega) (by decide) (by decide)
    obtain ⟨ps, hc, hp⟩ := chain_of (data := data) (num := num) (ap := ap) hok sps (pre ++ pkOf c ft r num ap sp) hl' (by rw [e, List.flatMap_cons, List.append_assoc])
    rw [List.length_append, Int.natCast_add] at hc
    exact ⟨⟨sp, f', (pre.length : Int), na, (pre.length : Int) + ((pkOf c ft r num ap sp).length : Int)⟩ :: ps, .cons (p := ⟨sp, f', (pre.length : Int), na, (pre.length : Int) + ((pkOf c ft r num ap sp).length : Int)⟩) X.F X.P hc, .cons (p := ⟨sp, f', (pre.length : Int), na, (pre.length : Int) + ((pkOf c ft r num ap sp).length : Int)⟩) X hp⟩
theorem flat_len {c : Int} {ft : Option Int} {r : List UInt8} {num ap : Sp → Int} (hok : clOk c ft r) : ∀ (sps : List Sp), (sps.flatMap (pkOf c ft r num ap)).length ≤ 100 * sps.length
  | [] => by simp
  | sp :: sps => by
    have h1 := pkOf_len num ap sp hok
    have h2 := flat_len (num := num) (ap := ap) hok sps
    rw [List.flatMap_cons, List.length_append, List.length_cons]
    omega
theorem keys_at {t1 t2 t3 : Tok} (sp : Sp) : ∃ t, valueAt [(Str.ofString "initial", Value.bytes (keyOf .ini).toArray t1), (Str.ofString "handshake", Value.bytes (keyOf .han).toArray t2), (Str.ofString "application", Value.bytes (keyOf .app).toArray t3)] sp.space = some (.bytes (keyOf sp).toArray t) := by
  cases sp
  · exact ⟨t1, rfl⟩
  · exact ⟨t2, rfl⟩
  · exact ⟨t3, rfl⟩
noncomputable def PlR (n : Led) (kvs : List (Str × Value)) (num ap : Sp → Int) (av : Sp → Value) (sp : Sp) : Prop :=
  ∃ pt t, valueAt kvs sp.space = some (.ref pt) ∧ (pt, tupO [.int (num sp) t, av sp]) ∈ n ∧ Rst (av sp) (num sp) (ap sp) ∧ 0 ≤ num sp ∧ num sp < 29000
theorem Rst.le {v : Value} {a ap : Int} (h : Rst v a ap) (ha : a < 29000) : ap ≤ 30000 := by
  rcases h with ⟨_, h⟩ | ⟨e, t, h1, h2, h3, h4, h5⟩ <;> omega
theorem PlR.ok {n n' : Led} {kvs : List (Str × Value)} {num ap : Sp → Int} {av : Sp → Value} {sp : Sp} (s : ∀ p ∈ n, p ∈ n') (h : PlR n kvs num ap av sp) : PlOk n' kvs num ap av sp := by
  obtain ⟨pt, t, h1, h2, h3, h4, h5⟩ := h
  exact ⟨pt, t, h1, s _ h2, h3.ack, h4, h3.le h5⟩
theorem RowsAre.at {c : Int} {ft : Option Int} {r : List UInt8} {n : Led} : ∀ {vs : List Value} {sps : List Sp}, RowsAre c ft r n vs sps → ∀ {i : Nat} {v : Value}, vs[i]? = some v → ∃ sp a b d t k ws, sps[i]? = some sp ∧ v = .ref a ∧ (a, tupO [.str sp.space t, .ref b]) ∈ n ∧ (b, lstO [.ref d] k) ∈ n ∧ (d, tupO ws) ∈ n ∧ clV (frC c ft sp) (frT ft sp) (frR ft r sp) ws
  | _, _, .cons h1 h2 h3 h4 r, 0, v, h => ⟨_, _, _, _, _, _, _, rfl, by simpa using h.symm, h1, h2, h3, h4⟩
  | _, _, .cons h1 h2 h3 h4 r, i + 1, v, h => r.at (by simpa using h)
theorem RowsAre.len {c : Int} {ft : Option Int} {r : List UInt8} {n : Led} : ∀ {vs : List Value} {sps : List Sp}, RowsAre c ft r n vs sps → vs.length = sps.length
  | _, _, .nil => rfl
  | _, _, .cons _ _ _ _ h => by simp [h.len]
theorem RawsAre.at {d s : List UInt8} {n : Led} : ∀ {vs : List Value} {ps : List PkR}, RawsAre w d s n vs ps → ∀ {i : Nat} {v : Value}, vs[i]? = some v → ∃ p x, ps[i]? = some p ∧ v = .ref x ∧ RawIs w n x p.sp p.f d (scidOf p.sp s) p.st p.na p.en
  | _, _, .cons h r, 0, v, e => ⟨_, _, rfl, by simpa using e.symm, h⟩
  | _, _, .cons h r, i + 1, v, e => r.at (by simpa using e)
inductive StrsAre : List Value → List Str → Prop
  | nil : StrsAre [] []
  | cons (x : Str) (t : Tok) {vs : List Value} {xs : List Str} : StrsAre vs xs → StrsAre (.str x t :: vs) (x :: xs)
theorem StrsAre.snoc (x : Str) (t : Tok) : ∀ {vs : List Value} {xs : List Str}, StrsAre vs xs → StrsAre (vs ++ [.str x t]) (xs ++ [x])
  | _, _, .nil => .cons x t .nil
  | _, _, .cons y u r => .cons y u (r.snoc x t)
theorem StrsAre.len : ∀ {vs : List Value} {xs : List Str}, StrsAre vs xs → vs.length = xs.length
  | _, _, .nil => rfl
  | _, _, .cons _ _ r => by simp [r.len]
theorem StrsAre.same : ∀ {vs ws : List Value} {xs : List Str}, StrsAre vs xs → StrsAre ws xs → SameVs vs ws
  | _, _, _, .nil, .nil => .nil
  | _, _, _, .cons x t r, .cons _ u q => .cons (.str x t u) (r.same q)
theorem PsAre.kinds {data : List UInt8} {c : Int} {ft : Option Int} {r : List UInt8} {num ap : Sp → Int} : ∀ {sps : List Sp} {ps : List PkR}, PsAre data c ft r num ap sps ps → ps.map (fun p => p.sp) = sps
  | _, _, .nil => rfl
  | _, _, .cons _ h => by rw [List.map_cons, h.kinds]
theorem PsAre.at {data : List UInt8} {c : Int} {ft : Option Int} {r : List UInt8} {num ap : Sp → Int} : ∀ {sps : List Sp} {ps : List PkR}, PsAre data c ft r num ap sps ps → ∀ {i : Nat} {p : PkR}, ps[i]? = some p → sps[i]? = some p.sp ∧ PkData p.sp data peerB ownB (keyOf p.sp) (plOf c ft r p.sp) (num p.sp) (ap p.sp) p.st p.f p.na p.en
  | _, _, .cons h _, 0, p, e => by cases e; exact ⟨rfl, h⟩
  | _, _, .cons _ r, i + 1, p, e => r.at (by simpa using e)
theorem pktV_same {sp : Sp} {d s : List UInt8} {v v' p p' : Value} {vs vs' : List Value} (h : pktV sp d s v p vs) (h' : pktV sp d s v' p' vs') (hv : SameV v v') (hp : SameV p p') : SameVs vs vs' := by
  cases sp with
  | ini =>
    obtain ⟨_, _, _, _, _, rfl⟩ := h
    obtain ⟨_, _, _, _, _, rfl⟩ := h'
    exact .cons (.str _ _ _) (.cons (.int _ _ _) (.cons (.bytes _ _ _) (.cons (.bytes _ _ _) (.cons (.bytes _ _ _) (.cons hv (.cons hp .nil))))))
  | han =>
    obtain ⟨_, _, _, _, rfl⟩ := h
    obtain ⟨_, _, _, _, rfl⟩ := h'
    exact .cons (.str _ _ _) (.cons (.int _ _ _) (.cons (.bytes _ _ _) (.cons (.bytes _ _ _) (.cons hv (.cons hp .nil)))))
  | app =>
    obtain ⟨_, _, _, _, rfl⟩ := h
    obtain ⟨_, _, _, _, rfl⟩ := h'
    exact .cons (.str _ _ _) (.cons (.int _ _ _) (.cons (.int _ _ _) (.cons (.bytes _ _ _) (.cons hv (.cons hp .nil)))))
inductive LH1 (fa pd sa ha D b0 : Addr) (c : Int) (ft : Option Int) (r : List UInt8) (num ap : Sp → Int) (sps : List Sp) (n : Led) (i : Nat) : FMap → Led → Prop
  | mk (t : Tok) (x8 x9 x10 x11 : Option Value) : LH1 fa pd sa ha D b0 c ft r num ap sps n i (fm ns_law_is_heard [some (.ref fa), some (.ref fa), some (.ref pd), some (.ref sa), some (.ref ha), some (.ref D), some (.ref b0), some (.bytes ((sps.take i).flatMap (pkOf c ft r num ap)).toArray t), x8, x9, x10, x11, none, none, none, none, none, none, none, none, none, none]) n
inductive LH2 (fa pd sa ha D b0 a2 : Addr) (data : List UInt8) (t : Tok) (n : Led) (i : Nat) : FMap → Led → Prop
  | mk (x8 x9 x10 x11 x13 : Option Value) : LH2 fa pd sa ha D b0 a2 data t n i (fm ns_law_is_heard [some (.ref fa), some (.ref fa), some (.ref pd), some (.ref sa), some (.ref ha), some (.ref D), some (.ref b0), some (.bytes data.toArray t), x8, x9, x10, x11, some (.ref a2), x13, none, none, none, none, none, none, none, none]) n
theorem S_is_heard {c : Int} {ft : Option Int} {r : List UInt8} {sps : List Sp} {num ap : Sp → Int} {av : Sp → Value} {pd sa fa ha : Addr} {po : Obj} {kvs : List (Str × Value)} {svs fvs hvs : List Value} {kk kh : Nat} (G : Gk w g) (hR : Rm A 9)
    (hp : (pd, po) ∈ n) (hd1 : po.IsDictOf (PySem.strKind Pg w) kvs) (hs : (sa, lstO svs kk) ∈ n) (hsp : SpsAre svs sps) (hlen : sps.length ≤ 3) (hlast : appLast sps = true) (hf : (fa, tupO fvs) ∈ n) (hv : clV c ft r fvs) (hok : clOk c ft r)
    (hh : (ha, lstO hvs kh) ∈ n) (hhs : allS hvs = true) (hpl : ∀ sp ∈ sps, PlR n kvs num ap av sp)
    (h : V (.bool true) m n) : Ho true Pg w A g L m n (call (.ref 644) [.ref fa, .ref fa, .ref pd, .ref sa, .ref ha]) V := by
  refine en_def ok_law_is_heard [("frame", .ref fa), ("told", .ref fa), ("places", .ref pd), ("lives", .ref sa), ("has", .ref ha)] [some (.ref fa), some (.ref fa), some (.ref pd), some (.ref sa), some (.ref ha), none, none, none, none, none, none, none, none, none, none, none, none, none, none, none, none, none] G hR (by k_is) (by k_is) rfl rfl rfl rfl fun g L A G hR => hb_cons (hx_asg (he_dict3 (v1 := keyOf .ini) (v2 := keyOf .han) (v3 := keyOf .app) G (by decide +kernel) fun D ko kt1 kt2 kt3 hkd hD => ho_sv lv_law_is_heard_keys rfl (kt_next (hb_cons (hx_asgT (he_tup (ha_cons (he_tup (ha_cons (he_bytes fun _ => ha_cons (he_bytes fun _ => ha_nil (And.intro (Nat.le_of_ble_eq_true rfl) fun b0 hb0 => ha_cons (he_bytes fun _ => ha_nil (And.intro (Nat.le_of_ble_eq_true rfl) fun b1 hb1 => ha_tup hR.hh (by ktr_rel) rfl rfl ?_))))))))))))))
  refine hi_cons (hs_name (ho_sv lv_law_is_heard_ids rfl (hi_cons (hs_name (ho_sv lv_law_is_heard_data rfl (hi_nil (kt_next (hb_cons (hx_for (he_call (he_gv G gv_law_is_heard_closing_rows (gl_closing_rows w) (hc_def G (by tb_start) (ha_cons (he_lv lv_law_is_heard_ids rfl (ha_cons (he_lv lv_law_is_heard_places rfl (ha_cons (he_lv lv_law_is_heard_lives rfl (ha_cons (he_lv lv_law_is_heard_told rfl (ha_cons (he_int fun _ => ha_nil (S_closing_rows (d := peerB) (s := ownB) (num := num) (ap := ap) (av := av) (sps := sps) G (hR.le (by omega)) (by ktr_rel) (List.mem_of_mem_tail (by ktr_rel)) hd1 (by ktr_rel) hsp hlen (by ktr_rel) hv hok (by decide) (by decide) (fun sp h => (hpl sp h).ok fun p hp => by ktr_rel) fun ra rvs rk n' hn' hra hrows => ?_)))))))))))))))))))))))
  have sub : ∀ p ∈ n, p ∈ n' := fun p hp => hn'.subset (.tail _ (.tail _ (.tail _ hp)))
  have hkm : (D, ko) ∈ n' := hn'.subset (.tail _ (.tail _ (.head _)))
  have him : (b0, tupO [.bytes peerB.toArray _, .bytes ownB.toArray _]) ∈ n' := hn'.subset (.tail _ (.head _))
  have hpm := sub _ hp
  have hsm := sub _ hs
  have hfm := sub _ hf
  have hhm := sub _ hh
  have hn2 : n.Sublist n' := ((List.sublist_cons_self _ _).trans ((List.sublist_cons_self _ _).trans (List.sublist_cons_self _ _))).trans hn'
  have hrl := hrows.len
  clear hn'
  refine pi_list hra fun I o hI ho => hl_listTT (vs := rvs) (kk := rk) (LH1 fa pd sa ha D b0 c ft r num ap sps n') hR.hh ho ?_ ⟨_, none, none, none, none⟩ ?_ ?_ ?_
  · rintro i m' _ ⟨_⟩; exact hra
  · intro i v hiv
    obtain ⟨sp, a, _, _, _, _, _, _, rfl, _⟩ := hrows.at hiv
    exact ⟨a, rfl⟩
  · rintro i T m' _ o Z hiT ⟨t, x8, x9, x10, x11⟩ hZ
    obtain ⟨sp, a, bb, dd, st, k5, ws, hspi, e, hm1, hm2, hm3, hcv⟩ := hrows.at hiT
    cases e
    obtain ⟨pt, pt2, hva, hptm, hrst, hnum0, hnumlt⟩ := hpl sp (List.mem_of_getElem? hspi)
    have hptm := sub _ hptm
    obtain ⟨kt, hkat⟩ := keys_at (t1 := kt1) (t2 := kt2) (t3 := kt3) sp
    have hpll := plOf_len sp hok
    have hfll := flat_len (num := num) (ap := ap) hok (sps.take i)
    have htk : (sps.take i).length ≤ 3 := by simp; omega
    have hpkl := pkOf_len num ap sp hok
    have hsz := sz_cases (ap sp)
    refine ho_frame ?_
    intro us
    refine ha_tup hR.hh (by ktr_rel) rfl rfl ?_
    refine hi_cons (hs_name (ho_sv lv_law_is_heard_space rfl (hi_cons (hs_name (ho_sv lv_law_is_heard_frames rfl (hi_nil (hb_cons (hx_asgT (he_sub (he_lv lv_law_is_heard_places rfl (he_lv lv_law_is_heard_space rfl (ho_dget (by ktr_rel) (by assumption) (by assumption) ?_))))))))))))
    refine ha_tup hR.hh (by ktr_rel) rfl rfl ?_
    refine hi_cons (hs_name (ho_sv lv_law_is_heard_number rfl (hi_cons (hs_name (ho_sv lv_law_is_heard_acked rfl (hi_nil (kt_next (hb_cons (hx_asg (he_bin (he_lv lv_law_is_heard_data rfl (he_call (he_gv G gv_law_is_heard_put_packet (gl_put_packet w) (hc_def G (by tb_start) (ha_cons (he_call (he_gv G gv_law_is_heard_packet_with (gl_packet_with w) (hc_def G (by tb_start) (ha_cons (he_lv lv_law_is_heard_ids rfl (ha_cons (he_lv lv_law_is_heard_space rfl (ha_cons (he_lv lv_law_is_heard_number rfl (ha_cons (he_call (he_gv G gv_law_is_heard_put_frames (gl_put_frames w) (hc_def G (by tb_start) (ha_cons (he_lv lv_law_is_heard_frames rfl (ha_nil (S_put_frames G (hR.le (by omega)) (.tail _ hm2) (.tail _ hm3) hcv (fr_ok sp hok) fun _ => ha_nil (S_packet_with G (hR.le (by omega)) (.tail _ him) fun pa pvs hpv => ha_cons (he_lv lv_law_is_heard_acked rfl (ha_cons (he_sub (he_lv lv_law_is_heard_keys rfl (he_lv lv_law_is_heard_space rfl ?_))))))))))))))))))))))))))))))))))))))
    refine ho_dget (by ktr_rel) (by assumption) (by assumption) ?_
    refine ha_nil (S_put_packet (ap := ap sp) G (hR.le (by omega)) (.head _) hpv (by decide) (by decide) (by show (plOf c ft r sp).length ≤ 40; omega) hrst.ack hnum0 (hrst.le hnumlt) (by show 4 ≤ szG (ap sp) + (plOf c ft r sp).length; omega) fun _ => ?_)
    rw [show pkG sp peerB ownB (keyOf sp) (num sp) (ap sp) (clG (frC c ft sp) (frT ft sp) (frR ft r sp)) = pkOf c ft r num ap sp from rfl]
    refine ho_addB (by ktr_room) fun _ => ?_
    refine ho_sv lv_law_is_heard_data rfl (kt_next (hb_nil ?_))
    have et : sps.take (i + 1) = sps.take i ++ [sp] := by rw [List.take_add_one, hspi]; rfl
    have ef : (sps.take (i + 1)).flatMap (pkOf c ft r num ap) = (sps.take i).flatMap (pkOf c ft r num ap) ++ pkOf c ft r num ap sp := by rw [et, List.flatMap_append, List.flatMap_singleton]
    rw [← ef]
    exact hZ _ _ _ (turnP_next ((I, o) :: n') n' (List.sublist_cons_self _ _) (.refl _) ⟨_, _, _, _, _⟩)
  · rintro m' _ ⟨t, x8, x9, x10, x11⟩
    rw [hrl, List.take_length]
    have hfll := flat_len (num := num) (ap := ap) hok sps
    obtain ⟨ps, hch, hps⟩ := chain_of (data := sps.flatMap (pkOf c ft r num ap)) (num := num) (ap := ap) hok sps [] hlast rfl
    have hpsl := hps.len
    generalize sps.flatMap (pkOf c ft r num ap) = data at *
    refine kt_next (ho_frame ?_)
    intro us
    refine hb_cons (hx_asg (he_call (he_gv G gv_law_is_heard_split_datagram (gl_split_datagram w) (hc_def G (by tb_start) (ha_cons (he_lv lv_law_is_heard_data rfl (ha_cons (he_int fun _ => ha_nil (S_split G (hR.le (by omega)) (by omega) (by decide) (by decide) hch (by omega) fun a2 vs2 k2 pre2 hraws => ?_)))))))))
    have hrwl := hraws.len
    refine ho_sv lv_law_is_heard_raws rfl (kt_next (hb_cons (hx_if (ht_cmp (he_compL G (by decide +kernel) hR.hh (he_lv lv_law_is_heard_raws rfl (⟨a2, vs2, k2, rfl, .head _, fun D1 g1 C1 I1 hD1 G1 st1 => ⟨fun i nn => ∃ ws k, nn = (D1, lstO ws k) :: (a2, lstO vs2 k2) :: (pre2 ++ n') ∧ StrsAre ws ((ps.take i).map fun p => p.sp.kind) ∧ ws.length = i, ⟨[], 0, rfl, .nil, rfl⟩, ?_, ?_, ?_⟩⟩)))))))
    · rintro i nn ⟨ws, k, rfl, _⟩; exact .tail _ (.head _)
    · rintro i v mm nn oo hiv ⟨ws, k, rfl, hws, hwl⟩
      obtain ⟨p, x, hpi, rfl, hx⟩ := hraws.at hiv
      have hil : i < vs2.length := (List.getElem?_eq_some_iff.mp hiv).1
      have hx' := hx.mono (n' := (I1, oo) :: (D1, lstO ws k) :: (a2, lstO vs2 k2) :: (pre2 ++ n')) fun q hq => .tail _ (.tail _ (.tail _ hq))
      obtain ⟨dx, rt, u1, u2, u3, u4, u5, u6, u7, u8, u9, u10, v', hq1, hq2⟩ := hx'
      have G := G1
      refine hs_name (ho_st (hif_nil (ho_if_t rfl ?_)))
      refine he_attr (he_up (ho_get G (at_RawPacket_kind w) (by ktr_rel) (by ktr_rel) dk_RawPacket_kind rfl rfl rfl ?_))
      refine ho_appS (by ktr_unf) (by ktr_room) ?_
      refine ⟨_, .refl _, _, _, rfl, ?_, by simp [hwl]⟩
      have et : ps.take (i + 1) = ps.take i ++ [p] := by rw [List.take_add_one, hpi]; rfl
      rw [et, List.map_append]
      exact hws.snoc _ _
    · rintro nn ⟨ws, k, rfl, hws, hwl⟩
      rw [hrwl, List.take_length] at hws
      have hws2 : StrsAre ws (sps.map Sp.kind) := by
        rw [← hps.kinds, List.map_map]; exact hws
      refine he_compL G (by decide +kernel) hR.hh (he_lv lv_law_is_heard_lives rfl (⟨sa, svs, kk, rfl, .tail _ (.tail _ (List.mem_append_right _ hsm)), fun D2 g2 C2 I2 hD2 G2 st2 => ⟨fun i nn => ∃ ws2 k2', nn = (D2, lstO ws2 k2') :: (D1, lstO ws k) :: (a2, lstO vs2 k2) :: (pre2 ++ n') ∧ StrsAre ws2 ((sps.take i).map Sp.kind) ∧ ws2.length = i, ⟨[], 0, rfl, .nil, rfl⟩, ?_, ?_, ?_⟩⟩))
      · rintro i nn ⟨ws2, k2', rfl, _⟩; exact .tail _ (.tail _ (.tail _ (List.mem_append_right _ hsm)))
      · rintro i v mm nn oo hiv ⟨ws2, k2', rfl, hws2, hwl2⟩
        obtain ⟨sp, t', hspi, rfl⟩ := hsp.at hiv
        have hil : i < svs.length := (List.getElem?_eq_some_iff.mp hiv).1
        have hsl := hsp.len
        have et : sps.take (i + 1) = sps.take i ++ [sp] := by rw [List.take_add_one, hspi]; rfl
        have fin : ∀ t, ∃ nx, List.Sublist ((I2, oo) :: nx) ((I2, oo) :: (D2, lstO (ws2 ++ [.str sp.kind t]) (k2' + 1)) :: (D1, lstO ws k) :: (a2, lstO vs2 k2) :: (pre2 ++ n')) ∧ ∃ ws2 k2', nx = (D2, lstO ws2 k2') :: (D1, lstO ws k) :: (a2, lstO vs2 k2) :: (pre2 ++ n') ∧ StrsAre ws2 ((sps.take (i + 1)).map Sp.kind) ∧ ws2.length = i + 1 := fun t => ⟨_, .refl _, _, _, rfl, by rw [et, List.map_append]; exact hws2.snoc _ _, by simp [hwl2]⟩
        have G := G2
        cases sp
        · refine hs_name (ho_st (hif_nil (ho_if_t rfl ?_)))
          refine he_ife (ht_cmp (he_up (he_str fun _ => ho_eqS (ho_tb (ho_if_f (by tb_rel) ?_)))))
          refine he_up (ho_appS (by ktr_unf) (by ktr_room) ?_)
          exact fin _
        · refine hs_name (ho_st (hif_nil (ho_if_t rfl ?_)))
          refine he_ife (ht_cmp (he_up (he_str fun _ => ho_eqS (ho_tb (ho_if_f (by tb_rel) ?_)))))
          refine he_up (ho_appS (by ktr_unf) (by ktr_room) ?_)
          exact fin _
        · refine hs_name (ho_st (hif_nil (ho_if_t rfl ?_)))
          refine he_ife (ht_cmp (he_up (he_str fun _ => ho_eqS (ho_tb (ho_if_t (by tb_rel) ?_)))))
          refine he_str fun _ => ho_appS (by ktr_unf) (by ktr_room) ?_
          exact fin _
      · rintro nn ⟨ws2, k2', rfl, hwk2, hwl2⟩
        rw [hsp.len, List.take_length] at hwk2
        refine ho_neL (.tail _ (.head _)) (.head _) (hws2.same hwk2) (by have := hR.un; omega) ?_
        refine ho_tb (ho_if_f rfl (hb_nil (kt_next (hb_cons (hx_for (he_call (he_bv G gv_law_is_heard_zip (nb_zip w) bb_zip (by decide) (hc_ty (ha_cons (he_lv lv_law_is_heard_raws rfl (ha_cons (he_lv lv_law_is_heard_lives rfl (ha_nil (ho_drop _ (.cons _ (.cons _ (.refl _))) (ho_zip (.head _) (.tail _ (List.mem_append_right _ hsm)) fun z TI TO i1 i2 o1 o2 it1 it2 => pi_zip (hl_zipT (xs := vs2) (ys := svs) (k1 := k2) (k2 := kk) (LH2 fa pd sa ha D b0 a2 data t ((a2, lstO vs2 k2) :: (pre2 ++ n'))) hR.hh it1 it2 ?_ ?_ (by have := hsp.len; omega) ⟨_, _, _, _, none⟩ ?_ ?_))))))))))))))))
        · rintro i mm nn ⟨_⟩; exact .head _
        · rintro i mm nn ⟨_⟩; exact .tail _ (List.mem_append_right _ hsm)
        · rintro i xv yv T pre mm nn Z hix hiy ⟨x8, x9, x10, x11, x13⟩ hZ
          obtain ⟨p, xr, hpi, rfl, hraw⟩ := hraws.at hix
          obtain ⟨hspi, hpk⟩ := hps.at hpi
          obtain ⟨sp, st5, hspi', rfl⟩ := hsp.at hiy
          obtain ⟨sp1, pf, pst, pna, pen⟩ := p
          have esp : sp = sp1 := by rw [hspi] at hspi'; exact (Option.some.inj hspi').symm
          subst esp
          obtain ⟨pt, pt2, hva, hptm, hrst, hnum0, hnumlt⟩ := hpl sp (List.mem_of_getElem? hspi)
          obtain ⟨kt, hkat⟩ := keys_at (t1 := kt1) (t2 := kt2) (t3 := kt3) sp
          have mem : ∀ q ∈ n', q ∈ (T, tupO [.ref xr, .str sp.space st5]) :: (pre ++ (a2, lstO vs2 k2) :: (pre2 ++ n')) := fun q hq => .tail _ (List.mem_append_right _ (.tail _ (List.mem_append_right _ hq)))
          have hpm5 := mem _ hpm
          have hfm5 := mem _ hfm
          have hhm5 := mem _ hhm
          have hkm5 := mem _ hkm
          have hptm5 := mem _ (sub _ hptm)
          have hraw5 := hraw.mono (n' := (T, tupO [.ref xr, .str sp.space st5]) :: (pre ++ (a2, lstO vs2 k2) :: (pre2 ++ n'))) fun q hq => .tail _ (List.mem_append_right _ (.tail _ hq))
          clear mem
          refine ho_frame ?_
          intro us
          refine ho_ledger ?_
          intro nl
          refine ha_tup hR.hh (by ktr_rel) rfl rfl ?_
          refine hi_cons (hs_name (ho_sv lv_law_is_heard_raw rfl (hi_cons (hs_name (ho_sv lv_law_is_heard_space rfl (hi_nil (hb_cons (hx_asgT (he_sub (he_lv lv_law_is_heard_places rfl (he_lv lv_law_is_heard_space rfl (ho_dget (by ktr_rel) (by assumption) (by assumption) ?_))))))))))))
          refine ha_tup hR.hh (by ktr_rel) rfl rfl ?_
          refine hi_cons (hs_name (ho_sv lv_law_is_heard_number rfl (hi_cons (hs_name (ho_sv lv_law_is_heard_acked rfl (hi_nil (kt_next (hb_cons (hx_if (ht_and (ht_cmp (he_lv lv_law_is_heard_space rfl (he_lv lv_law_is_heard_has rfl (ho_inLS (by ktr_rel) hhs ?_))))))))))))))
          refine ho_tb (ho_if_both (fun hc => ?_) (fun hc => ?_))
          · have hpll := plOf_len sp hok
            refine ht_and (ht_cmp (he_call (he_gv G gv_law_is_heard_open_packet (gl_open_packet w) (hc_def G (by tb_start) (ha_cons (he_lv lv_law_is_heard_data rfl (ha_cons (he_lv lv_law_is_heard_raw rfl (ha_cons (he_sub (he_lv lv_law_is_heard_keys rfl (he_lv lv_law_is_heard_space rfl (ho_dget (by ktr_rel) (by assumption) (by assumption) ?_)))))))))))))
            refine ha_cons (he_lv lv_law_is_heard_acked rfl (ha_nil (S_open_packet G (hR.le (by omega)) (sp := sp) (num := num sp) (ap := ap sp) (pl := plOf c ft r sp) hpk hraw5 (by omega) (by omega) hrst hnum0 (by omega) fun b1 vs1 u1 u2 hp1 => he_call (he_gv G gv_law_is_heard_law_due (gl_law_due w) (hc_def G (by tb_start) (ha_cons (he_lv lv_law_is_heard_frame rfl (ha_cons (he_lv lv_law_is_heard_space rfl (ha_cons (he_lv lv_law_is_heard_number rfl (ha_nil (S_law_due G (hR.le (by omega)) (.tail _ hfm5) hv hok fun b2 ws2 u3 hp2 => ho_neT (.tail _ (.head _)) (.head _) (pktV_same hp1 hp2 (.int _ _ _) (.bytes _ _ _)) (by have := hR.un; omega) ?_)))))))))))))
            refine ho_tb (ho_if_f rfl (ho_if_f rfl (hb_nil (kt_next (hb_nil ?_)))))
            exact hZ _ _ _ (turnP_next _ _ (List.sublist_append_right [_, _, _] _) (.refl _) ⟨_, _, _, _, _⟩)
          · refine ho_if_f rfl (hb_nil (kt_next (hb_nil ?_)))
            exact hZ _ _ _ (turnP_next _ _ (List.sublist_append_right [_] _) (.refl _) ⟨_, _, _, _, _⟩)
        · rintro mm nn ⟨x8, x9, x10, x11, x13⟩
          refine kt_next (hb_cons (hx_ret (he_cbool (kt_ret ?_))))
          exact ⟨n, hn2.trans ((List.sublist_append_right _ _).trans (List.sublist_cons_self _ _)), h⟩
theorem en_top {s : Shared} {f : Addr} {oc : Value} {od : Option Addr} {osl : Array (Option Value)} {name qual : Str} {params : Arguments} {body : List Stmt} {scope : Scope} {dV kV doc pm cdv ct : Value} {an : Option Addr}
    {vs : List Value} {x0 : Str} {m0 : FMap} {v0 : Option Value} {Q : Value → Shared → Prop} {E : Value → Shared → Prop} (binds : List (Str × Value)) (G : Gk w s.heap)
    (ho : List.lookup f (hd.heap_1 w.params) = some ⟨oc, od, .func (fnOf name qual params body scope dV kV doc pm an cdv ct), osl⟩) (hcd : codeIn (hd.heap_1 w.params) cdv qual = true)
    (hbind : bindArgs (fnOf name qual params body scope dV kV doc pm an cdv ct) ⟨vs, []⟩ = pure binds)
    (hcf : ∀ n, cellsFrom n scope.names [] = [(x0, n)]) (hkind : ∀ x ∈ binds, scope.names.lookup x.1 = some .local ∨ (scope.names.lookup x.1 = some .cell ∧ x.1 = x0))
    (hL : ∀ L' c, bindL (envX qual scope L' f cdv [(x0, c)]).kindOf binds (fun _ => none) = m0) (hC : ∀ L' c, bindC (envX qual scope L' f cdv [(x0, c)]).kindOf binds (fun _ => none) x0 = v0)
    (hs : (scope.isCoroutine, scope.isGenerator, scope.kind) = (false, false, .function))
    (h : ∀ L' c o A', Rm A' 12 → o.data = .cell v0 → Ho true Pg w A' s.heap L' m0 [(c, o)] (execs body (envX qual scope L' f cdv [(x0, c)])) fun fl _ _ => (match fl with | .ret v => v | _ => .none) = .bool true)
    (post : ∀ h' tk', (∀ b o, s.heap.get? b = some o → h'.get? b = some o) → Q (.bool true) ⟨h', s.gens, s.drawn, tk', s.os⟩) : wpB true (model Pg w) callerA (call (.ref f) vs) Q E s := by
  have X := G.X
  have hlim := G.nolimit
  have hk := congrArg (·.2.2) hs
  refine wpB_runValue (codeB_call (fd := fnOf name qual params body scope dV kV doc pm an cdv ct) (by decide +kernel) (X _ _ ho) rfl (congrArg (·.1) hs) (congrArg (·.2.1) hs) rfl (codeRec_of X hcd) hbind (wpB_of (wpAny_newFunctionEnv_cells hk (fun x hx => ?_) fun env' he s' x => ?_)))
  · rcases hkind x hx with e | ⟨e, e2⟩
    · exact .inl e
    · refine .inr ⟨e, ?_⟩
      show ((cellsFrom (s.heap.objs.size + 1) scope.names []).lookup x.1).isSome = true
      rw [hcf, e2]; simp [List.lookup_cons]
  have he' : env' = envX qual scope s.heap.objs.size f cdv [(x0, s.heap.objs.size + 1)] := by rw [he]; show newEnv scope s.heap.objs.size mainGlobals (cellsFrom (s.heap.objs.size + 1) scope.names []) _ _ _ none _ = _; rw [hcf]; rfl
  subst he'
  obtain ⟨h₁, tk₁, rfl, _⟩ := x.done
  refine ⟨hlim.keeps x.toInCall.keep, codeB_func ?_⟩
  have hk₁ : ∀ b o, s.heap.get? b = some o → h₁.get? b = some o := x.toInCall.keep
  obtain ⟨o, hoc, hod⟩ := x.cell x0 (s.heap.objs.size + 1) (by simp [List.lookup_cons])
  have hns := x.toInCall.ns
  rw [hL] at hns
  rw [hC] at hod
  have hR : Rm (callerA.deeper (envX qual scope s.heap.objs.size f cdv [(x0, s.heap.objs.size + 1)])) 12 := ⟨rfl, by show callerA.depth + 1 + 12 < recursionLimit; decide +kernel, by show callerA.units + 3 + 8 * 12 < cLine; decide +kernel⟩
  refine (h s.heap.objs.size (s.heap.objs.size + 1) o _ hR hod).run h₁ _ _ _ _ _ _ ⟨hns, hk₁, Nat.le_refl _⟩ ⟨fun p hp => ?_, by simp⟩ fun fl m' n' h' tk' F' N' v => ?_
  · rw [List.mem_singleton.mp hp]
    refine ⟨hoc, Nat.ne_of_gt (Nat.lt_succ_self _), ?_⟩
    cases e : s.heap.get? (s.heap.objs.size + 1) with
    | none => rfl
    | some y => exact absurd (Heap.lt_size e) (Nat.not_lt.mpr (Nat.le_succ _))
  · have := post h' tk' F'.keep
    rw [← v] at this
    exact this
theorem ho_pick5 {T a0 a1 a2 a3 a4 : Addr} {l0 l1 l2 l3 l4 : List Value} {i : Int} {t : Tok} {value slice : Expr} (hi0 : 0 ≤ i) (hi1 : i < 5) (h : ∀ a l, (l = l0 ∨ l = l1 ∨ l = l2 ∨ l = l3 ∨ l = l4) → V (.ref a) m ((a, lstO l 0) :: n))
    (hs : subscripted slice false (.ref T) (.int i t) = operate [.ref T, .int i t] (getItem (.ref T) (.int i t)) := by with_unfolding_all rfl) :
    Ho true Pg w A g L m ((T, tupO [.ref a0, .ref a1, .ref a2, .ref a3, .ref a4]) :: (a4, lstO l4 0) :: (a3, lstO l3 0) :: (a2, lstO l2 0) :: (a1, lstO l1 0) :: (a0, lstO l0 0) :: n) (subscriptTail value slice (.ref T) (.int i t)) V := by
  refine ho_subp (ho_tiAny (.head _) hi0 (by simpa using hi1) (by simp) (fun y hy => ?_) hs)
  simp only [List.mem_cons, List.not_mem_nil, or_false] at hy
  rcases hy with rfl | rfl | rfl | rfl | rfl
  · exact ⟨(a0, lstO l0 0) :: n, by k_updF, h _ _ (.inl rfl)⟩
  · exact ⟨(a1, lstO l1 0) :: n, by k_updF, h _ _ (.inr (.inl rfl))⟩
  · exact ⟨(a2, lstO l2 0) :: n, by k_updF, h _ _ (.inr (.inr (.inl rfl)))⟩
  · exact ⟨(a3, lstO l3 0) :: n, by k_updF, h _ _ (.inr (.inr (.inr (.inl rfl))))⟩
  · exact ⟨(a4, lstO l4 0) :: n, by k_updF, h _ _ (.inr (.inr (.inr (.inr rfl))))⟩
noncomputable def LivesOk (l : List Value) : Prop := ∃ sps, SpsAre l sps ∧ appLast sps = true ∧ sps.length ≤ 3 ∧ sps.Nodup
theorem lives_of {t1 t2 t3 t4 t5 t6 t7 t8 t9 : Tok} {l : List Value} (h : l = [.str (Str.ofString "handshake") t1, .str (Str.ofString "application") t2] ∨ l = [.str (Str.ofString "initial") t3] ∨ l = [.str (Str.ofString "application") t4] ∨ l = [.str (Str.ofString "initial") t5, .str (Str.ofString "handshake") t6, .str (Str.ofString "application") t7] ∨ l = [.str (Str.ofString "initial") t8, .str (Str.ofString "handshake") t9]) : LivesOk l := by
  rcases h with rfl | rfl | rfl | rfl | rfl
  · exact ⟨[.han, .app], .cons .han _ (.cons .app _ .nil), rfl, by decide, by decide⟩
  · exact ⟨[.ini], .cons .ini _ .nil, rfl, by decide, by decide⟩
  · exact ⟨[.app], .cons .app _ .nil, rfl, by decide, by decide⟩
  · exact ⟨[.ini, .han, .app], .cons .ini _ (.cons .han _ (.cons .app _ .nil)), rfl, by decide, by decide⟩
  · exact ⟨[.ini, .han], .cons .ini _ (.cons .han _ .nil), rfl, by decide, by decide⟩
theorem frame_of {c : Int} {kv : Value} {t1 t2 t3 : Tok} {r : List UInt8} (h : kv ∈ [Value.int 0 t1, .int 6 t2, .none, .int 30 t3]) (h0 : 0 ≤ c) (h1 : c < 64) (hr : r.length ≤ 5) : ∃ ft, (∀ ta tb td, clV c ft r [.str (Str.ofString "close") ta, .int c tb, kv, .bytes r.toArray td]) ∧ clOk c ft r := by
  simp only [List.mem_cons, List.not_mem_nil, or_false] at h
  rcases h with rfl | rfl | rfl | rfl
  · exact ⟨some 0, fun _ _ _ => ⟨_, _, _, _, rfl⟩, h0, h1, fun k e => by cases e; decide, hr⟩
  · exact ⟨some 6, fun _ _ _ => ⟨_, _, _, _, rfl⟩, h0, h1, fun k e => by cases e; decide, hr⟩
  · exact ⟨none, fun _ _ _ => ⟨_, _, _, rfl⟩, h0, h1, (fun k e => by cases e), hr⟩
  · exact ⟨some 30, fun _ _ _ => ⟨_, _, _, _, rfl⟩, h0, h1, fun k e => by cases e; decide, hr⟩
noncomputable def RstW (wd : Int) (v : Value) (a ap : Int) : Prop := (v = .none ∧ ap = a + 1) ∨ ∃ e t, v = .int e t ∧ ap = a - e ∧ 0 ≤ e ∧ 1 ≤ ap ∧ ap ≤ 1 + wd
noncomputable def PlS (wd : Int) (pre : Led) (kvs : List (Str × Value)) (sp : Sp) : Prop := ∃ pt t num ap av, valueAt kvs sp.space = some (.ref pt) ∧ (pt, tupO [.int num t, av]) ∈ pre ∧ RstW wd av num ap ∧ 0 ≤ num ∧ num ≤ 300 + wd
theorem PlS.mono {wd : Int} {pre pre' : Led} {kvs : List (Str × Value)} {sp : Sp} (s : ∀ p ∈ pre, p ∈ pre') : PlS wd pre kvs sp → PlS wd pre' kvs sp := by
  rintro ⟨pt, t, num, ap, av, h1, h2, h3⟩
  exact ⟨pt, t, num, ap, av, h1, s _ h2, h3⟩
theorem space_inj {a b : Sp} (h : a.space = b.space) : a = b := by
  cases a <;> cases b <;> first | rfl | exact absurd h (by decide +kernel)
theorem PlS.other {wd : Int} {pre : Led} {kvs : List (Str × Value)} {sp sq : Sp} {v : Value} (hne : sq ≠ sp) : PlS wd pre kvs sp → PlS wd pre (stored kvs sq.space v) sp := by
  rintro ⟨pt, t, num, ap, av, h1, h2, h3⟩
  exact ⟨pt, t, num, ap, av, by rw [valueAt_stored, if_neg fun e => hne (space_inj e)]; exact h1, h2, h3⟩
theorem stored_len (kvs : List (Str × Value)) (k : Str) (v : Value) : (stored kvs k v).length ≤ kvs.length + 1 := by
  unfold stored; split <;> simp
theorem take_mem_lt {α : Type} {l : List α} {i : Nat} {a b : α} (hn : l.Nodup) (hi : l[i]? = some a) (hb : b ∈ l.take i) : a ≠ b := by
  rintro rfl
  obtain ⟨j, hj, e⟩ := List.getElem_of_mem hb
  simp at hj
  obtain ⟨hil, e2⟩ := List.getElem?_eq_some_iff.mp hi
  rw [List.getElem_take] at e
  exact List.pairwise_iff_getElem.mp hn j i (by omega) hil (by omega) (e.trans e2.symm)
theorem allS_snoc {x : Str} {t : Tok} : ∀ {vs : List Value}, allS vs = true → allS (vs ++ [.str x t]) = true
  | [], _ => rfl
  | .str _ _ :: l, h => allS_snoc (vs := l) h
noncomputable def nr (j : Nat) : Int := if j = 0 then 1 else if j = 1 then 2 else if j ≤ 3 then 4 else if j ≤ 7 then 8 else 16
noncomputable def rb (i : Nat) : Bool := i == 1 || i == 2 || i == 4 || i == 8
theorem nr_step {i : Nat} (h0 : 1 ≤ i) (h1 : i ≤ 8) : decide (nr (i - 1) ≤ ((i - 1 : Nat) : Int) + 1) = rb i ∧ (if nr (i - 1) ≤ ((i - 1 : Nat) : Int) + 1 then 2 * nr (i - 1) else nr (i - 1)) = nr i :=
  (by decide : ∀ i : Nat, i < 9 → 1 ≤ i → decide (nr (i - 1) ≤ ((i - 1 : Nat) : Int) + 1) = rb i ∧ (if nr (i - 1) ≤ ((i - 1 : Nat) : Int) + 1 then 2 * nr (i - 1) else nr (i - 1)) = nr i) i (Nat.lt_succ_of_le h1) h0
theorem any_rb {i : Nat} {t1 t2 t3 t4 : Tok} (h1 : i ≤ 8) : [Value.int 1 t1, .int 2 t2, .int 4 t3, .int 8 t4].any (isI (i : Int)) = rb i := by
  match i, h1 with
  | 0, _ => rfl
  | 1, _ => rfl
  | 2, _ => rfl
  | 3, _ => rfl
  | 4, _ => rfl
  | 5, _ => rfl
  | 6, _ => rfl
  | 7, _ => rfl
  | 8, _ => rfl
  | k + 9, h => exact absurd (Nat.le_trans (Nat.le_add_left 9 k) h) (by decide)
theorem rng_size {q : Int} (h0 : 0 ≤ q) : Builtin.Range.rangeSize 0 (q + 1) 1 = ((q.toNat + 1 : Nat) : Int) := by
  unfold Builtin.Range.rangeSize
  rw [if_pos (by decide), if_pos (by omega)]
  omega
theorem rng_small {q : Int} (h0 : 0 ≤ q) (h1 : q < 9) : Builtin.Range.small 0 (q + 1) 1 = true := by
  obtain ⟨k, rfl⟩ := Int.eq_ofNat_of_zero_le h0
  exact (by decide +kernel : ∀ k : Nat, k < 9 → Builtin.Range.small 0 ((k : Int) + 1) 1 = true) k (Int.ofNat_lt.mp h1)
theorem RstW.rst {wd : Int} {v : Value} {a ap : Int} (h : RstW wd v a ap) (hw : wd ≤ 100) : Rst v a ap := by
  rcases h with h | ⟨e, t, h1, h2, h3, h4, h5⟩
  · exact .inl h
  · exact .inr ⟨e, t, h1, h2, h3, h4, by omega⟩
theorem drop_mem_gt {α : Type} {l : List α} {i : Nat} {a b : α} (hn : l.Nodup) (hi : l[i]? = some a) (hb : b ∈ l.drop (i + 1)) : a ≠ b := by
  rintro rfl
  obtain ⟨hil, e2⟩ := List.getElem?_eq_some_iff.mp hi
  have h := (List.drop_sublist i l).nodup hn
  rw [List.drop_eq_getElem_cons hil, e2] at h
  exact (List.nodup_cons.mp h).1 hb
inductive LI1 (w : World) (sps : List Sp) (sc f0 sa u0 pd l0 : Addr) (code kv : Value) (R : Led) (i : Nat) : FMap → Led → Prop
  | mk (pre : Led) (po bo : Obj) (spot : Int) (st : Tok) (kvs : List (Str × Value)) (x7 x8 x9 : Option Value) (h1 : po.IsDictOf (PySem.strKind Pg w) kvs) (h2 : kvs.length ≤ i) (h3 : LsO bo [.ref l0, .int spot st]) (h4 : 0 ≤ spot) (h5 : spot ≤ 100 + 2 * (i : Int)) (h6 : ∀ sp ∈ sps.take i, PlS 0 pre kvs sp) :
    LI1 w sps sc f0 sa u0 pd l0 code kv R i (fm ns_law [some (.ref sc), some (.ref f0), some (.ref sa), some code, some kv, some (.ref u0), some (.ref pd), x7, x8, x9, none, none, none, none, none, none, none, none, none, none, none, none, none, none, none, none]) ((pd, po) :: (f0, bo) :: (pre ++ R))
inductive LI2 (w : World) (sps : List Sp) (sc f0 sa u0 pd q0 D cx cdx : Addr) (cr : CT) (code kv wait now many c1 c3 : Value) (dl ql ul sl : Addr × Obj) (i : Nat) : FMap → Led → Prop
  | mk (pre : Led) (po : Obj) (kvs : List (Str × Value)) (wd : Int) (x7 x8 x9 x18 : Option Value) (t1 t2 t3 : Tok) (h1 : po.IsDictOf (PySem.strKind Pg w) kvs) (h2 : kvs.length ≤ 3 + 3 * i) (h3 : 0 ≤ wd) (h4 : wd ≤ (i : Int)) (h5 : ∀ sp ∈ sps, PlS wd pre kvs sp) :
    LI2 w sps sc f0 sa u0 pd q0 D cx cdx cr code kv wait now many c1 c3 dl ql ul sl i
      (fm ns_law [some (.ref sc), some (.ref f0), some (.ref sa), some code, some kv, some (.ref u0), some (.ref pd), x7, x8, x9, some wait, some now, some many, some (.ref q0), none, some (.ref D), some (.ref cx), some (.int wd t3), x18, none, none, none, none, none, none, none])
      (clN w cx cdx cr [c1, .ref u0, c3, .int ((i - 1 : Nat) : Int) t1, .int (nr (i - 1)) t2] (dl :: ql :: (pd, po) :: ul :: sl :: pre))
inductive LI3 (w : World) (sps : List Sp) (sc f0 sa u0 pd q0 D cx cdx : Addr) (cr : CT) (code kv wait now many c1 c3 c4 c5 wd1 tn : Value) (wd : Int) (i : Nat) (il dl ql ul sl : Addr × Obj) (j : Nat) : FMap → Led → Prop
  | mk (pre : Led) (po : Obj) (kvs : List (Str × Value)) (x7 x8 x9 : Option Value) (h1 : po.IsDictOf (PySem.strKind Pg w) kvs) (h2 : kvs.length ≤ 3 + 3 * i + j) (h3 : ∀ sp ∈ sps.take j, PlS (wd + 1) pre kvs sp) (h4 : ∀ sp ∈ sps.drop j, PlS wd pre kvs sp) :
    LI3 w sps sc f0 sa u0 pd q0 D cx cdx cr code kv wait now many c1 c3 c4 c5 wd1 tn wd i il dl ql ul sl j
      (fm ns_law [some (.ref sc), some (.ref f0), some (.ref sa), some code, some kv, some (.ref u0), some (.ref pd), x7, x8, x9, some wait, some now, some many, some (.ref q0), none, some (.ref D), some (.ref cx), some wd1, some tn, none, none, none, none, none, none, none])
      (clN w cx cdx cr [c1, .ref u0, c3, c4, c5] (il :: dl :: ql :: (pd, po) :: ul :: sl :: pre))
theorem S_law_walk {s : Shared} {sc : Addr} {its : Array Value} {ns : List Int} {Q : Value → Shared → Prop} {E : Value → Shared → Prop} (G : Gk w s.heap) (hl : s.heap.IsList sc its) (hi : IntsAre its.toList ns) (hz : its.size ≤ 64)
    (post : ∀ h' tk', (∀ b o, s.heap.get? b = some o → h'.get? b = some o) → Q (.bool true) ⟨h', s.gens, s.drawn, tk', s.os⟩) : wpB true (model Pg w) callerA (call (.ref 649) [.ref sc]) Q E s := by
  refine en_top (x0 := Str.ofString "bits") (m0 := fm ns_law [some (.ref sc), none, none, none, none, none, none, none, none, none, none, none, none, none, none, none, none, none, none, none, none, none, none, none, none, none]) (v0 := none) [("script", .ref sc)] G (by k_is) (by k_is) rfl (fun _ => rfl) ?_ (fun _ _ => ?_) (fun _ _ => rfl) rfl (fun L c co A hR hco => ?_) post
  · intro x hx
    rw [List.mem_singleton.mp hx]
    exact .inl rfl
  · funext y
    have e := fm_lookup (ns := ns_law) (bs := [(Str.ofString "script", .ref sc)]) y (okn_of (bs := [(Str.ofString "script", .none)]) rfl (by decide +kernel))
    refine Eq.trans ?_ e.symm
    show (if y = Str.ofString "script" then some (Value.ref sc) else none) = _
    rw [List.lookup_cons]
    by_cases h : y = Str.ofString "script"
    · rw [if_pos h, show (y == Str.ofString "script") = true from by simpa using h]
    · rw [if_neg h, show (y == Str.ofString "script") = false from by simpa using h]; rfl
  refine hb_cons (hx_asg (he_list (ha_cons (he_call (he_bv G gv_law_list (nb_list w) bb_list (by decide) (hc_ty (ha_cons (he_cutLG hl (by omega) (he_lv lv_law_script rfl (he_int fun bt0 => ⟨_, _, rfl, rfl, fun r0 hr0 => ?_⟩))))))))))
  have hi24 : IntsAre (slicePick its none (some 24) none).toList (ns.take 24) := slice_ints_uptoW (vs := its.toList) hi (by decide)
  have hz24 : (slicePick its none (some 24) none).toList.length ≤ 64 := by have := slicePick_size_le its none (some 24) none; simp; omega
  generalize (slicePick its none (some 24) none).toList = xs at hi24 hz24
  generalize ns.take 24 = ns24 at hi24
  refine ha_nil (ho_listC (.head _) (by omega) fun l0 lc => ho_drop ((l0, lstO xs lc) :: (c, co) :: []) (by k_updF) ?_)
  refine ha_cons (he_int fun ft0 => ha_nil (And.intro (Nat.le_of_ble_eq_true rfl) fun f0 hf0 => ho_sv lv_law_box rfl (kt_next (hb_cons (hx_asg (he_sub (he_tup (ha_cons (he_list (ha_cons (he_str fun ft1 => ha_cons (he_str fun ft2 => ha_nil (And.intro (Nat.le_of_ble_eq_true rfl) fun f1 hf1 => ha_cons (he_list (ha_cons (he_str fun ft3 => ha_nil (And.intro (Nat.le_of_ble_eq_true rfl) fun f2 hf2 => ha_cons (he_list (ha_cons (he_str fun ft4 => ha_nil (And.intro (Nat.le_of_ble_eq_true rfl) fun f3 hf3 => ha_cons (he_list (ha_cons (he_str fun ft5 => ha_cons (he_str fun ft6 => ha_cons (he_str fun ft7 => ha_nil (And.intro (Nat.le_of_ble_eq_true rfl) fun f4 hf4 => ha_cons ?_)))))))))))))))))))))))))))
  refine he_list (ha_cons (he_str fun ft8 => ha_cons (he_str fun ft9 => ha_nil (And.intro (Nat.le_of_ble_eq_true rfl) fun f5 hf5 => ha_nil (And.intro (Nat.le_of_ble_eq_true rfl) fun f6 hf6 => he_call (he_gv G gv_law_law_take (gl_law_take w) (hc_def G (by tb_start) (ha_cons (he_lv lv_law_box rfl (ha_cons (he_int fun ft10 => ha_nil ?_)))))))))))
  have hlb : l0 ≠ f0 := hf0 _ (.head _)
  refine S_law_take G (hR.le (by omega)) (by ktr_unf) LsO.of (by ktr_rel) hlb hi24 hz24 (by decide) (by decide) (by decide) (by decide) fun r1 u1 v1 o1 hr1 hr1' ho1 => ?_
  refine ho_pick5 hr1 hr1' fun sa svs hsv => ?_
  have hlv := lives_of hsv
  clear hsv
  refine ho_sv lv_law_lives rfl (kt_next (hb_cons (hx_asg (he_bin (he_int fun kt0 => he_call (he_gv G gv_law_law_take (gl_law_take w) (hc_def G (by tb_start) (ha_cons (he_lv lv_law_box rfl (ha_cons (he_int fun kt1 => ha_nil (S_law_take G (hR.le (by omega)) (by ktr_unf) ho1 (by ktr_rel) hlb hi24 hz24 (by decide) (by decide) (by decide) (by decide) fun r2 u2 v2 o2 hr2 hr2' ho2 => ?_))))))))))))
  refine ho_add fun pt0 => ho_sv lv_law_code rfl (kt_next (hb_cons (hx_asg (he_sub (he_tup (ha_cons (he_int fun pt1 => ha_cons (he_int fun pt2 => ha_cons (he_none (ha_cons (he_int fun pt3 => ha_nil (And.intro (Nat.le_of_ble_eq_true rfl) fun p0 hp0 => he_call (he_gv G gv_law_law_take (gl_law_take w) (hc_def G (by tb_start) (ha_cons (he_lv lv_law_box rfl (ha_cons (he_int fun pt4 => ha_nil (S_law_take G (hR.le (by omega)) (by ktr_unf) ho2 (by ktr_rel) hlb hi24 hz24 (by decide) (by decide) (by decide) (by decide) fun r3 u3 v3 o3 hr3 hr3' ho3 => ?_)))))))))))))))))))
  refine ho_tiAny (.head _) hr3 hr3' (by simp) fun kv hkv => ?_
  refine ho_drop _ (List.sublist_cons_self _ _) (ho_sv lv_law_kind rfl (kt_next (hb_cons (hx_asgTS [PySem.Str.ofString "frame", PySem.Str.ofString "places"] ?_ rfl rfl))))
  refine he_tup (ha_cons (he_tup (ha_cons (he_str fun qt0 => ha_cons (he_lv lv_law_code rfl (ha_cons (he_lv lv_law_kind rfl (ha_cons (he_cut (he_bytes fun qt1 => hp_none (hp_some (he_call (he_gv G gv_law_law_take (gl_law_take w) (hc_def G (by tb_start) (ha_cons (he_lv lv_law_box rfl (ha_cons (he_int fun qt2 => ha_nil (S_law_take G (hR.le (by omega)) (by ktr_unf) ho3 (by ktr_rel) hlb hi24 hz24 (by decide) (by decide) (by decide) (by decide) fun r4 u4 v4 o4 hr4 hr4' ho4 => ?_)))))))))))))))))))
  refine ⟨_, _, _, _, rfl, by constructor, by constructor, by ktr_room, fun ut0 => ?_⟩
  refine ha_nil (And.intro (Nat.le_of_ble_eq_true rfl) fun u0 hu0 => ha_cons (he_dict0 G fun pd po hpo hpd => ha_nil (And.intro (Nat.le_of_ble_eq_true rfl) fun w0 hw0 => hu_tup hR.hh (by ktr_rel) rfl ?_)))
  refine hi_cons (hb_name (ho_sv lv_law_places rfl (hi_cons (hb_name (ho_sv lv_law_frame rfl (hi_nil (kt_next (hb_cons (hx_for (he_lv lv_law_lives rfl ?_))))))))))
  have hrl : (cut [97, 98, 99, 100, 101] none (some r4)).length ≤ 5 := by rw [cut_to hr4 (by simp; omega)]; simp; omega
  obtain ⟨ft, hcv, hcok⟩ := frame_of hkv (c := 1 + r2) (r := cut [97, 98, 99, 100, 101] none (some r4)) (by omega) (by omega) hrl
  generalize cut [97, 98, 99, 100, 101] none (some r4) = rs at hrl hcv hcok
  obtain ⟨sps, hsp, hlast, hlen, hnd⟩ := hlv
  have hsl := hsp.len
  refine ho_drop _ (List.sublist_cons_self _ _) (ho_perm ((pd, po) :: _ :: _ :: (f0, o4) :: _) (.refl _) (.cons _ (List.perm_middle (l₁ := [_, _]))) (pi_list (by ktr_rel) fun I o hI ho => ?_))
  clear hI hkv hf0
  have hcv1 := hcv qt0 pt0 ut0
  generalize [Value.str (Str.ofString "close") qt0, Value.int (1 + r2) pt0, kv, Value.bytes rs.toArray ut0] = fvs at hcv1 ⊢
  refine hl_listPT (vs := svs) (kk := 0) (LI1 w sps sc f0 sa u0 pd l0 (.int (1 + r2) pt0) kv [(u0, tupO fvs), (sa, lstO svs 0), (l0, lstO xs lc), (c, co)]) hR.hh ho ?_ ?_ ?_ ?_
  · rintro i m nn ⟨pre, po, bo, spot, st, kvs, x7, x8, x9, _, _, _, _, _, _⟩
    exact .tail _ (.tail _ (List.mem_append_right _ (.tail _ (.head _))))
  · exact ⟨[], po, o4, _, _, [], none, none, none, hpo, by simp, ho4, by decide, by decide, by simp⟩
  · rintro i v m nn o T hvi ⟨pre, po, bo, spot, st, kvs, x7, x8, x9, hpo, hkl, hbo, hs0, hs1, hpls⟩ hT
    obtain ⟨sp, t', hspi, rfl⟩ := hsp.at hvi
    have hil : i < sps.length := (List.getElem?_eq_some_iff.mp hspi).1
    have hml : (l0, lstO xs lc) ∈ pre ++ [(u0, tupO fvs), (sa, lstO svs 0), (l0, lstO xs lc), (c, co)] := List.mem_append_right _ (.tail _ (.tail _ (.head _)))
    have et : sps.take (i + 1) = sps.take i ++ [sp] := by rw [List.take_add_one, hspi]; rfl
    have fin : ∀ (q : Addr) (t0 : Tok) (num ap : Int) (av : Value) (po' bo' : Obj) (u7 : Tok) (x8 x9 : Option Value), RstW 0 av num ap → 0 ≤ num → num ≤ 300 → po'.IsDictOf (PySem.strKind Pg w) (stored kvs sp.space (.ref q)) → LsO bo' [.ref l0, .int (spot + 1 + 1) u7] →
        T .next
          (fm ns_law [some (.ref sc), some (.ref f0), some (.ref sa), some (.int (1 + r2) pt0), some kv, some (.ref u0), some (.ref pd), some (.str sp.space t'), x8, x9, none, none, none, none, none, none, none, none, none, none, none, none, none, none, none, none])
          ((q, tupO [.int num t0, av]) :: (I, o) :: (pd, po') :: (f0, bo') :: (pre ++ [(u0, tupO fvs), (sa, lstO svs 0), (l0, lstO xs lc), (c, co)])) := by
      intro q t0 num ap av po' bo' u7 x8 x9 hr h0 h1 hpo' hbo'
      refine hT _ _ _ (turnP_next _ _ (.refl _) ((List.perm_middle (l₁ := [(I, o), (pd, po'), (f0, bo')])).symm) ⟨(q, tupO [.int num t0, av]) :: pre, po', bo', _, _, _, _, _, _, hpo', Nat.le_trans (stored_len _ _ _) (by omega), hbo', by omega, by omega, ?_⟩)
      rw [et]
      intro sq hsq
      rcases List.mem_append.mp hsq with hsq | hsq
      · exact ((hpls sq hsq).mono fun p hp => .tail _ hp).other (take_mem_lt hnd hspi hsq)
      · rw [List.mem_singleton.mp hsq]
        exact ⟨q, t0, num, ap, av, by rw [valueAt_stored, if_pos rfl], .head _, hr, h0, by omega⟩
    refine ho_frame ?_
    intro us
    refine ho_ledger ?_
    intro nl
    refine hs_name (ho_sv lv_law_space rfl (hb_cons (hx_asg (he_bin (he_int fun at0 => he_call (he_gv G gv_law_law_take (gl_law_take w) (hc_def G (by tb_start) (ha_cons (he_lv lv_law_box rfl (ha_cons (he_int fun at1 => ha_nil (S_law_take G (hR.le (by omega)) (by ktr_unf) hbo (by ktr_rel) hlb hi24 hz24 hs0 (by omega) (by decide) (by decide) fun r5 u5 v5 o5 hr5 hr5' ho5 => ?_))))))))))))
    refine ho_mul (by tb_start) fun bt0 => ho_sv lv_law_number rfl (kt_next (hb_cons (hx_asg (he_ife (ht_or (ht_cmp (he_call (he_gv G gv_law_law_take (gl_law_take w) (hc_def G (by tb_start) (ha_cons (he_lv lv_law_box rfl (ha_cons (he_int fun bt1 => ha_nil (S_law_take G (hR.le (by omega)) (by ktr_unf) ho5 (by ktr_rel) hlb hi24 hz24 (by omega) (by omega) (by decide) (by decide) fun r6 u6 v6 o6 hr6 hr6' ho6 => ?_))))))))))))))
    refine he_int fun et0 => ho_eqI (ho_tb (ho_if_both (fun hc => ?_) (fun hc => ?_)))
    · refine ho_if_t rfl (he_none (ho_sv lv_law_acked rfl (kt_next (hb_cons (hx_asgS (he_tup (ha_cons (he_lv lv_law_number rfl (ha_cons (he_lv lv_law_acked rfl (ha_nil (And.intro (Nat.le_of_ble_eq_true rfl) fun k0 hk0 => he_lv lv_law_places rfl (he_lv lv_law_space rfl (ho_dset (by ktr_unf) hpo (by omega) fun po' hpo' => ?_))))))))))))))
      refine kt_next (hb_nil ?_)
      exact fin _ _ _ _ _ _ _ _ _ _ (.inl ⟨rfl, rfl⟩) (by omega) (by omega) hpo' ho6
    · refine ht_or (ht_cmp (he_lv lv_law_number rfl (he_int fun kt0 => ho_eqI (ho_tb (ho_if_both (fun hc2 => ?_) (fun hc2 => ?_))))))
      · refine ho_if_t rfl (he_none (ho_sv lv_law_acked rfl (kt_next (hb_cons (hx_asgS (he_tup (ha_cons (he_lv lv_law_number rfl (ha_cons (he_lv lv_law_acked rfl (ha_nil (And.intro (Nat.le_of_ble_eq_true rfl) fun p0 hp0 => he_lv lv_law_places rfl (he_lv lv_law_space rfl (ho_dset (by ktr_unf) hpo (by omega) fun po' hpo' => ?_))))))))))))))
        refine kt_next (hb_nil ?_)
        exact fin _ _ _ _ _ _ _ _ _ _ (.inl ⟨rfl, rfl⟩) (by omega) (by omega) hpo' ho6
      · have hc3 : ¬ (50 * r5 = 0) := beq_eq_false_iff_ne.mp hc2
        refine ht_or0 (ho_if_f rfl (he_bin (he_lv lv_law_number rfl (he_int fun pt0 => ho_sub fun pt1 => ho_sv lv_law_acked rfl (kt_next (hb_cons (hx_asgS (he_tup (ha_cons (he_lv lv_law_number rfl (ha_cons (he_lv lv_law_acked rfl (ha_nil (And.intro (Nat.le_of_ble_eq_true rfl) fun p0 hp0 => he_lv lv_law_places rfl (he_lv lv_law_space rfl (ho_dset (by ktr_unf) hpo (by omega) fun po' hpo' => ?_))))))))))))))))
        refine kt_next (hb_nil ?_)
        exact fin _ _ _ _ _ _ _ _ _ _ (.inr ⟨_, _, rfl, rfl, by omega, by omega, by omega⟩) (by omega) (by omega) hpo' ho6
  · rintro m nn ⟨pre, po, bo, spot, st, kvs, x7, x8, x9, hpo, hkl, hbo, hs0, hs1, hpls⟩
    rw [hsl, List.take_length] at hpls
    have hpm : List.Perm ((pd, po) :: (f0, bo) :: (pre ++ [(u0, tupO fvs), (sa, lstO svs 0), (l0, lstO xs lc), (c, co)])) ((pd, po) :: (f0, bo) :: (u0, tupO fvs) :: (sa, lstO svs 0) :: (l0, lstO xs lc) :: (c, co) :: pre) := .cons _ (.cons _ List.perm_append_comm)
    refine kt_next (ho_perm _ (.refl _) hpm ?_)
    clear hpm ho
    refine ho_frame ?_
    intro us
    refine hb_cons (hx_asg (he_bin (he_int fun at0 => he_call (he_gv G gv_law_law_take (gl_law_take w) (hc_def G (by tb_start) (ha_cons (he_lv lv_law_box rfl (ha_cons (he_int fun at1 => ha_nil (S_law_take G (hR.le (by omega)) (by ktr_unf) hbo (by ktr_rel) hlb hi24 hz24 hs0 (by omega) (by decide) (by decide) fun wt u5 v5 o5 hwt hwt' ho5 => ?_))))))))))
    refine ho_add fun bt0 => ho_sv lv_law_wait rfl (kt_next (hb_cons (hx_asg (he_call (he_gv G gv_law_law_take (gl_law_take w) (hc_def G (by tb_start) (ha_cons (he_lv lv_law_box rfl (ha_cons (he_int fun bt1 => ha_nil (S_law_take G (hR.le (by omega)) (by ktr_unf) ho5 (by ktr_rel) hlb hi24 hz24 (by omega) (by omega) (by decide) (by decide) fun nw u6 v6 o6 hnw hnw' ho6 => ?_)))))))))))
    refine ho_sv lv_law_now rfl (kt_next (hb_cons (hx_asg (he_call (he_gv G gv_law_law_take (gl_law_take w) (hc_def G (by tb_start) (ha_cons (he_lv lv_law_box rfl (ha_cons (he_int fun et0 => ha_nil (S_law_take G (hR.le (by omega)) (by ktr_unf) ho6 (by ktr_rel) hlb hi24 hz24 (by omega) (by omega) (by decide) (by decide) fun many u7 v7 o7 hmany hmany' ho7 => ?_)))))))))))
    refine ho_sv lv_law_many rfl (kt_next (hb_cons (hx_asg (he_list (ha_cons (he_call (he_gv G gv_law_law_take (gl_law_take w) (hc_def G (by tb_start) (ha_cons (he_lv lv_law_box rfl (ha_cons (he_int fun kt0 => ha_nil (S_law_take G (hR.le (by omega)) (by ktr_unf) ho7 (by ktr_rel) hlb hi24 hz24 (by omega) (by omega) (by decide) (by decide) fun ar1 u8 v8 o8 har1 har1' ho8 => ?_)))))))))))))
    refine ha_cons (he_call (he_gv G gv_law_law_take (gl_law_take w) (hc_def G (by tb_start) (ha_cons (he_lv lv_law_box rfl (ha_cons (he_int fun ppt0 => ha_nil (S_law_take G (hR.le (by omega)) (by ktr_unf) ho8 (by ktr_rel) hlb hi24 hz24 (by omega) (by omega) (by decide) (by decide) fun ar2 u9 v9 o9 har2 har2' ho9 => ?_))))))))
    refine ha_nil (And.intro (Nat.le_of_ble_eq_true rfl) fun q0 hq0 => ho_sv lv_law_arrives rfl (kt_next (hb_cons (hx_asg (he_bin (he_int fun qt0 => he_call (he_gv G gv_law_law_take (gl_law_take w) (hc_def G (by tb_start) (ha_cons (he_lv lv_law_box rfl (ha_cons (he_int fun qt1 => ha_nil (S_law_take G (hR.le (by omega)) (by ktr_unf) ho9 (by ktr_rel) hlb hi24 hz24 (by omega) (by omega) (by decide) (by decide) fun bt u10 v10 o10 hbt hbt' ho10 => ?_)))))))))))))
    refine ho_add fun ut0 => ho_stc (x := Str.ofString "bits") (by ktr_unf) hco (by rfl) fun co' hco' => ?_
    refine kt_next (hb_cons (hx_asgC ?_ (by rfl)))
    refine ho_comp_useET [(Str.ofString "bits", c)] G hR.hh (by rfl) (by rfl) (he_call (he_bv G gv_law_enumerate (nb_enumerate w) bb_enumerate (by decide) (hc_ty (ha_cons (he_tup (ha_cons (he_str fun yt0 => ha_cons (he_str fun yt1 => ha_cons (he_str fun yt2 => ha_nil (And.intro (Nat.le_of_ble_eq_true rfl) fun y0 hy0 => ha_nil (ho_enumT (by ktr_rel) fun y1 y1i y1o y1O hy1 hy1i => ?_)))))))))))
    refine ⟨y1, y1i, y1o, y0, [.str (Str.ofString "handshake") yt0, .str (Str.ofString "initial") yt1, .str (Str.ofString "application") yt2], _, rfl, rfl, by assumption, fun D hD => ⟨fun i nn => ∃ ws k, nn = (D, lstO ws k) :: (y0, tupO [.str (Str.ofString "handshake") yt0, .str (Str.ofString "initial") yt1, .str (Str.ofString "application") yt2]) :: (q0, lstO [.int ar1 u8, .int ar2 u9] 0) :: (pd, po) :: (f0, o10) :: (u0, tupO fvs) :: (sa, lstO svs 0) :: (l0, lstO xs lc) :: (c, co') :: pre ∧ allS ws = true ∧ ws.length ≤ i, ⟨[], 0, rfl, rfl, by simp⟩, ?_, ?_, ?_⟩⟩
    · rintro i nn ⟨ws, k, rfl, _⟩; exact .tail _ (.head _)
    · rintro g C G' st i v mm nn T t1 rr1 rr2 hiv ⟨ws, k, rfl, hws, hwl⟩
      have hil : i < 3 := by simpa using (List.getElem?_eq_some_iff.mp hiv).1
      have G := G'
      have hw3 : ws.length ≤ 100000 := by omega
      have fin : ∀ x t, ∃ n', List.Sublist (rr1 :: rr2 :: n') ((T, tupO [.int (i : Int) t1, v]) :: rr1 :: rr2 :: (D, lstO (ws ++ [.str x t]) (k + 1)) :: (y0, tupO [.str (Str.ofString "handshake") yt0, .str (Str.ofString "initial") yt1, .str (Str.ofString "application") yt2]) :: (q0, lstO [.int ar1 u8, .int ar2 u9] 0) :: (pd, po) :: (f0, o10) :: (u0, tupO fvs) :: (sa, lstO svs 0) :: (l0, lstO xs lc) :: (c, co') :: pre) ∧ ∃ ws k, n' = (D, lstO ws k) :: (y0, tupO [.str (Str.ofString "handshake") yt0, .str (Str.ofString "initial") yt1, .str (Str.ofString "application") yt2]) :: (q0, lstO [.int ar1 u8, .int ar2 u9] 0) :: (pd, po) :: (f0, o10) :: (u0, tupO fvs) :: (sa, lstO svs 0) :: (l0, lstO xs lc) :: (c, co') :: pre ∧ allS ws = true ∧ ws.length ≤ i + 1 :=
        fun x t => ⟨_, List.Sublist.cons _ (List.Sublist.refl _), _, _, rfl, allS_snoc hws, by simp; omega⟩
      rcases (by omega : i = 0 ∨ i = 1 ∨ i = 2) with rfl | rfl | rfl
      · cases hiv
        refine ha_tup hR.hh (by ktr_rel) rfl rfl ?_
        refine hi_cons (hs_name (ho_st (hi_cons (hs_name (ho_st (hi_nil (hif_one (ht_cmp (he_bin (he_bin (he_cellv (by rfl) (by ktr_rel) (by assumption) ?_)))))))))))
        refine he_bin (he_int fun bt0 => he_up1 (by decide) (ho_powE (c := 1) (by decide) (by decide) (by decide) (by decide +kernel) fun bt1 => ho_div (by omega) (PyProof.noPylong_of_log2 (by decide +kernel)) fun bt2 => he_int fun bt3 => ho_mod (by omega) fun bt4 => he_int fun bt5 => ho_eqI (ho_tb (ho_if_both (fun hc => ?_) (fun hc => ?_)))))
        · refine he_up (ho_appS (by ktr_unf) (by ktr_room) ?_)
          exact fin _ _
        · exact ⟨_, List.Sublist.cons _ (List.Sublist.refl _), _, _, rfl, hws, by omega⟩
      · cases hiv
        refine ha_tup hR.hh (by ktr_rel) rfl rfl ?_
        refine hi_cons (hs_name (ho_st (hi_cons (hs_name (ho_st (hi_nil (hif_one (ht_cmp (he_bin (he_bin (he_cellv (by rfl) (by ktr_rel) (by assumption) ?_)))))))))))
        refine he_bin (he_int fun bt0 => he_up1 (by decide) (ho_powE (c := 2) (by decide) (by decide) (by decide) (by decide +kernel) fun bt1 => ho_div (by omega) (PyProof.noPylong_of_log2 (by decide +kernel)) fun bt2 => he_int fun bt3 => ho_mod (by omega) fun bt4 => he_int fun bt5 => ho_eqI (ho_tb (ho_if_both (fun hc => ?_) (fun hc => ?_)))))
        · refine he_up (ho_appS (by ktr_unf) (by ktr_room) ?_)
          exact fin _ _
        · exact ⟨_, List.Sublist.cons _ (List.Sublist.refl _), _, _, rfl, hws, by omega⟩
      · cases hiv
        refine ha_tup hR.hh (by ktr_rel) rfl rfl ?_
        refine hi_cons (hs_name (ho_st (hi_cons (hs_name (ho_st (hi_nil (hif_one (ht_cmp (he_bin (he_bin (he_cellv (by rfl) (by ktr_rel) (by assumption) ?_)))))))))))
        refine he_bin (he_int fun bt0 => he_up1 (by decide) (ho_powE (c := 4) (by decide) (by decide) (by decide) (by decide +kernel) fun bt1 => ho_div (by omega) (PyProof.noPylong_of_log2 (by decide +kernel)) fun bt2 => he_int fun bt3 => ho_mod (by omega) fun bt4 => he_int fun bt5 => ho_eqI (ho_tb (ho_if_both (fun hc => ?_) (fun hc => ?_)))))
        · refine he_up (ho_appS (by ktr_unf) (by ktr_room) ?_)
          exact fin _ _
        · exact ⟨_, List.Sublist.cons _ (List.Sublist.refl _), _, _, rfl, hws, by omega⟩
    · rintro n' C oC ⟨ws, k, rfl, hws, hwl⟩
      refine hs_name (ho_sv lv_law_has rfl (⟨(D, lstO ws k) :: (q0, lstO [.int ar1 u8, .int ar2 u9] 0) :: (pd, po) :: (u0, tupO fvs) :: (sa, lstO svs 0) :: pre, by k_updF, ?_⟩))
      refine kt_next (ho_frame ?_)
      intro us
      refine ho_ledger ?_
      intro nl
      refine hb_cons (hx_asgTS [PySem.Str.ofString "closing", PySem.Str.ofString "words"] ?_ rfl rfl)
      refine he_tup (ha_cons (he_call (he_gv G gv_law_Closing (gl_Closing w) (hc_def0 G (by tb_start) (S_closing G (hR.le (by omega)) fun cx cdx cr ct1 ct2 ct3 => ha_cons (he_int fun bbt0 => ha_nil (And.intro (Nat.le_of_ble_eq_true rfl) fun bb0 hbb0 => hu_tup hR.hh (by ktr_rel) rfl ?_)))))))
      refine hi_cons (hb_name (ho_sv lv_law_words rfl (hi_cons (hb_name (ho_sv lv_law_closing rfl (hi_nil (kt_next (hb_cons (hx_if (ht_or (ht_val (he_meth (he_lv lv_law_closing rfl (hm_inst G (mt_Closing_on_packet w).1 (mt_Closing_on_packet w).2.1 (mt_Closing_on_packet w).2.2 (by ktr_rel) (by ktr_rel) dm_Closing_on_packet ?_))))))))))))))
      refine hc_def0 G (by tb_start) (ho_drop _ (List.sublist_cons_self _ _) (S_on_packet0 G (hR.le (by omega)) (by decide +kernel) (ho_tb (ho_if_f rfl (ht_or (ht_not (ht_val (he_meth (he_lv lv_law_closing rfl (hm_inst G (mt_Closing_close_now w).1 (mt_Closing_close_now w).2.1 (mt_Closing_close_now w).2.2 (by ktr_rel) (by ktr_rel) dm_Closing_close_now ?_))))))))))
      refine hc_def G (by tb_start) (ha_cons (he_lv lv_law_frame rfl (ha_cons (he_lv lv_law_now rfl (ha_cons (he_lv lv_law_wait rfl (ha_nil (S_close_now G (hR.le (by omega)) (by omega) fun ct4 ct5 => ho_tb (ho_if_f (by tb_rel) ?_)))))))))
      refine ht_or0 (ho_if_f rfl (hb_nil (kt_next (hb_cons (hx_for (he_call (he_bv G gv_law_range (nb_range w) bb_range (by decide) (hc_ty (ha_cons (he_bin (he_lv lv_law_many rfl (he_int fun kt0 => ho_add fun kt1 => ha_nil (ho_range1 fun k0 _ _ _ hk0 => pi_rangeD .head (.head _) (rng_small hmany hmany') (k := ((many.toNat + 1 : Nat) : Int)) (rng_size hmany) fun I => hl_rangePT (many.toNat + 1) (LI2 w sps sc f0 sa u0 pd q0 D cx cdx cr (.int (1 + r2) pt0) kv (.int (10 + wt) bt0) (.int nw u6) (.int many u7) (.str (Str.ofString "closing") ct4) (.int (nw + 3 * (10 + wt)) ct5) (D, lstO ws k) (q0, lstO [.int ar1 u8, .int ar2 u9] 0) (u0, tupO fvs) (sa, lstO svs 0)) hR.hh ?_ ?_ ?_)))))))))))))
      · exact ⟨pre, po, kvs, 0, x7, x8, x9, none, _, _, _, hpo, by omega, by decide, by decide, hpls⟩
      · rintro i m nn t o T hik ⟨pre, po, kvs, wd, x7, x8, x9, x18, tt1, tt2, tt3, hpo, hkl, hwd0, hwd1, hpls⟩ hT
        have hi8 : i ≤ 8 := by omega
        have ei : (0 + (i : Int) * 1) = (i : Int) := by omega
        rw [ei]
        refine ho_perm (n' := clN w cx cdx cr [.str (Str.ofString "closing") ct4, .ref u0, .int (nw + 3 * (10 + wt)) ct5, .int ((i - 1 : Nat) : Int) tt1, .int (nr (i - 1)) tt2] ((I, o) :: (D, lstO ws k) :: (q0, lstO [.int ar1 u8, .int ar2 u9] 0) :: (pd, po) :: (u0, tupO fvs) :: (sa, lstO svs 0) :: pre)) _ (.refl _) ((List.perm_middle (l₁ := [_, _])).symm) (hs_name (ho_sv lv_law_turn rfl ?_))
        refine hb_cons (Ho.cut (P := fun f m' n' => (f = .next ∨ f = .cont) ∧ ∃ u1 u2 u3, List.Sublist (clN w cx cdx cr [.str (Str.ofString "closing") ct4, .ref u0, .int (nw + 3 * (10 + wt)) ct5, .int (i : Int) u1, .int (nr i) u2] ((I, o) :: (D, lstO ws k) :: (q0, lstO [.int ar1 u8, .int ar2 u9] 0) :: (pd, po) :: (u0, tupO fvs) :: (sa, lstO svs 0) :: pre)) n' ∧
          m' = fm ns_law [some (.ref sc), some (.ref f0), some (.ref sa), some (.int (1 + r2) pt0), some kv, some (.ref u0), some (.ref pd), x7, x8, x9, some (.int (10 + wt) bt0), some (.int nw u6), some (.int many u7), some (.ref q0), none, some (.ref D), some (.ref cx), some (.int wd tt3), some (.int (i : Int) u3), none, none, none, none, none, none, none]) ?_ ?_)
        · intro Z hZ
          rcases Nat.eq_zero_or_pos i with rfl | hi0
          · refine hx_if (ht_cmp (he_lv lv_law_turn rfl (he_int fun aet0 => ho_gt (ho_tb (ho_if_f (decide_eq_false (by omega)) (hb_nil ?_))))))
            exact hZ _ _ _ ⟨.inl rfl, _, _, _, .refl _, rfl⟩
          · obtain ⟨hn1, hn2⟩ := nr_step hi0 hi8
            have hi1 : ((i - 1 : Nat) : Int) + 1 = (i : Int) := by omega
            refine ho_frame ?_
            intro us
            refine hx_if (ht_cmp (he_lv lv_law_turn rfl (he_int fun aet0 => ho_gt (ho_tb (ho_if_t (decide_eq_true (by omega)) (hb_cons (hx_if (ht_or (ht_cmp (he_meth (he_lv lv_law_closing rfl (hm_inst G (mt_Closing_on_packet w).1 (mt_Closing_on_packet w).2.1 (mt_Closing_on_packet w).2.2 (by ktr_rel) (by ktr_rel) dm_Closing_on_packet ?_))))))))))))
            refine hc_def0 G (by tb_start) (S_on_packet G (hR.le (by omega)) fun _ _ => ?_)
            rw [hn1, hn2, hi1]
            refine he_cmp (he_lv lv_law_turn rfl (he_tup (ha_cons (he_int fun aft0 => ha_cons (he_int fun aft1 => ha_cons (he_int fun aft2 => ha_cons (he_int fun aft3 => ha_nil (And.intro (Nat.le_of_ble_eq_true rfl) fun af0 haf0 => ho_inTI (by ktr_rel) rfl ?_))))))))
            refine ho_andB (ho_tb (ho_if_f (by rw [any_rb hi8]; simp) ?_))
            refine ht_or (ht_val (he_meth (he_lv lv_law_closing rfl (hm_inst G (mt_Closing_close_now w).1 (mt_Closing_close_now w).2.1 (mt_Closing_close_now w).2.2 (by ktr_rel) (by ktr_rel) dm_Closing_close_now ?_))))
            refine hc_def G (by tb_start) (ha_cons (he_tup (ha_cons (he_str fun agt0 => ha_cons (he_int fun agt1 => ha_cons (he_int fun agt2 => ha_cons (he_bytes fun agt3 => ha_nil (And.intro (Nat.le_of_ble_eq_true rfl) fun ag0 hag0 => ha_cons (he_bin (he_lv lv_law_now rfl (he_lv lv_law_turn rfl (ho_add fun agt4 => ha_cons (he_bin (he_lv lv_law_wait rfl (he_int fun agt5 => ho_add fun agt6 => ha_nil (ho_drop _ (.cons _ (.cons _ (.refl _))) (S_close_now2 G (hR.le (by omega)) (ho_tb (ho_if_f rfl (ht_or0 (ho_if_f rfl (hb_nil (kt_next (hb_cons (hx_if (ht_cmp (he_lv lv_law_turn rfl (he_tup (ha_cons (he_int fun aht0 => ha_cons (he_int fun aht1 => ?_)))))))))))))))))))))))))))))))
            refine ha_cons (he_int fun aht2 => ha_cons (he_int fun aht3 => ha_nil (And.intro (Nat.le_of_ble_eq_true rfl) fun ah0 hah0 => ho_ninTI (by ktr_rel) rfl ?_)))
            rw [any_rb hi8]
            refine ho_tb (ho_if_both (fun hc => ?_) (fun hc => ?_))
            · refine hb_cons (hx_cont (kt_cont (kt_cont ?_)))
              exact hZ _ _ _ ⟨.inr rfl, _, _, _, .cons _ (.refl _), rfl⟩
            · refine hb_nil (kt_next (hb_nil ?_))
              exact hZ _ _ _ ⟨.inl rfl, _, _, _, .cons _ (.refl _), rfl⟩
        · rintro f m' n' ⟨hf, v1, v2, v3, hsub, rfl⟩
          rcases hf with rfl | rfl
          · refine kt_next (ho_drop _ hsub ?_)
            have hch : ∀ sp : Sp, ∃ x : Int × Int × Value, sp ∈ sps → ∃ pt t, valueAt kvs sp.space = some (.ref pt) ∧ (pt, tupO [.int x.1 t, x.2.2]) ∈ pre ∧ RstW wd x.2.2 x.1 x.2.1 ∧ 0 ≤ x.1 ∧ x.1 ≤ 300 + wd := fun sp => by
              by_cases h : sp ∈ sps
              · obtain ⟨pt, t, num, ap, av, h1, h2, h3, h4, h5⟩ := hpls sp h
                exact ⟨(num, ap, av), fun _ => ⟨pt, t, h1, h2, h3, h4, h5⟩⟩
              · exact ⟨(0, 0, .none), fun h' => absurd h' h⟩
            obtain ⟨F, hF⟩ := Classical.axiomOfChoice hch
            refine hb_cons (Ho.cut (P := fun f m' n' => f = .next ∧ m' = fm ns_law [some (.ref sc), some (.ref f0), some (.ref sa), some (.int (1 + r2) pt0), some kv, some (.ref u0), some (.ref pd), x7, x8, x9, some (.int (10 + wt) bt0), some (.int nw u6), some (.int many u7), some (.ref q0), none, some (.ref D), some (.ref cx), some (.int wd tt3), some (.int (i : Int) v3), none, none, none, none, none, none, none] ∧
              n' = clN w cx cdx cr [.str (Str.ofString "closing") ct4, .ref u0, .int (nw + 3 * (10 + wt)) ct5, .int (i : Int) v1, .int (nr i) v2] ((I, o) :: (D, lstO ws k) :: (q0, lstO [.int ar1 u8, .int ar2 u9] 0) :: (pd, po) :: (u0, tupO fvs) :: (sa, lstO svs 0) :: pre)) ?_ ?_)
            · intro Z hZ
              refine ho_frame ?_
              intro us
              refine ho_ledger ?_
              intro nl
              refine hx_if (ht_and (ht_cmp (he_lv lv_law_words rfl (he_lv lv_law_arrives rfl (ho_inLI (by ktr_rel) rfl ?_)))))
              refine ho_tb (ho_if_both (fun hc => ?_) (fun hc => ?_))
              · refine ht_and (ht_not (ht_val (he_call (he_gv G gv_law_law_is_heard (gl_law_is_heard w) (hc_def G (by tb_start) (ha_cons (he_lv lv_law_frame rfl (ha_cons (he_attr (he_lv lv_law_closing rfl (ho_get G (at_Closing_frame w) (by ktr_rel) (by ktr_rel) dk_Closing_frame rfl rfl rfl ?_)))))))))))
                refine ha_cons (he_lv lv_law_places rfl (ha_cons (he_lv lv_law_lives rfl (ha_cons (he_lv lv_law_has rfl (ha_nil (S_is_heard (num := fun sp => (F sp).1) (ap := fun sp => (F sp).2.1) (av := fun sp => (F sp).2.2) G (hR.le (by omega)) (by ktr_rel) hpo (by ktr_rel) hsp hlen hlast (by ktr_rel) hcv1 hcok (by ktr_rel) hws (fun sp hsp' => ?_) ?_)))))))
                · obtain ⟨pt, t, g1, g2, g3, g4, g5⟩ := hF sp hsp'
                  exact ⟨pt, t, g1, .tail _ (.tail _ (.tail _ (.tail _ (.tail _ (.tail _ (.tail _ (.tail _ g2))))))), g3.rst (by omega), g4, by show (F sp).1 < 29000; omega⟩
                refine ho_tb (ho_if_f (by tb_rel) ?_)
                refine ho_if_f rfl (hb_nil ?_)
                exact hZ _ _ _ ⟨rfl, rfl, rfl⟩
              · refine ho_if_f rfl (hb_nil ?_)
                exact hZ _ _ _ ⟨rfl, rfl, rfl⟩
            · rintro f m' n' ⟨rfl, rfl, rfl⟩
              clear hF hch
              refine kt_next (ho_frame ?_)
              intro us
              refine hb_cons (hx_asg (he_bin (he_lv lv_law_words rfl (he_int fun ant0 => ho_add fun ant1 => ho_sv lv_law_words rfl (kt_next (hb_cons (hx_for (he_lv lv_law_lives rfl (pi_list (.tail _ (.tail _ (.tail _ (.tail _ (.tail _ (.tail _ (.tail _ (.head _)))))))) fun I2 oi2 hI2 hoi2 => hl_listPT (vs := svs) (kk := 0) (LI3 w sps sc f0 sa u0 pd q0 D cx cdx cr (.int (1 + r2) pt0) kv (.int (10 + wt) bt0) (.int nw u6) (.int many u7) (.str (Str.ofString "closing") ct4) (.int (nw + 3 * (10 + wt)) ct5) (.int (i : Int) v1) (.int (nr i) v2) (.int (wd + 1) ant1) (.int (i : Int) v3) wd i (I, o) (D, lstO ws k) (q0, lstO [.int ar1 u8, .int ar2 u9] 0) (u0, tupO fvs) (sa, lstO svs 0)) hR.hh hoi2 ?_ ⟨pre, po, kvs, x7, x8, x9, hpo, by omega, by simp, hpls⟩ ?_ ?_)))))))))
              · rintro j m nn ⟨pre, po, kvs, x7, x8, x9, _, _, _, _⟩
                exact .tail _ (.tail _ (.tail _ (.tail _ (.tail _ (.tail _ (.tail _ (.head _)))))))
              · rintro j v m nn oi Z hvj ⟨pre, po, kvs, x7, x8, x9, hpo, hkl, hpt, hpd⟩ hZ
                obtain ⟨sp, t', hspj, rfl⟩ := hsp.at hvj
                have hjl : j < sps.length := (List.getElem?_eq_some_iff.mp hspj).1
                have et : sps.take (j + 1) = sps.take j ++ [sp] := by rw [List.take_add_one, hspj]; rfl
                have ed : sps.drop j = sp :: sps.drop (j + 1) := by rw [List.drop_eq_getElem_cons hjl, (List.getElem?_eq_some_iff.mp hspj).2]
                obtain ⟨pt, tpt, num, ap, av, hva, hptm, hrw, hn0, hn1⟩ := hpd sp (by rw [ed]; exact .head _)
                refine ho_frame ?_
                intro us
                refine ho_ledger ?_
                intro nl
                refine hs_name (ho_sv lv_law_space rfl (hb_cons (hx_asgS (he_tup (ha_cons (he_bin (he_sub (he_sub (he_lv lv_law_places rfl (he_lv lv_law_space rfl (ho_dget (by ktr_rel) (by assumption) (by assumption) ?_)))))))))))
                refine he_int fun aot0 => ho_ti (by ktr_rel) (by ktr_room) (by ktr_room) rfl rfl ?_
                refine he_int fun aot1 => ho_add fun aot2 => ha_cons (he_sub (he_sub (he_lv lv_law_places rfl (he_lv lv_law_space rfl (ho_dget (by ktr_rel) (by assumption) (by assumption) ?_)))))
                refine he_int fun aot3 => ho_ti (by ktr_rel) (by ktr_room) (by ktr_room) rfl rfl ?_
                refine ha_nil (And.intro (Nat.le_of_ble_eq_true rfl) fun ao0 hao0 => he_lv lv_law_places rfl (he_lv lv_law_space rfl (ho_dset (by ktr_unf) hpo (by omega) fun po2 hpo2 => ?_)))
                refine kt_next (hb_nil (hZ _ _ _ (turnP_next _ _ (.refl _) ((List.perm_middle (l₁ := [(I2, oi), (cx, instObj 101 cdx), _, (I, o), (D, lstO ws k), (q0, lstO [.int ar1 u8, .int ar2 u9] 0), (pd, po2), (u0, tupO fvs), (sa, lstO svs 0)])).symm) ⟨(ao0, tupO [.int (num + 1) aot2, av]) :: pre, po2, _, _, _, _, hpo2, Nat.le_trans (stored_len _ _ _) (by omega), ?_, ?_⟩)))
                · rw [et]
                  intro sq hsq
                  rcases List.mem_append.mp hsq with hsq | hsq
                  · exact ((hpt sq hsq).mono fun p hp => .tail _ hp).other (take_mem_lt hnd hspj hsq)
                  · rw [List.mem_singleton.mp hsq]
                    refine ⟨ao0, aot2, num + 1, ap + 1, av, by rw [valueAt_stored, if_pos rfl], .head _, ?_, by omega, by omega⟩
                    rcases hrw with ⟨h1, h2⟩ | ⟨e, t, h1, h2, h3, h4, h5⟩
                    · exact .inl ⟨h1, by omega⟩
                    · exact .inr ⟨e, t, h1, by omega, h3, by omega, by omega⟩
                · intro sq hsq
                  exact ((hpd sq (by rw [ed]; exact .tail _ hsq)).mono fun p hp => .tail _ hp).other (drop_mem_gt hnd hspj hsq)
              · rintro m nn ⟨pre, po, kvs, x7, x8, x9, hpo, hkl, hpt, hpd⟩
                rw [hsl, List.take_length] at hpt
                refine kt_next (hb_nil ?_)
                exact hT _ _ _ (turnP_next _ _ (.refl _) (List.perm_middle (l₁ := [_, _])) ⟨pre, po, kvs, wd + 1, x7, x8, x9, _, _, _, _, hpo, by omega, by omega, by omega, hpt⟩)
          · exact kt_cont (hT _ _ _ (turnP_cont _ _ hsub (List.perm_middle (l₁ := [_, _])) ⟨pre, po, kvs, wd, x7, x8, x9, _, _, _, _, hpo, by omega, hwd0, by omega, hpls⟩))
      · rintro m nn ⟨pre, po, kvs, wd, x7, x8, x9, x18, tt1, tt2, tt3, hpo, hkl, hwd0, hwd1, hpls⟩
        refine kt_next (ho_frame ?_)
        intro us
        refine ho_ledger ?_
        intro nl
        refine hb_cons (hx_asg (he_bin (he_lv lv_law_now rfl (he_bin (he_int fun yt0 => he_lv lv_law_wait rfl (ho_mul (by tb_start) fun yt1 => ho_add fun yt2 => ho_sv lv_law_end rfl (kt_next (hb_cons (hx_if (ht_or (ht_cmp (he_meth (he_lv lv_law_closing rfl (hm_inst G (mt_Closing_next_time w).1 (mt_Closing_next_time w).2.1 (mt_Closing_next_time w).2.2 (by ktr_rel) (by ktr_rel) dm_Closing_next_time ?_))))))))))))))
        refine hc_def0 G (by tb_start) (S_next_time G (hR.le (by omega)) rfl (he_lv lv_law_end rfl (ho_neI (ho_tb (ho_if_f (bne_eq_false_iff_eq.mpr (by omega)) (ht_or (ht_val (he_meth (he_lv lv_law_closing rfl (hm_inst G (mt_Closing_on_time w).1 (mt_Closing_on_time w).2.1 (mt_Closing_on_time w).2.2 (by ktr_rel) (by ktr_rel) dm_Closing_on_time ?_))))))))))
        refine hc_def G (by tb_start) (ha_cons (he_bin (he_lv lv_law_end rfl (he_int fun zt0 => ho_sub fun zt1 => ha_nil (S_on_time0 G (hR.le (by omega)) (by omega) (ho_tb (ho_if_f rfl (ht_or (ht_not (ht_val (he_meth (he_lv lv_law_closing rfl (hm_inst G (mt_Closing_on_time w).1 (mt_Closing_on_time w).2.1 (mt_Closing_on_time w).2.2 (by ktr_rel) (by ktr_rel) dm_Closing_on_time ?_)))))))))))))
        refine hc_def G (by tb_start) (ha_cons (he_lv lv_law_end rfl (ha_nil (S_on_time1 G (hR.le (by omega)) (Int.le_refl _) fun ct6 => ho_tb (ho_if_f (by tb_rel) ?_)))))
        refine ht_or0 (ho_if_f rfl (hb_nil (kt_next (hb_cons (hx_ret (he_and (he_not ?_)))))))
        refine he_meth (he_lv lv_law_closing rfl (hm_inst G (mt_Closing_on_packet w).1 (mt_Closing_on_packet w).2.1 (mt_Closing_on_packet w).2.2 (by ktr_rel) (by ktr_rel) dm_Closing_on_packet ?_))
        refine hc_def0 G (by tb_start) (S_on_packet0 G (hR.le (by omega)) (by decide +kernel) (ho_notB ?_))
        refine ho_tb (ho_if_t (by tb_rel) ?_)
        refine he_bool1 (he_cmp (he_meth (he_lv lv_law_closing rfl (hm_inst G (mt_Closing_next_time w).1 (mt_Closing_next_time w).2.1 (mt_Closing_next_time w).2.2 (by ktr_rel) (by ktr_rel) dm_Closing_next_time ?_))))
        refine hc_def0 G (by tb_start) (S_next_time G (hR.le (by omega)) rfl (he_none (ho_isO (kt_ret ?_))))
        rfl
end
theorem gl_law (w : World) : nsIn (Kw w) mainGlobals (Str.ofString "law") = some (some (.ref 649)) := by
  show nsIn (hd.heap_1 w.params) _ _ = _
  k_is
end Mine
theorem PySem.Challenge.cw_tk0105_01_holds : PySem.Challenge.rw_tk0105_01.Holds := by
  refine Mine.hd ⟨Mine.gLeft (fun w os => by kernel_rfl), ?_⟩
  intro w s₀ s₁ mg mb G Y fa o pm cd doc dV kV ho hd' hcd hD hmg hg args vals as hpre hlay hrd hwl hlo
  have KX := kIn_of Y
  have GK : Mine.Gk w s₁.heap := ⟨KX, mg, mb, topRead_of G.T⟩
  have hfa : mg (Str.ofString "law") = some (.ref 649) := mg_of KX G.T.g (Mine.gl_law w)
  have hfa2 : Value.ref fa = Value.ref 649 := by
    have : some (Value.ref fa) = some (Value.ref 649) := hmg.symm.trans hfa
    exact Option.some.inj this
  cases hfa2
  clear hmg hfa hd' ho hcd hD Y
  wrow_args hpre hlay hrd hwl hlo
  rename_i ns _ _ _ _ _ as1 as2 sc xs as3 hL ra w1 r0 hI hr hlen _
  refine Mine.S_law_walk GK hL (by simpa using hI) (by have := hI.length; simp only [List.size_toArray]; omega) fun h' tk' hk => ?_
  exact ⟨.inl ⟨.bool true, .bool true, [], rfl, fun _ => rfl, .bool true, by wrow_post, fun _ => ⟨.nil, fun a ha => by cases ha⟩⟩, OldK.of_keep hk, rfl, AllBare.of_eq hg⟩
